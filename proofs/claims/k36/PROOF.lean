import PyProof.Rows.All
import Wide.All
import OpenK.AllK
import Wide.FinOn
import KE.KStateDown
import Lean
import HandS.ForMost
import HandS.Exc
import HandS.TryOnly
import HandS.ExcOwn
import HandS.WordsExc
import HandS.ExcIs
import HandS.More
import HandS.Defaults
import HandS.IsInst
import HandS.Flow
import HandS.Steps
import HandS.Wide
import HandS.Deep
import HandS.Codes
import HandS.Zip
import HandS.Strs
import HandS.Conv
import HandS.SetFor
import HandS.SortInts
import HandS.Head0
import HandS.Head1
import HandS.Head2
import HandS.HeadEnd
import HandS.HeadHook1
import HandS.HeadHook2
import HandS.HeadHook3
import HandS.HeadHook4
import HandS.ExcField
import HandS.ExcInit
import HandS.Style
import PySem.Challenge.RW_susu_k36_reports_judged
set_option Elab.async false
set_option linter.all false
set_option maxRecDepth 100000
set_option maxHeartbeats 4000000
namespace Su
open PySem L2

abbrev rAdd : R2 := rI0 fun i j => .int (i + j)
abbrev rSub : R2 := rI0 fun i j => .int (i - j)
abbrev rMul : R2 := rI CMul fun i j => .int (i * j)
abbrev rDiv : R2 := rI CDiv fun i j => .int (i / j)
abbrev rDivW : R2 := rI CDivW fun i j => .int (i / j)
abbrev rMod : R2 := rI (fun _ j => 0 < j) fun i j => .int (i % j)
abbrev rPow : R2 := rI CPow fun i j => .int (i ^ j.toNat)
abbrev rLt : R2 := rI0 fun i j => .bl (decide (i < j))
abbrev rLe : R2 := rI0 fun i j => .bl (decide (i ≤ j))
abbrev rNeg : V → Hp → VK → Prop := rU fun i => .int (-i)
abbrev CR : Type := List V → Hp → VK → Prop
abbrev rLenSeq (K : PySem.W.Frag) : CR := fun xs H Q => ∃ p ys, xs = [.ref p] ∧ (SqL K H p ys ∨ SqT K H p ys) ∧ Q (.int ys.length) H
abbrev rAbs : CR := fun xs H Q => ∃ i, xs = [.int i] ∧ Q (.int (if i < 0 then -i else i)) H
abbrev rMax2 : CR := fun xs H Q => ∃ i j, xs = [.int i, .int j] ∧ Q (.int (if j > i then j else i)) H
abbrev rMin2 : CR := fun xs H Q => ∃ i j, xs = [.int i, .int j] ∧ Q (.int (if j < i then j else i)) H
abbrev rInt1 : CR := fun xs H Q => (∃ i, xs = [.int i] ∧ Q (.int i) H) ∨ ∃ k, xs = [.bl k] ∧ Q (.int (if k then 1 else 0)) H
abbrev rListOf (K : PySem.W.Frag) : CR := fun xs H Q => ∃ p ys, xs = [.ref p] ∧ (SqL K H p ys ∨ SqT K H p ys) ∧ ∀ l, H l = none → Q (.ref l) (upd H l (.lst ys))
abbrev rTupleOf (K : PySem.W.Frag) : CR := fun xs H Q => ∃ p ys, xs = [.ref p] ∧ ((SqL K H p ys ∧ ∀ l, H l = none → Q (.ref l) (upd H l (.tup ys))) ∨ (SqT K H p ys ∧ Q (.ref p) H))
abbrev MR : Type := V → List V → Hp → VK → Prop
abbrev rAppend : MR := fun x vs H Q => ∃ (l : Addr) (xs : List V) (y : V), x = .ref l ∧ vs = [y] ∧ H l = some (.lst xs) ∧ xs.length < sizeLine ∧ Q .non (upd H l (.lst (xs ++ [y])))
abbrev rInsert : MR := fun x vs H Q => ∃ (l : Addr) (xs : List V) (i : Int) (y : V), x = .ref l ∧ vs = [.int i, y] ∧ H l = some (.lst xs) ∧ xs.length < sizeLine ∧ 0 ≤ i ∧ i < 2 ^ 63 ∧ Q .non (upd H l (.lst (xs.take i.toNat ++ [y] ++ xs.drop i.toNat)))

theorem b_len : bootBuiltins "len" = some (.builtin "len") := by decide +kernel
theorem b_abs : bootBuiltins "abs" = some (.builtin "abs") := by decide +kernel
theorem b_max : bootBuiltins "max" = some (.builtin "max") := by decide +kernel
theorem b_all : bootBuiltins "all" = some (.builtin "all") := by decide +kernel
theorem b_sorted : bootBuiltins "sorted" = some (.builtin "sorted") := by decide +kernel
theorem b_isinstance : bootBuiltins "isinstance" = some (.builtin "isinstance") := by decide +kernel
theorem b_int : bootBuiltins "int" = some (.type "int") := by decide +kernel
theorem b_bool : bootBuiltins "bool" = some (.type "bool") := by decide +kernel
theorem b_str : bootBuiltins "str" = some (.type "str") := by decide +kernel
theorem b_list : bootBuiltins "list" = some (.type "list") := by decide +kernel
theorem b_tuple : bootBuiltins "tuple" = some (.type "tuple") := by decide +kernel
/-- a def of the module that may be called by its name -/
structure Cl (P : Program) (w : World) (K : PySem.W.Frag) (mg : Str → Option Value) (base : Heap) (CX : CXT) (k : Nat) (x : Str) (sp : Sp) : Prop where
  ex : ∃ (f : Addr) (fd : FuncData) (ps : List Str), mg x = some (.ref f) ∧ PySem.W.keepIn K (.ref f) = true ∧ Binds K fd ps [] ∧ FnOk P w K mg base CX k f fd ps sp
section
variable {X : Cx} {CX : CXT} {k j : Nat} {x : Str} {sp : Sp} {E : XK} {e : Expr} {es : List Expr} {t : TA} {p pos : Pos}
theorem pe_cl (c : Cl X.prog X.w X.K X.mg X.base CX k x sp) (hr : Room j X.A) (hk : k ≤ j) (hg : Gl X x) (hx : Passes CX X E) (ha : PA X (e :: es) t)
    (hdb : (x == ("__debug__" : Str)) = false := by decide) (he : starEach (e :: es) X.env = (false, eval e X.env) :: starEach es X.env := by rfl) (hpl : (backTo pos (starEach es X.env)).any (·.1) = false := by rfl) : PE X (.Call (.Name x p) (e :: es) [] pos) (tCall sp [] E t) := by
  obtain ⟨f, fd, ps, h1, h2, h3, h4⟩ := c.ex
  exact pe_call h4 (hr.mono hk) hg h1 h2 h3 .nil hx ha hdb he hpl
end

/-! ### the readings, step by step -/
section
variable {K : PySem.W.Frag} {t1 t2 : TS} {te ta tb tc : TE} {tt tu : TT} {a1 a2 : TA} {D : Ends} {σ : St} {H : Hp} {Q : VK} {Qb : Bool → Hp → Prop} {Qa : List V → Hp → Prop} {g : TG} {v w x y : V} {n i : Nat}
theorem x_seq (h : t1 { D with nx := t2 D } σ H) : tSeq t1 t2 D σ H := h
theorem x_next (h : D.nx σ H) : tNext D σ H := h
theorem x_ret (h : te σ H D.rt) : tRet te D σ H := h
theorem x_retN (h : D.rt .non H) : tRetN D σ H := h
theorem x_brk (h : D.bk σ H) : tBreak D σ H := h
theorem x_drop (h : te σ H fun _ H1 => D.nx σ H1) : tDrop te D σ H := h
theorem x_asg (h : te σ H fun x H1 => g x σ H1 D.nx) : tAsg te g D σ H := h
theorem x_gname {Qs : St → Hp → Prop} (h : Qs (σ.set i (some v)) H) : gName i v σ H Qs := h
theorem x_ifS (h : tt σ H fun b H1 => if b = true then t1 D σ H1 else t2 D σ H1) : tIfS tt t1 t2 D σ H := h
theorem x_var (e : σ[i]? = some (some v)) (h : Q v H) : tVar i σ H Q := ⟨v, e, h⟩
theorem x_c (h : Q v H) : tC v σ H Q := h
theorem x_op {r : R2} (h : ta σ H fun x H1 => tb σ H1 fun y H2 => r x y H2 Q) : tOp r ta tb σ H Q := h
theorem x_un {r : V → Hp → VK → Prop} (h : ta σ H fun x H1 => r x H1 Q) : tUn r ta σ H Q := h
theorem x_rU {g : Int → V} {i : Int} (h : Q (g i) H) : rU g (.int i) H Q := ⟨i, rfl, h⟩
theorem x_rI0 {g : Int → Int → V} {i j : Int} (h : Q (g i j) H) : rI0 g (.int i) (.int j) H Q := ⟨i, j, rfl, rfl, h⟩
theorem x_rI {C : Int → Int → Prop} {g : Int → Int → V} {i j : Int} (c : C i j) (h : Q (g i j) H) : rI C g (.int i) (.int j) H Q := ⟨i, j, rfl, rfl, c, h⟩
theorem x_eqI {i j : Int} (h : Q (.bl (decide (i = j))) H) : rEq (.int i) (.int j) H Q := ⟨rfl, by
  have e : decide (V.int i = V.int j) = decide (i = j) := by simp
  rw [e]; exact h⟩
theorem x_neI {i j : Int} (h : Q (.bl (!decide (i = j))) H) : rNe (.int i) (.int j) H Q := ⟨rfl, by
  have e : decide (V.int i = V.int j) = decide (i = j) := by simp
  rw [e]; exact h⟩
theorem x_eqS {i j : Str} (h : Q (.bl (decide (i = j))) H) : rEq (.str i) (.str j) H Q := ⟨rfl, by
  have e : decide (V.str i = V.str j) = decide (i = j) := by simp
  rw [e]; exact h⟩
theorem x_neS {i j : Str} (h : Q (.bl (!decide (i = j))) H) : rNe (.str i) (.str j) H Q := ⟨rfl, by
  have e : decide (V.str i = V.str j) = decide (i = j) := by simp
  rw [e]; exact h⟩
theorem x_eqB {i j : Bool} (h : Q (.bl (decide (i = j))) H) : rEq (.bl i) (.bl j) H Q := ⟨rfl, by
  have e : decide (V.bl i = V.bl j) = decide (i = j) := by simp
  rw [e]; exact h⟩
theorem x_neB {i j : Bool} (h : Q (.bl (!decide (i = j))) H) : rNe (.bl i) (.bl j) H Q := ⟨rfl, by
  have e : decide (V.bl i = V.bl j) = decide (i = j) := by simp
  rw [e]; exact h⟩
theorem x_test (h : te σ H fun x H' => ∃ k, x = .bl k ∧ Qb k H') : tTest te σ H Qb := h
theorem x_tB (h : te σ H fun x H' => ∃ k, x = .bl k ∧ Qb k H') : tB te σ H Qb := h
theorem x_isB {k : Bool} (h : Qb k H) : ∃ k', V.bl k = .bl k' ∧ Qb k' H := ⟨k, rfl, h⟩
theorem x_isB' {k : Bool} {P : Bool → Prop} (h : P k) : ∃ k', V.bl k = .bl k' ∧ P k' := ⟨k, rfl, h⟩
theorem x_not (h : tt σ H fun c H1 => Qb (!c) H1) : tNot tt σ H Qb := h
theorem x_and (h : tt σ H fun c H1 => if c = true then tu σ H1 Qb else Qb false H1) : tAnd tt tu σ H Qb := h
theorem x_or (h : tt σ H fun c H1 => if c = true then Qb true H1 else tu σ H1 Qb) : tOr tt tu σ H Qb := h
theorem x_andV (h : ta σ H fun x H1 => ∃ c, x = .bl c ∧ if c = true then tb σ H1 Q else Q (.bl false) H1) : tAndV ta tb σ H Q := h
theorem x_orV (h : ta σ H fun x H1 => ∃ c, x = .bl c ∧ if c = true then Q (.bl true) H1 else tb σ H1 Q) : tOrV ta tb σ H Q := h
theorem x_notV (h : ta σ H fun x H1 => ∃ c, x = .bl c ∧ Q (.bl (!c)) H1) : tNotV ta σ H Q := h
theorem x_chain {r r' : R2} (h : ta σ H fun x H1 => tb σ H1 fun y H2 => r x y H2 fun z H3 => ∃ k, z = .bl k ∧ (if k = true then tc σ H3 fun w' H4 => r' y w' H4 Q else Q (.bl false) H3)) : tChain r r' ta tb tc σ H Q := h
theorem x_nil (h : Qa [] H) : tNil σ H Qa := h
theorem x_cons (h : ta σ H fun x H1 => a1 σ H1 fun xs H2 => Qa (x :: xs) H2) : tCons ta a1 σ H Qa := h
theorem x_cb {r : CR} (h : a1 σ H fun vs H1 => r vs H1 Q) : tCB r a1 σ H Q := h
theorem x_call {sp : Sp} {E : XK} (h : a1 σ H fun vs H1 => sp (vs ++ []) H1 Q E) : tCall sp [] E a1 σ H Q := h
def AlL (Q : VK) (xs : List V) (H : Hp) : Prop := xs.length ≤ sizeLine ∧ ∀ p, H p = none → Q (.ref p) (upd H p (.lst xs))
def AlT (Q : VK) (xs : List V) (H : Hp) : Prop := xs.length ≤ sizeLine ∧ ∀ p, H p = none → Q (.ref p) (upd H p (.tup xs))
theorem x_lst (h : a1 σ H (AlL Q)) : tLst a1 σ H Q := h
theorem x_tup (h : a1 σ H (AlT Q)) : tTup a1 σ H Q := h
theorem x_abs {i : Int} (h : Q (.int (if i < 0 then -i else i)) H) : rAbs [.int i] H Q := ⟨i, rfl, h⟩
theorem x_max2 {i j : Int} (h : Q (.int (if j > i then j else i)) H) : rMax2 [.int i, .int j] H Q := ⟨i, j, rfl, h⟩
theorem x_min2 {i j : Int} (h : Q (.int (if j < i then j else i)) H) : rMin2 [.int i, .int j] H Q := ⟨i, j, rfl, h⟩
theorem x_int1 {i : Int} (h : Q (.int i) H) : rInt1 [.int i] H Q := .inl ⟨i, rfl, h⟩
theorem x_intB {k : Bool} (h : Q (.int (if k then 1 else 0)) H) : rInt1 [.bl k] H Q := .inr ⟨k, rfl, h⟩
theorem x_lenL {p : Addr} {ys : List V} (e : SqL K H p ys) (h : Q (.int ys.length) H) : rLenSeq K [.ref p] H Q := ⟨p, ys, rfl, .inl e, h⟩
theorem x_lenT {p : Addr} {ys : List V} (e : SqT K H p ys) (h : Q (.int ys.length) H) : rLenSeq K [.ref p] H Q := ⟨p, ys, rfl, .inr e, h⟩
theorem x_ixL {p : Addr} {xs : List V} {i : Int} (e : SqL K H p xs) (z : atI xs i = some v) (h : Q v H) : rIxL K (.ref p) (.int i) H Q := ⟨p, xs, i, v, rfl, rfl, e, z, h⟩
theorem x_ixT {p : Addr} {xs : List V} {i : Int} (e : SqT K H p xs) (z : atI xs i = some v) (h : Q v H) : rIxT K (.ref p) (.int i) H Q := ⟨p, xs, i, v, rfl, rfl, e, z, h⟩
theorem x_append {p : Addr} {xs : List V} (e : H p = some (.lst xs)) (z : xs.length < sizeLine) (h : Q .non (upd H p (.lst (xs ++ [v])))) : rAppend (.ref p) [v] H Q := ⟨p, xs, v, rfl, rfl, e, z, h⟩
theorem x_bmL {r : MR} {to : TE} (h : to σ H fun x H1 => tyV K "list" x H1 ∧ a1 σ H1 fun xs H2 => r x xs H2 Q) : tBM K "list" r to a1 σ H Q := h
theorem tyL {p : Addr} {xs : List V} (e : SqL K H p xs) : tyV K "list" (.ref p) H := .inl ⟨rfl, _, e⟩
theorem SqL.of {p : Addr} {xs : List V} (e : H p = some (.lst xs)) : SqL K H p xs := .inl (.inl e)
theorem SqT.of {p : Addr} {xs : List V} (e : H p = some (.tup xs)) : SqT K H p xs := .inl (.inl e)
theorem x_listOf {p : Addr} {ys : List V} (e : SqL K H p ys) (h : ∀ l, H l = none → Q (.ref l) (upd H l (.lst ys))) : rListOf K [.ref p] H Q := ⟨p, ys, rfl, .inl e, h⟩
theorem x_isi {c : V} {t u : Value} {b : Bool} (h1 : ClsV c u) (h2 : TyX K H x t) (h3 : PySem.W.kitOne K t u = some b) (h : Q (.bl b) H) : rIsi K [x, c] H Q := ⟨x, c, t, u, b, rfl, h1, h2, h3, h⟩
theorem x_ite {b : Bool} {A B : Prop} (h1 : b = true → A) (h2 : b = false → B) : if b = true then A else B := by
  cases b
  · exact (if_neg Bool.false_ne_true).symm ▸ h2 rfl
  · exact (if_pos rfl).symm ▸ h1 rfl
theorem x_iteD {c A B : Prop} {inst : Decidable c} (h1 : c → A) (h2 : ¬ c → B) : if decide c = true then A else B := x_ite (fun e => h1 (of_decide_eq_true e)) (fun e => h2 (of_decide_eq_false e))
theorem x_iteN {c A B : Prop} {inst : Decidable c} (h1 : ¬ c → A) (h2 : c → B) : if (!decide c) = true then A else B := x_ite (fun e => h1 (by simpa using e)) (fun e => h2 (by simpa using e))
theorem x_whileN {tb : TS} {W : Nat → St → Hp → Prop} {m : Nat} (h : tb { D with nx := (fun σ' H' => ∃ m', m' < m ∧ W m' σ' H'), ct := (fun σ' H' => ∃ m', m' < m ∧ W m' σ' H'), bk := D.nx } σ H) :
    ∃ N : St → Hp → Prop, (∀ σ' H', N σ' H' → ∃ m', m' < m ∧ W m' σ' H') ∧ tb { D with nx := N, ct := N, bk := D.nx } σ H := ⟨_, fun _ _ h => h, h⟩
theorem x_for {wi : TI} {tb : TS} (h : wi σ H fun J H1 => ∃ W : Nat → Nat → St → Hp → Prop, (∃ m, W 0 m σ H1) ∧ ∀ i m σ H, W i m σ H →
    (J.stop i H ∧ D.nx σ H) ∨ (J.go i H ∧ ∃ N : St → Hp → Prop, (∀ σ' H', N σ' H' → ∃ m', m' < m ∧ W (i + 1) m' σ' H') ∧ ∀ x H', J.yld i H x H' → g x σ H' fun σ2 H2 => tb { D with nx := N, ct := N, bk := D.nx } σ2 H2)) : tFor wi g tb D σ H := h
theorem x_iList {R : It → Hp → Prop} (h : te σ H fun x H1 => ∃ a, x = .ref a ∧ (∃ xs, SqL K H1 a xs) ∧ R (Itl K a) H1) : iList K te σ H R := h
theorem x_iRng1 {R : It → Hp → Prop} (h : a1 σ H fun vs H1 => ∃ j : Int, vs = [.int j] ∧ -(2 ^ 62) ≤ j ∧ j < 2 ^ 62 ∧ R (Itr 0 j.toNat) H1) : iRng1 a1 σ H R := h
theorem x_iRng2 {R : It → Hp → Prop} (h : a1 σ H fun vs H1 => ∃ i j : Int, vs = [.int i, .int j] ∧ (-(2 ^ 62) ≤ i ∧ i < 2 ^ 62 ∧ -(2 ^ 62) ≤ j ∧ j < 2 ^ 62) ∧ R (Itr i (j - i).toNat) H1) : iRng2 a1 σ H R := h
theorem x_rGt {i j : Int} (h : Q (.bl (decide (j < i))) H) : rGt (.int i) (.int j) H Q := ⟨i, j, rfl, rfl, h⟩
theorem x_rGe {i j : Int} (h : Q (.bl (decide (j ≤ i))) H) : rGe (.int i) (.int j) H Q := ⟨i, j, rfl, rfl, h⟩
theorem x_iteF {A B : Prop} (h : B) : if false = true then A else B := iteF h
theorem x_iteT {A B : Prop} (h : A) : if true = true then A else B := iteT h
theorem x_iteNT {A B : Prop} (h : B) : if (!true) = true then A else B := iteF h
theorem x_iteNF {A B : Prop} (h : A) : if (!false) = true then A else B := iteT h
theorem small {n : Nat} (h : n ≤ 100000) : n < sizeLine := Nat.lt_of_le_of_lt h (by rw [sizeLine_eq]; decide)
theorem at_get {α : Type} {xs : List α} {i : Int} {d : α} (h0 : 0 ≤ i) (h1 : i < xs.length) : atI xs i = some (xs.getD i.toNat d) := by
  have h2 : i.toNat < xs.length := by omega
  unfold atI ixN
  rw [if_pos h0, if_pos h1]
  show xs[i.toNat]? = _
  rw [List.getElem?_eq_getElem h2, List.getD_eq_getElem?_getD, List.getElem?_eq_getElem h2]
  rfl
theorem at_getI {xs : List Int} {i : Int} (h0 : 0 ≤ i) (h1 : i < xs.length) : atI (xs.map V.int) i = some (.int (xs.getD i.toNat 0)) := by
  have h2 : i.toNat < xs.length := by omega
  rw [at_get (d := .int 0) h0 (by rw [List.length_map]; exact h1), List.getD_eq_getElem?_getD, List.getD_eq_getElem?_getD, List.getElem?_map, List.getElem?_eq_getElem h2]
  rfl
theorem x_ixI {p : Addr} {xs : List Int} {i : Int} (e : H p = some (.lst (xs.map V.int))) (h0 : 0 ≤ i) (h1 : i < xs.length) (h : Q (.int (xs.getD i.toNat 0)) H) : rIxL K (.ref p) (.int i) H Q := x_ixL (SqL.of e) (at_getI h0 h1) h
theorem x_cut {t u : TS} (M : St → Hp → Prop) (h : t { D with nx := M } σ H) (k : ∀ σ' H', M σ' H' → u D σ' H') : C8.tCut t u D σ H := ⟨M, h, k⟩
theorem kt_int_int : kitB "int" "int" = some true := by decide +kernel
theorem kt_int_bool : kitB "int" "bool" = some false := by decide +kernel
theorem kt_int_str : kitB "int" "str" = some false := by decide +kernel
theorem kt_int_list : kitB "int" "list" = some false := by decide +kernel
theorem kt_int_tuple : kitB "int" "tuple" = some false := by decide +kernel
theorem kt_bool_int : kitB "bool" "int" = some true := by decide +kernel
theorem kt_bool_bool : kitB "bool" "bool" = some true := by decide +kernel
theorem kt_bool_str : kitB "bool" "str" = some false := by decide +kernel
theorem kt_bool_list : kitB "bool" "list" = some false := by decide +kernel
theorem kt_bool_tuple : kitB "bool" "tuple" = some false := by decide +kernel
theorem kt_str_int : kitB "str" "int" = some false := by decide +kernel
theorem kt_str_bool : kitB "str" "bool" = some false := by decide +kernel
theorem kt_str_str : kitB "str" "str" = some true := by decide +kernel
theorem kt_str_list : kitB "str" "list" = some false := by decide +kernel
theorem kt_str_tuple : kitB "str" "tuple" = some false := by decide +kernel
theorem kt_NoneType_int : kitB "NoneType" "int" = some false := by decide +kernel
theorem kt_NoneType_bool : kitB "NoneType" "bool" = some false := by decide +kernel
theorem kt_NoneType_str : kitB "NoneType" "str" = some false := by decide +kernel
theorem kt_NoneType_list : kitB "NoneType" "list" = some false := by decide +kernel
theorem kt_NoneType_tuple : kitB "NoneType" "tuple" = some false := by decide +kernel
theorem kt_list_int : kitB "list" "int" = some false := by decide +kernel
theorem kt_list_bool : kitB "list" "bool" = some false := by decide +kernel
theorem kt_list_str : kitB "list" "str" = some false := by decide +kernel
theorem kt_list_list : kitB "list" "list" = some true := by decide +kernel
theorem kt_list_tuple : kitB "list" "tuple" = some false := by decide +kernel
theorem kt_tuple_int : kitB "tuple" "int" = some false := by decide +kernel
theorem kt_tuple_bool : kitB "tuple" "bool" = some false := by decide +kernel
theorem kt_tuple_str : kitB "tuple" "str" = some false := by decide +kernel
theorem kt_tuple_list : kitB "tuple" "list" = some false := by decide +kernel
theorem kt_tuple_tuple : kitB "tuple" "tuple" = some true := by decide +kernel
theorem ty_lst {a : Addr} {xs : List V} (e : SqL K H a xs) : TyX K H (.ref a) (.type "list") := by
  rcases e with (h | ⟨o, h⟩) | ⟨o, n, us, h1, h2, h3, _⟩
  · exact .base (.lst h)
  · exact .base (.frz h)
  · exact .kList h1 h2
theorem ty_tup {a : Addr} {xs : List V} (e : SqT K H a xs) : TyX K H (.ref a) (.type "tuple") := by
  rcases e with (h | ⟨o, h⟩) | ⟨o, n, us, h1, h2, h3, _⟩
  · exact .base (.tup h)
  · exact .fTuple h
  · exact .kTuple h1 h2
theorem x_isi_int_int {i : Int} (q : Q (.bl true) H) : rIsi K [(.int i), .ty "int"] H Q := x_isi (.ty _) (.base (.int _)) (kit_ty kt_int_int) q
theorem x_isi_int_bool {i : Int} (q : Q (.bl false) H) : rIsi K [(.int i), .ty "bool"] H Q := x_isi (.ty _) (.base (.int _)) (kit_ty kt_int_bool) q
theorem x_isi_int_str {i : Int} (q : Q (.bl false) H) : rIsi K [(.int i), .ty "str"] H Q := x_isi (.ty _) (.base (.int _)) (kit_ty kt_int_str) q
theorem x_isi_int_list {i : Int} (q : Q (.bl false) H) : rIsi K [(.int i), .ty "list"] H Q := x_isi (.ty _) (.base (.int _)) (kit_ty kt_int_list) q
theorem x_isi_int_tuple {i : Int} (q : Q (.bl false) H) : rIsi K [(.int i), .ty "tuple"] H Q := x_isi (.ty _) (.base (.int _)) (kit_ty kt_int_tuple) q
theorem x_isi_bool_int {i : Bool} (q : Q (.bl true) H) : rIsi K [(.bl i), .ty "int"] H Q := x_isi (.ty _) (.base (.bl _)) (kit_ty kt_bool_int) q
theorem x_isi_bool_bool {i : Bool} (q : Q (.bl true) H) : rIsi K [(.bl i), .ty "bool"] H Q := x_isi (.ty _) (.base (.bl _)) (kit_ty kt_bool_bool) q
theorem x_isi_bool_str {i : Bool} (q : Q (.bl false) H) : rIsi K [(.bl i), .ty "str"] H Q := x_isi (.ty _) (.base (.bl _)) (kit_ty kt_bool_str) q
theorem x_isi_bool_list {i : Bool} (q : Q (.bl false) H) : rIsi K [(.bl i), .ty "list"] H Q := x_isi (.ty _) (.base (.bl _)) (kit_ty kt_bool_list) q
theorem x_isi_bool_tuple {i : Bool} (q : Q (.bl false) H) : rIsi K [(.bl i), .ty "tuple"] H Q := x_isi (.ty _) (.base (.bl _)) (kit_ty kt_bool_tuple) q
theorem x_isi_str_int {i : Str} (q : Q (.bl false) H) : rIsi K [(.str i), .ty "int"] H Q := x_isi (.ty _) (.base (.str _)) (kit_ty kt_str_int) q
theorem x_isi_str_bool {i : Str} (q : Q (.bl false) H) : rIsi K [(.str i), .ty "bool"] H Q := x_isi (.ty _) (.base (.str _)) (kit_ty kt_str_bool) q
theorem x_isi_str_str {i : Str} (q : Q (.bl true) H) : rIsi K [(.str i), .ty "str"] H Q := x_isi (.ty _) (.base (.str _)) (kit_ty kt_str_str) q
theorem x_isi_str_list {i : Str} (q : Q (.bl false) H) : rIsi K [(.str i), .ty "list"] H Q := x_isi (.ty _) (.base (.str _)) (kit_ty kt_str_list) q
theorem x_isi_str_tuple {i : Str} (q : Q (.bl false) H) : rIsi K [(.str i), .ty "tuple"] H Q := x_isi (.ty _) (.base (.str _)) (kit_ty kt_str_tuple) q
theorem x_isi_NoneType_int (q : Q (.bl false) H) : rIsi K [.non, .ty "int"] H Q := x_isi (.ty _) (.base .non) (kit_ty kt_NoneType_int) q
theorem x_isi_NoneType_bool (q : Q (.bl false) H) : rIsi K [.non, .ty "bool"] H Q := x_isi (.ty _) (.base .non) (kit_ty kt_NoneType_bool) q
theorem x_isi_NoneType_str (q : Q (.bl false) H) : rIsi K [.non, .ty "str"] H Q := x_isi (.ty _) (.base .non) (kit_ty kt_NoneType_str) q
theorem x_isi_NoneType_list (q : Q (.bl false) H) : rIsi K [.non, .ty "list"] H Q := x_isi (.ty _) (.base .non) (kit_ty kt_NoneType_list) q
theorem x_isi_NoneType_tuple (q : Q (.bl false) H) : rIsi K [.non, .ty "tuple"] H Q := x_isi (.ty _) (.base .non) (kit_ty kt_NoneType_tuple) q
theorem isi_list_int {a : Addr} {xs : List V} (e : SqL K H a xs) (q : Q (.bl false) H) : rIsi K [.ref a, .ty "int"] H Q := x_isi (.ty _) (ty_lst e) (kit_ty kt_list_int) q
theorem isi_list_bool {a : Addr} {xs : List V} (e : SqL K H a xs) (q : Q (.bl false) H) : rIsi K [.ref a, .ty "bool"] H Q := x_isi (.ty _) (ty_lst e) (kit_ty kt_list_bool) q
theorem isi_list_str {a : Addr} {xs : List V} (e : SqL K H a xs) (q : Q (.bl false) H) : rIsi K [.ref a, .ty "str"] H Q := x_isi (.ty _) (ty_lst e) (kit_ty kt_list_str) q
theorem isi_list_list {a : Addr} {xs : List V} (e : SqL K H a xs) (q : Q (.bl true) H) : rIsi K [.ref a, .ty "list"] H Q := x_isi (.ty _) (ty_lst e) (kit_ty kt_list_list) q
theorem isi_list_tuple {a : Addr} {xs : List V} (e : SqL K H a xs) (q : Q (.bl false) H) : rIsi K [.ref a, .ty "tuple"] H Q := x_isi (.ty _) (ty_lst e) (kit_ty kt_list_tuple) q
theorem isi_tuple_int {a : Addr} {xs : List V} (e : SqT K H a xs) (q : Q (.bl false) H) : rIsi K [.ref a, .ty "int"] H Q := x_isi (.ty _) (ty_tup e) (kit_ty kt_tuple_int) q
theorem isi_tuple_bool {a : Addr} {xs : List V} (e : SqT K H a xs) (q : Q (.bl false) H) : rIsi K [.ref a, .ty "bool"] H Q := x_isi (.ty _) (ty_tup e) (kit_ty kt_tuple_bool) q
theorem isi_tuple_str {a : Addr} {xs : List V} (e : SqT K H a xs) (q : Q (.bl false) H) : rIsi K [.ref a, .ty "str"] H Q := x_isi (.ty _) (ty_tup e) (kit_ty kt_tuple_str) q
theorem isi_tuple_list {a : Addr} {xs : List V} (e : SqT K H a xs) (q : Q (.bl false) H) : rIsi K [.ref a, .ty "list"] H Q := x_isi (.ty _) (ty_tup e) (kit_ty kt_tuple_list) q
theorem isi_tuple_tuple {a : Addr} {xs : List V} (e : SqT K H a xs) (q : Q (.bl true) H) : rIsi K [.ref a, .ty "tuple"] H Q := x_isi (.ty _) (ty_tup e) (kit_ty kt_tuple_tuple) q
theorem same_upd {H0 H1 : Hp} {p : Addr} {o : HO} (h : Same H0 H1) (n : H0 p = none) : Same H0 (upd H1 p o) := fun b q e => by rw [upd_ne (ne_of_none e n)]; exact h b q e
theorem same_new {H0 H1 : Hp} {p : Addr} {o : HO} (h : Same H0 H1) (n : H1 p = none) : Same H0 (L2.upd H1 p o) := same_upd h (h.free n)
theorem al_lst {xs : List V} (h : ∀ p H', H p = none → Same H H' → H' p = some (.lst xs) → Q (.ref p) H') (h0 : Nat.ble xs.length 100000 = true := by rfl) : AlL Q xs H := ⟨Nat.le_of_lt (small (Nat.le_of_ble_eq_true h0)), fun p n => h p _ n (same_new (Same.refl H) n) upd_same⟩
theorem al_tup {xs : List V} (h : ∀ p H', H p = none → Same H H' → H' p = some (.tup xs) → Q (.ref p) H') (h0 : Nat.ble xs.length 100000 = true := by rfl) : AlT Q xs H := ⟨Nat.le_of_lt (small (Nat.le_of_ble_eq_true h0)), fun p n => h p _ n (same_new (Same.refl H) n) upd_same⟩
theorem al_list {p : Addr} {ys : List V} (e : SqL K H p ys) (h : ∀ p H', H p = none → Same H H' → H' p = some (.lst ys) → Q (.ref p) H') : rListOf K [.ref p] H Q := x_listOf e fun p n => h p _ n (same_new (Same.refl H) n) upd_same
end
/-! ### turns of a walk -/
structure Turns (J : It) (n : Nat) (ok : Hp → Prop) (item : Nat → V → Hp → Hp → Prop) : Prop where
  go : ∀ i H, i < n → ok H → J.go i H
  yld : ∀ i H x H', i < n → ok H → J.yld i H x H' → item i x H H'
  stop : ∀ H, ok H → J.stop n H
section
variable {K : PySem.W.Frag} {J : It} {n : Nat} {ok : Hp → Prop} {item : Nat → V → Hp → Hp → Prop} {g : TG} {tb : TS} {D : Ends} {σ : St} {H : Hp}
theorem for_by (T : Turns J n ok item) (Pv : Nat → St → Hp → Prop) (h0 : Pv 0 σ H) (hok : ∀ i σ H, i ≤ n → Pv i σ H → ok H)
    (hs : ∀ i x σ H H', i < n → Pv i σ H → item i x H H' → g x σ H' fun σ2 H2 => tb { D with nx := Pv (i + 1), ct := Pv (i + 1), bk := D.nx } σ2 H2) (hd : ∀ σ H, Pv n σ H → D.nx σ H) :
    ∃ W : Nat → Nat → St → Hp → Prop, (∃ m, W 0 m σ H) ∧ ∀ i m σ H, W i m σ H →
      (J.stop i H ∧ D.nx σ H) ∨ (J.go i H ∧ ∃ N : St → Hp → Prop, (∀ σ' H', N σ' H' → ∃ m', m' < m ∧ W (i + 1) m' σ' H') ∧ ∀ v H', J.yld i H v H' → g v σ H' fun σ2 H2 => tb { D with nx := N, ct := N, bk := D.nx } σ2 H2) := by
  refine ⟨fun i m σ H => m = n - i ∧ i ≤ n ∧ Pv i σ H, ⟨n, rfl, Nat.zero_le _, h0⟩, ?_⟩
  rintro i m σ H ⟨rfl, hi, p⟩
  have q := hok i σ H hi p
  by_cases hlt : i < n
  · exact .inr ⟨T.go i H hlt q, Pv (i + 1), fun σ' H' p' => ⟨n - (i + 1), by omega, rfl, hlt, p'⟩, fun v H' y => hs i v σ H H' hlt p (T.yld i H v H' hlt q y)⟩
  · have e : i = n := by omega
    subst e
    exact .inl ⟨T.stop H q, hd σ H p⟩
variable {tt : TT} {te : TE} {vs : List Nat} {H1 : Hp} {A : Addr} {Qd : Hp → Prop}
theorem lc_by (T : Turns J n ok item) (Pv : Nat → Hp → Prop) (h0 : Pv 0 (upd H1 A (.lst []))) (hok : ∀ i H, i ≤ n → Pv i H → ok H)
    (hs : ∀ i x H H', i < n → Pv i H → item i x H H' → g x (wipe σ vs) H' fun σ2 H2 => wipe σ2 vs = wipe σ vs ∧ tt σ2 H2 fun b H3 =>
      if b = true then te σ2 H3 fun y H4 => ∃ acc, H4 A = some (.lst acc) ∧ acc.length < sizeLine ∧ Pv (i + 1) (upd H4 A (.lst (acc ++ [y]))) else Pv (i + 1) H3) (hd : ∀ H, Pv n H → Qd H) :
    ∃ W : Nat → Nat → Hp → Prop, (∃ m, W 0 m (upd H1 A (.lst []))) ∧ ∀ i m H, W i m H →
      (J.stop i H ∧ Qd H) ∨ (J.go i H ∧ ∃ Nx : Hp → Prop, (∀ H', Nx H' → ∃ m', m' < m ∧ W (i + 1) m' H') ∧ ∀ x H', J.yld i H x H' → g x (wipe σ vs) H' fun σ2 H2 => wipe σ2 vs = wipe σ vs ∧ tt σ2 H2 fun b H3 =>
        if b = true then te σ2 H3 fun y H4 => ∃ acc, H4 A = some (.lst acc) ∧ acc.length < sizeLine ∧ Nx (upd H4 A (.lst (acc ++ [y]))) else Nx H3) := by
  refine ⟨fun i m H => m = n - i ∧ i ≤ n ∧ Pv i H, ⟨n, rfl, Nat.zero_le _, h0⟩, ?_⟩
  rintro i m H ⟨rfl, hi, p⟩
  have q := hok i H hi p
  by_cases hlt : i < n
  · exact .inr ⟨T.go i H hlt q, Pv (i + 1), fun H' p' => ⟨n - (i + 1), by omega, rfl, hlt, p'⟩, fun v H' y => hs i v H H' hlt p (T.yld i H v H' hlt q y)⟩
  · have e : i = n := by omega
    subst e
    exact .inl ⟨T.stop H q, hd H p⟩
theorem turnsL {a : Addr} {xs : List V} : Turns (Itl K a) xs.length (fun H => SqL K H a xs) (fun i x H H' => H = H' ∧ xs[i]? = some x) where
  go := fun i H hi q => ⟨xs, xs[i], q, List.getElem?_eq_getElem hi⟩
  yld := fun i H x H' _ q y => ⟨y.1.symm, y.2 xs q⟩
  stop := fun H q => ⟨xs, q, Nat.le_refl _⟩
theorem turnsR {lo : Int} {n : Nat} : Turns (Itr lo n) n (fun _ => True) (fun i x H H' => H = H' ∧ x = .int (lo + i)) where
  go := fun i H hi _ => hi
  yld := fun i H x H' _ _ y => ⟨y.1.symm, y.2⟩
  stop := fun H _ => Nat.le_refl _
/-- a new pair stands at T -/
def Pair (x y : V) (v : V) (H H' : Hp) : Prop := ∃ T, v = .ref T ∧ H T = none ∧ Same H H' ∧ H' T = some (.tup [x, y]) ∧ ∀ b, b ≠ T → H' b = H b
theorem pair_mk {x y : V} {T : Addr} (h : H T = none) : Pair x y (.ref T) H (upd H T (.tup [x, y])) := ⟨T, rfl, h, same_new (Same.refl H) h, upd_same, fun b hb => upd_ne hb⟩
theorem turnsE {a : Addr} {xs : List V} : Turns (Ite K a) xs.length (fun H => SqL K H a xs) (fun i v H H' => ∃ x, xs[i]? = some x ∧ Pair (.int (i : Nat)) x v H H') where
  go := fun i H hi q => ⟨xs, xs[i], q, List.getElem?_eq_getElem hi⟩
  yld := fun i H v H' _ q y => by
    obtain ⟨T, x, rfl, hT, rfl, f⟩ := y
    exact ⟨x, f xs q, pair_mk hT⟩
  stop := fun H q => ⟨xs, q, Nat.le_refl _⟩
theorem turnsZ {a b : Addr} {xs ys : List V} (hl : xs.length = ys.length) : Turns (Itz K a b) xs.length (fun H => SqL K H a xs ∧ SqL K H b ys) (fun i v H H' => ∃ x y, xs[i]? = some x ∧ ys[i]? = some y ∧ Pair x y v H H') where
  go := fun i H hi q => ⟨xs, ys, xs[i], ys[i]'(by omega), q.1, q.2, List.getElem?_eq_getElem hi, List.getElem?_eq_getElem (by omega)⟩
  yld := fun i H v H' _ q y => by
    obtain ⟨T, x, y, rfl, hT, rfl, f1, f2⟩ := y
    exact ⟨x, y, f1 xs q.1, f2 ys q.2, pair_mk hT⟩
  stop := fun H q => ⟨xs, ys, q.1, q.2, .inl (Nat.le_refl _)⟩
theorem turnsZT {a b : Addr} {xs ys : List V} (hl : xs.length = ys.length) : Turns (RZ.ItzT K a b) xs.length (fun H => SqT K H a xs ∧ SqT K H b ys) (fun i v H H' => ∃ x y, xs[i]? = some x ∧ ys[i]? = some y ∧ Pair x y v H H') where
  go := fun i H hi q => ⟨xs, ys, xs[i], ys[i]'(by omega), q.1, q.2, List.getElem?_eq_getElem hi, List.getElem?_eq_getElem (by omega)⟩
  yld := fun i H v H' _ q y => by
    obtain ⟨T, x, y, rfl, hT, rfl, f1, f2⟩ := y
    exact ⟨x, y, f1 xs q.1, f2 ys q.2, pair_mk hT⟩
  stop := fun H q => ⟨xs, ys, q.1, q.2, .inl (Nat.le_refl _)⟩

/-! ### a comprehension of flat values -/
structure LcF (H1 : Hp) (A : Addr) (f : Nat → Option V) (i : Nat) (H : Hp) : Prop where
  s : Same H1 H
  o : H A = some (.lst ((List.range i).filterMap f))
theorem lcF_len (f : Nat → Option V) (i : Nat) : ((List.range i).filterMap f).length ≤ i := by
  have := List.length_filterMap_le f (List.range i)
  rwa [List.length_range] at this
theorem LcF.keep {f : Nat → Option V} {i : Nat} {Hc H4 : Hp} {y : V} (h : LcF H1 A f i Hc) (n : H1 A = none) (s : Same Hc H4) (hf : f i = some y) (hi : i ≤ 100000) :
    ∃ acc, H4 A = some (.lst acc) ∧ acc.length < sizeLine ∧ LcF H1 A f (i + 1) (upd H4 A (.lst (acc ++ [y]))) := by
  refine ⟨_, s _ _ h.o, small (Nat.le_trans (lcF_len f i) hi), same_upd (h.s.trans s) n, ?_⟩
  rw [upd_same, List.range_succ, List.filterMap_append]
  simp [hf]
theorem LcF.skip {f : Nat → Option V} {i : Nat} {Hc H4 : Hp} (h : LcF H1 A f i Hc) (s : Same Hc H4) (hf : f i = none) : LcF H1 A f (i + 1) H4 := by
  refine ⟨h.s.trans s, ?_⟩
  rw [List.range_succ, List.filterMap_append]
  simp [hf]
  exact s _ _ h.o
theorem lc_flat (f : Nat → Option V) (T : Turns J n ok item) (hok : ∀ H', Same H1 H' → ok H') (hn : H1 A = none)
    (hs : ∀ i x Hc H', i < n → LcF H1 A f i Hc → item i x Hc H' → g x (wipe σ vs) H' fun σ2 H2 => wipe σ2 vs = wipe σ vs ∧ tt σ2 H2 fun b H3 =>
      if b = true then te σ2 H3 fun y H4 => ∃ acc, H4 A = some (.lst acc) ∧ acc.length < sizeLine ∧ LcF H1 A f (i + 1) (upd H4 A (.lst (acc ++ [y]))) else LcF H1 A f (i + 1) H3)
    (hd : ∀ H, Same H1 H → H A = some (.lst ((List.range n).filterMap f)) → Qd H) :
    ∃ W : Nat → Nat → Hp → Prop, (∃ m, W 0 m (upd H1 A (.lst []))) ∧ ∀ i m H, W i m H →
      (J.stop i H ∧ Qd H) ∨ (J.go i H ∧ ∃ Nx : Hp → Prop, (∀ H', Nx H' → ∃ m', m' < m ∧ W (i + 1) m' H') ∧ ∀ x H', J.yld i H x H' → g x (wipe σ vs) H' fun σ2 H2 => wipe σ2 vs = wipe σ vs ∧ tt σ2 H2 fun b H3 =>
        if b = true then te σ2 H3 fun y H4 => ∃ acc, H4 A = some (.lst acc) ∧ acc.length < sizeLine ∧ Nx (upd H4 A (.lst (acc ++ [y]))) else Nx H3) :=
  lc_by T (LcF H1 A f) ⟨same_new (Same.refl H1) hn, upd_same⟩ (fun i H _ p => hok H p.s) hs (fun H p => hd H p.s p.o)
end

/-! ### data -/
section
variable {K : PySem.W.Frag} {H H' : Hp}
theorem seqT_same {a : Addr} {xs : List V} (e : Same H H') (h : SqT K H a xs) : SqT K H' a xs := by
  rcases h with (h | ⟨o, h⟩) | h
  · exact .inl (.inl (e _ _ h))
  · exact .inl (.inr ⟨o, e _ _ h⟩)
  · exact .inr h
mutual
theorem dp_same (e : Same H H') : ∀ {v : V} {d : PyData}, Dp K H v d → Dp K H' v d
  | _, _, .non => .non
  | _, _, .bl b => .bl b
  | _, _, .int i => .int i
  | _, _, .str x => .str x
  | _, _, .lst h a => .lst (e.seq h) (dpAll_same e a)
  | _, _, .tup h a => .tup (seqT_same e h) (dpAll_same e a)
theorem dpAll_same (e : Same H H') : ∀ {vs : List V} {ds : List PyData}, DpAll K H vs ds → DpAll K H' vs ds
  | _, _, .nil => .nil
  | _, _, .cons a b => .cons (dp_same e a) (dpAll_same e b)
end
theorem dpAll_len : ∀ {vs : List V} {ds : List PyData}, DpAll K H vs ds → vs.length = ds.length
  | _, _, .nil => rfl
  | _, _, .cons _ b => congrArg Nat.succ (dpAll_len b)
theorem dpAll_get : ∀ {vs : List V} {ds : List PyData} {i : Nat} {v : V}, DpAll K H vs ds → vs[i]? = some v → ∃ d, ds[i]? = some d ∧ Dp K H v d
  | _, _, i, _, .nil, e => by simp at e
  | _, _, 0, _, .cons a _, e => by simp at e; subst e; exact ⟨_, rfl, a⟩
  | _, _, i + 1, _, .cons _ b, e => by
    obtain ⟨d, h1, h2⟩ := dpAll_get (i := i) b (by simpa using e)
    exact ⟨d, by simpa using h1, h2⟩
theorem dpAll_get' : ∀ {vs : List V} {ds : List PyData} {i : Nat} {d : PyData}, DpAll K H vs ds → ds[i]? = some d → ∃ v, vs[i]? = some v ∧ Dp K H v d
  | _, _, i, _, .nil, e => by simp at e
  | _, _, 0, _, .cons a _, e => by simp at e; subst e; exact ⟨_, rfl, a⟩
  | _, _, i + 1, _, .cons _ b, e => by
    obtain ⟨v, h1, h2⟩ := dpAll_get' (i := i) b (by simpa using e)
    exact ⟨v, by simpa using h1, h2⟩
theorem dpAll_snoc : ∀ {vs : List V} {ds : List PyData} {v : V} {d : PyData}, DpAll K H vs ds → Dp K H v d → DpAll K H (vs ++ [v]) (ds ++ [d])
  | _, _, _, _, .nil, h => .cons h .nil
  | _, _, _, _, .cons a b, h => .cons a (dpAll_snoc b h)
theorem dpAll_app : ∀ {vs ws : List V} {ds es : List PyData}, DpAll K H vs ds → DpAll K H ws es → DpAll K H (vs ++ ws) (ds ++ es)
  | _, _, _, _, .nil, h => h
  | _, _, _, _, .cons a b, h => .cons a (dpAll_app b h)
theorem dp_int {v : V} {i : Int} (h : Dp K H v (.int i)) : v = .int i := by cases h; rfl
theorem dp_str {v : V} {i : Str} (h : Dp K H v (.str i)) : v = .str i := by cases h; rfl
theorem dp_lst {v : V} {ds : List PyData} (h : Dp K H v (.list ds)) : ∃ a xs, v = .ref a ∧ SqL K H a xs ∧ DpAll K H xs ds := by cases h with | lst a b => exact ⟨_, _, rfl, a, b⟩
theorem dp_tup {v : V} {ds : List PyData} (h : Dp K H v (.tuple ds)) : ∃ a xs, v = .ref a ∧ SqT K H a xs ∧ DpAll K H xs ds := by cases h with | tup a b => exact ⟨_, _, rfl, a, b⟩
theorem dpAll_ints : ∀ {vs : List V} {ns : List Int}, DpAll K H vs (ns.map .int) → vs = ns.map V.int
  | _, [], .nil => rfl
  | _, n :: ns, .cons a b => by rw [dp_int a, dpAll_ints b]; rfl
theorem ints_dpAll : ∀ (ns : List Int), DpAll K H (ns.map V.int) (ns.map .int)
  | [] => .nil
  | n :: ns => .cons (.int n) (ints_dpAll ns)
/-- the heap without what stands at A -/
def del (H : Hp) (A : Addr) : Hp := fun b => if b = A then none else H b
theorem del_same {A : Addr} : Same (del H A) H := fun b o e => by
  unfold del at e
  by_cases c : b = A
  · rw [if_pos c] at e; cases e
  · rw [if_neg c] at e; exact e
theorem del_at {A b : Addr} {o : HO} (h : H b = some o) (n : b ≠ A) : del H A b = some o := by unfold del; rw [if_neg n]; exact h
theorem del_upd {A : Addr} {o : HO} : del (upd H A o) A = del H A := by
  funext b
  unfold del
  by_cases c : b = A
  · rw [if_pos c, if_pos c]
  · rw [if_neg c, if_neg c, upd_ne c]
theorem del_mono {A : Addr} (e : Same H H') : Same (del H A) (del H' A) := fun b o h => by
  unfold del at h ⊢
  by_cases c : b = A
  · rw [if_pos c] at h; cases h
  · rw [if_neg c] at h ⊢; exact e b o h
theorem same_del {A : Addr} (e : Same H H') (n : H A = none) : Same H (del H' A) := fun b o h => by
  unfold del
  rw [if_neg (ne_of_none h n)]; exact e b o h
end

/-! ### a comprehension of data -/
structure LcD (K : PySem.W.Frag) (H1 : Hp) (A : Addr) (f : Nat → Option PyData) (i : Nat) (H : Hp) : Prop where
  s : Same H1 H
  ex : ∃ acc, H A = some (.lst acc) ∧ DpAll K (del H A) acc ((List.range i).filterMap f)
section
variable {K : PySem.W.Frag} {J : It} {n : Nat} {ok : Hp → Prop} {item : Nat → V → Hp → Hp → Prop} {g : TG} {σ : St} {tt : TT} {te : TE} {vs : List Nat} {H1 : Hp} {A : Addr} {Qd : Hp → Prop}
theorem lcD_len (f : Nat → Option PyData) (i : Nat) : ((List.range i).filterMap f).length ≤ i := by
  have := List.length_filterMap_le f (List.range i)
  rwa [List.length_range] at this
theorem LcD.keep {f : Nat → Option PyData} {i : Nat} {Hc H4 : Hp} {y : V} {d : PyData} (h : LcD K H1 A f i Hc) (n : H1 A = none) (s : Same Hc H4) (hf : f i = some d) (hy : Dp K (del H4 A) y d) (hi : i ≤ 100000) :
    ∃ acc, H4 A = some (.lst acc) ∧ acc.length < sizeLine ∧ LcD K H1 A f (i + 1) (upd H4 A (.lst (acc ++ [y]))) := by
  obtain ⟨acc, ho, ha⟩ := h.ex
  refine ⟨acc, s _ _ ho, small (by rw [dpAll_len ha]; exact Nat.le_trans (lcD_len f i) hi), same_upd (h.s.trans s) n, acc ++ [y], upd_same, ?_⟩
  rw [del_upd, List.range_succ, List.filterMap_append]
  have e : List.filterMap f [i] = [d] := by simp [hf]
  rw [e]
  exact dpAll_snoc (dpAll_same (del_mono s) ha) hy
theorem LcD.skip {f : Nat → Option PyData} {i : Nat} {Hc H4 : Hp} (h : LcD K H1 A f i Hc) (s : Same Hc H4) (hf : f i = none) : LcD K H1 A f (i + 1) H4 := by
  obtain ⟨acc, ho, ha⟩ := h.ex
  refine ⟨h.s.trans s, acc, s _ _ ho, ?_⟩
  rw [List.range_succ, List.filterMap_append]
  have e : List.filterMap f [i] = [] := by simp [hf]
  rw [e, List.append_nil]
  exact dpAll_same (del_mono s) ha
theorem lc_data (f : Nat → Option PyData) (T : Turns J n ok item) (hok : ∀ H', Same H1 H' → ok H') (hn : H1 A = none)
    (hs : ∀ i x Hc H', i < n → LcD K H1 A f i Hc → item i x Hc H' → g x (wipe σ vs) H' fun σ2 H2 => wipe σ2 vs = wipe σ vs ∧ tt σ2 H2 fun b H3 =>
      if b = true then te σ2 H3 fun y H4 => ∃ acc, H4 A = some (.lst acc) ∧ acc.length < sizeLine ∧ LcD K H1 A f (i + 1) (upd H4 A (.lst (acc ++ [y]))) else LcD K H1 A f (i + 1) H3)
    (hd : ∀ H acc, Same H1 H → H A = some (.lst acc) → DpAll K (del H A) acc ((List.range n).filterMap f) → Qd H) :
    ∃ W : Nat → Nat → Hp → Prop, (∃ m, W 0 m (upd H1 A (.lst []))) ∧ ∀ i m H, W i m H →
      (J.stop i H ∧ Qd H) ∨ (J.go i H ∧ ∃ Nx : Hp → Prop, (∀ H', Nx H' → ∃ m', m' < m ∧ W (i + 1) m' H') ∧ ∀ x H', J.yld i H x H' → g x (wipe σ vs) H' fun σ2 H2 => wipe σ2 vs = wipe σ vs ∧ tt σ2 H2 fun b H3 =>
        if b = true then te σ2 H3 fun y H4 => ∃ acc, H4 A = some (.lst acc) ∧ acc.length < sizeLine ∧ Nx (upd H4 A (.lst (acc ++ [y]))) else Nx H3) :=
  lc_by T (LcD K H1 A f) ⟨same_new (Same.refl H1) hn, [], upd_same, .nil⟩ (fun i H _ p => hok H p.s) hs (fun H p => p.ex.elim fun acc e => hd H acc p.s e.1 e.2)
end

/-! ### further steps -/
section
variable {K : PySem.W.Frag} {te : TE} {a1 : TA} {σ : St} {H : Hp} {R : It → Hp → Prop} {Qs : St → Hp → Prop} {g : TG} {u : TGs} {v : V} {r xs : List V} {n : Nat} {a : Addr}
theorem x_iEnum (h : a1 σ H fun vs H1 => ∃ a xs, vs = [.ref a] ∧ SqL K H1 a xs ∧ R (Ite K a) H1) : iEnum K a1 σ H R := h
theorem x_iZip (h : a1 σ H fun vs H1 => ∃ a b xs ys, vs = [.ref a, .ref b] ∧ SqL K H1 a xs ∧ SqL K H1 b ys ∧ R (Itz K a b) H1) : iZip K a1 σ H R := h
theorem x_iZipA (h : a1 σ H fun vs H1 => ∃ a b xs ys, vs = [.ref a, .ref b] ∧ ((SqL K H1 a xs ∧ SqL K H1 b ys ∧ R (Itz K a b) H1) ∨ (SqT K H1 a xs ∧ SqT K H1 b ys ∧ R (RZ.ItzT K a b) H1))) : RZ.iZipA K a1 σ H R := h
theorem x_iTup (h : te σ H fun x H1 => ∃ a, x = .ref a ∧ (∃ xs, SqT K H1 a xs) ∧ R (Itt K a) H1) : iTup K te σ H R := h
theorem x_gtup (e : SqT K H a xs) (l : xs.length = n) (h : u xs σ H Qs) : gTup K n u (.ref a) σ H Qs := ⟨a, xs, rfl, e, l, h⟩
theorem x_gcons (h : g v σ H fun σ' H' => u r σ' H' Qs) : gCons g u (v :: r) σ H Qs := ⟨v, r, rfl, h⟩
theorem x_gnil (h : Qs σ H) : gNil [] σ H Qs := ⟨rfl, h⟩
theorem x_gsub {to ti : TE} {t : TSet} (h : to σ H fun o H1 => ti σ H1 fun i H2 => t o i v H2 fun H3 => Qs σ H3) : gSub to ti t v σ H Qs := h
theorem x_setL {p : Addr} {xs : List V} {k : Int} {Qh : Hp → Prop} (e : H p = some (.lst xs)) (h0 : 0 ≤ k) (h1 : k < xs.length) (h : Qh (upd H p (.lst (xs.set k.toNat v)))) : rSetL (.ref p) (.int k) v H Qh := by
  refine ⟨p, xs, k, k.toNat, rfl, rfl, e, ?_, h⟩
  unfold ixN
  rw [if_pos h0, if_pos h1]
theorem x_insert {p : Addr} {xs : List V} {k : Int} {Q : VK} (e : H p = some (.lst xs)) (z : xs.length < sizeLine) (h0 : 0 ≤ k) (h1 : k < 2 ^ 63) (h : Q .non (upd H p (.lst (xs.take k.toNat ++ [v] ++ xs.drop k.toNat)))) : rInsert (.ref p) [.int k, v] H Q := ⟨p, xs, k, v, rfl, rfl, e, z, h0, h1, h⟩
theorem x_yes {Qb : Bool → Hp → Prop} (h : Qb true H) : tYes σ H Qb := h
theorem x_lc {wi : TI} {tt : TT} {te : TE} {vs : List Nat} {Q : VK} (h : wi σ H fun J H1 => ∀ D, H1 D = none → ∃ W : Nat → Nat → Hp → Prop, (∃ m, W 0 m (upd H1 D (.lst []))) ∧ ∀ i m H, W i m H →
  (J.stop i H ∧ Q (.ref D) H) ∨ (J.go i H ∧ ∃ Nx : Hp → Prop, (∀ H', Nx H' → ∃ m', m' < m ∧ W (i + 1) m' H') ∧ ∀ x H', J.yld i H x H' → g x (wipe σ vs) H' fun σ2 H2 => wipe σ2 vs = wipe σ vs ∧ tt σ2 H2 fun b H3 =>
    if b = true then te σ2 H3 fun y H4 => ∃ acc, H4 D = some (.lst acc) ∧ acc.length < sizeLine ∧ Nx (upd H4 D (.lst (acc ++ [y]))) else Nx H3)) : tLc wi g tt te vs σ H Q := h
theorem x_wipe {P : Prop} {σ' : St} (e : σ' = σ) (h : P) : σ' = σ ∧ P := ⟨e, h⟩
end
/-! ### slices, defs that are not called, windows -/
section
variable {K : PySem.W.Frag} {te : TE} {tl th : TO} {σ : St} {H : Hp} {Q : VK} {v : V}
theorem x_sl {r : V → Option Int → Option Int → Hp → VK → Prop} (h : te σ H fun x H1 => tl σ H1 fun l H2 => th σ H2 fun u H3 => r x l u H3 Q) : tSl r te tl th σ H Q := h
theorem x_nopart {Qo : Option Int → Hp → Prop} (h : Qo none H) : tNoPart σ H Qo := h
theorem x_part {Qo : Option Int → Hp → Prop} (h : te σ H fun x H1 => ∃ i, x = .int i ∧ Qo (some i) H1) : tPart te σ H Qo := h
theorem x_isI {i : Int} {P : Int → Prop} (h : P i) : ∃ j, V.int i = .int j ∧ P j := ⟨i, rfl, h⟩
theorem al_slL {a : Addr} {xs : List V} {lo hi : Option Int} (e : SqL K H a xs) (h : ∀ p H', H p = none → Same H H' → H' p = some (.lst (cutV xs lo hi)) → Q (.ref p) H') : rSlL K (.ref a) lo hi H Q := ⟨a, xs, rfl, e, fun p n => h p _ n (same_new (Same.refl H) n) upd_same⟩
theorem cutV_from {xs : List V} {i : Nat} : cutV xs (some (i : Int)) none = xs.drop i := by
  unfold cutV HT.sIx
  have h : ¬ ((i : Int) < 0) := by omega
  simp only [if_neg h, Int.toNat_natCast]
  by_cases c : i ≤ xs.length
  · rw [Nat.min_eq_left c, List.take_of_length_le]
    rw [List.length_drop]; exact Nat.le_refl _
  · have c' : xs.length ≤ i := by omega
    rw [Nat.min_eq_right c', List.drop_of_length_le c', List.drop_of_length_le (Nat.le_refl _)]
    simp
theorem al_from {a : Addr} {xs : List Int} {i : Nat} {j : Int} (e : SqL K H a (xs.map V.int)) (hj : j = i) (h : ∀ p H', H p = none → Same H H' → H' p = some (.lst ((xs.drop i).map V.int)) → Q (.ref p) H') : rSlL K (.ref a) (some j) none H Q :=
  al_slL e fun p H' n s o => h p H' n s (by subst hj; rw [cutV_from] at o; rw [List.map_drop]; exact o)
end
theorem fn_false {P : Program} {w : World} {K : PySem.W.Frag} {mg : Str → Option Value} {base : Heap} {CX : CXT} {k : Nat} {f : Addr} {fd : FuncData} {ps : List Str} : FnOk P w K mg base CX k f fd ps (fun _ _ _ _ => False) := by
  exact ⟨fun _ _ _ _ h => h.elim, fun _ _ _ _ _ _ _ _ _ _ _ _ _ h => h.elim⟩
/-- a list of windows, as data -/
def dPair (w : Int × Int) : PyData := .tuple [.int w.1, .int w.2]
def dWin (ws : List (Int × Int)) : PyData := .list (ws.map dPair)
section
variable {K : PySem.W.Frag} {H H' : Hp}
end
/-! ### list(range(..)), sorted, lists of ints as data -/
section
variable {K : PySem.W.Frag} {te ta : TE} {σ : St} {H : Hp} {Q : VK} {v : V}
def AlRg (Q : VK) (a b : Int) (H : Hp) : Prop := RgOk a b ∧ ∀ q, H q = none → Q (.ref q) (upd H q (.lst (rgV a b)))
theorem x_lstRg {tr : St → Hp → (Int → Int → Hp → Prop) → Prop} (h : tr σ H (AlRg Q)) : tLstRg tr σ H Q := h
theorem x_rg1 {R : Int → Int → Hp → Prop} (h : ta σ H fun x H1 => ∃ n, x = .int n ∧ R 0 n H1) : tRg1 ta σ H R := h
theorem al_sorted {a : Addr} {ns : List Int} (e : SqL K H a (ns.map V.int)) (h : ∀ (p : Addr) (ns' : List Int) (H' : Hp), H p = none → Same H H' → ns'.Perm ns → ns'.Pairwise (· ≤ ·) → H' p = some (.lst (ns'.map V.int)) → Q (.ref p) H') : rSortedI K [.ref a] H Q :=
  ⟨a, ns, rfl, e, fun ns' p pm pw np => h p ns' _ np (same_new (Same.refl H) np) pm pw upd_same⟩
end
def dInts (l : List Int) : PyData := .list (l.map .int)
theorem dp_ints {K : PySem.W.Frag} {H : Hp} {a : Addr} {ns : List Int} (h : SqL K H a (ns.map V.int)) : Dp K H (.ref a) (dInts ns) := .lst h (ints_dpAll ns)
theorem inV_int (i : Int) : ∀ row : List Int, inV (.int i) (row.map V.int) = decide (i ∈ row)
  | [] => rfl
  | x :: row => by
    show (eqV (.int x) (.int i) || inV (.int i) (row.map V.int)) = _
    rw [inV_int i row]
    by_cases c : i = x
    · subst c; simp [eqV]
    · have : ¬ x = i := fun e => c e.symm
      simp [eqV, this, c]
theorem flat_int : ∀ row : List Int, (row.map V.int).all flatV = true
  | [] => rfl
  | x :: row => by
    show (flatV (.int x) && (row.map V.int).all flatV) = true
    rw [flat_int row]; rfl
theorem x_notInI {K : PySem.W.Frag} {H : Hp} {Q : VK} {p : Addr} {i : Int} {row : List Int} (e : SqL K H p (row.map V.int)) (h : Q (.bl (!decide (i ∈ row))) H) : rIn K true (.int i) (.ref p) H Q := ⟨p, _, rfl, .inl e, rfl, flat_int row, by rw [if_pos rfl, inV_int]; exact h⟩
/-! own exceptions made without arguments, raised and caught -/
section
variable {X : Cx} {x : Str} {p pos pos' : Pos}
def tTryAs (K : PySem.W.Frag) (c : Value) (i : Nat) (ts : Addr → Value → Option Addr → TS) (Wout : WX) (tb : WX → TS) : TS := fun D σ H => tb (wAs K c i ts Wout D) D σ H
end
section
variable {X : Cx} {CX : CXT} {k j : Nat} {sp : Sp} {E : St → XK} {x : Str} {p pos : Pos} {e : Expr} {es : List Expr} {t : TA}
theorem x_callS {σ : St} {H : Hp} {Q : VK} (h : t σ H fun vs H1 => sp vs H1 Q (E σ)) : tCallS sp E t σ H Q := h
theorem x_tryAs {K : PySem.W.Frag} {c : Value} {i : Nat} {ts : Addr → Value → Option Addr → TS} {Wout : WX} {tb : WX → TS} {D : Ends} {σ : St} {H : Hp} (h : tb (wAs K c i ts Wout D) D σ H) : tTryAs K c i ts Wout tb D σ H := h
end
/-- o[i] of a list, for o[i] op= e -/
theorem get_list {X : Cx} : PGet X (rIxL X.K) := by
  intro pins s σ H o i ov iv Q I ro ri h
  obtain ⟨p, xs, k, z, rfl, rfl, hq, he, q⟩ := h
  cases ro
  obtain ⟨t, rfl⟩ := ri
  obtain ⟨its, r, pl, hz⟩ := I.list hq
  obtain ⟨j, h1, h2, h3, h4, h5⟩ := atI_get he
  obtain ⟨w, ew, rw'⟩ := r.get h2
  have hl := r.length
  have hn := line63
  have fin : EP X pins σ Q w s := ⟨z, H, I, rw', q⟩
  by_cases h0 : 0 ≤ k
  · have hj : k.toNat = j := by
      rw [PySem.seqIndex_of h0 h5] at h1
      exact Option.some.inj h1
    exact PySem.wpAny_getItem_list pl.isList h0 (by omega) (by rw [hj]; simpa using ew) fin
  · have hj : (k + (its.toArray.size : Int)).toNat = j := by
      rw [PySem.seqIndex_neg (by omega) h4] at h1
      rw [List.size_toArray, ← hl]
      exact Option.some.inj h1
    exact PySem.wpAny_getItem_list_neg pl.isList (by omega) (by rw [List.size_toArray] <;> omega) (by omega) (by rw [hj]; simpa using ew) fin
theorem x_augS {to ti te : TE} {tget : V → V → Hp → VK → Prop} {tip : TIp} {tset : TSet} {D : Ends} {σ : St} {H : Hp} (h : to σ H fun o H1 => ti σ H1 fun i H2 => tget o i H2 fun x H3 => te σ H3 fun y H4 => tip x y H4 fun z H5 => tset o i z H5 fun H6 => D.nx σ H6) : tAugS to ti te tget tip tset D σ H := h
theorem x_aug {te : TE} {ti : TIp} {D : Ends} {σ : St} {H : Hp} {i : Nat} {v : V} (e : σ[i]? = some (some v)) (h : te σ H fun y H1 => ti v y H1 fun z H2 => D.nx (σ.set i (some z)) H2) : tAug i te ti D σ H := ⟨v, e, h⟩
theorem x_ipI {f : Int → Int → Int} {i j : Int} {H : Hp} {Q : VK} (h : Q (.int (f i j)) H) : ipI f (.int i) (.int j) H Q := ⟨i, j, rfl, rfl, h⟩
end Su
namespace Su
open PySem L2
local macro_rules | `(tactic| walk_at "side") => `(tactic| first | assumption | (show (0 : Int) < _; omega) | (show (0 : Int) ≤ _; omega) | (show (0 : Int) < _; split <;> omega) | (show _ ∨ _; omega) | (show _ ∧ _; omega) | exact ⟨by decide, by decide, by decide⟩ | exact ⟨by first | assumption | omega, by first | assumption | omega⟩)
local macro_rules | `(tactic| walk_at "xs") => `(tactic| repeat walk_at "x")
local macro_rules | `(tactic| walk_at "if") => `(tactic| first | with_reducible refine Su.x_iteD (fun c => ?_) (fun c => ?_) | with_reducible refine Su.x_iteN (fun c => ?_) (fun c => ?_) | with_reducible refine Su.x_ite (fun c => ?_) (fun c => ?_))

/-! what K says of NoOrder -/
end Su
namespace Su
open PySem L2
def top (i : Nat) : Stmt := PySem.Challenge.pw_susu_k36_reports_judged.main.body.getD i (.Pass ⟨0, 0, 0, 0⟩)
abbrev s_law_after : Stmt := top 11
abbrev s_law_bent : Stmt := top 14
abbrev s_law_draws : Stmt := top 5
abbrev s_law_grows : Stmt := top 9
abbrev s_law_can : Stmt := top 10
abbrev s_law_first : Stmt := top 15
abbrev s_law_free : Stmt := top 12
abbrev s_law_perm : Stmt := top 7
abbrev s_law_opening : Stmt := top 8
abbrev s_law_same : Stmt := top 6
abbrev s_law_spoilt : Stmt := top 13
abbrev s_Auditor_init : Stmt := inClass (top 2) 0
abbrev s_Auditor_coins_good : Stmt := inClass (top 2) 3
abbrev s_growing_in : Stmt := top 1
abbrev s_Auditor_people_good : Stmt := inClass (top 2) 1
abbrev s_Auditor_step_coins : Stmt := inClass (top 2) 4
abbrev s_Auditor_step_people : Stmt := inClass (top 2) 2
abbrev s_Auditor_take_next : Stmt := inClass (top 2) 5
abbrev s_first_wrong : Stmt := top 3
abbrev s_law : Stmt := top 16
def dd_law_after : He.DefD := ⟨("_law_after", none), "_law_after", "_law_after", defArgs s_law_after, defBody s_law_after, defScope s_law_after, [], []⟩
def dd_law_bent : He.DefD := ⟨("_law_bent", none), "_law_bent", "_law_bent", defArgs s_law_bent, defBody s_law_bent, defScope s_law_bent, [], []⟩
def dd_law_draws : He.DefD := ⟨("_law_draws", none), "_law_draws", "_law_draws", defArgs s_law_draws, defBody s_law_draws, defScope s_law_draws, [], []⟩
def dd_law_grows : He.DefD := ⟨("_law_grows", none), "_law_grows", "_law_grows", defArgs s_law_grows, defBody s_law_grows, defScope s_law_grows, [], []⟩
def dd_law_can : He.DefD := ⟨("_law_can", none), "_law_can", "_law_can", defArgs s_law_can, defBody s_law_can, defScope s_law_can, [], []⟩
def dd_law_first : He.DefD := ⟨("_law_first", none), "_law_first", "_law_first", defArgs s_law_first, defBody s_law_first, defScope s_law_first, [], []⟩
def dd_law_free : He.DefD := ⟨("_law_free", none), "_law_free", "_law_free", defArgs s_law_free, defBody s_law_free, defScope s_law_free, [], []⟩
def dd_law_perm : He.DefD := ⟨("_law_perm", none), "_law_perm", "_law_perm", defArgs s_law_perm, defBody s_law_perm, defScope s_law_perm, [], []⟩
def dd_law_opening : He.DefD := ⟨("_law_opening", none), "_law_opening", "_law_opening", defArgs s_law_opening, defBody s_law_opening, defScope s_law_opening, [], []⟩
def dd_law_same : He.DefD := ⟨("_law_same", none), "_law_same", "_law_same", defArgs s_law_same, defBody s_law_same, defScope s_law_same, [], []⟩
def dd_law_spoilt : He.DefD := ⟨("_law_spoilt", none), "_law_spoilt", "_law_spoilt", defArgs s_law_spoilt, defBody s_law_spoilt, defScope s_law_spoilt, [], []⟩
def dd_Auditor_init : He.DefD := ⟨("Auditor", some "__init__"), "__init__", "Auditor.__init__", defArgs s_Auditor_init, defBody s_Auditor_init, defScope s_Auditor_init, [], []⟩
def dd_Auditor_coins_good : He.DefD := ⟨("Auditor", some "coins_good"), "coins_good", "Auditor.coins_good", defArgs s_Auditor_coins_good, defBody s_Auditor_coins_good, defScope s_Auditor_coins_good, [], []⟩
def dd_growing_in : He.DefD := ⟨("growing_in", none), "growing_in", "growing_in", defArgs s_growing_in, defBody s_growing_in, defScope s_growing_in, [], []⟩
def dd_Auditor_people_good : He.DefD := ⟨("Auditor", some "people_good"), "people_good", "Auditor.people_good", defArgs s_Auditor_people_good, defBody s_Auditor_people_good, defScope s_Auditor_people_good, [], []⟩
def dd_Auditor_step_coins : He.DefD := ⟨("Auditor", some "step_coins"), "step_coins", "Auditor.step_coins", defArgs s_Auditor_step_coins, defBody s_Auditor_step_coins, defScope s_Auditor_step_coins, [], []⟩
def dd_Auditor_step_people : He.DefD := ⟨("Auditor", some "step_people"), "step_people", "Auditor.step_people", defArgs s_Auditor_step_people, defBody s_Auditor_step_people, defScope s_Auditor_step_people, [], []⟩
def dd_Auditor_take_next : He.DefD := ⟨("Auditor", some "take_next"), "take_next", "Auditor.take_next", defArgs s_Auditor_take_next, defBody s_Auditor_take_next, defScope s_Auditor_take_next, [], []⟩
def dd_first_wrong : He.DefD := ⟨("first_wrong", none), "first_wrong", "first_wrong", defArgs s_first_wrong, defBody s_first_wrong, defScope s_first_wrong, [], []⟩
def dd_law : He.DefD := ⟨("law", none), "law", "law", defArgs s_law, defBody s_law, defScope s_law, [], []⟩
def fns : List He.DefD := dd_law_after :: dd_law_bent :: dd_law_draws :: dd_law_grows :: dd_law_can :: dd_law_first :: dd_law_free :: dd_law_perm :: dd_law_opening :: dd_law_same :: dd_law_spoilt :: dd_Auditor_init :: dd_Auditor_coins_good :: dd_growing_in :: dd_Auditor_people_good :: dd_Auditor_step_coins :: dd_Auditor_step_people :: dd_Auditor_take_next :: dd_first_wrong :: dd_law :: []
abbrev R : PySem.W.OpenRow := PySem.W.OpenLaw.row PySem.Challenge.rw_susu_k36_reports_judged
def fas : List He.Fa := .glo "_law_after" :: .glo "_law_bent" :: .glo "_law_draws" :: .glo "_law_grows" :: .glo "_law_can" :: .glo "_law_first" :: .glo "_law_free" :: .glo "_law_perm" :: .glo "_law_opening" :: .glo "_law_same" :: .glo "_law_spoilt" :: .glo "growing_in" :: .glo "first_wrong" :: .glo "law" :: .free "abs" :: .free "all" :: .free "bool" :: .free "enumerate" :: .free "int" :: .free "isinstance" :: .free "len" :: .free "list" :: .free "max" :: .free "range" :: .free "sorted" :: .free "str" :: .free "tuple" :: .free "zip" :: .cls "Auditor" :: .noat "Auditor" "stake" :: .noat "Auditor" "size" :: .noat "Auditor" "bidding" :: .noat "Auditor" "left" :: .noat "Auditor" "waits" :: .noat "Auditor" "drew" :: .noat "Auditor" "many_fell" :: .noat "Auditor" "still_due" :: .noat "Auditor" "seen" :: .mkr "Auditor" :: .glo "Auditor" :: .meth "Auditor" "coins_good" :: .meth "Auditor" "people_good" :: .meth "Auditor" "step_coins" :: .meth "Auditor" "step_people" :: .meth "Auditor" "take_next" :: []
abbrev hk : PySem.W.Hook := He.hookD 5 fas fns
def ob (s : PySem.W.SharedT) : He.AlD := He.obsDG 5 fas fns (HandSHeadRun.getT s)
theorem ob_eq (s : PySem.W.SharedT) : ob s = hk.obs s.abs := He.obsDG_eq (HandSHeadRun.getT_eq s)
def loose : List PySem.Str := "growing_in" :: "Auditor" :: "first_wrong" :: "_law_draws" :: "_law_same" :: "_law_perm" :: "_law_opening" :: "_law_grows" :: "_law_can" :: "_law_after" :: "_law_free" :: "_law_spoilt" :: "_law_bent" :: "_law_first" :: []
theorem run (w : World) : HandSHeadRun.RunEq R (PySem.W.view R.prog [16]) hk ob 4000 loose w := by
  intro os
  kernel_rfl
open PySem PySem.W PySem.Calls PyProof.Rows in
theorem hd_e : opening R.prog = plainProg R.prog.main.scope.names := by kernel_rfl
open PySem PySem.W PySem.Calls PyProof.Rows in
theorem hd_f : ∀ s, fenceModules? R.prog s = some s := fun s => by kernel_rfl
open PySem PySem.W PySem.Calls PyProof.Rows in
theorem hd_def : defOf (PySem.W.view R.prog [16]) R.name = some (HandSHeadRun.topDef R.prog 16, []) := by kernel_rfl
open PySem PySem.W PySem.Calls PyProof.Rows in
theorem hd_p : R.prog.theDef R.name = some ((HandSHeadRun.topDef R.prog 16).params, (HandSHeadRun.topDef R.prog 16).body, (HandSHeadRun.topDef R.prog 16).scope) := by kernel_rfl
open PySem PySem.W PySem.Calls PyProof.Rows in
theorem hd_k : kwWritten? (HandSHeadRun.topDef R.prog 16).params.kwonlyargs (HandSHeadRun.topDef R.prog 16).params.kw_defaults = some [] := by kernel_rfl
open PySem PySem.W PySem.Calls PyProof.Rows in
theorem hd_ok : (chainsOk (PySem.W.view R.prog [16]) && opensWell R.prog && (frees R.toRowW && R.within.isEmpty)) = true := by decide +kernel
end Su
namespace Su
open PySem L2
local macro_rules | `(tactic| walk_at "side") => `(tactic| first | assumption | (show (0 : Int) < _; omega) | (show (0 : Int) ≤ _; omega) | (show (0 : Int) < _; split <;> omega) | (show _ ∨ _; omega) | (show _ ∧ _; omega) | exact ⟨by decide, by decide, by decide⟩ | exact ⟨by first | assumption | omega, by first | assumption | omega⟩)
local macro_rules | `(tactic| walk_at "x") => `(tactic| first | with_reducible refine Su.x_seq ?_ | with_reducible refine Su.x_asg ?_ | with_reducible refine Su.x_gname ?_ | with_reducible refine Su.x_drop ?_ | with_reducible refine Su.x_ret ?_ | with_reducible refine Su.x_ifS ?_ | ((with_reducible show L2.tVar _ _ _ _); refine Su.x_var rfl ?_) | with_reducible refine Su.x_op ?_ | with_reducible refine Su.x_rI0 ?_ | with_reducible refine Su.x_rGe ?_ | with_reducible refine Su.x_iteF ?_ | with_reducible refine Su.x_test ?_ | with_reducible refine Su.x_isB' ?_ | with_reducible refine Su.x_and ?_ | with_reducible refine Su.x_nil ?_ | with_reducible refine Su.x_cons ?_ | with_reducible refine Su.x_lst ?_ | with_reducible refine Su.x_bmL ?_ | with_reducible refine Su.x_next ?_ | with_reducible refine Su.x_for ?_ | with_reducible refine Su.x_iEnum ?_ | with_reducible refine Su.x_gcons ?_ | with_reducible refine Su.x_gnil ?_)
local macro_rules | `(tactic| walk_at "xs") => `(tactic| repeat walk_at "x")
local macro_rules | `(tactic| walk_at "if") => `(tactic| first | with_reducible refine Su.x_iteD (fun c => ?_) (fun c => ?_) | with_reducible refine Su.x_iteN (fun c => ?_) (fun c => ?_) | with_reducible refine Su.x_ite (fun c => ?_) (fun c => ?_))

/-! within -/
def nI (l : List Nat) : List V := l.map fun (i : Nat) => V.int (i : Int)
end Su
namespace Su
open PySem L2
local macro_rules | `(tactic| walk_at "side") => `(tactic| first | assumption | (show (0 : Int) < _; omega) | (show (0 : Int) ≤ _; omega) | (show (0 : Int) < _; split <;> omega) | (show _ ∨ _; omega) | (show _ ∧ _; omega) | exact ⟨by decide, by decide, by decide⟩ | exact ⟨by first | assumption | omega, by first | assumption | omega⟩)
local macro_rules | `(tactic| walk_at "x") => `(tactic| first | with_reducible refine Su.x_seq ?_ | with_reducible refine Su.x_asg ?_ | with_reducible refine Su.x_gname ?_ | with_reducible refine Su.x_drop ?_ | with_reducible refine Su.x_ret ?_ | with_reducible refine Su.x_ifS ?_ | ((with_reducible show L2.tVar _ _ _ _); refine Su.x_var rfl ?_) | with_reducible refine Su.x_c ?_ | with_reducible refine Su.x_op ?_ | with_reducible refine Su.x_rI0 ?_ | ((with_reducible refine Su.x_rI ?_ ?_); focus walk_at "side") | with_reducible refine Su.x_rGt ?_ | with_reducible refine Su.x_iteF ?_ | with_reducible refine Su.x_test ?_ | with_reducible refine Su.x_isB' ?_ | with_reducible refine Su.x_and ?_ | with_reducible refine Su.x_nil ?_ | with_reducible refine Su.x_cons ?_ | with_reducible refine Su.x_cb ?_ | with_reducible refine Su.x_min2 ?_ | with_reducible refine Su.x_lst ?_ | with_reducible refine Su.x_tup ?_ | with_reducible refine Su.x_bmL ?_ | with_reducible refine Su.x_next ?_ | with_reducible refine Su.x_for ?_ | with_reducible refine Su.x_iRng1 ?_)
local macro_rules | `(tactic| walk_at "xs") => `(tactic| repeat walk_at "x")
local macro_rules | `(tactic| walk_at "if") => `(tactic| first | with_reducible refine Su.x_iteD (fun c => ?_) (fun c => ?_) | with_reducible refine Su.x_iteN (fun c => ?_) (fun c => ?_) | with_reducible refine Su.x_ite (fun c => ?_) (fun c => ?_))

/-! _law_windows -/
end Su
namespace Su
open PySem L2
local macro_rules | `(tactic| walk_at "side") => `(tactic| first | assumption | (show (0 : Int) < _; omega) | (show (0 : Int) ≤ _; omega) | (show (0 : Int) < _; split <;> omega) | (show _ ∨ _; omega) | (show _ ∧ _; omega) | exact ⟨by decide, by decide, by decide⟩ | exact ⟨by first | assumption | omega, by first | assumption | omega⟩)
local macro_rules | `(tactic| walk_at "xs") => `(tactic| repeat walk_at "x")
local macro_rules | `(tactic| walk_at "if") => `(tactic| first | with_reducible refine Su.x_iteD (fun c => ?_) (fun c => ?_) | with_reducible refine Su.x_iteN (fun c => ?_) (fun c => ?_) | with_reducible refine Su.x_ite (fun c => ?_) (fun c => ?_))

/-! windows, orders, bars: the mathematics -/
theorem nodup_sub : ∀ {l m : List Nat}, l.Nodup → (∀ x ∈ l, x ∈ m) → l.length ≤ m.length
  | [], _, _, _ => Nat.zero_le _
  | x :: l, m, h, s => by
    have hx := s x (List.mem_cons_self ..)
    have h1 : x ∉ l := (List.nodup_cons.mp h).1
    have h2 := nodup_sub (l := l) (m := m.erase x) (List.nodup_cons.mp h).2 fun y hy => by
      have : y ≠ x := fun e => h1 (e ▸ hy)
      exact (List.mem_erase_of_ne this).mpr (s y (List.mem_cons_of_mem _ hy))
    rw [List.length_erase_of_mem hx] at h2
    have : 0 < m.length := List.length_pos_of_mem hx
    simp only [List.length_cons]
    omega
def w1 (ws : List (Int × Int)) (i : Nat) : Int := (ws.getD i (0, 0)).1
def w2 (ws : List (Int × Int)) (i : Nat) : Int := (ws.getD i (0, 0)).2
/-- an order of the windows -/
structure IsOrder (ws : List (Int × Int)) (row : List Nat) : Prop where
  len : row.length = ws.length
  nd : row.Nodup
  lt : ∀ x ∈ row, x < ws.length
  fit : ∀ k (h : k < row.length), w1 ws row[k] ≤ (k : Int) + 1 ∧ (k : Int) + 1 ≤ w2 ws row[k]
/-! ### the greedy way -/
end Su
namespace Su
open PySem L2
local macro_rules | `(tactic| walk_at "side") => `(tactic| first | assumption | (show (0 : Int) < _; omega) | (show (0 : Int) ≤ _; omega) | (show (0 : Int) < _; split <;> omega) | (show _ ∨ _; omega) | (show _ ∧ _; omega) | exact ⟨by decide, by decide, by decide⟩ | exact ⟨by first | assumption | omega, by first | assumption | omega⟩)
local macro_rules | `(tactic| walk_at "x") => `(tactic| first | with_reducible refine Su.x_seq ?_ | with_reducible refine Su.x_gname ?_ | with_reducible refine Su.x_ret ?_ | with_reducible refine Su.x_ifS ?_ | ((with_reducible show L2.tVar _ _ _ _); refine Su.x_var rfl ?_) | with_reducible refine Su.x_c ?_ | with_reducible refine Su.x_op ?_ | with_reducible refine Su.x_iteT ?_ | with_reducible refine Su.x_eqI ?_ | with_reducible refine Su.x_eqB ?_ | with_reducible refine Su.x_neB ?_ | with_reducible refine Su.x_test ?_ | with_reducible refine Su.x_tB ?_ | with_reducible refine Su.x_isB' ?_ | with_reducible refine Su.x_not ?_ | with_reducible refine Su.x_and ?_ | with_reducible refine Su.x_or ?_ | with_reducible refine Su.x_andV ?_ | with_reducible refine Su.x_nil ?_ | with_reducible refine Su.x_cons ?_ | with_reducible refine Su.x_cb ?_ | with_reducible refine Su.x_call ?_ | with_reducible refine Su.x_next ?_ | with_reducible refine Su.x_iZipA ?_ | with_reducible refine Su.x_gcons ?_ | with_reducible refine Su.x_gnil ?_ | with_reducible refine Su.x_yes ?_ | with_reducible refine Su.x_lc ?_)
local macro_rules | `(tactic| walk_at "xs") => `(tactic| repeat walk_at "x")
local macro_rules | `(tactic| walk_at "if") => `(tactic| first | with_reducible refine Su.x_iteD (fun c => ?_) (fun c => ?_) | with_reducible refine Su.x_iteN (fun c => ?_) (fun c => ?_) | with_reducible refine Su.x_ite (fun c => ?_) (fun c => ?_))

/-! _law_same: two data alike -/
mutual
def sameD : PyData → PyData → Bool
  | .none, .none => true
  | .bool a, .bool b => a == b
  | .int i, .int j => i == j
  | .str x, .str y => x == y
  | .list xs, .list ys => sameL xs ys
  | .tuple xs, .tuple ys => sameL xs ys
  | _, _ => false
def sameL : List PyData → List PyData → Bool
  | [], [] => true
  | x :: xs, y :: ys => sameD x y && sameL xs ys
  | _, _ => false
end
mutual
def okD : PyData → Bool
  | .none => true
  | .bool _ => true
  | .int _ => true
  | .str x => PyData.strOk x
  | .list xs => decide (xs.length ≤ 1000) && okL xs
  | .tuple xs => decide (xs.length ≤ 1000) && okL xs
  | .dict _ => false
def okL : List PyData → Bool
  | [] => true
  | x :: xs => okD x && okL xs
end
mutual
theorem sameD_refl : ∀ d : PyData, okD d = true → sameD d d = true
  | .none, _ => rfl
  | .bool b, _ => by simp [sameD]
  | .int b, _ => by simp [sameD]
  | .str b, _ => by simp [sameD]
  | .list xs, h => by
    simp only [okD, Bool.and_eq_true] at h
    simp only [sameD]; exact sameL_refl xs h.2
  | .tuple xs, h => by
    simp only [okD, Bool.and_eq_true] at h
    simp only [sameD]; exact sameL_refl xs h.2
  | .dict _, h => by simp [okD] at h
theorem sameL_refl : ∀ ds : List PyData, okL ds = true → sameL ds ds = true
  | [], _ => rfl
  | d :: ds, h => by
    simp only [okL, Bool.and_eq_true] at h
    simp only [sameL, sameD_refl d h.1, sameL_refl ds h.2, Bool.and_self]
end
theorem okL_get : ∀ {ds : List PyData} {i : Nat} {d : PyData}, okL ds = true → ds[i]? = some d → okD d = true
  | [], _, _, _, e => by simp at e
  | d :: ds, 0, _, h, e => by
    simp at e; subst e
    simp only [okL, Bool.and_eq_true] at h; exact h.1
  | d :: ds, i + 1, _, h, e => by
    simp only [okL, Bool.and_eq_true] at h
    exact okL_get (i := i) h.2 (by simpa using e)
theorem depth_get : ∀ {ds : List PyData} {i : Nat} {d : PyData}, ds[i]? = some d → d.depth ≤ PyData.depthAll ds
  | [], _, _, e => by simp at e
  | d :: ds, 0, _, e => by
    simp at e; subst e
    exact Nat.le_max_left _ _
  | d :: ds, i + 1, _, e => Nat.le_trans (depth_get (ds := ds) (i := i) (by simpa using e)) (Nat.le_max_right _ _)
theorem sameL_all : ∀ (ds es : List PyData), ds.length = es.length → (List.range ds.length).all (fun i => sameD (ds.getD i .none) (es.getD i .none)) = sameL ds es
  | [], [], _ => rfl
  | d :: ds, e :: es, h => by
    have ih := sameL_all ds es (Nat.succ.inj h)
    rw [List.length_cons, List.range_succ_eq_map, List.all_cons, List.all_map]
    show (sameD d e && _) = (sameD d e && sameL ds es)
    rw [← ih]
    rfl
  | [], _ :: _, h | _ :: _, [], h => by cases h
theorem sameL_len : ∀ (ds es : List PyData), ds.length ≠ es.length → sameL ds es = false
  | [], [], h => absurd rfl h
  | d :: ds, e :: es, h => by
    simp only [sameL]
    rw [sameL_len ds es (fun z => h (congrArg Nat.succ z)), Bool.and_false]
  | [], _ :: _, _ | _ :: _, [], _ => rfl
def isDB : PyData → Bool | .bool _ => true | _ => false
def isDI : PyData → Bool | .bool _ => true | .int _ => true | _ => false
def isDS : PyData → Bool | .str _ => true | _ => false
def isDL : PyData → Bool | .list _ => true | _ => false
def isDT : PyData → Bool | .tuple _ => true | _ => false
section
variable {K : PySem.W.Frag} {H : Hp} {Q : VK} {x : V} {d : PyData}
theorem isiD_bool (h : Dp K H x d) (q : Q (.bl (isDB d)) H) : rIsi K [x, .ty "bool"] H Q := by
  cases h with
  | non => exact x_isi_NoneType_bool q
  | bl b => exact x_isi_bool_bool q
  | int i => exact x_isi_int_bool q
  | str i => exact x_isi_str_bool q
  | lst a b => exact isi_list_bool a q
  | tup a b => exact isi_tuple_bool a q
theorem isiD_int (h : Dp K H x d) (q : Q (.bl (isDI d)) H) : rIsi K [x, .ty "int"] H Q := by
  cases h with
  | non => exact x_isi_NoneType_int q
  | bl b => exact x_isi_bool_int q
  | int i => exact x_isi_int_int q
  | str i => exact x_isi_str_int q
  | lst a b => exact isi_list_int a q
  | tup a b => exact isi_tuple_int a q
theorem isiD_str (h : Dp K H x d) (q : Q (.bl (isDS d)) H) : rIsi K [x, .ty "str"] H Q := by
  cases h with
  | non => exact x_isi_NoneType_str q
  | bl b => exact x_isi_bool_str q
  | int i => exact x_isi_int_str q
  | str i => exact x_isi_str_str q
  | lst a b => exact isi_list_str a q
  | tup a b => exact isi_tuple_str a q
theorem isiD_list (h : Dp K H x d) (q : Q (.bl (isDL d)) H) : rIsi K [x, .ty "list"] H Q := by
  cases h with
  | non => exact x_isi_NoneType_list q
  | bl b => exact x_isi_bool_list q
  | int i => exact x_isi_int_list q
  | str i => exact x_isi_str_list q
  | lst a b => exact isi_list_list a q
  | tup a b => exact isi_tuple_list a q
theorem isiD_tuple (h : Dp K H x d) (q : Q (.bl (isDT d)) H) : rIsi K [x, .ty "tuple"] H Q := by
  cases h with
  | non => exact x_isi_NoneType_tuple q
  | bl b => exact x_isi_bool_tuple q
  | int i => exact x_isi_int_tuple q
  | str i => exact x_isi_str_tuple q
  | lst a b => exact isi_list_tuple a q
  | tup a b => exact isi_tuple_tuple a q
end
def spn_law_same (K : PySem.W.Frag) (n : Nat) : Sp := fun vs H Q _ => ∃ (x y : V) (d e : PyData), vs = [x, y] ∧ Dp K H x d ∧ Dp K H y e ∧ okD d = true ∧ okD e = true ∧ e.depth ≤ n ∧ ∀ H', Same H H' → Q (.bl (sameD d e)) H'
abbrev sp_law_same (K : PySem.W.Frag) : Sp := spn_law_same K 7
abbrev N_law_same : List Str := ["_law_told", "_law_due", "_law_one", "_law_other"]
def t_law_same (K : PySem.W.Frag) (spR : Sp) : TS :=
 (tSeq (tIfS (tOr (tTest (tOp rNe (tCB (rIsi K) (tCons (tVar 0) (tCons (tC (.ty "bool")) tNil))) (tCB (rIsi K) (tCons (tVar 1) (tCons (tC (.ty "bool")) tNil))))) (tTest (tOp rNe (tCB (rIsi K) (tCons (tVar 0) (tCons (tC (.ty "int")) tNil))) (tCB (rIsi K) (tCons (tVar 1) (tCons (tC (.ty "int")) tNil))))))
 (tRet (tC (.bl false)))
 tNext)
 (tSeq (tIfS (tOr (tTest (tOp rNe (tCB (rIsi K) (tCons (tVar 0) (tCons (tC (.ty "list")) tNil))) (tCB (rIsi K) (tCons (tVar 1) (tCons (tC (.ty "list")) tNil))))) (tTest (tOp rNe (tCB (rIsi K) (tCons (tVar 0) (tCons (tC (.ty "tuple")) tNil))) (tCB (rIsi K) (tCons (tVar 1) (tCons (tC (.ty "tuple")) tNil))))))
 (tRet (tC (.bl false)))
 tNext)
 (tSeq (tIfS (tAnd (tNot (tB (tCB (rIsi K) (tCons (tVar 1) (tCons (tC (.ty "list")) tNil))))) (tNot (tB (tCB (rIsi K) (tCons (tVar 1) (tCons (tC (.ty "tuple")) tNil))))))
 (tRet (tAndV (tOp rEq (tCB (rIsi K) (tCons (tVar 0) (tCons (tC (.ty "str")) tNil))) (tCB (rIsi K) (tCons (tVar 1) (tCons (tC (.ty "str")) tNil)))) (tOp (rEqD K) (tVar 0) (tVar 1))))
 tNext)
 (tRet (tAndV (tOp rEq (tCB (rLenSeq K) (tCons (tVar 0) tNil)) (tCB (rLenSeq K) (tCons (tVar 1) tNil))) (tCB (rAll K) (tCons (tLc (RZ.iZipA K (tCons (tVar 0) (tCons (tVar 1) tNil))) (gTup K 2 (gCons (gName 2) (gCons (gName 3) gNil))) tYes (tCall spR [] E0 (tCons (tVar 2) (tCons (tVar 3) tNil))) [2, 3]) tNil)))))))

theorem len_law_same {K : PySem.W.Frag} {n : Nat} : ∀ vs H Q E, spn_law_same K n vs H Q E → vs.length = ["a", "b"].length := by
  rintro vs H Q E ⟨_, _, _, _, rfl, _⟩; rfl
theorem shaped_flat {d : PyData} (h : okD d = true) (h1 : isDL d = false) (h2 : isDT d = false) : SeqAt.shaped d = true := by
  cases d with
  | none | bool _ | int _ => rfl
  | str x => unfold SeqAt.shaped; rw [show PyData.canLay0 (.str x) = true from h]; rfl
  | list _ => cases h1
  | tuple _ => cases h2
  | dict _ => cases h
theorem pure_gen_same {K : PySem.W.Frag} {spR : Sp} {vs : List V} {H : Hp} {Q : VK} {x y : V} {d e : PyData} (ev : vs = [x, y]) (hx : Dp K H x d) (hy : Dp K H y e) (od : okD d = true) (oe : okD e = true) (k : ∀ H', Same H H' → Q (.bl (sameD d e)) H')
    (hR : ∀ (x y : V) (d' e' : PyData) (H : Hp) (Q : VK) (E : XK), Dp K H x d' → Dp K H y e' → okD d' = true → okD e' = true → e'.depth < e.depth → (∀ H', Same H H' → Q (.bl (sameD d' e')) H') → spR [x, y] H Q E) :
    t_law_same K spR { nx := fun _ H' => Q .non H', rt := Q } (start N_law_same vs) H := by
  subst ev
  have F : sameD d e = false → Q (.bl false) H := fun z => z ▸ k H (Same.refl H)
  unfold t_law_same
  walk_at "xs"
  refine isiD_bool hx ?_
  walk_at "xs"
  refine isiD_bool hy ?_
  walk_at "xs"
  walk_at "if"
  · rename_i c
    walk_at "xs"
    exact F (by cases d <;> cases e <;> simp_all [sameD, isDB])
  rename_i c1
  walk_at "xs"
  refine isiD_int hx ?_
  walk_at "xs"
  refine isiD_int hy ?_
  walk_at "xs"
  walk_at "if"
  · rename_i c
    walk_at "xs"
    exact F (by cases d <;> cases e <;> simp_all [sameD, isDI])
  rename_i c2
  walk_at "xs"
  refine isiD_list hx ?_
  walk_at "xs"
  refine isiD_list hy ?_
  walk_at "xs"
  walk_at "if"
  · rename_i c
    walk_at "xs"
    exact F (by cases d <;> cases e <;> simp_all [sameD, isDL])
  rename_i c3
  walk_at "xs"
  refine isiD_tuple hx ?_
  walk_at "xs"
  refine isiD_tuple hy ?_
  walk_at "xs"
  walk_at "if"
  · rename_i c
    walk_at "xs"
    exact F (by cases d <;> cases e <;> simp_all [sameD, isDT])
  rename_i c4
  walk_at "xs"
  refine isiD_list hy ?_
  walk_at "xs"
  -- both sequences: the end
  have seq : ∀ {a b : Addr} {xs ys : List V} {ds es : List PyData}, x = .ref a → y = .ref b → (SqL K H a xs ∧ SqL K H b ys ∨ SqT K H a xs ∧ SqT K H b ys) → DpAll K H xs ds → DpAll K H ys es → okL ds = true → okL es = true → es.length ≤ 1000 → PyData.depthAll es < e.depth → sameD d e = sameL ds es →
      (tRet (tAndV (tOp rEq (tCB (rLenSeq K) (tCons (tVar 0) tNil)) (tCB (rLenSeq K) (tCons (tVar 1) tNil))) (tCB (rAll K) (tCons (tLc (RZ.iZipA K (tCons (tVar 0) (tCons (tVar 1) tNil))) (gTup K 2 (gCons (gName 2) (gCons (gName 3) gNil))) tYes (tCall spR [] E0 (tCons (tVar 2) (tCons (tVar 3) tNil))) [2, 3]) tNil)))) { nx := fun _ H' => Q .non H', rt := Q } (start N_law_same [x, y]) H := by
    intro a b xs ys ds es ea eb hs ha hb oa ob hl hdep hsm
    subst ea; subst eb
    walk_at "xs"
    have l1 := dpAll_len ha
    have l2 := dpAll_len hb
    have hlen1 : ∀ (Q : VK), Q (.int xs.length) H → rLenSeq K [.ref a] H Q := fun Q q => hs.elim (fun h => x_lenL h.1 q) (fun h => x_lenT h.1 q)
    have hlen2 : ∀ (Q : VK), Q (.int ys.length) H → rLenSeq K [.ref b] H Q := fun Q q => hs.elim (fun h => x_lenL h.2 q) (fun h => x_lenT h.2 q)
    refine hlen1 _ ?_
    walk_at "xs"
    refine hlen2 _ ?_
    walk_at "xs"
    walk_at "if"
    · rename_i c
      have c' : xs.length = ys.length := by omega
      walk_at "xs"
      have body : ∀ (i : Nat) (v : V) (Hc H' : Hp) (A : Addr), H A = none → i < xs.length → LcF H A (fun i => some (V.bl (sameD (ds.getD i .none) (es.getD i .none)))) i Hc → (∃ x y, xs[i]? = some x ∧ ys[i]? = some y ∧ Pair x y v Hc H') →
          (gTup K 2 (gCons (gName 2) (gCons (gName 3) gNil))) v (wipe (start N_law_same [.ref a, .ref b]) [2, 3]) H' fun σ2 H2 => wipe σ2 [2, 3] = wipe (start N_law_same [.ref a, .ref b]) [2, 3] ∧ tYes σ2 H2 fun b H3 =>
            if b = true then (tCall spR [] E0 (tCons (tVar 2) (tCons (tVar 3) tNil))) σ2 H3 fun y H4 => ∃ acc, H4 A = some (.lst acc) ∧ acc.length < sizeLine ∧ LcF H A (fun i => some (V.bl (sameD (ds.getD i .none) (es.getD i .none)))) (i + 1) (upd H4 A (.lst (acc ++ [y]))) else LcF H A (fun i => some (V.bl (sameD (ds.getD i .none) (es.getD i .none)))) (i + 1) H3 := by
        intro i v Hc H' A hA hi lc hit
        obtain ⟨x', y', ex, ey, T, rfl, nT, sT, hT, _⟩ := hit
        obtain ⟨d', ed, hd'⟩ := dpAll_get ha ex
        obtain ⟨e', ee, he'⟩ := dpAll_get hb ey
        have gd : ds.getD i .none = d' := by rw [List.getD_eq_getElem?_getD, ed]; rfl
        have ge : es.getD i .none = e' := by rw [List.getD_eq_getElem?_getD, ee]; rfl
        have ss := lc.s.trans sT
        refine x_gtup (SqT.of hT) rfl ?_
        walk_at "xs"
        refine x_wipe rfl ?_
        walk_at "xs"
        refine hR x' y' d' e' H' _ _ (dp_same ss hd') (dp_same ss he') (okL_get oa ed) (okL_get ob ee) (Nat.lt_of_le_of_lt (depth_get ee) hdep) fun H4 s4 => ?_
        exact lc.keep hA (sT.trans s4) (by rw [gd, ge]) (by omega)
      have fin : ∀ (H' : Hp) (A : Addr), Same H H' → H' A = some (.lst ((List.range xs.length).filterMap (fun i => some (V.bl (sameD (ds.getD i .none) (es.getD i .none)))))) → rAll K [.ref A] H' Q := by
        intro H' A s o
        refine ⟨A, (List.range ds.length).map (fun i => sameD (ds.getD i .none) (es.getD i .none)), rfl, SqL.of ?_, ?_⟩
        · rw [o, l1, List.map_map, List.filterMap_eq_map']
          rfl
        · rw [List.all_map]
          have e1 : (List.range ds.length).all (id ∘ fun i => sameD (ds.getD i .none) (es.getD i .none)) = sameD d e := by
            rw [hsm, ← sameL_all ds es (by omega)]; rfl
          rw [e1]
          exact k H' s
      refine ⟨a, b, xs, ys, rfl, ?_⟩
      rcases hs with hs | hs
      · refine .inl ⟨hs.1, hs.2, fun A hA => ?_⟩
        refine lc_flat (fun i => some (V.bl (sameD (ds.getD i .none) (es.getD i .none)))) (turnsZ c') (fun H' s => ⟨s.seq hs.1, s.seq hs.2⟩) hA (fun i v Hc H' hi lc hit => body i v Hc H' A hA hi lc hit) (fun H' s o => ?_)
        walk_at "xs"
        exact fin H' A s o
      · refine .inr ⟨hs.1, hs.2, fun A hA => ?_⟩
        refine lc_flat (fun i => some (V.bl (sameD (ds.getD i .none) (es.getD i .none)))) (turnsZT c') (fun H' s => ⟨seqT_same s hs.1, seqT_same s hs.2⟩) hA (fun i v Hc H' hi lc hit => body i v Hc H' A hA hi lc hit) (fun H' s o => ?_)
        walk_at "xs"
        exact fin H' A s o
    · rename_i c
      have c' : ds.length ≠ es.length := by omega
      exact F (by rw [hsm]; exact sameL_len ds es c')
  walk_at "if"
  · rename_i c5
    have c5' : isDL e = false := by simpa using c5
    walk_at "xs"
    refine isiD_tuple hy ?_
    walk_at "xs"
    walk_at "if"
    · rename_i c6
      have c6' : isDT e = false := by simpa using c6
      have d1 : isDL d = false := by simpa [c5'] using c3
      have d2 : isDT d = false := by simpa [c6'] using c4
      walk_at "xs"
      refine isiD_str hx ?_
      walk_at "xs"
      refine isiD_str hy ?_
      walk_at "xs"
      walk_at "if"
      · rename_i c7
        walk_at "xs"
        refine ⟨d, e, hx, hy, shaped_flat od d1 d2, shaped_flat oe c5' c6', ?_⟩
        have q : PyData.eqv d e = sameD d e := by cases d <;> cases e <;> simp_all [sameD, isDB, isDI, isDS, isDL, isDT, PyData.eqv, okD]
        rw [q]; exact k H (Same.refl H)
      · rename_i c7
        exact F (by cases d <;> cases e <;> simp_all [sameD, isDS])
    · rename_i c6
      have c6' : isDT e = true := by simpa using c6
      have d2 : isDT d = true := by simpa [c6'] using c4
      cases e with
      | tuple es =>
        cases d with
        | tuple ds =>
          obtain ⟨a, xs, ea, ha, hxs⟩ := dp_tup hx
          obtain ⟨b, ys, eb, hb, hys⟩ := dp_tup hy
          simp only [okD, Bool.and_eq_true, decide_eq_true_eq] at od oe
          exact seq ea eb (.inr ⟨ha, hb⟩) hxs hys od.2 oe.2 oe.1 (Nat.lt_succ_self _) rfl
        | _ => cases d2
      | _ => cases c6'
  · rename_i c5
    have c5' : isDL e = true := by simpa using c5
    have d2 : isDL d = true := by simpa [c5'] using c3
    refine x_iteF ?_
    cases e with
    | list es =>
      cases d with
      | list ds =>
        obtain ⟨a, xs, ea, ha, hxs⟩ := dp_lst hx
        obtain ⟨b, ys, eb, hb, hys⟩ := dp_lst hy
        simp only [okD, Bool.and_eq_true, decide_eq_true_eq] at od oe
        exact seq ea eb (.inl ⟨ha, hb⟩) hxs hys od.2 oe.2 oe.1 (Nat.lt_succ_self _) rfl
      | _ => cases d2
    | _ => cases c5'
theorem pure0_law_same {K : PySem.W.Frag} {vs : List V} {H : Hp} {Q : VK} {E : XK} (h : spn_law_same K 0 vs H Q E) : t_law_same K (fun _ _ _ _ => False) { nx := fun _ H' => Q .non H', rt := Q } (start N_law_same vs) H := by
  obtain ⟨x, y, d, e, ev, hx, hy, od, oe, hd, k⟩ := h
  exact pure_gen_same ev hx hy od oe k fun _ _ _ _ _ _ _ _ _ _ _ z => absurd z (by omega)
theorem pureS_law_same {K : PySem.W.Frag} {n : Nat} {vs : List V} {H : Hp} {Q : VK} {E : XK} (h : spn_law_same K (n + 1) vs H Q E) : t_law_same K (spn_law_same K n) { nx := fun _ H' => Q .non H', rt := Q } (start N_law_same vs) H := by
  obtain ⟨x, y, d, e, ev, hx, hy, od, oe, hd, k⟩ := h
  exact pure_gen_same ev hx hy od oe k fun x y d' e' H Q E h1 h2 o1 o2 z q => ⟨x, y, d', e', rfl, h1, h2, o1, o2, by omega, q⟩

end Su
namespace Su
open PySem L2
local macro_rules | `(tactic| walk_at "side") => `(tactic| first | assumption | (show (0 : Int) < _; omega) | (show (0 : Int) ≤ _; omega) | (show (0 : Int) < _; split <;> omega) | (show _ ∨ _; omega) | (show _ ∧ _; omega) | exact ⟨by decide, by decide, by decide⟩ | exact ⟨by first | assumption | omega, by first | assumption | omega⟩)
local macro_rules | `(tactic| walk_at "xs") => `(tactic| repeat walk_at "x")
local macro_rules | `(tactic| walk_at "if") => `(tactic| first | with_reducible refine Su.x_iteD (fun c => ?_) (fun c => ?_) | with_reducible refine Su.x_iteN (fun c => ?_) (fun c => ?_) | with_reducible refine Su.x_ite (fun c => ?_) (fun c => ?_))

/-! windows by index, lists of numbers as data -/
section
variable {K : PySem.W.Frag} {H : Hp} {Q : VK} {a t p : Addr} {i : Int} {v w : V} {r : List V}
end
end Su
namespace Su
open PySem L2
local macro_rules | `(tactic| walk_at "side") => `(tactic| first | assumption | (show (0 : Int) < _; omega) | (show (0 : Int) ≤ _; omega) | (show (0 : Int) < _; split <;> omega) | (show _ ∨ _; omega) | (show _ ∧ _; omega) | exact ⟨by decide, by decide, by decide⟩ | exact ⟨by first | assumption | omega, by first | assumption | omega⟩)
local macro_rules | `(tactic| walk_at "xs") => `(tactic| repeat walk_at "x")
local macro_rules | `(tactic| walk_at "if") => `(tactic| first | with_reducible refine Su.x_iteD (fun c => ?_) (fun c => ?_) | with_reducible refine Su.x_iteN (fun c => ?_) (fun c => ?_) | with_reducible refine Su.x_ite (fun c => ?_) (fun c => ?_))

/-! what walks over windows share -/
section
variable {K : PySem.W.Frag} {H : Hp} {Q : VK} {p : Addr} {i : Nat} {row : List Nat}
theorem nI_len (l : List Nat) : (nI l).length = l.length := List.length_map ..
end
end Su
namespace Su
open PySem L2
local macro_rules | `(tactic| walk_at "side") => `(tactic| first | assumption | (show (0 : Int) < _; omega) | (show (0 : Int) ≤ _; omega) | (show (0 : Int) < _; split <;> omega) | (show _ ∨ _; omega) | (show _ ∧ _; omega) | exact ⟨by decide, by decide, by decide⟩ | exact ⟨by first | assumption | omega, by first | assumption | omega⟩)
local macro_rules | `(tactic| walk_at "xs") => `(tactic| repeat walk_at "x")
local macro_rules | `(tactic| walk_at "if") => `(tactic| first | with_reducible refine Su.x_iteD (fun c => ?_) (fun c => ?_) | with_reducible refine Su.x_iteN (fun c => ?_) (fun c => ?_) | with_reducible refine Su.x_ite (fun c => ?_) (fun c => ?_))

/-! texts by their signs -/
section
variable {K : PySem.W.Frag} {σ : St} {H : Hp} {Q : VK} {to te : TE} {p : Addr}
theorem x_m1 {r : V → List V → Hp → VK → Prop} (h : to σ H fun x H1 => (∃ a, x = .str a) ∧ te σ H1 fun y H2 => r x [y] H2 Q) : tM1 r to te σ H Q := h
theorem x_strE {a : Str} {P : Prop} (h : P) : (∃ b, V.str a = .str b) ∧ P := ⟨⟨a, rfl⟩, h⟩
end
end Su
namespace Su
open PySem L2
local macro_rules | `(tactic| walk_at "side") => `(tactic| first | assumption | (show (0 : Int) < _; omega) | (show (0 : Int) ≤ _; omega) | (show (0 : Int) < _; split <;> omega) | (show _ ∨ _; omega) | (show _ ∧ _; omega) | exact ⟨by decide, by decide, by decide⟩ | exact ⟨by first | assumption | omega, by first | assumption | omega⟩)
local macro_rules | `(tactic| walk_at "xs") => `(tactic| repeat walk_at "x")
local macro_rules | `(tactic| walk_at "if") => `(tactic| first | with_reducible refine Su.x_iteD (fun c => ?_) (fun c => ?_) | with_reducible refine Su.x_iteN (fun c => ?_) (fun c => ?_) | with_reducible refine Su.x_ite (fun c => ?_) (fun c => ?_))

/-! lists by names -/
section
variable {α β : Type}
end
/-! lists that grow strictly -/
/-! nets of debts -/
end Su
namespace Su
open PySem L2
local macro_rules | `(tactic| walk_at "side") => `(tactic| first | assumption | (show (0 : Int) < _; omega) | (show (0 : Int) ≤ _; omega) | (show (0 : Int) < _; split <;> omega) | (show _ ∨ _; omega) | (show _ ∧ _; omega) | exact ⟨by decide, by decide, by decide⟩ | exact ⟨by first | assumption | omega, by first | assumption | omega⟩)
local macro_rules | `(tactic| walk_at "xs") => `(tactic| repeat walk_at "x")
local macro_rules | `(tactic| walk_at "if") => `(tactic| first | with_reducible refine Su.x_iteD (fun c => ?_) (fun c => ?_) | with_reducible refine Su.x_iteN (fun c => ?_) (fun c => ?_) | with_reducible refine Su.x_ite (fun c => ?_) (fun c => ?_))

/-! dicts by names; the heap without some places -/
section
variable {K : PySem.W.Frag} {σ : St} {H H' : Hp} {Q : VK} {D : Ends} {td ty tv tx : TE} {a : Addr}
def AlD (Q : VK) (H : Hp) : Prop := ∀ p, H p = none → Q (.ref p) (upd H p (.dK []))
theorem x_dnew (h : AlD Q H) : tDNewK σ H Q := h
theorem x_dput (h : tv σ H fun v H1 => td σ H1 fun x H2 => ty σ H2 fun y H3 => ∃ a H4, x = .ref a ∧ DPut H3 a y v H4 ∧ D.nx σ H4) : sDPut td ty tv D σ H := h
theorem x_dgetE (h : td σ H fun x H1 => ty σ H1 fun y H2 => ∃ a v, x = .ref a ∧ DGet H2 a y (some v) ∧ Q v H2) : tDGet td ty σ H Q := h
theorem x_dget2 (h : td σ H fun x H1 => ∃ a, x = .ref a ∧ IsD H1 a ∧ ty σ H1 fun y H2 => tx σ H2 fun z H3 => ∃ o, DGet H3 a y o ∧ Q (o.getD z) H3) : tDGet2 td ty tx σ H Q := h
theorem x_din (h : ty σ H fun y H1 => td σ H1 fun x H2 => ∃ a o, x = .ref a ∧ DGet H2 a y o ∧ Q (.bl o.isSome) H2) : tDIn ty td σ H Q := h
theorem x_dnin (h : ty σ H fun y H1 => td σ H1 fun x H2 => ∃ a o, x = .ref a ∧ DGet H2 a y o ∧ Q (.bl (!o.isSome)) H2) : tDNotIn ty td σ H Q := h
end
/-! the heap without some places -/
def hide (A : List Addr) (H : Hp) : Hp := fun b => if b ∈ A then none else H b
section
variable {H H' : Hp} {A : List Addr} {a b : Addr} {o : HO}
theorem hide_in (h : a ∈ A) : hide A H a = none := by unfold hide; rw [if_pos h]
theorem hide_out (h : a ∉ A) : hide A H a = H a := by unfold hide; rw [if_neg h]
theorem hide_same : Same (hide A H) H := fun b o e => by
  by_cases c : b ∈ A
  · rw [hide_in c] at e; cases e
  · rw [hide_out c] at e; exact e
theorem hide_upd (h : a ∈ A) : hide A (upd H a o) = hide A H := by
  funext b
  by_cases c : b ∈ A
  · rw [hide_in c, hide_in c]
  · rw [hide_out c, hide_out c, upd_ne (fun (e : b = a) => c (by rw [e]; exact h))]
theorem hide_mono (e : Same H H') : Same (hide A H) (hide A H') := fun b o h => by
  by_cases c : b ∈ A
  · rw [hide_in c] at h; cases h
  · rw [hide_out c] at h ⊢; exact e b o h
theorem same_hide (e : Same H H') (n : ∀ a ∈ A, H a = none) : Same H (hide A H') := fun b o h => by
  have c : b ∉ A := fun c => by rw [n b c] at h; cases h
  rw [hide_out c]; exact e b o h
end
/-- the list at p holds these data, none of which leans on what stands in A -/
def LsAt (K : PySem.W.Frag) (A : List Addr) (H : Hp) (p : Addr) (ds : List PyData) : Prop := ∃ xs, H p = some (.lst xs) ∧ DpAll K (hide A H) xs ds
theorem LsAt.dp {K : PySem.W.Frag} {A : List Addr} {H : Hp} {p : Addr} {ds : List PyData} (h : LsAt K A H p ds) : Dp K H (.ref p) (.list ds) := by
  obtain ⟨xs, h1, h2⟩ := h
  exact .lst (SqL.of h1) (dpAll_same hide_same h2)
/-! nets and transfers as data -/
section
variable {K : PySem.W.Frag} {H : Hp} {v : V}
end
theorem set_mapI (l : List Int) (t : Nat) (x : Int) : (l.map V.int).set ((t : Int)).toNat (.int x) = (l.set t x).map V.int := by rw [List.map_set, Int.toNat_natCast]
theorem at_zero {x : V} {xs : List V} : atI (x :: xs) 0 = some x := by
  rw [at_get (d := .non) (by omega) (by simp)]; rfl

end Su
namespace Su
open PySem L2
local macro_rules | `(tactic| walk_at "side") => `(tactic| first | assumption | (show (0 : Int) < _; omega) | (show (0 : Int) ≤ _; omega) | (show (0 : Int) < _; split <;> omega) | (show _ ∨ _; omega) | (show _ ∧ _; omega) | exact ⟨by decide, by decide, by decide⟩ | exact ⟨by first | assumption | omega, by first | assumption | omega⟩)
local macro_rules | `(tactic| walk_at "xs") => `(tactic| repeat walk_at "x")
local macro_rules | `(tactic| walk_at "if") => `(tactic| first | with_reducible refine Su.x_iteD (fun c => ?_) (fun c => ?_) | with_reducible refine Su.x_iteN (fun c => ?_) (fun c => ?_) | with_reducible refine Su.x_ite (fun c => ?_) (fun c => ?_))

/-! transfers: the plain law -/
end Su
namespace Su
open PySem L2
local macro_rules | `(tactic| walk_at "side") => `(tactic| first | assumption | (show (0 : Int) < _; omega) | (show (0 : Int) ≤ _; omega) | (show (0 : Int) < _; split <;> omega) | (show _ ∨ _; omega) | (show _ ∧ _; omega) | exact ⟨by decide, by decide, by decide⟩ | exact ⟨by first | assumption | omega, by first | assumption | omega⟩)
local macro_rules | `(tactic| walk_at "xs") => `(tactic| repeat walk_at "x")
local macro_rules | `(tactic| walk_at "if") => `(tactic| first | with_reducible refine Su.x_iteD (fun c => ?_) (fun c => ?_) | with_reducible refine Su.x_iteN (fun c => ?_) (fun c => ?_) | with_reducible refine Su.x_ite (fun c => ?_) (fun c => ?_))

/-! good data: may be compared, are like themselves -/
mutual
theorem okD_lay : ∀ d : PyData, okD d = true → PyData.canLay0 d = true
  | .none, _ => rfl
  | .bool _, _ => rfl
  | .int _, _ => rfl
  | .str _, h => h
  | .list xs, h => by
    simp only [okD, Bool.and_eq_true] at h
    show PyData.canLayAll0 xs = true
    exact okL_lay xs h.2
  | .tuple xs, h => by
    simp only [okD, Bool.and_eq_true] at h
    show PyData.canLayAll0 xs = true
    exact okL_lay xs h.2
  | .dict _, h => by simp [okD] at h
theorem okL_lay : ∀ ds : List PyData, okL ds = true → PyData.canLayAll0 ds = true
  | [], _ => rfl
  | d :: ds, h => by
    simp only [okL, Bool.and_eq_true] at h
    show (PyData.canLay0 d && PyData.canLayAll0 ds) = true
    rw [okD_lay d h.1, okL_lay ds h.2]; rfl
end
mutual
theorem eqv_self : ∀ d : PyData, okD d = true → PyData.eqv d d = true
  | .none, _ => rfl
  | .bool b, _ => by simp [PyData.eqv]
  | .int b, _ => by simp [PyData.eqv]
  | .str b, _ => by simp [PyData.eqv]
  | .list xs, h => by
    simp only [okD, Bool.and_eq_true] at h
    show PyData.eqvAll xs xs = true
    exact eqvAll_self xs h.2
  | .tuple xs, h => by
    simp only [okD, Bool.and_eq_true] at h
    show PyData.eqvAll xs xs = true
    exact eqvAll_self xs h.2
  | .dict _, h => by simp [okD] at h
theorem eqvAll_self : ∀ ds : List PyData, okL ds = true → PyData.eqvAll ds ds = true
  | [], _ => rfl
  | d :: ds, h => by
    simp only [okL, Bool.and_eq_true] at h
    show (PyData.eqv d d && PyData.eqvAll ds ds) = true
    rw [eqv_self d h.1, eqvAll_self ds h.2]; rfl
end
structure GoodD (n : Nat) (d : PyData) : Prop where
  ok : okD d = true
  dep : d.depth ≤ n
theorem okL_all {ds : List PyData} (h : ∀ d ∈ ds, okD d = true) : okL ds = true := by
  induction ds with
  | nil => rfl
  | cons d ds ih =>
    simp only [okL, Bool.and_eq_true]
    exact ⟨h d List.mem_cons_self, ih fun x hx => h x (List.mem_cons_of_mem _ hx)⟩
theorem dep_all {ds : List PyData} {n : Nat} (h : ∀ d ∈ ds, d.depth ≤ n) : PyData.depthAll ds ≤ n := by
  induction ds with
  | nil => exact Nat.zero_le _
  | cons d ds ih =>
    show max d.depth (PyData.depthAll ds) ≤ n
    exact Nat.max_le.mpr ⟨h d List.mem_cons_self, ih fun x hx => h x (List.mem_cons_of_mem _ hx)⟩
theorem GoodD.lst {ds : List PyData} {n : Nat} (hl : ds.length ≤ 1000) (h : ∀ d ∈ ds, GoodD n d) : GoodD (n + 1) (.list ds) := by
  refine ⟨?_, ?_⟩
  · simp only [okD, Bool.and_eq_true, decide_eq_true_eq]
    exact ⟨hl, okL_all fun d hd => (h d hd).ok⟩
  · show PyData.depthAll ds + 1 ≤ n + 1
    have := dep_all fun d hd => (h d hd).dep
    omega
theorem GoodD.tup {ds : List PyData} {n : Nat} (hl : ds.length ≤ 1000) (h : ∀ d ∈ ds, GoodD n d) : GoodD (n + 1) (.tuple ds) := by
  refine ⟨?_, ?_⟩
  · simp only [okD, Bool.and_eq_true, decide_eq_true_eq]
    exact ⟨hl, okL_all fun d hd => (h d hd).ok⟩
  · show PyData.depthAll ds + 1 ≤ n + 1
    have := dep_all fun d hd => (h d hd).dep
    omega
theorem GoodD.int (n : Nat) (i : Int) : GoodD n (.int i) := ⟨rfl, Nat.zero_le _⟩
theorem GoodD.bool (n : Nat) (i : Bool) : GoodD n (.bool i) := ⟨rfl, Nat.zero_le _⟩
theorem GoodD.non (n : Nat) : GoodD n .none := ⟨rfl, Nat.zero_le _⟩
theorem strOk_of {w : List Nat} (h : ∀ c ∈ w, c < 256) : PyData.strOk (SX.S w) = true := by
  unfold PyData.strOk
  rw [← Array.all_toList, List.all_eq_true]
  intro c hc
  have := h c hc
  simp; omega
theorem GoodD.str (n : Nat) {w : List Nat} (h : ∀ c ∈ w, c < 256) : GoodD n (.str (SX.S w)) := ⟨strOk_of h, Nat.zero_le _⟩
theorem GoodD.shaped {n : Nat} {d : PyData} (h : GoodD n d) (hn : n ≤ 64) : SeqAt.shaped d = true := by
  unfold SeqAt.shaped
  rw [okD_lay d h.ok, decide_eq_true (Nat.le_trans h.dep hn)]; rfl
section
variable {K : PySem.W.Frag} {H : Hp} {Q : VK} {x y : V} {d : PyData} {n : Nat}
theorem x_eqSelf (g : GoodD n d) (hn : n ≤ 64) (hx : Dp K H x d) (hy : Dp K H y d) (h : Q (.bl true) H) : rEqD K x y H Q := ⟨d, d, hx, hy, g.shaped hn, g.shaped hn, by rw [eqv_self d g.ok]; exact h⟩
theorem x_sameSelf {E : XK} (g : GoodD n d) (hn : n ≤ 7) (hx : Dp K H x d) (hy : Dp K H y d) (h : ∀ H', Same H H' → Q (.bl true) H') : sp_law_same K [x, y] H Q E :=
  ⟨x, y, d, d, rfl, hx, hy, g.ok, g.ok, Nat.le_trans g.dep hn, fun H' s => by rw [sameD_refl d g.ok]; exact h H' s⟩
end
theorem good_map {α : Type} {n : Nat} {f : α → PyData} {l : List α} (hl : l.length ≤ 1000) (h : ∀ x ∈ l, GoodD n (f x)) : GoodD (n + 1) (.list (l.map f)) := .lst (by rw [List.length_map]; exact hl) fun d hd => by
  obtain ⟨x, hx, rfl⟩ := List.mem_map.mp hd
  exact h x hx
/-! numbers of the places where something holds -/
theorem at_upd {H : Hp} {a p : Addr} {o o' : HO} (h : H a = some o) (n : p ≠ a) : upd H p o' a = some o := by rw [upd_ne (fun e => n e.symm)]; exact h

end Su
namespace Su
open PySem L2
local macro_rules | `(tactic| walk_at "side") => `(tactic| first | assumption | (show (0 : Int) < _; omega) | (show (0 : Int) ≤ _; omega) | (show (0 : Int) < _; split <;> omega) | (show _ ∨ _; omega) | (show _ ∧ _; omega) | exact ⟨by decide, by decide, by decide⟩ | exact ⟨by first | assumption | omega, by first | assumption | omega⟩)
local macro_rules | `(tactic| walk_at "xs") => `(tactic| repeat walk_at "x")
local macro_rules | `(tactic| walk_at "if") => `(tactic| first | with_reducible refine Su.x_iteD (fun c => ?_) (fun c => ?_) | with_reducible refine Su.x_iteN (fun c => ?_) (fun c => ?_) | with_reducible refine Su.x_ite (fun c => ?_) (fun c => ?_))

/-! facts of an earlier heap, found by search -/
section
variable {K : PySem.W.Frag} {H H' : Hp} {a : Addr} {o : HO} {xs : List V} {v : V} {d : PyData} {vs : List V} {ds : List PyData}
theorem f_at (s : Same H H') (h : H a = some o) : H' a = some o := s _ _ h
theorem f_sqL (h : H a = some (.lst xs)) : SqL K H a xs := SqL.of h
theorem f_sqT (h : H a = some (.tup xs)) : SqT K H a xs := SqT.of h
theorem f_sqLs (s : Same H H') (h : SqL K H a xs) : SqL K H' a xs := s.seq h
theorem f_sqTs (s : Same H H') (h : SqT K H a xs) : SqT K H' a xs := seqT_same s h
theorem f_dp (s : Same H H') (h : Dp K H v d) : Dp K H' v d := dp_same s h
theorem f_dpA (s : Same H H') (h : DpAll K H vs ds) : DpAll K H' vs ds := dpAll_same s h
theorem f_tr {H1 H2 H3 : Hp} (s : Same H2 H3) (t : Same H1 H2) : Same H1 H3 := t.trans s
theorem f_free (s : Same H H') (n : H' a = none) : H a = none := s.free n
end

end Su
namespace Su
open PySem L2
local macro_rules | `(tactic| walk_at "side") => `(tactic| first | assumption | (show (0 : Int) < _; omega) | (show (0 : Int) ≤ _; omega) | (show (0 : Int) < _; split <;> omega) | (show _ ∨ _; omega) | (show _ ∧ _; omega) | exact ⟨by decide, by decide, by decide⟩ | exact ⟨by first | assumption | omega, by first | assumption | omega⟩)
local macro_rules | `(tactic| walk_at "xs") => `(tactic| repeat walk_at "x")
local macro_rules | `(tactic| walk_at "if") => `(tactic| first | with_reducible refine Su.x_iteD (fun c => ?_) (fun c => ?_) | with_reducible refine Su.x_iteN (fun c => ?_) (fun c => ?_) | with_reducible refine Su.x_ite (fun c => ?_) (fun c => ?_))

/-! classes: methods and makers that may be called -/
structure ClM (P : Program) (w : World) (K : PySem.W.Frag) (mg : Str → Option Value) (base : Heap) (CX : CXT) (k : Nat) (C : Addr) (m : Str) (sp : Sp) : Prop where
  cl : Cls K C
  ex : ∃ (f : Addr) (fd : FuncData) (ps : List Str), Meth K C m f ∧ Binds K fd ps [] ∧ FnOk P w K mg base CX k f fd ps sp
structure ClK (P : Program) (w : World) (K : PySem.W.Frag) (mg : Str → Option Value) (base : Heap) (CX : CXT) (k : Nat) (x : Str) (C : Addr) (sp : Sp) (dvs : List V) : Prop where
  ex : ∃ (f : Addr) (fd : FuncData) (ps : List Str) (ds : List Value), Mk K C f ∧ mg x = some (.ref C) ∧ Binds K fd ps ds ∧ Vals dvs ds ∧ FnOk P w K mg base CX k f fd ps sp
section
variable {X : Cx} {CX : CXT} {k j : Nat} {C : Addr} {m x : Str} {sp : Sp} {dvs : List V} {E : XK} {EW : St → XK} {p pos apos : Pos} {e o : Expr} {es : List Expr} {ta : TE} {t : TA}
theorem pe_cm {pl : Sem Bool} (c : ClM X.prog X.w X.K X.mg X.base CX k C m sp) (hr : Room j X.A) (hk : k ≤ j) (hx : Passes CX X E) (he : PE X o ta) (ha : PA X (e :: es) t)
    (hst : starEach (e :: es) X.env = (false, eval e X.env) :: starEach es X.env := by rfl) (hpl : (backTo pos (starEach es X.env)).any (·.1) = false := by rfl)
    (ht : eval (.Call (.Attribute o m apos) (e :: es) [] pos) X.env = (do
      let ov ← eval o X.env
      standAt apos.atName
      let (f, first) ← holding [ov] (getMethod ov m pl)
      callWith pos f first (backTo pos (starEach (e :: es) X.env)) (backToKw pos (keywordEach [] X.env))) := by rfl) :
    PE X (.Call (.Attribute o m apos) (e :: es) [] pos) (tMeth C m sp [] E ta t) := by
  obtain ⟨cl, f, fd, ps, h1, h2, h3⟩ := c
  exact pe_meth he cl h1 h3 (hr.mono hk) h2 .nil hx ha hst hpl ht
theorem pe_ck (c : ClK X.prog X.w X.K X.mg X.base CX k x C sp dvs) (hr : Room j X.A) (hk : k + 1 ≤ j) (hg : Gl X x) (hx : Passes CX X E) (ha : PA X (e :: es) t)
    (hdb : (x == ("__debug__" : Str)) = false := by decide) (he : starEach (e :: es) X.env = (false, eval e X.env) :: starEach es X.env := by rfl) (hpl : (backTo pos (starEach es X.env)).any (·.1) = false := by rfl) :
    PE X (.Call (.Name x p) (e :: es) [] pos) (tMake C sp dvs E t) := by
  obtain ⟨f, fd, ps, ds, h1, h2, h3, h4, h5⟩ := c.ex
  exact pe_make h1 h5 (hr.mono hk) hg h2 h3 h4 hx ha hdb he hpl
def tMethW (C : Addr) (m : Str) (sp : Sp) (E : St → XK) (ta : TE) (t : TA) : TE := fun σ H Q => ta σ H fun x H1 => ∃ a dx fs, x = .ref a ∧ H1 a = some (.ins C dx fs) ∧ fs.lookup m = none ∧ t σ H1 fun vs H2 => sp (x :: vs) H2 Q (E σ)
def tMakeW (C : Addr) (sp : Sp) (dvs : List V) (E : St → XK) (t : TA) : TE := fun σ H Q => t σ H fun vs H1 => ∀ x dx, H1 x = none → H1 dx = none → dx ≠ x →
  sp (.ref x :: (vs ++ dvs)) (upd (upd H1 dx (.own x)) x (.ins C dx [])) (fun v H2 => v = .non ∧ Q (.ref x) H2) (E σ)
end
/-! ### what a class has not -/
def NoAll (K : PySem.W.Frag) (C : Addr) : List Str → Prop
  | [] => True
  | f :: r => NoAttr K C f ∧ NoAll K C r
theorem NoAll.get {K : PySem.W.Frag} {C : Addr} {f : Str} : ∀ {fs : List Str}, NoAll K C fs → f ∈ fs → NoAttr K C f
  | [], _, h => nomatch h
  | g :: r, n, h => by
    rcases List.mem_cons.mp h with e | h
    · rw [e]; exact n.1
    · exact n.2.get h
structure ClsT (K : PySem.W.Frag) (x : Str) (fs : List Str) : Prop where
  cl : Cls K (He.ga K x)
  no : NoAll K (He.ga K x) fs
/-! ### readings -/
section
variable {K : PySem.W.Frag} {σ : St} {H : Hp} {Q : VK} {D : Ends} {ta tv : TE} {f m : Str} {C a : Addr} {sp : Sp} {dvs : List V} {E : XK} {EW : St → XK} {t : TA}
theorem x_fld (h : ta σ H fun x H1 => ∃ a C dx fs v, x = .ref a ∧ H1 a = some (.ins C dx fs) ∧ Cls K C ∧ NoAttr K C f ∧ fs.lookup f = some v ∧ Q v H1) : tFld K ta f σ H Q := h
theorem x_sfld (h : tv σ H fun y H1 => ta σ H1 fun x H2 => ∃ a C dx fs, x = .ref a ∧ H2 a = some (.ins C dx fs) ∧ Cls K C ∧ NoAttr K C f ∧ fs.length < 1000 ∧ D.nx σ (upd H2 a (.ins C dx (putF f y fs)))) : sFld K ta tv f D σ H := h
theorem x_sfldAug {rd : V → V → Hp → VK → Prop} (h : ta σ H fun x H1 => ∃ a C dx fs v, x = .ref a ∧ H1 a = some (.ins C dx fs) ∧ Cls K C ∧ NoAttr K C f ∧ fs.lookup f = some v ∧
  tv σ H1 fun y H2 => rd v y H2 fun z H3 => ∃ dx' fs', H3 a = some (.ins C dx' fs') ∧ fs'.length < 1000 ∧ D.nx σ (upd H3 a (.ins C dx' (putF f z fs')))) : sFldAug K ta tv rd f D σ H := h
theorem x_meth (h : ta σ H fun x H1 => ∃ a dx fs, x = .ref a ∧ H1 a = some (.ins C dx fs) ∧ fs.lookup m = none ∧ t σ H1 fun vs H2 => sp (x :: (vs ++ dvs)) H2 Q E) : tMeth C m sp dvs E ta t σ H Q := h
theorem x_methW (h : ta σ H fun x H1 => ∃ a dx fs, x = .ref a ∧ H1 a = some (.ins C dx fs) ∧ fs.lookup m = none ∧ t σ H1 fun vs H2 => sp (x :: vs) H2 Q (EW σ)) : tMethW C m sp EW ta t σ H Q := h
theorem x_make (h : t σ H fun vs H1 => ∀ x dx, H1 x = none → H1 dx = none → dx ≠ x → sp (.ref x :: (vs ++ dvs)) (upd (upd H1 dx (.own x)) x (.ins C dx [])) (fun v H2 => v = .non ∧ Q (.ref x) H2) E) : tMake C sp dvs E t σ H Q := h
theorem x_makeW (h : t σ H fun vs H1 => ∀ x dx, H1 x = none → H1 dx = none → dx ≠ x → sp (.ref x :: (vs ++ dvs)) (upd (upd H1 dx (.own x)) x (.ins C dx [])) (fun v H2 => v = .non ∧ Q (.ref x) H2) (EW σ)) : tMakeW C sp dvs EW t σ H Q := h
end
/-! ### frames: all but what stands in A is as it was -/
def Off (A : List Addr) (H H' : Hp) : Prop := ∀ b o, b ∉ A → H b = some o → H' b = some o
section
variable {A B : List Addr} {H H1 H2 : Hp} {x : Addr} {o : HO}
theorem Off.refl : Off A H H := fun _ _ _ h => h
theorem Off.of (s : Same H H1) : Off A H H1 := fun b o _ h => s b o h
theorem Off.trans (h : Off A H H1) (k : Off A H1 H2) : Off A H H2 := fun b o n e => k b o n (h b o n e)
theorem Off.mono (h : Off A H H1) (k : ∀ a ∈ A, a ∈ B) : Off B H H1 := fun b o n e => h b o (fun z => n (k b z)) e
theorem Off.upd (h : Off A H H1) (k : x ∈ A) : Off A H (L2.upd H1 x o) := fun b u n e => by rw [upd_ne (fun (z : b = x) => n (by rw [z]; exact k))]; exact h b u n e
theorem Off.hide (h : Off A H H1) : Same (hide A H) (Su.hide A H1) := fun b u e => by
  by_cases c : b ∈ A
  · rw [hide_in c] at e; cases e
  · rw [hide_out c] at e ⊢; exact h b u c e
theorem Off.same (h : Off A H H1) (n : ∀ a ∈ A, H a = none) : Same H H1 := fun b u e => h b u (fun c => by rw [n b c] at e; cases e) e
end
/-! ### cells -/
def Cells (H : Hp) (l : List (Addr × HO)) : Prop := ∀ p ∈ l, H p.1 = some p.2
section
variable {H H1 : Hp} {l m : List (Addr × HO)} {x : Addr} {o : HO}
theorem Cells.nil : Cells H [] := fun _ h => nomatch h
theorem Cells.cons (h : H x = some o) (k : Cells H l) : Cells H ((x, o) :: l) := fun p hp => by
  rcases List.mem_cons.mp hp with rfl | hp
  · exact h
  · exact k p hp
theorem Cells.app (h : Cells H l) (k : Cells H m) : Cells H (l ++ m) := fun p hp => (List.mem_append.mp hp).elim (h p) (k p)
theorem Cells.left (h : Cells H (l ++ m)) : Cells H l := fun p hp => h p (List.mem_append_left _ hp)
theorem Cells.at_ (h : Cells H l) {j : Nat} (e : l[j]? = some (x, o)) : H x = some o := h (x, o) (List.mem_of_getElem? e)
theorem Cells.same (h : Cells H l) (s : Same H H1) : Cells H1 l := fun p hp => s _ _ (h p hp)
theorem Cells.off {A : List Addr} (h : Cells H l) (s : Off A H H1) (n : ∀ p ∈ l, p.1 ∉ A) : Cells H1 l := fun p hp => s _ _ (n p hp) (h p hp)
theorem Cells.upd (h : Cells H l) (n : x ∉ l.map (·.1)) : Cells (upd H x o) l := fun p hp => by
  rw [upd_ne (fun e => n (List.mem_map.mpr ⟨p, hp, e⟩))]; exact h p hp
theorem Cells.set (h : Cells H l) (nd : (l.map (·.1)).Nodup) {j : Nat} {u : HO} (e : l[j]? = some (x, u)) : Cells (L2.upd H x o) (l.set j (x, o)) := fun p hp => by
  have hj := (List.getElem?_eq_some_iff.mp e).1
  obtain ⟨i, hi, rfl⟩ := List.getElem_of_mem hp
  rw [List.length_set] at hi
  by_cases c : j = i
  · subst c
    rw [List.getElem_set_self]; exact upd_same
  · rw [List.getElem_set_ne c]
    have ne : (l[i]).1 ≠ x := fun z => c (by
      have h1 : (l.map (·.1))[i]'(by rw [List.length_map]; exact hi) = x := by rw [List.getElem_map]; exact z
      have h2 : (l.map (·.1))[j]'(by rw [List.length_map]; exact hj) = x := by
        rw [List.getElem_map, (List.getElem?_eq_some_iff.mp e).2]
      exact (List.getElem_inj nd).mp (h2.trans h1.symm))
    rw [upd_ne ne]
    exact h _ (List.getElem_mem _)
theorem Cells.fresh (h : Cells H l) (n : H x = none) : x ∉ l.map (·.1) := fun c => by
  obtain ⟨p, hp, rfl⟩ := List.mem_map.mp c
  rw [h p hp] at n; cases n
end

end Su
namespace Su
open PySem L2
local macro_rules | `(tactic| walk_at "side") => `(tactic| first | assumption | (show (0 : Int) < _; omega) | (show (0 : Int) ≤ _; omega) | (show (0 : Int) < _; split <;> omega) | (show _ ∨ _; omega) | (show _ ∧ _; omega) | exact ⟨by decide, by decide, by decide⟩ | exact ⟨by first | assumption | omega, by first | assumption | omega⟩)
local macro_rules | `(tactic| walk_at "x") => `(tactic| first
  | with_reducible refine Su.x_seq ?_ | with_reducible refine Su.x_asg ?_ | with_reducible refine Su.x_gname ?_ | with_reducible refine Su.x_drop ?_ | with_reducible refine Su.x_ret ?_ | with_reducible refine Su.x_ifS ?_
  | ((with_reducible show L2.tVar _ _ _ _); refine Su.x_var rfl ?_) | with_reducible refine Su.x_c ?_ | with_reducible refine Su.x_op ?_ | with_reducible refine Su.x_rI0 ?_ | ((with_reducible refine Su.x_rI ?_ ?_); focus walk_at "side")
  | ((with_reducible show L2.rIxL _ (L2.V.ref _) (L2.V.int _) _ _); refine Su.x_ixI (by assumption) (by first | decide | omega) (by omega) ?_) | with_reducible refine Su.x_isi_int_int ?_ | with_reducible refine Su.x_isi_int_bool ?_ | with_reducible refine Su.x_isi_int_str ?_ | with_reducible refine Su.x_isi_int_list ?_ | with_reducible refine Su.x_isi_int_tuple ?_ | with_reducible refine Su.x_isi_bool_int ?_ | with_reducible refine Su.x_isi_bool_bool ?_ | with_reducible refine Su.x_isi_bool_str ?_ | with_reducible refine Su.x_isi_bool_list ?_ | with_reducible refine Su.x_isi_bool_tuple ?_ | with_reducible refine Su.x_isi_str_int ?_ | with_reducible refine Su.x_isi_str_bool ?_ | with_reducible refine Su.x_isi_str_str ?_ | with_reducible refine Su.x_isi_str_list ?_ | with_reducible refine Su.x_isi_str_tuple ?_ | with_reducible refine Su.x_isi_NoneType_int ?_ | with_reducible refine Su.x_isi_NoneType_bool ?_ | with_reducible refine Su.x_isi_NoneType_str ?_ | with_reducible refine Su.x_isi_NoneType_list ?_ | with_reducible refine Su.x_isi_NoneType_tuple ?_ | with_reducible refine Su.x_rGt ?_ | with_reducible refine Su.x_rGe ?_ | with_reducible refine Su.x_iteF ?_ | with_reducible refine Su.x_iteT ?_ | with_reducible refine Su.x_iteNT ?_ | with_reducible refine Su.x_iteNF ?_ | with_reducible refine Su.x_eqI ?_ | with_reducible refine Su.x_neI ?_ | with_reducible refine Su.x_eqS ?_ | with_reducible refine Su.x_neS ?_ | with_reducible refine Su.x_eqB ?_ | with_reducible refine Su.x_neB ?_
  | with_reducible refine Su.x_test ?_ | with_reducible refine Su.x_tB ?_ | with_reducible refine Su.x_isB ?_ | with_reducible refine Su.x_isB' ?_ | with_reducible refine Su.x_not ?_ | with_reducible refine Su.x_and ?_ | with_reducible refine Su.x_or ?_
  | with_reducible refine Su.x_andV ?_ | with_reducible refine Su.x_orV ?_ | with_reducible refine Su.x_notV ?_ | with_reducible refine Su.x_chain ?_ | with_reducible refine Su.x_nil ?_ | with_reducible refine Su.x_cons ?_ | with_reducible refine Su.x_cb ?_ | with_reducible refine Su.x_call ?_
  | with_reducible refine Su.x_un ?_ | with_reducible refine Su.x_rU ?_ | with_reducible refine Su.x_abs ?_ | with_reducible refine Su.x_max2 ?_ | with_reducible refine Su.x_min2 ?_ | with_reducible refine Su.x_int1 ?_ | with_reducible refine Su.x_intB ?_
  | with_reducible refine Su.x_lst ?_ | with_reducible refine Su.x_tup ?_ | with_reducible refine Su.x_bmL ?_ | with_reducible refine Su.x_next ?_ | with_reducible refine Su.x_for ?_ | with_reducible refine Su.x_iList ?_ | with_reducible refine Su.x_iRng1 ?_ | with_reducible refine Su.x_iRng2 ?_ | with_reducible refine Su.x_whileN ?_ | with_reducible refine Su.x_iEnum ?_ | with_reducible refine Su.x_iZip ?_ | with_reducible refine Su.x_iZipA ?_ | with_reducible refine Su.x_iTup ?_ | with_reducible refine Su.x_gcons ?_ | with_reducible refine Su.x_gnil ?_ | with_reducible refine Su.x_gsub ?_ | with_reducible refine Su.x_yes ?_ | with_reducible refine Su.x_lc ?_ | with_reducible refine Su.x_sl ?_ | with_reducible refine Su.x_nopart ?_ | with_reducible refine Su.x_part ?_ | with_reducible refine Su.x_isI ?_ | with_reducible refine Su.x_lstRg ?_ | with_reducible refine Su.x_rg1 ?_ | with_reducible refine Su.x_augS ?_ | with_reducible refine Su.x_ipI ?_ | ((with_reducible show L2.tAug _ _ _ _ _ _); refine Su.x_aug rfl ?_) | with_reducible refine Su.x_callS ?_ | with_reducible refine Su.x_tryAs ?_)
local macro_rules | `(tactic| walk_at "xs") => `(tactic| repeat walk_at "x")
local macro_rules | `(tactic| walk_at "if") => `(tactic| first | with_reducible refine Su.x_iteD (fun c => ?_) (fun c => ?_) | with_reducible refine Su.x_iteN (fun c => ?_) (fun c => ?_) | with_reducible refine Su.x_ite (fun c => ?_) (fun c => ?_))
local macro_rules | `(tactic| walk_at "x") => `(tactic| first | with_reducible refine Su.x_m1 ?_ | with_reducible refine Su.x_strE ?_ | with_reducible refine Su.x_m0 ?_ | with_reducible refine Su.x_dnew ?_ | with_reducible refine Su.x_dput ?_ | with_reducible refine Su.x_dgetE ?_ | with_reducible refine Su.x_dget2 ?_ | with_reducible refine Su.x_daug ?_ | with_reducible refine Su.x_din ?_ | with_reducible refine Su.x_dnin ?_ | with_reducible refine Su.x_brk ?_ | with_reducible refine Su.x_retN ?_)
/-! an auditor: its mirror, and how it stands in the heap -/
structure RepG where
  turn : Int
  word : Str
  at_ : Int
  coins : Int
  share : Int
  fallen : List Int
  helped : List Int
def dRepG (r : RepG) : PyData := .tuple [.int r.turn, .str r.word, .int r.at_, .int r.coins, .int r.share, dInts r.fallen, dInts r.helped]
structure AU where
  stake : Int
  size : Nat
  bid : Bool
  left : List Int
  waits : List Nat
  drew : List Nat
  fell : Int
  due : Int
  seen : Int
def growsB (al : List Nat) : Int → List Int → Bool
  | _, [] => true
  | a, x :: l => !(decide (x ≤ a) || !(decide (x ∈ al.map fun (n : Nat) => (n : Int)))) && growsB al x l
theorem growsB_cons {al : List Nat} {a x : Int} {l : List Int} : growsB al a (x :: l) = (!(decide (x ≤ a) || !(decide (x ∈ al.map fun (n : Nat) => (n : Int)))) && growsB al x l) := rfl
def AU.people (u : AU) (r : RepG) : Bool :=
  (!(!(decide (r.turn = u.seen + 1)) || decide ((u.size : Int) < r.turn)) && (growsB u.waits (-1) r.fallen && growsB u.drew (-1) r.helped)) && r.helped.all fun x => decide (u.stake ≤ u.left.getD x.toNat 0)
def payLeft (s : Int) (l : List Int) (hs : List Int) : List Int := hs.foldl (fun l x => l.set x.toNat (l.getD x.toNat 0 - s)) l
def AU.step1 (u : AU) (r : RepG) : AU := { u with waits := u.waits.filter (fun (x : Nat) => !decide ((x : Int) ∈ r.fallen)), fell := u.fell + r.fallen.length, due := u.due + r.fallen.length, left := payLeft u.stake u.left r.helped }
def AU.coinsG (u : AU) (r : RepG) : Bool :=
  if 0 < u.due then decide (r.word = "box") && (decide (r.at_ = -1) && (decide (r.coins = u.stake * (u.size - u.fell)) && decide (r.share = 0)))
  else if ¬ r.word = "draw" ∨ r.at_ ∉ u.waits.map (fun (n : Nat) => (n : Int)) ∨ u.left.getD r.at_.toNat 0 < u.stake * (u.size - r.turn) then false
  else if (u.bid = false ∨ (u.size : Int) - u.fell = 1) ∧ r.share ≠ 0 then false
  else if u.bid = false ∧ r.at_ ≠ ((u.waits.getD 0 0 : Nat) : Int) then false
  else decide (0 ≤ r.share) && (decide (0 ≤ r.coins) && decide (r.coins = u.stake * u.size - r.share * (u.size - u.fell - 1)))
def AU.step2 (u : AU) (r : RepG) : AU := if 0 < u.due then { u with due := u.due - 1, seen := u.seen + 1 } else { u with waits := u.waits.erase r.at_.toNat, drew := u.drew ++ [r.at_.toNat], seen := u.seen + 1 }
def AU.take (u : AU) (r : RepG) : Option AU := if u.people r = true then if (u.step1 r).coinsG r = true then some ((u.step1 r).step2 r) else none else none
def firstG : AU → Nat → List RepG → Int
  | _, _, [] => -1
  | u, n, r :: l => match u.take r with
    | some v => firstG v (n + 1) l
    | none => n
structure AuOk (u : AU) : Prop where
  n : u.size ≤ 100
  s0 : 1 ≤ u.stake
  s1 : u.stake ≤ 1000000
  l : u.left.length = u.size
  w : ∀ x ∈ u.waits, x < u.size
  d : ∀ x ∈ u.drew, x < u.size
  wl : u.waits.length ≤ 1000
  dl : u.drew.length ≤ 1000
theorem payLeft_len (s : Int) : ∀ (hs l : List Int), (payLeft s l hs).length = l.length
  | [], _ => rfl
  | x :: hs, l => by
    show (payLeft s (l.set _ _) hs).length = _
    rw [payLeft_len s hs, List.length_set]
theorem AuOk.step1 {u : AU} (h : AuOk u) (r : RepG) : AuOk (u.step1 r) := ⟨h.n, h.s0, h.s1, (payLeft_len _ _ _).trans h.l, fun x hx => h.w x (List.mem_filter.mp hx).1, h.d, Nat.le_trans (List.length_filter_le _ _) h.wl, h.dl⟩
def audNames : List Str := ["stake", "size", "bidding", "left", "waits", "drew", "many_fell", "still_due", "seen"]
def audFs (a : Nat → Addr) (u : AU) : List (Str × V) := [("stake", .int u.stake), ("size", .int u.size), ("bidding", .bl u.bid), ("left", .ref (a 2)), ("waits", .ref (a 3)), ("drew", .ref (a 4)), ("many_fell", .int u.fell), ("still_due", .int u.due), ("seen", .int u.seen)]
def audFoot (a : Nat → Addr) : List Addr := [a 0, a 1, a 2, a 3, a 4]
structure AudAt (K : PySem.W.Frag) (H : Hp) (a : Nat → Addr) (u : AU) : Prop where
  t : ClsT K "Auditor" audNames
  c0 : H (a 0) = some (.ins (He.ga K "Auditor") (a 1) (audFs a u))
  c1 : H (a 1) = some (.own (a 0))
  c2 : H (a 2) = some (.lst (u.left.map V.int))
  c3 : H (a 3) = some (.lst (nI u.waits))
  c4 : H (a 4) = some (.lst (nI u.drew))
  n02 : a 0 ≠ a 2
  n03 : a 0 ≠ a 3
  n04 : a 0 ≠ a 4
  n12 : a 1 ≠ a 2
  n13 : a 1 ≠ a 3
  n14 : a 1 ≠ a 4
  n01 : a 0 ≠ a 1
  n23 : a 2 ≠ a 3
  n24 : a 2 ≠ a 4
  n34 : a 3 ≠ a 4
/-- the auditor stands in H, all of G beside it -/
structure AudIn (K : PySem.W.Frag) (G H : Hp) (a : Nat → Addr) (u : AU) : Prop where
  at_ : AudAt K H a u
  s : Same G (hide (audFoot a) H)
section
variable {K : PySem.W.Frag} {G H H' : Hp} {a : Nat → Addr} {u : AU} {Q : VK} {D : Ends} {σ : St}
theorem AudAt.same (h : AudAt K H a u) (s : Same H H') : AudAt K H' a u := ⟨h.t, s _ _ h.c0, s _ _ h.c1, s _ _ h.c2, s _ _ h.c3, s _ _ h.c4, h.n02, h.n03, h.n04, h.n12, h.n13, h.n14, h.n01, h.n23, h.n24, h.n34⟩
theorem AudIn.same (h : AudIn K G H a u) (s : Same H H') : AudIn K G H' a u := ⟨h.at_.same s, h.s.trans (hide_mono s)⟩
theorem AudIn.up (h : AudIn K G H a u) : Same G H := h.s.trans hide_same
theorem u_fld {f : Str} {v : V} {P : V → Prop} (h : AudIn K G H a u) (m : f ∈ audNames) (l : (audFs a u).lookup f = some v) (q : P v) : ∃ a' C dx fs v', V.ref (a 0) = .ref a' ∧ H a' = some (.ins C dx fs) ∧ Cls K C ∧ NoAttr K C f ∧ fs.lookup f = some v' ∧ P v' :=
  ⟨a 0, _, _, _, v, rfl, h.at_.c0, h.at_.t.cl, h.at_.t.no.get m, l, q⟩
theorem u_meth {m : Str} {P : Prop} (h : AudIn K G H a u) (l : (audFs a u).lookup m = none) (q : P) : ∃ a' dx fs, V.ref (a 0) = .ref a' ∧ H a' = some (.ins (He.ga K "Auditor") dx fs) ∧ fs.lookup m = none ∧ P := ⟨a 0, _, _, rfl, h.at_.c0, l, q⟩
theorem u_aug {f : Str} {v : V} {P : Addr → Addr → V → Prop} (h : AudIn K G H a u) (m : f ∈ audNames) (l : (audFs a u).lookup f = some v) (q : P (a 0) (He.ga K "Auditor") v) : ∃ a' C dx fs v', V.ref (a 0) = .ref a' ∧ H a' = some (.ins C dx fs) ∧ Cls K C ∧ NoAttr K C f ∧ fs.lookup f = some v' ∧ P a' C v' :=
  ⟨a 0, _, _, _, v, rfl, h.at_.c0, h.at_.t.cl, h.at_.t.no.get m, l, q⟩
theorem x_rAddG {i j : Int} (h : Q (.int (i + j)) H) : L2.rAdd (.int i) (.int j) H Q := ⟨i, j, rfl, rfl, h⟩
theorem x_rSubG {i j : Int} (h : Q (.int (i - j)) H) : L2.rSub (.int i) (.int j) H Q := ⟨i, j, rfl, rfl, h⟩
theorem u_stake {P : V → Prop} (h : AudIn K G H a u) (q : P (.int u.stake)) : ∃ a' C dx fs v', V.ref (a 0) = .ref a' ∧ H a' = some (.ins C dx fs) ∧ Cls K C ∧ NoAttr K C ("stake" : Str) ∧ fs.lookup ("stake" : Str) = some v' ∧ P v' := u_fld h (by decide +kernel) rfl q
theorem u_size {P : V → Prop} (h : AudIn K G H a u) (q : P (.int u.size)) : ∃ a' C dx fs v', V.ref (a 0) = .ref a' ∧ H a' = some (.ins C dx fs) ∧ Cls K C ∧ NoAttr K C ("size" : Str) ∧ fs.lookup ("size" : Str) = some v' ∧ P v' := u_fld h (by decide +kernel) rfl q
theorem u_bidding {P : V → Prop} (h : AudIn K G H a u) (q : P (.bl u.bid)) : ∃ a' C dx fs v', V.ref (a 0) = .ref a' ∧ H a' = some (.ins C dx fs) ∧ Cls K C ∧ NoAttr K C ("bidding" : Str) ∧ fs.lookup ("bidding" : Str) = some v' ∧ P v' := u_fld h (by decide +kernel) rfl q
theorem u_left {P : V → Prop} (h : AudIn K G H a u) (q : P (.ref (a 2))) : ∃ a' C dx fs v', V.ref (a 0) = .ref a' ∧ H a' = some (.ins C dx fs) ∧ Cls K C ∧ NoAttr K C ("left" : Str) ∧ fs.lookup ("left" : Str) = some v' ∧ P v' := u_fld h (by decide +kernel) rfl q
theorem u_waits {P : V → Prop} (h : AudIn K G H a u) (q : P (.ref (a 3))) : ∃ a' C dx fs v', V.ref (a 0) = .ref a' ∧ H a' = some (.ins C dx fs) ∧ Cls K C ∧ NoAttr K C ("waits" : Str) ∧ fs.lookup ("waits" : Str) = some v' ∧ P v' := u_fld h (by decide +kernel) rfl q
theorem u_drew {P : V → Prop} (h : AudIn K G H a u) (q : P (.ref (a 4))) : ∃ a' C dx fs v', V.ref (a 0) = .ref a' ∧ H a' = some (.ins C dx fs) ∧ Cls K C ∧ NoAttr K C ("drew" : Str) ∧ fs.lookup ("drew" : Str) = some v' ∧ P v' := u_fld h (by decide +kernel) rfl q
theorem u_fell {P : V → Prop} (h : AudIn K G H a u) (q : P (.int u.fell)) : ∃ a' C dx fs v', V.ref (a 0) = .ref a' ∧ H a' = some (.ins C dx fs) ∧ Cls K C ∧ NoAttr K C ("many_fell" : Str) ∧ fs.lookup ("many_fell" : Str) = some v' ∧ P v' := u_fld h (by decide +kernel) rfl q
theorem u_due {P : V → Prop} (h : AudIn K G H a u) (q : P (.int u.due)) : ∃ a' C dx fs v', V.ref (a 0) = .ref a' ∧ H a' = some (.ins C dx fs) ∧ Cls K C ∧ NoAttr K C ("still_due" : Str) ∧ fs.lookup ("still_due" : Str) = some v' ∧ P v' := u_fld h (by decide +kernel) rfl q
theorem u_seen {P : V → Prop} (h : AudIn K G H a u) (q : P (.int u.seen)) : ∃ a' C dx fs v', V.ref (a 0) = .ref a' ∧ H a' = some (.ins C dx fs) ∧ Cls K C ∧ NoAttr K C ("seen" : Str) ∧ fs.lookup ("seen" : Str) = some v' ∧ P v' := u_fld h (by decide +kernel) rfl q
/-! writes -/
theorem foot_in (k : Nat) (h : k < 5) : a k ∈ audFoot a := by
  match k, h with
  | 0, _ | 1, _ | 2, _ | 3, _ | 4, _ => simp [audFoot]
theorem AudIn.set0 (h : AudIn K G H a u) {u' : AU} (hl : u'.left = u.left) (hw : u'.waits = u.waits) (hd : u'.drew = u.drew) : AudIn K G (upd H (a 0) (.ins (He.ga K "Auditor") (a 1) (audFs a u'))) a u' := by
  have p := h.at_
  refine ⟨⟨p.t, upd_same, ?_, ?_, ?_, ?_, p.n02, p.n03, p.n04, p.n12, p.n13, p.n14, p.n01, p.n23, p.n24, p.n34⟩, by rw [hide_upd (foot_in 0 (by decide))]; exact h.s⟩
  · rw [upd_ne p.n01.symm]; exact p.c1
  · rw [upd_ne p.n02.symm, hl]; exact p.c2
  · rw [upd_ne p.n03.symm, hw]; exact p.c3
  · rw [upd_ne p.n04.symm, hd]; exact p.c4
theorem AudIn.setLeft (h : AudIn K G H a u) (l : List Int) : AudIn K G (upd H (a 2) (.lst (l.map V.int))) a { u with left := l } := by
  have p := h.at_
  refine ⟨⟨p.t, ?_, ?_, upd_same, ?_, ?_, p.n02, p.n03, p.n04, p.n12, p.n13, p.n14, p.n01, p.n23, p.n24, p.n34⟩, by rw [hide_upd (foot_in 2 (by decide))]; exact h.s⟩
  · rw [upd_ne p.n02]; exact p.c0
  · rw [upd_ne p.n12]; exact p.c1
  · rw [upd_ne p.n23.symm]; exact p.c3
  · rw [upd_ne p.n24.symm]; exact p.c4
theorem AudIn.setWaits (h : AudIn K G H a u) (l : List Nat) : AudIn K G (upd H (a 3) (.lst (nI l))) a { u with waits := l } := by
  have p := h.at_
  refine ⟨⟨p.t, ?_, ?_, ?_, upd_same, ?_, p.n02, p.n03, p.n04, p.n12, p.n13, p.n14, p.n01, p.n23, p.n24, p.n34⟩, by rw [hide_upd (foot_in 3 (by decide))]; exact h.s⟩
  · rw [upd_ne p.n03]; exact p.c0
  · rw [upd_ne p.n13]; exact p.c1
  · rw [upd_ne p.n23]; exact p.c2
  · rw [upd_ne p.n34.symm]; exact p.c4
theorem AudIn.setDrew (h : AudIn K G H a u) (l : List Nat) : AudIn K G (upd H (a 4) (.lst (nI l))) a { u with drew := l } := by
  have p := h.at_
  refine ⟨⟨p.t, ?_, ?_, ?_, ?_, upd_same, p.n02, p.n03, p.n04, p.n12, p.n13, p.n14, p.n01, p.n23, p.n24, p.n34⟩, by rw [hide_upd (foot_in 4 (by decide))]; exact h.s⟩
  · rw [upd_ne p.n04]; exact p.c0
  · rw [upd_ne p.n14]; exact p.c1
  · rw [upd_ne p.n24]; exact p.c2
  · rw [upd_ne p.n34]; exact p.c3
theorem u_put {f : Str} {v : V} {u' : AU} {Qh : Hp → Prop} (h : AudIn K G H a u) (e : putF f v (audFs a u) = audFs a u') (hl : u'.left = u.left) (hw : u'.waits = u.waits) (hd : u'.drew = u.drew) (q : ∀ H', AudIn K G H' a u' → Qh H') : ∃ dx' fs', H (a 0) = some (.ins (He.ga K "Auditor") dx' fs') ∧ fs'.length < 1000 ∧ Qh (upd H (a 0) (.ins (He.ga K "Auditor") dx' (putF f v fs'))) :=
  ⟨_, _, h.at_.c0, by show 9 < 1000; decide, by rw [e]; exact q _ (h.set0 hl hw hd)⟩
/-- another list stands as the waiting ones -/
theorem AudIn.newWaits (h : AudIn K G H a u) {q : Addr} {l : List Nat} {H1 : Hp} (s1 : Same H H1) (nq : H q = none) (hq : H1 q = some (.lst (nI l))) :
    AudIn K G (upd H1 (a 0) (.ins (He.ga K "Auditor") (a 1) (audFs (fun k => if k = 3 then q else a k) { u with waits := l }))) (fun k => if k = 3 then q else a k) { u with waits := l } := by
  have p := h.at_
  have n0 : a 0 ≠ q := fun z => by rw [← z, p.c0] at nq; cases nq
  have n1 : a 1 ≠ q := fun z => by rw [← z, p.c1] at nq; cases nq
  have n2 : a 2 ≠ q := fun z => by rw [← z, p.c2] at nq; cases nq
  have n4 : a 4 ≠ q := fun z => by rw [← z, p.c4] at nq; cases nq
  refine ⟨⟨p.t, upd_same, ?_, ?_, ?_, ?_, p.n02, n0, p.n04, p.n12, n1, p.n14, p.n01, n2, p.n24, n4.symm⟩, fun y o e => ?_⟩
  · show upd H1 (a 0) _ (a 1) = _; rw [upd_ne p.n01.symm]; exact s1 _ _ p.c1
  · show upd H1 (a 0) _ (a 2) = _; rw [upd_ne p.n02.symm]; exact s1 _ _ p.c2
  · show upd H1 (a 0) _ q = _; rw [upd_ne n0.symm]; exact hq
  · show upd H1 (a 0) _ (a 4) = _; rw [upd_ne p.n04.symm]; exact s1 _ _ p.c4
  · have e1 := h.s y o e
    have ny : y ∉ audFoot a := fun z => by rw [hide_in z] at e1; cases e1
    rw [hide_out ny] at e1
    have yq : y ≠ q := fun z => by rw [z, nq] at e1; cases e1
    have ny' : y ∉ audFoot (fun k => if k = 3 then q else a k) := fun z => by
      simp only [audFoot, List.mem_cons, List.not_mem_nil, or_false] at z ny
      rcases z with z | z | z | z | z
      · exact ny (.inl z)
      · exact ny (.inr (.inl z))
      · exact ny (.inr (.inr (.inl z)))
      · exact yq z
      · exact ny (.inr (.inr (.inr (.inr z))))
    rw [hide_out ny', upd_ne (fun z => ny (by rw [z]; exact foot_in 0 (by decide)))]
    exact s1 _ _ e1
theorem dp_repG {v : V} {r : RepG} (h : Dp K H v (dRepG r)) : ∃ t f g : Addr, v = .ref t ∧ SqT K H t [.int r.turn, .str r.word, .int r.at_, .int r.coins, .int r.share, .ref f, .ref g] ∧ SqL K H f (r.fallen.map V.int) ∧ SqL K H g (r.helped.map V.int) := by
  obtain ⟨t, xs, rfl, h1, h2⟩ := dp_tup h
  cases h2 with | cons d0 h2 => cases h2 with | cons d1 h2 => cases h2 with | cons d2 h2 => cases h2 with | cons d3 h2 => cases h2 with | cons d4 h2 => cases h2 with | cons d5 h2 => cases h2 with | cons d6 h2 =>
  cases h2
  cases dp_int d0; cases dp_str d1; cases dp_int d2; cases dp_int d3; cases dp_int d4
  obtain ⟨f, xs, rfl, hf, hx⟩ := dp_lst d5
  obtain ⟨g, ys, rfl, hg, hy⟩ := dp_lst d6
  rw [dpAll_ints hx] at hf
  rw [dpAll_ints hy] at hg
  exact ⟨t, f, g, rfl, h1, hf, hg⟩
theorem x_notInG {p : Addr} {i : Int} {l : List Nat} (e : SqL K H p (nI l)) (h : Q (.bl (!decide (i ∈ l.map fun (n : Nat) => (n : Int)))) H) : rIn K true (.int i) (.ref p) H Q := x_notInI (row := l.map fun (n : Nat) => (n : Int)) (by rw [List.map_map]; exact e) h
end

end Su
namespace Su
open PySem L2
local macro_rules | `(tactic| walk_at "side") => `(tactic| first | assumption | (show (0 : Int) < _; omega) | (show (0 : Int) ≤ _; omega) | (show (0 : Int) < _; split <;> omega) | (show _ ∨ _; omega) | (show _ ∧ _; omega) | exact ⟨by decide, by decide, by decide⟩ | exact ⟨by first | assumption | omega, by first | assumption | omega⟩)
local macro_rules | `(tactic| walk_at "x") => `(tactic| first | with_reducible refine Su.x_seq ?_ | with_reducible refine Su.x_asg ?_ | with_reducible refine Su.x_gname ?_ | with_reducible refine Su.x_ret ?_ | with_reducible refine Su.x_ifS ?_ | ((with_reducible show L2.tVar _ _ _ _); refine Su.x_var rfl ?_) | with_reducible refine Su.x_c ?_ | with_reducible refine Su.x_op ?_ | with_reducible refine Su.x_rI0 ?_ | with_reducible refine Su.x_iteF ?_ | with_reducible refine Su.x_iteT ?_ | with_reducible refine Su.x_eqI ?_ | with_reducible refine Su.x_test ?_ | with_reducible refine Su.x_isB' ?_ | with_reducible refine Su.x_and ?_ | with_reducible refine Su.x_or ?_ | with_reducible refine Su.x_nil ?_ | with_reducible refine Su.x_cons ?_ | with_reducible refine Su.x_un ?_ | with_reducible refine Su.x_rU ?_ | with_reducible refine Su.x_next ?_ | with_reducible refine Su.x_for ?_ | with_reducible refine Su.x_iEnum ?_ | with_reducible refine Su.x_gcons ?_ | with_reducible refine Su.x_gnil ?_)
local macro_rules | `(tactic| walk_at "xs") => `(tactic| repeat walk_at "x")
local macro_rules | `(tactic| walk_at "if") => `(tactic| first | with_reducible refine Su.x_iteD (fun c => ?_) (fun c => ?_) | with_reducible refine Su.x_iteN (fun c => ?_) (fun c => ?_) | with_reducible refine Su.x_ite (fun c => ?_) (fun c => ?_))

/-! next_window -/
end Su
namespace Su
open PySem L2
local macro_rules | `(tactic| walk_at "side") => `(tactic| first | assumption | (show (0 : Int) < _; omega) | (show (0 : Int) ≤ _; omega) | (show (0 : Int) < _; split <;> omega) | (show _ ∨ _; omega) | (show _ ∧ _; omega) | exact ⟨by decide, by decide, by decide⟩ | exact ⟨by first | assumption | omega, by first | assumption | omega⟩)
local macro_rules | `(tactic| walk_at "x") => `(tactic| first | with_reducible refine Su.x_seq ?_ | with_reducible refine Su.x_asg ?_ | with_reducible refine Su.x_gname ?_ | with_reducible refine Su.x_ret ?_ | ((with_reducible show L2.tVar _ _ _ _); refine Su.x_var rfl ?_) | with_reducible refine Su.x_c ?_ | with_reducible refine Su.x_op ?_ | with_reducible refine Su.x_rI0 ?_ | with_reducible refine Su.x_rGt ?_ | with_reducible refine Su.x_test ?_ | with_reducible refine Su.x_isB' ?_ | with_reducible refine Su.x_and ?_ | with_reducible refine Su.x_nil ?_ | with_reducible refine Su.x_cons ?_ | with_reducible refine Su.x_call ?_ | with_reducible refine Su.x_tup ?_ | with_reducible refine Su.x_whileN ?_ | with_reducible refine Su.x_ipI ?_ | ((with_reducible show L2.tAug _ _ _ _ _ _); refine Su.x_aug rfl ?_))
local macro_rules | `(tactic| walk_at "xs") => `(tactic| repeat walk_at "x")
local macro_rules | `(tactic| walk_at "if") => `(tactic| first | with_reducible refine Su.x_iteD (fun c => ?_) (fun c => ?_) | with_reducible refine Su.x_iteN (fun c => ?_) (fun c => ?_) | with_reducible refine Su.x_ite (fun c => ?_) (fun c => ?_))

/-! bar_of -/
end Su
namespace Su
open PySem L2
local macro_rules | `(tactic| walk_at "side") => `(tactic| first | assumption | (show (0 : Int) < _; omega) | (show (0 : Int) ≤ _; omega) | (show (0 : Int) < _; split <;> omega) | (show _ ∨ _; omega) | (show _ ∧ _; omega) | exact ⟨by decide, by decide, by decide⟩ | exact ⟨by first | assumption | omega, by first | assumption | omega⟩)
local macro_rules | `(tactic| walk_at "x") => `(tactic| first | with_reducible refine Su.x_seq ?_ | with_reducible refine Su.x_asg ?_ | with_reducible refine Su.x_gname ?_ | with_reducible refine Su.x_drop ?_ | with_reducible refine Su.x_ret ?_ | with_reducible refine Su.x_ifS ?_ | ((with_reducible show L2.tVar _ _ _ _); refine Su.x_var rfl ?_) | with_reducible refine Su.x_c ?_ | with_reducible refine Su.x_op ?_ | with_reducible refine Su.x_rI0 ?_ | with_reducible refine Su.x_eqI ?_ | with_reducible refine Su.x_test ?_ | with_reducible refine Su.x_isB' ?_ | with_reducible refine Su.x_nil ?_ | with_reducible refine Su.x_cons ?_ | with_reducible refine Su.x_cb ?_ | with_reducible refine Su.x_call ?_ | with_reducible refine Su.x_un ?_ | with_reducible refine Su.x_rU ?_ | with_reducible refine Su.x_lst ?_ | with_reducible refine Su.x_tup ?_ | with_reducible refine Su.x_bmL ?_ | with_reducible refine Su.x_next ?_ | with_reducible refine Su.x_for ?_ | with_reducible refine Su.x_iRng2 ?_)
local macro_rules | `(tactic| walk_at "xs") => `(tactic| repeat walk_at "x")
local macro_rules | `(tactic| walk_at "if") => `(tactic| first | with_reducible refine Su.x_iteD (fun c => ?_) (fun c => ?_) | with_reducible refine Su.x_iteN (fun c => ?_) (fun c => ?_) | with_reducible refine Su.x_ite (fun c => ?_) (fun c => ?_))

/-! order_or_bar -/
end Su
namespace Su
open PySem L2
local macro_rules | `(tactic| walk_at "side") => `(tactic| first | assumption | (show (0 : Int) < _; omega) | (show (0 : Int) ≤ _; omega) | (show (0 : Int) < _; split <;> omega) | (show _ ∨ _; omega) | (show _ ∧ _; omega) | exact ⟨by decide, by decide, by decide⟩ | exact ⟨by first | assumption | omega, by first | assumption | omega⟩)
local macro_rules | `(tactic| walk_at "x") => `(tactic| first | with_reducible refine Su.x_seq ?_ | with_reducible refine Su.x_asg ?_ | with_reducible refine Su.x_gname ?_ | with_reducible refine Su.x_ret ?_ | with_reducible refine Su.x_ifS ?_ | ((with_reducible show L2.tVar _ _ _ _); refine Su.x_var rfl ?_) | with_reducible refine Su.x_c ?_ | with_reducible refine Su.x_op ?_ | with_reducible refine Su.x_rI0 ?_ | ((with_reducible refine Su.x_rI ?_ ?_); focus walk_at "side") | with_reducible refine Su.x_test ?_ | with_reducible refine Su.x_isB' ?_ | with_reducible refine Su.x_next ?_)
local macro_rules | `(tactic| walk_at "xs") => `(tactic| repeat walk_at "x")
local macro_rules | `(tactic| walk_at "if") => `(tactic| first | with_reducible refine Su.x_iteD (fun c => ?_) (fun c => ?_) | with_reducible refine Su.x_iteN (fun c => ?_) (fun c => ?_) | with_reducible refine Su.x_ite (fun c => ?_) (fun c => ?_))

/-! first_covered -/
def firstCov (s n p : Int) : Int := if n - p / s < 1 then 1 else n - p / s
end Su
namespace Su
open PySem L2
local macro_rules | `(tactic| walk_at "side") => `(tactic| first | assumption | (show (0 : Int) < _; omega) | (show (0 : Int) ≤ _; omega) | (show (0 : Int) < _; split <;> omega) | (show _ ∨ _; omega) | (show _ ∧ _; omega) | exact ⟨by decide, by decide, by decide⟩ | exact ⟨by first | assumption | omega, by first | assumption | omega⟩)
local macro_rules | `(tactic| walk_at "xs") => `(tactic| repeat walk_at "x")
local macro_rules | `(tactic| walk_at "if") => `(tactic| first | with_reducible refine Su.x_iteD (fun c => ?_) (fun c => ?_) | with_reducible refine Su.x_iteN (fun c => ?_) (fun c => ?_) | with_reducible refine Su.x_ite (fun c => ?_) (fun c => ?_))

/-! a list of windows that is changed by place -/
def WinAt (K : PySem.W.Frag) (H : Hp) (p : Addr) (ws : List (Int × Int)) : Prop := ∃ xs, H p = some (.lst xs) ∧ DpAll K (del H p) xs (ws.map dPair)
section
variable {K : PySem.W.Frag} {H H' : Hp} {p t : Addr} {ws : List (Int × Int)}
theorem WinAt.dp (h : WinAt K H p ws) : Dp K H (.ref p) (dWin ws) := by
  obtain ⟨xs, h1, h2⟩ := h
  exact .lst (SqL.of h1) (dpAll_same del_same h2)
theorem WinAt.same (h : WinAt K H p ws) (s : Same H H') : WinAt K H' p ws := by
  obtain ⟨xs, h1, h2⟩ := h
  exact ⟨xs, s _ _ h1, dpAll_same (del_mono s) h2⟩
theorem WinAt.lst (h : WinAt K H p ws) : ∃ xs, H p = some (.lst xs) ∧ xs.length = ws.length := by
  obtain ⟨xs, h1, h2⟩ := h
  exact ⟨xs, h1, by rw [dpAll_len h2, List.length_map]⟩
theorem rep_flat {v : V} : ∀ n, (List.replicate n [v]).flatten = List.replicate n v
  | 0 => rfl
  | n + 1 => by rw [List.replicate_succ, List.flatten_cons, rep_flat n, List.replicate_succ]; rfl
theorem al_rep {l : Addr} {v : V} {n : Nat} {Q : VK} (h : H l = some (.lst [v])) (hn : n ≤ 100000) (q : ∀ p H', H p = none → Same H H' → H' p = some (.lst (List.replicate n v)) → (∀ b, b ≠ p → H' b = H b) → Q (.ref p) H') : rRep (.ref l) (.int n) H Q := by
  refine ⟨l, n, [v], rfl, rfl, h, by omega, by omega, Nat.le_of_lt (small (by simp; omega)), fun p np => ?_⟩
  refine q p _ np (same_new (Same.refl H) np) ?_ fun b hb => upd_ne hb
  rw [upd_same, Int.toNat_natCast, rep_flat]
end
end Su
namespace Su
open PySem L2
local macro_rules | `(tactic| walk_at "side") => `(tactic| first | assumption | (show (0 : Int) < _; omega) | (show (0 : Int) ≤ _; omega) | (show (0 : Int) < _; split <;> omega) | (show _ ∨ _; omega) | (show _ ∧ _; omega) | exact ⟨by decide, by decide, by decide⟩ | exact ⟨by first | assumption | omega, by first | assumption | omega⟩)
local macro_rules | `(tactic| walk_at "xs") => `(tactic| repeat walk_at "x")
local macro_rules | `(tactic| walk_at "if") => `(tactic| first | with_reducible refine Su.x_iteD (fun c => ?_) (fun c => ?_) | with_reducible refine Su.x_iteN (fun c => ?_) (fun c => ?_) | with_reducible refine Su.x_ite (fun c => ?_) (fun c => ?_))

/-! a circle: its mirror, and how it stands in the heap -/
inductive Seat where
  | waits | drew | fell
  deriving DecidableEq
def Seat.s : Seat → Str
  | .waits => "waits"
  | .drew => "drew"
  | .fell => "fell"
structure SeatR where
  st : Seat := .waits
  wh : Int := 0
  pl : Int := 0
  gv : Int := 0
  dr : Int := 0
  sh : Int := 0
  ms : Int := 0
  fl : List Int := []
instance : Inhabited SeatR := ⟨{}⟩
structure CS where
  stake : Int
  bidding : Bool
  now : Nat
  line : List Nat
  due : Nat
  chest : Int
  seats : List SeatR
abbrev CS.size (st : CS) : Nat := st.seats.length
abbrev CS.get (st : CS) (i : Nat) : SeatR := st.seats.getD i {}
def cirNames : List Str := ["stake", "size", "bidding", "now", "line", "due", "chest", "state", "when", "pledged", "given", "drawn", "shared", "missed", "flows"]
def cirFs (a : Nat → Addr) (st : CS) : List (Str × V) := [("stake", .int st.stake), ("size", .int st.size), ("bidding", .bl st.bidding), ("now", .int st.now), ("line", .ref (a 2)), ("due", .int st.due), ("chest", .int st.chest), ("state", .ref (a 3)), ("when", .ref (a 4)),
  ("pledged", .ref (a 5)), ("given", .ref (a 6)), ("drawn", .ref (a 7)), ("shared", .ref (a 8)), ("missed", .ref (a 9)), ("flows", .ref (a 10))]
abbrev intsO (l : List Int) : HO := .lst (l.map V.int)
def cirCell (K : PySem.W.Frag) (a : Nat → Addr) (st : CS) : Nat → HO
  | 0 => .ins (He.ga K "Circle") (a 1) (cirFs a st)
  | 1 => .own (a 0)
  | 2 => .lst (nI st.line)
  | 3 => .lst (st.seats.map fun r => .str r.st.s)
  | 4 => .lst (st.seats.map fun r => .int r.wh)
  | 5 => .lst (st.seats.map fun r => .int r.pl)
  | 6 => .lst (st.seats.map fun r => .int r.gv)
  | 7 => .lst (st.seats.map fun r => .int r.dr)
  | 8 => .lst (st.seats.map fun r => .int r.sh)
  | 9 => .lst (st.seats.map fun r => .int r.ms)
  | 10 => .lst ((List.range st.size).map fun i => .ref (a (11 + i)))
  | n + 11 => intsO (st.get n).fl
def cirFoot (a : Nat → Addr) (n : Nat) : List Addr := (List.range (11 + n)).map a
structure CirAt (K : PySem.W.Frag) (H : Hp) (a : Nat → Addr) (st : CS) : Prop where
  t : ClsT K "Circle" cirNames
  inj : ∀ i j, i < 11 + st.size → j < 11 + st.size → a i = a j → i = j
  at_ : ∀ j, j < 11 + st.size → H (a j) = some (cirCell K a st j)
section
variable {K : PySem.W.Frag} {H H' : Hp} {a : Nat → Addr} {st st' : CS} {Q : VK} {D : Ends} {σ : St}
theorem mem_foot {n j : Nat} (h : j < 11 + n) : a j ∈ cirFoot a n := List.mem_map.mpr ⟨j, List.mem_range.mpr h, rfl⟩
theorem CirAt.same (h : CirAt K H a st) (s : Same H H') : CirAt K H' a st := ⟨h.t, h.inj, fun j hj => s _ _ (h.at_ j hj)⟩
theorem CirAt.off (h : CirAt K H a st) {A : List Addr} (s : Off A H H') (n : ∀ b ∈ cirFoot a st.size, b ∉ A) : CirAt K H' a st := ⟨h.t, h.inj, fun j hj => s _ _ (n _ (mem_foot hj)) (h.at_ j hj)⟩
theorem CirAt.upd_out (h : CirAt K H a st) {x : Addr} {o : HO} (n : x ∉ cirFoot a st.size) : CirAt K (upd H x o) a st := ⟨h.t, h.inj, fun j hj => by
  rw [upd_ne (fun e => n (by rw [← e]; exact mem_foot hj))]; exact h.at_ j hj⟩
theorem CirAt.fresh (h : CirAt K H a st) {x : Addr} (n : H x = none) : x ∉ cirFoot a st.size := fun c => by
  obtain ⟨j, hj, rfl⟩ := List.mem_map.mp c
  rw [h.at_ j (List.mem_range.mp hj)] at n; cases n
/-! fields -/
theorem c_fld {f : Str} {v : V} {P : V → Prop} (h : CirAt K H a st) (m : f ∈ cirNames) (l : (cirFs a st).lookup f = some v) (q : P v) : ∃ a' C dx fs v', V.ref (a 0) = .ref a' ∧ H a' = some (.ins C dx fs) ∧ Cls K C ∧ NoAttr K C f ∧ fs.lookup f = some v' ∧ P v' :=
  ⟨a 0, _, _, _, v, rfl, h.at_ 0 (by omega), h.t.cl, h.t.no.get m, l, q⟩
theorem c_meth {m : Str} {P : Prop} (h : CirAt K H a st) (l : (cirFs a st).lookup m = none) (q : P) : ∃ a' dx fs, V.ref (a 0) = .ref a' ∧ H a' = some (.ins (He.ga K "Circle") dx fs) ∧ fs.lookup m = none ∧ P := ⟨a 0, _, _, rfl, h.at_ 0 (by omega), l, q⟩
theorem c_stake {P : V → Prop} (h : CirAt K H a st) (q : P (.int st.stake)) : ∃ a' C dx fs v', V.ref (a 0) = .ref a' ∧ H a' = some (.ins C dx fs) ∧ Cls K C ∧ NoAttr K C ("stake" : Str) ∧ fs.lookup ("stake" : Str) = some v' ∧ P v' := c_fld h (by decide +kernel) rfl q
theorem c_size {P : V → Prop} (h : CirAt K H a st) (q : P (.int st.size)) : ∃ a' C dx fs v', V.ref (a 0) = .ref a' ∧ H a' = some (.ins C dx fs) ∧ Cls K C ∧ NoAttr K C ("size" : Str) ∧ fs.lookup ("size" : Str) = some v' ∧ P v' := c_fld h (by decide +kernel) rfl q
theorem c_bidding {P : V → Prop} (h : CirAt K H a st) (q : P (.bl st.bidding)) : ∃ a' C dx fs v', V.ref (a 0) = .ref a' ∧ H a' = some (.ins C dx fs) ∧ Cls K C ∧ NoAttr K C ("bidding" : Str) ∧ fs.lookup ("bidding" : Str) = some v' ∧ P v' := c_fld h (by decide +kernel) rfl q
theorem c_now {P : V → Prop} (h : CirAt K H a st) (q : P (.int st.now)) : ∃ a' C dx fs v', V.ref (a 0) = .ref a' ∧ H a' = some (.ins C dx fs) ∧ Cls K C ∧ NoAttr K C ("now" : Str) ∧ fs.lookup ("now" : Str) = some v' ∧ P v' := c_fld h (by decide +kernel) rfl q
theorem c_line {P : V → Prop} (h : CirAt K H a st) (q : P (.ref (a 2))) : ∃ a' C dx fs v', V.ref (a 0) = .ref a' ∧ H a' = some (.ins C dx fs) ∧ Cls K C ∧ NoAttr K C ("line" : Str) ∧ fs.lookup ("line" : Str) = some v' ∧ P v' := c_fld h (by decide +kernel) rfl q
theorem c_due {P : V → Prop} (h : CirAt K H a st) (q : P (.int st.due)) : ∃ a' C dx fs v', V.ref (a 0) = .ref a' ∧ H a' = some (.ins C dx fs) ∧ Cls K C ∧ NoAttr K C ("due" : Str) ∧ fs.lookup ("due" : Str) = some v' ∧ P v' := c_fld h (by decide +kernel) rfl q
theorem c_chest {P : V → Prop} (h : CirAt K H a st) (q : P (.int st.chest)) : ∃ a' C dx fs v', V.ref (a 0) = .ref a' ∧ H a' = some (.ins C dx fs) ∧ Cls K C ∧ NoAttr K C ("chest" : Str) ∧ fs.lookup ("chest" : Str) = some v' ∧ P v' := c_fld h (by decide +kernel) rfl q
theorem c_state {P : V → Prop} (h : CirAt K H a st) (q : P (.ref (a 3))) : ∃ a' C dx fs v', V.ref (a 0) = .ref a' ∧ H a' = some (.ins C dx fs) ∧ Cls K C ∧ NoAttr K C ("state" : Str) ∧ fs.lookup ("state" : Str) = some v' ∧ P v' := c_fld h (by decide +kernel) rfl q
theorem c_when {P : V → Prop} (h : CirAt K H a st) (q : P (.ref (a 4))) : ∃ a' C dx fs v', V.ref (a 0) = .ref a' ∧ H a' = some (.ins C dx fs) ∧ Cls K C ∧ NoAttr K C ("when" : Str) ∧ fs.lookup ("when" : Str) = some v' ∧ P v' := c_fld h (by decide +kernel) rfl q
theorem c_pledged {P : V → Prop} (h : CirAt K H a st) (q : P (.ref (a 5))) : ∃ a' C dx fs v', V.ref (a 0) = .ref a' ∧ H a' = some (.ins C dx fs) ∧ Cls K C ∧ NoAttr K C ("pledged" : Str) ∧ fs.lookup ("pledged" : Str) = some v' ∧ P v' := c_fld h (by decide +kernel) rfl q
theorem c_given {P : V → Prop} (h : CirAt K H a st) (q : P (.ref (a 6))) : ∃ a' C dx fs v', V.ref (a 0) = .ref a' ∧ H a' = some (.ins C dx fs) ∧ Cls K C ∧ NoAttr K C ("given" : Str) ∧ fs.lookup ("given" : Str) = some v' ∧ P v' := c_fld h (by decide +kernel) rfl q
theorem c_drawn {P : V → Prop} (h : CirAt K H a st) (q : P (.ref (a 7))) : ∃ a' C dx fs v', V.ref (a 0) = .ref a' ∧ H a' = some (.ins C dx fs) ∧ Cls K C ∧ NoAttr K C ("drawn" : Str) ∧ fs.lookup ("drawn" : Str) = some v' ∧ P v' := c_fld h (by decide +kernel) rfl q
theorem c_shared {P : V → Prop} (h : CirAt K H a st) (q : P (.ref (a 8))) : ∃ a' C dx fs v', V.ref (a 0) = .ref a' ∧ H a' = some (.ins C dx fs) ∧ Cls K C ∧ NoAttr K C ("shared" : Str) ∧ fs.lookup ("shared" : Str) = some v' ∧ P v' := c_fld h (by decide +kernel) rfl q
theorem c_missed {P : V → Prop} (h : CirAt K H a st) (q : P (.ref (a 9))) : ∃ a' C dx fs v', V.ref (a 0) = .ref a' ∧ H a' = some (.ins C dx fs) ∧ Cls K C ∧ NoAttr K C ("missed" : Str) ∧ fs.lookup ("missed" : Str) = some v' ∧ P v' := c_fld h (by decide +kernel) rfl q
theorem c_flows {P : V → Prop} (h : CirAt K H a st) (q : P (.ref (a 10))) : ∃ a' C dx fs v', V.ref (a 0) = .ref a' ∧ H a' = some (.ins C dx fs) ∧ Cls K C ∧ NoAttr K C ("flows" : Str) ∧ fs.lookup ("flows" : Str) = some v' ∧ P v' := c_fld h (by decide +kernel) rfl q
/-! items of the lists -/
theorem at_map {α : Type} {g : α → V} {l : List α} {i : Nat} {d : α} {j : Int} (hj : j = i) (hi : i < l.length) : atI (l.map g) j = some (g (l.getD i d)) := by
  subst hj
  rw [at_get (d := g d) (by omega) (by rw [List.length_map]; omega), List.getD_eq_getElem?_getD, List.getD_eq_getElem?_getD, List.getElem?_map, show ((i : Int)).toNat = i by omega, List.getElem?_eq_getElem hi]; rfl
end
/-! the line as a list of whole numbers -/
section
variable {K : PySem.W.Frag} {H : Hp} {Q : VK} {p : Addr} {l : List Nat} {k : Nat} {j : Int}
theorem nI_asI (l : List Nat) : nI l = (l.map fun (n : Nat) => (n : Int)).map V.int := by unfold nI; rw [List.map_map]; rfl
theorem idxOf_at (h : k ∈ l) : l[l.idxOf k]? = some k := by
  have hl := List.idxOf_lt_length_iff.mpr h
  rw [List.getElem?_eq_getElem hl, List.getElem_idxOf hl]
theorem idxOf_lt {m : Nat} (h : m < l.idxOf k) : l[m]? ≠ some k := fun e => by
  have hm := (List.getElem?_eq_some_iff.mp e)
  have := List.not_of_lt_findIdx (p := (· == k)) (xs := l) (i := m) h
  rw [hm.2] at this
  simp at this
theorem x_remN (hj : j = k) (e : H p = some (.lst (nI l))) (hk : k ∈ l) (q : Q .non (upd H p (.lst (nI (l.erase k))))) : rRemI (.ref p) [.int j] H Q := by
  subst hj
  refine ⟨p, l.map fun (n : Nat) => (n : Int), k, l.idxOf k, rfl, rfl, by rw [← nI_asI]; exact e, by rw [List.getElem?_map, idxOf_at hk]; rfl, fun m hm z => ?_, ?_⟩
  · rw [List.getElem?_map] at z
    obtain ⟨n, h1, h2⟩ := Option.map_eq_some_iff.mp z
    have : n = k := by omega
    exact idxOf_lt hm (by rw [h1, this])
  · have : ((l.map fun (n : Nat) => (n : Int)).eraseIdx (l.idxOf k)).map V.int = nI (l.erase k) := by
      rw [List.erase_eq_eraseIdx_of_idxOf rfl, nI_asI]
      congr 1
      generalize l.idxOf k = n
      clear e hk q
      induction l generalizing n with
      | nil => simp
      | cons x l ih => cases n with
        | zero => simp
        | succ n => simp [ih]
    rw [this]; exact q
end
/-! changes of one cell -/
section
variable {K : PySem.W.Frag} {H : Hp} {a : Nat → Addr} {st : CS} {i : Nat}
end

end Su
namespace Su
open PySem L2
local macro_rules | `(tactic| walk_at "side") => `(tactic| first | assumption | (show (0 : Int) < _; omega) | (show (0 : Int) ≤ _; omega) | (show (0 : Int) < _; split <;> omega) | (show _ ∨ _; omega) | (show _ ∧ _; omega) | exact ⟨by decide, by decide, by decide⟩ | exact ⟨by first | assumption | omega, by first | assumption | omega⟩)
local macro_rules | `(tactic| walk_at "x") => `(tactic| first | with_reducible refine Su.x_ret ?_ | ((with_reducible show L2.tVar _ _ _ _); refine Su.x_var rfl ?_) | with_reducible refine Su.x_op ?_ | with_reducible refine Su.x_rI0 ?_ | with_reducible refine Su.x_cons ?_ | with_reducible refine Su.x_call ?_)
local macro_rules | `(tactic| walk_at "xs") => `(tactic| repeat walk_at "x")
local macro_rules | `(tactic| walk_at "if") => `(tactic| first | with_reducible refine Su.x_iteD (fun c => ?_) (fun c => ?_) | with_reducible refine Su.x_iteN (fun c => ?_) (fun c => ?_) | with_reducible refine Su.x_ite (fun c => ?_) (fun c => ?_))
local macro_rules | `(tactic| walk_at "at") => `(tactic| first | assumption | (refine Su.f_at (by assumption) ?_; walk_at "at"))
local macro_rules | `(tactic| walk_at "sm") => `(tactic| first | assumption | exact L2.Same.refl _ | (refine Su.f_tr (by assumption) ?_; walk_at "sm"))
local macro_rules | `(tactic| walk_at "hp") => `(tactic| first | assumption | ((with_reducible refine Su.f_sqL ?_); walk_at "at") | ((with_reducible refine Su.f_sqT ?_); walk_at "at") | ((with_reducible show L2.Same _ _); walk_at "sm") | ((with_reducible show _ = none); refine Su.f_free ?_ (by assumption); walk_at "sm") | ((with_reducible show _ = some _); walk_at "at") | (refine Su.f_dp (by assumption) ?_; walk_at "hp") | (refine Su.f_dpA (by assumption) ?_; walk_at "hp") | (refine Su.f_sqLs (by assumption) ?_; walk_at "hp") | (refine Su.f_sqTs (by assumption) ?_; walk_at "hp"))
local macro_rules | `(tactic| walk_at "x") => `(tactic| first | with_reducible refine Su.x_fld ?_ | with_reducible refine Su.c_stake (by assumption) ?_ | with_reducible refine Su.c_size (by assumption) ?_ | with_reducible refine Su.c_pledged (by assumption) ?_)
local macro_rules | `(tactic| walk_at "me") => `(tactic| first | refine Su.c_meth (by assumption) rfl ?_ | refine Su.so_meth (by assumption) rfl ?_)

theorem log_small {s : Int} (h0 : 0 < s) (h1 : s ≤ 1000000) : s.natAbs.log2 < 9000 := by
  have : s.natAbs.log2 ≤ s.natAbs := Nat.log2_le_self _
  have h : s.natAbs < 2 ^ 20 := by omega
  have := (Nat.log2_lt (show s.natAbs ≠ 0 by omega)).mpr h
  omega
end Su
namespace Su
open PySem L2
local macro_rules | `(tactic| walk_at "side") => `(tactic| first | assumption | (show (0 : Int) < _; omega) | (show (0 : Int) ≤ _; omega) | (show (0 : Int) < _; split <;> omega) | (show _ ∨ _; omega) | (show _ ∧ _; omega) | exact ⟨by decide, by decide, by decide⟩ | exact ⟨by first | assumption | omega, by first | assumption | omega⟩)
local macro_rules | `(tactic| walk_at "xs") => `(tactic| repeat walk_at "x")
local macro_rules | `(tactic| walk_at "if") => `(tactic| first | with_reducible refine Su.x_iteD (fun c => ?_) (fun c => ?_) | with_reducible refine Su.x_iteN (fun c => ?_) (fun c => ?_) | with_reducible refine Su.x_ite (fun c => ?_) (fun c => ?_))

/-! changes of seats, put together -/
section
variable {K : PySem.W.Frag} {H : Hp} {Q : VK} {p : Addr} {l : List Int} {x : Int}
end
/-! writes -/
section
variable {K : PySem.W.Frag} {H : Hp} {Q : VK} {Qh : Hp → Prop} {a : Nat → Addr} {st : CS} {i n : Nat} {j x : Int}
end

end Su
namespace Su
open PySem L2
local macro_rules | `(tactic| walk_at "side") => `(tactic| first | assumption | (show (0 : Int) < _; omega) | (show (0 : Int) ≤ _; omega) | (show (0 : Int) < _; split <;> omega) | (show _ ∨ _; omega) | (show _ ∧ _; omega) | exact ⟨by decide, by decide, by decide⟩ | exact ⟨by first | assumption | omega, by first | assumption | omega⟩)
local macro_rules | `(tactic| walk_at "x") => `(tactic| first | with_reducible refine Su.x_seq ?_ | with_reducible refine Su.x_asg ?_ | with_reducible refine Su.x_gname ?_ | with_reducible refine Su.x_ret ?_ | with_reducible refine Su.x_ifS ?_ | ((with_reducible show L2.tVar _ _ _ _); refine Su.x_var rfl ?_) | with_reducible refine Su.x_c ?_ | with_reducible refine Su.x_op ?_ | with_reducible refine Su.x_rGt ?_ | with_reducible refine Su.x_rGe ?_ | with_reducible refine Su.x_iteF ?_ | with_reducible refine Su.x_iteT ?_ | with_reducible refine Su.x_eqI ?_ | with_reducible refine Su.x_test ?_ | with_reducible refine Su.x_tB ?_ | with_reducible refine Su.x_isB' ?_ | with_reducible refine Su.x_and ?_ | with_reducible refine Su.x_or ?_ | with_reducible refine Su.x_nil ?_ | with_reducible refine Su.x_cons ?_ | with_reducible refine Su.x_un ?_ | with_reducible refine Su.x_rU ?_ | with_reducible refine Su.x_tup ?_ | with_reducible refine Su.x_next ?_ | with_reducible refine Su.x_for ?_ | with_reducible refine Su.x_iList ?_)
local macro_rules | `(tactic| walk_at "xs") => `(tactic| repeat walk_at "x")
local macro_rules | `(tactic| walk_at "if") => `(tactic| first | with_reducible refine Su.x_iteD (fun c => ?_) (fun c => ?_) | with_reducible refine Su.x_iteN (fun c => ?_) (fun c => ?_) | with_reducible refine Su.x_ite (fun c => ?_) (fun c => ?_))
local macro_rules | `(tactic| walk_at "at") => `(tactic| first | assumption | (refine Su.f_at (by assumption) ?_; walk_at "at"))
local macro_rules | `(tactic| walk_at "sm") => `(tactic| first | assumption | exact L2.Same.refl _ | (refine Su.f_tr (by assumption) ?_; walk_at "sm"))
local macro_rules | `(tactic| walk_at "hp") => `(tactic| first | assumption | ((with_reducible refine Su.f_sqL ?_); walk_at "at") | ((with_reducible refine Su.f_sqT ?_); walk_at "at") | ((with_reducible show L2.Same _ _); walk_at "sm") | ((with_reducible show _ = none); refine Su.f_free ?_ (by assumption); walk_at "sm") | ((with_reducible show _ = some _); walk_at "at") | (refine Su.f_dp (by assumption) ?_; walk_at "hp") | (refine Su.f_dpA (by assumption) ?_; walk_at "hp") | (refine Su.f_sqLs (by assumption) ?_; walk_at "hp") | (refine Su.f_sqTs (by assumption) ?_; walk_at "hp"))
local macro_rules | `(tactic| walk_at "x") => `(tactic| first | with_reducible refine Su.x_fld ?_ | with_reducible refine Su.x_meth ?_ | with_reducible refine Su.c_bidding (by assumption) ?_ | with_reducible refine Su.c_now (by assumption) ?_ | with_reducible refine Su.c_line (by assumption) ?_)
local macro_rules | `(tactic| walk_at "me") => `(tactic| first | refine Su.c_meth (by assumption) rfl ?_ | refine Su.so_meth (by assumption) rfl ?_)

end Su
namespace Su
open PySem L2
local macro_rules | `(tactic| walk_at "side") => `(tactic| first | assumption | (show (0 : Int) < _; omega) | (show (0 : Int) ≤ _; omega) | (show (0 : Int) < _; split <;> omega) | (show _ ∨ _; omega) | (show _ ∧ _; omega) | exact ⟨by decide, by decide, by decide⟩ | exact ⟨by first | assumption | omega, by first | assumption | omega⟩)
local macro_rules | `(tactic| walk_at "x") => `(tactic| first | with_reducible refine Su.x_seq ?_ | with_reducible refine Su.x_asg ?_ | with_reducible refine Su.x_gname ?_ | with_reducible refine Su.x_drop ?_ | with_reducible refine Su.x_ret ?_ | with_reducible refine Su.x_ifS ?_ | ((with_reducible show L2.tVar _ _ _ _); refine Su.x_var rfl ?_) | with_reducible refine Su.x_c ?_ | with_reducible refine Su.x_op ?_ | with_reducible refine Su.x_rI0 ?_ | ((with_reducible refine Su.x_rI ?_ ?_); focus walk_at "side") | with_reducible refine Su.x_rGt ?_ | with_reducible refine Su.x_iteF ?_ | with_reducible refine Su.x_neI ?_ | with_reducible refine Su.x_neS ?_ | with_reducible refine Su.x_test ?_ | with_reducible refine Su.x_isB' ?_ | with_reducible refine Su.x_and ?_ | with_reducible refine Su.x_nil ?_ | with_reducible refine Su.x_cons ?_ | with_reducible refine Su.x_cb ?_ | with_reducible refine Su.x_un ?_ | with_reducible refine Su.x_rU ?_ | with_reducible refine Su.x_tup ?_ | with_reducible refine Su.x_bmL ?_ | with_reducible refine Su.x_for ?_ | with_reducible refine Su.x_iList ?_ | with_reducible refine Su.x_iRng1 ?_ | with_reducible refine Su.x_gcons ?_ | with_reducible refine Su.x_gnil ?_ | with_reducible refine Su.x_gsub ?_ | with_reducible refine Su.x_lc ?_ | with_reducible refine Su.x_augS ?_ | with_reducible refine Su.x_ipI ?_)
local macro_rules | `(tactic| walk_at "xs") => `(tactic| repeat walk_at "x")
local macro_rules | `(tactic| walk_at "if") => `(tactic| first | with_reducible refine Su.x_iteD (fun c => ?_) (fun c => ?_) | with_reducible refine Su.x_iteN (fun c => ?_) (fun c => ?_) | with_reducible refine Su.x_ite (fun c => ?_) (fun c => ?_))
local macro_rules | `(tactic| walk_at "at") => `(tactic| first | assumption | (refine Su.f_at (by assumption) ?_; walk_at "at"))
local macro_rules | `(tactic| walk_at "sm") => `(tactic| first | assumption | exact L2.Same.refl _ | (refine Su.f_tr (by assumption) ?_; walk_at "sm"))
local macro_rules | `(tactic| walk_at "hp") => `(tactic| first | assumption | ((with_reducible refine Su.f_sqL ?_); walk_at "at") | ((with_reducible refine Su.f_sqT ?_); walk_at "at") | ((with_reducible show L2.Same _ _); walk_at "sm") | ((with_reducible show _ = none); refine Su.f_free ?_ (by assumption); walk_at "sm") | ((with_reducible show _ = some _); walk_at "at") | (refine Su.f_dp (by assumption) ?_; walk_at "hp") | (refine Su.f_dpA (by assumption) ?_; walk_at "hp") | (refine Su.f_sqLs (by assumption) ?_; walk_at "hp") | (refine Su.f_sqTs (by assumption) ?_; walk_at "hp"))
local macro_rules | `(tactic| walk_at "x") => `(tactic| first | with_reducible refine Su.x_fld ?_ | with_reducible refine Su.x_meth ?_ | with_reducible refine Su.c_stake (by assumption) ?_ | with_reducible refine Su.c_size (by assumption) ?_ | with_reducible refine Su.c_now (by assumption) ?_ | with_reducible refine Su.c_line (by assumption) ?_ | with_reducible refine Su.c_state (by assumption) ?_ | with_reducible refine Su.c_when (by assumption) ?_ | with_reducible refine Su.c_drawn (by assumption) ?_ | with_reducible refine Su.c_shared (by assumption) ?_ | with_reducible refine Su.c_flows (by assumption) ?_)
local macro_rules | `(tactic| walk_at "me") => `(tactic| first | refine Su.c_meth (by assumption) rfl ?_ | refine Su.so_meth (by assumption) rfl ?_)

end Su
namespace Su
open PySem L2
local macro_rules | `(tactic| walk_at "side") => `(tactic| first | assumption | (show (0 : Int) < _; omega) | (show (0 : Int) ≤ _; omega) | (show (0 : Int) < _; split <;> omega) | (show _ ∨ _; omega) | (show _ ∧ _; omega) | exact ⟨by decide, by decide, by decide⟩ | exact ⟨by first | assumption | omega, by first | assumption | omega⟩)
local macro_rules | `(tactic| walk_at "x") => `(tactic| first | with_reducible refine Su.x_seq ?_ | with_reducible refine Su.x_asg ?_ | with_reducible refine Su.x_gname ?_ | with_reducible refine Su.x_drop ?_ | with_reducible refine Su.x_ret ?_ | with_reducible refine Su.x_ifS ?_ | ((with_reducible show L2.tVar _ _ _ _); refine Su.x_var rfl ?_) | with_reducible refine Su.x_c ?_ | with_reducible refine Su.x_op ?_ | with_reducible refine Su.x_rI0 ?_ | with_reducible refine Su.x_neS ?_ | with_reducible refine Su.x_test ?_ | with_reducible refine Su.x_isB' ?_ | with_reducible refine Su.x_nil ?_ | with_reducible refine Su.x_cons ?_ | with_reducible refine Su.x_un ?_ | with_reducible refine Su.x_rU ?_ | with_reducible refine Su.x_bmL ?_ | with_reducible refine Su.x_for ?_ | with_reducible refine Su.x_iRng1 ?_ | with_reducible refine Su.x_augS ?_ | with_reducible refine Su.x_ipI ?_ | ((with_reducible show L2.tAug _ _ _ _ _ _); refine Su.x_aug rfl ?_))
local macro_rules | `(tactic| walk_at "xs") => `(tactic| repeat walk_at "x")
local macro_rules | `(tactic| walk_at "if") => `(tactic| first | with_reducible refine Su.x_iteD (fun c => ?_) (fun c => ?_) | with_reducible refine Su.x_iteN (fun c => ?_) (fun c => ?_) | with_reducible refine Su.x_ite (fun c => ?_) (fun c => ?_))
local macro_rules | `(tactic| walk_at "at") => `(tactic| first | assumption | (refine Su.f_at (by assumption) ?_; walk_at "at"))
local macro_rules | `(tactic| walk_at "sm") => `(tactic| first | assumption | exact L2.Same.refl _ | (refine Su.f_tr (by assumption) ?_; walk_at "sm"))
local macro_rules | `(tactic| walk_at "hp") => `(tactic| first | assumption | ((with_reducible refine Su.f_sqL ?_); walk_at "at") | ((with_reducible refine Su.f_sqT ?_); walk_at "at") | ((with_reducible show L2.Same _ _); walk_at "sm") | ((with_reducible show _ = none); refine Su.f_free ?_ (by assumption); walk_at "sm") | ((with_reducible show _ = some _); walk_at "at") | (refine Su.f_dp (by assumption) ?_; walk_at "hp") | (refine Su.f_dpA (by assumption) ?_; walk_at "hp") | (refine Su.f_sqLs (by assumption) ?_; walk_at "hp") | (refine Su.f_sqTs (by assumption) ?_; walk_at "hp"))
local macro_rules | `(tactic| walk_at "x") => `(tactic| first | with_reducible refine Su.x_fld ?_ | with_reducible refine Su.c_stake (by assumption) ?_ | with_reducible refine Su.c_size (by assumption) ?_ | with_reducible refine Su.c_now (by assumption) ?_ | with_reducible refine Su.c_state (by assumption) ?_ | with_reducible refine Su.c_when (by assumption) ?_ | with_reducible refine Su.c_pledged (by assumption) ?_ | with_reducible refine Su.c_given (by assumption) ?_ | with_reducible refine Su.c_missed (by assumption) ?_ | with_reducible refine Su.c_flows (by assumption) ?_)
local macro_rules | `(tactic| walk_at "me") => `(tactic| first | refine Su.c_meth (by assumption) rfl ?_ | refine Su.so_meth (by assumption) rfl ?_)

end Su
namespace Su
open PySem L2
local macro_rules | `(tactic| walk_at "side") => `(tactic| first | assumption | (show (0 : Int) < _; omega) | (show (0 : Int) ≤ _; omega) | (show (0 : Int) < _; split <;> omega) | (show _ ∨ _; omega) | (show _ ∧ _; omega) | exact ⟨by decide, by decide, by decide⟩ | exact ⟨by first | assumption | omega, by first | assumption | omega⟩)
local macro_rules | `(tactic| walk_at "x") => `(tactic| first | with_reducible refine Su.x_seq ?_ | with_reducible refine Su.x_asg ?_ | with_reducible refine Su.x_drop ?_ | ((with_reducible show L2.tVar _ _ _ _); refine Su.x_var rfl ?_) | with_reducible refine Su.x_c ?_ | with_reducible refine Su.x_op ?_ | with_reducible refine Su.x_nil ?_ | with_reducible refine Su.x_cons ?_ | with_reducible refine Su.x_bmL ?_ | with_reducible refine Su.x_gsub ?_)
local macro_rules | `(tactic| walk_at "xs") => `(tactic| repeat walk_at "x")
local macro_rules | `(tactic| walk_at "if") => `(tactic| first | with_reducible refine Su.x_iteD (fun c => ?_) (fun c => ?_) | with_reducible refine Su.x_iteN (fun c => ?_) (fun c => ?_) | with_reducible refine Su.x_ite (fun c => ?_) (fun c => ?_))
local macro_rules | `(tactic| walk_at "at") => `(tactic| first | assumption | (refine Su.f_at (by assumption) ?_; walk_at "at"))
local macro_rules | `(tactic| walk_at "sm") => `(tactic| first | assumption | exact L2.Same.refl _ | (refine Su.f_tr (by assumption) ?_; walk_at "sm"))
local macro_rules | `(tactic| walk_at "hp") => `(tactic| first | assumption | ((with_reducible refine Su.f_sqL ?_); walk_at "at") | ((with_reducible refine Su.f_sqT ?_); walk_at "at") | ((with_reducible show L2.Same _ _); walk_at "sm") | ((with_reducible show _ = none); refine Su.f_free ?_ (by assumption); walk_at "sm") | ((with_reducible show _ = some _); walk_at "at") | (refine Su.f_dp (by assumption) ?_; walk_at "hp") | (refine Su.f_dpA (by assumption) ?_; walk_at "hp") | (refine Su.f_sqLs (by assumption) ?_; walk_at "hp") | (refine Su.f_sqTs (by assumption) ?_; walk_at "hp"))
local macro_rules | `(tactic| walk_at "x") => `(tactic| first | with_reducible refine Su.x_fld ?_ | with_reducible refine Su.x_sfldAug ?_ | with_reducible refine Su.c_now (by assumption) ?_ | with_reducible refine Su.c_line (by assumption) ?_ | with_reducible refine Su.c_state (by assumption) ?_ | with_reducible refine Su.c_when (by assumption) ?_ | with_reducible refine Su.c_flows (by assumption) ?_)
local macro_rules | `(tactic| walk_at "me") => `(tactic| first | refine Su.c_meth (by assumption) rfl ?_ | refine Su.so_meth (by assumption) rfl ?_)

end Su
namespace Su
open PySem L2
local macro_rules | `(tactic| walk_at "side") => `(tactic| first | assumption | (show (0 : Int) < _; omega) | (show (0 : Int) ≤ _; omega) | (show (0 : Int) < _; split <;> omega) | (show _ ∨ _; omega) | (show _ ∧ _; omega) | exact ⟨by decide, by decide, by decide⟩ | exact ⟨by first | assumption | omega, by first | assumption | omega⟩)
local macro_rules | `(tactic| walk_at "x") => `(tactic| first | with_reducible refine Su.x_ret ?_ | ((with_reducible show L2.tVar _ _ _ _); refine Su.x_var rfl ?_) | with_reducible refine Su.x_op ?_ | with_reducible refine Su.x_rGt ?_)
local macro_rules | `(tactic| walk_at "xs") => `(tactic| repeat walk_at "x")
local macro_rules | `(tactic| walk_at "if") => `(tactic| first | with_reducible refine Su.x_iteD (fun c => ?_) (fun c => ?_) | with_reducible refine Su.x_iteN (fun c => ?_) (fun c => ?_) | with_reducible refine Su.x_ite (fun c => ?_) (fun c => ?_))
local macro_rules | `(tactic| walk_at "at") => `(tactic| first | assumption | (refine Su.f_at (by assumption) ?_; walk_at "at"))
local macro_rules | `(tactic| walk_at "sm") => `(tactic| first | assumption | exact L2.Same.refl _ | (refine Su.f_tr (by assumption) ?_; walk_at "sm"))
local macro_rules | `(tactic| walk_at "hp") => `(tactic| first | assumption | ((with_reducible refine Su.f_sqL ?_); walk_at "at") | ((with_reducible refine Su.f_sqT ?_); walk_at "at") | ((with_reducible show L2.Same _ _); walk_at "sm") | ((with_reducible show _ = none); refine Su.f_free ?_ (by assumption); walk_at "sm") | ((with_reducible show _ = some _); walk_at "at") | (refine Su.f_dp (by assumption) ?_; walk_at "hp") | (refine Su.f_dpA (by assumption) ?_; walk_at "hp") | (refine Su.f_sqLs (by assumption) ?_; walk_at "hp") | (refine Su.f_sqTs (by assumption) ?_; walk_at "hp"))
local macro_rules | `(tactic| walk_at "x") => `(tactic| first | with_reducible refine Su.x_fld ?_ | with_reducible refine Su.c_size (by assumption) ?_ | with_reducible refine Su.c_now (by assumption) ?_)
local macro_rules | `(tactic| walk_at "me") => `(tactic| first | refine Su.c_meth (by assumption) rfl ?_ | refine Su.so_meth (by assumption) rfl ?_)

end Su
namespace Su
open PySem L2
local macro_rules | `(tactic| walk_at "side") => `(tactic| first | assumption | (show (0 : Int) < _; omega) | (show (0 : Int) ≤ _; omega) | (show (0 : Int) < _; split <;> omega) | (show _ ∨ _; omega) | (show _ ∧ _; omega) | exact ⟨by decide, by decide, by decide⟩ | exact ⟨by first | assumption | omega, by first | assumption | omega⟩)
local macro_rules | `(tactic| walk_at "x") => `(tactic| first | with_reducible refine Su.x_seq ?_ | with_reducible refine Su.x_gname ?_ | with_reducible refine Su.x_ifS ?_ | ((with_reducible show L2.tVar _ _ _ _); refine Su.x_var rfl ?_) | with_reducible refine Su.x_c ?_ | with_reducible refine Su.x_op ?_ | with_reducible refine Su.x_rI0 ?_ | ((with_reducible refine Su.x_rI ?_ ?_); focus walk_at "side") | with_reducible refine Su.x_iteT ?_ | with_reducible refine Su.x_iteNF ?_ | with_reducible refine Su.x_neI ?_ | with_reducible refine Su.x_test ?_ | with_reducible refine Su.x_tB ?_ | with_reducible refine Su.x_isB' ?_ | with_reducible refine Su.x_not ?_ | with_reducible refine Su.x_or ?_ | with_reducible refine Su.x_chain ?_ | with_reducible refine Su.x_nil ?_ | with_reducible refine Su.x_cons ?_ | with_reducible refine Su.x_cb ?_ | with_reducible refine Su.x_next ?_ | with_reducible refine Su.x_for ?_ | with_reducible refine Su.x_iList ?_)
local macro_rules | `(tactic| walk_at "xs") => `(tactic| repeat walk_at "x")
local macro_rules | `(tactic| walk_at "if") => `(tactic| first | with_reducible refine Su.x_iteD (fun c => ?_) (fun c => ?_) | with_reducible refine Su.x_iteN (fun c => ?_) (fun c => ?_) | with_reducible refine Su.x_ite (fun c => ?_) (fun c => ?_))
local macro_rules | `(tactic| walk_at "at") => `(tactic| first | assumption | (refine Su.f_at (by assumption) ?_; walk_at "at"))
local macro_rules | `(tactic| walk_at "sm") => `(tactic| first | assumption | exact L2.Same.refl _ | (refine Su.f_tr (by assumption) ?_; walk_at "sm"))
local macro_rules | `(tactic| walk_at "hp") => `(tactic| first | assumption | ((with_reducible refine Su.f_sqL ?_); walk_at "at") | ((with_reducible refine Su.f_sqT ?_); walk_at "at") | ((with_reducible show L2.Same _ _); walk_at "sm") | ((with_reducible show _ = none); refine Su.f_free ?_ (by assumption); walk_at "sm") | ((with_reducible show _ = some _); walk_at "at") | (refine Su.f_dp (by assumption) ?_; walk_at "hp") | (refine Su.f_dpA (by assumption) ?_; walk_at "hp") | (refine Su.f_sqLs (by assumption) ?_; walk_at "hp") | (refine Su.f_sqTs (by assumption) ?_; walk_at "hp"))
local macro_rules | `(tactic| walk_at "x") => `(tactic| first | with_reducible refine Su.x_fld ?_ | with_reducible refine Su.x_meth ?_ | with_reducible refine Su.c_stake (by assumption) ?_ | with_reducible refine Su.c_size (by assumption) ?_)
local macro_rules | `(tactic| walk_at "me") => `(tactic| first | refine Su.c_meth (by assumption) rfl ?_ | refine Su.so_meth (by assumption) rfl ?_)

end Su
namespace Su
open PySem L2
local macro_rules | `(tactic| walk_at "side") => `(tactic| first | assumption | (show (0 : Int) < _; omega) | (show (0 : Int) ≤ _; omega) | (show (0 : Int) < _; split <;> omega) | (show _ ∨ _; omega) | (show _ ∧ _; omega) | exact ⟨by decide, by decide, by decide⟩ | exact ⟨by first | assumption | omega, by first | assumption | omega⟩)
local macro_rules | `(tactic| walk_at "x") => `(tactic| first | with_reducible refine Su.x_seq ?_ | with_reducible refine Su.x_asg ?_ | with_reducible refine Su.x_gname ?_ | with_reducible refine Su.x_drop ?_ | with_reducible refine Su.x_ret ?_ | with_reducible refine Su.x_ifS ?_ | ((with_reducible show L2.tVar _ _ _ _); refine Su.x_var rfl ?_) | with_reducible refine Su.x_c ?_ | with_reducible refine Su.x_op ?_ | with_reducible refine Su.x_rI0 ?_ | ((with_reducible refine Su.x_rI ?_ ?_); focus walk_at "side") | with_reducible refine Su.x_rGt ?_ | with_reducible refine Su.x_iteF ?_ | with_reducible refine Su.x_iteNT ?_ | with_reducible refine Su.x_iteNF ?_ | with_reducible refine Su.x_eqS ?_ | with_reducible refine Su.x_test ?_ | with_reducible refine Su.x_tB ?_ | with_reducible refine Su.x_isB' ?_ | with_reducible refine Su.x_not ?_ | with_reducible refine Su.x_and ?_ | with_reducible refine Su.x_nil ?_ | with_reducible refine Su.x_cons ?_ | with_reducible refine Su.x_cb ?_ | with_reducible refine Su.x_un ?_ | with_reducible refine Su.x_rU ?_ | with_reducible refine Su.x_tup ?_ | with_reducible refine Su.x_for ?_ | with_reducible refine Su.x_iList ?_ | with_reducible refine Su.x_iRng1 ?_ | with_reducible refine Su.x_gcons ?_ | with_reducible refine Su.x_gnil ?_ | with_reducible refine Su.x_lc ?_)
local macro_rules | `(tactic| walk_at "xs") => `(tactic| repeat walk_at "x")
local macro_rules | `(tactic| walk_at "if") => `(tactic| first | with_reducible refine Su.x_iteD (fun c => ?_) (fun c => ?_) | with_reducible refine Su.x_iteN (fun c => ?_) (fun c => ?_) | with_reducible refine Su.x_ite (fun c => ?_) (fun c => ?_))
local macro_rules | `(tactic| walk_at "at") => `(tactic| first | assumption | (refine Su.f_at (by assumption) ?_; walk_at "at"))
local macro_rules | `(tactic| walk_at "sm") => `(tactic| first | assumption | exact L2.Same.refl _ | (refine Su.f_tr (by assumption) ?_; walk_at "sm"))
local macro_rules | `(tactic| walk_at "hp") => `(tactic| first | assumption | ((with_reducible refine Su.f_sqL ?_); walk_at "at") | ((with_reducible refine Su.f_sqT ?_); walk_at "at") | ((with_reducible show L2.Same _ _); walk_at "sm") | ((with_reducible show _ = none); refine Su.f_free ?_ (by assumption); walk_at "sm") | ((with_reducible show _ = some _); walk_at "at") | (refine Su.f_dp (by assumption) ?_; walk_at "hp") | (refine Su.f_dpA (by assumption) ?_; walk_at "hp") | (refine Su.f_sqLs (by assumption) ?_; walk_at "hp") | (refine Su.f_sqTs (by assumption) ?_; walk_at "hp"))
local macro_rules | `(tactic| walk_at "x") => `(tactic| first | with_reducible refine Su.x_fld ?_ | with_reducible refine Su.x_sfldAug ?_ | with_reducible refine Su.x_meth ?_ | with_reducible refine Su.c_stake (by assumption) ?_ | with_reducible refine Su.c_size (by assumption) ?_ | with_reducible refine Su.c_now (by assumption) ?_ | with_reducible refine Su.c_due (by assumption) ?_ | with_reducible refine Su.c_state (by assumption) ?_)
local macro_rules | `(tactic| walk_at "me") => `(tactic| first | refine Su.c_meth (by assumption) rfl ?_ | refine Su.so_meth (by assumption) rfl ?_)

structure Rep where
  turn : Nat
  draw : Bool
  at_ : Int
  coins : Int
  share : Int
  fallen : List Nat
  helped : List Nat
def Rep.word (r : Rep) : Str := if r.draw then "draw" else "box"
structure WF (st : CS) : Prop where
  s1 : 1 ≤ st.stake
  s2 : st.stake ≤ 1000000
  n1 : 2 ≤ st.size
  n2 : st.size ≤ 20
  nd : st.line.Nodup
  mem : ∀ i, i ∈ st.line ↔ (i < st.size ∧ (st.get i).st = .waits)
  cnt : st.line.length + st.due + st.now = st.size + 1
  now1 : 1 ≤ st.now
  fl : ∀ i, i < st.size → (st.get i).fl.length + 1 = st.now
  wh : ∀ i, i < st.size → (st.get i).st = .fell → (st.get i).wh < st.now
/-! put out, one by one -/
section
variable {st : CS} {paid : List Bool}
end
end Su
namespace Su
open PySem L2
local macro_rules | `(tactic| walk_at "side") => `(tactic| first | assumption | (show (0 : Int) < _; omega) | (show (0 : Int) ≤ _; omega) | (show (0 : Int) < _; split <;> omega) | (show _ ∨ _; omega) | (show _ ∧ _; omega) | exact ⟨by decide, by decide, by decide⟩ | exact ⟨by first | assumption | omega, by first | assumption | omega⟩)
local macro_rules | `(tactic| walk_at "x") => `(tactic| first | with_reducible refine Su.x_seq ?_ | with_reducible refine Su.x_asg ?_ | with_reducible refine Su.x_gname ?_ | with_reducible refine Su.x_ifS ?_ | ((with_reducible show L2.tVar _ _ _ _); refine Su.x_var rfl ?_) | with_reducible refine Su.x_c ?_ | with_reducible refine Su.x_op ?_ | with_reducible refine Su.x_rI0 ?_ | with_reducible refine Su.x_iteT ?_ | with_reducible refine Su.x_iteNF ?_ | with_reducible refine Su.x_neI ?_ | with_reducible refine Su.x_test ?_ | with_reducible refine Su.x_isB' ?_ | with_reducible refine Su.x_not ?_ | with_reducible refine Su.x_or ?_ | with_reducible refine Su.x_chain ?_ | with_reducible refine Su.x_nil ?_ | with_reducible refine Su.x_cons ?_ | with_reducible refine Su.x_cb ?_ | with_reducible refine Su.x_for ?_ | with_reducible refine Su.x_iList ?_)
local macro_rules | `(tactic| walk_at "xs") => `(tactic| repeat walk_at "x")
local macro_rules | `(tactic| walk_at "if") => `(tactic| first | with_reducible refine Su.x_iteD (fun c => ?_) (fun c => ?_) | with_reducible refine Su.x_iteN (fun c => ?_) (fun c => ?_) | with_reducible refine Su.x_ite (fun c => ?_) (fun c => ?_))
local macro_rules | `(tactic| walk_at "at") => `(tactic| first | assumption | (refine Su.f_at (by assumption) ?_; walk_at "at"))
local macro_rules | `(tactic| walk_at "sm") => `(tactic| first | assumption | exact L2.Same.refl _ | (refine Su.f_tr (by assumption) ?_; walk_at "sm"))
local macro_rules | `(tactic| walk_at "hp") => `(tactic| first | assumption | ((with_reducible refine Su.f_sqL ?_); walk_at "at") | ((with_reducible refine Su.f_sqT ?_); walk_at "at") | ((with_reducible show L2.Same _ _); walk_at "sm") | ((with_reducible show _ = none); refine Su.f_free ?_ (by assumption); walk_at "sm") | ((with_reducible show _ = some _); walk_at "at") | (refine Su.f_dp (by assumption) ?_; walk_at "hp") | (refine Su.f_dpA (by assumption) ?_; walk_at "hp") | (refine Su.f_sqLs (by assumption) ?_; walk_at "hp") | (refine Su.f_sqTs (by assumption) ?_; walk_at "hp"))
local macro_rules | `(tactic| walk_at "me") => `(tactic| first | refine Su.c_meth (by assumption) rfl ?_ | refine Su.so_meth (by assumption) rfl ?_)

structure OpenOk (s : Int) (pl ws : List Int) : Prop where
  s1 : 1 ≤ s
  s2 : s ≤ 1000000
  n1 : 2 ≤ pl.length
  n2 : pl.length ≤ 20
  nw : ws.length = pl.length
  p : ∀ x ∈ pl, 0 ≤ x ∧ x ≤ 1000000000
  w : ∀ x ∈ ws, 1 ≤ x ∧ x ≤ (pl.length : Int)
end Su
namespace Su
open PySem L2
local macro_rules | `(tactic| walk_at "side") => `(tactic| first | assumption | (show (0 : Int) < _; omega) | (show (0 : Int) ≤ _; omega) | (show (0 : Int) < _; split <;> omega) | (show _ ∨ _; omega) | (show _ ∧ _; omega) | exact ⟨by decide, by decide, by decide⟩ | exact ⟨by first | assumption | omega, by first | assumption | omega⟩)
local macro_rules | `(tactic| walk_at "x") => `(tactic| first | with_reducible refine Su.x_seq ?_ | with_reducible refine Su.x_asg ?_ | with_reducible refine Su.x_gname ?_ | with_reducible refine Su.x_drop ?_ | with_reducible refine Su.x_ret ?_ | ((with_reducible show L2.tVar _ _ _ _); refine Su.x_var rfl ?_) | with_reducible refine Su.x_c ?_ | with_reducible refine Su.x_op ?_ | with_reducible refine Su.x_rI0 ?_ | ((with_reducible refine Su.x_rI ?_ ?_); focus walk_at "side") | with_reducible refine Su.x_nil ?_ | with_reducible refine Su.x_cons ?_ | with_reducible refine Su.x_lst ?_ | with_reducible refine Su.x_bmL ?_ | with_reducible refine Su.x_for ?_ | with_reducible refine Su.x_iRng1 ?_)
local macro_rules | `(tactic| walk_at "xs") => `(tactic| repeat walk_at "x")
local macro_rules | `(tactic| walk_at "if") => `(tactic| first | with_reducible refine Su.x_iteD (fun c => ?_) (fun c => ?_) | with_reducible refine Su.x_iteN (fun c => ?_) (fun c => ?_) | with_reducible refine Su.x_ite (fun c => ?_) (fun c => ?_))

/-! _law_perm: a drawn order -/
theorem ins_perm {l : List Nat} {x k : Nat} : (l.take k ++ [x] ++ l.drop k).Perm (l ++ [x]) := by
  have h : (l.take k ++ [x] ++ l.drop k).Perm (l.take k ++ (l.drop k ++ [x])) := by
    rw [List.append_assoc]
    exact List.Perm.append_left _ (List.perm_append_comm)
  rw [← List.append_assoc, List.take_append_drop] at h
  exact h
theorem nI_ins {l : List Nat} {x k : Nat} : (nI l).take k ++ [V.int (x : Int)] ++ (nI l).drop k = nI (l.take k ++ [x] ++ l.drop k) := by
  unfold nI
  rw [List.map_append, List.map_append, List.map_take, List.map_drop]
  rfl
def sp_law_perm (K : PySem.W.Frag) : Sp := fun vs H Q _ => ∃ (a : Addr) (rows : List Int) (n : Nat), vs = [.ref a, .int n] ∧ SqL K H a (rows.map V.int) ∧ n ≤ 1000 ∧ n ≤ rows.length ∧
  ∀ (p : Addr) (row : List Nat) (H' : Hp), H p = none → Same H H' → H' p = some (.lst (nI row)) → row.Perm (List.range n) → Q (.ref p) H'
abbrev N_law_perm : List Str := ["_law_some", "_law_size", "_law_row", "_law_at"]
def t_law_perm (K : PySem.W.Frag) : TS :=
 (tSeq (tAsg (tLst tNil) (gName 2))
 (tSeq (tFor (iRng1 (tCons (tVar 1) tNil)) (gName 3)
 (tDrop (tBM K "list" rInsert (tVar 2) (tCons (tOp rMod (tOp (rIxL K) (tVar 0) (tVar 3)) (tOp rAdd (tVar 3) (tC (.int 1)))) (tCons (tVar 3) tNil)))))
 (tRet (tVar 2))))

theorem len_law_perm {K : PySem.W.Frag} : ∀ vs H Q E, sp_law_perm K vs H Q E → vs.length = ["a", "b"].length := by
  rintro vs H Q E ⟨_, _, _, rfl, _⟩; rfl
theorem pure_law_perm {K : PySem.W.Frag} {vs : List V} {H : Hp} {Q : VK} {E : XK} (h : sp_law_perm K vs H Q E) : t_law_perm K { nx := fun _ H' => Q .non H', rt := Q } (start N_law_perm vs) H := by
  obtain ⟨a, rows, n, rfl, hS, n1, hl, k⟩ := h
  unfold t_law_perm
  walk_at "xs"
  refine al_lst fun p H1 np s1 hp => ?_
  walk_at "xs"
  refine ⟨n, rfl, by omega, by omega, for_by turnsR (fun i σ H' => ∃ (row : List Nat) (u : Option V), σ = [some (.ref a), some (.int n), some (.ref p), u] ∧ Same H H' ∧ H' p = some (.lst (nI row)) ∧ row.Perm (List.range i))
    ⟨[], none, rfl, s1, hp, .nil⟩ (fun _ _ _ _ _ => trivial) ?_ ?_⟩
  · rintro i y σ H2 _ hi ⟨row, u, rfl, s2, hp2, pm⟩ ⟨rfl, rfl⟩
    have hi' : i < n := hi
    have hlen : row.length = i := by rw [pm.length_eq, List.length_range]
    rw [show (0 : Int) + (i : Int) = (i : Int) by omega]
    walk_at "xs"
    refine ⟨tyL (SqL.of hp2), ?_⟩
    walk_at "xs"
    refine x_ixL (s2.seq hS) (at_getI (by omega) (by omega)) ?_
    generalize rows.getD (i : Int).toNat 0 = r
    have b1 := Int.emod_nonneg r (show (i : Int) + 1 ≠ 0 by omega)
    have b2 := Int.emod_lt_of_pos r (show (0 : Int) < (i : Int) + 1 by omega)
    walk_at "xs"
    refine x_insert hp2 (small (by rw [nI_len]; omega)) b1 (by omega) ?_
    refine ⟨row.take (r % ((i : Int) + 1)).toNat ++ [i] ++ row.drop (r % ((i : Int) + 1)).toNat, _, rfl, same_upd s2 np, by rw [upd_same, nI_ins], ?_⟩
    rw [List.range_succ]
    exact ins_perm.trans (pm.append_right _)
  · rintro σ H2 ⟨row, u, rfl, s2, hp2, pm⟩
    walk_at "xs"
    exact k p row H2 np s2 hp2 pm

end Su
namespace Su
open PySem L2
local macro_rules | `(tactic| walk_at "side") => `(tactic| first | assumption | (show (0 : Int) < _; omega) | (show (0 : Int) ≤ _; omega) | (show (0 : Int) < _; split <;> omega) | (show _ ∨ _; omega) | (show _ ∧ _; omega) | exact ⟨by decide, by decide, by decide⟩ | exact ⟨by first | assumption | omega, by first | assumption | omega⟩)
local macro_rules | `(tactic| walk_at "x") => `(tactic| first | with_reducible refine Su.x_seq ?_ | with_reducible refine Su.x_gname ?_ | with_reducible refine Su.x_ret ?_ | with_reducible refine Su.x_ifS ?_ | ((with_reducible show L2.tVar _ _ _ _); refine Su.x_var rfl ?_) | with_reducible refine Su.x_c ?_ | with_reducible refine Su.x_op ?_ | with_reducible refine Su.x_rI0 ?_ | with_reducible refine Su.x_iteT ?_ | with_reducible refine Su.x_iteNF ?_ | with_reducible refine Su.x_neI ?_ | with_reducible refine Su.x_test ?_ | with_reducible refine Su.x_isB' ?_ | with_reducible refine Su.x_not ?_ | with_reducible refine Su.x_or ?_ | with_reducible refine Su.x_chain ?_ | with_reducible refine Su.x_nil ?_ | with_reducible refine Su.x_cons ?_ | with_reducible refine Su.x_cb ?_ | with_reducible refine Su.x_next ?_ | with_reducible refine Su.x_for ?_ | with_reducible refine Su.x_iEnum ?_ | with_reducible refine Su.x_gcons ?_ | with_reducible refine Su.x_gnil ?_ | with_reducible refine Su.x_isI ?_ | with_reducible refine Su.x_lstRg ?_ | with_reducible refine Su.x_rg1 ?_)
local macro_rules | `(tactic| walk_at "xs") => `(tactic| repeat walk_at "x")
local macro_rules | `(tactic| walk_at "if") => `(tactic| first | with_reducible refine Su.x_iteD (fun c => ?_) (fun c => ?_) | with_reducible refine Su.x_iteN (fun c => ?_) (fun c => ?_) | with_reducible refine Su.x_ite (fun c => ?_) (fun c => ?_))

/-! _law_keeps: is a row of numbers an order of the windows -/
theorem order_of_perm {ws : List (Int × Int)} {r : List Nat} (pm : r.Perm (List.range ws.length)) (fit : ∀ k (h : k < r.length), w1 ws r[k] ≤ (k : Int) + 1 ∧ (k : Int) + 1 ≤ w2 ws r[k]) : IsOrder ws r :=
  ⟨by rw [pm.length_eq, List.length_range], pm.nodup_iff.mpr List.nodup_range, fun x hx => List.mem_range.mp (pm.mem_iff.mp hx), fit⟩
end Su
namespace Su
open PySem L2
local macro_rules | `(tactic| walk_at "side") => `(tactic| first | assumption | (show (0 : Int) < _; omega) | (show (0 : Int) ≤ _; omega) | (show (0 : Int) < _; split <;> omega) | (show _ ∨ _; omega) | (show _ ∧ _; omega) | exact ⟨by decide, by decide, by decide⟩ | exact ⟨by first | assumption | omega, by first | assumption | omega⟩)
local macro_rules | `(tactic| walk_at "xs") => `(tactic| repeat walk_at "x")
local macro_rules | `(tactic| walk_at "if") => `(tactic| first | with_reducible refine Su.x_iteD (fun c => ?_) (fun c => ?_) | with_reducible refine Su.x_iteN (fun c => ?_) (fun c => ?_) | with_reducible refine Su.x_ite (fun c => ?_) (fun c => ?_))

/-! papers as data -/
end Su
namespace Su
open PySem L2
local macro_rules | `(tactic| walk_at "side") => `(tactic| first | assumption | (show (0 : Int) < _; omega) | (show (0 : Int) ≤ _; omega) | (show (0 : Int) < _; split <;> omega) | (show _ ∨ _; omega) | (show _ ∧ _; omega) | exact ⟨by decide, by decide, by decide⟩ | exact ⟨by first | assumption | omega, by first | assumption | omega⟩)
local macro_rules | `(tactic| walk_at "xs") => `(tactic| repeat walk_at "x")
local macro_rules | `(tactic| walk_at "if") => `(tactic| first | with_reducible refine Su.x_iteD (fun c => ?_) (fun c => ?_) | with_reducible refine Su.x_iteN (fun c => ?_) (fun c => ?_) | with_reducible refine Su.x_ite (fun c => ?_) (fun c => ?_))

/-! windows around a drawn order -/
def Planted (ws : List (Int × Int)) (row : List Nat) (i : Nat) : Prop := ∀ j (h : j < row.length), j < i → w1 ws row[j] ≤ (j : Int) + 1 ∧ (j : Int) + 1 ≤ w2 ws row[j]
theorem nodup_ne {row : List Nat} (nd : row.Nodup) {i j : Nat} (hi : i < row.length) (hj : j < row.length) (h : i ≠ j) : row[i] ≠ row[j] := by
  have p := List.nodup_iff_pairwise_ne.mp nd
  rw [List.pairwise_iff_getElem] at p
  rcases Nat.lt_or_gt_of_ne h with q | q
  · exact p i j hi hj q
  · exact (p j i hj hi q).symm
theorem planted_order {ws : List (Int × Int)} {row : List Nat} (pm : row.Perm (List.range ws.length)) (p : Planted ws row row.length) : IsOrder ws row := order_of_perm pm fun k h => p k h h
end Su
namespace Su
open PySem L2
local macro_rules | `(tactic| walk_at "side") => `(tactic| first | assumption | (show (0 : Int) < _; omega) | (show (0 : Int) ≤ _; omega) | (show (0 : Int) < _; split <;> omega) | (show _ ∨ _; omega) | (show _ ∧ _; omega) | exact ⟨by decide, by decide, by decide⟩ | exact ⟨by first | assumption | omega, by first | assumption | omega⟩)
local macro_rules | `(tactic| walk_at "xs") => `(tactic| repeat walk_at "x")
local macro_rules | `(tactic| walk_at "if") => `(tactic| first | with_reducible refine Su.x_iteD (fun c => ?_) (fun c => ?_) | with_reducible refine Su.x_iteN (fun c => ?_) (fun c => ?_) | with_reducible refine Su.x_ite (fun c => ?_) (fun c => ?_))

/-! a comprehension of new empty lists -/
structure Empties (H1 : Hp) (A : Addr) (i : Nat) (H : Hp) : Prop where
  s : Same H1 H
  ex : ∃ fr : List Addr, H A = some (.lst (fr.map V.ref)) ∧ fr.length = i ∧ fr.Nodup ∧ ∀ q ∈ fr, H1 q = none ∧ q ≠ A ∧ H q = some (.lst [])
theorem Empties.step {H1 H H' : Hp} {A p : Addr} {i : Nat} (h : Empties H1 A i H) (nA : H1 A = none) (np : H p = none) (s : Same H H') (e : H' p = some (.lst [])) (hi : i ≤ 100000) : ∃ acc, H' A = some (.lst acc) ∧ acc.length < sizeLine ∧ Empties H1 A (i + 1) (upd H' A (.lst (acc ++ [.ref p]))) := by
  obtain ⟨fr, h1, h2, h3, h4⟩ := h.ex
  have npA : p ≠ A := fun z => by subst z; rw [h1] at np; cases np
  refine ⟨fr.map V.ref, s _ _ h1, small (by rw [List.length_map]; omega), same_upd (h.s.trans s) nA, fr ++ [p], by rw [upd_same, List.map_append]; rfl, by rw [List.length_append, h2]; rfl, ?_, fun q hq => ?_⟩
  · rw [List.nodup_append]
    refine ⟨h3, by simp, fun x hx y hy exy => ?_⟩
    rw [List.mem_singleton] at hy
    subst hy; subst exy
    rw [(h4 x hx).2.2] at np; cases np
  · rcases List.mem_append.mp hq with hq | hq
    · have := h4 q hq
      exact ⟨this.1, this.2.1, by rw [upd_ne this.2.1]; exact s _ _ this.2.2⟩
    · cases List.mem_singleton.mp hq
      exact ⟨h.s.free np, npA, by rw [upd_ne npA]; exact e⟩
/-! an object that is being made -/
theorem putF_new {f : Str} {v : V} : ∀ {fs : List (Str × V)}, f ∉ fs.map (·.1) → putF f v fs = fs ++ [(f, v)]
  | [], _ => rfl
  | (g, x) :: r, h => by
    simp only [List.map_cons, List.mem_cons, not_or] at h
    show (if g = f then (g, v) :: r else (g, x) :: putF f v r) = _
    rw [if_neg (fun e => h.1 e.symm), putF_new h.2]; rfl
structure Bld (K : PySem.W.Frag) (cn : Str) (names : List Str) (H0 H : Hp) (x dx : Addr) (ks : List Str) (fs : List (Str × V)) (cs : List (Addr × HO)) : Prop where
  t : ClsT K cn names
  hx : H x = some (.ins (He.ga K cn) dx fs)
  hd : H dx = some (.own x)
  ndx : dx ≠ x
  off : Off [x] H0 H
  hc : Cells H cs
  nx : ∀ p ∈ cs, p.1 ≠ x ∧ p.1 ≠ dx ∧ H0 p.1 = none
  nd : (cs.map (·.1)).Nodup
  hk : fs.map (·.1) = ks
  sm : ∀ b, b ≠ x → H0 b ≠ none → H b = H0 b
section
variable {K : PySem.W.Frag} {cn : Str} {names : List Str} {H0 H H' : Hp} {x dx p : Addr} {ks : List Str} {fs : List (Str × V)} {cs : List (Addr × HO)} {f : Str} {v : V} {o : HO}
theorem Bld.same (B : Bld K cn names H0 H x dx ks fs cs) (s : Same H H') : Bld K cn names H0 H' x dx ks fs cs :=
  ⟨B.t, s _ _ B.hx, s _ _ B.hd, B.ndx, B.off.trans (Off.of s), B.hc.same s, B.nx, B.nd, B.hk, fun b hb h0 => by
    cases e : H0 b with
    | none => exact absurd e h0
    | some o => exact s b o (B.off b o (by simpa using hb) e)⟩
theorem Bld.free (B : Bld K cn names H0 H x dx ks fs cs) (n : H p = none) : H0 p = none ∧ p ≠ x ∧ p ≠ dx ∧ p ∉ cs.map (·.1) := by
  have n1 : p ≠ x := fun e => by subst e; rw [B.hx] at n; cases n
  refine ⟨?_, n1, (fun e => by subst e; rw [B.hd] at n; cases n), B.hc.fresh n⟩
  cases e : H0 p with
  | none => rfl
  | some o => rw [B.off p o (by simpa using n1) e] at n; cases n
theorem Bld.new (B : Bld K cn names H0 H x dx ks fs cs) (n : H p = none) (s : Same H H') (e : H' p = some o) : Bld K cn names H0 H' x dx ks fs (cs ++ [(p, o)]) := by
  have B' := B.same s
  obtain ⟨h1, h2, h3, h4⟩ := B.free n
  refine ⟨B.t, B'.hx, B'.hd, B.ndx, B'.off, B'.hc.app (Cells.cons e Cells.nil), fun q hq => ?_, ?_, B.hk, B'.sm⟩
  · rcases List.mem_append.mp hq with hq | hq
    · exact B.nx q hq
    · cases List.mem_singleton.mp hq; exact ⟨h2, h3, h1⟩
  · rw [List.map_append, List.nodup_append]
    exact ⟨B.nd, by simp, fun a ha b hb eab => h4 (by simp at hb; subst hb; subst eab; exact ha)⟩
theorem Bld.set {Qh : Hp → Prop} (B : Bld K cn names H0 H x dx ks fs cs) (hf : f ∉ ks) (m : f ∈ names) (hl : ks.length < 1000) (q : ∀ H', Bld K cn names H0 H' x dx (ks ++ [f]) (fs ++ [(f, v)]) cs → (∀ b, b ≠ x → H' b = H b) → Qh H') :
    ∃ a C dx fs, V.ref x = .ref a ∧ H a = some (.ins C dx fs) ∧ Cls K C ∧ NoAttr K C f ∧ fs.length < 1000 ∧ Qh (upd H a (.ins C dx (putF f v fs))) := by
  have hl' : fs.length < 1000 := by rw [← List.length_map (f := (·.1)), B.hk]; exact hl
  refine ⟨x, _, dx, fs, rfl, B.hx, B.t.cl, B.t.no.get m, hl', q _ ?_ fun b hb => upd_ne hb⟩
  rw [putF_new (by rw [B.hk]; exact hf)]
  refine ⟨B.t, upd_same, by rw [upd_ne B.ndx]; exact B.hd, B.ndx, B.off.upd (by simp), B.hc.upd fun z => ?_, B.nx, B.nd, by rw [List.map_append, B.hk]; rfl, fun b hb h0 => by rw [upd_ne hb]; exact B.sm b hb h0⟩
  obtain ⟨q, hq, e⟩ := List.mem_map.mp z
  exact (B.nx q hq).1 e
end

end Su
namespace Su
open PySem L2
local macro_rules | `(tactic| walk_at "side") => `(tactic| first | assumption | (show (0 : Int) < _; omega) | (show (0 : Int) ≤ _; omega) | (show (0 : Int) < _; split <;> omega) | (show _ ∨ _; omega) | (show _ ∧ _; omega) | exact ⟨by decide, by decide, by decide⟩ | exact ⟨by first | assumption | omega, by first | assumption | omega⟩)
local macro_rules | `(tactic| walk_at "xs") => `(tactic| repeat walk_at "x")
local macro_rules | `(tactic| walk_at "if") => `(tactic| first | with_reducible refine Su.x_iteD (fun c => ?_) (fun c => ?_) | with_reducible refine Su.x_iteN (fun c => ?_) (fun c => ?_) | with_reducible refine Su.x_ite (fun c => ?_) (fun c => ?_))

/-! NoOrder: an exception with an __init__ of its own -/
section
variable {X : Cx} {CX : CXT} {k j : Nat} {sp : Sp} {e : Expr} {es : List Expr} {t : TA} {p pos pos' : Pos} {W : WX}
end
end Su
namespace Su
open PySem L2
local macro_rules | `(tactic| walk_at "side") => `(tactic| first | assumption | (show (0 : Int) < _; omega) | (show (0 : Int) ≤ _; omega) | (show (0 : Int) < _; split <;> omega) | (show _ ∨ _; omega) | (show _ ∧ _; omega) | exact ⟨by decide, by decide, by decide⟩ | exact ⟨by first | assumption | omega, by first | assumption | omega⟩)
local macro_rules | `(tactic| walk_at "x") => `(tactic| first | with_reducible refine Su.x_seq ?_ | ((with_reducible show L2.tVar _ _ _ _); refine Su.x_var rfl ?_) | with_reducible refine Su.x_nil ?_ | with_reducible refine Su.x_cons ?_ | with_reducible refine Su.x_cb ?_)
local macro_rules | `(tactic| walk_at "xs") => `(tactic| repeat walk_at "x")
local macro_rules | `(tactic| walk_at "if") => `(tactic| first | with_reducible refine Su.x_iteD (fun c => ?_) (fun c => ?_) | with_reducible refine Su.x_iteN (fun c => ?_) (fun c => ?_) | with_reducible refine Su.x_ite (fun c => ?_) (fun c => ?_))

end Su
namespace Su
open PySem L2
local macro_rules | `(tactic| walk_at "side") => `(tactic| first | assumption | (show (0 : Int) < _; omega) | (show (0 : Int) ≤ _; omega) | (show (0 : Int) < _; split <;> omega) | (show _ ∨ _; omega) | (show _ ∧ _; omega) | exact ⟨by decide, by decide, by decide⟩ | exact ⟨by first | assumption | omega, by first | assumption | omega⟩)
local macro_rules | `(tactic| walk_at "x") => `(tactic| first | with_reducible refine Su.x_seq ?_ | with_reducible refine Su.x_asg ?_ | with_reducible refine Su.x_gname ?_ | with_reducible refine Su.x_drop ?_ | with_reducible refine Su.x_ifS ?_ | ((with_reducible show L2.tVar _ _ _ _); refine Su.x_var rfl ?_) | with_reducible refine Su.x_c ?_ | with_reducible refine Su.x_op ?_ | with_reducible refine Su.x_iteT ?_ | with_reducible refine Su.x_eqS ?_ | with_reducible refine Su.x_test ?_ | with_reducible refine Su.x_isB' ?_ | with_reducible refine Su.x_nil ?_ | with_reducible refine Su.x_cons ?_ | with_reducible refine Su.x_cb ?_ | with_reducible refine Su.x_call ?_ | with_reducible refine Su.x_lst ?_ | with_reducible refine Su.x_tup ?_ | with_reducible refine Su.x_next ?_ | with_reducible refine Su.x_iRng1 ?_ | with_reducible refine Su.x_iZip ?_ | with_reducible refine Su.x_gcons ?_ | with_reducible refine Su.x_gnil ?_ | with_reducible refine Su.x_yes ?_ | with_reducible refine Su.x_lc ?_)
local macro_rules | `(tactic| walk_at "xs") => `(tactic| repeat walk_at "x")
local macro_rules | `(tactic| walk_at "if") => `(tactic| first | with_reducible refine Su.x_iteD (fun c => ?_) (fun c => ?_) | with_reducible refine Su.x_iteN (fun c => ?_) (fun c => ?_) | with_reducible refine Su.x_ite (fun c => ?_) (fun c => ?_))
local macro_rules | `(tactic| walk_at "at") => `(tactic| first | assumption | (refine Su.f_at (by assumption) ?_; walk_at "at"))
local macro_rules | `(tactic| walk_at "sm") => `(tactic| first | assumption | exact L2.Same.refl _ | (refine Su.f_tr (by assumption) ?_; walk_at "sm"))
local macro_rules | `(tactic| walk_at "hp") => `(tactic| first | assumption | ((with_reducible refine Su.f_sqL ?_); walk_at "at") | ((with_reducible refine Su.f_sqT ?_); walk_at "at") | ((with_reducible show L2.Same _ _); walk_at "sm") | ((with_reducible show _ = none); refine Su.f_free ?_ (by assumption); walk_at "sm") | ((with_reducible show _ = some _); walk_at "at") | (refine Su.f_dp (by assumption) ?_; walk_at "hp") | (refine Su.f_dpA (by assumption) ?_; walk_at "hp") | (refine Su.f_sqLs (by assumption) ?_; walk_at "hp") | (refine Su.f_sqTs (by assumption) ?_; walk_at "hp"))
local macro_rules | `(tactic| walk_at "x") => `(tactic| first | with_reducible refine Su.x_sfld ?_)
local macro_rules | `(tactic| walk_at "me") => `(tactic| first | refine Su.c_meth (by assumption) rfl ?_ | refine Su.so_meth (by assumption) rfl ?_)

def openWin (s : Int) (pl ws : List Int) : List (Int × Int) := List.zipWith (fun p w => (firstCov s pl.length p, w)) pl ws
theorem openWin_at {s : Int} {pl ws : List Int} (i : Nat) (h1 : i < pl.length) (h2 : i < ws.length) : (openWin s pl ws)[i]? = some (firstCov s pl.length pl[i], ws[i]) := by
  unfold openWin
  rw [List.getElem?_zipWith, List.getElem?_eq_getElem h1, List.getElem?_eq_getElem h2]
end Su
namespace Su
open PySem L2
local macro_rules | `(tactic| walk_at "side") => `(tactic| first | assumption | (show (0 : Int) < _; omega) | (show (0 : Int) ≤ _; omega) | (show (0 : Int) < _; split <;> omega) | (show _ ∨ _; omega) | (show _ ∧ _; omega) | exact ⟨by decide, by decide, by decide⟩ | exact ⟨by first | assumption | omega, by first | assumption | omega⟩)
local macro_rules | `(tactic| walk_at "xs") => `(tactic| repeat walk_at "x")
local macro_rules | `(tactic| walk_at "if") => `(tactic| first | with_reducible refine Su.x_iteD (fun c => ?_) (fun c => ?_) | with_reducible refine Su.x_iteN (fun c => ?_) (fun c => ?_) | with_reducible refine Su.x_ite (fun c => ?_) (fun c => ?_))

/-! the loop of windows around a planted order: one turn -/
theorem b_mod (r d : Int) (h : 0 < d) : 0 ≤ r % d ∧ r % d < d := ⟨Int.emod_nonneg r (by omega), Int.emod_lt_of_pos r h⟩
end Su
namespace Su
open PySem L2
local macro_rules | `(tactic| walk_at "side") => `(tactic| first | assumption | (show (0 : Int) < _; omega) | (show (0 : Int) ≤ _; omega) | (show (0 : Int) < _; split <;> omega) | (show _ ∨ _; omega) | (show _ ∧ _; omega) | exact ⟨by decide, by decide, by decide⟩ | exact ⟨by first | assumption | omega, by first | assumption | omega⟩)
local macro_rules | `(tactic| walk_at "x") => `(tactic| first | with_reducible refine Su.x_seq ?_ | with_reducible refine Su.x_asg ?_ | with_reducible refine Su.x_gname ?_ | with_reducible refine Su.x_ret ?_ | ((with_reducible show L2.tVar _ _ _ _); refine Su.x_var rfl ?_) | with_reducible refine Su.x_c ?_ | with_reducible refine Su.x_op ?_ | with_reducible refine Su.x_rI0 ?_ | ((with_reducible refine Su.x_rI ?_ ?_); focus walk_at "side") | with_reducible refine Su.x_nil ?_ | with_reducible refine Su.x_cons ?_ | with_reducible refine Su.x_cb ?_ | with_reducible refine Su.x_call ?_ | with_reducible refine Su.x_max2 ?_ | with_reducible refine Su.x_lst ?_ | with_reducible refine Su.x_tup ?_ | with_reducible refine Su.x_for ?_ | with_reducible refine Su.x_iEnum ?_ | with_reducible refine Su.x_gcons ?_ | with_reducible refine Su.x_gnil ?_ | with_reducible refine Su.x_gsub ?_)
local macro_rules | `(tactic| walk_at "xs") => `(tactic| repeat walk_at "x")
local macro_rules | `(tactic| walk_at "if") => `(tactic| first | with_reducible refine Su.x_iteD (fun c => ?_) (fun c => ?_) | with_reducible refine Su.x_iteN (fun c => ?_) (fun c => ?_) | with_reducible refine Su.x_ite (fun c => ?_) (fun c => ?_))
local macro_rules | `(tactic| walk_at "at") => `(tactic| first | assumption | (refine Su.f_at (by assumption) ?_; walk_at "at"))
local macro_rules | `(tactic| walk_at "sm") => `(tactic| first | assumption | exact L2.Same.refl _ | (refine Su.f_tr (by assumption) ?_; walk_at "sm"))
local macro_rules | `(tactic| walk_at "hp") => `(tactic| first | assumption | ((with_reducible refine Su.f_sqL ?_); walk_at "at") | ((with_reducible refine Su.f_sqT ?_); walk_at "at") | ((with_reducible show L2.Same _ _); walk_at "sm") | ((with_reducible show _ = none); refine Su.f_free ?_ (by assumption); walk_at "sm") | ((with_reducible show _ = some _); walk_at "at") | (refine Su.f_dp (by assumption) ?_; walk_at "hp") | (refine Su.f_dpA (by assumption) ?_; walk_at "hp") | (refine Su.f_sqLs (by assumption) ?_; walk_at "hp") | (refine Su.f_sqTs (by assumption) ?_; walk_at "hp"))

/-! _law_opening -/
structure OpenAt (s : Int) (n : Nat) (pl ws : List Int) : Prop where
  ok : OpenOk s pl ws
  len : pl.length = n
  ord : ∃ row, IsOrder (openWin s pl ws) row
  pb : ∀ x ∈ pl, x ≤ s * ((n : Int) + 3)
def sp_law_opening (K : PySem.W.Frag) : Sp := fun vs H Q _ => ∃ (a : Addr) (rows : List Int) (n : Nat) (s : Int), vs = [.ref a, .int n, .int s] ∧ SqL K H a (rows.map V.int) ∧ 2 ≤ n ∧ n ≤ 20 ∧ 3 * n ≤ rows.length ∧ 1 ≤ s ∧ s ≤ 1000000 ∧
  ∀ (t p w : Addr) (pl ws : List Int) (H' : Hp), H t = none → H p = none → H w = none → (p ≠ w ∧ ∀ x ∈ pl, x ≤ 100000000) → Same H H' → H' t = some (.tup [.ref p, .ref w]) → H' p = some (intsO pl) → H' w = some (intsO ws) → OpenAt s n pl ws → Q (.ref t) H'
abbrev N_law_opening : List Str := ["_law_some", "_law_size", "_law_stake", "_law_pledges", "_law_wishes", "_law_at", "_law_number", "_law_rest"]
def t_law_opening (K : PySem.W.Frag) : TS :=
 (tSeq (tAsg (tOp rRep (tLst (tCons (tC (.int 0)) tNil)) (tVar 1)) (gName 3))
 (tSeq (tAsg (tOp rRep (tLst (tCons (tVar 1) tNil)) (tVar 1)) (gName 4))
 (tSeq (tFor (iEnum K (tCons (tCall (sp_law_perm K) [] E0 (tCons (tVar 0) (tCons (tVar 1) tNil))) tNil)) (gTup K 2 (gCons (gName 5) (gCons (gName 6) gNil)))
 (tSeq (tAsg (tOp rMul (tOp rMod (tOp rDiv (tOp (rIxL K) (tVar 0) (tOp rAdd (tVar 1) (tVar 5))) (tC (.int 3))) (tOp rAdd (tOp rMul (tC (.int 2)) (tVar 2)) (tC (.int 1)))) (tOp rMod (tOp (rIxL K) (tVar 0) (tOp rAdd (tVar 1) (tVar 5))) (tC (.int 3)))) (gName 7))
 (tSeq (tAsg (tCB rMax2 (tCons (tC (.int 0)) (tCons (tOp rAdd (tOp rMul (tVar 2) (tOp rSub (tOp rSub (tVar 1) (tC (.int 1))) (tVar 5))) (tOp rMul (tVar 7) (tOp rMod (tOp rDiv (tOp (rIxL K) (tVar 0) (tOp rAdd (tVar 1) (tVar 5))) (tC (.int 2))) (tC (.int 2))))) tNil))) (gSub (tVar 3) (tVar 6) rSetL))
 (tAsg (tOp rAdd (tOp rAdd (tVar 5) (tC (.int 1))) (tOp rMod (tOp (rIxL K) (tVar 0) (tOp rAdd (tOp rMul (tC (.int 2)) (tVar 1)) (tVar 5))) (tOp rSub (tVar 1) (tVar 5)))) (gSub (tVar 4) (tVar 6) rSetL)))))
 (tRet (tTup (tCons (tVar 3) (tCons (tVar 4) tNil)))))))

theorem len_law_opening {K : PySem.W.Frag} : ∀ vs H Q E, sp_law_opening K vs H Q E → vs.length = ["a", "b", "c"].length := by
  rintro vs H Q E ⟨_, _, _, _, rfl, _⟩; rfl
structure OpIn (s : Int) (n : Nat) (row : List Nat) (pl ws : List Int) (i : Nat) : Prop where
  l1 : pl.length = n
  l2 : ws.length = n
  p : ∀ x ∈ pl, 0 ≤ x ∧ x ≤ s * ((n : Int) + 3)
  w : ∀ x ∈ ws, 1 ≤ x ∧ x ≤ (n : Int)
  at_ : ∀ j (h : j < row.length), j < i → s * ((n : Int) - 1 - j) ≤ pl.getD row[j] 0 ∧ (j : Int) + 1 ≤ ws.getD row[j] 0
theorem mem_setI {l : List Int} {k : Nat} {v : Int} {P : Int → Prop} (h : ∀ x ∈ l, P x) (hv : P v) : ∀ x ∈ l.set k v, P x := fun x hx => by
  rcases List.mem_or_eq_of_mem_set hx with z | z
  · exact h x z
  · rw [z]; exact hv
theorem getD_setI {l : List Int} {i j : Nat} {a : Int} (h : i < l.length) : (l.set i a).getD j 0 = if i = j then a else l.getD j 0 := by
  rw [List.getD_eq_getElem?_getD, List.getD_eq_getElem?_getD, List.getElem?_set]
  by_cases c : i = j
  · subst c; simp [h]
  · simp [c]
theorem OpIn.step {s : Int} {n : Nat} {row : List Nat} {pl ws : List Int} {i : Nat} (h : OpIn s n row pl ws i) (nd : row.Nodup) (hi : i < row.length) (lt : row[i] < n) {x y : Int} (h1 : 0 ≤ x ∧ x ≤ s * ((n : Int) + 3)) (h2 : s * ((n : Int) - 1 - i) ≤ x) (h3 : (i : Int) + 1 ≤ y ∧ y ≤ (n : Int)) : OpIn s n row (pl.set row[i] x) (ws.set row[i] y) (i + 1) := by
  refine ⟨by rw [List.length_set]; exact h.l1, by rw [List.length_set]; exact h.l2, mem_setI h.p h1, mem_setI h.w ⟨by omega, h3.2⟩, fun j hj hji => ?_⟩
  rw [getD_setI (by rw [h.l1]; exact lt), getD_setI (by rw [h.l2]; exact lt)]
  by_cases c : i = j
  · subst c; rw [if_pos rfl, if_pos rfl]; exact ⟨h2, h3.1⟩
  · have : row[i] ≠ row[j] := nodup_ne nd hi hj c
    rw [if_neg this, if_neg this]; exact h.at_ j hj (by omega)
theorem pb_le {s : Int} {n : Nat} (n2 : n ≤ 20) (s1 : 1 ≤ s) (s2 : s ≤ 1000000) : s * ((n : Int) + 3) ≤ 100000000 := by
  have a := Int.mul_le_mul_of_nonneg_left (show (n : Int) + 3 ≤ 23 by omega) (show 0 ≤ s by omega)
  omega
theorem OpIn.done {s : Int} {n : Nat} {row : List Nat} {pl ws : List Int} (h : OpIn s n row pl ws n) (n1 : 2 ≤ n) (n2 : n ≤ 20) (s1 : 1 ≤ s) (s2 : s ≤ 1000000) (pm : row.Perm (List.range n)) : OpenAt s n pl ws := by
  have pb := pb_le n2 s1 s2
  have ok : OpenOk s pl ws := ⟨s1, s2, by rw [h.l1]; exact n1, by rw [h.l1]; exact n2, by rw [h.l1, h.l2], fun x hx => ⟨(h.p x hx).1, by have := (h.p x hx).2; omega⟩, by rw [h.l1]; exact h.w⟩
  have owl : (openWin s pl ws).length = n := by unfold openWin; rw [List.length_zipWith, h.l1, h.l2]; omega
  have rl : row.length = n := by rw [pm.length_eq, List.length_range]
  refine ⟨ok, h.l1, ⟨row, planted_order (by rw [owl]; exact pm) fun j hj _ => ?_⟩, fun x hx => (h.p x hx).2⟩
  have lt : row[j] < n := List.mem_range.mp (pm.mem_iff.mp (List.getElem_mem hj))
  have a := h.at_ j hj (by omega)
  have e := openWin_at (s := s) (pl := pl) (ws := ws) row[j] (by rw [h.l1]; exact lt) (by rw [h.l2]; exact lt)
  have e1 : pl.getD row[j] 0 = pl[row[j]]'(by rw [h.l1]; exact lt) := by rw [List.getD_eq_getElem?_getD, List.getElem?_eq_getElem (by rw [h.l1]; exact lt)]; rfl
  have e2 : ws.getD row[j] 0 = ws[row[j]]'(by rw [h.l2]; exact lt) := by rw [List.getD_eq_getElem?_getD, List.getElem?_eq_getElem (by rw [h.l2]; exact lt)]; rfl
  unfold w1 w2
  rw [List.getD_eq_getElem?_getD, e]
  simp only [Option.getD_some]
  rw [← e1, ← e2, h.l1]
  refine ⟨?_, a.2⟩
  have : (n : Int) - 1 - j ≤ pl.getD row[j] 0 / s := by
    rw [Int.le_ediv_iff_mul_le (by omega), Int.mul_comm]; exact a.1
  unfold firstCov
  split <;> omega
theorem pure_law_opening {K : PySem.W.Frag} {vs : List V} {H : Hp} {Q : VK} {E : XK} (h : sp_law_opening K vs H Q E) : t_law_opening K { nx := fun _ H' => Q .non H', rt := Q } (start N_law_opening vs) H := by
  obtain ⟨a, rows, n, s, rfl, hS, n1, n2, hr, s1, s2, k⟩ := h
  unfold t_law_opening
  walk_at "xs"
  refine al_lst fun m1 H1 nm1 q1 hm1 => ?_
  walk_at "xs"
  refine al_rep hm1 (by omega) fun p H2 np q2 hp _ => ?_
  walk_at "xs"
  refine al_lst fun m2 H3 nm2 q3 hm2 => ?_
  walk_at "xs"
  refine al_rep hm2 (by omega) fun w H4 nw q4 hw _ => ?_
  have hp4 := q4 _ _ (q3 _ _ hp)
  have neq : p ≠ w := ne_of_none (q3 _ _ hp) nw
  have s4 := ((q1.trans q2).trans q3).trans q4
  have np0 := q1.free np
  have nw0 := ((q1.trans q2).trans q3).free nw
  walk_at "xs"
  refine ⟨a, rows, n, rfl, s4.seq hS, by omega, by omega, fun r row H5 nr s5 hrow pm => ?_⟩
  have nd : row.Nodup := pm.nodup_iff.mpr List.nodup_range
  have rl : row.length = n := by rw [pm.length_eq, List.length_range]
  have hp5 := s5 _ _ hp4
  have hw5 := s5 _ _ hw
  have nrp : r ≠ p := fun e => by subst e; rw [hp4] at nr; cases nr
  have nrw : r ≠ w := fun e => by subst e; rw [hw] at nr; cases nr
  refine ⟨r, nI row, rfl, SqL.of hrow, for_by (turnsE (xs := nI row)) (fun i σ H' => ∃ (u1 u2 u3 : Option V) (pl ws : List Int), σ = [some (.ref a), some (.int n), some (.int s), some (.ref p), some (.ref w), u1, u2, u3] ∧ Same H H' ∧ H' r = some (.lst (nI row)) ∧ H' p = some (intsO pl) ∧ H' w = some (intsO ws) ∧ OpIn s n row pl ws i)
    ⟨none, none, none, List.replicate n 0, List.replicate n n, rfl, s4.trans s5, hrow, by rw [hp5, intsO, List.map_replicate], by rw [hw5, intsO, List.map_replicate], by simp, by simp, fun x hx => by rw [(List.mem_replicate.mp hx).2]; exact ⟨Int.le_refl _, Int.mul_nonneg (by omega) (by omega)⟩, fun x hx => by rw [(List.mem_replicate.mp hx).2]; omega, fun j hj z => absurd z (by omega)⟩
    (fun i σ H' _ q => by obtain ⟨_, _, _, _, _, _, _, h, _⟩ := q; exact SqL.of h) ?_ ?_⟩
  · rintro i v σ H6 H7 hi ⟨u1, u2, u3, pl, ws, rfl, s6, hr6, hp6, hw6, inv⟩ ⟨x, hx, T, rfl, nT, s7, hT, _⟩
    rw [nI_len] at hi
    unfold nI at hx
    rw [List.getElem?_map, List.getElem?_eq_getElem hi] at hx
    cases hx
    have lt : row[i] < n := List.mem_range.mp (pm.mem_iff.mp (List.getElem_mem hi))
    refine x_gtup (SqT.of hT) rfl ?_
    have hS7 : SqL K H7 a (rows.map V.int) := (s6.trans s7).seq hS
    have hr7 := s7 _ _ hr6
    have hp7 := s7 _ _ hp6
    have hw7 := s7 _ _ hw6
    have l1 := inv.l1
    have l2 := inv.l2
    walk_at "xs"
    refine x_ixL hS7 (at_getI (by omega) (by omega)) ?_
    generalize hg : rows.getD ((n : Int) + (i : Int)).toNat 0 = g
    have m1 := b_mod (g / 3) (2 * s + 1) (by omega)
    have m2 := b_mod g 3 (by decide)
    have m3 := b_mod (g / 2) 2 (by decide)
    walk_at "xs"
    refine x_ixL hS7 (at_getI (by omega) (by omega)) ?_
    rw [hg]
    walk_at "xs"
    refine x_ixL hS7 (at_getI (by omega) (by omega)) ?_
    rw [hg]
    walk_at "xs"
    have b1 : 0 ≤ g / 3 % (2 * s + 1) * (g % 3) ∧ g / 3 % (2 * s + 1) * (g % 3) ≤ 4 * s := by
      refine ⟨Int.mul_nonneg m1.1 m2.1, ?_⟩
      have := Int.mul_le_mul (show g / 3 % (2 * s + 1) ≤ 2 * s by omega) (show g % 3 ≤ 2 by omega) m2.1 (by omega)
      omega
    generalize g / 3 % (2 * s + 1) * (g % 3) = rest at b1 ⊢
    have b2 : 0 ≤ rest * (g / 2 % 2) ∧ rest * (g / 2 % 2) ≤ 4 * s := by
      have : g / 2 % 2 = 0 ∨ g / 2 % 2 = 1 := by omega
      rcases this with z | z <;> rw [z] <;> omega
    generalize rest * (g / 2 % 2) = add at b2 ⊢
    have b3 : 0 ≤ s * ((n : Int) - 1 - i) ∧ s * ((n : Int) - 1 - i) + 4 * s ≤ s * ((n : Int) + 3) := by
      refine ⟨Int.mul_nonneg (by omega) (by omega), ?_⟩
      have := Int.mul_le_mul_of_nonneg_left (show (n : Int) - 1 - i + 4 ≤ (n : Int) + 3 by omega) (show 0 ≤ s by omega)
      rw [Int.mul_add] at this
      omega
    obtain ⟨y, hy, b4⟩ : ∃ y, (if s * ((n : Int) - 1 - i) + add > 0 then s * ((n : Int) - 1 - i) + add else 0) = y ∧ 0 ≤ y ∧ y ≤ s * ((n : Int) + 3) ∧ s * ((n : Int) - 1 - i) ≤ y := by
      refine ⟨_, rfl, ?_⟩
      split <;> omega
    rw [hy]
    refine x_setL hp7 (by omega) (by rw [List.length_map]; omega) ?_
    rw [set_mapI]
    have hS8 : SqL K (upd H7 p (intsO (pl.set row[i] y))) a (rows.map V.int) := (same_upd (s6.trans s7) np0).seq hS
    have hw8 := at_upd (o' := intsO (pl.set row[i] y)) hw7 neq
    have hr8 := at_upd (o' := intsO (pl.set row[i] y)) hr7 (fun e => nrp e.symm)
    have hp8 : upd H7 p (intsO (pl.set row[i] y)) p = some (intsO (pl.set row[i] y)) := upd_same
    have s8 := same_upd (o := intsO (pl.set row[i] y)) (s6.trans s7) np0
    generalize upd H7 p (intsO (pl.set row[i] y)) = H8 at hS8 hw8 hr8 hp8 s8 ⊢
    walk_at "xs"
    refine x_ixL hS8 (at_getI (by omega) (by omega)) ?_
    generalize rows.getD (2 * (n : Int) + (i : Int)).toNat 0 = z
    have m4 := b_mod z ((n : Int) - i) (by omega)
    walk_at "xs"
    refine x_setL hw8 (by omega) (by rw [List.length_map]; omega) ?_
    rw [set_mapI]
    exact ⟨_, _, _, _, _, rfl, same_upd s8 nw0, at_upd hr8 (fun e => nrw e.symm), at_upd hp8 (fun e => neq e.symm), upd_same, inv.step nd hi lt ⟨b4.1, b4.2.1⟩ b4.2.2 ⟨by omega, by omega⟩⟩
  · rintro σ H6 ⟨u1, u2, u3, pl, ws, rfl, s6, hr6, hp6, hw6, inv⟩
    rw [nI_len, rl] at inv
    walk_at "xs"
    refine al_tup fun t H7 nt s7 ht => ?_
    exact k t p w pl ws H7 (s6.free nt) np0 nw0 ⟨neq, fun x hx => Int.le_trans (inv.p x hx).2 (pb_le n2 s1 s2)⟩ (s6.trans s7) ht (s7 _ _ hp6) (s7 _ _ hw6) (inv.done n1 n2 s1 s2 pm)

end Su
namespace Su
open PySem L2
local macro_rules | `(tactic| walk_at "side") => `(tactic| first | assumption | (show (0 : Int) < _; omega) | (show (0 : Int) ≤ _; omega) | (show (0 : Int) < _; split <;> omega) | (show _ ∨ _; omega) | (show _ ∧ _; omega) | exact ⟨by decide, by decide, by decide⟩ | exact ⟨by first | assumption | omega, by first | assumption | omega⟩)
local macro_rules | `(tactic| walk_at "x") => `(tactic| first | with_reducible refine Su.x_ifS ?_ | ((with_reducible show L2.tVar _ _ _ _); refine Su.x_var rfl ?_) | with_reducible refine Su.x_c ?_ | with_reducible refine Su.x_rI0 ?_ | with_reducible refine Su.x_iteNF ?_ | with_reducible refine Su.x_test ?_ | with_reducible refine Su.x_isB' ?_ | with_reducible refine Su.x_not ?_ | with_reducible refine Su.x_chain ?_ | with_reducible refine Su.x_next ?_)
local macro_rules | `(tactic| walk_at "xs") => `(tactic| repeat walk_at "x")
local macro_rules | `(tactic| walk_at "if") => `(tactic| first | with_reducible refine Su.x_iteD (fun c => ?_) (fun c => ?_) | with_reducible refine Su.x_iteN (fun c => ?_) (fun c => ?_) | with_reducible refine Su.x_ite (fun c => ?_) (fun c => ?_))
local macro_rules | `(tactic| walk_at "at") => `(tactic| first | assumption | (refine Su.f_at (by assumption) ?_; walk_at "at"))
local macro_rules | `(tactic| walk_at "sm") => `(tactic| first | assumption | exact L2.Same.refl _ | (refine Su.f_tr (by assumption) ?_; walk_at "sm"))
local macro_rules | `(tactic| walk_at "hp") => `(tactic| first | assumption | ((with_reducible refine Su.f_sqL ?_); walk_at "at") | ((with_reducible refine Su.f_sqT ?_); walk_at "at") | ((with_reducible show L2.Same _ _); walk_at "sm") | ((with_reducible show _ = none); refine Su.f_free ?_ (by assumption); walk_at "sm") | ((with_reducible show _ = some _); walk_at "at") | (refine Su.f_dp (by assumption) ?_; walk_at "hp") | (refine Su.f_dpA (by assumption) ?_; walk_at "hp") | (refine Su.f_sqLs (by assumption) ?_; walk_at "hp") | (refine Su.f_sqTs (by assumption) ?_; walk_at "hp"))
local macro_rules | `(tactic| walk_at "x") => `(tactic| first | with_reducible refine Su.x_fld ?_ | with_reducible refine Su.c_size (by assumption) ?_)
local macro_rules | `(tactic| walk_at "me") => `(tactic| first | refine Su.c_meth (by assumption) rfl ?_ | refine Su.so_meth (by assumption) rfl ?_)

end Su
namespace Su
open PySem L2
local macro_rules | `(tactic| walk_at "side") => `(tactic| first | assumption | (show (0 : Int) < _; omega) | (show (0 : Int) ≤ _; omega) | (show (0 : Int) < _; split <;> omega) | (show _ ∨ _; omega) | (show _ ∧ _; omega) | exact ⟨by decide, by decide, by decide⟩ | exact ⟨by first | assumption | omega, by first | assumption | omega⟩)
local macro_rules | `(tactic| walk_at "x") => `(tactic| first | with_reducible refine Su.x_seq ?_ | with_reducible refine Su.x_drop ?_ | with_reducible refine Su.x_ret ?_ | with_reducible refine Su.x_ifS ?_ | ((with_reducible show L2.tVar _ _ _ _); refine Su.x_var rfl ?_) | with_reducible refine Su.x_c ?_ | with_reducible refine Su.x_op ?_ | with_reducible refine Su.x_rI0 ?_ | with_reducible refine Su.x_eqS ?_ | with_reducible refine Su.x_test ?_ | with_reducible refine Su.x_isB' ?_ | with_reducible refine Su.x_nil ?_ | with_reducible refine Su.x_cons ?_ | with_reducible refine Su.x_bmL ?_ | with_reducible refine Su.x_next ?_)
local macro_rules | `(tactic| walk_at "xs") => `(tactic| repeat walk_at "x")
local macro_rules | `(tactic| walk_at "if") => `(tactic| first | with_reducible refine Su.x_iteD (fun c => ?_) (fun c => ?_) | with_reducible refine Su.x_iteN (fun c => ?_) (fun c => ?_) | with_reducible refine Su.x_ite (fun c => ?_) (fun c => ?_))
local macro_rules | `(tactic| walk_at "at") => `(tactic| first | assumption | (refine Su.f_at (by assumption) ?_; walk_at "at"))
local macro_rules | `(tactic| walk_at "sm") => `(tactic| first | assumption | exact L2.Same.refl _ | (refine Su.f_tr (by assumption) ?_; walk_at "sm"))
local macro_rules | `(tactic| walk_at "hp") => `(tactic| first | assumption | ((with_reducible refine Su.f_sqL ?_); walk_at "at") | ((with_reducible refine Su.f_sqT ?_); walk_at "at") | ((with_reducible show L2.Same _ _); walk_at "sm") | ((with_reducible show _ = none); refine Su.f_free ?_ (by assumption); walk_at "sm") | ((with_reducible show _ = some _); walk_at "at") | (refine Su.f_dp (by assumption) ?_; walk_at "hp") | (refine Su.f_dpA (by assumption) ?_; walk_at "hp") | (refine Su.f_sqLs (by assumption) ?_; walk_at "hp") | (refine Su.f_sqTs (by assumption) ?_; walk_at "hp"))
local macro_rules | `(tactic| walk_at "x") => `(tactic| first | with_reducible refine Su.x_fld ?_ | with_reducible refine Su.x_meth ?_ | with_reducible refine Su.c_now (by assumption) ?_ | with_reducible refine Su.c_line (by assumption) ?_ | with_reducible refine Su.c_due (by assumption) ?_ | with_reducible refine Su.c_state (by assumption) ?_ | with_reducible refine Su.c_when (by assumption) ?_)
local macro_rules | `(tactic| walk_at "me") => `(tactic| first | refine Su.c_meth (by assumption) rfl ?_ | refine Su.so_meth (by assumption) rfl ?_)

end Su
namespace Su
open PySem L2
local macro_rules | `(tactic| walk_at "side") => `(tactic| first | assumption | (show (0 : Int) < _; omega) | (show (0 : Int) ≤ _; omega) | (show (0 : Int) < _; split <;> omega) | (show _ ∨ _; omega) | (show _ ∧ _; omega) | exact ⟨by decide, by decide, by decide⟩ | exact ⟨by first | assumption | omega, by first | assumption | omega⟩)
local macro_rules | `(tactic| walk_at "x") => `(tactic| first | with_reducible refine Su.x_seq ?_ | with_reducible refine Su.x_drop ?_ | with_reducible refine Su.x_ret ?_ | with_reducible refine Su.x_ifS ?_ | ((with_reducible show L2.tVar _ _ _ _); refine Su.x_var rfl ?_) | with_reducible refine Su.x_c ?_ | with_reducible refine Su.x_op ?_ | with_reducible refine Su.x_rI0 ?_ | ((with_reducible refine Su.x_rI ?_ ?_); focus walk_at "side") | with_reducible refine Su.x_eqS ?_ | with_reducible refine Su.x_test ?_ | with_reducible refine Su.x_isB' ?_ | with_reducible refine Su.x_nil ?_ | with_reducible refine Su.x_cons ?_ | with_reducible refine Su.x_next ?_)
local macro_rules | `(tactic| walk_at "xs") => `(tactic| repeat walk_at "x")
local macro_rules | `(tactic| walk_at "if") => `(tactic| first | with_reducible refine Su.x_iteD (fun c => ?_) (fun c => ?_) | with_reducible refine Su.x_iteN (fun c => ?_) (fun c => ?_) | with_reducible refine Su.x_ite (fun c => ?_) (fun c => ?_))
local macro_rules | `(tactic| walk_at "at") => `(tactic| first | assumption | (refine Su.f_at (by assumption) ?_; walk_at "at"))
local macro_rules | `(tactic| walk_at "sm") => `(tactic| first | assumption | exact L2.Same.refl _ | (refine Su.f_tr (by assumption) ?_; walk_at "sm"))
local macro_rules | `(tactic| walk_at "hp") => `(tactic| first | assumption | ((with_reducible refine Su.f_sqL ?_); walk_at "at") | ((with_reducible refine Su.f_sqT ?_); walk_at "at") | ((with_reducible show L2.Same _ _); walk_at "sm") | ((with_reducible show _ = none); refine Su.f_free ?_ (by assumption); walk_at "sm") | ((with_reducible show _ = some _); walk_at "at") | (refine Su.f_dp (by assumption) ?_; walk_at "hp") | (refine Su.f_dpA (by assumption) ?_; walk_at "hp") | (refine Su.f_sqLs (by assumption) ?_; walk_at "hp") | (refine Su.f_sqTs (by assumption) ?_; walk_at "hp"))
local macro_rules | `(tactic| walk_at "x") => `(tactic| first | with_reducible refine Su.x_fld ?_ | with_reducible refine Su.x_meth ?_ | with_reducible refine Su.c_stake (by assumption) ?_ | with_reducible refine Su.c_size (by assumption) ?_ | with_reducible refine Su.c_now (by assumption) ?_ | with_reducible refine Su.c_state (by assumption) ?_)
local macro_rules | `(tactic| walk_at "me") => `(tactic| first | refine Su.c_meth (by assumption) rfl ?_ | refine Su.so_meth (by assumption) rfl ?_)

end Su
namespace Su
open PySem L2
local macro_rules | `(tactic| walk_at "side") => `(tactic| first | assumption | (show (0 : Int) < _; omega) | (show (0 : Int) ≤ _; omega) | (show (0 : Int) < _; split <;> omega) | (show _ ∨ _; omega) | (show _ ∧ _; omega) | exact ⟨by decide, by decide, by decide⟩ | exact ⟨by first | assumption | omega, by first | assumption | omega⟩)
local macro_rules | `(tactic| walk_at "x") => `(tactic| first | with_reducible refine Su.x_seq ?_ | with_reducible refine Su.x_asg ?_ | with_reducible refine Su.x_gname ?_ | with_reducible refine Su.x_drop ?_ | with_reducible refine Su.x_ret ?_ | with_reducible refine Su.x_ifS ?_ | ((with_reducible show L2.tVar _ _ _ _); refine Su.x_var rfl ?_) | with_reducible refine Su.x_c ?_ | with_reducible refine Su.x_op ?_ | with_reducible refine Su.x_eqS ?_ | with_reducible refine Su.x_test ?_ | with_reducible refine Su.x_tB ?_ | with_reducible refine Su.x_isB' ?_ | with_reducible refine Su.x_not ?_ | with_reducible refine Su.x_nil ?_ | with_reducible refine Su.x_cons ?_ | with_reducible refine Su.x_lst ?_ | with_reducible refine Su.x_bmL ?_ | with_reducible refine Su.x_next ?_ | with_reducible refine Su.x_for ?_ | with_reducible refine Su.x_iRng1 ?_ | with_reducible refine Su.x_ipI ?_ | ((with_reducible show L2.tAug _ _ _ _ _ _); refine Su.x_aug rfl ?_))
local macro_rules | `(tactic| walk_at "xs") => `(tactic| repeat walk_at "x")
local macro_rules | `(tactic| walk_at "if") => `(tactic| first | with_reducible refine Su.x_iteD (fun c => ?_) (fun c => ?_) | with_reducible refine Su.x_iteN (fun c => ?_) (fun c => ?_) | with_reducible refine Su.x_ite (fun c => ?_) (fun c => ?_))
local macro_rules | `(tactic| walk_at "at") => `(tactic| first | assumption | (refine Su.f_at (by assumption) ?_; walk_at "at"))
local macro_rules | `(tactic| walk_at "sm") => `(tactic| first | assumption | exact L2.Same.refl _ | (refine Su.f_tr (by assumption) ?_; walk_at "sm"))
local macro_rules | `(tactic| walk_at "hp") => `(tactic| first | assumption | ((with_reducible refine Su.f_sqL ?_); walk_at "at") | ((with_reducible refine Su.f_sqT ?_); walk_at "at") | ((with_reducible show L2.Same _ _); walk_at "sm") | ((with_reducible show _ = none); refine Su.f_free ?_ (by assumption); walk_at "sm") | ((with_reducible show _ = some _); walk_at "at") | (refine Su.f_dp (by assumption) ?_; walk_at "hp") | (refine Su.f_dpA (by assumption) ?_; walk_at "hp") | (refine Su.f_sqLs (by assumption) ?_; walk_at "hp") | (refine Su.f_sqTs (by assumption) ?_; walk_at "hp"))
local macro_rules | `(tactic| walk_at "x") => `(tactic| first | with_reducible refine Su.x_fld ?_ | with_reducible refine Su.x_meth ?_ | with_reducible refine Su.c_size (by assumption) ?_ | with_reducible refine Su.c_state (by assumption) ?_ | with_reducible refine Su.c_pledged (by assumption) ?_ | with_reducible refine Su.c_given (by assumption) ?_)
local macro_rules | `(tactic| walk_at "me") => `(tactic| first | refine Su.c_meth (by assumption) rfl ?_ | refine Su.so_meth (by assumption) rfl ?_)

end Su
namespace Su
open PySem L2
local macro_rules | `(tactic| walk_at "side") => `(tactic| first | assumption | (show (0 : Int) < _; omega) | (show (0 : Int) ≤ _; omega) | (show (0 : Int) < _; split <;> omega) | (show _ ∨ _; omega) | (show _ ∧ _; omega) | exact ⟨by decide, by decide, by decide⟩ | exact ⟨by first | assumption | omega, by first | assumption | omega⟩)
local macro_rules | `(tactic| walk_at "xs") => `(tactic| repeat walk_at "x")
local macro_rules | `(tactic| walk_at "if") => `(tactic| first | with_reducible refine Su.x_iteD (fun c => ?_) (fun c => ?_) | with_reducible refine Su.x_iteN (fun c => ?_) (fun c => ?_) | with_reducible refine Su.x_ite (fun c => ?_) (fun c => ?_))

/-! circles stay well formed -/
section
variable {st : CS} {paid : List Bool} {bids : List Int}
end
end Su
namespace Su
open PySem L2
local macro_rules | `(tactic| walk_at "side") => `(tactic| first | assumption | (show (0 : Int) < _; omega) | (show (0 : Int) ≤ _; omega) | (show (0 : Int) < _; split <;> omega) | (show _ ∨ _; omega) | (show _ ∧ _; omega) | exact ⟨by decide, by decide, by decide⟩ | exact ⟨by first | assumption | omega, by first | assumption | omega⟩)
local macro_rules | `(tactic| walk_at "x") => `(tactic| first | with_reducible refine Su.x_ret ?_ | ((with_reducible show L2.tVar _ _ _ _); refine Su.x_var rfl ?_) | with_reducible refine Su.x_nil ?_ | with_reducible refine Su.x_cons ?_ | with_reducible refine Su.x_cb ?_)
local macro_rules | `(tactic| walk_at "xs") => `(tactic| repeat walk_at "x")
local macro_rules | `(tactic| walk_at "if") => `(tactic| first | with_reducible refine Su.x_iteD (fun c => ?_) (fun c => ?_) | with_reducible refine Su.x_iteN (fun c => ?_) (fun c => ?_) | with_reducible refine Su.x_ite (fun c => ?_) (fun c => ?_))
local macro_rules | `(tactic| walk_at "at") => `(tactic| first | assumption | (refine Su.f_at (by assumption) ?_; walk_at "at"))
local macro_rules | `(tactic| walk_at "sm") => `(tactic| first | assumption | exact L2.Same.refl _ | (refine Su.f_tr (by assumption) ?_; walk_at "sm"))
local macro_rules | `(tactic| walk_at "hp") => `(tactic| first | assumption | ((with_reducible refine Su.f_sqL ?_); walk_at "at") | ((with_reducible refine Su.f_sqT ?_); walk_at "at") | ((with_reducible show L2.Same _ _); walk_at "sm") | ((with_reducible show _ = none); refine Su.f_free ?_ (by assumption); walk_at "sm") | ((with_reducible show _ = some _); walk_at "at") | (refine Su.f_dp (by assumption) ?_; walk_at "hp") | (refine Su.f_dpA (by assumption) ?_; walk_at "hp") | (refine Su.f_sqLs (by assumption) ?_; walk_at "hp") | (refine Su.f_sqTs (by assumption) ?_; walk_at "hp"))
local macro_rules | `(tactic| walk_at "x") => `(tactic| first | with_reducible refine Su.x_fld ?_ | with_reducible refine Su.c_line (by assumption) ?_)
local macro_rules | `(tactic| walk_at "me") => `(tactic| first | refine Su.c_meth (by assumption) rfl ?_ | refine Su.so_meth (by assumption) rfl ?_)

end Su
namespace Su
open PySem L2
local macro_rules | `(tactic| walk_at "side") => `(tactic| first | assumption | (show (0 : Int) < _; omega) | (show (0 : Int) ≤ _; omega) | (show (0 : Int) < _; split <;> omega) | (show _ ∨ _; omega) | (show _ ∧ _; omega) | exact ⟨by decide, by decide, by decide⟩ | exact ⟨by first | assumption | omega, by first | assumption | omega⟩)
local macro_rules | `(tactic| walk_at "x") => `(tactic| first | with_reducible refine Su.x_ret ?_ | ((with_reducible show L2.tVar _ _ _ _); refine Su.x_var rfl ?_))
local macro_rules | `(tactic| walk_at "xs") => `(tactic| repeat walk_at "x")
local macro_rules | `(tactic| walk_at "if") => `(tactic| first | with_reducible refine Su.x_iteD (fun c => ?_) (fun c => ?_) | with_reducible refine Su.x_iteN (fun c => ?_) (fun c => ?_) | with_reducible refine Su.x_ite (fun c => ?_) (fun c => ?_))
local macro_rules | `(tactic| walk_at "at") => `(tactic| first | assumption | (refine Su.f_at (by assumption) ?_; walk_at "at"))
local macro_rules | `(tactic| walk_at "sm") => `(tactic| first | assumption | exact L2.Same.refl _ | (refine Su.f_tr (by assumption) ?_; walk_at "sm"))
local macro_rules | `(tactic| walk_at "hp") => `(tactic| first | assumption | ((with_reducible refine Su.f_sqL ?_); walk_at "at") | ((with_reducible refine Su.f_sqT ?_); walk_at "at") | ((with_reducible show L2.Same _ _); walk_at "sm") | ((with_reducible show _ = none); refine Su.f_free ?_ (by assumption); walk_at "sm") | ((with_reducible show _ = some _); walk_at "at") | (refine Su.f_dp (by assumption) ?_; walk_at "hp") | (refine Su.f_dpA (by assumption) ?_; walk_at "hp") | (refine Su.f_sqLs (by assumption) ?_; walk_at "hp") | (refine Su.f_sqTs (by assumption) ?_; walk_at "hp"))
local macro_rules | `(tactic| walk_at "x") => `(tactic| first | with_reducible refine Su.x_fld ?_ | with_reducible refine Su.c_chest (by assumption) ?_)
local macro_rules | `(tactic| walk_at "me") => `(tactic| first | refine Su.c_meth (by assumption) rfl ?_ | refine Su.so_meth (by assumption) rfl ?_)

end Su
namespace Su
open PySem L2
local macro_rules | `(tactic| walk_at "side") => `(tactic| first | assumption | (show (0 : Int) < _; omega) | (show (0 : Int) ≤ _; omega) | (show (0 : Int) < _; split <;> omega) | (show _ ∨ _; omega) | (show _ ∧ _; omega) | exact ⟨by decide, by decide, by decide⟩ | exact ⟨by first | assumption | omega, by first | assumption | omega⟩)
local macro_rules | `(tactic| walk_at "x") => `(tactic| first | with_reducible refine Su.x_ret ?_ | ((with_reducible show L2.tVar _ _ _ _); refine Su.x_var rfl ?_))
local macro_rules | `(tactic| walk_at "xs") => `(tactic| repeat walk_at "x")
local macro_rules | `(tactic| walk_at "if") => `(tactic| first | with_reducible refine Su.x_iteD (fun c => ?_) (fun c => ?_) | with_reducible refine Su.x_iteN (fun c => ?_) (fun c => ?_) | with_reducible refine Su.x_ite (fun c => ?_) (fun c => ?_))
local macro_rules | `(tactic| walk_at "at") => `(tactic| first | assumption | (refine Su.f_at (by assumption) ?_; walk_at "at"))
local macro_rules | `(tactic| walk_at "sm") => `(tactic| first | assumption | exact L2.Same.refl _ | (refine Su.f_tr (by assumption) ?_; walk_at "sm"))
local macro_rules | `(tactic| walk_at "hp") => `(tactic| first | assumption | ((with_reducible refine Su.f_sqL ?_); walk_at "at") | ((with_reducible refine Su.f_sqT ?_); walk_at "at") | ((with_reducible show L2.Same _ _); walk_at "sm") | ((with_reducible show _ = none); refine Su.f_free ?_ (by assumption); walk_at "sm") | ((with_reducible show _ = some _); walk_at "at") | (refine Su.f_dp (by assumption) ?_; walk_at "hp") | (refine Su.f_dpA (by assumption) ?_; walk_at "hp") | (refine Su.f_sqLs (by assumption) ?_; walk_at "hp") | (refine Su.f_sqTs (by assumption) ?_; walk_at "hp"))
local macro_rules | `(tactic| walk_at "x") => `(tactic| first | with_reducible refine Su.x_fld ?_ | with_reducible refine Su.c_now (by assumption) ?_)
local macro_rules | `(tactic| walk_at "me") => `(tactic| first | refine Su.c_meth (by assumption) rfl ?_ | refine Su.so_meth (by assumption) rfl ?_)

end Su
namespace Su
open PySem L2
local macro_rules | `(tactic| walk_at "side") => `(tactic| first | assumption | (show (0 : Int) < _; omega) | (show (0 : Int) ≤ _; omega) | (show (0 : Int) < _; split <;> omega) | (show _ ∨ _; omega) | (show _ ∧ _; omega) | exact ⟨by decide, by decide, by decide⟩ | exact ⟨by first | assumption | omega, by first | assumption | omega⟩)
local macro_rules | `(tactic| walk_at "x") => `(tactic| first | with_reducible refine Su.x_ret ?_ | ((with_reducible show L2.tVar _ _ _ _); refine Su.x_var rfl ?_))
local macro_rules | `(tactic| walk_at "xs") => `(tactic| repeat walk_at "x")
local macro_rules | `(tactic| walk_at "if") => `(tactic| first | with_reducible refine Su.x_iteD (fun c => ?_) (fun c => ?_) | with_reducible refine Su.x_iteN (fun c => ?_) (fun c => ?_) | with_reducible refine Su.x_ite (fun c => ?_) (fun c => ?_))
local macro_rules | `(tactic| walk_at "at") => `(tactic| first | assumption | (refine Su.f_at (by assumption) ?_; walk_at "at"))
local macro_rules | `(tactic| walk_at "sm") => `(tactic| first | assumption | exact L2.Same.refl _ | (refine Su.f_tr (by assumption) ?_; walk_at "sm"))
local macro_rules | `(tactic| walk_at "hp") => `(tactic| first | assumption | ((with_reducible refine Su.f_sqL ?_); walk_at "at") | ((with_reducible refine Su.f_sqT ?_); walk_at "at") | ((with_reducible show L2.Same _ _); walk_at "sm") | ((with_reducible show _ = none); refine Su.f_free ?_ (by assumption); walk_at "sm") | ((with_reducible show _ = some _); walk_at "at") | (refine Su.f_dp (by assumption) ?_; walk_at "hp") | (refine Su.f_dpA (by assumption) ?_; walk_at "hp") | (refine Su.f_sqLs (by assumption) ?_; walk_at "hp") | (refine Su.f_sqTs (by assumption) ?_; walk_at "hp"))
local macro_rules | `(tactic| walk_at "x") => `(tactic| first | with_reducible refine Su.x_fld ?_ | with_reducible refine Su.c_due (by assumption) ?_)
local macro_rules | `(tactic| walk_at "me") => `(tactic| first | refine Su.c_meth (by assumption) rfl ?_ | refine Su.so_meth (by assumption) rfl ?_)

end Su
namespace Su
open PySem L2
local macro_rules | `(tactic| walk_at "side") => `(tactic| first | assumption | (show (0 : Int) < _; omega) | (show (0 : Int) ≤ _; omega) | (show (0 : Int) < _; split <;> omega) | (show _ ∨ _; omega) | (show _ ∧ _; omega) | exact ⟨by decide, by decide, by decide⟩ | exact ⟨by first | assumption | omega, by first | assumption | omega⟩)
local macro_rules | `(tactic| walk_at "x") => `(tactic| first | with_reducible refine Su.x_seq ?_ | with_reducible refine Su.x_drop ?_ | with_reducible refine Su.x_ret ?_ | ((with_reducible show L2.tVar _ _ _ _); refine Su.x_var rfl ?_) | with_reducible refine Su.x_op ?_ | with_reducible refine Su.x_nil ?_ | with_reducible refine Su.x_cons ?_ | with_reducible refine Su.x_tup ?_)
local macro_rules | `(tactic| walk_at "xs") => `(tactic| repeat walk_at "x")
local macro_rules | `(tactic| walk_at "if") => `(tactic| first | with_reducible refine Su.x_iteD (fun c => ?_) (fun c => ?_) | with_reducible refine Su.x_iteN (fun c => ?_) (fun c => ?_) | with_reducible refine Su.x_ite (fun c => ?_) (fun c => ?_))
local macro_rules | `(tactic| walk_at "at") => `(tactic| first | assumption | (refine Su.f_at (by assumption) ?_; walk_at "at"))
local macro_rules | `(tactic| walk_at "sm") => `(tactic| first | assumption | exact L2.Same.refl _ | (refine Su.f_tr (by assumption) ?_; walk_at "sm"))
local macro_rules | `(tactic| walk_at "hp") => `(tactic| first | assumption | ((with_reducible refine Su.f_sqL ?_); walk_at "at") | ((with_reducible refine Su.f_sqT ?_); walk_at "at") | ((with_reducible show L2.Same _ _); walk_at "sm") | ((with_reducible show _ = none); refine Su.f_free ?_ (by assumption); walk_at "sm") | ((with_reducible show _ = some _); walk_at "at") | (refine Su.f_dp (by assumption) ?_; walk_at "hp") | (refine Su.f_dpA (by assumption) ?_; walk_at "hp") | (refine Su.f_sqLs (by assumption) ?_; walk_at "hp") | (refine Su.f_sqTs (by assumption) ?_; walk_at "hp"))
local macro_rules | `(tactic| walk_at "x") => `(tactic| first | with_reducible refine Su.x_fld ?_ | with_reducible refine Su.x_meth ?_ | with_reducible refine Su.c_state (by assumption) ?_ | with_reducible refine Su.c_when (by assumption) ?_ | with_reducible refine Su.c_pledged (by assumption) ?_ | with_reducible refine Su.c_given (by assumption) ?_ | with_reducible refine Su.c_drawn (by assumption) ?_ | with_reducible refine Su.c_shared (by assumption) ?_ | with_reducible refine Su.c_missed (by assumption) ?_)
local macro_rules | `(tactic| walk_at "me") => `(tactic| first | refine Su.c_meth (by assumption) rfl ?_ | refine Su.so_meth (by assumption) rfl ?_)

def seatV (r : SeatR) : List V := [.str r.st.s, .int r.wh, .int r.pl, .int r.gv, .int r.dr, .int r.sh, .int r.ms]
end Su
namespace Su
open PySem L2
local macro_rules | `(tactic| walk_at "side") => `(tactic| first | assumption | (show (0 : Int) < _; omega) | (show (0 : Int) ≤ _; omega) | (show (0 : Int) < _; split <;> omega) | (show _ ∨ _; omega) | (show _ ∧ _; omega) | exact ⟨by decide, by decide, by decide⟩ | exact ⟨by first | assumption | omega, by first | assumption | omega⟩)
local macro_rules | `(tactic| walk_at "x") => `(tactic| first | with_reducible refine Su.x_seq ?_ | with_reducible refine Su.x_drop ?_ | with_reducible refine Su.x_ret ?_ | ((with_reducible show L2.tVar _ _ _ _); refine Su.x_var rfl ?_) | with_reducible refine Su.x_op ?_ | with_reducible refine Su.x_nil ?_ | with_reducible refine Su.x_cons ?_ | with_reducible refine Su.x_cb ?_)
local macro_rules | `(tactic| walk_at "xs") => `(tactic| repeat walk_at "x")
local macro_rules | `(tactic| walk_at "if") => `(tactic| first | with_reducible refine Su.x_iteD (fun c => ?_) (fun c => ?_) | with_reducible refine Su.x_iteN (fun c => ?_) (fun c => ?_) | with_reducible refine Su.x_ite (fun c => ?_) (fun c => ?_))
local macro_rules | `(tactic| walk_at "at") => `(tactic| first | assumption | (refine Su.f_at (by assumption) ?_; walk_at "at"))
local macro_rules | `(tactic| walk_at "sm") => `(tactic| first | assumption | exact L2.Same.refl _ | (refine Su.f_tr (by assumption) ?_; walk_at "sm"))
local macro_rules | `(tactic| walk_at "hp") => `(tactic| first | assumption | ((with_reducible refine Su.f_sqL ?_); walk_at "at") | ((with_reducible refine Su.f_sqT ?_); walk_at "at") | ((with_reducible show L2.Same _ _); walk_at "sm") | ((with_reducible show _ = none); refine Su.f_free ?_ (by assumption); walk_at "sm") | ((with_reducible show _ = some _); walk_at "at") | (refine Su.f_dp (by assumption) ?_; walk_at "hp") | (refine Su.f_dpA (by assumption) ?_; walk_at "hp") | (refine Su.f_sqLs (by assumption) ?_; walk_at "hp") | (refine Su.f_sqTs (by assumption) ?_; walk_at "hp"))
local macro_rules | `(tactic| walk_at "x") => `(tactic| first | with_reducible refine Su.x_fld ?_ | with_reducible refine Su.x_meth ?_ | with_reducible refine Su.c_flows (by assumption) ?_)
local macro_rules | `(tactic| walk_at "me") => `(tactic| first | refine Su.c_meth (by assumption) rfl ?_ | refine Su.so_meth (by assumption) rfl ?_)

end Su
namespace Su
open PySem L2
local macro_rules | `(tactic| walk_at "side") => `(tactic| first | assumption | (show (0 : Int) < _; omega) | (show (0 : Int) ≤ _; omega) | (show (0 : Int) < _; split <;> omega) | (show _ ∨ _; omega) | (show _ ∧ _; omega) | exact ⟨by decide, by decide, by decide⟩ | exact ⟨by first | assumption | omega, by first | assumption | omega⟩)
local macro_rules | `(tactic| walk_at "xs") => `(tactic| repeat walk_at "x")
local macro_rules | `(tactic| walk_at "if") => `(tactic| first | with_reducible refine Su.x_iteD (fun c => ?_) (fun c => ?_) | with_reducible refine Su.x_iteN (fun c => ?_) (fun c => ?_) | with_reducible refine Su.x_ite (fun c => ?_) (fun c => ?_))

/-! what laws about circles share -/
/-- data -/
def dN (l : List Nat) : PyData := dInts (l.map fun (n : Nat) => (n : Int))
section
variable {K : PySem.W.Frag} {H : Hp} {p : Addr}
theorem dp_nI {l : List Nat} (h : H p = some (.lst (nI l))) : Dp K H (.ref p) (dN l) := dp_ints (SqL.of (by rw [← nI_asI]; exact h))
end
theorem good_ints {l : List Int} (h : l.length ≤ 1000) : GoodD 1 (dInts l) := good_map h fun _ _ => .int _ _
theorem good_dN {l : List Nat} (h : l.length ≤ 1000) : GoodD 1 (dN l) := good_ints (by rw [List.length_map]; exact h)
theorem GoodD.up {n m : Nat} {d : PyData} (h : GoodD n d) (e : n ≤ m) : GoodD m d := ⟨h.ok, Nat.le_trans h.dep e⟩
/-- the heap off a circle -/
theorem off_same {F : List Addr} {G H H' : Hp} (h : Same G (hide F H)) (o : Off F H H') : Same G (hide F H') := h.trans o.hide
end Su
namespace Su
open PySem L2
local macro_rules | `(tactic| walk_at "side") => `(tactic| first | assumption | (show (0 : Int) < _; omega) | (show (0 : Int) ≤ _; omega) | (show (0 : Int) < _; split <;> omega) | (show _ ∨ _; omega) | (show _ ∧ _; omega) | exact ⟨by decide, by decide, by decide⟩ | exact ⟨by first | assumption | omega, by first | assumption | omega⟩)
local macro_rules | `(tactic| walk_at "xs") => `(tactic| repeat walk_at "x")
local macro_rules | `(tactic| walk_at "if") => `(tactic| first | with_reducible refine Su.x_iteD (fun c => ?_) (fun c => ?_) | with_reducible refine Su.x_iteN (fun c => ?_) (fun c => ?_) | with_reducible refine Su.x_ite (fun c => ?_) (fun c => ?_))

/-! a round, seat by seat; and what stays true behind every round -/
section
variable {st : CS} {paid : List Bool} {bids : List Int} {i : Nat}
end

end Su
namespace Su
open PySem L2
local macro_rules | `(tactic| walk_at "side") => `(tactic| first | assumption | (show (0 : Int) < _; omega) | (show (0 : Int) ≤ _; omega) | (show (0 : Int) < _; split <;> omega) | (show _ ∨ _; omega) | (show _ ∧ _; omega) | exact ⟨by decide, by decide, by decide⟩ | exact ⟨by first | assumption | omega, by first | assumption | omega⟩)
local macro_rules | `(tactic| walk_at "xs") => `(tactic| repeat walk_at "x")
local macro_rules | `(tactic| walk_at "if") => `(tactic| first | with_reducible refine Su.x_iteD (fun c => ?_) (fun c => ?_) | with_reducible refine Su.x_iteN (fun c => ?_) (fun c => ?_) | with_reducible refine Su.x_ite (fun c => ?_) (fun c => ?_))

/-! what stays true behind every round of a circle -/
section
variable {st : CS} {paid : List Bool} {bids : List Int} {i n : Nat} {s : Int} {pl : List Int}
end

end Su
namespace Su
open PySem L2
local macro_rules | `(tactic| walk_at "side") => `(tactic| first | assumption | (show (0 : Int) < _; omega) | (show (0 : Int) ≤ _; omega) | (show (0 : Int) < _; split <;> omega) | (show _ ∨ _; omega) | (show _ ∧ _; omega) | exact ⟨by decide, by decide, by decide⟩ | exact ⟨by first | assumption | omega, by first | assumption | omega⟩)
local macro_rules | `(tactic| walk_at "xs") => `(tactic| repeat walk_at "x")
local macro_rules | `(tactic| walk_at "if") => `(tactic| first | with_reducible refine Su.x_iteD (fun c => ?_) (fun c => ?_) | with_reducible refine Su.x_iteN (fun c => ?_) (fun c => ?_) | with_reducible refine Su.x_ite (fun c => ?_) (fun c => ?_))
local macro_rules | `(tactic| walk_at "at") => `(tactic| first | assumption | (refine Su.f_at (by assumption) ?_; walk_at "at"))
local macro_rules | `(tactic| walk_at "sm") => `(tactic| first | assumption | exact L2.Same.refl _ | (refine Su.f_tr (by assumption) ?_; walk_at "sm"))
local macro_rules | `(tactic| walk_at "hp") => `(tactic| first | assumption | ((with_reducible refine Su.f_sqL ?_); walk_at "at") | ((with_reducible refine Su.f_sqT ?_); walk_at "at") | ((with_reducible show L2.Same _ _); walk_at "sm") | ((with_reducible show _ = none); refine Su.f_free ?_ (by assumption); walk_at "sm") | ((with_reducible show _ = some _); walk_at "at") | (refine Su.f_dp (by assumption) ?_; walk_at "hp") | (refine Su.f_dpA (by assumption) ?_; walk_at "hp") | (refine Su.f_sqLs (by assumption) ?_; walk_at "hp") | (refine Su.f_sqTs (by assumption) ?_; walk_at "hp"))
local macro_rules | `(tactic| walk_at "me") => `(tactic| first | refine Su.c_meth (by assumption) rfl ?_ | refine Su.so_meth (by assumption) rfl ?_)

/-! a circle alone: what stays beside it, and its questions -/
structure Solo (K : PySem.W.Frag) (G : Hp) (a : Nat → Addr) (n : Nat) (H : Hp) (st : CS) : Prop where
  g : Same G (hide (cirFoot a n) H)
  ca : CirAt K H a st
  z : st.size = n
section
variable {K : PySem.W.Frag} {G H H' : Hp} {a : Nat → Addr} {n i : Nat} {j : Int} {st st' : CS} {Q : VK} {E : XK}
theorem Solo.same (h : Solo K G a n H st) (s : Same H H') : Solo K G a n H' st := ⟨h.g.trans (hide_mono s), h.ca.same s, h.z⟩
theorem Solo.at_ (h : Solo K G a n H st) {p : Addr} {o : HO} (e : G p = some o) : H p = some o := hide_same _ _ (h.g _ _ e)
theorem Solo.fresh (h : Solo K G a n H st) {p : Addr} (e : H p = none) : p ∉ cirFoot a n := by have := h.ca.fresh e; rwa [h.z] at this
theorem Solo.new (h : Solo K G a n H st) {p : Addr} (e : H p = none) : G p = none := by
  cases c : G p with
  | none => rfl
  | some o => rw [h.at_ c] at e; cases e
theorem Solo.upd (h : Solo K G a n H st) {p : Addr} {o : HO} (h1 : p ∉ cirFoot a n) (h3 : G p = none) : Solo K G a n (L2.upd H p o) st := by
  refine ⟨fun y u e => ?_, h.ca.upd_out (by rw [h.z]; exact h1), h.z⟩
  have := h.g y u e
  have hy : y ∉ cirFoot a n := fun z => by rw [hide_in z] at this; cases this
  rw [hide_out hy] at this ⊢
  rw [upd_ne (ne_of_none e h3)]; exact this
/-- what stands beside the circle is taken in -/
theorem Solo.keep (h : Solo K G a n H st) : Solo K (hide (cirFoot a n) H) a n H st := ⟨Same.refl _, h.ca, h.z⟩
theorem Solo.off (h : Solo K G a n H st) (o : Off (cirFoot a n) H H') (c : CirAt K H' a st') (z : st'.size = n) : Solo K G a n H' st' := ⟨off_same h.g o, c, z⟩
theorem so_meth {m : Str} {P : Prop} (h : Solo K G a n H st) (l : (cirFs a st).lookup m = none) (q : P) : ∃ a' dx fs, V.ref (a 0) = .ref a' ∧ H a' = some (.ins (He.ga K "Circle") dx fs) ∧ fs.lookup m = none ∧ P := c_meth h.ca l q
end
/-! no bids -/
section
variable {st : CS} {paid : List Bool} {bids : List Int} {i n : Nat}
end
theorem cutV_to {xs : List V} {i : Nat} : cutV xs none (some (i : Int)) = xs.take i := by
  unfold cutV HT.sIx
  have h : ¬ ((i : Int) < 0) := by omega
  simp only [if_neg h, Int.toNat_natCast, List.drop_zero, Nat.sub_zero]
  by_cases c : i ≤ xs.length
  · rw [Nat.min_eq_left c]
  · rw [Nat.min_eq_right (by omega), List.take_of_length_le (Nat.le_refl _), List.take_of_length_le (by omega)]

end Su
namespace Su
open PySem L2
local macro_rules | `(tactic| walk_at "side") => `(tactic| first | assumption | (show (0 : Int) < _; omega) | (show (0 : Int) ≤ _; omega) | (show (0 : Int) < _; split <;> omega) | (show _ ∨ _; omega) | (show _ ∧ _; omega) | exact ⟨by decide, by decide, by decide⟩ | exact ⟨by first | assumption | omega, by first | assumption | omega⟩)
local macro_rules | `(tactic| walk_at "xs") => `(tactic| repeat walk_at "x")
local macro_rules | `(tactic| walk_at "if") => `(tactic| first | with_reducible refine Su.x_iteD (fun c => ?_) (fun c => ?_) | with_reducible refine Su.x_iteN (fun c => ?_) (fun c => ?_) | with_reducible refine Su.x_ite (fun c => ?_) (fun c => ?_))

/-! slices of tuples; lists of tuples' parts -/
theorem al_slT {K : PySem.W.Frag} {H : Hp} {Q : VK} {a : Addr} {xs : List V} {lo hi : Option Int} (e : SqT K H a xs) (hw : ¬ (HT.sIx xs.length 0 lo = 0 ∧ HT.sIx xs.length xs.length hi = xs.length)) (h : ∀ p H', H p = none → Same H H' → H' p = some (.tup (cutV xs lo hi)) → Q (.ref p) H') : rSlT K (.ref a) lo hi H Q :=
  ⟨a, xs, rfl, e, hw, fun p n => h p _ n (same_new (Same.refl H) n) upd_same⟩
section
variable {st : CS} {paid : List Bool} {bids : List Int} {i n : Nat} {s : Int} {pl : List Int}
end
end Su
namespace Su
open PySem L2
local macro_rules | `(tactic| walk_at "side") => `(tactic| first | assumption | (show (0 : Int) < _; omega) | (show (0 : Int) ≤ _; omega) | (show (0 : Int) < _; split <;> omega) | (show _ ∨ _; omega) | (show _ ∧ _; omega) | exact ⟨by decide, by decide, by decide⟩ | exact ⟨by first | assumption | omega, by first | assumption | omega⟩)
local macro_rules | `(tactic| walk_at "x") => `(tactic| first
  | with_reducible refine Su.x_seq ?_ | with_reducible refine Su.x_asg ?_ | with_reducible refine Su.x_gname ?_ | with_reducible refine Su.x_drop ?_ | with_reducible refine Su.x_ret ?_ | with_reducible refine Su.x_ifS ?_
  | ((with_reducible show L2.tVar _ _ _ _); refine Su.x_var rfl ?_) | with_reducible refine Su.x_c ?_ | with_reducible refine Su.x_op ?_ | with_reducible refine Su.x_rI0 ?_ | ((with_reducible refine Su.x_rI ?_ ?_); focus walk_at "side")
  | ((with_reducible show L2.rIxL _ (L2.V.ref _) (L2.V.int _) _ _); refine Su.x_ixI (by assumption) (by first | decide | omega) (by omega) ?_) | with_reducible refine Su.x_isi_int_int ?_ | with_reducible refine Su.x_isi_int_bool ?_ | with_reducible refine Su.x_isi_int_str ?_ | with_reducible refine Su.x_isi_int_list ?_ | with_reducible refine Su.x_isi_int_tuple ?_ | with_reducible refine Su.x_isi_bool_int ?_ | with_reducible refine Su.x_isi_bool_bool ?_ | with_reducible refine Su.x_isi_bool_str ?_ | with_reducible refine Su.x_isi_bool_list ?_ | with_reducible refine Su.x_isi_bool_tuple ?_ | with_reducible refine Su.x_isi_str_int ?_ | with_reducible refine Su.x_isi_str_bool ?_ | with_reducible refine Su.x_isi_str_str ?_ | with_reducible refine Su.x_isi_str_list ?_ | with_reducible refine Su.x_isi_str_tuple ?_ | with_reducible refine Su.x_isi_NoneType_int ?_ | with_reducible refine Su.x_isi_NoneType_bool ?_ | with_reducible refine Su.x_isi_NoneType_str ?_ | with_reducible refine Su.x_isi_NoneType_list ?_ | with_reducible refine Su.x_isi_NoneType_tuple ?_ | with_reducible refine Su.x_rGt ?_ | with_reducible refine Su.x_rGe ?_ | with_reducible refine Su.x_iteF ?_ | with_reducible refine Su.x_iteT ?_ | with_reducible refine Su.x_iteNT ?_ | with_reducible refine Su.x_iteNF ?_ | with_reducible refine Su.x_eqI ?_ | with_reducible refine Su.x_neI ?_ | with_reducible refine Su.x_eqS ?_ | with_reducible refine Su.x_neS ?_ | with_reducible refine Su.x_eqB ?_ | with_reducible refine Su.x_neB ?_
  | with_reducible refine Su.x_test ?_ | with_reducible refine Su.x_tB ?_ | with_reducible refine Su.x_isB ?_ | with_reducible refine Su.x_isB' ?_ | with_reducible refine Su.x_not ?_ | with_reducible refine Su.x_and ?_ | with_reducible refine Su.x_or ?_
  | with_reducible refine Su.x_andV ?_ | with_reducible refine Su.x_orV ?_ | with_reducible refine Su.x_notV ?_ | with_reducible refine Su.x_chain ?_ | with_reducible refine Su.x_nil ?_ | with_reducible refine Su.x_cons ?_ | with_reducible refine Su.x_cb ?_ | with_reducible refine Su.x_call ?_
  | with_reducible refine Su.x_un ?_ | with_reducible refine Su.x_rU ?_ | with_reducible refine Su.x_abs ?_ | with_reducible refine Su.x_max2 ?_ | with_reducible refine Su.x_min2 ?_ | with_reducible refine Su.x_int1 ?_ | with_reducible refine Su.x_intB ?_
  | with_reducible refine Su.x_lst ?_ | with_reducible refine Su.x_tup ?_ | with_reducible refine Su.x_bmL ?_ | with_reducible refine Su.x_next ?_ | with_reducible refine Su.x_for ?_ | with_reducible refine Su.x_iList ?_ | with_reducible refine Su.x_iRng1 ?_ | with_reducible refine Su.x_iRng2 ?_ | with_reducible refine Su.x_whileN ?_ | with_reducible refine Su.x_iEnum ?_ | with_reducible refine Su.x_iZip ?_ | with_reducible refine Su.x_iZipA ?_ | with_reducible refine Su.x_iTup ?_ | with_reducible refine Su.x_gcons ?_ | with_reducible refine Su.x_gnil ?_ | with_reducible refine Su.x_gsub ?_ | with_reducible refine Su.x_yes ?_ | with_reducible refine Su.x_lc ?_ | with_reducible refine Su.x_sl ?_ | with_reducible refine Su.x_nopart ?_ | with_reducible refine Su.x_part ?_ | with_reducible refine Su.x_isI ?_ | with_reducible refine Su.x_lstRg ?_ | with_reducible refine Su.x_rg1 ?_ | with_reducible refine Su.x_augS ?_ | with_reducible refine Su.x_ipI ?_ | ((with_reducible show L2.tAug _ _ _ _ _ _); refine Su.x_aug rfl ?_) | with_reducible refine Su.x_callS ?_ | with_reducible refine Su.x_tryAs ?_)
local macro_rules | `(tactic| walk_at "xs") => `(tactic| repeat walk_at "x")
local macro_rules | `(tactic| walk_at "if") => `(tactic| first | with_reducible refine Su.x_iteD (fun c => ?_) (fun c => ?_) | with_reducible refine Su.x_iteN (fun c => ?_) (fun c => ?_) | with_reducible refine Su.x_ite (fun c => ?_) (fun c => ?_))
/-! row[:5] + (list(row[5]), list(row[6])): a report copied -/
structure RowAt (H : Hp) (p f g : Addr) (r : RepG) : Prop where
  t : H p = some (.tup [.int r.turn, .str r.word, .int r.at_, .int r.coins, .int r.share, .ref f, .ref g])
  f : H f = some (.lst (r.fallen.map V.int))
  g : H g = some (.lst (r.helped.map V.int))
section
variable {K : PySem.W.Frag} {H H' : Hp} {p f g A : Addr} {r : RepG} {Q : VK} {σ : St}
theorem RowAt.dp (h : RowAt H p f g r) : Dp K H (.ref p) (dRepG r) := .tup (SqT.of h.t) (.cons (.int _) (.cons (.str _) (.cons (.int _) (.cons (.int _) (.cons (.int _) (.cons (dp_ints (SqL.of h.f)) (.cons (dp_ints (SqL.of h.g)) .nil)))))))
theorem RowAt.same (h : RowAt H p f g r) (s : Same H H') : RowAt H' p f g r := ⟨s _ _ h.t, s _ _ h.f, s _ _ h.g⟩
theorem RowAt.del (h : RowAt H p f g r) (n1 : p ≠ A) (n2 : f ≠ A) (n3 : g ≠ A) : RowAt (del H A) p f g r := ⟨del_at h.t n1, del_at h.f n2, del_at h.g n3⟩
theorem al_catT {a b : Addr} {xs ys : List V} (h1 : SqT K H a xs) (h2 : SqT K H b ys) (nx : xs ≠ []) (ny : ys ≠ []) (hn : xs.length + ys.length ≤ 100000) (h : ∀ p H', H p = none → Same H H' → H' p = some (.tup (xs ++ ys)) → Q (.ref p) H') : rCatT K (.ref a) (.ref b) H Q :=
  ⟨a, b, xs, ys, rfl, rfl, h1, h2, nx, Nat.le_of_lt (small hn), fun z => absurd z ny, fun _ p n => h p _ n (same_new (Same.refl H) n) upd_same⟩
theorem x_copyRow {k : Nat} {y : V} (hv : σ[k]? = some (some y)) (hy : Dp K H y (dRepG r)) (q : ∀ p f g H', H p = none → H f = none → H g = none → Same H H' → RowAt H' p f g r → Q (.ref p) H') :
    (tOp (rCatT K) (tSl (rSlT K) (tVar k) tNoPart (tPart (tC (.int 5)))) (tTup (tCons (tCB (rListOf K) (tCons (tOp (rIxT K) (tVar k) (tC (.int 5))) tNil)) (tCons (tCB (rListOf K) (tCons (tOp (rIxT K) (tVar k) (tC (.int 6))) tNil)) tNil)))) σ H Q := by
  obtain ⟨t, f0, g0, rfl, ht, hf, hg⟩ := dp_repG hy
  walk_at "xs"
  refine x_var hv ?_
  walk_at "xs"
  refine al_slT ht (by show ¬ ((0 : Nat) = 0 ∧ (5 : Nat) = 7); omega) fun t5 H1 n5 q1 h5 => ?_
  walk_at "xs"
  refine x_var hv ?_
  walk_at "xs"
  refine x_ixT (seqT_same q1 ht) (v := .ref f0) (by rfl) ?_
  walk_at "xs"
  refine al_list (q1.seq hf) fun f H2 nf q2 hf2 => ?_
  walk_at "xs"
  refine x_var hv ?_
  walk_at "xs"
  refine x_ixT (seqT_same (q1.trans q2) ht) (v := .ref g0) (by rfl) ?_
  walk_at "xs"
  refine al_list ((q1.trans q2).seq hg) fun g H3 ng q3 hg3 => ?_
  walk_at "xs"
  refine al_tup fun t2 H4 n2 q4 h2 => ?_
  refine al_catT (SqT.of (q4 _ _ (q3 _ _ (q2 _ _ h5)))) (SqT.of h2) (by simp [cutV, HT.sIx]) (by simp) (by simp [cutV, HT.sIx]) fun p H5 np q5 hp => ?_
  have s1 := q1.trans q2
  have s2 := s1.trans q3
  have s3 := s2.trans q4
  have none_of : ∀ {X : Hp} {z : Addr}, Same H X → X z = none → H z = none := fun {X z} s e => by
    cases c : H z with
    | none => rfl
    | some o => rw [s _ _ c] at e; cases e
  exact q p f g H5 (none_of s3 np) (none_of q1 nf) (none_of s1 ng) (s3.trans q5) ⟨hp, q5 _ _ (q4 _ _ (q3 _ _ hf2)), q5 _ _ (q4 _ _ hg3)⟩
theorem dpAll_take : ∀ {vs : List V} {ds : List PyData} (k : Nat), DpAll K H vs ds → DpAll K H (vs.take k) (ds.take k)
  | _, _, 0, _ => .nil
  | _, _, _ + 1, .nil => .nil
  | _, _, k + 1, .cons a b => .cons a (dpAll_take k b)
end
theorem filterMap_get {α : Type} : ∀ l : List α, (List.range l.length).filterMap (fun j => l[j]?) = l
  | [] => rfl
  | x :: l => by
    rw [List.length_cons, List.range_succ_eq_map, List.filterMap_cons]
    show x :: List.filterMap _ (List.map Nat.succ (List.range l.length)) = _
    rw [List.filterMap_map]
    exact congrArg (x :: ·) (filterMap_get l)
end Su
namespace Su
open PySem L2
local macro_rules | `(tactic| walk_at "side") => `(tactic| first | assumption | (show (0 : Int) < _; omega) | (show (0 : Int) ≤ _; omega) | (show (0 : Int) < _; split <;> omega) | (show _ ∨ _; omega) | (show _ ∧ _; omega) | exact ⟨by decide, by decide, by decide⟩ | exact ⟨by first | assumption | omega, by first | assumption | omega⟩)
local macro_rules | `(tactic| walk_at "x") => `(tactic| first
  | with_reducible refine Su.x_seq ?_ | with_reducible refine Su.x_asg ?_ | with_reducible refine Su.x_gname ?_ | with_reducible refine Su.x_drop ?_ | with_reducible refine Su.x_ret ?_ | with_reducible refine Su.x_ifS ?_
  | ((with_reducible show L2.tVar _ _ _ _); refine Su.x_var rfl ?_) | with_reducible refine Su.x_c ?_ | with_reducible refine Su.x_op ?_ | with_reducible refine Su.x_rI0 ?_ | ((with_reducible refine Su.x_rI ?_ ?_); focus walk_at "side")
  | ((with_reducible show L2.rIxL _ (L2.V.ref _) (L2.V.int _) _ _); refine Su.x_ixI (by assumption) (by first | decide | omega) (by omega) ?_) | with_reducible refine Su.x_isi_int_int ?_ | with_reducible refine Su.x_isi_int_bool ?_ | with_reducible refine Su.x_isi_int_str ?_ | with_reducible refine Su.x_isi_int_list ?_ | with_reducible refine Su.x_isi_int_tuple ?_ | with_reducible refine Su.x_isi_bool_int ?_ | with_reducible refine Su.x_isi_bool_bool ?_ | with_reducible refine Su.x_isi_bool_str ?_ | with_reducible refine Su.x_isi_bool_list ?_ | with_reducible refine Su.x_isi_bool_tuple ?_ | with_reducible refine Su.x_isi_str_int ?_ | with_reducible refine Su.x_isi_str_bool ?_ | with_reducible refine Su.x_isi_str_str ?_ | with_reducible refine Su.x_isi_str_list ?_ | with_reducible refine Su.x_isi_str_tuple ?_ | with_reducible refine Su.x_isi_NoneType_int ?_ | with_reducible refine Su.x_isi_NoneType_bool ?_ | with_reducible refine Su.x_isi_NoneType_str ?_ | with_reducible refine Su.x_isi_NoneType_list ?_ | with_reducible refine Su.x_isi_NoneType_tuple ?_ | with_reducible refine Su.x_rGt ?_ | with_reducible refine Su.x_rGe ?_ | with_reducible refine Su.x_iteF ?_ | with_reducible refine Su.x_iteT ?_ | with_reducible refine Su.x_iteNT ?_ | with_reducible refine Su.x_iteNF ?_ | with_reducible refine Su.x_eqI ?_ | with_reducible refine Su.x_neI ?_ | with_reducible refine Su.x_eqS ?_ | with_reducible refine Su.x_neS ?_ | with_reducible refine Su.x_eqB ?_ | with_reducible refine Su.x_neB ?_
  | with_reducible refine Su.x_test ?_ | with_reducible refine Su.x_tB ?_ | with_reducible refine Su.x_isB ?_ | with_reducible refine Su.x_isB' ?_ | with_reducible refine Su.x_not ?_ | with_reducible refine Su.x_and ?_ | with_reducible refine Su.x_or ?_
  | with_reducible refine Su.x_andV ?_ | with_reducible refine Su.x_orV ?_ | with_reducible refine Su.x_notV ?_ | with_reducible refine Su.x_chain ?_ | with_reducible refine Su.x_nil ?_ | with_reducible refine Su.x_cons ?_ | with_reducible refine Su.x_cb ?_ | with_reducible refine Su.x_call ?_
  | with_reducible refine Su.x_un ?_ | with_reducible refine Su.x_rU ?_ | with_reducible refine Su.x_abs ?_ | with_reducible refine Su.x_max2 ?_ | with_reducible refine Su.x_min2 ?_ | with_reducible refine Su.x_int1 ?_ | with_reducible refine Su.x_intB ?_
  | with_reducible refine Su.x_lst ?_ | with_reducible refine Su.x_tup ?_ | with_reducible refine Su.x_bmL ?_ | with_reducible refine Su.x_next ?_ | with_reducible refine Su.x_for ?_ | with_reducible refine Su.x_iList ?_ | with_reducible refine Su.x_iRng1 ?_ | with_reducible refine Su.x_iRng2 ?_ | with_reducible refine Su.x_whileN ?_ | with_reducible refine Su.x_iEnum ?_ | with_reducible refine Su.x_iZip ?_ | with_reducible refine Su.x_iZipA ?_ | with_reducible refine Su.x_iTup ?_ | with_reducible refine Su.x_gcons ?_ | with_reducible refine Su.x_gnil ?_ | with_reducible refine Su.x_gsub ?_ | with_reducible refine Su.x_yes ?_ | with_reducible refine Su.x_lc ?_ | with_reducible refine Su.x_sl ?_ | with_reducible refine Su.x_nopart ?_ | with_reducible refine Su.x_part ?_ | with_reducible refine Su.x_isI ?_ | with_reducible refine Su.x_lstRg ?_ | with_reducible refine Su.x_rg1 ?_ | with_reducible refine Su.x_augS ?_ | with_reducible refine Su.x_ipI ?_ | ((with_reducible show L2.tAug _ _ _ _ _ _); refine Su.x_aug rfl ?_) | with_reducible refine Su.x_callS ?_ | with_reducible refine Su.x_tryAs ?_)
local macro_rules | `(tactic| walk_at "xs") => `(tactic| repeat walk_at "x")
local macro_rules | `(tactic| walk_at "if") => `(tactic| first | with_reducible refine Su.x_iteD (fun c => ?_) (fun c => ?_) | with_reducible refine Su.x_iteN (fun c => ?_) (fun c => ?_) | with_reducible refine Su.x_ite (fun c => ?_) (fun c => ?_))
/-! growing_in -/
def sp_growing_in (K : PySem.W.Frag) : Sp := fun vs H Q _ => ∃ (p q : Addr) (row : List Int) (al : List Nat), vs = [.ref p, .ref q] ∧ SqL K H p (row.map V.int) ∧ SqL K H q (nI al) ∧ Q (.bl (growsB al (-1) row)) H
abbrev N_growing_in : List Str := ["row", "allowed", "ahead", "at"]
def t_growing_in (K : PySem.W.Frag) : TS :=
 (tSeq (tAsg (tUn rNeg (tC (.int 1))) (gName 2))
 (tSeq (tFor (iList K (tVar 0)) (gName 3)
 (tSeq (tIfS (tOr (tTest (tOp rLe (tVar 3) (tVar 2))) (tTest (tOp (rIn K true) (tVar 3) (tVar 1))))
 (tRet (tC (.bl false)))
 tNext)
 (tAsg (tVar 3) (gName 2))))
 (tRet (tC (.bl true)))))

theorem len_growing_in {K : PySem.W.Frag} : ∀ vs H Q E, sp_growing_in K vs H Q E → vs.length = ["a", "b"].length := by
  rintro vs H Q E ⟨_, _, _, _, rfl, _⟩; rfl
theorem pure_growing_in {K : PySem.W.Frag} {vs : List V} {H : Hp} {Q : VK} {E : XK} (h : sp_growing_in K vs H Q E) : t_growing_in K { nx := fun _ H' => Q .non H', rt := Q } (start N_growing_in vs) H := by
  obtain ⟨p, q, row, al, rfl, hp, hq, k⟩ := h
  unfold t_growing_in
  walk_at "xs"
  refine ⟨p, rfl, ⟨_, hp⟩, for_by turnsL (fun i σ H' => ∃ (a : Int) (u : Option V), σ = [some (.ref p), some (.ref q), some (.int a), u] ∧ H = H' ∧ growsB al (-1) row = growsB al a (row.drop i))
    ⟨-1, none, rfl, rfl, rfl⟩ (by rintro _ _ _ _ ⟨_, _, _, rfl, _⟩; exact hp) ?_ ?_⟩
  · rintro i y σ H2 _ hi ⟨a, u, rfl, rfl, e⟩ ⟨rfl, hy⟩
    have hi' : i < row.length := by rw [List.length_map] at hi; exact hi
    rw [List.getElem?_map, List.getElem?_eq_getElem hi'] at hy
    cases hy
    rw [List.drop_eq_getElem_cons hi'] at e
    generalize row[i] = x at e
    rw [growsB_cons] at e
    walk_at "xs"
    walk_at "if"
    · rename_i c
      walk_at "xs"
      rw [decide_eq_true c] at e
      rw [e] at k
      simpa using k
    · rename_i c
      rw [decide_eq_false c] at e
      walk_at "xs"
      refine x_notInG hq ?_
      walk_at "xs"
      cases hb : decide (x ∈ al.map fun (n : Nat) => (n : Int)) with
      | false =>
        rw [hb] at e
        walk_at "xs"
        rw [e] at k
        simpa using k
      | true =>
        rw [hb] at e
        walk_at "xs"
        exact ⟨_, _, rfl, rfl, by simpa using e⟩
  · rintro σ H2 ⟨a, u, rfl, rfl, e⟩
    walk_at "xs"
    rw [List.length_map, List.drop_length] at e
    rw [e] at k
    exact k

end Su
namespace Su
open PySem L2
local macro_rules | `(tactic| walk_at "side") => `(tactic| first | assumption | (show (0 : Int) < _; omega) | (show (0 : Int) ≤ _; omega) | (show (0 : Int) < _; split <;> omega) | (show _ ∨ _; omega) | (show _ ∧ _; omega) | exact ⟨by decide, by decide, by decide⟩ | exact ⟨by first | assumption | omega, by first | assumption | omega⟩)
local macro_rules | `(tactic| walk_at "x") => `(tactic| first
  | with_reducible refine Su.x_seq ?_ | with_reducible refine Su.x_asg ?_ | with_reducible refine Su.x_gname ?_ | with_reducible refine Su.x_drop ?_ | with_reducible refine Su.x_ret ?_ | with_reducible refine Su.x_ifS ?_
  | ((with_reducible show L2.tVar _ _ _ _); refine Su.x_var rfl ?_) | with_reducible refine Su.x_c ?_ | with_reducible refine Su.x_op ?_ | with_reducible refine Su.x_rI0 ?_ | ((with_reducible refine Su.x_rI ?_ ?_); focus walk_at "side")
  | ((with_reducible show L2.rIxL _ (L2.V.ref _) (L2.V.int _) _ _); refine Su.x_ixI (by assumption) (by first | decide | omega) (by omega) ?_) | with_reducible refine Su.x_isi_int_int ?_ | with_reducible refine Su.x_isi_int_bool ?_ | with_reducible refine Su.x_isi_int_str ?_ | with_reducible refine Su.x_isi_int_list ?_ | with_reducible refine Su.x_isi_int_tuple ?_ | with_reducible refine Su.x_isi_bool_int ?_ | with_reducible refine Su.x_isi_bool_bool ?_ | with_reducible refine Su.x_isi_bool_str ?_ | with_reducible refine Su.x_isi_bool_list ?_ | with_reducible refine Su.x_isi_bool_tuple ?_ | with_reducible refine Su.x_isi_str_int ?_ | with_reducible refine Su.x_isi_str_bool ?_ | with_reducible refine Su.x_isi_str_str ?_ | with_reducible refine Su.x_isi_str_list ?_ | with_reducible refine Su.x_isi_str_tuple ?_ | with_reducible refine Su.x_isi_NoneType_int ?_ | with_reducible refine Su.x_isi_NoneType_bool ?_ | with_reducible refine Su.x_isi_NoneType_str ?_ | with_reducible refine Su.x_isi_NoneType_list ?_ | with_reducible refine Su.x_isi_NoneType_tuple ?_ | with_reducible refine Su.x_rGt ?_ | with_reducible refine Su.x_rGe ?_ | with_reducible refine Su.x_iteF ?_ | with_reducible refine Su.x_iteT ?_ | with_reducible refine Su.x_iteNT ?_ | with_reducible refine Su.x_iteNF ?_ | with_reducible refine Su.x_eqI ?_ | with_reducible refine Su.x_neI ?_ | with_reducible refine Su.x_eqS ?_ | with_reducible refine Su.x_neS ?_ | with_reducible refine Su.x_eqB ?_ | with_reducible refine Su.x_neB ?_
  | with_reducible refine Su.x_test ?_ | with_reducible refine Su.x_tB ?_ | with_reducible refine Su.x_isB ?_ | with_reducible refine Su.x_isB' ?_ | with_reducible refine Su.x_not ?_ | with_reducible refine Su.x_and ?_ | with_reducible refine Su.x_or ?_
  | with_reducible refine Su.x_andV ?_ | with_reducible refine Su.x_orV ?_ | with_reducible refine Su.x_notV ?_ | with_reducible refine Su.x_chain ?_ | with_reducible refine Su.x_nil ?_ | with_reducible refine Su.x_cons ?_ | with_reducible refine Su.x_cb ?_ | with_reducible refine Su.x_call ?_
  | with_reducible refine Su.x_un ?_ | with_reducible refine Su.x_rU ?_ | with_reducible refine Su.x_abs ?_ | with_reducible refine Su.x_max2 ?_ | with_reducible refine Su.x_min2 ?_ | with_reducible refine Su.x_int1 ?_ | with_reducible refine Su.x_intB ?_
  | with_reducible refine Su.x_lst ?_ | with_reducible refine Su.x_tup ?_ | with_reducible refine Su.x_bmL ?_ | with_reducible refine Su.x_next ?_ | with_reducible refine Su.x_for ?_ | with_reducible refine Su.x_iList ?_ | with_reducible refine Su.x_iRng1 ?_ | with_reducible refine Su.x_iRng2 ?_ | with_reducible refine Su.x_whileN ?_ | with_reducible refine Su.x_iEnum ?_ | with_reducible refine Su.x_iZip ?_ | with_reducible refine Su.x_iZipA ?_ | with_reducible refine Su.x_iTup ?_ | with_reducible refine Su.x_gcons ?_ | with_reducible refine Su.x_gnil ?_ | with_reducible refine Su.x_gsub ?_ | with_reducible refine Su.x_yes ?_ | with_reducible refine Su.x_lc ?_ | with_reducible refine Su.x_sl ?_ | with_reducible refine Su.x_nopart ?_ | with_reducible refine Su.x_part ?_ | with_reducible refine Su.x_isI ?_ | with_reducible refine Su.x_lstRg ?_ | with_reducible refine Su.x_rg1 ?_ | with_reducible refine Su.x_augS ?_ | with_reducible refine Su.x_ipI ?_ | ((with_reducible show L2.tAug _ _ _ _ _ _); refine Su.x_aug rfl ?_) | with_reducible refine Su.x_callS ?_ | with_reducible refine Su.x_tryAs ?_)
local macro_rules | `(tactic| walk_at "xs") => `(tactic| repeat walk_at "x")
local macro_rules | `(tactic| walk_at "if") => `(tactic| first | with_reducible refine Su.x_iteD (fun c => ?_) (fun c => ?_) | with_reducible refine Su.x_iteN (fun c => ?_) (fun c => ?_) | with_reducible refine Su.x_ite (fun c => ?_) (fun c => ?_))
local macro_rules | `(tactic| walk_at "x") => `(tactic| first | with_reducible refine Su.x_fld ?_ | with_reducible refine Su.x_sfld ?_ | with_reducible refine Su.x_sfldAug ?_ | with_reducible refine Su.x_meth ?_ | with_reducible refine Su.x_methW ?_ | with_reducible refine Su.x_make ?_ | with_reducible refine Su.x_makeW ?_ | with_reducible refine Su.c_stake (by assumption) ?_ | with_reducible refine Su.c_size (by assumption) ?_ | with_reducible refine Su.c_bidding (by assumption) ?_ | with_reducible refine Su.c_now (by assumption) ?_ | with_reducible refine Su.c_line (by assumption) ?_ | with_reducible refine Su.c_due (by assumption) ?_ | with_reducible refine Su.c_chest (by assumption) ?_ | with_reducible refine Su.c_state (by assumption) ?_ | with_reducible refine Su.c_when (by assumption) ?_ | with_reducible refine Su.c_pledged (by assumption) ?_ | with_reducible refine Su.c_given (by assumption) ?_ | with_reducible refine Su.c_drawn (by assumption) ?_ | with_reducible refine Su.c_shared (by assumption) ?_ | with_reducible refine Su.c_missed (by assumption) ?_ | with_reducible refine Su.c_flows (by assumption) ?_)
local macro_rules | `(tactic| walk_at "me") => `(tactic| first | refine Su.c_meth (by assumption) rfl ?_ | refine Su.so_meth (by assumption) rfl ?_)
local macro_rules | `(tactic| walk_at "x") => `(tactic| first | with_reducible refine Su.u_stake (by assumption) ?_ | with_reducible refine Su.u_size (by assumption) ?_ | with_reducible refine Su.u_bidding (by assumption) ?_ | with_reducible refine Su.u_left (by assumption) ?_ | with_reducible refine Su.u_waits (by assumption) ?_ | with_reducible refine Su.u_drew (by assumption) ?_ | with_reducible refine Su.u_fell (by assumption) ?_ | with_reducible refine Su.u_due (by assumption) ?_ | with_reducible refine Su.u_seen (by assumption) ?_)
/-! people_good -/
def sp_Auditor_people_good (K : PySem.W.Frag) : Sp := fun vs H Q _ => ∃ (G : Hp) (a : Nat → Addr) (u : AU) (v : V) (r : RepG), vs = [.ref (a 0), v] ∧ AudIn K G H a u ∧ Dp K G v (dRepG r) ∧ AuOk u ∧ Q (.bl (u.people r)) H
theorem grows_mem {al : List Nat} : ∀ {row : List Int} {a : Int}, growsB al a row = true → ∀ x ∈ row, ∃ n : Nat, n ∈ al ∧ x = n
  | [], _, _, x, hx => nomatch hx
  | y :: l, a, h, x, hx => by
    rw [growsB_cons] at h
    simp only [Bool.and_eq_true, Bool.not_eq_true', Bool.or_eq_false_iff, Bool.not_eq_false', decide_eq_true_eq] at h
    rcases List.mem_cons.mp hx with rfl | hx
    · obtain ⟨n, hn, e⟩ := List.mem_map.mp h.1.2
      exact ⟨n, hn, e.symm⟩
    · exact grows_mem h.2 x hx
abbrev N_Auditor_people_good : List Str := ["self", "report", "at"]
def t_Auditor_people_good (K : PySem.W.Frag) : TS :=
 (tSeq (tIfS (tOr (tTest (tOp rNe (tOp (rIxT K) (tVar 1) (tC (.int 0))) (tOp rAdd (tFld K (tVar 0) "seen") (tC (.int 1))))) (tTest (tOp rGt (tOp (rIxT K) (tVar 1) (tC (.int 0))) (tFld K (tVar 0) "size"))))
 (tRet (tC (.bl false)))
 tNext)
 (tSeq (tIfS (tOr (tNot (tB (tCall (sp_growing_in K) [] E0 (tCons (tOp (rIxT K) (tVar 1) (tC (.int 5))) (tCons (tFld K (tVar 0) "waits") tNil))))) (tNot (tB (tCall (sp_growing_in K) [] E0 (tCons (tOp (rIxT K) (tVar 1) (tC (.int 6))) (tCons (tFld K (tVar 0) "drew") tNil))))))
 (tRet (tC (.bl false)))
 tNext)
 (tSeq (tFor (iList K (tOp (rIxT K) (tVar 1) (tC (.int 6)))) (gName 2)
 (tIfS (tTest (tOp rLt (tOp (rIxL K) (tFld K (tVar 0) "left") (tVar 2)) (tFld K (tVar 0) "stake")))
 (tRet (tC (.bl false)))
 tNext))
 (tRet (tC (.bl true))))))

theorem len_Auditor_people_good {K : PySem.W.Frag} : ∀ vs H Q E, sp_Auditor_people_good K vs H Q E → vs.length = ["a", "b"].length := by
  rintro vs H Q E ⟨_, _, _, _, _, rfl, _⟩; rfl
theorem pure_Auditor_people_good {K : PySem.W.Frag} {vs : List V} {H : Hp} {Q : VK} {E : XK} (h : sp_Auditor_people_good K vs H Q E) : t_Auditor_people_good K { nx := fun _ H' => Q .non H', rt := Q } (start N_Auditor_people_good vs) H := by
  obtain ⟨G, a, u, v, r, rfl, ai, hv, ok, k⟩ := h
  obtain ⟨t, f, g, rfl, ht, hf, hg⟩ := dp_repG (dp_same ai.up hv)
  have hw : SqL K H (a 3) (nI u.waits) := SqL.of ai.at_.c3
  have hd : SqL K H (a 4) (nI u.drew) := SqL.of ai.at_.c4
  have hl : H (a 2) = some (.lst (u.left.map V.int)) := ai.at_.c2
  have ol := ok.l
  unfold AU.people at k
  unfold t_Auditor_people_good
  walk_at "xs"
  refine x_ixT ht (v := .int r.turn) (by rfl) ?_
  walk_at "xs"
  cases h1 : decide (r.turn = u.seen + 1) with
  | false =>
    rw [h1] at k
    walk_at "xs"
    exact k
  | true =>
    rw [h1] at k
    walk_at "xs"
    refine x_ixT ht (v := .int r.turn) (by rfl) ?_
    walk_at "xs"
    cases h2 : decide ((u.size : Int) < r.turn) with
    | true =>
      rw [h2] at k
      walk_at "xs"
      exact k
    | false =>
      rw [h2] at k
      walk_at "xs"
      refine x_ixT ht (v := .ref f) (by rfl) ?_
      walk_at "xs"
      refine ⟨f, a 3, r.fallen, u.waits, rfl, hf, hw, ?_⟩
      cases h3 : growsB u.waits (-1) r.fallen with
      | false =>
        rw [h3] at k
        walk_at "xs"
        exact k
      | true =>
        rw [h3] at k
        walk_at "xs"
        refine x_ixT ht (v := .ref g) (by rfl) ?_
        walk_at "xs"
        refine ⟨g, a 4, r.helped, u.drew, rfl, hg, hd, ?_⟩
        cases h4 : growsB u.drew (-1) r.helped with
        | false =>
          rw [h4] at k
          walk_at "xs"
          exact k
        | true =>
          rw [h4] at k
          walk_at "xs"
          refine x_ixT ht (v := .ref g) (by rfl) ?_
          refine ⟨g, rfl, ⟨_, hg⟩, for_by turnsL (fun i σ H' => ∃ (u2 : Option V), σ = [some (.ref (a 0)), some (.ref t), u2] ∧ H = H' ∧ (r.helped.take i).all (fun x => decide (u.stake ≤ u.left.getD x.toNat 0)) = true)
            ⟨none, rfl, rfl, rfl⟩ (by rintro _ _ _ _ ⟨_, _, rfl, _⟩; exact hg) ?_ ?_⟩
          · rintro i y σ H2 _ hi ⟨u2, rfl, rfl, ha⟩ ⟨rfl, hy⟩
            have hi' : i < r.helped.length := by rw [List.length_map] at hi; exact hi
            rw [List.getElem?_map, List.getElem?_eq_getElem hi'] at hy
            cases hy
            obtain ⟨n, hn, e⟩ := grows_mem h4 _ (List.getElem_mem hi')
            have nn := ok.d n hn
            have tk : r.helped.take (i + 1) = r.helped.take i ++ [r.helped[i]] := by rw [List.take_append_getElem]
            have mem := List.getElem_mem hi'
            generalize r.helped[i] = x at e tk mem
            subst e
            walk_at "xs"
            walk_at "if"
            · rename_i c
              walk_at "xs"
              rw [show r.helped.all (fun x => decide (u.stake ≤ u.left.getD x.toNat 0)) = false by
                rw [List.all_eq_false]
                exact ⟨_, mem, by simpa using c⟩] at k
              exact k
            · rename_i c
              walk_at "xs"
              refine ⟨_, rfl, rfl, ?_⟩
              rw [tk, List.all_append, ha]
              simp only [List.all_cons, List.all_nil, Bool.and_true, Bool.true_and, decide_eq_true_eq]
              omega
          · rintro σ H2 ⟨u2, rfl, rfl, ha⟩
            rw [List.length_map, List.take_length] at ha
            rw [ha] at k
            walk_at "xs"
            exact k

end Su
namespace Su
open PySem L2
local macro_rules | `(tactic| walk_at "side") => `(tactic| first | assumption | (show (0 : Int) < _; omega) | (show (0 : Int) ≤ _; omega) | (show (0 : Int) < _; split <;> omega) | (show _ ∨ _; omega) | (show _ ∧ _; omega) | exact ⟨by decide, by decide, by decide⟩ | exact ⟨by first | assumption | omega, by first | assumption | omega⟩)
local macro_rules | `(tactic| walk_at "x") => `(tactic| first
  | with_reducible refine Su.x_seq ?_ | with_reducible refine Su.x_asg ?_ | with_reducible refine Su.x_gname ?_ | with_reducible refine Su.x_drop ?_ | with_reducible refine Su.x_ret ?_ | with_reducible refine Su.x_ifS ?_
  | ((with_reducible show L2.tVar _ _ _ _); refine Su.x_var rfl ?_) | with_reducible refine Su.x_c ?_ | with_reducible refine Su.x_op ?_ | with_reducible refine Su.x_rI0 ?_ | ((with_reducible refine Su.x_rI ?_ ?_); focus walk_at "side")
  | ((with_reducible show L2.rIxL _ (L2.V.ref _) (L2.V.int _) _ _); refine Su.x_ixI (by assumption) (by first | decide | omega) (by omega) ?_) | with_reducible refine Su.x_isi_int_int ?_ | with_reducible refine Su.x_isi_int_bool ?_ | with_reducible refine Su.x_isi_int_str ?_ | with_reducible refine Su.x_isi_int_list ?_ | with_reducible refine Su.x_isi_int_tuple ?_ | with_reducible refine Su.x_isi_bool_int ?_ | with_reducible refine Su.x_isi_bool_bool ?_ | with_reducible refine Su.x_isi_bool_str ?_ | with_reducible refine Su.x_isi_bool_list ?_ | with_reducible refine Su.x_isi_bool_tuple ?_ | with_reducible refine Su.x_isi_str_int ?_ | with_reducible refine Su.x_isi_str_bool ?_ | with_reducible refine Su.x_isi_str_str ?_ | with_reducible refine Su.x_isi_str_list ?_ | with_reducible refine Su.x_isi_str_tuple ?_ | with_reducible refine Su.x_isi_NoneType_int ?_ | with_reducible refine Su.x_isi_NoneType_bool ?_ | with_reducible refine Su.x_isi_NoneType_str ?_ | with_reducible refine Su.x_isi_NoneType_list ?_ | with_reducible refine Su.x_isi_NoneType_tuple ?_ | with_reducible refine Su.x_rGt ?_ | with_reducible refine Su.x_rGe ?_ | with_reducible refine Su.x_iteF ?_ | with_reducible refine Su.x_iteT ?_ | with_reducible refine Su.x_iteNT ?_ | with_reducible refine Su.x_iteNF ?_ | with_reducible refine Su.x_eqI ?_ | with_reducible refine Su.x_neI ?_ | with_reducible refine Su.x_eqS ?_ | with_reducible refine Su.x_neS ?_ | with_reducible refine Su.x_eqB ?_ | with_reducible refine Su.x_neB ?_
  | with_reducible refine Su.x_test ?_ | with_reducible refine Su.x_tB ?_ | with_reducible refine Su.x_isB ?_ | with_reducible refine Su.x_isB' ?_ | with_reducible refine Su.x_not ?_ | with_reducible refine Su.x_and ?_ | with_reducible refine Su.x_or ?_
  | with_reducible refine Su.x_andV ?_ | with_reducible refine Su.x_orV ?_ | with_reducible refine Su.x_notV ?_ | with_reducible refine Su.x_chain ?_ | with_reducible refine Su.x_nil ?_ | with_reducible refine Su.x_cons ?_ | with_reducible refine Su.x_cb ?_ | with_reducible refine Su.x_call ?_
  | with_reducible refine Su.x_un ?_ | with_reducible refine Su.x_rU ?_ | with_reducible refine Su.x_abs ?_ | with_reducible refine Su.x_max2 ?_ | with_reducible refine Su.x_min2 ?_ | with_reducible refine Su.x_int1 ?_ | with_reducible refine Su.x_intB ?_
  | with_reducible refine Su.x_lst ?_ | with_reducible refine Su.x_tup ?_ | with_reducible refine Su.x_bmL ?_ | with_reducible refine Su.x_next ?_ | with_reducible refine Su.x_for ?_ | with_reducible refine Su.x_iList ?_ | with_reducible refine Su.x_iRng1 ?_ | with_reducible refine Su.x_iRng2 ?_ | with_reducible refine Su.x_whileN ?_ | with_reducible refine Su.x_iEnum ?_ | with_reducible refine Su.x_iZip ?_ | with_reducible refine Su.x_iZipA ?_ | with_reducible refine Su.x_iTup ?_ | with_reducible refine Su.x_gcons ?_ | with_reducible refine Su.x_gnil ?_ | with_reducible refine Su.x_gsub ?_ | with_reducible refine Su.x_yes ?_ | with_reducible refine Su.x_lc ?_ | with_reducible refine Su.x_sl ?_ | with_reducible refine Su.x_nopart ?_ | with_reducible refine Su.x_part ?_ | with_reducible refine Su.x_isI ?_ | with_reducible refine Su.x_lstRg ?_ | with_reducible refine Su.x_rg1 ?_ | with_reducible refine Su.x_augS ?_ | with_reducible refine Su.x_ipI ?_ | ((with_reducible show L2.tAug _ _ _ _ _ _); refine Su.x_aug rfl ?_) | with_reducible refine Su.x_callS ?_ | with_reducible refine Su.x_tryAs ?_)
local macro_rules | `(tactic| walk_at "xs") => `(tactic| repeat walk_at "x")
local macro_rules | `(tactic| walk_at "if") => `(tactic| first | with_reducible refine Su.x_iteD (fun c => ?_) (fun c => ?_) | with_reducible refine Su.x_iteN (fun c => ?_) (fun c => ?_) | with_reducible refine Su.x_ite (fun c => ?_) (fun c => ?_))
local macro_rules | `(tactic| walk_at "x") => `(tactic| first | with_reducible refine Su.x_m1 ?_ | with_reducible refine Su.x_strE ?_ | with_reducible refine Su.x_m0 ?_ | with_reducible refine Su.x_dnew ?_ | with_reducible refine Su.x_dput ?_ | with_reducible refine Su.x_dgetE ?_ | with_reducible refine Su.x_dget2 ?_ | with_reducible refine Su.x_daug ?_ | with_reducible refine Su.x_din ?_ | with_reducible refine Su.x_dnin ?_ | with_reducible refine Su.x_brk ?_ | with_reducible refine Su.x_retN ?_)
local macro_rules | `(tactic| walk_at "x") => `(tactic| first | with_reducible refine Su.x_fld ?_ | with_reducible refine Su.x_sfld ?_ | with_reducible refine Su.x_sfldAug ?_ | with_reducible refine Su.x_meth ?_ | with_reducible refine Su.x_methW ?_ | with_reducible refine Su.x_make ?_ | with_reducible refine Su.x_makeW ?_ | with_reducible refine Su.c_stake (by assumption) ?_ | with_reducible refine Su.c_size (by assumption) ?_ | with_reducible refine Su.c_bidding (by assumption) ?_ | with_reducible refine Su.c_now (by assumption) ?_ | with_reducible refine Su.c_line (by assumption) ?_ | with_reducible refine Su.c_due (by assumption) ?_ | with_reducible refine Su.c_chest (by assumption) ?_ | with_reducible refine Su.c_state (by assumption) ?_ | with_reducible refine Su.c_when (by assumption) ?_ | with_reducible refine Su.c_pledged (by assumption) ?_ | with_reducible refine Su.c_given (by assumption) ?_ | with_reducible refine Su.c_drawn (by assumption) ?_ | with_reducible refine Su.c_shared (by assumption) ?_ | with_reducible refine Su.c_missed (by assumption) ?_ | with_reducible refine Su.c_flows (by assumption) ?_)
local macro_rules | `(tactic| walk_at "me") => `(tactic| first | refine Su.c_meth (by assumption) rfl ?_ | refine Su.so_meth (by assumption) rfl ?_)
local macro_rules | `(tactic| walk_at "x") => `(tactic| first | with_reducible refine Su.u_stake (by assumption) ?_ | with_reducible refine Su.u_size (by assumption) ?_ | with_reducible refine Su.u_bidding (by assumption) ?_ | with_reducible refine Su.u_left (by assumption) ?_ | with_reducible refine Su.u_waits (by assumption) ?_ | with_reducible refine Su.u_drew (by assumption) ?_ | with_reducible refine Su.u_fell (by assumption) ?_ | with_reducible refine Su.u_due (by assumption) ?_ | with_reducible refine Su.u_seen (by assumption) ?_)
/-! step_people -/
def sp_Auditor_step_people (K : PySem.W.Frag) : Sp := fun vs H Q _ => ∃ (G : Hp) (a : Nat → Addr) (u : AU) (v : V) (r : RepG), vs = [.ref (a 0), v] ∧ AudIn K G H a u ∧ Dp K G v (dRepG r) ∧ AuOk u ∧ (∀ x ∈ r.helped, ∃ n : Nat, n < u.size ∧ x = n) ∧
  ∀ (a' : Nat → Addr) H', a' 0 = a 0 → AudIn K G H' a' (u.step1 r) → Q .non H'
theorem payLeft_snoc (s : Int) (hs : List Int) (x : Int) (l : List Int) : payLeft s l (hs ++ [x]) = (payLeft s l hs).set x.toNat ((payLeft s l hs).getD x.toNat 0 - s) := by
  unfold payLeft; rw [List.foldl_append]; rfl
abbrev N_Auditor_step_people : List Str := ["self", "report", "at"]
def t_Auditor_step_people (K : PySem.W.Frag) : TS :=
 (tSeq (sFld K (tVar 0) (tLc (iList K (tFld K (tVar 0) "waits")) (gName 2) (tTest (tOp (rIn K true) (tVar 2) (tOp (rIxT K) (tVar 1) (tC (.int 5))))) (tVar 2) [2]) "waits")
 (tSeq (sFldAug K (tVar 0) (tCB (rLenSeq K) (tCons (tOp (rIxT K) (tVar 1) (tC (.int 5))) tNil)) L2.rAdd "many_fell")
 (tSeq (sFldAug K (tVar 0) (tCB (rLenSeq K) (tCons (tOp (rIxT K) (tVar 1) (tC (.int 5))) tNil)) L2.rAdd "still_due")
 (tFor (iList K (tOp (rIxT K) (tVar 1) (tC (.int 6)))) (gName 2)
 (tAugS (tFld K (tVar 0) "left") (tVar 2) (tFld K (tVar 0) "stake") (rIxL K) (ipI fun i j => i - j) rSetL)))))

theorem len_Auditor_step_people {K : PySem.W.Frag} : ∀ vs H Q E, sp_Auditor_step_people K vs H Q E → vs.length = ["a", "b"].length := by
  rintro vs H Q E ⟨_, _, _, _, _, rfl, _⟩; rfl
theorem pure_Auditor_step_people {K : PySem.W.Frag} {vs : List V} {H : Hp} {Q : VK} {E : XK} (h : sp_Auditor_step_people K vs H Q E) : t_Auditor_step_people K { nx := fun _ H' => Q .non H', rt := Q } (start N_Auditor_step_people vs) H := by
  obtain ⟨G, a, u, v, r, rfl, ai, hv, ok, hh, k⟩ := h
  obtain ⟨t, f, g, rfl, ht', hf', hg'⟩ := dp_repG hv
  have ht := seqT_same ai.up ht'
  have hf := ai.up.seq hf'
  have wl := ok.wl
  have ol := ok.l
  have hw : SqL K H (a 3) (nI u.waits) := SqL.of ai.at_.c3
  unfold t_Auditor_step_people
  walk_at "xs"
  refine ⟨a 3, rfl, ⟨_, hw⟩, fun A nA => ?_⟩
  refine lc_flat (fun i => if decide (((u.waits.getD i 0 : Nat) : Int) ∈ r.fallen) = true then none else some (.int (u.waits.getD i 0 : Nat))) (turnsL (K := K) (a := a 3) (xs := nI u.waits)) (fun H' s => s.seq hw) nA ?_ ?_
  · rintro i y Hc _ hi lc ⟨rfl, hy⟩
    unfold nI at hy hi
    rw [List.length_map] at hi
    rw [List.getElem?_map, List.getElem?_eq_getElem hi] at hy
    cases hy
    have e : u.waits.getD i 0 = u.waits[i] := by rw [List.getD_eq_getElem?_getD, List.getElem?_eq_getElem hi]; rfl
    walk_at "xs"
    refine x_wipe rfl ?_
    walk_at "xs"
    refine x_ixT (seqT_same lc.s ht) (v := .ref f) (by rfl) ?_
    refine x_notInI (lc.s.seq hf) ?_
    walk_at "xs"
    cases hb : decide (((u.waits[i] : Nat) : Int) ∈ r.fallen) with
    | true =>
      walk_at "xs"
      exact lc.skip (Same.refl _) (by rw [e, hb]; rfl)
    | false =>
      walk_at "xs"
      exact lc.keep nA (Same.refl _) (by rw [e, hb]; rfl) (by omega)
  intro H1 s1 hA
  have hA' : H1 A = some (.lst (nI (u.waits.filter fun (x : Nat) => !decide ((x : Int) ∈ r.fallen)))) := by
    rw [hA]
    congr 2
    unfold nI
    rw [List.length_map]
    have gen : ∀ (l : List Nat), ((List.range l.length).filterMap fun i => if decide (((l.getD i 0 : Nat) : Int) ∈ r.fallen) = true then none else some (V.int (l.getD i 0 : Nat))) = (l.filter fun (x : Nat) => !decide ((x : Int) ∈ r.fallen)).map fun (n : Nat) => V.int n := by
      intro l
      induction l with
      | nil => rfl
      | cons x l ih =>
        rw [List.length_cons, List.range_succ_eq_map, List.filterMap_cons, List.filterMap_map]
        have e1 : (List.range l.length).filterMap ((fun i => if decide ((((x :: l).getD i 0 : Nat) : Int) ∈ r.fallen) = true then none else some (V.int ((x :: l).getD i 0 : Nat))) ∘ Nat.succ) = (l.filter fun (x : Nat) => !decide ((x : Int) ∈ r.fallen)).map fun (n : Nat) => V.int n := by
          rw [← ih]; rfl
        rw [e1]
        rw [show (x :: l).getD 0 0 = x from rfl]
        by_cases c : (x : Int) ∈ r.fallen
        · simp [c]
        · simp [c]
    exact gen u.waits
  walk_at "xs"
  refine ⟨a 0, _, _, _, rfl, s1 _ _ ai.at_.c0, ai.at_.t.cl, ai.at_.t.no.get (by decide +kernel), by show 9 < 1000; decide, ?_⟩
  have a1 := ai.newWaits s1 nA hA'
  have e1 : putF "waits" (.ref A) (audFs a u) = audFs (fun k => if k = 3 then A else a k) { u with waits := u.waits.filter fun (x : Nat) => !decide ((x : Int) ∈ r.fallen) } := rfl
  rw [e1]
  obtain ⟨b, hb⟩ : ∃ b, b = fun k => if k = 3 then A else a k := ⟨_, rfl⟩
  have b0 : b 0 = a 0 := by rw [hb]; rfl
  have b1 : b 1 = a 1 := by rw [hb]; rfl
  rw [← hb] at a1 ⊢
  clear hb e1 hA hA' hw
  generalize upd H1 (a 0) (.ins (He.ga K "Auditor") (a 1) (audFs b { u with waits := u.waits.filter fun (x : Nat) => !decide ((x : Int) ∈ r.fallen) })) = H2 at a1 ⊢
  have ht2 := seqT_same a1.up ht'
  have hf2 := a1.up.seq hf'
  walk_at "xs"
  rw [← b0]
  refine u_aug a1 (by decide +kernel) rfl ?_
  walk_at "xs"
  refine x_ixT ht2 (v := .ref f) (by rfl) ?_
  walk_at "xs"
  refine x_lenL hf2 ?_
  rw [List.length_map]
  walk_at "xs"
  refine x_rAddG ?_
  refine u_put a1 (u' := { u with waits := u.waits.filter (fun (x : Nat) => !decide ((x : Int) ∈ r.fallen)), fell := u.fell + (r.fallen.length : Nat) }) rfl rfl rfl rfl fun H3 a3 => ?_
  have ht3 := seqT_same a3.up ht'
  have hf3 := a3.up.seq hf'
  have hg3 := a3.up.seq hg'
  walk_at "xs"
  refine u_aug a3 (by decide +kernel) rfl ?_
  walk_at "xs"
  refine x_ixT ht3 (v := .ref f) (by rfl) ?_
  walk_at "xs"
  refine x_lenL hf3 ?_
  rw [List.length_map]
  walk_at "xs"
  refine x_rAddG ?_
  refine u_put a3 (u' := { u with waits := u.waits.filter (fun (x : Nat) => !decide ((x : Int) ∈ r.fallen)), fell := u.fell + (r.fallen.length : Nat), due := u.due + (r.fallen.length : Nat) }) rfl rfl rfl rfl fun H4 a4 => ?_
  have ht4 := seqT_same a4.up ht'
  have hg4 := a4.up.seq hg'
  walk_at "xs"
  refine x_ixT ht4 (v := .ref g) (by rfl) ?_
  walk_at "xs"
  refine ⟨g, rfl, ⟨_, hg4⟩, for_by turnsL (fun i σ H' => ∃ (u2 : Option V), σ = [some (.ref (b 0)), some (.ref t), u2] ∧ AudIn K G H' b { u with waits := u.waits.filter (fun (x : Nat) => !decide ((x : Int) ∈ r.fallen)), fell := u.fell + (r.fallen.length : Nat), due := u.due + (r.fallen.length : Nat), left := payLeft u.stake u.left (r.helped.take i) })
    ⟨none, rfl, a4⟩ (by rintro _ _ _ _ ⟨_, _, e⟩; exact e.up.seq hg') ?_ ?_⟩
  · rintro i y σ H5 _ hi ⟨u2, rfl, a5⟩ ⟨rfl, hy⟩
    have hi' : i < r.helped.length := by rw [List.length_map] at hi; exact hi
    rw [List.getElem?_map, List.getElem?_eq_getElem hi'] at hy
    cases hy
    obtain ⟨n, nn, e⟩ := hh _ (List.getElem_mem hi')
    have tk : r.helped.take (i + 1) = r.helped.take i ++ [r.helped[i]] := by rw [List.take_append_getElem]
    generalize r.helped[i] = x at e tk
    subst e
    have pl := payLeft_len u.stake (r.helped.take i) u.left
    have h2 : H5 (b 2) = some (.lst ((payLeft u.stake u.left (r.helped.take i)).map V.int)) := a5.at_.c2
    walk_at "xs"
    refine x_setL h2 (by omega) (by rw [List.length_map]; omega) ?_
    rw [show ((payLeft u.stake u.left (r.helped.take i)).map V.int).set ((n : Nat) : Int).toNat (.int ((payLeft u.stake u.left (r.helped.take i)).getD ((n : Nat) : Int).toNat 0 - u.stake)) = ((payLeft u.stake u.left (r.helped.take (i + 1))).map V.int) by
      rw [tk, payLeft_snoc, List.map_set]]
    exact ⟨_, rfl, a5.setLeft _⟩
  · rintro σ H5 ⟨u2, rfl, a5⟩
    rw [List.length_map, List.take_length] at a5
    exact k b H5 b0 a5

end Su
namespace Su
open PySem L2
local macro_rules | `(tactic| walk_at "side") => `(tactic| first | assumption | (show (0 : Int) < _; omega) | (show (0 : Int) ≤ _; omega) | (show (0 : Int) < _; split <;> omega) | (show _ ∨ _; omega) | (show _ ∧ _; omega) | exact ⟨by decide, by decide, by decide⟩ | exact ⟨by first | assumption | omega, by first | assumption | omega⟩)
local macro_rules | `(tactic| walk_at "x") => `(tactic| first
  | with_reducible refine Su.x_seq ?_ | with_reducible refine Su.x_asg ?_ | with_reducible refine Su.x_gname ?_ | with_reducible refine Su.x_drop ?_ | with_reducible refine Su.x_ret ?_ | with_reducible refine Su.x_ifS ?_
  | ((with_reducible show L2.tVar _ _ _ _); refine Su.x_var rfl ?_) | with_reducible refine Su.x_c ?_ | with_reducible refine Su.x_op ?_ | with_reducible refine Su.x_rI0 ?_ | ((with_reducible refine Su.x_rI ?_ ?_); focus walk_at "side")
  | ((with_reducible show L2.rIxL _ (L2.V.ref _) (L2.V.int _) _ _); refine Su.x_ixI (by assumption) (by first | decide | omega) (by omega) ?_) | with_reducible refine Su.x_isi_int_int ?_ | with_reducible refine Su.x_isi_int_bool ?_ | with_reducible refine Su.x_isi_int_str ?_ | with_reducible refine Su.x_isi_int_list ?_ | with_reducible refine Su.x_isi_int_tuple ?_ | with_reducible refine Su.x_isi_bool_int ?_ | with_reducible refine Su.x_isi_bool_bool ?_ | with_reducible refine Su.x_isi_bool_str ?_ | with_reducible refine Su.x_isi_bool_list ?_ | with_reducible refine Su.x_isi_bool_tuple ?_ | with_reducible refine Su.x_isi_str_int ?_ | with_reducible refine Su.x_isi_str_bool ?_ | with_reducible refine Su.x_isi_str_str ?_ | with_reducible refine Su.x_isi_str_list ?_ | with_reducible refine Su.x_isi_str_tuple ?_ | with_reducible refine Su.x_isi_NoneType_int ?_ | with_reducible refine Su.x_isi_NoneType_bool ?_ | with_reducible refine Su.x_isi_NoneType_str ?_ | with_reducible refine Su.x_isi_NoneType_list ?_ | with_reducible refine Su.x_isi_NoneType_tuple ?_ | with_reducible refine Su.x_rGt ?_ | with_reducible refine Su.x_rGe ?_ | with_reducible refine Su.x_iteF ?_ | with_reducible refine Su.x_iteT ?_ | with_reducible refine Su.x_iteNT ?_ | with_reducible refine Su.x_iteNF ?_ | with_reducible refine Su.x_eqI ?_ | with_reducible refine Su.x_neI ?_ | with_reducible refine Su.x_eqS ?_ | with_reducible refine Su.x_neS ?_ | with_reducible refine Su.x_eqB ?_ | with_reducible refine Su.x_neB ?_
  | with_reducible refine Su.x_test ?_ | with_reducible refine Su.x_tB ?_ | with_reducible refine Su.x_isB ?_ | with_reducible refine Su.x_isB' ?_ | with_reducible refine Su.x_not ?_ | with_reducible refine Su.x_and ?_ | with_reducible refine Su.x_or ?_
  | with_reducible refine Su.x_andV ?_ | with_reducible refine Su.x_orV ?_ | with_reducible refine Su.x_notV ?_ | with_reducible refine Su.x_chain ?_ | with_reducible refine Su.x_nil ?_ | with_reducible refine Su.x_cons ?_ | with_reducible refine Su.x_cb ?_ | with_reducible refine Su.x_call ?_
  | with_reducible refine Su.x_un ?_ | with_reducible refine Su.x_rU ?_ | with_reducible refine Su.x_abs ?_ | with_reducible refine Su.x_max2 ?_ | with_reducible refine Su.x_min2 ?_ | with_reducible refine Su.x_int1 ?_ | with_reducible refine Su.x_intB ?_
  | with_reducible refine Su.x_lst ?_ | with_reducible refine Su.x_tup ?_ | with_reducible refine Su.x_bmL ?_ | with_reducible refine Su.x_next ?_ | with_reducible refine Su.x_for ?_ | with_reducible refine Su.x_iList ?_ | with_reducible refine Su.x_iRng1 ?_ | with_reducible refine Su.x_iRng2 ?_ | with_reducible refine Su.x_whileN ?_ | with_reducible refine Su.x_iEnum ?_ | with_reducible refine Su.x_iZip ?_ | with_reducible refine Su.x_iZipA ?_ | with_reducible refine Su.x_iTup ?_ | with_reducible refine Su.x_gcons ?_ | with_reducible refine Su.x_gnil ?_ | with_reducible refine Su.x_gsub ?_ | with_reducible refine Su.x_yes ?_ | with_reducible refine Su.x_lc ?_ | with_reducible refine Su.x_sl ?_ | with_reducible refine Su.x_nopart ?_ | with_reducible refine Su.x_part ?_ | with_reducible refine Su.x_isI ?_ | with_reducible refine Su.x_lstRg ?_ | with_reducible refine Su.x_rg1 ?_ | with_reducible refine Su.x_augS ?_ | with_reducible refine Su.x_ipI ?_ | ((with_reducible show L2.tAug _ _ _ _ _ _); refine Su.x_aug rfl ?_) | with_reducible refine Su.x_callS ?_ | with_reducible refine Su.x_tryAs ?_)
local macro_rules | `(tactic| walk_at "xs") => `(tactic| repeat walk_at "x")
local macro_rules | `(tactic| walk_at "if") => `(tactic| first | with_reducible refine Su.x_iteD (fun c => ?_) (fun c => ?_) | with_reducible refine Su.x_iteN (fun c => ?_) (fun c => ?_) | with_reducible refine Su.x_ite (fun c => ?_) (fun c => ?_))
local macro_rules | `(tactic| walk_at "x") => `(tactic| first | with_reducible refine Su.x_m1 ?_ | with_reducible refine Su.x_strE ?_ | with_reducible refine Su.x_m0 ?_ | with_reducible refine Su.x_dnew ?_ | with_reducible refine Su.x_dput ?_ | with_reducible refine Su.x_dgetE ?_ | with_reducible refine Su.x_dget2 ?_ | with_reducible refine Su.x_daug ?_ | with_reducible refine Su.x_din ?_ | with_reducible refine Su.x_dnin ?_ | with_reducible refine Su.x_brk ?_ | with_reducible refine Su.x_retN ?_)
local macro_rules | `(tactic| walk_at "x") => `(tactic| first | with_reducible refine Su.x_fld ?_ | with_reducible refine Su.x_sfld ?_ | with_reducible refine Su.x_sfldAug ?_ | with_reducible refine Su.x_meth ?_ | with_reducible refine Su.x_methW ?_ | with_reducible refine Su.x_make ?_ | with_reducible refine Su.x_makeW ?_ | with_reducible refine Su.c_stake (by assumption) ?_ | with_reducible refine Su.c_size (by assumption) ?_ | with_reducible refine Su.c_bidding (by assumption) ?_ | with_reducible refine Su.c_now (by assumption) ?_ | with_reducible refine Su.c_line (by assumption) ?_ | with_reducible refine Su.c_due (by assumption) ?_ | with_reducible refine Su.c_chest (by assumption) ?_ | with_reducible refine Su.c_state (by assumption) ?_ | with_reducible refine Su.c_when (by assumption) ?_ | with_reducible refine Su.c_pledged (by assumption) ?_ | with_reducible refine Su.c_given (by assumption) ?_ | with_reducible refine Su.c_drawn (by assumption) ?_ | with_reducible refine Su.c_shared (by assumption) ?_ | with_reducible refine Su.c_missed (by assumption) ?_ | with_reducible refine Su.c_flows (by assumption) ?_)
local macro_rules | `(tactic| walk_at "me") => `(tactic| first | refine Su.c_meth (by assumption) rfl ?_ | refine Su.so_meth (by assumption) rfl ?_)
local macro_rules | `(tactic| walk_at "x") => `(tactic| first | with_reducible refine Su.u_stake (by assumption) ?_ | with_reducible refine Su.u_size (by assumption) ?_ | with_reducible refine Su.u_bidding (by assumption) ?_ | with_reducible refine Su.u_left (by assumption) ?_ | with_reducible refine Su.u_waits (by assumption) ?_ | with_reducible refine Su.u_drew (by assumption) ?_ | with_reducible refine Su.u_fell (by assumption) ?_ | with_reducible refine Su.u_due (by assumption) ?_ | with_reducible refine Su.u_seen (by assumption) ?_)
/-! coins_good -/
def sp_Auditor_coins_good (K : PySem.W.Frag) : Sp := fun vs H Q _ => ∃ (G : Hp) (a : Nat → Addr) (u : AU) (v : V) (r : RepG), vs = [.ref (a 0), v] ∧ AudIn K G H a u ∧ Dp K G v (dRepG r) ∧ AuOk u ∧ -(2 ^ 60) < u.fell ∧ u.fell < 2 ^ 60 ∧ Q (.bl (u.coinsG r)) H
abbrev N_Auditor_coins_good : List Str := ["self", "report", "turn", "word", "at", "coins", "share", "fallen", "helped", "unfallen"]
def t_Auditor_coins_good (K : PySem.W.Frag) : TS :=
 (tSeq (tAsg (tVar 1) (gTup K 7 (gCons (gName 2) (gCons (gName 3) (gCons (gName 4) (gCons (gName 5) (gCons (gName 6) (gCons (gName 7) (gCons (gName 8) gNil)))))))))
 (tSeq (tAsg (tOp rSub (tFld K (tVar 0) "size") (tFld K (tVar 0) "many_fell")) (gName 9))
 (tSeq (tIfS (tTest (tOp rGt (tFld K (tVar 0) "still_due") (tC (.int 0))))
 (tRet (tAndV (tOp rEq (tVar 3) (tC (.str "box"))) (tAndV (tOp rEq (tVar 4) (tUn rNeg (tC (.int 1)))) (tAndV (tOp rEq (tVar 5) (tOp rMul (tFld K (tVar 0) "stake") (tVar 9))) (tOp rEq (tVar 6) (tC (.int 0)))))))
 tNext)
 (tSeq (tIfS (tOr (tTest (tOp rNe (tVar 3) (tC (.str "draw")))) (tOr (tTest (tOp (rIn K true) (tVar 4) (tFld K (tVar 0) "waits"))) (tTest (tOp rLt (tOp (rIxL K) (tFld K (tVar 0) "left") (tVar 4)) (tOp rMul (tFld K (tVar 0) "stake") (tOp rSub (tFld K (tVar 0) "size") (tVar 2)))))))
 (tRet (tC (.bl false)))
 tNext)
 (tSeq (tIfS (tAnd (tOr (tNot (tB (tFld K (tVar 0) "bidding"))) (tTest (tOp rEq (tVar 9) (tC (.int 1))))) (tTest (tOp rNe (tVar 6) (tC (.int 0)))))
 (tRet (tC (.bl false)))
 tNext)
 (tSeq (tIfS (tAnd (tNot (tB (tFld K (tVar 0) "bidding"))) (tTest (tOp rNe (tVar 4) (tOp (rIxL K) (tFld K (tVar 0) "waits") (tC (.int 0))))))
 (tRet (tC (.bl false)))
 tNext)
 (tRet (tAndV (tOp rGe (tVar 6) (tC (.int 0))) (tAndV (tOp rGe (tVar 5) (tC (.int 0))) (tOp rEq (tVar 5) (tOp rSub (tOp rMul (tFld K (tVar 0) "stake") (tFld K (tVar 0) "size")) (tOp rMul (tVar 6) (tOp rSub (tVar 9) (tC (.int 1)))))))))))))))

theorem len_Auditor_coins_good {K : PySem.W.Frag} : ∀ vs H Q E, sp_Auditor_coins_good K vs H Q E → vs.length = ["a", "b"].length := by
  rintro vs H Q E ⟨_, _, _, _, _, rfl, _⟩; rfl
theorem pure_Auditor_coins_good {K : PySem.W.Frag} {vs : List V} {H : Hp} {Q : VK} {E : XK} (h : sp_Auditor_coins_good K vs H Q E) : t_Auditor_coins_good K { nx := fun _ H' => Q .non H', rt := Q } (start N_Auditor_coins_good vs) H := by
  obtain ⟨G, a, u, v, r, rfl, ai, hv, ok, fl1, fl2, k⟩ := h
  obtain ⟨t, f, g, rfl, ht, hf, hg⟩ := dp_repG (dp_same ai.up hv)
  have hw : SqL K H (a 3) (nI u.waits) := SqL.of ai.at_.c3
  have hl : H (a 2) = some (.lst (u.left.map V.int)) := ai.at_.c2
  have ol := ok.l
  have on := ok.n
  have s0 := ok.s0
  have s1 := ok.s1
  unfold AU.coinsG at k
  unfold t_Auditor_coins_good
  walk_at "xs"
  refine x_gtup ht rfl ?_
  walk_at "xs"
  walk_at "if"
  · rename_i c1
    rw [if_pos c1] at k
    walk_at "xs"
    walk_at "if"
    · rename_i c2
      rw [decide_eq_true c2] at k
      walk_at "xs"
      walk_at "if"
      · rename_i c3
        rw [decide_eq_true (show r.at_ = -1 from c3)] at k
        walk_at "xs"
        walk_at "if"
        · rename_i c4
          rw [decide_eq_true c4] at k
          walk_at "xs"
          simpa using k
        · rename_i c4
          rw [decide_eq_false c4] at k
          simpa using k
      · rename_i c3
        rw [decide_eq_false (show ¬ r.at_ = -1 from c3)] at k
        simpa using k
    · rename_i c2
      rw [decide_eq_false c2] at k
      simpa using k
  rename_i c1
  rw [if_neg c1] at k
  have two : ∀ (P : Prop), P → P := fun _ h => h
  clear two
  walk_at "xs"
  walk_at "if"
  · rename_i c2
    walk_at "xs"
    rw [if_pos (.inl c2)] at k
    exact k
  rename_i c2
  walk_at "xs"
  refine x_notInG hw ?_
  walk_at "xs"
  walk_at "if"
  · rename_i c3
    walk_at "xs"
    rw [if_pos (.inr (.inl c3))] at k
    exact k
  rename_i c3
  obtain ⟨n, hn, en⟩ := List.mem_map.mp c3
  have nn := ok.w n hn
  walk_at "xs"
  walk_at "if"
  · rename_i c4
    walk_at "xs"
    rw [if_pos (.inr (.inr c4))] at k
    exact k
  rename_i c4
  rw [if_neg (fun z => z.elim (fun z => z c2) fun z => z.elim (fun z => z c3) c4)] at k
  have wne : u.waits ≠ [] := fun z => by rw [z] at hn; cases hn
  have w0 : atI (nI u.waits) 0 = some (.int (u.waits.getD 0 0 : Nat)) := by
    cases hq : u.waits with
    | nil => exact absurd hq wne
    | cons y l => exact at_zero
  have last : Q (.bl (decide (0 ≤ r.share) && (decide (0 ≤ r.coins) && decide (r.coins = u.stake * u.size - r.share * (u.size - u.fell - 1))))) H → if decide (0 ≤ r.share) = true then tAndV (tOp rGe (tVar 5) (tC (.int 0))) (tOp rEq (tVar 5) (tOp rSub (tOp rMul (tFld K (tVar 0) "stake") (tFld K (tVar 0) "size")) (tOp rMul (tVar 6) (tOp rSub (tVar 9) (tC (.int 1))))))
      [some (.ref (a 0)), some (.ref t), some (.int r.turn), some (.str r.word), some (.int r.at_), some (.int r.coins), some (.int r.share), some (.ref f), some (.ref g), some (.int ((u.size : Int) - u.fell))] H Q else Q (.bl false) H := by
    intro k
    walk_at "if"
    · rename_i c
      rw [decide_eq_true c] at k
      walk_at "xs"
      walk_at "if"
      · rename_i c2
        rw [decide_eq_true c2] at k
        walk_at "xs"
        simpa using k
      · rename_i c2
        rw [decide_eq_false c2] at k
        simpa using k
    · rename_i c
      rw [decide_eq_false c] at k
      simpa using k
  walk_at "xs"
  cases hb : u.bid with
  | false =>
    rw [hb] at k
    walk_at "xs"
    walk_at "if"
    · rename_i c5
      rw [if_pos ⟨.inl rfl, c5⟩] at k
      exact k
    · rename_i c5
      rw [if_neg (fun z => z.2 c5)] at k
      walk_at "xs"
      rw [hb]
      walk_at "xs"
      refine x_ixL hw w0 ?_
      walk_at "xs"
      walk_at "if"
      · rename_i c6
        rw [if_pos ⟨rfl, c6⟩] at k
        exact k
      · rename_i c6
        rw [if_neg (fun z => z.2 c6)] at k
        walk_at "xs"
        exact last k
  | true =>
    rw [hb] at k
    walk_at "xs"
    walk_at "if"
    · rename_i c5
      walk_at "xs"
      walk_at "if"
      · rename_i c6
        rw [if_pos ⟨.inr c5, c6⟩] at k
        exact k
      · rename_i c6
        rw [if_neg (fun z => z.2 c6), if_neg (fun z => by cases z.1)] at k
        walk_at "xs"
        rw [hb]
        walk_at "xs"
        exact last k
    · rename_i c5
      rw [if_neg (fun z => z.1.elim (fun y => by cases y) c5), if_neg (fun z => by cases z.1)] at k
      walk_at "xs"
      rw [hb]
      walk_at "xs"
      exact last k

end Su
namespace Su
open PySem L2
local macro_rules | `(tactic| walk_at "side") => `(tactic| first | assumption | (show (0 : Int) < _; omega) | (show (0 : Int) ≤ _; omega) | (show (0 : Int) < _; split <;> omega) | (show _ ∨ _; omega) | (show _ ∧ _; omega) | exact ⟨by decide, by decide, by decide⟩ | exact ⟨by first | assumption | omega, by first | assumption | omega⟩)
local macro_rules | `(tactic| walk_at "x") => `(tactic| first
  | with_reducible refine Su.x_seq ?_ | with_reducible refine Su.x_asg ?_ | with_reducible refine Su.x_gname ?_ | with_reducible refine Su.x_drop ?_ | with_reducible refine Su.x_ret ?_ | with_reducible refine Su.x_ifS ?_
  | ((with_reducible show L2.tVar _ _ _ _); refine Su.x_var rfl ?_) | with_reducible refine Su.x_c ?_ | with_reducible refine Su.x_op ?_ | with_reducible refine Su.x_rI0 ?_ | ((with_reducible refine Su.x_rI ?_ ?_); focus walk_at "side")
  | ((with_reducible show L2.rIxL _ (L2.V.ref _) (L2.V.int _) _ _); refine Su.x_ixI (by assumption) (by first | decide | omega) (by omega) ?_) | with_reducible refine Su.x_isi_int_int ?_ | with_reducible refine Su.x_isi_int_bool ?_ | with_reducible refine Su.x_isi_int_str ?_ | with_reducible refine Su.x_isi_int_list ?_ | with_reducible refine Su.x_isi_int_tuple ?_ | with_reducible refine Su.x_isi_bool_int ?_ | with_reducible refine Su.x_isi_bool_bool ?_ | with_reducible refine Su.x_isi_bool_str ?_ | with_reducible refine Su.x_isi_bool_list ?_ | with_reducible refine Su.x_isi_bool_tuple ?_ | with_reducible refine Su.x_isi_str_int ?_ | with_reducible refine Su.x_isi_str_bool ?_ | with_reducible refine Su.x_isi_str_str ?_ | with_reducible refine Su.x_isi_str_list ?_ | with_reducible refine Su.x_isi_str_tuple ?_ | with_reducible refine Su.x_isi_NoneType_int ?_ | with_reducible refine Su.x_isi_NoneType_bool ?_ | with_reducible refine Su.x_isi_NoneType_str ?_ | with_reducible refine Su.x_isi_NoneType_list ?_ | with_reducible refine Su.x_isi_NoneType_tuple ?_ | with_reducible refine Su.x_rGt ?_ | with_reducible refine Su.x_rGe ?_ | with_reducible refine Su.x_iteF ?_ | with_reducible refine Su.x_iteT ?_ | with_reducible refine Su.x_iteNT ?_ | with_reducible refine Su.x_iteNF ?_ | with_reducible refine Su.x_eqI ?_ | with_reducible refine Su.x_neI ?_ | with_reducible refine Su.x_eqS ?_ | with_reducible refine Su.x_neS ?_ | with_reducible refine Su.x_eqB ?_ | with_reducible refine Su.x_neB ?_
  | with_reducible refine Su.x_test ?_ | with_reducible refine Su.x_tB ?_ | with_reducible refine Su.x_isB ?_ | with_reducible refine Su.x_isB' ?_ | with_reducible refine Su.x_not ?_ | with_reducible refine Su.x_and ?_ | with_reducible refine Su.x_or ?_
  | with_reducible refine Su.x_andV ?_ | with_reducible refine Su.x_orV ?_ | with_reducible refine Su.x_notV ?_ | with_reducible refine Su.x_chain ?_ | with_reducible refine Su.x_nil ?_ | with_reducible refine Su.x_cons ?_ | with_reducible refine Su.x_cb ?_ | with_reducible refine Su.x_call ?_
  | with_reducible refine Su.x_un ?_ | with_reducible refine Su.x_rU ?_ | with_reducible refine Su.x_abs ?_ | with_reducible refine Su.x_max2 ?_ | with_reducible refine Su.x_min2 ?_ | with_reducible refine Su.x_int1 ?_ | with_reducible refine Su.x_intB ?_
  | with_reducible refine Su.x_lst ?_ | with_reducible refine Su.x_tup ?_ | with_reducible refine Su.x_bmL ?_ | with_reducible refine Su.x_next ?_ | with_reducible refine Su.x_for ?_ | with_reducible refine Su.x_iList ?_ | with_reducible refine Su.x_iRng1 ?_ | with_reducible refine Su.x_iRng2 ?_ | with_reducible refine Su.x_whileN ?_ | with_reducible refine Su.x_iEnum ?_ | with_reducible refine Su.x_iZip ?_ | with_reducible refine Su.x_iZipA ?_ | with_reducible refine Su.x_iTup ?_ | with_reducible refine Su.x_gcons ?_ | with_reducible refine Su.x_gnil ?_ | with_reducible refine Su.x_gsub ?_ | with_reducible refine Su.x_yes ?_ | with_reducible refine Su.x_lc ?_ | with_reducible refine Su.x_sl ?_ | with_reducible refine Su.x_nopart ?_ | with_reducible refine Su.x_part ?_ | with_reducible refine Su.x_isI ?_ | with_reducible refine Su.x_lstRg ?_ | with_reducible refine Su.x_rg1 ?_ | with_reducible refine Su.x_augS ?_ | with_reducible refine Su.x_ipI ?_ | ((with_reducible show L2.tAug _ _ _ _ _ _); refine Su.x_aug rfl ?_) | with_reducible refine Su.x_callS ?_ | with_reducible refine Su.x_tryAs ?_)
local macro_rules | `(tactic| walk_at "xs") => `(tactic| repeat walk_at "x")
local macro_rules | `(tactic| walk_at "if") => `(tactic| first | with_reducible refine Su.x_iteD (fun c => ?_) (fun c => ?_) | with_reducible refine Su.x_iteN (fun c => ?_) (fun c => ?_) | with_reducible refine Su.x_ite (fun c => ?_) (fun c => ?_))
local macro_rules | `(tactic| walk_at "x") => `(tactic| first | with_reducible refine Su.x_m1 ?_ | with_reducible refine Su.x_strE ?_ | with_reducible refine Su.x_m0 ?_ | with_reducible refine Su.x_dnew ?_ | with_reducible refine Su.x_dput ?_ | with_reducible refine Su.x_dgetE ?_ | with_reducible refine Su.x_dget2 ?_ | with_reducible refine Su.x_daug ?_ | with_reducible refine Su.x_din ?_ | with_reducible refine Su.x_dnin ?_ | with_reducible refine Su.x_brk ?_ | with_reducible refine Su.x_retN ?_)
local macro_rules | `(tactic| walk_at "x") => `(tactic| first | with_reducible refine Su.x_fld ?_ | with_reducible refine Su.x_sfld ?_ | with_reducible refine Su.x_sfldAug ?_ | with_reducible refine Su.x_meth ?_ | with_reducible refine Su.x_methW ?_ | with_reducible refine Su.x_make ?_ | with_reducible refine Su.x_makeW ?_ | with_reducible refine Su.c_stake (by assumption) ?_ | with_reducible refine Su.c_size (by assumption) ?_ | with_reducible refine Su.c_bidding (by assumption) ?_ | with_reducible refine Su.c_now (by assumption) ?_ | with_reducible refine Su.c_line (by assumption) ?_ | with_reducible refine Su.c_due (by assumption) ?_ | with_reducible refine Su.c_chest (by assumption) ?_ | with_reducible refine Su.c_state (by assumption) ?_ | with_reducible refine Su.c_when (by assumption) ?_ | with_reducible refine Su.c_pledged (by assumption) ?_ | with_reducible refine Su.c_given (by assumption) ?_ | with_reducible refine Su.c_drawn (by assumption) ?_ | with_reducible refine Su.c_shared (by assumption) ?_ | with_reducible refine Su.c_missed (by assumption) ?_ | with_reducible refine Su.c_flows (by assumption) ?_)
local macro_rules | `(tactic| walk_at "me") => `(tactic| first | refine Su.c_meth (by assumption) rfl ?_ | refine Su.so_meth (by assumption) rfl ?_)
local macro_rules | `(tactic| walk_at "x") => `(tactic| first | with_reducible refine Su.u_stake (by assumption) ?_ | with_reducible refine Su.u_size (by assumption) ?_ | with_reducible refine Su.u_bidding (by assumption) ?_ | with_reducible refine Su.u_left (by assumption) ?_ | with_reducible refine Su.u_waits (by assumption) ?_ | with_reducible refine Su.u_drew (by assumption) ?_ | with_reducible refine Su.u_fell (by assumption) ?_ | with_reducible refine Su.u_due (by assumption) ?_ | with_reducible refine Su.u_seen (by assumption) ?_)
/-! step_coins -/
def sp_Auditor_step_coins (K : PySem.W.Frag) : Sp := fun vs H Q _ => ∃ (G : Hp) (a : Nat → Addr) (u : AU) (v : V) (r : RepG), vs = [.ref (a 0), v] ∧ AudIn K G H a u ∧ Dp K G v (dRepG r) ∧ AuOk u ∧ (¬ 0 < u.due → ∃ n : Nat, n ∈ u.waits ∧ r.at_ = n) ∧
  ∀ H', AudIn K G H' a (u.step2 r) → Q .non H'
abbrev N_Auditor_step_coins : List Str := ["self", "report"]
def t_Auditor_step_coins (K : PySem.W.Frag) : TS :=
 (C8.tCut (tIfS (tTest (tOp rGt (tFld K (tVar 0) "still_due") (tC (.int 0))))
 (sFldAug K (tVar 0) (tC (.int 1)) L2.rSub "still_due")
 (tSeq (tDrop (tBM K "list" rRemI (tFld K (tVar 0) "waits") (tCons (tOp (rIxT K) (tVar 1) (tC (.int 2))) tNil)))
 (tDrop (tBM K "list" rAppend (tFld K (tVar 0) "drew") (tCons (tOp (rIxT K) (tVar 1) (tC (.int 2))) tNil)))))
 (sFldAug K (tVar 0) (tC (.int 1)) L2.rAdd "seen"))

theorem len_Auditor_step_coins {K : PySem.W.Frag} : ∀ vs H Q E, sp_Auditor_step_coins K vs H Q E → vs.length = ["a", "b"].length := by
  rintro vs H Q E ⟨_, _, _, _, _, rfl, _⟩; rfl
theorem pure_Auditor_step_coins {K : PySem.W.Frag} {vs : List V} {H : Hp} {Q : VK} {E : XK} (h : sp_Auditor_step_coins K vs H Q E) : t_Auditor_step_coins K { nx := fun _ H' => Q .non H', rt := Q } (start N_Auditor_step_coins vs) H := by
  obtain ⟨G, a, u, v, r, rfl, ai, hv, ok, hw, k⟩ := h
  obtain ⟨t, f, g, rfl, ht', hf', hg'⟩ := dp_repG hv
  have ht := seqT_same ai.up ht'
  unfold AU.step2 at k
  unfold t_Auditor_step_coins
  refine x_cut (fun σ H' => ∃ u', σ = [some (.ref (a 0)), some (.ref t)] ∧ AudIn K G H' a u' ∧ ({ u' with seen := u'.seen + 1 } : AU) = u.step2 r) ?_ ?_
  · walk_at "xs"
    walk_at "if"
    · rename_i c
      walk_at "xs"
      refine u_aug ai (by decide +kernel) rfl ?_
      walk_at "xs"
      refine x_rSubG ?_
      refine u_put ai (u' := { u with due := u.due - 1 }) rfl rfl rfl rfl fun H3 a3 => ?_
      exact ⟨_, rfl, a3, by unfold AU.step2; rw [if_pos c]⟩
    · rename_i c
      obtain ⟨n, hn, e⟩ := hw c
      have dl := ok.dl
      walk_at "xs"
      refine ⟨tyL (SqL.of ai.at_.c3), ?_⟩
      walk_at "xs"
      refine x_ixT ht (v := .int r.at_) (by rfl) ?_
      walk_at "xs"
      refine x_remN e ai.at_.c3 hn ?_
      have a2 := ai.setWaits (u.waits.erase n)
      generalize upd H (a 3) (.lst (nI (u.waits.erase n))) = H2 at a2 ⊢
      have ht2 := seqT_same a2.up ht'
      walk_at "xs"
      refine ⟨tyL (SqL.of a2.at_.c4), ?_⟩
      walk_at "xs"
      refine x_ixT ht2 (v := .int r.at_) (by rfl) ?_
      walk_at "xs"
      refine x_append a2.at_.c4 (small (by rw [nI_len]; show u.drew.length ≤ _; omega)) ?_
      have a3 := a2.setDrew (u.drew ++ [n])
      rw [show nI u.drew ++ [V.int r.at_] = nI (u.drew ++ [n]) by rw [e]; unfold nI; simp]
      exact ⟨_, rfl, a3, by unfold AU.step2; rw [if_neg c, e]; rfl⟩
  rintro _ H3 ⟨u', rfl, a3, e3⟩
  refine x_sfldAug ?_
  walk_at "xs"
  refine u_aug a3 (by decide +kernel) rfl ?_
  walk_at "xs"
  refine x_rAddG ?_
  refine u_put a3 (u' := { u' with seen := u'.seen + 1 }) rfl rfl rfl rfl fun H4 a4 => ?_
  rw [e3] at a4
  exact k H4 a4

end Su
namespace Su
open PySem L2
local macro_rules | `(tactic| walk_at "side") => `(tactic| first | assumption | (show (0 : Int) < _; omega) | (show (0 : Int) ≤ _; omega) | (show (0 : Int) < _; split <;> omega) | (show _ ∨ _; omega) | (show _ ∧ _; omega) | exact ⟨by decide, by decide, by decide⟩ | exact ⟨by first | assumption | omega, by first | assumption | omega⟩)
local macro_rules | `(tactic| walk_at "x") => `(tactic| first
  | with_reducible refine Su.x_seq ?_ | with_reducible refine Su.x_asg ?_ | with_reducible refine Su.x_gname ?_ | with_reducible refine Su.x_drop ?_ | with_reducible refine Su.x_ret ?_ | with_reducible refine Su.x_ifS ?_
  | ((with_reducible show L2.tVar _ _ _ _); refine Su.x_var rfl ?_) | with_reducible refine Su.x_c ?_ | with_reducible refine Su.x_op ?_ | with_reducible refine Su.x_rI0 ?_ | ((with_reducible refine Su.x_rI ?_ ?_); focus walk_at "side")
  | ((with_reducible show L2.rIxL _ (L2.V.ref _) (L2.V.int _) _ _); refine Su.x_ixI (by assumption) (by first | decide | omega) (by omega) ?_) | with_reducible refine Su.x_isi_int_int ?_ | with_reducible refine Su.x_isi_int_bool ?_ | with_reducible refine Su.x_isi_int_str ?_ | with_reducible refine Su.x_isi_int_list ?_ | with_reducible refine Su.x_isi_int_tuple ?_ | with_reducible refine Su.x_isi_bool_int ?_ | with_reducible refine Su.x_isi_bool_bool ?_ | with_reducible refine Su.x_isi_bool_str ?_ | with_reducible refine Su.x_isi_bool_list ?_ | with_reducible refine Su.x_isi_bool_tuple ?_ | with_reducible refine Su.x_isi_str_int ?_ | with_reducible refine Su.x_isi_str_bool ?_ | with_reducible refine Su.x_isi_str_str ?_ | with_reducible refine Su.x_isi_str_list ?_ | with_reducible refine Su.x_isi_str_tuple ?_ | with_reducible refine Su.x_isi_NoneType_int ?_ | with_reducible refine Su.x_isi_NoneType_bool ?_ | with_reducible refine Su.x_isi_NoneType_str ?_ | with_reducible refine Su.x_isi_NoneType_list ?_ | with_reducible refine Su.x_isi_NoneType_tuple ?_ | with_reducible refine Su.x_rGt ?_ | with_reducible refine Su.x_rGe ?_ | with_reducible refine Su.x_iteF ?_ | with_reducible refine Su.x_iteT ?_ | with_reducible refine Su.x_iteNT ?_ | with_reducible refine Su.x_iteNF ?_ | with_reducible refine Su.x_eqI ?_ | with_reducible refine Su.x_neI ?_ | with_reducible refine Su.x_eqS ?_ | with_reducible refine Su.x_neS ?_ | with_reducible refine Su.x_eqB ?_ | with_reducible refine Su.x_neB ?_
  | with_reducible refine Su.x_test ?_ | with_reducible refine Su.x_tB ?_ | with_reducible refine Su.x_isB ?_ | with_reducible refine Su.x_isB' ?_ | with_reducible refine Su.x_not ?_ | with_reducible refine Su.x_and ?_ | with_reducible refine Su.x_or ?_
  | with_reducible refine Su.x_andV ?_ | with_reducible refine Su.x_orV ?_ | with_reducible refine Su.x_notV ?_ | with_reducible refine Su.x_chain ?_ | with_reducible refine Su.x_nil ?_ | with_reducible refine Su.x_cons ?_ | with_reducible refine Su.x_cb ?_ | with_reducible refine Su.x_call ?_
  | with_reducible refine Su.x_un ?_ | with_reducible refine Su.x_rU ?_ | with_reducible refine Su.x_abs ?_ | with_reducible refine Su.x_max2 ?_ | with_reducible refine Su.x_min2 ?_ | with_reducible refine Su.x_int1 ?_ | with_reducible refine Su.x_intB ?_
  | with_reducible refine Su.x_lst ?_ | with_reducible refine Su.x_tup ?_ | with_reducible refine Su.x_bmL ?_ | with_reducible refine Su.x_next ?_ | with_reducible refine Su.x_for ?_ | with_reducible refine Su.x_iList ?_ | with_reducible refine Su.x_iRng1 ?_ | with_reducible refine Su.x_iRng2 ?_ | with_reducible refine Su.x_whileN ?_ | with_reducible refine Su.x_iEnum ?_ | with_reducible refine Su.x_iZip ?_ | with_reducible refine Su.x_iZipA ?_ | with_reducible refine Su.x_iTup ?_ | with_reducible refine Su.x_gcons ?_ | with_reducible refine Su.x_gnil ?_ | with_reducible refine Su.x_gsub ?_ | with_reducible refine Su.x_yes ?_ | with_reducible refine Su.x_lc ?_ | with_reducible refine Su.x_sl ?_ | with_reducible refine Su.x_nopart ?_ | with_reducible refine Su.x_part ?_ | with_reducible refine Su.x_isI ?_ | with_reducible refine Su.x_lstRg ?_ | with_reducible refine Su.x_rg1 ?_ | with_reducible refine Su.x_augS ?_ | with_reducible refine Su.x_ipI ?_ | ((with_reducible show L2.tAug _ _ _ _ _ _); refine Su.x_aug rfl ?_) | with_reducible refine Su.x_callS ?_ | with_reducible refine Su.x_tryAs ?_)
local macro_rules | `(tactic| walk_at "xs") => `(tactic| repeat walk_at "x")
local macro_rules | `(tactic| walk_at "if") => `(tactic| first | with_reducible refine Su.x_iteD (fun c => ?_) (fun c => ?_) | with_reducible refine Su.x_iteN (fun c => ?_) (fun c => ?_) | with_reducible refine Su.x_ite (fun c => ?_) (fun c => ?_))
local macro_rules | `(tactic| walk_at "x") => `(tactic| first | with_reducible refine Su.x_fld ?_ | with_reducible refine Su.x_sfld ?_ | with_reducible refine Su.x_sfldAug ?_ | with_reducible refine Su.x_meth ?_ | with_reducible refine Su.x_methW ?_ | with_reducible refine Su.x_make ?_ | with_reducible refine Su.x_makeW ?_ | with_reducible refine Su.c_stake (by assumption) ?_ | with_reducible refine Su.c_size (by assumption) ?_ | with_reducible refine Su.c_bidding (by assumption) ?_ | with_reducible refine Su.c_now (by assumption) ?_ | with_reducible refine Su.c_line (by assumption) ?_ | with_reducible refine Su.c_due (by assumption) ?_ | with_reducible refine Su.c_chest (by assumption) ?_ | with_reducible refine Su.c_state (by assumption) ?_ | with_reducible refine Su.c_when (by assumption) ?_ | with_reducible refine Su.c_pledged (by assumption) ?_ | with_reducible refine Su.c_given (by assumption) ?_ | with_reducible refine Su.c_drawn (by assumption) ?_ | with_reducible refine Su.c_shared (by assumption) ?_ | with_reducible refine Su.c_missed (by assumption) ?_ | with_reducible refine Su.c_flows (by assumption) ?_)
local macro_rules | `(tactic| walk_at "me") => `(tactic| first | refine Su.c_meth (by assumption) rfl ?_ | refine Su.so_meth (by assumption) rfl ?_)
local macro_rules | `(tactic| walk_at "x") => `(tactic| first | with_reducible refine Su.u_stake (by assumption) ?_ | with_reducible refine Su.u_size (by assumption) ?_ | with_reducible refine Su.u_bidding (by assumption) ?_ | with_reducible refine Su.u_left (by assumption) ?_ | with_reducible refine Su.u_waits (by assumption) ?_ | with_reducible refine Su.u_drew (by assumption) ?_ | with_reducible refine Su.u_fell (by assumption) ?_ | with_reducible refine Su.u_due (by assumption) ?_ | with_reducible refine Su.u_seen (by assumption) ?_)
/-! take_next -/
def sp_Auditor_take_next (K : PySem.W.Frag) : Sp := fun vs H Q _ => ∃ (G : Hp) (a : Nat → Addr) (u : AU) (v : V) (r : RepG), vs = [.ref (a 0), v] ∧ AudIn K G H a u ∧ Dp K G v (dRepG r) ∧ AuOk u ∧ -(2 ^ 59) < u.fell ∧ u.fell < 2 ^ 59 ∧ r.fallen.length ≤ 100000 ∧
  (u.take r = none → ∀ H', Same G H' → Q (.bl false) H') ∧ (∀ u', u.take r = some u' → ∀ (a' : Nat → Addr) H', a' 0 = a 0 → AudIn K G H' a' u' → Q (.bl true) H')
theorem coins_draw {u : AU} {r : RepG} (h : u.coinsG r = true) (c : ¬ 0 < u.due) : ∃ n : Nat, n ∈ u.waits ∧ r.at_ = n := by
  unfold AU.coinsG at h
  rw [if_neg c] at h
  split at h
  · cases h
  · rename_i c1
    have : r.at_ ∈ u.waits.map fun (n : Nat) => (n : Int) := Classical.byContradiction fun z => c1 (.inr (.inl z))
    obtain ⟨n, hn, e⟩ := List.mem_map.mp this
    exact ⟨n, hn, e.symm⟩
abbrev N_Auditor_take_next : List Str := ["self", "report"]
def t_Auditor_take_next (K : PySem.W.Frag) : TS :=
 (tSeq (tIfS (tNot (tB (tMeth (He.ga K "Auditor") "people_good" (sp_Auditor_people_good K) [] E0 (tVar 0) (tCons (tVar 1) tNil))))
 (tRet (tC (.bl false)))
 tNext)
 (tSeq (tDrop (tMeth (He.ga K "Auditor") "step_people" (sp_Auditor_step_people K) [] E0 (tVar 0) (tCons (tVar 1) tNil)))
 (tSeq (tIfS (tNot (tB (tMeth (He.ga K "Auditor") "coins_good" (sp_Auditor_coins_good K) [] E0 (tVar 0) (tCons (tVar 1) tNil))))
 (tRet (tC (.bl false)))
 tNext)
 (tSeq (tDrop (tMeth (He.ga K "Auditor") "step_coins" (sp_Auditor_step_coins K) [] E0 (tVar 0) (tCons (tVar 1) tNil)))
 (tRet (tC (.bl true)))))))

theorem len_Auditor_take_next {K : PySem.W.Frag} : ∀ vs H Q E, sp_Auditor_take_next K vs H Q E → vs.length = ["a", "b"].length := by
  rintro vs H Q E ⟨_, _, _, _, _, rfl, _⟩; rfl
theorem pure_Auditor_take_next {K : PySem.W.Frag} {vs : List V} {H : Hp} {Q : VK} {E : XK} (h : sp_Auditor_take_next K vs H Q E) : t_Auditor_take_next K { nx := fun _ H' => Q .non H', rt := Q } (start N_Auditor_take_next vs) H := by
  obtain ⟨G, a, u, v, r, rfl, ai, hv, ok, fl1, fl2, fl, k1, k2⟩ := h
  unfold AU.take at k1 k2
  unfold t_Auditor_take_next
  walk_at "xs"
  refine u_meth ai rfl ?_
  walk_at "xs"
  refine ⟨G, a, u, v, r, rfl, ai, hv, ok, ?_⟩
  cases hp : u.people r with
  | false =>
    rw [hp] at k1
    walk_at "xs"
    exact k1 (if_neg (by decide)) H ai.up
  | true =>
    rw [hp, if_pos rfl] at k1 k2
    walk_at "xs"
    refine u_meth ai rfl ?_
    walk_at "xs"
    have hp2 := hp
    unfold AU.people at hp2
    simp only [Bool.and_eq_true] at hp2
    have hd := grows_mem hp2.1.2.2
    refine ⟨G, a, u, v, r, rfl, ai, hv, ok, fun x hx => by obtain ⟨n, hn, e⟩ := hd x hx; exact ⟨n, ok.d n hn, e⟩, fun a2 H2 a20 ai2 => ?_⟩
    have ok2 := ok.step1 r
    walk_at "xs"
    rw [← a20]
    refine u_meth ai2 rfl ?_
    walk_at "xs"
    refine ⟨G, a2, u.step1 r, v, r, rfl, ai2, hv, ok2, by show _ < u.fell + _; omega, by show u.fell + _ < _; omega, ?_⟩
    cases hc : (u.step1 r).coinsG r with
    | false =>
      rw [hc] at k1
      walk_at "xs"
      exact k1 (if_neg (by decide)) H2 ai2.up
    | true =>
      rw [hc, if_pos rfl] at k2
      walk_at "xs"
      refine u_meth ai2 rfl ?_
      walk_at "xs"
      refine ⟨G, a2, u.step1 r, v, r, rfl, ai2, hv, ok2, coins_draw hc, fun H3 ai3 => ?_⟩
      walk_at "xs"
      exact k2 _ rfl a2 H3 a20 ai3

end Su
namespace Su
open PySem L2
local macro_rules | `(tactic| walk_at "side") => `(tactic| first | assumption | (show (0 : Int) < _; omega) | (show (0 : Int) ≤ _; omega) | (show (0 : Int) < _; split <;> omega) | (show _ ∨ _; omega) | (show _ ∧ _; omega) | exact ⟨by decide, by decide, by decide⟩ | exact ⟨by first | assumption | omega, by first | assumption | omega⟩)
local macro_rules | `(tactic| walk_at "x") => `(tactic| first
  | with_reducible refine Su.x_seq ?_ | with_reducible refine Su.x_asg ?_ | with_reducible refine Su.x_gname ?_ | with_reducible refine Su.x_drop ?_ | with_reducible refine Su.x_ret ?_ | with_reducible refine Su.x_ifS ?_
  | ((with_reducible show L2.tVar _ _ _ _); refine Su.x_var rfl ?_) | with_reducible refine Su.x_c ?_ | with_reducible refine Su.x_op ?_ | with_reducible refine Su.x_rI0 ?_ | ((with_reducible refine Su.x_rI ?_ ?_); focus walk_at "side")
  | ((with_reducible show L2.rIxL _ (L2.V.ref _) (L2.V.int _) _ _); refine Su.x_ixI (by assumption) (by first | decide | omega) (by omega) ?_) | with_reducible refine Su.x_isi_int_int ?_ | with_reducible refine Su.x_isi_int_bool ?_ | with_reducible refine Su.x_isi_int_str ?_ | with_reducible refine Su.x_isi_int_list ?_ | with_reducible refine Su.x_isi_int_tuple ?_ | with_reducible refine Su.x_isi_bool_int ?_ | with_reducible refine Su.x_isi_bool_bool ?_ | with_reducible refine Su.x_isi_bool_str ?_ | with_reducible refine Su.x_isi_bool_list ?_ | with_reducible refine Su.x_isi_bool_tuple ?_ | with_reducible refine Su.x_isi_str_int ?_ | with_reducible refine Su.x_isi_str_bool ?_ | with_reducible refine Su.x_isi_str_str ?_ | with_reducible refine Su.x_isi_str_list ?_ | with_reducible refine Su.x_isi_str_tuple ?_ | with_reducible refine Su.x_isi_NoneType_int ?_ | with_reducible refine Su.x_isi_NoneType_bool ?_ | with_reducible refine Su.x_isi_NoneType_str ?_ | with_reducible refine Su.x_isi_NoneType_list ?_ | with_reducible refine Su.x_isi_NoneType_tuple ?_ | with_reducible refine Su.x_rGt ?_ | with_reducible refine Su.x_rGe ?_ | with_reducible refine Su.x_iteF ?_ | with_reducible refine Su.x_iteT ?_ | with_reducible refine Su.x_iteNT ?_ | with_reducible refine Su.x_iteNF ?_ | with_reducible refine Su.x_eqI ?_ | with_reducible refine Su.x_neI ?_ | with_reducible refine Su.x_eqS ?_ | with_reducible refine Su.x_neS ?_ | with_reducible refine Su.x_eqB ?_ | with_reducible refine Su.x_neB ?_
  | with_reducible refine Su.x_test ?_ | with_reducible refine Su.x_tB ?_ | with_reducible refine Su.x_isB ?_ | with_reducible refine Su.x_isB' ?_ | with_reducible refine Su.x_not ?_ | with_reducible refine Su.x_and ?_ | with_reducible refine Su.x_or ?_
  | with_reducible refine Su.x_andV ?_ | with_reducible refine Su.x_orV ?_ | with_reducible refine Su.x_notV ?_ | with_reducible refine Su.x_chain ?_ | with_reducible refine Su.x_nil ?_ | with_reducible refine Su.x_cons ?_ | with_reducible refine Su.x_cb ?_ | with_reducible refine Su.x_call ?_
  | with_reducible refine Su.x_un ?_ | with_reducible refine Su.x_rU ?_ | with_reducible refine Su.x_abs ?_ | with_reducible refine Su.x_max2 ?_ | with_reducible refine Su.x_min2 ?_ | with_reducible refine Su.x_int1 ?_ | with_reducible refine Su.x_intB ?_
  | with_reducible refine Su.x_lst ?_ | with_reducible refine Su.x_tup ?_ | with_reducible refine Su.x_bmL ?_ | with_reducible refine Su.x_next ?_ | with_reducible refine Su.x_for ?_ | with_reducible refine Su.x_iList ?_ | with_reducible refine Su.x_iRng1 ?_ | with_reducible refine Su.x_iRng2 ?_ | with_reducible refine Su.x_whileN ?_ | with_reducible refine Su.x_iEnum ?_ | with_reducible refine Su.x_iZip ?_ | with_reducible refine Su.x_iZipA ?_ | with_reducible refine Su.x_iTup ?_ | with_reducible refine Su.x_gcons ?_ | with_reducible refine Su.x_gnil ?_ | with_reducible refine Su.x_gsub ?_ | with_reducible refine Su.x_yes ?_ | with_reducible refine Su.x_lc ?_ | with_reducible refine Su.x_sl ?_ | with_reducible refine Su.x_nopart ?_ | with_reducible refine Su.x_part ?_ | with_reducible refine Su.x_isI ?_ | with_reducible refine Su.x_lstRg ?_ | with_reducible refine Su.x_rg1 ?_ | with_reducible refine Su.x_augS ?_ | with_reducible refine Su.x_ipI ?_ | ((with_reducible show L2.tAug _ _ _ _ _ _); refine Su.x_aug rfl ?_) | with_reducible refine Su.x_callS ?_ | with_reducible refine Su.x_tryAs ?_)
local macro_rules | `(tactic| walk_at "xs") => `(tactic| repeat walk_at "x")
local macro_rules | `(tactic| walk_at "if") => `(tactic| first | with_reducible refine Su.x_iteD (fun c => ?_) (fun c => ?_) | with_reducible refine Su.x_iteN (fun c => ?_) (fun c => ?_) | with_reducible refine Su.x_ite (fun c => ?_) (fun c => ?_))
local macro_rules | `(tactic| walk_at "x") => `(tactic| first | with_reducible refine Su.x_fld ?_ | with_reducible refine Su.x_sfld ?_ | with_reducible refine Su.x_sfldAug ?_ | with_reducible refine Su.x_meth ?_ | with_reducible refine Su.x_methW ?_ | with_reducible refine Su.x_make ?_ | with_reducible refine Su.x_makeW ?_ | with_reducible refine Su.c_stake (by assumption) ?_ | with_reducible refine Su.c_size (by assumption) ?_ | with_reducible refine Su.c_bidding (by assumption) ?_ | with_reducible refine Su.c_now (by assumption) ?_ | with_reducible refine Su.c_line (by assumption) ?_ | with_reducible refine Su.c_due (by assumption) ?_ | with_reducible refine Su.c_chest (by assumption) ?_ | with_reducible refine Su.c_state (by assumption) ?_ | with_reducible refine Su.c_when (by assumption) ?_ | with_reducible refine Su.c_pledged (by assumption) ?_ | with_reducible refine Su.c_given (by assumption) ?_ | with_reducible refine Su.c_drawn (by assumption) ?_ | with_reducible refine Su.c_shared (by assumption) ?_ | with_reducible refine Su.c_missed (by assumption) ?_ | with_reducible refine Su.c_flows (by assumption) ?_)
local macro_rules | `(tactic| walk_at "me") => `(tactic| first | refine Su.c_meth (by assumption) rfl ?_ | refine Su.so_meth (by assumption) rfl ?_)
/-! Auditor(..) -/
def AU.new (s : Int) (b : Bool) (pl : List Int) (qs : List Nat) : AU := ⟨s, pl.length, b, pl, qs, [], 0, 0, 0⟩
def sp_Auditor_init (K : PySem.W.Frag) : Sp := fun vs H Q _ => ∃ (x dx : Addr) (s : Int) (p q : Addr) (b : Bool) (pl : List Int) (qs : List Nat) (G : Hp), vs = [.ref x, .int s, .ref p, .ref q, .bl b] ∧ ClsT K "Auditor" audNames ∧ H x = some (.ins (He.ga K "Auditor") dx []) ∧ H dx = some (.own x) ∧ x ≠ dx ∧ G x = none ∧ G dx = none ∧ Same G H ∧ SqL K G p (pl.map V.int) ∧ SqL K G q (nI qs) ∧
  ∀ (a : Nat → Addr) (H' : Hp), a 0 = x → AudIn K G H' a (AU.new s b pl qs) → Q .non H'
abbrev N_Auditor_init : List Str := ["self", "stake", "pledges", "queue", "bidding"]
def t_Auditor_init (K : PySem.W.Frag) : TS :=
 (tSeq (sFld K (tVar 0) (tVar 1) "stake")
 (tSeq (sFld K (tVar 0) (tCB (rLenSeq K) (tCons (tVar 2) tNil)) "size")
 (tSeq (sFld K (tVar 0) (tVar 4) "bidding")
 (tSeq (sFld K (tVar 0) (tCB (rListOf K) (tCons (tVar 2) tNil)) "left")
 (tSeq (sFld K (tVar 0) (tCB (rListOf K) (tCons (tVar 3) tNil)) "waits")
 (tSeq (sFld K (tVar 0) (tLst tNil) "drew")
 (tSeq (sFld K (tVar 0) (tC (.int 0)) "many_fell")
 (tSeq (sFld K (tVar 0) (tC (.int 0)) "still_due")
 (sFld K (tVar 0) (tC (.int 0)) "seen")))))))))

theorem len_Auditor_init {K : PySem.W.Frag} : ∀ vs H Q E, sp_Auditor_init K vs H Q E → vs.length = ["a", "b", "c", "d", "e"].length := by
  rintro vs H Q E ⟨_, _, _, _, _, _, _, _, _, rfl, _⟩; rfl
theorem pure_Auditor_init {K : PySem.W.Frag} {vs : List V} {H : Hp} {Q : VK} {E : XK} (h : sp_Auditor_init K vs H Q E) : t_Auditor_init K { nx := fun _ H' => Q .non H', rt := Q } (start N_Auditor_init vs) H := by
  obtain ⟨x, dx, s, p, q, b, pl, qs, G, rfl, t, hx, hdx, nxd, gx, gdx, sG, hp, hq, k⟩ := h
  unfold t_Auditor_init
  have fld : ∀ {f : Str} {H1 : Hp} {fs : List (Str × V)} {P : Hp → Prop} {v : V}, f ∈ audNames → H1 x = some (.ins (He.ga K "Auditor") dx fs) → fs.length < 1000 → P (upd H1 x (.ins (He.ga K "Auditor") dx (putF f v fs))) → ∃ a C d fs', V.ref x = .ref a ∧ H1 a = some (.ins C d fs') ∧ Cls K C ∧ NoAttr K C f ∧ fs'.length < 1000 ∧ P (upd H1 a (.ins C d (putF f v fs'))) := fun m e l z => ⟨x, _, _, _, rfl, e, t.cl, t.no.get m, l, z⟩
  have px : ∀ {y : Addr}, G y ≠ none → y ≠ x ∧ y ≠ dx := fun {y} e => ⟨fun z => e (by rw [z]; exact gx), fun z => e (by rw [z]; exact gdx)⟩
  -- what stays beside x
  have key : ∀ {H1 : Hp} {o : HO}, Same G H1 → Same G (upd H1 x o) := fun s => same_upd s gx
  walk_at "xs"
  refine fld (by decide +kernel) hx (of_decide_eq_true (by rfl)) ?_
  walk_at "xs"
  have q1 := key (o := .ins (He.ga K "Auditor") dx (putF "stake" (.int s) [])) sG
  refine x_lenL (q1.seq hp) ?_
  rw [List.length_map]
  walk_at "xs"
  refine fld (by decide +kernel) upd_same (of_decide_eq_true (by rfl)) ?_
  rw [upd_upd]
  walk_at "xs"
  refine fld (by decide +kernel) upd_same (of_decide_eq_true (by rfl)) ?_
  rw [upd_upd]
  walk_at "xs"
  have q2 := key (o := .ins (He.ga K "Auditor") dx (putF "bidding" (.bl b) (putF "size" (.int pl.length) (putF "stake" (.int s) [])))) sG
  have hd2 : upd H x (.ins (He.ga K "Auditor") dx (putF "bidding" (.bl b) (putF "size" (.int pl.length) (putF "stake" (.int s) [])))) dx = some (.own x) := by rw [upd_ne nxd.symm]; exact hdx
  have hx2 : upd H x (.ins (He.ga K "Auditor") dx (putF "bidding" (.bl b) (putF "size" (.int pl.length) (putF "stake" (.int s) [])))) x = some (.ins (He.ga K "Auditor") dx (putF "bidding" (.bl b) (putF "size" (.int pl.length) (putF "stake" (.int s) [])))) := upd_same
  generalize upd H x (.ins (He.ga K "Auditor") dx (putF "bidding" (.bl b) (putF "size" (.int pl.length) (putF "stake" (.int s) [])))) = H2 at q2 hd2 hx2 ⊢
  refine al_list (q2.seq hp) fun a2 H3 na2 s3 ha2 => ?_
  walk_at "xs"
  have x2 : x ≠ a2 := fun z => by rw [← z, hx2] at na2; cases na2
  have d2 : dx ≠ a2 := fun z => by rw [← z, hd2] at na2; cases na2
  refine fld (by decide +kernel) (s3 _ _ hx2) (of_decide_eq_true (by rfl)) ?_
  walk_at "xs"
  have q4 := key (o := .ins (He.ga K "Auditor") dx (putF "left" (.ref a2) (putF "bidding" (.bl b) (putF "size" (.int pl.length) (putF "stake" (.int s) []))))) (q2.trans s3)
  have hx4 : upd H3 x (.ins (He.ga K "Auditor") dx (putF "left" (.ref a2) (putF "bidding" (.bl b) (putF "size" (.int pl.length) (putF "stake" (.int s) []))))) x = some _ := upd_same
  have hd4 : upd H3 x (.ins (He.ga K "Auditor") dx (putF "left" (.ref a2) (putF "bidding" (.bl b) (putF "size" (.int pl.length) (putF "stake" (.int s) []))))) dx = some (.own x) := by rw [upd_ne nxd.symm]; exact s3 _ _ hd2
  have h24 : upd H3 x (.ins (He.ga K "Auditor") dx (putF "left" (.ref a2) (putF "bidding" (.bl b) (putF "size" (.int pl.length) (putF "stake" (.int s) []))))) a2 = some (.lst (pl.map V.int)) := by rw [upd_ne x2.symm]; exact ha2
  generalize upd H3 x (.ins (He.ga K "Auditor") dx (putF "left" (.ref a2) (putF "bidding" (.bl b) (putF "size" (.int pl.length) (putF "stake" (.int s) []))))) = H4 at q4 hx4 hd4 h24 ⊢
  refine al_list (q4.seq hq) fun a3 H5 na3 s5 ha3 => ?_
  walk_at "xs"
  have x3 : x ≠ a3 := fun z => by rw [← z, hx4] at na3; cases na3
  have d3 : dx ≠ a3 := fun z => by rw [← z, hd4] at na3; cases na3
  have n23 : a2 ≠ a3 := fun z => by rw [← z, h24] at na3; cases na3
  refine fld (by decide +kernel) (s5 _ _ hx4) (of_decide_eq_true (by rfl)) ?_
  walk_at "xs"
  have q6 := key (o := .ins (He.ga K "Auditor") dx (putF "waits" (.ref a3) (putF "left" (.ref a2) (putF "bidding" (.bl b) (putF "size" (.int pl.length) (putF "stake" (.int s) [])))))) (q4.trans s5)
  have hx6 : upd H5 x (.ins (He.ga K "Auditor") dx (putF "waits" (.ref a3) (putF "left" (.ref a2) (putF "bidding" (.bl b) (putF "size" (.int pl.length) (putF "stake" (.int s) [])))))) x = some _ := upd_same
  have hd6 : upd H5 x (.ins (He.ga K "Auditor") dx (putF "waits" (.ref a3) (putF "left" (.ref a2) (putF "bidding" (.bl b) (putF "size" (.int pl.length) (putF "stake" (.int s) [])))))) dx = some (.own x) := by rw [upd_ne nxd.symm]; exact s5 _ _ hd4
  have h26 : upd H5 x (.ins (He.ga K "Auditor") dx (putF "waits" (.ref a3) (putF "left" (.ref a2) (putF "bidding" (.bl b) (putF "size" (.int pl.length) (putF "stake" (.int s) [])))))) a2 = some (.lst (pl.map V.int)) := by rw [upd_ne x2.symm]; exact s5 _ _ h24
  have h36 : upd H5 x (.ins (He.ga K "Auditor") dx (putF "waits" (.ref a3) (putF "left" (.ref a2) (putF "bidding" (.bl b) (putF "size" (.int pl.length) (putF "stake" (.int s) [])))))) a3 = some (.lst (nI qs)) := by rw [upd_ne x3.symm]; exact ha3
  generalize upd H5 x (.ins (He.ga K "Auditor") dx (putF "waits" (.ref a3) (putF "left" (.ref a2) (putF "bidding" (.bl b) (putF "size" (.int pl.length) (putF "stake" (.int s) [])))))) = H6 at q6 hx6 hd6 h26 h36 ⊢
  refine al_lst fun a4 H7 na4 s7 ha4 => ?_
  walk_at "xs"
  have x4 : x ≠ a4 := fun z => by rw [← z, hx6] at na4; cases na4
  have d4 : dx ≠ a4 := fun z => by rw [← z, hd6] at na4; cases na4
  have n24 : a2 ≠ a4 := fun z => by rw [← z, h26] at na4; cases na4
  have n34 : a3 ≠ a4 := fun z => by rw [← z, h36] at na4; cases na4
  refine fld (by decide +kernel) (s7 _ _ hx6) (of_decide_eq_true (by rfl)) ?_
  walk_at "xs"
  refine fld (by decide +kernel) upd_same (of_decide_eq_true (by rfl)) ?_
  rw [upd_upd]
  walk_at "xs"
  refine fld (by decide +kernel) upd_same (of_decide_eq_true (by rfl)) ?_
  rw [upd_upd]
  walk_at "xs"
  refine fld (by decide +kernel) upd_same (of_decide_eq_true (by rfl)) ?_
  rw [upd_upd]
  have g2 : G a2 = none := by
    cases e : G a2 with
    | none => rfl
    | some o => rw [q2 _ _ e] at na2; cases na2
  have g3 : G a3 = none := by
    cases e : G a3 with
    | none => rfl
    | some o => rw [q4 _ _ e] at na3; cases na3
  have g4 : G a4 = none := by
    cases e : G a4 with
    | none => rfl
    | some o => rw [q6 _ _ e] at na4; cases na4
  refine k (fun n => if n = 0 then x else if n = 1 then dx else if n = 2 then a2 else if n = 3 then a3 else a4) _ rfl ⟨⟨t, upd_same, ?_, ?_, ?_, ?_, x2, x3, x4, d2, d3, d4, nxd, n23, n24, n34⟩, same_hide (key (q6.trans s7)) fun y hy => ?_⟩
  · show upd H7 x _ dx = _; rw [upd_ne nxd.symm]; exact s7 _ _ hd6
  · show upd H7 x _ a2 = _; rw [upd_ne x2.symm]; exact s7 _ _ h26
  · show upd H7 x _ a3 = _; rw [upd_ne x3.symm]; exact s7 _ _ h36
  · show upd H7 x _ a4 = _; rw [upd_ne x4.symm]; exact ha4
  · simp only [audFoot, List.mem_cons, List.not_mem_nil, or_false] at hy
    rcases hy with rfl | rfl | rfl | rfl | rfl
    · exact gx
    · exact gdx
    · exact g2
    · exact g3
    · exact g4

end Su
namespace Su
open PySem L2
local macro_rules | `(tactic| walk_at "side") => `(tactic| first | assumption | (show (0 : Int) < _; omega) | (show (0 : Int) ≤ _; omega) | (show (0 : Int) < _; split <;> omega) | (show _ ∨ _; omega) | (show _ ∧ _; omega) | exact ⟨by decide, by decide, by decide⟩ | exact ⟨by first | assumption | omega, by first | assumption | omega⟩)
local macro_rules | `(tactic| walk_at "x") => `(tactic| first
  | with_reducible refine Su.x_seq ?_ | with_reducible refine Su.x_asg ?_ | with_reducible refine Su.x_gname ?_ | with_reducible refine Su.x_drop ?_ | with_reducible refine Su.x_ret ?_ | with_reducible refine Su.x_ifS ?_
  | ((with_reducible show L2.tVar _ _ _ _); refine Su.x_var rfl ?_) | with_reducible refine Su.x_c ?_ | with_reducible refine Su.x_op ?_ | with_reducible refine Su.x_rI0 ?_ | ((with_reducible refine Su.x_rI ?_ ?_); focus walk_at "side")
  | ((with_reducible show L2.rIxL _ (L2.V.ref _) (L2.V.int _) _ _); refine Su.x_ixI (by assumption) (by first | decide | omega) (by omega) ?_) | with_reducible refine Su.x_isi_int_int ?_ | with_reducible refine Su.x_isi_int_bool ?_ | with_reducible refine Su.x_isi_int_str ?_ | with_reducible refine Su.x_isi_int_list ?_ | with_reducible refine Su.x_isi_int_tuple ?_ | with_reducible refine Su.x_isi_bool_int ?_ | with_reducible refine Su.x_isi_bool_bool ?_ | with_reducible refine Su.x_isi_bool_str ?_ | with_reducible refine Su.x_isi_bool_list ?_ | with_reducible refine Su.x_isi_bool_tuple ?_ | with_reducible refine Su.x_isi_str_int ?_ | with_reducible refine Su.x_isi_str_bool ?_ | with_reducible refine Su.x_isi_str_str ?_ | with_reducible refine Su.x_isi_str_list ?_ | with_reducible refine Su.x_isi_str_tuple ?_ | with_reducible refine Su.x_isi_NoneType_int ?_ | with_reducible refine Su.x_isi_NoneType_bool ?_ | with_reducible refine Su.x_isi_NoneType_str ?_ | with_reducible refine Su.x_isi_NoneType_list ?_ | with_reducible refine Su.x_isi_NoneType_tuple ?_ | with_reducible refine Su.x_rGt ?_ | with_reducible refine Su.x_rGe ?_ | with_reducible refine Su.x_iteF ?_ | with_reducible refine Su.x_iteT ?_ | with_reducible refine Su.x_iteNT ?_ | with_reducible refine Su.x_iteNF ?_ | with_reducible refine Su.x_eqI ?_ | with_reducible refine Su.x_neI ?_ | with_reducible refine Su.x_eqS ?_ | with_reducible refine Su.x_neS ?_ | with_reducible refine Su.x_eqB ?_ | with_reducible refine Su.x_neB ?_
  | with_reducible refine Su.x_test ?_ | with_reducible refine Su.x_tB ?_ | with_reducible refine Su.x_isB ?_ | with_reducible refine Su.x_isB' ?_ | with_reducible refine Su.x_not ?_ | with_reducible refine Su.x_and ?_ | with_reducible refine Su.x_or ?_
  | with_reducible refine Su.x_andV ?_ | with_reducible refine Su.x_orV ?_ | with_reducible refine Su.x_notV ?_ | with_reducible refine Su.x_chain ?_ | with_reducible refine Su.x_nil ?_ | with_reducible refine Su.x_cons ?_ | with_reducible refine Su.x_cb ?_ | with_reducible refine Su.x_call ?_
  | with_reducible refine Su.x_un ?_ | with_reducible refine Su.x_rU ?_ | with_reducible refine Su.x_abs ?_ | with_reducible refine Su.x_max2 ?_ | with_reducible refine Su.x_min2 ?_ | with_reducible refine Su.x_int1 ?_ | with_reducible refine Su.x_intB ?_
  | with_reducible refine Su.x_lst ?_ | with_reducible refine Su.x_tup ?_ | with_reducible refine Su.x_bmL ?_ | with_reducible refine Su.x_next ?_ | with_reducible refine Su.x_for ?_ | with_reducible refine Su.x_iList ?_ | with_reducible refine Su.x_iRng1 ?_ | with_reducible refine Su.x_iRng2 ?_ | with_reducible refine Su.x_whileN ?_ | with_reducible refine Su.x_iEnum ?_ | with_reducible refine Su.x_iZip ?_ | with_reducible refine Su.x_iZipA ?_ | with_reducible refine Su.x_iTup ?_ | with_reducible refine Su.x_gcons ?_ | with_reducible refine Su.x_gnil ?_ | with_reducible refine Su.x_gsub ?_ | with_reducible refine Su.x_yes ?_ | with_reducible refine Su.x_lc ?_ | with_reducible refine Su.x_sl ?_ | with_reducible refine Su.x_nopart ?_ | with_reducible refine Su.x_part ?_ | with_reducible refine Su.x_isI ?_ | with_reducible refine Su.x_lstRg ?_ | with_reducible refine Su.x_rg1 ?_ | with_reducible refine Su.x_augS ?_ | with_reducible refine Su.x_ipI ?_ | ((with_reducible show L2.tAug _ _ _ _ _ _); refine Su.x_aug rfl ?_) | with_reducible refine Su.x_callS ?_ | with_reducible refine Su.x_tryAs ?_)
local macro_rules | `(tactic| walk_at "xs") => `(tactic| repeat walk_at "x")
local macro_rules | `(tactic| walk_at "if") => `(tactic| first | with_reducible refine Su.x_iteD (fun c => ?_) (fun c => ?_) | with_reducible refine Su.x_iteN (fun c => ?_) (fun c => ?_) | with_reducible refine Su.x_ite (fun c => ?_) (fun c => ?_))
local macro_rules | `(tactic| walk_at "x") => `(tactic| first | with_reducible refine Su.x_fld ?_ | with_reducible refine Su.x_sfld ?_ | with_reducible refine Su.x_sfldAug ?_ | with_reducible refine Su.x_meth ?_ | with_reducible refine Su.x_methW ?_ | with_reducible refine Su.x_make ?_ | with_reducible refine Su.x_makeW ?_ | with_reducible refine Su.c_stake (by assumption) ?_ | with_reducible refine Su.c_size (by assumption) ?_ | with_reducible refine Su.c_bidding (by assumption) ?_ | with_reducible refine Su.c_now (by assumption) ?_ | with_reducible refine Su.c_line (by assumption) ?_ | with_reducible refine Su.c_due (by assumption) ?_ | with_reducible refine Su.c_chest (by assumption) ?_ | with_reducible refine Su.c_state (by assumption) ?_ | with_reducible refine Su.c_when (by assumption) ?_ | with_reducible refine Su.c_pledged (by assumption) ?_ | with_reducible refine Su.c_given (by assumption) ?_ | with_reducible refine Su.c_drawn (by assumption) ?_ | with_reducible refine Su.c_shared (by assumption) ?_ | with_reducible refine Su.c_missed (by assumption) ?_ | with_reducible refine Su.c_flows (by assumption) ?_)
local macro_rules | `(tactic| walk_at "me") => `(tactic| first | refine Su.c_meth (by assumption) rfl ?_ | refine Su.so_meth (by assumption) rfl ?_)
local macro_rules | `(tactic| walk_at "x") => `(tactic| first | with_reducible refine Su.u_stake (by assumption) ?_ | with_reducible refine Su.u_size (by assumption) ?_ | with_reducible refine Su.u_bidding (by assumption) ?_ | with_reducible refine Su.u_left (by assumption) ?_ | with_reducible refine Su.u_waits (by assumption) ?_ | with_reducible refine Su.u_drew (by assumption) ?_ | with_reducible refine Su.u_fell (by assumption) ?_ | with_reducible refine Su.u_due (by assumption) ?_ | with_reducible refine Su.u_seen (by assumption) ?_)
/-! first_wrong -/
def sp_first_wrong (K : PySem.W.Frag) : Sp := fun vs H Q _ => ∃ (s : Int) (p q rr : Addr) (b : Bool) (pl : List Int) (qs : List Nat) (rs : List RepG), vs = [.int s, .ref p, .ref q, .bl b, .ref rr] ∧ ClsT K "Auditor" audNames ∧ SqL K H p (pl.map V.int) ∧ SqL K H q (nI qs) ∧ Dp K H (.ref rr) (.list (rs.map dRepG)) ∧
  1 ≤ s ∧ s ≤ 1000000 ∧ pl.length ≤ 100 ∧ (∀ x ∈ qs, x < pl.length) ∧ qs.length ≤ 100 ∧ rs.length ≤ 800 ∧ (∀ r ∈ rs, r.fallen.length ≤ 100000) ∧
  ∀ H', Same H H' → Q (.int (firstG (AU.new s b pl qs) 0 rs)) H'
theorem firstG_none {u : AU} {n : Nat} {r : RepG} {l : List RepG} (h : u.take r = none) : firstG u n (r :: l) = n := by
  show (match u.take r with | some v => firstG v (n + 1) l | none => (n : Int)) = (n : Int)
  rw [h]
theorem firstG_some {u v : AU} {n : Nat} {r : RepG} {l : List RepG} (h : u.take r = some v) : firstG u n (r :: l) = firstG v (n + 1) l := by
  show (match u.take r with | some v => firstG v (n + 1) l | none => (n : Int)) = _
  rw [h]
/-- what the walk keeps -/
structure AuW (i : Nat) (u : AU) : Prop where
  ok : AuOk u
  f0 : 0 ≤ u.fell
  f1 : u.fell ≤ 100000 * i
  wl : u.waits.length ≤ 100
  dl : u.drew.length ≤ i
theorem AuW.take {i : Nat} {u v : AU} {r : RepG} (h : AuW i u) (hi : i < 800) (hl : r.fallen.length ≤ 100000) (e : u.take r = some v) : AuW (i + 1) v := by
  unfold AU.take at e
  split at e
  · split at e
    · rename_i c1 c2
      cases e
      have ok2 := h.ok.step1 r
      have f0 := h.f0
      have f1 := h.f1
      have dl := h.dl
      have wl2 : (u.step1 r).waits.length ≤ 100 := Nat.le_trans (List.length_filter_le _ _) h.wl
      unfold AU.step2
      split
      · exact ⟨⟨ok2.n, ok2.s0, ok2.s1, ok2.l, ok2.w, ok2.d, ok2.wl, ok2.dl⟩, by show 0 ≤ u.fell + _; omega, by show u.fell + _ ≤ _; omega, wl2, by show u.drew.length ≤ _; omega⟩
      · rename_i c3
        obtain ⟨n, hn, e⟩ := coins_draw c2 c3
        have nn := ok2.w n hn
        have el : ((u.step1 r).waits.erase r.at_.toNat).length ≤ (u.step1 r).waits.length := List.length_erase_le
        refine ⟨⟨ok2.n, ok2.s0, ok2.s1, ok2.l, fun x hx => ok2.w x (List.mem_of_mem_erase hx), fun x hx => ?_, Nat.le_trans el (by omega), ?_⟩, by show 0 ≤ u.fell + _; omega, by show u.fell + _ ≤ _; omega, Nat.le_trans el (by omega), ?_⟩
        · rcases List.mem_append.mp hx with hx | hx
          · exact ok2.d x hx
          · cases List.mem_singleton.mp hx
            show r.at_.toNat < u.size
            have : n < u.size := nn
            omega
        · show (u.drew ++ [_]).length ≤ 1000
          rw [List.length_append]; simp only [List.length_singleton]; omega
        · show (u.drew ++ [_]).length ≤ _
          rw [List.length_append]; simp only [List.length_singleton]; omega
    · cases e
  · cases e
abbrev N_first_wrong : List Str := ["stake", "pledges", "queue", "bidding", "reports", "auditor", "number", "report"]
def t_first_wrong (K : PySem.W.Frag) : TS :=
 (tSeq (tAsg (tMake (He.ga K "Auditor") (sp_Auditor_init K) [] E0 (tCons (tVar 0) (tCons (tVar 1) (tCons (tVar 2) (tCons (tVar 3) tNil))))) (gName 5))
 (tSeq (tFor (iEnum K (tCons (tVar 4) tNil)) (gTup K 2 (gCons (gName 6) (gCons (gName 7) gNil)))
 (tIfS (tNot (tB (tMeth (He.ga K "Auditor") "take_next" (sp_Auditor_take_next K) [] E0 (tVar 5) (tCons (tVar 7) tNil))))
 (tRet (tVar 6))
 tNext))
 (tRet (tUn rNeg (tC (.int 1))))))

theorem len_first_wrong {K : PySem.W.Frag} : ∀ vs H Q E, sp_first_wrong K vs H Q E → vs.length = ["a", "b", "c", "d", "e"].length := by
  rintro vs H Q E ⟨_, _, _, _, _, _, _, _, rfl, _⟩; rfl
theorem pure_first_wrong {K : PySem.W.Frag} {vs : List V} {H : Hp} {Q : VK} {E : XK} (h : sp_first_wrong K vs H Q E) : t_first_wrong K { nx := fun _ H' => Q .non H', rt := Q } (start N_first_wrong vs) H := by
  obtain ⟨s, p, q, rr, b, pl, qs, rs, rfl, t, hp, hq, hr, s0, s1, pn, qn, ql, rl, rf, k⟩ := h
  obtain ⟨_, xs, e0, hx, hxs⟩ := dp_lst hr
  cases e0
  have xl := dpAll_len hxs
  rw [List.length_map] at xl
  unfold t_first_wrong
  walk_at "xs"
  intro x dx nx ndx ne
  have sH : Same H (upd (upd H dx (.own x)) x (.ins (He.ga K "Auditor") dx [])) := same_upd (same_upd (Same.refl H) ndx) nx
  refine ⟨x, dx, s, p, q, b, pl, qs, H, rfl, t, upd_same, by rw [upd_ne ne, upd_same], fun z => ne z.symm, nx, ndx, sH, hp, hq, fun a H2 a0 ai => ⟨rfl, ?_⟩⟩
  subst a0
  walk_at "xs"
  have w0 : AuW 0 (AU.new s b pl qs) := ⟨⟨pn, s0, s1, rfl, qn, (fun _ h => nomatch h), by show qs.length ≤ 1000; omega, by show 0 ≤ 1000; decide⟩, Int.le_refl _, by show (0 : Int) ≤ _; omega, ql, Nat.le_refl _⟩
  refine ⟨rr, xs, rfl, ai.up.seq hx, for_by (turnsE (K := K) (a := rr) (xs := xs)) (fun i σ H' => ∃ (u6 u7 : Option V) (a' : Nat → Addr) (u : AU), σ = [some (.int s), some (.ref p), some (.ref q), some (.bl b), some (.ref rr), some (.ref (a' 0)), u6, u7] ∧ AudIn K H H' a' u ∧ AuW i u ∧ firstG (AU.new s b pl qs) 0 rs = firstG u i (rs.drop i))
    ⟨none, none, a, _, rfl, ai, w0, rfl⟩ (by rintro _ _ _ _ ⟨_, _, _, _, _, e, _⟩; exact e.up.seq hx) ?_ ?_⟩
  · rintro i y σ H3 H4 hi ⟨u6, u7, a', u, rfl, ai3, w, e⟩ ⟨v, hv, T, rfl, nT, s4, hT, _⟩
    obtain ⟨d, e1, e2⟩ := dpAll_get hxs hv
    rw [List.getElem?_map] at e1
    have hi' : i < rs.length := by omega
    rw [List.getElem?_eq_getElem hi'] at e1
    cases e1
    rw [List.drop_eq_getElem_cons hi'] at e
    have rfi := rf _ (List.getElem_mem hi')
    generalize rs[i] = r at e2 e rfi
    have ai4 := ai3.same s4
    have f0 := w.f0
    have f1 := w.f1
    refine x_gtup (SqT.of hT) rfl ?_
    walk_at "xs"
    refine u_meth ai4 rfl ?_
    walk_at "xs"
    refine ⟨H, a', u, v, r, rfl, ai4, e2, w.ok, by omega, by omega, rfi, fun hn H5 s5 => ?_, fun u' hu a2 H5 a20 ai5 => ?_⟩
    · rw [firstG_none hn] at e
      walk_at "xs"
      have := k H5 s5
      rw [e] at this
      exact this
    · rw [firstG_some hu] at e
      walk_at "xs"
      rw [← a20]
      exact ⟨_, _, a2, u', rfl, ai5, w.take (by omega) rfi hu, e⟩
  · rintro σ H3 ⟨u6, u7, a', u, rfl, ai3, w, e⟩
    walk_at "xs"
    have := k H3 ai3.up
    rw [e, xl, List.drop_length] at this
    exact this

end Su
namespace Su
open PySem L2
local macro_rules | `(tactic| walk_at "side") => `(tactic| first | assumption | (show (0 : Int) < _; omega) | (show (0 : Int) ≤ _; omega) | (show (0 : Int) < _; split <;> omega) | (show _ ∨ _; omega) | (show _ ∧ _; omega) | exact ⟨by decide, by decide, by decide⟩ | exact ⟨by first | assumption | omega, by first | assumption | omega⟩)
local macro_rules | `(tactic| walk_at "x") => `(tactic| first
  | with_reducible refine Su.x_seq ?_ | with_reducible refine Su.x_asg ?_ | with_reducible refine Su.x_gname ?_ | with_reducible refine Su.x_drop ?_ | with_reducible refine Su.x_ret ?_ | with_reducible refine Su.x_ifS ?_
  | ((with_reducible show L2.tVar _ _ _ _); refine Su.x_var rfl ?_) | with_reducible refine Su.x_c ?_ | with_reducible refine Su.x_op ?_ | with_reducible refine Su.x_rI0 ?_ | ((with_reducible refine Su.x_rI ?_ ?_); focus walk_at "side")
  | ((with_reducible show L2.rIxL _ (L2.V.ref _) (L2.V.int _) _ _); refine Su.x_ixI (by assumption) (by first | decide | omega) (by omega) ?_) | with_reducible refine Su.x_isi_int_int ?_ | with_reducible refine Su.x_isi_int_bool ?_ | with_reducible refine Su.x_isi_int_str ?_ | with_reducible refine Su.x_isi_int_list ?_ | with_reducible refine Su.x_isi_int_tuple ?_ | with_reducible refine Su.x_isi_bool_int ?_ | with_reducible refine Su.x_isi_bool_bool ?_ | with_reducible refine Su.x_isi_bool_str ?_ | with_reducible refine Su.x_isi_bool_list ?_ | with_reducible refine Su.x_isi_bool_tuple ?_ | with_reducible refine Su.x_isi_str_int ?_ | with_reducible refine Su.x_isi_str_bool ?_ | with_reducible refine Su.x_isi_str_str ?_ | with_reducible refine Su.x_isi_str_list ?_ | with_reducible refine Su.x_isi_str_tuple ?_ | with_reducible refine Su.x_isi_NoneType_int ?_ | with_reducible refine Su.x_isi_NoneType_bool ?_ | with_reducible refine Su.x_isi_NoneType_str ?_ | with_reducible refine Su.x_isi_NoneType_list ?_ | with_reducible refine Su.x_isi_NoneType_tuple ?_ | with_reducible refine Su.x_rGt ?_ | with_reducible refine Su.x_rGe ?_ | with_reducible refine Su.x_iteF ?_ | with_reducible refine Su.x_iteT ?_ | with_reducible refine Su.x_iteNT ?_ | with_reducible refine Su.x_iteNF ?_ | with_reducible refine Su.x_eqI ?_ | with_reducible refine Su.x_neI ?_ | with_reducible refine Su.x_eqS ?_ | with_reducible refine Su.x_neS ?_ | with_reducible refine Su.x_eqB ?_ | with_reducible refine Su.x_neB ?_
  | with_reducible refine Su.x_test ?_ | with_reducible refine Su.x_tB ?_ | with_reducible refine Su.x_isB ?_ | with_reducible refine Su.x_isB' ?_ | with_reducible refine Su.x_not ?_ | with_reducible refine Su.x_and ?_ | with_reducible refine Su.x_or ?_
  | with_reducible refine Su.x_andV ?_ | with_reducible refine Su.x_orV ?_ | with_reducible refine Su.x_notV ?_ | with_reducible refine Su.x_chain ?_ | with_reducible refine Su.x_nil ?_ | with_reducible refine Su.x_cons ?_ | with_reducible refine Su.x_cb ?_ | with_reducible refine Su.x_call ?_
  | with_reducible refine Su.x_un ?_ | with_reducible refine Su.x_rU ?_ | with_reducible refine Su.x_abs ?_ | with_reducible refine Su.x_max2 ?_ | with_reducible refine Su.x_min2 ?_ | with_reducible refine Su.x_int1 ?_ | with_reducible refine Su.x_intB ?_
  | with_reducible refine Su.x_lst ?_ | with_reducible refine Su.x_tup ?_ | with_reducible refine Su.x_bmL ?_ | with_reducible refine Su.x_next ?_ | with_reducible refine Su.x_for ?_ | with_reducible refine Su.x_iList ?_ | with_reducible refine Su.x_iRng1 ?_ | with_reducible refine Su.x_iRng2 ?_ | with_reducible refine Su.x_whileN ?_ | with_reducible refine Su.x_iEnum ?_ | with_reducible refine Su.x_iZip ?_ | with_reducible refine Su.x_iZipA ?_ | with_reducible refine Su.x_iTup ?_ | with_reducible refine Su.x_gcons ?_ | with_reducible refine Su.x_gnil ?_ | with_reducible refine Su.x_gsub ?_ | with_reducible refine Su.x_yes ?_ | with_reducible refine Su.x_lc ?_ | with_reducible refine Su.x_sl ?_ | with_reducible refine Su.x_nopart ?_ | with_reducible refine Su.x_part ?_ | with_reducible refine Su.x_isI ?_ | with_reducible refine Su.x_lstRg ?_ | with_reducible refine Su.x_rg1 ?_ | with_reducible refine Su.x_augS ?_ | with_reducible refine Su.x_ipI ?_ | ((with_reducible show L2.tAug _ _ _ _ _ _); refine Su.x_aug rfl ?_) | with_reducible refine Su.x_callS ?_ | with_reducible refine Su.x_tryAs ?_)
local macro_rules | `(tactic| walk_at "xs") => `(tactic| repeat walk_at "x")
local macro_rules | `(tactic| walk_at "if") => `(tactic| first | with_reducible refine Su.x_iteD (fun c => ?_) (fun c => ?_) | with_reducible refine Su.x_iteN (fun c => ?_) (fun c => ?_) | with_reducible refine Su.x_ite (fun c => ?_) (fun c => ?_))
/-! a law's own book of rounds, and the auditor that it stands for -/
structure BK where
  s : Int
  n : Nat
  b : Bool
  seen : Nat
  waits : List Nat
  due : Nat
  left : List Int
  drew : List Nat
def BK.au (k : BK) : AU := ⟨k.s, k.n, k.b, k.left, k.waits, k.drew, (k.n : Int) - k.waits.length - k.drew.length, k.due, k.seen⟩
def stillB (k : BK) (r : RepG) : List Nat := k.waits.filter fun (x : Nat) => !decide ((x : Int) ∈ r.fallen)
def unfB (k : BK) (r : RepG) : Nat := (stillB k r).length + k.drew.length
def BK.can (k : BK) (r : RepG) : Bool :=
  if r.turn ≠ k.seen + 1 ∨ (k.n : Int) ≤ k.seen then false
  else if growsB k.waits (-1) r.fallen = false ∨ growsB k.drew (-1) r.helped = false then false
  else if (r.helped.all fun x => decide (k.s ≤ k.left.getD x.toNat 0)) = false then false
  else if 0 < (k.due : Int) + r.fallen.length then decide (r.word = "box") && (decide (r.at_ = -1) && (decide (r.coins = k.s * (unfB k r : Nat)) && decide (r.share = 0)))
  else if ¬ r.word = "draw" ∨ r.at_ ∉ (stillB k r).map (fun (n : Nat) => (n : Int)) ∨ k.left.getD r.at_.toNat 0 < k.s * (k.n - r.turn) then false
  else if (k.b = false ∧ r.at_ ≠ (((stillB k r).getD 0 0 : Nat) : Int)) ∨ r.share < 0 ∨ r.coins < 0 then false
  else if 0 < r.share ∧ (k.b = false ∨ unfB k r = 1) then false
  else decide (r.coins + r.share * ((unfB k r : Nat) - 1) = k.s * k.n)
def BK.after (k : BK) (r : RepG) : BK := { k with seen := k.seen + 1, waits := k.waits.filter (fun (x : Nat) => !decide ((x : Int) ∈ r.fallen) && !decide ((x : Int) = r.at_)), due := k.due + r.fallen.length - 1, left := payLeft k.s k.left r.helped, drew := if 0 < (k.due : Int) + r.fallen.length then k.drew else k.drew ++ [r.at_.toNat] }
structure BKok (k : BK) : Prop where
  n1 : 1 ≤ k.n
  n : k.n ≤ 20
  s0 : 1 ≤ k.s
  s1 : k.s ≤ 1000000
  l : k.left.length = k.n
  w : ∀ x ∈ k.waits, x < k.n
  d : ∀ x ∈ k.drew, x < k.n
  nd : k.waits.Nodup
  dd : k.drew.Nodup
  dj : ∀ x ∈ k.waits, x ∉ k.drew
theorem payLeft_out (s : Int) : ∀ (hs l : List Int) (i : Nat), (∀ x ∈ hs, x.toNat ≠ i) → (payLeft s l hs).getD i 0 = l.getD i 0
  | [], _, _, _ => rfl
  | x :: hs, l, i, h => by
    show (payLeft s (l.set x.toNat (l.getD x.toNat 0 - s)) hs).getD i 0 = _
    rw [payLeft_out s hs _ i fun y hy => h y (List.mem_cons_of_mem _ hy), List.getD_eq_getElem?_getD, List.getElem?_set_ne (h x List.mem_cons_self), List.getD_eq_getElem?_getD]
theorem nodup_len {n : Nat} {l : List Nat} (nd : l.Nodup) (h : ∀ x ∈ l, x < n) : l.length ≤ n := by
  have := nodup_sub (m := List.range n) nd fun x hx => List.mem_range.mpr (h x hx)
  rwa [List.length_range] at this
theorem BKok.wl {k : BK} (h : BKok k) : k.waits.length ≤ k.n := nodup_len h.nd h.w
theorem BKok.dl {k : BK} (h : BKok k) : k.drew.length ≤ k.n := nodup_len h.dd h.d
theorem BKok.still {k : BK} (h : BKok k) (r : RepG) : (stillB k r).length ≤ k.n := Nat.le_trans (List.length_filter_le _ _) h.wl
theorem BKok.after {k : BK} {r : RepG} (h : BKok k) (ha : ¬ 0 < (k.due : Int) + r.fallen.length → ∃ n, n ∈ stillB k r ∧ r.at_ = (n : Nat)) : BKok (k.after r) := by
  have sub : ∀ x ∈ (k.after r).waits, x ∈ k.waits ∧ (x : Int) ≠ r.at_ := fun x hx => by
    have := List.mem_filter.mp hx
    refine ⟨this.1, fun e => ?_⟩
    have h2 := this.2
    rw [decide_eq_true e] at h2
    simp at h2
  have dr : (k.after r).drew = if 0 < (k.due : Int) + r.fallen.length then k.drew else k.drew ++ [r.at_.toNat] := rfl
  refine ⟨h.n1, h.n, h.s0, h.s1, (payLeft_len _ _ _).trans h.l, fun x hx => h.w x (sub x hx).1, fun x hx => ?_, h.nd.filter _, ?_, fun x hx hd => ?_⟩
  · rw [dr] at hx
    split at hx
    · exact h.d x hx
    · rename_i c
      obtain ⟨m, hm, e⟩ := ha c
      rcases List.mem_append.mp hx with hx | hx
      · exact h.d x hx
      · rw [List.mem_singleton] at hx
        have := h.w m (List.mem_filter.mp hm).1
        show x < k.n
        omega
  · rw [dr]
    split
    · exact h.dd
    · rename_i c
      obtain ⟨m, hm, e⟩ := ha c
      rw [List.nodup_append]
      refine ⟨h.dd, by simp, fun x hx y hy e2 => ?_⟩
      rw [List.mem_singleton] at hy
      have : x = m := by omega
      subst this
      exact h.dj x (List.mem_filter.mp hm).1 hx
  · rw [dr] at hd
    have sx := sub x hx
    split at hd
    · exact h.dj x sx.1 hd
    · rename_i c
      obtain ⟨m, hm, e⟩ := ha c
      rcases List.mem_append.mp hd with hd | hd
      · exact h.dj x sx.1 hd
      · rw [List.mem_singleton] at hd
        exact sx.2 (by omega)
theorem filter_pm (l : List Nat) (p : Nat → Bool) : (l.filter p).length + (l.filter fun x => !p x).length = l.length := by
  induction l with
  | nil => rfl
  | cons x l ih =>
    rw [List.filter_cons, List.filter_cons, List.length_cons]
    cases p x <;> simp <;> omega
/-- growing lists hold nothing twice, and only what is allowed -/
theorem grows_nat {al : List Nat} : ∀ {row : List Int} {a : Int}, growsB al a row = true → ∃ l : List Nat, row = l.map (fun (n : Nat) => (n : Int)) ∧ l.Pairwise (· < ·) ∧ ∀ x ∈ l, x ∈ al ∧ a < (x : Int)
  | [], _, _ => ⟨[], rfl, .nil, fun _ h => nomatch h⟩
  | y :: l, a, h => by
    rw [growsB_cons] at h
    simp only [Bool.and_eq_true, Bool.not_eq_true', Bool.or_eq_false_iff, Bool.not_eq_false', decide_eq_true_eq, decide_eq_false_iff_not] at h
    obtain ⟨n, hn, e⟩ := List.mem_map.mp h.1.2
    obtain ⟨l', rfl, pw, hm⟩ := grows_nat h.2
    subst e
    refine ⟨n :: l', rfl, List.pairwise_cons.mpr ⟨fun x hx => ?_, pw⟩, fun x hx => ?_⟩
    · have := (hm x hx).2; omega
    · rcases List.mem_cons.mp hx with rfl | hx
      · exact ⟨hn, by omega⟩
      · have := hm x hx
        exact ⟨this.1, by omega⟩
theorem still_len {k : BK} {r : RepG} (nd : k.waits.Nodup) {F : List Nat} (e : r.fallen = F.map fun (n : Nat) => (n : Int)) (fd : F.Nodup) (fs : ∀ x ∈ F, x ∈ k.waits) : (stillB k r).length + r.fallen.length = k.waits.length := by
  have h := filter_pm k.waits fun (x : Nat) => decide ((x : Int) ∈ r.fallen)
  have mem : ∀ x : Nat, (x : Int) ∈ r.fallen ↔ x ∈ F := fun x => by
    rw [e, List.mem_map]
    exact ⟨fun ⟨y, hy, e2⟩ => (show y = x by omega) ▸ hy, fun z => ⟨x, z, rfl⟩⟩
  have a := nodup_sub (nd.filter fun (x : Nat) => decide ((x : Int) ∈ r.fallen)) (m := F) fun x hx => (mem x).mp (of_decide_eq_true (List.mem_filter.mp hx).2)
  have b := nodup_sub fd (m := k.waits.filter fun (x : Nat) => decide ((x : Int) ∈ r.fallen)) fun x hx => List.mem_filter.mpr ⟨fs x hx, decide_eq_true ((mem x).mpr hx)⟩
  have : r.fallen.length = F.length := by rw [e, List.length_map]
  unfold stillB
  omega
theorem filter_filter_eq {k : BK} {r : RepG} : (k.after r).waits = (stillB k r).filter fun (x : Nat) => !decide ((x : Int) = r.at_) := by
  show k.waits.filter _ = _
  unfold stillB
  rw [List.filter_filter]
  exact List.filter_congr fun x _ => Bool.and_comm _ _
/-- what the book lets by is what the auditor finds good -/
theorem can_eq {k : BK} {r : RepG} (h : BKok k) : k.can r = (k.au.people r && (k.au.step1 r).coinsG r) := by
  unfold BK.can
  by_cases c1 : r.turn ≠ k.seen + 1 ∨ (k.n : Int) ≤ k.seen
  · rw [if_pos c1]
    have : k.au.people r = false := by
      unfold AU.people
      show ((!(!decide (r.turn = (k.seen : Int) + 1) || decide ((k.n : Int) < r.turn)) && _) && _) = false
      rcases c1 with c1 | c1
      · rw [decide_eq_false c1]; rfl
      · by_cases c : r.turn = (k.seen : Int) + 1
        · rw [decide_eq_true (show (k.n : Int) < r.turn by omega), Bool.or_true]; rfl
        · rw [decide_eq_false c]; rfl
    rw [this]; rfl
  rw [if_neg c1]
  have t1 : r.turn = (k.seen : Int) + 1 := by omega
  have t2 : ¬ (k.n : Int) < r.turn := by omega
  have pe : k.au.people r = ((growsB k.waits (-1) r.fallen && growsB k.drew (-1) r.helped) && r.helped.all fun x => decide (k.s ≤ k.left.getD x.toNat 0)) := by
    unfold AU.people
    show ((!(!decide (r.turn = (k.seen : Int) + 1) || decide ((k.n : Int) < r.turn)) && (growsB k.waits (-1) r.fallen && growsB k.drew (-1) r.helped)) && r.helped.all fun x => decide (k.s ≤ k.left.getD x.toNat 0)) = _
    rw [decide_eq_true t1, decide_eq_false t2]; rfl
  rw [pe]
  cases g1 : growsB k.waits (-1) r.fallen with
  | false => rw [if_pos (.inl rfl)]; rfl
  | true =>
  cases g2 : growsB k.drew (-1) r.helped with
  | false => rw [if_pos (.inr rfl)]; rfl
  | true =>
  rw [if_neg (by simp)]
  cases g3 : r.helped.all fun x => decide (k.s ≤ k.left.getD x.toNat 0) with
  | false => rw [if_pos rfl]; rfl
  | true =>
  rw [if_neg (by simp)]
  show _ = (k.au.step1 r).coinsG r
  obtain ⟨F, eF, pF, mF⟩ := grows_nat g1
  obtain ⟨G, eG, pG, mG⟩ := grows_nat g2
  have sl := still_len h.nd eF (pF.imp fun h => Nat.ne_of_lt h) fun x hx => (mF x hx).1
  have un : ((k.au.step1 r).size : Int) - (k.au.step1 r).fell = (unfB k r : Nat) := by
    show (k.n : Int) - ((k.n : Int) - k.waits.length - k.drew.length + r.fallen.length) = _
    unfold unfB; omega
  have du : (k.au.step1 r).due = (k.due : Int) + r.fallen.length := rfl
  have w1 : (k.au.step1 r).waits = stillB k r := rfl
  have l1 : (k.au.step1 r).left = payLeft k.s k.left r.helped := rfl
  have ub : (k.au.step1 r).bid = k.b := rfl
  have ust : (k.au.step1 r).stake = k.s := rfl
  have usz : (k.au.step1 r).size = k.n := rfl
  have le : ∀ x ∈ stillB k r, (payLeft k.s k.left r.helped).getD x 0 = k.left.getD x 0 := fun x hx => payLeft_out _ _ _ _ fun y hy e => by
    rw [eG] at hy
    obtain ⟨z, hz, rfl⟩ := List.mem_map.mp hy
    rw [Int.toNat_natCast] at e
    exact h.dj x (List.mem_filter.mp hx).1 (e ▸ (mG z hz).1)
  unfold AU.coinsG
  rw [un, du, w1, l1, ub, ust, usz]
  by_cases c2 : 0 < (k.due : Int) + r.fallen.length
  · rw [if_pos c2, if_pos c2]
  rw [if_neg c2, if_neg c2]
  by_cases c4 : ¬ r.word = "draw" ∨ r.at_ ∉ (stillB k r).map (fun (n : Nat) => (n : Int))
  · rw [if_pos (c4.elim .inl fun z => .inr (.inl z)), if_pos (c4.elim .inl fun z => .inr (.inl z))]
  have m : r.at_ ∈ (stillB k r).map (fun (n : Nat) => (n : Int)) := Decidable.byContradiction fun z => c4 (.inr z)
  obtain ⟨x, hx, ex⟩ := List.mem_map.mp m
  have tx : r.at_.toNat = x := by omega
  rw [tx, le x hx]
  by_cases c3 : ¬ r.word = "draw" ∨ r.at_ ∉ (stillB k r).map (fun (n : Nat) => (n : Int)) ∨ k.left.getD x 0 < k.s * (k.n - r.turn)
  · rw [if_pos c3, if_pos c3]
  rw [if_neg c3, if_neg c3]
  have e1 : (((unfB k r : Nat) : Int) = 1) ↔ unfB k r = 1 := by omega
  generalize hU : unfB k r = U at e1 un
  have sh : r.coins = k.s * (k.n : Int) - r.share * ((U : Int) - 1) ↔ r.coins + r.share * ((U : Int) - 1) = k.s * k.n := by omega
  by_cases d1 : (k.b = false ∧ r.at_ ≠ (((stillB k r).getD 0 0 : Nat) : Int)) ∨ r.share < 0 ∨ r.coins < 0
  · rw [if_pos d1]
    symm
    split
    · rfl
    · split
      · rfl
      · rename_i d3 d4
        rcases d1 with d1 | d1 | d1
        · exact absurd d1 d4
        · rw [decide_eq_false (show ¬ 0 ≤ r.share by omega)]; rfl
        · rw [decide_eq_false (show ¬ 0 ≤ r.coins by omega), Bool.false_and, Bool.and_false]
  rw [if_neg d1]
  by_cases d2 : 0 < r.share ∧ (k.b = false ∨ U = 1)
  · rw [if_pos d2, if_pos ⟨d2.2.imp id e1.mpr, by omega⟩]
  rw [if_neg d2]
  have s0 : 0 ≤ r.share := by omega
  have c0 : 0 ≤ r.coins := by omega
  rw [if_neg (fun z => d2 ⟨by omega, z.1.imp id e1.mp⟩), if_neg (fun z => d1 (.inl z)), decide_eq_true s0, decide_eq_true c0]
  by_cases d3 : r.coins + r.share * ((U : Int) - 1) = k.s * k.n
  · rw [decide_eq_true d3, decide_eq_true (sh.mpr d3)]; rfl
  · rw [decide_eq_false d3, decide_eq_false (fun z => d3 (sh.mp z))]; rfl
theorem can_at {k : BK} {r : RepG} (h : k.can r = true) : growsB k.waits (-1) r.fallen = true ∧ growsB k.drew (-1) r.helped = true ∧ (0 < (k.due : Int) + r.fallen.length → r.at_ = -1) ∧ (¬ 0 < (k.due : Int) + r.fallen.length → ∃ n, n ∈ stillB k r ∧ r.at_ = (n : Nat)) := by
  unfold BK.can at h
  split at h
  · cases h
  split at h
  · cases h
  rename_i g
  have g1 : growsB k.waits (-1) r.fallen = true := by
    cases e : growsB k.waits (-1) r.fallen with
    | true => rfl
    | false => exact absurd (.inl e) g
  have g2 : growsB k.drew (-1) r.helped = true := by
    cases e : growsB k.drew (-1) r.helped with
    | true => rfl
    | false => exact absurd (.inr e) g
  split at h
  · cases h
  split at h
  · rename_i c
    simp only [Bool.and_eq_true, decide_eq_true_eq] at h
    exact ⟨g1, g2, fun _ => h.2.1, fun z => absurd c z⟩
  · rename_i c
    split at h
    · cases h
    · rename_i c3
      refine ⟨g1, g2, fun z => absurd z c, fun _ => ?_⟩
      have m : r.at_ ∈ (stillB k r).map (fun (n : Nat) => (n : Int)) := Decidable.byContradiction fun z => c3 (.inr (.inl z))
      obtain ⟨x, hx, ex⟩ := List.mem_map.mp m
      exact ⟨x, hx, ex.symm⟩
theorem can_step {k : BK} {r : RepG} (h : BKok k) (c : k.can r = true) : (k.au.step1 r).step2 r = (k.after r).au := by
  obtain ⟨g1, g2, a1, a2⟩ := can_at c
  obtain ⟨F, eF, pF, mF⟩ := grows_nat g1
  have sl := still_len h.nd eF (pF.imp fun h => Nat.ne_of_lt h) fun x hx => (mF x hx).1
  have du : (k.au.step1 r).due = (k.due : Int) + r.fallen.length := rfl
  have au2 : ∀ {d : Nat} {wa dr : List Nat}, (k.after r).due = d → (k.after r).waits = wa → (k.after r).drew = dr → (k.n : Int) - ((k.n : Int) - k.waits.length - k.drew.length + r.fallen.length) = (wa.length : Nat) + (dr.length : Nat) → (⟨k.s, k.n, k.b, payLeft k.s k.left r.helped, wa, dr, (k.n : Int) - k.waits.length - k.drew.length + r.fallen.length, d, (k.seen : Int) + 1⟩ : AU) = (k.after r).au := fun {d wa dr} e1 e2 e3 e4 => by
    unfold BK.au
    rw [e1, e2, e3, show (k.n : Int) - k.waits.length - k.drew.length + r.fallen.length = ((k.after r).n : Int) - wa.length - dr.length by show _ = (k.n : Int) - _ - _; omega]
    rfl
  unfold AU.step2
  rw [du]
  by_cases c2 : 0 < (k.due : Int) + r.fallen.length
  · rw [if_pos c2]
    have at1 := a1 c2
    have wa : (k.after r).waits = stillB k r := by
      rw [filter_filter_eq, List.filter_eq_self]
      intro x _
      rw [decide_eq_false (by omega)]; rfl
    have dr : (k.after r).drew = k.drew := if_pos c2
    have := au2 (d := k.due + r.fallen.length - 1) rfl wa dr (by omega)
    rw [← this, show ((k.due + r.fallen.length - 1 : Nat) : Int) = (k.due : Int) + r.fallen.length - 1 by omega]
    rfl
  · rw [if_neg c2]
    obtain ⟨x, hx, ex⟩ := a2 c2
    have tx : r.at_.toNat = x := by omega
    have wa : (k.after r).waits = (stillB k r).erase r.at_.toNat := by
      rw [filter_filter_eq, (show (stillB k r).Nodup from h.nd.filter _).erase_eq_filter]
      apply List.filter_congr
      intro y _
      rw [tx]
      by_cases c : y = x
      · subst c; rw [decide_eq_true ex.symm]; simp
      · rw [decide_eq_false (by omega)]; simp [c]
    have dr : (k.after r).drew = k.drew ++ [r.at_.toNat] := if_neg c2
    have el : ((stillB k r).erase r.at_.toNat).length + 1 = (stillB k r).length := by
      rw [tx, List.length_erase_of_mem hx]
      have := List.length_pos_of_mem hx
      omega
    have := au2 (d := 0) (show k.due + r.fallen.length - 1 = 0 by omega) wa dr (by rw [List.length_append, List.length_singleton]; omega)
    rw [← this, show ((0 : Nat) : Int) = (k.due : Int) + r.fallen.length by omega]
    rfl
/-- what the book lets by is what the auditor takes -/
theorem can_take {k : BK} {r : RepG} (h : BKok k) : k.au.take r = if k.can r = true then some (k.after r).au else none := by
  cases c : k.can r with
  | false =>
    have e := can_eq (r := r) h
    rw [c] at e
    unfold AU.take
    split
    · rename_i p
      rw [p, Bool.true_and] at e
      rw [← e]; rfl
    · rfl
  | true =>
    have e := can_eq (r := r) h
    rw [c] at e
    have e := e.symm
    rw [Bool.and_eq_true] at e
    unfold AU.take
    rw [if_pos e.1, if_pos e.2, can_step h c]; rfl
def firstB : BK → Nat → List RepG → Int
  | _, _, [] => -1
  | k, n, r :: l => if k.can r = true then firstB (k.after r) (n + 1) l else n
theorem first_eq : ∀ (l : List RepG) {k : BK} (n : Nat), BKok k → firstB k n l = firstG k.au n l
  | [], _, _, _ => rfl
  | r :: l, k, n, h => by
    show (if k.can r = true then firstB (k.after r) (n + 1) l else (n : Int)) = (match k.au.take r with | some v => firstG v (n + 1) l | none => (n : Int))
    rw [can_take h]
    by_cases c : k.can r = true
    · rw [if_pos c, if_pos c]
      exact first_eq l (n + 1) (h.after (can_at c).2.2.2)
    · rw [if_neg c, if_neg c]

end Su
namespace Su
open PySem L2
local macro_rules | `(tactic| walk_at "side") => `(tactic| first | assumption | (show (0 : Int) < _; omega) | (show (0 : Int) ≤ _; omega) | (show (0 : Int) < _; split <;> omega) | (show _ ∨ _; omega) | (show _ ∧ _; omega) | exact ⟨by decide, by decide, by decide⟩ | exact ⟨by first | assumption | omega, by first | assumption | omega⟩)
local macro_rules | `(tactic| walk_at "xs") => `(tactic| repeat walk_at "x")
local macro_rules | `(tactic| walk_at "if") => `(tactic| first | with_reducible refine Su.x_iteD (fun c => ?_) (fun c => ?_) | with_reducible refine Su.x_iteN (fun c => ?_) (fun c => ?_) | with_reducible refine Su.x_ite (fun c => ?_) (fun c => ?_))

/-! what is new in a heap -/
def nw (H H' : Hp) : Hp := fun a => if H a = none then H' a else none
section
variable {K : PySem.W.Frag} {H H1 H' : Hp} {p R : Addr} {o : HO}
theorem nw_at (n : H p = none) (h : H' p = some o) : nw H H' p = some o := by unfold nw; rw [if_pos n]; exact h
theorem nw_same : Same (nw H H') H' := fun a o e => by
  unfold nw at e
  split at e
  · exact e
  · cases e
theorem nw_del (h : H R = some o) : Same (nw H H') (del H' R) := fun a u e => by
  have e1 := nw_same a u e
  refine del_at e1 fun z => ?_
  unfold nw at e
  rw [if_neg (by rw [z, h]; exact fun y => nomatch y)] at e
  cases e
theorem none_up (s : Same H H1) (n : H1 p = none) : H p = none := by
  cases c : H p with
  | none => rfl
  | some u => rw [s _ _ c] at n; cases n
end

end Su
namespace Su
open PySem L2
local macro_rules | `(tactic| walk_at "side") => `(tactic| first | assumption | (show (0 : Int) < _; omega) | (show (0 : Int) ≤ _; omega) | (show (0 : Int) < _; split <;> omega) | (show _ ∨ _; omega) | (show _ ∧ _; omega) | exact ⟨by decide, by decide, by decide⟩ | exact ⟨by first | assumption | omega, by first | assumption | omega⟩)
local macro_rules | `(tactic| walk_at "x") => `(tactic| first
  | with_reducible refine Su.x_seq ?_ | with_reducible refine Su.x_asg ?_ | with_reducible refine Su.x_gname ?_ | with_reducible refine Su.x_drop ?_ | with_reducible refine Su.x_ret ?_ | with_reducible refine Su.x_ifS ?_
  | ((with_reducible show L2.tVar _ _ _ _); refine Su.x_var rfl ?_) | with_reducible refine Su.x_c ?_ | with_reducible refine Su.x_op ?_ | with_reducible refine Su.x_rI0 ?_ | ((with_reducible refine Su.x_rI ?_ ?_); focus walk_at "side")
  | ((with_reducible show L2.rIxL _ (L2.V.ref _) (L2.V.int _) _ _); refine Su.x_ixI (by assumption) (by first | decide | omega) (by omega) ?_) | with_reducible refine Su.x_isi_int_int ?_ | with_reducible refine Su.x_isi_int_bool ?_ | with_reducible refine Su.x_isi_int_str ?_ | with_reducible refine Su.x_isi_int_list ?_ | with_reducible refine Su.x_isi_int_tuple ?_ | with_reducible refine Su.x_isi_bool_int ?_ | with_reducible refine Su.x_isi_bool_bool ?_ | with_reducible refine Su.x_isi_bool_str ?_ | with_reducible refine Su.x_isi_bool_list ?_ | with_reducible refine Su.x_isi_bool_tuple ?_ | with_reducible refine Su.x_isi_str_int ?_ | with_reducible refine Su.x_isi_str_bool ?_ | with_reducible refine Su.x_isi_str_str ?_ | with_reducible refine Su.x_isi_str_list ?_ | with_reducible refine Su.x_isi_str_tuple ?_ | with_reducible refine Su.x_isi_NoneType_int ?_ | with_reducible refine Su.x_isi_NoneType_bool ?_ | with_reducible refine Su.x_isi_NoneType_str ?_ | with_reducible refine Su.x_isi_NoneType_list ?_ | with_reducible refine Su.x_isi_NoneType_tuple ?_ | with_reducible refine Su.x_rGt ?_ | with_reducible refine Su.x_rGe ?_ | with_reducible refine Su.x_iteF ?_ | with_reducible refine Su.x_iteT ?_ | with_reducible refine Su.x_iteNT ?_ | with_reducible refine Su.x_iteNF ?_ | with_reducible refine Su.x_eqI ?_ | with_reducible refine Su.x_neI ?_ | with_reducible refine Su.x_eqS ?_ | with_reducible refine Su.x_neS ?_ | with_reducible refine Su.x_eqB ?_ | with_reducible refine Su.x_neB ?_
  | with_reducible refine Su.x_test ?_ | with_reducible refine Su.x_tB ?_ | with_reducible refine Su.x_isB ?_ | with_reducible refine Su.x_isB' ?_ | with_reducible refine Su.x_not ?_ | with_reducible refine Su.x_and ?_ | with_reducible refine Su.x_or ?_
  | with_reducible refine Su.x_andV ?_ | with_reducible refine Su.x_orV ?_ | with_reducible refine Su.x_notV ?_ | with_reducible refine Su.x_chain ?_ | with_reducible refine Su.x_nil ?_ | with_reducible refine Su.x_cons ?_ | with_reducible refine Su.x_cb ?_ | with_reducible refine Su.x_call ?_
  | with_reducible refine Su.x_un ?_ | with_reducible refine Su.x_rU ?_ | with_reducible refine Su.x_abs ?_ | with_reducible refine Su.x_max2 ?_ | with_reducible refine Su.x_min2 ?_ | with_reducible refine Su.x_int1 ?_ | with_reducible refine Su.x_intB ?_
  | with_reducible refine Su.x_lst ?_ | with_reducible refine Su.x_tup ?_ | with_reducible refine Su.x_bmL ?_ | with_reducible refine Su.x_next ?_ | with_reducible refine Su.x_for ?_ | with_reducible refine Su.x_iList ?_ | with_reducible refine Su.x_iRng1 ?_ | with_reducible refine Su.x_iRng2 ?_ | with_reducible refine Su.x_whileN ?_ | with_reducible refine Su.x_iEnum ?_ | with_reducible refine Su.x_iZip ?_ | with_reducible refine Su.x_iZipA ?_ | with_reducible refine Su.x_iTup ?_ | with_reducible refine Su.x_gcons ?_ | with_reducible refine Su.x_gnil ?_ | with_reducible refine Su.x_gsub ?_ | with_reducible refine Su.x_yes ?_ | with_reducible refine Su.x_lc ?_ | with_reducible refine Su.x_sl ?_ | with_reducible refine Su.x_nopart ?_ | with_reducible refine Su.x_part ?_ | with_reducible refine Su.x_isI ?_ | with_reducible refine Su.x_lstRg ?_ | with_reducible refine Su.x_rg1 ?_ | with_reducible refine Su.x_augS ?_ | with_reducible refine Su.x_ipI ?_ | ((with_reducible show L2.tAug _ _ _ _ _ _); refine Su.x_aug rfl ?_) | with_reducible refine Su.x_callS ?_ | with_reducible refine Su.x_tryAs ?_)
local macro_rules | `(tactic| walk_at "xs") => `(tactic| repeat walk_at "x")
local macro_rules | `(tactic| walk_at "if") => `(tactic| first | with_reducible refine Su.x_iteD (fun c => ?_) (fun c => ?_) | with_reducible refine Su.x_iteN (fun c => ?_) (fun c => ?_) | with_reducible refine Su.x_ite (fun c => ?_) (fun c => ?_))
/-! a book in the heap; what is new in a heap -/
structure BookAt (H : Hp) (t w l d : Addr) (k : BK) : Prop where
  t : H t = some (.tup [.int k.s, .int k.n, .bl k.b, .int k.seen, .ref w, .int k.due, .ref l, .ref d])
  w : H w = some (.lst (nI k.waits))
  l : H l = some (.lst (k.left.map V.int))
  d : H d = some (.lst (nI k.drew))
theorem BookAt.same {H H' : Hp} {t w l d : Addr} {k : BK} (h : BookAt H t w l d k) (s : Same H H') : BookAt H' t w l d k := ⟨s _ _ h.t, s _ _ h.w, s _ _ h.l, s _ _ h.d⟩
theorem RowAt.nw {H H' : Hp} {p f g : Addr} {r : RepG} (h : RowAt H' p f g r) (n0 : H p = none) (n1 : H f = none) (n2 : H g = none) : RowAt (Su.nw H H') p f g r := ⟨nw_at n0 h.t, nw_at n1 h.f, nw_at n2 h.g⟩
theorem BookAt.nw {H H' : Hp} {t w l d : Addr} {k : BK} (h : BookAt H' t w l d k) (n0 : H t = none) (n1 : H w = none) (n2 : H l = none) (n3 : H d = none) : BookAt (Su.nw H H') t w l d k := ⟨nw_at n0 h.t, nw_at n1 h.w, nw_at n2 h.l, nw_at n3 h.d⟩
/-- the filtered part of a list, as a comprehension makes it -/
theorem fm_filter {p : Int → Bool} : ∀ l : List Int, ((List.range l.length).filterMap fun i => if p (l.getD i 0) = true then some (V.int (l.getD i 0)) else none) = (l.filter p).map V.int
  | [] => rfl
  | x :: l => by
    rw [List.length_cons, List.range_succ_eq_map, List.filterMap_cons, List.filterMap_map]
    have e1 : (List.range l.length).filterMap ((fun i => if p ((x :: l).getD i 0) = true then some (V.int ((x :: l).getD i 0)) else none) ∘ Nat.succ) = (l.filter p).map V.int := by rw [← fm_filter l]; rfl
    rw [e1, show (x :: l).getD 0 0 = x from rfl, List.filter_cons]
    cases p x <;> rfl
theorem nI_int (l : List Nat) : nI l = (l.map fun (n : Nat) => (n : Int)).map V.int := by unfold nI; rw [List.map_map]; rfl
theorem filter_nat {p : Int → Bool} (l : List Nat) : (l.map fun (n : Nat) => (n : Int)).filter p = (l.filter fun (n : Nat) => p (n : Int)).map fun (n : Nat) => (n : Int) := by rw [List.filter_map]; rfl
theorem fm_nat {p : Int → Bool} (l : List Nat) : ((List.range (nI l).length).filterMap fun i => if p (((l.map fun (n : Nat) => (n : Int)).getD i 0)) = true then some (V.int ((l.map fun (n : Nat) => (n : Int)).getD i 0)) else none) = nI (l.filter fun (n : Nat) => p (n : Int)) := by
  have h := fm_filter (p := p) (l.map fun (n : Nat) => (n : Int))
  rw [filter_nat, ← nI_int] at h
  rw [← h]
  unfold nI
  rw [List.length_map, List.length_map]
theorem get_nat {l : List Nat} {i : Nat} {v : V} (h : (nI l)[i]? = some v) : ∃ n : Nat, n ∈ l ∧ v = .int n ∧ (l.map fun (n : Nat) => (n : Int)).getD i 0 = n ∧ i < l.length := by
  unfold nI at h
  rw [List.getElem?_map] at h
  cases e : l[i]? with
  | none => rw [e] at h; cases h
  | some n =>
    rw [e] at h
    cases h
    refine ⟨n, List.mem_of_getElem? e, rfl, ?_, (List.getElem?_eq_some_iff.mp e).1⟩
    rw [List.getD_eq_getElem?_getD, List.getElem?_map, e]; rfl

end Su
namespace Su
open PySem L2
local macro_rules | `(tactic| walk_at "side") => `(tactic| first | assumption | (show (0 : Int) < _; omega) | (show (0 : Int) ≤ _; omega) | (show (0 : Int) < _; split <;> omega) | (show _ ∨ _; omega) | (show _ ∧ _; omega) | exact ⟨by decide, by decide, by decide⟩ | exact ⟨by first | assumption | omega, by first | assumption | omega⟩)
local macro_rules | `(tactic| walk_at "x") => `(tactic| first
  | with_reducible refine Su.x_seq ?_ | with_reducible refine Su.x_asg ?_ | with_reducible refine Su.x_gname ?_ | with_reducible refine Su.x_drop ?_ | with_reducible refine Su.x_ret ?_ | with_reducible refine Su.x_ifS ?_
  | ((with_reducible show L2.tVar _ _ _ _); refine Su.x_var rfl ?_) | with_reducible refine Su.x_c ?_ | with_reducible refine Su.x_op ?_ | with_reducible refine Su.x_rI0 ?_ | ((with_reducible refine Su.x_rI ?_ ?_); focus walk_at "side")
  | ((with_reducible show L2.rIxL _ (L2.V.ref _) (L2.V.int _) _ _); refine Su.x_ixI (by assumption) (by first | decide | omega) (by omega) ?_) | with_reducible refine Su.x_isi_int_int ?_ | with_reducible refine Su.x_isi_int_bool ?_ | with_reducible refine Su.x_isi_int_str ?_ | with_reducible refine Su.x_isi_int_list ?_ | with_reducible refine Su.x_isi_int_tuple ?_ | with_reducible refine Su.x_isi_bool_int ?_ | with_reducible refine Su.x_isi_bool_bool ?_ | with_reducible refine Su.x_isi_bool_str ?_ | with_reducible refine Su.x_isi_bool_list ?_ | with_reducible refine Su.x_isi_bool_tuple ?_ | with_reducible refine Su.x_isi_str_int ?_ | with_reducible refine Su.x_isi_str_bool ?_ | with_reducible refine Su.x_isi_str_str ?_ | with_reducible refine Su.x_isi_str_list ?_ | with_reducible refine Su.x_isi_str_tuple ?_ | with_reducible refine Su.x_isi_NoneType_int ?_ | with_reducible refine Su.x_isi_NoneType_bool ?_ | with_reducible refine Su.x_isi_NoneType_str ?_ | with_reducible refine Su.x_isi_NoneType_list ?_ | with_reducible refine Su.x_isi_NoneType_tuple ?_ | with_reducible refine Su.x_rGt ?_ | with_reducible refine Su.x_rGe ?_ | with_reducible refine Su.x_iteF ?_ | with_reducible refine Su.x_iteT ?_ | with_reducible refine Su.x_iteNT ?_ | with_reducible refine Su.x_iteNF ?_ | with_reducible refine Su.x_eqI ?_ | with_reducible refine Su.x_neI ?_ | with_reducible refine Su.x_eqS ?_ | with_reducible refine Su.x_neS ?_ | with_reducible refine Su.x_eqB ?_ | with_reducible refine Su.x_neB ?_
  | with_reducible refine Su.x_test ?_ | with_reducible refine Su.x_tB ?_ | with_reducible refine Su.x_isB ?_ | with_reducible refine Su.x_isB' ?_ | with_reducible refine Su.x_not ?_ | with_reducible refine Su.x_and ?_ | with_reducible refine Su.x_or ?_
  | with_reducible refine Su.x_andV ?_ | with_reducible refine Su.x_orV ?_ | with_reducible refine Su.x_notV ?_ | with_reducible refine Su.x_chain ?_ | with_reducible refine Su.x_nil ?_ | with_reducible refine Su.x_cons ?_ | with_reducible refine Su.x_cb ?_ | with_reducible refine Su.x_call ?_
  | with_reducible refine Su.x_un ?_ | with_reducible refine Su.x_rU ?_ | with_reducible refine Su.x_abs ?_ | with_reducible refine Su.x_max2 ?_ | with_reducible refine Su.x_min2 ?_ | with_reducible refine Su.x_int1 ?_ | with_reducible refine Su.x_intB ?_
  | with_reducible refine Su.x_lst ?_ | with_reducible refine Su.x_tup ?_ | with_reducible refine Su.x_bmL ?_ | with_reducible refine Su.x_next ?_ | with_reducible refine Su.x_for ?_ | with_reducible refine Su.x_iList ?_ | with_reducible refine Su.x_iRng1 ?_ | with_reducible refine Su.x_iRng2 ?_ | with_reducible refine Su.x_whileN ?_ | with_reducible refine Su.x_iEnum ?_ | with_reducible refine Su.x_iZip ?_ | with_reducible refine Su.x_iZipA ?_ | with_reducible refine Su.x_iTup ?_ | with_reducible refine Su.x_gcons ?_ | with_reducible refine Su.x_gnil ?_ | with_reducible refine Su.x_gsub ?_ | with_reducible refine Su.x_yes ?_ | with_reducible refine Su.x_lc ?_ | with_reducible refine Su.x_sl ?_ | with_reducible refine Su.x_nopart ?_ | with_reducible refine Su.x_part ?_ | with_reducible refine Su.x_isI ?_ | with_reducible refine Su.x_lstRg ?_ | with_reducible refine Su.x_rg1 ?_ | with_reducible refine Su.x_augS ?_ | with_reducible refine Su.x_ipI ?_ | ((with_reducible show L2.tAug _ _ _ _ _ _); refine Su.x_aug rfl ?_) | with_reducible refine Su.x_callS ?_ | with_reducible refine Su.x_tryAs ?_)
local macro_rules | `(tactic| walk_at "xs") => `(tactic| repeat walk_at "x")
local macro_rules | `(tactic| walk_at "if") => `(tactic| first | with_reducible refine Su.x_iteD (fun c => ?_) (fun c => ?_) | with_reducible refine Su.x_iteN (fun c => ?_) (fun c => ?_) | with_reducible refine Su.x_ite (fun c => ?_) (fun c => ?_))
local macro_rules | `(tactic| walk_at "x") => `(tactic| first | with_reducible refine Su.x_m1 ?_ | with_reducible refine Su.x_strE ?_ | with_reducible refine Su.x_m0 ?_ | with_reducible refine Su.x_dnew ?_ | with_reducible refine Su.x_dput ?_ | with_reducible refine Su.x_dgetE ?_ | with_reducible refine Su.x_dget2 ?_ | with_reducible refine Su.x_daug ?_ | with_reducible refine Su.x_din ?_ | with_reducible refine Su.x_dnin ?_ | with_reducible refine Su.x_brk ?_ | with_reducible refine Su.x_retN ?_)
/-! _law_after -/
def sp_law_after (K : PySem.W.Frag) : Sp := fun vs H Q _ => ∃ (t w l d : Addr) (k : BK) (v : V) (r : RepG), vs = [.ref t, v] ∧ BookAt H t w l d k ∧ Dp K H v (dRepG r) ∧ BKok k ∧ (∀ x ∈ r.helped, ∃ n : Nat, n < k.n ∧ x = n) ∧ (¬ 0 < (k.due : Int) + r.fallen.length → 0 ≤ r.at_) ∧
  ∀ (t' w' l' d' : Addr) (H' : Hp), Same H H' → BookAt (nw H H') t' w' l' d' (k.after r) → Q (.ref t') H'
theorem payLeft_snoc' (s : Int) (hs : List Int) (x : Int) (l : List Int) : payLeft s l (hs ++ [x]) = (payLeft s l hs).set x.toNat ((payLeft s l hs).getD x.toNat 0 - s) := payLeft_snoc s hs x l
theorem lnI (m : List Nat) : (nI m).length = m.length := by unfold nI; rw [List.length_map]
abbrev N_law_after : List Str := ["_law_book", "_law_report", "_law_left", "_law_at", "_law_waits", "_law_drew", "_law_due"]
def t_law_after (K : PySem.W.Frag) : TS :=
 (tSeq (tAsg (tCB (rListOf K) (tCons (tOp (rIxT K) (tVar 0) (tC (.int 6))) tNil)) (gName 2))
 (tSeq (tFor (iList K (tOp (rIxT K) (tVar 1) (tC (.int 6)))) (gName 3)
 (tAugS (tVar 2) (tVar 3) (tOp (rIxT K) (tVar 0) (tC (.int 0))) (rIxL K) (ipI fun i j => i - j) rSetL))
 (tSeq (tAsg (tLc (iList K (tOp (rIxT K) (tVar 0) (tC (.int 4)))) (gName 3) (tAnd (tTest (tOp (rIn K true) (tVar 3) (tOp (rIxT K) (tVar 1) (tC (.int 5))))) (tTest (tOp rNe (tVar 3) (tOp (rIxT K) (tVar 1) (tC (.int 2)))))) (tVar 3) [3]) (gName 4))
 (tSeq (tAsg (tCB (rListOf K) (tCons (tOp (rIxT K) (tVar 0) (tC (.int 7))) tNil)) (gName 5))
 (tSeq (tAsg (tOp rAdd (tOp (rIxT K) (tVar 0) (tC (.int 5))) (tCB (rLenSeq K) (tCons (tOp (rIxT K) (tVar 1) (tC (.int 5))) tNil))) (gName 6))
 (C8.tCut (tIfS (tTest (tOp rGt (tVar 6) (tC (.int 0))))
 (tAsg (tOp rSub (tVar 6) (tC (.int 1))) (gName 6))
 (tDrop (tBM K "list" rAppend (tVar 5) (tCons (tOp (rIxT K) (tVar 1) (tC (.int 2))) tNil))))
 (tRet (tTup (tCons (tOp (rIxT K) (tVar 0) (tC (.int 0))) (tCons (tOp (rIxT K) (tVar 0) (tC (.int 1))) (tCons (tOp (rIxT K) (tVar 0) (tC (.int 2))) (tCons (tOp rAdd (tOp (rIxT K) (tVar 0) (tC (.int 3))) (tC (.int 1))) (tCons (tVar 4) (tCons (tVar 6) (tCons (tVar 2) (tCons (tVar 5) tNil))))))))))))))))

theorem len_law_after {K : PySem.W.Frag} : ∀ vs H Q E, sp_law_after K vs H Q E → vs.length = ["a", "b"].length := by
  rintro vs H Q E ⟨_, _, _, _, _, _, _, rfl, _⟩; rfl
theorem pure_law_after {K : PySem.W.Frag} {vs : List V} {H : Hp} {Q : VK} {E : XK} (h : sp_law_after K vs H Q E) : t_law_after K { nx := fun _ H' => Q .non H', rt := Q } (start N_law_after vs) H := by
  obtain ⟨tb, w, l, d, k, v, r, rfl, B, hv, ok, hh, ha, q⟩ := h
  obtain ⟨t, f, g, rfl, ht, hf, hg⟩ := dp_repG hv
  have hw : SqL K H w (nI k.waits) := SqL.of B.w
  have ol := ok.l
  have on := ok.n
  have wl := ok.wl
  have dl := ok.dl
  have ntf : ∀ {p : Addr} {X : Hp} {o : HO}, H p = some o → X p = none → Same H X → False := fun h1 h2 s => by rw [s _ _ h1] at h2; cases h2
  unfold t_law_after
  walk_at "xs"
  refine x_ixT (SqT.of B.t) (v := .ref l) (by rfl) ?_
  walk_at "xs"
  refine al_list (SqL.of B.l) fun L H1 nL q1 hL => ?_
  walk_at "xs"
  have ht1 := seqT_same q1 ht
  have hg1 := q1.seq hg
  have B1 := B.same q1
  have off : ∀ {H2 : Hp}, (∀ b o, H1 b = some o → b ≠ L → H2 b = some o) → Same H H2 := fun o a u e => o a u (q1 _ _ e) fun z => by rw [z, nL] at e; cases e
  refine x_ixT ht1 (v := .ref g) (by rfl) ?_
  refine ⟨g, rfl, ⟨_, hg1⟩, for_by turnsL (fun i σ H' => ∃ (u3 : Option V), σ = [some (.ref tb), some (.ref t), some (.ref L), u3, none, none, none] ∧ Same H H' ∧ H' L = some (.lst ((payLeft k.s k.left (r.helped.take i)).map V.int)))
    ⟨none, rfl, q1, hL⟩ (by rintro _ _ _ _ ⟨_, _, s, _⟩; exact s.seq hg) ?_ ?_⟩
  · rintro i y σ H2 _ hi ⟨u3, rfl, s2, h2⟩ ⟨rfl, hy⟩
    have hi' : i < r.helped.length := by rw [List.length_map] at hi; exact hi
    rw [List.getElem?_map, List.getElem?_eq_getElem hi'] at hy
    cases hy
    obtain ⟨n, nn, e⟩ := hh _ (List.getElem_mem hi')
    have tk : r.helped.take (i + 1) = r.helped.take i ++ [r.helped[i]] := by rw [List.take_append_getElem]
    generalize r.helped[i] = x at e tk
    subst e
    have pl := payLeft_len k.s (r.helped.take i) k.left
    walk_at "xs"
    refine x_ixT (SqT.of (s2 _ _ B.t)) (v := .int k.s) (by rfl) ?_
    walk_at "xs"
    refine x_setL h2 (by omega) (by rw [List.length_map]; omega) ?_
    rw [show ((payLeft k.s k.left (r.helped.take i)).map V.int).set ((n : Nat) : Int).toNat (.int ((payLeft k.s k.left (r.helped.take i)).getD ((n : Nat) : Int).toNat 0 - k.s)) = ((payLeft k.s k.left (r.helped.take (i + 1))).map V.int) by
      rw [tk, payLeft_snoc', List.map_set]]
    refine ⟨_, rfl, same_upd s2 nL, upd_same⟩
  rintro σ H2 ⟨u3, rfl, q2, hL2⟩
  rw [List.length_map, List.take_length] at hL2
  have hw2 := q2.seq hw
  have ht2 := seqT_same q2 ht
  have hf2 := q2.seq hf
  walk_at "xs"
  refine x_ixT (SqT.of (q2 _ _ B.t)) (v := .ref w) (by rfl) ?_
  refine ⟨w, rfl, ⟨_, hw2⟩, fun A nA => ?_⟩
  refine lc_flat (fun i => if (!decide (((k.waits.map fun (n : Nat) => (n : Int)).getD i 0) ∈ r.fallen) && !decide (((k.waits.map fun (n : Nat) => (n : Int)).getD i 0) = r.at_)) = true then some (V.int ((k.waits.map fun (n : Nat) => (n : Int)).getD i 0)) else none) (turnsL (K := K) (a := w) (xs := nI k.waits)) (fun H' s => s.seq hw2) nA ?_ ?_
  · rintro i y Hc _ hi lc ⟨rfl, hy⟩
    obtain ⟨n, _, rfl, e, hi2⟩ := get_nat hy
    have htc := seqT_same lc.s ht2
    walk_at "xs"
    refine x_wipe rfl ?_
    walk_at "xs"
    refine x_ixT htc (v := .ref f) (by rfl) ?_
    refine x_notInI (lc.s.seq hf2) ?_
    walk_at "xs"
    cases hb : decide (((n : Nat) : Int) ∈ r.fallen) with
    | true =>
      walk_at "xs"
      exact lc.skip (Same.refl _) (by rw [e, hb]; rfl)
    | false =>
      walk_at "xs"
      refine x_ixT htc (v := .int r.at_) (by rfl) ?_
      walk_at "xs"
      walk_at "if"
      · rename_i c
        walk_at "xs"
        exact lc.keep nA (Same.refl _) (by rw [e, hb, decide_eq_false c]; rfl) (by omega)
      · rename_i c
        walk_at "xs"
        exact lc.skip (Same.refl _) (by rw [e, hb, decide_eq_true c]; rfl)
  intro H3 q3 hA
  rw [fm_nat (p := fun x => !decide (x ∈ r.fallen) && !decide (x = r.at_))] at hA
  have hA : H3 A = some (.lst (nI (k.after r).waits)) := hA
  have q23 := q2.trans q3
  have nA0 := none_up q2 nA
  have hL3 := q3 _ _ hL2
  walk_at "xs"
  refine x_ixT (SqT.of (q23 _ _ B.t)) (v := .ref d) (by rfl) ?_
  walk_at "xs"
  refine al_list (SqL.of (q23 _ _ B.d)) fun D H4 nD q4 hD => ?_
  have q24 := q23.trans q4
  have nD0 := none_up q23 nD
  have hL4 := q4 _ _ hL3
  have hA4 := q4 _ _ hA
  have ht4 := seqT_same q24 ht
  have hf4 := q24.seq hf
  walk_at "xs"
  refine x_ixT (SqT.of (q24 _ _ B.t)) (v := .int k.due) (by rfl) ?_
  walk_at "xs"
  refine x_ixT ht4 (v := .ref f) (by rfl) ?_
  walk_at "xs"
  refine x_lenL hf4 ?_
  rw [List.length_map]
  walk_at "xs"
  refine x_cut (fun σ H' => ∃ (u3 : Option V), σ = [some (.ref tb), some (.ref t), some (.ref L), u3, some (.ref A), some (.ref D), some (.int (k.after r).due)] ∧ Same H H' ∧ H' L = some (.lst ((payLeft k.s k.left r.helped).map V.int)) ∧ H' A = some (.lst (nI (k.after r).waits)) ∧ H' D = some (.lst (nI (k.after r).drew))) ?_ ?_
  · have due : (k.after r).due = k.due + r.fallen.length - 1 := rfl
    have dr : (k.after r).drew = if 0 < (k.due : Int) + r.fallen.length then k.drew else k.drew ++ [r.at_.toNat] := rfl
    walk_at "xs"
    walk_at "if"
    · rename_i c
      walk_at "xs"
      rw [if_pos c] at dr
      refine ⟨_, by rw [due, show ((k.due + r.fallen.length - 1 : Nat) : Int) = (k.due : Int) + r.fallen.length - 1 by omega]; rfl, q24, hL4, hA4, by rw [dr]; exact hD⟩
    · rename_i c
      rw [if_neg c] at dr
      walk_at "xs"
      refine ⟨tyL (SqL.of hD), ?_⟩
      walk_at "xs"
      refine x_ixT ht4 (v := .int r.at_) (by rfl) ?_
      walk_at "xs"
      refine x_append hD (small (by rw [lnI]; omega)) ?_
      walk_at "xs"
      have at0 := ha c
      refine ⟨_, by rw [due, show ((k.due + r.fallen.length - 1 : Nat) : Int) = (k.due : Int) + r.fallen.length by omega]; rfl, same_upd q24 nD0, ?_, ?_, ?_⟩
      · rw [upd_ne (fun z => by rw [z, nD] at hL3; cases hL3)]; exact hL4
      · rw [upd_ne (fun z => by rw [z, nD] at hA; cases hA)]; exact hA4
      · rw [upd_same, dr]
        unfold nI
        rw [List.map_append]
        show _ = some (HO.lst (_ ++ [V.int ((r.at_.toNat : Nat) : Int)]))
        rw [Int.toNat_of_nonneg at0]
  rintro σ H5 ⟨u3, rfl, q5, hL5, hA5, hD5⟩
  have b0 := SqT.of (K := K) (q5 _ _ B.t)
  walk_at "xs"
  refine x_ixT b0 (v := .int k.s) (by rfl) ?_
  walk_at "xs"
  refine x_ixT b0 (v := .int k.n) (by rfl) ?_
  walk_at "xs"
  refine x_ixT b0 (v := .bl k.b) (by rfl) ?_
  walk_at "xs"
  refine x_ixT b0 (v := .int k.seen) (by rfl) ?_
  walk_at "xs"
  refine al_tup fun T H6 nT q6 hT => ?_
  refine q T A L D H6 (q5.trans q6) (BookAt.nw ⟨?_, q6 _ _ hA5, q6 _ _ hL5, q6 _ _ hD5⟩ (none_up q5 nT) nA0 nL nD0)
  rw [hT]; rfl

end Su
namespace Su
open PySem L2
local macro_rules | `(tactic| walk_at "side") => `(tactic| first | assumption | (show (0 : Int) < _; omega) | (show (0 : Int) ≤ _; omega) | (show (0 : Int) < _; split <;> omega) | (show _ ∨ _; omega) | (show _ ∧ _; omega) | exact ⟨by decide, by decide, by decide⟩ | exact ⟨by first | assumption | omega, by first | assumption | omega⟩)
local macro_rules | `(tactic| walk_at "x") => `(tactic| first
  | with_reducible refine Su.x_seq ?_ | with_reducible refine Su.x_asg ?_ | with_reducible refine Su.x_gname ?_ | with_reducible refine Su.x_drop ?_ | with_reducible refine Su.x_ret ?_ | with_reducible refine Su.x_ifS ?_
  | ((with_reducible show L2.tVar _ _ _ _); refine Su.x_var rfl ?_) | with_reducible refine Su.x_c ?_ | with_reducible refine Su.x_op ?_ | with_reducible refine Su.x_rI0 ?_ | ((with_reducible refine Su.x_rI ?_ ?_); focus walk_at "side")
  | ((with_reducible show L2.rIxL _ (L2.V.ref _) (L2.V.int _) _ _); refine Su.x_ixI (by assumption) (by first | decide | omega) (by omega) ?_) | with_reducible refine Su.x_isi_int_int ?_ | with_reducible refine Su.x_isi_int_bool ?_ | with_reducible refine Su.x_isi_int_str ?_ | with_reducible refine Su.x_isi_int_list ?_ | with_reducible refine Su.x_isi_int_tuple ?_ | with_reducible refine Su.x_isi_bool_int ?_ | with_reducible refine Su.x_isi_bool_bool ?_ | with_reducible refine Su.x_isi_bool_str ?_ | with_reducible refine Su.x_isi_bool_list ?_ | with_reducible refine Su.x_isi_bool_tuple ?_ | with_reducible refine Su.x_isi_str_int ?_ | with_reducible refine Su.x_isi_str_bool ?_ | with_reducible refine Su.x_isi_str_str ?_ | with_reducible refine Su.x_isi_str_list ?_ | with_reducible refine Su.x_isi_str_tuple ?_ | with_reducible refine Su.x_isi_NoneType_int ?_ | with_reducible refine Su.x_isi_NoneType_bool ?_ | with_reducible refine Su.x_isi_NoneType_str ?_ | with_reducible refine Su.x_isi_NoneType_list ?_ | with_reducible refine Su.x_isi_NoneType_tuple ?_ | with_reducible refine Su.x_rGt ?_ | with_reducible refine Su.x_rGe ?_ | with_reducible refine Su.x_iteF ?_ | with_reducible refine Su.x_iteT ?_ | with_reducible refine Su.x_iteNT ?_ | with_reducible refine Su.x_iteNF ?_ | with_reducible refine Su.x_eqI ?_ | with_reducible refine Su.x_neI ?_ | with_reducible refine Su.x_eqS ?_ | with_reducible refine Su.x_neS ?_ | with_reducible refine Su.x_eqB ?_ | with_reducible refine Su.x_neB ?_
  | with_reducible refine Su.x_test ?_ | with_reducible refine Su.x_tB ?_ | with_reducible refine Su.x_isB ?_ | with_reducible refine Su.x_isB' ?_ | with_reducible refine Su.x_not ?_ | with_reducible refine Su.x_and ?_ | with_reducible refine Su.x_or ?_
  | with_reducible refine Su.x_andV ?_ | with_reducible refine Su.x_orV ?_ | with_reducible refine Su.x_notV ?_ | with_reducible refine Su.x_chain ?_ | with_reducible refine Su.x_nil ?_ | with_reducible refine Su.x_cons ?_ | with_reducible refine Su.x_cb ?_ | with_reducible refine Su.x_call ?_
  | with_reducible refine Su.x_un ?_ | with_reducible refine Su.x_rU ?_ | with_reducible refine Su.x_abs ?_ | with_reducible refine Su.x_max2 ?_ | with_reducible refine Su.x_min2 ?_ | with_reducible refine Su.x_int1 ?_ | with_reducible refine Su.x_intB ?_
  | with_reducible refine Su.x_lst ?_ | with_reducible refine Su.x_tup ?_ | with_reducible refine Su.x_bmL ?_ | with_reducible refine Su.x_next ?_ | with_reducible refine Su.x_for ?_ | with_reducible refine Su.x_iList ?_ | with_reducible refine Su.x_iRng1 ?_ | with_reducible refine Su.x_iRng2 ?_ | with_reducible refine Su.x_whileN ?_ | with_reducible refine Su.x_iEnum ?_ | with_reducible refine Su.x_iZip ?_ | with_reducible refine Su.x_iZipA ?_ | with_reducible refine Su.x_iTup ?_ | with_reducible refine Su.x_gcons ?_ | with_reducible refine Su.x_gnil ?_ | with_reducible refine Su.x_gsub ?_ | with_reducible refine Su.x_yes ?_ | with_reducible refine Su.x_lc ?_ | with_reducible refine Su.x_sl ?_ | with_reducible refine Su.x_nopart ?_ | with_reducible refine Su.x_part ?_ | with_reducible refine Su.x_isI ?_ | with_reducible refine Su.x_lstRg ?_ | with_reducible refine Su.x_rg1 ?_ | with_reducible refine Su.x_augS ?_ | with_reducible refine Su.x_ipI ?_ | ((with_reducible show L2.tAug _ _ _ _ _ _); refine Su.x_aug rfl ?_) | with_reducible refine Su.x_callS ?_ | with_reducible refine Su.x_tryAs ?_)
local macro_rules | `(tactic| walk_at "xs") => `(tactic| repeat walk_at "x")
local macro_rules | `(tactic| walk_at "if") => `(tactic| first | with_reducible refine Su.x_iteD (fun c => ?_) (fun c => ?_) | with_reducible refine Su.x_iteN (fun c => ?_) (fun c => ?_) | with_reducible refine Su.x_ite (fun c => ?_) (fun c => ?_))
local macro_rules | `(tactic| walk_at "x") => `(tactic| first | with_reducible refine Su.x_m1 ?_ | with_reducible refine Su.x_strE ?_ | with_reducible refine Su.x_m0 ?_ | with_reducible refine Su.x_dnew ?_ | with_reducible refine Su.x_dput ?_ | with_reducible refine Su.x_dgetE ?_ | with_reducible refine Su.x_dget2 ?_ | with_reducible refine Su.x_daug ?_ | with_reducible refine Su.x_din ?_ | with_reducible refine Su.x_dnin ?_ | with_reducible refine Su.x_brk ?_ | with_reducible refine Su.x_retN ?_)
/-! _law_free -/
/-- a report by free choices -/
structure FreeOk (k : BK) (r : RepG) : Prop where
  fal : ∃ F : List Nat, r.fallen = F.map (fun (n : Nat) => (n : Int)) ∧ F.Nodup ∧ ∀ x ∈ F, x ∈ k.waits
  hel : ∀ x ∈ r.helped, ∃ n : Nat, n ∈ k.drew ∧ x = n
  hl : r.helped.length ≤ 20
  at_ : (0 < (k.due : Int) + r.fallen.length ∧ r.word = "box" ∧ r.at_ = -1) ∨ (¬ 0 < (k.due : Int) + r.fallen.length ∧ r.word = "draw" ∧ ∃ n, n ∈ stillB k r ∧ r.at_ = (n : Nat))
theorem FreeOk.fl {k : BK} {r : RepG} (h : FreeOk k r) : r.fallen.length ≤ k.waits.length := by
  obtain ⟨F, e, nd, s⟩ := h.fal
  rw [e, List.length_map]
  exact nodup_sub nd s
theorem FreeOk.still {k : BK} {r : RepG} (h : FreeOk k r) (ok : BKok k) : (stillB k r).length + r.fallen.length = k.waits.length := by
  obtain ⟨F, e, nd, s⟩ := h.fal
  exact still_len ok.nd e nd s
theorem FreeOk.after {k : BK} {r : RepG} (h : FreeOk k r) (ok : BKok k) (c : k.waits.length + k.due + k.seen = k.n) : (k.after r).waits.length + (k.after r).due + (k.after r).seen = k.n := by
  have sl := h.still ok
  have du : (k.after r).due = k.due + r.fallen.length - 1 := rfl
  have se : (k.after r).seen = k.seen + 1 := rfl
  rw [du, se, filter_filter_eq]
  rcases h.at_ with ⟨c2, _, e⟩ | ⟨c2, _, n, hn, e⟩
  · rw [List.filter_eq_self.mpr (fun x _ => by rw [decide_eq_false (by omega)]; rfl)]
    omega
  · have : (stillB k r).filter (fun (x : Nat) => !decide ((x : Int) = r.at_)) = (stillB k r).erase n := by
      rw [(show (stillB k r).Nodup from ok.nd.filter _).erase_eq_filter]
      apply List.filter_congr
      intro y _
      by_cases c : y = n
      · subst c; rw [decide_eq_true e.symm]; simp
      · rw [decide_eq_false (by omega)]; simp [c]
    rw [this, List.length_erase_of_mem hn]
    have := List.length_pos_of_mem hn
    omega
theorem FreeOk.ok {k : BK} {r : RepG} (h : FreeOk k r) (ok : BKok k) : BKok (k.after r) := ok.after fun z => h.at_.elim (fun y => absurd y.1 z) fun y => y.2.2
/-- a sorted list of numbers without doubles, and its part -/
theorem sorted_part {l : List Nat} {ns : List Int} {p : Int → Bool} (nd : l.Nodup) (pm : ns.Perm (l.map fun (n : Nat) => (n : Int))) : ∃ F : List Nat, ns.filter p = F.map (fun (n : Nat) => (n : Int)) ∧ F.Nodup ∧ ∀ x ∈ F, x ∈ l ∧ p (x : Int) = true := by
  have e : ns = (ns.map Int.toNat).map fun (n : Nat) => (n : Int) := by
    rw [List.map_map]
    symm
    conv => rhs; rw [← List.map_id ns]
    apply List.map_congr_left
    intro x hx
    obtain ⟨n, _, rfl⟩ := List.mem_map.mp (pm.mem_iff.mp hx)
    rfl
  have pm2 : (ns.map Int.toNat).Perm l := by
    have := pm.map Int.toNat
    rw [List.map_map] at this
    have e2 : l.map (Int.toNat ∘ fun (n : Nat) => (n : Int)) = l := by
      conv => rhs; rw [← List.map_id l]
      exact List.map_congr_left fun x _ => Int.toNat_natCast x
    rwa [e2] at this
  refine ⟨(ns.map Int.toNat).filter fun (n : Nat) => p (n : Int), ?_, (pm2.nodup_iff.mpr nd).filter _, fun x hx => ?_⟩
  · conv => lhs; rw [e]
    exact filter_nat _
  · have := List.mem_filter.mp hx
    exact ⟨pm2.mem_iff.mp this.1, this.2⟩
theorem getI_of {ns : List Int} {i : Nat} {v : V} (h : (ns.map V.int)[i]? = some v) : ∃ x : Int, x ∈ ns ∧ v = .int x ∧ ns.getD i 0 = x ∧ i < ns.length := by
  rw [List.getElem?_map] at h
  cases e : ns[i]? with
  | none => rw [e] at h; cases h
  | some n =>
    rw [e] at h
    cases h
    refine ⟨n, List.mem_of_getElem? e, rfl, ?_, (List.getElem?_eq_some_iff.mp e).1⟩
    rw [List.getD_eq_getElem?_getD, e]; rfl
theorem fm_int {p : Int → Bool} (l : List Int) : ((List.range (l.map V.int).length).filterMap fun i => if p (l.getD i 0) = true then some (V.int (l.getD i 0)) else none) = (l.filter p).map V.int := by
  rw [List.length_map]; exact fm_filter l
theorem x_norm {N : St → Hp → Prop} {σ σ' : St} {H : Hp} (e : σ = σ') (h : N σ' H) : N σ H := by rw [e]; exact h
def sp_law_free (K : PySem.W.Frag) : Sp := fun vs H Q _ => ∃ (t w l d p : Addr) (k : BK) (rows : List Int), vs = [.ref t, .ref p] ∧ BookAt H t w l d k ∧ H p = some (.lst (rows.map V.int)) ∧ 4 ≤ rows.length ∧ BKok k ∧ k.waits.length + k.due + k.seen = k.n ∧ k.seen < k.n ∧
  ∀ (p' f g : Addr) (H' : Hp) (r : RepG), Same H H' → RowAt (nw H H') p' f g r → FreeOk k r → Q (.ref p') H'
abbrev N_law_free : List Str := ["_law_book", "_law_some", "_law_stake", "_law_size", "_law_bidding", "_law_seen", "_law_waits", "_law_due", "_law_left", "_law_drew", "_law_fallen", "_law_helped", "_law_still", "_law_unfallen", "_law_able", "_law_here", "_law_share", "_law_at"]
def t_law_free (K : PySem.W.Frag) : TS :=
 (tSeq (tAsg (tVar 0) (gTup K 8 (gCons (gName 2) (gCons (gName 3) (gCons (gName 4) (gCons (gName 5) (gCons (gName 6) (gCons (gName 7) (gCons (gName 8) (gCons (gName 9) gNil))))))))))
 (tSeq (tAsg (tLc (iList K (tCB (rSortedI K) (tCons (tVar 6) tNil))) (gName 17) (tTest (tOp rEq (tOp rMod (tOp rAdd (tOp rDiv (tOp (rIxL K) (tVar 1) (tC (.int 0))) (tC (.int 3))) (tOp rMul (tVar 17) (tOp (rIxL K) (tVar 1) (tC (.int 0))))) (tC (.int 5))) (tC (.int 1)))) (tVar 17) [17]) (gName 10))
 (tSeq (tAsg (tLc (iList K (tCB (rSortedI K) (tCons (tVar 9) tNil))) (gName 17) (tAnd (tTest (tOp rEq (tOp rMod (tOp rAdd (tOp rDiv (tOp (rIxL K) (tVar 1) (tC (.int 1))) (tC (.int 3))) (tOp rMul (tVar 17) (tOp (rIxL K) (tVar 1) (tC (.int 1))))) (tC (.int 3))) (tC (.int 1)))) (tTest (tOp rGe (tOp (rIxL K) (tVar 8) (tVar 17)) (tVar 2)))) (tVar 17) [17]) (gName 11))
 (tSeq (tAsg (tLc (iList K (tVar 6)) (gName 17) (tTest (tOp (rIn K true) (tVar 17) (tVar 10))) (tVar 17) [17]) (gName 12))
 (tSeq (tAsg (tOp rAdd (tCB (rLenSeq K) (tCons (tVar 12) tNil)) (tCB (rLenSeq K) (tCons (tVar 9) tNil))) (gName 13))
 (tSeq (tIfS (tOr (tTest (tOp rGt (tOp rAdd (tVar 7) (tCB (rLenSeq K) (tCons (tVar 10) tNil))) (tC (.int 0)))) (tTest (tOp rEq (tCB (rLenSeq K) (tCons (tVar 12) tNil)) (tC (.int 0)))))
 (tRet (tTup (tCons (tOp rAdd (tVar 5) (tC (.int 1))) (tCons (tC (.str "box")) (tCons (tUn rNeg (tC (.int 1))) (tCons (tOp rMul (tVar 2) (tVar 13)) (tCons (tC (.int 0)) (tCons (tVar 10) (tCons (tVar 11) tNil)))))))))
 tNext)
 (tSeq (tAsg (tLc (iList K (tVar 12)) (gName 17) (tTest (tOp rGe (tOp (rIxL K) (tVar 8) (tVar 17)) (tOp rMul (tVar 2) (tOp rSub (tOp rSub (tVar 3) (tVar 5)) (tC (.int 1)))))) (tVar 17) [17]) (gName 14))
 (tSeq (tAsg (tOp (rIxL K) (tVar 12) (tC (.int 0))) (gName 15))
 (tSeq (tAsg (tC (.int 0)) (gName 16))
 (C8.tCut (tIfS (tAnd (tB (tVar 4)) (tTest (tOp rGt (tCB (rLenSeq K) (tCons (tVar 14) tNil)) (tC (.int 0)))))
 (tSeq (tAsg (tOp (rIxL K) (tVar 14) (tOp rMod (tOp (rIxL K) (tVar 1) (tC (.int 2))) (tCB (rLenSeq K) (tCons (tVar 14) tNil)))) (gName 15))
 (tIfS (tTest (tOp rGt (tVar 13) (tC (.int 1))))
 (tAsg (tOp rMod (tOp (rIxL K) (tVar 1) (tC (.int 3))) (tOp rAdd (tOp rDivW (tOp rMul (tVar 2) (tVar 3)) (tOp rSub (tVar 13) (tC (.int 1)))) (tC (.int 1)))) (gName 16))
 tNext))
 tNext)
 (tRet (tTup (tCons (tOp rAdd (tVar 5) (tC (.int 1))) (tCons (tC (.str "draw")) (tCons (tVar 15) (tCons (tOp rSub (tOp rMul (tVar 2) (tVar 3)) (tOp rMul (tVar 16) (tOp rSub (tVar 13) (tC (.int 1))))) (tCons (tVar 16) (tCons (tVar 10) (tCons (tVar 11) tNil)))))))))))))))))))

theorem len_law_free {K : PySem.W.Frag} : ∀ vs H Q E, sp_law_free K vs H Q E → vs.length = ["a", "b"].length := by
  rintro vs H Q E ⟨_, _, _, _, _, _, _, rfl, _⟩; rfl
theorem pure_law_free {K : PySem.W.Frag} {vs : List V} {H : Hp} {Q : VK} {E : XK} (h : sp_law_free K vs H Q E) : t_law_free K { nx := fun _ H' => Q .non H', rt := Q } (start N_law_free vs) H := by
  obtain ⟨tb, w, l, d, p, k, rows, rfl, B, hp', r4, ok, cnt, sn, q⟩ := h
  have ol := ok.l
  have on := ok.n
  have s0 := ok.s0
  have s1 := ok.s1
  have wl := ok.wl
  have dl := ok.dl
  unfold t_law_free
  walk_at "xs"
  refine x_gtup (SqT.of B.t) rfl ?_
  walk_at "xs"
  refine al_sorted (ns := k.waits.map fun (n : Nat) => (n : Int)) (SqL.of (by rw [← nI_int]; exact B.w)) fun W ns H1 nW q1 pm _ hW => ?_
  have m : ∀ x ∈ ns, 0 ≤ x ∧ x < 20 := fun x hx => by
    obtain ⟨n, hn, rfl⟩ := List.mem_map.mp (pm.mem_iff.mp hx)
    have := ok.w n hn
    exact ⟨by omega, by omega⟩
  walk_at "xs"
  refine ⟨W, rfl, ⟨_, SqL.of hW⟩, fun F nF => ?_⟩
  refine lc_flat (fun i => if decide ((rows.getD (Int.toNat 0) 0 / 3 + ns.getD i 0 * rows.getD (Int.toNat 0) 0) % 5 = 1) = true then some (V.int (ns.getD i 0)) else none) (turnsL (K := K) (a := W) (xs := ns.map V.int)) (fun H' s => s.seq (SqL.of hW)) nF ?_ ?_
  · rintro i y Hc _ hi lc ⟨rfl, hy⟩
    obtain ⟨x, hx, rfl, e, hi2⟩ := getI_of hy
    have mx := m x hx
    have hpc := lc.s _ _ (q1 _ _ hp')
    have nsl := pm.length_eq
    rw [List.length_map] at nsl
    walk_at "xs"
    refine x_wipe rfl ?_
    walk_at "xs"
    walk_at "if"
    · rename_i c
      walk_at "xs"
      exact lc.keep nF (Same.refl _) (by rw [e, decide_eq_true c]; rfl) (by omega)
    · rename_i c
      exact lc.skip (Same.refl _) (by rw [e, decide_eq_false c]; rfl)
  intro H2 q2 hF
  rw [fm_int (p := fun x => decide ((rows.getD (Int.toNat 0) 0 / 3 + x * rows.getD (Int.toNat 0) 0) % 5 = 1))] at hF
  obtain ⟨Fl, eF, ndF, mF⟩ := sorted_part (p := fun x => decide ((rows.getD (Int.toNat 0) 0 / 3 + x * rows.getD (Int.toNat 0) 0) % 5 = 1)) ok.nd pm
  rw [eF, ← nI_int] at hF
  clear eF
  have nF0 := none_up q1 nF
  have q02 := q1.trans q2
  have B2 := B.same q02
  refine x_gname ?_
  refine x_norm (σ' := [some (.ref tb), some (.ref p), some (.int k.s), some (.int k.n), some (.bl k.b), some (.int k.seen), some (.ref w), some (.int k.due), some (.ref l), some (.ref d), some (.ref F), none, none, none, none, none, none, none]) rfl ?_
  walk_at "xs"
  refine al_sorted (ns := k.drew.map fun (n : Nat) => (n : Int)) (SqL.of (by rw [← nI_int]; exact B2.d)) fun W2 ns2 H3 nW2 q3 pm2 _ hW2 => ?_
  have q03 := q02.trans q3
  have m2 : ∀ x ∈ ns2, ∃ n : Nat, n ∈ k.drew ∧ x = n ∧ n < k.n := fun x hx => by
    obtain ⟨n, hn, rfl⟩ := List.mem_map.mp (pm2.mem_iff.mp hx)
    exact ⟨n, hn, rfl, ok.d n hn⟩
  have nsl2 := pm2.length_eq
  rw [List.length_map] at nsl2
  walk_at "xs"
  refine ⟨W2, rfl, ⟨_, SqL.of hW2⟩, fun G nG => ?_⟩
  refine lc_flat (fun i => if (decide ((rows.getD (Int.toNat 1) 0 / 3 + ns2.getD i 0 * rows.getD (Int.toNat 1) 0) % 3 = 1) && decide (k.s ≤ k.left.getD (ns2.getD i 0).toNat 0)) = true then some (V.int (ns2.getD i 0)) else none) (turnsL (K := K) (a := W2) (xs := ns2.map V.int)) (fun H' s => s.seq (SqL.of hW2)) nG ?_ ?_
  · rintro i y Hc _ hi lc ⟨rfl, hy⟩
    obtain ⟨x, hx, rfl, e, hi2⟩ := getI_of hy
    obtain ⟨n, _, rfl, nn⟩ := m2 x hx
    have hpc := lc.s _ _ (q03 _ _ hp')
    have hlc := lc.s _ _ (q03 _ _ B.l)
    walk_at "xs"
    refine x_wipe rfl ?_
    walk_at "xs"
    walk_at "if"
    · rename_i c
      walk_at "xs"
      walk_at "if"
      · rename_i c2
        walk_at "xs"
        exact lc.keep nG (Same.refl _) (by rw [e, decide_eq_true c, decide_eq_true (show k.s ≤ _ from c2)]; rfl) (by omega)
      · rename_i c2
        exact lc.skip (Same.refl _) (by rw [e, decide_eq_false (show ¬ k.s ≤ _ from c2), Bool.and_false]; rfl)
    · rename_i c
      exact lc.skip (Same.refl _) (by rw [e, decide_eq_false c, Bool.false_and]; rfl)
  intro H4 q4 hG
  rw [fm_int (p := fun x => decide ((rows.getD (Int.toNat 1) 0 / 3 + x * rows.getD (Int.toNat 1) 0) % 3 = 1) && decide (k.s ≤ k.left.getD x.toNat 0))] at hG
  generalize eG : ns2.filter (fun x => decide ((rows.getD (Int.toNat 1) 0 / 3 + x * rows.getD (Int.toNat 1) 0) % 3 = 1) && decide (k.s ≤ k.left.getD x.toNat 0)) = Gl at hG
  have mG : ∀ x ∈ Gl, ∃ n : Nat, n ∈ k.drew ∧ x = n := fun x hx => by
    rw [← eG] at hx
    obtain ⟨n, hn, e, _⟩ := m2 x (List.mem_filter.mp hx).1
    exact ⟨n, hn, e⟩
  have lG : Gl.length ≤ 20 := by
    have := List.length_filter_le (fun x => decide ((rows.getD (Int.toNat 1) 0 / 3 + x * rows.getD (Int.toNat 1) 0) % 3 = 1) && decide (k.s ≤ k.left.getD x.toNat 0)) ns2
    rw [eG] at this
    omega
  clear eG
  have q04 := q03.trans q4
  have nG0 := none_up q03 nG
  have hF4 := q4 _ _ (q3 _ _ hF)
  have B4 := B.same q04
  obtain ⟨r0, hr0⟩ : ∃ r0 : RepG, r0 = ⟨k.seen + 1, "box", -1, 0, 0, Fl.map fun (n : Nat) => (n : Int), Gl⟩ := ⟨_, rfl⟩
  have sl0 : stillB k r0 = k.waits.filter fun (x : Nat) => !decide ((x : Int) ∈ Fl.map fun (n : Nat) => (n : Int)) := by rw [hr0]; rfl
  refine x_gname ?_
  refine x_norm (σ' := [some (.ref tb), some (.ref p), some (.int k.s), some (.int k.n), some (.bl k.b), some (.int k.seen), some (.ref w), some (.int k.due), some (.ref l), some (.ref d), some (.ref F), some (.ref G), none, none, none, none, none, none]) rfl ?_
  walk_at "xs"
  refine ⟨w, rfl, ⟨_, SqL.of B4.w⟩, fun A nA => ?_⟩
  refine lc_flat (fun i => if (!decide (((k.waits.map fun (n : Nat) => (n : Int)).getD i 0) ∈ Fl.map fun (n : Nat) => (n : Int))) = true then some (V.int ((k.waits.map fun (n : Nat) => (n : Int)).getD i 0)) else none) (turnsL (K := K) (a := w) (xs := nI k.waits)) (fun H' s => s.seq (SqL.of B4.w)) nA ?_ ?_
  · rintro i y Hc _ hi lc ⟨rfl, hy⟩
    obtain ⟨n, _, rfl, e, hi2⟩ := get_nat hy
    walk_at "xs"
    refine x_wipe rfl ?_
    walk_at "xs"
    refine x_notInG (lc.s.seq (SqL.of hF4)) ?_
    walk_at "xs"
    cases hb : decide (((n : Nat) : Int) ∈ Fl.map fun (n : Nat) => (n : Int)) with
    | true =>
      walk_at "xs"
      exact lc.skip (Same.refl _) (by rw [e, hb]; rfl)
    | false =>
      walk_at "xs"
      exact lc.keep nA (Same.refl _) (by rw [e, hb]; rfl) (by omega)
  intro H5 q5 hA
  rw [fm_nat (p := fun x => !decide (x ∈ Fl.map fun (n : Nat) => (n : Int))), ← sl0] at hA
  have hA : H5 A = some (.lst (nI (stillB k r0))) := hA
  have q05 := q04.trans q5
  have hF5 := q5 _ _ hF4
  have hG5 := q5 _ _ hG
  have B5 := B.same q05
  have hp5 := q05 _ _ hp'
  have slen := ok.still r0
  have sF : (stillB k r0).length + Fl.length = k.waits.length := by
    have := still_len (r := r0) (F := Fl) ok.nd (by rw [hr0]) ndF fun x hx => (mF x hx).1
    have e : r0.fallen.length = Fl.length := by rw [hr0]; exact List.length_map _
    omega
  have hl5 := B5.l
  refine x_gname ?_
  refine x_norm (σ' := [some (.ref tb), some (.ref p), some (.int k.s), some (.int k.n), some (.bl k.b), some (.int k.seen), some (.ref w), some (.int k.due), some (.ref l), some (.ref d), some (.ref F), some (.ref G), some (.ref A), none, none, none, none, none]) rfl ?_
  walk_at "xs"
  refine x_lenL (SqL.of hA) ?_
  walk_at "xs"
  refine x_lenL (SqL.of B5.d) ?_
  walk_at "xs"
  rw [lnI, lnI]
  refine x_lenL (SqL.of hF5) ?_
  rw [lnI]
  walk_at "xs"
  obtain ⟨U, hU⟩ : ∃ U : Int, (((stillB k r0).length : Nat) : Int) + ((k.drew.length : Nat) : Int) = U := ⟨_, rfl⟩
  rw [hU]
  have U0 : 0 ≤ U ∧ U ≤ 40 := by omega
  have q : ∀ (T : Addr) (r : RepG) (X : Hp), H5 T = none → Same H5 X → X T = some (.tup [.int r.turn, .str r.word, .int r.at_, .int r.coins, .int r.share, .ref F, .ref G]) → r.fallen = Fl.map (fun (n : Nat) => (n : Int)) → r.helped = Gl → ((0 < (k.due : Int) + r.fallen.length ∧ r.word = "box" ∧ r.at_ = -1) ∨ (¬ 0 < (k.due : Int) + r.fallen.length ∧ r.word = "draw" ∧ ∃ n, n ∈ stillB k r ∧ r.at_ = (n : Nat))) → Q (.ref T) X := fun T r X nT s hT e1 e2 e3 =>
    q T F G X r (q05.trans s) (RowAt.nw ⟨hT, by rw [e1, ← nI_int]; exact s _ _ hF5, by rw [e2]; exact s _ _ hG5⟩ (none_up q05 nT) nF0 nG0) ⟨⟨Fl, e1, ndF, fun x hx => (mF x hx).1⟩, by rw [e2]; exact mG, by rw [e2]; exact lG, e3⟩
  walk_at "if"
  · rename_i c2
    walk_at "xs"
    refine al_tup fun T H6 nT q6 hT => ?_
    exact q T ⟨k.seen + 1, "box", -1, k.s * U, 0, Fl.map fun (n : Nat) => (n : Int), Gl⟩ H6 nT q6 hT rfl rfl (.inl ⟨by rw [List.length_map]; exact c2, rfl, rfl⟩)
  rename_i c2
  have s1' : 0 < (stillB k r0).length := by omega
  walk_at "xs"
  refine x_lenL (SqL.of hA) ?_
  rw [lnI]
  walk_at "xs"
  walk_at "if"
  · exfalso; omega
  rename_i c3
  walk_at "xs"
  refine ⟨A, rfl, ⟨_, SqL.of hA⟩, fun B nB => ?_⟩
  refine lc_flat (fun i => if decide (k.s * ((k.n : Int) - k.seen - 1) ≤ k.left.getD (((stillB k r0).map fun (n : Nat) => (n : Int)).getD i 0).toNat 0) = true then some (V.int (((stillB k r0).map fun (n : Nat) => (n : Int)).getD i 0)) else none) (turnsL (K := K) (a := A) (xs := nI (stillB k r0))) (fun H' s => s.seq (SqL.of hA)) nB ?_ ?_
  · rintro i y Hc _ hi lc ⟨rfl, hy⟩
    obtain ⟨n, hn, rfl, e, hi2⟩ := get_nat hy
    have nn := ok.w n (List.mem_filter.mp hn).1
    have hlc := lc.s _ _ hl5
    walk_at "xs"
    refine x_wipe rfl ?_
    walk_at "xs"
    walk_at "if"
    · rename_i c
      walk_at "xs"
      exact lc.keep nB (Same.refl _) (by rw [e, decide_eq_true c]; rfl) (by omega)
    · rename_i c
      exact lc.skip (Same.refl _) (by rw [e, decide_eq_false c]; rfl)
  intro H6 q6 hB
  rw [fm_nat (p := fun x => decide (k.s * ((k.n : Int) - k.seen - 1) ≤ k.left.getD x.toNat 0))] at hB
  generalize eB : ((stillB k r0).filter fun (n : Nat) => decide (k.s * ((k.n : Int) - k.seen - 1) ≤ k.left.getD ((n : Nat) : Int).toNat 0)) = Bl at hB
  have mB : ∀ x ∈ Bl, x ∈ stillB k r0 := fun x hx => by rw [← eB] at hx; exact (List.mem_filter.mp hx).1
  have lB : Bl.length ≤ 20 := by
    have := List.length_filter_le (fun (n : Nat) => decide (k.s * ((k.n : Int) - k.seen - 1) ≤ k.left.getD ((n : Nat) : Int).toNat 0)) (stillB k r0)
    rw [eB] at this
    omega
  clear eB
  have w0 : atI (nI (stillB k r0)) 0 = some (.int ((stillB k r0).getD 0 0 : Nat)) := by
    cases hq : stillB k r0 with
    | nil => rw [hq] at s1'; exact absurd s1' (by decide)
    | cons y l => exact at_zero
  have w1 : (stillB k r0).getD 0 0 ∈ stillB k r0 := by
    cases hq : stillB k r0 with
    | nil => rw [hq] at s1'; exact absurd s1' (by decide)
    | cons y l => exact List.mem_cons_self
  have hp6 := q6 _ _ hp5
  refine x_gname ?_
  refine x_norm (σ' := [some (.ref tb), some (.ref p), some (.int k.s), some (.int k.n), some (.bl k.b), some (.int k.seen), some (.ref w), some (.int k.due), some (.ref l), some (.ref d), some (.ref F), some (.ref G), some (.ref A), some (.int U), some (.ref B), none, none, none]) rfl ?_
  walk_at "xs"
  refine x_ixL (SqL.of (q6 _ _ hA)) w0 ?_
  walk_at "xs"
  refine x_cut (fun σ H' => ∃ (x : Nat) (sh : Int), σ = [some (.ref tb), some (.ref p), some (.int k.s), some (.int k.n), some (.bl k.b), some (.int k.seen), some (.ref w), some (.int k.due), some (.ref l), some (.ref d), some (.ref F), some (.ref G), some (.ref A), some (.int U), some (.ref B), some (.int x), some (.int sh), none] ∧ H6 = H' ∧ x ∈ stillB k r0 ∧ 0 ≤ sh ∧ sh ≤ 40000000) ?_ ?_
  · cases hb : k.b with
    | false =>
      walk_at "xs"
      exact ⟨_, _, rfl, rfl, w1, by omega, by omega⟩
    | true =>
      walk_at "xs"
      refine x_lenL (SqL.of hB) ?_
      rw [lnI]
      walk_at "xs"
      walk_at "if"
      · rename_i c
        walk_at "xs"
        refine x_lenL (SqL.of hB) ?_
        rw [lnI]
        walk_at "xs"
        have mb := b_mod (rows.getD (Int.toNat 2) 0) (Bl.length : Int) (by omega)
        obtain ⟨x, hx, e⟩ : ∃ x : Nat, x ∈ Bl ∧ atI (nI Bl) (rows.getD (Int.toNat 2) 0 % (Bl.length : Int)) = some (.int x) := by
          generalize rows.getD (Int.toNat 2) 0 % (Bl.length : Int) = i at mb
          have hi : i.toNat < Bl.length := by omega
          refine ⟨Bl[i.toNat], List.getElem_mem hi, ?_⟩
          have := at_map (g := fun (n : Nat) => V.int n) (l := Bl) (i := i.toNat) (d := 0) (j := i) (by omega) hi
          rw [List.getD_eq_getElem?_getD, List.getElem?_eq_getElem hi] at this
          exact this
        refine x_ixL (SqL.of hB) e ?_
        walk_at "xs"
        walk_at "if"
        · rename_i c4
          walk_at "xs"
          have sn0 : 0 ≤ k.s * (k.n : Int) := Int.mul_nonneg (by omega) (by omega)
          have sn1 : k.s * (k.n : Int) ≤ 20000000 := by
            have := Int.mul_le_mul (show k.s ≤ 1000000 by omega) (show (k.n : Int) ≤ 20 by omega) (by omega) (by omega)
            omega
          have dv0 : 0 ≤ k.s * (k.n : Int) / (U - 1) := Int.ediv_nonneg sn0 (by omega)
          have dv1 : k.s * (k.n : Int) / (U - 1) ≤ k.s * (k.n : Int) := Int.ediv_le_self _ sn0
          have cd : CDivW (k.s * (k.n : Int)) (U - 1) := ⟨by omega, log_small (by omega) (by omega)⟩
          have m3 := b_mod (rows.getD (Int.toNat 3) 0) (k.s * (k.n : Int) / (U - 1) + 1) (by omega)
          walk_at "xs"
          exact ⟨_, _, rfl, rfl, mB x hx, m3.1, by omega⟩
        · walk_at "xs"
          exact ⟨_, _, rfl, rfl, mB x hx, by omega, by omega⟩
      · walk_at "xs"
        exact ⟨_, _, rfl, rfl, w1, by omega, by omega⟩
  rintro _ _ ⟨x, sh, rfl, rfl, hx, h0, h1⟩
  walk_at "xs"
  refine al_tup fun T H7 nT q7 hT => ?_
  exact q T ⟨k.seen + 1, "draw", x, k.s * k.n - sh * (U - 1), sh, Fl.map fun (n : Nat) => (n : Int), Gl⟩ H7 (none_up q6 nT) (q6.trans q7) hT rfl rfl (.inr ⟨by rw [List.length_map]; exact c2, rfl, x, by rw [sl0] at hx; exact hx, rfl⟩)

end Su
namespace Su
open PySem L2
local macro_rules | `(tactic| walk_at "side") => `(tactic| first | assumption | (show (0 : Int) < _; omega) | (show (0 : Int) ≤ _; omega) | (show (0 : Int) < _; split <;> omega) | (show _ ∨ _; omega) | (show _ ∧ _; omega) | exact ⟨by decide, by decide, by decide⟩ | exact ⟨by first | assumption | omega, by first | assumption | omega⟩)
local macro_rules | `(tactic| walk_at "x") => `(tactic| first
  | with_reducible refine Su.x_seq ?_ | with_reducible refine Su.x_asg ?_ | with_reducible refine Su.x_gname ?_ | with_reducible refine Su.x_drop ?_ | with_reducible refine Su.x_ret ?_ | with_reducible refine Su.x_ifS ?_
  | ((with_reducible show L2.tVar _ _ _ _); refine Su.x_var rfl ?_) | with_reducible refine Su.x_c ?_ | with_reducible refine Su.x_op ?_ | with_reducible refine Su.x_rI0 ?_ | ((with_reducible refine Su.x_rI ?_ ?_); focus walk_at "side")
  | ((with_reducible show L2.rIxL _ (L2.V.ref _) (L2.V.int _) _ _); refine Su.x_ixI (by assumption) (by first | decide | omega) (by omega) ?_) | with_reducible refine Su.x_isi_int_int ?_ | with_reducible refine Su.x_isi_int_bool ?_ | with_reducible refine Su.x_isi_int_str ?_ | with_reducible refine Su.x_isi_int_list ?_ | with_reducible refine Su.x_isi_int_tuple ?_ | with_reducible refine Su.x_isi_bool_int ?_ | with_reducible refine Su.x_isi_bool_bool ?_ | with_reducible refine Su.x_isi_bool_str ?_ | with_reducible refine Su.x_isi_bool_list ?_ | with_reducible refine Su.x_isi_bool_tuple ?_ | with_reducible refine Su.x_isi_str_int ?_ | with_reducible refine Su.x_isi_str_bool ?_ | with_reducible refine Su.x_isi_str_str ?_ | with_reducible refine Su.x_isi_str_list ?_ | with_reducible refine Su.x_isi_str_tuple ?_ | with_reducible refine Su.x_isi_NoneType_int ?_ | with_reducible refine Su.x_isi_NoneType_bool ?_ | with_reducible refine Su.x_isi_NoneType_str ?_ | with_reducible refine Su.x_isi_NoneType_list ?_ | with_reducible refine Su.x_isi_NoneType_tuple ?_ | with_reducible refine Su.x_rGt ?_ | with_reducible refine Su.x_rGe ?_ | with_reducible refine Su.x_iteF ?_ | with_reducible refine Su.x_iteT ?_ | with_reducible refine Su.x_iteNT ?_ | with_reducible refine Su.x_iteNF ?_ | with_reducible refine Su.x_eqI ?_ | with_reducible refine Su.x_neI ?_ | with_reducible refine Su.x_eqS ?_ | with_reducible refine Su.x_neS ?_ | with_reducible refine Su.x_eqB ?_ | with_reducible refine Su.x_neB ?_
  | with_reducible refine Su.x_test ?_ | with_reducible refine Su.x_tB ?_ | with_reducible refine Su.x_isB ?_ | with_reducible refine Su.x_isB' ?_ | with_reducible refine Su.x_not ?_ | with_reducible refine Su.x_and ?_ | with_reducible refine Su.x_or ?_
  | with_reducible refine Su.x_andV ?_ | with_reducible refine Su.x_orV ?_ | with_reducible refine Su.x_notV ?_ | with_reducible refine Su.x_chain ?_ | with_reducible refine Su.x_nil ?_ | with_reducible refine Su.x_cons ?_ | with_reducible refine Su.x_cb ?_ | with_reducible refine Su.x_call ?_
  | with_reducible refine Su.x_un ?_ | with_reducible refine Su.x_rU ?_ | with_reducible refine Su.x_abs ?_ | with_reducible refine Su.x_max2 ?_ | with_reducible refine Su.x_min2 ?_ | with_reducible refine Su.x_int1 ?_ | with_reducible refine Su.x_intB ?_
  | with_reducible refine Su.x_lst ?_ | with_reducible refine Su.x_tup ?_ | with_reducible refine Su.x_bmL ?_ | with_reducible refine Su.x_next ?_ | with_reducible refine Su.x_for ?_ | with_reducible refine Su.x_iList ?_ | with_reducible refine Su.x_iRng1 ?_ | with_reducible refine Su.x_iRng2 ?_ | with_reducible refine Su.x_whileN ?_ | with_reducible refine Su.x_iEnum ?_ | with_reducible refine Su.x_iZip ?_ | with_reducible refine Su.x_iZipA ?_ | with_reducible refine Su.x_iTup ?_ | with_reducible refine Su.x_gcons ?_ | with_reducible refine Su.x_gnil ?_ | with_reducible refine Su.x_gsub ?_ | with_reducible refine Su.x_yes ?_ | with_reducible refine Su.x_lc ?_ | with_reducible refine Su.x_sl ?_ | with_reducible refine Su.x_nopart ?_ | with_reducible refine Su.x_part ?_ | with_reducible refine Su.x_isI ?_ | with_reducible refine Su.x_lstRg ?_ | with_reducible refine Su.x_rg1 ?_ | with_reducible refine Su.x_augS ?_ | with_reducible refine Su.x_ipI ?_ | ((with_reducible show L2.tAug _ _ _ _ _ _); refine Su.x_aug rfl ?_) | with_reducible refine Su.x_callS ?_ | with_reducible refine Su.x_tryAs ?_)
local macro_rules | `(tactic| walk_at "xs") => `(tactic| repeat walk_at "x")
local macro_rules | `(tactic| walk_at "if") => `(tactic| first | with_reducible refine Su.x_iteD (fun c => ?_) (fun c => ?_) | with_reducible refine Su.x_iteN (fun c => ?_) (fun c => ?_) | with_reducible refine Su.x_ite (fun c => ?_) (fun c => ?_))
/-! law_grows -/
def sp_law_grows (K : PySem.W.Frag) : Sp := fun vs H Q _ => ∃ (p q : Addr) (row : List Int) (al : List Nat), vs = [.ref p, .ref q] ∧ SqL K H p (row.map V.int) ∧ SqL K H q (nI al) ∧ Q (.bl (growsB al (-1) row)) H
abbrev N_law_grows : List Str := ["_law_row", "_law_allowed", "_law_ahead", "_law_at"]
def t_law_grows (K : PySem.W.Frag) : TS :=
 (tSeq (tAsg (tUn rNeg (tC (.int 1))) (gName 2))
 (tSeq (tFor (iList K (tVar 0)) (gName 3)
 (tSeq (tIfS (tOr (tTest (tOp rLe (tVar 3) (tVar 2))) (tTest (tOp (rIn K true) (tVar 3) (tVar 1))))
 (tRet (tC (.bl false)))
 tNext)
 (tAsg (tVar 3) (gName 2))))
 (tRet (tC (.bl true)))))

theorem len_law_grows {K : PySem.W.Frag} : ∀ vs H Q E, sp_law_grows K vs H Q E → vs.length = ["a", "b"].length := by
  rintro vs H Q E ⟨_, _, _, _, rfl, _⟩; rfl
theorem pure_law_grows {K : PySem.W.Frag} {vs : List V} {H : Hp} {Q : VK} {E : XK} (h : sp_law_grows K vs H Q E) : t_law_grows K { nx := fun _ H' => Q .non H', rt := Q } (start N_law_grows vs) H := by
  obtain ⟨p, q, row, al, rfl, hp, hq, k⟩ := h
  unfold t_law_grows
  walk_at "xs"
  refine ⟨p, rfl, ⟨_, hp⟩, for_by turnsL (fun i σ H' => ∃ (a : Int) (u : Option V), σ = [some (.ref p), some (.ref q), some (.int a), u] ∧ H = H' ∧ growsB al (-1) row = growsB al a (row.drop i))
    ⟨-1, none, rfl, rfl, rfl⟩ (by rintro _ _ _ _ ⟨_, _, _, rfl, _⟩; exact hp) ?_ ?_⟩
  · rintro i y σ H2 _ hi ⟨a, u, rfl, rfl, e⟩ ⟨rfl, hy⟩
    have hi' : i < row.length := by rw [List.length_map] at hi; exact hi
    rw [List.getElem?_map, List.getElem?_eq_getElem hi'] at hy
    cases hy
    rw [List.drop_eq_getElem_cons hi'] at e
    generalize row[i] = x at e
    rw [growsB_cons] at e
    walk_at "xs"
    walk_at "if"
    · rename_i c
      walk_at "xs"
      rw [decide_eq_true c] at e
      rw [e] at k
      simpa using k
    · rename_i c
      rw [decide_eq_false c] at e
      walk_at "xs"
      refine x_notInG hq ?_
      walk_at "xs"
      cases hb : decide (x ∈ al.map fun (n : Nat) => (n : Int)) with
      | false =>
        rw [hb] at e
        walk_at "xs"
        rw [e] at k
        simpa using k
      | true =>
        rw [hb] at e
        walk_at "xs"
        exact ⟨_, _, rfl, rfl, by simpa using e⟩
  · rintro σ H2 ⟨a, u, rfl, rfl, e⟩
    walk_at "xs"
    rw [List.length_map, List.drop_length] at e
    rw [e] at k
    exact k

end Su
namespace Su
open PySem L2
local macro_rules | `(tactic| walk_at "side") => `(tactic| first | assumption | (show (0 : Int) < _; omega) | (show (0 : Int) ≤ _; omega) | (show (0 : Int) < _; split <;> omega) | (show _ ∨ _; omega) | (show _ ∧ _; omega) | exact ⟨by decide, by decide, by decide⟩ | exact ⟨by first | assumption | omega, by first | assumption | omega⟩)
local macro_rules | `(tactic| walk_at "xs") => `(tactic| repeat walk_at "x")
local macro_rules | `(tactic| walk_at "if") => `(tactic| first | with_reducible refine Su.x_iteD (fun c => ?_) (fun c => ?_) | with_reducible refine Su.x_iteN (fun c => ?_) (fun c => ?_) | with_reducible refine Su.x_ite (fun c => ?_) (fun c => ?_))

/-! o[a:c] = a list -/
end Su
namespace Su
open PySem L2
local macro_rules | `(tactic| walk_at "side") => `(tactic| first | assumption | (show (0 : Int) < _; omega) | (show (0 : Int) ≤ _; omega) | (show (0 : Int) < _; split <;> omega) | (show _ ∨ _; omega) | (show _ ∧ _; omega) | exact ⟨by decide, by decide, by decide⟩ | exact ⟨by first | assumption | omega, by first | assumption | omega⟩)
local macro_rules | `(tactic| walk_at "xs") => `(tactic| repeat walk_at "x")
local macro_rules | `(tactic| walk_at "if") => `(tactic| first | with_reducible refine Su.x_iteD (fun c => ?_) (fun c => ?_) | with_reducible refine Su.x_iteN (fun c => ?_) (fun c => ?_) | with_reducible refine Su.x_ite (fun c => ?_) (fun c => ?_))

/-! the state of a circle as a law keeps it: lists in a list -/
def stCell (b : Nat → Addr) (st : CS) : Nat → HO
  | 0 => .lst [.int st.stake, .int st.size, .bl st.bidding, .int st.now, .ref (b 1), .int st.due, .int st.chest, .ref (b 2), .ref (b 3)]
  | 1 => .lst (nI st.line)
  | 2 => .lst ((List.range st.size).map fun i => .ref (b (4 + 2 * i)))
  | 3 => .lst ((List.range st.size).map fun i => .ref (b (5 + 2 * i)))
  | n + 4 => if n % 2 = 0 then .lst (seatV (st.get (n / 2))) else intsO (st.get (n / 2)).fl
def stFoot (b : Nat → Addr) (n : Nat) : List Addr := (List.range (4 + 2 * n)).map b
structure StAt (H : Hp) (b : Nat → Addr) (st : CS) : Prop where
  inj : ∀ i j, i < 4 + 2 * st.size → j < 4 + 2 * st.size → b i = b j → i = j
  at_ : ∀ j, j < 4 + 2 * st.size → H (b j) = some (stCell b st j)
section
variable {K : PySem.W.Frag} {H H' : Hp} {b : Nat → Addr} {st st' : CS} {Q : VK} {Qh : Hp → Prop} {i n : Nat} {j x : Int}
theorem mem_sfoot {n j : Nat} (h : j < 4 + 2 * n) : b j ∈ stFoot b n := List.mem_map.mpr ⟨j, List.mem_range.mpr h, rfl⟩
theorem StAt.same (h : StAt H b st) (s : Same H H') : StAt H' b st := ⟨h.inj, fun j hj => s _ _ (h.at_ j hj)⟩
theorem StAt.off (h : StAt H b st) {A : List Addr} (s : Off A H H') (n : ∀ y ∈ stFoot b st.size, y ∉ A) : StAt H' b st := ⟨h.inj, fun j hj => s _ _ (n _ (mem_sfoot hj)) (h.at_ j hj)⟩
theorem StAt.upd_out (h : StAt H b st) {x : Addr} {o : HO} (n : x ∉ stFoot b st.size) : StAt (upd H x o) b st := ⟨h.inj, fun j hj => by
  rw [upd_ne (fun e => n (by rw [← e]; exact mem_sfoot hj))]; exact h.at_ j hj⟩
theorem StAt.fresh (h : StAt H b st) {x : Addr} (n : H x = none) : x ∉ stFoot b st.size := fun c => by
  obtain ⟨j, hj, rfl⟩ := List.mem_map.mp c
  rw [h.at_ j (List.mem_range.mp hj)] at n; cases n
/-! reading -/
theorem s_0 (h : StAt H b st) (q : Q (.int st.stake) H) : rIxL K (.ref (b 0)) (.int 0) H Q := x_ixL (SqL.of (h.at_ 0 (by omega))) (by rfl) q
theorem s_1 (h : StAt H b st) (q : Q (.int st.size) H) : rIxL K (.ref (b 0)) (.int 1) H Q := x_ixL (SqL.of (h.at_ 0 (by omega))) (by rfl) q
theorem s_2 (h : StAt H b st) (q : Q (.bl st.bidding) H) : rIxL K (.ref (b 0)) (.int 2) H Q := x_ixL (SqL.of (h.at_ 0 (by omega))) (by rfl) q
theorem s_3 (h : StAt H b st) (q : Q (.int st.now) H) : rIxL K (.ref (b 0)) (.int 3) H Q := x_ixL (SqL.of (h.at_ 0 (by omega))) (by rfl) q
theorem s_4 (h : StAt H b st) (q : Q (.ref (b 1)) H) : rIxL K (.ref (b 0)) (.int 4) H Q := x_ixL (SqL.of (h.at_ 0 (by omega))) (by rfl) q
theorem s_5 (h : StAt H b st) (q : Q (.int st.due) H) : rIxL K (.ref (b 0)) (.int 5) H Q := x_ixL (SqL.of (h.at_ 0 (by omega))) (by rfl) q
theorem s_6 (h : StAt H b st) (q : Q (.int st.chest) H) : rIxL K (.ref (b 0)) (.int 6) H Q := x_ixL (SqL.of (h.at_ 0 (by omega))) (by rfl) q
theorem s_7 (h : StAt H b st) (q : Q (.ref (b 2)) H) : rIxL K (.ref (b 0)) (.int 7) H Q := x_ixL (SqL.of (h.at_ 0 (by omega))) (by rfl) q
theorem s_8 (h : StAt H b st) (q : Q (.ref (b 3)) H) : rIxL K (.ref (b 0)) (.int 8) H Q := x_ixL (SqL.of (h.at_ 0 (by omega))) (by rfl) q
/-! writing -/
end

end Su
namespace Su
open PySem L2
local macro_rules | `(tactic| walk_at "side") => `(tactic| first | assumption | (show (0 : Int) < _; omega) | (show (0 : Int) ≤ _; omega) | (show (0 : Int) < _; split <;> omega) | (show _ ∨ _; omega) | (show _ ∧ _; omega) | exact ⟨by decide, by decide, by decide⟩ | exact ⟨by first | assumption | omega, by first | assumption | omega⟩)
local macro_rules | `(tactic| walk_at "xs") => `(tactic| repeat walk_at "x")
local macro_rules | `(tactic| walk_at "if") => `(tactic| first | with_reducible refine Su.x_iteD (fun c => ?_) (fun c => ?_) | with_reducible refine Su.x_iteN (fun c => ?_) (fun c => ?_) | with_reducible refine Su.x_ite (fun c => ?_) (fun c => ?_))

/-- an opening that has an order -/
structure OpenHas (s : Int) (n : Nat) (pl ws : List Int) : Prop where
  ok : OpenOk s pl ws
  len : pl.length = n
  ord : ∃ row, IsOrder (openWin s pl ws) row
instance {s : Int} {n : Nat} {pl ws : List Int} : Coe (OpenAt s n pl ws) (OpenHas s n pl ws) := ⟨fun h => ⟨h.ok, h.len, h.ord⟩⟩
/-- a comprehension of new lists -/
structure Fam (H1 : Hp) (A : Addr) (g : Nat → HO) (i : Nat) (H : Hp) : Prop where
  s : Same H1 H
  ex : ∃ fr : List Addr, H A = some (.lst (fr.map V.ref)) ∧ fr.length = i ∧ fr.Nodup ∧ ∀ j (h : j < fr.length), H1 fr[j] = none ∧ fr[j] ≠ A ∧ H fr[j] = some (g j)
theorem Fam.start {H1 : Hp} {A : Addr} {g : Nat → HO} (n : H1 A = none) : Fam H1 A g 0 (upd H1 A (.lst [])) := ⟨same_new (Same.refl _) n, [], upd_same, rfl, List.nodup_nil, fun j h => absurd h (Nat.not_lt_zero _)⟩
theorem Fam.step {H1 H H' : Hp} {A p : Addr} {g : Nat → HO} {i : Nat} (h : Fam H1 A g i H) (nA : H1 A = none) (np : H p = none) (s : Same H H') (e : H' p = some (g i)) (hi : i ≤ 100000) : ∃ acc, H' A = some (.lst acc) ∧ acc.length < sizeLine ∧ Fam H1 A g (i + 1) (upd H' A (.lst (acc ++ [.ref p]))) := by
  obtain ⟨fr, h1, h2, h3, h4⟩ := h.ex
  have npA : p ≠ A := fun z => by subst z; rw [h1] at np; cases np
  refine ⟨fr.map V.ref, s _ _ h1, small (by rw [List.length_map]; omega), same_upd (h.s.trans s) nA, fr ++ [p], by rw [upd_same, List.map_append]; rfl, by rw [List.length_append, h2]; rfl, ?_, fun j hj => ?_⟩
  · rw [List.nodup_append]
    refine ⟨h3, by simp, fun x hx y hy exy => ?_⟩
    rw [List.mem_singleton] at hy
    subst hy; subst exy
    obtain ⟨j, hj, rfl⟩ := List.getElem_of_mem hx
    rw [(h4 j hj).2.2] at np; cases np
  · by_cases c : j < fr.length
    · have := h4 j c
      rw [List.getElem_append_left c]
      exact ⟨this.1, this.2.1, by rw [upd_ne this.2.1]; exact s _ _ this.2.2⟩
    · have ej : j = fr.length := by rw [List.length_append] at hj; simp at hj; omega
      subst ej
      rw [List.getElem_append_right (Nat.le_refl _)]
      simp only [Nat.sub_self, List.getElem_cons_zero]
      refine ⟨h.s.free np, npA, ?_⟩
      rw [upd_ne npA, h2]; exact e

end Su
namespace Su
open PySem L2
local macro_rules | `(tactic| walk_at "side") => `(tactic| first | assumption | (show (0 : Int) < _; omega) | (show (0 : Int) ≤ _; omega) | (show (0 : Int) < _; split <;> omega) | (show _ ∨ _; omega) | (show _ ∧ _; omega) | exact ⟨by decide, by decide, by decide⟩ | exact ⟨by first | assumption | omega, by first | assumption | omega⟩)
local macro_rules | `(tactic| walk_at "x") => `(tactic| first | with_reducible refine Su.x_seq ?_ | with_reducible refine Su.x_asg ?_ | with_reducible refine Su.x_gname ?_ | with_reducible refine Su.x_drop ?_ | with_reducible refine Su.x_ret ?_ | with_reducible refine Su.x_ifS ?_ | ((with_reducible show L2.tVar _ _ _ _); refine Su.x_var rfl ?_) | with_reducible refine Su.x_c ?_ | with_reducible refine Su.x_op ?_ | with_reducible refine Su.x_iteNT ?_ | with_reducible refine Su.x_iteNF ?_ | with_reducible refine Su.x_eqS ?_ | with_reducible refine Su.x_neS ?_ | with_reducible refine Su.x_test ?_ | with_reducible refine Su.x_tB ?_ | with_reducible refine Su.x_isB' ?_ | with_reducible refine Su.x_not ?_ | with_reducible refine Su.x_and ?_ | with_reducible refine Su.x_nil ?_ | with_reducible refine Su.x_cons ?_ | with_reducible refine Su.x_cb ?_ | with_reducible refine Su.x_un ?_ | with_reducible refine Su.x_rU ?_ | with_reducible refine Su.x_lst ?_ | with_reducible refine Su.x_tup ?_ | with_reducible refine Su.x_bmL ?_ | with_reducible refine Su.x_next ?_ | with_reducible refine Su.x_for ?_ | with_reducible refine Su.x_iEnum ?_ | with_reducible refine Su.x_gcons ?_ | with_reducible refine Su.x_gnil ?_ | with_reducible refine Su.x_gsub ?_ | with_reducible refine Su.x_augS ?_ | with_reducible refine Su.x_ipI ?_)
local macro_rules | `(tactic| walk_at "xs") => `(tactic| repeat walk_at "x")
local macro_rules | `(tactic| walk_at "if") => `(tactic| first | with_reducible refine Su.x_iteD (fun c => ?_) (fun c => ?_) | with_reducible refine Su.x_iteN (fun c => ?_) (fun c => ?_) | with_reducible refine Su.x_ite (fun c => ?_) (fun c => ?_))
local macro_rules | `(tactic| walk_at "x") => `(tactic| first | with_reducible refine Su.s_0 (by assumption) ?_ | with_reducible refine Su.s_3 (by assumption) ?_ | with_reducible refine Su.s_4 (by assumption) ?_ | with_reducible refine Su.s_5 (by assumption) ?_ | with_reducible refine Su.s_7 (by assumption) ?_ | with_reducible refine Su.s_8 (by assumption) ?_)

/-! _law_people -/
end Su
namespace Su
open PySem L2
local macro_rules | `(tactic| walk_at "side") => `(tactic| first | assumption | (show (0 : Int) < _; omega) | (show (0 : Int) ≤ _; omega) | (show (0 : Int) < _; split <;> omega) | (show _ ∨ _; omega) | (show _ ∧ _; omega) | exact ⟨by decide, by decide, by decide⟩ | exact ⟨by first | assumption | omega, by first | assumption | omega⟩)
local macro_rules | `(tactic| walk_at "x") => `(tactic| first | with_reducible refine Su.x_ret ?_ | ((with_reducible show L2.tVar _ _ _ _); refine Su.x_var rfl ?_) | with_reducible refine Su.x_c ?_ | with_reducible refine Su.x_op ?_ | with_reducible refine Su.x_rI0 ?_ | with_reducible refine Su.x_nil ?_ | with_reducible refine Su.x_cons ?_ | with_reducible refine Su.x_cb ?_ | with_reducible refine Su.x_max2 ?_)
local macro_rules | `(tactic| walk_at "xs") => `(tactic| repeat walk_at "x")
local macro_rules | `(tactic| walk_at "if") => `(tactic| first | with_reducible refine Su.x_iteD (fun c => ?_) (fun c => ?_) | with_reducible refine Su.x_iteN (fun c => ?_) (fun c => ?_) | with_reducible refine Su.x_ite (fun c => ?_) (fun c => ?_))

/-! _law_early -/
end Su
namespace Su
open PySem L2
local macro_rules | `(tactic| walk_at "side") => `(tactic| first | assumption | (show (0 : Int) < _; omega) | (show (0 : Int) ≤ _; omega) | (show (0 : Int) < _; split <;> omega) | (show _ ∨ _; omega) | (show _ ∧ _; omega) | exact ⟨by decide, by decide, by decide⟩ | exact ⟨by first | assumption | omega, by first | assumption | omega⟩)
local macro_rules | `(tactic| walk_at "x") => `(tactic| first | with_reducible refine Su.x_seq ?_ | with_reducible refine Su.x_asg ?_ | with_reducible refine Su.x_gname ?_ | with_reducible refine Su.x_ret ?_ | with_reducible refine Su.x_ifS ?_ | ((with_reducible show L2.tVar _ _ _ _); refine Su.x_var rfl ?_) | with_reducible refine Su.x_c ?_ | with_reducible refine Su.x_op ?_ | with_reducible refine Su.x_rI0 ?_ | with_reducible refine Su.x_rGt ?_ | with_reducible refine Su.x_iteF ?_ | with_reducible refine Su.x_test ?_ | with_reducible refine Su.x_tB ?_ | with_reducible refine Su.x_isB' ?_ | with_reducible refine Su.x_and ?_ | with_reducible refine Su.x_nil ?_ | with_reducible refine Su.x_cons ?_ | with_reducible refine Su.x_call ?_ | with_reducible refine Su.x_tup ?_ | with_reducible refine Su.x_next ?_ | with_reducible refine Su.x_for ?_ | with_reducible refine Su.x_iList ?_)
local macro_rules | `(tactic| walk_at "xs") => `(tactic| repeat walk_at "x")
local macro_rules | `(tactic| walk_at "if") => `(tactic| first | with_reducible refine Su.x_iteD (fun c => ?_) (fun c => ?_) | with_reducible refine Su.x_iteN (fun c => ?_) (fun c => ?_) | with_reducible refine Su.x_ite (fun c => ?_) (fun c => ?_))
local macro_rules | `(tactic| walk_at "x") => `(tactic| first | with_reducible refine Su.s_0 (by assumption) ?_ | with_reducible refine Su.s_1 (by assumption) ?_ | with_reducible refine Su.s_2 (by assumption) ?_ | with_reducible refine Su.s_3 (by assumption) ?_ | with_reducible refine Su.s_4 (by assumption) ?_ | with_reducible refine Su.s_7 (by assumption) ?_)

/-! _law_winner -/
end Su
namespace Su
open PySem L2
local macro_rules | `(tactic| walk_at "side") => `(tactic| first | assumption | (show (0 : Int) < _; omega) | (show (0 : Int) ≤ _; omega) | (show (0 : Int) < _; split <;> omega) | (show _ ∨ _; omega) | (show _ ∧ _; omega) | exact ⟨by decide, by decide, by decide⟩ | exact ⟨by first | assumption | omega, by first | assumption | omega⟩)
local macro_rules | `(tactic| walk_at "x") => `(tactic| first | with_reducible refine Su.x_seq ?_ | with_reducible refine Su.x_asg ?_ | with_reducible refine Su.x_gname ?_ | with_reducible refine Su.x_drop ?_ | with_reducible refine Su.x_ret ?_ | with_reducible refine Su.x_ifS ?_ | ((with_reducible show L2.tVar _ _ _ _); refine Su.x_var rfl ?_) | with_reducible refine Su.x_c ?_ | with_reducible refine Su.x_op ?_ | with_reducible refine Su.x_rI0 ?_ | ((with_reducible refine Su.x_rI ?_ ?_); focus walk_at "side") | with_reducible refine Su.x_rGt ?_ | with_reducible refine Su.x_neI ?_ | with_reducible refine Su.x_neS ?_ | with_reducible refine Su.x_test ?_ | with_reducible refine Su.x_isB' ?_ | with_reducible refine Su.x_nil ?_ | with_reducible refine Su.x_cons ?_ | with_reducible refine Su.x_cb ?_ | with_reducible refine Su.x_call ?_ | with_reducible refine Su.x_un ?_ | with_reducible refine Su.x_rU ?_ | with_reducible refine Su.x_max2 ?_ | with_reducible refine Su.x_intB ?_ | with_reducible refine Su.x_lst ?_ | with_reducible refine Su.x_tup ?_ | with_reducible refine Su.x_bmL ?_ | with_reducible refine Su.x_next ?_ | with_reducible refine Su.x_for ?_ | with_reducible refine Su.x_iList ?_ | with_reducible refine Su.x_iRng1 ?_ | with_reducible refine Su.x_gcons ?_ | with_reducible refine Su.x_gnil ?_ | with_reducible refine Su.x_gsub ?_ | with_reducible refine Su.x_lc ?_ | with_reducible refine Su.x_part ?_ | with_reducible refine Su.x_isI ?_ | with_reducible refine Su.x_augS ?_ | with_reducible refine Su.x_ipI ?_)
local macro_rules | `(tactic| walk_at "xs") => `(tactic| repeat walk_at "x")
local macro_rules | `(tactic| walk_at "if") => `(tactic| first | with_reducible refine Su.x_iteD (fun c => ?_) (fun c => ?_) | with_reducible refine Su.x_iteN (fun c => ?_) (fun c => ?_) | with_reducible refine Su.x_ite (fun c => ?_) (fun c => ?_))
local macro_rules | `(tactic| walk_at "x") => `(tactic| first | with_reducible refine Su.s_0 (by assumption) ?_ | with_reducible refine Su.s_1 (by assumption) ?_ | with_reducible refine Su.s_3 (by assumption) ?_ | with_reducible refine Su.s_4 (by assumption) ?_ | with_reducible refine Su.s_5 (by assumption) ?_ | with_reducible refine Su.s_6 (by assumption) ?_ | with_reducible refine Su.s_7 (by assumption) ?_ | with_reducible refine Su.s_8 (by assumption) ?_)

/-! _law_round -/
end Su
namespace Su
open PySem L2
local macro_rules | `(tactic| walk_at "side") => `(tactic| first | assumption | (show (0 : Int) < _; omega) | (show (0 : Int) ≤ _; omega) | (show (0 : Int) < _; split <;> omega) | (show _ ∨ _; omega) | (show _ ∧ _; omega) | exact ⟨by decide, by decide, by decide⟩ | exact ⟨by first | assumption | omega, by first | assumption | omega⟩)
local macro_rules | `(tactic| walk_at "x") => `(tactic| first | with_reducible refine Su.x_seq ?_ | with_reducible refine Su.x_asg ?_ | with_reducible refine Su.x_gname ?_ | with_reducible refine Su.x_ret ?_ | with_reducible refine Su.x_ifS ?_ | ((with_reducible show L2.tVar _ _ _ _); refine Su.x_var rfl ?_) | with_reducible refine Su.x_c ?_ | with_reducible refine Su.x_op ?_ | with_reducible refine Su.x_rI0 ?_ | ((with_reducible refine Su.x_rI ?_ ?_); focus walk_at "side") | with_reducible refine Su.x_rGt ?_ | with_reducible refine Su.x_iteNT ?_ | with_reducible refine Su.x_eqS ?_ | with_reducible refine Su.x_neS ?_ | with_reducible refine Su.x_test ?_ | with_reducible refine Su.x_tB ?_ | with_reducible refine Su.x_isB' ?_ | with_reducible refine Su.x_not ?_ | with_reducible refine Su.x_or ?_ | with_reducible refine Su.x_nil ?_ | with_reducible refine Su.x_cons ?_ | with_reducible refine Su.x_cb ?_ | with_reducible refine Su.x_call ?_ | with_reducible refine Su.x_intB ?_ | with_reducible refine Su.x_lst ?_ | with_reducible refine Su.x_bmL ?_ | with_reducible refine Su.x_next ?_ | with_reducible refine Su.x_for ?_ | with_reducible refine Su.x_iRng1 ?_)
local macro_rules | `(tactic| walk_at "xs") => `(tactic| repeat walk_at "x")
local macro_rules | `(tactic| walk_at "if") => `(tactic| first | with_reducible refine Su.x_iteD (fun c => ?_) (fun c => ?_) | with_reducible refine Su.x_iteN (fun c => ?_) (fun c => ?_) | with_reducible refine Su.x_ite (fun c => ?_) (fun c => ?_))
local macro_rules | `(tactic| walk_at "x") => `(tactic| first | with_reducible refine Su.x_dgetE ?_)
local macro_rules | `(tactic| walk_at "at") => `(tactic| first | assumption | (refine Su.f_at (by assumption) ?_; walk_at "at"))
local macro_rules | `(tactic| walk_at "sm") => `(tactic| first | assumption | exact L2.Same.refl _ | (refine Su.f_tr (by assumption) ?_; walk_at "sm"))
local macro_rules | `(tactic| walk_at "hp") => `(tactic| first | assumption | ((with_reducible refine Su.f_sqL ?_); walk_at "at") | ((with_reducible refine Su.f_sqT ?_); walk_at "at") | ((with_reducible show L2.Same _ _); walk_at "sm") | ((with_reducible show _ = none); refine Su.f_free ?_ (by assumption); walk_at "sm") | ((with_reducible show _ = some _); walk_at "at") | (refine Su.f_dp (by assumption) ?_; walk_at "hp") | (refine Su.f_dpA (by assumption) ?_; walk_at "hp") | (refine Su.f_sqLs (by assumption) ?_; walk_at "hp") | (refine Su.f_sqTs (by assumption) ?_; walk_at "hp"))
local macro_rules | `(tactic| walk_at "x") => `(tactic| first | with_reducible refine Su.x_meth ?_)
local macro_rules | `(tactic| walk_at "me") => `(tactic| first | refine Su.c_meth (by assumption) rfl ?_ | refine Su.so_meth (by assumption) rfl ?_)
local macro_rules | `(tactic| walk_at "x") => `(tactic| first | with_reducible refine Su.s_0 (by assumption) ?_ | with_reducible refine Su.s_1 (by assumption) ?_ | with_reducible refine Su.s_3 (by assumption) ?_ | with_reducible refine Su.s_4 (by assumption) ?_ | with_reducible refine Su.s_5 (by assumption) ?_ | with_reducible refine Su.s_6 (by assumption) ?_ | with_reducible refine Su.s_7 (by assumption) ?_ | with_reducible refine Su.s_8 (by assumption) ?_)

/-! _law_alike -/
theorem x_disp {trs : List (TE × TE)} {σ : St} {H : Hp} {Q : VK} (h : ∀ p, H p = none → tPairs trs σ (upd H p (.dK [])) fun ps H2 => H2 p = some (.dK []) ∧ ∃ kvs : List (Key × V), ps = kvs.map (fun kv => (kV kv.1, kv.2)) ∧ kvs.length ≤ 15 ∧ Q (.ref p) (upd H2 p (.dK (mergeK [] kvs)))) : tDisp trs σ H Q := h
theorem x_pc {tk tv : TE} {r : List (TE × TE)} {σ : St} {H : Hp} {Q : List (V × V) → Hp → Prop} (h : tk σ H fun x H1 => tv σ H1 fun y H2 => tPairs r σ H2 fun ps H3 => Q ((x, y) :: ps) H3) : tPairs ((tk, tv) :: r) σ H Q := h
theorem x_pn {σ : St} {H : Hp} {Q : List (V × V) → Hp → Prop} (h : Q [] H) : tPairs [] σ H Q := h
end Su
namespace Su
open PySem L2
local macro_rules | `(tactic| walk_at "side") => `(tactic| first | assumption | (show (0 : Int) < _; omega) | (show (0 : Int) ≤ _; omega) | (show (0 : Int) < _; split <;> omega) | (show _ ∨ _; omega) | (show _ ∧ _; omega) | exact ⟨by decide, by decide, by decide⟩ | exact ⟨by first | assumption | omega, by first | assumption | omega⟩)
local macro_rules | `(tactic| walk_at "xs") => `(tactic| repeat walk_at "x")
local macro_rules | `(tactic| walk_at "if") => `(tactic| first | with_reducible refine Su.x_iteD (fun c => ?_) (fun c => ?_) | with_reducible refine Su.x_iteN (fun c => ?_) (fun c => ?_) | with_reducible refine Su.x_ite (fun c => ?_) (fun c => ?_))

/-! a circle and a law's state of it, side by side -/
structure Both (K : PySem.W.Frag) (G : Hp) (a b : Nat → Addr) (n : Nat) (H : Hp) (st : CS) : Prop where
  g : Same G (hide (cirFoot a n ++ stFoot b n) H)
  ca : CirAt K H a st
  cb : StAt H b st
  z : st.size = n
  wf : WF st
  dj : ∀ y ∈ stFoot b n, y ∉ cirFoot a n
section
variable {K : PySem.W.Frag} {G H H' : Hp} {a b : Nat → Addr} {n : Nat} {st st' : CS}
theorem Both.same (h : Both K G a b n H st) (s : Same H H') : Both K G a b n H' st := ⟨h.g.trans (hide_mono s), h.ca.same s, h.cb.same s, h.z, h.wf, h.dj⟩
theorem Both.at_ (h : Both K G a b n H st) {p : Addr} {o : HO} (e : G p = some o) : H p = some o := hide_same _ _ (h.g _ _ e)
theorem Both.new (h : Both K G a b n H st) {p : Addr} (e : H p = none) : G p = none := by
  cases c : G p with
  | none => rfl
  | some o => rw [h.at_ c] at e; cases e
/-- a list of its own is changed -/
theorem Both.upd (h : Both K G a b n H st) {p : Addr} {o : HO} (h1 : p ∉ cirFoot a n) (h2 : p ∉ stFoot b n) (h3 : G p = none) : Both K G a b n (L2.upd H p o) st := by
  refine ⟨fun y u e => ?_, h.ca.upd_out (by rw [h.z]; exact h1), h.cb.upd_out (by rw [h.z]; exact h2), h.z, h.wf, h.dj⟩
  have := h.g y u e
  have hy : y ∉ cirFoot a n ++ stFoot b n := fun z => by rw [hide_in z] at this; cases this
  rw [hide_out hy] at this ⊢
  rw [upd_ne (ne_of_none e h3)]; exact this
end
end Su
namespace Su
open PySem L2
local macro_rules | `(tactic| walk_at "side") => `(tactic| first | assumption | (show (0 : Int) < _; omega) | (show (0 : Int) ≤ _; omega) | (show (0 : Int) < _; split <;> omega) | (show _ ∨ _; omega) | (show _ ∧ _; omega) | exact ⟨by decide, by decide, by decide⟩ | exact ⟨by first | assumption | omega, by first | assumption | omega⟩)
local macro_rules | `(tactic| walk_at "x") => `(tactic| first
  | with_reducible refine Su.x_seq ?_ | with_reducible refine Su.x_asg ?_ | with_reducible refine Su.x_gname ?_ | with_reducible refine Su.x_drop ?_ | with_reducible refine Su.x_ret ?_ | with_reducible refine Su.x_ifS ?_
  | ((with_reducible show L2.tVar _ _ _ _); refine Su.x_var rfl ?_) | with_reducible refine Su.x_c ?_ | with_reducible refine Su.x_op ?_ | with_reducible refine Su.x_rI0 ?_ | ((with_reducible refine Su.x_rI ?_ ?_); focus walk_at "side")
  | ((with_reducible show L2.rIxL _ (L2.V.ref _) (L2.V.int _) _ _); refine Su.x_ixI (by assumption) (by first | decide | omega) (by omega) ?_) | with_reducible refine Su.x_isi_int_int ?_ | with_reducible refine Su.x_isi_int_bool ?_ | with_reducible refine Su.x_isi_int_str ?_ | with_reducible refine Su.x_isi_int_list ?_ | with_reducible refine Su.x_isi_int_tuple ?_ | with_reducible refine Su.x_isi_bool_int ?_ | with_reducible refine Su.x_isi_bool_bool ?_ | with_reducible refine Su.x_isi_bool_str ?_ | with_reducible refine Su.x_isi_bool_list ?_ | with_reducible refine Su.x_isi_bool_tuple ?_ | with_reducible refine Su.x_isi_str_int ?_ | with_reducible refine Su.x_isi_str_bool ?_ | with_reducible refine Su.x_isi_str_str ?_ | with_reducible refine Su.x_isi_str_list ?_ | with_reducible refine Su.x_isi_str_tuple ?_ | with_reducible refine Su.x_isi_NoneType_int ?_ | with_reducible refine Su.x_isi_NoneType_bool ?_ | with_reducible refine Su.x_isi_NoneType_str ?_ | with_reducible refine Su.x_isi_NoneType_list ?_ | with_reducible refine Su.x_isi_NoneType_tuple ?_ | with_reducible refine Su.x_rGt ?_ | with_reducible refine Su.x_rGe ?_ | with_reducible refine Su.x_iteF ?_ | with_reducible refine Su.x_iteT ?_ | with_reducible refine Su.x_iteNT ?_ | with_reducible refine Su.x_iteNF ?_ | with_reducible refine Su.x_eqI ?_ | with_reducible refine Su.x_neI ?_ | with_reducible refine Su.x_eqS ?_ | with_reducible refine Su.x_neS ?_ | with_reducible refine Su.x_eqB ?_ | with_reducible refine Su.x_neB ?_
  | with_reducible refine Su.x_test ?_ | with_reducible refine Su.x_tB ?_ | with_reducible refine Su.x_isB ?_ | with_reducible refine Su.x_isB' ?_ | with_reducible refine Su.x_not ?_ | with_reducible refine Su.x_and ?_ | with_reducible refine Su.x_or ?_
  | with_reducible refine Su.x_andV ?_ | with_reducible refine Su.x_orV ?_ | with_reducible refine Su.x_notV ?_ | with_reducible refine Su.x_chain ?_ | with_reducible refine Su.x_nil ?_ | with_reducible refine Su.x_cons ?_ | with_reducible refine Su.x_cb ?_ | with_reducible refine Su.x_call ?_
  | with_reducible refine Su.x_un ?_ | with_reducible refine Su.x_rU ?_ | with_reducible refine Su.x_abs ?_ | with_reducible refine Su.x_max2 ?_ | with_reducible refine Su.x_min2 ?_ | with_reducible refine Su.x_int1 ?_ | with_reducible refine Su.x_intB ?_
  | with_reducible refine Su.x_lst ?_ | with_reducible refine Su.x_tup ?_ | with_reducible refine Su.x_bmL ?_ | with_reducible refine Su.x_next ?_ | with_reducible refine Su.x_for ?_ | with_reducible refine Su.x_iList ?_ | with_reducible refine Su.x_iRng1 ?_ | with_reducible refine Su.x_iRng2 ?_ | with_reducible refine Su.x_whileN ?_ | with_reducible refine Su.x_iEnum ?_ | with_reducible refine Su.x_iZip ?_ | with_reducible refine Su.x_iZipA ?_ | with_reducible refine Su.x_iTup ?_ | with_reducible refine Su.x_gcons ?_ | with_reducible refine Su.x_gnil ?_ | with_reducible refine Su.x_gsub ?_ | with_reducible refine Su.x_yes ?_ | with_reducible refine Su.x_lc ?_ | with_reducible refine Su.x_sl ?_ | with_reducible refine Su.x_nopart ?_ | with_reducible refine Su.x_part ?_ | with_reducible refine Su.x_isI ?_ | with_reducible refine Su.x_lstRg ?_ | with_reducible refine Su.x_rg1 ?_ | with_reducible refine Su.x_augS ?_ | with_reducible refine Su.x_ipI ?_ | ((with_reducible show L2.tAug _ _ _ _ _ _); refine Su.x_aug rfl ?_) | with_reducible refine Su.x_callS ?_ | with_reducible refine Su.x_tryAs ?_)
local macro_rules | `(tactic| walk_at "xs") => `(tactic| repeat walk_at "x")
local macro_rules | `(tactic| walk_at "if") => `(tactic| first | with_reducible refine Su.x_iteD (fun c => ?_) (fun c => ?_) | with_reducible refine Su.x_iteN (fun c => ?_) (fun c => ?_) | with_reducible refine Su.x_ite (fun c => ?_) (fun c => ?_))
local macro_rules | `(tactic| walk_at "x") => `(tactic| first | with_reducible refine Su.x_m1 ?_ | with_reducible refine Su.x_strE ?_ | with_reducible refine Su.x_m0 ?_ | with_reducible refine Su.x_dnew ?_ | with_reducible refine Su.x_dput ?_ | with_reducible refine Su.x_dgetE ?_ | with_reducible refine Su.x_dget2 ?_ | with_reducible refine Su.x_daug ?_ | with_reducible refine Su.x_din ?_ | with_reducible refine Su.x_dnin ?_ | with_reducible refine Su.x_brk ?_ | with_reducible refine Su.x_retN ?_)
/-! _law_can -/
def sp_law_can (K : PySem.W.Frag) : Sp := fun vs H Q _ => ∃ (t w l d : Addr) (k : BK) (v : V) (r : RepG), vs = [.ref t, v] ∧ BookAt H t w l d k ∧ Dp K H v (dRepG r) ∧ BKok k ∧ PyData.strOk r.word = true ∧ ∀ H', Same H H' → Q (.bl (k.can r)) H'
theorem x_notInNI {K : PySem.W.Frag} {H : Hp} {Q : VK} {p : Addr} {i : Int} {l : List Nat} (e : SqL K H p (nI l)) (h : Q (.bl (!decide (i ∈ l.map fun (n : Nat) => (n : Int)))) H) : rIn K true (.int i) (.ref p) H Q := x_notInG e h
theorem eqv_head {w v : Str} {a b c x s t : Int} : PyData.eqv (.tuple [.str w, .int a, .int c, .int s]) (.tuple [.str v, .int b, .int x, .int t]) = (decide (w = v) && (decide (a = b) && (decide (c = x) && decide (s = t)))) := by
  show PyData.eqvAll [.str w, .int a, .int c, .int s] [.str v, .int b, .int x, .int t] = _
  simp only [PyData.eqvAll, PyData.eqv, Bool.and_true]
  congr 1
abbrev N_law_can : List Str := ["_law_book", "_law_report", "_law_stake", "_law_size", "_law_bidding", "_law_seen", "_law_waits", "_law_due", "_law_left", "_law_drew", "_law_at", "_law_still", "_law_unfallen"]
def t_law_can (K : PySem.W.Frag) : TS :=
 (tSeq (tAsg (tVar 0) (gTup K 8 (gCons (gName 2) (gCons (gName 3) (gCons (gName 4) (gCons (gName 5) (gCons (gName 6) (gCons (gName 7) (gCons (gName 8) (gCons (gName 9) gNil))))))))))
 (tSeq (tIfS (tOr (tTest (tOp rNe (tOp (rIxT K) (tVar 1) (tC (.int 0))) (tOp rAdd (tVar 5) (tC (.int 1))))) (tTest (tOp rGe (tVar 5) (tVar 3))))
 (tRet (tC (.bl false)))
 tNext)
 (tSeq (tIfS (tOr (tNot (tB (tCall (sp_law_grows K) [] E0 (tCons (tOp (rIxT K) (tVar 1) (tC (.int 5))) (tCons (tVar 6) tNil))))) (tNot (tB (tCall (sp_law_grows K) [] E0 (tCons (tOp (rIxT K) (tVar 1) (tC (.int 6))) (tCons (tVar 9) tNil))))))
 (tRet (tC (.bl false)))
 tNext)
 (tSeq (tFor (iList K (tOp (rIxT K) (tVar 1) (tC (.int 6)))) (gName 10)
 (tIfS (tTest (tOp rLt (tOp (rIxL K) (tVar 8) (tVar 10)) (tVar 2)))
 (tRet (tC (.bl false)))
 tNext))
 (tSeq (tAsg (tLc (iList K (tVar 6)) (gName 10) (tTest (tOp (rIn K true) (tVar 10) (tOp (rIxT K) (tVar 1) (tC (.int 5))))) (tVar 10) [10]) (gName 11))
 (tSeq (tAsg (tOp rAdd (tCB (rLenSeq K) (tCons (tVar 11) tNil)) (tCB (rLenSeq K) (tCons (tVar 9) tNil))) (gName 12))
 (tSeq (tIfS (tTest (tOp rGt (tOp rAdd (tVar 7) (tCB (rLenSeq K) (tCons (tOp (rIxT K) (tVar 1) (tC (.int 5))) tNil))) (tC (.int 0))))
 (tRet (tOp (rEqD K) (tSl (rSlT K) (tVar 1) (tPart (tC (.int 1))) (tPart (tC (.int 5)))) (tTup (tCons (tC (.str "box")) (tCons (tUn rNeg (tC (.int 1))) (tCons (tOp rMul (tVar 2) (tVar 12)) (tCons (tC (.int 0)) tNil)))))))
 tNext)
 (tSeq (tIfS (tOr (tTest (tOp rNe (tOp (rIxT K) (tVar 1) (tC (.int 1))) (tC (.str "draw")))) (tOr (tTest (tOp (rIn K true) (tOp (rIxT K) (tVar 1) (tC (.int 2))) (tVar 11))) (tTest (tOp rLt (tOp (rIxL K) (tVar 8) (tOp (rIxT K) (tVar 1) (tC (.int 2)))) (tOp rMul (tVar 2) (tOp rSub (tVar 3) (tOp (rIxT K) (tVar 1) (tC (.int 0)))))))))
 (tRet (tC (.bl false)))
 tNext)
 (tSeq (tIfS (tOr (tAnd (tNot (tB (tVar 4))) (tTest (tOp rNe (tOp (rIxT K) (tVar 1) (tC (.int 2))) (tOp (rIxL K) (tVar 11) (tC (.int 0)))))) (tOr (tTest (tOp rLt (tOp (rIxT K) (tVar 1) (tC (.int 4))) (tC (.int 0)))) (tTest (tOp rLt (tOp (rIxT K) (tVar 1) (tC (.int 3))) (tC (.int 0))))))
 (tRet (tC (.bl false)))
 tNext)
 (tSeq (tIfS (tAnd (tTest (tOp rGt (tOp (rIxT K) (tVar 1) (tC (.int 4))) (tC (.int 0)))) (tOr (tNot (tB (tVar 4))) (tTest (tOp rEq (tVar 12) (tC (.int 1))))))
 (tRet (tC (.bl false)))
 tNext)
 (tRet (tOp rEq (tOp rAdd (tOp (rIxT K) (tVar 1) (tC (.int 3))) (tOp rMul (tOp (rIxT K) (tVar 1) (tC (.int 4))) (tOp rSub (tVar 12) (tC (.int 1))))) (tOp rMul (tVar 2) (tVar 3))))))))))))))

theorem len_law_can {K : PySem.W.Frag} : ∀ vs H Q E, sp_law_can K vs H Q E → vs.length = ["a", "b"].length := by
  rintro vs H Q E ⟨_, _, _, _, _, _, _, rfl, _⟩; rfl
theorem pure_law_can {K : PySem.W.Frag} {vs : List V} {H : Hp} {Q : VK} {E : XK} (h : sp_law_can K vs H Q E) : t_law_can K { nx := fun _ H' => Q .non H', rt := Q } (start N_law_can vs) H := by
  obtain ⟨tb, w, l, d, k, v, r, rfl, B, hv, ok, so, q⟩ := h
  obtain ⟨t, f, g, rfl, ht, hf, hg⟩ := dp_repG hv
  have hw : SqL K H w (nI k.waits) := SqL.of B.w
  have hd : SqL K H d (nI k.drew) := SqL.of B.d
  have hl := B.l
  have ol := ok.l
  have on := ok.n
  have s0 := ok.s0
  have s1 := ok.s1
  unfold BK.can at q
  unfold t_law_can
  walk_at "xs"
  refine x_gtup (SqT.of B.t) rfl ?_
  walk_at "xs"
  refine x_ixT ht (v := .int r.turn) (by rfl) ?_
  walk_at "xs"
  walk_at "if"
  · rename_i c
    rw [if_pos (.inl c)] at q
    walk_at "xs"
    exact q H (Same.refl H)
  rename_i c1
  walk_at "xs"
  walk_at "if"
  · rename_i c
    rw [if_pos (.inr c)] at q
    walk_at "xs"
    exact q H (Same.refl H)
  rename_i c1b
  rw [if_neg (fun z => z.elim (fun z => z c1) c1b)] at q
  walk_at "xs"
  refine x_ixT ht (v := .ref f) (by rfl) ?_
  walk_at "xs"
  refine ⟨f, w, r.fallen, k.waits, rfl, hf, hw, ?_⟩
  cases g1 : growsB k.waits (-1) r.fallen with
  | false =>
    rw [if_pos (.inl g1)] at q
    walk_at "xs"
    exact q H (Same.refl H)
  | true =>
  walk_at "xs"
  refine x_ixT ht (v := .ref g) (by rfl) ?_
  walk_at "xs"
  refine ⟨g, d, r.helped, k.drew, rfl, hg, hd, ?_⟩
  cases g2 : growsB k.drew (-1) r.helped with
  | false =>
    rw [if_pos (.inr g2)] at q
    walk_at "xs"
    exact q H (Same.refl H)
  | true =>
  rw [g1, g2, if_neg (by simp)] at q
  walk_at "xs"
  refine x_ixT ht (v := .ref g) (by rfl) ?_
  refine ⟨g, rfl, ⟨_, hg⟩, for_by turnsL (fun i σ H' => ∃ (u : Option V), σ = [some (.ref tb), some (.ref t), some (.int k.s), some (.int k.n), some (.bl k.b), some (.int k.seen), some (.ref w), some (.int k.due), some (.ref l), some (.ref d), u, none, none] ∧ H = H' ∧ (r.helped.take i).all (fun x => decide (k.s ≤ k.left.getD x.toNat 0)) = true)
    ⟨none, rfl, rfl, rfl⟩ (by rintro _ _ _ _ ⟨_, _, rfl, _⟩; exact hg) ?_ ?_⟩
  · rintro i y σ H2 _ hi ⟨u2, rfl, rfl, ha⟩ ⟨rfl, hy⟩
    have hi' : i < r.helped.length := by rw [List.length_map] at hi; exact hi
    rw [List.getElem?_map, List.getElem?_eq_getElem hi'] at hy
    cases hy
    obtain ⟨n, hn, e⟩ := grows_mem g2 _ (List.getElem_mem hi')
    have nn := ok.d n hn
    have tk : r.helped.take (i + 1) = r.helped.take i ++ [r.helped[i]] := by rw [List.take_append_getElem]
    have mem := List.getElem_mem hi'
    generalize r.helped[i] = x at e tk mem
    subst e
    walk_at "xs"
    walk_at "if"
    · rename_i c
      walk_at "xs"
      rw [if_pos (show r.helped.all (fun x => decide (k.s ≤ k.left.getD x.toNat 0)) = false by
        rw [List.all_eq_false]
        exact ⟨_, mem, by simpa using c⟩)] at q
      exact q H (Same.refl H)
    · rename_i c
      walk_at "xs"
      refine ⟨_, rfl, rfl, ?_⟩
      rw [tk, List.all_append, ha]
      simp only [List.all_cons, List.all_nil, Bool.and_true, Bool.true_and, decide_eq_true_eq]
      omega
  rintro σ H2 ⟨u2, rfl, rfl, ha⟩
  rw [List.length_map, List.take_length] at ha
  rw [if_neg (by rw [ha]; simp)] at q
  have wl := ok.wl
  have dl := ok.dl
  have sl := ok.still r
  walk_at "xs"
  refine ⟨w, rfl, ⟨_, hw⟩, fun A nA => ?_⟩
  refine lc_flat (fun i => if (!decide (((k.waits.map fun (n : Nat) => (n : Int)).getD i 0) ∈ r.fallen)) = true then some (V.int ((k.waits.map fun (n : Nat) => (n : Int)).getD i 0)) else none) (turnsL (K := K) (a := w) (xs := nI k.waits)) (fun H' s => s.seq hw) nA ?_ ?_
  · rintro i y Hc _ hi lc ⟨rfl, hy⟩
    obtain ⟨n, _, rfl, e, hi2⟩ := get_nat hy
    walk_at "xs"
    refine x_wipe rfl ?_
    walk_at "xs"
    refine x_ixT (seqT_same lc.s ht) (v := .ref f) (by rfl) ?_
    refine x_notInI (lc.s.seq hf) ?_
    walk_at "xs"
    cases hb : decide (((n : Nat) : Int) ∈ r.fallen) with
    | true =>
      walk_at "xs"
      exact lc.skip (Same.refl _) (by rw [e, hb]; rfl)
    | false =>
      walk_at "xs"
      exact lc.keep nA (Same.refl _) (by rw [e, hb]; rfl) (by omega)
  intro H1 q1 hA
  rw [fm_nat (p := fun x => !decide (x ∈ r.fallen))] at hA
  have hA : H1 A = some (.lst (nI (stillB k r))) := hA
  have hd1 := q1.seq hd
  have ht1 := seqT_same q1 ht
  have hf1 := q1.seq hf
  have hl1 := q1 _ _ hl
  have sA : SqL K H1 A (nI (stillB k r)) := SqL.of hA
  have lnI : ∀ (m : List Nat), (nI m).length = m.length := fun m => by unfold nI; rw [List.length_map]
  walk_at "xs"
  refine x_lenL sA ?_
  walk_at "xs"
  refine x_lenL hd1 ?_
  walk_at "xs"
  rw [lnI, lnI, show (((stillB k r).length : Nat) : Int) + ((k.drew.length : Nat) : Int) = ((unfB k r : Nat) : Int) by unfold unfB; omega]
  have un : unfB k r ≤ 40 := by unfold unfB; omega
  refine x_ixT ht1 (v := .ref f) (by rfl) ?_
  walk_at "xs"
  refine x_lenL hf1 ?_
  rw [List.length_map]
  walk_at "xs"
  walk_at "if"
  · rename_i c2
    rw [if_pos c2] at q
    walk_at "xs"
    refine al_slT ht1 (by show ¬ ((1 : Nat) = 0 ∧ _); omega) fun S H3 nS q3 hS => ?_
    walk_at "xs"
    refine al_tup fun T H4 nT q4 hT => ?_
    refine ⟨.tuple [.str r.word, .int r.at_, .int r.coins, .int r.share], .tuple [.str "box", .int (-1), .int (k.s * (unfB k r : Nat)), .int 0], .tup (SqT.of (q4 _ _ hS)) (.cons (.str _) (.cons (.int _) (.cons (.int _) (.cons (.int _) .nil)))), .tup (SqT.of hT) (.cons (.str _) (.cons (.int _) (.cons (.int _) (.cons (.int _) .nil)))), ?_, ?_, ?_⟩
    · refine (GoodD.tup (n := 0) (by simp) fun d hd => ?_).shaped (by decide)
      simp only [List.mem_cons, List.not_mem_nil, or_false] at hd
      rcases hd with rfl | rfl | rfl | rfl
      · exact ⟨so, Nat.zero_le _⟩
      all_goals exact .int _ _
    · refine (GoodD.tup (n := 0) (by simp) fun d hd => ?_).shaped (by decide)
      simp only [List.mem_cons, List.not_mem_nil, or_false] at hd
      rcases hd with rfl | rfl | rfl | rfl
      · exact ⟨by decide +kernel, Nat.zero_le _⟩
      all_goals exact .int _ _
    · rw [eqv_head]
      exact q H4 ((q1.trans q3).trans q4)
  rename_i c2
  rw [if_neg c2] at q
  walk_at "xs"
  refine x_ixT ht1 (v := .str r.word) (by rfl) ?_
  walk_at "xs"
  walk_at "if"
  · rename_i c
    rw [if_pos (.inl c)] at q
    walk_at "xs"
    exact q H1 q1
  rename_i c3
  walk_at "xs"
  refine x_ixT ht1 (v := .int r.at_) (by rfl) ?_
  walk_at "xs"
  refine x_notInNI sA ?_
  walk_at "xs"
  walk_at "if"
  · rename_i c
    rw [if_pos (.inr (.inl c))] at q
    walk_at "xs"
    exact q H1 q1
  rename_i c4
  obtain ⟨x, hx, ex⟩ := List.mem_map.mp c4
  have nx := ok.w x (List.mem_filter.mp hx).1
  walk_at "xs"
  refine x_ixT ht1 (v := .int r.at_) (by rfl) ?_
  walk_at "xs"
  refine x_ixT ht1 (v := .int r.turn) (by rfl) ?_
  walk_at "xs"
  walk_at "if"
  · rename_i c
    rw [if_pos (.inr (.inr c))] at q
    walk_at "xs"
    exact q H1 q1
  rename_i c5
  rw [if_neg (fun z => z.elim (fun z => z c3) fun z => z.elim (fun z => z c4) c5)] at q
  have wne : stillB k r ≠ [] := fun z => by rw [z] at hx; cases hx
  have w0 : atI (nI (stillB k r)) 0 = some (.int ((stillB k r).getD 0 0 : Nat)) := by
    cases hq : stillB k r with
    | nil => exact absurd hq wne
    | cons y l => exact at_zero
  cases hb : k.b with
  | false =>
    rw [hb] at q
    walk_at "xs"
    refine x_ixT ht1 (v := .int r.at_) (by rfl) ?_
    walk_at "xs"
    refine x_ixL sA w0 ?_
    walk_at "xs"
    walk_at "if"
    · rename_i c6
      rw [if_pos (.inl ⟨rfl, c6⟩)] at q
      walk_at "xs"
      exact q H1 q1
    rename_i c6
    walk_at "xs"
    refine x_ixT ht1 (v := .int r.share) (by rfl) ?_
    walk_at "xs"
    walk_at "if"
    · rename_i d1
      rw [if_pos (.inr (.inl d1))] at q
      walk_at "xs"
      exact q H1 q1
    rename_i d1
    walk_at "xs"
    refine x_ixT ht1 (v := .int r.coins) (by rfl) ?_
    walk_at "xs"
    walk_at "if"
    · rename_i d1b
      rw [if_pos (.inr (.inr d1b))] at q
      walk_at "xs"
      exact q H1 q1
    rename_i d1b
    rw [if_neg (fun z => z.elim (fun z => z.2 c6) fun z => by omega)] at q
    walk_at "xs"
    refine x_ixT ht1 (v := .int r.share) (by rfl) ?_
    walk_at "xs"
    walk_at "if"
    · rename_i d2
      walk_at "xs"
      rw [if_pos ⟨d2, .inl rfl⟩] at q
      exact q H1 q1
    · rename_i d2
      rw [if_neg (fun z => d2 z.1)] at q
      walk_at "xs"
      refine x_ixT ht1 (v := .int r.coins) (by rfl) ?_
      walk_at "xs"
      refine x_ixT ht1 (v := .int r.share) (by rfl) ?_
      walk_at "xs"
      exact q H1 q1
  | true =>
    rw [hb] at q
    walk_at "xs"
    refine x_ixT ht1 (v := .int r.share) (by rfl) ?_
    walk_at "xs"
    walk_at "if"
    · rename_i d1
      rw [if_pos (.inr (.inl d1))] at q
      walk_at "xs"
      exact q H1 q1
    rename_i d1
    walk_at "xs"
    refine x_ixT ht1 (v := .int r.coins) (by rfl) ?_
    walk_at "xs"
    walk_at "if"
    · rename_i d1b
      rw [if_pos (.inr (.inr d1b))] at q
      walk_at "xs"
      exact q H1 q1
    rename_i d1b
    rw [if_neg (fun z => z.elim (fun z => by cases z.1) fun z => by omega)] at q
    walk_at "xs"
    refine x_ixT ht1 (v := .int r.share) (by rfl) ?_
    walk_at "xs"
    walk_at "if"
    · rename_i d2
      walk_at "xs"
      walk_at "if"
      · rename_i d3
        rw [if_pos ⟨d2, .inr (by omega)⟩] at q
        walk_at "xs"
        exact q H1 q1
      · rename_i d3
        rw [if_neg (fun z => z.2.elim (fun y => by cases y) fun y => by omega)] at q
        walk_at "xs"
        refine x_ixT ht1 (v := .int r.coins) (by rfl) ?_
        walk_at "xs"
        refine x_ixT ht1 (v := .int r.share) (by rfl) ?_
        walk_at "xs"
        exact q H1 q1
    · rename_i d2
      rw [if_neg (fun z => d2 z.1)] at q
      walk_at "xs"
      refine x_ixT ht1 (v := .int r.coins) (by rfl) ?_
      walk_at "xs"
      refine x_ixT ht1 (v := .int r.share) (by rfl) ?_
      walk_at "xs"
      exact q H1 q1

end Su
namespace Su
open PySem L2
local macro_rules | `(tactic| walk_at "side") => `(tactic| first | assumption | (show (0 : Int) < _; omega) | (show (0 : Int) ≤ _; omega) | (show (0 : Int) < _; split <;> omega) | (show _ ∨ _; omega) | (show _ ∧ _; omega) | exact ⟨by decide, by decide, by decide⟩ | exact ⟨by first | assumption | omega, by first | assumption | omega⟩)
local macro_rules | `(tactic| walk_at "x") => `(tactic| first
  | with_reducible refine Su.x_seq ?_ | with_reducible refine Su.x_asg ?_ | with_reducible refine Su.x_gname ?_ | with_reducible refine Su.x_drop ?_ | with_reducible refine Su.x_ret ?_ | with_reducible refine Su.x_ifS ?_
  | ((with_reducible show L2.tVar _ _ _ _); refine Su.x_var rfl ?_) | with_reducible refine Su.x_c ?_ | with_reducible refine Su.x_op ?_ | with_reducible refine Su.x_rI0 ?_ | ((with_reducible refine Su.x_rI ?_ ?_); focus walk_at "side")
  | ((with_reducible show L2.rIxL _ (L2.V.ref _) (L2.V.int _) _ _); refine Su.x_ixI (by assumption) (by first | decide | omega) (by omega) ?_) | with_reducible refine Su.x_isi_int_int ?_ | with_reducible refine Su.x_isi_int_bool ?_ | with_reducible refine Su.x_isi_int_str ?_ | with_reducible refine Su.x_isi_int_list ?_ | with_reducible refine Su.x_isi_int_tuple ?_ | with_reducible refine Su.x_isi_bool_int ?_ | with_reducible refine Su.x_isi_bool_bool ?_ | with_reducible refine Su.x_isi_bool_str ?_ | with_reducible refine Su.x_isi_bool_list ?_ | with_reducible refine Su.x_isi_bool_tuple ?_ | with_reducible refine Su.x_isi_str_int ?_ | with_reducible refine Su.x_isi_str_bool ?_ | with_reducible refine Su.x_isi_str_str ?_ | with_reducible refine Su.x_isi_str_list ?_ | with_reducible refine Su.x_isi_str_tuple ?_ | with_reducible refine Su.x_isi_NoneType_int ?_ | with_reducible refine Su.x_isi_NoneType_bool ?_ | with_reducible refine Su.x_isi_NoneType_str ?_ | with_reducible refine Su.x_isi_NoneType_list ?_ | with_reducible refine Su.x_isi_NoneType_tuple ?_ | with_reducible refine Su.x_rGt ?_ | with_reducible refine Su.x_rGe ?_ | with_reducible refine Su.x_iteF ?_ | with_reducible refine Su.x_iteT ?_ | with_reducible refine Su.x_iteNT ?_ | with_reducible refine Su.x_iteNF ?_ | with_reducible refine Su.x_eqI ?_ | with_reducible refine Su.x_neI ?_ | with_reducible refine Su.x_eqS ?_ | with_reducible refine Su.x_neS ?_ | with_reducible refine Su.x_eqB ?_ | with_reducible refine Su.x_neB ?_
  | with_reducible refine Su.x_test ?_ | with_reducible refine Su.x_tB ?_ | with_reducible refine Su.x_isB ?_ | with_reducible refine Su.x_isB' ?_ | with_reducible refine Su.x_not ?_ | with_reducible refine Su.x_and ?_ | with_reducible refine Su.x_or ?_
  | with_reducible refine Su.x_andV ?_ | with_reducible refine Su.x_orV ?_ | with_reducible refine Su.x_notV ?_ | with_reducible refine Su.x_chain ?_ | with_reducible refine Su.x_nil ?_ | with_reducible refine Su.x_cons ?_ | with_reducible refine Su.x_cb ?_ | with_reducible refine Su.x_call ?_
  | with_reducible refine Su.x_un ?_ | with_reducible refine Su.x_rU ?_ | with_reducible refine Su.x_abs ?_ | with_reducible refine Su.x_max2 ?_ | with_reducible refine Su.x_min2 ?_ | with_reducible refine Su.x_int1 ?_ | with_reducible refine Su.x_intB ?_
  | with_reducible refine Su.x_lst ?_ | with_reducible refine Su.x_tup ?_ | with_reducible refine Su.x_bmL ?_ | with_reducible refine Su.x_next ?_ | with_reducible refine Su.x_for ?_ | with_reducible refine Su.x_iList ?_ | with_reducible refine Su.x_iRng1 ?_ | with_reducible refine Su.x_iRng2 ?_ | with_reducible refine Su.x_whileN ?_ | with_reducible refine Su.x_iEnum ?_ | with_reducible refine Su.x_iZip ?_ | with_reducible refine Su.x_iZipA ?_ | with_reducible refine Su.x_iTup ?_ | with_reducible refine Su.x_gcons ?_ | with_reducible refine Su.x_gnil ?_ | with_reducible refine Su.x_gsub ?_ | with_reducible refine Su.x_yes ?_ | with_reducible refine Su.x_lc ?_ | with_reducible refine Su.x_sl ?_ | with_reducible refine Su.x_nopart ?_ | with_reducible refine Su.x_part ?_ | with_reducible refine Su.x_isI ?_ | with_reducible refine Su.x_lstRg ?_ | with_reducible refine Su.x_rg1 ?_ | with_reducible refine Su.x_augS ?_ | with_reducible refine Su.x_ipI ?_ | ((with_reducible show L2.tAug _ _ _ _ _ _); refine Su.x_aug rfl ?_) | with_reducible refine Su.x_callS ?_ | with_reducible refine Su.x_tryAs ?_)
local macro_rules | `(tactic| walk_at "xs") => `(tactic| repeat walk_at "x")
local macro_rules | `(tactic| walk_at "if") => `(tactic| first | with_reducible refine Su.x_iteD (fun c => ?_) (fun c => ?_) | with_reducible refine Su.x_iteN (fun c => ?_) (fun c => ?_) | with_reducible refine Su.x_ite (fun c => ?_) (fun c => ?_))
local macro_rules | `(tactic| walk_at "x") => `(tactic| first | with_reducible refine Su.x_m1 ?_ | with_reducible refine Su.x_strE ?_ | with_reducible refine Su.x_m0 ?_ | with_reducible refine Su.x_dnew ?_ | with_reducible refine Su.x_dput ?_ | with_reducible refine Su.x_dgetE ?_ | with_reducible refine Su.x_dget2 ?_ | with_reducible refine Su.x_daug ?_ | with_reducible refine Su.x_din ?_ | with_reducible refine Su.x_dnin ?_ | with_reducible refine Su.x_brk ?_ | with_reducible refine Su.x_retN ?_)
/-! _law_spoilt of k36: a report is spoilt -/
structure RowL (H : Hp) (P f g : Addr) (r : RepG) : Prop where
  cp : H P = some (.lst [.int r.turn, .str r.word, .int r.at_, .int r.coins, .int r.share, .ref f, .ref g])
  cf : H f = some (.lst (r.fallen.map V.int))
  cg : H g = some (.lst (r.helped.map V.int))
  nf : f ≠ P
  ng : g ≠ P
  nfg : f ≠ g
structure SpOk (i : Nat) (r : RepG) : Prop where
  w : PyData.strOk r.word = true
  f : r.fallen.length ≤ 100 + i
  h : r.helped.length ≤ 100 + i
theorem SpOk.mono {i j : Nat} {r : RepG} (h : SpOk i r) (ij : i ≤ j) : SpOk j r := ⟨h.w, by have := h.f; omega, by have := h.h; omega⟩
structure SpAt (H0 : Hp) (P : Addr) (i : Nat) (H : Hp) (f g : Addr) (r : RepG) : Prop where
  s : Same H0 H
  nf : H0 f = none
  ng : H0 g = none
  ro : RowL H P f g r
  ok : SpOk i r
def SpN (H0 : Hp) (t P : Addr) (way raw : Int) (n i : Nat) (σ : St) (H : Hp) : Prop := ∃ f g r, σ = [some (.ref t), some (.int way), some (.int raw), some (.int n), some (.ref P)] ∧ SpAt H0 P i H f g r
theorem SpAt.same {H0 H H1 : Hp} {P f g : Addr} {i : Nat} {r : RepG} (h : SpAt H0 P i H f g r) (s : Same H H1) : SpAt H0 P i H1 f g r := ⟨h.s.trans s, h.nf, h.ng, ⟨s _ _ h.ro.cp, s _ _ h.ro.cf, s _ _ h.ro.cg, h.ro.nf, h.ro.ng, h.ro.nfg⟩, h.ok⟩
theorem SpAt.next {H0 H : Hp} {P f g : Addr} {i : Nat} {r : RepG} (h : SpAt H0 P i H f g r) : SpAt H0 P (i + 1) H f g r := ⟨h.s, h.nf, h.ng, h.ro, h.ok.mono (Nat.le_succ i)⟩
/-- a cell of the row is set -/
theorem SpAt.cell {H0 H : Hp} {P f g : Addr} {i : Nat} {r r' : RepG} (h : SpAt H0 P i H f g r) (nP : H0 P = none) (ef : r'.fallen = r.fallen) (eg : r'.helped = r.helped) (ok : PyData.strOk r'.word = true) :
    SpAt H0 P (i + 1) (upd H P (.lst [.int r'.turn, .str r'.word, .int r'.at_, .int r'.coins, .int r'.share, .ref f, .ref g])) f g r' :=
  ⟨same_upd h.s nP, h.nf, h.ng, ⟨upd_same, by rw [upd_ne h.ro.nf, ef]; exact h.ro.cf, by rw [upd_ne h.ro.ng, eg]; exact h.ro.cg, h.ro.nf, h.ro.ng, h.ro.nfg⟩, ⟨ok, by rw [ef]; have := h.ok.f; omega, by rw [eg]; have := h.ok.h; omega⟩⟩
/-- another list stands for the fallen ones -/
theorem SpAt.newF {H0 H H1 : Hp} {P f g f' : Addr} {i : Nat} {r : RepG} {l : List Int} (h : SpAt H0 P i H f g r) (nP : H0 P = none) (n : H f' = none) (s : Same H H1) (hf : H1 f' = some (.lst (l.map V.int))) (hl : l.length ≤ 100 + i + 1) :
    SpAt H0 P (i + 1) (upd H1 P (.lst [.int r.turn, .str r.word, .int r.at_, .int r.coins, .int r.share, .ref f', .ref g])) f' g { r with fallen := l } := by
  have n1 : f' ≠ P := fun z => by rw [z, h.ro.cp] at n; cases n
  have n2 : f' ≠ g := fun z => by rw [z, h.ro.cg] at n; cases n
  exact ⟨same_upd (h.s.trans s) nP, none_up h.s n, h.ng, ⟨upd_same, by rw [upd_ne n1]; exact hf, by rw [upd_ne h.ro.ng]; exact s _ _ h.ro.cg, n1, h.ro.ng, n2⟩, ⟨h.ok.w, hl, by have := h.ok.h; show r.helped.length ≤ _; omega⟩⟩
theorem SpAt.newG {H0 H H1 : Hp} {P f g g' : Addr} {i : Nat} {r : RepG} {l : List Int} (h : SpAt H0 P i H f g r) (nP : H0 P = none) (n : H g' = none) (s : Same H H1) (hg : H1 g' = some (.lst (l.map V.int))) (hl : l.length ≤ 100 + i + 1) :
    SpAt H0 P (i + 1) (upd H1 P (.lst [.int r.turn, .str r.word, .int r.at_, .int r.coins, .int r.share, .ref f, .ref g'])) f g' { r with helped := l } := by
  have n1 : g' ≠ P := fun z => by rw [z, h.ro.cp] at n; cases n
  have n2 : f ≠ g' := fun z => by rw [← z, h.ro.cf] at n; cases n
  exact ⟨same_upd (h.s.trans s) nP, h.nf, none_up h.s n, ⟨upd_same, by rw [upd_ne h.ro.nf]; exact s _ _ h.ro.cf, by rw [upd_ne n1]; exact hg, h.ro.nf, n1, n2⟩, ⟨h.ok.w, by have := h.ok.f; show r.fallen.length ≤ _; omega, hl⟩⟩
theorem SpAt.addF {H0 H : Hp} {P f g : Addr} {i : Nat} {r : RepG} {x : Int} (h : SpAt H0 P i H f g r) : SpAt H0 P (i + 1) (upd H f (.lst (r.fallen.map V.int ++ [.int x]))) f g { r with fallen := r.fallen ++ [x] } := by
  refine ⟨same_upd h.s h.nf, h.nf, h.ng, ⟨by rw [upd_ne h.ro.nf.symm]; exact h.ro.cp, by rw [upd_same, List.map_append]; rfl, by rw [upd_ne h.ro.nfg.symm]; exact h.ro.cg, h.ro.nf, h.ro.ng, h.ro.nfg⟩, ⟨h.ok.w, ?_, by have := h.ok.h; show r.helped.length ≤ _; omega⟩⟩
  show (r.fallen ++ [x]).length ≤ _
  rw [List.length_append, List.length_singleton]
  have := h.ok.f; omega
theorem SpAt.addG {H0 H : Hp} {P f g : Addr} {i : Nat} {r : RepG} {x : Int} (h : SpAt H0 P i H f g r) : SpAt H0 P (i + 1) (upd H g (.lst (r.helped.map V.int ++ [.int x]))) f g { r with helped := r.helped ++ [x] } := by
  refine ⟨same_upd h.s h.ng, h.nf, h.ng, ⟨by rw [upd_ne h.ro.ng.symm]; exact h.ro.cp, by rw [upd_ne h.ro.nfg]; exact h.ro.cf, by rw [upd_same, List.map_append]; rfl, h.ro.nf, h.ro.ng, h.ro.nfg⟩, ⟨h.ok.w, by have := h.ok.f; show r.fallen.length ≤ _; omega, ?_⟩⟩
  show (r.helped ++ [x]).length ≤ _
  rw [List.length_append, List.length_singleton]
  have := h.ok.h; omega
theorem al_catG {H : Hp} {Q : VK} {l b : Addr} {xs zs : List V} (h1 : H l = some (.lst xs)) (h2 : H b = some (.lst zs)) (hn : xs.length + zs.length ≤ 100000) (h : ∀ p H', H p = none → Same H H' → H' p = some (.lst (xs ++ zs)) → Q (.ref p) H') : rCat (.ref l) (.ref b) H Q := ⟨l, b, xs, zs, rfl, rfl, h1, h2, Nat.le_of_lt (small hn), fun p n => h p _ n (same_new (Same.refl H) n) upd_same⟩
theorem x_revI {K : PySem.W.Frag} {H : Hp} {Q : VK} {te : TE} {σ : St} (h : te σ H fun x H1 => ∃ a xs, x = .ref a ∧ SqL K H1 a xs ∧ ∀ p, H1 p = none → Q (.ref p) (upd H1 p (.lst xs.reverse))) : tRevL K te σ H Q := h
theorem x_tupOfL {K : PySem.W.Frag} {H : Hp} {Q : VK} {p : Addr} {ys : List V} (e : SqL K H p ys) (h : ∀ q H', H q = none → Same H H' → H' q = some (.tup ys) → Q (.ref q) H') : rTupleOf K [.ref p] H Q := ⟨p, ys, rfl, .inl ⟨e, fun l n => h l _ n (same_new (Same.refl H) n) upd_same⟩⟩
theorem cutV_i {l : List Int} {lo hi : Option Int} : ∃ m : List Int, cutV (l.map V.int) lo hi = m.map V.int ∧ m.length ≤ l.length := by
  unfold cutV
  rw [← List.map_drop, ← List.map_take]
  exact ⟨_, rfl, by rw [List.length_take, List.length_drop]; omega⟩
theorem cutV_1 {l : List Int} {hi : Option Int} : ∃ m : List Int, cutV (l.map V.int) (some (-1)) hi = m.map V.int ∧ m.length ≤ 1 := by
  unfold cutV HT.sIx
  simp only [List.length_map, show ((-1 : Int) < 0) from by decide, if_pos]
  rw [← List.map_drop, ← List.map_take]
  refine ⟨_, rfl, ?_⟩
  rw [List.length_take, List.length_drop]
  omega
def sp_law_spoilt (K : PySem.W.Frag) : Sp := fun vs H Q _ => ∃ (v : V) (r : RepG) (way raw : Int) (n : Nat), vs = [v, .int way, .int raw, .int n] ∧ Dp K H v (dRepG r) ∧ (r.word = ("box" : Str) ∨ r.word = ("draw" : Str)) ∧ 2 ≤ n ∧ n ≤ 20 ∧ 0 ≤ way ∧ r.fallen.length ≤ 100 ∧ r.helped.length ≤ 100 ∧
  ∀ p' f g H' r', Same H H' → RowAt (nw H H') p' f g r' → SpOk 100 r' → Q (.ref p') H'
abbrev N_law_spoilt : List Str := ["_law_report", "_law_way", "_law_raw", "_law_size", "_law_row"]
def t_law_spoilt (K : PySem.W.Frag) : TS :=
 (tSeq (tAsg (tLst (tCons (tOp (rIxT K) (tVar 0) (tC (.int 0))) (tCons (tOp (rIxT K) (tVar 0) (tC (.int 1))) (tCons (tOp (rIxT K) (tVar 0) (tC (.int 2))) (tCons (tOp (rIxT K) (tVar 0) (tC (.int 3))) (tCons (tOp (rIxT K) (tVar 0) (tC (.int 4))) (tCons (tCB (rListOf K) (tCons (tOp (rIxT K) (tVar 0) (tC (.int 5))) tNil)) (tCons (tCB (rListOf K) (tCons (tOp (rIxT K) (tVar 0) (tC (.int 6))) tNil)) tNil)))))))) (gName 4))
 (C8.tCut (tIfS (tTest (tOp rEq (tVar 1) (tC (.int 0))))
 (tAugS (tVar 4) (tC (.int 0)) (tOp (rIxL K) (tLst (tCons (tC (.int 1)) (tCons (tUn rNeg (tC (.int 1))) (tCons (tVar 3) tNil)))) (tOp rMod (tVar 2) (tC (.int 3)))) (rIxL K) (ipI fun i j => i + j) rSetL)
 tNext)
 (C8.tCut (tIfS (tTest (tOp rEq (tVar 1) (tC (.int 1))))
 (tAsg (tOp (rIxL K) (tLst (tCons (tDGet (tDisp [((tC (.str "box")), (tC (.str "draw"))), ((tC (.str "draw")), (tC (.str "box")))]) (tOp (rIxT K) (tVar 0) (tC (.int 1)))) (tCons (tC (.str "")) (tCons (tC (.str "Draw")) (tCons (tC (.str "boxed")) tNil))))) (tOp rMod (tVar 2) (tC (.int 4)))) (gSub (tVar 4) (tC (.int 1)) rSetL))
 tNext)
 (C8.tCut (tIfS (tTest (tOp rEq (tVar 1) (tC (.int 2))))
 (tAsg (tOp (rIxL K) (tLst (tCons (tUn rNeg (tC (.int 1))) (tCons (tOp rMod (tOp rDiv (tVar 2) (tC (.int 7))) (tVar 3)) (tCons (tVar 3) (tCons (tUn rNeg (tC (.int 2))) tNil))))) (tOp rMod (tVar 2) (tC (.int 4)))) (gSub (tVar 4) (tC (.int 2)) rSetL))
 tNext)
 (C8.tCut (tIfS (tTest (tOp rEq (tVar 1) (tC (.int 3))))
 (tAugS (tVar 4) (tC (.int 3)) (tOp (rIxL K) (tLst (tCons (tC (.int 1)) (tCons (tUn rNeg (tC (.int 1))) (tCons (tC (.int 7)) (tCons (tOp rSub (tUn rNeg (tOp (rIxL K) (tVar 4) (tC (.int 3)))) (tC (.int 1))) tNil))))) (tOp rMod (tVar 2) (tC (.int 4)))) (rIxL K) (ipI fun i j => i + j) rSetL)
 tNext)
 (C8.tCut (tIfS (tTest (tOp rEq (tVar 1) (tC (.int 4))))
 (tAugS (tVar 4) (tC (.int 4)) (tOp (rIxL K) (tLst (tCons (tC (.int 1)) (tCons (tUn rNeg (tC (.int 1))) (tCons (tC (.int 2)) (tCons (tUn rNeg (tC (.int 5))) tNil))))) (tOp rMod (tVar 2) (tC (.int 4)))) (rIxL K) (ipI fun i j => i + j) rSetL)
 tNext)
 (C8.tCut (tIfS (tOr (tTest (tOp rEq (tVar 1) (tC (.int 5)))) (tTest (tOp rEq (tVar 1) (tC (.int 6)))))
 (tSeq (tDrop (tBM K "list" rAppend (tOp (rIxL K) (tVar 4) (tVar 1)) (tCons (tOp rSub (tOp rMod (tOp rDiv (tVar 2) (tC (.int 3))) (tOp rAdd (tVar 3) (tC (.int 2)))) (tC (.int 1))) tNil)))
 (tIfS (tTest (tOp rGt (tOp rMod (tVar 2) (tC (.int 3))) (tC (.int 0))))
 (tAsg (tCB (rSortedI K) (tCons (tOp (rIxL K) (tVar 4) (tVar 1)) tNil)) (gSub (tVar 4) (tVar 1) rSetL))
 tNext))
 tNext)
 (C8.tCut (tIfS (tTest (tOp rEq (tVar 1) (tC (.int 7))))
 (tAsg (tSl (rSlL K) (tOp (rIxL K) (tVar 4) (tC (.int 5))) (tPart (tC (.int 1))) tNoPart) (gSub (tVar 4) (tC (.int 5)) rSetL))
 tNext)
 (C8.tCut (tIfS (tTest (tOp rEq (tVar 1) (tC (.int 8))))
 (tSeq (tAsg (tRevL K (tOp (rIxL K) (tVar 4) (tC (.int 5)))) (gSub (tVar 4) (tC (.int 5)) rSetL))
 (tAsg (tRevL K (tOp (rIxL K) (tVar 4) (tC (.int 6)))) (gSub (tVar 4) (tC (.int 6)) rSetL)))
 tNext)
 (C8.tCut (tIfS (tTest (tOp rEq (tVar 1) (tC (.int 9))))
 (tAsg (tOp rCat (tOp (rIxL K) (tVar 4) (tC (.int 6))) (tSl (rSlL K) (tOp (rIxL K) (tVar 4) (tC (.int 6))) (tPart (tUn rNeg (tC (.int 1)))) tNoPart)) (gSub (tVar 4) (tC (.int 6)) rSetL))
 tNext)
 (tRet (tCB (rTupleOf K) (tCons (tVar 4) tNil)))))))))))))

theorem len_law_spoilt {K : PySem.W.Frag} : ∀ vs H Q E, sp_law_spoilt K vs H Q E → vs.length = ["a", "b", "c", "d"].length := by
  rintro vs H Q E ⟨_, _, _, _, _, rfl, _⟩; rfl
theorem pure_law_spoilt {K : PySem.W.Frag} {vs : List V} {H : Hp} {Q : VK} {E : XK} (h : sp_law_spoilt K vs H Q E) : t_law_spoilt K { nx := fun _ H' => Q .non H', rt := Q } (start N_law_spoilt vs) H := by
  obtain ⟨v, r, way, raw, n, rfl, hv, hw, n2, n20, w0, fl, gl, q⟩ := h
  obtain ⟨t, f0, g0, rfl, ht, hf, hg⟩ := dp_repG hv
  unfold t_law_spoilt
  walk_at "xs"
  refine x_ixT ht (v := .int r.turn) (by rfl) ?_
  walk_at "xs"
  refine x_ixT ht (v := .str r.word) (by rfl) ?_
  walk_at "xs"
  refine x_ixT ht (v := .int r.at_) (by rfl) ?_
  walk_at "xs"
  refine x_ixT ht (v := .int r.coins) (by rfl) ?_
  walk_at "xs"
  refine x_ixT ht (v := .int r.share) (by rfl) ?_
  walk_at "xs"
  refine x_ixT ht (v := .ref f0) (by rfl) ?_
  walk_at "xs"
  refine al_list hf fun f H1 nf q1 hf1 => ?_
  walk_at "xs"
  refine x_ixT (seqT_same q1 ht) (v := .ref g0) (by rfl) ?_
  walk_at "xs"
  refine al_list (q1.seq hg) fun g H2 ng q2 hg2 => ?_
  walk_at "xs"
  refine al_lst fun P H3 nP q3 hP => ?_
  have q02 := q1.trans q2
  have nP0 := none_up q02 nP
  have hf3 := q3 _ _ (q2 _ _ hf1)
  have hg3 := q3 _ _ hg2
  have ok0 : PyData.strOk r.word = true := by rcases hw with e | e <;> rw [e] <;> decide +kernel
  have S0 : SpAt H P 0 H3 f g r := ⟨q02.trans q3, nf, none_up q1 ng, ⟨hP, hf3, hg3, fun z => (by have y := q2 _ _ hf1; rw [z, nP] at y; cases y), fun z => (by rw [z, nP] at hg2; cases hg2), fun z => (by rw [← z, hf1] at ng; cases ng)⟩, ⟨ok0, fl, gl⟩⟩
  have ht3 := seqT_same (q02.trans q3) ht
  clear hP hf3 hg3 hf1 hg2 q3 q2 q1 q02
  walk_at "xs"
  refine x_cut (fun σ H' => SpN H t P way raw n 1 σ H') ?_ ?_
  · walk_at "xs"
    walk_at "if"
    · walk_at "xs"
      refine x_ixL (SqL.of S0.ro.cp) (v := .int r.turn) (by rfl) ?_
      walk_at "xs"
      refine al_lst fun m H4 nm q4 hm => ?_
      walk_at "xs"
      refine x_ixI (xs := [1, -1, n]) hm (by omega) (by show _ < (3 : Int); omega) ?_
      walk_at "xs"
      have S1 := S0.same q4
      refine x_setL S1.ro.cp (by decide) (by show _ < (7 : Int); decide) ?_
      exact ⟨f, g, _, rfl, S1.cell (r' := { r with turn := r.turn + [1, -1, (n : Int)].getD (raw % 3).toNat 0 }) nP0 rfl rfl S1.ok.w⟩
    · walk_at "xs"
      exact ⟨f, g, r, rfl, S0.next⟩
  clear S0 ok0
  rintro _ H4 ⟨f, g, r1, rfl, S0⟩
  refine x_cut (fun σ H' => SpN H t P way raw n 2 σ H') ?_ ?_
  · walk_at "xs"
    walk_at "if"
    · walk_at "xs"
      refine x_disp fun D nD => ?_
      refine x_pc ?_
      walk_at "xs"
      refine x_pc ?_
      walk_at "xs"
      refine x_pn ?_
      refine ⟨upd_same, [(Sum.inr "box", V.str "draw"), (Sum.inr "draw", .str "box")], rfl, by show 2 ≤ 15; decide, ?_⟩
      rw [upd_upd]
      have qD : Same H4 (upd H4 D (.dK (mergeK [] [(Sum.inr "box", V.str "draw"), (Sum.inr "draw", .str "box")]))) := same_new (Same.refl _) nD
      have hD : upd H4 D (.dK (mergeK [] [(Sum.inr "box", V.str "draw"), (Sum.inr "draw", .str "box")])) D = some (.dK (mergeK [] [(Sum.inr "box", V.str "draw"), (Sum.inr "draw", .str "box")])) := upd_same
      generalize upd H4 D (.dK (mergeK [] [(Sum.inr "box", V.str "draw"), (Sum.inr "draw", .str "box")])) = H5 at qD hD ⊢
      have S1 := S0.same qD
      walk_at "xs"
      refine x_ixT (seqT_same (S1.s) ht) (v := .str r.word) (by rfl) ?_
      obtain ⟨o, ho, hok⟩ : ∃ o : Str, valV (mergeK [] [((Sum.inr "box" : Key), V.str "draw"), (Sum.inr "draw", .str "box")]) (Sum.inr r.word) = some (.str o) ∧ PyData.strOk o = true := by
        rcases hw with e | e <;> rw [e]
        · exact ⟨"draw", by rfl, by decide +kernel⟩
        · exact ⟨"box", by rfl, by decide +kernel⟩
      refine ⟨D, .str o, rfl, ?_, ?_⟩
      · have := DGet.k (k := Sum.inr r.word) hD
        rw [ho] at this
        exact this
      walk_at "xs"
      refine al_lst fun m H6 nm q6 hm => ?_
      obtain ⟨w', e, wok⟩ : ∃ w' : Str, atI [V.str o, .str "", .str "Draw", .str "boxed"] (raw % 4) = some (.str w') ∧ PyData.strOk w' = true := by
        rcases (by omega : raw % 4 = 0 ∨ raw % 4 = 1 ∨ raw % 4 = 2 ∨ raw % 4 = 3) with e | e | e | e <;> rw [e]
        · exact ⟨_, rfl, hok⟩
        · exact ⟨_, rfl, by decide +kernel⟩
        · exact ⟨_, rfl, by decide +kernel⟩
        · exact ⟨_, rfl, by decide +kernel⟩
      walk_at "xs"
      refine x_ixL (SqL.of hm) e ?_
      have S2 := S1.same q6
      walk_at "xs"
      refine x_setL S2.ro.cp (by decide) (by show _ < (7 : Int); decide) ?_
      exact ⟨f, g, _, rfl, S2.cell (r' := { r1 with word := w' }) nP0 rfl rfl wok⟩
    · walk_at "xs"
      exact ⟨f, g, r1, rfl, S0.next⟩
  clear S0
  rintro _ H4 ⟨f, g, r1, rfl, S0⟩
  refine x_cut (fun σ H' => SpN H t P way raw n 3 σ H') ?_ ?_
  · walk_at "xs"
    walk_at "if"
    · walk_at "xs"
      refine al_lst fun m H5 nm q5 hm => ?_
      walk_at "xs"
      refine x_ixI (xs := [-1, raw / 7 % n, n, -2]) hm (by omega) (by show _ < (4 : Int); omega) ?_
      walk_at "xs"
      have S1 := S0.same q5
      refine x_setL S1.ro.cp (by decide) (by show _ < (7 : Int); decide) ?_
      exact ⟨f, g, _, rfl, S1.cell (r' := { r1 with at_ := [-1, raw / 7 % (n : Int), (n : Int), -2].getD (raw % 4).toNat 0 }) nP0 rfl rfl S1.ok.w⟩
    · walk_at "xs"
      exact ⟨f, g, r1, rfl, S0.next⟩
  clear S0
  rintro _ H4 ⟨f, g, r1, rfl, S0⟩
  refine x_cut (fun σ H' => SpN H t P way raw n 4 σ H') ?_ ?_
  · walk_at "xs"
    walk_at "if"
    · walk_at "xs"
      refine x_ixL (SqL.of S0.ro.cp) (v := .int r1.coins) (by rfl) ?_
      walk_at "xs"
      refine x_ixL (SqL.of S0.ro.cp) (v := .int r1.coins) (by rfl) ?_
      walk_at "xs"
      refine al_lst fun m H5 nm q5 hm => ?_
      walk_at "xs"
      refine x_ixI (xs := [1, -1, 7, -r1.coins - 1]) hm (by omega) (by show _ < (4 : Int); omega) ?_
      walk_at "xs"
      have S1 := S0.same q5
      refine x_setL S1.ro.cp (by decide) (by show _ < (7 : Int); decide) ?_
      exact ⟨f, g, _, rfl, S1.cell (r' := { r1 with coins := r1.coins + [1, -1, 7, -r1.coins - 1].getD (raw % 4).toNat 0 }) nP0 rfl rfl S1.ok.w⟩
    · walk_at "xs"
      exact ⟨f, g, r1, rfl, S0.next⟩
  clear S0
  rintro _ H4 ⟨f, g, r1, rfl, S0⟩
  refine x_cut (fun σ H' => SpN H t P way raw n 5 σ H') ?_ ?_
  · walk_at "xs"
    walk_at "if"
    · walk_at "xs"
      refine x_ixL (SqL.of S0.ro.cp) (v := .int r1.share) (by rfl) ?_
      walk_at "xs"
      refine al_lst fun m H5 nm q5 hm => ?_
      walk_at "xs"
      refine x_ixI (xs := [1, -1, 2, -5]) hm (by omega) (by show _ < (4 : Int); omega) ?_
      walk_at "xs"
      have S1 := S0.same q5
      refine x_setL S1.ro.cp (by decide) (by show _ < (7 : Int); decide) ?_
      exact ⟨f, g, _, rfl, S1.cell (r' := { r1 with share := r1.share + [1, -1, 2, -5].getD (raw % 4).toNat 0 }) nP0 rfl rfl S1.ok.w⟩
    · walk_at "xs"
      exact ⟨f, g, r1, rfl, S0.next⟩
  clear S0
  rintro _ H4 ⟨f, g, r1, rfl, S0⟩
  refine x_cut (fun σ H' => SpN H t P way raw n 7 σ H') ?_ ?_
  · by_cases c5 : way = 5
    · subst c5
      walk_at "xs"
      refine x_iteT ?_
      walk_at "xs"
      refine x_ixL (SqL.of S0.ro.cp) (v := .ref f) (by rfl) ?_
      refine ⟨tyL (SqL.of S0.ro.cf), ?_⟩
      walk_at "xs"
      have fl1 := S0.ok.f
      refine x_append S0.ro.cf (small (by rw [List.length_map]; omega)) ?_
      have S1 := S0.addF (x := raw / 3 % (n + 2) - 1)
      generalize upd H4 f _ = H5 at S1 ⊢
      walk_at "xs"
      walk_at "if"
      · walk_at "xs"
        refine x_ixL (SqL.of S1.ro.cp) (v := .ref f) (by rfl) ?_
        walk_at "xs"
        refine al_sorted (ns := (r1.fallen ++ [raw / 3 % (n + 2) - 1])) (SqL.of S1.ro.cf) fun W ns H6 nW q6 pm _ hW => ?_
        have nl := pm.length_eq
        have l2 := S1.ok.f
        walk_at "xs"
        refine x_setL (S1.same q6).ro.cp (by decide) (by show _ < (7 : Int); decide) ?_
        exact ⟨W, g, _, rfl, S1.newF nP0 nW q6 hW (by rw [nl]; exact Nat.le_succ_of_le S1.ok.f)⟩
      · walk_at "xs"
        exact ⟨f, g, _, rfl, S1.next⟩
    · by_cases c6 : way = 6
      · subst c6
        walk_at "xs"
        refine x_iteF ?_
        walk_at "xs"
        refine x_iteT ?_
        walk_at "xs"
        refine x_ixL (SqL.of S0.ro.cp) (v := .ref g) (by rfl) ?_
        refine ⟨tyL (SqL.of S0.ro.cg), ?_⟩
        walk_at "xs"
        have fl1 := S0.ok.h
        refine x_append S0.ro.cg (small (by rw [List.length_map]; omega)) ?_
        have S1 := S0.addG (x := raw / 3 % (n + 2) - 1)
        generalize upd H4 g _ = H5 at S1 ⊢
        walk_at "xs"
        walk_at "if"
        · walk_at "xs"
          refine x_ixL (SqL.of S1.ro.cp) (v := .ref g) (by rfl) ?_
          walk_at "xs"
          refine al_sorted (ns := (r1.helped ++ [raw / 3 % (n + 2) - 1])) (SqL.of S1.ro.cg) fun W ns H6 nW q6 pm _ hW => ?_
          have nl := pm.length_eq
          walk_at "xs"
          refine x_setL (S1.same q6).ro.cp (by decide) (by show _ < (7 : Int); decide) ?_
          exact ⟨f, W, _, rfl, S1.newG nP0 nW q6 hW (by rw [nl]; exact Nat.le_succ_of_le S1.ok.h)⟩
        · walk_at "xs"
          exact ⟨f, g, _, rfl, S1.next⟩
      · walk_at "xs"
        rw [decide_eq_false c5]
        walk_at "xs"
        rw [decide_eq_false c6]
        walk_at "xs"
        exact ⟨f, g, r1, rfl, S0.next.next⟩
  clear S0
  rintro _ H4 ⟨f, g, r1, rfl, S0⟩
  refine x_cut (fun σ H' => SpN H t P way raw n 8 σ H') ?_ ?_
  · walk_at "xs"
    walk_at "if"
    · walk_at "xs"
      refine x_ixL (SqL.of S0.ro.cp) (v := .ref f) (by rfl) ?_
      walk_at "xs"
      refine al_slL (SqL.of S0.ro.cf) fun W H5 nW q5 hW => ?_
      obtain ⟨m, em, lm⟩ := cutV_i (l := r1.fallen) (lo := some 1) (hi := none)
      rw [em] at hW
      walk_at "xs"
      refine x_setL (S0.same q5).ro.cp (by decide) (by show _ < (7 : Int); decide) ?_
      exact ⟨W, g, _, rfl, S0.newF nP0 nW q5 hW (by have := S0.ok.f; omega)⟩
    · walk_at "xs"
      exact ⟨f, g, r1, rfl, S0.next⟩
  clear S0
  rintro _ H4 ⟨f, g, r1, rfl, S0⟩
  refine x_cut (fun σ H' => SpN H t P way raw n 10 σ H') ?_ ?_
  · walk_at "xs"
    walk_at "if"
    · walk_at "xs"
      refine x_revI ?_
      walk_at "xs"
      refine x_ixL (SqL.of S0.ro.cp) (v := .ref f) (by rfl) ?_
      refine ⟨f, _, rfl, SqL.of S0.ro.cf, fun W nW => ?_⟩
      have hW : upd H4 W (.lst ((r1.fallen.map V.int).reverse)) W = some (.lst ((r1.fallen.reverse).map V.int)) := by rw [upd_same, List.map_reverse]
      have q5 : Same H4 (upd H4 W (.lst ((r1.fallen.map V.int).reverse))) := same_new (Same.refl _) nW
      generalize upd H4 W (.lst ((r1.fallen.map V.int).reverse)) = H5 at hW q5 ⊢
      walk_at "xs"
      refine x_setL (S0.same q5).ro.cp (by decide) (by show _ < (7 : Int); decide) ?_
      have S1 := S0.newF nP0 nW q5 hW (by rw [List.length_reverse]; have := S0.ok.f; omega)
      rw [show ([V.int r1.turn, V.str r1.word, V.int r1.at_, V.int r1.coins, V.int r1.share, V.ref f, V.ref g] : List V).set (Int.toNat 5) (V.ref W) = [V.int r1.turn, V.str r1.word, V.int r1.at_, V.int r1.coins, V.int r1.share, V.ref W, V.ref g] from rfl]
      generalize upd H5 P (.lst [.int r1.turn, .str r1.word, .int r1.at_, .int r1.coins, .int r1.share, .ref W, .ref g]) = H6 at S1 ⊢
      walk_at "xs"
      refine x_revI ?_
      walk_at "xs"
      refine x_ixL (SqL.of S1.ro.cp) (v := .ref g) (by rfl) ?_
      refine ⟨g, _, rfl, SqL.of S1.ro.cg, fun Z nZ => ?_⟩
      have hZ : upd H6 Z (.lst ((r1.helped.map V.int).reverse)) Z = some (.lst ((r1.helped.reverse).map V.int)) := by rw [upd_same, List.map_reverse]
      have q7 : Same H6 (upd H6 Z (.lst ((r1.helped.map V.int).reverse))) := same_new (Same.refl _) nZ
      generalize upd H6 Z (.lst ((r1.helped.map V.int).reverse)) = H7 at hZ q7 ⊢
      walk_at "xs"
      refine x_setL (S1.same q7).ro.cp (by decide) (by show _ < (7 : Int); decide) ?_
      exact ⟨W, Z, _, rfl, S1.newG nP0 nZ q7 hZ (by rw [List.length_reverse]; have := S1.ok.h; exact Nat.le_succ_of_le this)⟩
    · walk_at "xs"
      exact ⟨f, g, r1, rfl, S0.next.next⟩
  clear S0
  rintro _ H4 ⟨f, g, r1, rfl, S0⟩
  refine x_cut (fun σ H' => SpN H t P way raw n 11 σ H') ?_ ?_
  · walk_at "xs"
    walk_at "if"
    · walk_at "xs"
      refine x_ixL (SqL.of S0.ro.cp) (v := .ref g) (by rfl) ?_
      walk_at "xs"
      refine x_ixL (SqL.of S0.ro.cp) (v := .ref g) (by rfl) ?_
      walk_at "xs"
      refine al_slL (SqL.of S0.ro.cg) fun W H5 nW q5 hW => ?_
      obtain ⟨m, em, lm⟩ := cutV_1 (l := r1.helped) (hi := none)
      rw [em] at hW
      have S1 := S0.same q5
      have l1 := S0.ok.h
      refine al_catG S1.ro.cg hW (by rw [List.length_map, List.length_map]; omega) fun Z H6 nZ q6 hZ => ?_
      rw [← List.map_append] at hZ
      walk_at "xs"
      refine x_setL (S1.same q6).ro.cp (by decide) (by show _ < (7 : Int); decide) ?_
      exact ⟨f, Z, _, rfl, S1.newG nP0 nZ q6 hZ (by rw [List.length_append]; omega)⟩
    · walk_at "xs"
      exact ⟨f, g, r1, rfl, S0.next⟩
  clear S0
  rintro _ H4 ⟨f, g, r1, rfl, S0⟩
  walk_at "xs"
  refine x_tupOfL (SqL.of S0.ro.cp) fun T H5 nT q5 hT => ?_
  exact q T f g H5 r1 (S0.s.trans q5) (RowAt.nw ⟨hT, q5 _ _ S0.ro.cf, q5 _ _ S0.ro.cg⟩ (none_up S0.s nT) S0.nf S0.ng) (S0.ok.mono (by decide))

end Su
namespace Su
open PySem L2
local macro_rules | `(tactic| walk_at "side") => `(tactic| first | assumption | (show (0 : Int) < _; omega) | (show (0 : Int) ≤ _; omega) | (show (0 : Int) < _; split <;> omega) | (show _ ∨ _; omega) | (show _ ∧ _; omega) | exact ⟨by decide, by decide, by decide⟩ | exact ⟨by first | assumption | omega, by first | assumption | omega⟩)
local macro_rules | `(tactic| walk_at "x") => `(tactic| first
  | with_reducible refine Su.x_seq ?_ | with_reducible refine Su.x_asg ?_ | with_reducible refine Su.x_gname ?_ | with_reducible refine Su.x_drop ?_ | with_reducible refine Su.x_ret ?_ | with_reducible refine Su.x_ifS ?_
  | ((with_reducible show L2.tVar _ _ _ _); refine Su.x_var rfl ?_) | with_reducible refine Su.x_c ?_ | with_reducible refine Su.x_op ?_ | with_reducible refine Su.x_rI0 ?_ | ((with_reducible refine Su.x_rI ?_ ?_); focus walk_at "side")
  | ((with_reducible show L2.rIxL _ (L2.V.ref _) (L2.V.int _) _ _); refine Su.x_ixI (by assumption) (by first | decide | omega) (by omega) ?_) | with_reducible refine Su.x_isi_int_int ?_ | with_reducible refine Su.x_isi_int_bool ?_ | with_reducible refine Su.x_isi_int_str ?_ | with_reducible refine Su.x_isi_int_list ?_ | with_reducible refine Su.x_isi_int_tuple ?_ | with_reducible refine Su.x_isi_bool_int ?_ | with_reducible refine Su.x_isi_bool_bool ?_ | with_reducible refine Su.x_isi_bool_str ?_ | with_reducible refine Su.x_isi_bool_list ?_ | with_reducible refine Su.x_isi_bool_tuple ?_ | with_reducible refine Su.x_isi_str_int ?_ | with_reducible refine Su.x_isi_str_bool ?_ | with_reducible refine Su.x_isi_str_str ?_ | with_reducible refine Su.x_isi_str_list ?_ | with_reducible refine Su.x_isi_str_tuple ?_ | with_reducible refine Su.x_isi_NoneType_int ?_ | with_reducible refine Su.x_isi_NoneType_bool ?_ | with_reducible refine Su.x_isi_NoneType_str ?_ | with_reducible refine Su.x_isi_NoneType_list ?_ | with_reducible refine Su.x_isi_NoneType_tuple ?_ | with_reducible refine Su.x_rGt ?_ | with_reducible refine Su.x_rGe ?_ | with_reducible refine Su.x_iteF ?_ | with_reducible refine Su.x_iteT ?_ | with_reducible refine Su.x_iteNT ?_ | with_reducible refine Su.x_iteNF ?_ | with_reducible refine Su.x_eqI ?_ | with_reducible refine Su.x_neI ?_ | with_reducible refine Su.x_eqS ?_ | with_reducible refine Su.x_neS ?_ | with_reducible refine Su.x_eqB ?_ | with_reducible refine Su.x_neB ?_
  | with_reducible refine Su.x_test ?_ | with_reducible refine Su.x_tB ?_ | with_reducible refine Su.x_isB ?_ | with_reducible refine Su.x_isB' ?_ | with_reducible refine Su.x_not ?_ | with_reducible refine Su.x_and ?_ | with_reducible refine Su.x_or ?_
  | with_reducible refine Su.x_andV ?_ | with_reducible refine Su.x_orV ?_ | with_reducible refine Su.x_notV ?_ | with_reducible refine Su.x_chain ?_ | with_reducible refine Su.x_nil ?_ | with_reducible refine Su.x_cons ?_ | with_reducible refine Su.x_cb ?_ | with_reducible refine Su.x_call ?_
  | with_reducible refine Su.x_un ?_ | with_reducible refine Su.x_rU ?_ | with_reducible refine Su.x_abs ?_ | with_reducible refine Su.x_max2 ?_ | with_reducible refine Su.x_min2 ?_ | with_reducible refine Su.x_int1 ?_ | with_reducible refine Su.x_intB ?_
  | with_reducible refine Su.x_lst ?_ | with_reducible refine Su.x_tup ?_ | with_reducible refine Su.x_bmL ?_ | with_reducible refine Su.x_next ?_ | with_reducible refine Su.x_for ?_ | with_reducible refine Su.x_iList ?_ | with_reducible refine Su.x_iRng1 ?_ | with_reducible refine Su.x_iRng2 ?_ | with_reducible refine Su.x_whileN ?_ | with_reducible refine Su.x_iEnum ?_ | with_reducible refine Su.x_iZip ?_ | with_reducible refine Su.x_iZipA ?_ | with_reducible refine Su.x_iTup ?_ | with_reducible refine Su.x_gcons ?_ | with_reducible refine Su.x_gnil ?_ | with_reducible refine Su.x_gsub ?_ | with_reducible refine Su.x_yes ?_ | with_reducible refine Su.x_lc ?_ | with_reducible refine Su.x_sl ?_ | with_reducible refine Su.x_nopart ?_ | with_reducible refine Su.x_part ?_ | with_reducible refine Su.x_isI ?_ | with_reducible refine Su.x_lstRg ?_ | with_reducible refine Su.x_rg1 ?_ | with_reducible refine Su.x_augS ?_ | with_reducible refine Su.x_ipI ?_ | ((with_reducible show L2.tAug _ _ _ _ _ _); refine Su.x_aug rfl ?_) | with_reducible refine Su.x_callS ?_ | with_reducible refine Su.x_tryAs ?_)
local macro_rules | `(tactic| walk_at "xs") => `(tactic| repeat walk_at "x")
local macro_rules | `(tactic| walk_at "if") => `(tactic| first | with_reducible refine Su.x_iteD (fun c => ?_) (fun c => ?_) | with_reducible refine Su.x_iteN (fun c => ?_) (fun c => ?_) | with_reducible refine Su.x_ite (fun c => ?_) (fun c => ?_))
local macro_rules | `(tactic| walk_at "x") => `(tactic| first | with_reducible refine Su.x_fld ?_ | with_reducible refine Su.x_sfld ?_ | with_reducible refine Su.x_sfldAug ?_ | with_reducible refine Su.x_meth ?_ | with_reducible refine Su.x_methW ?_ | with_reducible refine Su.x_make ?_ | with_reducible refine Su.x_makeW ?_ | with_reducible refine Su.c_stake (by assumption) ?_ | with_reducible refine Su.c_size (by assumption) ?_ | with_reducible refine Su.c_bidding (by assumption) ?_ | with_reducible refine Su.c_now (by assumption) ?_ | with_reducible refine Su.c_line (by assumption) ?_ | with_reducible refine Su.c_due (by assumption) ?_ | with_reducible refine Su.c_chest (by assumption) ?_ | with_reducible refine Su.c_state (by assumption) ?_ | with_reducible refine Su.c_when (by assumption) ?_ | with_reducible refine Su.c_pledged (by assumption) ?_ | with_reducible refine Su.c_given (by assumption) ?_ | with_reducible refine Su.c_drawn (by assumption) ?_ | with_reducible refine Su.c_shared (by assumption) ?_ | with_reducible refine Su.c_missed (by assumption) ?_ | with_reducible refine Su.c_flows (by assumption) ?_)
local macro_rules | `(tactic| walk_at "me") => `(tactic| first | refine Su.c_meth (by assumption) rfl ?_ | refine Su.so_meth (by assumption) rfl ?_)
/-! _law_first -/
def sp_law_first (K : PySem.W.Frag) : Sp := fun vs H Q _ => ∃ (t w l d R : Addr) (k : BK) (rs : List RepG), vs = [.ref t, .ref R] ∧ BookAt H t w l d k ∧ Dp K H (.ref R) (.list (rs.map dRepG)) ∧ BKok k ∧ (∀ r ∈ rs, PyData.strOk r.word = true) ∧ ∀ H', Same H H' → Q (.int (firstB k 0 rs)) H'
theorem firstB_no {k : BK} {n : Nat} {r : RepG} {l : List RepG} (h : k.can r = false) : firstB k n (r :: l) = n := by
  show (if k.can r = true then firstB (k.after r) (n + 1) l else (n : Int)) = _
  rw [h]; rfl
theorem firstB_yes {k : BK} {n : Nat} {r : RepG} {l : List RepG} (h : k.can r = true) : firstB k n (r :: l) = firstB (k.after r) (n + 1) l := if_pos h
abbrev N_law_first : List Str := ["_law_book", "_law_reports", "_law_number", "_law_report"]
def t_law_first (K : PySem.W.Frag) : TS :=
 (tSeq (tFor (iEnum K (tCons (tVar 1) tNil)) (gTup K 2 (gCons (gName 2) (gCons (gName 3) gNil)))
 (tSeq (tIfS (tNot (tB (tCall (sp_law_can K) [] E0 (tCons (tVar 0) (tCons (tVar 3) tNil)))))
 (tRet (tVar 2))
 tNext)
 (tAsg (tCall (sp_law_after K) [] E0 (tCons (tVar 0) (tCons (tVar 3) tNil))) (gName 0))))
 (tRet (tUn rNeg (tC (.int 1)))))

theorem len_law_first {K : PySem.W.Frag} : ∀ vs H Q E, sp_law_first K vs H Q E → vs.length = ["a", "b"].length := by
  rintro vs H Q E ⟨_, _, _, _, _, _, _, rfl, _⟩; rfl
theorem pure_law_first {K : PySem.W.Frag} {vs : List V} {H : Hp} {Q : VK} {E : XK} (h : sp_law_first K vs H Q E) : t_law_first K { nx := fun _ H' => Q .non H', rt := Q } (start N_law_first vs) H := by
  obtain ⟨t, w, l, d, R, k, rs, rfl, B, hr, ok, so, q⟩ := h
  obtain ⟨_, xs, e0, hx, hxs⟩ := dp_lst hr
  cases e0
  have xl := dpAll_len hxs
  rw [List.length_map] at xl
  unfold t_law_first
  walk_at "xs"
  refine ⟨R, xs, rfl, hx, for_by (turnsE (K := K) (a := R) (xs := xs)) (fun i σ H' => ∃ (u2 u3 : Option V) (t' w' l' d' : Addr) (k' : BK), σ = [some (.ref t'), some (.ref R), u2, u3] ∧ Same H H' ∧ BookAt H' t' w' l' d' k' ∧ BKok k' ∧ firstB k 0 rs = firstB k' i (rs.drop i))
    ⟨none, none, t, w, l, d, k, rfl, Same.refl _, B, ok, rfl⟩ (by rintro _ _ _ _ ⟨_, _, _, _, _, _, _, _, s, _⟩; exact s.seq hx) ?_ ?_⟩
  · rintro i y σ H3 H4 hi ⟨u2, u3, t', w', l', d', k', rfl, s3, B3, ok3, e⟩ ⟨v, hv, T, rfl, nT, s4, hT, _⟩
    obtain ⟨dd, e1, e2⟩ := dpAll_get hxs hv
    rw [List.getElem?_map] at e1
    have hi' : i < rs.length := by omega
    rw [List.getElem?_eq_getElem hi'] at e1
    cases e1
    rw [List.drop_eq_getElem_cons hi'] at e
    have sor := so _ (List.getElem_mem hi')
    generalize rs[i] = r at e2 e sor
    refine x_gtup (SqT.of hT) rfl ?_
    walk_at "xs"
    have B4 := B3.same s4
    have s04 := s3.trans s4
    refine ⟨t', w', l', d', k', v, r, rfl, B4, dp_same s04 e2, ok3, sor, fun H5 s5 => ?_⟩
    cases c : k'.can r with
    | false =>
      rw [firstB_no c] at e
      walk_at "xs"
      have := q H5 (s04.trans s5)
      rw [e] at this
      exact this
    | true =>
      rw [firstB_yes c] at e
      obtain ⟨g1, g2, a1, a2⟩ := can_at c
      walk_at "xs"
      refine ⟨t', w', l', d', k', v, r, rfl, B4.same s5, dp_same (s04.trans s5) e2, ok3, fun x hx => ?_, fun z => ?_, fun t2 w2 l2 d2 H6 s6 B6 => ?_⟩
      · obtain ⟨n, hn, e3⟩ := grows_mem g2 x hx
        exact ⟨n, ok3.d n hn, e3⟩
      · obtain ⟨n, _, e3⟩ := a2 z
        omega
      · walk_at "xs"
        exact ⟨_, _, t2, w2, l2, d2, _, rfl, (s04.trans s5).trans s6, B6.same nw_same, ok3.after a2, e⟩
  · rintro σ H3 ⟨u2, u3, t', w', l', d', k', rfl, s3, B3, ok3, e⟩
    walk_at "xs"
    have := q H3 s3
    rw [e, xl, List.drop_length] at this
    exact this

end Su
namespace Su
open PySem L2
local macro_rules | `(tactic| walk_at "side") => `(tactic| first | assumption | (show (0 : Int) < _; omega) | (show (0 : Int) ≤ _; omega) | (show (0 : Int) < _; split <;> omega) | (show _ ∨ _; omega) | (show _ ∧ _; omega) | exact ⟨by decide, by decide, by decide⟩ | exact ⟨by first | assumption | omega, by first | assumption | omega⟩)
local macro_rules | `(tactic| walk_at "x") => `(tactic| first
  | with_reducible refine Su.x_seq ?_ | with_reducible refine Su.x_asg ?_ | with_reducible refine Su.x_gname ?_ | with_reducible refine Su.x_drop ?_ | with_reducible refine Su.x_ret ?_ | with_reducible refine Su.x_ifS ?_
  | ((with_reducible show L2.tVar _ _ _ _); refine Su.x_var rfl ?_) | with_reducible refine Su.x_c ?_ | with_reducible refine Su.x_op ?_ | with_reducible refine Su.x_rI0 ?_ | ((with_reducible refine Su.x_rI ?_ ?_); focus walk_at "side")
  | ((with_reducible show L2.rIxL _ (L2.V.ref _) (L2.V.int _) _ _); refine Su.x_ixI (by assumption) (by first | decide | omega) (by omega) ?_) | with_reducible refine Su.x_isi_int_int ?_ | with_reducible refine Su.x_isi_int_bool ?_ | with_reducible refine Su.x_isi_int_str ?_ | with_reducible refine Su.x_isi_int_list ?_ | with_reducible refine Su.x_isi_int_tuple ?_ | with_reducible refine Su.x_isi_bool_int ?_ | with_reducible refine Su.x_isi_bool_bool ?_ | with_reducible refine Su.x_isi_bool_str ?_ | with_reducible refine Su.x_isi_bool_list ?_ | with_reducible refine Su.x_isi_bool_tuple ?_ | with_reducible refine Su.x_isi_str_int ?_ | with_reducible refine Su.x_isi_str_bool ?_ | with_reducible refine Su.x_isi_str_str ?_ | with_reducible refine Su.x_isi_str_list ?_ | with_reducible refine Su.x_isi_str_tuple ?_ | with_reducible refine Su.x_isi_NoneType_int ?_ | with_reducible refine Su.x_isi_NoneType_bool ?_ | with_reducible refine Su.x_isi_NoneType_str ?_ | with_reducible refine Su.x_isi_NoneType_list ?_ | with_reducible refine Su.x_isi_NoneType_tuple ?_ | with_reducible refine Su.x_rGt ?_ | with_reducible refine Su.x_rGe ?_ | with_reducible refine Su.x_iteF ?_ | with_reducible refine Su.x_iteT ?_ | with_reducible refine Su.x_iteNT ?_ | with_reducible refine Su.x_iteNF ?_ | with_reducible refine Su.x_eqI ?_ | with_reducible refine Su.x_neI ?_ | with_reducible refine Su.x_eqS ?_ | with_reducible refine Su.x_neS ?_ | with_reducible refine Su.x_eqB ?_ | with_reducible refine Su.x_neB ?_
  | with_reducible refine Su.x_test ?_ | with_reducible refine Su.x_tB ?_ | with_reducible refine Su.x_isB ?_ | with_reducible refine Su.x_isB' ?_ | with_reducible refine Su.x_not ?_ | with_reducible refine Su.x_and ?_ | with_reducible refine Su.x_or ?_
  | with_reducible refine Su.x_andV ?_ | with_reducible refine Su.x_orV ?_ | with_reducible refine Su.x_notV ?_ | with_reducible refine Su.x_chain ?_ | with_reducible refine Su.x_nil ?_ | with_reducible refine Su.x_cons ?_ | with_reducible refine Su.x_cb ?_ | with_reducible refine Su.x_call ?_
  | with_reducible refine Su.x_un ?_ | with_reducible refine Su.x_rU ?_ | with_reducible refine Su.x_abs ?_ | with_reducible refine Su.x_max2 ?_ | with_reducible refine Su.x_min2 ?_ | with_reducible refine Su.x_int1 ?_ | with_reducible refine Su.x_intB ?_
  | with_reducible refine Su.x_lst ?_ | with_reducible refine Su.x_tup ?_ | with_reducible refine Su.x_bmL ?_ | with_reducible refine Su.x_next ?_ | with_reducible refine Su.x_for ?_ | with_reducible refine Su.x_iList ?_ | with_reducible refine Su.x_iRng1 ?_ | with_reducible refine Su.x_iRng2 ?_ | with_reducible refine Su.x_whileN ?_ | with_reducible refine Su.x_iEnum ?_ | with_reducible refine Su.x_iZip ?_ | with_reducible refine Su.x_iZipA ?_ | with_reducible refine Su.x_iTup ?_ | with_reducible refine Su.x_gcons ?_ | with_reducible refine Su.x_gnil ?_ | with_reducible refine Su.x_gsub ?_ | with_reducible refine Su.x_yes ?_ | with_reducible refine Su.x_lc ?_ | with_reducible refine Su.x_sl ?_ | with_reducible refine Su.x_nopart ?_ | with_reducible refine Su.x_part ?_ | with_reducible refine Su.x_isI ?_ | with_reducible refine Su.x_lstRg ?_ | with_reducible refine Su.x_rg1 ?_ | with_reducible refine Su.x_augS ?_ | with_reducible refine Su.x_ipI ?_ | ((with_reducible show L2.tAug _ _ _ _ _ _); refine Su.x_aug rfl ?_) | with_reducible refine Su.x_callS ?_ | with_reducible refine Su.x_tryAs ?_)
local macro_rules | `(tactic| walk_at "xs") => `(tactic| repeat walk_at "x")
local macro_rules | `(tactic| walk_at "if") => `(tactic| first | with_reducible refine Su.x_iteD (fun c => ?_) (fun c => ?_) | with_reducible refine Su.x_iteN (fun c => ?_) (fun c => ?_) | with_reducible refine Su.x_ite (fun c => ?_) (fun c => ?_))
local macro_rules | `(tactic| walk_at "x") => `(tactic| first | with_reducible refine Su.x_m1 ?_ | with_reducible refine Su.x_strE ?_ | with_reducible refine Su.x_m0 ?_ | with_reducible refine Su.x_dnew ?_ | with_reducible refine Su.x_dput ?_ | with_reducible refine Su.x_dgetE ?_ | with_reducible refine Su.x_dget2 ?_ | with_reducible refine Su.x_daug ?_ | with_reducible refine Su.x_din ?_ | with_reducible refine Su.x_dnin ?_ | with_reducible refine Su.x_brk ?_ | with_reducible refine Su.x_retN ?_)
/-! _law_bent of k36: the list of reports is bent -/
theorem dpAll_drop {K : PySem.W.Frag} {H : Hp} : ∀ {vs : List V} {ds : List PyData} (k : Nat), DpAll K H vs ds → DpAll K H (vs.drop k) (ds.drop k)
  | _, _, 0, h => h
  | _, _, _ + 1, .nil => .nil
  | _, _, k + 1, .cons _ b => dpAll_drop k b
theorem dpAll_setG {K : PySem.W.Frag} {H : Hp} {v : V} {d : PyData} (hv : Dp K H v d) : ∀ {vs : List V} {ds : List PyData} (k : Nat), DpAll K H vs ds → DpAll K H (vs.set k v) (ds.set k d)
  | _, _, _, .nil => .nil
  | _, _, 0, .cons _ b => .cons hv b
  | _, _, k + 1, .cons a b => .cons a (dpAll_setG hv k b)
/-- a list of reports, its own cell apart -/
structure RL (K : PySem.W.Frag) (H : Hp) (R : Addr) (vs : List V) (rs : List RepG) : Prop where
  o : H R = some (.lst vs)
  d : DpAll K (del H R) vs (rs.map dRepG)
section
variable {K : PySem.W.Frag} {H H' : Hp} {R : Addr} {vs : List V} {rs : List RepG}
theorem RL.len (h : RL K H R vs rs) : vs.length = rs.length := by have := dpAll_len h.d; rwa [List.length_map] at this
theorem RL.same (h : RL K H R vs rs) (s : Same H H') : RL K H' R vs rs := ⟨s _ _ h.o, dpAll_same (del_mono s) h.d⟩
theorem RL.dp (h : RL K H R vs rs) : Dp K H (.ref R) (.list (rs.map dRepG)) := .lst (SqL.of h.o) (dpAll_same del_same h.d)
theorem RL.push (h : RL K H R vs rs) {v : V} {r : RepG} (hv : Dp K (del H R) v (dRepG r)) : RL K (upd H R (.lst (vs ++ [v]))) R (vs ++ [v]) (rs ++ [r]) :=
  ⟨upd_same, by rw [del_upd, List.map_append]; exact dpAll_app h.d (.cons hv .nil)⟩
theorem RL.set (h : RL K H R vs rs) {v : V} {r : RepG} (k : Nat) (hv : Dp K (del H R) v (dRepG r)) : RL K (upd H R (.lst (vs.set k v))) R (vs.set k v) (rs.set k r) :=
  ⟨upd_same, by rw [del_upd, List.map_set]; exact dpAll_setG hv k h.d⟩
end
theorem atI_nat {xs : List V} {k : Nat} : atI xs (k : Int) = xs[k]? := by
  unfold atI ixN
  rw [if_pos (by omega)]
  by_cases c : k < xs.length
  · rw [if_pos (by omega), Int.toNat_natCast]; rfl
  · rw [if_neg (by omega), List.getElem?_eq_none (by omega)]; rfl
theorem cutV_from' {xs : List V} {i : Int} (h : 0 ≤ i) (hl : i ≤ xs.length) : cutV xs (some i) none = xs.drop i.toNat := by
  unfold cutV HT.sIx
  have h1 : ¬ (i < 0) := by omega
  simp only [if_neg h1]
  rw [Nat.min_eq_left (by omega), List.take_of_length_le (by rw [List.length_drop]; omega)]
def sp_law_bent (K : PySem.W.Frag) : Sp := fun vs H Q _ => ∃ (R : Addr) (xs : List V) (rs : List RepG) (way : Int) (at_ n : Nat), vs = [.ref R, .int way, .int at_, .int n] ∧ H R = some (.lst xs) ∧ DpAll K H xs (rs.map dRepG) ∧ at_ < rs.length ∧ rs.length ≤ 20 ∧ n ≤ 20 ∧ (∀ r ∈ rs, SpOk 100 r) ∧
  ∀ (p : Addr) (ys : List V) (H' : Hp) (qs : List RepG), Same H H' → H' p = some (.lst ys) → DpAll K H' ys (qs.map dRepG) → qs.length ≤ 50 → (∀ r ∈ qs, SpOk 100 r) → Q (.ref p) H'
abbrev N_law_bent : List Str := ["_law_reports", "_law_way", "_law_place", "_law_size"]
def t_law_bent (K : PySem.W.Frag) : TS :=
 (tSeq (tIfS (tTest (tOp rEq (tVar 1) (tC (.int 10))))
 (tRet (tOp rCat (tSl (rSlL K) (tVar 0) tNoPart (tPart (tVar 2))) (tSl (rSlL K) (tVar 0) (tPart (tOp rAdd (tVar 2) (tC (.int 1)))) tNoPart)))
 tNext)
 (tSeq (tIfS (tTest (tOp rEq (tVar 1) (tC (.int 11))))
 (tRet (tOp rCat (tOp rCat (tSl (rSlL K) (tVar 0) tNoPart (tPart (tVar 2))) (tLst (tCons (tOp (rIxL K) (tVar 0) (tVar 2)) tNil))) (tSl (rSlL K) (tVar 0) (tPart (tVar 2)) tNoPart)))
 tNext)
 (tSeq (tIfS (tTest (tOp rEq (tVar 1) (tC (.int 12))))
 (tRet (tOp rCat (tVar 0) (tLst (tCons (tTup (tCons (tOp rAdd (tVar 3) (tC (.int 1))) (tCons (tC (.str "box")) (tCons (tUn rNeg (tC (.int 1))) (tCons (tC (.int 0)) (tCons (tC (.int 0)) (tCons (tLst tNil) (tCons (tLst tNil) tNil)))))))) tNil))))
 tNext)
 (tRet (tVar 0)))))

theorem len_law_bent {K : PySem.W.Frag} : ∀ vs H Q E, sp_law_bent K vs H Q E → vs.length = ["a", "b", "c", "d"].length := by
  rintro vs H Q E ⟨_, _, _, _, _, _, rfl, _⟩; rfl
theorem pure_law_bent {K : PySem.W.Frag} {vs : List V} {H : Hp} {Q : VK} {E : XK} (h : sp_law_bent K vs H Q E) : t_law_bent K { nx := fun _ H' => Q .non H', rt := Q } (start N_law_bent vs) H := by
  obtain ⟨R, xs, rs, way, k, n, rfl, hR, hd, kl, rl, n20, ok, q⟩ := h
  have xl := dpAll_len hd
  rw [List.length_map] at xl
  unfold t_law_bent
  walk_at "xs"
  walk_at "if"
  · walk_at "xs"
    refine al_slL (SqL.of hR) fun A H1 nA q1 hA => ?_
    walk_at "xs"
    refine al_slL (SqL.of (q1 _ _ hR)) fun B H2 nB q2 hB => ?_
    rw [cutV_to] at hA
    rw [cutV_from' (by omega) (by omega)] at hB
    refine al_catG (q2 _ _ hA) hB (by rw [List.length_take, List.length_drop]; omega) fun C H3 nC q3 hC => ?_
    have s3 := (q1.trans q2).trans q3
    refine q C _ H3 (rs.take k ++ rs.drop ((k : Int) + 1).toNat) s3 hC ?_ ?_ ?_
    · rw [List.map_append, List.map_take, List.map_drop]
      exact dpAll_app (dpAll_take _ (dpAll_same s3 hd)) (dpAll_drop _ (dpAll_same s3 hd))
    · rw [List.length_append, List.length_take, List.length_drop]; omega
    · intro r hr
      rcases List.mem_append.mp hr with hr | hr
      · exact ok r (List.mem_of_mem_take hr)
      · exact ok r (List.mem_of_mem_drop hr)
  walk_at "xs"
  walk_at "if"
  · walk_at "xs"
    refine al_slL (SqL.of hR) fun A H1 nA q1 hA => ?_
    walk_at "xs"
    obtain ⟨v, hv, dv⟩ := dpAll_get' (i := k) hd (by rw [List.getElem?_map, List.getElem?_eq_getElem kl]; rfl)
    refine x_ixL (SqL.of (q1 _ _ hR)) (v := v) (by rw [atI_nat]; exact hv) ?_
    walk_at "xs"
    refine al_lst fun M H2 nM q2 hM => ?_
    rw [cutV_to] at hA
    refine al_catG (q2 _ _ hA) hM (by rw [List.length_take]; simp; omega) fun C H3 nC q3 hC => ?_
    walk_at "xs"
    refine al_slL (SqL.of (q3 _ _ (q2 _ _ (q1 _ _ hR)))) fun B H4 nB q4 hB => ?_
    rw [cutV_from' (by omega) (by omega)] at hB
    refine al_catG (q4 _ _ hC) hB (by rw [List.length_append, List.length_take, List.length_drop]; simp; omega) fun D H5 nD q5 hD => ?_
    have s5 := (((q1.trans q2).trans q3).trans q4).trans q5
    refine q D _ H5 (rs.take k ++ [rs[k]] ++ rs.drop ((k : Int)).toNat) s5 hD ?_ ?_ ?_
    · rw [List.map_append, List.map_append, List.map_take, List.map_drop]
      exact dpAll_app (dpAll_app (dpAll_take _ (dpAll_same s5 hd)) (.cons (dp_same s5 dv) .nil)) (dpAll_drop _ (dpAll_same s5 hd))
    · rw [List.length_append, List.length_append, List.length_take, List.length_drop]; simp; omega
    · intro r hr
      rcases List.mem_append.mp hr with hr | hr
      · rcases List.mem_append.mp hr with hr | hr
        · exact ok r (List.mem_of_mem_take hr)
        · rw [List.mem_singleton] at hr; rw [hr]; exact ok _ (List.getElem_mem kl)
      · exact ok r (List.mem_of_mem_drop hr)
  walk_at "xs"
  walk_at "if"
  · walk_at "xs"
    refine al_lst fun A H1 nA q1 hA => ?_
    walk_at "xs"
    refine al_lst fun B H2 nB q2 hB => ?_
    walk_at "xs"
    refine al_tup fun T H3 nT q3 hT => ?_
    walk_at "xs"
    refine al_lst fun M H4 nM q4 hM => ?_
    have s4 := ((q1.trans q2).trans q3).trans q4
    refine al_catG (s4 _ _ hR) hM (by simp; omega) fun D H5 nD q5 hD => ?_
    have s5 := s4.trans q5
    refine q D _ H5 (rs ++ [⟨(n : Int) + 1, "box", -1, 0, 0, [], []⟩]) s5 hD ?_ ?_ ?_
    · rw [List.map_append]
      refine dpAll_app (dpAll_same s5 hd) (.cons (RowAt.dp (r := ⟨(n : Int) + 1, "box", -1, 0, 0, [], []⟩) ⟨q5 _ _ (q4 _ _ hT), q5 _ _ (q4 _ _ (q3 _ _ (q2 _ _ hA))), q5 _ _ (q4 _ _ (q3 _ _ hB))⟩) .nil)
    · rw [List.length_append]; simp; omega
    · intro r hr
      rcases List.mem_append.mp hr with hr | hr
      · exact ok r hr
      · rw [List.mem_singleton] at hr; rw [hr]; exact ⟨show PyData.strOk ("box" : Str) = true by decide +kernel, Nat.zero_le _, Nat.zero_le _⟩
  walk_at "xs"
  exact q R xs H rs (Same.refl _) hR hd (by omega) ok

end Su
namespace Su
open PySem L2
local macro_rules | `(tactic| walk_at "side") => `(tactic| first | assumption | (show (0 : Int) < _; omega) | (show (0 : Int) ≤ _; omega) | (show (0 : Int) < _; split <;> omega) | (show _ ∨ _; omega) | (show _ ∧ _; omega) | exact ⟨by decide, by decide, by decide⟩ | exact ⟨by first | assumption | omega, by first | assumption | omega⟩)
local macro_rules | `(tactic| walk_at "x") => `(tactic| first | with_reducible refine Su.x_seq ?_ | with_reducible refine Su.x_asg ?_ | with_reducible refine Su.x_gname ?_ | with_reducible refine Su.x_drop ?_ | with_reducible refine Su.x_ret ?_ | with_reducible refine Su.x_ifS ?_ | ((with_reducible show L2.tVar _ _ _ _); refine Su.x_var rfl ?_) | with_reducible refine Su.x_c ?_ | with_reducible refine Su.x_op ?_ | with_reducible refine Su.x_rI0 ?_ | ((with_reducible refine Su.x_rI ?_ ?_); focus walk_at "side") | with_reducible refine Su.x_rGt ?_ | with_reducible refine Su.x_test ?_ | with_reducible refine Su.x_isB' ?_ | with_reducible refine Su.x_and ?_ | with_reducible refine Su.x_nil ?_ | with_reducible refine Su.x_cons ?_ | with_reducible refine Su.x_cb ?_ | with_reducible refine Su.x_abs ?_ | with_reducible refine Su.x_lst ?_ | with_reducible refine Su.x_bmL ?_ | with_reducible refine Su.x_for ?_ | with_reducible refine Su.x_iList ?_ | with_reducible refine Su.x_whileN ?_)
local macro_rules | `(tactic| walk_at "xs") => `(tactic| repeat walk_at "x")
local macro_rules | `(tactic| walk_at "if") => `(tactic| first | with_reducible refine Su.x_iteD (fun c => ?_) (fun c => ?_) | with_reducible refine Su.x_iteN (fun c => ?_) (fun c => ?_) | with_reducible refine Su.x_ite (fun c => ?_) (fun c => ?_))

/-! _law_draws -/
def sp_law_draws (K : PySem.W.Frag) : Sp := fun vs H Q _ => ∃ (a : Addr) (ns : List Int) (many : Nat), vs = [.ref a, .int many] ∧ SqL K H a (ns.map V.int) ∧ ns.length ≤ 63 ∧ many ≤ 1000 ∧
  ∀ (p : Addr) (rows : List Int) (H' : Hp), H p = none → Same H H' → H' p = some (.lst (rows.map V.int)) → many ≤ rows.length → rows.length ≤ 2000 → (∀ x ∈ rows, -(10 ^ 18) < x ∧ x < 10 ^ 18) → Q (.ref p) H'
abbrev N_law_draws : List Str := ["_law_script", "_law_many", "_law_rows", "_law_mix", "_law_cell", "_law_rest"]
def t_law_draws (K : PySem.W.Frag) : TS :=
 (tSeq (tAsg (tLst tNil) (gName 2))
 (tSeq (tAsg (tC (.int 1)) (gName 3))
 (tSeq (tFor (iList K (tVar 0)) (gName 4)
 (tSeq (tAsg (tOp rMod (tOp rAdd (tOp rMul (tVar 3) (tC (.int 31))) (tVar 4)) (tC (.int 2147483647))) (gName 3))
 (tSeq (tAsg (tCB rAbs (tCons (tVar 4) tNil)) (gName 5))
 (C8.tCut (tIfS (tTest (tOp rLt (tVar 5) (tOp rPow (tC (.int 10)) (tC (.int 18)))))
 (tSeq (tDrop (tBM K "list" rAppend (tVar 2) (tCons (tVar 4) tNil)))
 (tAsg (tC (.int 0)) (gName 5)))
 tNext)
 (tWhile (tAnd (tTest (tOp rGt (tVar 5) (tC (.int 0)))) (tTest (tOp rLt (tCB (rLenSeq K) (tCons (tVar 2) tNil)) (tVar 1))))
 (tSeq (tDrop (tBM K "list" rAppend (tVar 2) (tCons (tOp rMod (tVar 5) (tC (.int 1000003))) tNil)))
 (tAsg (tOp rDiv (tVar 5) (tC (.int 1000003))) (gName 5))))))))
 (tSeq (tWhile (tTest (tOp rLt (tCB (rLenSeq K) (tCons (tVar 2) tNil)) (tVar 1)))
 (tSeq (tAsg (tOp rMod (tOp rAdd (tOp rMul (tVar 3) (tC (.int 48271))) (tC (.int 11))) (tC (.int 2147483647))) (gName 3))
 (tDrop (tBM K "list" rAppend (tVar 2) (tCons (tOp rMod (tOp rMul (tVar 3) (tVar 3)) (tC (.int 999983))) tNil)))))
 (tRet (tVar 2))))))

theorem len_law_draws {K : PySem.W.Frag} : ∀ vs H Q E, sp_law_draws K vs H Q E → vs.length = ["_law_script", "_law_many"].length := by
  rintro vs H Q E ⟨s, n, p, rfl, _⟩; rfl
structure DrawSt (H : Hp) (p : Addr) (rows : List Int) (H' : Hp) : Prop where
  s : Same H H'
  o : H' p = some (.lst (rows.map V.int))
  b : ∀ x ∈ rows, -(10 ^ 18) < x ∧ x < 10 ^ 18
theorem DrawSt.push {H : Hp} {p : Addr} {rows : List Int} {H' : Hp} (h : DrawSt H p rows H') (np : H p = none) {x : Int} (hx : -(10 ^ 18) < x ∧ x < 10 ^ 18) : DrawSt H p (rows ++ [x]) (upd H' p (.lst (rows.map V.int ++ [.int x]))) where
  s := fun b o e => by rw [upd_ne (ne_of_none e np)]; exact h.s b o e
  o := by rw [upd_same, List.map_append]; rfl
  b := fun y hy => by
    rcases List.mem_append.mp hy with q | q
    · exact h.b y q
    · cases List.mem_singleton.mp q; exact hx
theorem pure_law_draws {K : PySem.W.Frag} {vs : List V} {H : Hp} {Q : VK} {E : XK} (h : sp_law_draws K vs H Q E) : t_law_draws K { nx := fun _ H' => Q .non H', rt := Q } (start N_law_draws vs) H := by
  obtain ⟨a, ns, many, rfl, hS, hl, hm, k⟩ := h
  unfold t_law_draws
  walk_at "xs"
  refine ⟨by decide, fun p np => ?_⟩
  walk_at "xs"
  refine ⟨a, rfl, ⟨_, Same.seq (H := H) (fun b o e => by rw [upd_ne (ne_of_none e np)]; exact e) hS⟩, for_list (K := K) (a := a) (xs := ns.map V.int) (fun i σ H' => ∃ (rows : List Int) (mix : Int) (u v : Option V),
      σ = [some (.ref a), some (.int many), some (.ref p), some (.int mix), u, v] ∧ DrawSt H p rows H' ∧ rows.length ≤ i + many ∧ 0 ≤ mix ∧ mix < 2147483647)
    ⟨[], 1, none, none, rfl, ⟨fun b o e => by rw [upd_ne (ne_of_none e np)]; exact e, upd_same, fun _ h => nomatch h⟩, by simp, by decide, by decide⟩ (fun i σ H' _ ⟨_, _, _, _, _, d, _⟩ => d.s.seq hS) ?_ ?_⟩
  · rintro i y σ H1 hi ⟨rows, mix, u, v, rfl, d, hr, m0, m1⟩
    obtain ⟨z, rfl⟩ : ∃ z, y = V.int z := by
      rw [List.getElem?_map] at hi
      cases e : ns[i]? with
      | none => rw [e] at hi; cases hi
      | some z => rw [e] at hi; exact ⟨z, (Option.some.inj hi).symm⟩
    have hil : i < ns.length := by
      have := (List.getElem?_eq_some_iff.mp hi).1
      rwa [List.length_map] at this
    have hq : (0 : Int) ≤ (mix * 31 + z) % 2147483647 ∧ (mix * 31 + z) % 2147483647 < 2147483647 := ⟨Int.emod_nonneg _ (by decide), Int.emod_lt_of_pos _ (by decide)⟩
    -- the while, from any state
    have loop : ∀ (D : Ends) (rows : List Int) (rest : Int) (u : Option V) (H2 : Hp), DrawSt H p rows H2 → 0 ≤ rest → rows.length ≤ i + 1 + many → 
        (∀ rows' rest' H3, DrawSt H p rows' H3 → rows'.length ≤ i + 1 + many → D.nx [some (.ref a), some (.int many), some (.ref p), some (.int ((mix * 31 + z) % 2147483647)), u, some (.int rest')] H3) →
        tWhile (tAnd (tTest (tOp rGt (tVar 5) (tC (V.int 0)))) (tTest (tOp rLt (tCB (rLenSeq K) (tCons (tVar 2) tNil)) (tVar 1))))
            (tSeq (tDrop (tBM K "list" rAppend (tVar 2) (tCons (tOp rMod (tVar 5) (tC (V.int 1000003))) tNil)))
              (tAsg (tOp rDiv (tVar 5) (tC (V.int 1000003))) (gName 5))) D [some (.ref a), some (.int many), some (.ref p), some (.int ((mix * 31 + z) % 2147483647)), u, some (.int rest)] H2 := by
      intro D rows rest u H2 d h0 hr kk
      refine ⟨fun m σ H2 => ∃ rows rest, σ = [some (.ref a), some (.int many), some (.ref p), some (.int ((mix * 31 + z) % 2147483647)), u, some (.int rest)] ∧ DrawSt H p rows H2 ∧ 0 ≤ rest ∧ rows.length ≤ i + 1 + many ∧ m = rest.toNat, ⟨_, rows, rest, rfl, d, h0, hr, rfl⟩, ?_⟩
      rintro m σ H2 ⟨rows, rest, rfl, d, h0, hr, rfl⟩
      walk_at "xs"
      walk_at "if"
      · walk_at "xs"
        refine x_lenL (SqL.of d.o) ?_
        walk_at "xs"
        walk_at "if"
        · rename_i c1 c2
          have c2' : rows.length < many := by rw [List.length_map] at c2; exact Int.ofNat_lt.mp c2
          walk_at "xs"
          refine ⟨tyL (SqL.of d.o), ?_⟩
          walk_at "xs"
          refine x_append d.o (small (by rw [List.length_map]; omega)) ?_
          have b0 := Int.emod_nonneg rest (show (1000003 : Int) ≠ 0 by decide)
          have b1 := Int.emod_lt_of_pos rest (show (0 : Int) < 1000003 by decide)
          walk_at "xs"
          exact ⟨_, by show (rest / 1000003).toNat < rest.toNat; omega, rows ++ [rest % 1000003], rest / 1000003, rfl, d.push np ⟨by omega, by omega⟩, by omega, by rw [List.length_append]; simp; omega, rfl⟩
        · exact kk rows rest H2 d hr
      · exact kk rows rest H2 d hr
    walk_at "xs"
    refine x_cut (fun σ H2 => ∃ (rows : List Int) (rest : Int), σ = [some (.ref a), some (.int many), some (.ref p), some (.int ((mix * 31 + z) % 2147483647)), some (.int z), some (.int rest)] ∧ DrawSt H p rows H2 ∧ 0 ≤ rest ∧ rows.length ≤ i + 1 + many) ?_ ?_
    · walk_at "xs"
      walk_at "if"
      · rename_i c1
        walk_at "xs"
        refine ⟨tyL (SqL.of d.o), ?_⟩
        walk_at "xs"
        have hz : -(10 ^ 18) < z ∧ z < 10 ^ 18 := by
          by_cases z0 : z < 0
          · rw [if_pos z0] at c1; exact ⟨by have : -z < 10 ^ 18 := c1; omega, by omega⟩
          · rw [if_neg z0] at c1; exact ⟨by omega, c1⟩
        refine x_append d.o (small (by rw [List.length_map]; omega)) ?_
        walk_at "xs"
        exact ⟨rows ++ [z], 0, rfl, d.push np hz, by decide, by rw [List.length_append]; simp; omega⟩
      · refine ⟨rows, _, rfl, d, ?_, by omega⟩
        by_cases z0 : z < 0
        · rw [if_pos z0]; omega
        · rw [if_neg z0]; omega
    rintro _ _ ⟨rows, rest, rfl, d, h0, hr⟩
    refine loop _ rows rest _ _ d h0 hr fun rows' rest' H3 d3 h3 => ?_
    exact ⟨rows', _, _, _, rfl, d3, h3, hq.1, hq.2⟩
  · rintro σ H1 ⟨rows, mix, u, v, rfl, d, hr, m0, m1⟩
    rw [List.length_map] at hr
    walk_at "xs"
    refine ⟨fun m σ H2 => ∃ (rows : List Int) (mix : Int), σ = [some (.ref a), some (.int many), some (.ref p), some (.int mix), u, v] ∧ DrawSt H p rows H2 ∧ rows.length ≤ 63 + many ∧ 0 ≤ mix ∧ mix < 2147483647 ∧ m = many - rows.length, ⟨_, rows, mix, rfl, d, by omega, m0, m1, rfl⟩, ?_⟩
    rintro m σ H2 ⟨rows, mix, rfl, d, hr, m0, m1, rfl⟩
    walk_at "xs"
    refine x_lenL (SqL.of d.o) ?_
    walk_at "xs"
    walk_at "if"
    · rename_i c2
      have c2' : rows.length < many := by rw [List.length_map] at c2; exact Int.ofNat_lt.mp c2
      have hq : (0 : Int) ≤ (mix * 48271 + 11) % 2147483647 ∧ (mix * 48271 + 11) % 2147483647 < 2147483647 := ⟨Int.emod_nonneg _ (by decide), Int.emod_lt_of_pos _ (by decide)⟩
      walk_at "xs"
      refine ⟨tyL (SqL.of d.o), ?_⟩
      walk_at "xs"
      refine x_append d.o (small (by rw [List.length_map]; omega)) ?_
      have b0 := Int.emod_nonneg ((mix * 48271 + 11) % 2147483647 * ((mix * 48271 + 11) % 2147483647)) (show (999983 : Int) ≠ 0 by decide)
      have b1 := Int.emod_lt_of_pos ((mix * 48271 + 11) % 2147483647 * ((mix * 48271 + 11) % 2147483647)) (show (0 : Int) < 999983 by decide)
      exact ⟨_, by show many - (rows.length + 1) < many - rows.length; omega, rows ++ [_], _, rfl, d.push np ⟨by omega, by omega⟩, by rw [List.length_append]; simp; omega, hq.1, hq.2, by rw [List.length_append]; rfl⟩
    · rename_i c2
      have c2' : many ≤ rows.length := by
        rw [List.length_map] at c2
        omega
      walk_at "xs"
      exact k p rows H2 np d.s d.o c2' (by omega) d.b

end Su
namespace Su
open PySem L2
local macro_rules | `(tactic| walk_at "side") => `(tactic| first | assumption | (show (0 : Int) < _; omega) | (show (0 : Int) ≤ _; omega) | (show (0 : Int) < _; split <;> omega) | (show _ ∨ _; omega) | (show _ ∧ _; omega) | exact ⟨by decide, by decide, by decide⟩ | exact ⟨by first | assumption | omega, by first | assumption | omega⟩)
local macro_rules | `(tactic| walk_at "x") => `(tactic| first
  | with_reducible refine Su.x_seq ?_ | with_reducible refine Su.x_asg ?_ | with_reducible refine Su.x_gname ?_ | with_reducible refine Su.x_drop ?_ | with_reducible refine Su.x_ret ?_ | with_reducible refine Su.x_ifS ?_
  | ((with_reducible show L2.tVar _ _ _ _); refine Su.x_var rfl ?_) | with_reducible refine Su.x_c ?_ | with_reducible refine Su.x_op ?_ | with_reducible refine Su.x_rI0 ?_ | ((with_reducible refine Su.x_rI ?_ ?_); focus walk_at "side")
  | ((with_reducible show L2.rIxL _ (L2.V.ref _) (L2.V.int _) _ _); refine Su.x_ixI (by assumption) (by first | decide | omega) (by omega) ?_) | with_reducible refine Su.x_isi_int_int ?_ | with_reducible refine Su.x_isi_int_bool ?_ | with_reducible refine Su.x_isi_int_str ?_ | with_reducible refine Su.x_isi_int_list ?_ | with_reducible refine Su.x_isi_int_tuple ?_ | with_reducible refine Su.x_isi_bool_int ?_ | with_reducible refine Su.x_isi_bool_bool ?_ | with_reducible refine Su.x_isi_bool_str ?_ | with_reducible refine Su.x_isi_bool_list ?_ | with_reducible refine Su.x_isi_bool_tuple ?_ | with_reducible refine Su.x_isi_str_int ?_ | with_reducible refine Su.x_isi_str_bool ?_ | with_reducible refine Su.x_isi_str_str ?_ | with_reducible refine Su.x_isi_str_list ?_ | with_reducible refine Su.x_isi_str_tuple ?_ | with_reducible refine Su.x_isi_NoneType_int ?_ | with_reducible refine Su.x_isi_NoneType_bool ?_ | with_reducible refine Su.x_isi_NoneType_str ?_ | with_reducible refine Su.x_isi_NoneType_list ?_ | with_reducible refine Su.x_isi_NoneType_tuple ?_ | with_reducible refine Su.x_rGt ?_ | with_reducible refine Su.x_rGe ?_ | with_reducible refine Su.x_iteF ?_ | with_reducible refine Su.x_iteT ?_ | with_reducible refine Su.x_iteNT ?_ | with_reducible refine Su.x_iteNF ?_ | with_reducible refine Su.x_eqI ?_ | with_reducible refine Su.x_neI ?_ | with_reducible refine Su.x_eqS ?_ | with_reducible refine Su.x_neS ?_ | with_reducible refine Su.x_eqB ?_ | with_reducible refine Su.x_neB ?_
  | with_reducible refine Su.x_test ?_ | with_reducible refine Su.x_tB ?_ | with_reducible refine Su.x_isB ?_ | with_reducible refine Su.x_isB' ?_ | with_reducible refine Su.x_not ?_ | with_reducible refine Su.x_and ?_ | with_reducible refine Su.x_or ?_
  | with_reducible refine Su.x_andV ?_ | with_reducible refine Su.x_orV ?_ | with_reducible refine Su.x_notV ?_ | with_reducible refine Su.x_chain ?_ | with_reducible refine Su.x_nil ?_ | with_reducible refine Su.x_cons ?_ | with_reducible refine Su.x_cb ?_ | with_reducible refine Su.x_call ?_
  | with_reducible refine Su.x_un ?_ | with_reducible refine Su.x_rU ?_ | with_reducible refine Su.x_abs ?_ | with_reducible refine Su.x_max2 ?_ | with_reducible refine Su.x_min2 ?_ | with_reducible refine Su.x_int1 ?_ | with_reducible refine Su.x_intB ?_
  | with_reducible refine Su.x_lst ?_ | with_reducible refine Su.x_tup ?_ | with_reducible refine Su.x_bmL ?_ | with_reducible refine Su.x_next ?_ | with_reducible refine Su.x_for ?_ | with_reducible refine Su.x_iList ?_ | with_reducible refine Su.x_iRng1 ?_ | with_reducible refine Su.x_iRng2 ?_ | with_reducible refine Su.x_whileN ?_ | with_reducible refine Su.x_iEnum ?_ | with_reducible refine Su.x_iZip ?_ | with_reducible refine Su.x_iZipA ?_ | with_reducible refine Su.x_iTup ?_ | with_reducible refine Su.x_gcons ?_ | with_reducible refine Su.x_gnil ?_ | with_reducible refine Su.x_gsub ?_ | with_reducible refine Su.x_yes ?_ | with_reducible refine Su.x_lc ?_ | with_reducible refine Su.x_sl ?_ | with_reducible refine Su.x_nopart ?_ | with_reducible refine Su.x_part ?_ | with_reducible refine Su.x_isI ?_ | with_reducible refine Su.x_lstRg ?_ | with_reducible refine Su.x_rg1 ?_ | with_reducible refine Su.x_augS ?_ | with_reducible refine Su.x_ipI ?_ | ((with_reducible show L2.tAug _ _ _ _ _ _); refine Su.x_aug rfl ?_) | with_reducible refine Su.x_callS ?_ | with_reducible refine Su.x_tryAs ?_)
local macro_rules | `(tactic| walk_at "xs") => `(tactic| repeat walk_at "x")
local macro_rules | `(tactic| walk_at "if") => `(tactic| first | with_reducible refine Su.x_iteD (fun c => ?_) (fun c => ?_) | with_reducible refine Su.x_iteN (fun c => ?_) (fun c => ?_) | with_reducible refine Su.x_ite (fun c => ?_) (fun c => ?_))
local macro_rules | `(tactic| walk_at "x") => `(tactic| first | with_reducible refine Su.x_m1 ?_ | with_reducible refine Su.x_strE ?_ | with_reducible refine Su.x_m0 ?_ | with_reducible refine Su.x_dnew ?_ | with_reducible refine Su.x_dput ?_ | with_reducible refine Su.x_dgetE ?_ | with_reducible refine Su.x_dget2 ?_ | with_reducible refine Su.x_daug ?_ | with_reducible refine Su.x_din ?_ | with_reducible refine Su.x_dnin ?_ | with_reducible refine Su.x_brk ?_ | with_reducible refine Su.x_retN ?_)
local macro_rules | `(tactic| walk_at "at") => `(tactic| first | assumption | (refine Su.f_at (by assumption) ?_; walk_at "at"))
local macro_rules | `(tactic| walk_at "sm") => `(tactic| first | assumption | exact L2.Same.refl _ | (refine Su.f_tr (by assumption) ?_; walk_at "sm"))
local macro_rules | `(tactic| walk_at "hp") => `(tactic| first | assumption | ((with_reducible refine Su.f_sqL ?_); walk_at "at") | ((with_reducible refine Su.f_sqT ?_); walk_at "at") | ((with_reducible show L2.Same _ _); walk_at "sm") | ((with_reducible show _ = none); refine Su.f_free ?_ (by assumption); walk_at "sm") | ((with_reducible show _ = some _); walk_at "at") | (refine Su.f_dp (by assumption) ?_; walk_at "hp") | (refine Su.f_dpA (by assumption) ?_; walk_at "hp") | (refine Su.f_sqLs (by assumption) ?_; walk_at "hp") | (refine Su.f_sqTs (by assumption) ?_; walk_at "hp"))
local macro_rules | `(tactic| walk_at "x") => `(tactic| first | with_reducible refine Su.x_fld ?_ | with_reducible refine Su.x_sfld ?_ | with_reducible refine Su.x_sfldAug ?_ | with_reducible refine Su.x_meth ?_ | with_reducible refine Su.x_methW ?_ | with_reducible refine Su.x_make ?_ | with_reducible refine Su.x_makeW ?_ | with_reducible refine Su.c_stake (by assumption) ?_ | with_reducible refine Su.c_size (by assumption) ?_ | with_reducible refine Su.c_bidding (by assumption) ?_ | with_reducible refine Su.c_now (by assumption) ?_ | with_reducible refine Su.c_line (by assumption) ?_ | with_reducible refine Su.c_due (by assumption) ?_ | with_reducible refine Su.c_chest (by assumption) ?_ | with_reducible refine Su.c_state (by assumption) ?_ | with_reducible refine Su.c_when (by assumption) ?_ | with_reducible refine Su.c_pledged (by assumption) ?_ | with_reducible refine Su.c_given (by assumption) ?_ | with_reducible refine Su.c_drawn (by assumption) ?_ | with_reducible refine Su.c_shared (by assumption) ?_ | with_reducible refine Su.c_missed (by assumption) ?_ | with_reducible refine Su.c_flows (by assumption) ?_)
local macro_rules | `(tactic| walk_at "me") => `(tactic| first | refine Su.c_meth (by assumption) rfl ?_ | refine Su.so_meth (by assumption) rfl ?_)
def sp_law (K : PySem.W.Frag) : Sp := fun vs H Q _ => ∃ (a : Addr) (ns : List Int), vs = [.ref a] ∧ SqL K H a (ns.map V.int) ∧ ns.length ≤ 63 ∧ ClsT K "Auditor" audNames ∧ ∀ H', Q (.bl true) H'
theorem good_repG {r : RepG} (h : SpOk 100 r) : GoodD 2 (dRepG r) := by
  have hf := h.f
  have hh := h.h
  refine .tup (by simp) fun d hd => ?_
  simp only [List.mem_cons, List.not_mem_nil, or_false] at hd
  rcases hd with rfl | rfl | rfl | rfl | rfl | rfl | rfl
  · exact .int _ _
  · exact ⟨h.w, Nat.zero_le _⟩
  · exact .int _ _
  · exact .int _ _
  · exact .int _ _
  · exact good_ints (by omega)
  · exact good_ints (by omega)
/-- a report as the law makes it freely -/
structure FreeG (r : RepG) : Prop where
  w : r.word = ("box" : Str) ∨ r.word = ("draw" : Str)
  f : r.fallen.length ≤ 100
  h : r.helped.length ≤ 100
theorem FreeG.sp {r : RepG} (h : FreeG r) : SpOk 100 r := ⟨by rcases h.w with e | e <;> rw [e] <;> decide +kernel, by have := h.f; omega, by have := h.h; omega⟩
theorem FreeOk.g {k : BK} {r : RepG} (h : FreeOk k r) (ok : BKok k) : FreeG r := by
  have h1 := h.fl
  have h2 := ok.wl
  have h3 := ok.n
  refine ⟨?_, by omega, by have := h.hl; omega⟩
  rcases h.at_ with z | z
  · exact .inl z.2.1
  · exact .inr z.2.1
/-- other coins and another share -/
theorem FreeOk.bend {k : BK} {r : RepG} {x y : Int} (h : FreeOk k r) : FreeOk k { r with coins := x, share := y } := ⟨h.fal, h.hel, h.hl, h.at_⟩
abbrev N_law : List Str := ["_law_script", "_law_some", "_law_size", "_law_stake", "_law_bidding", "_law_pledges", "_law_queue", "_law_book", "_law_reports", "_law_way", "_law_place", "_law_turn", "_law_report", "_law_others", "_law_share", "_law_due", "_law_handed", "_law_lent", "_law_again", "_law_row"]
def t_law (K : PySem.W.Frag) : TS :=
 (tSeq (tAsg (tCall (sp_law_draws K) [] E0 (tCons (tVar 0) (tCons (tC (.int 84)) tNil))) (gName 1))
 (tSeq (tAsg (tOp rAdd (tC (.int 2)) (tOp rMod (tOp (rIxL K) (tVar 1) (tC (.int 0))) (tC (.int 8)))) (gName 2))
 (tSeq (tAsg (tOp rAdd (tC (.int 1)) (tOp rMod (tOp (rIxL K) (tVar 1) (tC (.int 1))) (tOp (rIxL K) (tLst (tCons (tC (.int 7)) (tCons (tC (.int 1000000)) tNil))) (tOp rMod (tOp (rIxL K) (tVar 1) (tC (.int 2))) (tC (.int 2)))))) (gName 3))
 (tSeq (tAsg (tOp rEq (tOp rMod (tOp (rIxL K) (tVar 1) (tC (.int 3))) (tC (.int 2))) (tC (.int 1))) (gName 4))
 (tSeq (tAsg (tOp (rIxT K) (tCall (sp_law_opening K) [] E0 (tCons (tSl (rSlL K) (tVar 1) (tPart (tC (.int 56))) tNoPart) (tCons (tVar 2) (tCons (tVar 3) tNil)))) (tC (.int 0))) (gName 5))
 (C8.tCut (tIfS (tTest (tOp rGt (tOp rMod (tOp (rIxL K) (tVar 1) (tC (.int 3))) (tC (.int 3))) (tC (.int 0))))
 (tAsg (tOp rRep (tLst (tCons (tOp rMul (tVar 3) (tVar 2)) tNil)) (tVar 2)) (gName 5))
 tNext)
 (tSeq (tAsg (tCall (sp_law_perm K) [] E0 (tCons (tSl (rSlL K) (tVar 1) (tPart (tOp rAdd (tC (.int 56)) (tOp rMod (tOp (rIxL K) (tVar 1) (tC (.int 7))) (tC (.int 2))))) tNoPart) (tCons (tVar 2) tNil))) (gName 6))
 (tSeq (tAsg (tTup (tCons (tVar 3) (tCons (tVar 2) (tCons (tVar 4) (tCons (tC (.int 0)) (tCons (tCB (rListOf K) (tCons (tVar 6) tNil)) (tCons (tC (.int 0)) (tCons (tCB (rListOf K) (tCons (tVar 5) tNil)) (tCons (tLst tNil) tNil))))))))) (gName 7))
 (tSeq (tAsg (tLst tNil) (gName 8))
 (tSeq (tAsg (tOp rMod (tOp (rIxL K) (tVar 1) (tC (.int 4))) (tC (.int 17))) (gName 9))
 (tSeq (tAsg (tOp rMod (tOp (rIxL K) (tVar 1) (tC (.int 5))) (tVar 2)) (gName 10))
 (tSeq (tFor (iRng1 (tCons (tVar 2) tNil)) (gName 11)
 (tSeq (tAsg (tCall (sp_law_free K) [] E0 (tCons (tVar 7) (tCons (tSl (rSlL K) (tVar 1) (tPart (tOp rAdd (tC (.int 8)) (tOp rMul (tC (.int 4)) (tVar 11)))) tNoPart) tNil))) (gName 12))
 (C8.tCut (tIfS (tAnd (tTest (tOp rGt (tVar 9) (tC (.int 12)))) (tAnd (tTest (tOp rLt (tVar 9) (tC (.int 15)))) (tAnd (tTest (tOp rEq (tVar 11) (tVar 10))) (tTest (tOp rEq (tOp (rIxT K) (tVar 12) (tC (.int 1))) (tC (.str "draw")))))))
 (tSeq (tAsg (tOp rSub (tOp rSub (tOp rAdd (tCB (rLenSeq K) (tCons (tOp (rIxT K) (tVar 7) (tC (.int 4))) tNil)) (tCB (rLenSeq K) (tCons (tOp (rIxT K) (tVar 7) (tC (.int 7))) tNil))) (tCB (rLenSeq K) (tCons (tOp (rIxT K) (tVar 12) (tC (.int 5))) tNil))) (tC (.int 1))) (gName 13))
 (tSeq (tAsg (tOp rSub (tOp rMod (tOp (rIxL K) (tVar 1) (tC (.int 6))) (tOp rAdd (tOp rMul (tOp rMul (tC (.int 2)) (tVar 3)) (tVar 2)) (tC (.int 2)))) (tC (.int 1))) (gName 14))
 (tAsg (tOp (rCatT K) (tOp (rCatT K) (tSl (rSlT K) (tVar 12) tNoPart (tPart (tC (.int 3)))) (tTup (tCons (tOp rSub (tOp rMul (tVar 3) (tVar 2)) (tOp rMul (tVar 14) (tVar 13))) (tCons (tVar 14) tNil)))) (tSl (rSlT K) (tVar 12) (tPart (tC (.int 5))) tNoPart)) (gName 12))))
 tNext)
 (tSeq (tDrop (tBM K "list" rAppend (tVar 8) (tCons (tVar 12) tNil)))
 (tAsg (tCall (sp_law_after K) [] E0 (tCons (tVar 7) (tCons (tVar 12) tNil))) (gName 7))))))
 (C8.tCut (tIfS (tTest (tOp rLt (tVar 9) (tC (.int 10))))
 (tAsg (tCall (sp_law_spoilt K) [] E0 (tCons (tOp (rIxL K) (tVar 8) (tVar 10)) (tCons (tVar 9) (tCons (tOp (rIxL K) (tVar 1) (tC (.int 6))) (tCons (tVar 2) tNil))))) (gSub (tVar 8) (tVar 10) rSetL))
 tNext)
 (tSeq (tAsg (tCall (sp_law_bent K) [] E0 (tCons (tVar 8) (tCons (tVar 9) (tCons (tVar 10) (tCons (tVar 2) tNil))))) (gName 8))
 (tSeq (tAsg (tCall (sp_law_first K) [] E0 (tCons (tTup (tCons (tVar 3) (tCons (tVar 2) (tCons (tVar 4) (tCons (tC (.int 0)) (tCons (tCB (rListOf K) (tCons (tVar 6) tNil)) (tCons (tC (.int 0)) (tCons (tCB (rListOf K) (tCons (tVar 5) tNil)) (tCons (tLst tNil) tNil))))))))) (tCons (tVar 8) tNil))) (gName 15))
 (tSeq (tAsg (tLc (iList K (tVar 8)) (gName 19) tYes (tOp (rCatT K) (tSl (rSlT K) (tVar 19) tNoPart (tPart (tC (.int 5)))) (tTup (tCons (tCB (rListOf K) (tCons (tOp (rIxT K) (tVar 19) (tC (.int 5))) tNil)) (tCons (tCB (rListOf K) (tCons (tOp (rIxT K) (tVar 19) (tC (.int 6))) tNil)) tNil)))) [19]) (gName 16))
 (tSeq (tAsg (tLst (tCons (tCB (rListOf K) (tCons (tVar 5) tNil)) (tCons (tCB (rListOf K) (tCons (tVar 6) tNil)) tNil))) (gName 17))
 (tSeq (tFor (iRng1 (tCons (tC (.int 2)) tNil)) (gName 18)
 (tIfS (tNot (tB (tCall (sp_law_same K) [] E0 (tCons (tCall (sp_first_wrong K) [] E0 (tCons (tVar 3) (tCons (tOp (rIxL K) (tVar 17) (tC (.int 0))) (tCons (tOp (rIxL K) (tVar 17) (tC (.int 1))) (tCons (tVar 4) (tCons (tVar 16) tNil)))))) (tCons (tVar 15) tNil)))))
 (tRet (tC (.bl false)))
 tNext))
 (tRet (tAndV (tOp (rEqD K) (tVar 16) (tVar 8)) (tOp (rEqD K) (tVar 17) (tLst (tCons (tVar 5) (tCons (tVar 6) tNil))))))))))))))))))))))))

theorem len_law {K : PySem.W.Frag} : ∀ vs H Q E, sp_law K vs H Q E → vs.length = ["_law_script"].length := by
  rintro vs H Q E ⟨s, n, rfl, _⟩; rfl
theorem pure_law {K : PySem.W.Frag} {vs : List V} {H : Hp} {Q : VK} {E : XK} (h : sp_law K vs H Q E) : t_law K { nx := fun _ H' => Q .non H', rt := Q } (start N_law vs) H := by
  obtain ⟨sa, sc, rfl, hS, hl, tA, k⟩ := h
  unfold t_law
  walk_at "xs"
  refine ⟨sa, sc, 84, rfl, hS, hl, by decide, fun p rows H1 np q1 hp hm hm2 hb => ?_⟩
  walk_at "xs"
  have m0 := b_mod (rows.getD (Int.toNat 0) 0) 8 (by decide)
  obtain ⟨n, hn⟩ : ∃ n : Nat, 2 + rows.getD (Int.toNat 0) 0 % 8 = n := ⟨(2 + rows.getD (Int.toNat 0) 0 % 8).toNat, by omega⟩
  rw [hn]
  have n2 : 2 ≤ n ∧ n ≤ 9 := by omega
  clear hn m0
  refine al_lst fun m1 H2 nm1 q2 hm1 => ?_
  have hp2 := q2 _ _ hp
  walk_at "xs"
  have m1' := b_mod (rows.getD (Int.toNat 2) 0) 2 (by decide)
  obtain ⟨d, hd, d1, d2⟩ : ∃ d : Int, atI ([.int 7, .int 1000000] : List V) (rows.getD (Int.toNat 2) 0 % 2) = some (.int d) ∧ 1 ≤ d ∧ d ≤ 1000000 := by
    rcases (by omega : rows.getD (Int.toNat 2) 0 % 2 = 0 ∨ rows.getD (Int.toNat 2) 0 % 2 = 1) with e | e <;> rw [e]
    · exact ⟨7, rfl, by decide, by decide⟩
    · exact ⟨1000000, rfl, by decide, by decide⟩
  refine x_ixL (SqL.of hm1) hd ?_
  have m2 := b_mod (rows.getD (Int.toNat 1) 0) d (by omega)
  walk_at "xs"
  obtain ⟨s, hs⟩ : ∃ s : Int, 1 + rows.getD (Int.toNat 1) 0 % d = s := ⟨_, rfl⟩
  rw [hs]
  have s2 : 1 ≤ s ∧ s ≤ 1000000 := by omega
  clear hs m2 hd d1 d2 m1'
  refine al_from (i := 56) (SqL.of hp2) rfl fun q H3 nq q3 hq => ?_
  walk_at "xs"
  refine ⟨q, rows.drop 56, n, s, rfl, SqL.of hq, n2.1, by omega, by rw [List.length_drop]; omega, s2.1, s2.2, fun T P W pl ws H4 nT nP nW neq q4 hT hP hW oa => ?_⟩
  walk_at "xs"
  refine x_ixT (SqT.of hT) (v := .ref P) (by rfl) ?_
  have hp4 : H4 p = some (.lst (rows.map V.int)) := by walk_at "hp"
  have hpl := oa.len
  walk_at "xs"
  generalize decide (rows.getD (Int.toNat 3) 0 % 2 = 1) = bd
  have mm : s * (n : Int) ≤ 9000000 ∧ 0 ≤ s * (n : Int) := by
    refine ⟨?_, Int.mul_nonneg (by omega) (by omega)⟩
    have := Int.mul_le_mul (show s ≤ 1000000 by omega) (show (n : Int) ≤ 9 by omega) (by omega) (by omega)
    omega
  refine x_cut (fun σ H' => ∃ (P : Addr) (pl : List Int), σ = [some (.ref sa), some (.ref p), some (.int n), some (.int s), some (.bl bd), some (.ref P), none, none, none, none, none, none, none, none, none, none, none, none, none, none] ∧ H' p = some (.lst (rows.map V.int)) ∧ H' P = some (.lst (pl.map V.int)) ∧ pl.length = n) ?_ ?_
  · walk_at "xs"
    walk_at "if"
    · walk_at "xs"
      refine al_lst fun m H5 nm q5 hm => ?_
      walk_at "xs"
      refine al_rep hm (by omega) fun P2 H6 nP2 q6 hP2 _ => ?_
      exact ⟨P2, List.replicate n (s * n), rfl, q6 _ _ (q5 _ _ hp4), by rw [hP2, List.map_replicate], List.length_replicate⟩
    · walk_at "xs"
      exact ⟨P, pl, rfl, hp4, hP, hpl⟩
  clear hP hW hT hq oa neq hpl hp4 nP nW nT nq
  clear pl P
  rintro _ H5 ⟨P, pl, rfl, hp5, hP5, hpl⟩
  walk_at "xs"
  have m7 := b_mod (rows.getD (Int.toNat 7) 0) 2 (by decide)
  obtain ⟨j7, hj7⟩ : ∃ j : Nat, (56 : Int) + rows.getD (Int.toNat 7) 0 % 2 = j := ⟨(56 + rows.getD (Int.toNat 7) 0 % 2).toNat, by omega⟩
  rw [hj7]
  refine al_from (i := j7) (SqL.of hp5) rfl fun q6 H6 nq6 s6 hq6 => ?_
  walk_at "xs"
  refine ⟨q6, rows.drop j7, n, rfl, SqL.of hq6, by omega, by rw [List.length_drop]; omega, fun L row H7 nL s7 hL pm => ?_⟩
  have nd : row.Nodup := pm.nodup_iff.mpr List.nodup_range
  have rl : row.length = n := by rw [pm.length_eq, List.length_range]
  have rm : ∀ x ∈ row, x < n := fun x hx => List.mem_range.mp (pm.mem_iff.mp hx)
  have hp7 := s7 _ _ (s6 _ _ hp5)
  have hP7 := s7 _ _ (s6 _ _ hP5)
  clear hq6 nq6 hp5 hP5 s6 s7 m7 hj7
  walk_at "xs"
  refine al_list (SqL.of hL) fun w H8 nw8 s8 hw => ?_
  walk_at "xs"
  refine al_list (SqL.of (s8 _ _ hP7)) fun l H9 nl9 s9 hl9 => ?_
  walk_at "xs"
  refine al_lst fun d H10 nd10 s10 hd10 => ?_
  walk_at "xs"
  refine al_tup fun t H11 nt11 s11 ht11 => ?_
  have q711 := ((s8.trans s9).trans s10).trans s11
  have hp11 := q711 _ _ hp7
  have hP11 := q711 _ _ hP7
  have hL11 := q711 _ _ hL
  obtain ⟨k0, hk0⟩ : ∃ k0 : BK, k0 = ⟨s, n, bd, 0, row, 0, pl, []⟩ := ⟨_, rfl⟩
  have B11 : BookAt H11 t w l d k0 := by
    rw [hk0]
    exact ⟨ht11, s11 _ _ (s10 _ _ (s9 _ _ hw)), s11 _ _ (s10 _ _ hl9), s11 _ _ hd10⟩
  have ok0 : BKok k0 := by
    rw [hk0]
    exact ⟨by show 1 ≤ n; omega, by show n ≤ 20; omega, s2.1, s2.2, hpl, rm, (fun _ h => nomatch h), nd, .nil, fun _ _ h => nomatch h⟩
  have ks : k0.s = s := by rw [hk0]
  have kn : k0.n = n := by rw [hk0]
  have kc : k0.waits.length + k0.due + k0.seen = k0.n := by rw [hk0]; exact rl
  have k00 : k0.seen = 0 := by rw [hk0]
  have kau : k0.au = AU.new s bd pl row := by
    rw [hk0]
    unfold BK.au AU.new
    simp [rl, hpl]
  clear hw hl9 hd10 ht11 hP7 hL hp7 s8 s9 s10 s11 q711
  walk_at "xs"
  refine al_lst fun R H12 nR s12 hR => ?_
  have GR : H11 R = none := nR
  have hp12 := s12 _ _ hp11
  walk_at "xs"
  obtain ⟨way, hway⟩ : ∃ way : Int, rows.getD (Int.toNat 4) 0 % 17 = way := ⟨_, rfl⟩
  rw [hway]
  have way0 : 0 ≤ way ∧ way < 17 := by have := b_mod (rows.getD (Int.toNat 4) 0) 17 (by decide); omega
  have m5 := b_mod (rows.getD (Int.toNat 5) 0) (n : Int) (by omega)
  obtain ⟨pc, hpc⟩ : ∃ pc : Nat, rows.getD (Int.toNat 5) 0 % (n : Int) = pc := ⟨(rows.getD (Int.toNat 5) 0 % (n : Int)).toNat, by omega⟩
  rw [hpc]
  have pn : pc < n := by omega
  clear m5 hpc hway
  refine ⟨n, rfl, by omega, by omega, for_by turnsR (fun i σ H' => ∃ (u11 u12 u13 u14 : Option V) (t w l d : Addr) (kk : BK) (xs : List V) (rs : List RepG), σ = [some (.ref sa), some (.ref p), some (.int n), some (.int s), some (.bl bd), some (.ref P), some (.ref L), some (.ref t), some (.ref R), some (.int way), some (.int pc), u11, u12, u13, u14, none, none, none, none, none] ∧ Same H11 (del H' R) ∧ BookAt (del H' R) t w l d kk ∧ BKok kk ∧ kk.s = s ∧ kk.n = n ∧ kk.waits.length + kk.due + kk.seen = kk.n ∧ kk.seen = i ∧ RL K H' R xs rs ∧ rs.length = i ∧ ∀ r ∈ rs, FreeG r)
    ⟨none, none, none, none, t, w, l, d, k0, [], [], rfl, same_del s12 GR, B11.same (same_del s12 GR), ok0, ks, kn, kc, k00, ⟨hR, .nil⟩, rfl, fun _ h => nomatch h⟩ (fun _ _ _ _ _ => trivial) ?_ ?_⟩
  · clear B11 ok0 ks kn kc k00 kau hk0 hR
    clear k0 nt11 nw8 nl9 nd10
    clear t w l d
    rintro i y σ H13 _ hi ⟨u11, u12, u13, u14, t, w, l, d, kk, xs, rs, rfl, G13, B, ok, ks, kn, kc, kse, RA, rsl, rf⟩ ⟨rfl, rfl⟩
    have hp13 := del_same _ _ (G13 _ _ hp11)
    have B13 := B.same del_same
    rw [show (0 : Int) + (i : Int) = (i : Int) by omega]
    walk_at "xs"
    obtain ⟨f8, hf8⟩ : ∃ f8 : Nat, (8 : Int) + 4 * (i : Int) = f8 := ⟨8 + 4 * i, by omega⟩
    rw [hf8]
    refine al_from (i := f8) (SqL.of hp13) rfl fun q8 H14 nq8 s14 hq8 => ?_
    walk_at "xs"
    refine ⟨t, w, l, d, q8, kk, rows.drop f8, rfl, B13.same s14, hq8, by rw [List.length_drop]; omega, ok, kc, by omega, fun p' f g H15 r s15 RW fr => ?_⟩
    have RW := RW.same (nw_del (H' := H15) (s14 _ _ RA.o))
    have s1315 := s14.trans s15
    have RA15 := RA.same s1315
    have G15 := G13.trans (del_mono s1315)
    have B15 := B.same (del_mono (A := R) s1315)
    have hp15 := s1315 _ _ hp13
    clear hq8 nq8 hf8 B13
    walk_at "xs"
    refine x_cut (fun σ H' => ∃ (v : V) (r : RepG) (u13 u14 : Option V), σ = [some (.ref sa), some (.ref p), some (.int n), some (.int s), some (.bl bd), some (.ref P), some (.ref L), some (.ref t), some (.ref R), some (.int way), some (.int pc), some (.int i), some v, u13, u14, none, none, none, none, none] ∧ Same H15 H' ∧ Dp K (del H' R) v (dRepG r) ∧ FreeOk kk r) ?_ ?_
    · have skip : ∃ (v : V) (r : RepG) (v13 v14 : Option V), ([some (.ref sa), some (.ref p), some (.int n), some (.int s), some (.bl bd), some (.ref P), some (.ref L), some (.ref t), some (.ref R), some (.int way), some (.int pc), some (.int i), some (.ref p'), u13, u14, none, none, none, none, none] : St) = [some (.ref sa), some (.ref p), some (.int n), some (.int s), some (.bl bd), some (.ref P), some (.ref L), some (.ref t), some (.ref R), some (.int way), some (.int pc), some (.int i), some v, v13, v14, none, none, none, none, none] ∧ Same H15 H15 ∧ Dp K (del H15 R) v (dRepG r) ∧ FreeOk kk r := ⟨_, r, _, _, rfl, Same.refl _, RW.dp, fr⟩
      walk_at "xs"
      walk_at "if"
      · walk_at "xs"
        walk_at "if"
        · walk_at "xs"
          walk_at "if"
          · walk_at "xs"
            have ht15 := SqT.of (K := K) (del_same _ _ RW.t)
            refine x_ixT ht15 (v := .str r.word) (by rfl) ?_
            walk_at "xs"
            walk_at "if"
            · walk_at "xs"
              have tb := SqT.of (K := K) (del_same _ _ B15.t)
              have wl := ok.wl
              have dl := ok.dl
              have on := ok.n
              refine x_ixT tb (v := .ref w) (by rfl) ?_
              walk_at "xs"
              refine x_lenL (SqL.of (del_same _ _ B15.w)) ?_
              walk_at "xs"
              refine x_ixT tb (v := .ref d) (by rfl) ?_
              walk_at "xs"
              refine x_lenL (SqL.of (del_same _ _ B15.d)) ?_
              rw [lnI, lnI]
              walk_at "xs"
              refine x_ixT ht15 (v := .ref f) (by rfl) ?_
              walk_at "xs"
              refine x_lenL (SqL.of (del_same _ _ RW.f)) ?_
              rw [List.length_map]
              walk_at "xs"
              have fl := fr.fl
              obtain ⟨o, ho⟩ : ∃ o : Int, (kk.waits.length : Int) + kk.drew.length - r.fallen.length - 1 = o := ⟨_, rfl⟩
              rw [ho]
              have o1 : -2 ≤ o ∧ o ≤ 40 := by omega
              have m6 := b_mod (rows.getD (Int.toNat 6) 0) (2 * s * (n : Int) + 2) (by rw [Int.mul_assoc]; omega)
              have mm2 : 2 * s * (n : Int) ≤ 18000000 := by rw [Int.mul_assoc]; omega
              have mm3 : 0 ≤ 2 * s * (n : Int) := by rw [Int.mul_assoc]; omega
              walk_at "xs"
              obtain ⟨sh, hsh⟩ : ∃ sh : Int, rows.getD (Int.toNat 6) 0 % (2 * s * (n : Int) + 2) - 1 = sh := ⟨_, rfl⟩
              rw [hsh]
              have s3 : -1 ≤ sh ∧ sh ≤ 18000001 := by omega
              refine al_slT ht15 (by show ¬ ((0 : Nat) = 0 ∧ (3 : Nat) = 7); omega) fun t3 H16 n16 s16 h3 => ?_
              walk_at "xs"
              refine al_tup fun t4 H17 n17 s17 h4 => ?_
              refine al_catT (SqT.of (s17 _ _ h3)) (SqT.of h4) (by simp [cutV, HT.sIx]) (by simp) (by simp [cutV, HT.sIx]) fun t5 H18 n18 s18 h5 => ?_
              walk_at "xs"
              have s1518 := (s16.trans s17).trans s18
              refine al_slT (seqT_same s1518 ht15) (by show ¬ ((5 : Nat) = 0 ∧ _); omega) fun t6 H19 n19 s19 h6 => ?_
              refine al_catT (SqT.of (s19 _ _ h5)) (SqT.of h6) (by simp) (by simp [cutV, HT.sIx]) (by simp [cutV, HT.sIx]) fun t7 H20 n20 s20 h7 => ?_
              have s1520 := (s1518.trans s19).trans s20
              have n7 : t7 ≠ R := fun z => by rw [z, (RA15.same (s1518.trans s19)).o] at n20; cases n20
              have RW20 := RW.same (del_mono (A := R) s1520)
              refine ⟨.ref t7, { r with coins := s * n - sh * o, share := sh }, _, _, rfl, s1520, ?_, fr.bend⟩
              exact RowAt.dp (p := t7) (f := f) (g := g) (r := { r with coins := s * n - sh * o, share := sh }) ⟨del_at h7 n7, RW20.f, RW20.g⟩
            · walk_at "xs"
              exact skip
          · walk_at "xs"
            exact skip
        · walk_at "xs"
          exact skip
      · walk_at "xs"
        exact skip

    rintro _ H16 ⟨v, r, u13, u14, rfl, s16, dv, fr⟩
    have RA16 := RA15.same s16
    have G16 := G15.trans (del_mono s16)
    have B16 := B15.same (del_mono (A := R) s16)
    have xl := RA16.len
    walk_at "xs"
    refine ⟨tyL (SqL.of RA16.o), ?_⟩
    walk_at "xs"
    refine x_append RA16.o (small (by omega)) ?_
    have RA17 := RA16.push dv
    have e17 : del (upd H16 R (.lst (xs ++ [v]))) R = del H16 R := del_upd
    generalize upd H16 R (.lst (xs ++ [v])) = H17 at RA17 e17 ⊢
    rw [← e17] at dv G16 B16
    walk_at "xs"
    refine ⟨t, w, l, d, kk, v, r, rfl, B16.same del_same, dp_same del_same dv, ok, fun x hx => ?_, fun z => ?_, fun t' w' l' d' H18 s18 B18 => ?_⟩
    · obtain ⟨m, hm, e⟩ := fr.hel x hx
      exact ⟨m, ok.d m hm, e⟩
    · rcases fr.at_ with y | y
      · exact absurd y.1 z
      · obtain ⟨_, _, m, _, e⟩ := y
        omega
    have B18 := B18.same (nw_del (H' := H18) RA17.o)
    exact ⟨_, _, _, _, t', w', l', d', kk.after r, _, _, rfl, G16.trans (del_mono s18), B18, fr.ok ok, ks, kn, fr.after ok kc, by show kk.seen + 1 = _; omega, RA17.same s18, by rw [List.length_append, rsl]; rfl, fun x hx => by
      rcases List.mem_append.mp hx with hx | hx
      · exact rf x hx
      · rw [List.mem_singleton] at hx; rw [hx]; exact fr.g ok⟩
  clear B11 hR
  clear nt11 nw8 nl9 nd10
  clear t w l d
  rintro σ H13 ⟨u11, u12, u13, u14, t, w, l, d, kk, xs, rs, rfl, G13, _, _, _, _, _, _, RA, rsl, rf⟩
  have hP13 := G13 _ _ hP11
  have hL13 := G13 _ _ hL11
  have hp13 := G13 _ _ hp11

  refine x_cut (fun σ H' => ∃ (t : Addr) (xs : List V) (rs : List RepG), σ = [some (.ref sa), some (.ref p), some (.int n), some (.int s), some (.bl bd), some (.ref P), some (.ref L), some (.ref t), some (.ref R), some (.int way), some (.int pc), u11, u12, u13, u14, none, none, none, none, none] ∧ H' P = some (.lst (pl.map V.int)) ∧ H' L = some (.lst (nI row)) ∧ H' R = some (.lst xs) ∧ DpAll K H' xs (rs.map dRepG) ∧ rs.length = n ∧ ∀ r ∈ rs, SpOk 100 r) ?_ ?_
  · have fin : ∀ (H' : Hp) (xs : List V) (rs : List RepG), Same H11 (del H' R) → RL K H' R xs rs → rs.length = n → (∀ r ∈ rs, SpOk 100 r) → (∃ (t1 : Addr) (xs : List V) (rs : List RepG), ([some (.ref sa), some (.ref p), some (.int n), some (.int s), some (.bl bd), some (.ref P), some (.ref L), some (.ref t), some (.ref R), some (.int way), some (.int pc), u11, u12, u13, u14, none, none, none, none, none] : St) = [some (.ref sa), some (.ref p), some (.int n), some (.int s), some (.bl bd), some (.ref P), some (.ref L), some (.ref t1), some (.ref R), some (.int way), some (.int pc), u11, u12, u13, u14, none, none, none, none, none] ∧ H' P = some (.lst (pl.map V.int)) ∧ H' L = some (.lst (nI row)) ∧ H' R = some (.lst xs) ∧ DpAll K H' xs (rs.map dRepG) ∧ rs.length = n ∧ ∀ r ∈ rs, SpOk 100 r) :=
      fun H' xs rs g ra l ok => ⟨t, xs, rs, rfl, del_same _ _ (g _ _ hP11), del_same _ _ (g _ _ hL11), ra.o, dpAll_same del_same ra.d, l, ok⟩
    walk_at "xs"
    walk_at "if"
    · walk_at "xs"
      obtain ⟨v, hv, dv⟩ := dpAll_get' (i := pc) RA.d (by rw [List.getElem?_map, List.getElem?_eq_getElem (show pc < rs.length by omega)]; rfl)
      refine x_ixL (SqL.of RA.o) (v := v) (by rw [atI_nat]; exact hv) ?_
      have hp13' := del_same _ _ hp13
      have xl := RA.len
      walk_at "xs"
      have fr := rf _ (List.getElem_mem (show pc < rs.length by omega))
      refine ⟨v, rs[pc], way, rows.getD (Int.toNat 6) 0, n, rfl, dp_same del_same dv, fr.w, n2.1, by omega, way0.1, fr.f, fr.h, fun p' f g H14 r' s14 RW so => ?_⟩
      have RW := RW.same (nw_del (H' := H14) RA.o)
      have RA14 := RA.same s14
      walk_at "xs"
      refine x_setL RA14.o (by omega) (by omega) ?_
      rw [Int.toNat_natCast]
      have RA15 := RA14.set pc RW.dp
      refine fin _ _ _ ?_ RA15 (by rw [List.length_set]; exact rsl) fun x hx => ?_
      · rw [del_upd]; exact G13.trans (del_mono s14)
      · rcases List.mem_or_eq_of_mem_set hx with z | z
        · exact (rf x z).sp
        · rw [z]; exact so
    · walk_at "xs"
      exact fin _ _ _ G13 RA rsl fun r hr => (rf r hr).sp
  clear RA rf hP13 hL13 hp13 G13 rsl

  rintro _ H14 ⟨t, xs, rs, rfl, hP14, hL14, hR14, hd14, rsl, rok⟩
  walk_at "xs"
  refine ⟨R, xs, rs, way, pc, n, rfl, hR14, hd14, by omega, by omega, by omega, rok, fun Z ys H15 qs s15 hZ hdZ ql qok => ?_⟩
  have hP15 := s15 _ _ hP14
  have hL15 := s15 _ _ hL14
  walk_at "xs"
  refine al_list (SqL.of hL15) fun w H16 nw16 s16 hw => ?_
  walk_at "xs"
  refine al_list (SqL.of (s16 _ _ hP15)) fun l H17 nl17 s17 hl17 => ?_
  walk_at "xs"
  refine al_lst fun d H18 nd18 s18 hd18 => ?_
  walk_at "xs"
  refine al_tup fun tt H19 nt19 s19 ht19 => ?_
  walk_at "xs"
  have s1519 := ((s16.trans s17).trans s18).trans s19
  have B19 : BookAt H19 tt w l d k0 := by
    rw [hk0]
    exact ⟨ht19, s19 _ _ (s18 _ _ (s17 _ _ hw)), s19 _ _ (s18 _ _ hl17), s19 _ _ hd18⟩
  refine ⟨tt, w, l, d, Z, k0, qs, rfl, B19, dp_same s1519 (.lst (SqL.of hZ) hdZ), ok0, (fun r hr => (qok r hr).w), fun H20 s20 => ?_⟩
  have s1520 := s1519.trans s20
  have hZ20 := s1520 _ _ hZ
  have hdZ20 := dpAll_same s1520 hdZ
  have vl := dpAll_len hdZ
  rw [List.length_map] at vl
  have hP20 := s1520 _ _ hP15
  have hL20 := s1520 _ _ hL15
  walk_at "xs"
  refine ⟨Z, rfl, ⟨_, (SqL.of hZ20)⟩, fun F2 nF2 => ?_⟩
  refine lc_data (K := K) (fun j => (qs.map dRepG)[j]?) (turnsL (K := K) (a := Z) (xs := ys)) (fun H' q => q.seq (SqL.of hZ20)) nF2 ?_ ?_
  · rintro j v Hc _ hj lc ⟨rfl, hv⟩
    obtain ⟨d, d1, d2⟩ := dpAll_get hdZ20 hv
    have hj2 : j ≤ 100000 := by
      have h1 : j < ys.length := hj
      omega
    rw [List.getElem?_map] at d1
    cases er : qs[j]? with
    | none => rw [er] at d1; cases d1
    | some r =>
      rw [er] at d1
      cases d1
      walk_at "xs"
      refine x_wipe rfl (x_yes ?_)
      rw [if_pos rfl]
      refine x_copyRow rfl (dp_same lc.s d2) fun p1 f1 g1 Hd np1 nf1 ng1 qd rw1 => ?_
      have c0 := lc.ex
      obtain ⟨acc, ha, _⟩ := c0
      have ne : ∀ {z : Addr}, Hc z = none → z ≠ F2 := fun {z} hz e => by rw [e, ha] at hz; cases hz
      exact lc.keep nF2 qd (by rw [List.getElem?_map, er]; rfl) (rw1.del (ne np1) (ne nf1) (ne ng1)).dp hj2
  intro H21 acc2 s21 hF2 dF2
  rw [show ys.length = (qs.map dRepG).length by rw [List.length_map, vl], filterMap_get] at dF2
  have DF : Dp K H21 (.ref F2) (.list (qs.map dRepG)) := .lst (SqL.of hF2) (dpAll_same del_same dF2)
  have DZ : Dp K H21 (.ref Z) (.list (qs.map dRepG)) := dp_same s21 (.lst (SqL.of hZ20) hdZ20)
  walk_at "xs"
  refine al_list (SqL.of (s21 _ _ hP20)) fun A1 H22 nA1 s22 hA1 => ?_
  walk_at "xs"
  refine al_list (SqL.of (s22 _ _ (s21 _ _ hL20))) fun A2 H23 nA2 s23 hA2 => ?_
  walk_at "xs"
  refine al_lst fun LL H24 nLL s24 hLL => ?_
  have s2124 := (s22.trans s23).trans s24
  have hA1 := s24 _ _ (s23 _ _ hA1)
  have hA2 := s24 _ _ hA2
  have DF := dp_same s2124 DF
  have DZ := dp_same s2124 DZ
  have hP24 := s2124 _ _ (s21 _ _ hP20)
  have hL24 := s2124 _ _ (s21 _ _ hL20)
  walk_at "xs"
  refine ⟨2, rfl, by decide, by decide, for_by turnsR (fun i σ H' => ∃ (u18 : Option V), σ = [some (.ref sa), some (.ref p), some (.int n), some (.int s), some (.bl bd), some (.ref P), some (.ref L), some (.ref t), some (.ref Z), some (.int way), some (.int pc), u11, u12, u13, u14, some (.int (firstB k0 0 qs)), some (.ref F2), some (.ref LL), u18, none] ∧ Same H24 H')
    ⟨none, rfl, Same.refl _⟩ (fun _ _ _ _ _ => trivial) ?_ ?_⟩
  · rintro j y σ H25 _ hj ⟨u18, rfl, s25⟩ ⟨rfl, rfl⟩
    walk_at "xs"
    refine x_ixL (SqL.of (s25 _ _ hLL)) (v := .ref A1) (by rfl) ?_
    walk_at "xs"
    refine x_ixL (SqL.of (s25 _ _ hLL)) (v := .ref A2) (by rfl) ?_
    walk_at "xs"
    refine ⟨s, A1, A2, F2, bd, pl, row, qs, rfl, tA, SqL.of (s25 _ _ hA1), SqL.of (s25 _ _ hA2), dp_same s25 DF, s2.1, s2.2, by omega, (fun x hx => by rw [hpl]; exact rm x hx), by omega, by omega, (fun r hr => by have := (qok r hr).f; omega), fun H26 s26 => ?_⟩
    rw [← kau, ← first_eq qs 0 ok0]
    walk_at "xs"
    refine x_sameSelf (n := 0) (.int _ _) (by decide) (.int _) (.int _) fun H27 s27 => ?_
    walk_at "xs"
    exact ⟨_, rfl, (s25.trans s26).trans s27⟩
  rintro σ H25 ⟨u18, rfl, s25⟩
  walk_at "xs"
  refine x_eqSelf (good_map (n := 2) (by omega : qs.length ≤ 1000) fun r hr => good_repG (qok r hr)) (by decide) (dp_same s25 DF) (dp_same s25 DZ) ?_
  walk_at "xs"
  refine al_lst fun M H26 nM s26 hM => ?_
  have s2426 := s25.trans s26
  refine x_eqSelf (n := 2) (d := .list [dInts pl, dN row]) (.lst (by simp) fun x hx => ?_) (by decide) (.lst (SqL.of (s2426 _ _ hLL)) (.cons (dp_ints (SqL.of (s2426 _ _ hA1))) (.cons (dp_nI (s2426 _ _ hA2)) .nil))) (.lst (SqL.of hM) (.cons (dp_ints (SqL.of (s2426 _ _ hP24))) (.cons (dp_nI (s2426 _ _ hL24)) .nil))) ?_
  · simp only [List.mem_cons, List.not_mem_nil, or_false] at hx
    rcases hx with rfl | rfl
    · exact good_ints (by omega)
    · exact good_dN (by omega)
  walk_at "xs"
  exact k _

end Su
namespace Su
open PySem L2
structure Fx (K : PySem.W.Frag) (mg : Str → Option Value) : Prop where
  n_abs : mg "abs" = none
  n_all : mg "all" = none
  n_bool : mg "bool" = none
  n_enumerate : mg "enumerate" = none
  n_int : mg "int" = none
  n_isinstance : mg "isinstance" = none
  n_len : mg "len" = none
  n_list : mg "list" = none
  n_max : mg "max" = none
  n_range : mg "range" = none
  n_sorted : mg "sorted" = none
  n_str : mg "str" = none
  n_tuple : mg "tuple" = none
  n_zip : mg "zip" = none
  cl_Auditor : Cls K (He.ga K "Auditor")
  t_Auditor : ClsT K "Auditor" ["stake", "size", "bidding", "left", "waits", "drew", "many_fell", "still_due", "seen"]
  gk_Auditor : mg "Auditor" = some (.ref (He.ga K "Auditor"))
  mk_Auditor : Mk K (He.ga K "Auditor") (He.fAd K ("Auditor", some "__init__"))
  g_law_after : mg "_law_after" = some (.ref (He.fAd K ("_law_after", none)))
  F_law_after : ∃ fd, FunD K "_law_after" "_law_after" (defArgs s_law_after) (defBody s_law_after) (defScope s_law_after) [] [] (He.fAd K ("_law_after", none)) fd
  g_law_bent : mg "_law_bent" = some (.ref (He.fAd K ("_law_bent", none)))
  F_law_bent : ∃ fd, FunD K "_law_bent" "_law_bent" (defArgs s_law_bent) (defBody s_law_bent) (defScope s_law_bent) [] [] (He.fAd K ("_law_bent", none)) fd
  g_law_draws : mg "_law_draws" = some (.ref (He.fAd K ("_law_draws", none)))
  F_law_draws : ∃ fd, FunD K "_law_draws" "_law_draws" (defArgs s_law_draws) (defBody s_law_draws) (defScope s_law_draws) [] [] (He.fAd K ("_law_draws", none)) fd
  g_law_grows : mg "_law_grows" = some (.ref (He.fAd K ("_law_grows", none)))
  F_law_grows : ∃ fd, FunD K "_law_grows" "_law_grows" (defArgs s_law_grows) (defBody s_law_grows) (defScope s_law_grows) [] [] (He.fAd K ("_law_grows", none)) fd
  g_law_can : mg "_law_can" = some (.ref (He.fAd K ("_law_can", none)))
  F_law_can : ∃ fd, FunD K "_law_can" "_law_can" (defArgs s_law_can) (defBody s_law_can) (defScope s_law_can) [] [] (He.fAd K ("_law_can", none)) fd
  g_law_first : mg "_law_first" = some (.ref (He.fAd K ("_law_first", none)))
  F_law_first : ∃ fd, FunD K "_law_first" "_law_first" (defArgs s_law_first) (defBody s_law_first) (defScope s_law_first) [] [] (He.fAd K ("_law_first", none)) fd
  g_law_free : mg "_law_free" = some (.ref (He.fAd K ("_law_free", none)))
  F_law_free : ∃ fd, FunD K "_law_free" "_law_free" (defArgs s_law_free) (defBody s_law_free) (defScope s_law_free) [] [] (He.fAd K ("_law_free", none)) fd
  g_law_perm : mg "_law_perm" = some (.ref (He.fAd K ("_law_perm", none)))
  F_law_perm : ∃ fd, FunD K "_law_perm" "_law_perm" (defArgs s_law_perm) (defBody s_law_perm) (defScope s_law_perm) [] [] (He.fAd K ("_law_perm", none)) fd
  g_law_opening : mg "_law_opening" = some (.ref (He.fAd K ("_law_opening", none)))
  F_law_opening : ∃ fd, FunD K "_law_opening" "_law_opening" (defArgs s_law_opening) (defBody s_law_opening) (defScope s_law_opening) [] [] (He.fAd K ("_law_opening", none)) fd
  g_law_same : mg "_law_same" = some (.ref (He.fAd K ("_law_same", none)))
  F_law_same : ∃ fd, FunD K "_law_same" "_law_same" (defArgs s_law_same) (defBody s_law_same) (defScope s_law_same) [] [] (He.fAd K ("_law_same", none)) fd
  g_law_spoilt : mg "_law_spoilt" = some (.ref (He.fAd K ("_law_spoilt", none)))
  F_law_spoilt : ∃ fd, FunD K "_law_spoilt" "_law_spoilt" (defArgs s_law_spoilt) (defBody s_law_spoilt) (defScope s_law_spoilt) [] [] (He.fAd K ("_law_spoilt", none)) fd
  F_Auditor_init : ∃ fd, FunD K "__init__" "Auditor.__init__" (defArgs s_Auditor_init) (defBody s_Auditor_init) (defScope s_Auditor_init) [] [] (He.fAd K ("Auditor", some "__init__")) fd
  m_Auditor_coins_good : Meth K (He.ga K "Auditor") "coins_good" (He.fAd K ("Auditor", some "coins_good"))
  F_Auditor_coins_good : ∃ fd, FunD K "coins_good" "Auditor.coins_good" (defArgs s_Auditor_coins_good) (defBody s_Auditor_coins_good) (defScope s_Auditor_coins_good) [] [] (He.fAd K ("Auditor", some "coins_good")) fd
  g_growing_in : mg "growing_in" = some (.ref (He.fAd K ("growing_in", none)))
  F_growing_in : ∃ fd, FunD K "growing_in" "growing_in" (defArgs s_growing_in) (defBody s_growing_in) (defScope s_growing_in) [] [] (He.fAd K ("growing_in", none)) fd
  m_Auditor_people_good : Meth K (He.ga K "Auditor") "people_good" (He.fAd K ("Auditor", some "people_good"))
  F_Auditor_people_good : ∃ fd, FunD K "people_good" "Auditor.people_good" (defArgs s_Auditor_people_good) (defBody s_Auditor_people_good) (defScope s_Auditor_people_good) [] [] (He.fAd K ("Auditor", some "people_good")) fd
  m_Auditor_step_coins : Meth K (He.ga K "Auditor") "step_coins" (He.fAd K ("Auditor", some "step_coins"))
  F_Auditor_step_coins : ∃ fd, FunD K "step_coins" "Auditor.step_coins" (defArgs s_Auditor_step_coins) (defBody s_Auditor_step_coins) (defScope s_Auditor_step_coins) [] [] (He.fAd K ("Auditor", some "step_coins")) fd
  m_Auditor_step_people : Meth K (He.ga K "Auditor") "step_people" (He.fAd K ("Auditor", some "step_people"))
  F_Auditor_step_people : ∃ fd, FunD K "step_people" "Auditor.step_people" (defArgs s_Auditor_step_people) (defBody s_Auditor_step_people) (defScope s_Auditor_step_people) [] [] (He.fAd K ("Auditor", some "step_people")) fd
  m_Auditor_take_next : Meth K (He.ga K "Auditor") "take_next" (He.fAd K ("Auditor", some "take_next"))
  F_Auditor_take_next : ∃ fd, FunD K "take_next" "Auditor.take_next" (defArgs s_Auditor_take_next) (defBody s_Auditor_take_next) (defScope s_Auditor_take_next) [] [] (He.fAd K ("Auditor", some "take_next")) fd
  g_first_wrong : mg "first_wrong" = some (.ref (He.fAd K ("first_wrong", none)))
  F_first_wrong : ∃ fd, FunD K "first_wrong" "first_wrong" (defArgs s_first_wrong) (defBody s_first_wrong) (defScope s_first_wrong) [] [] (He.fAd K ("first_wrong", none)) fd
  g_law : mg "law" = some (.ref (He.fAd K ("law", none)))
  F_law : ∃ fd, FunD K "law" "law" (defArgs s_law) (defBody s_law) (defScope s_law) [] [] (He.fAd K ("law", none)) fd
section
variable {P : Program} {w : World} {K : PySem.W.Frag} {mg : Str → Option Value} {base : Heap}
theorem sc_law_after : FnScope N_law_after ["_law_book", "_law_report"] (defScope s_law_after) := ⟨rfl, rfl, rfl, by decide +kernel, rfl, by decide +kernel, by decide +kernel⟩
theorem ok_law_after (T : Fx K mg) : Cl P w K mg base CX0 1 "_law_after" (sp_law_after K) := by
  obtain ⟨fd, F⟩ := T.F_law_after
  have sc := sc_law_after
  refine ⟨_, fd, ["_law_book", "_law_report"], T.g_law_after, F.kp, F.bindsN fun _ _ _ _ _ _ us hl => match us, hl with | [_, _], _ => rfl, ?_⟩
  refine F.ok sc (len_law_after) (fun cdv A outer s H vs Q E hr h => ⟨t_law_after K, PSs.nox ?_, pure_law_after h⟩)
  exact (pss_cons (ps_set (i := 2) sc.nd rfl (Or.inl rfl) (pe_callTy call_list_of (by rfl) T.n_list b_list (pa_cons (pe_ix ix_tup (pv 0) pe_int (fun _ _ => rfl)) pa_nil)))
 (pss_cons (ps_for PassesOwn.never rfl (pi_list (pe_ix ix_tup (pv 1) pe_int (fun _ _ => rfl))) (pg_name (i := 3) sc.nd rfl (Or.inl rfl))
 (pss_one (ps_augS (pv 2) (pv 3) get_list (pe_ix ix_tup (pv 0) pe_int (fun _ _ => rfl)) ip_sub set_list)))
 (pss_cons (ps_setLc (i := 4) (own := [("_law_at", 3)]) (g := (gName 3)) (tt := (tAnd (tTest (tOp (rIn K true) (tVar 3) (tOp (rIxT K) (tVar 1) (tC (.int 5))))) (tTest (tOp rNe (tVar 3) (tOp (rIxT K) (tVar 1) (tC (.int 2))))))) (by rfl) sc.nd rfl rfl (sw_true rfl rfl rfl (by decide +kernel)) (pi_list (pe_ix ix_tup (pv 0) pe_int (fun _ _ => rfl))) (blkOk_by (own := [("_law_at", 3)]) (N := N_law_after) (sc := defScope s_law_after) (by decide +kernel)) (fun _ _ _ _ _ => (pg_name (i := 3) sc.nd rfl (Or.inl rfl))) (fun _ _ _ _ _ => (pts_one (PW.pt (pw_and (pt_cmpR op_notIn_seq (pv 3) (pe_ix ix_tup (pv 1) pe_int (fun _ _ => rfl)) rfl) (pw_and1 (pt_cmpR op_ne (pv 3) (pe_ix ix_tup (pv 1) pe_int (fun _ _ => rfl)) (nomark _))))))) (fun _ _ _ _ _ => (pv 3)))
 (pss_cons (ps_set (i := 5) sc.nd rfl (Or.inl rfl) (pe_callTy call_list_of (by rfl) T.n_list b_list (pa_cons (pe_ix ix_tup (pv 0) pe_int (fun _ _ => rfl)) pa_nil)))
 (pss_cons (ps_set (i := 6) sc.nd rfl (Or.inl rfl) (pe_op op_add (pe_ix ix_tup (pv 0) pe_int (fun _ _ => rfl)) (pe_callB call_len_seq (by rfl) T.n_len b_len (pa_cons (pe_ix ix_tup (pv 1) pe_int (fun _ _ => rfl)) pa_nil))))
 (C8.pss_cut (ps_if (pt_cmpR op_gt (pv 6) pe_int (nomark _))
 (pss_one (ps_set (i := 6) sc.nd rfl (Or.inl rfl) (pe_op op_sub (pv 6) pe_int)))
 (pss_one (ps_expr (pe_bm PySem.F.plainAttrs_list PySem.F.slot_list_append PySem.F.type_list_append mt_append (pv 5) (pa_cons (pe_ix ix_tup (pv 1) pe_int (fun _ _ => rfl)) pa_nil)))))
 (pss_one (ps_ret (pe_tup (pa_cons (pe_ix ix_tup (pv 0) pe_int (fun _ _ => rfl)) (pa_cons (pe_ix ix_tup (pv 0) pe_int (fun _ _ => rfl)) (pa_cons (pe_ix ix_tup (pv 0) pe_int (fun _ _ => rfl)) (pa_cons (pe_op op_add (pe_ix ix_tup (pv 0) pe_int (fun _ _ => rfl)) pe_int) (pa_cons (pv 4) (pa_cons (pv 6) (pa_cons (pv 2) (pa_cons (pv 5) pa_nil)))))))))))))))))
theorem sc_law_bent : FnScope N_law_bent ["_law_reports", "_law_way", "_law_place", "_law_size"] (defScope s_law_bent) := ⟨rfl, rfl, rfl, by decide +kernel, rfl, by decide +kernel, by decide +kernel⟩
theorem ok_law_bent (T : Fx K mg) : Cl P w K mg base CX0 1 "_law_bent" (sp_law_bent K) := by
  obtain ⟨fd, F⟩ := T.F_law_bent
  have sc := sc_law_bent
  refine ⟨_, fd, ["_law_reports", "_law_way", "_law_place", "_law_size"], T.g_law_bent, F.kp, F.bindsN fun _ _ _ _ _ _ us hl => match us, hl with | [_, _, _, _], _ => rfl, ?_⟩
  refine F.ok sc (len_law_bent) (fun cdv A outer s H vs Q E hr h => ⟨t_law_bent K, PSs.nox ?_, pure_law_bent h⟩)
  exact (pss_cons (ps_if (pt_cmpR op_eq (pv 1) pe_int (nomark _))
 (pss_one (ps_ret (pe_op op_cat (pe_slice sl_list (pv 0) po_none (po_some (pv 2))) (pe_slice sl_list (pv 0) (po_some (pe_op op_add (pv 2) pe_int)) po_none))))
 pss_nil)
 (pss_cons (ps_if (pt_cmpR op_eq (pv 1) pe_int (nomark _))
 (pss_one (ps_ret (pe_op op_cat (pe_op op_cat (pe_slice sl_list (pv 0) po_none (po_some (pv 2))) (pe_lst (pa_cons (pe_ix ix_list (pv 0) (pv 2) (fun _ _ => rfl)) pa_nil))) (pe_slice sl_list (pv 0) (po_some (pv 2)) po_none))))
 pss_nil)
 (pss_cons (ps_if (pt_cmpR op_eq (pv 1) pe_int (nomark _))
 (pss_one (ps_ret (pe_op op_cat (pv 0) (pe_lst (pa_cons (pe_tup (pa_cons (pe_op op_add (pv 3) pe_int) (pa_cons pe_str (pa_cons (pe_un un_neg pe_int) (pa_cons pe_int (pa_cons pe_int (pa_cons (pe_lst pa_nil) (pa_cons (pe_lst pa_nil) pa_nil)))))))) pa_nil)))))
 pss_nil)
 (pss_one (ps_ret (pv 0))))))
theorem sc_law_draws : FnScope N_law_draws ["_law_script", "_law_many"] (defScope s_law_draws) := ⟨rfl, rfl, rfl, by decide +kernel, rfl, by decide +kernel, by decide +kernel⟩
theorem ok_law_draws (T : Fx K mg) : Cl P w K mg base CX0 1 "_law_draws" (sp_law_draws K) := by
  obtain ⟨fd, F⟩ := T.F_law_draws
  have sc := sc_law_draws
  refine ⟨_, fd, ["_law_script", "_law_many"], T.g_law_draws, F.kp, F.bindsN fun _ _ _ _ _ _ us hl => match us, hl with | [_, _], _ => rfl, ?_⟩
  refine F.ok sc (len_law_draws) (fun cdv A outer s H vs Q E hr h => ⟨t_law_draws K, PSs.nox ?_, pure_law_draws h⟩)
  exact (pss_cons (ps_set (i := 2) sc.nd rfl (Or.inl rfl) (pe_lst pa_nil))
 (pss_cons (ps_set (i := 3) sc.nd rfl (Or.inl rfl) pe_int)
 (pss_cons (ps_for PassesOwn.never rfl (pi_list (pv 0)) (pg_name (i := 4) sc.nd rfl (Or.inl rfl))
 (pss_cons (ps_set (i := 3) sc.nd rfl (Or.inl rfl) (pe_op op_mod (pe_op op_add (pe_op op_mul (pv 3) pe_int) (pv 4)) pe_int))
 (pss_cons (ps_set (i := 5) sc.nd rfl (Or.inl rfl) (pe_callB call_abs (by rfl) T.n_abs b_abs (pa_cons (pv 4) pa_nil)))
 (C8.pss_cut (ps_if (pt_cmpR op_lt (pv 5) (pe_op op_pow pe_int pe_int) (nomark _))
 (pss_cons (ps_expr (pe_bm PySem.F.plainAttrs_list PySem.F.slot_list_append PySem.F.type_list_append mt_append (pv 2) (pa_cons (pv 4) pa_nil)))
 (pss_one (ps_set (i := 5) sc.nd rfl (Or.inl rfl) pe_int)))
 pss_nil)
 (pss_one (ps_while PassesOwn.never (PW.pt (pw_and (pt_cmpR op_gt (pv 5) pe_int (nomark _)) (pw_and1 (pt_cmpR op_lt (pe_callB call_len_seq (by rfl) T.n_len b_len (pa_cons (pv 2) pa_nil)) (pv 1) (nomark _)))))
 (pss_cons (ps_expr (pe_bm PySem.F.plainAttrs_list PySem.F.slot_list_append PySem.F.type_list_append mt_append (pv 2) (pa_cons (pe_op op_mod (pv 5) pe_int) pa_nil)))
 (pss_one (ps_set (i := 5) sc.nd rfl (Or.inl rfl) (pe_op op_fdiv (pv 5) pe_int))))))))))
 (pss_cons (ps_while PassesOwn.never (pt_cmpR op_lt (pe_callB call_len_seq (by rfl) T.n_len b_len (pa_cons (pv 2) pa_nil)) (pv 1) (nomark _))
 (pss_cons (ps_set (i := 3) sc.nd rfl (Or.inl rfl) (pe_op op_mod (pe_op op_add (pe_op op_mul (pv 3) pe_int) pe_int) pe_int))
 (pss_one (ps_expr (pe_bm PySem.F.plainAttrs_list PySem.F.slot_list_append PySem.F.type_list_append mt_append (pv 2) (pa_cons (pe_op op_mod (pe_op op_mul (pv 3) (pv 3)) pe_int) pa_nil))))))
 (pss_one (ps_ret (pv 2)))))))
theorem sc_law_grows : FnScope N_law_grows ["_law_row", "_law_allowed"] (defScope s_law_grows) := ⟨rfl, rfl, rfl, by decide +kernel, rfl, by decide +kernel, by decide +kernel⟩
theorem ok_law_grows (T : Fx K mg) : Cl P w K mg base CX0 1 "_law_grows" (sp_law_grows K) := by
  obtain ⟨fd, F⟩ := T.F_law_grows
  have sc := sc_law_grows
  refine ⟨_, fd, ["_law_row", "_law_allowed"], T.g_law_grows, F.kp, F.bindsN fun _ _ _ _ _ _ us hl => match us, hl with | [_, _], _ => rfl, ?_⟩
  refine F.ok sc (len_law_grows) (fun cdv A outer s H vs Q E hr h => ⟨t_law_grows K, PSs.nox ?_, pure_law_grows h⟩)
  exact (pss_cons (ps_set (i := 2) sc.nd rfl (Or.inl rfl) (pe_un un_neg pe_int))
 (pss_cons (ps_for PassesOwn.never rfl (pi_list (pv 0)) (pg_name (i := 3) sc.nd rfl (Or.inl rfl))
 (pss_cons (ps_if (PW.pt (pw_or (pt_cmpR op_le (pv 3) (pv 2) (nomark _)) (pw_or1 (pt_cmpR op_notIn_seq (pv 3) (pv 1) rfl))))
 (pss_one (ps_ret pe_bl))
 pss_nil)
 (pss_one (ps_set (i := 2) sc.nd rfl (Or.inl rfl) (pv 3)))))
 (pss_one (ps_ret pe_bl))))
theorem sc_law_can : FnScope N_law_can ["_law_book", "_law_report"] (defScope s_law_can) := ⟨rfl, rfl, rfl, by decide +kernel, rfl, by decide +kernel, by decide +kernel⟩
theorem ok_law_can (T : Fx K mg) : Cl P w K mg base CX0 2 "_law_can" (sp_law_can K) := by
  obtain ⟨fd, F⟩ := T.F_law_can
  have sc := sc_law_can
  refine ⟨_, fd, ["_law_book", "_law_report"], T.g_law_can, F.kp, F.bindsN fun _ _ _ _ _ _ us hl => match us, hl with | [_, _], _ => rfl, ?_⟩
  refine F.ok sc (len_law_can) (fun cdv A outer s H vs Q E hr h => ⟨t_law_can K, PSs.nox ?_, pure_law_can h⟩)
  exact (pss_cons (ps_asg (pv 0) (pg_tup rfl (pgs_cons (pg_name (i := 2) sc.nd rfl (Or.inl rfl)) (pgs_cons (pg_name (i := 3) sc.nd rfl (Or.inl rfl)) (pgs_cons (pg_name (i := 4) sc.nd rfl (Or.inl rfl)) (pgs_cons (pg_name (i := 5) sc.nd rfl (Or.inl rfl)) (pgs_cons (pg_name (i := 6) sc.nd rfl (Or.inl rfl)) (pgs_cons (pg_name (i := 7) sc.nd rfl (Or.inl rfl)) (pgs_cons (pg_name (i := 8) sc.nd rfl (Or.inl rfl)) (pgs_cons (pg_name (i := 9) sc.nd rfl (Or.inl rfl)) pgs_nil))))))))))
 (pss_cons (ps_if (PW.pt (pw_or (pt_cmpR op_ne (pe_ix ix_tup (pv 1) pe_int (fun _ _ => rfl)) (pe_op op_add (pv 5) pe_int) (nomark _)) (pw_or1 (pt_cmpR op_ge (pv 5) (pv 3) (nomark _)))))
 (pss_one (ps_ret pe_bl))
 pss_nil)
 (pss_cons (ps_if (PW.pt (pw_or (pt_not (pt_val (pe_cl (ok_law_grows T) hr (by decide) (by rfl) pass0 (pa_cons (pe_ix ix_tup (pv 1) pe_int (fun _ _ => rfl)) (pa_cons (pv 6) pa_nil))))) (pw_or1 (pt_not (pt_val (pe_cl (ok_law_grows T) hr (by decide) (by rfl) pass0 (pa_cons (pe_ix ix_tup (pv 1) pe_int (fun _ _ => rfl)) (pa_cons (pv 9) pa_nil))))))))
 (pss_one (ps_ret pe_bl))
 pss_nil)
 (pss_cons (ps_for PassesOwn.never rfl (pi_list (pe_ix ix_tup (pv 1) pe_int (fun _ _ => rfl))) (pg_name (i := 10) sc.nd rfl (Or.inl rfl))
 (pss_one (ps_if (pt_cmpR op_lt (pe_ix ix_list (pv 8) (pv 10) (fun _ _ => rfl)) (pv 2) (nomark _))
 (pss_one (ps_ret pe_bl))
 pss_nil)))
 (pss_cons (ps_setLc (i := 11) (own := [("_law_at", 10)]) (g := (gName 10)) (tt := (tTest (tOp (rIn K true) (tVar 10) (tOp (rIxT K) (tVar 1) (tC (.int 5)))))) (by rfl) sc.nd rfl rfl (sw_true rfl rfl rfl (by decide +kernel)) (pi_list (pv 6)) (blkOk_by (own := [("_law_at", 10)]) (N := N_law_can) (sc := defScope s_law_can) (by decide +kernel)) (fun _ _ _ _ _ => (pg_name (i := 10) sc.nd rfl (Or.inl rfl))) (fun _ _ _ _ _ => (pts_one (pt_cmpR op_notIn_seq (pv 10) (pe_ix ix_tup (pv 1) pe_int (fun _ _ => rfl)) rfl))) (fun _ _ _ _ _ => (pv 10)))
 (pss_cons (ps_set (i := 12) sc.nd rfl (Or.inl rfl) (pe_op op_add (pe_callB call_len_seq (by rfl) T.n_len b_len (pa_cons (pv 11) pa_nil)) (pe_callB call_len_seq (by rfl) T.n_len b_len (pa_cons (pv 9) pa_nil))))
 (pss_cons (ps_if (pt_cmpR op_gt (pe_op op_add (pv 7) (pe_callB call_len_seq (by rfl) T.n_len b_len (pa_cons (pe_ix ix_tup (pv 1) pe_int (fun _ _ => rfl)) pa_nil))) pe_int (nomark _))
 (pss_one (ps_ret (pe_cmpR (op_eqD hr.units) (pe_slice sl_tup (pv 1) (po_some pe_int) (po_some pe_int)) (pe_tup (pa_cons pe_str (pa_cons (pe_un un_neg pe_int) (pa_cons (pe_op op_mul (pv 2) (pv 12)) (pa_cons pe_int pa_nil))))) (nomark _))))
 pss_nil)
 (pss_cons (ps_if (PW.pt (pw_or (pt_cmpR op_ne (pe_ix ix_tup (pv 1) pe_int (fun _ _ => rfl)) pe_str (nomark _)) (pw_or (pt_cmpR op_notIn_seq (pe_ix ix_tup (pv 1) pe_int (fun _ _ => rfl)) (pv 11) rfl) (pw_or1 (pt_cmpR op_lt (pe_ix ix_list (pv 8) (pe_ix ix_tup (pv 1) pe_int (fun _ _ => rfl)) (fun _ _ => rfl)) (pe_op op_mul (pv 2) (pe_op op_sub (pv 3) (pe_ix ix_tup (pv 1) pe_int (fun _ _ => rfl)))) (nomark _))))))
 (pss_one (ps_ret pe_bl))
 pss_nil)
 (pss_cons (ps_if (PW.pt (pw_or (PW.pt (pw_and (pt_not (pt_val (pv 4))) (pw_and1 (pt_cmpR op_ne (pe_ix ix_tup (pv 1) pe_int (fun _ _ => rfl)) (pe_ix ix_list (pv 11) pe_int (fun _ _ => rfl)) (nomark _))))) (pw_or (pt_cmpR op_lt (pe_ix ix_tup (pv 1) pe_int (fun _ _ => rfl)) pe_int (nomark _)) (pw_or1 (pt_cmpR op_lt (pe_ix ix_tup (pv 1) pe_int (fun _ _ => rfl)) pe_int (nomark _))))))
 (pss_one (ps_ret pe_bl))
 pss_nil)
 (pss_cons (ps_if (PW.pt (pw_and (pt_cmpR op_gt (pe_ix ix_tup (pv 1) pe_int (fun _ _ => rfl)) pe_int (nomark _)) (pw_and1 (PW.pt (pw_or (pt_not (pt_val (pv 4))) (pw_or1 (pt_cmpR op_eq (pv 12) pe_int (nomark _))))))))
 (pss_one (ps_ret pe_bl))
 pss_nil)
 (pss_one (ps_ret (pe_cmpR op_eq (pe_op op_add (pe_ix ix_tup (pv 1) pe_int (fun _ _ => rfl)) (pe_op op_mul (pe_ix ix_tup (pv 1) pe_int (fun _ _ => rfl)) (pe_op op_sub (pv 12) pe_int))) (pe_op op_mul (pv 2) (pv 3)) (nomark _))))))))))))))
theorem sc_law_first : FnScope N_law_first ["_law_book", "_law_reports"] (defScope s_law_first) := ⟨rfl, rfl, rfl, by decide +kernel, rfl, by decide +kernel, by decide +kernel⟩
theorem ok_law_first (T : Fx K mg) : Cl P w K mg base CX0 3 "_law_first" (sp_law_first K) := by
  obtain ⟨fd, F⟩ := T.F_law_first
  have sc := sc_law_first
  refine ⟨_, fd, ["_law_book", "_law_reports"], T.g_law_first, F.kp, F.bindsN fun _ _ _ _ _ _ us hl => match us, hl with | [_, _], _ => rfl, ?_⟩
  refine F.ok sc (len_law_first) (fun cdv A outer s H vs Q E hr h => ⟨t_law_first K, PSs.nox ?_, pure_law_first h⟩)
  exact (pss_cons (ps_for PassesOwn.never rfl (pi_enum (by rfl) T.n_enumerate (pa_cons (pv 1) pa_nil)) (pg_tup rfl (pgs_cons (pg_name (i := 2) sc.nd rfl (Or.inl rfl)) (pgs_cons (pg_name (i := 3) sc.nd rfl (Or.inl rfl)) pgs_nil)))
 (pss_cons (ps_if (pt_not (pt_val (pe_cl (ok_law_can T) hr (by decide) (by rfl) pass0 (pa_cons (pv 0) (pa_cons (pv 3) pa_nil)))))
 (pss_one (ps_ret (pv 2)))
 pss_nil)
 (pss_one (ps_set (i := 0) sc.nd rfl (Or.inl rfl) (pe_cl (ok_law_after T) hr (by decide) (by rfl) pass0 (pa_cons (pv 0) (pa_cons (pv 3) pa_nil)))))))
 (pss_one (ps_ret (pe_un un_neg pe_int))))
theorem sc_law_free : FnScope N_law_free ["_law_book", "_law_some"] (defScope s_law_free) := ⟨rfl, rfl, rfl, by decide +kernel, rfl, by decide +kernel, by decide +kernel⟩
theorem ok_law_free (T : Fx K mg) : Cl P w K mg base CX0 1 "_law_free" (sp_law_free K) := by
  obtain ⟨fd, F⟩ := T.F_law_free
  have sc := sc_law_free
  refine ⟨_, fd, ["_law_book", "_law_some"], T.g_law_free, F.kp, F.bindsN fun _ _ _ _ _ _ us hl => match us, hl with | [_, _], _ => rfl, ?_⟩
  refine F.ok sc (len_law_free) (fun cdv A outer s H vs Q E hr h => ⟨t_law_free K, PSs.nox ?_, pure_law_free h⟩)
  exact (pss_cons (ps_asg (pv 0) (pg_tup rfl (pgs_cons (pg_name (i := 2) sc.nd rfl (Or.inr rfl)) (pgs_cons (pg_name (i := 3) sc.nd rfl (Or.inr rfl)) (pgs_cons (pg_name (i := 4) sc.nd rfl (Or.inl rfl)) (pgs_cons (pg_name (i := 5) sc.nd rfl (Or.inr rfl)) (pgs_cons (pg_name (i := 6) sc.nd rfl (Or.inl rfl)) (pgs_cons (pg_name (i := 7) sc.nd rfl (Or.inl rfl)) (pgs_cons (pg_name (i := 8) sc.nd rfl (Or.inr rfl)) (pgs_cons (pg_name (i := 9) sc.nd rfl (Or.inl rfl)) pgs_nil))))))))))
 (pss_cons (ps_set (i := 10) sc.nd rfl (Or.inr rfl) (pe_lc (own := [("_law_at", 17)]) (g := (gName 17)) (tt := (tTest (tOp rEq (tOp rMod (tOp rAdd (tOp rDiv (tOp (rIxL K) (tVar 1) (tC (.int 0))) (tC (.int 3))) (tOp rMul (tVar 17) (tOp (rIxL K) (tVar 1) (tC (.int 0))))) (tC (.int 5))) (tC (.int 1))))) (by rfl) sc.nd (pi_list (pe_callB cr_sortedI (by rfl) T.n_sorted b_sorted (pa_cons (pv 6) pa_nil))) (blkOk_by (own := [("_law_at", 17)]) (N := N_law_free) (sc := defScope s_law_free) (by decide +kernel)) (fun _ _ _ _ _ => (pg_name (i := 17) sc.nd rfl (Or.inl rfl))) (fun _ _ _ _ _ => (pts_one (pt_cmpR op_eq (pe_op op_mod (pe_op op_add (pe_op op_fdiv (pe_ix ix_list (pv 1) pe_int (fun _ _ => rfl)) pe_int) (pe_op op_mul (pv 17) (pe_ix ix_list (pv 1) pe_int (fun _ _ => rfl)))) pe_int) pe_int (nomark _)))) (fun _ _ _ _ _ => (pv 17))))
 (pss_cons (ps_setLc (i := 11) (own := [("_law_at", 17)]) (g := (gName 17)) (tt := (tAnd (tTest (tOp rEq (tOp rMod (tOp rAdd (tOp rDiv (tOp (rIxL K) (tVar 1) (tC (.int 1))) (tC (.int 3))) (tOp rMul (tVar 17) (tOp (rIxL K) (tVar 1) (tC (.int 1))))) (tC (.int 3))) (tC (.int 1)))) (tTest (tOp rGe (tOp (rIxL K) (tVar 8) (tVar 17)) (tVar 2))))) (by rfl) sc.nd rfl rfl (sw_true rfl rfl rfl (by decide +kernel)) (pi_list (pe_callB cr_sortedI (by rfl) T.n_sorted b_sorted (pa_cons (pv 9) pa_nil))) (blkOk_by (own := [("_law_at", 17)]) (N := N_law_free) (sc := defScope s_law_free) (by decide +kernel)) (fun _ _ _ _ _ => (pg_name (i := 17) sc.nd rfl (Or.inl rfl))) (fun _ _ _ _ _ => (pts_one (PW.pt (pw_and (pt_cmpR op_eq (pe_op op_mod (pe_op op_add (pe_op op_fdiv (pe_ix ix_list (pv 1) pe_int (fun _ _ => rfl)) pe_int) (pe_op op_mul (pv 17) (pe_ix ix_list (pv 1) pe_int (fun _ _ => rfl)))) pe_int) pe_int (nomark _)) (pw_and1 (pt_cmpR op_ge (pe_ix ix_list (pv 8) (pv 17) (fun _ _ => rfl)) (pv 2) (nomark _))))))) (fun _ _ _ _ _ => (pv 17)))
 (pss_cons (ps_setLc (i := 12) (own := [("_law_at", 17)]) (g := (gName 17)) (tt := (tTest (tOp (rIn K true) (tVar 17) (tVar 10)))) (by rfl) sc.nd rfl rfl (sw_true rfl rfl rfl (by decide +kernel)) (pi_list (pv 6)) (blkOk_by (own := [("_law_at", 17)]) (N := N_law_free) (sc := defScope s_law_free) (by decide +kernel)) (fun _ _ _ _ _ => (pg_name (i := 17) sc.nd rfl (Or.inl rfl))) (fun _ _ _ _ _ => (pts_one (pt_cmpR op_notIn_seq (pv 17) (pv 10) rfl))) (fun _ _ _ _ _ => (pv 17)))
 (pss_cons (ps_set (i := 13) sc.nd rfl (Or.inl rfl) (pe_op op_add (pe_callB call_len_seq (by rfl) T.n_len b_len (pa_cons (pv 12) pa_nil)) (pe_callB call_len_seq (by rfl) T.n_len b_len (pa_cons (pv 9) pa_nil))))
 (pss_cons (ps_if (PW.pt (pw_or (pt_cmpR op_gt (pe_op op_add (pv 7) (pe_callB call_len_seq (by rfl) T.n_len b_len (pa_cons (pv 10) pa_nil))) pe_int (nomark _)) (pw_or1 (pt_cmpR op_eq (pe_callB call_len_seq (by rfl) T.n_len b_len (pa_cons (pv 12) pa_nil)) pe_int (nomark _)))))
 (pss_one (ps_ret (pe_tup (pa_cons (pe_op op_add (pv 5) pe_int) (pa_cons pe_str (pa_cons (pe_un un_neg pe_int) (pa_cons (pe_op op_mul (pv 2) (pv 13)) (pa_cons pe_int (pa_cons (pv 10) (pa_cons (pv 11) pa_nil))))))))))
 pss_nil)
 (pss_cons (ps_setLc (i := 14) (own := [("_law_at", 17)]) (g := (gName 17)) (tt := (tTest (tOp rGe (tOp (rIxL K) (tVar 8) (tVar 17)) (tOp rMul (tVar 2) (tOp rSub (tOp rSub (tVar 3) (tVar 5)) (tC (.int 1))))))) (by rfl) sc.nd rfl rfl (sw_true rfl rfl rfl (by decide +kernel)) (pi_list (pv 12)) (blkOk_by (own := [("_law_at", 17)]) (N := N_law_free) (sc := defScope s_law_free) (by decide +kernel)) (fun _ _ _ _ _ => (pg_name (i := 17) sc.nd rfl (Or.inl rfl))) (fun _ _ _ _ _ => (pts_one (pt_cmpR op_ge (pe_ix ix_list (pv 8) (pv 17) (fun _ _ => rfl)) (pe_op op_mul (pv 2) (pe_op op_sub (pe_op op_sub (pv 3) (pv 5)) pe_int)) (nomark _)))) (fun _ _ _ _ _ => (pv 17)))
 (pss_cons (ps_set (i := 15) sc.nd rfl (Or.inl rfl) (pe_ix ix_list (pv 12) pe_int (fun _ _ => rfl)))
 (pss_cons (ps_set (i := 16) sc.nd rfl (Or.inl rfl) pe_int)
 (C8.pss_cut (ps_if (PW.pt (pw_and (pt_val (pv 4)) (pw_and1 (pt_cmpR op_gt (pe_callB call_len_seq (by rfl) T.n_len b_len (pa_cons (pv 14) pa_nil)) pe_int (nomark _)))))
 (pss_cons (ps_set (i := 15) sc.nd rfl (Or.inl rfl) (pe_ix ix_list (pv 14) (pe_op op_mod (pe_ix ix_list (pv 1) pe_int (fun _ _ => rfl)) (pe_callB call_len_seq (by rfl) T.n_len b_len (pa_cons (pv 14) pa_nil))) (fun _ _ => rfl)))
 (pss_one (ps_if (pt_cmpR op_gt (pv 13) pe_int (nomark _))
 (pss_one (ps_set (i := 16) sc.nd rfl (Or.inl rfl) (pe_op op_mod (pe_ix ix_list (pv 1) pe_int (fun _ _ => rfl)) (pe_op op_add (pe_op op_fdivW (pe_op op_mul (pv 2) (pv 3)) (pe_op op_sub (pv 13) pe_int)) pe_int))))
 pss_nil)))
 pss_nil)
 (pss_one (ps_ret (pe_tup (pa_cons (pe_op op_add (pv 5) pe_int) (pa_cons pe_str (pa_cons (pv 15) (pa_cons (pe_op op_sub (pe_op op_mul (pv 2) (pv 3)) (pe_op op_mul (pv 16) (pe_op op_sub (pv 13) pe_int))) (pa_cons (pv 16) (pa_cons (pv 10) (pa_cons (pv 11) pa_nil))))))))))))))))))))
theorem sc_law_perm : FnScope N_law_perm ["_law_some", "_law_size"] (defScope s_law_perm) := ⟨rfl, rfl, rfl, by decide +kernel, rfl, by decide +kernel, by decide +kernel⟩
theorem ok_law_perm (T : Fx K mg) : Cl P w K mg base CX0 1 "_law_perm" (sp_law_perm K) := by
  obtain ⟨fd, F⟩ := T.F_law_perm
  have sc := sc_law_perm
  refine ⟨_, fd, ["_law_some", "_law_size"], T.g_law_perm, F.kp, F.bindsN fun _ _ _ _ _ _ us hl => match us, hl with | [_, _], _ => rfl, ?_⟩
  refine F.ok sc (len_law_perm) (fun cdv A outer s H vs Q E hr h => ⟨t_law_perm K, PSs.nox ?_, pure_law_perm h⟩)
  exact (pss_cons (ps_set (i := 2) sc.nd rfl (Or.inl rfl) (pe_lst pa_nil))
 (pss_cons (ps_for PassesOwn.never rfl (pi_range1 (by rfl) T.n_range (pa_cons (pv 1) pa_nil)) (pg_name (i := 3) sc.nd rfl (Or.inl rfl))
 (pss_one (ps_expr (pe_bm PySem.F.plainAttrs_list PySem.F.slot_list_insert PySem.F.type_list_insert mt_insert (pv 2) (pa_cons (pe_op op_mod (pe_ix ix_list (pv 0) (pv 3) (fun _ _ => rfl)) (pe_op op_add (pv 3) pe_int)) (pa_cons (pv 3) pa_nil))))))
 (pss_one (ps_ret (pv 2)))))
theorem sc_law_opening : FnScope N_law_opening ["_law_some", "_law_size", "_law_stake"] (defScope s_law_opening) := ⟨rfl, rfl, rfl, by decide +kernel, rfl, by decide +kernel, by decide +kernel⟩
theorem ok_law_opening (T : Fx K mg) : Cl P w K mg base CX0 2 "_law_opening" (sp_law_opening K) := by
  obtain ⟨fd, F⟩ := T.F_law_opening
  have sc := sc_law_opening
  refine ⟨_, fd, ["_law_some", "_law_size", "_law_stake"], T.g_law_opening, F.kp, F.bindsN fun _ _ _ _ _ _ us hl => match us, hl with | [_, _, _], _ => rfl, ?_⟩
  refine F.ok sc (len_law_opening) (fun cdv A outer s H vs Q E hr h => ⟨t_law_opening K, PSs.nox ?_, pure_law_opening h⟩)
  exact (pss_cons (ps_set (i := 3) sc.nd rfl (Or.inl rfl) (pe_op op_rep (pe_lst (pa_cons pe_int pa_nil)) (pv 1)))
 (pss_cons (ps_set (i := 4) sc.nd rfl (Or.inl rfl) (pe_op op_rep (pe_lst (pa_cons (pv 1) pa_nil)) (pv 1)))
 (pss_cons (ps_for PassesOwn.never rfl (pi_enum (by rfl) T.n_enumerate (pa_cons (pe_cl (ok_law_perm T) hr (by decide) (by rfl) pass0 (pa_cons (pv 0) (pa_cons (pv 1) pa_nil))) pa_nil)) (pg_tup rfl (pgs_cons (pg_name (i := 5) sc.nd rfl (Or.inl rfl)) (pgs_cons (pg_name (i := 6) sc.nd rfl (Or.inl rfl)) pgs_nil)))
 (pss_cons (ps_set (i := 7) sc.nd rfl (Or.inl rfl) (pe_op op_mul (pe_op op_mod (pe_op op_fdiv (pe_ix ix_list (pv 0) (pe_op op_add (pv 1) (pv 5)) (fun _ _ => rfl)) pe_int) (pe_op op_add (pe_op op_mul pe_int (pv 2)) pe_int)) (pe_op op_mod (pe_ix ix_list (pv 0) (pe_op op_add (pv 1) (pv 5)) (fun _ _ => rfl)) pe_int)))
 (pss_cons (ps_asg (pe_callB (call_max2 rfl) (by rfl) T.n_max b_max (pa_cons pe_int (pa_cons (pe_op op_add (pe_op op_mul (pv 2) (pe_op op_sub (pe_op op_sub (pv 1) pe_int) (pv 5))) (pe_op op_mul (pv 7) (pe_op op_mod (pe_op op_fdiv (pe_ix ix_list (pv 0) (pe_op op_add (pv 1) (pv 5)) (fun _ _ => rfl)) pe_int) pe_int))) pa_nil))) (pg_sub (pv 3) (pv 6) set_list))
 (pss_one (ps_asg (pe_op op_add (pe_op op_add (pv 5) pe_int) (pe_op op_mod (pe_ix ix_list (pv 0) (pe_op op_add (pe_op op_mul pe_int (pv 1)) (pv 5)) (fun _ _ => rfl)) (pe_op op_sub (pv 1) (pv 5)))) (pg_sub (pv 4) (pv 6) set_list))))))
 (pss_one (ps_ret (pe_tup (pa_cons (pv 3) (pa_cons (pv 4) pa_nil))))))))
theorem sc_law_same : FnScope N_law_same ["_law_told", "_law_due"] (defScope s_law_same) := ⟨rfl, rfl, rfl, by decide +kernel, rfl, by decide +kernel, by decide +kernel⟩
theorem okr_law_same (T : Fx K mg) : ∀ m, Cl P w K mg base CX0 (m + 1) "_law_same" (spn_law_same K m)
  | 0 => by
    have ih : Fx K mg → Cl P w K mg base CX0 0 "_law_same" (fun _ _ _ _ => False) := fun T => T.F_law_same.elim fun fd F => ⟨_, fd, ["_law_told", "_law_due"], T.g_law_same, F.kp, F.bindsN fun _ _ _ _ _ _ us hl => match us, hl with | [_, _], _ => rfl, fn_false⟩
    obtain ⟨fd, F⟩ := T.F_law_same
    have sc := sc_law_same
    refine ⟨_, fd, ["_law_told", "_law_due"], T.g_law_same, F.kp, F.bindsN fun _ _ _ _ _ _ us hl => match us, hl with | [_, _], _ => rfl, ?_⟩
    refine F.ok sc (len_law_same) (fun cdv A outer s H vs Q E hr h => ⟨t_law_same K (fun _ _ _ _ => False), PSs.nox ?_, pure0_law_same h⟩)
    exact (pss_cons (ps_if (PW.pt (pw_or (pt_cmpR op_ne (pe_callB call_isi (by rfl) T.n_isinstance b_isinstance (pa_cons (pv 0) (pa_cons (pe_bltn (v := .ty "bool") (by rfl) T.n_bool b_bool rfl) pa_nil))) (pe_callB call_isi (by rfl) T.n_isinstance b_isinstance (pa_cons (pv 1) (pa_cons (pe_bltn (v := .ty "bool") (by rfl) T.n_bool b_bool rfl) pa_nil))) (nomark _)) (pw_or1 (pt_cmpR op_ne (pe_callB call_isi (by rfl) T.n_isinstance b_isinstance (pa_cons (pv 0) (pa_cons (pe_bltn (v := .ty "int") (by rfl) T.n_int b_int rfl) pa_nil))) (pe_callB call_isi (by rfl) T.n_isinstance b_isinstance (pa_cons (pv 1) (pa_cons (pe_bltn (v := .ty "int") (by rfl) T.n_int b_int rfl) pa_nil))) (nomark _)))))
 (pss_one (ps_ret pe_bl))
 pss_nil)
 (pss_cons (ps_if (PW.pt (pw_or (pt_cmpR op_ne (pe_callB call_isi (by rfl) T.n_isinstance b_isinstance (pa_cons (pv 0) (pa_cons (pe_bltn (v := .ty "list") (by rfl) T.n_list b_list rfl) pa_nil))) (pe_callB call_isi (by rfl) T.n_isinstance b_isinstance (pa_cons (pv 1) (pa_cons (pe_bltn (v := .ty "list") (by rfl) T.n_list b_list rfl) pa_nil))) (nomark _)) (pw_or1 (pt_cmpR op_ne (pe_callB call_isi (by rfl) T.n_isinstance b_isinstance (pa_cons (pv 0) (pa_cons (pe_bltn (v := .ty "tuple") (by rfl) T.n_tuple b_tuple rfl) pa_nil))) (pe_callB call_isi (by rfl) T.n_isinstance b_isinstance (pa_cons (pv 1) (pa_cons (pe_bltn (v := .ty "tuple") (by rfl) T.n_tuple b_tuple rfl) pa_nil))) (nomark _)))))
 (pss_one (ps_ret pe_bl))
 pss_nil)
 (pss_cons (ps_if (PW.pt (pw_and (pt_not (pt_val (pe_callB call_isi (by rfl) T.n_isinstance b_isinstance (pa_cons (pv 1) (pa_cons (pe_bltn (v := .ty "list") (by rfl) T.n_list b_list rfl) pa_nil))))) (pw_and1 (pt_not (pt_val (pe_callB call_isi (by rfl) T.n_isinstance b_isinstance (pa_cons (pv 1) (pa_cons (pe_bltn (v := .ty "tuple") (by rfl) T.n_tuple b_tuple rfl) pa_nil))))))))
 (pss_one (ps_ret (pe_and (pe_cmpR op_eq (pe_callB call_isi (by rfl) T.n_isinstance b_isinstance (pa_cons (pv 0) (pa_cons (pe_bltn (v := .ty "str") (by rfl) T.n_str b_str rfl) pa_nil))) (pe_callB call_isi (by rfl) T.n_isinstance b_isinstance (pa_cons (pv 1) (pa_cons (pe_bltn (v := .ty "str") (by rfl) T.n_str b_str rfl) pa_nil))) (nomark _)) (pe_one (pe_cmpR (op_eqD hr.units) (pv 0) (pv 1) (nomark _))))))
 pss_nil)
 (pss_one (ps_ret (pe_and (pe_cmpR op_eq (pe_callB call_len_seq (by rfl) T.n_len b_len (pa_cons (pv 0) pa_nil)) (pe_callB call_len_seq (by rfl) T.n_len b_len (pa_cons (pv 1) pa_nil)) (nomark _)) (pe_one (pe_callB (cr_all rfl) (by rfl) T.n_all b_all (pa_cons (pe_lc (own := [("_law_one", 2), ("_law_other", 3)]) (g := (gTup K 2 (gCons (gName 2) (gCons (gName 3) gNil)))) (tt := tYes) (by rfl) sc.nd (RZ.pi_zipA (by rfl) T.n_zip (pa_cons (pv 0) (pa_cons (pv 1) pa_nil))) (blkOk_by (own := [("_law_one", 2), ("_law_other", 3)]) (N := N_law_same) (sc := defScope s_law_same) (by decide +kernel)) (fun _ _ _ _ _ => (pg_tup rfl (pgs_cons (pg_name (i := 2) sc.nd rfl (Or.inl rfl)) (pgs_cons (pg_name (i := 3) sc.nd rfl (Or.inl rfl)) pgs_nil)))) (fun _ _ _ _ _ => pts_nil) (fun _ _ _ _ _ => (pe_cl (ih T) hr (by omega) (by rfl) pass0 (pa_cons (pv 2) (pa_cons (pv 3) pa_nil))))) pa_nil)))))))))
  | m + 1 => by
    have ih : Fx K mg → Cl P w K mg base CX0 (m + 1) "_law_same" (spn_law_same K m) := fun T => okr_law_same T m
    obtain ⟨fd, F⟩ := T.F_law_same
    have sc := sc_law_same
    refine ⟨_, fd, ["_law_told", "_law_due"], T.g_law_same, F.kp, F.bindsN fun _ _ _ _ _ _ us hl => match us, hl with | [_, _], _ => rfl, ?_⟩
    refine F.ok sc (len_law_same) (fun cdv A outer s H vs Q E hr h => ⟨t_law_same K (spn_law_same K m), PSs.nox ?_, pureS_law_same h⟩)
    exact (pss_cons (ps_if (PW.pt (pw_or (pt_cmpR op_ne (pe_callB call_isi (by rfl) T.n_isinstance b_isinstance (pa_cons (pv 0) (pa_cons (pe_bltn (v := .ty "bool") (by rfl) T.n_bool b_bool rfl) pa_nil))) (pe_callB call_isi (by rfl) T.n_isinstance b_isinstance (pa_cons (pv 1) (pa_cons (pe_bltn (v := .ty "bool") (by rfl) T.n_bool b_bool rfl) pa_nil))) (nomark _)) (pw_or1 (pt_cmpR op_ne (pe_callB call_isi (by rfl) T.n_isinstance b_isinstance (pa_cons (pv 0) (pa_cons (pe_bltn (v := .ty "int") (by rfl) T.n_int b_int rfl) pa_nil))) (pe_callB call_isi (by rfl) T.n_isinstance b_isinstance (pa_cons (pv 1) (pa_cons (pe_bltn (v := .ty "int") (by rfl) T.n_int b_int rfl) pa_nil))) (nomark _)))))
 (pss_one (ps_ret pe_bl))
 pss_nil)
 (pss_cons (ps_if (PW.pt (pw_or (pt_cmpR op_ne (pe_callB call_isi (by rfl) T.n_isinstance b_isinstance (pa_cons (pv 0) (pa_cons (pe_bltn (v := .ty "list") (by rfl) T.n_list b_list rfl) pa_nil))) (pe_callB call_isi (by rfl) T.n_isinstance b_isinstance (pa_cons (pv 1) (pa_cons (pe_bltn (v := .ty "list") (by rfl) T.n_list b_list rfl) pa_nil))) (nomark _)) (pw_or1 (pt_cmpR op_ne (pe_callB call_isi (by rfl) T.n_isinstance b_isinstance (pa_cons (pv 0) (pa_cons (pe_bltn (v := .ty "tuple") (by rfl) T.n_tuple b_tuple rfl) pa_nil))) (pe_callB call_isi (by rfl) T.n_isinstance b_isinstance (pa_cons (pv 1) (pa_cons (pe_bltn (v := .ty "tuple") (by rfl) T.n_tuple b_tuple rfl) pa_nil))) (nomark _)))))
 (pss_one (ps_ret pe_bl))
 pss_nil)
 (pss_cons (ps_if (PW.pt (pw_and (pt_not (pt_val (pe_callB call_isi (by rfl) T.n_isinstance b_isinstance (pa_cons (pv 1) (pa_cons (pe_bltn (v := .ty "list") (by rfl) T.n_list b_list rfl) pa_nil))))) (pw_and1 (pt_not (pt_val (pe_callB call_isi (by rfl) T.n_isinstance b_isinstance (pa_cons (pv 1) (pa_cons (pe_bltn (v := .ty "tuple") (by rfl) T.n_tuple b_tuple rfl) pa_nil))))))))
 (pss_one (ps_ret (pe_and (pe_cmpR op_eq (pe_callB call_isi (by rfl) T.n_isinstance b_isinstance (pa_cons (pv 0) (pa_cons (pe_bltn (v := .ty "str") (by rfl) T.n_str b_str rfl) pa_nil))) (pe_callB call_isi (by rfl) T.n_isinstance b_isinstance (pa_cons (pv 1) (pa_cons (pe_bltn (v := .ty "str") (by rfl) T.n_str b_str rfl) pa_nil))) (nomark _)) (pe_one (pe_cmpR (op_eqD hr.units) (pv 0) (pv 1) (nomark _))))))
 pss_nil)
 (pss_one (ps_ret (pe_and (pe_cmpR op_eq (pe_callB call_len_seq (by rfl) T.n_len b_len (pa_cons (pv 0) pa_nil)) (pe_callB call_len_seq (by rfl) T.n_len b_len (pa_cons (pv 1) pa_nil)) (nomark _)) (pe_one (pe_callB (cr_all rfl) (by rfl) T.n_all b_all (pa_cons (pe_lc (own := [("_law_one", 2), ("_law_other", 3)]) (g := (gTup K 2 (gCons (gName 2) (gCons (gName 3) gNil)))) (tt := tYes) (by rfl) sc.nd (RZ.pi_zipA (by rfl) T.n_zip (pa_cons (pv 0) (pa_cons (pv 1) pa_nil))) (blkOk_by (own := [("_law_one", 2), ("_law_other", 3)]) (N := N_law_same) (sc := defScope s_law_same) (by decide +kernel)) (fun _ _ _ _ _ => (pg_tup rfl (pgs_cons (pg_name (i := 2) sc.nd rfl (Or.inl rfl)) (pgs_cons (pg_name (i := 3) sc.nd rfl (Or.inl rfl)) pgs_nil)))) (fun _ _ _ _ _ => pts_nil) (fun _ _ _ _ _ => (pe_cl (ih T) hr (by omega) (by rfl) pass0 (pa_cons (pv 2) (pa_cons (pv 3) pa_nil))))) pa_nil)))))))))
theorem ok_law_same (T : Fx K mg) : Cl P w K mg base CX0 8 "_law_same" (sp_law_same K) := okr_law_same T 7
theorem sc_law_spoilt : FnScope N_law_spoilt ["_law_report", "_law_way", "_law_raw", "_law_size"] (defScope s_law_spoilt) := ⟨rfl, rfl, rfl, by decide +kernel, rfl, by decide +kernel, by decide +kernel⟩
theorem ok_law_spoilt (T : Fx K mg) : Cl P w K mg base CX0 1 "_law_spoilt" (sp_law_spoilt K) := by
  obtain ⟨fd, F⟩ := T.F_law_spoilt
  have sc := sc_law_spoilt
  refine ⟨_, fd, ["_law_report", "_law_way", "_law_raw", "_law_size"], T.g_law_spoilt, F.kp, F.bindsN fun _ _ _ _ _ _ us hl => match us, hl with | [_, _, _, _], _ => rfl, ?_⟩
  refine F.ok sc (len_law_spoilt) (fun cdv A outer s H vs Q E hr h => ⟨t_law_spoilt K, PSs.nox ?_, pure_law_spoilt h⟩)
  have hu := hu_of hr
  exact (pss_cons (ps_set (i := 4) sc.nd rfl (Or.inl rfl) (pe_lst (pa_cons (pe_ix ix_tup (pv 0) pe_int (fun _ _ => rfl)) (pa_cons (pe_ix ix_tup (pv 0) pe_int (fun _ _ => rfl)) (pa_cons (pe_ix ix_tup (pv 0) pe_int (fun _ _ => rfl)) (pa_cons (pe_ix ix_tup (pv 0) pe_int (fun _ _ => rfl)) (pa_cons (pe_ix ix_tup (pv 0) pe_int (fun _ _ => rfl)) (pa_cons (pe_callTy call_list_of (by rfl) T.n_list b_list (pa_cons (pe_ix ix_tup (pv 0) pe_int (fun _ _ => rfl)) pa_nil)) (pa_cons (pe_callTy call_list_of (by rfl) T.n_list b_list (pa_cons (pe_ix ix_tup (pv 0) pe_int (fun _ _ => rfl)) pa_nil)) pa_nil)))))))))
 (C8.pss_cut (ps_if (pt_cmpR op_eq (pv 1) pe_int (nomark _))
 (pss_one (ps_augS (pv 4) pe_int get_list (pe_ix ix_list (pe_lst (pa_cons pe_int (pa_cons (pe_un un_neg pe_int) (pa_cons (pv 3) pa_nil)))) (pe_op op_mod (pv 2) pe_int) (fun _ _ => rfl)) ip_add set_list))
 pss_nil)
 (C8.pss_cut (ps_if (pt_cmpR op_eq (pv 1) pe_int (nomark _))
 (pss_one (ps_asg (pe_ix ix_list (pe_lst (pa_cons (pe_dget hu (pe_disp (pps_cons pe_str pe_str (pps_cons pe_str pe_str pps_nil)) rfl rfl (by intro h; cases h) (by decide)) (pe_ix ix_tup (pv 0) pe_int (fun _ _ => rfl)) (fun _ _ => rfl)) (pa_cons pe_str (pa_cons pe_str (pa_cons pe_str pa_nil))))) (pe_op op_mod (pv 2) pe_int) (fun _ _ => rfl)) (pg_sub (pv 4) pe_int set_list)))
 pss_nil)
 (C8.pss_cut (ps_if (pt_cmpR op_eq (pv 1) pe_int (nomark _))
 (pss_one (ps_asg (pe_ix ix_list (pe_lst (pa_cons (pe_un un_neg pe_int) (pa_cons (pe_op op_mod (pe_op op_fdiv (pv 2) pe_int) (pv 3)) (pa_cons (pv 3) (pa_cons (pe_un un_neg pe_int) pa_nil))))) (pe_op op_mod (pv 2) pe_int) (fun _ _ => rfl)) (pg_sub (pv 4) pe_int set_list)))
 pss_nil)
 (C8.pss_cut (ps_if (pt_cmpR op_eq (pv 1) pe_int (nomark _))
 (pss_one (ps_augS (pv 4) pe_int get_list (pe_ix ix_list (pe_lst (pa_cons pe_int (pa_cons (pe_un un_neg pe_int) (pa_cons pe_int (pa_cons (pe_op op_sub (pe_un un_neg (pe_ix ix_list (pv 4) pe_int (fun _ _ => rfl))) pe_int) pa_nil))))) (pe_op op_mod (pv 2) pe_int) (fun _ _ => rfl)) ip_add set_list))
 pss_nil)
 (C8.pss_cut (ps_if (pt_cmpR op_eq (pv 1) pe_int (nomark _))
 (pss_one (ps_augS (pv 4) pe_int get_list (pe_ix ix_list (pe_lst (pa_cons pe_int (pa_cons (pe_un un_neg pe_int) (pa_cons pe_int (pa_cons (pe_un un_neg pe_int) pa_nil))))) (pe_op op_mod (pv 2) pe_int) (fun _ _ => rfl)) ip_add set_list))
 pss_nil)
 (C8.pss_cut (ps_if (PW.pt (pw_or (pt_cmpR op_eq (pv 1) pe_int (nomark _)) (pw_or1 (pt_cmpR op_eq (pv 1) pe_int (nomark _)))))
 (pss_cons (ps_expr (pe_bm PySem.F.plainAttrs_list PySem.F.slot_list_append PySem.F.type_list_append mt_append (pe_ix ix_list (pv 4) (pv 1) (fun _ _ => rfl)) (pa_cons (pe_op op_sub (pe_op op_mod (pe_op op_fdiv (pv 2) pe_int) (pe_op op_add (pv 3) pe_int)) pe_int) pa_nil)))
 (pss_one (ps_if (pt_cmpR op_gt (pe_op op_mod (pv 2) pe_int) pe_int (nomark _))
 (pss_one (ps_asg (pe_callB cr_sortedI (by rfl) T.n_sorted b_sorted (pa_cons (pe_ix ix_list (pv 4) (pv 1) (fun _ _ => rfl)) pa_nil)) (pg_sub (pv 4) (pv 1) set_list)))
 pss_nil)))
 pss_nil)
 (C8.pss_cut (ps_if (pt_cmpR op_eq (pv 1) pe_int (nomark _))
 (pss_one (ps_asg (pe_slice sl_list (pe_ix ix_list (pv 4) pe_int (fun _ _ => rfl)) (po_some pe_int) po_none) (pg_sub (pv 4) pe_int set_list)))
 pss_nil)
 (C8.pss_cut (ps_if (pt_cmpR op_eq (pv 1) pe_int (nomark _))
 (pss_cons (ps_asg (pe_revL (pe_ix ix_list (pv 4) pe_int (fun _ _ => rfl))) (pg_sub (pv 4) pe_int set_list))
 (pss_one (ps_asg (pe_revL (pe_ix ix_list (pv 4) pe_int (fun _ _ => rfl))) (pg_sub (pv 4) pe_int set_list))))
 pss_nil)
 (C8.pss_cut (ps_if (pt_cmpR op_eq (pv 1) pe_int (nomark _))
 (pss_one (ps_asg (pe_op op_cat (pe_ix ix_list (pv 4) pe_int (fun _ _ => rfl)) (pe_slice sl_list (pe_ix ix_list (pv 4) pe_int (fun _ _ => rfl)) (po_some (pe_un un_neg pe_int)) po_none)) (pg_sub (pv 4) pe_int set_list)))
 pss_nil)
 (pss_one (ps_ret (pe_callTy call_tuple_of (by rfl) T.n_tuple b_tuple (pa_cons (pv 4) pa_nil))))))))))))))
theorem sc_Auditor_init : FnScope N_Auditor_init ["self", "stake", "pledges", "queue", "bidding"] (defScope s_Auditor_init) := ⟨rfl, rfl, rfl, by decide +kernel, rfl, by decide +kernel, by decide +kernel⟩
theorem ok_Auditor_init (T : Fx K mg) : ClK P w K mg base CX0 1 "Auditor" (He.ga K "Auditor") (sp_Auditor_init K) [] := by
  obtain ⟨fd, F⟩ := T.F_Auditor_init
  have sc := sc_Auditor_init
  refine ⟨_, fd, ["self", "stake", "pledges", "queue", "bidding"], [], T.mk_Auditor, T.gk_Auditor, F.bindsN fun _ _ _ _ _ _ us hl => match us, hl with | [_, _, _, _, _], _ => rfl, .nil, ?_⟩
  refine F.ok sc (len_Auditor_init) (fun cdv A outer s H vs Q E hr h => ⟨t_Auditor_init K, PSs.nox ?_, pure_Auditor_init h⟩)
  exact (pss_cons (ps_fld (pv 0) (pv 1) rfl)
 (pss_cons (ps_fld (pv 0) (pe_callB call_len_seq (by rfl) T.n_len b_len (pa_cons (pv 2) pa_nil)) rfl)
 (pss_cons (ps_fld (pv 0) (pv 4) rfl)
 (pss_cons (ps_fld (pv 0) (pe_callTy call_list_of (by rfl) T.n_list b_list (pa_cons (pv 2) pa_nil)) rfl)
 (pss_cons (ps_fld (pv 0) (pe_callTy call_list_of (by rfl) T.n_list b_list (pa_cons (pv 3) pa_nil)) rfl)
 (pss_cons (ps_fld (pv 0) (pe_lst pa_nil) rfl)
 (pss_cons (ps_fld (pv 0) pe_int rfl)
 (pss_cons (ps_fld (pv 0) pe_int rfl)
 (pss_one (ps_fld (pv 0) pe_int rfl))))))))))
theorem sc_Auditor_coins_good : FnScope N_Auditor_coins_good ["self", "report"] (defScope s_Auditor_coins_good) := ⟨rfl, rfl, rfl, by decide +kernel, rfl, by decide +kernel, by decide +kernel⟩
theorem ok_Auditor_coins_good (T : Fx K mg) : ClM P w K mg base CX0 1 (He.ga K "Auditor") "coins_good" (sp_Auditor_coins_good K) := by
  obtain ⟨fd, F⟩ := T.F_Auditor_coins_good
  have sc := sc_Auditor_coins_good
  refine ⟨T.cl_Auditor, _, fd, ["self", "report"], T.m_Auditor_coins_good, F.bindsN fun _ _ _ _ _ _ us hl => match us, hl with | [_, _], _ => rfl, ?_⟩
  refine F.ok sc (len_Auditor_coins_good) (fun cdv A outer s H vs Q E hr h => ⟨t_Auditor_coins_good K, PSs.nox ?_, pure_Auditor_coins_good h⟩)
  exact (pss_cons (ps_asg (pv 1) (pg_tup rfl (pgs_cons (pg_name (i := 2) sc.nd rfl (Or.inl rfl)) (pgs_cons (pg_name (i := 3) sc.nd rfl (Or.inl rfl)) (pgs_cons (pg_name (i := 4) sc.nd rfl (Or.inl rfl)) (pgs_cons (pg_name (i := 5) sc.nd rfl (Or.inl rfl)) (pgs_cons (pg_name (i := 6) sc.nd rfl (Or.inl rfl)) (pgs_cons (pg_name (i := 7) sc.nd rfl (Or.inl rfl)) (pgs_cons (pg_name (i := 8) sc.nd rfl (Or.inl rfl)) pgs_nil)))))))))
 (pss_cons (ps_set (i := 9) sc.nd rfl (Or.inl rfl) (pe_op op_sub (pe_fld (pv 0) rfl) (pe_fld (pv 0) rfl)))
 (pss_cons (ps_if (pt_cmpR op_gt (pe_fld (pv 0) rfl) pe_int (nomark _))
 (pss_one (ps_ret (pe_and (pe_cmpR op_eq (pv 3) pe_str (nomark _)) (pe_and (pe_cmpR op_eq (pv 4) (pe_un un_neg pe_int) (nomark _)) (pe_and (pe_cmpR op_eq (pv 5) (pe_op op_mul (pe_fld (pv 0) rfl) (pv 9)) (nomark _)) (pe_one (pe_cmpR op_eq (pv 6) pe_int (nomark _))))))))
 pss_nil)
 (pss_cons (ps_if (PW.pt (pw_or (pt_cmpR op_ne (pv 3) pe_str (nomark _)) (pw_or (pt_cmpR op_notIn_seq (pv 4) (pe_fld (pv 0) rfl) rfl) (pw_or1 (pt_cmpR op_lt (pe_ix ix_list (pe_fld (pv 0) rfl) (pv 4) (fun _ _ => rfl)) (pe_op op_mul (pe_fld (pv 0) rfl) (pe_op op_sub (pe_fld (pv 0) rfl) (pv 2))) (nomark _))))))
 (pss_one (ps_ret pe_bl))
 pss_nil)
 (pss_cons (ps_if (PW.pt (pw_and (PW.pt (pw_or (pt_not (pt_val (pe_fld (pv 0) rfl))) (pw_or1 (pt_cmpR op_eq (pv 9) pe_int (nomark _))))) (pw_and1 (pt_cmpR op_ne (pv 6) pe_int (nomark _)))))
 (pss_one (ps_ret pe_bl))
 pss_nil)
 (pss_cons (ps_if (PW.pt (pw_and (pt_not (pt_val (pe_fld (pv 0) rfl))) (pw_and1 (pt_cmpR op_ne (pv 4) (pe_ix ix_list (pe_fld (pv 0) rfl) pe_int (fun _ _ => rfl)) (nomark _)))))
 (pss_one (ps_ret pe_bl))
 pss_nil)
 (pss_one (ps_ret (pe_and (pe_cmpR op_ge (pv 6) pe_int (nomark _)) (pe_and (pe_cmpR op_ge (pv 5) pe_int (nomark _)) (pe_one (pe_cmpR op_eq (pv 5) (pe_op op_sub (pe_op op_mul (pe_fld (pv 0) rfl) (pe_fld (pv 0) rfl)) (pe_op op_mul (pv 6) (pe_op op_sub (pv 9) pe_int))) (nomark _)))))))))))))
theorem sc_growing_in : FnScope N_growing_in ["row", "allowed"] (defScope s_growing_in) := ⟨rfl, rfl, rfl, by decide +kernel, rfl, by decide +kernel, by decide +kernel⟩
theorem ok_growing_in (T : Fx K mg) : Cl P w K mg base CX0 1 "growing_in" (sp_growing_in K) := by
  obtain ⟨fd, F⟩ := T.F_growing_in
  have sc := sc_growing_in
  refine ⟨_, fd, ["row", "allowed"], T.g_growing_in, F.kp, F.bindsN fun _ _ _ _ _ _ us hl => match us, hl with | [_, _], _ => rfl, ?_⟩
  refine F.ok sc (len_growing_in) (fun cdv A outer s H vs Q E hr h => ⟨t_growing_in K, PSs.nox ?_, pure_growing_in h⟩)
  exact (pss_cons (ps_set (i := 2) sc.nd rfl (Or.inl rfl) (pe_un un_neg pe_int))
 (pss_cons (ps_for PassesOwn.never rfl (pi_list (pv 0)) (pg_name (i := 3) sc.nd rfl (Or.inl rfl))
 (pss_cons (ps_if (PW.pt (pw_or (pt_cmpR op_le (pv 3) (pv 2) (nomark _)) (pw_or1 (pt_cmpR op_notIn_seq (pv 3) (pv 1) rfl))))
 (pss_one (ps_ret pe_bl))
 pss_nil)
 (pss_one (ps_set (i := 2) sc.nd rfl (Or.inl rfl) (pv 3)))))
 (pss_one (ps_ret pe_bl))))
theorem sc_Auditor_people_good : FnScope N_Auditor_people_good ["self", "report"] (defScope s_Auditor_people_good) := ⟨rfl, rfl, rfl, by decide +kernel, rfl, by decide +kernel, by decide +kernel⟩
theorem ok_Auditor_people_good (T : Fx K mg) : ClM P w K mg base CX0 2 (He.ga K "Auditor") "people_good" (sp_Auditor_people_good K) := by
  obtain ⟨fd, F⟩ := T.F_Auditor_people_good
  have sc := sc_Auditor_people_good
  refine ⟨T.cl_Auditor, _, fd, ["self", "report"], T.m_Auditor_people_good, F.bindsN fun _ _ _ _ _ _ us hl => match us, hl with | [_, _], _ => rfl, ?_⟩
  refine F.ok sc (len_Auditor_people_good) (fun cdv A outer s H vs Q E hr h => ⟨t_Auditor_people_good K, PSs.nox ?_, pure_Auditor_people_good h⟩)
  exact (pss_cons (ps_if (PW.pt (pw_or (pt_cmpR op_ne (pe_ix ix_tup (pv 1) pe_int (fun _ _ => rfl)) (pe_op op_add (pe_fld (pv 0) rfl) pe_int) (nomark _)) (pw_or1 (pt_cmpR op_gt (pe_ix ix_tup (pv 1) pe_int (fun _ _ => rfl)) (pe_fld (pv 0) rfl) (nomark _)))))
 (pss_one (ps_ret pe_bl))
 pss_nil)
 (pss_cons (ps_if (PW.pt (pw_or (pt_not (pt_val (pe_cl (ok_growing_in T) hr (by decide) (by rfl) pass0 (pa_cons (pe_ix ix_tup (pv 1) pe_int (fun _ _ => rfl)) (pa_cons (pe_fld (pv 0) rfl) pa_nil))))) (pw_or1 (pt_not (pt_val (pe_cl (ok_growing_in T) hr (by decide) (by rfl) pass0 (pa_cons (pe_ix ix_tup (pv 1) pe_int (fun _ _ => rfl)) (pa_cons (pe_fld (pv 0) rfl) pa_nil))))))))
 (pss_one (ps_ret pe_bl))
 pss_nil)
 (pss_cons (ps_for PassesOwn.never rfl (pi_list (pe_ix ix_tup (pv 1) pe_int (fun _ _ => rfl))) (pg_name (i := 2) sc.nd rfl (Or.inl rfl))
 (pss_one (ps_if (pt_cmpR op_lt (pe_ix ix_list (pe_fld (pv 0) rfl) (pv 2) (fun _ _ => rfl)) (pe_fld (pv 0) rfl) (nomark _))
 (pss_one (ps_ret pe_bl))
 pss_nil)))
 (pss_one (ps_ret pe_bl)))))
theorem sc_Auditor_step_coins : FnScope N_Auditor_step_coins ["self", "report"] (defScope s_Auditor_step_coins) := ⟨rfl, rfl, rfl, by decide +kernel, rfl, by decide +kernel, by decide +kernel⟩
theorem ok_Auditor_step_coins (T : Fx K mg) : ClM P w K mg base CX0 1 (He.ga K "Auditor") "step_coins" (sp_Auditor_step_coins K) := by
  obtain ⟨fd, F⟩ := T.F_Auditor_step_coins
  have sc := sc_Auditor_step_coins
  refine ⟨T.cl_Auditor, _, fd, ["self", "report"], T.m_Auditor_step_coins, F.bindsN fun _ _ _ _ _ _ us hl => match us, hl with | [_, _], _ => rfl, ?_⟩
  refine F.ok sc (len_Auditor_step_coins) (fun cdv A outer s H vs Q E hr h => ⟨t_Auditor_step_coins K, PSs.nox ?_, pure_Auditor_step_coins h⟩)
  exact (C8.pss_cut (ps_if (pt_cmpR op_gt (pe_fld (pv 0) rfl) pe_int (nomark _))
 (pss_one (ps_fldaug (pv 0) pe_int in_sub))
 (pss_cons (ps_expr (pe_bm PySem.F.plainAttrs_list PySem.F.slot_list_remove PySem.F.type_list_remove mt_remove (pe_fld (pv 0) rfl) (pa_cons (pe_ix ix_tup (pv 1) pe_int (fun _ _ => rfl)) pa_nil)))
 (pss_one (ps_expr (pe_bm PySem.F.plainAttrs_list PySem.F.slot_list_append PySem.F.type_list_append mt_append (pe_fld (pv 0) rfl) (pa_cons (pe_ix ix_tup (pv 1) pe_int (fun _ _ => rfl)) pa_nil))))))
 (pss_one (ps_fldaug (pv 0) pe_int in_add)))
theorem sc_Auditor_step_people : FnScope N_Auditor_step_people ["self", "report"] (defScope s_Auditor_step_people) := ⟨rfl, rfl, rfl, by decide +kernel, rfl, by decide +kernel, by decide +kernel⟩
theorem ok_Auditor_step_people (T : Fx K mg) : ClM P w K mg base CX0 1 (He.ga K "Auditor") "step_people" (sp_Auditor_step_people K) := by
  obtain ⟨fd, F⟩ := T.F_Auditor_step_people
  have sc := sc_Auditor_step_people
  refine ⟨T.cl_Auditor, _, fd, ["self", "report"], T.m_Auditor_step_people, F.bindsN fun _ _ _ _ _ _ us hl => match us, hl with | [_, _], _ => rfl, ?_⟩
  refine F.ok sc (len_Auditor_step_people) (fun cdv A outer s H vs Q E hr h => ⟨t_Auditor_step_people K, PSs.nox ?_, pure_Auditor_step_people h⟩)
  exact (pss_cons (ps_fld (pv 0) (pe_lc (own := [("at", 2)]) (g := (gName 2)) (tt := (tTest (tOp (rIn K true) (tVar 2) (tOp (rIxT K) (tVar 1) (tC (.int 5)))))) (by rfl) sc.nd (pi_list (pe_fld (pv 0) rfl)) (blkOk_by (own := [("at", 2)]) (N := N_Auditor_step_people) (sc := defScope s_Auditor_step_people) (by decide +kernel)) (fun _ _ _ _ _ => (pg_name (i := 2) sc.nd rfl (Or.inl rfl))) (fun _ _ _ _ _ => (pts_one (pt_cmpR op_notIn_seq (pv 2) (pe_ix ix_tup (pv 1) pe_int (fun _ _ => rfl)) rfl))) (fun _ _ _ _ _ => (pv 2))) rfl)
 (pss_cons (ps_fldaug (pv 0) (pe_callB call_len_seq (by rfl) T.n_len b_len (pa_cons (pe_ix ix_tup (pv 1) pe_int (fun _ _ => rfl)) pa_nil)) in_add)
 (pss_cons (ps_fldaug (pv 0) (pe_callB call_len_seq (by rfl) T.n_len b_len (pa_cons (pe_ix ix_tup (pv 1) pe_int (fun _ _ => rfl)) pa_nil)) in_add)
 (pss_one (ps_for PassesOwn.never rfl (pi_list (pe_ix ix_tup (pv 1) pe_int (fun _ _ => rfl))) (pg_name (i := 2) sc.nd rfl (Or.inl rfl))
 (pss_one (ps_augS (pe_fld (pv 0) rfl) (pv 2) get_list (pe_fld (pv 0) rfl) ip_sub set_list)))))))
theorem sc_Auditor_take_next : FnScope N_Auditor_take_next ["self", "report"] (defScope s_Auditor_take_next) := ⟨rfl, rfl, rfl, by decide +kernel, rfl, by decide +kernel, by decide +kernel⟩
theorem ok_Auditor_take_next (T : Fx K mg) : ClM P w K mg base CX0 3 (He.ga K "Auditor") "take_next" (sp_Auditor_take_next K) := by
  obtain ⟨fd, F⟩ := T.F_Auditor_take_next
  have sc := sc_Auditor_take_next
  refine ⟨T.cl_Auditor, _, fd, ["self", "report"], T.m_Auditor_take_next, F.bindsN fun _ _ _ _ _ _ us hl => match us, hl with | [_, _], _ => rfl, ?_⟩
  refine F.ok sc (len_Auditor_take_next) (fun cdv A outer s H vs Q E hr h => ⟨t_Auditor_take_next K, PSs.nox ?_, pure_Auditor_take_next h⟩)
  exact (pss_cons (ps_if (pt_not (pt_val (pe_cm (ok_Auditor_people_good T) hr (by decide) pass0 (pv 0) (pa_cons (pv 1) pa_nil))))
 (pss_one (ps_ret pe_bl))
 pss_nil)
 (pss_cons (ps_expr (pe_cm (ok_Auditor_step_people T) hr (by decide) pass0 (pv 0) (pa_cons (pv 1) pa_nil)))
 (pss_cons (ps_if (pt_not (pt_val (pe_cm (ok_Auditor_coins_good T) hr (by decide) pass0 (pv 0) (pa_cons (pv 1) pa_nil))))
 (pss_one (ps_ret pe_bl))
 pss_nil)
 (pss_cons (ps_expr (pe_cm (ok_Auditor_step_coins T) hr (by decide) pass0 (pv 0) (pa_cons (pv 1) pa_nil)))
 (pss_one (ps_ret pe_bl))))))
theorem sc_first_wrong : FnScope N_first_wrong ["stake", "pledges", "queue", "bidding", "reports"] (defScope s_first_wrong) := ⟨rfl, rfl, rfl, by decide +kernel, rfl, by decide +kernel, by decide +kernel⟩
theorem ok_first_wrong (T : Fx K mg) : Cl P w K mg base CX0 4 "first_wrong" (sp_first_wrong K) := by
  obtain ⟨fd, F⟩ := T.F_first_wrong
  have sc := sc_first_wrong
  refine ⟨_, fd, ["stake", "pledges", "queue", "bidding", "reports"], T.g_first_wrong, F.kp, F.bindsN fun _ _ _ _ _ _ us hl => match us, hl with | [_, _, _, _, _], _ => rfl, ?_⟩
  refine F.ok sc (len_first_wrong) (fun cdv A outer s H vs Q E hr h => ⟨t_first_wrong K, PSs.nox ?_, pure_first_wrong h⟩)
  exact (pss_cons (ps_set (i := 5) sc.nd rfl (Or.inl rfl) (pe_ck (ok_Auditor_init T) hr (by decide) (by rfl) pass0 (pa_cons (pv 0) (pa_cons (pv 1) (pa_cons (pv 2) (pa_cons (pv 3) pa_nil))))))
 (pss_cons (ps_for PassesOwn.never rfl (pi_enum (by rfl) T.n_enumerate (pa_cons (pv 4) pa_nil)) (pg_tup rfl (pgs_cons (pg_name (i := 6) sc.nd rfl (Or.inl rfl)) (pgs_cons (pg_name (i := 7) sc.nd rfl (Or.inl rfl)) pgs_nil)))
 (pss_one (ps_if (pt_not (pt_val (pe_cm (ok_Auditor_take_next T) hr (by decide) pass0 (pv 5) (pa_cons (pv 7) pa_nil))))
 (pss_one (ps_ret (pv 6)))
 pss_nil)))
 (pss_one (ps_ret (pe_un un_neg pe_int)))))
theorem sc_law : FnScope N_law ["_law_script"] (defScope s_law) := ⟨rfl, rfl, rfl, by decide +kernel, rfl, by decide +kernel, by decide +kernel⟩
theorem ok_law_at {fd : FuncData} (T : Fx K mg) (F : FunD K "law" "law" (defArgs s_law) (defBody s_law) (defScope s_law) [] [] (He.fAd K ("law", none)) fd) : FnOk P w K mg base CX0 9 (He.fAd K ("law", none)) fd ["_law_script"] (sp_law K) := by
  have sc := sc_law
  refine F.ok sc (len_law) (fun cdv A outer s H vs Q E hr h => ⟨t_law K, PSs.nox ?_, pure_law h⟩)
  exact (pss_cons (ps_set (i := 1) sc.nd rfl (Or.inl rfl) (pe_cl (ok_law_draws T) hr (by decide) (by rfl) pass0 (pa_cons (pv 0) (pa_cons pe_int pa_nil))))
 (pss_cons (ps_set (i := 2) sc.nd rfl (Or.inl rfl) (pe_op op_add pe_int (pe_op op_mod (pe_ix ix_list (pv 1) pe_int (fun _ _ => rfl)) pe_int)))
 (pss_cons (ps_set (i := 3) sc.nd rfl (Or.inl rfl) (pe_op op_add pe_int (pe_op op_mod (pe_ix ix_list (pv 1) pe_int (fun _ _ => rfl)) (pe_ix ix_list (pe_lst (pa_cons pe_int (pa_cons pe_int pa_nil))) (pe_op op_mod (pe_ix ix_list (pv 1) pe_int (fun _ _ => rfl)) pe_int) (fun _ _ => rfl)))))
 (pss_cons (ps_set (i := 4) sc.nd rfl (Or.inl rfl) (pe_cmpR op_eq (pe_op op_mod (pe_ix ix_list (pv 1) pe_int (fun _ _ => rfl)) pe_int) pe_int (nomark _)))
 (pss_cons (ps_set (i := 5) sc.nd rfl (Or.inl rfl) (pe_ix ix_tup (pe_cl (ok_law_opening T) hr (by decide) (by rfl) pass0 (pa_cons (pe_slice sl_list (pv 1) (po_some pe_int) po_none) (pa_cons (pv 2) (pa_cons (pv 3) pa_nil)))) pe_int (fun _ _ => rfl)))
 (C8.pss_cut (ps_if (pt_cmpR op_gt (pe_op op_mod (pe_ix ix_list (pv 1) pe_int (fun _ _ => rfl)) pe_int) pe_int (nomark _))
 (pss_one (ps_set (i := 5) sc.nd rfl (Or.inl rfl) (pe_op op_rep (pe_lst (pa_cons (pe_op op_mul (pv 3) (pv 2)) pa_nil)) (pv 2))))
 pss_nil)
 (pss_cons (ps_set (i := 6) sc.nd rfl (Or.inl rfl) (pe_cl (ok_law_perm T) hr (by decide) (by rfl) pass0 (pa_cons (pe_slice sl_list (pv 1) (po_some (pe_op op_add pe_int (pe_op op_mod (pe_ix ix_list (pv 1) pe_int (fun _ _ => rfl)) pe_int))) po_none) (pa_cons (pv 2) pa_nil))))
 (pss_cons (ps_set (i := 7) sc.nd rfl (Or.inl rfl) (pe_tup (pa_cons (pv 3) (pa_cons (pv 2) (pa_cons (pv 4) (pa_cons pe_int (pa_cons (pe_callTy call_list_of (by rfl) T.n_list b_list (pa_cons (pv 6) pa_nil)) (pa_cons pe_int (pa_cons (pe_callTy call_list_of (by rfl) T.n_list b_list (pa_cons (pv 5) pa_nil)) (pa_cons (pe_lst pa_nil) pa_nil))))))))))
 (pss_cons (ps_set (i := 8) sc.nd rfl (Or.inl rfl) (pe_lst pa_nil))
 (pss_cons (ps_set (i := 9) sc.nd rfl (Or.inl rfl) (pe_op op_mod (pe_ix ix_list (pv 1) pe_int (fun _ _ => rfl)) pe_int))
 (pss_cons (ps_set (i := 10) sc.nd rfl (Or.inl rfl) (pe_op op_mod (pe_ix ix_list (pv 1) pe_int (fun _ _ => rfl)) (pv 2)))
 (pss_cons (ps_for PassesOwn.never rfl (pi_range1 (by rfl) T.n_range (pa_cons (pv 2) pa_nil)) (pg_name (i := 11) sc.nd rfl (Or.inl rfl))
 (pss_cons (ps_set (i := 12) sc.nd rfl (Or.inl rfl) (pe_cl (ok_law_free T) hr (by decide) (by rfl) pass0 (pa_cons (pv 7) (pa_cons (pe_slice sl_list (pv 1) (po_some (pe_op op_add pe_int (pe_op op_mul pe_int (pv 11)))) po_none) pa_nil))))
 (C8.pss_cut (ps_if (PW.pt (pw_and (pt_cmpR op_gt (pv 9) pe_int (nomark _)) (pw_and (pt_cmpR op_lt (pv 9) pe_int (nomark _)) (pw_and (pt_cmpR op_eq (pv 11) (pv 10) (nomark _)) (pw_and1 (pt_cmpR op_eq (pe_ix ix_tup (pv 12) pe_int (fun _ _ => rfl)) pe_str (nomark _)))))))
 (pss_cons (ps_set (i := 13) sc.nd rfl (Or.inl rfl) (pe_op op_sub (pe_op op_sub (pe_op op_add (pe_callB call_len_seq (by rfl) T.n_len b_len (pa_cons (pe_ix ix_tup (pv 7) pe_int (fun _ _ => rfl)) pa_nil)) (pe_callB call_len_seq (by rfl) T.n_len b_len (pa_cons (pe_ix ix_tup (pv 7) pe_int (fun _ _ => rfl)) pa_nil))) (pe_callB call_len_seq (by rfl) T.n_len b_len (pa_cons (pe_ix ix_tup (pv 12) pe_int (fun _ _ => rfl)) pa_nil))) pe_int))
 (pss_cons (ps_set (i := 14) sc.nd rfl (Or.inl rfl) (pe_op op_sub (pe_op op_mod (pe_ix ix_list (pv 1) pe_int (fun _ _ => rfl)) (pe_op op_add (pe_op op_mul (pe_op op_mul pe_int (pv 3)) (pv 2)) pe_int)) pe_int))
 (pss_one (ps_set (i := 12) sc.nd rfl (Or.inl rfl) (pe_op op_catT (pe_op op_catT (pe_slice sl_tup (pv 12) po_none (po_some pe_int)) (pe_tup (pa_cons (pe_op op_sub (pe_op op_mul (pv 3) (pv 2)) (pe_op op_mul (pv 14) (pv 13))) (pa_cons (pv 14) pa_nil)))) (pe_slice sl_tup (pv 12) (po_some pe_int) po_none))))))
 pss_nil)
 (pss_cons (ps_expr (pe_bm PySem.F.plainAttrs_list PySem.F.slot_list_append PySem.F.type_list_append mt_append (pv 8) (pa_cons (pv 12) pa_nil)))
 (pss_one (ps_set (i := 7) sc.nd rfl (Or.inl rfl) (pe_cl (ok_law_after T) hr (by decide) (by rfl) pass0 (pa_cons (pv 7) (pa_cons (pv 12) pa_nil)))))))))
 (C8.pss_cut (ps_if (pt_cmpR op_lt (pv 9) pe_int (nomark _))
 (pss_one (ps_asg (pe_cl (ok_law_spoilt T) hr (by decide) (by rfl) pass0 (pa_cons (pe_ix ix_list (pv 8) (pv 10) (fun _ _ => rfl)) (pa_cons (pv 9) (pa_cons (pe_ix ix_list (pv 1) pe_int (fun _ _ => rfl)) (pa_cons (pv 2) pa_nil))))) (pg_sub (pv 8) (pv 10) set_list)))
 pss_nil)
 (pss_cons (ps_set (i := 8) sc.nd rfl (Or.inl rfl) (pe_cl (ok_law_bent T) hr (by decide) (by rfl) pass0 (pa_cons (pv 8) (pa_cons (pv 9) (pa_cons (pv 10) (pa_cons (pv 2) pa_nil))))))
 (pss_cons (ps_set (i := 15) sc.nd rfl (Or.inl rfl) (pe_cl (ok_law_first T) hr (by decide) (by rfl) pass0 (pa_cons (pe_tup (pa_cons (pv 3) (pa_cons (pv 2) (pa_cons (pv 4) (pa_cons pe_int (pa_cons (pe_callTy call_list_of (by rfl) T.n_list b_list (pa_cons (pv 6) pa_nil)) (pa_cons pe_int (pa_cons (pe_callTy call_list_of (by rfl) T.n_list b_list (pa_cons (pv 5) pa_nil)) (pa_cons (pe_lst pa_nil) pa_nil))))))))) (pa_cons (pv 8) pa_nil))))
 (pss_cons (ps_setLc (i := 16) (own := [("_law_row", 19)]) (g := (gName 19)) (tt := tYes) (by rfl) sc.nd rfl rfl (sw_true rfl rfl rfl (by decide +kernel)) (pi_list (pv 8)) (blkOk_by (own := [("_law_row", 19)]) (N := N_law) (sc := defScope s_law) (by decide +kernel)) (fun _ _ _ _ _ => (pg_name (i := 19) sc.nd rfl (Or.inl rfl))) (fun _ _ _ _ _ => pts_nil) (fun _ _ _ _ _ => (pe_op op_catT (pe_slice sl_tup (pv 19) po_none (po_some pe_int)) (pe_tup (pa_cons (pe_callTy call_list_of (by rfl) T.n_list b_list (pa_cons (pe_ix ix_tup (pv 19) pe_int (fun _ _ => rfl)) pa_nil)) (pa_cons (pe_callTy call_list_of (by rfl) T.n_list b_list (pa_cons (pe_ix ix_tup (pv 19) pe_int (fun _ _ => rfl)) pa_nil)) pa_nil))))))
 (pss_cons (ps_set (i := 17) sc.nd rfl (Or.inl rfl) (pe_lst (pa_cons (pe_callTy call_list_of (by rfl) T.n_list b_list (pa_cons (pv 5) pa_nil)) (pa_cons (pe_callTy call_list_of (by rfl) T.n_list b_list (pa_cons (pv 6) pa_nil)) pa_nil))))
 (pss_cons (ps_for PassesOwn.never rfl (pi_range1 (by rfl) T.n_range (pa_cons pe_int pa_nil)) (pg_name (i := 18) sc.nd rfl (Or.inl rfl))
 (pss_one (ps_if (pt_not (pt_val (pe_cl (ok_law_same T) hr (by decide) (by rfl) pass0 (pa_cons (pe_cl (ok_first_wrong T) hr (by decide) (by rfl) pass0 (pa_cons (pv 3) (pa_cons (pe_ix ix_list (pv 17) pe_int (fun _ _ => rfl)) (pa_cons (pe_ix ix_list (pv 17) pe_int (fun _ _ => rfl)) (pa_cons (pv 4) (pa_cons (pv 16) pa_nil)))))) (pa_cons (pv 15) pa_nil)))))
 (pss_one (ps_ret pe_bl))
 pss_nil)))
 (pss_one (ps_ret (pe_and (pe_cmpR (op_eqD hr.units) (pv 16) (pv 8) (nomark _)) (pe_one (pe_cmpR (op_eqD hr.units) (pv 17) (pe_lst (pa_cons (pv 5) (pa_cons (pv 6) pa_nil))) (nomark _))))))))))))))))))))))))

end
theorem facts {K : PySem.W.Frag} {h : Heap} {mg : Str → Option Value} (X : K.In h) (G : h.Ns mainGlobals mg) (c : He.SaysD fas fns K) : Fx K mg where
  n_abs := He.free_ok X G (c.fact 14 rfl)
  n_all := He.free_ok X G (c.fact 15 rfl)
  n_bool := He.free_ok X G (c.fact 16 rfl)
  n_enumerate := He.free_ok X G (c.fact 17 rfl)
  n_int := He.free_ok X G (c.fact 18 rfl)
  n_isinstance := He.free_ok X G (c.fact 19 rfl)
  n_len := He.free_ok X G (c.fact 20 rfl)
  n_list := He.free_ok X G (c.fact 21 rfl)
  n_max := He.free_ok X G (c.fact 22 rfl)
  n_range := He.free_ok X G (c.fact 23 rfl)
  n_sorted := He.free_ok X G (c.fact 24 rfl)
  n_str := He.free_ok X G (c.fact 25 rfl)
  n_tuple := He.free_ok X G (c.fact 26 rfl)
  n_zip := He.free_ok X G (c.fact 27 rfl)
  cl_Auditor := He.cls_ok (c.fact 28 rfl)
  t_Auditor := ⟨He.cls_ok (c.fact 28 rfl), ⟨He.noat_ok (c.fact 29 rfl), He.noat_ok (c.fact 30 rfl), He.noat_ok (c.fact 31 rfl), He.noat_ok (c.fact 32 rfl), He.noat_ok (c.fact 33 rfl), He.noat_ok (c.fact 34 rfl), He.noat_ok (c.fact 35 rfl), He.noat_ok (c.fact 36 rfl), He.noat_ok (c.fact 37 rfl), trivial⟩⟩
  gk_Auditor := He.glo_ok X G (c.fact 39 rfl)
  mk_Auditor := He.mkr_ok (c.fact 38 rfl)
  g_law_after := He.glo_ok X G (c.fact 0 rfl)
  F_law_after := c.def_ 0 (d := dd_law_after) rfl
  g_law_bent := He.glo_ok X G (c.fact 1 rfl)
  F_law_bent := c.def_ 1 (d := dd_law_bent) rfl
  g_law_draws := He.glo_ok X G (c.fact 2 rfl)
  F_law_draws := c.def_ 2 (d := dd_law_draws) rfl
  g_law_grows := He.glo_ok X G (c.fact 3 rfl)
  F_law_grows := c.def_ 3 (d := dd_law_grows) rfl
  g_law_can := He.glo_ok X G (c.fact 4 rfl)
  F_law_can := c.def_ 4 (d := dd_law_can) rfl
  g_law_first := He.glo_ok X G (c.fact 5 rfl)
  F_law_first := c.def_ 5 (d := dd_law_first) rfl
  g_law_free := He.glo_ok X G (c.fact 6 rfl)
  F_law_free := c.def_ 6 (d := dd_law_free) rfl
  g_law_perm := He.glo_ok X G (c.fact 7 rfl)
  F_law_perm := c.def_ 7 (d := dd_law_perm) rfl
  g_law_opening := He.glo_ok X G (c.fact 8 rfl)
  F_law_opening := c.def_ 8 (d := dd_law_opening) rfl
  g_law_same := He.glo_ok X G (c.fact 9 rfl)
  F_law_same := c.def_ 9 (d := dd_law_same) rfl
  g_law_spoilt := He.glo_ok X G (c.fact 10 rfl)
  F_law_spoilt := c.def_ 10 (d := dd_law_spoilt) rfl
  F_Auditor_init := c.def_ 11 (d := dd_Auditor_init) rfl
  m_Auditor_coins_good := He.meth_ok (c.fact 40 rfl)
  F_Auditor_coins_good := c.def_ 12 (d := dd_Auditor_coins_good) rfl
  g_growing_in := He.glo_ok X G (c.fact 11 rfl)
  F_growing_in := c.def_ 13 (d := dd_growing_in) rfl
  m_Auditor_people_good := He.meth_ok (c.fact 41 rfl)
  F_Auditor_people_good := c.def_ 14 (d := dd_Auditor_people_good) rfl
  m_Auditor_step_coins := He.meth_ok (c.fact 42 rfl)
  F_Auditor_step_coins := c.def_ 15 (d := dd_Auditor_step_coins) rfl
  m_Auditor_step_people := He.meth_ok (c.fact 43 rfl)
  F_Auditor_step_people := c.def_ 16 (d := dd_Auditor_step_people) rfl
  m_Auditor_take_next := He.meth_ok (c.fact 44 rfl)
  F_Auditor_take_next := c.def_ 17 (d := dd_Auditor_take_next) rfl
  g_first_wrong := He.glo_ok X G (c.fact 12 rfl)
  F_first_wrong := c.def_ 18 (d := dd_first_wrong) rfl
  g_law := He.glo_ok X G (c.fact 13 rfl)
  F_law := c.def_ 19 (d := dd_law) rfl
theorem fin {P : Program} {w : World} {K : PySem.W.Frag} {h : Heap} {mg : Str → Option Value} {fa : Addr} (X : K.In h) (G : h.Ns mainGlobals mg) (hmg : mg ("law" : Str) = some (.ref fa)) (c : He.SaysD fas fns K) :
    ∃ (K : PySem.W.Frag) (fd : FuncData) (sp : Sp), K.In h ∧ (∀ (s : Shared) (u : Value), BindsTo s fd ⟨[u], []⟩ [("_law_script", u)]) ∧
        (∀ (H : Hp) (a : Addr) (ns : List Int), ns.length ≤ 63 → Only H → SqL K H a (ns.map V.int) → sp [.ref a] H (fun v _ => v = .bl true) fun _ _ _ => False) ∧
        ∀ base : Heap, K.In base → base.Ns mainGlobals mg → FnOk P w K mg base CX0 9 fa fd ["_law_script"] sp := by
  have T := facts X G c
  obtain ⟨fd, F⟩ := T.F_law
  have e := hmg.symm.trans T.g_law
  cases e
  have b := FunD.bindsA (ps := ["_law_script"]) F fun _ _ _ _ _ _ us hl => match us, hl with | [_], _ => rfl
  refine ⟨K, fd, sp_law K, X, fun s v => b s [v] rfl, fun H a ns hl _ hS => ⟨a, ns, rfl, hS, hl, T.t_Auditor, fun _ => rfl⟩, fun base _ _ => ?_⟩
  exact ok_law_at T F
end Su
open PySem PySem.W PySem.Calls PyProof.Rows
theorem PySem.Challenge.cw_susu_k36_reports_judged_holds : PySem.Challenge.rw_susu_k36_reports_judged.Holds := by
  w_on; o_law
  refine HandSHeadRun.head_any (r := OpenLaw.row PySem.Challenge.rw_susu_k36_reports_judged) (q := view (OpenLaw.row PySem.Challenge.rw_susu_k36_reports_judged).prog [16]) (H := Su.hk) (ob := Su.ob) (M := 4000) (loose := Su.loose) (d := HandSHeadRun.topDef (OpenLaw.row PySem.Challenge.rw_susu_k36_reports_judged).prog 16) (kwd := []) Su.ob_eq
    Su.hd_e Su.hd_f Su.run Su.hd_def Su.hd_p Su.hd_k (by rfl) (by first | assumption | decide +kernel) Su.hd_ok ⟨rfl, rfl, rfl, rfl, rfl, by decide +kernel⟩ ?hw ?hc
  case hw => w_witness2
  case hc =>
    refine L2.walk_ofE (l := PySem.Challenge.rw_susu_k36_reports_judged) (n := 63) (k := 9) (x := "_law_script") (CX := L2.CX0) rfl (by decide) (by kernel_rfl) ⟨rfl, by decide, by decide⟩ ?F (fun _ _ _ _ z => z)
    intro w mg fa h Y G hmg0
    obtain ⟨K, KX, c⟩ := Y
    have hmg : mg ("law" : PySem.Str) = some (.ref fa) := by
      have e : (HandSHeadRun.topDef (OpenLaw.row PySem.Challenge.rw_susu_k36_reports_judged).prog 16).name = ("law" : PySem.Str) := by kernel_rfl
      rw [← e]
      exact hmg0
    exact Su.fin KX G hmg c
