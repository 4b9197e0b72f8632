import PyProof.Rows.All
import Wide.All
import OpenK.AllK
import Wide.FinOn
import KE.KStateDown
import Lean
import HandS.ForMost
import HandS.Exc
import HandS.TryOnly
import HandS.ExcOwn
import HandS.WordsExc
import HandS.ExcIs
import HandS.More
import HandS.Defaults
import HandS.IsInst
import HandS.Flow
import HandS.Steps
import HandS.Wide
import HandS.Deep
import HandS.Codes
import HandS.Zip
import HandS.Strs
import HandS.Conv
import HandS.SetFor
import HandS.SortInts
import HandS.Head0
import HandS.Head1
import HandS.Head2
import HandS.HeadEnd
import HandS.HeadHook1
import HandS.HeadHook2
import HandS.HeadHook3
import HandS.HeadHook4
import HandS.ExcField
import HandS.ExcInit
import KE.KDictDisplayH
import PySem.Challenge.RW_susu_k09_orders_counted
set_option Elab.async false
set_option linter.all false
set_option maxRecDepth 100000
set_option maxHeartbeats 4000000
namespace Su
open PySem L2

abbrev rAdd : R2 := rI0 fun i j => .int (i + j)
abbrev rSub : R2 := rI0 fun i j => .int (i - j)
abbrev rMul : R2 := rI CMul fun i j => .int (i * j)
abbrev rDiv : R2 := rI CDiv fun i j => .int (i / j)
abbrev rMod : R2 := rI (fun _ j => 0 < j) fun i j => .int (i % j)
abbrev rPow : R2 := rI CPow fun i j => .int (i ^ j.toNat)
abbrev rShl : R2 := rI CPow fun i j => .int (i * 2 ^ j.toNat)
abbrev rShr : R2 := rI (fun _ j => 0 ≤ j) fun i j => .int (i / 2 ^ j.toNat)
abbrev rLt : R2 := rI0 fun i j => .bl (decide (i < j))
abbrev rLe : R2 := rI0 fun i j => .bl (decide (i ≤ j))
abbrev CR : Type := List V → Hp → VK → Prop
abbrev rLenSeq (K : PySem.W.Frag) : CR := fun xs H Q => ∃ p ys, xs = [.ref p] ∧ (SqL K H p ys ∨ SqT K H p ys) ∧ Q (.int ys.length) H
abbrev rAbs : CR := fun xs H Q => ∃ i, xs = [.int i] ∧ Q (.int (if i < 0 then -i else i)) H
abbrev rMax2 : CR := fun xs H Q => ∃ i j, xs = [.int i, .int j] ∧ Q (.int (if j > i then j else i)) H
abbrev rMin2 : CR := fun xs H Q => ∃ i j, xs = [.int i, .int j] ∧ Q (.int (if j < i then j else i)) H
abbrev rInt1 : CR := fun xs H Q => (∃ i, xs = [.int i] ∧ Q (.int i) H) ∨ ∃ k, xs = [.bl k] ∧ Q (.int (if k then 1 else 0)) H
abbrev rListOf (K : PySem.W.Frag) : CR := fun xs H Q => ∃ p ys, xs = [.ref p] ∧ (SqL K H p ys ∨ SqT K H p ys) ∧ ∀ l, H l = none → Q (.ref l) (upd H l (.lst ys))
abbrev rTupleOf (K : PySem.W.Frag) : CR := fun xs H Q => ∃ p ys, xs = [.ref p] ∧ ((SqL K H p ys ∧ ∀ l, H l = none → Q (.ref l) (upd H l (.tup ys))) ∨ (SqT K H p ys ∧ Q (.ref p) H))
abbrev MR : Type := V → List V → Hp → VK → Prop
abbrev rAppend : MR := fun x vs H Q => ∃ (l : Addr) (xs : List V) (y : V), x = .ref l ∧ vs = [y] ∧ H l = some (.lst xs) ∧ xs.length < sizeLine ∧ Q .non (upd H l (.lst (xs ++ [y])))
theorem b_len : bootBuiltins "len" = some (.builtin "len") := by decide +kernel
theorem b_abs : bootBuiltins "abs" = some (.builtin "abs") := by decide +kernel
theorem b_sorted : bootBuiltins "sorted" = some (.builtin "sorted") := by decide +kernel
theorem b_isinstance : bootBuiltins "isinstance" = some (.builtin "isinstance") := by decide +kernel
theorem b_int : bootBuiltins "int" = some (.type "int") := by decide +kernel
theorem b_bool : bootBuiltins "bool" = some (.type "bool") := by decide +kernel
theorem b_list : bootBuiltins "list" = some (.type "list") := by decide +kernel
theorem b_tuple : bootBuiltins "tuple" = some (.type "tuple") := by decide +kernel
/-- a def of the module that may be called by its name -/
structure Cl (P : Program) (w : World) (K : PySem.W.Frag) (mg : Str → Option Value) (base : Heap) (CX : CXT) (k : Nat) (x : Str) (sp : Sp) : Prop where
  ex : ∃ (f : Addr) (fd : FuncData) (ps : List Str), mg x = some (.ref f) ∧ PySem.W.keepIn K (.ref f) = true ∧ Binds K fd ps [] ∧ FnOk P w K mg base CX k f fd ps sp
section
variable {X : Cx} {CX : CXT} {k j : Nat} {x : Str} {sp : Sp} {E : XK} {e : Expr} {es : List Expr} {t : TA} {p pos : Pos}
theorem pe_cl (c : Cl X.prog X.w X.K X.mg X.base CX k x sp) (hr : Room j X.A) (hk : k ≤ j) (hg : Gl X x) (hx : Passes CX X E) (ha : PA X (e :: es) t)
    (hdb : (x == ("__debug__" : Str)) = false := by decide) (he : starEach (e :: es) X.env = (false, eval e X.env) :: starEach es X.env := by rfl) (hpl : (backTo pos (starEach es X.env)).any (·.1) = false := by rfl) : PE X (.Call (.Name x p) (e :: es) [] pos) (tCall sp [] E t) := by
  obtain ⟨f, fd, ps, h1, h2, h3, h4⟩ := c.ex
  exact pe_call h4 (hr.mono hk) hg h1 h2 h3 .nil hx ha hdb he hpl
theorem pe_gc {v : V} (hg : Gl X x) (h : ∃ u, X.mg x = some u ∧ RelV v u) (hd : (x == ("__debug__" : Str)) = false := by decide) : PE X (.Name x pos) (tC v) := by
  obtain ⟨u, h1, h2⟩ := h
  exact pe_glob hg h1 h2 hd
end

/-! ### the readings, step by step -/
section
variable {K : PySem.W.Frag} {t1 t2 : TS} {te ta tb tc : TE} {tt tu : TT} {a1 a2 : TA} {D : Ends} {σ : St} {H : Hp} {Q : VK} {Qb : Bool → Hp → Prop} {Qa : List V → Hp → Prop} {g : TG} {v w x y : V} {n i : Nat}
theorem x_seq (h : t1 { D with nx := t2 D } σ H) : tSeq t1 t2 D σ H := h
theorem x_next (h : D.nx σ H) : tNext D σ H := h
theorem x_ret (h : te σ H D.rt) : tRet te D σ H := h
theorem x_retN (h : D.rt .non H) : tRetN D σ H := h
theorem x_brk (h : D.bk σ H) : tBreak D σ H := h
theorem x_drop (h : te σ H fun _ H1 => D.nx σ H1) : tDrop te D σ H := h
theorem x_asg (h : te σ H fun x H1 => g x σ H1 D.nx) : tAsg te g D σ H := h
theorem x_gname {Qs : St → Hp → Prop} (h : Qs (σ.set i (some v)) H) : gName i v σ H Qs := h
theorem x_ifS (h : tt σ H fun b H1 => if b = true then t1 D σ H1 else t2 D σ H1) : tIfS tt t1 t2 D σ H := h
theorem x_var (e : σ[i]? = some (some v)) (h : Q v H) : tVar i σ H Q := ⟨v, e, h⟩
theorem x_c (h : Q v H) : tC v σ H Q := h
theorem x_op {r : R2} (h : ta σ H fun x H1 => tb σ H1 fun y H2 => r x y H2 Q) : tOp r ta tb σ H Q := h
theorem x_un {r : V → Hp → VK → Prop} (h : ta σ H fun x H1 => r x H1 Q) : tUn r ta σ H Q := h
theorem x_rU {g : Int → V} {i : Int} (h : Q (g i) H) : rU g (.int i) H Q := ⟨i, rfl, h⟩
theorem x_rI0 {g : Int → Int → V} {i j : Int} (h : Q (g i j) H) : rI0 g (.int i) (.int j) H Q := ⟨i, j, rfl, rfl, h⟩
theorem x_rI {C : Int → Int → Prop} {g : Int → Int → V} {i j : Int} (c : C i j) (h : Q (g i j) H) : rI C g (.int i) (.int j) H Q := ⟨i, j, rfl, rfl, c, h⟩
theorem x_eqI {i j : Int} (h : Q (.bl (decide (i = j))) H) : rEq (.int i) (.int j) H Q := ⟨rfl, by
  have e : decide (V.int i = V.int j) = decide (i = j) := by simp
  rw [e]; exact h⟩
theorem x_neI {i j : Int} (h : Q (.bl (!decide (i = j))) H) : rNe (.int i) (.int j) H Q := ⟨rfl, by
  have e : decide (V.int i = V.int j) = decide (i = j) := by simp
  rw [e]; exact h⟩
theorem x_eqS {i j : Str} (h : Q (.bl (decide (i = j))) H) : rEq (.str i) (.str j) H Q := ⟨rfl, by
  have e : decide (V.str i = V.str j) = decide (i = j) := by simp
  rw [e]; exact h⟩
theorem x_neS {i j : Str} (h : Q (.bl (!decide (i = j))) H) : rNe (.str i) (.str j) H Q := ⟨rfl, by
  have e : decide (V.str i = V.str j) = decide (i = j) := by simp
  rw [e]; exact h⟩
theorem x_eqB {i j : Bool} (h : Q (.bl (decide (i = j))) H) : rEq (.bl i) (.bl j) H Q := ⟨rfl, by
  have e : decide (V.bl i = V.bl j) = decide (i = j) := by simp
  rw [e]; exact h⟩
theorem x_neB {i j : Bool} (h : Q (.bl (!decide (i = j))) H) : rNe (.bl i) (.bl j) H Q := ⟨rfl, by
  have e : decide (V.bl i = V.bl j) = decide (i = j) := by simp
  rw [e]; exact h⟩
theorem x_test (h : te σ H fun x H' => ∃ k, x = .bl k ∧ Qb k H') : tTest te σ H Qb := h
theorem x_tB (h : te σ H fun x H' => ∃ k, x = .bl k ∧ Qb k H') : tB te σ H Qb := h
theorem x_isB {k : Bool} (h : Qb k H) : ∃ k', V.bl k = .bl k' ∧ Qb k' H := ⟨k, rfl, h⟩
theorem x_isB' {k : Bool} {P : Bool → Prop} (h : P k) : ∃ k', V.bl k = .bl k' ∧ P k' := ⟨k, rfl, h⟩
theorem x_not (h : tt σ H fun c H1 => Qb (!c) H1) : tNot tt σ H Qb := h
theorem x_and (h : tt σ H fun c H1 => if c = true then tu σ H1 Qb else Qb false H1) : tAnd tt tu σ H Qb := h
theorem x_or (h : tt σ H fun c H1 => if c = true then Qb true H1 else tu σ H1 Qb) : tOr tt tu σ H Qb := h
theorem x_andV (h : ta σ H fun x H1 => ∃ c, x = .bl c ∧ if c = true then tb σ H1 Q else Q (.bl false) H1) : tAndV ta tb σ H Q := h
theorem x_orV (h : ta σ H fun x H1 => ∃ c, x = .bl c ∧ if c = true then Q (.bl true) H1 else tb σ H1 Q) : tOrV ta tb σ H Q := h
theorem x_notV (h : ta σ H fun x H1 => ∃ c, x = .bl c ∧ Q (.bl (!c)) H1) : tNotV ta σ H Q := h
theorem x_chain {r r' : R2} (h : ta σ H fun x H1 => tb σ H1 fun y H2 => r x y H2 fun z H3 => ∃ k, z = .bl k ∧ (if k = true then tc σ H3 fun w' H4 => r' y w' H4 Q else Q (.bl false) H3)) : tChain r r' ta tb tc σ H Q := h
theorem x_nil (h : Qa [] H) : tNil σ H Qa := h
theorem x_cons (h : ta σ H fun x H1 => a1 σ H1 fun xs H2 => Qa (x :: xs) H2) : tCons ta a1 σ H Qa := h
theorem x_cb {r : CR} (h : a1 σ H fun vs H1 => r vs H1 Q) : tCB r a1 σ H Q := h
theorem x_call {sp : Sp} {E : XK} (h : a1 σ H fun vs H1 => sp (vs ++ []) H1 Q E) : tCall sp [] E a1 σ H Q := h
def AlL (Q : VK) (xs : List V) (H : Hp) : Prop := xs.length ≤ sizeLine ∧ ∀ p, H p = none → Q (.ref p) (upd H p (.lst xs))
def AlT (Q : VK) (xs : List V) (H : Hp) : Prop := xs.length ≤ sizeLine ∧ ∀ p, H p = none → Q (.ref p) (upd H p (.tup xs))
theorem x_lst (h : a1 σ H (AlL Q)) : tLst a1 σ H Q := h
theorem x_tup (h : a1 σ H (AlT Q)) : tTup a1 σ H Q := h
theorem x_abs {i : Int} (h : Q (.int (if i < 0 then -i else i)) H) : rAbs [.int i] H Q := ⟨i, rfl, h⟩
theorem x_max2 {i j : Int} (h : Q (.int (if j > i then j else i)) H) : rMax2 [.int i, .int j] H Q := ⟨i, j, rfl, h⟩
theorem x_min2 {i j : Int} (h : Q (.int (if j < i then j else i)) H) : rMin2 [.int i, .int j] H Q := ⟨i, j, rfl, h⟩
theorem x_int1 {i : Int} (h : Q (.int i) H) : rInt1 [.int i] H Q := .inl ⟨i, rfl, h⟩
theorem x_intB {k : Bool} (h : Q (.int (if k then 1 else 0)) H) : rInt1 [.bl k] H Q := .inr ⟨k, rfl, h⟩
theorem x_lenL {p : Addr} {ys : List V} (e : SqL K H p ys) (h : Q (.int ys.length) H) : rLenSeq K [.ref p] H Q := ⟨p, ys, rfl, .inl e, h⟩
theorem x_ixL {p : Addr} {xs : List V} {i : Int} (e : SqL K H p xs) (z : atI xs i = some v) (h : Q v H) : rIxL K (.ref p) (.int i) H Q := ⟨p, xs, i, v, rfl, rfl, e, z, h⟩
theorem x_append {p : Addr} {xs : List V} (e : H p = some (.lst xs)) (z : xs.length < sizeLine) (h : Q .non (upd H p (.lst (xs ++ [v])))) : rAppend (.ref p) [v] H Q := ⟨p, xs, v, rfl, rfl, e, z, h⟩
theorem x_bmL {r : MR} {to : TE} (h : to σ H fun x H1 => tyV K "list" x H1 ∧ a1 σ H1 fun xs H2 => r x xs H2 Q) : tBM K "list" r to a1 σ H Q := h
theorem tyL {p : Addr} {xs : List V} (e : SqL K H p xs) : tyV K "list" (.ref p) H := .inl ⟨rfl, _, e⟩
theorem SqL.of {p : Addr} {xs : List V} (e : H p = some (.lst xs)) : SqL K H p xs := .inl (.inl e)
theorem SqT.of {p : Addr} {xs : List V} (e : H p = some (.tup xs)) : SqT K H p xs := .inl (.inl e)
theorem x_listOf {p : Addr} {ys : List V} (e : SqL K H p ys) (h : ∀ l, H l = none → Q (.ref l) (upd H l (.lst ys))) : rListOf K [.ref p] H Q := ⟨p, ys, rfl, .inl e, h⟩
theorem x_isi {c : V} {t u : Value} {b : Bool} (h1 : ClsV c u) (h2 : TyX K H x t) (h3 : PySem.W.kitOne K t u = some b) (h : Q (.bl b) H) : rIsi K [x, c] H Q := ⟨x, c, t, u, b, rfl, h1, h2, h3, h⟩
theorem x_ite {b : Bool} {A B : Prop} (h1 : b = true → A) (h2 : b = false → B) : if b = true then A else B := by
  cases b
  · exact (if_neg Bool.false_ne_true).symm ▸ h2 rfl
  · exact (if_pos rfl).symm ▸ h1 rfl
theorem x_iteD {c A B : Prop} {inst : Decidable c} (h1 : c → A) (h2 : ¬ c → B) : if decide c = true then A else B := x_ite (fun e => h1 (of_decide_eq_true e)) (fun e => h2 (of_decide_eq_false e))
theorem x_iteN {c A B : Prop} {inst : Decidable c} (h1 : ¬ c → A) (h2 : c → B) : if (!decide c) = true then A else B := x_ite (fun e => h1 (by simpa using e)) (fun e => h2 (by simpa using e))
theorem x_whileN {tb : TS} {W : Nat → St → Hp → Prop} {m : Nat} (h : tb { D with nx := (fun σ' H' => ∃ m', m' < m ∧ W m' σ' H'), ct := (fun σ' H' => ∃ m', m' < m ∧ W m' σ' H'), bk := D.nx } σ H) :
    ∃ N : St → Hp → Prop, (∀ σ' H', N σ' H' → ∃ m', m' < m ∧ W m' σ' H') ∧ tb { D with nx := N, ct := N, bk := D.nx } σ H := ⟨_, fun _ _ h => h, h⟩
theorem x_for {wi : TI} {tb : TS} (h : wi σ H fun J H1 => ∃ W : Nat → Nat → St → Hp → Prop, (∃ m, W 0 m σ H1) ∧ ∀ i m σ H, W i m σ H →
    (J.stop i H ∧ D.nx σ H) ∨ (J.go i H ∧ ∃ N : St → Hp → Prop, (∀ σ' H', N σ' H' → ∃ m', m' < m ∧ W (i + 1) m' σ' H') ∧ ∀ x H', J.yld i H x H' → g x σ H' fun σ2 H2 => tb { D with nx := N, ct := N, bk := D.nx } σ2 H2)) : tFor wi g tb D σ H := h
theorem x_iList {R : It → Hp → Prop} (h : te σ H fun x H1 => ∃ a, x = .ref a ∧ (∃ xs, SqL K H1 a xs) ∧ R (Itl K a) H1) : iList K te σ H R := h
theorem x_iRng1 {R : It → Hp → Prop} (h : a1 σ H fun vs H1 => ∃ j : Int, vs = [.int j] ∧ -(2 ^ 62) ≤ j ∧ j < 2 ^ 62 ∧ R (Itr 0 j.toNat) H1) : iRng1 a1 σ H R := h
theorem x_iRng2 {R : It → Hp → Prop} (h : a1 σ H fun vs H1 => ∃ i j : Int, vs = [.int i, .int j] ∧ (-(2 ^ 62) ≤ i ∧ i < 2 ^ 62 ∧ -(2 ^ 62) ≤ j ∧ j < 2 ^ 62) ∧ R (Itr i (j - i).toNat) H1) : iRng2 a1 σ H R := h
theorem x_rGt {i j : Int} (h : Q (.bl (decide (j < i))) H) : rGt (.int i) (.int j) H Q := ⟨i, j, rfl, rfl, h⟩
theorem x_rGe {i j : Int} (h : Q (.bl (decide (j ≤ i))) H) : rGe (.int i) (.int j) H Q := ⟨i, j, rfl, rfl, h⟩
theorem x_iteF {A B : Prop} (h : B) : if false = true then A else B := iteF h
theorem x_iteT {A B : Prop} (h : A) : if true = true then A else B := iteT h
theorem x_iteNT {A B : Prop} (h : B) : if (!true) = true then A else B := iteF h
theorem x_iteNF {A B : Prop} (h : A) : if (!false) = true then A else B := iteT h
theorem small {n : Nat} (h : n ≤ 100000) : n < sizeLine := Nat.lt_of_le_of_lt h (by rw [sizeLine_eq]; decide)
theorem at_get {α : Type} {xs : List α} {i : Int} {d : α} (h0 : 0 ≤ i) (h1 : i < xs.length) : atI xs i = some (xs.getD i.toNat d) := by
  have h2 : i.toNat < xs.length := by omega
  unfold atI ixN
  rw [if_pos h0, if_pos h1]
  show xs[i.toNat]? = _
  rw [List.getElem?_eq_getElem h2, List.getD_eq_getElem?_getD, List.getElem?_eq_getElem h2]
  rfl
theorem at_getI {xs : List Int} {i : Int} (h0 : 0 ≤ i) (h1 : i < xs.length) : atI (xs.map V.int) i = some (.int (xs.getD i.toNat 0)) := by
  have h2 : i.toNat < xs.length := by omega
  rw [at_get (d := .int 0) h0 (by rw [List.length_map]; exact h1), List.getD_eq_getElem?_getD, List.getD_eq_getElem?_getD, List.getElem?_map, List.getElem?_eq_getElem h2]
  rfl
theorem x_ixI {p : Addr} {xs : List Int} {i : Int} (e : H p = some (.lst (xs.map V.int))) (h0 : 0 ≤ i) (h1 : i < xs.length) (h : Q (.int (xs.getD i.toNat 0)) H) : rIxL K (.ref p) (.int i) H Q := x_ixL (SqL.of e) (at_getI h0 h1) h
theorem x_cut {t u : TS} (M : St → Hp → Prop) (h : t { D with nx := M } σ H) (k : ∀ σ' H', M σ' H' → u D σ' H') : C8.tCut t u D σ H := ⟨M, h, k⟩
theorem kt_int_int : kitB "int" "int" = some true := by decide +kernel
theorem kt_int_bool : kitB "int" "bool" = some false := by decide +kernel
theorem kt_int_str : kitB "int" "str" = some false := by decide +kernel
theorem kt_int_list : kitB "int" "list" = some false := by decide +kernel
theorem kt_int_tuple : kitB "int" "tuple" = some false := by decide +kernel
theorem kt_bool_int : kitB "bool" "int" = some true := by decide +kernel
theorem kt_bool_bool : kitB "bool" "bool" = some true := by decide +kernel
theorem kt_bool_str : kitB "bool" "str" = some false := by decide +kernel
theorem kt_bool_list : kitB "bool" "list" = some false := by decide +kernel
theorem kt_bool_tuple : kitB "bool" "tuple" = some false := by decide +kernel
theorem kt_str_int : kitB "str" "int" = some false := by decide +kernel
theorem kt_str_bool : kitB "str" "bool" = some false := by decide +kernel
theorem kt_str_str : kitB "str" "str" = some true := by decide +kernel
theorem kt_str_list : kitB "str" "list" = some false := by decide +kernel
theorem kt_str_tuple : kitB "str" "tuple" = some false := by decide +kernel
theorem kt_NoneType_int : kitB "NoneType" "int" = some false := by decide +kernel
theorem kt_NoneType_bool : kitB "NoneType" "bool" = some false := by decide +kernel
theorem kt_NoneType_str : kitB "NoneType" "str" = some false := by decide +kernel
theorem kt_NoneType_list : kitB "NoneType" "list" = some false := by decide +kernel
theorem kt_NoneType_tuple : kitB "NoneType" "tuple" = some false := by decide +kernel
theorem x_isi_int_int {i : Int} (q : Q (.bl true) H) : rIsi K [(.int i), .ty "int"] H Q := x_isi (.ty _) (.base (.int _)) (kit_ty kt_int_int) q
theorem x_isi_int_bool {i : Int} (q : Q (.bl false) H) : rIsi K [(.int i), .ty "bool"] H Q := x_isi (.ty _) (.base (.int _)) (kit_ty kt_int_bool) q
theorem x_isi_int_str {i : Int} (q : Q (.bl false) H) : rIsi K [(.int i), .ty "str"] H Q := x_isi (.ty _) (.base (.int _)) (kit_ty kt_int_str) q
theorem x_isi_int_list {i : Int} (q : Q (.bl false) H) : rIsi K [(.int i), .ty "list"] H Q := x_isi (.ty _) (.base (.int _)) (kit_ty kt_int_list) q
theorem x_isi_int_tuple {i : Int} (q : Q (.bl false) H) : rIsi K [(.int i), .ty "tuple"] H Q := x_isi (.ty _) (.base (.int _)) (kit_ty kt_int_tuple) q
theorem x_isi_bool_int {i : Bool} (q : Q (.bl true) H) : rIsi K [(.bl i), .ty "int"] H Q := x_isi (.ty _) (.base (.bl _)) (kit_ty kt_bool_int) q
theorem x_isi_bool_bool {i : Bool} (q : Q (.bl true) H) : rIsi K [(.bl i), .ty "bool"] H Q := x_isi (.ty _) (.base (.bl _)) (kit_ty kt_bool_bool) q
theorem x_isi_bool_str {i : Bool} (q : Q (.bl false) H) : rIsi K [(.bl i), .ty "str"] H Q := x_isi (.ty _) (.base (.bl _)) (kit_ty kt_bool_str) q
theorem x_isi_bool_list {i : Bool} (q : Q (.bl false) H) : rIsi K [(.bl i), .ty "list"] H Q := x_isi (.ty _) (.base (.bl _)) (kit_ty kt_bool_list) q
theorem x_isi_bool_tuple {i : Bool} (q : Q (.bl false) H) : rIsi K [(.bl i), .ty "tuple"] H Q := x_isi (.ty _) (.base (.bl _)) (kit_ty kt_bool_tuple) q
theorem x_isi_str_int {i : Str} (q : Q (.bl false) H) : rIsi K [(.str i), .ty "int"] H Q := x_isi (.ty _) (.base (.str _)) (kit_ty kt_str_int) q
theorem x_isi_str_bool {i : Str} (q : Q (.bl false) H) : rIsi K [(.str i), .ty "bool"] H Q := x_isi (.ty _) (.base (.str _)) (kit_ty kt_str_bool) q
theorem x_isi_str_str {i : Str} (q : Q (.bl true) H) : rIsi K [(.str i), .ty "str"] H Q := x_isi (.ty _) (.base (.str _)) (kit_ty kt_str_str) q
theorem x_isi_str_list {i : Str} (q : Q (.bl false) H) : rIsi K [(.str i), .ty "list"] H Q := x_isi (.ty _) (.base (.str _)) (kit_ty kt_str_list) q
theorem x_isi_str_tuple {i : Str} (q : Q (.bl false) H) : rIsi K [(.str i), .ty "tuple"] H Q := x_isi (.ty _) (.base (.str _)) (kit_ty kt_str_tuple) q
theorem x_isi_NoneType_int (q : Q (.bl false) H) : rIsi K [.non, .ty "int"] H Q := x_isi (.ty _) (.base .non) (kit_ty kt_NoneType_int) q
theorem x_isi_NoneType_bool (q : Q (.bl false) H) : rIsi K [.non, .ty "bool"] H Q := x_isi (.ty _) (.base .non) (kit_ty kt_NoneType_bool) q
theorem x_isi_NoneType_str (q : Q (.bl false) H) : rIsi K [.non, .ty "str"] H Q := x_isi (.ty _) (.base .non) (kit_ty kt_NoneType_str) q
theorem x_isi_NoneType_list (q : Q (.bl false) H) : rIsi K [.non, .ty "list"] H Q := x_isi (.ty _) (.base .non) (kit_ty kt_NoneType_list) q
theorem x_isi_NoneType_tuple (q : Q (.bl false) H) : rIsi K [.non, .ty "tuple"] H Q := x_isi (.ty _) (.base .non) (kit_ty kt_NoneType_tuple) q
theorem same_upd {H0 H1 : Hp} {p : Addr} {o : HO} (h : Same H0 H1) (n : H0 p = none) : Same H0 (upd H1 p o) := fun b q e => by rw [upd_ne (ne_of_none e n)]; exact h b q e
theorem same_new {H0 H1 : Hp} {p : Addr} {o : HO} (h : Same H0 H1) (n : H1 p = none) : Same H0 (L2.upd H1 p o) := same_upd h (h.free n)
theorem al_lst {xs : List V} (h : ∀ p H', H p = none → Same H H' → H' p = some (.lst xs) → Q (.ref p) H') (h0 : Nat.ble xs.length 100000 = true := by rfl) : AlL Q xs H := ⟨Nat.le_of_lt (small (Nat.le_of_ble_eq_true h0)), fun p n => h p _ n (same_new (Same.refl H) n) upd_same⟩
theorem al_tup {xs : List V} (h : ∀ p H', H p = none → Same H H' → H' p = some (.tup xs) → Q (.ref p) H') (h0 : Nat.ble xs.length 100000 = true := by rfl) : AlT Q xs H := ⟨Nat.le_of_lt (small (Nat.le_of_ble_eq_true h0)), fun p n => h p _ n (same_new (Same.refl H) n) upd_same⟩
theorem al_list {p : Addr} {ys : List V} (e : SqL K H p ys) (h : ∀ p H', H p = none → Same H H' → H' p = some (.lst ys) → Q (.ref p) H') : rListOf K [.ref p] H Q := x_listOf e fun p n => h p _ n (same_new (Same.refl H) n) upd_same
theorem getD_all {P : Int → Prop} {xs : List Int} (h : ∀ x ∈ xs, P x) (h0 : P 0) (i : Nat) : P (xs.getD i 0) := by
  rw [List.getD_eq_getElem?_getD]
  cases e : xs[i]? with
  | none => exact h0
  | some v => exact h v (List.mem_of_getElem? e)
end
/-! ### turns of a walk -/
structure Turns (J : It) (n : Nat) (ok : Hp → Prop) (item : Nat → V → Hp → Hp → Prop) : Prop where
  go : ∀ i H, i < n → ok H → J.go i H
  yld : ∀ i H x H', i < n → ok H → J.yld i H x H' → item i x H H'
  stop : ∀ H, ok H → J.stop n H
section
variable {K : PySem.W.Frag} {J : It} {n : Nat} {ok : Hp → Prop} {item : Nat → V → Hp → Hp → Prop} {g : TG} {tb : TS} {D : Ends} {σ : St} {H : Hp}
theorem for_by (T : Turns J n ok item) (Pv : Nat → St → Hp → Prop) (h0 : Pv 0 σ H) (hok : ∀ i σ H, i ≤ n → Pv i σ H → ok H)
    (hs : ∀ i x σ H H', i < n → Pv i σ H → item i x H H' → g x σ H' fun σ2 H2 => tb { D with nx := Pv (i + 1), ct := Pv (i + 1), bk := D.nx } σ2 H2) (hd : ∀ σ H, Pv n σ H → D.nx σ H) :
    ∃ W : Nat → Nat → St → Hp → Prop, (∃ m, W 0 m σ H) ∧ ∀ i m σ H, W i m σ H →
      (J.stop i H ∧ D.nx σ H) ∨ (J.go i H ∧ ∃ N : St → Hp → Prop, (∀ σ' H', N σ' H' → ∃ m', m' < m ∧ W (i + 1) m' σ' H') ∧ ∀ v H', J.yld i H v H' → g v σ H' fun σ2 H2 => tb { D with nx := N, ct := N, bk := D.nx } σ2 H2) := by
  refine ⟨fun i m σ H => m = n - i ∧ i ≤ n ∧ Pv i σ H, ⟨n, rfl, Nat.zero_le _, h0⟩, ?_⟩
  rintro i m σ H ⟨rfl, hi, p⟩
  have q := hok i σ H hi p
  by_cases hlt : i < n
  · exact .inr ⟨T.go i H hlt q, Pv (i + 1), fun σ' H' p' => ⟨n - (i + 1), by omega, rfl, hlt, p'⟩, fun v H' y => hs i v σ H H' hlt p (T.yld i H v H' hlt q y)⟩
  · have e : i = n := by omega
    subst e
    exact .inl ⟨T.stop H q, hd σ H p⟩
variable {tt : TT} {te : TE} {vs : List Nat} {H1 : Hp} {A : Addr} {Qd : Hp → Prop}
theorem turnsL {a : Addr} {xs : List V} : Turns (Itl K a) xs.length (fun H => SqL K H a xs) (fun i x H H' => H = H' ∧ xs[i]? = some x) where
  go := fun i H hi q => ⟨xs, xs[i], q, List.getElem?_eq_getElem hi⟩
  yld := fun i H x H' _ q y => ⟨y.1.symm, y.2 xs q⟩
  stop := fun H q => ⟨xs, q, Nat.le_refl _⟩
theorem turnsR {lo : Int} {n : Nat} : Turns (Itr lo n) n (fun _ => True) (fun i x H H' => H = H' ∧ x = .int (lo + i)) where
  go := fun i H hi _ => hi
  yld := fun i H x H' _ _ y => ⟨y.1.symm, y.2⟩
  stop := fun H _ => Nat.le_refl _
/-- a new pair stands at T -/
def Pair (x y : V) (v : V) (H H' : Hp) : Prop := ∃ T, v = .ref T ∧ H T = none ∧ Same H H' ∧ H' T = some (.tup [x, y]) ∧ ∀ b, b ≠ T → H' b = H b
theorem pair_mk {x y : V} {T : Addr} (h : H T = none) : Pair x y (.ref T) H (upd H T (.tup [x, y])) := ⟨T, rfl, h, same_new (Same.refl H) h, upd_same, fun b hb => upd_ne hb⟩
theorem turnsE {a : Addr} {xs : List V} : Turns (Ite K a) xs.length (fun H => SqL K H a xs) (fun i v H H' => ∃ x, xs[i]? = some x ∧ Pair (.int (i : Nat)) x v H H') where
  go := fun i H hi q => ⟨xs, xs[i], q, List.getElem?_eq_getElem hi⟩
  yld := fun i H v H' _ q y => by
    obtain ⟨T, x, rfl, hT, rfl, f⟩ := y
    exact ⟨x, f xs q, pair_mk hT⟩
  stop := fun H q => ⟨xs, q, Nat.le_refl _⟩
/-! ### a comprehension of flat values -/
end

/-! ### data -/
section
variable {K : PySem.W.Frag} {H H' : Hp}
theorem seqT_same {a : Addr} {xs : List V} (e : Same H H') (h : SqT K H a xs) : SqT K H' a xs := by
  rcases h with (h | ⟨o, h⟩) | h
  · exact .inl (.inl (e _ _ h))
  · exact .inl (.inr ⟨o, e _ _ h⟩)
  · exact .inr h
mutual
theorem dp_same (e : Same H H') : ∀ {v : V} {d : PyData}, Dp K H v d → Dp K H' v d
  | _, _, .non => .non
  | _, _, .bl b => .bl b
  | _, _, .int i => .int i
  | _, _, .str x => .str x
  | _, _, .lst h a => .lst (e.seq h) (dpAll_same e a)
  | _, _, .tup h a => .tup (seqT_same e h) (dpAll_same e a)
theorem dpAll_same (e : Same H H') : ∀ {vs : List V} {ds : List PyData}, DpAll K H vs ds → DpAll K H' vs ds
  | _, _, .nil => .nil
  | _, _, .cons a b => .cons (dp_same e a) (dpAll_same e b)
end
theorem dpAll_len : ∀ {vs : List V} {ds : List PyData}, DpAll K H vs ds → vs.length = ds.length
  | _, _, .nil => rfl
  | _, _, .cons _ b => congrArg Nat.succ (dpAll_len b)
theorem dpAll_get : ∀ {vs : List V} {ds : List PyData} {i : Nat} {v : V}, DpAll K H vs ds → vs[i]? = some v → ∃ d, ds[i]? = some d ∧ Dp K H v d
  | _, _, i, _, .nil, e => by simp at e
  | _, _, 0, _, .cons a _, e => by simp at e; subst e; exact ⟨_, rfl, a⟩
  | _, _, i + 1, _, .cons _ b, e => by
    obtain ⟨d, h1, h2⟩ := dpAll_get (i := i) b (by simpa using e)
    exact ⟨d, by simpa using h1, h2⟩
theorem dpAll_snoc : ∀ {vs : List V} {ds : List PyData} {v : V} {d : PyData}, DpAll K H vs ds → Dp K H v d → DpAll K H (vs ++ [v]) (ds ++ [d])
  | _, _, _, _, .nil, h => .cons h .nil
  | _, _, _, _, .cons a b, h => .cons a (dpAll_snoc b h)
theorem dp_int {v : V} {i : Int} (h : Dp K H v (.int i)) : v = .int i := by cases h; rfl
theorem dp_lst {v : V} {ds : List PyData} (h : Dp K H v (.list ds)) : ∃ a xs, v = .ref a ∧ SqL K H a xs ∧ DpAll K H xs ds := by cases h with | lst a b => exact ⟨_, _, rfl, a, b⟩
theorem dp_tup {v : V} {ds : List PyData} (h : Dp K H v (.tuple ds)) : ∃ a xs, v = .ref a ∧ SqT K H a xs ∧ DpAll K H xs ds := by cases h with | tup a b => exact ⟨_, _, rfl, a, b⟩
theorem dp_pair {v : V} {i j : Int} (h : Dp K H v (.tuple [.int i, .int j])) : ∃ a, v = .ref a ∧ SqT K H a [.int i, .int j] := by
  obtain ⟨a, xs, rfl, h1, h2⟩ := dp_tup h
  cases h2 with
  | cons p h3 => cases h3 with
    | cons q h4 =>
      cases h4
      cases dp_int p; cases dp_int q
      exact ⟨a, rfl, h1⟩
theorem pair_dp {a : Addr} {i j : Int} (h : SqT K H a [.int i, .int j]) : Dp K H (.ref a) (.tuple [.int i, .int j]) := .tup h (.cons (.int i) (.cons (.int j) .nil))
/-- the heap without what stands at A -/
def del (H : Hp) (A : Addr) : Hp := fun b => if b = A then none else H b
theorem del_same {A : Addr} : Same (del H A) H := fun b o e => by
  unfold del at e
  by_cases c : b = A
  · rw [if_pos c] at e; cases e
  · rw [if_neg c] at e; exact e
theorem del_at {A b : Addr} {o : HO} (h : H b = some o) (n : b ≠ A) : del H A b = some o := by unfold del; rw [if_neg n]; exact h
theorem del_upd {A : Addr} {o : HO} : del (upd H A o) A = del H A := by
  funext b
  unfold del
  by_cases c : b = A
  · rw [if_pos c, if_pos c]
  · rw [if_neg c, if_neg c, upd_ne c]
theorem del_mono {A : Addr} (e : Same H H') : Same (del H A) (del H' A) := fun b o h => by
  unfold del at h ⊢
  by_cases c : b = A
  · rw [if_pos c] at h; cases h
  · rw [if_neg c] at h ⊢; exact e b o h
end

/-! ### a comprehension of data -/
section
variable {K : PySem.W.Frag} {J : It} {n : Nat} {ok : Hp → Prop} {item : Nat → V → Hp → Hp → Prop} {g : TG} {σ : St} {tt : TT} {te : TE} {vs : List Nat} {H1 : Hp} {A : Addr} {Qd : Hp → Prop}
end

/-! ### further steps -/
section
variable {K : PySem.W.Frag} {te : TE} {a1 : TA} {σ : St} {H : Hp} {R : It → Hp → Prop} {Qs : St → Hp → Prop} {g : TG} {u : TGs} {v : V} {r xs : List V} {n : Nat} {a : Addr}
theorem x_iEnum (h : a1 σ H fun vs H1 => ∃ a xs, vs = [.ref a] ∧ SqL K H1 a xs ∧ R (Ite K a) H1) : iEnum K a1 σ H R := h
theorem x_iZip (h : a1 σ H fun vs H1 => ∃ a b xs ys, vs = [.ref a, .ref b] ∧ SqL K H1 a xs ∧ SqL K H1 b ys ∧ R (Itz K a b) H1) : iZip K a1 σ H R := h
theorem x_iZipA (h : a1 σ H fun vs H1 => ∃ a b xs ys, vs = [.ref a, .ref b] ∧ ((SqL K H1 a xs ∧ SqL K H1 b ys ∧ R (Itz K a b) H1) ∨ (SqT K H1 a xs ∧ SqT K H1 b ys ∧ R (RZ.ItzT K a b) H1))) : RZ.iZipA K a1 σ H R := h
theorem x_iTup (h : te σ H fun x H1 => ∃ a, x = .ref a ∧ (∃ xs, SqT K H1 a xs) ∧ R (Itt K a) H1) : iTup K te σ H R := h
theorem x_gtup (e : SqT K H a xs) (l : xs.length = n) (h : u xs σ H Qs) : gTup K n u (.ref a) σ H Qs := ⟨a, xs, rfl, e, l, h⟩
theorem x_gcons (h : g v σ H fun σ' H' => u r σ' H' Qs) : gCons g u (v :: r) σ H Qs := ⟨v, r, rfl, h⟩
theorem x_gnil (h : Qs σ H) : gNil [] σ H Qs := ⟨rfl, h⟩
theorem x_gsub {to ti : TE} {t : TSet} (h : to σ H fun o H1 => ti σ H1 fun i H2 => t o i v H2 fun H3 => Qs σ H3) : gSub to ti t v σ H Qs := h
theorem x_setL {p : Addr} {xs : List V} {k : Int} {Qh : Hp → Prop} (e : H p = some (.lst xs)) (h0 : 0 ≤ k) (h1 : k < xs.length) (h : Qh (upd H p (.lst (xs.set k.toNat v)))) : rSetL (.ref p) (.int k) v H Qh := by
  refine ⟨p, xs, k, k.toNat, rfl, rfl, e, ?_, h⟩
  unfold ixN
  rw [if_pos h0, if_pos h1]
theorem x_yes {Qb : Bool → Hp → Prop} (h : Qb true H) : tYes σ H Qb := h
theorem x_lc {wi : TI} {tt : TT} {te : TE} {vs : List Nat} {Q : VK} (h : wi σ H fun J H1 => ∀ D, H1 D = none → ∃ W : Nat → Nat → Hp → Prop, (∃ m, W 0 m (upd H1 D (.lst []))) ∧ ∀ i m H, W i m H →
  (J.stop i H ∧ Q (.ref D) H) ∨ (J.go i H ∧ ∃ Nx : Hp → Prop, (∀ H', Nx H' → ∃ m', m' < m ∧ W (i + 1) m' H') ∧ ∀ x H', J.yld i H x H' → g x (wipe σ vs) H' fun σ2 H2 => wipe σ2 vs = wipe σ vs ∧ tt σ2 H2 fun b H3 =>
    if b = true then te σ2 H3 fun y H4 => ∃ acc, H4 D = some (.lst acc) ∧ acc.length < sizeLine ∧ Nx (upd H4 D (.lst (acc ++ [y]))) else Nx H3)) : tLc wi g tt te vs σ H Q := h
end
/-! ### slices, defs that are not called, windows -/
section
variable {K : PySem.W.Frag} {te : TE} {tl th : TO} {σ : St} {H : Hp} {Q : VK} {v : V}
theorem x_sl {r : V → Option Int → Option Int → Hp → VK → Prop} (h : te σ H fun x H1 => tl σ H1 fun l H2 => th σ H2 fun u H3 => r x l u H3 Q) : tSl r te tl th σ H Q := h
theorem x_nopart {Qo : Option Int → Hp → Prop} (h : Qo none H) : tNoPart σ H Qo := h
theorem x_part {Qo : Option Int → Hp → Prop} (h : te σ H fun x H1 => ∃ i, x = .int i ∧ Qo (some i) H1) : tPart te σ H Qo := h
theorem x_isI {i : Int} {P : Int → Prop} (h : P i) : ∃ j, V.int i = .int j ∧ P j := ⟨i, rfl, h⟩
theorem al_slL {a : Addr} {xs : List V} {lo hi : Option Int} (e : SqL K H a xs) (h : ∀ p H', H p = none → Same H H' → H' p = some (.lst (cutV xs lo hi)) → Q (.ref p) H') : rSlL K (.ref a) lo hi H Q := ⟨a, xs, rfl, e, fun p n => h p _ n (same_new (Same.refl H) n) upd_same⟩
theorem cutV_from {xs : List V} {i : Nat} : cutV xs (some (i : Int)) none = xs.drop i := by
  unfold cutV HT.sIx
  have h : ¬ ((i : Int) < 0) := by omega
  simp only [if_neg h, Int.toNat_natCast]
  by_cases c : i ≤ xs.length
  · rw [Nat.min_eq_left c, List.take_of_length_le]
    rw [List.length_drop]; exact Nat.le_refl _
  · have c' : xs.length ≤ i := by omega
    rw [Nat.min_eq_right c', List.drop_of_length_le c', List.drop_of_length_le (Nat.le_refl _)]
    simp
theorem al_from {a : Addr} {xs : List Int} {i : Nat} {j : Int} (e : SqL K H a (xs.map V.int)) (hj : j = i) (h : ∀ p H', H p = none → Same H H' → H' p = some (.lst ((xs.drop i).map V.int)) → Q (.ref p) H') : rSlL K (.ref a) (some j) none H Q :=
  al_slL e fun p H' n s o => h p H' n s (by subst hj; rw [cutV_from] at o; rw [List.map_drop]; exact o)
end
/-- a list of windows, as data -/
def dPair (w : Int × Int) : PyData := .tuple [.int w.1, .int w.2]
def dWin (ws : List (Int × Int)) : PyData := .list (ws.map dPair)
section
variable {K : PySem.W.Frag} {H H' : Hp}
theorem win_at {v : V} {ws : List (Int × Int)} (h : Dp K H v (dWin ws)) : ∃ (a : Addr) (xs : List V), v = V.ref a ∧ SqL K H a xs ∧ xs.length = ws.length ∧ ∀ (i : Nat) (x : V), xs[i]? = some x → ∃ (w : Int × Int) (t : Addr), ws[i]? = some w ∧ x = V.ref t ∧ SqT K H t [.int w.1, .int w.2] := by
  obtain ⟨a, xs, rfl, h1, h2⟩ := dp_lst h
  refine ⟨a, xs, rfl, h1, by rw [dpAll_len h2, List.length_map], fun i x e => ?_⟩
  obtain ⟨d, e1, e2⟩ := dpAll_get h2 e
  rw [List.getElem?_map] at e1
  cases hw : ws[i]? with
  | none => rw [hw] at e1; cases e1
  | some w =>
    rw [hw] at e1
    cases e1
    obtain ⟨t, rfl, ht⟩ := dp_pair e2
    exact ⟨w, t, rfl, rfl, ht⟩
end
/-! ### list(range(..)), sorted, lists of ints as data -/
section
variable {K : PySem.W.Frag} {te ta : TE} {σ : St} {H : Hp} {Q : VK} {v : V}
def AlRg (Q : VK) (a b : Int) (H : Hp) : Prop := RgOk a b ∧ ∀ q, H q = none → Q (.ref q) (upd H q (.lst (rgV a b)))
theorem x_lstRg {tr : St → Hp → (Int → Int → Hp → Prop) → Prop} (h : tr σ H (AlRg Q)) : tLstRg tr σ H Q := h
theorem x_rg1 {R : Int → Int → Hp → Prop} (h : ta σ H fun x H1 => ∃ n, x = .int n ∧ R 0 n H1) : tRg1 ta σ H R := h
theorem al_sorted {a : Addr} {ns : List Int} (e : SqL K H a (ns.map V.int)) (h : ∀ (p : Addr) (ns' : List Int) (H' : Hp), H p = none → Same H H' → ns'.Perm ns → ns'.Pairwise (· ≤ ·) → H' p = some (.lst (ns'.map V.int)) → Q (.ref p) H') : rSortedI K [.ref a] H Q :=
  ⟨a, ns, rfl, e, fun ns' p pm pw np => h p ns' _ np (same_new (Same.refl H) np) pm pw upd_same⟩
end
theorem inV_int (i : Int) : ∀ row : List Int, inV (.int i) (row.map V.int) = decide (i ∈ row)
  | [] => rfl
  | x :: row => by
    show (eqV (.int x) (.int i) || inV (.int i) (row.map V.int)) = _
    rw [inV_int i row]
    by_cases c : i = x
    · subst c; simp [eqV]
    · have : ¬ x = i := fun e => c e.symm
      simp [eqV, this, c]
theorem flat_int : ∀ row : List Int, (row.map V.int).all flatV = true
  | [] => rfl
  | x :: row => by
    show (flatV (.int x) && (row.map V.int).all flatV) = true
    rw [flat_int row]; rfl
/-! own exceptions made without arguments, raised and caught -/
section
variable {X : Cx} {x : Str} {p pos pos' : Pos}
/-- what the top says of an own exception class without __init__ -/
structure Xc (K : PySem.W.Frag) (mg : Str → Option Value) (x : Str) : Prop where
  q : PySem.W.excIn K (He.ga K x) He.veBase "ValueError.__new__" = true
  g : mg x = some (.ref (He.ga K x))
  k : PySem.W.keepIn K (.ref (He.ga K x)) = true
  s : PySem.W.subIn K (.ref (He.ga K x)) (.type "BaseException") = some true
  t : PySem.W.typeIn K (.ref (He.ga K x)) = some (.type "type")
theorem pmk_own0 (T : Xc X.K X.mg x) (hg : Gl X x) (hdb : (x == ("__debug__" : Str)) = false := by decide) : PMk X (.Call (.Name x p) [] [] pos) (fun _ H Q => Q (.ref (He.ga X.K x)) none H) := by
  intro pins s σ H Q I h
  refine wpAny_Call_Name_kw (ld_glob I hg T.g ?_ hdb)
  refine PySem.W.callWith_K0 I.kIn T.k ?_
  show wpAny _ _ (call (.ref (He.ga X.K x)) []) _ _ _
  obtain ⟨bm, N, nm, qn, bs, hdct, sn, sub, ab, col, dd, k0, k1, k2, k3, k5, mN, hC, hN, hni, T'⟩ := exc_obj I.kIn T.q
  refine PySem.wpAny_call_exc_subT PySem.F.excBase_ValueError T' hC hN hni (fun h' e hm => ?_) (Nat.zero_le _)
  exact mk_of I hm (raises_own T.s T.t) h (I.hok.gone hm.new)
abbrev wE (E : XK) : WX := fun cls d _ H => E cls d H
def tRaise (C : Addr) (W : WX) : TS := fun _ σ H => W (.ref C) none σ H
theorem ps_raise0 {W : WX} (hc : X.calm = true) (tk : Takes X W) (T : Xc X.K X.mg x) (hg : Gl X x) (hdb : (x == ("__debug__" : Str)) = false := by decide) :
    PS X (.Raise (some (.Call (.Name x p) [] [] pos)) none pos') (tRaise (He.ga X.K x) W) := ps_raise hc tk (pmk_own0 T hg hdb)
def tTryAs (K : PySem.W.Frag) (c : Value) (i : Nat) (ts : Addr → Value → Option Addr → TS) (Wout : WX) (tb : WX → TS) : TS := fun D σ H => tb (wAs K c i ts Wout D) D σ H
end
section
variable {X : Cx} {CX : CXT} {k j : Nat} {sp : Sp} {E : St → XK} {x : Str} {p pos : Pos} {e : Expr} {es : List Expr} {t : TA}
theorem x_callS {σ : St} {H : Hp} {Q : VK} (h : t σ H fun vs H1 => sp vs H1 Q (E σ)) : tCallS sp E t σ H Q := h
theorem x_tryAs {K : PySem.W.Frag} {c : Value} {i : Nat} {ts : Addr → Value → Option Addr → TS} {Wout : WX} {tb : WX → TS} {D : Ends} {σ : St} {H : Hp} (h : tb (wAs K c i ts Wout D) D σ H) : tTryAs K c i ts Wout tb D σ H := h
end
theorem x_augS {to ti te : TE} {tget : V → V → Hp → VK → Prop} {tip : TIp} {tset : TSet} {D : Ends} {σ : St} {H : Hp} (h : to σ H fun o H1 => ti σ H1 fun i H2 => tget o i H2 fun x H3 => te σ H3 fun y H4 => tip x y H4 fun z H5 => tset o i z H5 fun H6 => D.nx σ H6) : tAugS to ti te tget tip tset D σ H := h
theorem x_aug {te : TE} {ti : TIp} {D : Ends} {σ : St} {H : Hp} {i : Nat} {v : V} (e : σ[i]? = some (some v)) (h : te σ H fun y H1 => ti v y H1 fun z H2 => D.nx (σ.set i (some z)) H2) : tAug i te ti D σ H := ⟨v, e, h⟩
theorem x_ipI {f : Int → Int → Int} {i j : Int} {H : Hp} {Q : VK} (h : Q (.int (f i j)) H) : ipI f (.int i) (.int j) H Q := ⟨i, j, rfl, rfl, h⟩
end Su
namespace Su
open PySem L2
local macro_rules | `(tactic| walk_at "side") => `(tactic| first | assumption | (show (0 : Int) < _; omega) | (show (0 : Int) ≤ _; omega) | (show (0 : Int) < _; split <;> omega) | (show _ ∨ _; omega) | (show _ ∧ _; omega) | exact ⟨by decide, by decide, by decide⟩ | exact ⟨by first | assumption | omega, by first | assumption | omega⟩)
local macro_rules | `(tactic| walk_at "xs") => `(tactic| repeat walk_at "x")
local macro_rules | `(tactic| walk_at "if") => `(tactic| first | with_reducible refine Su.x_iteD (fun c => ?_) (fun c => ?_) | with_reducible refine Su.x_iteN (fun c => ?_) (fun c => ?_) | with_reducible refine Su.x_ite (fun c => ?_) (fun c => ?_))

/-! what K says of NoOrder -/
end Su
namespace Su
open PySem L2
def top (i : Nat) : Stmt := PySem.Challenge.pw_susu_k09_orders_counted.main.body.getD i (.Pass ⟨0, 0, 0, 0⟩)
abbrev s_law_count : Stmt := top 13
abbrev s_law_draws : Stmt := top 11
abbrev s_law_wide : Stmt := top 12
abbrev s_bits : Stmt := top 7
abbrev s_has_bit : Stmt := top 5
abbrev s_with_bit : Stmt := top 6
abbrev s_ways_on : Stmt := top 8
abbrev s_count_orders : Stmt := top 9
abbrev s_law : Stmt := top 14
def dd_law_count : He.DefD := ⟨("_law_count", none), "_law_count", "_law_count", defArgs s_law_count, defBody s_law_count, defScope s_law_count, [], []⟩
def dd_law_draws : He.DefD := ⟨("_law_draws", none), "_law_draws", "_law_draws", defArgs s_law_draws, defBody s_law_draws, defScope s_law_draws, [], []⟩
def dd_law_wide : He.DefD := ⟨("_law_wide", none), "_law_wide", "_law_wide", defArgs s_law_wide, defBody s_law_wide, defScope s_law_wide, [], []⟩
def dd_bits : He.DefD := ⟨("bits", none), "bits", "bits", defArgs s_bits, defBody s_bits, defScope s_bits, [], []⟩
def dd_has_bit : He.DefD := ⟨("has_bit", none), "has_bit", "has_bit", defArgs s_has_bit, defBody s_has_bit, defScope s_has_bit, [], []⟩
def dd_with_bit : He.DefD := ⟨("with_bit", none), "with_bit", "with_bit", defArgs s_with_bit, defBody s_with_bit, defScope s_with_bit, [], []⟩
def dd_ways_on : He.DefD := ⟨("ways_on", none), "ways_on", "ways_on", defArgs s_ways_on, defBody s_ways_on, defScope s_ways_on, [], []⟩
def dd_count_orders : He.DefD := ⟨("count_orders", none), "count_orders", "count_orders", defArgs s_count_orders, defBody s_count_orders, defScope s_count_orders, [], []⟩
def dd_law : He.DefD := ⟨("law", none), "law", "law", defArgs s_law, defBody s_law, defScope s_law, [], []⟩
def fns : List He.DefD := dd_law_count :: dd_law_draws :: dd_law_wide :: dd_bits :: dd_has_bit :: dd_with_bit :: dd_ways_on :: dd_count_orders :: dd_law :: []
abbrev R : PySem.W.OpenRow := PySem.W.OpenLaw.row PySem.Challenge.rw_susu_k09_orders_counted
def fas : List He.Fa := .glo "_law_count" :: .glo "_law_draws" :: .glo "_law_wide" :: .glo "bits" :: .glo "has_bit" :: .glo "with_bit" :: .glo "ways_on" :: .glo "count_orders" :: .glo "law" :: .free "abs" :: .free "bool" :: .free "enumerate" :: .free "int" :: .free "isinstance" :: .free "len" :: .free "list" :: .free "range" :: .free "sorted" :: .free "tuple" :: .int "MOST" 8 :: .glo "TooMany" :: .exc "TooMany" :: []
abbrev hk : PySem.W.Hook := He.hookD 5 fas fns
def ob (s : PySem.W.SharedT) : He.AlD := He.obsDG 5 fas fns (HandSHeadRun.getT s)
theorem ob_eq (s : PySem.W.SharedT) : ob s = hk.obs s.abs := He.obsDG_eq (HandSHeadRun.getT_eq s)
def loose : List PySem.Str := "SusuError" :: "TooMany" :: "MOST" :: "has_bit" :: "with_bit" :: "bits" :: "ways_on" :: "count_orders" :: "_law_draws" :: "_law_wide" :: "_law_count" :: []
theorem run (w : World) : HandSHeadRun.RunEq R (PySem.W.view R.prog [14]) hk ob 4000 loose w := by
  intro os
  kernel_rfl
open PySem PySem.W PySem.Calls PyProof.Rows in
theorem hd_e : opening R.prog = plainProg R.prog.main.scope.names := by kernel_rfl
open PySem PySem.W PySem.Calls PyProof.Rows in
theorem hd_f : ∀ s, fenceModules? R.prog s = some s := fun s => by kernel_rfl
open PySem PySem.W PySem.Calls PyProof.Rows in
theorem hd_def : defOf (PySem.W.view R.prog [14]) R.name = some (HandSHeadRun.topDef R.prog 14, []) := by kernel_rfl
open PySem PySem.W PySem.Calls PyProof.Rows in
theorem hd_p : R.prog.theDef R.name = some ((HandSHeadRun.topDef R.prog 14).params, (HandSHeadRun.topDef R.prog 14).body, (HandSHeadRun.topDef R.prog 14).scope) := by kernel_rfl
open PySem PySem.W PySem.Calls PyProof.Rows in
theorem hd_k : kwWritten? (HandSHeadRun.topDef R.prog 14).params.kwonlyargs (HandSHeadRun.topDef R.prog 14).params.kw_defaults = some [] := by kernel_rfl
open PySem PySem.W PySem.Calls PyProof.Rows in
theorem hd_ok : (chainsOk (PySem.W.view R.prog [14]) && opensWell R.prog && (frees R.toRowW && R.within.isEmpty)) = true := by decide +kernel
end Su
namespace Su
open PySem L2
local macro_rules | `(tactic| walk_at "side") => `(tactic| first | assumption | (show (0 : Int) < _; omega) | (show (0 : Int) ≤ _; omega) | (show (0 : Int) < _; split <;> omega) | (show _ ∨ _; omega) | (show _ ∧ _; omega) | exact ⟨by decide, by decide, by decide⟩ | exact ⟨by first | assumption | omega, by first | assumption | omega⟩)
local macro_rules | `(tactic| walk_at "x") => `(tactic| first | with_reducible refine Su.x_seq ?_ | with_reducible refine Su.x_asg ?_ | with_reducible refine Su.x_gname ?_ | with_reducible refine Su.x_drop ?_ | with_reducible refine Su.x_ret ?_ | with_reducible refine Su.x_ifS ?_ | ((with_reducible show L2.tVar _ _ _ _); refine Su.x_var rfl ?_) | with_reducible refine Su.x_op ?_ | with_reducible refine Su.x_rI0 ?_ | with_reducible refine Su.x_rGe ?_ | with_reducible refine Su.x_iteF ?_ | with_reducible refine Su.x_test ?_ | with_reducible refine Su.x_isB' ?_ | with_reducible refine Su.x_and ?_ | with_reducible refine Su.x_nil ?_ | with_reducible refine Su.x_cons ?_ | with_reducible refine Su.x_lst ?_ | with_reducible refine Su.x_bmL ?_ | with_reducible refine Su.x_next ?_ | with_reducible refine Su.x_for ?_ | with_reducible refine Su.x_iEnum ?_ | with_reducible refine Su.x_gcons ?_ | with_reducible refine Su.x_gnil ?_)
local macro_rules | `(tactic| walk_at "xs") => `(tactic| repeat walk_at "x")
local macro_rules | `(tactic| walk_at "if") => `(tactic| first | with_reducible refine Su.x_iteD (fun c => ?_) (fun c => ?_) | with_reducible refine Su.x_iteN (fun c => ?_) (fun c => ?_) | with_reducible refine Su.x_ite (fun c => ?_) (fun c => ?_))

/-! within -/
def nI (l : List Nat) : List V := l.map fun (i : Nat) => V.int (i : Int)
end Su
namespace Su
open PySem L2
local macro_rules | `(tactic| walk_at "side") => `(tactic| first | assumption | (show (0 : Int) < _; omega) | (show (0 : Int) ≤ _; omega) | (show (0 : Int) < _; split <;> omega) | (show _ ∨ _; omega) | (show _ ∧ _; omega) | exact ⟨by decide, by decide, by decide⟩ | exact ⟨by first | assumption | omega, by first | assumption | omega⟩)
local macro_rules | `(tactic| walk_at "x") => `(tactic| first | with_reducible refine Su.x_seq ?_ | with_reducible refine Su.x_asg ?_ | with_reducible refine Su.x_gname ?_ | with_reducible refine Su.x_drop ?_ | with_reducible refine Su.x_ret ?_ | with_reducible refine Su.x_ifS ?_ | ((with_reducible show L2.tVar _ _ _ _); refine Su.x_var rfl ?_) | with_reducible refine Su.x_c ?_ | with_reducible refine Su.x_op ?_ | with_reducible refine Su.x_rI0 ?_ | ((with_reducible refine Su.x_rI ?_ ?_); focus walk_at "side") | with_reducible refine Su.x_rGt ?_ | with_reducible refine Su.x_iteF ?_ | with_reducible refine Su.x_test ?_ | with_reducible refine Su.x_isB' ?_ | with_reducible refine Su.x_and ?_ | with_reducible refine Su.x_nil ?_ | with_reducible refine Su.x_cons ?_ | with_reducible refine Su.x_cb ?_ | with_reducible refine Su.x_min2 ?_ | with_reducible refine Su.x_lst ?_ | with_reducible refine Su.x_tup ?_ | with_reducible refine Su.x_bmL ?_ | with_reducible refine Su.x_next ?_ | with_reducible refine Su.x_for ?_ | with_reducible refine Su.x_iRng1 ?_)
local macro_rules | `(tactic| walk_at "xs") => `(tactic| repeat walk_at "x")
local macro_rules | `(tactic| walk_at "if") => `(tactic| first | with_reducible refine Su.x_iteD (fun c => ?_) (fun c => ?_) | with_reducible refine Su.x_iteN (fun c => ?_) (fun c => ?_) | with_reducible refine Su.x_ite (fun c => ?_) (fun c => ?_))

/-! _law_windows -/
/-- each first and last from 1 to the number -/
def WinOk (n : Nat) (ws : List (Int × Int)) : Prop := ∀ w ∈ ws, 1 ≤ w.1 ∧ w.1 ≤ n ∧ 1 ≤ w.2 ∧ w.2 ≤ n
end Su
namespace Su
open PySem L2
local macro_rules | `(tactic| walk_at "side") => `(tactic| first | assumption | (show (0 : Int) < _; omega) | (show (0 : Int) ≤ _; omega) | (show (0 : Int) < _; split <;> omega) | (show _ ∨ _; omega) | (show _ ∧ _; omega) | exact ⟨by decide, by decide, by decide⟩ | exact ⟨by first | assumption | omega, by first | assumption | omega⟩)
local macro_rules | `(tactic| walk_at "xs") => `(tactic| repeat walk_at "x")
local macro_rules | `(tactic| walk_at "if") => `(tactic| first | with_reducible refine Su.x_iteD (fun c => ?_) (fun c => ?_) | with_reducible refine Su.x_iteN (fun c => ?_) (fun c => ?_) | with_reducible refine Su.x_ite (fun c => ?_) (fun c => ?_))

/-! windows, orders, bars: the mathematics -/
theorem nodup_sub : ∀ {l m : List Nat}, l.Nodup → (∀ x ∈ l, x ∈ m) → l.length ≤ m.length
  | [], _, _, _ => Nat.zero_le _
  | x :: l, m, h, s => by
    have hx := s x (List.mem_cons_self ..)
    have h1 : x ∉ l := (List.nodup_cons.mp h).1
    have h2 := nodup_sub (l := l) (m := m.erase x) (List.nodup_cons.mp h).2 fun y hy => by
      have : y ≠ x := fun e => h1 (e ▸ hy)
      exact (List.mem_erase_of_ne this).mpr (s y (List.mem_cons_of_mem _ hy))
    rw [List.length_erase_of_mem hx] at h2
    have : 0 < m.length := List.length_pos_of_mem hx
    simp only [List.length_cons]
    omega
theorem nodup_all {row : List Nat} {n : Nat} (h : row.Nodup) (hl : row.length = n) (hb : ∀ x ∈ row, x < n) {c : Nat} (hc : c < n) : c ∈ row := by
  by_cases e : c ∈ row
  · exact e
  · exfalso
    have h1 : (c :: row).Nodup := List.nodup_cons.mpr ⟨e, h⟩
    have h2 := nodup_sub (m := List.range n) h1 fun x hx => by
      rcases List.mem_cons.mp hx with r | r
      · exact r ▸ List.mem_range.mpr hc
      · exact List.mem_range.mpr (hb x r)
    simp only [List.length_cons, List.length_range] at h2
    omega
def w1 (ws : List (Int × Int)) (i : Nat) : Int := (ws.getD i (0, 0)).1
def w2 (ws : List (Int × Int)) (i : Nat) : Int := (ws.getD i (0, 0)).2
/-- an order of the windows -/
structure IsOrder (ws : List (Int × Int)) (row : List Nat) : Prop where
  len : row.length = ws.length
  nd : row.Nodup
  lt : ∀ x ∈ row, x < ws.length
  fit : ∀ k (h : k < row.length), w1 ws row[k] ≤ (k : Int) + 1 ∧ (k : Int) + 1 ≤ w2 ws row[k]
/-! ### the greedy way -/
end Su
namespace Su
open PySem L2
local macro_rules | `(tactic| walk_at "side") => `(tactic| first | assumption | (show (0 : Int) < _; omega) | (show (0 : Int) ≤ _; omega) | (show (0 : Int) < _; split <;> omega) | (show _ ∨ _; omega) | (show _ ∧ _; omega) | exact ⟨by decide, by decide, by decide⟩ | exact ⟨by first | assumption | omega, by first | assumption | omega⟩)
local macro_rules | `(tactic| walk_at "x") => `(tactic| first | with_reducible refine Su.x_seq ?_ | with_reducible refine Su.x_gname ?_ | with_reducible refine Su.x_ret ?_ | with_reducible refine Su.x_ifS ?_ | ((with_reducible show L2.tVar _ _ _ _); refine Su.x_var rfl ?_) | with_reducible refine Su.x_c ?_ | with_reducible refine Su.x_op ?_ | with_reducible refine Su.x_iteT ?_ | with_reducible refine Su.x_eqI ?_ | with_reducible refine Su.x_eqB ?_ | with_reducible refine Su.x_neB ?_ | with_reducible refine Su.x_test ?_ | with_reducible refine Su.x_tB ?_ | with_reducible refine Su.x_isB' ?_ | with_reducible refine Su.x_not ?_ | with_reducible refine Su.x_and ?_ | with_reducible refine Su.x_or ?_ | with_reducible refine Su.x_andV ?_ | with_reducible refine Su.x_nil ?_ | with_reducible refine Su.x_cons ?_ | with_reducible refine Su.x_cb ?_ | with_reducible refine Su.x_call ?_ | with_reducible refine Su.x_next ?_ | with_reducible refine Su.x_iZipA ?_ | with_reducible refine Su.x_gcons ?_ | with_reducible refine Su.x_gnil ?_ | with_reducible refine Su.x_yes ?_ | with_reducible refine Su.x_lc ?_)
local macro_rules | `(tactic| walk_at "xs") => `(tactic| repeat walk_at "x")
local macro_rules | `(tactic| walk_at "if") => `(tactic| first | with_reducible refine Su.x_iteD (fun c => ?_) (fun c => ?_) | with_reducible refine Su.x_iteN (fun c => ?_) (fun c => ?_) | with_reducible refine Su.x_ite (fun c => ?_) (fun c => ?_))

/-! _law_same: two data alike -/
mutual
def okD : PyData → Bool
  | .none => true
  | .bool _ => true
  | .int _ => true
  | .str x => PyData.strOk x
  | .list xs => decide (xs.length ≤ 1000) && okL xs
  | .tuple xs => decide (xs.length ≤ 1000) && okL xs
  | .dict _ => false
def okL : List PyData → Bool
  | [] => true
  | x :: xs => okD x && okL xs
end
section
variable {K : PySem.W.Frag} {H : Hp} {Q : VK} {x : V} {d : PyData}
end
end Su
namespace Su
open PySem L2
local macro_rules | `(tactic| walk_at "side") => `(tactic| first | assumption | (show (0 : Int) < _; omega) | (show (0 : Int) ≤ _; omega) | (show (0 : Int) < _; split <;> omega) | (show _ ∨ _; omega) | (show _ ∧ _; omega) | exact ⟨by decide, by decide, by decide⟩ | exact ⟨by first | assumption | omega, by first | assumption | omega⟩)
local macro_rules | `(tactic| walk_at "xs") => `(tactic| repeat walk_at "x")
local macro_rules | `(tactic| walk_at "if") => `(tactic| first | with_reducible refine Su.x_iteD (fun c => ?_) (fun c => ?_) | with_reducible refine Su.x_iteN (fun c => ?_) (fun c => ?_) | with_reducible refine Su.x_ite (fun c => ?_) (fun c => ?_))

/-! windows by index, lists of numbers as data -/
section
variable {K : PySem.W.Frag} {H : Hp} {Q : VK} {a t p : Addr} {i : Int} {v w : V} {r : List V}
end
end Su
namespace Su
open PySem L2
local macro_rules | `(tactic| walk_at "side") => `(tactic| first | assumption | (show (0 : Int) < _; omega) | (show (0 : Int) ≤ _; omega) | (show (0 : Int) < _; split <;> omega) | (show _ ∨ _; omega) | (show _ ∧ _; omega) | exact ⟨by decide, by decide, by decide⟩ | exact ⟨by first | assumption | omega, by first | assumption | omega⟩)
local macro_rules | `(tactic| walk_at "xs") => `(tactic| repeat walk_at "x")
local macro_rules | `(tactic| walk_at "if") => `(tactic| first | with_reducible refine Su.x_iteD (fun c => ?_) (fun c => ?_) | with_reducible refine Su.x_iteN (fun c => ?_) (fun c => ?_) | with_reducible refine Su.x_ite (fun c => ?_) (fun c => ?_))

/-! what walks over windows share -/
section
variable {K : PySem.W.Frag} {H : Hp} {Q : VK} {p : Addr} {i : Nat} {row : List Nat}
end
end Su
namespace Su
open PySem L2
local macro_rules | `(tactic| walk_at "side") => `(tactic| first | assumption | (show (0 : Int) < _; omega) | (show (0 : Int) ≤ _; omega) | (show (0 : Int) < _; split <;> omega) | (show _ ∨ _; omega) | (show _ ∧ _; omega) | exact ⟨by decide, by decide, by decide⟩ | exact ⟨by first | assumption | omega, by first | assumption | omega⟩)
local macro_rules | `(tactic| walk_at "xs") => `(tactic| repeat walk_at "x")
local macro_rules | `(tactic| walk_at "if") => `(tactic| first | with_reducible refine Su.x_iteD (fun c => ?_) (fun c => ?_) | with_reducible refine Su.x_iteN (fun c => ?_) (fun c => ?_) | with_reducible refine Su.x_ite (fun c => ?_) (fun c => ?_))

/-! texts by their signs -/
section
variable {K : PySem.W.Frag} {σ : St} {H : Hp} {Q : VK} {to te : TE} {p : Addr}
theorem x_m1 {r : V → List V → Hp → VK → Prop} (h : to σ H fun x H1 => (∃ a, x = .str a) ∧ te σ H1 fun y H2 => r x [y] H2 Q) : tM1 r to te σ H Q := h
theorem x_strE {a : Str} {P : Prop} (h : P) : (∃ b, V.str a = .str b) ∧ P := ⟨⟨a, rfl⟩, h⟩
end
theorem nodup_subG {α : Type} [DecidableEq α] : ∀ {l m : List α}, l.Nodup → (∀ x ∈ l, x ∈ m) → l.length ≤ m.length
  | [], m, _, _ => Nat.zero_le _
  | x :: l, m, h, k => by
    have hx := k x List.mem_cons_self
    have h1 := List.nodup_cons.mp h
    have := nodup_subG (l := l) (m := m.erase x) h1.2 fun y hy => (List.mem_erase_of_ne (fun (e : y = x) => h1.1 (e ▸ hy))).mpr (k y (List.mem_cons_of_mem _ hy))
    rw [List.length_erase_of_mem hx] at this
    have := List.length_pos_of_mem hx
    rw [List.length_cons]; omega

end Su
namespace Su
open PySem L2
local macro_rules | `(tactic| walk_at "side") => `(tactic| first | assumption | (show (0 : Int) < _; omega) | (show (0 : Int) ≤ _; omega) | (show (0 : Int) < _; split <;> omega) | (show _ ∨ _; omega) | (show _ ∧ _; omega) | exact ⟨by decide, by decide, by decide⟩ | exact ⟨by first | assumption | omega, by first | assumption | omega⟩)
local macro_rules | `(tactic| walk_at "xs") => `(tactic| repeat walk_at "x")
local macro_rules | `(tactic| walk_at "if") => `(tactic| first | with_reducible refine Su.x_iteD (fun c => ?_) (fun c => ?_) | with_reducible refine Su.x_iteN (fun c => ?_) (fun c => ?_) | with_reducible refine Su.x_ite (fun c => ?_) (fun c => ?_))

/-! lists by names -/
section
variable {α β : Type}
def lookN (l : List (List Nat × α)) (w : List Nat) : Option α := (l.find? fun p => decide (p.1 = w)).map (·.2)
def putN (l : List (List Nat × α)) (w : List Nat) (a : α) : List (List Nat × α) :=
  if (l.any fun p => decide (p.1 = w)) = true then l.map (fun p => if p.1 = w then (p.1, a) else p) else l ++ [(w, a)]
def mapN (f : α → β) (l : List (List Nat × α)) : List (List Nat × β) := l.map fun p => (p.1, f p.2)
abbrev keysN (l : List (List Nat × α)) : List (List Nat) := l.map (·.1)
theorem lookN_cons (p : List Nat × α) (l : List (List Nat × α)) (w : List Nat) : lookN (p :: l) w = if p.1 = w then some p.2 else lookN l w := by
  unfold lookN
  rw [List.find?_cons]
  by_cases c : p.1 = w <;> simp [c]
theorem lookN_none {l : List (List Nat × α)} {w : List Nat} : lookN l w = none ↔ w ∉ keysN l := by
  induction l with
  | nil => simp [lookN]
  | cons p l ih =>
    rw [lookN_cons]
    by_cases c : p.1 = w
    · simp [c]
    · rw [if_neg c, ih]
      have : ¬ w = p.1 := fun e => c e.symm
      simp [this]
theorem anyN {l : List (List Nat × α)} {w : List Nat} : (l.any fun p => decide (p.1 = w)) = decide (w ∈ keysN l) := by
  induction l with
  | nil => rfl
  | cons p l ih =>
    rw [List.any_cons, ih]
    by_cases c : p.1 = w
    · simp [c]
    · have : ¬ w = p.1 := fun e => c e.symm
      simp [c, this]
theorem lookN_put (l : List (List Nat × α)) (w u : List Nat) (a : α) : lookN (putN l w a) u = if u = w then some a else lookN l u := by
  unfold putN
  rw [anyN]
  by_cases c : w ∈ keysN l
  · rw [if_pos (decide_eq_true c)]
    have gen : ∀ l : List (List Nat × α), lookN (l.map fun p => if p.1 = w then (p.1, a) else p) u = if u = w then (lookN l u).map (fun _ => a) else lookN l u := by
      intro l
      induction l with
      | nil => simp [lookN]
      | cons p l ih =>
        rw [List.map_cons, lookN_cons, ih, lookN_cons]
        by_cases e : p.1 = w
        · rw [if_pos e]
          by_cases d : u = w
          · subst d; simp [e]
          · have : ¬ p.1 = u := fun z => d (z.symm.trans e)
            simp [this, d]
        · rw [if_neg e]
          by_cases d : u = w
          · subst d; simp [e]
          · simp [d]
    rw [gen]
    by_cases d : u = w
    · subst d
      rw [if_pos rfl, if_pos rfl]
      cases h : lookN l u with
      | none => exact absurd c (lookN_none.mp h)
      | some _ => rfl
    · rw [if_neg d, if_neg d]
  · rw [if_neg (by rw [decide_eq_false c]; decide)]
    have gen : ∀ l : List (List Nat × α), w ∉ keysN l → lookN (l ++ [(w, a)]) u = if u = w then some a else lookN l u := by
      intro l
      induction l with
      | nil =>
        intro _
        rw [List.nil_append, lookN_cons]
        by_cases d : u = w
        · subst d; simp
        · have : ¬ w = u := fun z => d z.symm
          simp [d, this]
      | cons p l ih =>
        intro h
        rw [List.cons_append, lookN_cons, lookN_cons]
        simp only [List.map_cons, List.mem_cons, not_or] at h
        rw [ih h.2]
        by_cases d : u = w
        · subst d
          have : ¬ p.1 = u := fun z => h.1 z.symm
          simp [this]
        · simp [d]
    exact gen l c
theorem keysN_put (l : List (List Nat × α)) (w : List Nat) (a : α) : keysN (putN l w a) = if w ∈ keysN l then keysN l else keysN l ++ [w] := by
  unfold putN
  rw [anyN]
  by_cases c : w ∈ keysN l
  · rw [if_pos (decide_eq_true c), if_pos c]
    unfold keysN
    rw [List.map_map]
    apply List.map_congr_left
    intro p _
    by_cases e : p.1 = w <;> simp [e]
  · rw [if_neg (by rw [decide_eq_false c]; decide), if_neg c]
    simp
end
/-! lists that grow strictly -/
/-! nets of debts -/
end Su
namespace Su
open PySem L2
local macro_rules | `(tactic| walk_at "side") => `(tactic| first | assumption | (show (0 : Int) < _; omega) | (show (0 : Int) ≤ _; omega) | (show (0 : Int) < _; split <;> omega) | (show _ ∨ _; omega) | (show _ ∧ _; omega) | exact ⟨by decide, by decide, by decide⟩ | exact ⟨by first | assumption | omega, by first | assumption | omega⟩)
local macro_rules | `(tactic| walk_at "xs") => `(tactic| repeat walk_at "x")
local macro_rules | `(tactic| walk_at "if") => `(tactic| first | with_reducible refine Su.x_iteD (fun c => ?_) (fun c => ?_) | with_reducible refine Su.x_iteN (fun c => ?_) (fun c => ?_) | with_reducible refine Su.x_ite (fun c => ?_) (fun c => ?_))

/-! dicts by names; the heap without some places -/
section
variable {K : PySem.W.Frag} {σ : St} {H H' : Hp} {Q : VK} {D : Ends} {td ty tv tx : TE} {a : Addr}
def AlD (Q : VK) (H : Hp) : Prop := ∀ p, H p = none → Q (.ref p) (upd H p (.dK []))
theorem x_dnew (h : AlD Q H) : tDNewK σ H Q := h
theorem x_dput (h : tv σ H fun v H1 => td σ H1 fun x H2 => ty σ H2 fun y H3 => ∃ a H4, x = .ref a ∧ DPut H3 a y v H4 ∧ D.nx σ H4) : sDPut td ty tv D σ H := h
theorem x_dgetE (h : td σ H fun x H1 => ty σ H1 fun y H2 => ∃ a v, x = .ref a ∧ DGet H2 a y (some v) ∧ Q v H2) : tDGet td ty σ H Q := h
theorem x_dget2 (h : td σ H fun x H1 => ∃ a, x = .ref a ∧ IsD H1 a ∧ ty σ H1 fun y H2 => tx σ H2 fun z H3 => ∃ o, DGet H3 a y o ∧ Q (o.getD z) H3) : tDGet2 td ty tx σ H Q := h
theorem x_din (h : ty σ H fun y H1 => td σ H1 fun x H2 => ∃ a o, x = .ref a ∧ DGet H2 a y o ∧ Q (.bl o.isSome) H2) : tDIn ty td σ H Q := h
theorem x_dnin (h : ty σ H fun y H1 => td σ H1 fun x H2 => ∃ a o, x = .ref a ∧ DGet H2 a y o ∧ Q (.bl (!o.isSome)) H2) : tDNotIn ty td σ H Q := h
end
/-! the heap without some places -/
def hide (A : List Addr) (H : Hp) : Hp := fun b => if b ∈ A then none else H b
section
variable {H H' : Hp} {A : List Addr} {a b : Addr} {o : HO}
theorem hide_in (h : a ∈ A) : hide A H a = none := by unfold hide; rw [if_pos h]
theorem hide_out (h : a ∉ A) : hide A H a = H a := by unfold hide; rw [if_neg h]
theorem hide_same : Same (hide A H) H := fun b o e => by
  by_cases c : b ∈ A
  · rw [hide_in c] at e; cases e
  · rw [hide_out c] at e; exact e
theorem hide_mono (e : Same H H') : Same (hide A H) (hide A H') := fun b o h => by
  by_cases c : b ∈ A
  · rw [hide_in c] at h; cases h
  · rw [hide_out c] at h ⊢; exact e b o h
end
/-! nets and transfers as data -/
section
variable {K : PySem.W.Frag} {H : Hp} {v : V}
end
end Su
namespace Su
open PySem L2
local macro_rules | `(tactic| walk_at "side") => `(tactic| first | assumption | (show (0 : Int) < _; omega) | (show (0 : Int) ≤ _; omega) | (show (0 : Int) < _; split <;> omega) | (show _ ∨ _; omega) | (show _ ∧ _; omega) | exact ⟨by decide, by decide, by decide⟩ | exact ⟨by first | assumption | omega, by first | assumption | omega⟩)
local macro_rules | `(tactic| walk_at "xs") => `(tactic| repeat walk_at "x")
local macro_rules | `(tactic| walk_at "if") => `(tactic| first | with_reducible refine Su.x_iteD (fun c => ?_) (fun c => ?_) | with_reducible refine Su.x_iteN (fun c => ?_) (fun c => ?_) | with_reducible refine Su.x_ite (fun c => ?_) (fun c => ?_))

/-! transfers: the plain law -/
end Su
namespace Su
open PySem L2
local macro_rules | `(tactic| walk_at "side") => `(tactic| first | assumption | (show (0 : Int) < _; omega) | (show (0 : Int) ≤ _; omega) | (show (0 : Int) < _; split <;> omega) | (show _ ∨ _; omega) | (show _ ∧ _; omega) | exact ⟨by decide, by decide, by decide⟩ | exact ⟨by first | assumption | omega, by first | assumption | omega⟩)
local macro_rules | `(tactic| walk_at "xs") => `(tactic| repeat walk_at "x")
local macro_rules | `(tactic| walk_at "if") => `(tactic| first | with_reducible refine Su.x_iteD (fun c => ?_) (fun c => ?_) | with_reducible refine Su.x_iteN (fun c => ?_) (fun c => ?_) | with_reducible refine Su.x_ite (fun c => ?_) (fun c => ?_))

/-! good data: may be compared, are like themselves -/
mutual
theorem okD_lay : ∀ d : PyData, okD d = true → PyData.canLay0 d = true
  | .none, _ => rfl
  | .bool _, _ => rfl
  | .int _, _ => rfl
  | .str _, h => h
  | .list xs, h => by
    simp only [okD, Bool.and_eq_true] at h
    show PyData.canLayAll0 xs = true
    exact okL_lay xs h.2
  | .tuple xs, h => by
    simp only [okD, Bool.and_eq_true] at h
    show PyData.canLayAll0 xs = true
    exact okL_lay xs h.2
  | .dict _, h => by simp [okD] at h
theorem okL_lay : ∀ ds : List PyData, okL ds = true → PyData.canLayAll0 ds = true
  | [], _ => rfl
  | d :: ds, h => by
    simp only [okL, Bool.and_eq_true] at h
    show (PyData.canLay0 d && PyData.canLayAll0 ds) = true
    rw [okD_lay d h.1, okL_lay ds h.2]; rfl
end
mutual
theorem eqv_self : ∀ d : PyData, okD d = true → PyData.eqv d d = true
  | .none, _ => rfl
  | .bool b, _ => by simp [PyData.eqv]
  | .int b, _ => by simp [PyData.eqv]
  | .str b, _ => by simp [PyData.eqv]
  | .list xs, h => by
    simp only [okD, Bool.and_eq_true] at h
    show PyData.eqvAll xs xs = true
    exact eqvAll_self xs h.2
  | .tuple xs, h => by
    simp only [okD, Bool.and_eq_true] at h
    show PyData.eqvAll xs xs = true
    exact eqvAll_self xs h.2
  | .dict _, h => by simp [okD] at h
theorem eqvAll_self : ∀ ds : List PyData, okL ds = true → PyData.eqvAll ds ds = true
  | [], _ => rfl
  | d :: ds, h => by
    simp only [okL, Bool.and_eq_true] at h
    show (PyData.eqv d d && PyData.eqvAll ds ds) = true
    rw [eqv_self d h.1, eqvAll_self ds h.2]; rfl
end
structure GoodD (n : Nat) (d : PyData) : Prop where
  ok : okD d = true
  dep : d.depth ≤ n
theorem okL_all {ds : List PyData} (h : ∀ d ∈ ds, okD d = true) : okL ds = true := by
  induction ds with
  | nil => rfl
  | cons d ds ih =>
    simp only [okL, Bool.and_eq_true]
    exact ⟨h d List.mem_cons_self, ih fun x hx => h x (List.mem_cons_of_mem _ hx)⟩
theorem dep_all {ds : List PyData} {n : Nat} (h : ∀ d ∈ ds, d.depth ≤ n) : PyData.depthAll ds ≤ n := by
  induction ds with
  | nil => exact Nat.zero_le _
  | cons d ds ih =>
    show max d.depth (PyData.depthAll ds) ≤ n
    exact Nat.max_le.mpr ⟨h d List.mem_cons_self, ih fun x hx => h x (List.mem_cons_of_mem _ hx)⟩
theorem GoodD.lst {ds : List PyData} {n : Nat} (hl : ds.length ≤ 1000) (h : ∀ d ∈ ds, GoodD n d) : GoodD (n + 1) (.list ds) := by
  refine ⟨?_, ?_⟩
  · simp only [okD, Bool.and_eq_true, decide_eq_true_eq]
    exact ⟨hl, okL_all fun d hd => (h d hd).ok⟩
  · show PyData.depthAll ds + 1 ≤ n + 1
    have := dep_all fun d hd => (h d hd).dep
    omega
theorem GoodD.tup {ds : List PyData} {n : Nat} (hl : ds.length ≤ 1000) (h : ∀ d ∈ ds, GoodD n d) : GoodD (n + 1) (.tuple ds) := by
  refine ⟨?_, ?_⟩
  · simp only [okD, Bool.and_eq_true, decide_eq_true_eq]
    exact ⟨hl, okL_all fun d hd => (h d hd).ok⟩
  · show PyData.depthAll ds + 1 ≤ n + 1
    have := dep_all fun d hd => (h d hd).dep
    omega
theorem GoodD.int (n : Nat) (i : Int) : GoodD n (.int i) := ⟨rfl, Nat.zero_le _⟩
theorem GoodD.bool (n : Nat) (i : Bool) : GoodD n (.bool i) := ⟨rfl, Nat.zero_le _⟩
theorem GoodD.non (n : Nat) : GoodD n .none := ⟨rfl, Nat.zero_le _⟩
theorem strOk_of {w : List Nat} (h : ∀ c ∈ w, c < 256) : PyData.strOk (SX.S w) = true := by
  unfold PyData.strOk
  rw [← Array.all_toList, List.all_eq_true]
  intro c hc
  have := h c hc
  simp; omega
theorem GoodD.str (n : Nat) {w : List Nat} (h : ∀ c ∈ w, c < 256) : GoodD n (.str (SX.S w)) := ⟨strOk_of h, Nat.zero_le _⟩
theorem GoodD.shaped {n : Nat} {d : PyData} (h : GoodD n d) (hn : n ≤ 64) : SeqAt.shaped d = true := by
  unfold SeqAt.shaped
  rw [okD_lay d h.ok, decide_eq_true (Nat.le_trans h.dep hn)]; rfl
section
variable {K : PySem.W.Frag} {H : Hp} {Q : VK} {x y : V} {d : PyData} {n : Nat}
theorem x_neSelf (g : GoodD n d) (hn : n ≤ 64) (hx : Dp K H x d) (hy : Dp K H y d) (h : Q (.bl false) H) : rNeD K x y H Q := ⟨d, d, hx, hy, g.shaped hn, g.shaped hn, by rw [eqv_self d g.ok]; exact h⟩
end
theorem good_map {α : Type} {n : Nat} {f : α → PyData} {l : List α} (hl : l.length ≤ 1000) (h : ∀ x ∈ l, GoodD n (f x)) : GoodD (n + 1) (.list (l.map f)) := .lst (by rw [List.length_map]; exact hl) fun d hd => by
  obtain ⟨x, hx, rfl⟩ := List.mem_map.mp hd
  exact h x hx
/-! numbers of the places where something holds -/
end Su
namespace Su
open PySem L2
local macro_rules | `(tactic| walk_at "side") => `(tactic| first | assumption | (show (0 : Int) < _; omega) | (show (0 : Int) ≤ _; omega) | (show (0 : Int) < _; split <;> omega) | (show _ ∨ _; omega) | (show _ ∧ _; omega) | exact ⟨by decide, by decide, by decide⟩ | exact ⟨by first | assumption | omega, by first | assumption | omega⟩)
local macro_rules | `(tactic| walk_at "xs") => `(tactic| repeat walk_at "x")
local macro_rules | `(tactic| walk_at "if") => `(tactic| first | with_reducible refine Su.x_iteD (fun c => ?_) (fun c => ?_) | with_reducible refine Su.x_iteN (fun c => ?_) (fun c => ?_) | with_reducible refine Su.x_ite (fun c => ?_) (fun c => ?_))

/-! facts of an earlier heap, found by search -/
section
variable {K : PySem.W.Frag} {H H' : Hp} {a : Addr} {o : HO} {xs : List V} {v : V} {d : PyData} {vs : List V} {ds : List PyData}
theorem f_at (s : Same H H') (h : H a = some o) : H' a = some o := s _ _ h
theorem f_sqL (h : H a = some (.lst xs)) : SqL K H a xs := SqL.of h
theorem f_sqT (h : H a = some (.tup xs)) : SqT K H a xs := SqT.of h
theorem f_sqLs (s : Same H H') (h : SqL K H a xs) : SqL K H' a xs := s.seq h
theorem f_sqTs (s : Same H H') (h : SqT K H a xs) : SqT K H' a xs := seqT_same s h
theorem f_dp (s : Same H H') (h : Dp K H v d) : Dp K H' v d := dp_same s h
theorem f_dpA (s : Same H H') (h : DpAll K H vs ds) : DpAll K H' vs ds := dpAll_same s h
theorem f_tr {H1 H2 H3 : Hp} (s : Same H2 H3) (t : Same H1 H2) : Same H1 H3 := t.trans s
theorem f_free (s : Same H H') (n : H' a = none) : H a = none := s.free n
end

end Su
namespace Su
open PySem L2
local macro_rules | `(tactic| walk_at "side") => `(tactic| first | assumption | (show (0 : Int) < _; omega) | (show (0 : Int) ≤ _; omega) | (show (0 : Int) < _; split <;> omega) | (show _ ∨ _; omega) | (show _ ∧ _; omega) | exact ⟨by decide, by decide, by decide⟩ | exact ⟨by first | assumption | omega, by first | assumption | omega⟩)
local macro_rules | `(tactic| walk_at "xs") => `(tactic| repeat walk_at "x")
local macro_rules | `(tactic| walk_at "if") => `(tactic| first | with_reducible refine Su.x_iteD (fun c => ?_) (fun c => ?_) | with_reducible refine Su.x_iteN (fun c => ?_) (fun c => ?_) | with_reducible refine Su.x_ite (fun c => ?_) (fun c => ?_))

/-! classes: methods and makers that may be called -/
section
variable {X : Cx} {CX : CXT} {k j : Nat} {C : Addr} {m x : Str} {sp : Sp} {dvs : List V} {E : XK} {EW : St → XK} {p pos apos : Pos} {e o : Expr} {es : List Expr} {ta : TE} {t : TA}
end
/-! ### what a class has not -/
def NoAll (K : PySem.W.Frag) (C : Addr) : List Str → Prop
  | [] => True
  | f :: r => NoAttr K C f ∧ NoAll K C r
theorem NoAll.get {K : PySem.W.Frag} {C : Addr} {f : Str} : ∀ {fs : List Str}, NoAll K C fs → f ∈ fs → NoAttr K C f
  | [], _, h => nomatch h
  | g :: r, n, h => by
    rcases List.mem_cons.mp h with e | h
    · rw [e]; exact n.1
    · exact n.2.get h
structure ClsT (K : PySem.W.Frag) (x : Str) (fs : List Str) : Prop where
  cl : Cls K (He.ga K x)
  no : NoAll K (He.ga K x) fs
/-! ### readings -/
section
variable {K : PySem.W.Frag} {σ : St} {H : Hp} {Q : VK} {D : Ends} {ta tv : TE} {f m : Str} {C a : Addr} {sp : Sp} {dvs : List V} {E : XK} {EW : St → XK} {t : TA}
theorem x_fld (h : ta σ H fun x H1 => ∃ a C dx fs v, x = .ref a ∧ H1 a = some (.ins C dx fs) ∧ Cls K C ∧ NoAttr K C f ∧ fs.lookup f = some v ∧ Q v H1) : tFld K ta f σ H Q := h
theorem x_sfld (h : tv σ H fun y H1 => ta σ H1 fun x H2 => ∃ a C dx fs, x = .ref a ∧ H2 a = some (.ins C dx fs) ∧ Cls K C ∧ NoAttr K C f ∧ fs.length < 1000 ∧ D.nx σ (upd H2 a (.ins C dx (putF f y fs)))) : sFld K ta tv f D σ H := h
theorem x_sfldAug {rd : V → V → Hp → VK → Prop} (h : ta σ H fun x H1 => ∃ a C dx fs v, x = .ref a ∧ H1 a = some (.ins C dx fs) ∧ Cls K C ∧ NoAttr K C f ∧ fs.lookup f = some v ∧
  tv σ H1 fun y H2 => rd v y H2 fun z H3 => ∃ dx' fs', H3 a = some (.ins C dx' fs') ∧ fs'.length < 1000 ∧ D.nx σ (upd H3 a (.ins C dx' (putF f z fs')))) : sFldAug K ta tv rd f D σ H := h
theorem x_meth (h : ta σ H fun x H1 => ∃ a dx fs, x = .ref a ∧ H1 a = some (.ins C dx fs) ∧ fs.lookup m = none ∧ t σ H1 fun vs H2 => sp (x :: (vs ++ dvs)) H2 Q E) : tMeth C m sp dvs E ta t σ H Q := h
end
/-! ### frames: all but what stands in A is as it was -/
def Off (A : List Addr) (H H' : Hp) : Prop := ∀ b o, b ∉ A → H b = some o → H' b = some o
section
variable {A B : List Addr} {H H1 H2 : Hp} {x : Addr} {o : HO}
theorem Off.refl : Off A H H := fun _ _ _ h => h
theorem Off.of (s : Same H H1) : Off A H H1 := fun b o _ h => s b o h
theorem Off.trans (h : Off A H H1) (k : Off A H1 H2) : Off A H H2 := fun b o n e => k b o n (h b o n e)
theorem Off.mono (h : Off A H H1) (k : ∀ a ∈ A, a ∈ B) : Off B H H1 := fun b o n e => h b o (fun z => n (k b z)) e
theorem Off.upd (h : Off A H H1) (k : x ∈ A) : Off A H (L2.upd H1 x o) := fun b u n e => by rw [upd_ne (fun (z : b = x) => n (by rw [z]; exact k))]; exact h b u n e
theorem Off.hide (h : Off A H H1) : Same (hide A H) (Su.hide A H1) := fun b u e => by
  by_cases c : b ∈ A
  · rw [hide_in c] at e; cases e
  · rw [hide_out c] at e ⊢; exact h b u c e
theorem Off.same (h : Off A H H1) (n : ∀ a ∈ A, H a = none) : Same H H1 := fun b u e => h b u (fun c => by rw [n b c] at e; cases e) e
end
/-! ### cells -/
def Cells (H : Hp) (l : List (Addr × HO)) : Prop := ∀ p ∈ l, H p.1 = some p.2
section
variable {H H1 : Hp} {l m : List (Addr × HO)} {x : Addr} {o : HO}
theorem Cells.nil : Cells H [] := fun _ h => nomatch h
theorem Cells.cons (h : H x = some o) (k : Cells H l) : Cells H ((x, o) :: l) := fun p hp => by
  rcases List.mem_cons.mp hp with rfl | hp
  · exact h
  · exact k p hp
theorem Cells.app (h : Cells H l) (k : Cells H m) : Cells H (l ++ m) := fun p hp => (List.mem_append.mp hp).elim (h p) (k p)
theorem Cells.left (h : Cells H (l ++ m)) : Cells H l := fun p hp => h p (List.mem_append_left _ hp)
theorem Cells.right (h : Cells H (l ++ m)) : Cells H m := fun p hp => h p (List.mem_append_right _ hp)
theorem Cells.at_ (h : Cells H l) {j : Nat} (e : l[j]? = some (x, o)) : H x = some o := h (x, o) (List.mem_of_getElem? e)
theorem Cells.same (h : Cells H l) (s : Same H H1) : Cells H1 l := fun p hp => s _ _ (h p hp)
theorem Cells.off {A : List Addr} (h : Cells H l) (s : Off A H H1) (n : ∀ p ∈ l, p.1 ∉ A) : Cells H1 l := fun p hp => s _ _ (n p hp) (h p hp)
theorem Cells.upd (h : Cells H l) (n : x ∉ l.map (·.1)) : Cells (upd H x o) l := fun p hp => by
  rw [upd_ne (fun e => n (List.mem_map.mpr ⟨p, hp, e⟩))]; exact h p hp
theorem Cells.set (h : Cells H l) (nd : (l.map (·.1)).Nodup) {j : Nat} {u : HO} (e : l[j]? = some (x, u)) : Cells (L2.upd H x o) (l.set j (x, o)) := fun p hp => by
  have hj := (List.getElem?_eq_some_iff.mp e).1
  obtain ⟨i, hi, rfl⟩ := List.getElem_of_mem hp
  rw [List.length_set] at hi
  by_cases c : j = i
  · subst c
    rw [List.getElem_set_self]; exact upd_same
  · rw [List.getElem_set_ne c]
    have ne : (l[i]).1 ≠ x := fun z => c (by
      have h1 : (l.map (·.1))[i]'(by rw [List.length_map]; exact hi) = x := by rw [List.getElem_map]; exact z
      have h2 : (l.map (·.1))[j]'(by rw [List.length_map]; exact hj) = x := by
        rw [List.getElem_map, (List.getElem?_eq_some_iff.mp e).2]
      exact (List.getElem_inj nd).mp (h2.trans h1.symm))
    rw [upd_ne ne]
    exact h _ (List.getElem_mem _)
theorem Cells.fresh (h : Cells H l) (n : H x = none) : x ∉ l.map (·.1) := fun c => by
  obtain ⟨p, hp, rfl⟩ := List.mem_map.mp c
  rw [h p hp] at n; cases n
end

end Su
namespace Su
open PySem L2
local macro_rules | `(tactic| walk_at "side") => `(tactic| first | assumption | (show (0 : Int) < _; omega) | (show (0 : Int) ≤ _; omega) | (show (0 : Int) < _; split <;> omega) | (show _ ∨ _; omega) | (show _ ∧ _; omega) | exact ⟨by decide, by decide, by decide⟩ | exact ⟨by first | assumption | omega, by first | assumption | omega⟩)
local macro_rules | `(tactic| walk_at "xs") => `(tactic| repeat walk_at "x")
local macro_rules | `(tactic| walk_at "if") => `(tactic| first | with_reducible refine Su.x_iteD (fun c => ?_) (fun c => ?_) | with_reducible refine Su.x_iteN (fun c => ?_) (fun c => ?_) | with_reducible refine Su.x_ite (fun c => ?_) (fun c => ?_))

/-! what is new in a heap -/
def nw (H H' : Hp) : Hp := fun a => if H a = none then H' a else none
section
variable {K : PySem.W.Frag} {H H1 H' : Hp} {p R : Addr} {o : HO}
end

end Su
namespace Su
open PySem L2
local macro_rules | `(tactic| walk_at "side") => `(tactic| first | assumption | (show (0 : Int) < _; omega) | (show (0 : Int) ≤ _; omega) | (show (0 : Int) < _; split <;> omega) | (show _ ∨ _; omega) | (show _ ∧ _; omega) | exact ⟨by decide, by decide, by decide⟩ | exact ⟨by first | assumption | omega, by first | assumption | omega⟩)
local macro_rules | `(tactic| walk_at "x") => `(tactic| first
  | with_reducible refine Su.x_seq ?_ | with_reducible refine Su.x_asg ?_ | with_reducible refine Su.x_gname ?_ | with_reducible refine Su.x_drop ?_ | with_reducible refine Su.x_ret ?_ | with_reducible refine Su.x_ifS ?_
  | ((with_reducible show L2.tVar _ _ _ _); refine Su.x_var rfl ?_) | with_reducible refine Su.x_c ?_ | with_reducible refine Su.x_op ?_ | with_reducible refine Su.x_rI0 ?_ | ((with_reducible refine Su.x_rI ?_ ?_); focus walk_at "side")
  | ((with_reducible show L2.rIxL _ (L2.V.ref _) (L2.V.int _) _ _); refine Su.x_ixI (by assumption) (by first | decide | omega) (by omega) ?_) | with_reducible refine Su.x_isi_int_int ?_ | with_reducible refine Su.x_isi_int_bool ?_ | with_reducible refine Su.x_isi_int_str ?_ | with_reducible refine Su.x_isi_int_list ?_ | with_reducible refine Su.x_isi_int_tuple ?_ | with_reducible refine Su.x_isi_bool_int ?_ | with_reducible refine Su.x_isi_bool_bool ?_ | with_reducible refine Su.x_isi_bool_str ?_ | with_reducible refine Su.x_isi_bool_list ?_ | with_reducible refine Su.x_isi_bool_tuple ?_ | with_reducible refine Su.x_isi_str_int ?_ | with_reducible refine Su.x_isi_str_bool ?_ | with_reducible refine Su.x_isi_str_str ?_ | with_reducible refine Su.x_isi_str_list ?_ | with_reducible refine Su.x_isi_str_tuple ?_ | with_reducible refine Su.x_isi_NoneType_int ?_ | with_reducible refine Su.x_isi_NoneType_bool ?_ | with_reducible refine Su.x_isi_NoneType_str ?_ | with_reducible refine Su.x_isi_NoneType_list ?_ | with_reducible refine Su.x_isi_NoneType_tuple ?_ | with_reducible refine Su.x_rGt ?_ | with_reducible refine Su.x_rGe ?_ | with_reducible refine Su.x_iteF ?_ | with_reducible refine Su.x_iteT ?_ | with_reducible refine Su.x_iteNT ?_ | with_reducible refine Su.x_iteNF ?_ | with_reducible refine Su.x_eqI ?_ | with_reducible refine Su.x_neI ?_ | with_reducible refine Su.x_eqS ?_ | with_reducible refine Su.x_neS ?_ | with_reducible refine Su.x_eqB ?_ | with_reducible refine Su.x_neB ?_
  | with_reducible refine Su.x_test ?_ | with_reducible refine Su.x_tB ?_ | with_reducible refine Su.x_isB ?_ | with_reducible refine Su.x_isB' ?_ | with_reducible refine Su.x_not ?_ | with_reducible refine Su.x_and ?_ | with_reducible refine Su.x_or ?_
  | with_reducible refine Su.x_andV ?_ | with_reducible refine Su.x_orV ?_ | with_reducible refine Su.x_notV ?_ | with_reducible refine Su.x_chain ?_ | with_reducible refine Su.x_nil ?_ | with_reducible refine Su.x_cons ?_ | with_reducible refine Su.x_cb ?_ | with_reducible refine Su.x_call ?_
  | with_reducible refine Su.x_un ?_ | with_reducible refine Su.x_rU ?_ | with_reducible refine Su.x_abs ?_ | with_reducible refine Su.x_max2 ?_ | with_reducible refine Su.x_min2 ?_ | with_reducible refine Su.x_int1 ?_ | with_reducible refine Su.x_intB ?_
  | with_reducible refine Su.x_lst ?_ | with_reducible refine Su.x_tup ?_ | with_reducible refine Su.x_bmL ?_ | with_reducible refine Su.x_next ?_ | with_reducible refine Su.x_for ?_ | with_reducible refine Su.x_iList ?_ | with_reducible refine Su.x_iRng1 ?_ | with_reducible refine Su.x_iRng2 ?_ | with_reducible refine Su.x_whileN ?_ | with_reducible refine Su.x_iEnum ?_ | with_reducible refine Su.x_iZip ?_ | with_reducible refine Su.x_iZipA ?_ | with_reducible refine Su.x_iTup ?_ | with_reducible refine Su.x_gcons ?_ | with_reducible refine Su.x_gnil ?_ | with_reducible refine Su.x_gsub ?_ | with_reducible refine Su.x_yes ?_ | with_reducible refine Su.x_lc ?_ | with_reducible refine Su.x_sl ?_ | with_reducible refine Su.x_nopart ?_ | with_reducible refine Su.x_part ?_ | with_reducible refine Su.x_isI ?_ | with_reducible refine Su.x_lstRg ?_ | with_reducible refine Su.x_rg1 ?_ | with_reducible refine Su.x_augS ?_ | with_reducible refine Su.x_ipI ?_ | ((with_reducible show L2.tAug _ _ _ _ _ _); refine Su.x_aug rfl ?_) | with_reducible refine Su.x_callS ?_ | with_reducible refine Su.x_tryAs ?_)
local macro_rules | `(tactic| walk_at "xs") => `(tactic| repeat walk_at "x")
local macro_rules | `(tactic| walk_at "if") => `(tactic| first | with_reducible refine Su.x_iteD (fun c => ?_) (fun c => ?_) | with_reducible refine Su.x_iteN (fun c => ?_) (fun c => ?_) | with_reducible refine Su.x_ite (fun c => ?_) (fun c => ?_))
/-! a statement that may raise, run while a dict is walked -/
section
variable {X : Cx} {st : Stmt}
def tLockX (Wout : WX) (t : WX → TS) : TS := fun D σ H => ∃ d u, H d = some u ∧ Mut (some u) ∧ ∀ od, t (fun cls dd σ' H' => H' d = some (.frz od u) ∧ Wout cls dd σ' (upd H' d u)) ⟨fun σ' H' => H' d = some (.frz od u) ∧ D.nx σ' (upd H' d u), fun v H' => H' d = some (.frz od u) ∧ D.rt v (upd H' d u), fun σ' H' => H' d = some (.frz od u) ∧ D.bk σ' (upd H' d u), fun σ' H' => H' d = some (.frz od u) ∧ D.ct σ' (upd H' d u)⟩ σ (upd H d (.frz od u))
end
section
variable {K : PySem.W.Frag} {σ : St} {H : Hp} {Q : VK} {D : Ends} {td ty : TE}
theorem x_dpop1 (h : td σ H fun x H1 => ∃ a, x = .ref a ∧ IsD H1 a ∧ ty σ H1 fun y H2 => ∃ kvs k v, H2 a = some (.dK kvs) ∧ y = kV k ∧ valV kvs k = some v ∧ Q v (upd H2 a (.dK (dropK kvs k)))) : tDPop1 td ty σ H Q := h
theorem x_daugH {tv : TE} {rd : V → V → Hp → VK → Prop} (h : td σ H fun x H1 => ty σ H1 fun y H2 => ∃ a v, x = .ref a ∧ DGet H2 a y (some v) ∧ tv σ H2 fun y2 H3 => rd v y2 H3 fun z H4 => ∃ H5, DPut H4 a y z H5 ∧ D.nx σ H5) : sDAug td ty tv rd D σ H := h
theorem x_lock {t : TS} (h : ∃ d u, H d = some u ∧ Mut (some u) ∧ ∀ od, t ⟨fun σ' H' => H' d = some (.frz od u) ∧ D.nx σ' (upd H' d u), fun v H' => H' d = some (.frz od u) ∧ D.rt v (upd H' d u), fun σ' H' => H' d = some (.frz od u) ∧ D.bk σ' (upd H' d u), fun σ' H' => H' d = some (.frz od u) ∧ D.ct σ' (upd H' d u)⟩ σ (upd H d (.frz od u))) : tLock t D σ H := h
theorem x_lockE {t : TE} (h : ∃ d u, H d = some u ∧ Mut (some u) ∧ ∀ od, t σ (upd H d (.frz od u)) fun v H' => H' d = some (.frz od u) ∧ Q v (upd H' d u)) : tLockE t σ H Q := h
theorem x_lockX {W : WX} {t : WX → TS} (h : ∃ d u, H d = some u ∧ Mut (some u) ∧ ∀ od, t (fun cls dd σ' H' => H' d = some (.frz od u) ∧ W cls dd σ' (upd H' d u)) ⟨fun σ' H' => H' d = some (.frz od u) ∧ D.nx σ' (upd H' d u), fun v H' => H' d = some (.frz od u) ∧ D.rt v (upd H' d u), fun σ' H' => H' d = some (.frz od u) ∧ D.bk σ' (upd H' d u), fun σ' H' => H' d = some (.frz od u) ∧ D.ct σ' (upd H' d u)⟩ σ (upd H d (.frz od u))) : tLockX W t D σ H := h
theorem x_iKeys {R : It → Hp → Prop} (h : td σ H fun x H1 => ∃ d o, x = .ref d ∧ ((∃ kvs, H1 d = some (.frz o (.dK kvs)) ∧ R (Itk d o kvs) H1) ∨ ∃ kvs, H1 d = some (.frz o (.dT kvs)) ∧ R (Itkt d o kvs) H1)) : iKeys td σ H R := h
end

end Su
namespace Su
open PySem L2
local macro_rules | `(tactic| walk_at "side") => `(tactic| first | assumption | (show (0 : Int) < _; omega) | (show (0 : Int) ≤ _; omega) | (show (0 : Int) < _; split <;> omega) | (show _ ∨ _; omega) | (show _ ∧ _; omega) | exact ⟨by decide, by decide, by decide⟩ | exact ⟨by first | assumption | omega, by first | assumption | omega⟩)
local macro_rules | `(tactic| walk_at "x") => `(tactic| first
  | with_reducible refine Su.x_seq ?_ | with_reducible refine Su.x_asg ?_ | with_reducible refine Su.x_gname ?_ | with_reducible refine Su.x_drop ?_ | with_reducible refine Su.x_ret ?_ | with_reducible refine Su.x_ifS ?_
  | ((with_reducible show L2.tVar _ _ _ _); refine Su.x_var rfl ?_) | with_reducible refine Su.x_c ?_ | with_reducible refine Su.x_op ?_ | with_reducible refine Su.x_rI0 ?_ | ((with_reducible refine Su.x_rI ?_ ?_); focus walk_at "side")
  | ((with_reducible show L2.rIxL _ (L2.V.ref _) (L2.V.int _) _ _); refine Su.x_ixI (by assumption) (by first | decide | omega) (by omega) ?_) | with_reducible refine Su.x_isi_int_int ?_ | with_reducible refine Su.x_isi_int_bool ?_ | with_reducible refine Su.x_isi_int_str ?_ | with_reducible refine Su.x_isi_int_list ?_ | with_reducible refine Su.x_isi_int_tuple ?_ | with_reducible refine Su.x_isi_bool_int ?_ | with_reducible refine Su.x_isi_bool_bool ?_ | with_reducible refine Su.x_isi_bool_str ?_ | with_reducible refine Su.x_isi_bool_list ?_ | with_reducible refine Su.x_isi_bool_tuple ?_ | with_reducible refine Su.x_isi_str_int ?_ | with_reducible refine Su.x_isi_str_bool ?_ | with_reducible refine Su.x_isi_str_str ?_ | with_reducible refine Su.x_isi_str_list ?_ | with_reducible refine Su.x_isi_str_tuple ?_ | with_reducible refine Su.x_isi_NoneType_int ?_ | with_reducible refine Su.x_isi_NoneType_bool ?_ | with_reducible refine Su.x_isi_NoneType_str ?_ | with_reducible refine Su.x_isi_NoneType_list ?_ | with_reducible refine Su.x_isi_NoneType_tuple ?_ | with_reducible refine Su.x_rGt ?_ | with_reducible refine Su.x_rGe ?_ | with_reducible refine Su.x_iteF ?_ | with_reducible refine Su.x_iteT ?_ | with_reducible refine Su.x_iteNT ?_ | with_reducible refine Su.x_iteNF ?_ | with_reducible refine Su.x_eqI ?_ | with_reducible refine Su.x_neI ?_ | with_reducible refine Su.x_eqS ?_ | with_reducible refine Su.x_neS ?_ | with_reducible refine Su.x_eqB ?_ | with_reducible refine Su.x_neB ?_
  | with_reducible refine Su.x_test ?_ | with_reducible refine Su.x_tB ?_ | with_reducible refine Su.x_isB ?_ | with_reducible refine Su.x_isB' ?_ | with_reducible refine Su.x_not ?_ | with_reducible refine Su.x_and ?_ | with_reducible refine Su.x_or ?_
  | with_reducible refine Su.x_andV ?_ | with_reducible refine Su.x_orV ?_ | with_reducible refine Su.x_notV ?_ | with_reducible refine Su.x_chain ?_ | with_reducible refine Su.x_nil ?_ | with_reducible refine Su.x_cons ?_ | with_reducible refine Su.x_cb ?_ | with_reducible refine Su.x_call ?_
  | with_reducible refine Su.x_un ?_ | with_reducible refine Su.x_rU ?_ | with_reducible refine Su.x_abs ?_ | with_reducible refine Su.x_max2 ?_ | with_reducible refine Su.x_min2 ?_ | with_reducible refine Su.x_int1 ?_ | with_reducible refine Su.x_intB ?_
  | with_reducible refine Su.x_lst ?_ | with_reducible refine Su.x_tup ?_ | with_reducible refine Su.x_bmL ?_ | with_reducible refine Su.x_next ?_ | with_reducible refine Su.x_for ?_ | with_reducible refine Su.x_iList ?_ | with_reducible refine Su.x_iRng1 ?_ | with_reducible refine Su.x_iRng2 ?_ | with_reducible refine Su.x_whileN ?_ | with_reducible refine Su.x_iEnum ?_ | with_reducible refine Su.x_iZip ?_ | with_reducible refine Su.x_iZipA ?_ | with_reducible refine Su.x_iTup ?_ | with_reducible refine Su.x_gcons ?_ | with_reducible refine Su.x_gnil ?_ | with_reducible refine Su.x_gsub ?_ | with_reducible refine Su.x_yes ?_ | with_reducible refine Su.x_lc ?_ | with_reducible refine Su.x_sl ?_ | with_reducible refine Su.x_nopart ?_ | with_reducible refine Su.x_part ?_ | with_reducible refine Su.x_isI ?_ | with_reducible refine Su.x_lstRg ?_ | with_reducible refine Su.x_rg1 ?_ | with_reducible refine Su.x_augS ?_ | with_reducible refine Su.x_ipI ?_ | ((with_reducible show L2.tAug _ _ _ _ _ _); refine Su.x_aug rfl ?_) | with_reducible refine Su.x_callS ?_ | with_reducible refine Su.x_tryAs ?_)
local macro_rules | `(tactic| walk_at "xs") => `(tactic| repeat walk_at "x")
local macro_rules | `(tactic| walk_at "if") => `(tactic| first | with_reducible refine Su.x_iteD (fun c => ?_) (fun c => ?_) | with_reducible refine Su.x_iteN (fun c => ?_) (fun c => ?_) | with_reducible refine Su.x_ite (fun c => ?_) (fun c => ?_))
/-! {k: v} with a tuple as its key -/
def tDispT (tk tv : TE) : TE := fun σ H Q => ∀ p, H p = none → tk σ (upd H p (.dT [])) fun x H1 => tv σ H1 fun y H2 => H2 p = some (.dT []) ∧ ∃ (k : List Key) (b : Addr), x = .ref b ∧ H2 b = some (.tup (k.map kV)) ∧ Q (.ref p) (upd H2 p (.dT [(k, y)]))
section
open PySem.Spec PyProof.Rows
variable {X : Cx} {k v : Expr} {tk tv : TE} {pos : Pos}
theorem pe_dispT (hu : X.A.units + 1 < cLine) (hk : PE X k tk) (hv : PE X v tv) : PE X (.Dict [some k] [v] pos) (tDispT tk tv) := by
  refine ⟨fun pins s σ H Q I q => ?_⟩
  have hn := I.hok.fresh (Nat.le_refl s.heap.objs.size)
  have I1 := I.laid (a := s.heap.objs.size) (o := .dT []) (h' := s.heap.push { cls := .type "dict", data := .dict #[] }) (t' := s.toks) (fun _ _ q => Heap.get?_push_of_some _ q) (Nat.le_refl _) (dt_empty s.heap I.big)
  rw [arm_eval_Dict, zip_pairTrees [some k] [v] X.env pos rfl rfl, dictDisplay_pairs (pairTrees [some k] [v] X.env pos) (by intro z; exact nomatch z) (by show 1 < 17; decide)]
  refine wpAny_bind (wpAny_standAt (wpAny_bind (wpAny_subDictH (knd := tupleKind (mixKind X.prog X.w)) (Q := fun d s' => wpAny (model X.prog X.w) X.A (pure (Value.ref d)) (EP X pins σ Q) X.xe s') (Nat.lt_of_succ_lt hu) (by show 1 ≤ 15; decide) ?_)))
  refine pairTrees_cons_walk (thn (hk.run pins _ σ _ _ I1 (q _ hn)) fun u s1 ⟨x, H1, J1, rx, q1⟩ => thn (hv.run pins s1 σ H1 _ J1 q1) fun u2 s2 ⟨y, H2, J2, ry, q2⟩ => pairTrees_nil_walk ?_)
  obtain ⟨e, k', b, rfl, hb, q3⟩ := q2
  cases rx
  obtain ⟨z, hd, xs, r0, dd⟩ := dt_of J2.hok e
  cases r0
  refine ⟨[(k', b, u2)], ⟨rfl, rfl, key_of J2.hok hb, trivial⟩, dd, fun h' tk hm hs => wpAny_pure ⟨.ref s.heap.objs.size, _, ?_, rfl, q3⟩⟩
  obtain ⟨q, es, ep, hq, h2, h3, h4, _, h5⟩ := hm
  refine d_write J2 (by rw [e]; exact True.intro) hs ⟨q, hq⟩ ⟨by show 1 ≤ sizeLine; rw [sizeLine_eq]; decide, hd, _, .cons ⟨rfl, ?_, ry⟩ .nil, q, es, ep, hq, h2, h3, h4, h5⟩
  rw [upd_ne (ne_of hb e (fun z => nomatch z))]
  exact hb
end
theorem x_dispT {tk tv : TE} {σ : St} {H : Hp} {Q : VK} (h : ∀ p, H p = none → tk σ (upd H p (.dT [])) fun x H1 => tv σ H1 fun y H2 => H2 p = some (.dT []) ∧ ∃ (k : List Key) (b : Addr), x = .ref b ∧ H2 b = some (.tup (k.map kV)) ∧ Q (.ref p) (upd H2 p (.dT [(k, y)]))) : tDispT tk tv σ H Q := h

end Su
namespace Su
open PySem L2
local macro_rules | `(tactic| walk_at "side") => `(tactic| first | assumption | (show (0 : Int) < _; omega) | (show (0 : Int) ≤ _; omega) | (show (0 : Int) < _; split <;> omega) | (show _ ∨ _; omega) | (show _ ∧ _; omega) | exact ⟨by decide, by decide, by decide⟩ | exact ⟨by first | assumption | omega, by first | assumption | omega⟩)
local macro_rules | `(tactic| walk_at "xs") => `(tactic| repeat walk_at "x")
local macro_rules | `(tactic| walk_at "if") => `(tactic| first | with_reducible refine Su.x_iteD (fun c => ?_) (fun c => ?_) | with_reducible refine Su.x_iteN (fun c => ?_) (fun c => ?_) | with_reducible refine Su.x_ite (fun c => ?_) (fun c => ?_))

/-! sets of windows as numbers; all orders that go on from a set, in their order -/
theorem mul2_div (a b : Nat) : (a + 2 ^ (b + 1)) / 2 = a / 2 + 2 ^ b := by rw [Nat.pow_succ]; omega
theorem mul2_mod (a b : Nat) : (a + 2 ^ (b + 1)) % 2 = a % 2 := by rw [Nat.pow_succ]; omega
def pc (m : Nat) : Nat := if h : m = 0 then 0 else m % 2 + pc (m / 2)
theorem pc_zero : pc 0 = 0 := by rw [pc]; simp
theorem pc_step {m : Nat} (h : m ≠ 0) : pc m = m % 2 + pc (m / 2) := by rw [pc, dif_neg h]
theorem pc_half (m : Nat) : pc m = m % 2 + pc (m / 2) := by
  by_cases h : m = 0
  · subst h; rw [pc_zero]
  · exact pc_step h
theorem tb_zero (m : Nat) : m.testBit 0 = decide (m % 2 = 1) := Nat.testBit_zero m
theorem tb_succ (m i : Nat) : m.testBit (i + 1) = (m / 2).testBit i := Nat.testBit_succ m i
theorem pc_add : ∀ (i m : Nat), m.testBit i = false → pc (m + 2 ^ i) = pc m + 1
  | 0, m, h => by
    rw [tb_zero] at h
    have h' : m % 2 = 0 := by have := of_decide_eq_false h; omega
    rw [pc_half (m + 2 ^ 0), pc_half m, Nat.pow_zero, show (m + 1) / 2 = m / 2 by omega]
    omega
  | i + 1, m, h => by
    rw [tb_succ] at h
    rw [pc_half (m + 2 ^ (i + 1)), mul2_div, mul2_mod, pc_add i _ h, pc_half m]
    omega
theorem tb_add : ∀ (i m x : Nat), m.testBit i = false → (m + 2 ^ i).testBit x = (m.testBit x || decide (x = i))
  | 0, m, 0, h => by
    rw [tb_zero] at h
    have h' : m % 2 = 0 := by have := of_decide_eq_false h; omega
    rw [tb_zero, Nat.pow_zero, decide_eq_true (show (m + 1) % 2 = 1 by omega), decide_eq_true rfl, Bool.or_true]
  | 0, m, x + 1, h => by
    rw [tb_zero] at h
    have h' : m % 2 = 0 := by have := of_decide_eq_false h; omega
    rw [tb_succ, tb_succ, Nat.pow_zero, show (m + 1) / 2 = m / 2 by omega, decide_eq_false (by omega), Bool.or_false]
  | i + 1, m, 0, h => by
    rw [tb_zero, tb_zero, mul2_mod, decide_eq_false (show ¬ 0 = i + 1 by omega), Bool.or_false]
  | i + 1, m, x + 1, h => by
    rw [tb_succ] at h
    rw [tb_succ, tb_succ, mul2_div, tb_add i _ x h]
    congr 1
    exact decide_eq_decide.mpr (by omega)
theorem add_lt : ∀ (i n m : Nat), i < n → m < 2 ^ n → m.testBit i = false → m + 2 ^ i < 2 ^ n
  | 0, n + 1, m, _, hm, h => by
    rw [tb_zero] at h
    have h' : m % 2 = 0 := by have := of_decide_eq_false h; omega
    rw [Nat.pow_succ] at hm ⊢
    omega
  | i + 1, n + 1, m, hi, hm, h => by
    rw [tb_succ] at h
    have := add_lt i n (m / 2) (by omega) (by rw [Nat.pow_succ] at hm; omega) h
    rw [Nat.pow_succ 2 n, Nat.pow_succ 2 i] at *
    omega
theorem pc_le : ∀ (n m : Nat), m < 2 ^ n → pc m ≤ n
  | 0, m, h => by
    have : m = 0 := by simpa using h
    rw [this, pc_zero]
    exact Nat.le_refl _
  | n + 1, m, h => by
    have := pc_le n (m / 2) (by rw [Nat.pow_succ] at h; omega)
    rw [pc_half]
    omega
theorem pc_lt : ∀ (n m : Nat), m + 1 < 2 ^ n → pc m < n
  | 0, m, h => by simp at h
  | n + 1, m, h => by
    rw [Nat.pow_succ] at h
    rw [pc_half]
    by_cases c : m / 2 + 1 < 2 ^ n
    · have := pc_lt n (m / 2) c
      omega
    · have := pc_le n (m / 2) (by omega)
      omega
theorem pc_full : ∀ n : Nat, pc (2 ^ n - 1) = n
  | 0 => by simp [pc_zero]
  | n + 1 => by
    have h := Nat.two_pow_pos n
    rw [pc_half, Nat.pow_succ, show (2 ^ n * 2 - 1) / 2 = 2 ^ n - 1 by omega, pc_full n]
    omega
def fitB (ws : List (Int × Int)) (t : Int) (i : Nat) : Bool := decide (w1 ws i ≤ t ∧ t ≤ w2 ws i)
/-- window i may draw at round t, the set m having drawn -/
def okB (ws : List (Int × Int)) (m : Nat) (t : Int) (i : Nat) : Bool := !m.testBit i && fitB ws t i
/-- all rows of k windows that go on from the set m -/
def conts (ws : List (Int × Int)) : Nat → Nat → List (List Nat)
  | 0, _ => [[]]
  | k + 1, m => (List.range ws.length).flatMap fun i => if okB ws m ((ws.length : Int) - k) i = true then (conts ws k (m + 2 ^ i)).map (i :: ·) else []
/-- the first j windows' share -/
def contsTo (ws : List (Int × Int)) (k m j : Nat) : List (List Nat) := (List.range j).flatMap fun i => if okB ws m ((ws.length : Int) - k) i = true then (conts ws k (m + 2 ^ i)).map (i :: ·) else []
theorem conts_succ (ws : List (Int × Int)) (k m : Nat) : conts ws (k + 1) m = contsTo ws k m ws.length := rfl
theorem contsTo_succ (ws : List (Int × Int)) (k m j : Nat) : contsTo ws k m (j + 1) = contsTo ws k m j ++ (if okB ws m ((ws.length : Int) - k) j = true then (conts ws k (m + 2 ^ j)).map (j :: ·) else []) := by
  unfold contsTo
  rw [List.range_succ, List.flatMap_append]
  simp
theorem contsTo_len (ws : List (Int × Int)) (k m j : Nat) : (contsTo ws k m (j + 1)).length = (contsTo ws k m j).length + (if okB ws m ((ws.length : Int) - k) j = true then (conts ws k (m + 2 ^ j)).length else 0) := by
  rw [contsTo_succ, List.length_append]
  split <;> simp
/-- what the rows of conts are -/
structure Goes (ws : List (Int × Int)) (k m : Nat) (row : List Nat) : Prop where
  len : row.length = k
  nd : row.Nodup
  lt : ∀ x ∈ row, x < ws.length ∧ m.testBit x = false
  fit : ∀ j (h : j < row.length), fitB ws ((ws.length : Int) - k + 1 + j) row[j] = true
theorem mem_conts (ws : List (Int × Int)) : ∀ (k m : Nat) (row : List Nat), row ∈ conts ws k m ↔ Goes ws k m row
  | 0, m, row => by
    rw [show conts ws 0 m = [[]] from rfl, List.mem_singleton]
    constructor
    · rintro rfl
      exact ⟨rfl, List.nodup_nil, (fun x h => nomatch h), fun j h => absurd h (Nat.not_lt_zero _)⟩
    · exact fun h => List.eq_nil_of_length_eq_zero h.len
  | k + 1, m, row => by
    rw [conts_succ]
    unfold contsTo
    rw [List.mem_flatMap]
    constructor
    · rintro ⟨i, hi, h⟩
      rw [List.mem_range] at hi
      by_cases c : okB ws m ((ws.length : Int) - k) i = true
      · rw [if_pos c, List.mem_map] at h
        obtain ⟨r, hr, rfl⟩ := h
        have g := (mem_conts ws k (m + 2 ^ i) r).mp hr
        unfold okB at c
        rw [Bool.and_eq_true, Bool.not_eq_true'] at c
        have hx : ∀ x ∈ r, x < ws.length ∧ m.testBit x = false ∧ x ≠ i := fun x hx => by
          obtain ⟨h1, h2⟩ := g.lt x hx
          rw [tb_add i m x c.1, Bool.or_eq_false_iff] at h2
          exact ⟨h1, h2.1, of_decide_eq_false h2.2⟩
        refine ⟨by rw [List.length_cons, g.len], List.nodup_cons.mpr ⟨fun z => (hx i z).2.2 rfl, g.nd⟩, fun x hx' => ?_, fun j hj => ?_⟩
        · rcases List.mem_cons.mp hx' with rfl | z
          · exact ⟨hi, c.1⟩
          · exact ⟨(hx x z).1, (hx x z).2.1⟩
        · cases j with
          | zero =>
            have := c.2
            rw [show (ws.length : Int) - (k + 1 : Nat) + 1 + (0 : Nat) = (ws.length : Int) - k by omega]
            exact this
          | succ j =>
            have := g.fit j (by simpa using hj)
            rw [show (ws.length : Int) - (k + 1 : Nat) + 1 + (j + 1 : Nat) = (ws.length : Int) - k + 1 + j by omega]
            exact this
      · rw [if_neg c] at h
        cases h
    · intro g
      cases row with
      | nil => have := g.len; simp at this
      | cons i r =>
        obtain ⟨hi, hb⟩ := g.lt i List.mem_cons_self
        have f0 := g.fit 0 (by simp)
        rw [show (ws.length : Int) - (k + 1 : Nat) + 1 + (0 : Nat) = (ws.length : Int) - k by omega] at f0
        have f0 : fitB ws ((ws.length : Int) - k) i = true := f0
        refine ⟨i, List.mem_range.mpr hi, ?_⟩
        have c : okB ws m ((ws.length : Int) - k) i = true := by unfold okB; rw [hb, f0]; rfl
        rw [if_pos c, List.mem_map]
        refine ⟨r, (mem_conts ws k (m + 2 ^ i) r).mpr ⟨by have := g.len; simpa using this, (List.nodup_cons.mp g.nd).2, fun x hx => ?_, fun j hj => ?_⟩, rfl⟩
        · obtain ⟨h1, h2⟩ := g.lt x (List.mem_cons_of_mem _ hx)
          refine ⟨h1, ?_⟩
          rw [tb_add i m x hb, h2, Bool.false_or]
          exact decide_eq_false fun e => (List.nodup_cons.mp g.nd).1 (e ▸ hx)
        · have := g.fit (j + 1) (by simpa using hj)
          rw [show (ws.length : Int) - (k + 1 : Nat) + 1 + (j + 1 : Nat) = (ws.length : Int) - k + 1 + j by omega] at this
          exact this
theorem mem_all (ws : List (Int × Int)) (row : List Nat) : row ∈ conts ws ws.length 0 ↔ IsOrder ws row := by
  rw [mem_conts]
  have e : ∀ j : Nat, (ws.length : Int) - ws.length + 1 + (j : Int) = j + 1 := fun j => by omega
  constructor
  · intro g
    exact ⟨g.len, g.nd, fun x h => (g.lt x h).1, fun j h => by have := g.fit j h; rw [e] at this; exact of_decide_eq_true this⟩
  · intro o
    exact ⟨o.len, o.nd, fun x h => ⟨o.lt x h, Nat.zero_testBit x⟩, fun j h => by rw [e]; exact decide_eq_true (o.fit j h)⟩

end Su
namespace Su
open PySem L2
local macro_rules | `(tactic| walk_at "side") => `(tactic| first | assumption | (show (0 : Int) < _; omega) | (show (0 : Int) ≤ _; omega) | (show (0 : Int) < _; split <;> omega) | (show _ ∨ _; omega) | (show _ ∧ _; omega) | exact ⟨by decide, by decide, by decide⟩ | exact ⟨by first | assumption | omega, by first | assumption | omega⟩)
local macro_rules | `(tactic| walk_at "x") => `(tactic| first | with_reducible refine Su.x_seq ?_ | with_reducible refine Su.x_asg ?_ | with_reducible refine Su.x_gname ?_ | with_reducible refine Su.x_ret ?_ | ((with_reducible show L2.tVar _ _ _ _); refine Su.x_var rfl ?_) | with_reducible refine Su.x_c ?_ | with_reducible refine Su.x_op ?_ | ((with_reducible refine Su.x_rI ?_ ?_); focus walk_at "side") | with_reducible refine Su.x_rGt ?_ | with_reducible refine Su.x_test ?_ | with_reducible refine Su.x_isB' ?_ | with_reducible refine Su.x_whileN ?_ | with_reducible refine Su.x_ipI ?_ | ((with_reducible show L2.tAug _ _ _ _ _ _); refine Su.x_aug rfl ?_))
local macro_rules | `(tactic| walk_at "xs") => `(tactic| repeat walk_at "x")
local macro_rules | `(tactic| walk_at "if") => `(tactic| first | with_reducible refine Su.x_iteD (fun c => ?_) (fun c => ?_) | with_reducible refine Su.x_iteN (fun c => ?_) (fun c => ?_) | with_reducible refine Su.x_ite (fun c => ?_) (fun c => ?_))

/-! bits -/
def sp_bits (K : PySem.W.Frag) : Sp := fun vs H Q _ => ∃ (m : Nat), vs = [.int m] ∧ Q (.int (pc m)) H
abbrev N_bits : List Str := ["mask", "many"]
def t_bits (K : PySem.W.Frag) : TS :=
 (tSeq (tAsg (tC (.int 0)) (gName 1))
 (tSeq (tWhile (tTest (tOp rGt (tVar 0) (tC (.int 0))))
 (tSeq (tAug 1 (tOp rMod (tVar 0) (tC (.int 2))) (ipI fun i j => i + j))
 (tAsg (tOp rDiv (tVar 0) (tC (.int 2))) (gName 0))))
 (tRet (tVar 1))))

theorem len_bits {K : PySem.W.Frag} : ∀ vs H Q E, sp_bits K vs H Q E → vs.length = ["a"].length := by
  rintro vs H Q E ⟨_, rfl, _⟩; rfl
theorem pure_bits {K : PySem.W.Frag} {vs : List V} {H : Hp} {Q : VK} {E : XK} (h : sp_bits K vs H Q E) : t_bits K { nx := fun _ H' => Q .non H', rt := Q } (start N_bits vs) H := by
  obtain ⟨m, rfl, k⟩ := h
  unfold t_bits
  walk_at "xs"
  refine ⟨fun f σ H' => ∃ (r c : Nat), σ = [some (.int r), some (.int c)] ∧ H = H' ∧ c + pc r = pc m ∧ f = r, ⟨m, m, 0, rfl, rfl, by omega, rfl⟩, ?_⟩
  rintro f σ H' ⟨r, c, rfl, rfl, he, rfl⟩
  walk_at "xs"
  walk_at "if"
  · rename_i c1
    walk_at "xs"
    refine ⟨f / 2, by omega, f / 2, c + f % 2, by simp, rfl, ?_, rfl⟩
    rw [← he, pc_step (m := f) (by omega)]
    omega
  · rename_i c1
    have : f = 0 := by omega
    subst this
    rw [pc_zero] at he
    walk_at "xs"
    rw [show c = pc m by omega]
    exact k

end Su
namespace Su
open PySem L2
local macro_rules | `(tactic| walk_at "side") => `(tactic| first | assumption | (show (0 : Int) < _; omega) | (show (0 : Int) ≤ _; omega) | (show (0 : Int) < _; split <;> omega) | (show _ ∨ _; omega) | (show _ ∧ _; omega) | exact ⟨by decide, by decide, by decide⟩ | exact ⟨by first | assumption | omega, by first | assumption | omega⟩)
local macro_rules | `(tactic| walk_at "x") => `(tactic| first | with_reducible refine Su.x_ret ?_ | ((with_reducible show L2.tVar _ _ _ _); refine Su.x_var rfl ?_) | with_reducible refine Su.x_c ?_ | with_reducible refine Su.x_op ?_ | ((with_reducible refine Su.x_rI ?_ ?_); focus walk_at "side") | with_reducible refine Su.x_eqI ?_)
local macro_rules | `(tactic| walk_at "xs") => `(tactic| repeat walk_at "x")
local macro_rules | `(tactic| walk_at "if") => `(tactic| first | with_reducible refine Su.x_iteD (fun c => ?_) (fun c => ?_) | with_reducible refine Su.x_iteN (fun c => ?_) (fun c => ?_) | with_reducible refine Su.x_ite (fun c => ?_) (fun c => ?_))

/-! has_bit, with_bit, bits: sets of places as numbers -/
def sp_has_bit (K : PySem.W.Frag) : Sp := fun vs H Q _ => ∃ (m i : Nat), vs = [.int m, .int i] ∧ Q (.bl (m.testBit i)) H
abbrev N_has_bit : List Str := ["mask", "at"]
def t_has_bit (K : PySem.W.Frag) : TS :=
 (tRet (tOp rEq (tOp rMod (tOp rShr (tVar 0) (tVar 1)) (tC (.int 2))) (tC (.int 1))))

theorem has_bit_is (m i : Nat) : decide ((m : Int) / 2 ^ i % 2 = 1) = m.testBit i := by
  rw [Nat.testBit_eq_decide_div_mod_eq]
  congr 1
  have e : (m : Int) / 2 ^ i = ((m / 2 ^ i : Nat) : Int) := by simp
  rw [e]
  apply propext
  omega
theorem len_has_bit {K : PySem.W.Frag} : ∀ vs H Q E, sp_has_bit K vs H Q E → vs.length = ["a", "b"].length := by
  rintro vs H Q E ⟨_, _, rfl, _⟩; rfl
theorem pure_has_bit {K : PySem.W.Frag} {vs : List V} {H : Hp} {Q : VK} {E : XK} (h : sp_has_bit K vs H Q E) : t_has_bit K { nx := fun _ H' => Q .non H', rt := Q } (start N_has_bit vs) H := by
  obtain ⟨m, i, rfl, k⟩ := h
  unfold t_has_bit
  walk_at "xs"
  have := has_bit_is m i
  rw [show ((i : Int)).toNat = i by omega]
  rw [this]
  exact k

end Su
namespace Su
open PySem L2
local macro_rules | `(tactic| walk_at "side") => `(tactic| first | assumption | (show (0 : Int) < _; omega) | (show (0 : Int) ≤ _; omega) | (show (0 : Int) < _; split <;> omega) | (show _ ∨ _; omega) | (show _ ∧ _; omega) | exact ⟨by decide, by decide, by decide⟩ | exact ⟨by first | assumption | omega, by first | assumption | omega⟩)
local macro_rules | `(tactic| walk_at "x") => `(tactic| first | with_reducible refine Su.x_ret ?_ | ((with_reducible show L2.tVar _ _ _ _); refine Su.x_var rfl ?_) | with_reducible refine Su.x_c ?_ | with_reducible refine Su.x_op ?_ | with_reducible refine Su.x_rI0 ?_ | ((with_reducible refine Su.x_rI ?_ ?_); focus walk_at "side"))
local macro_rules | `(tactic| walk_at "xs") => `(tactic| repeat walk_at "x")
local macro_rules | `(tactic| walk_at "if") => `(tactic| first | with_reducible refine Su.x_iteD (fun c => ?_) (fun c => ?_) | with_reducible refine Su.x_iteN (fun c => ?_) (fun c => ?_) | with_reducible refine Su.x_ite (fun c => ?_) (fun c => ?_))

/-! with_bit -/
def sp_with_bit (K : PySem.W.Frag) : Sp := fun vs H Q _ => ∃ (m i : Nat), vs = [.int m, .int i] ∧ i ≤ 1000 ∧ Q (.int (m + 2 ^ i : Nat)) H
abbrev N_with_bit : List Str := ["mask", "at"]
def t_with_bit (K : PySem.W.Frag) : TS :=
 (tRet (tOp rAdd (tVar 0) (tOp rShl (tC (.int 1)) (tVar 1))))

theorem len_with_bit {K : PySem.W.Frag} : ∀ vs H Q E, sp_with_bit K vs H Q E → vs.length = ["a", "b"].length := by
  rintro vs H Q E ⟨_, _, rfl, _⟩; rfl
theorem pure_with_bit {K : PySem.W.Frag} {vs : List V} {H : Hp} {Q : VK} {E : XK} (h : sp_with_bit K vs H Q E) : t_with_bit K { nx := fun _ H' => Q .non H', rt := Q } (start N_with_bit vs) H := by
  obtain ⟨m, i, rfl, hi, k⟩ := h
  unfold t_with_bit
  walk_at "xs"
  have e : (m : Int) + 1 * 2 ^ ((i : Int)).toNat = ((m + 2 ^ i : Nat) : Int) := by
    rw [show ((i : Int)).toNat = i by omega]; simp
  rw [e]
  exact k

end Su
namespace Su
open PySem L2
local macro_rules | `(tactic| walk_at "side") => `(tactic| first | assumption | (show (0 : Int) < _; omega) | (show (0 : Int) ≤ _; omega) | (show (0 : Int) < _; split <;> omega) | (show _ ∨ _; omega) | (show _ ∧ _; omega) | exact ⟨by decide, by decide, by decide⟩ | exact ⟨by first | assumption | omega, by first | assumption | omega⟩)
local macro_rules | `(tactic| walk_at "xs") => `(tactic| repeat walk_at "x")
local macro_rules | `(tactic| walk_at "if") => `(tactic| first | with_reducible refine Su.x_iteD (fun c => ?_) (fun c => ?_) | with_reducible refine Su.x_iteN (fun c => ?_) (fun c => ?_) | with_reducible refine Su.x_ite (fun c => ?_) (fun c => ?_))

/-! a list of windows that is changed by place -/
def WinAt (K : PySem.W.Frag) (H : Hp) (p : Addr) (ws : List (Int × Int)) : Prop := ∃ xs, H p = some (.lst xs) ∧ DpAll K (del H p) xs (ws.map dPair)
section
variable {K : PySem.W.Frag} {H H' : Hp} {p t : Addr} {ws : List (Int × Int)}
theorem WinAt.same (h : WinAt K H p ws) (s : Same H H') : WinAt K H' p ws := by
  obtain ⟨xs, h1, h2⟩ := h
  exact ⟨xs, s _ _ h1, dpAll_same (del_mono s) h2⟩
theorem WinAt.lst (h : WinAt K H p ws) : ∃ xs, H p = some (.lst xs) ∧ xs.length = ws.length := by
  obtain ⟨xs, h1, h2⟩ := h
  exact ⟨xs, h1, by rw [dpAll_len h2, List.length_map]⟩
/-- a window is put behind -/
theorem x_winpush {i j : Int} {Q : VK} (h : WinAt K H p ws) (s : Same H H') (nt : H t = none) (ht : H' t = some (.tup [.int i, .int j])) (hl : ws.length ≤ 1000)
    (q : ∀ H2, (∀ b o, H' b = some o → b ≠ p → H2 b = some o) → WinAt K H2 p (ws ++ [(i, j)]) → Q .non H2) : rAppend (.ref p) [.ref t] H' Q := by
  obtain ⟨xs, e1, e2⟩ := h
  have hl' := dpAll_len e2
  rw [List.length_map] at hl'
  have htp : t ≠ p := fun e => by rw [e, e1] at nt; cases nt
  refine x_append (s _ _ e1) (small (by omega)) (q _ (fun b o hb hn => by rw [upd_ne hn]; exact hb) ⟨_, upd_same, ?_⟩)
  rw [del_upd, List.map_append]
  exact dpAll_snoc (dpAll_same (del_mono s) e2) (pair_dp (SqT.of (del_at ht htp)))
theorem rep_flat {v : V} : ∀ n, (List.replicate n [v]).flatten = List.replicate n v
  | 0 => rfl
  | n + 1 => by rw [List.replicate_succ, List.flatten_cons, rep_flat n, List.replicate_succ]; rfl
theorem al_rep {l : Addr} {v : V} {n : Nat} {Q : VK} (h : H l = some (.lst [v])) (hn : n ≤ 100000) (q : ∀ p H', H p = none → Same H H' → H' p = some (.lst (List.replicate n v)) → (∀ b, b ≠ p → H' b = H b) → Q (.ref p) H') : rRep (.ref l) (.int n) H Q := by
  refine ⟨l, n, [v], rfl, rfl, h, by omega, by omega, Nat.le_of_lt (small (by simp; omega)), fun p np => ?_⟩
  refine q p _ np (same_new (Same.refl H) np) ?_ fun b hb => upd_ne hb
  rw [upd_same, Int.toNat_natCast, rep_flat]
/-- unchanged but for what is new or at p -/
theorem keep_same {H0 H2 : Hp} (s : Same H0 H') (n : H0 p = none) (k : ∀ b o, H' b = some o → b ≠ p → H2 b = some o) : Same H0 H2 := fun b o e => k b o (s b o e) (ne_of_none e n)
end
end Su
namespace Su
open PySem L2
local macro_rules | `(tactic| walk_at "side") => `(tactic| first | assumption | (show (0 : Int) < _; omega) | (show (0 : Int) ≤ _; omega) | (show (0 : Int) < _; split <;> omega) | (show _ ∨ _; omega) | (show _ ∧ _; omega) | exact ⟨by decide, by decide, by decide⟩ | exact ⟨by first | assumption | omega, by first | assumption | omega⟩)
local macro_rules | `(tactic| walk_at "x") => `(tactic| first | with_reducible refine Su.x_seq ?_ | with_reducible refine Su.x_asg ?_ | with_reducible refine Su.x_gname ?_ | with_reducible refine Su.x_ret ?_ | with_reducible refine Su.x_ifS ?_ | ((with_reducible show L2.tVar _ _ _ _); refine Su.x_var rfl ?_) | with_reducible refine Su.x_c ?_ | with_reducible refine Su.x_op ?_ | with_reducible refine Su.x_rI0 ?_ | ((with_reducible refine Su.x_rI ?_ ?_); focus walk_at "side") | with_reducible refine Su.x_iteF ?_ | with_reducible refine Su.x_test ?_ | with_reducible refine Su.x_tB ?_ | with_reducible refine Su.x_isB' ?_ | with_reducible refine Su.x_not ?_ | with_reducible refine Su.x_and ?_ | with_reducible refine Su.x_chain ?_ | with_reducible refine Su.x_nil ?_ | with_reducible refine Su.x_cons ?_ | with_reducible refine Su.x_cb ?_ | with_reducible refine Su.x_call ?_ | with_reducible refine Su.x_lst ?_ | with_reducible refine Su.x_next ?_ | with_reducible refine Su.x_for ?_ | with_reducible refine Su.x_iRng1 ?_ | with_reducible refine Su.x_iRng2 ?_ | with_reducible refine Su.x_iEnum ?_ | with_reducible refine Su.x_gcons ?_ | with_reducible refine Su.x_gnil ?_ | with_reducible refine Su.x_gsub ?_ | with_reducible refine Su.x_ipI ?_ | ((with_reducible show L2.tAug _ _ _ _ _ _); refine Su.x_aug rfl ?_))
local macro_rules | `(tactic| walk_at "xs") => `(tactic| repeat walk_at "x")
local macro_rules | `(tactic| walk_at "if") => `(tactic| first | with_reducible refine Su.x_iteD (fun c => ?_) (fun c => ?_) | with_reducible refine Su.x_iteN (fun c => ?_) (fun c => ?_) | with_reducible refine Su.x_ite (fun c => ?_) (fun c => ?_))

/-! ways_on: the table of how many rows go on -/
def wy (ws : List (Int × Int)) (m : Nat) : Int := ((conts ws (ws.length - pc m) m).length : Nat)
structure TabOk (ws : List (Int × Int)) (tab : List Int) : Prop where
  len : tab.length = 2 ^ ws.length
  at_ : ∀ m, m < 2 ^ ws.length → tab.getD m 0 = wy ws m
def sp_ways_on (K : PySem.W.Frag) : Sp := fun vs H Q _ => ∃ (v : V) (ws : List (Int × Int)), vs = [v] ∧ Dp K H v (dWin ws) ∧ ws.length ≤ 8 ∧
  ∀ (p : Addr) (tab : List Int) (H' : Hp), H p = none → Same H H' → H' p = some (.lst (tab.map V.int)) → TabOk ws tab → Q (.ref p) H'
theorem wy_full (ws : List (Int × Int)) : wy ws (2 ^ ws.length - 1) = 1 := by
  unfold wy
  rw [pc_full, Nat.sub_self]; rfl
abbrev N_ways_on : List Str := ["windows", "size", "full", "step", "table", "back", "mask", "turn", "many", "at", "first", "last"]
def t_ways_on (K : PySem.W.Frag) : TS :=
 (tSeq (tAsg (tCB (rLenSeq K) (tCons (tVar 0) tNil)) (gName 1))
 (tSeq (tAsg (tC (.int 1)) (gName 2))
 (tSeq (tFor (iRng1 (tCons (tVar 1) tNil)) (gName 3)
 (tAsg (tOp rMul (tVar 2) (tC (.int 2))) (gName 2)))
 (tSeq (tAsg (tOp rRep (tLst (tCons (tC (.int 0)) tNil)) (tVar 2)) (gName 4))
 (tSeq (tAsg (tC (.int 1)) (gSub (tVar 4) (tOp rSub (tVar 2) (tC (.int 1))) rSetL))
 (tSeq (tFor (iRng2 (tCons (tC (.int 2)) (tCons (tOp rAdd (tVar 2) (tC (.int 1))) tNil))) (gName 5)
 (tSeq (tAsg (tOp rSub (tVar 2) (tVar 5)) (gName 6))
 (tSeq (tAsg (tOp rAdd (tCall (sp_bits K) [] E0 (tCons (tVar 6) tNil)) (tC (.int 1))) (gName 7))
 (tSeq (tAsg (tC (.int 0)) (gName 8))
 (tSeq (tFor (iEnum K (tCons (tVar 0) tNil)) (gTup K 2 (gCons (gName 9) (gCons (gTup K 2 (gCons (gName 10) (gCons (gName 11) gNil))) gNil)))
 (tIfS (tAnd (tNot (tB (tCall (sp_has_bit K) [] E0 (tCons (tVar 6) (tCons (tVar 9) tNil))))) (tTest (tChain rLe rLe (tVar 10) (tVar 7) (tVar 11))))
 (tAug 8 (tOp (rIxL K) (tVar 4) (tCall (sp_with_bit K) [] E0 (tCons (tVar 6) (tCons (tVar 9) tNil)))) (ipI fun i j => i + j))
 tNext))
 (tAsg (tVar 8) (gSub (tVar 4) (tVar 6) rSetL)))))))
 (tRet (tVar 4))))))))

theorem len_ways_on {K : PySem.W.Frag} : ∀ vs H Q E, sp_ways_on K vs H Q E → vs.length = ["a"].length := by
  rintro vs H Q E ⟨_, _, rfl, _⟩; rfl
theorem getD_setW {xs : List Int} {i j : Nat} {v : Int} (hi : i < xs.length) : (xs.set i v).getD j 0 = if j = i then v else xs.getD j 0 := by
  rw [List.getD_eq_getElem?_getD, List.getElem?_set]
  by_cases c : i = j
  · subst c; rw [if_pos rfl, if_pos hi, if_pos rfl]; rfl
  · rw [if_neg c, if_neg (fun e => c e.symm), List.getD_eq_getElem?_getD]
theorem pure_ways_on {K : PySem.W.Frag} {vs : List V} {H : Hp} {Q : VK} {E : XK} (h : sp_ways_on K vs H Q E) : t_ways_on K { nx := fun _ H' => Q .non H', rt := Q } (start N_ways_on vs) H := by
  obtain ⟨v, ws, rfl, hw, hl, k⟩ := h
  obtain ⟨q, xs, rfl, hq, hx, hat⟩ := win_at hw
  unfold t_ways_on
  walk_at "xs"
  refine x_lenL hq ?_
  rw [hx]
  walk_at "xs"
  refine ⟨ws.length, rfl, by omega, by omega, for_by turnsR (fun i σ H' => ∃ (u : Option V), σ = [some (.ref q), some (.int ws.length), some (.int (2 ^ i : Nat)), u, none, none, none, none, none, none, none, none] ∧ H = H')
    ⟨none, rfl, rfl⟩ (fun _ _ _ _ _ => trivial) ?_ ?_⟩
  · rintro i y σ H2 _ hi ⟨u, rfl, rfl⟩ ⟨rfl, rfl⟩
    walk_at "xs"
    have e : ((2 ^ i : Nat) : Int) * 2 = ((2 ^ (i + 1) : Nat) : Int) := by rw [Nat.pow_succ]; simp
    rw [e]
    exact ⟨_, rfl, rfl⟩
  rintro σ H2 ⟨u, rfl, rfl⟩
  rw [show ((ws.length : Int)).toNat = ws.length by omega]
  have full8 : 2 ^ ws.length ≤ 2 ^ 8 := Nat.pow_le_pow_right (by decide) hl
  have full0 := Nat.two_pow_pos ws.length
  obtain ⟨full, hf⟩ : ∃ full, full = 2 ^ ws.length := ⟨_, rfl⟩
  rw [← hf] at full8 full0 ⊢
  walk_at "xs"
  refine al_lst fun l H3 nl s3 hl3 => ?_
  walk_at "xs"
  refine al_rep hl3 (by omega) fun p H4 np s4 hp _ => ?_
  have s14 := s3.trans s4
  have np1 : H p = none := s3.free np
  have hp' : H4 p = some (.lst ((List.replicate full (0 : Int)).map V.int)) := by rw [hp]; simp
  walk_at "xs"
  refine x_setL hp' (by omega) (by simp; omega) ?_
  obtain ⟨H5, hH5⟩ : ∃ H5, H5 = upd H4 p (.lst (((List.replicate full (0 : Int)).map V.int).set ((full : Int) - 1).toNat (.int 1))) := ⟨_, rfl⟩
  rw [← hH5]
  have hp5 : H5 p = some (.lst (((List.replicate full (0 : Int)).set (full - 1) 1).map V.int)) := by
    rw [hH5, upd_same, List.map_set, show ((full : Int) - 1).toNat = full - 1 by omega]
  have s5 : Same H H5 := by rw [hH5]; exact same_upd s14 np1
  clear hH5 hp' hp s4 s3 s14 hl3 nl
  walk_at "xs"
  refine ⟨2, (full : Int) + 1, rfl, ⟨by omega, by omega, by omega, by omega⟩, for_by turnsR (fun i σ H' => ∃ (tab : List Int) (u1 u2 u3 u4 u5 u6 u7 : Option V), σ = [some (.ref q), some (.int ws.length), some (.int full), u, some (.ref p), u1, u2, u3, u4, u5, u6, u7] ∧ Same H H' ∧
    H' p = some (.lst (tab.map V.int)) ∧ tab.length = full ∧ ∀ m, full - 1 ≤ m + i → m < full → tab.getD m 0 = wy ws m)
    ⟨_, none, none, none, none, none, none, none, rfl, s5, hp5, by simp, fun m h1 h2 => ?_⟩ (fun _ _ _ _ _ => trivial) ?_ ?_⟩
  · have e : m = full - 1 := by omega
    rw [getD_setW (by simp; omega), if_pos e, e, hf, wy_full]
  · rintro i y σ H6 _ hi ⟨tab, u1, u2, u3, u4, u5, u6, u7, rfl, s6, hp6, tl, tok⟩ ⟨rfl, rfl⟩
    have hi' : i + 1 < full := by omega
    obtain ⟨m, hm⟩ : ∃ m : Nat, m = full - (2 + i) := ⟨_, rfl⟩
    have em : (full : Int) - (2 + (i : Int)) = m := by omega
    have pcm : pc m < ws.length := pc_lt ws.length m (by omega)
    obtain ⟨kk, hkk⟩ : ∃ kk, ws.length - pc m = kk + 1 := ⟨ws.length - pc m - 1, by omega⟩
    walk_at "xs"
    rw [em]
    refine ⟨m, rfl, ?_⟩
    walk_at "xs"
    refine ⟨q, xs, rfl, s6.seq hq, for_by turnsE (fun j σ H' => ∃ (v1 v2 v3 : Option V), σ = [some (.ref q), some (.int ws.length), some (.int full), u, some (.ref p), some (.int (2 + (i : Int))), some (.int m), some (.int ((pc m : Int) + 1)), some (.int (contsTo ws kk m j).length), v1, v2, v3] ∧ Same H6 H')
      ⟨u5, u6, u7, rfl, Same.refl _⟩ (fun j σ H' _ ⟨_, _, _, _, s⟩ => (s6.trans s).seq hq) ?_ ?_⟩
    · rintro j y σ H7 H8 hj ⟨v1, v2, v3, rfl, s7⟩ ⟨x, hxj, T, rfl, nT, s8, hT, _⟩
      have hj' : j < ws.length := by omega
      obtain ⟨wi, t, ew, rfl, ht⟩ := hat j x hxj
      have hd : ws.getD j (0, 0) = wi := by rw [List.getD_eq_getElem?_getD, ew]; rfl
      have s68 := (s6.trans s7).trans s8
      refine x_gtup (SqT.of hT) rfl ?_
      walk_at "xs"
      refine x_gtup (seqT_same s68 ht) rfl ?_
      walk_at "xs"
      refine ⟨m, j, rfl, ?_⟩
      have ek : (ws.length : Int) - kk = (pc m : Int) + 1 := by omega
      have cl := contsTo_len ws kk m j
      unfold okB fitB w1 w2 at cl
      rw [hd, ek] at cl
      walk_at "xs"
      walk_at "if"
      · rename_i c1
        walk_at "xs"
        walk_at "if"
        · rename_i c2
          walk_at "xs"
          walk_at "if"
          · rename_i c3
            walk_at "xs"
            refine ⟨m, j, rfl, by omega, ?_⟩
            have c1' : m.testBit j = false := by simpa using c1
            have lt := add_lt j ws.length m hj' (by omega) c1'
            have hp8 := (s7.trans s8) _ _ hp6
            refine x_ixL (SqL.of hp8) (at_getI (Int.natCast_nonneg _) (by rw [tl, hf]; exact Int.ofNat_lt.mpr lt)) ?_
            walk_at "xs"
            rw [Int.toNat_natCast, tok _ (by have := Nat.two_pow_pos j; omega) (by rw [hf]; exact lt)]
            have e2 : wy ws (m + 2 ^ j) = ((conts ws kk (m + 2 ^ j)).length : Nat) := by
              unfold wy
              rw [pc_add j m c1', show ws.length - (pc m + 1) = kk by omega]
            rw [c1', if_pos (by simp; exact ⟨c2, c3⟩)] at cl
            refine ⟨some (.int j), some (.int wi.1), some (.int wi.2), ?_, s7.trans s8⟩
            rw [cl, e2, Int.natCast_add]; rfl
          · rename_i c3
            rw [if_neg (by simp; intro _ _; omega)] at cl
            rw [Nat.add_zero] at cl
            refine ⟨some (.int j), some (.int wi.1), some (.int wi.2), ?_, s7.trans s8⟩
            rw [cl]; rfl
        · rename_i c2
          walk_at "xs"
          rw [if_neg (by simp; intro _ z; omega)] at cl
          rw [Nat.add_zero] at cl
          refine ⟨some (.int j), some (.int wi.1), some (.int wi.2), ?_, s7.trans s8⟩
          rw [cl]; rfl
      · rename_i c1
        have c1' : m.testBit j = true := by simpa using c1
        rw [c1', if_neg (by simp)] at cl
        rw [Nat.add_zero] at cl
        refine ⟨some (.int j), some (.int wi.1), some (.int wi.2), ?_, s7.trans s8⟩
        rw [cl]; rfl
    · rintro σ H7 ⟨v1, v2, v3, rfl, s7⟩
      have hp7 := s7 _ _ hp6
      walk_at "xs"
      refine x_setL hp7 (by omega) (by rw [List.length_map, tl]; omega) ?_
      refine ⟨tab.set m ((contsTo ws kk m ws.length).length : Nat), _, _, _, _, _, _, _, rfl, same_upd (s6.trans s7) np1, ?_, by rw [List.length_set]; exact tl, fun m' h1 h2 => ?_⟩
      · rw [upd_same, List.map_set, show ((m : Int)).toNat = m by omega, hx]
      · rw [getD_setW (by omega)]
        by_cases c : m' = m
        · rw [if_pos c, c]
          unfold wy
          rw [hkk, conts_succ]
        · rw [if_neg c]
          exact tok m' (by omega) h2
  · rintro σ H6 ⟨tab, u1, u2, u3, u4, u5, u6, u7, rfl, s6, hp6, tl, tok⟩
    walk_at "xs"
    exact k p tab H6 np1 s6 hp6 ⟨by rw [tl, hf], fun m hm => tok m (by omega) (by omega)⟩

end Su
namespace Su
open PySem L2
local macro_rules | `(tactic| walk_at "side") => `(tactic| first | assumption | (show (0 : Int) < _; omega) | (show (0 : Int) ≤ _; omega) | (show (0 : Int) < _; split <;> omega) | (show _ ∨ _; omega) | (show _ ∧ _; omega) | exact ⟨by decide, by decide, by decide⟩ | exact ⟨by first | assumption | omega, by first | assumption | omega⟩)
local macro_rules | `(tactic| walk_at "xs") => `(tactic| repeat walk_at "x")
local macro_rules | `(tactic| walk_at "if") => `(tactic| first | with_reducible refine Su.x_iteD (fun c => ?_) (fun c => ?_) | with_reducible refine Su.x_iteN (fun c => ?_) (fun c => ?_) | with_reducible refine Su.x_ite (fun c => ?_) (fun c => ?_))

/-! the row of all orders: shares, places, lesser ones first -/
/-- the lesser number at the first place where they differ -/
def lexLt : List Nat → List Nat → Prop
  | x :: a, y :: b => x < y ∨ (x = y ∧ lexLt a b)
  | _, _ => False
theorem lexLt_irr : ∀ a : List Nat, ¬ lexLt a a
  | [], h => h
  | x :: a, h => by
    rcases h with h | ⟨_, h⟩
    · exact Nat.lt_irrefl _ h
    · exact lexLt_irr a h
theorem conts_lex (ws : List (Int × Int)) : ∀ k m, (conts ws k m).Pairwise lexLt
  | 0, m => List.pairwise_singleton _ _
  | k + 1, m => by
    rw [conts_succ]
    have key : ∀ j, (contsTo ws k m j).Pairwise lexLt ∧ ∀ r ∈ contsTo ws k m j, ∃ x t, r = x :: t ∧ x < j := by
      intro j
      induction j with
      | zero => exact ⟨List.Pairwise.nil, fun r h => nomatch h⟩
      | succ j ih =>
        rw [contsTo_succ]
        by_cases c : okB ws m ((ws.length : Int) - k) j = true
        · rw [if_pos c]
          refine ⟨List.pairwise_append.mpr ⟨ih.1, ?_, ?_⟩, fun r hr => ?_⟩
          · rw [List.pairwise_map]
            exact (conts_lex ws k (m + 2 ^ j)).imp fun h => .inr ⟨rfl, h⟩
          · intro a ha b hb
            obtain ⟨x, t, rfl, hx⟩ := ih.2 a ha
            obtain ⟨u, _, rfl⟩ := List.mem_map.mp hb
            exact .inl hx
          · rcases List.mem_append.mp hr with h | h
            · obtain ⟨x, t, e, hx⟩ := ih.2 r h
              exact ⟨x, t, e, by omega⟩
            · obtain ⟨u, _, rfl⟩ := List.mem_map.mp h
              exact ⟨j, u, rfl, by omega⟩
        · rw [if_neg c, List.append_nil]
          exact ⟨ih.1, fun r hr => by
            obtain ⟨x, t, e, hx⟩ := ih.2 r hr
            exact ⟨x, t, e, by omega⟩⟩
    exact (key ws.length).1
/-- all orders, in their row -/
def allO (ws : List (Int × Int)) : List (List Nat) := conts ws ws.length 0
theorem mem_allO {ws : List (Int × Int)} {row : List Nat} : row ∈ allO ws ↔ IsOrder ws row := mem_all ws row
theorem wy_zero (ws : List (Int × Int)) : wy ws 0 = ((allO ws).length : Nat) := by
  unfold wy allO
  rw [pc_zero, Nat.sub_zero]
end Su
namespace Su
open PySem L2
local macro_rules | `(tactic| walk_at "side") => `(tactic| first | assumption | (show (0 : Int) < _; omega) | (show (0 : Int) ≤ _; omega) | (show (0 : Int) < _; split <;> omega) | (show _ ∨ _; omega) | (show _ ∧ _; omega) | exact ⟨by decide, by decide, by decide⟩ | exact ⟨by first | assumption | omega, by first | assumption | omega⟩)
local macro_rules | `(tactic| walk_at "x") => `(tactic| first | with_reducible refine Su.x_seq ?_ | with_reducible refine Su.x_gname ?_ | with_reducible refine Su.x_ret ?_ | with_reducible refine Su.x_ifS ?_ | ((with_reducible show L2.tVar _ _ _ _); refine Su.x_var rfl ?_) | with_reducible refine Su.x_c ?_ | with_reducible refine Su.x_op ?_ | with_reducible refine Su.x_rI0 ?_ | with_reducible refine Su.x_iteT ?_ | with_reducible refine Su.x_iteNF ?_ | with_reducible refine Su.x_neI ?_ | with_reducible refine Su.x_test ?_ | with_reducible refine Su.x_isB' ?_ | with_reducible refine Su.x_not ?_ | with_reducible refine Su.x_or ?_ | with_reducible refine Su.x_chain ?_ | with_reducible refine Su.x_nil ?_ | with_reducible refine Su.x_cons ?_ | with_reducible refine Su.x_cb ?_ | with_reducible refine Su.x_next ?_ | with_reducible refine Su.x_for ?_ | with_reducible refine Su.x_iEnum ?_ | with_reducible refine Su.x_gcons ?_ | with_reducible refine Su.x_gnil ?_ | with_reducible refine Su.x_isI ?_ | with_reducible refine Su.x_lstRg ?_ | with_reducible refine Su.x_rg1 ?_)
local macro_rules | `(tactic| walk_at "xs") => `(tactic| repeat walk_at "x")
local macro_rules | `(tactic| walk_at "if") => `(tactic| first | with_reducible refine Su.x_iteD (fun c => ?_) (fun c => ?_) | with_reducible refine Su.x_iteN (fun c => ?_) (fun c => ?_) | with_reducible refine Su.x_ite (fun c => ?_) (fun c => ?_))

/-! _law_keeps: is a row of numbers an order of the windows -/
theorem perm_of_order {ws : List (Int × Int)} {r : List Nat} (o : IsOrder ws r) : r.Perm (List.range ws.length) := by
  rw [List.perm_ext_iff_of_nodup o.nd List.nodup_range]
  intro a
  rw [List.mem_range]
  exact ⟨o.lt a, fun h => nodup_all o.nd o.len o.lt h⟩
end Su
namespace Su
open PySem L2
local macro_rules | `(tactic| walk_at "side") => `(tactic| first | assumption | (show (0 : Int) < _; omega) | (show (0 : Int) ≤ _; omega) | (show (0 : Int) < _; split <;> omega) | (show _ ∨ _; omega) | (show _ ∧ _; omega) | exact ⟨by decide, by decide, by decide⟩ | exact ⟨by first | assumption | omega, by first | assumption | omega⟩)
local macro_rules | `(tactic| walk_at "x") => `(tactic| first
  | with_reducible refine Su.x_seq ?_ | with_reducible refine Su.x_asg ?_ | with_reducible refine Su.x_gname ?_ | with_reducible refine Su.x_drop ?_ | with_reducible refine Su.x_ret ?_ | with_reducible refine Su.x_ifS ?_
  | ((with_reducible show L2.tVar _ _ _ _); refine Su.x_var rfl ?_) | with_reducible refine Su.x_c ?_ | with_reducible refine Su.x_op ?_ | with_reducible refine Su.x_rI0 ?_ | ((with_reducible refine Su.x_rI ?_ ?_); focus walk_at "side")
  | ((with_reducible show L2.rIxL _ (L2.V.ref _) (L2.V.int _) _ _); refine Su.x_ixI (by assumption) (by first | decide | omega) (by omega) ?_) | with_reducible refine Su.x_isi_int_int ?_ | with_reducible refine Su.x_isi_int_bool ?_ | with_reducible refine Su.x_isi_int_str ?_ | with_reducible refine Su.x_isi_int_list ?_ | with_reducible refine Su.x_isi_int_tuple ?_ | with_reducible refine Su.x_isi_bool_int ?_ | with_reducible refine Su.x_isi_bool_bool ?_ | with_reducible refine Su.x_isi_bool_str ?_ | with_reducible refine Su.x_isi_bool_list ?_ | with_reducible refine Su.x_isi_bool_tuple ?_ | with_reducible refine Su.x_isi_str_int ?_ | with_reducible refine Su.x_isi_str_bool ?_ | with_reducible refine Su.x_isi_str_str ?_ | with_reducible refine Su.x_isi_str_list ?_ | with_reducible refine Su.x_isi_str_tuple ?_ | with_reducible refine Su.x_isi_NoneType_int ?_ | with_reducible refine Su.x_isi_NoneType_bool ?_ | with_reducible refine Su.x_isi_NoneType_str ?_ | with_reducible refine Su.x_isi_NoneType_list ?_ | with_reducible refine Su.x_isi_NoneType_tuple ?_ | with_reducible refine Su.x_rGt ?_ | with_reducible refine Su.x_rGe ?_ | with_reducible refine Su.x_iteF ?_ | with_reducible refine Su.x_iteT ?_ | with_reducible refine Su.x_iteNT ?_ | with_reducible refine Su.x_iteNF ?_ | with_reducible refine Su.x_eqI ?_ | with_reducible refine Su.x_neI ?_ | with_reducible refine Su.x_eqS ?_ | with_reducible refine Su.x_neS ?_ | with_reducible refine Su.x_eqB ?_ | with_reducible refine Su.x_neB ?_
  | with_reducible refine Su.x_test ?_ | with_reducible refine Su.x_tB ?_ | with_reducible refine Su.x_isB ?_ | with_reducible refine Su.x_isB' ?_ | with_reducible refine Su.x_not ?_ | with_reducible refine Su.x_and ?_ | with_reducible refine Su.x_or ?_
  | with_reducible refine Su.x_andV ?_ | with_reducible refine Su.x_orV ?_ | with_reducible refine Su.x_notV ?_ | with_reducible refine Su.x_chain ?_ | with_reducible refine Su.x_nil ?_ | with_reducible refine Su.x_cons ?_ | with_reducible refine Su.x_cb ?_ | with_reducible refine Su.x_call ?_
  | with_reducible refine Su.x_un ?_ | with_reducible refine Su.x_rU ?_ | with_reducible refine Su.x_abs ?_ | with_reducible refine Su.x_max2 ?_ | with_reducible refine Su.x_min2 ?_ | with_reducible refine Su.x_int1 ?_ | with_reducible refine Su.x_intB ?_
  | with_reducible refine Su.x_lst ?_ | with_reducible refine Su.x_tup ?_ | with_reducible refine Su.x_bmL ?_ | with_reducible refine Su.x_next ?_ | with_reducible refine Su.x_for ?_ | with_reducible refine Su.x_iList ?_ | with_reducible refine Su.x_iRng1 ?_ | with_reducible refine Su.x_iRng2 ?_ | with_reducible refine Su.x_whileN ?_ | with_reducible refine Su.x_iEnum ?_ | with_reducible refine Su.x_iZip ?_ | with_reducible refine Su.x_iZipA ?_ | with_reducible refine Su.x_iTup ?_ | with_reducible refine Su.x_gcons ?_ | with_reducible refine Su.x_gnil ?_ | with_reducible refine Su.x_gsub ?_ | with_reducible refine Su.x_yes ?_ | with_reducible refine Su.x_lc ?_ | with_reducible refine Su.x_sl ?_ | with_reducible refine Su.x_nopart ?_ | with_reducible refine Su.x_part ?_ | with_reducible refine Su.x_isI ?_ | with_reducible refine Su.x_lstRg ?_ | with_reducible refine Su.x_rg1 ?_ | with_reducible refine Su.x_augS ?_ | with_reducible refine Su.x_ipI ?_ | ((with_reducible show L2.tAug _ _ _ _ _ _); refine Su.x_aug rfl ?_) | with_reducible refine Su.x_callS ?_ | with_reducible refine Su.x_tryAs ?_)
local macro_rules | `(tactic| walk_at "xs") => `(tactic| repeat walk_at "x")
local macro_rules | `(tactic| walk_at "if") => `(tactic| first | with_reducible refine Su.x_iteD (fun c => ?_) (fun c => ?_) | with_reducible refine Su.x_iteN (fun c => ?_) (fun c => ?_) | with_reducible refine Su.x_ite (fun c => ?_) (fun c => ?_))
/-! k09: orders counted window by window, over growing lists of rounds -/
def ins (x : Nat) : List Nat → List Nat
  | [] => [x]
  | y :: l => if x < y then x :: y :: l else y :: ins x l
theorem mem_ins {x y : Nat} : ∀ {l : List Nat}, y ∈ ins x l ↔ y = x ∨ y ∈ l
  | [] => by simp [ins]
  | z :: l => by
    unfold ins
    split
    · simp
    · rw [List.mem_cons, mem_ins, List.mem_cons]; exact or_left_comm
theorem inc_ins {x : Nat} : ∀ {l : List Nat}, l.Pairwise (· < ·) → x ∉ l → (ins x l).Pairwise (· < ·)
  | [], _, _ => List.pairwise_singleton _ _
  | y :: l, h, n => by
    obtain ⟨h1, h2⟩ := List.pairwise_cons.mp h
    unfold ins
    split
    · rename_i c
      refine List.pairwise_cons.mpr ⟨fun z hz => ?_, h⟩
      rcases List.mem_cons.mp hz with rfl | hz
      · exact c
      · exact Nat.lt_trans c (h1 z hz)
    · rename_i c
      have xy : x ≠ y := fun z => n (by rw [z]; exact List.mem_cons_self)
      refine List.pairwise_cons.mpr ⟨fun z hz => ?_, inc_ins h2 fun z => n (List.mem_cons_of_mem _ z)⟩
      rcases mem_ins.mp hz with rfl | hz
      · omega
      · exact h1 z hz
theorem ins_len {x : Nat} : ∀ {l : List Nat}, (ins x l).length = l.length + 1
  | [] => rfl
  | y :: l => by
    unfold ins
    split
    · rfl
    · rw [List.length_cons, ins_len, List.length_cons]
theorem inc_eqN {l m : List Nat} (h1 : l.Pairwise (· < ·)) (h2 : m.Pairwise (· < ·)) (h : ∀ k, k ∈ l ↔ k ∈ m) : l = m := by
  induction l generalizing m with
  | nil =>
    cases m with
    | nil => rfl
    | cons y m => exact absurd ((h y).mpr List.mem_cons_self) (by simp)
  | cons x l ih =>
    cases m with
    | nil => exact absurd ((h x).mp List.mem_cons_self) (by simp)
    | cons y m =>
      obtain ⟨a1, a2⟩ := List.pairwise_cons.mp h1
      obtain ⟨b1, b2⟩ := List.pairwise_cons.mp h2
      have e : x = y := by
        have p := (h x).mp List.mem_cons_self
        have q := (h y).mpr List.mem_cons_self
        rcases List.mem_cons.mp p with p | p
        · exact p
        rcases List.mem_cons.mp q with q | q
        · exact q.symm
        have := a1 y q
        have := b1 x p
        omega
      subst e
      rw [ih a2 b2 fun k => ?_]
      have := h k
      rw [List.mem_cons, List.mem_cons] at this
      constructor
      · intro hk
        rcases this.mp (.inr hk) with z | z
        · have := a1 k hk; omega
        · exact z
      · intro hk
        rcases this.mpr (.inr hk) with z | z
        · have := b1 k hk; omega
        · exact z
def ctN (l : List (List Nat × Int)) (S : List Nat) : Int := (lookN l S).getD 0
def stepN (p : List Nat × Int) (l : List (List Nat × Int)) (t : Nat) : List (List Nat × Int) := if t ∈ p.1 then l else putN l (ins t p.1) (ctN l (ins t p.1) + p.2)
theorem ct_step {p : List Nat × Int} {l : List (List Nat × Int)} {t : Nat} {S : List Nat} : ctN (stepN p l t) S = ctN l S + p.2 * (if t ∉ p.1 ∧ ins t p.1 = S then 1 else 0) := by
  unfold stepN
  by_cases m : t ∈ p.1
  · rw [if_pos m, if_neg (fun z => z.1 m)]; omega
  · rw [if_neg m]
    by_cases e : ins t p.1 = S
    · rw [if_pos ⟨m, e⟩, ← e]
      show (lookN _ _).getD 0 = _
      rw [lookN_put, if_pos rfl]
      show _ = _ + p.2 * 1
      rw [Int.mul_one]; rfl
    · rw [if_neg (fun z => e z.2)]
      show (lookN _ _).getD 0 = _
      rw [lookN_put, if_neg (fun z => e z.symm), Int.mul_zero, Int.add_zero]; rfl
def gS (U S ts : List Nat) : Int := (ts.map fun t => if t ∉ U ∧ ins t U = S then (1 : Int) else 0).sum
theorem gS_cons {U S : List Nat} {t : Nat} {ts : List Nat} : gS U S (t :: ts) = (if t ∉ U ∧ ins t U = S then (1 : Int) else 0) + gS U S ts := by
  unfold gS
  rw [List.map_cons, List.sum_cons]
theorem ct_turns {p : List Nat × Int} {S : List Nat} : ∀ (ts : List Nat) (l : List (List Nat × Int)), ctN (ts.foldl (stepN p) l) S = ctN l S + p.2 * gS p.1 S ts
  | [], l => by show _ = _ + p.2 * 0; rw [Int.mul_zero, Int.add_zero]; rfl
  | t :: ts, l => by rw [List.foldl_cons, ct_turns ts, ct_step, gS_cons, Int.mul_add]; omega
def rndN (ts : List Nat) (tbl l : List (List Nat × Int)) : List (List Nat × Int) := tbl.foldl (fun l p => ts.foldl (stepN p) l) l
theorem ct_rnd {ts S : List Nat} : ∀ (tbl l : List (List Nat × Int)), ctN (rndN ts tbl l) S = ctN l S + (tbl.map fun p => p.2 * gS p.1 S ts).sum
  | [], l => by show _ = _ + 0; rw [Int.add_zero]; rfl
  | p :: tbl, l => by
    show ctN (rndN ts tbl (ts.foldl (stepN p) l)) S = _
    rw [ct_rnd tbl, ct_turns, List.map_cons, List.sum_cons]; omega
/-! the same, set by set -/
def nxt (ts : List Nat) (X : List (List Nat)) : List (List Nat) := X.flatMap fun U => (ts.filter fun t => decide (t ∉ U)).map fun t => ins t U
theorem cnt_one {U S : List Nat} : ∀ ts : List Nat, ((((ts.filter fun t => decide (t ∉ U)).map fun t => ins t U).count S : Nat) : Int) = gS U S ts
  | [] => rfl
  | t :: ts => by
    rw [gS_cons, List.filter_cons]
    by_cases m : t ∉ U
    · rw [if_pos (by simpa using m), List.map_cons, List.count_cons, Int.natCast_add, cnt_one ts]
      by_cases e : ins t U = S
      · rw [if_pos (by simpa using e), if_pos ⟨m, e⟩]; show _ + (1 : Int) = _; omega
      · rw [if_neg (by simpa using e), if_neg (fun z => e z.2)]; show _ + (0 : Int) = _; omega
    · rw [if_neg (by simpa using m), cnt_one ts, if_neg (fun z => m z.1)]; omega
theorem cnt_nxt {ts S : List Nat} : ∀ X : List (List Nat), (((nxt ts X).count S : Nat) : Int) = (X.map fun U => gS U S ts).sum
  | [] => rfl
  | U :: X => by
    show (((((ts.filter fun t => decide (t ∉ U)).map fun t => ins t U) ++ nxt ts X).count S : Nat) : Int) = _
    rw [List.count_append, Int.natCast_add, cnt_one, cnt_nxt X, List.map_cons, List.sum_cons]
structure CtOk (X : List (List Nat)) (tbl : List (List Nat × Int)) : Prop where
  nd : (keysN tbl).Nodup
  at_ : ∀ S, ctN tbl S = ((X.count S : Nat) : Int)
theorem ok_start : CtOk [[]] [([], 1)] := ⟨by decide, fun S => by
  show (lookN [([], 1)] S).getD 0 = _
  rw [lookN_cons, List.count_cons]
  by_cases e : S = []
  · subst e; rfl
  · rw [if_neg (fun z => e z.symm), if_neg (by simpa using e)]; rfl⟩
theorem CtOk.cover {X : List (List Nat)} {tbl : List (List Nat × Int)} (h : CtOk X tbl) : ∀ S ∈ X, S ∈ keysN tbl := fun S hS => by
  have c : 0 < X.count S := List.count_pos_iff.mpr hS
  have e := h.at_ S
  by_cases m : S ∈ keysN tbl
  · exact m
  · have : lookN tbl S = none := lookN_none.mpr m
    unfold ctN at e
    rw [this] at e
    have e : (0 : Int) = _ := e
    omega
theorem sum_add' {α : Type} (a b : α → Int) : ∀ l : List α, (l.map fun x => a x + b x).sum = (l.map a).sum + (l.map b).sum
  | [] => rfl
  | x :: l => by simp only [List.map_cons, List.sum_cons]; rw [sum_add' a b l]; omega
theorem sum_none {S : List Nat} (g : List Nat → Int) : ∀ tbl : List (List Nat × Int), S ∉ keysN tbl → (tbl.map fun p => (if S = p.1 then (1 : Int) else 0) * g p.1).sum = 0
  | [], _ => rfl
  | p :: tbl, h => by
    have h1 : S ≠ p.1 := fun z => h (by rw [z]; exact List.mem_cons_self)
    rw [List.map_cons, List.sum_cons, if_neg h1, sum_none g tbl fun z => h (List.mem_cons_of_mem _ z), Int.zero_mul]; rfl
theorem sum_one' {S : List Nat} (g : List Nat → Int) : ∀ tbl : List (List Nat × Int), (keysN tbl).Nodup → S ∈ keysN tbl → (tbl.map fun p => (if S = p.1 then (1 : Int) else 0) * g p.1).sum = g S
  | [], _, h => nomatch h
  | p :: tbl, nd, h => by
    obtain ⟨n1, n2⟩ := List.nodup_cons.mp nd
    rw [List.map_cons, List.sum_cons]
    by_cases e : S = p.1
    · rw [if_pos e, sum_none g tbl (by rw [e]; exact n1), Int.one_mul, Int.add_zero, e]
    · rw [if_neg e, Int.zero_mul, Int.zero_add]
      rcases List.mem_cons.mp h with z | z
      · exact absurd z e
      · exact sum_one' g tbl n2 z
theorem sum_keys {tbl : List (List Nat × Int)} (nd : (keysN tbl).Nodup) (g : List Nat → Int) : ∀ X : List (List Nat), (∀ S ∈ X, S ∈ keysN tbl) → (tbl.map fun p => ((X.count p.1 : Nat) : Int) * g p.1).sum = (X.map g).sum
  | [], _ => by
    have : ∀ l : List (List Nat × Int), (l.map fun p => ((([] : List (List Nat)).count p.1 : Nat) : Int) * g p.1).sum = 0 := fun l => by
      induction l with
      | nil => rfl
      | cons p l ih => rw [List.map_cons, List.sum_cons, ih]; show (0 : Int) * _ + 0 = 0; rw [Int.zero_mul]; rfl
    exact this tbl
  | S :: X, h => by
    rw [List.map_cons, List.sum_cons, ← sum_keys nd g X fun T hT => h T (List.mem_cons_of_mem _ hT), ← sum_one' g tbl nd (h S List.mem_cons_self), ← sum_add']
    congr 1
    refine List.map_congr_left fun p _ => ?_
    rw [List.count_cons, Int.natCast_add, Int.add_mul, Int.add_comm]
    congr 2
    by_cases e : S = p.1
    · rw [if_pos (by simpa using e), if_pos e]; rfl
    · rw [if_neg (by simpa using e), if_neg e]; rfl
theorem look_mem {tbl : List (List Nat × Int)} (nd : (keysN tbl).Nodup) {p : List Nat × Int} (h : p ∈ tbl) : lookN tbl p.1 = some p.2 := by
  induction tbl with
  | nil => cases h
  | cons q tbl ih =>
    obtain ⟨n1, n2⟩ := List.nodup_cons.mp nd
    rw [lookN_cons]
    rcases List.mem_cons.mp h with z | z
    · rw [z, if_pos rfl]
    · rw [if_neg (fun e => n1 (by show q.1 ∈ keysN tbl; rw [e]; exact List.mem_map.mpr ⟨p, z, rfl⟩))]
      exact ih n2 z
theorem put_ndN {l : List (List Nat × Int)} {w : List Nat} {a : Int} (h : (keysN l).Nodup) : (keysN (putN l w a)).Nodup := by
  rw [keysN_put]
  split
  · exact h
  · rename_i c
    rw [List.nodup_append]
    refine ⟨h, by simp, fun x hx y hy e => ?_⟩
    rw [List.mem_singleton] at hy
    exact c (by rw [← hy, ← e]; exact hx)
theorem step_nd {p : List Nat × Int} {l : List (List Nat × Int)} {t : Nat} (h : (keysN l).Nodup) : (keysN (stepN p l t)).Nodup := by
  unfold stepN
  split
  · exact h
  · exact put_ndN h
theorem turns_nd {p : List Nat × Int} : ∀ (ts : List Nat) (l : List (List Nat × Int)), (keysN l).Nodup → (keysN (ts.foldl (stepN p) l)).Nodup
  | [], _, h => h
  | t :: ts, l, h => turns_nd ts _ (step_nd h)
theorem rnd_nd {ts : List Nat} : ∀ (tbl l : List (List Nat × Int)), (keysN l).Nodup → (keysN (rndN ts tbl l)).Nodup
  | [], _, h => h
  | p :: tbl, l, h => rnd_nd tbl _ (turns_nd ts l h)
theorem ok_rnd {X : List (List Nat)} {tbl : List (List Nat × Int)} {ts : List Nat} (h : CtOk X tbl) : CtOk (nxt ts X) (rndN ts tbl []) := by
  refine ⟨rnd_nd tbl [] .nil, fun S => ?_⟩
  rw [ct_rnd, cnt_nxt, ← sum_keys h.nd (fun U => gS U S ts) X h.cover]
  show (0 : Int) + _ = _
  rw [Int.zero_add]
  congr 1
  refine List.map_congr_left fun p hp => ?_
  have := h.at_ p.1
  unfold ctN at this
  rw [look_mem h.nd hp] at this
  rw [← this]; rfl
/-! windows filled one by one -/
def ext (A : List (List Nat)) (ts : List Nat) : List (List Nat) := A.flatMap fun t => (ts.filter fun x => decide (x ∉ t)).map fun x => t ++ [x]
def asg (TS : List (List Nat)) : List (List Nat) := TS.foldl ext [[]]
def srt (t : List Nat) : List Nat := t.foldl (fun l x => ins x l) []
theorem srt_snoc {t : List Nat} {x : Nat} : srt (t ++ [x]) = ins x (srt t) := by unfold srt; rw [List.foldl_append]; rfl
theorem mem_fold {y : Nat} : ∀ (t l : List Nat), y ∈ t.foldl (fun l x => ins x l) l ↔ y ∈ t ∨ y ∈ l
  | [], l => by simp
  | x :: t, l => by
    rw [List.foldl_cons, mem_fold t, mem_ins, List.mem_cons]
    constructor
    · rintro (h | h | h)
      · exact .inl (.inr h)
      · exact .inl (.inl h)
      · exact .inr h
    · rintro ((h | h) | h)
      · exact .inr (.inl h)
      · exact .inl h
      · exact .inr (.inr h)
theorem mem_srt {y : Nat} {t : List Nat} : y ∈ srt t ↔ y ∈ t := by unfold srt; rw [mem_fold]; simp
theorem inc_fold : ∀ (t l : List Nat), l.Pairwise (· < ·) → t.Nodup → (∀ x ∈ t, x ∉ l) → (t.foldl (fun l x => ins x l) l).Pairwise (· < ·)
  | [], l, h, _, _ => h
  | x :: t, l, h, nd, dj => by
    obtain ⟨n1, n2⟩ := List.nodup_cons.mp nd
    refine inc_fold t (ins x l) (inc_ins h (dj x List.mem_cons_self)) n2 fun y hy hm => ?_
    rcases mem_ins.mp hm with z | z
    · exact n1 (by rw [← z]; exact hy)
    · exact dj y (List.mem_cons_of_mem _ hy) z
theorem inc_srt {t : List Nat} (h : t.Nodup) : (srt t).Pairwise (· < ·) := inc_fold t [] .nil h fun _ _ z => nomatch z
theorem nxt_ext {ts : List Nat} {A : List (List Nat)} : nxt ts (A.map srt) = (ext A ts).map srt := by
  unfold nxt ext
  rw [List.flatMap_map, List.map_flatMap]
  congr 1
  funext t
  rw [List.map_map]
  have e : (ts.filter fun x => decide (x ∉ srt t)) = ts.filter fun x => decide (x ∉ t) := by
    congr 1
    funext x
    exact decide_eq_decide.mpr (not_congr mem_srt)
  rw [e]
  exact List.map_congr_left fun x _ => srt_snoc.symm
def allX (TS : List (List Nat)) : List (List Nat) := TS.foldl (fun X ts => nxt ts X) [[]]
theorem allX_asg (TS : List (List Nat)) : allX TS = (asg TS).map srt := by
  have : ∀ (TS A : List (List Nat)), TS.foldl (fun X ts => nxt ts X) (A.map srt) = (TS.foldl ext A).map srt := by
    intro TS
    induction TS with
    | nil => intro A; rfl
    | cons ts TS ih =>
      intro A
      rw [List.foldl_cons, List.foldl_cons, nxt_ext, ih]
  exact this TS [[]]
theorem cnt_map {S : List Nat} : ∀ A : List (List Nat), (A.map srt).count S = (A.filter fun t => decide (srt t = S)).length
  | [] => rfl
  | t :: A => by
    rw [List.map_cons, List.count_cons, cnt_map A, List.filter_cons]
    by_cases e : srt t = S
    · rw [if_pos (by simpa using e), if_pos (decide_eq_true e)]; rfl
    · rw [if_neg (by simpa using e), if_neg (by simpa using e)]; rfl
theorem mem_ext {A : List (List Nat)} {ts t : List Nat} : t ∈ ext A ts ↔ ∃ t0 ∈ A, ∃ x ∈ ts, x ∉ t0 ∧ t = t0 ++ [x] := by
  unfold ext
  rw [List.mem_flatMap]
  constructor
  · rintro ⟨t0, h0, h⟩
    obtain ⟨x, hx, rfl⟩ := List.mem_map.mp h
    obtain ⟨h1, h2⟩ := List.mem_filter.mp hx
    exact ⟨t0, h0, x, h1, of_decide_eq_true h2, rfl⟩
  · rintro ⟨t0, h0, x, h1, h2, rfl⟩
    exact ⟨t0, h0, List.mem_map.mpr ⟨x, List.mem_filter.mpr ⟨h1, decide_eq_true h2⟩, rfl⟩⟩
theorem asg_succ {TS : List (List Nat)} {k : Nat} (h : k < TS.length) : asg (TS.take (k + 1)) = ext (asg (TS.take k)) TS[k] := by
  unfold asg
  rw [List.take_add_one, List.getElem?_eq_getElem h, List.foldl_append]; rfl
theorem mem_asg {TS : List (List Nat)} : ∀ k, k ≤ TS.length → ∀ t, t ∈ asg (TS.take k) ↔ t.length = k ∧ t.Nodup ∧ ∀ i (h1 : i < t.length) (h2 : i < TS.length), t[i] ∈ TS[i]
  | 0, _, t => by
    show t ∈ [[]] ↔ _
    rw [List.mem_singleton]
    constructor
    · rintro rfl; exact ⟨rfl, .nil, fun i h => absurd h (Nat.not_lt_zero _)⟩
    · rintro ⟨h, _⟩; exact List.length_eq_zero_iff.mp h
  | k + 1, hk, t => by
    rw [asg_succ (by omega), mem_ext]
    constructor
    · rintro ⟨t0, h0, x, hx, nx, rfl⟩
      obtain ⟨l0, n0, f0⟩ := (mem_asg k (by omega) t0).mp h0
      refine ⟨by rw [List.length_append, l0]; rfl, ?_, fun i h1 h2 => ?_⟩
      · rw [List.nodup_append]
        exact ⟨n0, by simp, fun a ha b hb e => nx (by rw [← List.mem_singleton.mp hb, ← e]; exact ha)⟩
      · by_cases c : i < t0.length
        · rw [List.getElem_append_left c]; exact f0 i c h2
        · have e : i = k := by rw [List.length_append, l0] at h1; have : i < k + 1 := h1; omega
          subst e
          rw [List.getElem_append_right (by omega)]
          simpa [l0] using hx
    · rintro ⟨l, nd, f⟩
      have hk' : k < t.length := by omega
      have e : t = t.take k ++ [t[k]] := by
        have := List.take_append_drop k t
        rw [List.drop_eq_getElem_cons hk', List.drop_eq_nil_of_le (by omega)] at this
        exact this.symm
      have nd2 := nd
      rw [e, List.nodup_append] at nd2
      refine ⟨t.take k, (mem_asg k (by omega) _).mpr ⟨by rw [List.length_take]; omega, nd2.1, fun i h1 h2 => ?_⟩, t[k], f k hk' (by omega), fun z => nd2.2.2 _ z _ (List.mem_singleton.mpr rfl) rfl, e⟩
      rw [List.getElem_take]
      rw [List.length_take] at h1
      exact f i (by omega) h2
theorem nd_asg {TS : List (List Nat)} (hT : ∀ ts ∈ TS, ts.Nodup) : ∀ k, k ≤ TS.length → (asg (TS.take k)).Nodup
  | 0, _ => by show [[]].Nodup; decide
  | k + 1, hk => by
    rw [asg_succ (by omega)]
    have ih := nd_asg hT k (by omega)
    unfold ext
    unfold List.Nodup
    rw [List.pairwise_flatMap]
    refine ⟨fun t _ => ?_, ?_⟩
    · rw [List.pairwise_map]
      have : (TS[k]'(by omega)).Nodup := hT _ (List.getElem_mem _)
      exact (this.filter _).imp fun h z => h (by have := List.append_cancel_left z; simpa using this)
    · refine List.Pairwise.imp ?_ ih
      intro a b h x hx y hy e
      obtain ⟨x0, _, rfl⟩ := List.mem_map.mp hx
      obtain ⟨y0, _, rfl⟩ := List.mem_map.mp hy
      exact h (List.append_inj' e rfl).1
/-! .. and orders -/
def rnds (n : Nat) : List Nat := (List.range n).map (· + 1)
theorem inc_rnds (n : Nat) : (rnds n).Pairwise (· < ·) := by
  unfold rnds
  rw [List.pairwise_map]
  exact List.pairwise_lt_range.imp fun h => Nat.succ_lt_succ h
theorem mem_rnds {n x : Nat} : x ∈ rnds n ↔ 1 ≤ x ∧ x ≤ n := by
  unfold rnds
  rw [List.mem_map]
  constructor
  · rintro ⟨y, hy, rfl⟩
    rw [List.mem_range] at hy
    omega
  · rintro ⟨h1, h2⟩
    exact ⟨x - 1, List.mem_range.mpr (by omega), by omega⟩
def tns (w : Int × Int) : List Nat := (List.range (w.2 + 1 - w.1).toNat).map (w.1.toNat + ·)
theorem mem_tns {w : Int × Int} {x : Nat} (h : 1 ≤ w.1) : x ∈ tns w ↔ w.1 ≤ (x : Int) ∧ (x : Int) ≤ w.2 := by
  unfold tns
  rw [List.mem_map]
  constructor
  · rintro ⟨y, hy, rfl⟩
    rw [List.mem_range] at hy
    omega
  · rintro ⟨h1, h2⟩
    exact ⟨x - w.1.toNat, List.mem_range.mpr (by omega), by omega⟩
theorem nd_tns {w : Int × Int} : (tns w).Nodup := by
  unfold tns List.Nodup
  rw [List.pairwise_map]
  exact List.pairwise_lt_range.imp fun h => by omega
structure GoodT (ws : List (Int × Int)) (t : List Nat) : Prop where
  len : t.length = ws.length
  nd : t.Nodup
  mem : ∀ x, x ∈ t ↔ 1 ≤ x ∧ x ≤ ws.length
  fit : ∀ i (h : i < t.length), w1 ws i ≤ (t[i] : Int) ∧ (t[i] : Int) ≤ w2 ws i
theorem w_at {ws : List (Int × Int)} {i : Nat} (h : i < ws.length) : w1 ws i = ws[i].1 ∧ w2 ws i = ws[i].2 := by
  unfold w1 w2
  rw [List.getD_eq_getElem?_getD, List.getElem?_eq_getElem h]
  exact ⟨rfl, rfl⟩
theorem mem_good {ws : List (Int × Int)} (ok : ∀ w ∈ ws, 1 ≤ w.1) {t : List Nat} : t ∈ (asg (ws.map tns)).filter (fun t => decide (srt t = rnds ws.length)) ↔ GoodT ws t := by
  have tk : (ws.map tns).take ws.length = ws.map tns := List.take_of_length_le (by rw [List.length_map]; omega)
  have m := mem_asg (TS := ws.map tns) ws.length (by rw [List.length_map]; omega) t
  rw [tk] at m
  rw [List.mem_filter, m, decide_eq_true_eq]
  constructor
  · rintro ⟨⟨l, nd, f⟩, e⟩
    refine ⟨l, nd, fun x => by rw [← mem_srt, e]; exact mem_rnds, fun i h => ?_⟩
    have hi : i < ws.length := by omega
    have := f i h (by rw [List.length_map]; exact hi)
    rw [List.getElem_map, mem_tns (ok _ (List.getElem_mem hi))] at this
    rw [(w_at hi).1, (w_at hi).2]; exact this
  · intro g
    refine ⟨⟨g.len, g.nd, fun i h h2 => ?_⟩, inc_eqN (inc_srt g.nd) (inc_rnds _) fun x => by rw [mem_srt, g.mem, mem_rnds]⟩
    have hi : i < ws.length := by rw [← g.len]; exact h
    rw [List.getElem_map, mem_tns (ok _ (List.getElem_mem hi)), ← (w_at hi).1, ← (w_at hi).2]
    exact g.fit i h
def toRow (t : List Nat) : List Nat := (List.range t.length).map fun r => t.idxOf (r + 1)
def toTurns (row : List Nat) : List Nat := (List.range row.length).map fun i => row.idxOf i + 1
theorem toRow_at {t : List Nat} {r : Nat} (h : r < t.length) : (toRow t)[r]? = some (t.idxOf (r + 1)) := by
  unfold toRow
  rw [List.getElem?_map, List.getElem?_range h]; rfl
theorem toTurns_at {t : List Nat} {r : Nat} (h : r < t.length) : (toTurns t)[r]? = some (t.idxOf r + 1) := by
  unfold toTurns
  rw [List.getElem?_map, List.getElem?_range h]; rfl
theorem idx_lt {t : List Nat} {x : Nat} (h : x ∈ t) : t.idxOf x < t.length := List.idxOf_lt_length_iff.mpr h
theorem idx_get {t : List Nat} {x : Nat} (h : x ∈ t) : t[t.idxOf x]'(idx_lt h) = x := List.getElem_idxOf (idx_lt h)
theorem get_idx {t : List Nat} (nd : t.Nodup) {i : Nat} (h : i < t.length) : t.idxOf t[i] = i := by
  have m := List.getElem_mem h
  have e := idx_get m
  rcases Nat.lt_trichotomy (t.idxOf t[i]) i with c | c | c
  · exact absurd e (List.pairwise_iff_getElem.mp nd _ _ (idx_lt m) h c)
  · exact c
  · exact absurd e.symm (List.pairwise_iff_getElem.mp nd _ _ h (idx_lt m) c)
theorem row_good {ws : List (Int × Int)} {t : List Nat} (g : GoodT ws t) : IsOrder ws (toRow t) := by
  have len : (toRow t).length = t.length := by unfold toRow; rw [List.length_map, List.length_range]
  have mm : ∀ {r : Nat}, r < t.length → r + 1 ∈ t := fun {r} h => (g.mem _).mpr ⟨by omega, by have := g.len; omega⟩
  refine ⟨by rw [len, g.len], ?_, fun x hx => ?_, fun k h => ?_⟩
  · unfold toRow List.Nodup
    rw [List.pairwise_map]
    refine List.Pairwise.imp_of_mem ?_ List.nodup_range
    intro a b ha hb ne e
    have h1 := idx_get (mm (List.mem_range.mp ha))
    have h2 := idx_get (mm (List.mem_range.mp hb))
    simp only [e] at h1
    exact ne (by have := h1.symm.trans h2; omega)
  · unfold toRow at hx
    obtain ⟨r, hr, rfl⟩ := List.mem_map.mp hx
    rw [← g.len]; exact idx_lt (mm (List.mem_range.mp hr))
  · rw [len] at h
    have e := toRow_at h
    rw [List.getElem?_eq_getElem (by rw [len]; exact h)] at e
    have e := Option.some.inj e
    have := g.fit _ (idx_lt (mm h))
    rw [idx_get (mm h)] at this
    rw [e]
    exact ⟨by omega, by omega⟩
theorem turns_good {ws : List (Int × Int)} {row : List Nat} (o : IsOrder ws row) : GoodT ws (toTurns row) := by
  have len : (toTurns row).length = row.length := by unfold toTurns; rw [List.length_map, List.length_range]
  have mm : ∀ {i : Nat}, i < row.length → i ∈ row := fun {i} h => ((perm_of_order o).mem_iff.trans List.mem_range).mpr (by rw [← o.len]; exact h)
  refine ⟨by rw [len, o.len], ?_, fun x => ⟨fun hx => ?_, fun ⟨h1, h2⟩ => ?_⟩, fun k h => ?_⟩
  · unfold toTurns List.Nodup
    rw [List.pairwise_map]
    refine List.Pairwise.imp_of_mem ?_ List.nodup_range
    intro a b ha hb ne e
    have e : row.idxOf a = row.idxOf b := by omega
    have h1 := idx_get (mm (List.mem_range.mp ha))
    have h2 := idx_get (mm (List.mem_range.mp hb))
    simp only [e] at h1
    exact ne (h1.symm.trans h2)
  · unfold toTurns at hx
    obtain ⟨r, hr, rfl⟩ := List.mem_map.mp hx
    have := idx_lt (mm (List.mem_range.mp hr))
    have := o.len
    omega
  · have hr : x - 1 < row.length := by rw [o.len]; omega
    have hl := o.lt _ (List.getElem_mem hr)
    unfold toTurns
    refine List.mem_map.mpr ⟨row[x - 1], List.mem_range.mpr (by rw [o.len]; exact hl), ?_⟩
    rw [get_idx o.nd hr]; omega
  · rw [len] at h
    have e := toTurns_at h
    rw [List.getElem?_eq_getElem (by rw [len]; exact h)] at e
    have e := Option.some.inj e
    have := o.fit _ (idx_lt (mm h))
    rw [idx_get (mm h)] at this
    rw [e]
    exact ⟨by omega, by omega⟩
theorem row_inj {ws : List (Int × Int)} {t u : List Nat} (g : GoodT ws t) (g2 : GoodT ws u) (e : toRow t = toRow u) : t = u := by
  refine List.ext_getElem (by rw [g.len, g2.len]) fun i h1 h2 => ?_
  have m := (g.mem _).mp (List.getElem_mem h1)
  have hx : t[i] - 1 < t.length := by rw [g.len]; omega
  have hx2 : t[i] - 1 < u.length := by rw [g2.len]; omega
  have a := toRow_at hx
  have b := toRow_at hx2
  rw [e, b] at a
  have a := Option.some.inj a
  rw [show t[i] - 1 + 1 = t[i] by omega, get_idx g.nd h1] at a
  have m2 : t[i] ∈ u := (g2.mem _).mpr m
  have := idx_get m2
  simp only [a] at this
  exact this.symm
theorem turns_inj {ws : List (Int × Int)} {t u : List Nat} (o : IsOrder ws t) (o2 : IsOrder ws u) (e : toTurns t = toTurns u) : t = u := by
  refine List.ext_getElem (by rw [o.len, o2.len]) fun r h1 h2 => ?_
  have hl := o.lt _ (List.getElem_mem h1)
  have a := toTurns_at (t := t) (r := t[r]) (by rw [o.len]; exact hl)
  have b := toTurns_at (t := u) (r := t[r]) (by rw [o2.len]; exact hl)
  rw [e, b] at a
  have a := Option.some.inj a
  rw [get_idx o.nd h1] at a
  have m2 : t[r] ∈ u := ((perm_of_order o2).mem_iff.trans List.mem_range).mpr hl
  have := idx_get m2
  have a : u.idxOf t[r] = r := by omega
  simp only [a] at this
  exact this.symm
theorem len_inj {A B : List (List Nat)} (f : List Nat → List Nat) (nd : A.Nodup) (inj : ∀ a ∈ A, ∀ b ∈ A, f a = f b → a = b) (im : ∀ a ∈ A, f a ∈ B) : A.length ≤ B.length := by
  rw [← List.length_map (f := f) (as := A)]
  refine nodup_subG ?_ fun x hx => ?_
  · unfold List.Nodup
    rw [List.pairwise_map]
    exact List.Pairwise.imp_of_mem (fun {a b} ha hb ne e => ne (inj a ha b hb e)) nd
  · obtain ⟨a, ha, rfl⟩ := List.mem_map.mp hx
    exact im a ha
theorem allO_nd (ws : List (Int × Int)) : (allO ws).Nodup := by
  show (conts ws ws.length 0).Pairwise _
  refine (conts_lex ws ws.length 0).imp ?_
  intro a b h e
  subst e
  exact lexLt_irr _ h
theorem orders_counted {ws : List (Int × Int)} (ok : ∀ w ∈ ws, 1 ≤ w.1) {tbl : List (List Nat × Int)} (h : CtOk (allX (ws.map tns)) tbl) : ctN tbl (rnds ws.length) = (((allO ws).length : Nat) : Int) := by
  rw [h.at_, allX_asg, cnt_map]
  congr 1
  have tk : (ws.map tns).take ws.length = ws.map tns := List.take_of_length_le (by rw [List.length_map]; omega)
  have nd := nd_asg (TS := ws.map tns) (fun ts h => by obtain ⟨w, _, rfl⟩ := List.mem_map.mp h; exact nd_tns) ws.length (by rw [List.length_map]; omega)
  rw [tk] at nd
  refine Nat.le_antisymm (len_inj toRow (nd.filter _) (fun a ha b hb e => row_inj ((mem_good ok).mp ha) ((mem_good ok).mp hb) e) fun a ha => mem_allO.mpr (row_good ((mem_good ok).mp ha))) (len_inj toTurns (allO_nd ws) (fun a ha b hb e => turns_inj (mem_allO.mp ha) (mem_allO.mp hb) e) fun a ha => (mem_good ok).mpr (turns_good (mem_allO.mp ha)))

end Su
namespace Su
open PySem L2
local macro_rules | `(tactic| walk_at "side") => `(tactic| first | assumption | (show (0 : Int) < _; omega) | (show (0 : Int) ≤ _; omega) | (show (0 : Int) < _; split <;> omega) | (show _ ∨ _; omega) | (show _ ∧ _; omega) | exact ⟨by decide, by decide, by decide⟩ | exact ⟨by first | assumption | omega, by first | assumption | omega⟩)
local macro_rules | `(tactic| walk_at "x") => `(tactic| first
  | with_reducible refine Su.x_seq ?_ | with_reducible refine Su.x_asg ?_ | with_reducible refine Su.x_gname ?_ | with_reducible refine Su.x_drop ?_ | with_reducible refine Su.x_ret ?_ | with_reducible refine Su.x_ifS ?_
  | ((with_reducible show L2.tVar _ _ _ _); refine Su.x_var rfl ?_) | with_reducible refine Su.x_c ?_ | with_reducible refine Su.x_op ?_ | with_reducible refine Su.x_rI0 ?_ | ((with_reducible refine Su.x_rI ?_ ?_); focus walk_at "side")
  | ((with_reducible show L2.rIxL _ (L2.V.ref _) (L2.V.int _) _ _); refine Su.x_ixI (by assumption) (by first | decide | omega) (by omega) ?_) | with_reducible refine Su.x_isi_int_int ?_ | with_reducible refine Su.x_isi_int_bool ?_ | with_reducible refine Su.x_isi_int_str ?_ | with_reducible refine Su.x_isi_int_list ?_ | with_reducible refine Su.x_isi_int_tuple ?_ | with_reducible refine Su.x_isi_bool_int ?_ | with_reducible refine Su.x_isi_bool_bool ?_ | with_reducible refine Su.x_isi_bool_str ?_ | with_reducible refine Su.x_isi_bool_list ?_ | with_reducible refine Su.x_isi_bool_tuple ?_ | with_reducible refine Su.x_isi_str_int ?_ | with_reducible refine Su.x_isi_str_bool ?_ | with_reducible refine Su.x_isi_str_str ?_ | with_reducible refine Su.x_isi_str_list ?_ | with_reducible refine Su.x_isi_str_tuple ?_ | with_reducible refine Su.x_isi_NoneType_int ?_ | with_reducible refine Su.x_isi_NoneType_bool ?_ | with_reducible refine Su.x_isi_NoneType_str ?_ | with_reducible refine Su.x_isi_NoneType_list ?_ | with_reducible refine Su.x_isi_NoneType_tuple ?_ | with_reducible refine Su.x_rGt ?_ | with_reducible refine Su.x_rGe ?_ | with_reducible refine Su.x_iteF ?_ | with_reducible refine Su.x_iteT ?_ | with_reducible refine Su.x_iteNT ?_ | with_reducible refine Su.x_iteNF ?_ | with_reducible refine Su.x_eqI ?_ | with_reducible refine Su.x_neI ?_ | with_reducible refine Su.x_eqS ?_ | with_reducible refine Su.x_neS ?_ | with_reducible refine Su.x_eqB ?_ | with_reducible refine Su.x_neB ?_
  | with_reducible refine Su.x_test ?_ | with_reducible refine Su.x_tB ?_ | with_reducible refine Su.x_isB ?_ | with_reducible refine Su.x_isB' ?_ | with_reducible refine Su.x_not ?_ | with_reducible refine Su.x_and ?_ | with_reducible refine Su.x_or ?_
  | with_reducible refine Su.x_andV ?_ | with_reducible refine Su.x_orV ?_ | with_reducible refine Su.x_notV ?_ | with_reducible refine Su.x_chain ?_ | with_reducible refine Su.x_nil ?_ | with_reducible refine Su.x_cons ?_ | with_reducible refine Su.x_cb ?_ | with_reducible refine Su.x_call ?_
  | with_reducible refine Su.x_un ?_ | with_reducible refine Su.x_rU ?_ | with_reducible refine Su.x_abs ?_ | with_reducible refine Su.x_max2 ?_ | with_reducible refine Su.x_min2 ?_ | with_reducible refine Su.x_int1 ?_ | with_reducible refine Su.x_intB ?_
  | with_reducible refine Su.x_lst ?_ | with_reducible refine Su.x_tup ?_ | with_reducible refine Su.x_bmL ?_ | with_reducible refine Su.x_next ?_ | with_reducible refine Su.x_for ?_ | with_reducible refine Su.x_iList ?_ | with_reducible refine Su.x_iRng1 ?_ | with_reducible refine Su.x_iRng2 ?_ | with_reducible refine Su.x_whileN ?_ | with_reducible refine Su.x_iEnum ?_ | with_reducible refine Su.x_iZip ?_ | with_reducible refine Su.x_iZipA ?_ | with_reducible refine Su.x_iTup ?_ | with_reducible refine Su.x_gcons ?_ | with_reducible refine Su.x_gnil ?_ | with_reducible refine Su.x_gsub ?_ | with_reducible refine Su.x_yes ?_ | with_reducible refine Su.x_lc ?_ | with_reducible refine Su.x_sl ?_ | with_reducible refine Su.x_nopart ?_ | with_reducible refine Su.x_part ?_ | with_reducible refine Su.x_isI ?_ | with_reducible refine Su.x_lstRg ?_ | with_reducible refine Su.x_rg1 ?_ | with_reducible refine Su.x_augS ?_ | with_reducible refine Su.x_ipI ?_ | ((with_reducible show L2.tAug _ _ _ _ _ _); refine Su.x_aug rfl ?_) | with_reducible refine Su.x_callS ?_ | with_reducible refine Su.x_tryAs ?_)
local macro_rules | `(tactic| walk_at "xs") => `(tactic| repeat walk_at "x")
local macro_rules | `(tactic| walk_at "if") => `(tactic| first | with_reducible refine Su.x_iteD (fun c => ?_) (fun c => ?_) | with_reducible refine Su.x_iteN (fun c => ?_) (fun c => ?_) | with_reducible refine Su.x_ite (fun c => ?_) (fun c => ?_))
/-! a set made of a list: the call around its filling -/
section
open PySem.Calls PyProof.Rows
variable {P : Program} {w : World} {A : Around} {E : Value → Shared → Prop} {s : Shared} {l : Addr} {xs : Array Value}
end

end Su
namespace Su
open PySem L2
local macro_rules | `(tactic| walk_at "side") => `(tactic| first | assumption | (show (0 : Int) < _; omega) | (show (0 : Int) ≤ _; omega) | (show (0 : Int) < _; split <;> omega) | (show _ ∨ _; omega) | (show _ ∧ _; omega) | exact ⟨by decide, by decide, by decide⟩ | exact ⟨by first | assumption | omega, by first | assumption | omega⟩)
local macro_rules | `(tactic| walk_at "x") => `(tactic| first
  | with_reducible refine Su.x_seq ?_ | with_reducible refine Su.x_asg ?_ | with_reducible refine Su.x_gname ?_ | with_reducible refine Su.x_drop ?_ | with_reducible refine Su.x_ret ?_ | with_reducible refine Su.x_ifS ?_
  | ((with_reducible show L2.tVar _ _ _ _); refine Su.x_var rfl ?_) | with_reducible refine Su.x_c ?_ | with_reducible refine Su.x_op ?_ | with_reducible refine Su.x_rI0 ?_ | ((with_reducible refine Su.x_rI ?_ ?_); focus walk_at "side")
  | ((with_reducible show L2.rIxL _ (L2.V.ref _) (L2.V.int _) _ _); refine Su.x_ixI (by assumption) (by first | decide | omega) (by omega) ?_) | with_reducible refine Su.x_isi_int_int ?_ | with_reducible refine Su.x_isi_int_bool ?_ | with_reducible refine Su.x_isi_int_str ?_ | with_reducible refine Su.x_isi_int_list ?_ | with_reducible refine Su.x_isi_int_tuple ?_ | with_reducible refine Su.x_isi_bool_int ?_ | with_reducible refine Su.x_isi_bool_bool ?_ | with_reducible refine Su.x_isi_bool_str ?_ | with_reducible refine Su.x_isi_bool_list ?_ | with_reducible refine Su.x_isi_bool_tuple ?_ | with_reducible refine Su.x_isi_str_int ?_ | with_reducible refine Su.x_isi_str_bool ?_ | with_reducible refine Su.x_isi_str_str ?_ | with_reducible refine Su.x_isi_str_list ?_ | with_reducible refine Su.x_isi_str_tuple ?_ | with_reducible refine Su.x_isi_NoneType_int ?_ | with_reducible refine Su.x_isi_NoneType_bool ?_ | with_reducible refine Su.x_isi_NoneType_str ?_ | with_reducible refine Su.x_isi_NoneType_list ?_ | with_reducible refine Su.x_isi_NoneType_tuple ?_ | with_reducible refine Su.x_rGt ?_ | with_reducible refine Su.x_rGe ?_ | with_reducible refine Su.x_iteF ?_ | with_reducible refine Su.x_iteT ?_ | with_reducible refine Su.x_iteNT ?_ | with_reducible refine Su.x_iteNF ?_ | with_reducible refine Su.x_eqI ?_ | with_reducible refine Su.x_neI ?_ | with_reducible refine Su.x_eqS ?_ | with_reducible refine Su.x_neS ?_ | with_reducible refine Su.x_eqB ?_ | with_reducible refine Su.x_neB ?_
  | with_reducible refine Su.x_test ?_ | with_reducible refine Su.x_tB ?_ | with_reducible refine Su.x_isB ?_ | with_reducible refine Su.x_isB' ?_ | with_reducible refine Su.x_not ?_ | with_reducible refine Su.x_and ?_ | with_reducible refine Su.x_or ?_
  | with_reducible refine Su.x_andV ?_ | with_reducible refine Su.x_orV ?_ | with_reducible refine Su.x_notV ?_ | with_reducible refine Su.x_chain ?_ | with_reducible refine Su.x_nil ?_ | with_reducible refine Su.x_cons ?_ | with_reducible refine Su.x_cb ?_ | with_reducible refine Su.x_call ?_
  | with_reducible refine Su.x_un ?_ | with_reducible refine Su.x_rU ?_ | with_reducible refine Su.x_abs ?_ | with_reducible refine Su.x_max2 ?_ | with_reducible refine Su.x_min2 ?_ | with_reducible refine Su.x_int1 ?_ | with_reducible refine Su.x_intB ?_
  | with_reducible refine Su.x_lst ?_ | with_reducible refine Su.x_tup ?_ | with_reducible refine Su.x_bmL ?_ | with_reducible refine Su.x_next ?_ | with_reducible refine Su.x_for ?_ | with_reducible refine Su.x_iList ?_ | with_reducible refine Su.x_iRng1 ?_ | with_reducible refine Su.x_iRng2 ?_ | with_reducible refine Su.x_whileN ?_ | with_reducible refine Su.x_iEnum ?_ | with_reducible refine Su.x_iZip ?_ | with_reducible refine Su.x_iZipA ?_ | with_reducible refine Su.x_iTup ?_ | with_reducible refine Su.x_gcons ?_ | with_reducible refine Su.x_gnil ?_ | with_reducible refine Su.x_gsub ?_ | with_reducible refine Su.x_yes ?_ | with_reducible refine Su.x_lc ?_ | with_reducible refine Su.x_sl ?_ | with_reducible refine Su.x_nopart ?_ | with_reducible refine Su.x_part ?_ | with_reducible refine Su.x_isI ?_ | with_reducible refine Su.x_lstRg ?_ | with_reducible refine Su.x_rg1 ?_ | with_reducible refine Su.x_augS ?_ | with_reducible refine Su.x_ipI ?_ | ((with_reducible show L2.tAug _ _ _ _ _ _); refine Su.x_aug rfl ?_) | with_reducible refine Su.x_callS ?_ | with_reducible refine Su.x_tryAs ?_)
local macro_rules | `(tactic| walk_at "xs") => `(tactic| repeat walk_at "x")
local macro_rules | `(tactic| walk_at "if") => `(tactic| first | with_reducible refine Su.x_iteD (fun c => ?_) (fun c => ?_) | with_reducible refine Su.x_iteN (fun c => ?_) (fun c => ?_) | with_reducible refine Su.x_ite (fun c => ?_) (fun c => ?_))
/-! sorted(set(xs)) of a list of whole numbers -/
section
open PySem.Calls PyProof.Rows
variable {P : Program} {w : World} {A : Around} {E : Value → Shared → Prop} {s : Shared} {l : Addr} {xs : Array Value} {ns : List Int}
end
section
variable {X : Cx} {e : Expr} {t t' : TE} {p p2 pos q : Pos}
end

end Su
namespace Su
open PySem L2
local macro_rules | `(tactic| walk_at "side") => `(tactic| first | assumption | (show (0 : Int) < _; omega) | (show (0 : Int) ≤ _; omega) | (show (0 : Int) < _; split <;> omega) | (show _ ∨ _; omega) | (show _ ∧ _; omega) | exact ⟨by decide, by decide, by decide⟩ | exact ⟨by first | assumption | omega, by first | assumption | omega⟩)
local macro_rules | `(tactic| walk_at "x") => `(tactic| first
  | with_reducible refine Su.x_seq ?_ | with_reducible refine Su.x_asg ?_ | with_reducible refine Su.x_gname ?_ | with_reducible refine Su.x_drop ?_ | with_reducible refine Su.x_ret ?_ | with_reducible refine Su.x_ifS ?_
  | ((with_reducible show L2.tVar _ _ _ _); refine Su.x_var rfl ?_) | with_reducible refine Su.x_c ?_ | with_reducible refine Su.x_op ?_ | with_reducible refine Su.x_rI0 ?_ | ((with_reducible refine Su.x_rI ?_ ?_); focus walk_at "side")
  | ((with_reducible show L2.rIxL _ (L2.V.ref _) (L2.V.int _) _ _); refine Su.x_ixI (by assumption) (by first | decide | omega) (by omega) ?_) | with_reducible refine Su.x_isi_int_int ?_ | with_reducible refine Su.x_isi_int_bool ?_ | with_reducible refine Su.x_isi_int_str ?_ | with_reducible refine Su.x_isi_int_list ?_ | with_reducible refine Su.x_isi_int_tuple ?_ | with_reducible refine Su.x_isi_bool_int ?_ | with_reducible refine Su.x_isi_bool_bool ?_ | with_reducible refine Su.x_isi_bool_str ?_ | with_reducible refine Su.x_isi_bool_list ?_ | with_reducible refine Su.x_isi_bool_tuple ?_ | with_reducible refine Su.x_isi_str_int ?_ | with_reducible refine Su.x_isi_str_bool ?_ | with_reducible refine Su.x_isi_str_str ?_ | with_reducible refine Su.x_isi_str_list ?_ | with_reducible refine Su.x_isi_str_tuple ?_ | with_reducible refine Su.x_isi_NoneType_int ?_ | with_reducible refine Su.x_isi_NoneType_bool ?_ | with_reducible refine Su.x_isi_NoneType_str ?_ | with_reducible refine Su.x_isi_NoneType_list ?_ | with_reducible refine Su.x_isi_NoneType_tuple ?_ | with_reducible refine Su.x_rGt ?_ | with_reducible refine Su.x_rGe ?_ | with_reducible refine Su.x_iteF ?_ | with_reducible refine Su.x_iteT ?_ | with_reducible refine Su.x_iteNT ?_ | with_reducible refine Su.x_iteNF ?_ | with_reducible refine Su.x_eqI ?_ | with_reducible refine Su.x_neI ?_ | with_reducible refine Su.x_eqS ?_ | with_reducible refine Su.x_neS ?_ | with_reducible refine Su.x_eqB ?_ | with_reducible refine Su.x_neB ?_
  | with_reducible refine Su.x_test ?_ | with_reducible refine Su.x_tB ?_ | with_reducible refine Su.x_isB ?_ | with_reducible refine Su.x_isB' ?_ | with_reducible refine Su.x_not ?_ | with_reducible refine Su.x_and ?_ | with_reducible refine Su.x_or ?_
  | with_reducible refine Su.x_andV ?_ | with_reducible refine Su.x_orV ?_ | with_reducible refine Su.x_notV ?_ | with_reducible refine Su.x_chain ?_ | with_reducible refine Su.x_nil ?_ | with_reducible refine Su.x_cons ?_ | with_reducible refine Su.x_cb ?_ | with_reducible refine Su.x_call ?_
  | with_reducible refine Su.x_un ?_ | with_reducible refine Su.x_rU ?_ | with_reducible refine Su.x_abs ?_ | with_reducible refine Su.x_max2 ?_ | with_reducible refine Su.x_min2 ?_ | with_reducible refine Su.x_int1 ?_ | with_reducible refine Su.x_intB ?_
  | with_reducible refine Su.x_lst ?_ | with_reducible refine Su.x_tup ?_ | with_reducible refine Su.x_bmL ?_ | with_reducible refine Su.x_next ?_ | with_reducible refine Su.x_for ?_ | with_reducible refine Su.x_iList ?_ | with_reducible refine Su.x_iRng1 ?_ | with_reducible refine Su.x_iRng2 ?_ | with_reducible refine Su.x_whileN ?_ | with_reducible refine Su.x_iEnum ?_ | with_reducible refine Su.x_iZip ?_ | with_reducible refine Su.x_iZipA ?_ | with_reducible refine Su.x_iTup ?_ | with_reducible refine Su.x_gcons ?_ | with_reducible refine Su.x_gnil ?_ | with_reducible refine Su.x_gsub ?_ | with_reducible refine Su.x_yes ?_ | with_reducible refine Su.x_lc ?_ | with_reducible refine Su.x_sl ?_ | with_reducible refine Su.x_nopart ?_ | with_reducible refine Su.x_part ?_ | with_reducible refine Su.x_isI ?_ | with_reducible refine Su.x_lstRg ?_ | with_reducible refine Su.x_rg1 ?_ | with_reducible refine Su.x_augS ?_ | with_reducible refine Su.x_ipI ?_ | ((with_reducible show L2.tAug _ _ _ _ _ _); refine Su.x_aug rfl ?_) | with_reducible refine Su.x_callS ?_ | with_reducible refine Su.x_tryAs ?_)
local macro_rules | `(tactic| walk_at "xs") => `(tactic| repeat walk_at "x")
local macro_rules | `(tactic| walk_at "if") => `(tactic| first | with_reducible refine Su.x_iteD (fun c => ?_) (fun c => ?_) | with_reducible refine Su.x_iteN (fun c => ?_) (fun c => ?_) | with_reducible refine Su.x_ite (fun c => ?_) (fun c => ?_))
/-! enumerate(xs, 1): the numbers from 1 on -/
section
open PySem.Calls PyProof.Rows AutoSeq1
abbrev itO (l : Addr) : Obj := { cls := .type "list_iterator", data := .fields #[.ref l, .int 0 0] }
abbrev enO (it : Addr) : Obj := { cls := .type "enumerate", data := .fields #[.none, .bool false, .ref it, rawInt 1, .none, .none] }
set_option maxHeartbeats 4000000 in
theorem meets_enum1 (l : Addr) (its : Array Value) (n : Nat) (dct : Option Addr) (sl : Array (Option Value)) (u : Tok) :
    Meets (Builtin.«enumerate.__new__» ⟨[.type "enumerate", .ref l, .int 1 u], []⟩) (fun _ R s => s.heap.get? l = some { cls := .type "list", dict := dct, data := .seq its n, slots := sl } ∧
      R (.ok (.ret (.ref (s.heap.push (itO l)).objs.size))) { s with heap := (s.heap.push (itO l)).push (enO s.heap.objs.size) }) :=
  .of_wp fun P w A R s ⟨hl, h⟩ => by
    obtain ⟨hp, g, d, tk, os⟩ := s
    have hsub := sub_enumerate
    have hL : Heap.IsList (Shared.heap ⟨hp, g, d, tk, os⟩) l its := ⟨_, hl, rfl, n, rfl⟩
    wp_walk using wpAny_loadPart' hl
    refine wpAny_stack_any fun st => wpAny_pure ?_
    split
    · rename_i c _ _ _ _ _
      cases (c == Value.type "enumerate") <;> (wp_walk using wpAny_loadPart' hl, wpAny_pyIter_list hL; exact ⟨_, rfl, h⟩)
    · wp_walk using wpAny_loadPart' hl, wpAny_pyIter_list hL
      exact ⟨_, rfl, h⟩
variable {P : Program} {w : World} {A : Around} {E : Value → Shared → Prop} {s : Shared}
end
end Su
namespace Su
open PySem L2
local macro_rules | `(tactic| walk_at "side") => `(tactic| first | assumption | (show (0 : Int) < _; omega) | (show (0 : Int) ≤ _; omega) | (show (0 : Int) < _; split <;> omega) | (show _ ∨ _; omega) | (show _ ∧ _; omega) | exact ⟨by decide, by decide, by decide⟩ | exact ⟨by first | assumption | omega, by first | assumption | omega⟩)
local macro_rules | `(tactic| walk_at "x") => `(tactic| first | with_reducible refine Su.x_seq ?_ | with_reducible refine Su.x_asg ?_ | with_reducible refine Su.x_gname ?_ | with_reducible refine Su.x_ret ?_ | with_reducible refine Su.x_ifS ?_ | ((with_reducible show L2.tVar _ _ _ _); refine Su.x_var rfl ?_) | with_reducible refine Su.x_c ?_ | with_reducible refine Su.x_op ?_ | with_reducible refine Su.x_rI0 ?_ | with_reducible refine Su.x_iteF ?_ | with_reducible refine Su.x_iteT ?_ | with_reducible refine Su.x_eqI ?_ | with_reducible refine Su.x_test ?_ | with_reducible refine Su.x_isB' ?_ | with_reducible refine Su.x_and ?_ | with_reducible refine Su.x_or ?_ | with_reducible refine Su.x_nil ?_ | with_reducible refine Su.x_cons ?_ | with_reducible refine Su.x_un ?_ | with_reducible refine Su.x_rU ?_ | with_reducible refine Su.x_next ?_ | with_reducible refine Su.x_for ?_ | with_reducible refine Su.x_iEnum ?_ | with_reducible refine Su.x_gcons ?_ | with_reducible refine Su.x_gnil ?_)
local macro_rules | `(tactic| walk_at "xs") => `(tactic| repeat walk_at "x")
local macro_rules | `(tactic| walk_at "if") => `(tactic| first | with_reducible refine Su.x_iteD (fun c => ?_) (fun c => ?_) | with_reducible refine Su.x_iteN (fun c => ?_) (fun c => ?_) | with_reducible refine Su.x_ite (fun c => ?_) (fun c => ?_))

/-! next_window -/
end Su
namespace Su
open PySem L2
local macro_rules | `(tactic| walk_at "side") => `(tactic| first | assumption | (show (0 : Int) < _; omega) | (show (0 : Int) ≤ _; omega) | (show (0 : Int) < _; split <;> omega) | (show _ ∨ _; omega) | (show _ ∧ _; omega) | exact ⟨by decide, by decide, by decide⟩ | exact ⟨by first | assumption | omega, by first | assumption | omega⟩)
local macro_rules | `(tactic| walk_at "x") => `(tactic| first | with_reducible refine Su.x_seq ?_ | with_reducible refine Su.x_asg ?_ | with_reducible refine Su.x_gname ?_ | with_reducible refine Su.x_ret ?_ | ((with_reducible show L2.tVar _ _ _ _); refine Su.x_var rfl ?_) | with_reducible refine Su.x_c ?_ | with_reducible refine Su.x_op ?_ | with_reducible refine Su.x_rI0 ?_ | with_reducible refine Su.x_rGt ?_ | with_reducible refine Su.x_test ?_ | with_reducible refine Su.x_isB' ?_ | with_reducible refine Su.x_and ?_ | with_reducible refine Su.x_nil ?_ | with_reducible refine Su.x_cons ?_ | with_reducible refine Su.x_call ?_ | with_reducible refine Su.x_tup ?_ | with_reducible refine Su.x_whileN ?_ | with_reducible refine Su.x_ipI ?_ | ((with_reducible show L2.tAug _ _ _ _ _ _); refine Su.x_aug rfl ?_))
local macro_rules | `(tactic| walk_at "xs") => `(tactic| repeat walk_at "x")
local macro_rules | `(tactic| walk_at "if") => `(tactic| first | with_reducible refine Su.x_iteD (fun c => ?_) (fun c => ?_) | with_reducible refine Su.x_iteN (fun c => ?_) (fun c => ?_) | with_reducible refine Su.x_ite (fun c => ?_) (fun c => ?_))

/-! bar_of -/
end Su
namespace Su
open PySem L2
local macro_rules | `(tactic| walk_at "side") => `(tactic| first | assumption | (show (0 : Int) < _; omega) | (show (0 : Int) ≤ _; omega) | (show (0 : Int) < _; split <;> omega) | (show _ ∨ _; omega) | (show _ ∧ _; omega) | exact ⟨by decide, by decide, by decide⟩ | exact ⟨by first | assumption | omega, by first | assumption | omega⟩)
local macro_rules | `(tactic| walk_at "x") => `(tactic| first | with_reducible refine Su.x_seq ?_ | with_reducible refine Su.x_asg ?_ | with_reducible refine Su.x_gname ?_ | with_reducible refine Su.x_drop ?_ | with_reducible refine Su.x_ret ?_ | with_reducible refine Su.x_ifS ?_ | ((with_reducible show L2.tVar _ _ _ _); refine Su.x_var rfl ?_) | with_reducible refine Su.x_c ?_ | with_reducible refine Su.x_op ?_ | with_reducible refine Su.x_rI0 ?_ | with_reducible refine Su.x_eqI ?_ | with_reducible refine Su.x_test ?_ | with_reducible refine Su.x_isB' ?_ | with_reducible refine Su.x_nil ?_ | with_reducible refine Su.x_cons ?_ | with_reducible refine Su.x_cb ?_ | with_reducible refine Su.x_call ?_ | with_reducible refine Su.x_un ?_ | with_reducible refine Su.x_rU ?_ | with_reducible refine Su.x_lst ?_ | with_reducible refine Su.x_tup ?_ | with_reducible refine Su.x_bmL ?_ | with_reducible refine Su.x_next ?_ | with_reducible refine Su.x_for ?_ | with_reducible refine Su.x_iRng2 ?_)
local macro_rules | `(tactic| walk_at "xs") => `(tactic| repeat walk_at "x")
local macro_rules | `(tactic| walk_at "if") => `(tactic| first | with_reducible refine Su.x_iteD (fun c => ?_) (fun c => ?_) | with_reducible refine Su.x_iteN (fun c => ?_) (fun c => ?_) | with_reducible refine Su.x_ite (fun c => ?_) (fun c => ?_))

/-! order_or_bar -/
end Su
namespace Su
open PySem L2
local macro_rules | `(tactic| walk_at "side") => `(tactic| first | assumption | (show (0 : Int) < _; omega) | (show (0 : Int) ≤ _; omega) | (show (0 : Int) < _; split <;> omega) | (show _ ∨ _; omega) | (show _ ∧ _; omega) | exact ⟨by decide, by decide, by decide⟩ | exact ⟨by first | assumption | omega, by first | assumption | omega⟩)
local macro_rules | `(tactic| walk_at "x") => `(tactic| first | with_reducible refine Su.x_seq ?_ | with_reducible refine Su.x_asg ?_ | with_reducible refine Su.x_gname ?_ | with_reducible refine Su.x_ret ?_ | with_reducible refine Su.x_ifS ?_ | ((with_reducible show L2.tVar _ _ _ _); refine Su.x_var rfl ?_) | with_reducible refine Su.x_c ?_ | with_reducible refine Su.x_op ?_ | with_reducible refine Su.x_rI0 ?_ | ((with_reducible refine Su.x_rI ?_ ?_); focus walk_at "side") | with_reducible refine Su.x_test ?_ | with_reducible refine Su.x_isB' ?_ | with_reducible refine Su.x_next ?_)
local macro_rules | `(tactic| walk_at "xs") => `(tactic| repeat walk_at "x")
local macro_rules | `(tactic| walk_at "if") => `(tactic| first | with_reducible refine Su.x_iteD (fun c => ?_) (fun c => ?_) | with_reducible refine Su.x_iteN (fun c => ?_) (fun c => ?_) | with_reducible refine Su.x_ite (fun c => ?_) (fun c => ?_))

/-! first_covered -/
end Su
namespace Su
open PySem L2
local macro_rules | `(tactic| walk_at "side") => `(tactic| first | assumption | (show (0 : Int) < _; omega) | (show (0 : Int) ≤ _; omega) | (show (0 : Int) < _; split <;> omega) | (show _ ∨ _; omega) | (show _ ∧ _; omega) | exact ⟨by decide, by decide, by decide⟩ | exact ⟨by first | assumption | omega, by first | assumption | omega⟩)
local macro_rules | `(tactic| walk_at "xs") => `(tactic| repeat walk_at "x")
local macro_rules | `(tactic| walk_at "if") => `(tactic| first | with_reducible refine Su.x_iteD (fun c => ?_) (fun c => ?_) | with_reducible refine Su.x_iteN (fun c => ?_) (fun c => ?_) | with_reducible refine Su.x_ite (fun c => ?_) (fun c => ?_))

/-! a circle: its mirror, and how it stands in the heap -/
inductive Seat where
  | waits | drew | fell
  deriving DecidableEq
def Seat.s : Seat → Str
  | .waits => "waits"
  | .drew => "drew"
  | .fell => "fell"
structure SeatR where
  st : Seat := .waits
  wh : Int := 0
  pl : Int := 0
  gv : Int := 0
  dr : Int := 0
  sh : Int := 0
  ms : Int := 0
  fl : List Int := []
instance : Inhabited SeatR := ⟨{}⟩
structure CS where
  stake : Int
  bidding : Bool
  now : Nat
  line : List Nat
  due : Nat
  chest : Int
  seats : List SeatR
abbrev CS.size (st : CS) : Nat := st.seats.length
abbrev CS.get (st : CS) (i : Nat) : SeatR := st.seats.getD i {}
def cirNames : List Str := ["stake", "size", "bidding", "now", "line", "due", "chest", "state", "when", "pledged", "given", "drawn", "shared", "missed", "flows"]
def cirFs (a : Nat → Addr) (st : CS) : List (Str × V) := [("stake", .int st.stake), ("size", .int st.size), ("bidding", .bl st.bidding), ("now", .int st.now), ("line", .ref (a 2)), ("due", .int st.due), ("chest", .int st.chest), ("state", .ref (a 3)), ("when", .ref (a 4)),
  ("pledged", .ref (a 5)), ("given", .ref (a 6)), ("drawn", .ref (a 7)), ("shared", .ref (a 8)), ("missed", .ref (a 9)), ("flows", .ref (a 10))]
abbrev intsO (l : List Int) : HO := .lst (l.map V.int)
def cirCell (K : PySem.W.Frag) (a : Nat → Addr) (st : CS) : Nat → HO
  | 0 => .ins (He.ga K "Circle") (a 1) (cirFs a st)
  | 1 => .own (a 0)
  | 2 => .lst (nI st.line)
  | 3 => .lst (st.seats.map fun r => .str r.st.s)
  | 4 => .lst (st.seats.map fun r => .int r.wh)
  | 5 => .lst (st.seats.map fun r => .int r.pl)
  | 6 => .lst (st.seats.map fun r => .int r.gv)
  | 7 => .lst (st.seats.map fun r => .int r.dr)
  | 8 => .lst (st.seats.map fun r => .int r.sh)
  | 9 => .lst (st.seats.map fun r => .int r.ms)
  | 10 => .lst ((List.range st.size).map fun i => .ref (a (11 + i)))
  | n + 11 => intsO (st.get n).fl
def cirFoot (a : Nat → Addr) (n : Nat) : List Addr := (List.range (11 + n)).map a
structure CirAt (K : PySem.W.Frag) (H : Hp) (a : Nat → Addr) (st : CS) : Prop where
  t : ClsT K "Circle" cirNames
  inj : ∀ i j, i < 11 + st.size → j < 11 + st.size → a i = a j → i = j
  at_ : ∀ j, j < 11 + st.size → H (a j) = some (cirCell K a st j)
section
variable {K : PySem.W.Frag} {H H' : Hp} {a : Nat → Addr} {st st' : CS} {Q : VK} {D : Ends} {σ : St}
theorem mem_foot {n j : Nat} (h : j < 11 + n) : a j ∈ cirFoot a n := List.mem_map.mpr ⟨j, List.mem_range.mpr h, rfl⟩
theorem CirAt.same (h : CirAt K H a st) (s : Same H H') : CirAt K H' a st := ⟨h.t, h.inj, fun j hj => s _ _ (h.at_ j hj)⟩
theorem CirAt.off (h : CirAt K H a st) {A : List Addr} (s : Off A H H') (n : ∀ b ∈ cirFoot a st.size, b ∉ A) : CirAt K H' a st := ⟨h.t, h.inj, fun j hj => s _ _ (n _ (mem_foot hj)) (h.at_ j hj)⟩
theorem CirAt.upd_out (h : CirAt K H a st) {x : Addr} {o : HO} (n : x ∉ cirFoot a st.size) : CirAt K (upd H x o) a st := ⟨h.t, h.inj, fun j hj => by
  rw [upd_ne (fun e => n (by rw [← e]; exact mem_foot hj))]; exact h.at_ j hj⟩
theorem CirAt.fresh (h : CirAt K H a st) {x : Addr} (n : H x = none) : x ∉ cirFoot a st.size := fun c => by
  obtain ⟨j, hj, rfl⟩ := List.mem_map.mp c
  rw [h.at_ j (List.mem_range.mp hj)] at n; cases n
/-! fields -/
theorem c_fld {f : Str} {v : V} {P : V → Prop} (h : CirAt K H a st) (m : f ∈ cirNames) (l : (cirFs a st).lookup f = some v) (q : P v) : ∃ a' C dx fs v', V.ref (a 0) = .ref a' ∧ H a' = some (.ins C dx fs) ∧ Cls K C ∧ NoAttr K C f ∧ fs.lookup f = some v' ∧ P v' :=
  ⟨a 0, _, _, _, v, rfl, h.at_ 0 (by omega), h.t.cl, h.t.no.get m, l, q⟩
theorem c_meth {m : Str} {P : Prop} (h : CirAt K H a st) (l : (cirFs a st).lookup m = none) (q : P) : ∃ a' dx fs, V.ref (a 0) = .ref a' ∧ H a' = some (.ins (He.ga K "Circle") dx fs) ∧ fs.lookup m = none ∧ P := ⟨a 0, _, _, rfl, h.at_ 0 (by omega), l, q⟩
theorem c_stake {P : V → Prop} (h : CirAt K H a st) (q : P (.int st.stake)) : ∃ a' C dx fs v', V.ref (a 0) = .ref a' ∧ H a' = some (.ins C dx fs) ∧ Cls K C ∧ NoAttr K C ("stake" : Str) ∧ fs.lookup ("stake" : Str) = some v' ∧ P v' := c_fld h (by decide +kernel) rfl q
theorem c_size {P : V → Prop} (h : CirAt K H a st) (q : P (.int st.size)) : ∃ a' C dx fs v', V.ref (a 0) = .ref a' ∧ H a' = some (.ins C dx fs) ∧ Cls K C ∧ NoAttr K C ("size" : Str) ∧ fs.lookup ("size" : Str) = some v' ∧ P v' := c_fld h (by decide +kernel) rfl q
theorem c_bidding {P : V → Prop} (h : CirAt K H a st) (q : P (.bl st.bidding)) : ∃ a' C dx fs v', V.ref (a 0) = .ref a' ∧ H a' = some (.ins C dx fs) ∧ Cls K C ∧ NoAttr K C ("bidding" : Str) ∧ fs.lookup ("bidding" : Str) = some v' ∧ P v' := c_fld h (by decide +kernel) rfl q
theorem c_now {P : V → Prop} (h : CirAt K H a st) (q : P (.int st.now)) : ∃ a' C dx fs v', V.ref (a 0) = .ref a' ∧ H a' = some (.ins C dx fs) ∧ Cls K C ∧ NoAttr K C ("now" : Str) ∧ fs.lookup ("now" : Str) = some v' ∧ P v' := c_fld h (by decide +kernel) rfl q
theorem c_line {P : V → Prop} (h : CirAt K H a st) (q : P (.ref (a 2))) : ∃ a' C dx fs v', V.ref (a 0) = .ref a' ∧ H a' = some (.ins C dx fs) ∧ Cls K C ∧ NoAttr K C ("line" : Str) ∧ fs.lookup ("line" : Str) = some v' ∧ P v' := c_fld h (by decide +kernel) rfl q
theorem c_due {P : V → Prop} (h : CirAt K H a st) (q : P (.int st.due)) : ∃ a' C dx fs v', V.ref (a 0) = .ref a' ∧ H a' = some (.ins C dx fs) ∧ Cls K C ∧ NoAttr K C ("due" : Str) ∧ fs.lookup ("due" : Str) = some v' ∧ P v' := c_fld h (by decide +kernel) rfl q
theorem c_chest {P : V → Prop} (h : CirAt K H a st) (q : P (.int st.chest)) : ∃ a' C dx fs v', V.ref (a 0) = .ref a' ∧ H a' = some (.ins C dx fs) ∧ Cls K C ∧ NoAttr K C ("chest" : Str) ∧ fs.lookup ("chest" : Str) = some v' ∧ P v' := c_fld h (by decide +kernel) rfl q
theorem c_state {P : V → Prop} (h : CirAt K H a st) (q : P (.ref (a 3))) : ∃ a' C dx fs v', V.ref (a 0) = .ref a' ∧ H a' = some (.ins C dx fs) ∧ Cls K C ∧ NoAttr K C ("state" : Str) ∧ fs.lookup ("state" : Str) = some v' ∧ P v' := c_fld h (by decide +kernel) rfl q
theorem c_when {P : V → Prop} (h : CirAt K H a st) (q : P (.ref (a 4))) : ∃ a' C dx fs v', V.ref (a 0) = .ref a' ∧ H a' = some (.ins C dx fs) ∧ Cls K C ∧ NoAttr K C ("when" : Str) ∧ fs.lookup ("when" : Str) = some v' ∧ P v' := c_fld h (by decide +kernel) rfl q
theorem c_pledged {P : V → Prop} (h : CirAt K H a st) (q : P (.ref (a 5))) : ∃ a' C dx fs v', V.ref (a 0) = .ref a' ∧ H a' = some (.ins C dx fs) ∧ Cls K C ∧ NoAttr K C ("pledged" : Str) ∧ fs.lookup ("pledged" : Str) = some v' ∧ P v' := c_fld h (by decide +kernel) rfl q
theorem c_given {P : V → Prop} (h : CirAt K H a st) (q : P (.ref (a 6))) : ∃ a' C dx fs v', V.ref (a 0) = .ref a' ∧ H a' = some (.ins C dx fs) ∧ Cls K C ∧ NoAttr K C ("given" : Str) ∧ fs.lookup ("given" : Str) = some v' ∧ P v' := c_fld h (by decide +kernel) rfl q
theorem c_drawn {P : V → Prop} (h : CirAt K H a st) (q : P (.ref (a 7))) : ∃ a' C dx fs v', V.ref (a 0) = .ref a' ∧ H a' = some (.ins C dx fs) ∧ Cls K C ∧ NoAttr K C ("drawn" : Str) ∧ fs.lookup ("drawn" : Str) = some v' ∧ P v' := c_fld h (by decide +kernel) rfl q
theorem c_shared {P : V → Prop} (h : CirAt K H a st) (q : P (.ref (a 8))) : ∃ a' C dx fs v', V.ref (a 0) = .ref a' ∧ H a' = some (.ins C dx fs) ∧ Cls K C ∧ NoAttr K C ("shared" : Str) ∧ fs.lookup ("shared" : Str) = some v' ∧ P v' := c_fld h (by decide +kernel) rfl q
theorem c_missed {P : V → Prop} (h : CirAt K H a st) (q : P (.ref (a 9))) : ∃ a' C dx fs v', V.ref (a 0) = .ref a' ∧ H a' = some (.ins C dx fs) ∧ Cls K C ∧ NoAttr K C ("missed" : Str) ∧ fs.lookup ("missed" : Str) = some v' ∧ P v' := c_fld h (by decide +kernel) rfl q
theorem c_flows {P : V → Prop} (h : CirAt K H a st) (q : P (.ref (a 10))) : ∃ a' C dx fs v', V.ref (a 0) = .ref a' ∧ H a' = some (.ins C dx fs) ∧ Cls K C ∧ NoAttr K C ("flows" : Str) ∧ fs.lookup ("flows" : Str) = some v' ∧ P v' := c_fld h (by decide +kernel) rfl q
/-! items of the lists -/
end
/-! the line as a list of whole numbers -/
section
variable {K : PySem.W.Frag} {H : Hp} {Q : VK} {p : Addr} {l : List Nat} {k : Nat} {j : Int}
end
/-! changes of one cell -/
section
variable {K : PySem.W.Frag} {H : Hp} {a : Nat → Addr} {st : CS} {i : Nat}
end

end Su
namespace Su
open PySem L2
local macro_rules | `(tactic| walk_at "side") => `(tactic| first | assumption | (show (0 : Int) < _; omega) | (show (0 : Int) ≤ _; omega) | (show (0 : Int) < _; split <;> omega) | (show _ ∨ _; omega) | (show _ ∧ _; omega) | exact ⟨by decide, by decide, by decide⟩ | exact ⟨by first | assumption | omega, by first | assumption | omega⟩)
local macro_rules | `(tactic| walk_at "x") => `(tactic| first | with_reducible refine Su.x_ret ?_ | ((with_reducible show L2.tVar _ _ _ _); refine Su.x_var rfl ?_) | with_reducible refine Su.x_op ?_ | with_reducible refine Su.x_rI0 ?_ | with_reducible refine Su.x_cons ?_ | with_reducible refine Su.x_call ?_)
local macro_rules | `(tactic| walk_at "xs") => `(tactic| repeat walk_at "x")
local macro_rules | `(tactic| walk_at "if") => `(tactic| first | with_reducible refine Su.x_iteD (fun c => ?_) (fun c => ?_) | with_reducible refine Su.x_iteN (fun c => ?_) (fun c => ?_) | with_reducible refine Su.x_ite (fun c => ?_) (fun c => ?_))
local macro_rules | `(tactic| walk_at "at") => `(tactic| first | assumption | (refine Su.f_at (by assumption) ?_; walk_at "at"))
local macro_rules | `(tactic| walk_at "sm") => `(tactic| first | assumption | exact L2.Same.refl _ | (refine Su.f_tr (by assumption) ?_; walk_at "sm"))
local macro_rules | `(tactic| walk_at "hp") => `(tactic| first | assumption | ((with_reducible refine Su.f_sqL ?_); walk_at "at") | ((with_reducible refine Su.f_sqT ?_); walk_at "at") | ((with_reducible show L2.Same _ _); walk_at "sm") | ((with_reducible show _ = none); refine Su.f_free ?_ (by assumption); walk_at "sm") | ((with_reducible show _ = some _); walk_at "at") | (refine Su.f_dp (by assumption) ?_; walk_at "hp") | (refine Su.f_dpA (by assumption) ?_; walk_at "hp") | (refine Su.f_sqLs (by assumption) ?_; walk_at "hp") | (refine Su.f_sqTs (by assumption) ?_; walk_at "hp"))
local macro_rules | `(tactic| walk_at "x") => `(tactic| first | with_reducible refine Su.x_fld ?_ | with_reducible refine Su.c_stake (by assumption) ?_ | with_reducible refine Su.c_size (by assumption) ?_ | with_reducible refine Su.c_pledged (by assumption) ?_)
local macro_rules | `(tactic| walk_at "me") => `(tactic| first | refine Su.c_meth (by assumption) rfl ?_ | refine Su.so_meth (by assumption) rfl ?_)

end Su
namespace Su
open PySem L2
local macro_rules | `(tactic| walk_at "side") => `(tactic| first | assumption | (show (0 : Int) < _; omega) | (show (0 : Int) ≤ _; omega) | (show (0 : Int) < _; split <;> omega) | (show _ ∨ _; omega) | (show _ ∧ _; omega) | exact ⟨by decide, by decide, by decide⟩ | exact ⟨by first | assumption | omega, by first | assumption | omega⟩)
local macro_rules | `(tactic| walk_at "xs") => `(tactic| repeat walk_at "x")
local macro_rules | `(tactic| walk_at "if") => `(tactic| first | with_reducible refine Su.x_iteD (fun c => ?_) (fun c => ?_) | with_reducible refine Su.x_iteN (fun c => ?_) (fun c => ?_) | with_reducible refine Su.x_ite (fun c => ?_) (fun c => ?_))

/-! changes of seats, put together -/
section
variable {K : PySem.W.Frag} {H : Hp} {Q : VK} {p : Addr} {l : List Int} {x : Int}
end
/-! writes -/
section
variable {K : PySem.W.Frag} {H : Hp} {Q : VK} {Qh : Hp → Prop} {a : Nat → Addr} {st : CS} {i n : Nat} {j x : Int}
end

end Su
namespace Su
open PySem L2
local macro_rules | `(tactic| walk_at "side") => `(tactic| first | assumption | (show (0 : Int) < _; omega) | (show (0 : Int) ≤ _; omega) | (show (0 : Int) < _; split <;> omega) | (show _ ∨ _; omega) | (show _ ∧ _; omega) | exact ⟨by decide, by decide, by decide⟩ | exact ⟨by first | assumption | omega, by first | assumption | omega⟩)
local macro_rules | `(tactic| walk_at "x") => `(tactic| first | with_reducible refine Su.x_seq ?_ | with_reducible refine Su.x_asg ?_ | with_reducible refine Su.x_gname ?_ | with_reducible refine Su.x_ret ?_ | with_reducible refine Su.x_ifS ?_ | ((with_reducible show L2.tVar _ _ _ _); refine Su.x_var rfl ?_) | with_reducible refine Su.x_c ?_ | with_reducible refine Su.x_op ?_ | with_reducible refine Su.x_rGt ?_ | with_reducible refine Su.x_rGe ?_ | with_reducible refine Su.x_iteF ?_ | with_reducible refine Su.x_iteT ?_ | with_reducible refine Su.x_eqI ?_ | with_reducible refine Su.x_test ?_ | with_reducible refine Su.x_tB ?_ | with_reducible refine Su.x_isB' ?_ | with_reducible refine Su.x_and ?_ | with_reducible refine Su.x_or ?_ | with_reducible refine Su.x_nil ?_ | with_reducible refine Su.x_cons ?_ | with_reducible refine Su.x_un ?_ | with_reducible refine Su.x_rU ?_ | with_reducible refine Su.x_tup ?_ | with_reducible refine Su.x_next ?_ | with_reducible refine Su.x_for ?_ | with_reducible refine Su.x_iList ?_)
local macro_rules | `(tactic| walk_at "xs") => `(tactic| repeat walk_at "x")
local macro_rules | `(tactic| walk_at "if") => `(tactic| first | with_reducible refine Su.x_iteD (fun c => ?_) (fun c => ?_) | with_reducible refine Su.x_iteN (fun c => ?_) (fun c => ?_) | with_reducible refine Su.x_ite (fun c => ?_) (fun c => ?_))
local macro_rules | `(tactic| walk_at "at") => `(tactic| first | assumption | (refine Su.f_at (by assumption) ?_; walk_at "at"))
local macro_rules | `(tactic| walk_at "sm") => `(tactic| first | assumption | exact L2.Same.refl _ | (refine Su.f_tr (by assumption) ?_; walk_at "sm"))
local macro_rules | `(tactic| walk_at "hp") => `(tactic| first | assumption | ((with_reducible refine Su.f_sqL ?_); walk_at "at") | ((with_reducible refine Su.f_sqT ?_); walk_at "at") | ((with_reducible show L2.Same _ _); walk_at "sm") | ((with_reducible show _ = none); refine Su.f_free ?_ (by assumption); walk_at "sm") | ((with_reducible show _ = some _); walk_at "at") | (refine Su.f_dp (by assumption) ?_; walk_at "hp") | (refine Su.f_dpA (by assumption) ?_; walk_at "hp") | (refine Su.f_sqLs (by assumption) ?_; walk_at "hp") | (refine Su.f_sqTs (by assumption) ?_; walk_at "hp"))
local macro_rules | `(tactic| walk_at "x") => `(tactic| first | with_reducible refine Su.x_fld ?_ | with_reducible refine Su.x_meth ?_ | with_reducible refine Su.c_bidding (by assumption) ?_ | with_reducible refine Su.c_now (by assumption) ?_ | with_reducible refine Su.c_line (by assumption) ?_)
local macro_rules | `(tactic| walk_at "me") => `(tactic| first | refine Su.c_meth (by assumption) rfl ?_ | refine Su.so_meth (by assumption) rfl ?_)

end Su
namespace Su
open PySem L2
local macro_rules | `(tactic| walk_at "side") => `(tactic| first | assumption | (show (0 : Int) < _; omega) | (show (0 : Int) ≤ _; omega) | (show (0 : Int) < _; split <;> omega) | (show _ ∨ _; omega) | (show _ ∧ _; omega) | exact ⟨by decide, by decide, by decide⟩ | exact ⟨by first | assumption | omega, by first | assumption | omega⟩)
local macro_rules | `(tactic| walk_at "x") => `(tactic| first | with_reducible refine Su.x_seq ?_ | with_reducible refine Su.x_asg ?_ | with_reducible refine Su.x_gname ?_ | with_reducible refine Su.x_drop ?_ | with_reducible refine Su.x_ret ?_ | with_reducible refine Su.x_ifS ?_ | ((with_reducible show L2.tVar _ _ _ _); refine Su.x_var rfl ?_) | with_reducible refine Su.x_c ?_ | with_reducible refine Su.x_op ?_ | with_reducible refine Su.x_rI0 ?_ | ((with_reducible refine Su.x_rI ?_ ?_); focus walk_at "side") | with_reducible refine Su.x_rGt ?_ | with_reducible refine Su.x_iteF ?_ | with_reducible refine Su.x_neI ?_ | with_reducible refine Su.x_neS ?_ | with_reducible refine Su.x_test ?_ | with_reducible refine Su.x_isB' ?_ | with_reducible refine Su.x_and ?_ | with_reducible refine Su.x_nil ?_ | with_reducible refine Su.x_cons ?_ | with_reducible refine Su.x_cb ?_ | with_reducible refine Su.x_un ?_ | with_reducible refine Su.x_rU ?_ | with_reducible refine Su.x_tup ?_ | with_reducible refine Su.x_bmL ?_ | with_reducible refine Su.x_for ?_ | with_reducible refine Su.x_iList ?_ | with_reducible refine Su.x_iRng1 ?_ | with_reducible refine Su.x_gcons ?_ | with_reducible refine Su.x_gnil ?_ | with_reducible refine Su.x_gsub ?_ | with_reducible refine Su.x_lc ?_ | with_reducible refine Su.x_augS ?_ | with_reducible refine Su.x_ipI ?_)
local macro_rules | `(tactic| walk_at "xs") => `(tactic| repeat walk_at "x")
local macro_rules | `(tactic| walk_at "if") => `(tactic| first | with_reducible refine Su.x_iteD (fun c => ?_) (fun c => ?_) | with_reducible refine Su.x_iteN (fun c => ?_) (fun c => ?_) | with_reducible refine Su.x_ite (fun c => ?_) (fun c => ?_))
local macro_rules | `(tactic| walk_at "at") => `(tactic| first | assumption | (refine Su.f_at (by assumption) ?_; walk_at "at"))
local macro_rules | `(tactic| walk_at "sm") => `(tactic| first | assumption | exact L2.Same.refl _ | (refine Su.f_tr (by assumption) ?_; walk_at "sm"))
local macro_rules | `(tactic| walk_at "hp") => `(tactic| first | assumption | ((with_reducible refine Su.f_sqL ?_); walk_at "at") | ((with_reducible refine Su.f_sqT ?_); walk_at "at") | ((with_reducible show L2.Same _ _); walk_at "sm") | ((with_reducible show _ = none); refine Su.f_free ?_ (by assumption); walk_at "sm") | ((with_reducible show _ = some _); walk_at "at") | (refine Su.f_dp (by assumption) ?_; walk_at "hp") | (refine Su.f_dpA (by assumption) ?_; walk_at "hp") | (refine Su.f_sqLs (by assumption) ?_; walk_at "hp") | (refine Su.f_sqTs (by assumption) ?_; walk_at "hp"))
local macro_rules | `(tactic| walk_at "x") => `(tactic| first | with_reducible refine Su.x_fld ?_ | with_reducible refine Su.x_meth ?_ | with_reducible refine Su.c_stake (by assumption) ?_ | with_reducible refine Su.c_size (by assumption) ?_ | with_reducible refine Su.c_now (by assumption) ?_ | with_reducible refine Su.c_line (by assumption) ?_ | with_reducible refine Su.c_state (by assumption) ?_ | with_reducible refine Su.c_when (by assumption) ?_ | with_reducible refine Su.c_drawn (by assumption) ?_ | with_reducible refine Su.c_shared (by assumption) ?_ | with_reducible refine Su.c_flows (by assumption) ?_)
local macro_rules | `(tactic| walk_at "me") => `(tactic| first | refine Su.c_meth (by assumption) rfl ?_ | refine Su.so_meth (by assumption) rfl ?_)

end Su
namespace Su
open PySem L2
local macro_rules | `(tactic| walk_at "side") => `(tactic| first | assumption | (show (0 : Int) < _; omega) | (show (0 : Int) ≤ _; omega) | (show (0 : Int) < _; split <;> omega) | (show _ ∨ _; omega) | (show _ ∧ _; omega) | exact ⟨by decide, by decide, by decide⟩ | exact ⟨by first | assumption | omega, by first | assumption | omega⟩)
local macro_rules | `(tactic| walk_at "x") => `(tactic| first | with_reducible refine Su.x_seq ?_ | with_reducible refine Su.x_asg ?_ | with_reducible refine Su.x_gname ?_ | with_reducible refine Su.x_drop ?_ | with_reducible refine Su.x_ret ?_ | with_reducible refine Su.x_ifS ?_ | ((with_reducible show L2.tVar _ _ _ _); refine Su.x_var rfl ?_) | with_reducible refine Su.x_c ?_ | with_reducible refine Su.x_op ?_ | with_reducible refine Su.x_rI0 ?_ | with_reducible refine Su.x_neS ?_ | with_reducible refine Su.x_test ?_ | with_reducible refine Su.x_isB' ?_ | with_reducible refine Su.x_nil ?_ | with_reducible refine Su.x_cons ?_ | with_reducible refine Su.x_un ?_ | with_reducible refine Su.x_rU ?_ | with_reducible refine Su.x_bmL ?_ | with_reducible refine Su.x_for ?_ | with_reducible refine Su.x_iRng1 ?_ | with_reducible refine Su.x_augS ?_ | with_reducible refine Su.x_ipI ?_ | ((with_reducible show L2.tAug _ _ _ _ _ _); refine Su.x_aug rfl ?_))
local macro_rules | `(tactic| walk_at "xs") => `(tactic| repeat walk_at "x")
local macro_rules | `(tactic| walk_at "if") => `(tactic| first | with_reducible refine Su.x_iteD (fun c => ?_) (fun c => ?_) | with_reducible refine Su.x_iteN (fun c => ?_) (fun c => ?_) | with_reducible refine Su.x_ite (fun c => ?_) (fun c => ?_))
local macro_rules | `(tactic| walk_at "at") => `(tactic| first | assumption | (refine Su.f_at (by assumption) ?_; walk_at "at"))
local macro_rules | `(tactic| walk_at "sm") => `(tactic| first | assumption | exact L2.Same.refl _ | (refine Su.f_tr (by assumption) ?_; walk_at "sm"))
local macro_rules | `(tactic| walk_at "hp") => `(tactic| first | assumption | ((with_reducible refine Su.f_sqL ?_); walk_at "at") | ((with_reducible refine Su.f_sqT ?_); walk_at "at") | ((with_reducible show L2.Same _ _); walk_at "sm") | ((with_reducible show _ = none); refine Su.f_free ?_ (by assumption); walk_at "sm") | ((with_reducible show _ = some _); walk_at "at") | (refine Su.f_dp (by assumption) ?_; walk_at "hp") | (refine Su.f_dpA (by assumption) ?_; walk_at "hp") | (refine Su.f_sqLs (by assumption) ?_; walk_at "hp") | (refine Su.f_sqTs (by assumption) ?_; walk_at "hp"))
local macro_rules | `(tactic| walk_at "x") => `(tactic| first | with_reducible refine Su.x_fld ?_ | with_reducible refine Su.c_stake (by assumption) ?_ | with_reducible refine Su.c_size (by assumption) ?_ | with_reducible refine Su.c_now (by assumption) ?_ | with_reducible refine Su.c_state (by assumption) ?_ | with_reducible refine Su.c_when (by assumption) ?_ | with_reducible refine Su.c_pledged (by assumption) ?_ | with_reducible refine Su.c_given (by assumption) ?_ | with_reducible refine Su.c_missed (by assumption) ?_ | with_reducible refine Su.c_flows (by assumption) ?_)
local macro_rules | `(tactic| walk_at "me") => `(tactic| first | refine Su.c_meth (by assumption) rfl ?_ | refine Su.so_meth (by assumption) rfl ?_)

end Su
namespace Su
open PySem L2
local macro_rules | `(tactic| walk_at "side") => `(tactic| first | assumption | (show (0 : Int) < _; omega) | (show (0 : Int) ≤ _; omega) | (show (0 : Int) < _; split <;> omega) | (show _ ∨ _; omega) | (show _ ∧ _; omega) | exact ⟨by decide, by decide, by decide⟩ | exact ⟨by first | assumption | omega, by first | assumption | omega⟩)
local macro_rules | `(tactic| walk_at "x") => `(tactic| first | with_reducible refine Su.x_seq ?_ | with_reducible refine Su.x_asg ?_ | with_reducible refine Su.x_drop ?_ | ((with_reducible show L2.tVar _ _ _ _); refine Su.x_var rfl ?_) | with_reducible refine Su.x_c ?_ | with_reducible refine Su.x_op ?_ | with_reducible refine Su.x_nil ?_ | with_reducible refine Su.x_cons ?_ | with_reducible refine Su.x_bmL ?_ | with_reducible refine Su.x_gsub ?_)
local macro_rules | `(tactic| walk_at "xs") => `(tactic| repeat walk_at "x")
local macro_rules | `(tactic| walk_at "if") => `(tactic| first | with_reducible refine Su.x_iteD (fun c => ?_) (fun c => ?_) | with_reducible refine Su.x_iteN (fun c => ?_) (fun c => ?_) | with_reducible refine Su.x_ite (fun c => ?_) (fun c => ?_))
local macro_rules | `(tactic| walk_at "at") => `(tactic| first | assumption | (refine Su.f_at (by assumption) ?_; walk_at "at"))
local macro_rules | `(tactic| walk_at "sm") => `(tactic| first | assumption | exact L2.Same.refl _ | (refine Su.f_tr (by assumption) ?_; walk_at "sm"))
local macro_rules | `(tactic| walk_at "hp") => `(tactic| first | assumption | ((with_reducible refine Su.f_sqL ?_); walk_at "at") | ((with_reducible refine Su.f_sqT ?_); walk_at "at") | ((with_reducible show L2.Same _ _); walk_at "sm") | ((with_reducible show _ = none); refine Su.f_free ?_ (by assumption); walk_at "sm") | ((with_reducible show _ = some _); walk_at "at") | (refine Su.f_dp (by assumption) ?_; walk_at "hp") | (refine Su.f_dpA (by assumption) ?_; walk_at "hp") | (refine Su.f_sqLs (by assumption) ?_; walk_at "hp") | (refine Su.f_sqTs (by assumption) ?_; walk_at "hp"))
local macro_rules | `(tactic| walk_at "x") => `(tactic| first | with_reducible refine Su.x_fld ?_ | with_reducible refine Su.x_sfldAug ?_ | with_reducible refine Su.c_now (by assumption) ?_ | with_reducible refine Su.c_line (by assumption) ?_ | with_reducible refine Su.c_state (by assumption) ?_ | with_reducible refine Su.c_when (by assumption) ?_ | with_reducible refine Su.c_flows (by assumption) ?_)
local macro_rules | `(tactic| walk_at "me") => `(tactic| first | refine Su.c_meth (by assumption) rfl ?_ | refine Su.so_meth (by assumption) rfl ?_)

end Su
namespace Su
open PySem L2
local macro_rules | `(tactic| walk_at "side") => `(tactic| first | assumption | (show (0 : Int) < _; omega) | (show (0 : Int) ≤ _; omega) | (show (0 : Int) < _; split <;> omega) | (show _ ∨ _; omega) | (show _ ∧ _; omega) | exact ⟨by decide, by decide, by decide⟩ | exact ⟨by first | assumption | omega, by first | assumption | omega⟩)
local macro_rules | `(tactic| walk_at "x") => `(tactic| first | with_reducible refine Su.x_ret ?_ | ((with_reducible show L2.tVar _ _ _ _); refine Su.x_var rfl ?_) | with_reducible refine Su.x_op ?_ | with_reducible refine Su.x_rGt ?_)
local macro_rules | `(tactic| walk_at "xs") => `(tactic| repeat walk_at "x")
local macro_rules | `(tactic| walk_at "if") => `(tactic| first | with_reducible refine Su.x_iteD (fun c => ?_) (fun c => ?_) | with_reducible refine Su.x_iteN (fun c => ?_) (fun c => ?_) | with_reducible refine Su.x_ite (fun c => ?_) (fun c => ?_))
local macro_rules | `(tactic| walk_at "at") => `(tactic| first | assumption | (refine Su.f_at (by assumption) ?_; walk_at "at"))
local macro_rules | `(tactic| walk_at "sm") => `(tactic| first | assumption | exact L2.Same.refl _ | (refine Su.f_tr (by assumption) ?_; walk_at "sm"))
local macro_rules | `(tactic| walk_at "hp") => `(tactic| first | assumption | ((with_reducible refine Su.f_sqL ?_); walk_at "at") | ((with_reducible refine Su.f_sqT ?_); walk_at "at") | ((with_reducible show L2.Same _ _); walk_at "sm") | ((with_reducible show _ = none); refine Su.f_free ?_ (by assumption); walk_at "sm") | ((with_reducible show _ = some _); walk_at "at") | (refine Su.f_dp (by assumption) ?_; walk_at "hp") | (refine Su.f_dpA (by assumption) ?_; walk_at "hp") | (refine Su.f_sqLs (by assumption) ?_; walk_at "hp") | (refine Su.f_sqTs (by assumption) ?_; walk_at "hp"))
local macro_rules | `(tactic| walk_at "x") => `(tactic| first | with_reducible refine Su.x_fld ?_ | with_reducible refine Su.c_size (by assumption) ?_ | with_reducible refine Su.c_now (by assumption) ?_)
local macro_rules | `(tactic| walk_at "me") => `(tactic| first | refine Su.c_meth (by assumption) rfl ?_ | refine Su.so_meth (by assumption) rfl ?_)

end Su
namespace Su
open PySem L2
local macro_rules | `(tactic| walk_at "side") => `(tactic| first | assumption | (show (0 : Int) < _; omega) | (show (0 : Int) ≤ _; omega) | (show (0 : Int) < _; split <;> omega) | (show _ ∨ _; omega) | (show _ ∧ _; omega) | exact ⟨by decide, by decide, by decide⟩ | exact ⟨by first | assumption | omega, by first | assumption | omega⟩)
local macro_rules | `(tactic| walk_at "x") => `(tactic| first | with_reducible refine Su.x_seq ?_ | with_reducible refine Su.x_gname ?_ | with_reducible refine Su.x_ifS ?_ | ((with_reducible show L2.tVar _ _ _ _); refine Su.x_var rfl ?_) | with_reducible refine Su.x_c ?_ | with_reducible refine Su.x_op ?_ | with_reducible refine Su.x_rI0 ?_ | ((with_reducible refine Su.x_rI ?_ ?_); focus walk_at "side") | with_reducible refine Su.x_iteT ?_ | with_reducible refine Su.x_iteNF ?_ | with_reducible refine Su.x_neI ?_ | with_reducible refine Su.x_test ?_ | with_reducible refine Su.x_tB ?_ | with_reducible refine Su.x_isB' ?_ | with_reducible refine Su.x_not ?_ | with_reducible refine Su.x_or ?_ | with_reducible refine Su.x_chain ?_ | with_reducible refine Su.x_nil ?_ | with_reducible refine Su.x_cons ?_ | with_reducible refine Su.x_cb ?_ | with_reducible refine Su.x_next ?_ | with_reducible refine Su.x_for ?_ | with_reducible refine Su.x_iList ?_)
local macro_rules | `(tactic| walk_at "xs") => `(tactic| repeat walk_at "x")
local macro_rules | `(tactic| walk_at "if") => `(tactic| first | with_reducible refine Su.x_iteD (fun c => ?_) (fun c => ?_) | with_reducible refine Su.x_iteN (fun c => ?_) (fun c => ?_) | with_reducible refine Su.x_ite (fun c => ?_) (fun c => ?_))
local macro_rules | `(tactic| walk_at "at") => `(tactic| first | assumption | (refine Su.f_at (by assumption) ?_; walk_at "at"))
local macro_rules | `(tactic| walk_at "sm") => `(tactic| first | assumption | exact L2.Same.refl _ | (refine Su.f_tr (by assumption) ?_; walk_at "sm"))
local macro_rules | `(tactic| walk_at "hp") => `(tactic| first | assumption | ((with_reducible refine Su.f_sqL ?_); walk_at "at") | ((with_reducible refine Su.f_sqT ?_); walk_at "at") | ((with_reducible show L2.Same _ _); walk_at "sm") | ((with_reducible show _ = none); refine Su.f_free ?_ (by assumption); walk_at "sm") | ((with_reducible show _ = some _); walk_at "at") | (refine Su.f_dp (by assumption) ?_; walk_at "hp") | (refine Su.f_dpA (by assumption) ?_; walk_at "hp") | (refine Su.f_sqLs (by assumption) ?_; walk_at "hp") | (refine Su.f_sqTs (by assumption) ?_; walk_at "hp"))
local macro_rules | `(tactic| walk_at "x") => `(tactic| first | with_reducible refine Su.x_fld ?_ | with_reducible refine Su.x_meth ?_ | with_reducible refine Su.c_stake (by assumption) ?_ | with_reducible refine Su.c_size (by assumption) ?_)
local macro_rules | `(tactic| walk_at "me") => `(tactic| first | refine Su.c_meth (by assumption) rfl ?_ | refine Su.so_meth (by assumption) rfl ?_)

end Su
namespace Su
open PySem L2
local macro_rules | `(tactic| walk_at "side") => `(tactic| first | assumption | (show (0 : Int) < _; omega) | (show (0 : Int) ≤ _; omega) | (show (0 : Int) < _; split <;> omega) | (show _ ∨ _; omega) | (show _ ∧ _; omega) | exact ⟨by decide, by decide, by decide⟩ | exact ⟨by first | assumption | omega, by first | assumption | omega⟩)
local macro_rules | `(tactic| walk_at "x") => `(tactic| first | with_reducible refine Su.x_seq ?_ | with_reducible refine Su.x_asg ?_ | with_reducible refine Su.x_gname ?_ | with_reducible refine Su.x_drop ?_ | with_reducible refine Su.x_ret ?_ | with_reducible refine Su.x_ifS ?_ | ((with_reducible show L2.tVar _ _ _ _); refine Su.x_var rfl ?_) | with_reducible refine Su.x_c ?_ | with_reducible refine Su.x_op ?_ | with_reducible refine Su.x_rI0 ?_ | ((with_reducible refine Su.x_rI ?_ ?_); focus walk_at "side") | with_reducible refine Su.x_rGt ?_ | with_reducible refine Su.x_iteF ?_ | with_reducible refine Su.x_iteNT ?_ | with_reducible refine Su.x_iteNF ?_ | with_reducible refine Su.x_eqS ?_ | with_reducible refine Su.x_test ?_ | with_reducible refine Su.x_tB ?_ | with_reducible refine Su.x_isB' ?_ | with_reducible refine Su.x_not ?_ | with_reducible refine Su.x_and ?_ | with_reducible refine Su.x_nil ?_ | with_reducible refine Su.x_cons ?_ | with_reducible refine Su.x_cb ?_ | with_reducible refine Su.x_un ?_ | with_reducible refine Su.x_rU ?_ | with_reducible refine Su.x_tup ?_ | with_reducible refine Su.x_for ?_ | with_reducible refine Su.x_iList ?_ | with_reducible refine Su.x_iRng1 ?_ | with_reducible refine Su.x_gcons ?_ | with_reducible refine Su.x_gnil ?_ | with_reducible refine Su.x_lc ?_)
local macro_rules | `(tactic| walk_at "xs") => `(tactic| repeat walk_at "x")
local macro_rules | `(tactic| walk_at "if") => `(tactic| first | with_reducible refine Su.x_iteD (fun c => ?_) (fun c => ?_) | with_reducible refine Su.x_iteN (fun c => ?_) (fun c => ?_) | with_reducible refine Su.x_ite (fun c => ?_) (fun c => ?_))
local macro_rules | `(tactic| walk_at "at") => `(tactic| first | assumption | (refine Su.f_at (by assumption) ?_; walk_at "at"))
local macro_rules | `(tactic| walk_at "sm") => `(tactic| first | assumption | exact L2.Same.refl _ | (refine Su.f_tr (by assumption) ?_; walk_at "sm"))
local macro_rules | `(tactic| walk_at "hp") => `(tactic| first | assumption | ((with_reducible refine Su.f_sqL ?_); walk_at "at") | ((with_reducible refine Su.f_sqT ?_); walk_at "at") | ((with_reducible show L2.Same _ _); walk_at "sm") | ((with_reducible show _ = none); refine Su.f_free ?_ (by assumption); walk_at "sm") | ((with_reducible show _ = some _); walk_at "at") | (refine Su.f_dp (by assumption) ?_; walk_at "hp") | (refine Su.f_dpA (by assumption) ?_; walk_at "hp") | (refine Su.f_sqLs (by assumption) ?_; walk_at "hp") | (refine Su.f_sqTs (by assumption) ?_; walk_at "hp"))
local macro_rules | `(tactic| walk_at "x") => `(tactic| first | with_reducible refine Su.x_fld ?_ | with_reducible refine Su.x_sfldAug ?_ | with_reducible refine Su.x_meth ?_ | with_reducible refine Su.c_stake (by assumption) ?_ | with_reducible refine Su.c_size (by assumption) ?_ | with_reducible refine Su.c_now (by assumption) ?_ | with_reducible refine Su.c_due (by assumption) ?_ | with_reducible refine Su.c_state (by assumption) ?_)
local macro_rules | `(tactic| walk_at "me") => `(tactic| first | refine Su.c_meth (by assumption) rfl ?_ | refine Su.so_meth (by assumption) rfl ?_)

/-! put out, one by one -/
section
variable {st : CS} {paid : List Bool}
end
end Su
namespace Su
open PySem L2
local macro_rules | `(tactic| walk_at "side") => `(tactic| first | assumption | (show (0 : Int) < _; omega) | (show (0 : Int) ≤ _; omega) | (show (0 : Int) < _; split <;> omega) | (show _ ∨ _; omega) | (show _ ∧ _; omega) | exact ⟨by decide, by decide, by decide⟩ | exact ⟨by first | assumption | omega, by first | assumption | omega⟩)
local macro_rules | `(tactic| walk_at "x") => `(tactic| first | with_reducible refine Su.x_seq ?_ | with_reducible refine Su.x_asg ?_ | with_reducible refine Su.x_gname ?_ | with_reducible refine Su.x_ifS ?_ | ((with_reducible show L2.tVar _ _ _ _); refine Su.x_var rfl ?_) | with_reducible refine Su.x_c ?_ | with_reducible refine Su.x_op ?_ | with_reducible refine Su.x_rI0 ?_ | with_reducible refine Su.x_iteT ?_ | with_reducible refine Su.x_iteNF ?_ | with_reducible refine Su.x_neI ?_ | with_reducible refine Su.x_test ?_ | with_reducible refine Su.x_isB' ?_ | with_reducible refine Su.x_not ?_ | with_reducible refine Su.x_or ?_ | with_reducible refine Su.x_chain ?_ | with_reducible refine Su.x_nil ?_ | with_reducible refine Su.x_cons ?_ | with_reducible refine Su.x_cb ?_ | with_reducible refine Su.x_for ?_ | with_reducible refine Su.x_iList ?_)
local macro_rules | `(tactic| walk_at "xs") => `(tactic| repeat walk_at "x")
local macro_rules | `(tactic| walk_at "if") => `(tactic| first | with_reducible refine Su.x_iteD (fun c => ?_) (fun c => ?_) | with_reducible refine Su.x_iteN (fun c => ?_) (fun c => ?_) | with_reducible refine Su.x_ite (fun c => ?_) (fun c => ?_))
local macro_rules | `(tactic| walk_at "at") => `(tactic| first | assumption | (refine Su.f_at (by assumption) ?_; walk_at "at"))
local macro_rules | `(tactic| walk_at "sm") => `(tactic| first | assumption | exact L2.Same.refl _ | (refine Su.f_tr (by assumption) ?_; walk_at "sm"))
local macro_rules | `(tactic| walk_at "hp") => `(tactic| first | assumption | ((with_reducible refine Su.f_sqL ?_); walk_at "at") | ((with_reducible refine Su.f_sqT ?_); walk_at "at") | ((with_reducible show L2.Same _ _); walk_at "sm") | ((with_reducible show _ = none); refine Su.f_free ?_ (by assumption); walk_at "sm") | ((with_reducible show _ = some _); walk_at "at") | (refine Su.f_dp (by assumption) ?_; walk_at "hp") | (refine Su.f_dpA (by assumption) ?_; walk_at "hp") | (refine Su.f_sqLs (by assumption) ?_; walk_at "hp") | (refine Su.f_sqTs (by assumption) ?_; walk_at "hp"))
local macro_rules | `(tactic| walk_at "me") => `(tactic| first | refine Su.c_meth (by assumption) rfl ?_ | refine Su.so_meth (by assumption) rfl ?_)

end Su
namespace Su
open PySem L2
local macro_rules | `(tactic| walk_at "side") => `(tactic| first | assumption | (show (0 : Int) < _; omega) | (show (0 : Int) ≤ _; omega) | (show (0 : Int) < _; split <;> omega) | (show _ ∨ _; omega) | (show _ ∧ _; omega) | exact ⟨by decide, by decide, by decide⟩ | exact ⟨by first | assumption | omega, by first | assumption | omega⟩)
local macro_rules | `(tactic| walk_at "x") => `(tactic| first | with_reducible refine Su.x_seq ?_ | with_reducible refine Su.x_asg ?_ | with_reducible refine Su.x_gname ?_ | with_reducible refine Su.x_drop ?_ | with_reducible refine Su.x_ret ?_ | ((with_reducible show L2.tVar _ _ _ _); refine Su.x_var rfl ?_) | with_reducible refine Su.x_c ?_ | with_reducible refine Su.x_op ?_ | with_reducible refine Su.x_rI0 ?_ | ((with_reducible refine Su.x_rI ?_ ?_); focus walk_at "side") | with_reducible refine Su.x_nil ?_ | with_reducible refine Su.x_cons ?_ | with_reducible refine Su.x_lst ?_ | with_reducible refine Su.x_bmL ?_ | with_reducible refine Su.x_for ?_ | with_reducible refine Su.x_iRng1 ?_)
local macro_rules | `(tactic| walk_at "xs") => `(tactic| repeat walk_at "x")
local macro_rules | `(tactic| walk_at "if") => `(tactic| first | with_reducible refine Su.x_iteD (fun c => ?_) (fun c => ?_) | with_reducible refine Su.x_iteN (fun c => ?_) (fun c => ?_) | with_reducible refine Su.x_ite (fun c => ?_) (fun c => ?_))

/-! _law_perm: a drawn order -/
end Su
namespace Su
open PySem L2
local macro_rules | `(tactic| walk_at "side") => `(tactic| first | assumption | (show (0 : Int) < _; omega) | (show (0 : Int) ≤ _; omega) | (show (0 : Int) < _; split <;> omega) | (show _ ∨ _; omega) | (show _ ∧ _; omega) | exact ⟨by decide, by decide, by decide⟩ | exact ⟨by first | assumption | omega, by first | assumption | omega⟩)
local macro_rules | `(tactic| walk_at "xs") => `(tactic| repeat walk_at "x")
local macro_rules | `(tactic| walk_at "if") => `(tactic| first | with_reducible refine Su.x_iteD (fun c => ?_) (fun c => ?_) | with_reducible refine Su.x_iteN (fun c => ?_) (fun c => ?_) | with_reducible refine Su.x_ite (fun c => ?_) (fun c => ?_))

/-! papers as data -/
end Su
namespace Su
open PySem L2
local macro_rules | `(tactic| walk_at "side") => `(tactic| first | assumption | (show (0 : Int) < _; omega) | (show (0 : Int) ≤ _; omega) | (show (0 : Int) < _; split <;> omega) | (show _ ∨ _; omega) | (show _ ∧ _; omega) | exact ⟨by decide, by decide, by decide⟩ | exact ⟨by first | assumption | omega, by first | assumption | omega⟩)
local macro_rules | `(tactic| walk_at "xs") => `(tactic| repeat walk_at "x")
local macro_rules | `(tactic| walk_at "if") => `(tactic| first | with_reducible refine Su.x_iteD (fun c => ?_) (fun c => ?_) | with_reducible refine Su.x_iteN (fun c => ?_) (fun c => ?_) | with_reducible refine Su.x_ite (fun c => ?_) (fun c => ?_))

/-! windows around a drawn order -/
end Su
namespace Su
open PySem L2
local macro_rules | `(tactic| walk_at "side") => `(tactic| first | assumption | (show (0 : Int) < _; omega) | (show (0 : Int) ≤ _; omega) | (show (0 : Int) < _; split <;> omega) | (show _ ∨ _; omega) | (show _ ∧ _; omega) | exact ⟨by decide, by decide, by decide⟩ | exact ⟨by first | assumption | omega, by first | assumption | omega⟩)
local macro_rules | `(tactic| walk_at "xs") => `(tactic| repeat walk_at "x")
local macro_rules | `(tactic| walk_at "if") => `(tactic| first | with_reducible refine Su.x_iteD (fun c => ?_) (fun c => ?_) | with_reducible refine Su.x_iteN (fun c => ?_) (fun c => ?_) | with_reducible refine Su.x_ite (fun c => ?_) (fun c => ?_))

/-! a comprehension of new empty lists -/
/-! an object that is being made -/
theorem putF_new {f : Str} {v : V} : ∀ {fs : List (Str × V)}, f ∉ fs.map (·.1) → putF f v fs = fs ++ [(f, v)]
  | [], _ => rfl
  | (g, x) :: r, h => by
    simp only [List.map_cons, List.mem_cons, not_or] at h
    show (if g = f then (g, v) :: r else (g, x) :: putF f v r) = _
    rw [if_neg (fun e => h.1 e.symm), putF_new h.2]; rfl
structure Bld (K : PySem.W.Frag) (cn : Str) (names : List Str) (H0 H : Hp) (x dx : Addr) (ks : List Str) (fs : List (Str × V)) (cs : List (Addr × HO)) : Prop where
  t : ClsT K cn names
  hx : H x = some (.ins (He.ga K cn) dx fs)
  hd : H dx = some (.own x)
  ndx : dx ≠ x
  off : Off [x] H0 H
  hc : Cells H cs
  nx : ∀ p ∈ cs, p.1 ≠ x ∧ p.1 ≠ dx ∧ H0 p.1 = none
  nd : (cs.map (·.1)).Nodup
  hk : fs.map (·.1) = ks
  sm : ∀ b, b ≠ x → H0 b ≠ none → H b = H0 b
section
variable {K : PySem.W.Frag} {cn : Str} {names : List Str} {H0 H H' : Hp} {x dx p : Addr} {ks : List Str} {fs : List (Str × V)} {cs : List (Addr × HO)} {f : Str} {v : V} {o : HO}
theorem Bld.same (B : Bld K cn names H0 H x dx ks fs cs) (s : Same H H') : Bld K cn names H0 H' x dx ks fs cs :=
  ⟨B.t, s _ _ B.hx, s _ _ B.hd, B.ndx, B.off.trans (Off.of s), B.hc.same s, B.nx, B.nd, B.hk, fun b hb h0 => by
    cases e : H0 b with
    | none => exact absurd e h0
    | some o => exact s b o (B.off b o (by simpa using hb) e)⟩
theorem Bld.free (B : Bld K cn names H0 H x dx ks fs cs) (n : H p = none) : H0 p = none ∧ p ≠ x ∧ p ≠ dx ∧ p ∉ cs.map (·.1) := by
  have n1 : p ≠ x := fun e => by subst e; rw [B.hx] at n; cases n
  refine ⟨?_, n1, (fun e => by subst e; rw [B.hd] at n; cases n), B.hc.fresh n⟩
  cases e : H0 p with
  | none => rfl
  | some o => rw [B.off p o (by simpa using n1) e] at n; cases n
theorem Bld.new (B : Bld K cn names H0 H x dx ks fs cs) (n : H p = none) (s : Same H H') (e : H' p = some o) : Bld K cn names H0 H' x dx ks fs (cs ++ [(p, o)]) := by
  have B' := B.same s
  obtain ⟨h1, h2, h3, h4⟩ := B.free n
  refine ⟨B.t, B'.hx, B'.hd, B.ndx, B'.off, B'.hc.app (Cells.cons e Cells.nil), fun q hq => ?_, ?_, B.hk, B'.sm⟩
  · rcases List.mem_append.mp hq with hq | hq
    · exact B.nx q hq
    · cases List.mem_singleton.mp hq; exact ⟨h2, h3, h1⟩
  · rw [List.map_append, List.nodup_append]
    exact ⟨B.nd, by simp, fun a ha b hb eab => h4 (by simp at hb; subst hb; subst eab; exact ha)⟩
theorem Bld.set {Qh : Hp → Prop} (B : Bld K cn names H0 H x dx ks fs cs) (hf : f ∉ ks) (m : f ∈ names) (hl : ks.length < 1000) (q : ∀ H', Bld K cn names H0 H' x dx (ks ++ [f]) (fs ++ [(f, v)]) cs → (∀ b, b ≠ x → H' b = H b) → Qh H') :
    ∃ a C dx fs, V.ref x = .ref a ∧ H a = some (.ins C dx fs) ∧ Cls K C ∧ NoAttr K C f ∧ fs.length < 1000 ∧ Qh (upd H a (.ins C dx (putF f v fs))) := by
  have hl' : fs.length < 1000 := by rw [← List.length_map (f := (·.1)), B.hk]; exact hl
  refine ⟨x, _, dx, fs, rfl, B.hx, B.t.cl, B.t.no.get m, hl', q _ ?_ fun b hb => upd_ne hb⟩
  rw [putF_new (by rw [B.hk]; exact hf)]
  refine ⟨B.t, upd_same, by rw [upd_ne B.ndx]; exact B.hd, B.ndx, B.off.upd (by simp), B.hc.upd fun z => ?_, B.nx, B.nd, by rw [List.map_append, B.hk]; rfl, fun b hb h0 => by rw [upd_ne hb]; exact B.sm b hb h0⟩
  obtain ⟨q, hq, e⟩ := List.mem_map.mp z
  exact (B.nx q hq).1 e
end

end Su
namespace Su
open PySem L2
local macro_rules | `(tactic| walk_at "side") => `(tactic| first | assumption | (show (0 : Int) < _; omega) | (show (0 : Int) ≤ _; omega) | (show (0 : Int) < _; split <;> omega) | (show _ ∨ _; omega) | (show _ ∧ _; omega) | exact ⟨by decide, by decide, by decide⟩ | exact ⟨by first | assumption | omega, by first | assumption | omega⟩)
local macro_rules | `(tactic| walk_at "xs") => `(tactic| repeat walk_at "x")
local macro_rules | `(tactic| walk_at "if") => `(tactic| first | with_reducible refine Su.x_iteD (fun c => ?_) (fun c => ?_) | with_reducible refine Su.x_iteN (fun c => ?_) (fun c => ?_) | with_reducible refine Su.x_ite (fun c => ?_) (fun c => ?_))

/-! NoOrder: an exception with an __init__ of its own -/
section
variable {X : Cx} {CX : CXT} {k j : Nat} {sp : Sp} {e : Expr} {es : List Expr} {t : TA} {p pos pos' : Pos} {W : WX}
end
end Su
namespace Su
open PySem L2
local macro_rules | `(tactic| walk_at "side") => `(tactic| first | assumption | (show (0 : Int) < _; omega) | (show (0 : Int) ≤ _; omega) | (show (0 : Int) < _; split <;> omega) | (show _ ∨ _; omega) | (show _ ∧ _; omega) | exact ⟨by decide, by decide, by decide⟩ | exact ⟨by first | assumption | omega, by first | assumption | omega⟩)
local macro_rules | `(tactic| walk_at "x") => `(tactic| first | with_reducible refine Su.x_seq ?_ | ((with_reducible show L2.tVar _ _ _ _); refine Su.x_var rfl ?_) | with_reducible refine Su.x_nil ?_ | with_reducible refine Su.x_cons ?_ | with_reducible refine Su.x_cb ?_)
local macro_rules | `(tactic| walk_at "xs") => `(tactic| repeat walk_at "x")
local macro_rules | `(tactic| walk_at "if") => `(tactic| first | with_reducible refine Su.x_iteD (fun c => ?_) (fun c => ?_) | with_reducible refine Su.x_iteN (fun c => ?_) (fun c => ?_) | with_reducible refine Su.x_ite (fun c => ?_) (fun c => ?_))

end Su
namespace Su
open PySem L2
local macro_rules | `(tactic| walk_at "side") => `(tactic| first | assumption | (show (0 : Int) < _; omega) | (show (0 : Int) ≤ _; omega) | (show (0 : Int) < _; split <;> omega) | (show _ ∨ _; omega) | (show _ ∧ _; omega) | exact ⟨by decide, by decide, by decide⟩ | exact ⟨by first | assumption | omega, by first | assumption | omega⟩)
local macro_rules | `(tactic| walk_at "x") => `(tactic| first | with_reducible refine Su.x_seq ?_ | with_reducible refine Su.x_asg ?_ | with_reducible refine Su.x_gname ?_ | with_reducible refine Su.x_drop ?_ | with_reducible refine Su.x_ifS ?_ | ((with_reducible show L2.tVar _ _ _ _); refine Su.x_var rfl ?_) | with_reducible refine Su.x_c ?_ | with_reducible refine Su.x_op ?_ | with_reducible refine Su.x_iteT ?_ | with_reducible refine Su.x_eqS ?_ | with_reducible refine Su.x_test ?_ | with_reducible refine Su.x_isB' ?_ | with_reducible refine Su.x_nil ?_ | with_reducible refine Su.x_cons ?_ | with_reducible refine Su.x_cb ?_ | with_reducible refine Su.x_call ?_ | with_reducible refine Su.x_lst ?_ | with_reducible refine Su.x_tup ?_ | with_reducible refine Su.x_next ?_ | with_reducible refine Su.x_iRng1 ?_ | with_reducible refine Su.x_iZip ?_ | with_reducible refine Su.x_gcons ?_ | with_reducible refine Su.x_gnil ?_ | with_reducible refine Su.x_yes ?_ | with_reducible refine Su.x_lc ?_)
local macro_rules | `(tactic| walk_at "xs") => `(tactic| repeat walk_at "x")
local macro_rules | `(tactic| walk_at "if") => `(tactic| first | with_reducible refine Su.x_iteD (fun c => ?_) (fun c => ?_) | with_reducible refine Su.x_iteN (fun c => ?_) (fun c => ?_) | with_reducible refine Su.x_ite (fun c => ?_) (fun c => ?_))
local macro_rules | `(tactic| walk_at "at") => `(tactic| first | assumption | (refine Su.f_at (by assumption) ?_; walk_at "at"))
local macro_rules | `(tactic| walk_at "sm") => `(tactic| first | assumption | exact L2.Same.refl _ | (refine Su.f_tr (by assumption) ?_; walk_at "sm"))
local macro_rules | `(tactic| walk_at "hp") => `(tactic| first | assumption | ((with_reducible refine Su.f_sqL ?_); walk_at "at") | ((with_reducible refine Su.f_sqT ?_); walk_at "at") | ((with_reducible show L2.Same _ _); walk_at "sm") | ((with_reducible show _ = none); refine Su.f_free ?_ (by assumption); walk_at "sm") | ((with_reducible show _ = some _); walk_at "at") | (refine Su.f_dp (by assumption) ?_; walk_at "hp") | (refine Su.f_dpA (by assumption) ?_; walk_at "hp") | (refine Su.f_sqLs (by assumption) ?_; walk_at "hp") | (refine Su.f_sqTs (by assumption) ?_; walk_at "hp"))
local macro_rules | `(tactic| walk_at "x") => `(tactic| first | with_reducible refine Su.x_sfld ?_)
local macro_rules | `(tactic| walk_at "me") => `(tactic| first | refine Su.c_meth (by assumption) rfl ?_ | refine Su.so_meth (by assumption) rfl ?_)

end Su
namespace Su
open PySem L2
local macro_rules | `(tactic| walk_at "side") => `(tactic| first | assumption | (show (0 : Int) < _; omega) | (show (0 : Int) ≤ _; omega) | (show (0 : Int) < _; split <;> omega) | (show _ ∨ _; omega) | (show _ ∧ _; omega) | exact ⟨by decide, by decide, by decide⟩ | exact ⟨by first | assumption | omega, by first | assumption | omega⟩)
local macro_rules | `(tactic| walk_at "xs") => `(tactic| repeat walk_at "x")
local macro_rules | `(tactic| walk_at "if") => `(tactic| first | with_reducible refine Su.x_iteD (fun c => ?_) (fun c => ?_) | with_reducible refine Su.x_iteN (fun c => ?_) (fun c => ?_) | with_reducible refine Su.x_ite (fun c => ?_) (fun c => ?_))

/-! the loop of windows around a planted order: one turn -/
theorem b_mod (r d : Int) (h : 0 < d) : 0 ≤ r % d ∧ r % d < d := ⟨Int.emod_nonneg r (by omega), Int.emod_lt_of_pos r h⟩
end Su
namespace Su
open PySem L2
local macro_rules | `(tactic| walk_at "side") => `(tactic| first | assumption | (show (0 : Int) < _; omega) | (show (0 : Int) ≤ _; omega) | (show (0 : Int) < _; split <;> omega) | (show _ ∨ _; omega) | (show _ ∧ _; omega) | exact ⟨by decide, by decide, by decide⟩ | exact ⟨by first | assumption | omega, by first | assumption | omega⟩)
local macro_rules | `(tactic| walk_at "x") => `(tactic| first
  | with_reducible refine Su.x_seq ?_ | with_reducible refine Su.x_asg ?_ | with_reducible refine Su.x_gname ?_ | with_reducible refine Su.x_drop ?_ | with_reducible refine Su.x_ret ?_ | with_reducible refine Su.x_ifS ?_
  | ((with_reducible show L2.tVar _ _ _ _); refine Su.x_var rfl ?_) | with_reducible refine Su.x_c ?_ | with_reducible refine Su.x_op ?_ | with_reducible refine Su.x_rI0 ?_ | ((with_reducible refine Su.x_rI ?_ ?_); focus walk_at "side")
  | ((with_reducible show L2.rIxL _ (L2.V.ref _) (L2.V.int _) _ _); refine Su.x_ixI (by assumption) (by first | decide | omega) (by omega) ?_) | with_reducible refine Su.x_isi_int_int ?_ | with_reducible refine Su.x_isi_int_bool ?_ | with_reducible refine Su.x_isi_int_str ?_ | with_reducible refine Su.x_isi_int_list ?_ | with_reducible refine Su.x_isi_int_tuple ?_ | with_reducible refine Su.x_isi_bool_int ?_ | with_reducible refine Su.x_isi_bool_bool ?_ | with_reducible refine Su.x_isi_bool_str ?_ | with_reducible refine Su.x_isi_bool_list ?_ | with_reducible refine Su.x_isi_bool_tuple ?_ | with_reducible refine Su.x_isi_str_int ?_ | with_reducible refine Su.x_isi_str_bool ?_ | with_reducible refine Su.x_isi_str_str ?_ | with_reducible refine Su.x_isi_str_list ?_ | with_reducible refine Su.x_isi_str_tuple ?_ | with_reducible refine Su.x_isi_NoneType_int ?_ | with_reducible refine Su.x_isi_NoneType_bool ?_ | with_reducible refine Su.x_isi_NoneType_str ?_ | with_reducible refine Su.x_isi_NoneType_list ?_ | with_reducible refine Su.x_isi_NoneType_tuple ?_ | with_reducible refine Su.x_rGt ?_ | with_reducible refine Su.x_rGe ?_ | with_reducible refine Su.x_iteF ?_ | with_reducible refine Su.x_iteT ?_ | with_reducible refine Su.x_iteNT ?_ | with_reducible refine Su.x_iteNF ?_ | with_reducible refine Su.x_eqI ?_ | with_reducible refine Su.x_neI ?_ | with_reducible refine Su.x_eqS ?_ | with_reducible refine Su.x_neS ?_ | with_reducible refine Su.x_eqB ?_ | with_reducible refine Su.x_neB ?_
  | with_reducible refine Su.x_test ?_ | with_reducible refine Su.x_tB ?_ | with_reducible refine Su.x_isB ?_ | with_reducible refine Su.x_isB' ?_ | with_reducible refine Su.x_not ?_ | with_reducible refine Su.x_and ?_ | with_reducible refine Su.x_or ?_
  | with_reducible refine Su.x_andV ?_ | with_reducible refine Su.x_orV ?_ | with_reducible refine Su.x_notV ?_ | with_reducible refine Su.x_chain ?_ | with_reducible refine Su.x_nil ?_ | with_reducible refine Su.x_cons ?_ | with_reducible refine Su.x_cb ?_ | with_reducible refine Su.x_call ?_
  | with_reducible refine Su.x_un ?_ | with_reducible refine Su.x_rU ?_ | with_reducible refine Su.x_abs ?_ | with_reducible refine Su.x_max2 ?_ | with_reducible refine Su.x_min2 ?_ | with_reducible refine Su.x_int1 ?_ | with_reducible refine Su.x_intB ?_
  | with_reducible refine Su.x_lst ?_ | with_reducible refine Su.x_tup ?_ | with_reducible refine Su.x_bmL ?_ | with_reducible refine Su.x_next ?_ | with_reducible refine Su.x_for ?_ | with_reducible refine Su.x_iList ?_ | with_reducible refine Su.x_iRng1 ?_ | with_reducible refine Su.x_iRng2 ?_ | with_reducible refine Su.x_whileN ?_ | with_reducible refine Su.x_iEnum ?_ | with_reducible refine Su.x_iZip ?_ | with_reducible refine Su.x_iZipA ?_ | with_reducible refine Su.x_iTup ?_ | with_reducible refine Su.x_gcons ?_ | with_reducible refine Su.x_gnil ?_ | with_reducible refine Su.x_gsub ?_ | with_reducible refine Su.x_yes ?_ | with_reducible refine Su.x_lc ?_ | with_reducible refine Su.x_sl ?_ | with_reducible refine Su.x_nopart ?_ | with_reducible refine Su.x_part ?_ | with_reducible refine Su.x_isI ?_ | with_reducible refine Su.x_lstRg ?_ | with_reducible refine Su.x_rg1 ?_ | with_reducible refine Su.x_augS ?_ | with_reducible refine Su.x_ipI ?_ | ((with_reducible show L2.tAug _ _ _ _ _ _); refine Su.x_aug rfl ?_) | with_reducible refine Su.x_callS ?_ | with_reducible refine Su.x_tryAs ?_)
local macro_rules | `(tactic| walk_at "xs") => `(tactic| repeat walk_at "x")
local macro_rules | `(tactic| walk_at "if") => `(tactic| first | with_reducible refine Su.x_iteD (fun c => ?_) (fun c => ?_) | with_reducible refine Su.x_iteN (fun c => ?_) (fun c => ?_) | with_reducible refine Su.x_ite (fun c => ?_) (fun c => ?_))
local macro_rules | `(tactic| walk_at "at") => `(tactic| first | assumption | (refine Su.f_at (by assumption) ?_; walk_at "at"))
local macro_rules | `(tactic| walk_at "sm") => `(tactic| first | assumption | exact L2.Same.refl _ | (refine Su.f_tr (by assumption) ?_; walk_at "sm"))
local macro_rules | `(tactic| walk_at "hp") => `(tactic| first | assumption | ((with_reducible refine Su.f_sqL ?_); walk_at "at") | ((with_reducible refine Su.f_sqT ?_); walk_at "at") | ((with_reducible show L2.Same _ _); walk_at "sm") | ((with_reducible show _ = none); refine Su.f_free ?_ (by assumption); walk_at "sm") | ((with_reducible show _ = some _); walk_at "at") | (refine Su.f_dp (by assumption) ?_; walk_at "hp") | (refine Su.f_dpA (by assumption) ?_; walk_at "hp") | (refine Su.f_sqLs (by assumption) ?_; walk_at "hp") | (refine Su.f_sqTs (by assumption) ?_; walk_at "hp"))
/-! _law_opening -/
end Su
namespace Su
open PySem L2
local macro_rules | `(tactic| walk_at "side") => `(tactic| first | assumption | (show (0 : Int) < _; omega) | (show (0 : Int) ≤ _; omega) | (show (0 : Int) < _; split <;> omega) | (show _ ∨ _; omega) | (show _ ∧ _; omega) | exact ⟨by decide, by decide, by decide⟩ | exact ⟨by first | assumption | omega, by first | assumption | omega⟩)
local macro_rules | `(tactic| walk_at "x") => `(tactic| first | with_reducible refine Su.x_ifS ?_ | ((with_reducible show L2.tVar _ _ _ _); refine Su.x_var rfl ?_) | with_reducible refine Su.x_c ?_ | with_reducible refine Su.x_rI0 ?_ | with_reducible refine Su.x_iteNF ?_ | with_reducible refine Su.x_test ?_ | with_reducible refine Su.x_isB' ?_ | with_reducible refine Su.x_not ?_ | with_reducible refine Su.x_chain ?_ | with_reducible refine Su.x_next ?_)
local macro_rules | `(tactic| walk_at "xs") => `(tactic| repeat walk_at "x")
local macro_rules | `(tactic| walk_at "if") => `(tactic| first | with_reducible refine Su.x_iteD (fun c => ?_) (fun c => ?_) | with_reducible refine Su.x_iteN (fun c => ?_) (fun c => ?_) | with_reducible refine Su.x_ite (fun c => ?_) (fun c => ?_))
local macro_rules | `(tactic| walk_at "at") => `(tactic| first | assumption | (refine Su.f_at (by assumption) ?_; walk_at "at"))
local macro_rules | `(tactic| walk_at "sm") => `(tactic| first | assumption | exact L2.Same.refl _ | (refine Su.f_tr (by assumption) ?_; walk_at "sm"))
local macro_rules | `(tactic| walk_at "hp") => `(tactic| first | assumption | ((with_reducible refine Su.f_sqL ?_); walk_at "at") | ((with_reducible refine Su.f_sqT ?_); walk_at "at") | ((with_reducible show L2.Same _ _); walk_at "sm") | ((with_reducible show _ = none); refine Su.f_free ?_ (by assumption); walk_at "sm") | ((with_reducible show _ = some _); walk_at "at") | (refine Su.f_dp (by assumption) ?_; walk_at "hp") | (refine Su.f_dpA (by assumption) ?_; walk_at "hp") | (refine Su.f_sqLs (by assumption) ?_; walk_at "hp") | (refine Su.f_sqTs (by assumption) ?_; walk_at "hp"))
local macro_rules | `(tactic| walk_at "x") => `(tactic| first | with_reducible refine Su.x_fld ?_ | with_reducible refine Su.c_size (by assumption) ?_)
local macro_rules | `(tactic| walk_at "me") => `(tactic| first | refine Su.c_meth (by assumption) rfl ?_ | refine Su.so_meth (by assumption) rfl ?_)

end Su
namespace Su
open PySem L2
local macro_rules | `(tactic| walk_at "side") => `(tactic| first | assumption | (show (0 : Int) < _; omega) | (show (0 : Int) ≤ _; omega) | (show (0 : Int) < _; split <;> omega) | (show _ ∨ _; omega) | (show _ ∧ _; omega) | exact ⟨by decide, by decide, by decide⟩ | exact ⟨by first | assumption | omega, by first | assumption | omega⟩)
local macro_rules | `(tactic| walk_at "x") => `(tactic| first | with_reducible refine Su.x_seq ?_ | with_reducible refine Su.x_drop ?_ | with_reducible refine Su.x_ret ?_ | with_reducible refine Su.x_ifS ?_ | ((with_reducible show L2.tVar _ _ _ _); refine Su.x_var rfl ?_) | with_reducible refine Su.x_c ?_ | with_reducible refine Su.x_op ?_ | with_reducible refine Su.x_rI0 ?_ | with_reducible refine Su.x_eqS ?_ | with_reducible refine Su.x_test ?_ | with_reducible refine Su.x_isB' ?_ | with_reducible refine Su.x_nil ?_ | with_reducible refine Su.x_cons ?_ | with_reducible refine Su.x_bmL ?_ | with_reducible refine Su.x_next ?_)
local macro_rules | `(tactic| walk_at "xs") => `(tactic| repeat walk_at "x")
local macro_rules | `(tactic| walk_at "if") => `(tactic| first | with_reducible refine Su.x_iteD (fun c => ?_) (fun c => ?_) | with_reducible refine Su.x_iteN (fun c => ?_) (fun c => ?_) | with_reducible refine Su.x_ite (fun c => ?_) (fun c => ?_))
local macro_rules | `(tactic| walk_at "at") => `(tactic| first | assumption | (refine Su.f_at (by assumption) ?_; walk_at "at"))
local macro_rules | `(tactic| walk_at "sm") => `(tactic| first | assumption | exact L2.Same.refl _ | (refine Su.f_tr (by assumption) ?_; walk_at "sm"))
local macro_rules | `(tactic| walk_at "hp") => `(tactic| first | assumption | ((with_reducible refine Su.f_sqL ?_); walk_at "at") | ((with_reducible refine Su.f_sqT ?_); walk_at "at") | ((with_reducible show L2.Same _ _); walk_at "sm") | ((with_reducible show _ = none); refine Su.f_free ?_ (by assumption); walk_at "sm") | ((with_reducible show _ = some _); walk_at "at") | (refine Su.f_dp (by assumption) ?_; walk_at "hp") | (refine Su.f_dpA (by assumption) ?_; walk_at "hp") | (refine Su.f_sqLs (by assumption) ?_; walk_at "hp") | (refine Su.f_sqTs (by assumption) ?_; walk_at "hp"))
local macro_rules | `(tactic| walk_at "x") => `(tactic| first | with_reducible refine Su.x_fld ?_ | with_reducible refine Su.x_meth ?_ | with_reducible refine Su.c_now (by assumption) ?_ | with_reducible refine Su.c_line (by assumption) ?_ | with_reducible refine Su.c_due (by assumption) ?_ | with_reducible refine Su.c_state (by assumption) ?_ | with_reducible refine Su.c_when (by assumption) ?_)
local macro_rules | `(tactic| walk_at "me") => `(tactic| first | refine Su.c_meth (by assumption) rfl ?_ | refine Su.so_meth (by assumption) rfl ?_)

end Su
namespace Su
open PySem L2
local macro_rules | `(tactic| walk_at "side") => `(tactic| first | assumption | (show (0 : Int) < _; omega) | (show (0 : Int) ≤ _; omega) | (show (0 : Int) < _; split <;> omega) | (show _ ∨ _; omega) | (show _ ∧ _; omega) | exact ⟨by decide, by decide, by decide⟩ | exact ⟨by first | assumption | omega, by first | assumption | omega⟩)
local macro_rules | `(tactic| walk_at "x") => `(tactic| first | with_reducible refine Su.x_seq ?_ | with_reducible refine Su.x_drop ?_ | with_reducible refine Su.x_ret ?_ | with_reducible refine Su.x_ifS ?_ | ((with_reducible show L2.tVar _ _ _ _); refine Su.x_var rfl ?_) | with_reducible refine Su.x_c ?_ | with_reducible refine Su.x_op ?_ | with_reducible refine Su.x_rI0 ?_ | ((with_reducible refine Su.x_rI ?_ ?_); focus walk_at "side") | with_reducible refine Su.x_eqS ?_ | with_reducible refine Su.x_test ?_ | with_reducible refine Su.x_isB' ?_ | with_reducible refine Su.x_nil ?_ | with_reducible refine Su.x_cons ?_ | with_reducible refine Su.x_next ?_)
local macro_rules | `(tactic| walk_at "xs") => `(tactic| repeat walk_at "x")
local macro_rules | `(tactic| walk_at "if") => `(tactic| first | with_reducible refine Su.x_iteD (fun c => ?_) (fun c => ?_) | with_reducible refine Su.x_iteN (fun c => ?_) (fun c => ?_) | with_reducible refine Su.x_ite (fun c => ?_) (fun c => ?_))
local macro_rules | `(tactic| walk_at "at") => `(tactic| first | assumption | (refine Su.f_at (by assumption) ?_; walk_at "at"))
local macro_rules | `(tactic| walk_at "sm") => `(tactic| first | assumption | exact L2.Same.refl _ | (refine Su.f_tr (by assumption) ?_; walk_at "sm"))
local macro_rules | `(tactic| walk_at "hp") => `(tactic| first | assumption | ((with_reducible refine Su.f_sqL ?_); walk_at "at") | ((with_reducible refine Su.f_sqT ?_); walk_at "at") | ((with_reducible show L2.Same _ _); walk_at "sm") | ((with_reducible show _ = none); refine Su.f_free ?_ (by assumption); walk_at "sm") | ((with_reducible show _ = some _); walk_at "at") | (refine Su.f_dp (by assumption) ?_; walk_at "hp") | (refine Su.f_dpA (by assumption) ?_; walk_at "hp") | (refine Su.f_sqLs (by assumption) ?_; walk_at "hp") | (refine Su.f_sqTs (by assumption) ?_; walk_at "hp"))
local macro_rules | `(tactic| walk_at "x") => `(tactic| first | with_reducible refine Su.x_fld ?_ | with_reducible refine Su.x_meth ?_ | with_reducible refine Su.c_stake (by assumption) ?_ | with_reducible refine Su.c_size (by assumption) ?_ | with_reducible refine Su.c_now (by assumption) ?_ | with_reducible refine Su.c_state (by assumption) ?_)
local macro_rules | `(tactic| walk_at "me") => `(tactic| first | refine Su.c_meth (by assumption) rfl ?_ | refine Su.so_meth (by assumption) rfl ?_)

end Su
namespace Su
open PySem L2
local macro_rules | `(tactic| walk_at "side") => `(tactic| first | assumption | (show (0 : Int) < _; omega) | (show (0 : Int) ≤ _; omega) | (show (0 : Int) < _; split <;> omega) | (show _ ∨ _; omega) | (show _ ∧ _; omega) | exact ⟨by decide, by decide, by decide⟩ | exact ⟨by first | assumption | omega, by first | assumption | omega⟩)
local macro_rules | `(tactic| walk_at "x") => `(tactic| first | with_reducible refine Su.x_seq ?_ | with_reducible refine Su.x_asg ?_ | with_reducible refine Su.x_gname ?_ | with_reducible refine Su.x_drop ?_ | with_reducible refine Su.x_ret ?_ | with_reducible refine Su.x_ifS ?_ | ((with_reducible show L2.tVar _ _ _ _); refine Su.x_var rfl ?_) | with_reducible refine Su.x_c ?_ | with_reducible refine Su.x_op ?_ | with_reducible refine Su.x_eqS ?_ | with_reducible refine Su.x_test ?_ | with_reducible refine Su.x_tB ?_ | with_reducible refine Su.x_isB' ?_ | with_reducible refine Su.x_not ?_ | with_reducible refine Su.x_nil ?_ | with_reducible refine Su.x_cons ?_ | with_reducible refine Su.x_lst ?_ | with_reducible refine Su.x_bmL ?_ | with_reducible refine Su.x_next ?_ | with_reducible refine Su.x_for ?_ | with_reducible refine Su.x_iRng1 ?_ | with_reducible refine Su.x_ipI ?_ | ((with_reducible show L2.tAug _ _ _ _ _ _); refine Su.x_aug rfl ?_))
local macro_rules | `(tactic| walk_at "xs") => `(tactic| repeat walk_at "x")
local macro_rules | `(tactic| walk_at "if") => `(tactic| first | with_reducible refine Su.x_iteD (fun c => ?_) (fun c => ?_) | with_reducible refine Su.x_iteN (fun c => ?_) (fun c => ?_) | with_reducible refine Su.x_ite (fun c => ?_) (fun c => ?_))
local macro_rules | `(tactic| walk_at "at") => `(tactic| first | assumption | (refine Su.f_at (by assumption) ?_; walk_at "at"))
local macro_rules | `(tactic| walk_at "sm") => `(tactic| first | assumption | exact L2.Same.refl _ | (refine Su.f_tr (by assumption) ?_; walk_at "sm"))
local macro_rules | `(tactic| walk_at "hp") => `(tactic| first | assumption | ((with_reducible refine Su.f_sqL ?_); walk_at "at") | ((with_reducible refine Su.f_sqT ?_); walk_at "at") | ((with_reducible show L2.Same _ _); walk_at "sm") | ((with_reducible show _ = none); refine Su.f_free ?_ (by assumption); walk_at "sm") | ((with_reducible show _ = some _); walk_at "at") | (refine Su.f_dp (by assumption) ?_; walk_at "hp") | (refine Su.f_dpA (by assumption) ?_; walk_at "hp") | (refine Su.f_sqLs (by assumption) ?_; walk_at "hp") | (refine Su.f_sqTs (by assumption) ?_; walk_at "hp"))
local macro_rules | `(tactic| walk_at "x") => `(tactic| first | with_reducible refine Su.x_fld ?_ | with_reducible refine Su.x_meth ?_ | with_reducible refine Su.c_size (by assumption) ?_ | with_reducible refine Su.c_state (by assumption) ?_ | with_reducible refine Su.c_pledged (by assumption) ?_ | with_reducible refine Su.c_given (by assumption) ?_)
local macro_rules | `(tactic| walk_at "me") => `(tactic| first | refine Su.c_meth (by assumption) rfl ?_ | refine Su.so_meth (by assumption) rfl ?_)

end Su
namespace Su
open PySem L2
local macro_rules | `(tactic| walk_at "side") => `(tactic| first | assumption | (show (0 : Int) < _; omega) | (show (0 : Int) ≤ _; omega) | (show (0 : Int) < _; split <;> omega) | (show _ ∨ _; omega) | (show _ ∧ _; omega) | exact ⟨by decide, by decide, by decide⟩ | exact ⟨by first | assumption | omega, by first | assumption | omega⟩)
local macro_rules | `(tactic| walk_at "xs") => `(tactic| repeat walk_at "x")
local macro_rules | `(tactic| walk_at "if") => `(tactic| first | with_reducible refine Su.x_iteD (fun c => ?_) (fun c => ?_) | with_reducible refine Su.x_iteN (fun c => ?_) (fun c => ?_) | with_reducible refine Su.x_ite (fun c => ?_) (fun c => ?_))

/-! circles stay well formed -/
section
variable {st : CS} {paid : List Bool} {bids : List Int}
end
end Su
namespace Su
open PySem L2
local macro_rules | `(tactic| walk_at "side") => `(tactic| first | assumption | (show (0 : Int) < _; omega) | (show (0 : Int) ≤ _; omega) | (show (0 : Int) < _; split <;> omega) | (show _ ∨ _; omega) | (show _ ∧ _; omega) | exact ⟨by decide, by decide, by decide⟩ | exact ⟨by first | assumption | omega, by first | assumption | omega⟩)
local macro_rules | `(tactic| walk_at "x") => `(tactic| first | with_reducible refine Su.x_ret ?_ | ((with_reducible show L2.tVar _ _ _ _); refine Su.x_var rfl ?_) | with_reducible refine Su.x_nil ?_ | with_reducible refine Su.x_cons ?_ | with_reducible refine Su.x_cb ?_)
local macro_rules | `(tactic| walk_at "xs") => `(tactic| repeat walk_at "x")
local macro_rules | `(tactic| walk_at "if") => `(tactic| first | with_reducible refine Su.x_iteD (fun c => ?_) (fun c => ?_) | with_reducible refine Su.x_iteN (fun c => ?_) (fun c => ?_) | with_reducible refine Su.x_ite (fun c => ?_) (fun c => ?_))
local macro_rules | `(tactic| walk_at "at") => `(tactic| first | assumption | (refine Su.f_at (by assumption) ?_; walk_at "at"))
local macro_rules | `(tactic| walk_at "sm") => `(tactic| first | assumption | exact L2.Same.refl _ | (refine Su.f_tr (by assumption) ?_; walk_at "sm"))
local macro_rules | `(tactic| walk_at "hp") => `(tactic| first | assumption | ((with_reducible refine Su.f_sqL ?_); walk_at "at") | ((with_reducible refine Su.f_sqT ?_); walk_at "at") | ((with_reducible show L2.Same _ _); walk_at "sm") | ((with_reducible show _ = none); refine Su.f_free ?_ (by assumption); walk_at "sm") | ((with_reducible show _ = some _); walk_at "at") | (refine Su.f_dp (by assumption) ?_; walk_at "hp") | (refine Su.f_dpA (by assumption) ?_; walk_at "hp") | (refine Su.f_sqLs (by assumption) ?_; walk_at "hp") | (refine Su.f_sqTs (by assumption) ?_; walk_at "hp"))
local macro_rules | `(tactic| walk_at "x") => `(tactic| first | with_reducible refine Su.x_fld ?_ | with_reducible refine Su.c_line (by assumption) ?_)
local macro_rules | `(tactic| walk_at "me") => `(tactic| first | refine Su.c_meth (by assumption) rfl ?_ | refine Su.so_meth (by assumption) rfl ?_)

end Su
namespace Su
open PySem L2
local macro_rules | `(tactic| walk_at "side") => `(tactic| first | assumption | (show (0 : Int) < _; omega) | (show (0 : Int) ≤ _; omega) | (show (0 : Int) < _; split <;> omega) | (show _ ∨ _; omega) | (show _ ∧ _; omega) | exact ⟨by decide, by decide, by decide⟩ | exact ⟨by first | assumption | omega, by first | assumption | omega⟩)
local macro_rules | `(tactic| walk_at "x") => `(tactic| first | with_reducible refine Su.x_ret ?_ | ((with_reducible show L2.tVar _ _ _ _); refine Su.x_var rfl ?_))
local macro_rules | `(tactic| walk_at "xs") => `(tactic| repeat walk_at "x")
local macro_rules | `(tactic| walk_at "if") => `(tactic| first | with_reducible refine Su.x_iteD (fun c => ?_) (fun c => ?_) | with_reducible refine Su.x_iteN (fun c => ?_) (fun c => ?_) | with_reducible refine Su.x_ite (fun c => ?_) (fun c => ?_))
local macro_rules | `(tactic| walk_at "at") => `(tactic| first | assumption | (refine Su.f_at (by assumption) ?_; walk_at "at"))
local macro_rules | `(tactic| walk_at "sm") => `(tactic| first | assumption | exact L2.Same.refl _ | (refine Su.f_tr (by assumption) ?_; walk_at "sm"))
local macro_rules | `(tactic| walk_at "hp") => `(tactic| first | assumption | ((with_reducible refine Su.f_sqL ?_); walk_at "at") | ((with_reducible refine Su.f_sqT ?_); walk_at "at") | ((with_reducible show L2.Same _ _); walk_at "sm") | ((with_reducible show _ = none); refine Su.f_free ?_ (by assumption); walk_at "sm") | ((with_reducible show _ = some _); walk_at "at") | (refine Su.f_dp (by assumption) ?_; walk_at "hp") | (refine Su.f_dpA (by assumption) ?_; walk_at "hp") | (refine Su.f_sqLs (by assumption) ?_; walk_at "hp") | (refine Su.f_sqTs (by assumption) ?_; walk_at "hp"))
local macro_rules | `(tactic| walk_at "x") => `(tactic| first | with_reducible refine Su.x_fld ?_ | with_reducible refine Su.c_chest (by assumption) ?_)
local macro_rules | `(tactic| walk_at "me") => `(tactic| first | refine Su.c_meth (by assumption) rfl ?_ | refine Su.so_meth (by assumption) rfl ?_)

end Su
namespace Su
open PySem L2
local macro_rules | `(tactic| walk_at "side") => `(tactic| first | assumption | (show (0 : Int) < _; omega) | (show (0 : Int) ≤ _; omega) | (show (0 : Int) < _; split <;> omega) | (show _ ∨ _; omega) | (show _ ∧ _; omega) | exact ⟨by decide, by decide, by decide⟩ | exact ⟨by first | assumption | omega, by first | assumption | omega⟩)
local macro_rules | `(tactic| walk_at "x") => `(tactic| first | with_reducible refine Su.x_ret ?_ | ((with_reducible show L2.tVar _ _ _ _); refine Su.x_var rfl ?_))
local macro_rules | `(tactic| walk_at "xs") => `(tactic| repeat walk_at "x")
local macro_rules | `(tactic| walk_at "if") => `(tactic| first | with_reducible refine Su.x_iteD (fun c => ?_) (fun c => ?_) | with_reducible refine Su.x_iteN (fun c => ?_) (fun c => ?_) | with_reducible refine Su.x_ite (fun c => ?_) (fun c => ?_))
local macro_rules | `(tactic| walk_at "at") => `(tactic| first | assumption | (refine Su.f_at (by assumption) ?_; walk_at "at"))
local macro_rules | `(tactic| walk_at "sm") => `(tactic| first | assumption | exact L2.Same.refl _ | (refine Su.f_tr (by assumption) ?_; walk_at "sm"))
local macro_rules | `(tactic| walk_at "hp") => `(tactic| first | assumption | ((with_reducible refine Su.f_sqL ?_); walk_at "at") | ((with_reducible refine Su.f_sqT ?_); walk_at "at") | ((with_reducible show L2.Same _ _); walk_at "sm") | ((with_reducible show _ = none); refine Su.f_free ?_ (by assumption); walk_at "sm") | ((with_reducible show _ = some _); walk_at "at") | (refine Su.f_dp (by assumption) ?_; walk_at "hp") | (refine Su.f_dpA (by assumption) ?_; walk_at "hp") | (refine Su.f_sqLs (by assumption) ?_; walk_at "hp") | (refine Su.f_sqTs (by assumption) ?_; walk_at "hp"))
local macro_rules | `(tactic| walk_at "x") => `(tactic| first | with_reducible refine Su.x_fld ?_ | with_reducible refine Su.c_now (by assumption) ?_)
local macro_rules | `(tactic| walk_at "me") => `(tactic| first | refine Su.c_meth (by assumption) rfl ?_ | refine Su.so_meth (by assumption) rfl ?_)

end Su
namespace Su
open PySem L2
local macro_rules | `(tactic| walk_at "side") => `(tactic| first | assumption | (show (0 : Int) < _; omega) | (show (0 : Int) ≤ _; omega) | (show (0 : Int) < _; split <;> omega) | (show _ ∨ _; omega) | (show _ ∧ _; omega) | exact ⟨by decide, by decide, by decide⟩ | exact ⟨by first | assumption | omega, by first | assumption | omega⟩)
local macro_rules | `(tactic| walk_at "x") => `(tactic| first | with_reducible refine Su.x_ret ?_ | ((with_reducible show L2.tVar _ _ _ _); refine Su.x_var rfl ?_))
local macro_rules | `(tactic| walk_at "xs") => `(tactic| repeat walk_at "x")
local macro_rules | `(tactic| walk_at "if") => `(tactic| first | with_reducible refine Su.x_iteD (fun c => ?_) (fun c => ?_) | with_reducible refine Su.x_iteN (fun c => ?_) (fun c => ?_) | with_reducible refine Su.x_ite (fun c => ?_) (fun c => ?_))
local macro_rules | `(tactic| walk_at "at") => `(tactic| first | assumption | (refine Su.f_at (by assumption) ?_; walk_at "at"))
local macro_rules | `(tactic| walk_at "sm") => `(tactic| first | assumption | exact L2.Same.refl _ | (refine Su.f_tr (by assumption) ?_; walk_at "sm"))
local macro_rules | `(tactic| walk_at "hp") => `(tactic| first | assumption | ((with_reducible refine Su.f_sqL ?_); walk_at "at") | ((with_reducible refine Su.f_sqT ?_); walk_at "at") | ((with_reducible show L2.Same _ _); walk_at "sm") | ((with_reducible show _ = none); refine Su.f_free ?_ (by assumption); walk_at "sm") | ((with_reducible show _ = some _); walk_at "at") | (refine Su.f_dp (by assumption) ?_; walk_at "hp") | (refine Su.f_dpA (by assumption) ?_; walk_at "hp") | (refine Su.f_sqLs (by assumption) ?_; walk_at "hp") | (refine Su.f_sqTs (by assumption) ?_; walk_at "hp"))
local macro_rules | `(tactic| walk_at "x") => `(tactic| first | with_reducible refine Su.x_fld ?_ | with_reducible refine Su.c_due (by assumption) ?_)
local macro_rules | `(tactic| walk_at "me") => `(tactic| first | refine Su.c_meth (by assumption) rfl ?_ | refine Su.so_meth (by assumption) rfl ?_)

end Su
namespace Su
open PySem L2
local macro_rules | `(tactic| walk_at "side") => `(tactic| first | assumption | (show (0 : Int) < _; omega) | (show (0 : Int) ≤ _; omega) | (show (0 : Int) < _; split <;> omega) | (show _ ∨ _; omega) | (show _ ∧ _; omega) | exact ⟨by decide, by decide, by decide⟩ | exact ⟨by first | assumption | omega, by first | assumption | omega⟩)
local macro_rules | `(tactic| walk_at "x") => `(tactic| first | with_reducible refine Su.x_seq ?_ | with_reducible refine Su.x_drop ?_ | with_reducible refine Su.x_ret ?_ | ((with_reducible show L2.tVar _ _ _ _); refine Su.x_var rfl ?_) | with_reducible refine Su.x_op ?_ | with_reducible refine Su.x_nil ?_ | with_reducible refine Su.x_cons ?_ | with_reducible refine Su.x_tup ?_)
local macro_rules | `(tactic| walk_at "xs") => `(tactic| repeat walk_at "x")
local macro_rules | `(tactic| walk_at "if") => `(tactic| first | with_reducible refine Su.x_iteD (fun c => ?_) (fun c => ?_) | with_reducible refine Su.x_iteN (fun c => ?_) (fun c => ?_) | with_reducible refine Su.x_ite (fun c => ?_) (fun c => ?_))
local macro_rules | `(tactic| walk_at "at") => `(tactic| first | assumption | (refine Su.f_at (by assumption) ?_; walk_at "at"))
local macro_rules | `(tactic| walk_at "sm") => `(tactic| first | assumption | exact L2.Same.refl _ | (refine Su.f_tr (by assumption) ?_; walk_at "sm"))
local macro_rules | `(tactic| walk_at "hp") => `(tactic| first | assumption | ((with_reducible refine Su.f_sqL ?_); walk_at "at") | ((with_reducible refine Su.f_sqT ?_); walk_at "at") | ((with_reducible show L2.Same _ _); walk_at "sm") | ((with_reducible show _ = none); refine Su.f_free ?_ (by assumption); walk_at "sm") | ((with_reducible show _ = some _); walk_at "at") | (refine Su.f_dp (by assumption) ?_; walk_at "hp") | (refine Su.f_dpA (by assumption) ?_; walk_at "hp") | (refine Su.f_sqLs (by assumption) ?_; walk_at "hp") | (refine Su.f_sqTs (by assumption) ?_; walk_at "hp"))
local macro_rules | `(tactic| walk_at "x") => `(tactic| first | with_reducible refine Su.x_fld ?_ | with_reducible refine Su.x_meth ?_ | with_reducible refine Su.c_state (by assumption) ?_ | with_reducible refine Su.c_when (by assumption) ?_ | with_reducible refine Su.c_pledged (by assumption) ?_ | with_reducible refine Su.c_given (by assumption) ?_ | with_reducible refine Su.c_drawn (by assumption) ?_ | with_reducible refine Su.c_shared (by assumption) ?_ | with_reducible refine Su.c_missed (by assumption) ?_)
local macro_rules | `(tactic| walk_at "me") => `(tactic| first | refine Su.c_meth (by assumption) rfl ?_ | refine Su.so_meth (by assumption) rfl ?_)

end Su
namespace Su
open PySem L2
local macro_rules | `(tactic| walk_at "side") => `(tactic| first | assumption | (show (0 : Int) < _; omega) | (show (0 : Int) ≤ _; omega) | (show (0 : Int) < _; split <;> omega) | (show _ ∨ _; omega) | (show _ ∧ _; omega) | exact ⟨by decide, by decide, by decide⟩ | exact ⟨by first | assumption | omega, by first | assumption | omega⟩)
local macro_rules | `(tactic| walk_at "x") => `(tactic| first | with_reducible refine Su.x_seq ?_ | with_reducible refine Su.x_drop ?_ | with_reducible refine Su.x_ret ?_ | ((with_reducible show L2.tVar _ _ _ _); refine Su.x_var rfl ?_) | with_reducible refine Su.x_op ?_ | with_reducible refine Su.x_nil ?_ | with_reducible refine Su.x_cons ?_ | with_reducible refine Su.x_cb ?_)
local macro_rules | `(tactic| walk_at "xs") => `(tactic| repeat walk_at "x")
local macro_rules | `(tactic| walk_at "if") => `(tactic| first | with_reducible refine Su.x_iteD (fun c => ?_) (fun c => ?_) | with_reducible refine Su.x_iteN (fun c => ?_) (fun c => ?_) | with_reducible refine Su.x_ite (fun c => ?_) (fun c => ?_))
local macro_rules | `(tactic| walk_at "at") => `(tactic| first | assumption | (refine Su.f_at (by assumption) ?_; walk_at "at"))
local macro_rules | `(tactic| walk_at "sm") => `(tactic| first | assumption | exact L2.Same.refl _ | (refine Su.f_tr (by assumption) ?_; walk_at "sm"))
local macro_rules | `(tactic| walk_at "hp") => `(tactic| first | assumption | ((with_reducible refine Su.f_sqL ?_); walk_at "at") | ((with_reducible refine Su.f_sqT ?_); walk_at "at") | ((with_reducible show L2.Same _ _); walk_at "sm") | ((with_reducible show _ = none); refine Su.f_free ?_ (by assumption); walk_at "sm") | ((with_reducible show _ = some _); walk_at "at") | (refine Su.f_dp (by assumption) ?_; walk_at "hp") | (refine Su.f_dpA (by assumption) ?_; walk_at "hp") | (refine Su.f_sqLs (by assumption) ?_; walk_at "hp") | (refine Su.f_sqTs (by assumption) ?_; walk_at "hp"))
local macro_rules | `(tactic| walk_at "x") => `(tactic| first | with_reducible refine Su.x_fld ?_ | with_reducible refine Su.x_meth ?_ | with_reducible refine Su.c_flows (by assumption) ?_)
local macro_rules | `(tactic| walk_at "me") => `(tactic| first | refine Su.c_meth (by assumption) rfl ?_ | refine Su.so_meth (by assumption) rfl ?_)

end Su
namespace Su
open PySem L2
local macro_rules | `(tactic| walk_at "side") => `(tactic| first | assumption | (show (0 : Int) < _; omega) | (show (0 : Int) ≤ _; omega) | (show (0 : Int) < _; split <;> omega) | (show _ ∨ _; omega) | (show _ ∧ _; omega) | exact ⟨by decide, by decide, by decide⟩ | exact ⟨by first | assumption | omega, by first | assumption | omega⟩)
local macro_rules | `(tactic| walk_at "x") => `(tactic| first
  | with_reducible refine Su.x_seq ?_ | with_reducible refine Su.x_asg ?_ | with_reducible refine Su.x_gname ?_ | with_reducible refine Su.x_drop ?_ | with_reducible refine Su.x_ret ?_ | with_reducible refine Su.x_ifS ?_
  | ((with_reducible show L2.tVar _ _ _ _); refine Su.x_var rfl ?_) | with_reducible refine Su.x_c ?_ | with_reducible refine Su.x_op ?_ | with_reducible refine Su.x_rI0 ?_ | ((with_reducible refine Su.x_rI ?_ ?_); focus walk_at "side")
  | ((with_reducible show L2.rIxL _ (L2.V.ref _) (L2.V.int _) _ _); refine Su.x_ixI (by assumption) (by first | decide | omega) (by omega) ?_) | with_reducible refine Su.x_isi_int_int ?_ | with_reducible refine Su.x_isi_int_bool ?_ | with_reducible refine Su.x_isi_int_str ?_ | with_reducible refine Su.x_isi_int_list ?_ | with_reducible refine Su.x_isi_int_tuple ?_ | with_reducible refine Su.x_isi_bool_int ?_ | with_reducible refine Su.x_isi_bool_bool ?_ | with_reducible refine Su.x_isi_bool_str ?_ | with_reducible refine Su.x_isi_bool_list ?_ | with_reducible refine Su.x_isi_bool_tuple ?_ | with_reducible refine Su.x_isi_str_int ?_ | with_reducible refine Su.x_isi_str_bool ?_ | with_reducible refine Su.x_isi_str_str ?_ | with_reducible refine Su.x_isi_str_list ?_ | with_reducible refine Su.x_isi_str_tuple ?_ | with_reducible refine Su.x_isi_NoneType_int ?_ | with_reducible refine Su.x_isi_NoneType_bool ?_ | with_reducible refine Su.x_isi_NoneType_str ?_ | with_reducible refine Su.x_isi_NoneType_list ?_ | with_reducible refine Su.x_isi_NoneType_tuple ?_ | with_reducible refine Su.x_rGt ?_ | with_reducible refine Su.x_rGe ?_ | with_reducible refine Su.x_iteF ?_ | with_reducible refine Su.x_iteT ?_ | with_reducible refine Su.x_iteNT ?_ | with_reducible refine Su.x_iteNF ?_ | with_reducible refine Su.x_eqI ?_ | with_reducible refine Su.x_neI ?_ | with_reducible refine Su.x_eqS ?_ | with_reducible refine Su.x_neS ?_ | with_reducible refine Su.x_eqB ?_ | with_reducible refine Su.x_neB ?_
  | with_reducible refine Su.x_test ?_ | with_reducible refine Su.x_tB ?_ | with_reducible refine Su.x_isB ?_ | with_reducible refine Su.x_isB' ?_ | with_reducible refine Su.x_not ?_ | with_reducible refine Su.x_and ?_ | with_reducible refine Su.x_or ?_
  | with_reducible refine Su.x_andV ?_ | with_reducible refine Su.x_orV ?_ | with_reducible refine Su.x_notV ?_ | with_reducible refine Su.x_chain ?_ | with_reducible refine Su.x_nil ?_ | with_reducible refine Su.x_cons ?_ | with_reducible refine Su.x_cb ?_ | with_reducible refine Su.x_call ?_
  | with_reducible refine Su.x_un ?_ | with_reducible refine Su.x_rU ?_ | with_reducible refine Su.x_abs ?_ | with_reducible refine Su.x_max2 ?_ | with_reducible refine Su.x_min2 ?_ | with_reducible refine Su.x_int1 ?_ | with_reducible refine Su.x_intB ?_
  | with_reducible refine Su.x_lst ?_ | with_reducible refine Su.x_tup ?_ | with_reducible refine Su.x_bmL ?_ | with_reducible refine Su.x_next ?_ | with_reducible refine Su.x_for ?_ | with_reducible refine Su.x_iList ?_ | with_reducible refine Su.x_iRng1 ?_ | with_reducible refine Su.x_iRng2 ?_ | with_reducible refine Su.x_whileN ?_ | with_reducible refine Su.x_iEnum ?_ | with_reducible refine Su.x_iZip ?_ | with_reducible refine Su.x_iZipA ?_ | with_reducible refine Su.x_iTup ?_ | with_reducible refine Su.x_gcons ?_ | with_reducible refine Su.x_gnil ?_ | with_reducible refine Su.x_gsub ?_ | with_reducible refine Su.x_yes ?_ | with_reducible refine Su.x_lc ?_ | with_reducible refine Su.x_sl ?_ | with_reducible refine Su.x_nopart ?_ | with_reducible refine Su.x_part ?_ | with_reducible refine Su.x_isI ?_ | with_reducible refine Su.x_lstRg ?_ | with_reducible refine Su.x_rg1 ?_ | with_reducible refine Su.x_augS ?_ | with_reducible refine Su.x_ipI ?_ | ((with_reducible show L2.tAug _ _ _ _ _ _); refine Su.x_aug rfl ?_) | with_reducible refine Su.x_callS ?_ | with_reducible refine Su.x_tryAs ?_)
local macro_rules | `(tactic| walk_at "xs") => `(tactic| repeat walk_at "x")
local macro_rules | `(tactic| walk_at "if") => `(tactic| first | with_reducible refine Su.x_iteD (fun c => ?_) (fun c => ?_) | with_reducible refine Su.x_iteN (fun c => ?_) (fun c => ?_) | with_reducible refine Su.x_ite (fun c => ?_) (fun c => ?_))
/-! what laws about circles share -/
section
variable {K : PySem.W.Frag} {H : Hp} {p : Addr}
end
/-- the heap off a circle -/
theorem off_same {F : List Addr} {G H H' : Hp} (h : Same G (hide F H)) (o : Off F H H') : Same G (hide F H') := h.trans o.hide
end Su
namespace Su
open PySem L2
local macro_rules | `(tactic| walk_at "side") => `(tactic| first | assumption | (show (0 : Int) < _; omega) | (show (0 : Int) ≤ _; omega) | (show (0 : Int) < _; split <;> omega) | (show _ ∨ _; omega) | (show _ ∧ _; omega) | exact ⟨by decide, by decide, by decide⟩ | exact ⟨by first | assumption | omega, by first | assumption | omega⟩)
local macro_rules | `(tactic| walk_at "xs") => `(tactic| repeat walk_at "x")
local macro_rules | `(tactic| walk_at "if") => `(tactic| first | with_reducible refine Su.x_iteD (fun c => ?_) (fun c => ?_) | with_reducible refine Su.x_iteN (fun c => ?_) (fun c => ?_) | with_reducible refine Su.x_ite (fun c => ?_) (fun c => ?_))

/-! a round, seat by seat; and what stays true behind every round -/
section
variable {st : CS} {paid : List Bool} {bids : List Int} {i : Nat}
end

end Su
namespace Su
open PySem L2
local macro_rules | `(tactic| walk_at "side") => `(tactic| first | assumption | (show (0 : Int) < _; omega) | (show (0 : Int) ≤ _; omega) | (show (0 : Int) < _; split <;> omega) | (show _ ∨ _; omega) | (show _ ∧ _; omega) | exact ⟨by decide, by decide, by decide⟩ | exact ⟨by first | assumption | omega, by first | assumption | omega⟩)
local macro_rules | `(tactic| walk_at "xs") => `(tactic| repeat walk_at "x")
local macro_rules | `(tactic| walk_at "if") => `(tactic| first | with_reducible refine Su.x_iteD (fun c => ?_) (fun c => ?_) | with_reducible refine Su.x_iteN (fun c => ?_) (fun c => ?_) | with_reducible refine Su.x_ite (fun c => ?_) (fun c => ?_))

/-! what stays true behind every round of a circle -/
section
variable {st : CS} {paid : List Bool} {bids : List Int} {i n : Nat} {s : Int} {pl : List Int}
end

end Su
namespace Su
open PySem L2
local macro_rules | `(tactic| walk_at "side") => `(tactic| first | assumption | (show (0 : Int) < _; omega) | (show (0 : Int) ≤ _; omega) | (show (0 : Int) < _; split <;> omega) | (show _ ∨ _; omega) | (show _ ∧ _; omega) | exact ⟨by decide, by decide, by decide⟩ | exact ⟨by first | assumption | omega, by first | assumption | omega⟩)
local macro_rules | `(tactic| walk_at "xs") => `(tactic| repeat walk_at "x")
local macro_rules | `(tactic| walk_at "if") => `(tactic| first | with_reducible refine Su.x_iteD (fun c => ?_) (fun c => ?_) | with_reducible refine Su.x_iteN (fun c => ?_) (fun c => ?_) | with_reducible refine Su.x_ite (fun c => ?_) (fun c => ?_))
local macro_rules | `(tactic| walk_at "at") => `(tactic| first | assumption | (refine Su.f_at (by assumption) ?_; walk_at "at"))
local macro_rules | `(tactic| walk_at "sm") => `(tactic| first | assumption | exact L2.Same.refl _ | (refine Su.f_tr (by assumption) ?_; walk_at "sm"))
local macro_rules | `(tactic| walk_at "hp") => `(tactic| first | assumption | ((with_reducible refine Su.f_sqL ?_); walk_at "at") | ((with_reducible refine Su.f_sqT ?_); walk_at "at") | ((with_reducible show L2.Same _ _); walk_at "sm") | ((with_reducible show _ = none); refine Su.f_free ?_ (by assumption); walk_at "sm") | ((with_reducible show _ = some _); walk_at "at") | (refine Su.f_dp (by assumption) ?_; walk_at "hp") | (refine Su.f_dpA (by assumption) ?_; walk_at "hp") | (refine Su.f_sqLs (by assumption) ?_; walk_at "hp") | (refine Su.f_sqTs (by assumption) ?_; walk_at "hp"))
local macro_rules | `(tactic| walk_at "me") => `(tactic| first | refine Su.c_meth (by assumption) rfl ?_ | refine Su.so_meth (by assumption) rfl ?_)

/-! a circle alone: what stays beside it, and its questions -/
structure Solo (K : PySem.W.Frag) (G : Hp) (a : Nat → Addr) (n : Nat) (H : Hp) (st : CS) : Prop where
  g : Same G (hide (cirFoot a n) H)
  ca : CirAt K H a st
  z : st.size = n
section
variable {K : PySem.W.Frag} {G H H' : Hp} {a : Nat → Addr} {n i : Nat} {j : Int} {st st' : CS} {Q : VK} {E : XK}
theorem Solo.same (h : Solo K G a n H st) (s : Same H H') : Solo K G a n H' st := ⟨h.g.trans (hide_mono s), h.ca.same s, h.z⟩
theorem Solo.at_ (h : Solo K G a n H st) {p : Addr} {o : HO} (e : G p = some o) : H p = some o := hide_same _ _ (h.g _ _ e)
theorem Solo.fresh (h : Solo K G a n H st) {p : Addr} (e : H p = none) : p ∉ cirFoot a n := by have := h.ca.fresh e; rwa [h.z] at this
theorem Solo.new (h : Solo K G a n H st) {p : Addr} (e : H p = none) : G p = none := by
  cases c : G p with
  | none => rfl
  | some o => rw [h.at_ c] at e; cases e
theorem Solo.upd (h : Solo K G a n H st) {p : Addr} {o : HO} (h1 : p ∉ cirFoot a n) (h3 : G p = none) : Solo K G a n (L2.upd H p o) st := by
  refine ⟨fun y u e => ?_, h.ca.upd_out (by rw [h.z]; exact h1), h.z⟩
  have := h.g y u e
  have hy : y ∉ cirFoot a n := fun z => by rw [hide_in z] at this; cases this
  rw [hide_out hy] at this ⊢
  rw [upd_ne (ne_of_none e h3)]; exact this
theorem Solo.off (h : Solo K G a n H st) (o : Off (cirFoot a n) H H') (c : CirAt K H' a st') (z : st'.size = n) : Solo K G a n H' st' := ⟨off_same h.g o, c, z⟩
theorem so_meth {m : Str} {P : Prop} (h : Solo K G a n H st) (l : (cirFs a st).lookup m = none) (q : P) : ∃ a' dx fs, V.ref (a 0) = .ref a' ∧ H a' = some (.ins (He.ga K "Circle") dx fs) ∧ fs.lookup m = none ∧ P := c_meth h.ca l q
end
/-! no bids -/
section
variable {st : CS} {paid : List Bool} {bids : List Int} {i n : Nat}
end
end Su
namespace Su
open PySem L2
local macro_rules | `(tactic| walk_at "side") => `(tactic| first | assumption | (show (0 : Int) < _; omega) | (show (0 : Int) ≤ _; omega) | (show (0 : Int) < _; split <;> omega) | (show _ ∨ _; omega) | (show _ ∧ _; omega) | exact ⟨by decide, by decide, by decide⟩ | exact ⟨by first | assumption | omega, by first | assumption | omega⟩)
local macro_rules | `(tactic| walk_at "xs") => `(tactic| repeat walk_at "x")
local macro_rules | `(tactic| walk_at "if") => `(tactic| first | with_reducible refine Su.x_iteD (fun c => ?_) (fun c => ?_) | with_reducible refine Su.x_iteN (fun c => ?_) (fun c => ?_) | with_reducible refine Su.x_ite (fun c => ?_) (fun c => ?_))

/-! slices of tuples; lists of tuples' parts -/
theorem al_listT {K : PySem.W.Frag} {H : Hp} {Q : VK} {p : Addr} {ys : List V} (e : SqT K H p ys) (h : ∀ p H', H p = none → Same H H' → H' p = some (.lst ys) → Q (.ref p) H') : rListOf K [.ref p] H Q := ⟨p, ys, rfl, .inr e, fun p n => h p _ n (same_new (Same.refl H) n) upd_same⟩
section
variable {st : CS} {paid : List Bool} {bids : List Int} {i n : Nat} {s : Int} {pl : List Int}
end
end Su
namespace Su
open PySem L2
local macro_rules | `(tactic| walk_at "side") => `(tactic| first | assumption | (show (0 : Int) < _; omega) | (show (0 : Int) ≤ _; omega) | (show (0 : Int) < _; split <;> omega) | (show _ ∨ _; omega) | (show _ ∧ _; omega) | exact ⟨by decide, by decide, by decide⟩ | exact ⟨by first | assumption | omega, by first | assumption | omega⟩)
local macro_rules | `(tactic| walk_at "xs") => `(tactic| repeat walk_at "x")
local macro_rules | `(tactic| walk_at "if") => `(tactic| first | with_reducible refine Su.x_iteD (fun c => ?_) (fun c => ?_) | with_reducible refine Su.x_iteN (fun c => ?_) (fun c => ?_) | with_reducible refine Su.x_ite (fun c => ?_) (fun c => ?_))

/-! a crowd of whole numbers as a bar -/
end Su
namespace Su
open PySem L2
local macro_rules | `(tactic| walk_at "side") => `(tactic| first | assumption | (show (0 : Int) < _; omega) | (show (0 : Int) ≤ _; omega) | (show (0 : Int) < _; split <;> omega) | (show _ ∨ _; omega) | (show _ ∧ _; omega) | exact ⟨by decide, by decide, by decide⟩ | exact ⟨by first | assumption | omega, by first | assumption | omega⟩)
local macro_rules | `(tactic| walk_at "x") => `(tactic| first
  | with_reducible refine Su.x_seq ?_ | with_reducible refine Su.x_asg ?_ | with_reducible refine Su.x_gname ?_ | with_reducible refine Su.x_drop ?_ | with_reducible refine Su.x_ret ?_ | with_reducible refine Su.x_ifS ?_
  | ((with_reducible show L2.tVar _ _ _ _); refine Su.x_var rfl ?_) | with_reducible refine Su.x_c ?_ | with_reducible refine Su.x_op ?_ | with_reducible refine Su.x_rI0 ?_ | ((with_reducible refine Su.x_rI ?_ ?_); focus walk_at "side")
  | ((with_reducible show L2.rIxL _ (L2.V.ref _) (L2.V.int _) _ _); refine Su.x_ixI (by assumption) (by first | decide | omega) (by omega) ?_) | with_reducible refine Su.x_isi_int_int ?_ | with_reducible refine Su.x_isi_int_bool ?_ | with_reducible refine Su.x_isi_int_str ?_ | with_reducible refine Su.x_isi_int_list ?_ | with_reducible refine Su.x_isi_int_tuple ?_ | with_reducible refine Su.x_isi_bool_int ?_ | with_reducible refine Su.x_isi_bool_bool ?_ | with_reducible refine Su.x_isi_bool_str ?_ | with_reducible refine Su.x_isi_bool_list ?_ | with_reducible refine Su.x_isi_bool_tuple ?_ | with_reducible refine Su.x_isi_str_int ?_ | with_reducible refine Su.x_isi_str_bool ?_ | with_reducible refine Su.x_isi_str_str ?_ | with_reducible refine Su.x_isi_str_list ?_ | with_reducible refine Su.x_isi_str_tuple ?_ | with_reducible refine Su.x_isi_NoneType_int ?_ | with_reducible refine Su.x_isi_NoneType_bool ?_ | with_reducible refine Su.x_isi_NoneType_str ?_ | with_reducible refine Su.x_isi_NoneType_list ?_ | with_reducible refine Su.x_isi_NoneType_tuple ?_ | with_reducible refine Su.x_rGt ?_ | with_reducible refine Su.x_rGe ?_ | with_reducible refine Su.x_iteF ?_ | with_reducible refine Su.x_iteT ?_ | with_reducible refine Su.x_iteNT ?_ | with_reducible refine Su.x_iteNF ?_ | with_reducible refine Su.x_eqI ?_ | with_reducible refine Su.x_neI ?_ | with_reducible refine Su.x_eqS ?_ | with_reducible refine Su.x_neS ?_ | with_reducible refine Su.x_eqB ?_ | with_reducible refine Su.x_neB ?_
  | with_reducible refine Su.x_test ?_ | with_reducible refine Su.x_tB ?_ | with_reducible refine Su.x_isB ?_ | with_reducible refine Su.x_isB' ?_ | with_reducible refine Su.x_not ?_ | with_reducible refine Su.x_and ?_ | with_reducible refine Su.x_or ?_
  | with_reducible refine Su.x_andV ?_ | with_reducible refine Su.x_orV ?_ | with_reducible refine Su.x_notV ?_ | with_reducible refine Su.x_chain ?_ | with_reducible refine Su.x_nil ?_ | with_reducible refine Su.x_cons ?_ | with_reducible refine Su.x_cb ?_ | with_reducible refine Su.x_call ?_
  | with_reducible refine Su.x_un ?_ | with_reducible refine Su.x_rU ?_ | with_reducible refine Su.x_abs ?_ | with_reducible refine Su.x_max2 ?_ | with_reducible refine Su.x_min2 ?_ | with_reducible refine Su.x_int1 ?_ | with_reducible refine Su.x_intB ?_
  | with_reducible refine Su.x_lst ?_ | with_reducible refine Su.x_tup ?_ | with_reducible refine Su.x_bmL ?_ | with_reducible refine Su.x_next ?_ | with_reducible refine Su.x_for ?_ | with_reducible refine Su.x_iList ?_ | with_reducible refine Su.x_iRng1 ?_ | with_reducible refine Su.x_iRng2 ?_ | with_reducible refine Su.x_whileN ?_ | with_reducible refine Su.x_iEnum ?_ | with_reducible refine Su.x_iZip ?_ | with_reducible refine Su.x_iZipA ?_ | with_reducible refine Su.x_iTup ?_ | with_reducible refine Su.x_gcons ?_ | with_reducible refine Su.x_gnil ?_ | with_reducible refine Su.x_gsub ?_ | with_reducible refine Su.x_yes ?_ | with_reducible refine Su.x_lc ?_ | with_reducible refine Su.x_sl ?_ | with_reducible refine Su.x_nopart ?_ | with_reducible refine Su.x_part ?_ | with_reducible refine Su.x_isI ?_ | with_reducible refine Su.x_lstRg ?_ | with_reducible refine Su.x_rg1 ?_ | with_reducible refine Su.x_augS ?_ | with_reducible refine Su.x_ipI ?_ | ((with_reducible show L2.tAug _ _ _ _ _ _); refine Su.x_aug rfl ?_) | with_reducible refine Su.x_callS ?_ | with_reducible refine Su.x_tryAs ?_)
local macro_rules | `(tactic| walk_at "xs") => `(tactic| repeat walk_at "x")
local macro_rules | `(tactic| walk_at "if") => `(tactic| first | with_reducible refine Su.x_iteD (fun c => ?_) (fun c => ?_) | with_reducible refine Su.x_iteN (fun c => ?_) (fun c => ?_) | with_reducible refine Su.x_ite (fun c => ?_) (fun c => ?_))
local macro_rules | `(tactic| walk_at "x") => `(tactic| first | with_reducible refine Su.x_m1 ?_ | with_reducible refine Su.x_strE ?_ | with_reducible refine Su.x_m0 ?_ | with_reducible refine Su.x_dnew ?_ | with_reducible refine Su.x_dput ?_ | with_reducible refine Su.x_dgetE ?_ | with_reducible refine Su.x_dget2 ?_ | with_reducible refine Su.x_daug ?_ | with_reducible refine Su.x_din ?_ | with_reducible refine Su.x_dnin ?_ | with_reducible refine Su.x_brk ?_ | with_reducible refine Su.x_retN ?_)
local macro_rules | `(tactic| walk_at "at") => `(tactic| first | assumption | (refine Su.f_at (by assumption) ?_; walk_at "at"))
local macro_rules | `(tactic| walk_at "sm") => `(tactic| first | assumption | exact L2.Same.refl _ | (refine Su.f_tr (by assumption) ?_; walk_at "sm"))
local macro_rules | `(tactic| walk_at "hp") => `(tactic| first | assumption | ((with_reducible refine Su.f_sqL ?_); walk_at "at") | ((with_reducible refine Su.f_sqT ?_); walk_at "at") | ((with_reducible show L2.Same _ _); walk_at "sm") | ((with_reducible show _ = none); refine Su.f_free ?_ (by assumption); walk_at "sm") | ((with_reducible show _ = some _); walk_at "at") | (refine Su.f_dp (by assumption) ?_; walk_at "hp") | (refine Su.f_dpA (by assumption) ?_; walk_at "hp") | (refine Su.f_sqLs (by assumption) ?_; walk_at "hp") | (refine Su.f_sqTs (by assumption) ?_; walk_at "hp"))
local macro_rules | `(tactic| walk_at "x") => `(tactic| first | with_reducible refine Su.t_circle (by assumption) ?_ | with_reducible refine Su.t_people (by assumption) ?_ | with_reducible refine Su.t_laid (by assumption) ?_ | with_reducible refine Su.t_bidden (by assumption) ?_ | with_reducible refine Su.t_told (by assumption) ?_ | with_reducible refine Su.b_purses (by assumption) ?_ | with_reducible refine Su.b_tables (by assumption) ?_ | with_reducible refine Su.b_net (by assumption) ?_ | with_reducible refine Su.h_books (by assumption) ?_ | with_reducible refine Su.h_done (by assumption) ?_ | with_reducible refine Su.h_undone (by assumption) ?_ | with_reducible refine Su.x_dpop1 ?_ | with_reducible refine Su.x_daugH ?_ | with_reducible refine Su.x_lock ?_ | with_reducible refine Su.x_lockE ?_ | with_reducible refine Su.x_lockX ?_ | with_reducible refine Su.x_iKeys ?_)
local macro_rules | `(tactic| walk_at "me") => `(tactic| first | refine Su.t_meth (by assumption) rfl ?_ | refine Su.b_meth (by assumption) rfl ?_ | refine Su.h_meth (by assumption) rfl ?_ | refine Su.c_meth (by assumption) rfl ?_)
--LAW: k09
/-! _law_count: orders counted by sets of rounds -/
def kT (U : List Nat) : List Key := U.map fun (n : Nat) => Sum.inl (n : Int)
theorem kT_kV (U : List Nat) : (kT U).map kV = nI U := by unfold kT nI; rw [List.map_map]; rfl
theorem kT_inj : ∀ {a b : List Nat}, kT a = kT b → a = b
  | [], [], _ => rfl
  | [], _ :: _, h => by unfold kT at h; cases h
  | _ :: _, [], h => by unfold kT at h; cases h
  | x :: a, y :: b, h => by
    have h : Sum.inl (x : Int) :: kT a = Sum.inl (y : Int) :: kT b := h
    injection h with h1 h2
    injection h1 with h1
    rw [kT_inj h2, Int.ofNat_inj.mp h1]
def kvT (l : List (List Nat × V)) : List (List Key × V) := l.map fun p => (kT p.1, p.2)
theorem valV_kvT (l : List (List Nat × V)) (w : List Nat) : valV (kvT l) (kT w) = lookN l w := by
  induction l with
  | nil => rfl
  | cons p l ih =>
    rw [lookN_cons]
    by_cases c : p.1 = w
    · rw [if_pos c]
      show valV ((kT p.1, p.2) :: kvT l) (kT w) = _
      rw [valV_pos (by rw [c])]
    · rw [if_neg c, ← ih]
      exact valV_neg (p := (kT p.1, p.2)) fun e => c (kT_inj e)
theorem putK_kvT (l : List (List Nat × V)) (w : List Nat) (v : V) : putK (kvT l) (kT w) v = kvT (putN l w v) := by
  have e : ((kvT l).any fun kv => decide (kv.1 = kT w)) = l.any fun p => decide (p.1 = w) := by
    unfold kvT
    rw [List.any_map]
    congr 1
    funext p
    show decide (kT p.1 = kT w) = decide (p.1 = w)
    by_cases c : p.1 = w
    · rw [c, decide_eq_true rfl, decide_eq_true rfl]
    · rw [decide_eq_false c, decide_eq_false fun e => c (kT_inj e)]
  unfold putK putN
  rw [e]
  split
  · unfold kvT
    rw [List.map_map, List.map_map]
    refine List.map_congr_left fun p _ => ?_
    show (if kT p.1 = kT w then (kT p.1, v) else (kT p.1, p.2)) = (kT (if p.1 = w then (p.1, v) else p).1, (if p.1 = w then (p.1, v) else p).2)
    by_cases c : p.1 = w
    · rw [if_pos (by rw [c]), if_pos c]
    · rw [if_neg (fun z => c (kT_inj z)), if_neg c]
  · unfold kvT; simp
abbrev tO (tbl : List (List Nat × Int)) : HO := .dT (kvT (mapN V.int tbl))
theorem tO_len (tbl : List (List Nat × Int)) : (kvT (mapN V.int tbl)).length = tbl.length := by unfold kvT mapN; rw [List.length_map, List.length_map]
theorem look_map (tbl : List (List Nat × Int)) (w : List Nat) : lookN (mapN V.int tbl) w = (lookN tbl w).map V.int := by
  induction tbl with
  | nil => rfl
  | cons p l ih =>
    show lookN ((p.1, V.int p.2) :: mapN V.int l) w = _
    rw [lookN_cons, lookN_cons, ih]
    by_cases c : p.1 = w
    · rw [if_pos c, if_pos c]; rfl
    · rw [if_neg c, if_neg c]
theorem put_map (tbl : List (List Nat × Int)) (w : List Nat) (a : Int) : putN (mapN V.int tbl) w (.int a) = mapN V.int (putN tbl w a) := by
  have e : ((mapN V.int tbl).any fun p => decide (p.1 = w)) = tbl.any fun p => decide (p.1 = w) := by
    unfold mapN; rw [List.any_map]; rfl
  unfold putN
  rw [e]
  split
  · unfold mapN
    rw [List.map_map, List.map_map]
    refine List.map_congr_left fun p _ => ?_
    show (if p.1 = w then (p.1, V.int a) else (p.1, V.int p.2)) = ((if p.1 = w then (p.1, a) else p).1, V.int (if p.1 = w then (p.1, a) else p).2)
    by_cases c : p.1 = w
    · rw [if_pos c, if_pos c]
    · rw [if_neg c, if_neg c]
  · unfold mapN; simp
section
variable {K : PySem.W.Frag} {H H' : Hp} {Q : VK} {d b : Addr} {tbl : List (List Nat × Int)} {U : List Nat}
theorem dgetT (e : Rd H d (tO tbl)) (hb : H b = some (.tup (nI U))) : DGet H d (.ref b) ((lookN tbl U).map V.int) := .inr ⟨_, kT U, b, e, rfl, by rw [kT_kV]; exact hb, by rw [valV_kvT, look_map]⟩
theorem dputT {a : Int} (e : H d = some (tO tbl)) (hb : H b = some (.tup (nI U))) (l : tbl.length ≤ 100000) : DPut H d (.ref b) (.int a) (upd H d (tO (putN tbl U a))) := by
  have h := DPut.t (v := V.int a) e (show H b = some (.tup ((kT U).map kV)) by rw [kT_kV]; exact hb) (small (by rw [tO_len]; exact l))
  rw [putK_kvT, put_map] at h
  exact h
theorem turnsKT {o : Obj} : Turns (Itkt d o (kvT (mapN V.int tbl))) tbl.length (fun H => H d = some (.frz o (tO tbl))) (fun i x H H' => H = H' ∧ ∃ (p : List Nat × Int) (q : Addr), tbl[i]? = some p ∧ x = .ref q ∧ H q = some (.tup (nI p.1))) where
  go := fun i H hi q => ⟨q, by rw [tO_len]; exact hi⟩
  yld := fun i H x H' hi _ y => by
    obtain ⟨e, k, v, q, h1, h2, h3⟩ := y
    refine ⟨e.symm, tbl[i], q, List.getElem?_eq_getElem hi, h2, ?_⟩
    have e1 : (kvT (mapN V.int tbl))[i]? = some (kT tbl[i].1, V.int tbl[i].2) := by
      unfold kvT mapN
      rw [List.map_map, List.getElem?_map, List.getElem?_eq_getElem hi]; rfl
    rw [e1] at h1
    have h1 := Option.some.inj h1
    rw [← (Prod.mk.inj h1).1, kT_kV] at h3
    exact h3
  stop := fun H q => ⟨q, by rw [tO_len]; exact Nat.le_refl _⟩
theorem al_dT {σ : St} (h : ∀ p H', H p = none → Same H H' → H' p = some (tO []) → Q (.ref p) H') : tDNewT σ H Q := fun p n => h p _ n (same_new (Same.refl H) n) upd_same
theorem x_inT09 {i : Int} {p : Addr} {U : List Nat} (e : SqT K H p (nI U)) (h : Q (.bl (!decide (i ∈ U.map fun (n : Nat) => (n : Int)))) H) : rIn K true (.int i) (.ref p) H Q := by
  have f : nI U = (U.map fun (n : Nat) => (n : Int)).map V.int := by unfold nI; rw [List.map_map]; rfl
  refine ⟨p, _, rfl, .inr e, rfl, ?_, ?_⟩
  · rw [f]; exact flat_int _
  · rw [if_pos rfl, f, inV_int]; exact h
theorem al_cat09 {H : Hp} {Q : VK} {a b : Addr} {xs zs : List V} (e : H a = some (.lst xs)) (e2 : H b = some (.lst zs)) (z : xs.length + zs.length ≤ 100000) (h : ∀ p H', H p = none → Same H H' → H' p = some (.lst (xs ++ zs)) → Q (.ref p) H') : rCat (.ref a) (.ref b) H Q := ⟨a, b, xs, zs, rfl, rfl, e, e2, Nat.le_of_lt (small z), fun p n => h p _ n (same_new (Same.refl H) n) upd_same⟩
theorem al_tupleOf09 {p : Addr} {ys : List V} (e : SqL K H p ys) (h : ∀ q H', H q = none → Same H H' → H' q = some (.tup ys) → Q (.ref q) H') : rTupleOf K [.ref p] H Q := ⟨p, ys, rfl, .inl ⟨e, fun l n => h l _ n (same_new (Same.refl H) n) upd_same⟩⟩
end
theorem x_tupRg09 {te : St → Hp → (Int → Int → Hp → Prop) → Prop} {σ : St} {H : Hp} {Q : VK} (h : te σ H fun a b H1 => RgOk a b ∧ ∀ q, H1 q = none → Q (.ref q) (upd H1 q (.tup (rgV a b)))) : tTupRg te σ H Q := h
/-- all growing lists out of a list -/
def pows : List Nat → List (List Nat)
  | [] => [[]]
  | x :: l => pows l ++ (pows l).map (x :: ·)
theorem mem_pows : ∀ {l U : List Nat}, l.Pairwise (· < ·) → U.Pairwise (· < ·) → (∀ x ∈ U, x ∈ l) → U ∈ pows l
  | [], U, _, _, h => by
    cases U with
    | nil => exact List.mem_singleton.mpr rfl
    | cons y U => exact absurd (h y List.mem_cons_self) (by simp)
  | x :: l, U, hl, hU, h => by
    obtain ⟨l1, l2⟩ := List.pairwise_cons.mp hl
    unfold pows
    rw [List.mem_append]
    cases U with
    | nil => exact .inl (mem_pows l2 .nil fun _ z => nomatch z)
    | cons y U =>
      obtain ⟨u1, u2⟩ := List.pairwise_cons.mp hU
      have rest : ∀ z ∈ U, z ∈ l := fun z hz => by
        rcases List.mem_cons.mp (h z (List.mem_cons_of_mem _ hz)) with e | e
        · exfalso
          rcases List.mem_cons.mp (h y List.mem_cons_self) with e2 | e2
          · have := u1 z hz; omega
          · have := u1 z hz; have := l1 y e2; omega
        · exact e
      rcases List.mem_cons.mp (h y List.mem_cons_self) with e | e
      · right
        rw [e]
        exact List.mem_map.mpr ⟨U, mem_pows l2 u2 rest, rfl⟩
      · left
        exact mem_pows l2 hU fun z hz => by
          rcases List.mem_cons.mp hz with rfl | hz
          · exact e
          · exact rest z hz
/-- keys: growing lists of rounds -/
def KeyOk (n i : Nat) (tbl : List (List Nat × Int)) : Prop := ∀ U ∈ keysN tbl, U.Pairwise (· < ·) ∧ U.length = i ∧ ∀ x ∈ U, 1 ≤ x ∧ x ≤ n
theorem pows8 : (pows (rnds 8)).length = 256 := by decide +kernel
theorem key_len {n i : Nat} {tbl : List (List Nat × Int)} (h : KeyOk n i tbl) (nd : (keysN tbl).Nodup) (n8 : n ≤ 8) : tbl.length ≤ 256 := by
  have := nodup_subG (m := pows (rnds 8)) nd fun U hU => by
    obtain ⟨a, _, c⟩ := h U hU
    exact mem_pows (inc_rnds 8) a fun x hx => mem_rnds.mpr (by have := c x hx; omega)
  rw [pows8, List.length_map] at this
  exact this
theorem key_step {n i : Nat} {l : List (List Nat × Int)} {p : List Nat × Int} {t : Nat} (h : KeyOk n (i + 1) l) (hp : p.1.Pairwise (· < ·) ∧ p.1.length = i ∧ ∀ x ∈ p.1, 1 ≤ x ∧ x ≤ n) (ht : 1 ≤ t ∧ t ≤ n) : KeyOk n (i + 1) (stepN p l t) := by
  unfold stepN
  split
  · exact h
  · rename_i m
    intro U hU
    rw [keysN_put] at hU
    split at hU
    · exact h U hU
    · rcases List.mem_append.mp hU with z | z
      · exact h U z
      · rw [List.mem_singleton.mp z]
        refine ⟨inc_ins hp.1 m, by rw [ins_len, hp.2.1], fun x hx => ?_⟩
        rcases mem_ins.mp hx with e | e
        · rw [e]; exact ht
        · exact hp.2.2 x e
theorem sort_ins {U : List Nat} {t : Nat} {ns : List Int} (inc : U.Pairwise (· < ·)) (m : t ∉ U) (pm : ns.Perm ((U ++ [t]).map fun (n : Nat) => (n : Int))) (pw : ns.Pairwise (· ≤ ·)) : ns = (ins t U).map fun (n : Nat) => (n : Int) := by
  refine List.Perm.eq_of_pairwise (fun _ _ _ _ a b => Int.le_antisymm a b) pw ?_ ?_
  · rw [List.pairwise_map]
    exact (inc_ins inc m).imp fun h => by omega
  · refine pm.trans (List.Perm.map _ ?_)
    rw [List.perm_ext_iff_of_nodup]
    · intro a
      rw [mem_ins, List.mem_append, List.mem_singleton]
      exact or_comm
    · rw [List.nodup_append]
      exact ⟨inc.imp fun h => Nat.ne_of_lt h, by simp, fun a ha b hb e => m (by rw [← List.mem_singleton.mp hb, ← e]; exact ha)⟩
    · exact (inc_ins inc m).imp fun h => Nat.ne_of_lt h
def sp_law_count (K : PySem.W.Frag) : Sp := fun vs H Q _ => ∃ (v : V) (ws : List (Int × Int)), vs = [v] ∧ Dp K H v (dWin ws) ∧ ws.length ≤ 8 ∧ (∀ w ∈ ws, 1 ≤ w.1 ∧ w.1 ≤ ws.length ∧ 1 ≤ w.2 ∧ w.2 ≤ ws.length) ∧
  ∀ H', Same H H' → Q (.int ((allO ws).length : Nat)) H'
abbrev N_law_count : List Str := ["_law_windows", "_law_size", "_law_table", "_law_first", "_law_last", "_law_later", "_law_used", "_law_turn", "_law_grown"]
def t_law_count (K : PySem.W.Frag) : TS :=
 (tSeq (tAsg (tCB (rLenSeq K) (tCons (tVar 0) tNil)) (gName 1))
 (tSeq (tAsg (tDispT (tTup tNil) (tC (.int 1))) (gName 2))
 (tSeq (tFor (iList K (tVar 0)) (gTup K 2 (gCons (gName 3) (gCons (gName 4) gNil)))
 (tSeq (tAsg tDNewT (gName 5))
 (tSeq (tLock (tFor (iKeys (tVar 2)) (gName 6)
 (tFor (iRng2 (tCons (tVar 3) (tCons (tOp rAdd (tVar 4) (tC (.int 1))) tNil))) (gName 7)
 (tIfS (tTest (tOp (rIn K true) (tVar 7) (tVar 6)))
 (tSeq (tAsg (tCB (rTupleOf K) (tCons (tCB (rSortedI K) (tCons (tOp rCat (tCB (rListOf K) (tCons (tVar 6) tNil)) (tLst (tCons (tVar 7) tNil))) tNil)) tNil)) (gName 8))
 (sDPut (tVar 5) (tVar 8) (tOp rAdd (tDGet2 (tVar 5) (tVar 8) (tC (.int 0))) (tDGet (tVar 2) (tVar 6)))))
 tNext))))
 (tAsg (tVar 5) (gName 2)))))
 (tRet (tDGet2 (tVar 2) (tTupRg (tRg2 (tC (.int 1)) (tOp rAdd (tVar 1) (tC (.int 1))))) (tC (.int 0)))))))

theorem len_law_count {K : PySem.W.Frag} : ∀ vs H Q E, sp_law_count K vs H Q E → vs.length = ["a"].length := by
  rintro vs H Q E ⟨_, _, rfl, _⟩; rfl
theorem pure_law_count {K : PySem.W.Frag} {vs : List V} {H : Hp} {Q : VK} {E : XK} (h : sp_law_count K vs H Q E) : t_law_count K { nx := fun _ H' => Q .non H', rt := Q } (start N_law_count vs) H := by
  obtain ⟨v, ws, rfl, hw, l8, wok, k⟩ := h
  obtain ⟨q, xs, rfl, hq, hx, hat⟩ := win_at hw
  unfold t_law_count
  walk_at "xs"
  refine x_lenL hq ?_
  rw [hx]
  walk_at "xs"
  refine x_dispT fun d nd => ?_
  walk_at "xs"
  refine al_tup fun b H1 nb s1 hb => ?_
  walk_at "xs"
  refine ⟨s1 _ _ upd_same, [], b, rfl, hb, ?_⟩
  have s01 : Same H (upd H1 d (.dT [([], V.int 1)])) := same_upd ((same_new (Same.refl H) nd).trans s1) nd
  have hd : upd H1 d (.dT [([], V.int 1)]) d = some (tO [([], 1)]) := upd_same
  generalize upd H1 d (.dT [([], V.int 1)]) = H2 at s01 hd ⊢
  clear hb s1 nb
  walk_at "xs"
  refine ⟨q, rfl, ⟨_, s01.seq hq⟩, for_by (turnsL (K := K) (a := q) (xs := xs)) (fun i σ H' => ∃ (d : Addr) (tbl : List (List Nat × Int)) (u3 u4 u5 u6 u7 u8 : Option V), σ = [some (.ref q), some (.int ws.length), some (.ref d), u3, u4, u5, u6, u7, u8] ∧ Same H H' ∧ H d = none ∧ H' d = some (tO tbl) ∧ CtOk (allX ((ws.map tns).take i)) tbl ∧ KeyOk ws.length i tbl)
    ⟨d, [([], 1)], none, none, none, none, none, none, rfl, s01, nd, hd, by rw [List.take_zero]; exact ok_start, fun U hU => by
      have : U = [] := by simpa using hU
      subst this; exact ⟨.nil, rfl, fun _ z => nomatch z⟩⟩ (fun i σ H' _ z => by obtain ⟨_, _, _, _, _, _, _, _, _, s, _⟩ := z; exact s.seq hq) ?_ ?_⟩
  · clear hd s01
    rintro i x σ H3 _ hi ⟨d, tbl, u3, u4, u5, u6, u7, u8, rfl, s3, nd, hd, ct, ko⟩ ⟨rfl, hxi⟩
    obtain ⟨w, t, ew, rfl, ht⟩ := hat i x hxi
    have hi' : i < ws.length := by omega
    obtain ⟨w11, w12, w21, w22⟩ := wok w (List.mem_of_getElem? ew)
    have te : (ws.map tns).take (i + 1) = (ws.map tns).take i ++ [tns w] := by
      rw [List.take_add_one, List.getElem?_map, ew]; rfl
    refine x_gtup (seqT_same s3 ht) rfl ?_
    walk_at "xs"
    refine al_dT fun la H4 nla s4 hla => ?_
    walk_at "xs"
    have hd4 := s4 _ _ hd
    have nla0 := s3.free nla
    have dla : d ≠ la := fun z => by rw [z, nla] at hd; cases hd
    have tl := key_len ko ct.nd l8
    refine ⟨d, tO tbl, hd4, trivial, fun od => ?_⟩
    have s34 := s3.trans s4
    walk_at "xs"
    refine ⟨d, od, rfl, .inr ⟨_, upd_same, for_by (turnsKT (d := d) (o := od) (tbl := tbl)) (fun j σ H' => ∃ (lt : List (List Nat × Int)) (u6 u7 u8 : Option V), σ = [some (.ref q), some (.int ws.length), some (.ref d), some (.int w.1), some (.int w.2), some (.ref la), u6, u7, u8] ∧ Same H H' ∧ H' d = some (.frz od (tO tbl)) ∧ H' la = some (tO lt) ∧ lt = rndN (tns w) (tbl.take j) [] ∧ KeyOk ws.length (i + 1) lt)
      ⟨[], _, _, _, rfl, same_upd s34 nd, upd_same, by rw [upd_ne dla.symm]; exact hla, by rw [List.take_zero]; rfl, fun _ z => nomatch z⟩ (fun j σ H' _ z => by obtain ⟨_, _, _, _, _, _, e, _⟩ := z; exact e) ?_ ?_⟩⟩
    · rintro j y σ H5 _ hj ⟨lt, u6, u7, u8, rfl, s5, hd5, hl5, elt, kl⟩ ⟨rfl, p, qk, ep, rfl, hqk⟩
      have pm := List.mem_of_getElem? ep
      have pk := ko p.1 (List.mem_map.mpr ⟨p, pm, rfl⟩)
      have tj : tbl.take (j + 1) = tbl.take j ++ [p] := by rw [List.take_add_one, ep]; rfl
      have lj : rndN (tns w) (tbl.take (j + 1)) [] = (tns w).foldl (stepN p) lt := by
        rw [tj, elt]; unfold rndN; rw [List.foldl_append]; rfl
      rw [lj]
      walk_at "xs"
      refine ⟨w.1, w.2 + 1, rfl, ⟨by omega, by omega, by omega, by omega⟩, for_by (turnsR (lo := w.1) (n := (w.2 + 1 - w.1).toNat)) (fun m σ H' => ∃ (l2 : List (List Nat × Int)) (u7 u8 : Option V), σ = [some (.ref q), some (.int ws.length), some (.ref d), some (.int w.1), some (.int w.2), some (.ref la), some (.ref qk), u7, u8] ∧ Same H H' ∧ (∀ y u, y ≠ la → H5 y = some u → H' y = some u) ∧ H' la = some (tO l2) ∧ l2 = ((tns w).take m).foldl (stepN p) lt ∧ KeyOk ws.length (i + 1) l2)
        ⟨lt, _, _, rfl, s5, fun _ _ _ e => e, hl5, by rw [List.take_zero]; rfl, kl⟩ (fun _ _ _ _ _ => trivial) ?_ ?_⟩
      · rintro m z σ H6 _ hm ⟨l2, u7, u8, rfl, s6, k6, hl6, el2, kl2⟩ ⟨rfl, rfl⟩
        have tat : (tns w)[m]? = some (w.1.toNat + m) := by unfold tns; rw [List.getElem?_map, List.getElem?_range hm]; rfl
        have tm : ((tns w).take (m + 1)).foldl (stepN p) lt = stepN p l2 (w.1.toNat + m) := by
          rw [List.take_add_one, tat, List.foldl_append, el2]; rfl
        rw [tm]
        have ti : w.1 + (m : Int) = ((w.1.toNat + m : Nat) : Int) := by omega
        rw [ti]
        have tr : 1 ≤ w.1.toNat + m ∧ w.1.toNat + m ≤ ws.length := by omega
        have kl3 := key_step kl2 pk tr
        generalize w.1.toNat + m = t at kl3 tr
        have qla : qk ≠ la := fun z => by rw [z, hl5] at hqk; cases hqk
        have hqk6 := k6 _ _ qla hqk
        have hd6 := k6 _ _ dla hd5
        have ndl2 : (keysN l2).Nodup := by rw [el2]; exact turns_nd _ _ (by rw [elt]; exact rnd_nd _ _ .nil)
        have l2l := key_len kl2 ndl2 l8
        walk_at "xs"
        refine x_inT09 (SqT.of hqk6) ?_
        have dm : decide ((t : Int) ∈ p.1.map fun (n : Nat) => (n : Int)) = decide (t ∈ p.1) := decide_eq_decide.mpr ⟨fun z => by
          obtain ⟨a, h, e⟩ := List.mem_map.mp z
          rw [← Int.ofNat_inj.mp e]; exact h, fun z => List.mem_map.mpr ⟨t, z, rfl⟩⟩
        rw [dm]
        by_cases c : t ∈ p.1
        · rw [decide_eq_true c]
          walk_at "xs"
          refine ⟨l2, _, _, rfl, s6, k6, hl6, ?_, kl2⟩
          unfold stepN
          rw [if_pos c]
        · rw [decide_eq_false c]
          walk_at "xs"
          refine al_listT (SqT.of hqk6) fun a1 H7 n7 e7 h7 => ?_
          walk_at "xs"
          refine al_lst fun a2 H8 n8 e8 h8 => ?_
          walk_at "xs"
          refine al_cat09 (e8 _ _ h7) h8 (by unfold nI; rw [List.length_map, pk.2.1]; simp; omega) fun a3 H9 n9 e9 h9 => ?_
          have h9 : H9 a3 = some (.lst (((p.1 ++ [t]).map fun (n : Nat) => (n : Int)).map V.int)) := by
            rw [h9, List.map_map, List.map_append]; rfl
          walk_at "xs"
          refine al_sorted (SqL.of h9) fun a4 ns H10 n10 e10 pmn pw h10 => ?_
          rw [sort_ins pk.1 c pmn pw] at h10
          have h10 : H10 a4 = some (.lst (nI (ins t p.1))) := by rw [h10, List.map_map]; rfl
          walk_at "xs"
          refine al_tupleOf09 (SqL.of h10) fun a5 H11 n11 e11 h11 => ?_
          have e611 := e7.trans (e8.trans (e9.trans (e10.trans e11)))
          have hl11 := e611 _ _ hl6
          have hd11 := e611 _ _ hd6
          have hq11 := e611 _ _ hqk6
          have s11 := s6.trans e611
          walk_at "xs"
          refine ⟨la, rfl, .inr ⟨_, .inl hl11⟩, ?_⟩
          walk_at "xs"
          refine ⟨_, dgetT (.inl hl11) h11, ?_⟩
          walk_at "xs"
          refine ⟨d, .int p.2, rfl, ?_, ?_⟩
          · have := dgetT (tbl := tbl) (.inr ⟨od, hd11⟩) hq11
            rw [look_mem ct.nd pm] at this
            exact this
          have gd : ((lookN l2 (ins t p.1)).map V.int).getD (.int 0) = .int (ctN l2 (ins t p.1)) := by
            unfold ctN
            cases lookN l2 (ins t p.1) <;> rfl
          rw [gd]
          walk_at "xs"
          refine ⟨la, _, rfl, dputT hl11 h11 (by omega), ?_⟩
          refine ⟨_, _, _, rfl, same_upd s11 nla0, fun y u n e => by rw [upd_ne n]; exact e611 _ _ (k6 y u n e), upd_same, ?_, ?_⟩
          · unfold stepN; rw [if_neg c]
          · unfold stepN at kl3; rw [if_neg c] at kl3; exact kl3
      rintro σ H6 ⟨l2, u7, u8, rfl, s6, k6, hl6, el2, kl2⟩
      have tk : (tns w).take (w.2 + 1 - w.1).toNat = tns w := List.take_of_length_le (by unfold tns; rw [List.length_map, List.length_range]; omega)
      rw [tk] at el2
      exact ⟨l2, _, _, _, rfl, s6, k6 _ _ dla hd5, hl6, el2, kl2⟩
    rintro σ H5 ⟨lt, u6, u7, u8, rfl, s5, hd5, hl5, elt, kl⟩
    rw [List.take_length] at elt
    refine ⟨hd5, ?_⟩
    walk_at "xs"
    refine ⟨la, lt, _, _, _, _, _, _, rfl, same_upd s5 nd, nla0, by rw [upd_ne dla.symm]; exact hl5, ?_, kl⟩
    rw [te]
    unfold allX
    rw [List.foldl_append, elt]
    exact ok_rnd ct
  rintro σ H3 ⟨d, tbl, u3, u4, u5, u6, u7, u8, rfl, s3, nd, hd, ct, ko⟩
  rw [hx, List.take_of_length_le (by rw [List.length_map]; omega)] at ct
  have fin := orders_counted (fun w h => (wok w h).1) ct
  walk_at "xs"
  refine ⟨d, rfl, .inr ⟨_, .inl hd⟩, ?_⟩
  refine x_tupRg09 ?_
  show tRg2 _ _ _ _ _
  unfold tRg2
  walk_at "xs"
  refine ⟨1, (ws.length : Int) + 1, rfl, rfl, RgOk.of_le (by omega) (by omega) (by omega) (by omega), fun r nr => ?_⟩
  have hr : upd H3 r (.tup (rgV 1 ((ws.length : Int) + 1))) r = some (.tup (nI (rnds ws.length))) := by
    rw [upd_same]
    unfold rgV nI rnds
    rw [List.map_map, show ((ws.length : Int) + 1 - 1).toNat = ws.length by omega]
    congr 2
    refine List.map_congr_left fun i _ => ?_
    show V.int (1 + (i : Int)) = V.int ((i + 1 : Nat) : Int)
    congr 1
    omega
  have sr : Same H3 (upd H3 r (.tup (rgV 1 ((ws.length : Int) + 1)))) := same_new (Same.refl H3) nr
  generalize upd H3 r (.tup (rgV 1 ((ws.length : Int) + 1))) = H4 at hr sr ⊢
  walk_at "xs"
  refine ⟨_, dgetT (.inl (sr _ _ hd)) hr, ?_⟩
  have gd : ((lookN tbl (rnds ws.length)).map V.int).getD (.int 0) = .int (ctN tbl (rnds ws.length)) := by
    unfold ctN
    cases lookN tbl (rnds ws.length) <;> rfl
  rw [gd, fin]
  exact k H4 (s3.trans sr)

end Su
namespace Su
open PySem L2
local macro_rules | `(tactic| walk_at "side") => `(tactic| first | assumption | (show (0 : Int) < _; omega) | (show (0 : Int) ≤ _; omega) | (show (0 : Int) < _; split <;> omega) | (show _ ∨ _; omega) | (show _ ∧ _; omega) | exact ⟨by decide, by decide, by decide⟩ | exact ⟨by first | assumption | omega, by first | assumption | omega⟩)
local macro_rules | `(tactic| walk_at "x") => `(tactic| first | with_reducible refine Su.x_seq ?_ | with_reducible refine Su.x_asg ?_ | with_reducible refine Su.x_gname ?_ | with_reducible refine Su.x_drop ?_ | with_reducible refine Su.x_ret ?_ | with_reducible refine Su.x_ifS ?_ | ((with_reducible show L2.tVar _ _ _ _); refine Su.x_var rfl ?_) | with_reducible refine Su.x_c ?_ | with_reducible refine Su.x_op ?_ | with_reducible refine Su.x_rI0 ?_ | ((with_reducible refine Su.x_rI ?_ ?_); focus walk_at "side") | with_reducible refine Su.x_rGt ?_ | with_reducible refine Su.x_test ?_ | with_reducible refine Su.x_isB' ?_ | with_reducible refine Su.x_and ?_ | with_reducible refine Su.x_nil ?_ | with_reducible refine Su.x_cons ?_ | with_reducible refine Su.x_cb ?_ | with_reducible refine Su.x_abs ?_ | with_reducible refine Su.x_lst ?_ | with_reducible refine Su.x_bmL ?_ | with_reducible refine Su.x_for ?_ | with_reducible refine Su.x_iList ?_ | with_reducible refine Su.x_whileN ?_)
local macro_rules | `(tactic| walk_at "xs") => `(tactic| repeat walk_at "x")
local macro_rules | `(tactic| walk_at "if") => `(tactic| first | with_reducible refine Su.x_iteD (fun c => ?_) (fun c => ?_) | with_reducible refine Su.x_iteN (fun c => ?_) (fun c => ?_) | with_reducible refine Su.x_ite (fun c => ?_) (fun c => ?_))

/-! _law_draws -/
def sp_law_draws (K : PySem.W.Frag) : Sp := fun vs H Q _ => ∃ (a : Addr) (ns : List Int) (many : Nat), vs = [.ref a, .int many] ∧ SqL K H a (ns.map V.int) ∧ ns.length ≤ 63 ∧ many ≤ 1000 ∧
  ∀ (p : Addr) (rows : List Int) (H' : Hp), H p = none → Same H H' → H' p = some (.lst (rows.map V.int)) → many ≤ rows.length → rows.length ≤ 2000 → (∀ x ∈ rows, -(10 ^ 18) < x ∧ x < 10 ^ 18) → Q (.ref p) H'
abbrev N_law_draws : List Str := ["_law_script", "_law_many", "_law_rows", "_law_mix", "_law_cell", "_law_rest"]
def t_law_draws (K : PySem.W.Frag) : TS :=
 (tSeq (tAsg (tLst tNil) (gName 2))
 (tSeq (tAsg (tC (.int 1)) (gName 3))
 (tSeq (tFor (iList K (tVar 0)) (gName 4)
 (tSeq (tAsg (tOp rMod (tOp rAdd (tOp rMul (tVar 3) (tC (.int 31))) (tVar 4)) (tC (.int 2147483647))) (gName 3))
 (tSeq (tAsg (tCB rAbs (tCons (tVar 4) tNil)) (gName 5))
 (C8.tCut (tIfS (tTest (tOp rLt (tVar 5) (tOp rPow (tC (.int 10)) (tC (.int 18)))))
 (tSeq (tDrop (tBM K "list" rAppend (tVar 2) (tCons (tVar 4) tNil)))
 (tAsg (tC (.int 0)) (gName 5)))
 tNext)
 (tWhile (tAnd (tTest (tOp rGt (tVar 5) (tC (.int 0)))) (tTest (tOp rLt (tCB (rLenSeq K) (tCons (tVar 2) tNil)) (tVar 1))))
 (tSeq (tDrop (tBM K "list" rAppend (tVar 2) (tCons (tOp rMod (tVar 5) (tC (.int 1000003))) tNil)))
 (tAsg (tOp rDiv (tVar 5) (tC (.int 1000003))) (gName 5))))))))
 (tSeq (tWhile (tTest (tOp rLt (tCB (rLenSeq K) (tCons (tVar 2) tNil)) (tVar 1)))
 (tSeq (tAsg (tOp rMod (tOp rAdd (tOp rMul (tVar 3) (tC (.int 48271))) (tC (.int 11))) (tC (.int 2147483647))) (gName 3))
 (tDrop (tBM K "list" rAppend (tVar 2) (tCons (tOp rMod (tOp rMul (tVar 3) (tVar 3)) (tC (.int 999983))) tNil)))))
 (tRet (tVar 2))))))

theorem len_law_draws {K : PySem.W.Frag} : ∀ vs H Q E, sp_law_draws K vs H Q E → vs.length = ["_law_script", "_law_many"].length := by
  rintro vs H Q E ⟨s, n, p, rfl, _⟩; rfl
structure DrawSt (H : Hp) (p : Addr) (rows : List Int) (H' : Hp) : Prop where
  s : Same H H'
  o : H' p = some (.lst (rows.map V.int))
  b : ∀ x ∈ rows, -(10 ^ 18) < x ∧ x < 10 ^ 18
theorem DrawSt.push {H : Hp} {p : Addr} {rows : List Int} {H' : Hp} (h : DrawSt H p rows H') (np : H p = none) {x : Int} (hx : -(10 ^ 18) < x ∧ x < 10 ^ 18) : DrawSt H p (rows ++ [x]) (upd H' p (.lst (rows.map V.int ++ [.int x]))) where
  s := fun b o e => by rw [upd_ne (ne_of_none e np)]; exact h.s b o e
  o := by rw [upd_same, List.map_append]; rfl
  b := fun y hy => by
    rcases List.mem_append.mp hy with q | q
    · exact h.b y q
    · cases List.mem_singleton.mp q; exact hx
theorem pure_law_draws {K : PySem.W.Frag} {vs : List V} {H : Hp} {Q : VK} {E : XK} (h : sp_law_draws K vs H Q E) : t_law_draws K { nx := fun _ H' => Q .non H', rt := Q } (start N_law_draws vs) H := by
  obtain ⟨a, ns, many, rfl, hS, hl, hm, k⟩ := h
  unfold t_law_draws
  walk_at "xs"
  refine ⟨by decide, fun p np => ?_⟩
  walk_at "xs"
  refine ⟨a, rfl, ⟨_, Same.seq (H := H) (fun b o e => by rw [upd_ne (ne_of_none e np)]; exact e) hS⟩, for_list (K := K) (a := a) (xs := ns.map V.int) (fun i σ H' => ∃ (rows : List Int) (mix : Int) (u v : Option V),
      σ = [some (.ref a), some (.int many), some (.ref p), some (.int mix), u, v] ∧ DrawSt H p rows H' ∧ rows.length ≤ i + many ∧ 0 ≤ mix ∧ mix < 2147483647)
    ⟨[], 1, none, none, rfl, ⟨fun b o e => by rw [upd_ne (ne_of_none e np)]; exact e, upd_same, fun _ h => nomatch h⟩, by simp, by decide, by decide⟩ (fun i σ H' _ ⟨_, _, _, _, _, d, _⟩ => d.s.seq hS) ?_ ?_⟩
  · rintro i y σ H1 hi ⟨rows, mix, u, v, rfl, d, hr, m0, m1⟩
    obtain ⟨z, rfl⟩ : ∃ z, y = V.int z := by
      rw [List.getElem?_map] at hi
      cases e : ns[i]? with
      | none => rw [e] at hi; cases hi
      | some z => rw [e] at hi; exact ⟨z, (Option.some.inj hi).symm⟩
    have hil : i < ns.length := by
      have := (List.getElem?_eq_some_iff.mp hi).1
      rwa [List.length_map] at this
    have hq : (0 : Int) ≤ (mix * 31 + z) % 2147483647 ∧ (mix * 31 + z) % 2147483647 < 2147483647 := ⟨Int.emod_nonneg _ (by decide), Int.emod_lt_of_pos _ (by decide)⟩
    -- the while, from any state
    have loop : ∀ (D : Ends) (rows : List Int) (rest : Int) (u : Option V) (H2 : Hp), DrawSt H p rows H2 → 0 ≤ rest → rows.length ≤ i + 1 + many → 
        (∀ rows' rest' H3, DrawSt H p rows' H3 → rows'.length ≤ i + 1 + many → D.nx [some (.ref a), some (.int many), some (.ref p), some (.int ((mix * 31 + z) % 2147483647)), u, some (.int rest')] H3) →
        tWhile (tAnd (tTest (tOp rGt (tVar 5) (tC (V.int 0)))) (tTest (tOp rLt (tCB (rLenSeq K) (tCons (tVar 2) tNil)) (tVar 1))))
            (tSeq (tDrop (tBM K "list" rAppend (tVar 2) (tCons (tOp rMod (tVar 5) (tC (V.int 1000003))) tNil)))
              (tAsg (tOp rDiv (tVar 5) (tC (V.int 1000003))) (gName 5))) D [some (.ref a), some (.int many), some (.ref p), some (.int ((mix * 31 + z) % 2147483647)), u, some (.int rest)] H2 := by
      intro D rows rest u H2 d h0 hr kk
      refine ⟨fun m σ H2 => ∃ rows rest, σ = [some (.ref a), some (.int many), some (.ref p), some (.int ((mix * 31 + z) % 2147483647)), u, some (.int rest)] ∧ DrawSt H p rows H2 ∧ 0 ≤ rest ∧ rows.length ≤ i + 1 + many ∧ m = rest.toNat, ⟨_, rows, rest, rfl, d, h0, hr, rfl⟩, ?_⟩
      rintro m σ H2 ⟨rows, rest, rfl, d, h0, hr, rfl⟩
      walk_at "xs"
      walk_at "if"
      · walk_at "xs"
        refine x_lenL (SqL.of d.o) ?_
        walk_at "xs"
        walk_at "if"
        · rename_i c1 c2
          have c2' : rows.length < many := by rw [List.length_map] at c2; exact Int.ofNat_lt.mp c2
          walk_at "xs"
          refine ⟨tyL (SqL.of d.o), ?_⟩
          walk_at "xs"
          refine x_append d.o (small (by rw [List.length_map]; omega)) ?_
          have b0 := Int.emod_nonneg rest (show (1000003 : Int) ≠ 0 by decide)
          have b1 := Int.emod_lt_of_pos rest (show (0 : Int) < 1000003 by decide)
          walk_at "xs"
          exact ⟨_, by show (rest / 1000003).toNat < rest.toNat; omega, rows ++ [rest % 1000003], rest / 1000003, rfl, d.push np ⟨by omega, by omega⟩, by omega, by rw [List.length_append]; simp; omega, rfl⟩
        · exact kk rows rest H2 d hr
      · exact kk rows rest H2 d hr
    walk_at "xs"
    refine x_cut (fun σ H2 => ∃ (rows : List Int) (rest : Int), σ = [some (.ref a), some (.int many), some (.ref p), some (.int ((mix * 31 + z) % 2147483647)), some (.int z), some (.int rest)] ∧ DrawSt H p rows H2 ∧ 0 ≤ rest ∧ rows.length ≤ i + 1 + many) ?_ ?_
    · walk_at "xs"
      walk_at "if"
      · rename_i c1
        walk_at "xs"
        refine ⟨tyL (SqL.of d.o), ?_⟩
        walk_at "xs"
        have hz : -(10 ^ 18) < z ∧ z < 10 ^ 18 := by
          by_cases z0 : z < 0
          · rw [if_pos z0] at c1; exact ⟨by have : -z < 10 ^ 18 := c1; omega, by omega⟩
          · rw [if_neg z0] at c1; exact ⟨by omega, c1⟩
        refine x_append d.o (small (by rw [List.length_map]; omega)) ?_
        walk_at "xs"
        exact ⟨rows ++ [z], 0, rfl, d.push np hz, by decide, by rw [List.length_append]; simp; omega⟩
      · refine ⟨rows, _, rfl, d, ?_, by omega⟩
        by_cases z0 : z < 0
        · rw [if_pos z0]; omega
        · rw [if_neg z0]; omega
    rintro _ _ ⟨rows, rest, rfl, d, h0, hr⟩
    refine loop _ rows rest _ _ d h0 hr fun rows' rest' H3 d3 h3 => ?_
    exact ⟨rows', _, _, _, rfl, d3, h3, hq.1, hq.2⟩
  · rintro σ H1 ⟨rows, mix, u, v, rfl, d, hr, m0, m1⟩
    rw [List.length_map] at hr
    walk_at "xs"
    refine ⟨fun m σ H2 => ∃ (rows : List Int) (mix : Int), σ = [some (.ref a), some (.int many), some (.ref p), some (.int mix), u, v] ∧ DrawSt H p rows H2 ∧ rows.length ≤ 63 + many ∧ 0 ≤ mix ∧ mix < 2147483647 ∧ m = many - rows.length, ⟨_, rows, mix, rfl, d, by omega, m0, m1, rfl⟩, ?_⟩
    rintro m σ H2 ⟨rows, mix, rfl, d, hr, m0, m1, rfl⟩
    walk_at "xs"
    refine x_lenL (SqL.of d.o) ?_
    walk_at "xs"
    walk_at "if"
    · rename_i c2
      have c2' : rows.length < many := by rw [List.length_map] at c2; exact Int.ofNat_lt.mp c2
      have hq : (0 : Int) ≤ (mix * 48271 + 11) % 2147483647 ∧ (mix * 48271 + 11) % 2147483647 < 2147483647 := ⟨Int.emod_nonneg _ (by decide), Int.emod_lt_of_pos _ (by decide)⟩
      walk_at "xs"
      refine ⟨tyL (SqL.of d.o), ?_⟩
      walk_at "xs"
      refine x_append d.o (small (by rw [List.length_map]; omega)) ?_
      have b0 := Int.emod_nonneg ((mix * 48271 + 11) % 2147483647 * ((mix * 48271 + 11) % 2147483647)) (show (999983 : Int) ≠ 0 by decide)
      have b1 := Int.emod_lt_of_pos ((mix * 48271 + 11) % 2147483647 * ((mix * 48271 + 11) % 2147483647)) (show (0 : Int) < 999983 by decide)
      exact ⟨_, by show many - (rows.length + 1) < many - rows.length; omega, rows ++ [_], _, rfl, d.push np ⟨by omega, by omega⟩, by rw [List.length_append]; simp; omega, hq.1, hq.2, by rw [List.length_append]; rfl⟩
    · rename_i c2
      have c2' : many ≤ rows.length := by
        rw [List.length_map] at c2
        omega
      walk_at "xs"
      exact k p rows H2 np d.s d.o c2' (by omega) d.b

end Su
namespace Su
open PySem L2
local macro_rules | `(tactic| walk_at "side") => `(tactic| first | assumption | (show (0 : Int) < _; omega) | (show (0 : Int) ≤ _; omega) | (show (0 : Int) < _; split <;> omega) | (show _ ∨ _; omega) | (show _ ∧ _; omega) | exact ⟨by decide, by decide, by decide⟩ | exact ⟨by first | assumption | omega, by first | assumption | omega⟩)
local macro_rules | `(tactic| walk_at "x") => `(tactic| first
  | with_reducible refine Su.x_seq ?_ | with_reducible refine Su.x_asg ?_ | with_reducible refine Su.x_gname ?_ | with_reducible refine Su.x_drop ?_ | with_reducible refine Su.x_ret ?_ | with_reducible refine Su.x_ifS ?_
  | ((with_reducible show L2.tVar _ _ _ _); refine Su.x_var rfl ?_) | with_reducible refine Su.x_c ?_ | with_reducible refine Su.x_op ?_ | with_reducible refine Su.x_rI0 ?_ | ((with_reducible refine Su.x_rI ?_ ?_); focus walk_at "side")
  | ((with_reducible show L2.rIxL _ (L2.V.ref _) (L2.V.int _) _ _); refine Su.x_ixI (by assumption) (by first | decide | omega) (by omega) ?_) | with_reducible refine Su.x_isi_int_int ?_ | with_reducible refine Su.x_isi_int_bool ?_ | with_reducible refine Su.x_isi_int_str ?_ | with_reducible refine Su.x_isi_int_list ?_ | with_reducible refine Su.x_isi_int_tuple ?_ | with_reducible refine Su.x_isi_bool_int ?_ | with_reducible refine Su.x_isi_bool_bool ?_ | with_reducible refine Su.x_isi_bool_str ?_ | with_reducible refine Su.x_isi_bool_list ?_ | with_reducible refine Su.x_isi_bool_tuple ?_ | with_reducible refine Su.x_isi_str_int ?_ | with_reducible refine Su.x_isi_str_bool ?_ | with_reducible refine Su.x_isi_str_str ?_ | with_reducible refine Su.x_isi_str_list ?_ | with_reducible refine Su.x_isi_str_tuple ?_ | with_reducible refine Su.x_isi_NoneType_int ?_ | with_reducible refine Su.x_isi_NoneType_bool ?_ | with_reducible refine Su.x_isi_NoneType_str ?_ | with_reducible refine Su.x_isi_NoneType_list ?_ | with_reducible refine Su.x_isi_NoneType_tuple ?_ | with_reducible refine Su.x_rGt ?_ | with_reducible refine Su.x_rGe ?_ | with_reducible refine Su.x_iteF ?_ | with_reducible refine Su.x_iteT ?_ | with_reducible refine Su.x_iteNT ?_ | with_reducible refine Su.x_iteNF ?_ | with_reducible refine Su.x_eqI ?_ | with_reducible refine Su.x_neI ?_ | with_reducible refine Su.x_eqS ?_ | with_reducible refine Su.x_neS ?_ | with_reducible refine Su.x_eqB ?_ | with_reducible refine Su.x_neB ?_
  | with_reducible refine Su.x_test ?_ | with_reducible refine Su.x_tB ?_ | with_reducible refine Su.x_isB ?_ | with_reducible refine Su.x_isB' ?_ | with_reducible refine Su.x_not ?_ | with_reducible refine Su.x_and ?_ | with_reducible refine Su.x_or ?_
  | with_reducible refine Su.x_andV ?_ | with_reducible refine Su.x_orV ?_ | with_reducible refine Su.x_notV ?_ | with_reducible refine Su.x_chain ?_ | with_reducible refine Su.x_nil ?_ | with_reducible refine Su.x_cons ?_ | with_reducible refine Su.x_cb ?_ | with_reducible refine Su.x_call ?_
  | with_reducible refine Su.x_un ?_ | with_reducible refine Su.x_rU ?_ | with_reducible refine Su.x_abs ?_ | with_reducible refine Su.x_max2 ?_ | with_reducible refine Su.x_min2 ?_ | with_reducible refine Su.x_int1 ?_ | with_reducible refine Su.x_intB ?_
  | with_reducible refine Su.x_lst ?_ | with_reducible refine Su.x_tup ?_ | with_reducible refine Su.x_bmL ?_ | with_reducible refine Su.x_next ?_ | with_reducible refine Su.x_for ?_ | with_reducible refine Su.x_iList ?_ | with_reducible refine Su.x_iRng1 ?_ | with_reducible refine Su.x_iRng2 ?_ | with_reducible refine Su.x_whileN ?_ | with_reducible refine Su.x_iEnum ?_ | with_reducible refine Su.x_iZip ?_ | with_reducible refine Su.x_iZipA ?_ | with_reducible refine Su.x_iTup ?_ | with_reducible refine Su.x_gcons ?_ | with_reducible refine Su.x_gnil ?_ | with_reducible refine Su.x_gsub ?_ | with_reducible refine Su.x_yes ?_ | with_reducible refine Su.x_lc ?_ | with_reducible refine Su.x_sl ?_ | with_reducible refine Su.x_nopart ?_ | with_reducible refine Su.x_part ?_ | with_reducible refine Su.x_isI ?_ | with_reducible refine Su.x_lstRg ?_ | with_reducible refine Su.x_rg1 ?_ | with_reducible refine Su.x_augS ?_ | with_reducible refine Su.x_ipI ?_ | ((with_reducible show L2.tAug _ _ _ _ _ _); refine Su.x_aug rfl ?_) | with_reducible refine Su.x_callS ?_ | with_reducible refine Su.x_tryAs ?_)
local macro_rules | `(tactic| walk_at "xs") => `(tactic| repeat walk_at "x")
local macro_rules | `(tactic| walk_at "if") => `(tactic| first | with_reducible refine Su.x_iteD (fun c => ?_) (fun c => ?_) | with_reducible refine Su.x_iteN (fun c => ?_) (fun c => ?_) | with_reducible refine Su.x_ite (fun c => ?_) (fun c => ?_))
/-! _law_wide -/
def sp_law_wide (K : PySem.W.Frag) : Sp := fun vs H Q _ => ∃ (a : Addr) (rows : List Int) (n : Nat), vs = [.ref a, .int n] ∧ SqL K H a (rows.map V.int) ∧ 0 < n ∧ n ≤ 1000 ∧ 2 * n ≤ rows.length ∧ (∀ x ∈ rows, -(10 ^ 18) < x ∧ x < 10 ^ 18) ∧
  ∀ (p : Addr) (ws : List (Int × Int)) (H' : Hp), H p = none → Same H H' → WinAt K H' p ws → ws.length = n → WinOk n ws → Q (.ref p) H'
abbrev N_law_wide : List Str := ["_law_some", "_law_size", "_law_rows", "_law_at", "_law_first", "_law_last"]
def t_law_wide (K : PySem.W.Frag) : TS :=
 (tSeq (tAsg (tLst tNil) (gName 2))
 (tSeq (tFor (iRng1 (tCons (tVar 1) tNil)) (gName 3)
 (tSeq (tAsg (tOp rAdd (tC (.int 1)) (tOp rMul (tOp rMod (tOp (rIxL K) (tVar 0) (tOp rMul (tC (.int 2)) (tVar 3))) (tVar 1)) (tOp rMod (tOp rDiv (tOp (rIxL K) (tVar 0) (tOp rMul (tC (.int 2)) (tVar 3))) (tC (.int 7))) (tC (.int 2))))) (gName 4))
 (tSeq (tAsg (tOp rSub (tVar 1) (tOp rMul (tOp rMod (tOp (rIxL K) (tVar 0) (tOp rAdd (tOp rMul (tC (.int 2)) (tVar 3)) (tC (.int 1)))) (tVar 1)) (tOp rMod (tOp rDiv (tOp (rIxL K) (tVar 0) (tOp rAdd (tOp rMul (tC (.int 2)) (tVar 3)) (tC (.int 1)))) (tC (.int 5))) (tC (.int 2))))) (gName 5))
 (tDrop (tBM K "list" rAppend (tVar 2) (tCons (tTup (tCons (tVar 4) (tCons (tVar 5) tNil))) tNil))))))
 (tRet (tVar 2))))

theorem len_law_wide {K : PySem.W.Frag} : ∀ vs H Q E, sp_law_wide K vs H Q E → vs.length = ["a", "b"].length := by
  rintro vs H Q E ⟨_, _, _, rfl, _⟩; rfl
theorem half_mul {a b n : Int} (h : 0 ≤ a ∧ a < n) (hb : 0 ≤ b ∧ b < 2) : 0 ≤ a * b ∧ a * b < n := by
  rcases (show b = 0 ∨ b = 1 by omega) with rfl | rfl
  · rw [Int.mul_zero]; omega
  · rw [Int.mul_one]; exact h
theorem pure_law_wide {K : PySem.W.Frag} {vs : List V} {H : Hp} {Q : VK} {E : XK} (h : sp_law_wide K vs H Q E) : t_law_wide K { nx := fun _ H' => Q .non H', rt := Q } (start N_law_wide vs) H := by
  obtain ⟨a, rows, n, rfl, hS, n0, n1, hl, hb, k⟩ := h
  unfold t_law_wide
  walk_at "xs"
  refine al_lst fun p H1 np s1 hp => ?_
  walk_at "xs"
  refine ⟨n, rfl, by omega, by omega, for_by turnsR (fun i σ H' => ∃ (ws : List (Int × Int)) (u v w : Option V), σ = [some (.ref a), some (.int n), some (.ref p), u, v, w] ∧ Same H H' ∧ WinAt K H' p ws ∧ ws.length = i ∧ WinOk n ws)
    ⟨[], none, none, none, rfl, s1, ⟨[], hp, .nil⟩, rfl, fun _ h => nomatch h⟩ (fun _ _ _ _ _ => trivial) ?_ ?_⟩
  · rintro i y σ H2 _ hi ⟨ws, u, v, w, rfl, s2, w2, wl, ok⟩ ⟨rfl, rfl⟩
    have hi' : i < n := by omega
    have hS2 := s2.seq hS
    walk_at "xs"
    refine x_ixL hS2 (at_getI (by omega) (by omega)) ?_
    have g1 := getD_all hb (by omega) (2 * (0 + (i : Int))).toNat
    generalize rows.getD (2 * (0 + (i : Int))).toNat 0 = r1 at g1 ⊢
    have b1 := b_mod r1 n (by omega)
    walk_at "xs"
    refine x_ixL hS2 (at_getI (by omega) (by omega)) ?_
    generalize rows.getD (2 * (0 + (i : Int))).toNat 0 = r1' at ⊢
    have b1' := b_mod (r1' / 7) 2 (by omega)
    have c1 := half_mul b1 b1'
    walk_at "xs"
    refine x_ixL hS2 (at_getI (by omega) (by omega)) ?_
    generalize rows.getD (2 * (0 + (i : Int)) + 1).toNat 0 = r2 at ⊢
    have b2 := b_mod r2 n (by omega)
    walk_at "xs"
    refine x_ixL hS2 (at_getI (by omega) (by omega)) ?_
    generalize rows.getD (2 * (0 + (i : Int)) + 1).toNat 0 = r2' at ⊢
    have b2' := b_mod (r2' / 5) 2 (by omega)
    have c2 := half_mul b2 b2'
    walk_at "xs"
    obtain ⟨xs, hxs, _⟩ := w2.lst
    refine ⟨tyL (SqL.of hxs), ?_⟩
    walk_at "xs"
    refine al_tup fun t H3 nt s3 ht => ?_
    walk_at "xs"
    refine x_winpush w2 s3 nt ht (by omega) fun H4 k4 w4 => ?_
    refine ⟨_, _, _, _, rfl, keep_same (s2.trans s3) np k4, w4, by rw [List.length_append, wl]; rfl, ?_⟩
    intro w hw
    rcases List.mem_append.mp hw with h | h
    · exact ok w h
    · cases List.mem_singleton.mp h
      exact ⟨by show (1 : Int) ≤ 1 + _; omega, by show 1 + _ ≤ (n : Int); omega, by show (1 : Int) ≤ n - _; omega, by show (n : Int) - _ ≤ n; omega⟩
  · rintro σ H2 ⟨ws, u, v, w, rfl, s2, w2, wl, ok⟩
    walk_at "xs"
    exact k p ws H2 np s2 w2 (by omega) (by rw [show ((n : Int)).toNat = n by omega] at wl; exact ok)

end Su
namespace Su
open PySem L2
local macro_rules | `(tactic| walk_at "side") => `(tactic| first | assumption | (show (0 : Int) < _; omega) | (show (0 : Int) ≤ _; omega) | (show (0 : Int) < _; split <;> omega) | (show _ ∨ _; omega) | (show _ ∧ _; omega) | exact ⟨by decide, by decide, by decide⟩ | exact ⟨by first | assumption | omega, by first | assumption | omega⟩)
local macro_rules | `(tactic| walk_at "x") => `(tactic| first | with_reducible refine Su.x_seq ?_ | with_reducible refine Su.x_ret ?_ | with_reducible refine Su.x_ifS ?_ | ((with_reducible show L2.tVar _ _ _ _); refine Su.x_var rfl ?_) | with_reducible refine Su.x_c ?_ | with_reducible refine Su.x_op ?_ | ((with_reducible show L2.rIxL _ (L2.V.ref _) (L2.V.int _) _ _); refine Su.x_ixI (by assumption) (by first | decide | omega) (by omega) ?_) | with_reducible refine Su.x_rGt ?_ | with_reducible refine Su.x_test ?_ | with_reducible refine Su.x_isB' ?_ | with_reducible refine Su.x_nil ?_ | with_reducible refine Su.x_cons ?_ | with_reducible refine Su.x_cb ?_ | with_reducible refine Su.x_call ?_ | with_reducible refine Su.x_next ?_)
local macro_rules | `(tactic| walk_at "xs") => `(tactic| repeat walk_at "x")
local macro_rules | `(tactic| walk_at "if") => `(tactic| first | with_reducible refine Su.x_iteD (fun c => ?_) (fun c => ?_) | with_reducible refine Su.x_iteN (fun c => ?_) (fun c => ?_) | with_reducible refine Su.x_ite (fun c => ?_) (fun c => ?_))

/-! count_orders -/
def sp_count_orders (K : PySem.W.Frag) : Sp := fun vs H Q E => ∃ (v : V) (ws : List (Int × Int)), vs = [v] ∧ Dp K H v (dWin ws) ∧
  (8 < ws.length → E (.ref (He.ga K "TooMany")) none H) ∧ (ws.length ≤ 8 → ∀ H', Same H H' → Q (.int ((allO ws).length : Nat)) H')
abbrev N_count_orders : List Str := ["windows"]
def t_count_orders (K : PySem.W.Frag) (E : XK) : TS :=
 (tSeq (tIfS (tTest (tOp rGt (tCB (rLenSeq K) (tCons (tVar 0) tNil)) (tC (.int 8))))
 (tRaise (He.ga K "TooMany") (wE E))
 tNext)
 (tRet (tOp (rIxL K) (tCall (sp_ways_on K) [] E0 (tCons (tVar 0) tNil)) (tC (.int 0)))))

theorem len_count_orders {K : PySem.W.Frag} : ∀ vs H Q E, sp_count_orders K vs H Q E → vs.length = ["a"].length := by
  rintro vs H Q E ⟨_, _, rfl, _⟩; rfl
theorem pure_count_orders {K : PySem.W.Frag} {vs : List V} {H : Hp} {Q : VK} {E : XK} (h : sp_count_orders K vs H Q E) : t_count_orders K E { nx := fun _ H' => Q .non H', rt := Q } (start N_count_orders vs) H := by
  obtain ⟨v, ws, rfl, hw, k1, k2⟩ := h
  obtain ⟨q, xs, rfl, hq, hx, hat⟩ := win_at hw
  unfold t_count_orders
  walk_at "xs"
  refine x_lenL hq ?_
  rw [hx]
  walk_at "xs"
  walk_at "if"
  · rename_i c
    exact k1 (by omega)
  · rename_i c
    walk_at "xs"
    refine ⟨_, ws, rfl, hw, by omega, fun p tab H' np s hp ok => ?_⟩
    have t0 := Nat.two_pow_pos ws.length
    have tl := ok.len
    walk_at "xs"
    rw [show (Int.toNat 0) = 0 by rfl, ok.at_ 0 t0, wy_zero]
    exact k2 (by omega) H' s

end Su
namespace Su
open PySem L2
local macro_rules | `(tactic| walk_at "side") => `(tactic| first | assumption | (show (0 : Int) < _; omega) | (show (0 : Int) ≤ _; omega) | (show (0 : Int) < _; split <;> omega) | (show _ ∨ _; omega) | (show _ ∧ _; omega) | exact ⟨by decide, by decide, by decide⟩ | exact ⟨by first | assumption | omega, by first | assumption | omega⟩)
local macro_rules | `(tactic| walk_at "xs") => `(tactic| repeat walk_at "x")
local macro_rules | `(tactic| walk_at "if") => `(tactic| first | with_reducible refine Su.x_iteD (fun c => ?_) (fun c => ?_) | with_reducible refine Su.x_iteN (fun c => ?_) (fun c => ?_) | with_reducible refine Su.x_ite (fun c => ?_) (fun c => ?_))

/-! a list of lists of whole numbers -/
/-- at p a list of lists, each standing by itself -/
structure LLAt (H : Hp) (p : Addr) (ls : List (List Int)) : Prop where
  ex : ∃ ts : List Addr, H p = some (.lst (ts.map V.ref)) ∧ ts.length = ls.length ∧ ∀ (i : Nat) (t : Addr) (l : List Int), ts[i]? = some t → ls[i]? = some l → t ≠ p ∧ H t = some (.lst (l.map V.int))
section
variable {K : PySem.W.Frag} {H H' : Hp} {p t : Addr} {ls : List (List Int)}
theorem LLAt.same (h : LLAt H p ls) (s : Same H H') : LLAt H' p ls := by
  obtain ⟨ts, h1, h2, h3⟩ := h.ex
  exact ⟨ts, s _ _ h1, h2, fun i t l a b => ⟨(h3 i t l a b).1, s _ _ (h3 i t l a b).2⟩⟩
end
end Su
namespace Su
open PySem L2
local macro_rules | `(tactic| walk_at "side") => `(tactic| first | assumption | (show (0 : Int) < _; omega) | (show (0 : Int) ≤ _; omega) | (show (0 : Int) < _; split <;> omega) | (show _ ∨ _; omega) | (show _ ∧ _; omega) | exact ⟨by decide, by decide, by decide⟩ | exact ⟨by first | assumption | omega, by first | assumption | omega⟩)
local macro_rules | `(tactic| walk_at "x") => `(tactic| first
  | with_reducible refine Su.x_seq ?_ | with_reducible refine Su.x_asg ?_ | with_reducible refine Su.x_gname ?_ | with_reducible refine Su.x_drop ?_ | with_reducible refine Su.x_ret ?_ | with_reducible refine Su.x_ifS ?_
  | ((with_reducible show L2.tVar _ _ _ _); refine Su.x_var rfl ?_) | with_reducible refine Su.x_c ?_ | with_reducible refine Su.x_op ?_ | with_reducible refine Su.x_rI0 ?_ | ((with_reducible refine Su.x_rI ?_ ?_); focus walk_at "side")
  | ((with_reducible show L2.rIxL _ (L2.V.ref _) (L2.V.int _) _ _); refine Su.x_ixI (by assumption) (by first | decide | omega) (by omega) ?_) | with_reducible refine Su.x_isi_int_int ?_ | with_reducible refine Su.x_isi_int_bool ?_ | with_reducible refine Su.x_isi_int_str ?_ | with_reducible refine Su.x_isi_int_list ?_ | with_reducible refine Su.x_isi_int_tuple ?_ | with_reducible refine Su.x_isi_bool_int ?_ | with_reducible refine Su.x_isi_bool_bool ?_ | with_reducible refine Su.x_isi_bool_str ?_ | with_reducible refine Su.x_isi_bool_list ?_ | with_reducible refine Su.x_isi_bool_tuple ?_ | with_reducible refine Su.x_isi_str_int ?_ | with_reducible refine Su.x_isi_str_bool ?_ | with_reducible refine Su.x_isi_str_str ?_ | with_reducible refine Su.x_isi_str_list ?_ | with_reducible refine Su.x_isi_str_tuple ?_ | with_reducible refine Su.x_isi_NoneType_int ?_ | with_reducible refine Su.x_isi_NoneType_bool ?_ | with_reducible refine Su.x_isi_NoneType_str ?_ | with_reducible refine Su.x_isi_NoneType_list ?_ | with_reducible refine Su.x_isi_NoneType_tuple ?_ | with_reducible refine Su.x_rGt ?_ | with_reducible refine Su.x_rGe ?_ | with_reducible refine Su.x_iteF ?_ | with_reducible refine Su.x_iteT ?_ | with_reducible refine Su.x_iteNT ?_ | with_reducible refine Su.x_iteNF ?_ | with_reducible refine Su.x_eqI ?_ | with_reducible refine Su.x_neI ?_ | with_reducible refine Su.x_eqS ?_ | with_reducible refine Su.x_neS ?_ | with_reducible refine Su.x_eqB ?_ | with_reducible refine Su.x_neB ?_
  | with_reducible refine Su.x_test ?_ | with_reducible refine Su.x_tB ?_ | with_reducible refine Su.x_isB ?_ | with_reducible refine Su.x_isB' ?_ | with_reducible refine Su.x_not ?_ | with_reducible refine Su.x_and ?_ | with_reducible refine Su.x_or ?_
  | with_reducible refine Su.x_andV ?_ | with_reducible refine Su.x_orV ?_ | with_reducible refine Su.x_notV ?_ | with_reducible refine Su.x_chain ?_ | with_reducible refine Su.x_nil ?_ | with_reducible refine Su.x_cons ?_ | with_reducible refine Su.x_cb ?_ | with_reducible refine Su.x_call ?_
  | with_reducible refine Su.x_un ?_ | with_reducible refine Su.x_rU ?_ | with_reducible refine Su.x_abs ?_ | with_reducible refine Su.x_max2 ?_ | with_reducible refine Su.x_min2 ?_ | with_reducible refine Su.x_int1 ?_ | with_reducible refine Su.x_intB ?_
  | with_reducible refine Su.x_lst ?_ | with_reducible refine Su.x_tup ?_ | with_reducible refine Su.x_bmL ?_ | with_reducible refine Su.x_next ?_ | with_reducible refine Su.x_for ?_ | with_reducible refine Su.x_iList ?_ | with_reducible refine Su.x_iRng1 ?_ | with_reducible refine Su.x_iRng2 ?_ | with_reducible refine Su.x_whileN ?_ | with_reducible refine Su.x_iEnum ?_ | with_reducible refine Su.x_iZip ?_ | with_reducible refine Su.x_iZipA ?_ | with_reducible refine Su.x_iTup ?_ | with_reducible refine Su.x_gcons ?_ | with_reducible refine Su.x_gnil ?_ | with_reducible refine Su.x_gsub ?_ | with_reducible refine Su.x_yes ?_ | with_reducible refine Su.x_lc ?_ | with_reducible refine Su.x_sl ?_ | with_reducible refine Su.x_nopart ?_ | with_reducible refine Su.x_part ?_ | with_reducible refine Su.x_isI ?_ | with_reducible refine Su.x_lstRg ?_ | with_reducible refine Su.x_rg1 ?_ | with_reducible refine Su.x_augS ?_ | with_reducible refine Su.x_ipI ?_ | ((with_reducible show L2.tAug _ _ _ _ _ _); refine Su.x_aug rfl ?_) | with_reducible refine Su.x_callS ?_ | with_reducible refine Su.x_tryAs ?_)
local macro_rules | `(tactic| walk_at "xs") => `(tactic| repeat walk_at "x")
local macro_rules | `(tactic| walk_at "if") => `(tactic| first | with_reducible refine Su.x_iteD (fun c => ?_) (fun c => ?_) | with_reducible refine Su.x_iteN (fun c => ?_) (fun c => ?_) | with_reducible refine Su.x_ite (fun c => ?_) (fun c => ?_))
local macro_rules | `(tactic| walk_at "x") => `(tactic| first | with_reducible refine Su.x_m1 ?_ | with_reducible refine Su.x_strE ?_ | with_reducible refine Su.x_m0 ?_ | with_reducible refine Su.x_dnew ?_ | with_reducible refine Su.x_dput ?_ | with_reducible refine Su.x_dgetE ?_ | with_reducible refine Su.x_dget2 ?_ | with_reducible refine Su.x_daug ?_ | with_reducible refine Su.x_din ?_ | with_reducible refine Su.x_dnin ?_ | with_reducible refine Su.x_brk ?_ | with_reducible refine Su.x_retN ?_)
local macro_rules | `(tactic| walk_at "at") => `(tactic| first | assumption | (refine Su.f_at (by assumption) ?_; walk_at "at"))
local macro_rules | `(tactic| walk_at "sm") => `(tactic| first | assumption | exact L2.Same.refl _ | (refine Su.f_tr (by assumption) ?_; walk_at "sm"))
local macro_rules | `(tactic| walk_at "hp") => `(tactic| first | assumption | ((with_reducible refine Su.f_sqL ?_); walk_at "at") | ((with_reducible refine Su.f_sqT ?_); walk_at "at") | ((with_reducible show L2.Same _ _); walk_at "sm") | ((with_reducible show _ = none); refine Su.f_free ?_ (by assumption); walk_at "sm") | ((with_reducible show _ = some _); walk_at "at") | (refine Su.f_dp (by assumption) ?_; walk_at "hp") | (refine Su.f_dpA (by assumption) ?_; walk_at "hp") | (refine Su.f_sqLs (by assumption) ?_; walk_at "hp") | (refine Su.f_sqTs (by assumption) ?_; walk_at "hp"))
def sp_law (K : PySem.W.Frag) : Sp := fun vs H Q _ => ∃ (a : Addr) (ns : List Int), vs = [.ref a] ∧ SqL K H a (ns.map V.int) ∧ ns.length ≤ 63 ∧ ∀ H', Q (.bl true) H'
abbrev N_law : List Str := ["_law_script", "_law_some", "_law_size", "_law_windows", "_law_handed", "_law_due", "_law_again", "_law_told"]
def t_law (K : PySem.W.Frag) : TS :=
 (tSeq (tAsg (tCall (sp_law_draws K) [] E0 (tCons (tVar 0) (tCons (tC (.int 20)) tNil))) (gName 1))
 (tSeq (tAsg (tOp rMod (tOp (rIxL K) (tVar 1) (tC (.int 0))) (tC (.int 9))) (gName 2))
 (tSeq (tAsg (tLst tNil) (gName 3))
 (C8.tCut (tIfS (tTest (tOp rGt (tVar 2) (tC (.int 0))))
 (tAsg (tCall (sp_law_wide K) [] E0 (tCons (tSl (rSlL K) (tVar 1) (tPart (tC (.int 1))) tNoPart) (tCons (tVar 2) tNil))) (gName 3))
 tNext)
 (tSeq (tAsg (tCB (rListOf K) (tCons (tVar 3) tNil)) (gName 4))
 (tSeq (tAsg (tCall (sp_law_count K) [] E0 (tCons (tVar 3) tNil)) (gName 5))
 (tSeq (tFor (iRng1 (tCons (tC (.int 2)) tNil)) (gName 6)
 (tSeq (tAsg (tCall (sp_count_orders K) [] E0 (tCons (tVar 4) tNil)) (gName 7))
 (tIfS (tOr (tNot (tB (tCB (rIsi K) (tCons (tVar 7) (tCons (tC (.ty "int")) tNil))))) (tOr (tB (tCB (rIsi K) (tCons (tVar 7) (tCons (tC (.ty "bool")) tNil)))) (tOr (tTest (tOp (rNeD K) (tVar 4) (tVar 3))) (tTest (tOp rNe (tVar 7) (tVar 5))))))
 (tRet (tC (.bl false)))
 tNext)))
 (tRet (tC (.bl true))))))))))

theorem len_law {K : PySem.W.Frag} : ∀ vs H Q E, sp_law K vs H Q E → vs.length = ["_law_script"].length := by
  rintro vs H Q E ⟨s, n, rfl, _⟩; rfl
theorem pure_law {K : PySem.W.Frag} {vs : List V} {H : Hp} {Q : VK} {E : XK} (h : sp_law K vs H Q E) : t_law K { nx := fun _ H' => Q .non H', rt := Q } (start N_law vs) H := by
  obtain ⟨sa, sc, rfl, hS, hl, k⟩ := h
  unfold t_law
  walk_at "xs"
  refine ⟨sa, sc, 20, rfl, hS, hl, by decide, fun p rows H1 np q1 hp hm hm2 hb => ?_⟩
  walk_at "xs"
  have m0 := b_mod (rows.getD (Int.toNat 0) 0) 9 (by decide)
  obtain ⟨n, hn⟩ : ∃ n : Nat, rows.getD (Int.toNat 0) 0 % 9 = n := ⟨(rows.getD (Int.toNat 0) 0 % 9).toNat, by omega⟩
  rw [hn]
  have n8 : n ≤ 8 := by omega
  clear hn m0
  refine al_lst fun w0 H2 nw0 q2 hw0 => ?_
  have hp2 := q2 _ _ hp
  walk_at "xs"
  refine x_cut (fun σ H' => ∃ (w : Addr) (ws : List (Int × Int)) (xs : List V), σ = [some (.ref sa), some (.ref p), some (.int n), some (.ref w), none, none, none, none] ∧ H' w = some (.lst xs) ∧ DpAll K (del H' w) xs (ws.map dPair) ∧ ws.length = n ∧ WinOk n ws) ?_ ?_
  · walk_at "xs"
    walk_at "if"
    · rename_i c
      walk_at "xs"
      refine al_from (i := 1) (SqL.of hp2) rfl fun p1 H3 np1 q3 hp1 => ?_
      walk_at "xs"
      refine ⟨p1, rows.drop 1, n, rfl, SqL.of hp1, by omega, by omega, by rw [List.length_drop]; omega, fun x hx => hb x (List.mem_of_mem_drop hx), fun w ws H4 nw q4 wa wl wok => ?_⟩
      walk_at "xs"
      obtain ⟨xs, h1, h2⟩ := wa
      exact ⟨w, ws, xs, rfl, h1, h2, wl, wok⟩
    · rename_i c
      walk_at "xs"
      have n0 : n = 0 := by omega
      subst n0
      exact ⟨w0, [], [], rfl, hw0, .nil, rfl, fun _ z => nomatch z⟩
  rintro _ H3 ⟨w, ws, xs, rfl, hw, dw, wl, wok⟩
  have gd : GoodD 2 (dWin ws) := good_map (n := 1) (by omega) fun x _ => .tup (by simp) fun d hd => by
    simp only [List.mem_cons, List.not_mem_nil, or_false] at hd
    rcases hd with rfl | rfl <;> exact .int _ _
  walk_at "xs"
  refine al_list (SqL.of hw) fun c H4 nc s4 hc => ?_
  have dc : Dp K H4 (.ref c) (dWin ws) := .lst (SqL.of hc) (dpAll_same (del_same.trans s4) dw)
  have dw4 : Dp K H4 (.ref w) (dWin ws) := .lst (SqL.of (s4 _ _ hw)) (dpAll_same (del_same.trans s4) dw)
  walk_at "xs"
  refine ⟨.ref w, ws, rfl, dw4, by omega, fun x hx => by rw [wl]; exact wok x hx, fun H5 s5 => ?_⟩
  walk_at "xs"
  refine ⟨2, rfl, by decide, by decide, for_by (turnsR (lo := 0) (n := 2)) (fun i σ H' => ∃ (u6 u7 : Option V), σ = [some (.ref sa), some (.ref p), some (.int n), some (.ref w), some (.ref c), some (.int ((allO ws).length : Nat)), u6, u7] ∧ Same H4 H')
    ⟨_, _, rfl, s5⟩ (fun _ _ _ _ _ => trivial) ?_ ?_⟩
  · rintro i y σ H6 _ hi ⟨u6, u7, rfl, s6⟩ ⟨rfl, rfl⟩
    walk_at "xs"
    refine ⟨.ref c, ws, rfl, dp_same s6 dc, fun z => absurd z (by omega), fun _ H7 s7 => ?_⟩
    walk_at "xs"
    refine x_neSelf gd (by decide) (dp_same (s6.trans s7) dc) (dp_same (s6.trans s7) dw4) ?_
    walk_at "xs"
    rw [decide_eq_true rfl]
    walk_at "xs"
    exact ⟨_, _, rfl, s6.trans s7⟩
  rintro σ H6 ⟨u6, u7, rfl, s6⟩
  walk_at "xs"
  exact k H6

end Su
namespace Su
open PySem L2
structure Fx (K : PySem.W.Frag) (mg : Str → Option Value) : Prop where
  n_abs : mg "abs" = none
  n_bool : mg "bool" = none
  n_enumerate : mg "enumerate" = none
  n_int : mg "int" = none
  n_isinstance : mg "isinstance" = none
  n_len : mg "len" = none
  n_list : mg "list" = none
  n_range : mg "range" = none
  n_sorted : mg "sorted" = none
  n_tuple : mg "tuple" = none
  c_MOST : ∃ u, mg "MOST" = some u ∧ RelV (.int 8) u
  g_TooMany : mg "TooMany" = some (.ref (He.ga K "TooMany"))
  k_TooMany : ∃ u, mg "TooMany" = some u ∧ RelV (.ref (He.ga K "TooMany")) u
  x_TooMany : Xc K mg "TooMany"
  g_law_count : mg "_law_count" = some (.ref (He.fAd K ("_law_count", none)))
  F_law_count : ∃ fd, FunD K "_law_count" "_law_count" (defArgs s_law_count) (defBody s_law_count) (defScope s_law_count) [] [] (He.fAd K ("_law_count", none)) fd
  g_law_draws : mg "_law_draws" = some (.ref (He.fAd K ("_law_draws", none)))
  F_law_draws : ∃ fd, FunD K "_law_draws" "_law_draws" (defArgs s_law_draws) (defBody s_law_draws) (defScope s_law_draws) [] [] (He.fAd K ("_law_draws", none)) fd
  g_law_wide : mg "_law_wide" = some (.ref (He.fAd K ("_law_wide", none)))
  F_law_wide : ∃ fd, FunD K "_law_wide" "_law_wide" (defArgs s_law_wide) (defBody s_law_wide) (defScope s_law_wide) [] [] (He.fAd K ("_law_wide", none)) fd
  g_bits : mg "bits" = some (.ref (He.fAd K ("bits", none)))
  F_bits : ∃ fd, FunD K "bits" "bits" (defArgs s_bits) (defBody s_bits) (defScope s_bits) [] [] (He.fAd K ("bits", none)) fd
  g_has_bit : mg "has_bit" = some (.ref (He.fAd K ("has_bit", none)))
  F_has_bit : ∃ fd, FunD K "has_bit" "has_bit" (defArgs s_has_bit) (defBody s_has_bit) (defScope s_has_bit) [] [] (He.fAd K ("has_bit", none)) fd
  g_with_bit : mg "with_bit" = some (.ref (He.fAd K ("with_bit", none)))
  F_with_bit : ∃ fd, FunD K "with_bit" "with_bit" (defArgs s_with_bit) (defBody s_with_bit) (defScope s_with_bit) [] [] (He.fAd K ("with_bit", none)) fd
  g_ways_on : mg "ways_on" = some (.ref (He.fAd K ("ways_on", none)))
  F_ways_on : ∃ fd, FunD K "ways_on" "ways_on" (defArgs s_ways_on) (defBody s_ways_on) (defScope s_ways_on) [] [] (He.fAd K ("ways_on", none)) fd
  g_count_orders : mg "count_orders" = some (.ref (He.fAd K ("count_orders", none)))
  F_count_orders : ∃ fd, FunD K "count_orders" "count_orders" (defArgs s_count_orders) (defBody s_count_orders) (defScope s_count_orders) [] [] (He.fAd K ("count_orders", none)) fd
  g_law : mg "law" = some (.ref (He.fAd K ("law", none)))
  F_law : ∃ fd, FunD K "law" "law" (defArgs s_law) (defBody s_law) (defScope s_law) [] [] (He.fAd K ("law", none)) fd
section
variable {P : Program} {w : World} {K : PySem.W.Frag} {mg : Str → Option Value} {base : Heap}
theorem sc_law_count : FnScope N_law_count ["_law_windows"] (defScope s_law_count) := ⟨rfl, rfl, rfl, by decide +kernel, rfl, by decide +kernel, by decide +kernel⟩
theorem ok_law_count (T : Fx K mg) : Cl P w K mg base CX0 1 "_law_count" (sp_law_count K) := by
  obtain ⟨fd, F⟩ := T.F_law_count
  have sc := sc_law_count
  refine ⟨_, fd, ["_law_windows"], T.g_law_count, F.kp, F.bindsN fun _ _ _ _ _ _ us hl => match us, hl with | [_], _ => rfl, ?_⟩
  refine F.ok sc (len_law_count) (fun cdv A outer s H vs Q E hr h => ⟨t_law_count K, PSs.nox ?_, pure_law_count h⟩)
  have hu := hu_of hr
  exact (pss_cons (ps_set (i := 1) sc.nd rfl (Or.inl rfl) (pe_callB call_len_seq (by rfl) T.n_len b_len (pa_cons (pv 0) pa_nil)))
 (pss_cons (ps_set (i := 2) sc.nd rfl (Or.inl rfl) (pe_dispT hu (pe_tup pa_nil) pe_int))
 (pss_cons (ps_for PassesOwn.never rfl (pi_list (pv 0)) (pg_tup rfl (pgs_cons (pg_name (i := 3) sc.nd rfl (Or.inl rfl)) (pgs_cons (pg_name (i := 4) sc.nd rfl (Or.inl rfl)) pgs_nil)))
 (pss_cons (ps_set (i := 5) sc.nd rfl (Or.inl rfl) pe_dnewT)
 (pss_cons (ps_lock (ps_for PassesOwn.never rfl (pi_keys (pv 2)) (pg_name (i := 6) sc.nd rfl (Or.inl rfl))
 (pss_one (ps_for PassesOwn.never rfl (pi_range2 (by rfl) T.n_range (pa_cons (pv 3) (pa_cons (pe_op op_add (pv 4) pe_int) pa_nil))) (pg_name (i := 7) sc.nd rfl (Or.inl rfl))
 (pss_one (ps_if (pt_cmpR op_notIn_seq (pv 7) (pv 6) rfl)
 (pss_cons (ps_set (i := 8) sc.nd rfl (Or.inl rfl) (pe_callTy call_tuple_of (by rfl) T.n_tuple b_tuple (pa_cons (pe_callB cr_sortedI (by rfl) T.n_sorted b_sorted (pa_cons (pe_op op_cat (pe_callTy call_list_of (by rfl) T.n_list b_list (pa_cons (pv 6) pa_nil)) (pe_lst (pa_cons (pv 7) pa_nil))) pa_nil)) pa_nil)))
 (pss_one (ps_dput hu (pv 5) (pv 8) (pe_op op_add (pe_dget2 hu (pv 5) (pv 8) pe_int ⟨rfl, rfl, rfl, rfl⟩) (pe_dget hu (pv 2) (pv 6) (fun _ _ => rfl))) rfl)))
 pss_nil))))))
 (pss_one (ps_set (i := 2) sc.nd rfl (Or.inl rfl) (pv 5))))))
 (pss_one (ps_ret (pe_dget2 hu (pv 2) (pe_tupRg rfl (by rfl) T.n_tuple (prg_2 (by rfl) T.n_range pe_int (pe_op op_add (pv 1) pe_int))) pe_int ⟨rfl, rfl, rfl, rfl⟩))))))
theorem sc_law_draws : FnScope N_law_draws ["_law_script", "_law_many"] (defScope s_law_draws) := ⟨rfl, rfl, rfl, by decide +kernel, rfl, by decide +kernel, by decide +kernel⟩
theorem ok_law_draws (T : Fx K mg) : Cl P w K mg base CX0 1 "_law_draws" (sp_law_draws K) := by
  obtain ⟨fd, F⟩ := T.F_law_draws
  have sc := sc_law_draws
  refine ⟨_, fd, ["_law_script", "_law_many"], T.g_law_draws, F.kp, F.bindsN fun _ _ _ _ _ _ us hl => match us, hl with | [_, _], _ => rfl, ?_⟩
  refine F.ok sc (len_law_draws) (fun cdv A outer s H vs Q E hr h => ⟨t_law_draws K, PSs.nox ?_, pure_law_draws h⟩)
  exact (pss_cons (ps_set (i := 2) sc.nd rfl (Or.inl rfl) (pe_lst pa_nil))
 (pss_cons (ps_set (i := 3) sc.nd rfl (Or.inl rfl) pe_int)
 (pss_cons (ps_for PassesOwn.never rfl (pi_list (pv 0)) (pg_name (i := 4) sc.nd rfl (Or.inl rfl))
 (pss_cons (ps_set (i := 3) sc.nd rfl (Or.inl rfl) (pe_op op_mod (pe_op op_add (pe_op op_mul (pv 3) pe_int) (pv 4)) pe_int))
 (pss_cons (ps_set (i := 5) sc.nd rfl (Or.inl rfl) (pe_callB call_abs (by rfl) T.n_abs b_abs (pa_cons (pv 4) pa_nil)))
 (C8.pss_cut (ps_if (pt_cmpR op_lt (pv 5) (pe_op op_pow pe_int pe_int) (nomark _))
 (pss_cons (ps_expr (pe_bm PySem.F.plainAttrs_list PySem.F.slot_list_append PySem.F.type_list_append mt_append (pv 2) (pa_cons (pv 4) pa_nil)))
 (pss_one (ps_set (i := 5) sc.nd rfl (Or.inl rfl) pe_int)))
 pss_nil)
 (pss_one (ps_while PassesOwn.never (PW.pt (pw_and (pt_cmpR op_gt (pv 5) pe_int (nomark _)) (pw_and1 (pt_cmpR op_lt (pe_callB call_len_seq (by rfl) T.n_len b_len (pa_cons (pv 2) pa_nil)) (pv 1) (nomark _)))))
 (pss_cons (ps_expr (pe_bm PySem.F.plainAttrs_list PySem.F.slot_list_append PySem.F.type_list_append mt_append (pv 2) (pa_cons (pe_op op_mod (pv 5) pe_int) pa_nil)))
 (pss_one (ps_set (i := 5) sc.nd rfl (Or.inl rfl) (pe_op op_fdiv (pv 5) pe_int))))))))))
 (pss_cons (ps_while PassesOwn.never (pt_cmpR op_lt (pe_callB call_len_seq (by rfl) T.n_len b_len (pa_cons (pv 2) pa_nil)) (pv 1) (nomark _))
 (pss_cons (ps_set (i := 3) sc.nd rfl (Or.inl rfl) (pe_op op_mod (pe_op op_add (pe_op op_mul (pv 3) pe_int) pe_int) pe_int))
 (pss_one (ps_expr (pe_bm PySem.F.plainAttrs_list PySem.F.slot_list_append PySem.F.type_list_append mt_append (pv 2) (pa_cons (pe_op op_mod (pe_op op_mul (pv 3) (pv 3)) pe_int) pa_nil))))))
 (pss_one (ps_ret (pv 2)))))))
theorem sc_law_wide : FnScope N_law_wide ["_law_some", "_law_size"] (defScope s_law_wide) := ⟨rfl, rfl, rfl, by decide +kernel, rfl, by decide +kernel, by decide +kernel⟩
theorem ok_law_wide (T : Fx K mg) : Cl P w K mg base CX0 1 "_law_wide" (sp_law_wide K) := by
  obtain ⟨fd, F⟩ := T.F_law_wide
  have sc := sc_law_wide
  refine ⟨_, fd, ["_law_some", "_law_size"], T.g_law_wide, F.kp, F.bindsN fun _ _ _ _ _ _ us hl => match us, hl with | [_, _], _ => rfl, ?_⟩
  refine F.ok sc (len_law_wide) (fun cdv A outer s H vs Q E hr h => ⟨t_law_wide K, PSs.nox ?_, pure_law_wide h⟩)
  exact (pss_cons (ps_set (i := 2) sc.nd rfl (Or.inl rfl) (pe_lst pa_nil))
 (pss_cons (ps_for PassesOwn.never rfl (pi_range1 (by rfl) T.n_range (pa_cons (pv 1) pa_nil)) (pg_name (i := 3) sc.nd rfl (Or.inl rfl))
 (pss_cons (ps_set (i := 4) sc.nd rfl (Or.inl rfl) (pe_op op_add pe_int (pe_op op_mul (pe_op op_mod (pe_ix ix_list (pv 0) (pe_op op_mul pe_int (pv 3)) (fun _ _ => rfl)) (pv 1)) (pe_op op_mod (pe_op op_fdiv (pe_ix ix_list (pv 0) (pe_op op_mul pe_int (pv 3)) (fun _ _ => rfl)) pe_int) pe_int))))
 (pss_cons (ps_set (i := 5) sc.nd rfl (Or.inl rfl) (pe_op op_sub (pv 1) (pe_op op_mul (pe_op op_mod (pe_ix ix_list (pv 0) (pe_op op_add (pe_op op_mul pe_int (pv 3)) pe_int) (fun _ _ => rfl)) (pv 1)) (pe_op op_mod (pe_op op_fdiv (pe_ix ix_list (pv 0) (pe_op op_add (pe_op op_mul pe_int (pv 3)) pe_int) (fun _ _ => rfl)) pe_int) pe_int))))
 (pss_one (ps_expr (pe_bm PySem.F.plainAttrs_list PySem.F.slot_list_append PySem.F.type_list_append mt_append (pv 2) (pa_cons (pe_tup (pa_cons (pv 4) (pa_cons (pv 5) pa_nil))) pa_nil)))))))
 (pss_one (ps_ret (pv 2)))))
theorem sc_bits : FnScope N_bits ["mask"] (defScope s_bits) := ⟨rfl, rfl, rfl, by decide +kernel, rfl, by decide +kernel, by decide +kernel⟩
theorem ok_bits (T : Fx K mg) : Cl P w K mg base CX0 1 "bits" (sp_bits K) := by
  obtain ⟨fd, F⟩ := T.F_bits
  have sc := sc_bits
  refine ⟨_, fd, ["mask"], T.g_bits, F.kp, F.bindsN fun _ _ _ _ _ _ us hl => match us, hl with | [_], _ => rfl, ?_⟩
  refine F.ok sc (len_bits) (fun cdv A outer s H vs Q E hr h => ⟨t_bits K, PSs.nox ?_, pure_bits h⟩)
  exact (pss_cons (ps_set (i := 1) sc.nd rfl (Or.inl rfl) pe_int)
 (pss_cons (ps_while PassesOwn.never (pt_cmpR op_gt (pv 0) pe_int (nomark _))
 (pss_cons (ps_aug (i := 1) sc.nd rfl (Or.inl rfl) (pe_op op_mod (pv 0) pe_int) ip_add)
 (pss_one (ps_set (i := 0) sc.nd rfl (Or.inl rfl) (pe_op op_fdiv (pv 0) pe_int)))))
 (pss_one (ps_ret (pv 1)))))
theorem sc_has_bit : FnScope N_has_bit ["mask", "at"] (defScope s_has_bit) := ⟨rfl, rfl, rfl, by decide +kernel, rfl, by decide +kernel, by decide +kernel⟩
theorem ok_has_bit (T : Fx K mg) : Cl P w K mg base CX0 1 "has_bit" (sp_has_bit K) := by
  obtain ⟨fd, F⟩ := T.F_has_bit
  have sc := sc_has_bit
  refine ⟨_, fd, ["mask", "at"], T.g_has_bit, F.kp, F.bindsN fun _ _ _ _ _ _ us hl => match us, hl with | [_, _], _ => rfl, ?_⟩
  refine F.ok sc (len_has_bit) (fun cdv A outer s H vs Q E hr h => ⟨t_has_bit K, PSs.nox ?_, pure_has_bit h⟩)
  exact (pss_one (ps_ret (pe_cmpR op_eq (pe_op op_mod (pe_op op_shr (pv 0) (pv 1)) pe_int) pe_int (nomark _))))
theorem sc_with_bit : FnScope N_with_bit ["mask", "at"] (defScope s_with_bit) := ⟨rfl, rfl, rfl, by decide +kernel, rfl, by decide +kernel, by decide +kernel⟩
theorem ok_with_bit (T : Fx K mg) : Cl P w K mg base CX0 1 "with_bit" (sp_with_bit K) := by
  obtain ⟨fd, F⟩ := T.F_with_bit
  have sc := sc_with_bit
  refine ⟨_, fd, ["mask", "at"], T.g_with_bit, F.kp, F.bindsN fun _ _ _ _ _ _ us hl => match us, hl with | [_, _], _ => rfl, ?_⟩
  refine F.ok sc (len_with_bit) (fun cdv A outer s H vs Q E hr h => ⟨t_with_bit K, PSs.nox ?_, pure_with_bit h⟩)
  exact (pss_one (ps_ret (pe_op op_add (pv 0) (pe_op op_shl pe_int (pv 1)))))
theorem sc_ways_on : FnScope N_ways_on ["windows"] (defScope s_ways_on) := ⟨rfl, rfl, rfl, by decide +kernel, rfl, by decide +kernel, by decide +kernel⟩
theorem ok_ways_on (T : Fx K mg) : Cl P w K mg base CX0 2 "ways_on" (sp_ways_on K) := by
  obtain ⟨fd, F⟩ := T.F_ways_on
  have sc := sc_ways_on
  refine ⟨_, fd, ["windows"], T.g_ways_on, F.kp, F.bindsN fun _ _ _ _ _ _ us hl => match us, hl with | [_], _ => rfl, ?_⟩
  refine F.ok sc (len_ways_on) (fun cdv A outer s H vs Q E hr h => ⟨t_ways_on K, PSs.nox ?_, pure_ways_on h⟩)
  exact (pss_cons (ps_set (i := 1) sc.nd rfl (Or.inl rfl) (pe_callB call_len_seq (by rfl) T.n_len b_len (pa_cons (pv 0) pa_nil)))
 (pss_cons (ps_set (i := 2) sc.nd rfl (Or.inl rfl) pe_int)
 (pss_cons (ps_for PassesOwn.never rfl (pi_range1 (by rfl) T.n_range (pa_cons (pv 1) pa_nil)) (pg_name (i := 3) sc.nd rfl (Or.inl rfl))
 (pss_one (ps_set (i := 2) sc.nd rfl (Or.inl rfl) (pe_op op_mul (pv 2) pe_int))))
 (pss_cons (ps_set (i := 4) sc.nd rfl (Or.inl rfl) (pe_op op_rep (pe_lst (pa_cons pe_int pa_nil)) (pv 2)))
 (pss_cons (ps_asg pe_int (pg_sub (pv 4) (pe_op op_sub (pv 2) pe_int) set_list))
 (pss_cons (ps_for PassesOwn.never rfl (pi_range2 (by rfl) T.n_range (pa_cons pe_int (pa_cons (pe_op op_add (pv 2) pe_int) pa_nil))) (pg_name (i := 5) sc.nd rfl (Or.inl rfl))
 (pss_cons (ps_set (i := 6) sc.nd rfl (Or.inl rfl) (pe_op op_sub (pv 2) (pv 5)))
 (pss_cons (ps_set (i := 7) sc.nd rfl (Or.inl rfl) (pe_op op_add (pe_cl (ok_bits T) hr (by decide) (by rfl) pass0 (pa_cons (pv 6) pa_nil)) pe_int))
 (pss_cons (ps_set (i := 8) sc.nd rfl (Or.inl rfl) pe_int)
 (pss_cons (ps_for PassesOwn.never rfl (pi_enum (by rfl) T.n_enumerate (pa_cons (pv 0) pa_nil)) (pg_tup rfl (pgs_cons (pg_name (i := 9) sc.nd rfl (Or.inl rfl)) (pgs_cons (pg_tup rfl (pgs_cons (pg_name (i := 10) sc.nd rfl (Or.inl rfl)) (pgs_cons (pg_name (i := 11) sc.nd rfl (Or.inl rfl)) pgs_nil))) pgs_nil)))
 (pss_one (ps_if (PW.pt (pw_and (pt_not (pt_val (pe_cl (ok_has_bit T) hr (by decide) (by rfl) pass0 (pa_cons (pv 6) (pa_cons (pv 9) pa_nil))))) (pw_and1 (pt_chain op_le op_le (pv 10) (pv 7) (pv 11)))))
 (pss_one (ps_aug (i := 8) sc.nd rfl (Or.inl rfl) (pe_ix ix_list (pv 4) (pe_cl (ok_with_bit T) hr (by decide) (by rfl) pass0 (pa_cons (pv 6) (pa_cons (pv 9) pa_nil))) (fun _ _ => rfl)) ip_add))
 pss_nil)))
 (pss_one (ps_asg (pv 8) (pg_sub (pv 4) (pv 6) set_list))))))))
 (pss_one (ps_ret (pv 4)))))))))
theorem sc_count_orders : FnScope N_count_orders ["windows"] (defScope s_count_orders) := ⟨rfl, rfl, rfl, by decide +kernel, rfl, by decide +kernel, by decide +kernel⟩
theorem ok_count_orders (T : Fx K mg) : Cl P w K mg base (L2.CX P w) 3 "count_orders" (sp_count_orders K) := by
  obtain ⟨fd, F⟩ := T.F_count_orders
  have sc := sc_count_orders
  refine ⟨_, fd, ["windows"], T.g_count_orders, F.kp, F.bindsN fun _ _ _ _ _ _ us hl => match us, hl with | [_], _ => rfl, ?_⟩
  refine F.ok sc (len_count_orders) (fun cdv A outer s H vs Q E hr h => ⟨t_count_orders K E, ?_, pure_count_orders h⟩)
  exact (pss_cons (ps_if (pt_cmpR op_gt (pe_callB call_len_seq (by rfl) T.n_len b_len (pa_cons (pv 0) pa_nil)) (pe_gc (by rfl) T.c_MOST) (nomark _))
 (pss_one (ps_raise0 rfl (takes_of rfl rfl rfl rfl) T.x_TooMany (by rfl)))
 pss_nil)
 (pss_one (ps_ret (pe_ix ix_list (pe_cl (ok_ways_on T) hr (by decide) (by rfl) pass0 (pa_cons (pv 0) pa_nil)) pe_int (fun _ _ => rfl)))))
theorem sc_law : FnScope N_law ["_law_script"] (defScope s_law) := ⟨rfl, rfl, rfl, by decide +kernel, rfl, by decide +kernel, by decide +kernel⟩
theorem ok_law_at {fd : FuncData} (T : Fx K mg) (F : FunD K "law" "law" (defArgs s_law) (defBody s_law) (defScope s_law) [] [] (He.fAd K ("law", none)) fd) : FnOk P w K mg base CX0 4 (He.fAd K ("law", none)) fd ["_law_script"] (sp_law K) := by
  have sc := sc_law
  refine F.ok sc (len_law) (fun cdv A outer s H vs Q E hr h => ⟨t_law K, PSs.nox ?_, pure_law h⟩)
  exact (pss_cons (ps_set (i := 1) sc.nd rfl (Or.inl rfl) (pe_cl (ok_law_draws T) hr (by decide) (by rfl) pass0 (pa_cons (pv 0) (pa_cons pe_int pa_nil))))
 (pss_cons (ps_set (i := 2) sc.nd rfl (Or.inl rfl) (pe_op op_mod (pe_ix ix_list (pv 1) pe_int (fun _ _ => rfl)) pe_int))
 (pss_cons (ps_set (i := 3) sc.nd rfl (Or.inl rfl) (pe_lst pa_nil))
 (C8.pss_cut (ps_if (pt_cmpR op_gt (pv 2) pe_int (nomark _))
 (pss_one (ps_set (i := 3) sc.nd rfl (Or.inl rfl) (pe_cl (ok_law_wide T) hr (by decide) (by rfl) pass0 (pa_cons (pe_slice sl_list (pv 1) (po_some pe_int) po_none) (pa_cons (pv 2) pa_nil)))))
 pss_nil)
 (pss_cons (ps_set (i := 4) sc.nd rfl (Or.inl rfl) (pe_callTy call_list_of (by rfl) T.n_list b_list (pa_cons (pv 3) pa_nil)))
 (pss_cons (ps_set (i := 5) sc.nd rfl (Or.inl rfl) (pe_cl (ok_law_count T) hr (by decide) (by rfl) pass0 (pa_cons (pv 3) pa_nil)))
 (pss_cons (ps_for PassesOwn.never rfl (pi_range1 (by rfl) T.n_range (pa_cons pe_int pa_nil)) (pg_name (i := 6) sc.nd rfl (Or.inl rfl))
 (pss_cons (ps_set (i := 7) sc.nd rfl (Or.inl rfl) (pe_cl (ok_count_orders T) hr (by decide) (by rfl) passL (pa_cons (pv 4) pa_nil)))
 (pss_one (ps_if (PW.pt (pw_or (pt_not (pt_val (pe_callB call_isi (by rfl) T.n_isinstance b_isinstance (pa_cons (pv 7) (pa_cons (pe_bltn (v := .ty "int") (by rfl) T.n_int b_int rfl) pa_nil))))) (pw_or (pt_val (pe_callB call_isi (by rfl) T.n_isinstance b_isinstance (pa_cons (pv 7) (pa_cons (pe_bltn (v := .ty "bool") (by rfl) T.n_bool b_bool rfl) pa_nil)))) (pw_or (pt_cmpR (op_neD hr.units) (pv 4) (pv 3) (nomark _)) (pw_or1 (pt_cmpR op_ne (pv 7) (pv 5) (nomark _)))))))
 (pss_one (ps_ret pe_bl))
 pss_nil))))
 (pss_one (ps_ret pe_bl)))))))))

end
theorem facts {K : PySem.W.Frag} {h : Heap} {mg : Str → Option Value} (X : K.In h) (G : h.Ns mainGlobals mg) (c : He.SaysD fas fns K) : Fx K mg where
  n_abs := He.free_ok X G (c.fact 9 rfl)
  n_bool := He.free_ok X G (c.fact 10 rfl)
  n_enumerate := He.free_ok X G (c.fact 11 rfl)
  n_int := He.free_ok X G (c.fact 12 rfl)
  n_isinstance := He.free_ok X G (c.fact 13 rfl)
  n_len := He.free_ok X G (c.fact 14 rfl)
  n_list := He.free_ok X G (c.fact 15 rfl)
  n_range := He.free_ok X G (c.fact 16 rfl)
  n_sorted := He.free_ok X G (c.fact 17 rfl)
  n_tuple := He.free_ok X G (c.fact 18 rfl)
  c_MOST := (He.int_ok X G (c.fact 19 rfl)).elim fun t e => ⟨_, e, ⟨t, rfl⟩⟩
  g_TooMany := He.glo_ok X G (c.fact 20 rfl)
  k_TooMany := ⟨_, He.glo_ok X G (c.fact 20 rfl), rfl⟩
  x_TooMany := let z := He.exc_ok (c.fact 21 rfl); ⟨z.1, He.glo_ok X G (c.fact 20 rfl), z.2.1, z.2.2.1, z.2.2.2⟩
  g_law_count := He.glo_ok X G (c.fact 0 rfl)
  F_law_count := c.def_ 0 (d := dd_law_count) rfl
  g_law_draws := He.glo_ok X G (c.fact 1 rfl)
  F_law_draws := c.def_ 1 (d := dd_law_draws) rfl
  g_law_wide := He.glo_ok X G (c.fact 2 rfl)
  F_law_wide := c.def_ 2 (d := dd_law_wide) rfl
  g_bits := He.glo_ok X G (c.fact 3 rfl)
  F_bits := c.def_ 3 (d := dd_bits) rfl
  g_has_bit := He.glo_ok X G (c.fact 4 rfl)
  F_has_bit := c.def_ 4 (d := dd_has_bit) rfl
  g_with_bit := He.glo_ok X G (c.fact 5 rfl)
  F_with_bit := c.def_ 5 (d := dd_with_bit) rfl
  g_ways_on := He.glo_ok X G (c.fact 6 rfl)
  F_ways_on := c.def_ 6 (d := dd_ways_on) rfl
  g_count_orders := He.glo_ok X G (c.fact 7 rfl)
  F_count_orders := c.def_ 7 (d := dd_count_orders) rfl
  g_law := He.glo_ok X G (c.fact 8 rfl)
  F_law := c.def_ 8 (d := dd_law) rfl
theorem fin {P : Program} {w : World} {K : PySem.W.Frag} {h : Heap} {mg : Str → Option Value} {fa : Addr} (X : K.In h) (G : h.Ns mainGlobals mg) (hmg : mg ("law" : Str) = some (.ref fa)) (c : He.SaysD fas fns K) :
    ∃ (K : PySem.W.Frag) (fd : FuncData) (sp : Sp), K.In h ∧ (∀ (s : Shared) (u : Value), BindsTo s fd ⟨[u], []⟩ [("_law_script", u)]) ∧
        (∀ (H : Hp) (a : Addr) (ns : List Int), ns.length ≤ 63 → Only H → SqL K H a (ns.map V.int) → sp [.ref a] H (fun v _ => v = .bl true) fun _ _ _ => False) ∧
        ∀ base : Heap, K.In base → base.Ns mainGlobals mg → FnOk P w K mg base CX0 4 fa fd ["_law_script"] sp := by
  have T := facts X G c
  obtain ⟨fd, F⟩ := T.F_law
  have e := hmg.symm.trans T.g_law
  cases e
  have b := FunD.bindsA (ps := ["_law_script"]) F fun _ _ _ _ _ _ us hl => match us, hl with | [_], _ => rfl
  refine ⟨K, fd, sp_law K, X, fun s v => b s [v] rfl, fun H a ns hl _ hS => ⟨a, ns, rfl, hS, hl, fun _ => rfl⟩, fun base _ _ => ?_⟩
  exact ok_law_at T F
end Su
open PySem PySem.W PySem.Calls PyProof.Rows
theorem PySem.Challenge.cw_susu_k09_orders_counted_holds : PySem.Challenge.rw_susu_k09_orders_counted.Holds := by
  w_on; o_law
  refine HandSHeadRun.head_any (r := OpenLaw.row PySem.Challenge.rw_susu_k09_orders_counted) (q := view (OpenLaw.row PySem.Challenge.rw_susu_k09_orders_counted).prog [14]) (H := Su.hk) (ob := Su.ob) (M := 4000) (loose := Su.loose) (d := HandSHeadRun.topDef (OpenLaw.row PySem.Challenge.rw_susu_k09_orders_counted).prog 14) (kwd := []) Su.ob_eq
    Su.hd_e Su.hd_f Su.run Su.hd_def Su.hd_p Su.hd_k (by rfl) (by first | assumption | decide +kernel) Su.hd_ok ⟨rfl, rfl, rfl, rfl, rfl, by decide +kernel⟩ ?hw ?hc
  case hw => w_witness2
  case hc =>
    refine L2.walk_ofE (l := PySem.Challenge.rw_susu_k09_orders_counted) (n := 63) (k := 4) (x := "_law_script") (CX := L2.CX0) rfl (by decide) (by kernel_rfl) ⟨rfl, by decide, by decide⟩ ?F (fun _ _ _ _ z => z)
    intro w mg fa h Y G hmg0
    obtain ⟨K, KX, c⟩ := Y
    have hmg : mg ("law" : PySem.Str) = some (.ref fa) := by
      have e : (HandSHeadRun.topDef (OpenLaw.row PySem.Challenge.rw_susu_k09_orders_counted).prog 14).name = ("law" : PySem.Str) := by kernel_rfl
      rw [← e]
      exact hmg0
    exact Su.fin KX G hmg c
