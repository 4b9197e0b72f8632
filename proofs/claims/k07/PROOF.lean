import PyProof.Rows.All
import Wide.All
import OpenK.AllK
import Wide.FinOn
import KE.KStateDown
import Lean
import HandS.ForMost
import HandS.Exc
import HandS.TryOnly
import HandS.ExcOwn
import HandS.WordsExc
import HandS.ExcIs
import HandS.More
import HandS.Defaults
import HandS.IsInst
import HandS.Flow
import HandS.Steps
import HandS.Wide
import HandS.Deep
import HandS.Codes
import HandS.Zip
import HandS.Strs
import HandS.Conv
import HandS.SetFor
import HandS.SortInts
import HandS.Head0
import HandS.Head1
import HandS.Head2
import HandS.HeadEnd
import HandS.HeadHook1
import HandS.HeadHook2
import HandS.HeadHook3
import HandS.HeadHook4
import PySem.Challenge.RW_susu_k07_good_papers_let_by
set_option Elab.async false
set_option linter.all false
set_option maxRecDepth 100000
set_option maxHeartbeats 4000000
namespace Su
open PySem L2

abbrev rAdd : R2 := rI0 fun i j => .int (i + j)
abbrev rSub : R2 := rI0 fun i j => .int (i - j)
abbrev rMul : R2 := rI CMul fun i j => .int (i * j)
abbrev rDiv : R2 := rI CDiv fun i j => .int (i / j)
abbrev rMod : R2 := rI (fun _ j => 0 < j) fun i j => .int (i % j)
abbrev rPow : R2 := rI CPow fun i j => .int (i ^ j.toNat)
abbrev rLt : R2 := rI0 fun i j => .bl (decide (i < j))
abbrev rLe : R2 := rI0 fun i j => .bl (decide (i ≤ j))
abbrev rNeg : V → Hp → VK → Prop := rU fun i => .int (-i)
abbrev CR : Type := List V → Hp → VK → Prop
abbrev rLenSeq (K : PySem.W.Frag) : CR := fun xs H Q => ∃ p ys, xs = [.ref p] ∧ (SqL K H p ys ∨ SqT K H p ys) ∧ Q (.int ys.length) H
abbrev rAbs : CR := fun xs H Q => ∃ i, xs = [.int i] ∧ Q (.int (if i < 0 then -i else i)) H
abbrev rMax2 : CR := fun xs H Q => ∃ i j, xs = [.int i, .int j] ∧ Q (.int (if j > i then j else i)) H
abbrev rMin2 : CR := fun xs H Q => ∃ i j, xs = [.int i, .int j] ∧ Q (.int (if j < i then j else i)) H
abbrev rInt1 : CR := fun xs H Q => (∃ i, xs = [.int i] ∧ Q (.int i) H) ∨ ∃ k, xs = [.bl k] ∧ Q (.int (if k then 1 else 0)) H
abbrev rListOf (K : PySem.W.Frag) : CR := fun xs H Q => ∃ p ys, xs = [.ref p] ∧ (SqL K H p ys ∨ SqT K H p ys) ∧ ∀ l, H l = none → Q (.ref l) (upd H l (.lst ys))
abbrev MR : Type := V → List V → Hp → VK → Prop
abbrev rAppend : MR := fun x vs H Q => ∃ (l : Addr) (xs : List V) (y : V), x = .ref l ∧ vs = [y] ∧ H l = some (.lst xs) ∧ xs.length < sizeLine ∧ Q .non (upd H l (.lst (xs ++ [y])))
theorem b_len : bootBuiltins "len" = some (.builtin "len") := by decide +kernel
theorem b_abs : bootBuiltins "abs" = some (.builtin "abs") := by decide +kernel
theorem b_max : bootBuiltins "max" = some (.builtin "max") := by decide +kernel
theorem b_min : bootBuiltins "min" = some (.builtin "min") := by decide +kernel
theorem b_all : bootBuiltins "all" = some (.builtin "all") := by decide +kernel
theorem b_sorted : bootBuiltins "sorted" = some (.builtin "sorted") := by decide +kernel
theorem b_isinstance : bootBuiltins "isinstance" = some (.builtin "isinstance") := by decide +kernel
theorem b_int : bootBuiltins "int" = some (.type "int") := by decide +kernel
theorem b_bool : bootBuiltins "bool" = some (.type "bool") := by decide +kernel
theorem b_list : bootBuiltins "list" = some (.type "list") := by decide +kernel
theorem b_tuple : bootBuiltins "tuple" = some (.type "tuple") := by decide +kernel
theorem b_set : bootBuiltins "set" = some (.type "set") := by decide +kernel

/-- a def of the module that may be called by its name -/
structure Cl (P : Program) (w : World) (K : PySem.W.Frag) (mg : Str → Option Value) (base : Heap) (CX : CXT) (k : Nat) (x : Str) (sp : Sp) : Prop where
  ex : ∃ (f : Addr) (fd : FuncData) (ps : List Str), mg x = some (.ref f) ∧ PySem.W.keepIn K (.ref f) = true ∧ Binds K fd ps [] ∧ FnOk P w K mg base CX k f fd ps sp
section
variable {X : Cx} {CX : CXT} {k j : Nat} {x : Str} {sp : Sp} {E : XK} {e : Expr} {es : List Expr} {t : TA} {p pos : Pos}
theorem pe_cl (c : Cl X.prog X.w X.K X.mg X.base CX k x sp) (hr : Room j X.A) (hk : k ≤ j) (hg : Gl X x) (hx : Passes CX X E) (ha : PA X (e :: es) t)
    (hdb : (x == ("__debug__" : Str)) = false := by decide) (he : starEach (e :: es) X.env = (false, eval e X.env) :: starEach es X.env := by rfl) (hpl : (backTo pos (starEach es X.env)).any (·.1) = false := by rfl) : PE X (.Call (.Name x p) (e :: es) [] pos) (tCall sp [] E t) := by
  obtain ⟨f, fd, ps, h1, h2, h3, h4⟩ := c.ex
  exact pe_call h4 (hr.mono hk) hg h1 h2 h3 .nil hx ha hdb he hpl
end

/-! ### the readings, step by step -/
section
variable {K : PySem.W.Frag} {t1 t2 : TS} {te ta tb tc : TE} {tt tu : TT} {a1 a2 : TA} {D : Ends} {σ : St} {H : Hp} {Q : VK} {Qb : Bool → Hp → Prop} {Qa : List V → Hp → Prop} {g : TG} {v w x y : V} {n i : Nat}
theorem x_seq (h : t1 { D with nx := t2 D } σ H) : tSeq t1 t2 D σ H := h
theorem x_next (h : D.nx σ H) : tNext D σ H := h
theorem x_ret (h : te σ H D.rt) : tRet te D σ H := h
theorem x_drop (h : te σ H fun _ H1 => D.nx σ H1) : tDrop te D σ H := h
theorem x_asg (h : te σ H fun x H1 => g x σ H1 D.nx) : tAsg te g D σ H := h
theorem x_gname {Qs : St → Hp → Prop} (h : Qs (σ.set i (some v)) H) : gName i v σ H Qs := h
theorem x_ifS (h : tt σ H fun b H1 => if b = true then t1 D σ H1 else t2 D σ H1) : tIfS tt t1 t2 D σ H := h
theorem x_var (e : σ[i]? = some (some v)) (h : Q v H) : tVar i σ H Q := ⟨v, e, h⟩
theorem x_c (h : Q v H) : tC v σ H Q := h
theorem x_op {r : R2} (h : ta σ H fun x H1 => tb σ H1 fun y H2 => r x y H2 Q) : tOp r ta tb σ H Q := h
theorem x_un {r : V → Hp → VK → Prop} (h : ta σ H fun x H1 => r x H1 Q) : tUn r ta σ H Q := h
theorem x_rU {g : Int → V} {i : Int} (h : Q (g i) H) : rU g (.int i) H Q := ⟨i, rfl, h⟩
theorem x_rI0 {g : Int → Int → V} {i j : Int} (h : Q (g i j) H) : rI0 g (.int i) (.int j) H Q := ⟨i, j, rfl, rfl, h⟩
theorem x_rI {C : Int → Int → Prop} {g : Int → Int → V} {i j : Int} (c : C i j) (h : Q (g i j) H) : rI C g (.int i) (.int j) H Q := ⟨i, j, rfl, rfl, c, h⟩
theorem x_eqI {i j : Int} (h : Q (.bl (decide (i = j))) H) : rEq (.int i) (.int j) H Q := ⟨rfl, by
  have e : decide (V.int i = V.int j) = decide (i = j) := by simp
  rw [e]; exact h⟩
theorem x_neI {i j : Int} (h : Q (.bl (!decide (i = j))) H) : rNe (.int i) (.int j) H Q := ⟨rfl, by
  have e : decide (V.int i = V.int j) = decide (i = j) := by simp
  rw [e]; exact h⟩
theorem x_eqS {i j : Str} (h : Q (.bl (decide (i = j))) H) : rEq (.str i) (.str j) H Q := ⟨rfl, by
  have e : decide (V.str i = V.str j) = decide (i = j) := by simp
  rw [e]; exact h⟩
theorem x_neS {i j : Str} (h : Q (.bl (!decide (i = j))) H) : rNe (.str i) (.str j) H Q := ⟨rfl, by
  have e : decide (V.str i = V.str j) = decide (i = j) := by simp
  rw [e]; exact h⟩
theorem x_eqB {i j : Bool} (h : Q (.bl (decide (i = j))) H) : rEq (.bl i) (.bl j) H Q := ⟨rfl, by
  have e : decide (V.bl i = V.bl j) = decide (i = j) := by simp
  rw [e]; exact h⟩
theorem x_neB {i j : Bool} (h : Q (.bl (!decide (i = j))) H) : rNe (.bl i) (.bl j) H Q := ⟨rfl, by
  have e : decide (V.bl i = V.bl j) = decide (i = j) := by simp
  rw [e]; exact h⟩
theorem x_test (h : te σ H fun x H' => ∃ k, x = .bl k ∧ Qb k H') : tTest te σ H Qb := h
theorem x_tB (h : te σ H fun x H' => ∃ k, x = .bl k ∧ Qb k H') : tB te σ H Qb := h
theorem x_isB {k : Bool} (h : Qb k H) : ∃ k', V.bl k = .bl k' ∧ Qb k' H := ⟨k, rfl, h⟩
theorem x_isB' {k : Bool} {P : Bool → Prop} (h : P k) : ∃ k', V.bl k = .bl k' ∧ P k' := ⟨k, rfl, h⟩
theorem x_not (h : tt σ H fun c H1 => Qb (!c) H1) : tNot tt σ H Qb := h
theorem x_and (h : tt σ H fun c H1 => if c = true then tu σ H1 Qb else Qb false H1) : tAnd tt tu σ H Qb := h
theorem x_or (h : tt σ H fun c H1 => if c = true then Qb true H1 else tu σ H1 Qb) : tOr tt tu σ H Qb := h
theorem x_andV (h : ta σ H fun x H1 => ∃ c, x = .bl c ∧ if c = true then tb σ H1 Q else Q (.bl false) H1) : tAndV ta tb σ H Q := h
theorem x_orV (h : ta σ H fun x H1 => ∃ c, x = .bl c ∧ if c = true then Q (.bl true) H1 else tb σ H1 Q) : tOrV ta tb σ H Q := h
theorem x_notV (h : ta σ H fun x H1 => ∃ c, x = .bl c ∧ Q (.bl (!c)) H1) : tNotV ta σ H Q := h
theorem x_chain {r r' : R2} (h : ta σ H fun x H1 => tb σ H1 fun y H2 => r x y H2 fun z H3 => ∃ k, z = .bl k ∧ (if k = true then tc σ H3 fun w' H4 => r' y w' H4 Q else Q (.bl false) H3)) : tChain r r' ta tb tc σ H Q := h
theorem x_nil (h : Qa [] H) : tNil σ H Qa := h
theorem x_cons (h : ta σ H fun x H1 => a1 σ H1 fun xs H2 => Qa (x :: xs) H2) : tCons ta a1 σ H Qa := h
theorem x_cb {r : CR} (h : a1 σ H fun vs H1 => r vs H1 Q) : tCB r a1 σ H Q := h
theorem x_call {sp : Sp} {E : XK} (h : a1 σ H fun vs H1 => sp (vs ++ []) H1 Q E) : tCall sp [] E a1 σ H Q := h
def AlL (Q : VK) (xs : List V) (H : Hp) : Prop := xs.length ≤ sizeLine ∧ ∀ p, H p = none → Q (.ref p) (upd H p (.lst xs))
def AlT (Q : VK) (xs : List V) (H : Hp) : Prop := xs.length ≤ sizeLine ∧ ∀ p, H p = none → Q (.ref p) (upd H p (.tup xs))
theorem x_lst (h : a1 σ H (AlL Q)) : tLst a1 σ H Q := h
theorem x_tup (h : a1 σ H (AlT Q)) : tTup a1 σ H Q := h
theorem x_abs {i : Int} (h : Q (.int (if i < 0 then -i else i)) H) : rAbs [.int i] H Q := ⟨i, rfl, h⟩
theorem x_max2 {i j : Int} (h : Q (.int (if j > i then j else i)) H) : rMax2 [.int i, .int j] H Q := ⟨i, j, rfl, h⟩
theorem x_min2 {i j : Int} (h : Q (.int (if j < i then j else i)) H) : rMin2 [.int i, .int j] H Q := ⟨i, j, rfl, h⟩
theorem x_int1 {i : Int} (h : Q (.int i) H) : rInt1 [.int i] H Q := .inl ⟨i, rfl, h⟩
theorem x_intB {k : Bool} (h : Q (.int (if k then 1 else 0)) H) : rInt1 [.bl k] H Q := .inr ⟨k, rfl, h⟩
theorem x_lenL {p : Addr} {ys : List V} (e : SqL K H p ys) (h : Q (.int ys.length) H) : rLenSeq K [.ref p] H Q := ⟨p, ys, rfl, .inl e, h⟩
theorem x_lenT {p : Addr} {ys : List V} (e : SqT K H p ys) (h : Q (.int ys.length) H) : rLenSeq K [.ref p] H Q := ⟨p, ys, rfl, .inr e, h⟩
theorem x_ixL {p : Addr} {xs : List V} {i : Int} (e : SqL K H p xs) (z : atI xs i = some v) (h : Q v H) : rIxL K (.ref p) (.int i) H Q := ⟨p, xs, i, v, rfl, rfl, e, z, h⟩
theorem x_ixT {p : Addr} {xs : List V} {i : Int} (e : SqT K H p xs) (z : atI xs i = some v) (h : Q v H) : rIxT K (.ref p) (.int i) H Q := ⟨p, xs, i, v, rfl, rfl, e, z, h⟩
theorem x_append {p : Addr} {xs : List V} (e : H p = some (.lst xs)) (z : xs.length < sizeLine) (h : Q .non (upd H p (.lst (xs ++ [v])))) : rAppend (.ref p) [v] H Q := ⟨p, xs, v, rfl, rfl, e, z, h⟩
theorem x_bmL {r : MR} {to : TE} (h : to σ H fun x H1 => tyV K "list" x H1 ∧ a1 σ H1 fun xs H2 => r x xs H2 Q) : tBM K "list" r to a1 σ H Q := h
theorem tyL {p : Addr} {xs : List V} (e : SqL K H p xs) : tyV K "list" (.ref p) H := .inl ⟨rfl, _, e⟩
theorem SqL.of {p : Addr} {xs : List V} (e : H p = some (.lst xs)) : SqL K H p xs := .inl (.inl e)
theorem SqT.of {p : Addr} {xs : List V} (e : H p = some (.tup xs)) : SqT K H p xs := .inl (.inl e)
theorem x_listOf {p : Addr} {ys : List V} (e : SqL K H p ys) (h : ∀ l, H l = none → Q (.ref l) (upd H l (.lst ys))) : rListOf K [.ref p] H Q := ⟨p, ys, rfl, .inl e, h⟩
theorem x_isi {c : V} {t u : Value} {b : Bool} (h1 : ClsV c u) (h2 : TyX K H x t) (h3 : PySem.W.kitOne K t u = some b) (h : Q (.bl b) H) : rIsi K [x, c] H Q := ⟨x, c, t, u, b, rfl, h1, h2, h3, h⟩
theorem x_ite {b : Bool} {A B : Prop} (h1 : b = true → A) (h2 : b = false → B) : if b = true then A else B := by
  cases b
  · exact (if_neg Bool.false_ne_true).symm ▸ h2 rfl
  · exact (if_pos rfl).symm ▸ h1 rfl
theorem x_iteD {c A B : Prop} {inst : Decidable c} (h1 : c → A) (h2 : ¬ c → B) : if decide c = true then A else B := x_ite (fun e => h1 (of_decide_eq_true e)) (fun e => h2 (of_decide_eq_false e))
theorem x_iteN {c A B : Prop} {inst : Decidable c} (h1 : ¬ c → A) (h2 : c → B) : if (!decide c) = true then A else B := x_ite (fun e => h1 (by simpa using e)) (fun e => h2 (by simpa using e))
theorem x_whileN {tb : TS} {W : Nat → St → Hp → Prop} {m : Nat} (h : tb { D with nx := (fun σ' H' => ∃ m', m' < m ∧ W m' σ' H'), ct := (fun σ' H' => ∃ m', m' < m ∧ W m' σ' H'), bk := D.nx } σ H) :
    ∃ N : St → Hp → Prop, (∀ σ' H', N σ' H' → ∃ m', m' < m ∧ W m' σ' H') ∧ tb { D with nx := N, ct := N, bk := D.nx } σ H := ⟨_, fun _ _ h => h, h⟩
theorem x_for {wi : TI} {tb : TS} (h : wi σ H fun J H1 => ∃ W : Nat → Nat → St → Hp → Prop, (∃ m, W 0 m σ H1) ∧ ∀ i m σ H, W i m σ H →
    (J.stop i H ∧ D.nx σ H) ∨ (J.go i H ∧ ∃ N : St → Hp → Prop, (∀ σ' H', N σ' H' → ∃ m', m' < m ∧ W (i + 1) m' σ' H') ∧ ∀ x H', J.yld i H x H' → g x σ H' fun σ2 H2 => tb { D with nx := N, ct := N, bk := D.nx } σ2 H2)) : tFor wi g tb D σ H := h
theorem x_iList {R : It → Hp → Prop} (h : te σ H fun x H1 => ∃ a, x = .ref a ∧ (∃ xs, SqL K H1 a xs) ∧ R (Itl K a) H1) : iList K te σ H R := h
theorem x_iRng1 {R : It → Hp → Prop} (h : a1 σ H fun vs H1 => ∃ j : Int, vs = [.int j] ∧ -(2 ^ 62) ≤ j ∧ j < 2 ^ 62 ∧ R (Itr 0 j.toNat) H1) : iRng1 a1 σ H R := h
theorem x_iRng2 {R : It → Hp → Prop} (h : a1 σ H fun vs H1 => ∃ i j : Int, vs = [.int i, .int j] ∧ (-(2 ^ 62) ≤ i ∧ i < 2 ^ 62 ∧ -(2 ^ 62) ≤ j ∧ j < 2 ^ 62) ∧ R (Itr i (j - i).toNat) H1) : iRng2 a1 σ H R := h
theorem x_rGt {i j : Int} (h : Q (.bl (decide (j < i))) H) : rGt (.int i) (.int j) H Q := ⟨i, j, rfl, rfl, h⟩
theorem x_rGe {i j : Int} (h : Q (.bl (decide (j ≤ i))) H) : rGe (.int i) (.int j) H Q := ⟨i, j, rfl, rfl, h⟩
theorem x_iteF {A B : Prop} (h : B) : if false = true then A else B := iteF h
theorem x_iteT {A B : Prop} (h : A) : if true = true then A else B := iteT h
theorem x_iteNT {A B : Prop} (h : B) : if (!true) = true then A else B := iteF h
theorem x_iteNF {A B : Prop} (h : A) : if (!false) = true then A else B := iteT h
theorem small {n : Nat} (h : n ≤ 100000) : n < sizeLine := Nat.lt_of_le_of_lt h (by rw [sizeLine_eq]; decide)
theorem at_get {α : Type} {xs : List α} {i : Int} {d : α} (h0 : 0 ≤ i) (h1 : i < xs.length) : atI xs i = some (xs.getD i.toNat d) := by
  have h2 : i.toNat < xs.length := by omega
  unfold atI ixN
  rw [if_pos h0, if_pos h1]
  show xs[i.toNat]? = _
  rw [List.getElem?_eq_getElem h2, List.getD_eq_getElem?_getD, List.getElem?_eq_getElem h2]
  rfl
theorem at_getI {xs : List Int} {i : Int} (h0 : 0 ≤ i) (h1 : i < xs.length) : atI (xs.map V.int) i = some (.int (xs.getD i.toNat 0)) := by
  have h2 : i.toNat < xs.length := by omega
  rw [at_get (d := .int 0) h0 (by rw [List.length_map]; exact h1), List.getD_eq_getElem?_getD, List.getD_eq_getElem?_getD, List.getElem?_map, List.getElem?_eq_getElem h2]
  rfl
theorem x_ixI {p : Addr} {xs : List Int} {i : Int} (e : H p = some (.lst (xs.map V.int))) (h0 : 0 ≤ i) (h1 : i < xs.length) (h : Q (.int (xs.getD i.toNat 0)) H) : rIxL K (.ref p) (.int i) H Q := x_ixL (SqL.of e) (at_getI h0 h1) h
theorem x_cut {t u : TS} (M : St → Hp → Prop) (h : t { D with nx := M } σ H) (k : ∀ σ' H', M σ' H' → u D σ' H') : C8.tCut t u D σ H := ⟨M, h, k⟩
theorem kt_int_int : kitB "int" "int" = some true := by decide +kernel
theorem kt_int_bool : kitB "int" "bool" = some false := by decide +kernel
theorem kt_int_str : kitB "int" "str" = some false := by decide +kernel
theorem kt_int_list : kitB "int" "list" = some false := by decide +kernel
theorem kt_int_tuple : kitB "int" "tuple" = some false := by decide +kernel
theorem kt_bool_int : kitB "bool" "int" = some true := by decide +kernel
theorem kt_bool_bool : kitB "bool" "bool" = some true := by decide +kernel
theorem kt_bool_str : kitB "bool" "str" = some false := by decide +kernel
theorem kt_bool_list : kitB "bool" "list" = some false := by decide +kernel
theorem kt_bool_tuple : kitB "bool" "tuple" = some false := by decide +kernel
theorem kt_str_int : kitB "str" "int" = some false := by decide +kernel
theorem kt_str_bool : kitB "str" "bool" = some false := by decide +kernel
theorem kt_str_str : kitB "str" "str" = some true := by decide +kernel
theorem kt_str_list : kitB "str" "list" = some false := by decide +kernel
theorem kt_str_tuple : kitB "str" "tuple" = some false := by decide +kernel
theorem kt_NoneType_int : kitB "NoneType" "int" = some false := by decide +kernel
theorem kt_NoneType_bool : kitB "NoneType" "bool" = some false := by decide +kernel
theorem kt_NoneType_str : kitB "NoneType" "str" = some false := by decide +kernel
theorem kt_NoneType_list : kitB "NoneType" "list" = some false := by decide +kernel
theorem kt_NoneType_tuple : kitB "NoneType" "tuple" = some false := by decide +kernel
theorem kt_list_list : kitB "list" "list" = some true := by decide +kernel
theorem kt_tuple_tuple : kitB "tuple" "tuple" = some true := by decide +kernel
theorem ty_lst {a : Addr} {xs : List V} (e : SqL K H a xs) : TyX K H (.ref a) (.type "list") := by
  rcases e with (h | ⟨o, h⟩) | ⟨o, n, us, h1, h2, h3, _⟩
  · exact .base (.lst h)
  · exact .base (.frz h)
  · exact .kList h1 h2
theorem ty_tup {a : Addr} {xs : List V} (e : SqT K H a xs) : TyX K H (.ref a) (.type "tuple") := by
  rcases e with (h | ⟨o, h⟩) | ⟨o, n, us, h1, h2, h3, _⟩
  · exact .base (.tup h)
  · exact .fTuple h
  · exact .kTuple h1 h2
theorem x_isi_int_int {i : Int} (q : Q (.bl true) H) : rIsi K [(.int i), .ty "int"] H Q := x_isi (.ty _) (.base (.int _)) (kit_ty kt_int_int) q
theorem x_isi_int_bool {i : Int} (q : Q (.bl false) H) : rIsi K [(.int i), .ty "bool"] H Q := x_isi (.ty _) (.base (.int _)) (kit_ty kt_int_bool) q
theorem x_isi_int_str {i : Int} (q : Q (.bl false) H) : rIsi K [(.int i), .ty "str"] H Q := x_isi (.ty _) (.base (.int _)) (kit_ty kt_int_str) q
theorem x_isi_int_list {i : Int} (q : Q (.bl false) H) : rIsi K [(.int i), .ty "list"] H Q := x_isi (.ty _) (.base (.int _)) (kit_ty kt_int_list) q
theorem x_isi_int_tuple {i : Int} (q : Q (.bl false) H) : rIsi K [(.int i), .ty "tuple"] H Q := x_isi (.ty _) (.base (.int _)) (kit_ty kt_int_tuple) q
theorem x_isi_bool_int {i : Bool} (q : Q (.bl true) H) : rIsi K [(.bl i), .ty "int"] H Q := x_isi (.ty _) (.base (.bl _)) (kit_ty kt_bool_int) q
theorem x_isi_bool_bool {i : Bool} (q : Q (.bl true) H) : rIsi K [(.bl i), .ty "bool"] H Q := x_isi (.ty _) (.base (.bl _)) (kit_ty kt_bool_bool) q
theorem x_isi_bool_str {i : Bool} (q : Q (.bl false) H) : rIsi K [(.bl i), .ty "str"] H Q := x_isi (.ty _) (.base (.bl _)) (kit_ty kt_bool_str) q
theorem x_isi_bool_list {i : Bool} (q : Q (.bl false) H) : rIsi K [(.bl i), .ty "list"] H Q := x_isi (.ty _) (.base (.bl _)) (kit_ty kt_bool_list) q
theorem x_isi_bool_tuple {i : Bool} (q : Q (.bl false) H) : rIsi K [(.bl i), .ty "tuple"] H Q := x_isi (.ty _) (.base (.bl _)) (kit_ty kt_bool_tuple) q
theorem x_isi_str_int {i : Str} (q : Q (.bl false) H) : rIsi K [(.str i), .ty "int"] H Q := x_isi (.ty _) (.base (.str _)) (kit_ty kt_str_int) q
theorem x_isi_str_bool {i : Str} (q : Q (.bl false) H) : rIsi K [(.str i), .ty "bool"] H Q := x_isi (.ty _) (.base (.str _)) (kit_ty kt_str_bool) q
theorem x_isi_str_str {i : Str} (q : Q (.bl true) H) : rIsi K [(.str i), .ty "str"] H Q := x_isi (.ty _) (.base (.str _)) (kit_ty kt_str_str) q
theorem x_isi_str_list {i : Str} (q : Q (.bl false) H) : rIsi K [(.str i), .ty "list"] H Q := x_isi (.ty _) (.base (.str _)) (kit_ty kt_str_list) q
theorem x_isi_str_tuple {i : Str} (q : Q (.bl false) H) : rIsi K [(.str i), .ty "tuple"] H Q := x_isi (.ty _) (.base (.str _)) (kit_ty kt_str_tuple) q
theorem x_isi_NoneType_int (q : Q (.bl false) H) : rIsi K [.non, .ty "int"] H Q := x_isi (.ty _) (.base .non) (kit_ty kt_NoneType_int) q
theorem x_isi_NoneType_bool (q : Q (.bl false) H) : rIsi K [.non, .ty "bool"] H Q := x_isi (.ty _) (.base .non) (kit_ty kt_NoneType_bool) q
theorem x_isi_NoneType_str (q : Q (.bl false) H) : rIsi K [.non, .ty "str"] H Q := x_isi (.ty _) (.base .non) (kit_ty kt_NoneType_str) q
theorem x_isi_NoneType_list (q : Q (.bl false) H) : rIsi K [.non, .ty "list"] H Q := x_isi (.ty _) (.base .non) (kit_ty kt_NoneType_list) q
theorem x_isi_NoneType_tuple (q : Q (.bl false) H) : rIsi K [.non, .ty "tuple"] H Q := x_isi (.ty _) (.base .non) (kit_ty kt_NoneType_tuple) q
theorem isi_list_list {a : Addr} {xs : List V} (e : SqL K H a xs) (q : Q (.bl true) H) : rIsi K [.ref a, .ty "list"] H Q := x_isi (.ty _) (ty_lst e) (kit_ty kt_list_list) q
theorem isi_tuple_tuple {a : Addr} {xs : List V} (e : SqT K H a xs) (q : Q (.bl true) H) : rIsi K [.ref a, .ty "tuple"] H Q := x_isi (.ty _) (ty_tup e) (kit_ty kt_tuple_tuple) q
theorem same_upd {H0 H1 : Hp} {p : Addr} {o : HO} (h : Same H0 H1) (n : H0 p = none) : Same H0 (upd H1 p o) := fun b q e => by rw [upd_ne (ne_of_none e n)]; exact h b q e
theorem same_new {H0 H1 : Hp} {p : Addr} {o : HO} (h : Same H0 H1) (n : H1 p = none) : Same H0 (L2.upd H1 p o) := same_upd h (h.free n)
theorem al_lst {xs : List V} (h : ∀ p H', H p = none → Same H H' → H' p = some (.lst xs) → Q (.ref p) H') (h0 : Nat.ble xs.length 100000 = true := by rfl) : AlL Q xs H := ⟨Nat.le_of_lt (small (Nat.le_of_ble_eq_true h0)), fun p n => h p _ n (same_new (Same.refl H) n) upd_same⟩
theorem al_tup {xs : List V} (h : ∀ p H', H p = none → Same H H' → H' p = some (.tup xs) → Q (.ref p) H') (h0 : Nat.ble xs.length 100000 = true := by rfl) : AlT Q xs H := ⟨Nat.le_of_lt (small (Nat.le_of_ble_eq_true h0)), fun p n => h p _ n (same_new (Same.refl H) n) upd_same⟩
theorem al_list {p : Addr} {ys : List V} (e : SqL K H p ys) (h : ∀ p H', H p = none → Same H H' → H' p = some (.lst ys) → Q (.ref p) H') : rListOf K [.ref p] H Q := x_listOf e fun p n => h p _ n (same_new (Same.refl H) n) upd_same
end
/-! ### turns of a walk -/
structure Turns (J : It) (n : Nat) (ok : Hp → Prop) (item : Nat → V → Hp → Hp → Prop) : Prop where
  go : ∀ i H, i < n → ok H → J.go i H
  yld : ∀ i H x H', i < n → ok H → J.yld i H x H' → item i x H H'
  stop : ∀ H, ok H → J.stop n H
section
variable {K : PySem.W.Frag} {J : It} {n : Nat} {ok : Hp → Prop} {item : Nat → V → Hp → Hp → Prop} {g : TG} {tb : TS} {D : Ends} {σ : St} {H : Hp}
theorem for_by (T : Turns J n ok item) (Pv : Nat → St → Hp → Prop) (h0 : Pv 0 σ H) (hok : ∀ i σ H, i ≤ n → Pv i σ H → ok H)
    (hs : ∀ i x σ H H', i < n → Pv i σ H → item i x H H' → g x σ H' fun σ2 H2 => tb { D with nx := Pv (i + 1), ct := Pv (i + 1), bk := D.nx } σ2 H2) (hd : ∀ σ H, Pv n σ H → D.nx σ H) :
    ∃ W : Nat → Nat → St → Hp → Prop, (∃ m, W 0 m σ H) ∧ ∀ i m σ H, W i m σ H →
      (J.stop i H ∧ D.nx σ H) ∨ (J.go i H ∧ ∃ N : St → Hp → Prop, (∀ σ' H', N σ' H' → ∃ m', m' < m ∧ W (i + 1) m' σ' H') ∧ ∀ v H', J.yld i H v H' → g v σ H' fun σ2 H2 => tb { D with nx := N, ct := N, bk := D.nx } σ2 H2) := by
  refine ⟨fun i m σ H => m = n - i ∧ i ≤ n ∧ Pv i σ H, ⟨n, rfl, Nat.zero_le _, h0⟩, ?_⟩
  rintro i m σ H ⟨rfl, hi, p⟩
  have q := hok i σ H hi p
  by_cases hlt : i < n
  · exact .inr ⟨T.go i H hlt q, Pv (i + 1), fun σ' H' p' => ⟨n - (i + 1), by omega, rfl, hlt, p'⟩, fun v H' y => hs i v σ H H' hlt p (T.yld i H v H' hlt q y)⟩
  · have e : i = n := by omega
    subst e
    exact .inl ⟨T.stop H q, hd σ H p⟩
variable {tt : TT} {te : TE} {vs : List Nat} {H1 : Hp} {A : Addr} {Qd : Hp → Prop}
theorem lc_by (T : Turns J n ok item) (Pv : Nat → Hp → Prop) (h0 : Pv 0 (upd H1 A (.lst []))) (hok : ∀ i H, i ≤ n → Pv i H → ok H)
    (hs : ∀ i x H H', i < n → Pv i H → item i x H H' → g x (wipe σ vs) H' fun σ2 H2 => wipe σ2 vs = wipe σ vs ∧ tt σ2 H2 fun b H3 =>
      if b = true then te σ2 H3 fun y H4 => ∃ acc, H4 A = some (.lst acc) ∧ acc.length < sizeLine ∧ Pv (i + 1) (upd H4 A (.lst (acc ++ [y]))) else Pv (i + 1) H3) (hd : ∀ H, Pv n H → Qd H) :
    ∃ W : Nat → Nat → Hp → Prop, (∃ m, W 0 m (upd H1 A (.lst []))) ∧ ∀ i m H, W i m H →
      (J.stop i H ∧ Qd H) ∨ (J.go i H ∧ ∃ Nx : Hp → Prop, (∀ H', Nx H' → ∃ m', m' < m ∧ W (i + 1) m' H') ∧ ∀ x H', J.yld i H x H' → g x (wipe σ vs) H' fun σ2 H2 => wipe σ2 vs = wipe σ vs ∧ tt σ2 H2 fun b H3 =>
        if b = true then te σ2 H3 fun y H4 => ∃ acc, H4 A = some (.lst acc) ∧ acc.length < sizeLine ∧ Nx (upd H4 A (.lst (acc ++ [y]))) else Nx H3) := by
  refine ⟨fun i m H => m = n - i ∧ i ≤ n ∧ Pv i H, ⟨n, rfl, Nat.zero_le _, h0⟩, ?_⟩
  rintro i m H ⟨rfl, hi, p⟩
  have q := hok i H hi p
  by_cases hlt : i < n
  · exact .inr ⟨T.go i H hlt q, Pv (i + 1), fun H' p' => ⟨n - (i + 1), by omega, rfl, hlt, p'⟩, fun v H' y => hs i v H H' hlt p (T.yld i H v H' hlt q y)⟩
  · have e : i = n := by omega
    subst e
    exact .inl ⟨T.stop H q, hd H p⟩
theorem turnsL {a : Addr} {xs : List V} : Turns (Itl K a) xs.length (fun H => SqL K H a xs) (fun i x H H' => H = H' ∧ xs[i]? = some x) where
  go := fun i H hi q => ⟨xs, xs[i], q, List.getElem?_eq_getElem hi⟩
  yld := fun i H x H' _ q y => ⟨y.1.symm, y.2 xs q⟩
  stop := fun H q => ⟨xs, q, Nat.le_refl _⟩
theorem turnsR {lo : Int} {n : Nat} : Turns (Itr lo n) n (fun _ => True) (fun i x H H' => H = H' ∧ x = .int (lo + i)) where
  go := fun i H hi _ => hi
  yld := fun i H x H' _ _ y => ⟨y.1.symm, y.2⟩
  stop := fun H _ => Nat.le_refl _
/-- a new pair stands at T -/
def Pair (x y : V) (v : V) (H H' : Hp) : Prop := ∃ T, v = .ref T ∧ H T = none ∧ Same H H' ∧ H' T = some (.tup [x, y]) ∧ ∀ b, b ≠ T → H' b = H b
theorem pair_mk {x y : V} {T : Addr} (h : H T = none) : Pair x y (.ref T) H (upd H T (.tup [x, y])) := ⟨T, rfl, h, same_new (Same.refl H) h, upd_same, fun b hb => upd_ne hb⟩
theorem turnsE {a : Addr} {xs : List V} : Turns (Ite K a) xs.length (fun H => SqL K H a xs) (fun i v H H' => ∃ x, xs[i]? = some x ∧ Pair (.int (i : Nat)) x v H H') where
  go := fun i H hi q => ⟨xs, xs[i], q, List.getElem?_eq_getElem hi⟩
  yld := fun i H v H' _ q y => by
    obtain ⟨T, x, rfl, hT, rfl, f⟩ := y
    exact ⟨x, f xs q, pair_mk hT⟩
  stop := fun H q => ⟨xs, q, Nat.le_refl _⟩
/-! ### a comprehension of flat values -/
structure LcF (H1 : Hp) (A : Addr) (f : Nat → Option V) (i : Nat) (H : Hp) : Prop where
  s : Same H1 H
  o : H A = some (.lst ((List.range i).filterMap f))
theorem lcF_len (f : Nat → Option V) (i : Nat) : ((List.range i).filterMap f).length ≤ i := by
  have := List.length_filterMap_le f (List.range i)
  rwa [List.length_range] at this
theorem LcF.keep {f : Nat → Option V} {i : Nat} {Hc H4 : Hp} {y : V} (h : LcF H1 A f i Hc) (n : H1 A = none) (s : Same Hc H4) (hf : f i = some y) (hi : i ≤ 100000) :
    ∃ acc, H4 A = some (.lst acc) ∧ acc.length < sizeLine ∧ LcF H1 A f (i + 1) (upd H4 A (.lst (acc ++ [y]))) := by
  refine ⟨_, s _ _ h.o, small (Nat.le_trans (lcF_len f i) hi), same_upd (h.s.trans s) n, ?_⟩
  rw [upd_same, List.range_succ, List.filterMap_append]
  simp [hf]
theorem lc_flat (f : Nat → Option V) (T : Turns J n ok item) (hok : ∀ H', Same H1 H' → ok H') (hn : H1 A = none)
    (hs : ∀ i x Hc H', i < n → LcF H1 A f i Hc → item i x Hc H' → g x (wipe σ vs) H' fun σ2 H2 => wipe σ2 vs = wipe σ vs ∧ tt σ2 H2 fun b H3 =>
      if b = true then te σ2 H3 fun y H4 => ∃ acc, H4 A = some (.lst acc) ∧ acc.length < sizeLine ∧ LcF H1 A f (i + 1) (upd H4 A (.lst (acc ++ [y]))) else LcF H1 A f (i + 1) H3)
    (hd : ∀ H, Same H1 H → H A = some (.lst ((List.range n).filterMap f)) → Qd H) :
    ∃ W : Nat → Nat → Hp → Prop, (∃ m, W 0 m (upd H1 A (.lst []))) ∧ ∀ i m H, W i m H →
      (J.stop i H ∧ Qd H) ∨ (J.go i H ∧ ∃ Nx : Hp → Prop, (∀ H', Nx H' → ∃ m', m' < m ∧ W (i + 1) m' H') ∧ ∀ x H', J.yld i H x H' → g x (wipe σ vs) H' fun σ2 H2 => wipe σ2 vs = wipe σ vs ∧ tt σ2 H2 fun b H3 =>
        if b = true then te σ2 H3 fun y H4 => ∃ acc, H4 A = some (.lst acc) ∧ acc.length < sizeLine ∧ Nx (upd H4 A (.lst (acc ++ [y]))) else Nx H3) :=
  lc_by T (LcF H1 A f) ⟨same_new (Same.refl H1) hn, upd_same⟩ (fun i H _ p => hok H p.s) hs (fun H p => hd H p.s p.o)
end

/-! ### data -/
section
variable {K : PySem.W.Frag} {H H' : Hp}
theorem seqT_same {a : Addr} {xs : List V} (e : Same H H') (h : SqT K H a xs) : SqT K H' a xs := by
  rcases h with (h | ⟨o, h⟩) | h
  · exact .inl (.inl (e _ _ h))
  · exact .inl (.inr ⟨o, e _ _ h⟩)
  · exact .inr h
mutual
theorem dp_same (e : Same H H') : ∀ {v : V} {d : PyData}, Dp K H v d → Dp K H' v d
  | _, _, .non => .non
  | _, _, .bl b => .bl b
  | _, _, .int i => .int i
  | _, _, .str x => .str x
  | _, _, .lst h a => .lst (e.seq h) (dpAll_same e a)
  | _, _, .tup h a => .tup (seqT_same e h) (dpAll_same e a)
theorem dpAll_same (e : Same H H') : ∀ {vs : List V} {ds : List PyData}, DpAll K H vs ds → DpAll K H' vs ds
  | _, _, .nil => .nil
  | _, _, .cons a b => .cons (dp_same e a) (dpAll_same e b)
end
theorem dpAll_len : ∀ {vs : List V} {ds : List PyData}, DpAll K H vs ds → vs.length = ds.length
  | _, _, .nil => rfl
  | _, _, .cons _ b => congrArg Nat.succ (dpAll_len b)
theorem dpAll_get : ∀ {vs : List V} {ds : List PyData} {i : Nat} {v : V}, DpAll K H vs ds → vs[i]? = some v → ∃ d, ds[i]? = some d ∧ Dp K H v d
  | _, _, i, _, .nil, e => by simp at e
  | _, _, 0, _, .cons a _, e => by simp at e; subst e; exact ⟨_, rfl, a⟩
  | _, _, i + 1, _, .cons _ b, e => by
    obtain ⟨d, h1, h2⟩ := dpAll_get (i := i) b (by simpa using e)
    exact ⟨d, by simpa using h1, h2⟩
theorem dpAll_snoc : ∀ {vs : List V} {ds : List PyData} {v : V} {d : PyData}, DpAll K H vs ds → Dp K H v d → DpAll K H (vs ++ [v]) (ds ++ [d])
  | _, _, _, _, .nil, h => .cons h .nil
  | _, _, _, _, .cons a b, h => .cons a (dpAll_snoc b h)
theorem dp_int {v : V} {i : Int} (h : Dp K H v (.int i)) : v = .int i := by cases h; rfl
theorem dp_lst {v : V} {ds : List PyData} (h : Dp K H v (.list ds)) : ∃ a xs, v = .ref a ∧ SqL K H a xs ∧ DpAll K H xs ds := by cases h with | lst a b => exact ⟨_, _, rfl, a, b⟩
theorem dp_tup {v : V} {ds : List PyData} (h : Dp K H v (.tuple ds)) : ∃ a xs, v = .ref a ∧ SqT K H a xs ∧ DpAll K H xs ds := by cases h with | tup a b => exact ⟨_, _, rfl, a, b⟩
theorem ints_dpAll : ∀ (ns : List Int), DpAll K H (ns.map V.int) (ns.map .int)
  | [] => .nil
  | n :: ns => .cons (.int n) (ints_dpAll ns)
theorem dp_pair {v : V} {i j : Int} (h : Dp K H v (.tuple [.int i, .int j])) : ∃ a, v = .ref a ∧ SqT K H a [.int i, .int j] := by
  obtain ⟨a, xs, rfl, h1, h2⟩ := dp_tup h
  cases h2 with
  | cons p h3 => cases h3 with
    | cons q h4 =>
      cases h4
      cases dp_int p; cases dp_int q
      exact ⟨a, rfl, h1⟩
theorem pair_dp {a : Addr} {i j : Int} (h : SqT K H a [.int i, .int j]) : Dp K H (.ref a) (.tuple [.int i, .int j]) := .tup h (.cons (.int i) (.cons (.int j) .nil))
/-- the heap without what stands at A -/
def del (H : Hp) (A : Addr) : Hp := fun b => if b = A then none else H b
theorem del_same {A : Addr} : Same (del H A) H := fun b o e => by
  unfold del at e
  by_cases c : b = A
  · rw [if_pos c] at e; cases e
  · rw [if_neg c] at e; exact e
theorem del_at {A b : Addr} {o : HO} (h : H b = some o) (n : b ≠ A) : del H A b = some o := by unfold del; rw [if_neg n]; exact h
theorem del_upd {A : Addr} {o : HO} : del (upd H A o) A = del H A := by
  funext b
  unfold del
  by_cases c : b = A
  · rw [if_pos c, if_pos c]
  · rw [if_neg c, if_neg c, upd_ne c]
theorem del_mono {A : Addr} (e : Same H H') : Same (del H A) (del H' A) := fun b o h => by
  unfold del at h ⊢
  by_cases c : b = A
  · rw [if_pos c] at h; cases h
  · rw [if_neg c] at h ⊢; exact e b o h
end

/-! ### a comprehension of data -/
structure LcD (K : PySem.W.Frag) (H1 : Hp) (A : Addr) (f : Nat → Option PyData) (i : Nat) (H : Hp) : Prop where
  s : Same H1 H
  ex : ∃ acc, H A = some (.lst acc) ∧ DpAll K (del H A) acc ((List.range i).filterMap f)
section
variable {K : PySem.W.Frag} {J : It} {n : Nat} {ok : Hp → Prop} {item : Nat → V → Hp → Hp → Prop} {g : TG} {σ : St} {tt : TT} {te : TE} {vs : List Nat} {H1 : Hp} {A : Addr} {Qd : Hp → Prop}
theorem lcD_len (f : Nat → Option PyData) (i : Nat) : ((List.range i).filterMap f).length ≤ i := by
  have := List.length_filterMap_le f (List.range i)
  rwa [List.length_range] at this
theorem LcD.keep {f : Nat → Option PyData} {i : Nat} {Hc H4 : Hp} {y : V} {d : PyData} (h : LcD K H1 A f i Hc) (n : H1 A = none) (s : Same Hc H4) (hf : f i = some d) (hy : Dp K (del H4 A) y d) (hi : i ≤ 100000) :
    ∃ acc, H4 A = some (.lst acc) ∧ acc.length < sizeLine ∧ LcD K H1 A f (i + 1) (upd H4 A (.lst (acc ++ [y]))) := by
  obtain ⟨acc, ho, ha⟩ := h.ex
  refine ⟨acc, s _ _ ho, small (by rw [dpAll_len ha]; exact Nat.le_trans (lcD_len f i) hi), same_upd (h.s.trans s) n, acc ++ [y], upd_same, ?_⟩
  rw [del_upd, List.range_succ, List.filterMap_append]
  have e : List.filterMap f [i] = [d] := by simp [hf]
  rw [e]
  exact dpAll_snoc (dpAll_same (del_mono s) ha) hy
end

/-! ### further steps -/
section
variable {K : PySem.W.Frag} {te : TE} {a1 : TA} {σ : St} {H : Hp} {R : It → Hp → Prop} {Qs : St → Hp → Prop} {g : TG} {u : TGs} {v : V} {r xs : List V} {n : Nat} {a : Addr}
theorem x_iEnum (h : a1 σ H fun vs H1 => ∃ a xs, vs = [.ref a] ∧ SqL K H1 a xs ∧ R (Ite K a) H1) : iEnum K a1 σ H R := h
theorem x_iZip (h : a1 σ H fun vs H1 => ∃ a b xs ys, vs = [.ref a, .ref b] ∧ SqL K H1 a xs ∧ SqL K H1 b ys ∧ R (Itz K a b) H1) : iZip K a1 σ H R := h
theorem x_iZipA (h : a1 σ H fun vs H1 => ∃ a b xs ys, vs = [.ref a, .ref b] ∧ ((SqL K H1 a xs ∧ SqL K H1 b ys ∧ R (Itz K a b) H1) ∨ (SqT K H1 a xs ∧ SqT K H1 b ys ∧ R (RZ.ItzT K a b) H1))) : RZ.iZipA K a1 σ H R := h
theorem x_iTup (h : te σ H fun x H1 => ∃ a, x = .ref a ∧ (∃ xs, SqT K H1 a xs) ∧ R (Itt K a) H1) : iTup K te σ H R := h
theorem x_gtup (e : SqT K H a xs) (l : xs.length = n) (h : u xs σ H Qs) : gTup K n u (.ref a) σ H Qs := ⟨a, xs, rfl, e, l, h⟩
theorem x_gcons (h : g v σ H fun σ' H' => u r σ' H' Qs) : gCons g u (v :: r) σ H Qs := ⟨v, r, rfl, h⟩
theorem x_gnil (h : Qs σ H) : gNil [] σ H Qs := ⟨rfl, h⟩
theorem x_gsub {to ti : TE} {t : TSet} (h : to σ H fun o H1 => ti σ H1 fun i H2 => t o i v H2 fun H3 => Qs σ H3) : gSub to ti t v σ H Qs := h
theorem x_yes {Qb : Bool → Hp → Prop} (h : Qb true H) : tYes σ H Qb := h
theorem x_lc {wi : TI} {tt : TT} {te : TE} {vs : List Nat} {Q : VK} (h : wi σ H fun J H1 => ∀ D, H1 D = none → ∃ W : Nat → Nat → Hp → Prop, (∃ m, W 0 m (upd H1 D (.lst []))) ∧ ∀ i m H, W i m H →
  (J.stop i H ∧ Q (.ref D) H) ∨ (J.go i H ∧ ∃ Nx : Hp → Prop, (∀ H', Nx H' → ∃ m', m' < m ∧ W (i + 1) m' H') ∧ ∀ x H', J.yld i H x H' → g x (wipe σ vs) H' fun σ2 H2 => wipe σ2 vs = wipe σ vs ∧ tt σ2 H2 fun b H3 =>
    if b = true then te σ2 H3 fun y H4 => ∃ acc, H4 D = some (.lst acc) ∧ acc.length < sizeLine ∧ Nx (upd H4 D (.lst (acc ++ [y]))) else Nx H3)) : tLc wi g tt te vs σ H Q := h
theorem x_wipe {P : Prop} {σ' : St} (e : σ' = σ) (h : P) : σ' = σ ∧ P := ⟨e, h⟩
end
/-! ### slices, defs that are not called, windows -/
section
variable {K : PySem.W.Frag} {te : TE} {tl th : TO} {σ : St} {H : Hp} {Q : VK} {v : V}
theorem x_sl {r : V → Option Int → Option Int → Hp → VK → Prop} (h : te σ H fun x H1 => tl σ H1 fun l H2 => th σ H2 fun u H3 => r x l u H3 Q) : tSl r te tl th σ H Q := h
theorem x_nopart {Qo : Option Int → Hp → Prop} (h : Qo none H) : tNoPart σ H Qo := h
theorem x_part {Qo : Option Int → Hp → Prop} (h : te σ H fun x H1 => ∃ i, x = .int i ∧ Qo (some i) H1) : tPart te σ H Qo := h
theorem x_isI {i : Int} {P : Int → Prop} (h : P i) : ∃ j, V.int i = .int j ∧ P j := ⟨i, rfl, h⟩
theorem al_slL {a : Addr} {xs : List V} {lo hi : Option Int} (e : SqL K H a xs) (h : ∀ p H', H p = none → Same H H' → H' p = some (.lst (cutV xs lo hi)) → Q (.ref p) H') : rSlL K (.ref a) lo hi H Q := ⟨a, xs, rfl, e, fun p n => h p _ n (same_new (Same.refl H) n) upd_same⟩
theorem cutV_from {xs : List V} {i : Nat} : cutV xs (some (i : Int)) none = xs.drop i := by
  unfold cutV HT.sIx
  have h : ¬ ((i : Int) < 0) := by omega
  simp only [if_neg h, Int.toNat_natCast]
  by_cases c : i ≤ xs.length
  · rw [Nat.min_eq_left c, List.take_of_length_le]
    rw [List.length_drop]; exact Nat.le_refl _
  · have c' : xs.length ≤ i := by omega
    rw [Nat.min_eq_right c', List.drop_of_length_le c', List.drop_of_length_le (Nat.le_refl _)]
    simp
theorem al_from {a : Addr} {xs : List Int} {i : Nat} {j : Int} (e : SqL K H a (xs.map V.int)) (hj : j = i) (h : ∀ p H', H p = none → Same H H' → H' p = some (.lst ((xs.drop i).map V.int)) → Q (.ref p) H') : rSlL K (.ref a) (some j) none H Q :=
  al_slL e fun p H' n s o => h p H' n s (by subst hj; rw [cutV_from] at o; rw [List.map_drop]; exact o)
end
/-- a list of windows, as data -/
def dPair (w : Int × Int) : PyData := .tuple [.int w.1, .int w.2]
def dWin (ws : List (Int × Int)) : PyData := .list (ws.map dPair)
section
variable {K : PySem.W.Frag} {H H' : Hp}
theorem win_at {v : V} {ws : List (Int × Int)} (h : Dp K H v (dWin ws)) : ∃ (a : Addr) (xs : List V), v = V.ref a ∧ SqL K H a xs ∧ xs.length = ws.length ∧ ∀ (i : Nat) (x : V), xs[i]? = some x → ∃ (w : Int × Int) (t : Addr), ws[i]? = some w ∧ x = V.ref t ∧ SqT K H t [.int w.1, .int w.2] := by
  obtain ⟨a, xs, rfl, h1, h2⟩ := dp_lst h
  refine ⟨a, xs, rfl, h1, by rw [dpAll_len h2, List.length_map], fun i x e => ?_⟩
  obtain ⟨d, e1, e2⟩ := dpAll_get h2 e
  rw [List.getElem?_map] at e1
  cases hw : ws[i]? with
  | none => rw [hw] at e1; cases e1
  | some w =>
    rw [hw] at e1
    cases e1
    obtain ⟨t, rfl, ht⟩ := dp_pair e2
    exact ⟨w, t, rfl, rfl, ht⟩
end
/-! ### list(range(..)), sorted, lists of ints as data -/
section
variable {K : PySem.W.Frag} {te ta : TE} {σ : St} {H : Hp} {Q : VK} {v : V}
def AlRg (Q : VK) (a b : Int) (H : Hp) : Prop := RgOk a b ∧ ∀ q, H q = none → Q (.ref q) (upd H q (.lst (rgV a b)))
theorem x_lstRg {tr : St → Hp → (Int → Int → Hp → Prop) → Prop} (h : tr σ H (AlRg Q)) : tLstRg tr σ H Q := h
theorem x_rg1 {R : Int → Int → Hp → Prop} (h : ta σ H fun x H1 => ∃ n, x = .int n ∧ R 0 n H1) : tRg1 ta σ H R := h
theorem rgV_nat (n : Nat) : rgV 0 (n : Int) = (List.range n).map fun (i : Nat) => V.int (i : Int) := by
  unfold rgV
  rw [show ((n : Int) - 0).toNat = n by omega]
  apply List.map_congr_left
  intro i _
  rw [show (0 : Int) + ((i : Nat) : Int) = (i : Int) by omega]
theorem al_rg {n : Nat} {j : Int} (hj : j = n) (hn : n ≤ 100000) (h : ∀ p H', H p = none → Same H H' → H' p = some (.lst ((List.range n).map fun (i : Nat) => V.int (i : Int))) → Q (.ref p) H') : AlRg Q 0 j H := by
  subst hj
  refine ⟨RgOk.of_le (by decide) (by omega) (by decide) (by omega), fun p np => h p _ np (same_new (Same.refl H) np) ?_⟩
  rw [upd_same, rgV_nat]
theorem al_sorted {a : Addr} {ns : List Int} (e : SqL K H a (ns.map V.int)) (h : ∀ (p : Addr) (ns' : List Int) (H' : Hp), H p = none → Same H H' → ns'.Perm ns → ns'.Pairwise (· ≤ ·) → H' p = some (.lst (ns'.map V.int)) → Q (.ref p) H') : rSortedI K [.ref a] H Q :=
  ⟨a, ns, rfl, e, fun ns' p pm pw np => h p ns' _ np (same_new (Same.refl H) np) pm pw upd_same⟩
end
def dInts (l : List Int) : PyData := .list (l.map .int)
theorem lay_ints : ∀ l : List Int, PyData.canLayAll0 (l.map .int) = true
  | [] => rfl
  | n :: l => by
    show (PyData.canLay0 (.int n) && PyData.canLayAll0 (l.map .int)) = true
    rw [lay_ints l]; rfl
theorem dep_ints : ∀ l : List Int, PyData.depthAll (l.map .int) = 0
  | [] => rfl
  | n :: l => by
    show max (PyData.depth (.int n)) (PyData.depthAll (l.map .int)) = 0
    rw [dep_ints l]; rfl
theorem shaped_ints (l : List Int) : SeqAt.shaped (dInts l) = true := by
  have h1 : (dInts l).canLay0 = true := lay_ints l
  have h2 : (dInts l).depth ≤ 64 := by
    show PyData.depthAll (l.map .int) + 1 ≤ 64
    rw [dep_ints]; decide
  unfold SeqAt.shaped
  rw [h1, decide_eq_true h2]; rfl
theorem eqvAll_ints : ∀ a b : List Int, PyData.eqvAll (a.map .int) (b.map .int) = decide (a = b)
  | [], [] => rfl
  | [], _ :: _ => rfl
  | _ :: _, [] => rfl
  | x :: a, y :: b => by
    show (PyData.eqv (.int x) (.int y) && PyData.eqvAll (a.map .int) (b.map .int)) = _
    rw [eqvAll_ints a b]
    by_cases c : x = y
    · by_cases d : a = b
      · simp [PyData.eqv, c, d]
      · simp [PyData.eqv, c, d]
    · simp [PyData.eqv, c]
theorem eqv_ints (a b : List Int) : PyData.eqv (dInts a) (dInts b) = decide (a = b) := eqvAll_ints a b
theorem dp_ints {K : PySem.W.Frag} {H : Hp} {a : Addr} {ns : List Int} (h : SqL K H a (ns.map V.int)) : Dp K H (.ref a) (dInts ns) := .lst h (ints_dpAll ns)
theorem inV_int (i : Int) : ∀ row : List Int, inV (.int i) (row.map V.int) = decide (i ∈ row)
  | [] => rfl
  | x :: row => by
    show (eqV (.int x) (.int i) || inV (.int i) (row.map V.int)) = _
    rw [inV_int i row]
    by_cases c : i = x
    · subst c; simp [eqV]
    · have : ¬ x = i := fun e => c e.symm
      simp [eqV, this, c]
theorem flat_int : ∀ row : List Int, (row.map V.int).all flatV = true
  | [] => rfl
  | x :: row => by
    show (flatV (.int x) && (row.map V.int).all flatV) = true
    rw [flat_int row]; rfl
theorem x_inI {K : PySem.W.Frag} {H : Hp} {Q : VK} {p : Addr} {i : Int} {row : List Int} (e : SqL K H p (row.map V.int)) (h : Q (.bl (decide (i ∈ row))) H) : rIn K false (.int i) (.ref p) H Q := ⟨p, _, rfl, .inl e, rfl, flat_int row, by rw [if_neg Bool.false_ne_true, inV_int]; exact h⟩
/-! own exceptions made without arguments, raised and caught -/
section
variable {X : Cx} {x : Str} {p pos pos' : Pos}
def tTryAs (K : PySem.W.Frag) (c : Value) (i : Nat) (ts : Addr → Value → Option Addr → TS) (Wout : WX) (tb : WX → TS) : TS := fun D σ H => tb (wAs K c i ts Wout D) D σ H
end
section
variable {X : Cx} {CX : CXT} {k j : Nat} {sp : Sp} {E : St → XK} {x : Str} {p pos : Pos} {e : Expr} {es : List Expr} {t : TA}
theorem x_callS {σ : St} {H : Hp} {Q : VK} (h : t σ H fun vs H1 => sp vs H1 Q (E σ)) : tCallS sp E t σ H Q := h
theorem x_tryAs {K : PySem.W.Frag} {c : Value} {i : Nat} {ts : Addr → Value → Option Addr → TS} {Wout : WX} {tb : WX → TS} {D : Ends} {σ : St} {H : Hp} (h : tb (wAs K c i ts Wout D) D σ H) : tTryAs K c i ts Wout tb D σ H := h
end
theorem x_augS {to ti te : TE} {tget : V → V → Hp → VK → Prop} {tip : TIp} {tset : TSet} {D : Ends} {σ : St} {H : Hp} (h : to σ H fun o H1 => ti σ H1 fun i H2 => tget o i H2 fun x H3 => te σ H3 fun y H4 => tip x y H4 fun z H5 => tset o i z H5 fun H6 => D.nx σ H6) : tAugS to ti te tget tip tset D σ H := h
theorem x_aug {te : TE} {ti : TIp} {D : Ends} {σ : St} {H : Hp} {i : Nat} {v : V} (e : σ[i]? = some (some v)) (h : te σ H fun y H1 => ti v y H1 fun z H2 => D.nx (σ.set i (some z)) H2) : tAug i te ti D σ H := ⟨v, e, h⟩
theorem x_ipI {f : Int → Int → Int} {i j : Int} {H : Hp} {Q : VK} (h : Q (.int (f i j)) H) : ipI f (.int i) (.int j) H Q := ⟨i, j, rfl, rfl, h⟩
end Su
namespace Su
open PySem L2
def top (i : Nat) : Stmt := PySem.Challenge.pw_susu_k07_good_papers_let_by.main.body.getD i (.Pass ⟨0, 0, 0, 0⟩)
abbrev s_law_bars : Stmt := top 13
abbrev s_law_draws : Stmt := top 9
abbrev s_law_keeps : Stmt := top 12
abbrev s_law_wholes : Stmt := top 10
abbrev s_law_windows : Stmt := top 11
abbrev s_is_bar : Stmt := top 6
abbrev s_is_order : Stmt := top 5
abbrev s_good_paper : Stmt := top 7
abbrev s_within : Stmt := top 1
abbrev s_bar_of : Stmt := top 3
abbrev s_next_window : Stmt := top 2
abbrev s_order_or_bar : Stmt := top 4
abbrev s_law : Stmt := top 14
def dd_law_bars : He.DefD := ⟨("_law_bars", none), "_law_bars", "_law_bars", defArgs s_law_bars, defBody s_law_bars, defScope s_law_bars, [], []⟩
def dd_law_draws : He.DefD := ⟨("_law_draws", none), "_law_draws", "_law_draws", defArgs s_law_draws, defBody s_law_draws, defScope s_law_draws, [], []⟩
def dd_law_keeps : He.DefD := ⟨("_law_keeps", none), "_law_keeps", "_law_keeps", defArgs s_law_keeps, defBody s_law_keeps, defScope s_law_keeps, [], []⟩
def dd_law_wholes : He.DefD := ⟨("_law_wholes", none), "_law_wholes", "_law_wholes", defArgs s_law_wholes, defBody s_law_wholes, defScope s_law_wholes, [], []⟩
def dd_law_windows : He.DefD := ⟨("_law_windows", none), "_law_windows", "_law_windows", defArgs s_law_windows, defBody s_law_windows, defScope s_law_windows, [], []⟩
def dd_is_bar : He.DefD := ⟨("is_bar", none), "is_bar", "is_bar", defArgs s_is_bar, defBody s_is_bar, defScope s_is_bar, [], []⟩
def dd_is_order : He.DefD := ⟨("is_order", none), "is_order", "is_order", defArgs s_is_order, defBody s_is_order, defScope s_is_order, [], []⟩
def dd_good_paper : He.DefD := ⟨("good_paper", none), "good_paper", "good_paper", defArgs s_good_paper, defBody s_good_paper, defScope s_good_paper, [], []⟩
def dd_within : He.DefD := ⟨("within", none), "within", "within", defArgs s_within, defBody s_within, defScope s_within, [], []⟩
def dd_bar_of : He.DefD := ⟨("bar_of", none), "bar_of", "bar_of", defArgs s_bar_of, defBody s_bar_of, defScope s_bar_of, [], []⟩
def dd_next_window : He.DefD := ⟨("next_window", none), "next_window", "next_window", defArgs s_next_window, defBody s_next_window, defScope s_next_window, [], []⟩
def dd_order_or_bar : He.DefD := ⟨("order_or_bar", none), "order_or_bar", "order_or_bar", defArgs s_order_or_bar, defBody s_order_or_bar, defScope s_order_or_bar, [], []⟩
def dd_law : He.DefD := ⟨("law", none), "law", "law", defArgs s_law, defBody s_law, defScope s_law, [], []⟩
def fns : List He.DefD := dd_law_bars :: dd_law_draws :: dd_law_keeps :: dd_law_wholes :: dd_law_windows :: dd_is_bar :: dd_is_order :: dd_good_paper :: dd_within :: dd_bar_of :: dd_next_window :: dd_order_or_bar :: dd_law :: []
abbrev R : PySem.W.OpenRow := PySem.W.OpenLaw.row PySem.Challenge.rw_susu_k07_good_papers_let_by
def fas : List He.Fa := .glo "_law_bars" :: .glo "_law_draws" :: .glo "_law_keeps" :: .glo "_law_wholes" :: .glo "_law_windows" :: .glo "is_bar" :: .glo "is_order" :: .glo "good_paper" :: .glo "within" :: .glo "bar_of" :: .glo "next_window" :: .glo "order_or_bar" :: .glo "law" :: .free "abs" :: .free "all" :: .free "bool" :: .free "enumerate" :: .free "int" :: .free "isinstance" :: .free "len" :: .free "list" :: .free "max" :: .free "min" :: .free "range" :: .free "set" :: .free "sorted" :: .free "tuple" :: []
abbrev hk : PySem.W.Hook := He.hookD 5 fas fns
def ob (s : PySem.W.SharedT) : He.AlD := He.obsDG 5 fas fns (HandSHeadRun.getT s)
theorem ob_eq (s : PySem.W.SharedT) : ob s = hk.obs s.abs := He.obsDG_eq (HandSHeadRun.getT_eq s)
def loose : List PySem.Str := "within" :: "next_window" :: "bar_of" :: "order_or_bar" :: "is_order" :: "is_bar" :: "good_paper" :: "_law_draws" :: "_law_wholes" :: "_law_windows" :: "_law_keeps" :: "_law_bars" :: []
theorem run (w : World) : HandSHeadRun.RunEq R (PySem.W.view R.prog [14]) hk ob 4000 loose w := by
  intro os
  kernel_rfl
open PySem PySem.W PySem.Calls PyProof.Rows in
theorem hd_e : opening R.prog = plainProg R.prog.main.scope.names := by kernel_rfl
open PySem PySem.W PySem.Calls PyProof.Rows in
theorem hd_f : ∀ s, fenceModules? R.prog s = some s := fun s => by kernel_rfl
open PySem PySem.W PySem.Calls PyProof.Rows in
theorem hd_def : defOf (PySem.W.view R.prog [14]) R.name = some (HandSHeadRun.topDef R.prog 14, []) := by kernel_rfl
open PySem PySem.W PySem.Calls PyProof.Rows in
theorem hd_p : R.prog.theDef R.name = some ((HandSHeadRun.topDef R.prog 14).params, (HandSHeadRun.topDef R.prog 14).body, (HandSHeadRun.topDef R.prog 14).scope) := by kernel_rfl
open PySem PySem.W PySem.Calls PyProof.Rows in
theorem hd_k : kwWritten? (HandSHeadRun.topDef R.prog 14).params.kwonlyargs (HandSHeadRun.topDef R.prog 14).params.kw_defaults = some [] := by kernel_rfl
open PySem PySem.W PySem.Calls PyProof.Rows in
theorem hd_ok : (chainsOk (PySem.W.view R.prog [14]) && opensWell R.prog && (frees R.toRowW && R.within.isEmpty)) = true := by decide +kernel
end Su
namespace Su
open PySem L2
local macro_rules | `(tactic| walk_at "side") => `(tactic| first | assumption | (show (0 : Int) < _; omega) | (show (0 : Int) ≤ _; omega) | (show (0 : Int) < _; split <;> omega) | (show _ ∨ _; omega) | (show _ ∧ _; omega) | exact ⟨by decide, by decide, by decide⟩ | exact ⟨by first | assumption | omega, by first | assumption | omega⟩)
local macro_rules | `(tactic| walk_at "x") => `(tactic| first | with_reducible refine Su.x_seq ?_ | with_reducible refine Su.x_asg ?_ | with_reducible refine Su.x_gname ?_ | with_reducible refine Su.x_drop ?_ | with_reducible refine Su.x_ret ?_ | with_reducible refine Su.x_ifS ?_ | ((with_reducible show L2.tVar _ _ _ _); refine Su.x_var rfl ?_) | with_reducible refine Su.x_op ?_ | with_reducible refine Su.x_rI0 ?_ | with_reducible refine Su.x_rGe ?_ | with_reducible refine Su.x_iteF ?_ | with_reducible refine Su.x_test ?_ | with_reducible refine Su.x_isB' ?_ | with_reducible refine Su.x_and ?_ | with_reducible refine Su.x_nil ?_ | with_reducible refine Su.x_cons ?_ | with_reducible refine Su.x_lst ?_ | with_reducible refine Su.x_bmL ?_ | with_reducible refine Su.x_next ?_ | with_reducible refine Su.x_for ?_ | with_reducible refine Su.x_iEnum ?_ | with_reducible refine Su.x_gcons ?_ | with_reducible refine Su.x_gnil ?_)
local macro_rules | `(tactic| walk_at "xs") => `(tactic| repeat walk_at "x")
local macro_rules | `(tactic| walk_at "if") => `(tactic| first | with_reducible refine Su.x_iteD (fun c => ?_) (fun c => ?_) | with_reducible refine Su.x_iteN (fun c => ?_) (fun c => ?_) | with_reducible refine Su.x_ite (fun c => ?_) (fun c => ?_))

/-! within -/
def inAB (ws : List (Int × Int)) (a b : Int) (i : Nat) : Bool := decide (a ≤ (ws.getD i (0, 0)).1 ∧ (ws.getD i (0, 0)).2 ≤ b)
def wInN (ws : List (Int × Int)) (a b : Int) (n : Nat) : List Nat := (List.range n).filter (inAB ws a b)
def wIn (ws : List (Int × Int)) (a b : Int) : List Nat := wInN ws a b ws.length
theorem wInN_succ (ws : List (Int × Int)) (a b : Int) (n : Nat) : wInN ws a b (n + 1) = wInN ws a b n ++ (if inAB ws a b n then [n] else []) := by
  unfold wInN
  rw [List.range_succ, List.filter_append]
  congr 1
  cases h : inAB ws a b n <;> simp [h]
theorem wInN_len (ws : List (Int × Int)) (a b : Int) (n : Nat) : (wInN ws a b n).length ≤ n := by
  have := List.length_filter_le (inAB ws a b) (List.range n)
  rwa [List.length_range] at this
def nI (l : List Nat) : List V := l.map fun (i : Nat) => V.int (i : Int)
def sp_within (K : PySem.W.Frag) : Sp := fun vs H Q _ => ∃ (v : V) (ws : List (Int × Int)) (a b : Int), vs = [v, .int a, .int b] ∧ Dp K H v (dWin ws) ∧ ws.length ≤ 1000 ∧
  ∀ (p : Addr) (H' : Hp), H p = none → Same H H' → H' p = some (.lst (nI (wIn ws a b))) → Q (.ref p) H'
abbrev N_within : List Str := ["windows", "a", "b", "crowd", "at", "first", "last"]
def t_within (K : PySem.W.Frag) : TS :=
 (tSeq (tAsg (tLst tNil) (gName 3))
 (tSeq (tFor (iEnum K (tCons (tVar 0) tNil)) (gTup K 2 (gCons (gName 4) (gCons (gTup K 2 (gCons (gName 5) (gCons (gName 6) gNil))) gNil)))
 (tIfS (tAnd (tTest (tOp rGe (tVar 5) (tVar 1))) (tTest (tOp rLe (tVar 6) (tVar 2))))
 (tDrop (tBM K "list" rAppend (tVar 3) (tCons (tVar 4) tNil)))
 tNext))
 (tRet (tVar 3))))

theorem len_within {K : PySem.W.Frag} : ∀ vs H Q E, sp_within K vs H Q E → vs.length = ["windows", "a", "b"].length := by
  rintro vs H Q E ⟨_, _, _, _, rfl, _⟩; rfl
theorem pure_within {K : PySem.W.Frag} {vs : List V} {H : Hp} {Q : VK} {E : XK} (h : sp_within K vs H Q E) : t_within K { nx := fun _ H' => Q .non H', rt := Q } (start N_within vs) H := by
  obtain ⟨v, ws, a, b, rfl, hw, hl, k⟩ := h
  obtain ⟨q, xs, rfl, hq, hx, hat⟩ := win_at hw
  unfold t_within
  walk_at "xs"
  refine al_lst fun p H1 np s1 hp => ?_
  walk_at "xs"
  refine ⟨q, xs, rfl, s1.seq hq, for_by turnsE (fun i σ H' => ∃ (u v w : Option V), σ = [some (.ref q), some (.int a), some (.int b), some (.ref p), u, v, w] ∧ Same H H' ∧ H' p = some (.lst (nI (wInN ws a b i))))
    ⟨none, none, none, rfl, s1, hp⟩ (fun i σ H' _ ⟨_, _, _, _, s, _⟩ => s.seq hq) ?_ ?_⟩
  · rintro i y σ H2 H3 hi ⟨u, v, w, rfl, s2, hp2⟩ ⟨x, hx, T, rfl, nT, s3, hT, _⟩
    obtain ⟨wi, t, ew, rfl, ht⟩ := hat i x hx
    have hd : ws.getD i (0, 0) = wi := by rw [List.getD_eq_getElem?_getD, ew]; rfl
    refine x_gtup (SqT.of hT) rfl ?_
    walk_at "xs"
    refine x_gtup (seqT_same (s2.trans s3) ht) rfl ?_
    walk_at "xs"
    have hp3 := s3 _ _ hp2
    walk_at "if"
    · walk_at "xs"
      walk_at "if"
      · walk_at "xs"
        refine ⟨tyL (SqL.of hp3), ?_⟩
        walk_at "xs"
        refine x_append hp3 (small ?_) ?_
        · unfold nI; rw [List.length_map]; have := wInN_len ws a b i; omega
        · refine ⟨_, _, _, rfl, same_upd (s2.trans s3) np, ?_⟩
          have e : inAB ws a b i = true := by unfold inAB; rw [hd]; simp; omega
          rw [upd_same, wInN_succ, if_pos e]
          unfold nI
          rw [List.map_append]; rfl
      · refine ⟨_, _, _, rfl, s2.trans s3, ?_⟩
        have e : inAB ws a b i = false := by unfold inAB; rw [hd]; simp; omega
        rw [wInN_succ, e]; simpa using hp3
    · walk_at "xs"
      refine ⟨_, _, _, rfl, s2.trans s3, ?_⟩
      have e : inAB ws a b i = false := by unfold inAB; rw [hd]; simp; omega
      rw [wInN_succ, e]; simpa using hp3
  · rintro σ H2 ⟨u, v, w, rfl, s2, hp2⟩
    walk_at "xs"
    rw [hx] at hp2
    exact k p H2 np s2 hp2

end Su
namespace Su
open PySem L2
local macro_rules | `(tactic| walk_at "side") => `(tactic| first | assumption | (show (0 : Int) < _; omega) | (show (0 : Int) ≤ _; omega) | (show (0 : Int) < _; split <;> omega) | (show _ ∨ _; omega) | (show _ ∧ _; omega) | exact ⟨by decide, by decide, by decide⟩ | exact ⟨by first | assumption | omega, by first | assumption | omega⟩)
local macro_rules | `(tactic| walk_at "x") => `(tactic| first | with_reducible refine Su.x_seq ?_ | with_reducible refine Su.x_asg ?_ | with_reducible refine Su.x_gname ?_ | with_reducible refine Su.x_drop ?_ | with_reducible refine Su.x_ret ?_ | with_reducible refine Su.x_ifS ?_ | ((with_reducible show L2.tVar _ _ _ _); refine Su.x_var rfl ?_) | with_reducible refine Su.x_c ?_ | with_reducible refine Su.x_op ?_ | with_reducible refine Su.x_rI0 ?_ | ((with_reducible refine Su.x_rI ?_ ?_); focus walk_at "side") | with_reducible refine Su.x_rGt ?_ | with_reducible refine Su.x_iteF ?_ | with_reducible refine Su.x_test ?_ | with_reducible refine Su.x_isB' ?_ | with_reducible refine Su.x_and ?_ | with_reducible refine Su.x_nil ?_ | with_reducible refine Su.x_cons ?_ | with_reducible refine Su.x_cb ?_ | with_reducible refine Su.x_min2 ?_ | with_reducible refine Su.x_lst ?_ | with_reducible refine Su.x_tup ?_ | with_reducible refine Su.x_bmL ?_ | with_reducible refine Su.x_next ?_ | with_reducible refine Su.x_for ?_ | with_reducible refine Su.x_iRng1 ?_)
local macro_rules | `(tactic| walk_at "xs") => `(tactic| repeat walk_at "x")
local macro_rules | `(tactic| walk_at "if") => `(tactic| first | with_reducible refine Su.x_iteD (fun c => ?_) (fun c => ?_) | with_reducible refine Su.x_iteN (fun c => ?_) (fun c => ?_) | with_reducible refine Su.x_ite (fun c => ?_) (fun c => ?_))

/-! _law_windows -/
/-- each first and last from 1 to the number -/
def WinOk (n : Nat) (ws : List (Int × Int)) : Prop := ∀ w ∈ ws, 1 ≤ w.1 ∧ w.1 ≤ n ∧ 1 ≤ w.2 ∧ w.2 ≤ n
def sp_law_windows (K : PySem.W.Frag) : Sp := fun vs H Q _ => ∃ (a : Addr) (rows : List Int) (n : Nat) (wide : Int), vs = [.ref a, .int n, .int wide] ∧ SqL K H a (rows.map V.int) ∧ 0 < n ∧ n ≤ 1000 ∧ 2 * n ≤ rows.length ∧
  ∀ (p : Addr) (ws : List (Int × Int)) (xs : List V) (H' : Hp), H p = none → Same H H' → H' p = some (.lst xs) → DpAll K (del H' p) xs (ws.map dPair) → ws.length = n → WinOk n ws → Q (.ref p) H'
abbrev N_law_windows : List Str := ["_law_some", "_law_size", "_law_wide", "_law_rows", "_law_at", "_law_first", "_law_last"]
def t_law_windows (K : PySem.W.Frag) : TS :=
 (tSeq (tAsg (tLst tNil) (gName 3))
 (tSeq (tFor (iRng1 (tCons (tVar 1) tNil)) (gName 4)
 (tSeq (tAsg (tOp rAdd (tC (.int 1)) (tOp rMod (tOp (rIxL K) (tVar 0) (tOp rMul (tC (.int 2)) (tVar 4))) (tVar 1))) (gName 5))
 (tSeq (tAsg (tOp rAdd (tC (.int 1)) (tOp rMod (tOp (rIxL K) (tVar 0) (tOp rAdd (tOp rMul (tC (.int 2)) (tVar 4)) (tC (.int 1)))) (tVar 1))) (gName 6))
 (C8.tCut (tIfS (tAnd (tTest (tOp rGt (tOp rMod (tVar 2) (tC (.int 3))) (tC (.int 0)))) (tTest (tOp rLt (tVar 6) (tVar 5))))
 (tAsg (tCB rMin2 (tCons (tVar 1) (tCons (tOp rAdd (tVar 5) (tOp rMod (tOp (rIxL K) (tVar 0) (tOp rAdd (tOp rMul (tC (.int 2)) (tVar 4)) (tC (.int 1)))) (tOp rAdd (tC (.int 1)) (tOp rMod (tVar 2) (tC (.int 5)))))) tNil))) (gName 6))
 tNext)
 (tDrop (tBM K "list" rAppend (tVar 3) (tCons (tTup (tCons (tVar 5) (tCons (tVar 6) tNil))) tNil)))))))
 (tRet (tVar 3))))

theorem len_law_windows {K : PySem.W.Frag} : ∀ vs H Q E, sp_law_windows K vs H Q E → vs.length = ["a", "b", "c"].length := by
  rintro vs H Q E ⟨_, _, _, _, rfl, _⟩; rfl
theorem pure_law_windows {K : PySem.W.Frag} {vs : List V} {H : Hp} {Q : VK} {E : XK} (h : sp_law_windows K vs H Q E) : t_law_windows K { nx := fun _ H' => Q .non H', rt := Q } (start N_law_windows vs) H := by
  obtain ⟨a, rows, n, wide, rfl, hS, n0, n1, hl, k⟩ := h
  unfold t_law_windows
  walk_at "xs"
  refine al_lst fun p H1 np s1 hp => ?_
  walk_at "xs"
  refine ⟨n, rfl, by omega, by omega, for_by turnsR (fun i σ H' => ∃ (ws : List (Int × Int)) (xs : List V) (u v w : Option V), σ = [some (.ref a), some (.int n), some (.int wide), some (.ref p), u, v, w] ∧ Same H H' ∧ H' p = some (.lst xs) ∧ DpAll K (del H' p) xs (ws.map dPair) ∧ ws.length = i ∧ WinOk n ws)
    ⟨[], [], none, none, none, rfl, s1, hp, .nil, rfl, fun _ h => nomatch h⟩ (fun _ _ _ _ _ => trivial) ?_ ?_⟩
  · rintro i y σ H2 _ hi ⟨ws, xs, u, v, w, rfl, s2, hp2, hd, hlen, hok⟩ ⟨rfl, rfl⟩
    have hi' : i < n := hi
    have hS2 := s2.seq hS
    walk_at "xs"
    refine x_ixL hS2 (at_getI (by omega) (by omega)) ?_
    generalize rows.getD (2 * (0 + (i : Int))).toNat 0 = r1
    have b1 := Int.emod_nonneg r1 (show (n : Int) ≠ 0 by omega)
    have b2 := Int.emod_lt_of_pos r1 (show (0 : Int) < (n : Int) by omega)
    walk_at "xs"
    refine x_ixL hS2 (at_getI (by omega) (by omega)) ?_
    generalize rows.getD (2 * (0 + (i : Int)) + 1).toNat 0 = r2
    have b3 := Int.emod_nonneg r2 (show (n : Int) ≠ 0 by omega)
    have b4 := Int.emod_lt_of_pos r2 (show (0 : Int) < (n : Int) by omega)
    walk_at "xs"
    refine x_cut (fun σ H' => ∃ l : Int, σ = [some (.ref a), some (.int n), some (.int wide), some (.ref p), some (.int (0 + (i : Int))), some (.int (1 + r1 % n)), some (.int l)] ∧ H2 = H' ∧ 1 ≤ l ∧ l ≤ n) ?_ ?_
    · walk_at "xs"
      walk_at "if"
      · walk_at "xs"
        walk_at "if"
        · walk_at "xs"
          refine x_ixL hS2 (at_getI (by omega) (by omega)) ?_
          generalize rows.getD (2 * (0 + (i : Int)) + 1).toNat 0 = r3
          have c1 := Int.emod_nonneg wide (show (5 : Int) ≠ 0 by decide)
          walk_at "xs"
          have c3 := Int.emod_nonneg r3 (show 1 + wide % 5 ≠ 0 by omega)
          refine ⟨_, rfl, rfl, ?_, ?_⟩ <;> (split <;> omega)
        · exact ⟨_, rfl, rfl, by omega, by omega⟩
      · walk_at "xs"
        exact ⟨_, rfl, rfl, by omega, by omega⟩
    rintro _ _ ⟨l, rfl, rfl, l1, l2⟩
    walk_at "xs"
    refine ⟨tyL (SqL.of hp2), ?_⟩
    walk_at "xs"
    refine al_tup fun t H3 nt s3 ht => ?_
    have hp3 := s3 _ _ hp2
    have hlx := dpAll_len hd
    rw [List.length_map] at hlx
    have htp : t ≠ p := fun e => by rw [e, hp2] at nt; cases nt
    walk_at "xs"
    refine x_append hp3 (small (by omega)) ?_
    refine ⟨ws ++ [(1 + r1 % n, l)], xs ++ [.ref t], _, _, _, rfl, same_upd (s2.trans s3) np, upd_same, ?_, by rw [List.length_append]; simp; exact hlen, ?_⟩
    · rw [del_upd, List.map_append]
      exact dpAll_snoc (dpAll_same (del_mono s3) hd) (pair_dp (SqT.of (del_at ht htp)))
    · intro w hw
      rcases List.mem_append.mp hw with h | h
      · exact hok w h
      · cases List.mem_singleton.mp h
        exact ⟨by show 1 ≤ 1 + r1 % n; omega, by show 1 + r1 % n ≤ n; omega, l1, l2⟩
  · rintro σ H2 ⟨ws, xs, u, v, w, rfl, s2, hp2, hd, hlen, hok⟩
    walk_at "xs"
    exact k p ws xs H2 np s2 hp2 hd hlen hok

end Su
namespace Su
open PySem L2
local macro_rules | `(tactic| walk_at "side") => `(tactic| first | assumption | (show (0 : Int) < _; omega) | (show (0 : Int) ≤ _; omega) | (show (0 : Int) < _; split <;> omega) | (show _ ∨ _; omega) | (show _ ∧ _; omega) | exact ⟨by decide, by decide, by decide⟩ | exact ⟨by first | assumption | omega, by first | assumption | omega⟩)
local macro_rules | `(tactic| walk_at "xs") => `(tactic| repeat walk_at "x")
local macro_rules | `(tactic| walk_at "if") => `(tactic| first | with_reducible refine Su.x_iteD (fun c => ?_) (fun c => ?_) | with_reducible refine Su.x_iteN (fun c => ?_) (fun c => ?_) | with_reducible refine Su.x_ite (fun c => ?_) (fun c => ?_))

/-! windows, orders, bars: the mathematics -/
theorem nodup_sub : ∀ {l m : List Nat}, l.Nodup → (∀ x ∈ l, x ∈ m) → l.length ≤ m.length
  | [], _, _, _ => Nat.zero_le _
  | x :: l, m, h, s => by
    have hx := s x (List.mem_cons_self ..)
    have h1 : x ∉ l := (List.nodup_cons.mp h).1
    have h2 := nodup_sub (l := l) (m := m.erase x) (List.nodup_cons.mp h).2 fun y hy => by
      have : y ≠ x := fun e => h1 (e ▸ hy)
      exact (List.mem_erase_of_ne this).mpr (s y (List.mem_cons_of_mem _ hy))
    rw [List.length_erase_of_mem hx] at h2
    have : 0 < m.length := List.length_pos_of_mem hx
    simp only [List.length_cons]
    omega
theorem nodup_all {row : List Nat} {n : Nat} (h : row.Nodup) (hl : row.length = n) (hb : ∀ x ∈ row, x < n) {c : Nat} (hc : c < n) : c ∈ row := by
  by_cases e : c ∈ row
  · exact e
  · exfalso
    have h1 : (c :: row).Nodup := List.nodup_cons.mpr ⟨e, h⟩
    have h2 := nodup_sub (m := List.range n) h1 fun x hx => by
      rcases List.mem_cons.mp hx with r | r
      · exact r ▸ List.mem_range.mpr hc
      · exact List.mem_range.mpr (hb x r)
    simp only [List.length_cons, List.length_range] at h2
    omega
def w1 (ws : List (Int × Int)) (i : Nat) : Int := (ws.getD i (0, 0)).1
def w2 (ws : List (Int × Int)) (i : Nat) : Int := (ws.getD i (0, 0)).2
theorem win_ok {n : Nat} {ws : List (Int × Int)} (h : WinOk n ws) {i : Nat} (hi : i < ws.length) : 1 ≤ w1 ws i ∧ w1 ws i ≤ n ∧ 1 ≤ w2 ws i ∧ w2 ws i ≤ n := by
  have e : ws.getD i (0, 0) = ws[i] := by rw [List.getD_eq_getElem?_getD, List.getElem?_eq_getElem hi]; rfl
  unfold w1 w2
  rw [e]
  exact h _ (List.getElem_mem hi)
/-- an order of the windows -/
structure IsOrder (ws : List (Int × Int)) (row : List Nat) : Prop where
  len : row.length = ws.length
  nd : row.Nodup
  lt : ∀ x ∈ row, x < ws.length
  fit : ∀ k (h : k < row.length), w1 ws row[k] ≤ (k : Int) + 1 ∧ (k : Int) + 1 ≤ w2 ws row[k]
/-- a bar -/
structure IsBar (ws : List (Int × Int)) (a b : Int) (crowd : List Nat) : Prop where
  a1 : 1 ≤ a ∧ a ≤ ws.length
  b1 : 1 ≤ b ∧ b ≤ ws.length
  inc : crowd.Pairwise (· < ·)
  mem : ∀ c ∈ crowd, c < ws.length ∧ a ≤ w1 ws c ∧ w2 ws c ≤ b
  many : max 0 (b - a + 1) < (crowd.length : Int)
theorem inc_nodup {l : List Nat} (h : l.Pairwise (· < ·)) : l.Nodup := h.imp fun h => Nat.ne_of_lt h
theorem idx_at {row : List Nat} {c : Nat} (h : c ∈ row) : ∃ k, ∃ hk : k < row.length, row[k] = c ∧ row.idxOf c = k := by
  have h1 := List.idxOf_lt_length_of_mem h
  exact ⟨_, h1, List.getElem_idxOf h1, rfl⟩
theorem no_both {ws : List (Int × Int)} {row crowd : List Nat} {a b : Int} (o : IsOrder ws row) (r : IsBar ws a b crowd) : False := by
  have hp : ∀ c ∈ crowd, a ≤ (row.idxOf c : Int) + 1 ∧ (row.idxOf c : Int) + 1 ≤ b := fun c hc => by
    obtain ⟨h1, h2, h3⟩ := r.mem c hc
    obtain ⟨k, hk, e, e2⟩ := idx_at (nodup_all o.nd o.len o.lt h1)
    have f := o.fit k hk
    rw [e] at f
    rw [e2]
    omega
  have nd : (crowd.map fun c => row.idxOf c).Nodup := by
    rw [List.nodup_iff_pairwise_ne, List.pairwise_map]
    have := List.nodup_iff_pairwise_ne.mp (inc_nodup r.inc)
    exact this.imp_of_mem fun {x y} hx hy hne he => by
      obtain ⟨k, hk, e, e2⟩ := idx_at (nodup_all o.nd o.len o.lt (r.mem x hx).1)
      obtain ⟨l, hl, f, f2⟩ := idx_at (nodup_all o.nd o.len o.lt (r.mem y hy).1)
      have : k = l := by rw [← e2, ← f2]; exact he
      subst this
      exact hne (e ▸ f)
  have hlen := nodup_sub (m := List.range' (a - 1).toNat (b - a + 1).toNat) nd fun x hx => by
    obtain ⟨c, hc, rfl⟩ := List.mem_map.mp hx
    have := hp c hc
    have a1 := r.a1
    rw [List.mem_range'_1]
    omega
  rw [List.length_map, List.length_range'] at hlen
  have := r.many
  omega
/-! ### the greedy way -/
def rdy (ws : List (Int × Int)) (row : List Nat) (t : Int) (i : Nat) : Bool := decide (w1 ws i ≤ t) && !decide (i ∈ row)
def pick (ws : List (Int × Int)) (i : Nat) : Option Nat → Option Nat
  | none => some i
  | some b => if w2 ws i < w2 ws b then some i else some b
def nextN (ws : List (Int × Int)) (row : List Nat) (t : Int) : Nat → Option Nat
  | 0 => none
  | i + 1 => if rdy ws row t i = true then pick ws i (nextN ws row t i) else nextN ws row t i
theorem nextN_none {ws : List (Int × Int)} {row : List Nat} {t : Int} : ∀ {n : Nat}, nextN ws row t n = none → ∀ i, i < n → rdy ws row t i = false
  | 0, _, i, hi => absurd hi (Nat.not_lt_zero _)
  | n + 1, h, i, hi => by
    unfold nextN at h
    by_cases c : rdy ws row t n = true
    · rw [if_pos c] at h
      cases e : nextN ws row t n with
      | none => rw [e] at h; cases h
      | some b =>
        rw [e] at h
        unfold pick at h
        simp only at h
        split at h <;> cases h
    · rw [if_neg c] at h
      by_cases q : i < n
      · exact nextN_none h i q
      · have : i = n := by omega
        rw [this]
        simpa using c
theorem nextN_some {ws : List (Int × Int)} {row : List Nat} {t : Int} : ∀ {n c : Nat}, nextN ws row t n = some c → c < n ∧ rdy ws row t c = true ∧ ∀ i, i < n → rdy ws row t i = true → w2 ws c ≤ w2 ws i ∧ (w2 ws i = w2 ws c → c ≤ i)
  | 0, _, h => by cases h
  | n + 1, c, h => by
    unfold nextN at h
    by_cases q : rdy ws row t n = true
    · rw [if_pos q] at h
      cases e : nextN ws row t n with
      | none =>
        rw [e] at h
        cases h
        refine ⟨Nat.lt_succ_self _, q, fun i hi r => ?_⟩
        by_cases z : i < n
        · rw [nextN_none e i z] at r; cases r
        · have : i = n := by omega
          subst this; exact ⟨Int.le_refl _, fun _ => Nat.le_refl _⟩
      | some b =>
        rw [e] at h
        obtain ⟨b1, b2, b3⟩ := nextN_some e
        unfold pick at h
        simp only at h
        by_cases l : w2 ws n < w2 ws b
        · rw [if_pos l] at h
          cases h
          refine ⟨Nat.lt_succ_self _, q, fun i hi r => ?_⟩
          by_cases z : i < n
          · have := (b3 i z r).1
            exact ⟨by omega, fun e => by omega⟩
          · have : i = n := by omega
            subst this; exact ⟨Int.le_refl _, fun _ => Nat.le_refl _⟩
        · rw [if_neg l] at h
          cases h
          refine ⟨by omega, b2, fun i hi r => ?_⟩
          by_cases z : i < n
          · exact b3 i z r
          · have : i = n := by omega
            subst this; exact ⟨by omega, fun _ => by omega⟩
    · rw [if_neg q] at h
      obtain ⟨b1, b2, b3⟩ := nextN_some h
      refine ⟨by omega, b2, fun i hi r => ?_⟩
      by_cases z : i < n
      · exact b3 i z r
      · have : i = n := by omega
        rw [this] at r; exact absurd r q
inductive Paper where
  | order (row : List Nat)
  | bar (a b : Int) (crowd : List Nat)
/-- how far a bar goes down: from e to the least round such that all windows from there to late lie by late -/
def downTo (ws : List (Int × Int)) (row : List Nat) (late : Int) : Nat → Nat
  | 0 => 0
  | j + 1 => if w2 ws (row.getD j 0) ≤ late then downTo ws row late j else j + 1
def barOf (ws : List (Int × Int)) (row : List Nat) (late : Int) : Paper := .bar (downTo ws row late late.toNat + 1) late (wIn ws (downTo ws row late late.toNat + 1) late)
def ordB (ws : List (Int × Int)) : Nat → List Nat → Paper
  | 0, row => .order row
  | k + 1, row => match nextN ws row ((row.length : Int) + 1) ws.length with
    | none => .bar ((row.length : Int) + 2) ws.length (wIn ws ((row.length : Int) + 2) ws.length)
    | some c => if w2 ws c < (row.length : Int) + 1 then barOf ws row (w2 ws c) else ordB ws k (row ++ [c])
def paperOf (ws : List (Int × Int)) : Paper := ordB ws ws.length []
/-- what the greedy row keeps -/
structure Greedy (ws : List (Int × Int)) (row : List Nat) : Prop where
  nd : row.Nodup
  lt : ∀ x ∈ row, x < ws.length
  fit : ∀ k (h : k < row.length), w1 ws row[k] ≤ (k : Int) + 1 ∧ (k : Int) + 1 ≤ w2 ws row[k]
  least : ∀ k (h : k < row.length) i, i < ws.length → i ∉ row.take k → w1 ws i ≤ (k : Int) + 1 → w2 ws row[k] ≤ w2 ws i
theorem greedy_nil {ws : List (Int × Int)} : Greedy ws [] := ⟨List.nodup_nil, (fun _ h => nomatch h), fun _ h => absurd h (Nat.not_lt_zero _), fun _ h => absurd h (Nat.not_lt_zero _)⟩
theorem greedy_snoc {ws : List (Int × Int)} {row : List Nat} {c : Nat} (g : Greedy ws row) (h : nextN ws row ((row.length : Int) + 1) ws.length = some c) (hl : ¬ w2 ws c < (row.length : Int) + 1) : Greedy ws (row ++ [c]) := by
  obtain ⟨c1, c2, c3⟩ := nextN_some h
  unfold rdy at c2
  simp only [Bool.and_eq_true, decide_eq_true_eq, Bool.not_eq_true', decide_eq_false_iff_not] at c2
  have at_ : ∀ k (h : k < (row ++ [c]).length), (∃ h' : k < row.length, (row ++ [c])[k] = row[k]) ∨ (k = row.length ∧ (row ++ [c])[k] = c) := fun k h => by
    by_cases q : k < row.length
    · exact .inl ⟨q, List.getElem_append_left q⟩
    · have : k = row.length := by simp at h; omega
      subst this
      exact .inr ⟨rfl, by simp⟩
  refine ⟨?_, ?_, ?_, ?_⟩
  · rw [List.nodup_append]
    refine ⟨g.nd, by simp, fun a ha b hb e => ?_⟩
    rw [List.mem_singleton] at hb
    exact c2.2 (hb ▸ e ▸ ha)
  · intro x hx
    rcases List.mem_append.mp hx with r | r
    · exact g.lt x r
    · rw [List.mem_singleton] at r; exact r ▸ c1
  · intro k hk
    rcases at_ k hk with ⟨h', e⟩ | ⟨e1, e⟩
    · rw [e]; exact g.fit k h'
    · rw [e, e1]; exact ⟨c2.1, by omega⟩
  · intro k hk i hi hn hf
    rcases at_ k hk with ⟨h', e⟩ | ⟨e1, e⟩
    · rw [e]
      refine g.least k h' i hi ?_ hf
      rw [List.take_append_of_le_length (by omega)] at hn
      exact hn
    · rw [e]
      subst e1
      rw [List.take_left'] at hn
      · refine (c3 i hi ?_).1
        unfold rdy
        simp only [Bool.and_eq_true, decide_eq_true_eq, Bool.not_eq_true', decide_eq_false_iff_not]
        exact ⟨hf, hn⟩
      · rfl
theorem filter_len (p : Nat → Bool) : ∀ l : List Nat, (l.filter p).length + (l.filter (fun x => !p x)).length = l.length
  | [] => rfl
  | x :: l => by
    have := filter_len p l
    cases h : p x <;> simp [List.filter_cons, h] <;> omega
theorem wIn_inc (ws : List (Int × Int)) (a b : Int) : (wIn ws a b).Pairwise (· < ·) := by
  unfold wIn wInN
  exact List.Pairwise.filter _ List.pairwise_lt_range
theorem wIn_mem {ws : List (Int × Int)} {a b : Int} {c : Nat} : c ∈ wIn ws a b ↔ c < ws.length ∧ a ≤ w1 ws c ∧ w2 ws c ≤ b := by
  unfold wIn wInN inAB w1 w2
  rw [List.mem_filter, List.mem_range, decide_eq_true_eq]
theorem downTo_le (ws : List (Int × Int)) (row : List Nat) (late : Int) : ∀ j, downTo ws row late j ≤ j
  | 0 => Nat.le_refl _
  | j + 1 => by
    unfold downTo
    split
    · exact Nat.le_succ_of_le (downTo_le ws row late j)
    · exact Nat.le_refl _
theorem downTo_in (ws : List (Int × Int)) (row : List Nat) (late : Int) : ∀ j k, downTo ws row late j ≤ k → k < j → w2 ws (row.getD k 0) ≤ late
  | 0, k, _, h => absurd h (Nat.not_lt_zero _)
  | j + 1, k, h1, h2 => by
    unfold downTo at h1
    by_cases c : w2 ws (row.getD j 0) ≤ late
    · rw [if_pos c] at h1
      by_cases q : k < j
      · exact downTo_in ws row late j k h1 q
      · have : k = j := by omega
        rw [this]; exact c
    · rw [if_neg c] at h1; omega
theorem downTo_stop (ws : List (Int × Int)) (row : List Nat) (late : Int) : ∀ j, downTo ws row late j = 0 ∨ ∃ k, downTo ws row late j = k + 1 ∧ late < w2 ws (row.getD k 0)
  | 0 => .inl rfl
  | j + 1 => by
    unfold downTo
    by_cases c : w2 ws (row.getD j 0) ≤ late
    · rw [if_pos c]; exact downTo_stop ws row late j
    · rw [if_neg c]; exact .inr ⟨j, rfl, by omega⟩
theorem bar_none {ws : List (Int × Int)} {row : List Nat} (ok : WinOk ws.length ws) (g : Greedy ws row) (hl : row.length < ws.length) (h : nextN ws row ((row.length : Int) + 1) ws.length = none) :
    IsBar ws ((row.length : Int) + 2) ws.length (wIn ws ((row.length : Int) + 2) ws.length) := by
  have hn := nextN_none h
  have out : ∀ i, i < ws.length → i ∉ row → (row.length : Int) + 2 ≤ w1 ws i := fun i hi hr => by
    have := hn i hi
    unfold rdy at this
    simp only [hr, decide_false, Bool.not_false, Bool.and_true, decide_eq_false_iff_not] at this
    omega
  have cnt : ws.length ≤ ((List.range ws.length).filter fun x => !decide (x ∈ row)).length + row.length := by
    have h1 := filter_len (fun x => decide (x ∈ row)) (List.range ws.length)
    have h2 : ((List.range ws.length).filter fun x => decide (x ∈ row)).length ≤ row.length := nodup_sub (List.Pairwise.filter _ List.nodup_range) fun x hx => by
      have := (List.mem_filter.mp hx).2
      simpa using this
    rw [List.length_range] at h1
    omega
  have sub : ((List.range ws.length).filter fun x => !decide (x ∈ row)).length ≤ (wIn ws ((row.length : Int) + 2) ws.length).length := nodup_sub (List.Pairwise.filter _ List.nodup_range) fun x hx => by
    obtain ⟨h1, h2⟩ := List.mem_filter.mp hx
    have h1 := List.mem_range.mp h1
    have h2 : x ∉ row := by simpa using h2
    exact wIn_mem.mpr ⟨h1, out x h1 h2, (win_ok ok h1).2.2.2⟩
  have ex : ∃ i, i < ws.length ∧ i ∉ row := by
    have : 0 < ((List.range ws.length).filter fun x => !decide (x ∈ row)).length := by omega
    obtain ⟨i, hi⟩ := List.exists_mem_of_length_pos this
    obtain ⟨h1, h2⟩ := List.mem_filter.mp hi
    exact ⟨i, List.mem_range.mp h1, by simpa using h2⟩
  obtain ⟨i, hi, hir⟩ := ex
  have o1 := out i hi hir
  have o2 := (win_ok ok hi).2.1
  exact ⟨⟨by omega, by omega⟩, ⟨by omega, by omega⟩, wIn_inc .., fun c hc => wIn_mem.mp hc, by omega⟩
theorem bar_late {ws : List (Int × Int)} {row : List Nat} {c : Nat} (ok : WinOk ws.length ws) (g : Greedy ws row) (hl : row.length < ws.length) (h : nextN ws row ((row.length : Int) + 1) ws.length = some c) (hc : w2 ws c < (row.length : Int) + 1) :
    IsBar ws (downTo ws row (w2 ws c) (w2 ws c).toNat + 1) (w2 ws c) (wIn ws (downTo ws row (w2 ws c) (w2 ws c).toNat + 1) (w2 ws c)) := by
  obtain ⟨c1, c2, c3⟩ := nextN_some h
  unfold rdy at c2
  simp only [Bool.and_eq_true, decide_eq_true_eq, Bool.not_eq_true', decide_eq_false_iff_not] at c2
  have okc := win_ok ok c1
  generalize hL : w2 ws c = L at *
  generalize he : downTo ws row L L.toNat = e
  have e1 : e ≤ L.toNat := he ▸ downTo_le ws row L L.toNat
  have e2 : ∀ k, e ≤ k → k < L.toNat → w2 ws (row.getD k 0) ≤ L := fun k a b => downTo_in ws row L L.toNat k (he ▸ a) b
  have e3 := downTo_stop ws row L L.toNat
  rw [he] at e3
  have gd : ∀ k (hk : k < row.length), row.getD k 0 = row[k] := fun k hk => by rw [List.getD_eq_getElem?_getD, List.getElem?_eq_getElem hk]; rfl
  -- a window that was not placed by round e, of a last by L, opens behind e
  have open_ : ∀ i, i < ws.length → i ∉ row.take (e - 1) → w2 ws i ≤ L → (e : Int) + 1 ≤ w1 ws i := fun i hi hr h2 => by
    have o1 := (win_ok ok hi).1
    rcases e3 with z | ⟨k, z, q⟩
    · omega
    · have hk : k < row.length := by omega
      rw [gd k hk] at q
      by_cases w : w1 ws i ≤ (k : Int) + 1
      · have := g.least k hk i hi (by rw [z] at hr; exact hr) w
        omega
      · omega
  have nd : (c :: (row.take L.toNat).drop e).Nodup := by
    rw [List.nodup_cons]
    exact ⟨fun hm => c2.2 (List.mem_of_mem_take (List.mem_of_mem_drop hm)), List.Nodup.sublist ((List.drop_sublist _ _).trans (List.take_sublist _ _)) g.nd⟩
  have sub := nodup_sub (m := wIn ws ((e : Int) + 1) L) nd fun x hx => by
    rcases List.mem_cons.mp hx with r | r
    · subst r
      exact wIn_mem.mpr ⟨c1, open_ x c1 (fun hm => c2.2 (List.mem_of_mem_take hm)) (by omega), by omega⟩
    · obtain ⟨k, hk, hx2⟩ := List.getElem_of_mem r
      rw [List.getElem_drop, List.getElem_take] at hx2
      have hk' : k < L.toNat - e := by
        rw [List.length_drop, List.length_take] at hk; omega
      have hlt : e + k < row.length := by omega
      have xl : x < ws.length := g.lt x (hx2 ▸ List.getElem_mem _)
      have wx : w2 ws x ≤ L := by
        have := e2 (e + k) (by omega) (by omega)
        rw [gd _ hlt, hx2] at this
        exact this
      refine wIn_mem.mpr ⟨xl, open_ x xl (fun hm => ?_) wx, wx⟩
      obtain ⟨j, hj, hxj⟩ := List.getElem_of_mem hm
      rw [List.getElem_take] at hxj
      have hj' : j < e - 1 := by rw [List.length_take] at hj; omega
      have := (List.nodup_iff_pairwise_ne.mp g.nd)
      rw [List.pairwise_iff_getElem] at this
      exact this j (e + k) (by omega) hlt (by omega) (hxj.trans hx2.symm)
  have ln : (c :: (row.take L.toNat).drop e).length = L.toNat - e + 1 := by
    clear e3 sub
    rw [List.length_cons, List.length_drop, List.length_take]; omega
  rw [ln] at sub
  clear e3
  exact ⟨⟨by omega, by omega⟩, ⟨by omega, by omega⟩, wIn_inc .., fun c hc => wIn_mem.mp hc, by omega⟩
def Good (ws : List (Int × Int)) : Paper → Prop
  | .order row => IsOrder ws row
  | .bar a b crowd => IsBar ws a b crowd
theorem ordB_good {ws : List (Int × Int)} (ok : WinOk ws.length ws) : ∀ k row, Greedy ws row → row.length + k = ws.length → Good ws (ordB ws k row)
  | 0, row, g, h => ⟨h, g.nd, g.lt, g.fit⟩
  | k + 1, row, g, h => by
    unfold ordB
    cases e : nextN ws row ((row.length : Int) + 1) ws.length with
    | none => exact bar_none ok g (by omega) e
    | some c =>
      show Good ws (if w2 ws c < (row.length : Int) + 1 then barOf ws row (w2 ws c) else ordB ws k (row ++ [c]))
      by_cases q : w2 ws c < (row.length : Int) + 1
      · rw [if_pos q]; exact bar_late ok g (by omega) e q
      · rw [if_neg q]; exact ordB_good ok k (row ++ [c]) (greedy_snoc g e q) (by rw [List.length_append]; simp; omega)
theorem paper_good {ws : List (Int × Int)} (ok : WinOk ws.length ws) : Good ws (paperOf ws) := ordB_good ok ws.length [] greedy_nil (by simp)

end Su
namespace Su
open PySem L2
local macro_rules | `(tactic| walk_at "side") => `(tactic| first | assumption | (show (0 : Int) < _; omega) | (show (0 : Int) ≤ _; omega) | (show (0 : Int) < _; split <;> omega) | (show _ ∨ _; omega) | (show _ ∧ _; omega) | exact ⟨by decide, by decide, by decide⟩ | exact ⟨by first | assumption | omega, by first | assumption | omega⟩)
local macro_rules | `(tactic| walk_at "x") => `(tactic| first | with_reducible refine Su.x_seq ?_ | with_reducible refine Su.x_gname ?_ | with_reducible refine Su.x_ret ?_ | with_reducible refine Su.x_ifS ?_ | ((with_reducible show L2.tVar _ _ _ _); refine Su.x_var rfl ?_) | with_reducible refine Su.x_c ?_ | with_reducible refine Su.x_op ?_ | with_reducible refine Su.x_iteT ?_ | with_reducible refine Su.x_eqI ?_ | with_reducible refine Su.x_eqB ?_ | with_reducible refine Su.x_neB ?_ | with_reducible refine Su.x_test ?_ | with_reducible refine Su.x_tB ?_ | with_reducible refine Su.x_isB' ?_ | with_reducible refine Su.x_not ?_ | with_reducible refine Su.x_and ?_ | with_reducible refine Su.x_or ?_ | with_reducible refine Su.x_andV ?_ | with_reducible refine Su.x_nil ?_ | with_reducible refine Su.x_cons ?_ | with_reducible refine Su.x_cb ?_ | with_reducible refine Su.x_call ?_ | with_reducible refine Su.x_next ?_ | with_reducible refine Su.x_iZipA ?_ | with_reducible refine Su.x_gcons ?_ | with_reducible refine Su.x_gnil ?_ | with_reducible refine Su.x_yes ?_ | with_reducible refine Su.x_lc ?_)
local macro_rules | `(tactic| walk_at "xs") => `(tactic| repeat walk_at "x")
local macro_rules | `(tactic| walk_at "if") => `(tactic| first | with_reducible refine Su.x_iteD (fun c => ?_) (fun c => ?_) | with_reducible refine Su.x_iteN (fun c => ?_) (fun c => ?_) | with_reducible refine Su.x_ite (fun c => ?_) (fun c => ?_))

/-! _law_same: two data alike -/
section
variable {K : PySem.W.Frag} {H : Hp} {Q : VK} {x : V} {d : PyData}
end
end Su
namespace Su
open PySem L2
local macro_rules | `(tactic| walk_at "side") => `(tactic| first | assumption | (show (0 : Int) < _; omega) | (show (0 : Int) ≤ _; omega) | (show (0 : Int) < _; split <;> omega) | (show _ ∨ _; omega) | (show _ ∧ _; omega) | exact ⟨by decide, by decide, by decide⟩ | exact ⟨by first | assumption | omega, by first | assumption | omega⟩)
local macro_rules | `(tactic| walk_at "xs") => `(tactic| repeat walk_at "x")
local macro_rules | `(tactic| walk_at "if") => `(tactic| first | with_reducible refine Su.x_iteD (fun c => ?_) (fun c => ?_) | with_reducible refine Su.x_iteN (fun c => ?_) (fun c => ?_) | with_reducible refine Su.x_ite (fun c => ?_) (fun c => ?_))

/-! windows by index, lists of numbers as data -/
section
variable {K : PySem.W.Frag} {H : Hp} {Q : VK} {a t p : Addr} {i : Int} {v w : V} {r : List V}
theorem x_winix {ws : List (Int × Int)} (h : Dp K H (.ref a) (dWin ws)) (h0 : 0 ≤ i) (h1 : i < ws.length) (k : ∀ t, SqT K H t [.int (ws.getD i.toNat (0, 0)).1, .int (ws.getD i.toNat (0, 0)).2] → Q (.ref t) H) : rIxL K (.ref a) (.int i) H Q := by
  obtain ⟨q, xs, e, hq, hx, hat⟩ := win_at h
  cases e
  have h2 : i.toNat < xs.length := by omega
  obtain ⟨w, t, ew, et, ht⟩ := hat i.toNat _ (List.getElem?_eq_getElem h2)
  have hd : ws.getD i.toNat (0, 0) = w := by rw [List.getD_eq_getElem?_getD, ew]; rfl
  refine x_ixL (v := .ref t) hq ?_ (k t (by rw [hd]; exact ht))
  rw [at_get (d := .non) h0 (by omega), List.getD_eq_getElem?_getD, List.getElem?_eq_getElem h2, et]
  rfl
theorem x_ix0 (e : SqT K H t (v :: r)) (h : Q v H) : rIxT K (.ref t) (.int 0) H Q := x_ixT e (by
  unfold atI ixN
  rw [if_pos (by decide), if_pos (by simp)]
  rfl) h
theorem x_ix1 (e : SqT K H t (w :: v :: r)) (h : Q v H) : rIxT K (.ref t) (.int 1) H Q := x_ixT e (by
  unfold atI ixN
  rw [if_pos (by decide), if_pos (by simp; omega)]
  rfl) h
end
end Su
namespace Su
open PySem L2
local macro_rules | `(tactic| walk_at "side") => `(tactic| first | assumption | (show (0 : Int) < _; omega) | (show (0 : Int) ≤ _; omega) | (show (0 : Int) < _; split <;> omega) | (show _ ∨ _; omega) | (show _ ∧ _; omega) | exact ⟨by decide, by decide, by decide⟩ | exact ⟨by first | assumption | omega, by first | assumption | omega⟩)
local macro_rules | `(tactic| walk_at "xs") => `(tactic| repeat walk_at "x")
local macro_rules | `(tactic| walk_at "if") => `(tactic| first | with_reducible refine Su.x_iteD (fun c => ?_) (fun c => ?_) | with_reducible refine Su.x_iteN (fun c => ?_) (fun c => ?_) | with_reducible refine Su.x_ite (fun c => ?_) (fun c => ?_))

/-! what walks over windows share -/
def optI : Option Nat → Int
  | none => -1
  | some c => (c : Int)
theorem inV_nat (i : Nat) : ∀ row : List Nat, inV (.int (i : Int)) (nI row) = decide (i ∈ row)
  | [] => rfl
  | x :: row => by
    show (eqV (.int (x : Int)) (.int (i : Int)) || inV (.int (i : Int)) (nI row)) = _
    rw [inV_nat i row]
    by_cases c : i = x
    · subst c
      simp [eqV]
    · have : ¬ (x : Int) = (i : Int) := by omega
      simp [eqV, this, c]
theorem flat_nat : ∀ row : List Nat, (nI row).all flatV = true
  | [] => rfl
  | x :: row => by
    show (flatV (.int (x : Int)) && (nI row).all flatV) = true
    rw [flat_nat row]; rfl
section
variable {K : PySem.W.Frag} {H : Hp} {Q : VK} {p : Addr} {i : Nat} {row : List Nat}
theorem x_notInN (e : SqL K H p (nI row)) (h : Q (.bl (!decide (i ∈ row))) H) : rIn K true (.int (i : Int)) (.ref p) H Q := ⟨p, nI row, rfl, .inl e, rfl, flat_nat row, by rw [if_pos rfl, inV_nat]; exact h⟩
theorem at_getN {xs : List Nat} {i : Int} (h0 : 0 ≤ i) (h1 : i < xs.length) : atI (nI xs) i = some (.int (xs.getD i.toNat 0 : Nat)) := by
  have h2 : i.toNat < xs.length := by omega
  unfold nI
  rw [at_get (d := .int 0) h0 (by rw [List.length_map]; exact h1), List.getD_eq_getElem?_getD, List.getD_eq_getElem?_getD, List.getElem?_map, List.getElem?_eq_getElem h2]
  rfl
theorem nI_len (l : List Nat) : (nI l).length = l.length := List.length_map ..
theorem nI_snoc (l : List Nat) (x : Nat) : nI (l ++ [x]) = nI l ++ [.int (x : Int)] := by unfold nI; rw [List.map_append]; rfl
end
/-- a paper that was told at v: its tuple and its list are new -/
def PaperAt (H0 H : Hp) (v : V) : Paper → Prop
  | .order row => ∃ t p, v = .ref t ∧ H0 t = none ∧ H0 p = none ∧ H t = some (.tup [.str "order", .ref p]) ∧ H p = some (.lst (nI row))
  | .bar a b crowd => ∃ t p, v = .ref t ∧ H0 t = none ∧ H0 p = none ∧ H t = some (.tup [.str "bar", .int a, .int b, .ref p]) ∧ H p = some (.lst (nI crowd))

end Su
namespace Su
open PySem L2
local macro_rules | `(tactic| walk_at "side") => `(tactic| first | assumption | (show (0 : Int) < _; omega) | (show (0 : Int) ≤ _; omega) | (show (0 : Int) < _; split <;> omega) | (show _ ∨ _; omega) | (show _ ∧ _; omega) | exact ⟨by decide, by decide, by decide⟩ | exact ⟨by first | assumption | omega, by first | assumption | omega⟩)
local macro_rules | `(tactic| walk_at "x") => `(tactic| first
  | with_reducible refine Su.x_seq ?_ | with_reducible refine Su.x_asg ?_ | with_reducible refine Su.x_gname ?_ | with_reducible refine Su.x_drop ?_ | with_reducible refine Su.x_ret ?_ | with_reducible refine Su.x_ifS ?_
  | ((with_reducible show L2.tVar _ _ _ _); refine Su.x_var rfl ?_) | with_reducible refine Su.x_c ?_ | with_reducible refine Su.x_op ?_ | with_reducible refine Su.x_rI0 ?_ | ((with_reducible refine Su.x_rI ?_ ?_); focus walk_at "side")
  | ((with_reducible show L2.rIxL _ (L2.V.ref _) (L2.V.int _) _ _); refine Su.x_ixI (by assumption) (by first | decide | omega) (by omega) ?_) | with_reducible refine Su.x_isi_int_int ?_ | with_reducible refine Su.x_isi_int_bool ?_ | with_reducible refine Su.x_isi_int_str ?_ | with_reducible refine Su.x_isi_int_list ?_ | with_reducible refine Su.x_isi_int_tuple ?_ | with_reducible refine Su.x_isi_bool_int ?_ | with_reducible refine Su.x_isi_bool_bool ?_ | with_reducible refine Su.x_isi_bool_str ?_ | with_reducible refine Su.x_isi_bool_list ?_ | with_reducible refine Su.x_isi_bool_tuple ?_ | with_reducible refine Su.x_isi_str_int ?_ | with_reducible refine Su.x_isi_str_bool ?_ | with_reducible refine Su.x_isi_str_str ?_ | with_reducible refine Su.x_isi_str_list ?_ | with_reducible refine Su.x_isi_str_tuple ?_ | with_reducible refine Su.x_isi_NoneType_int ?_ | with_reducible refine Su.x_isi_NoneType_bool ?_ | with_reducible refine Su.x_isi_NoneType_str ?_ | with_reducible refine Su.x_isi_NoneType_list ?_ | with_reducible refine Su.x_isi_NoneType_tuple ?_ | with_reducible refine Su.x_rGt ?_ | with_reducible refine Su.x_rGe ?_ | with_reducible refine Su.x_iteF ?_ | with_reducible refine Su.x_iteT ?_ | with_reducible refine Su.x_iteNT ?_ | with_reducible refine Su.x_iteNF ?_ | with_reducible refine Su.x_eqI ?_ | with_reducible refine Su.x_neI ?_ | with_reducible refine Su.x_eqS ?_ | with_reducible refine Su.x_neS ?_ | with_reducible refine Su.x_eqB ?_ | with_reducible refine Su.x_neB ?_
  | with_reducible refine Su.x_test ?_ | with_reducible refine Su.x_tB ?_ | with_reducible refine Su.x_isB ?_ | with_reducible refine Su.x_isB' ?_ | with_reducible refine Su.x_not ?_ | with_reducible refine Su.x_and ?_ | with_reducible refine Su.x_or ?_
  | with_reducible refine Su.x_andV ?_ | with_reducible refine Su.x_orV ?_ | with_reducible refine Su.x_notV ?_ | with_reducible refine Su.x_chain ?_ | with_reducible refine Su.x_nil ?_ | with_reducible refine Su.x_cons ?_ | with_reducible refine Su.x_cb ?_ | with_reducible refine Su.x_call ?_
  | with_reducible refine Su.x_un ?_ | with_reducible refine Su.x_rU ?_ | with_reducible refine Su.x_abs ?_ | with_reducible refine Su.x_max2 ?_ | with_reducible refine Su.x_min2 ?_ | with_reducible refine Su.x_int1 ?_ | with_reducible refine Su.x_intB ?_
  | with_reducible refine Su.x_lst ?_ | with_reducible refine Su.x_tup ?_ | with_reducible refine Su.x_bmL ?_ | with_reducible refine Su.x_next ?_ | with_reducible refine Su.x_for ?_ | with_reducible refine Su.x_iList ?_ | with_reducible refine Su.x_iRng1 ?_ | with_reducible refine Su.x_iRng2 ?_ | with_reducible refine Su.x_whileN ?_ | with_reducible refine Su.x_iEnum ?_ | with_reducible refine Su.x_iZip ?_ | with_reducible refine Su.x_iZipA ?_ | with_reducible refine Su.x_iTup ?_ | with_reducible refine Su.x_gcons ?_ | with_reducible refine Su.x_gnil ?_ | with_reducible refine Su.x_gsub ?_ | with_reducible refine Su.x_yes ?_ | with_reducible refine Su.x_lc ?_ | with_reducible refine Su.x_sl ?_ | with_reducible refine Su.x_nopart ?_ | with_reducible refine Su.x_part ?_ | with_reducible refine Su.x_isI ?_ | with_reducible refine Su.x_lstRg ?_ | with_reducible refine Su.x_rg1 ?_ | with_reducible refine Su.x_augS ?_ | with_reducible refine Su.x_ipI ?_ | ((with_reducible show L2.tAug _ _ _ _ _ _); refine Su.x_aug rfl ?_) | with_reducible refine Su.x_callS ?_ | with_reducible refine Su.x_tryAs ?_)
local macro_rules | `(tactic| walk_at "xs") => `(tactic| repeat walk_at "x")
local macro_rules | `(tactic| walk_at "if") => `(tactic| first | with_reducible refine Su.x_iteD (fun c => ?_) (fun c => ?_) | with_reducible refine Su.x_iteN (fun c => ?_) (fun c => ?_) | with_reducible refine Su.x_ite (fun c => ?_) (fun c => ?_))
/-! a set made of a list: the call around its filling -/
section
open PySem.Calls PyProof.Rows
/-- a set as it is made -/
abbrev newS (w : World) : Obj := { cls := .type "set", dict := none, data := .set #[] 0 (.fresh 0 0 (!w.params.followText "set-order")) }
variable {P : Program} {w : World} {A : Around} {E : Value → Shared → Prop} {s : Shared} {l : Addr} {xs : Array Value}
theorem wants_or {Q : Value → Shared → Prop} {r : Result} (h : wants Q E r s) : (∃ v, r = .ok (.ret v) ∧ Q v s) ∨ ∃ e, r = .error e ∧ E e s := by
  cases r with
  | error e => exact .inr ⟨e, rfl, h⟩
  | ok f => cases f with
    | ret v => exact .inl ⟨v, rfl, h⟩
    | _ => exact h.elim
theorem setMade {v : Value} {Q : Value → Shared → Prop} (h : wpAny (model P w) A.in1.in1 (Builtin.«set.__init__» ⟨[.ref s.heap.objs.size, v], []⟩) (fun fin u => fin = .done (.ret .none) ∧ Q (.ref s.heap.objs.size) u) E { s with heap := s.heap.push (newS w) }) :
    wpAny (model P w) A (PySem.call (.type "set") [v]) Q E s := by
  have set := F.called_set
  obtain ⟨_, _, mro⟩ := set.mro
  have ⟨f1, f2, f3, f4, f5⟩ : _ ∧ _ ∧ _ ∧ _ ∧ _ := ⟨set.made, set.sub, set.notType, set.canCreate, F.typeCall_set_1 v⟩
  have f6 := set.init.lookup
  refine wpAny_call (codeAny_of_tree ?_)
  show wpAny _ _ (callAny (.type "set") _) _ _ _
  refine wpAny_pure ⟨Code.quiet_builtin _ (by decide +kernel), codeAny_builtin F.entry_type_call ?_⟩
  rw [Around.under_plain (weight_type_call_type "set" [v] []) rfl]
  wp_walk
  refine codeAny_mono (code_set_led1 v (E := E) (Q₁ := fun r u => r = .ref s.heap.objs.size ∧ u = { s with heap := s.heap.push (newS w) }) ⟨rfl, rfl⟩) fun r u hr => ?_
  obtain ⟨_, rfl, rfl, rfl⟩ | ⟨e, rfl, he⟩ := wants_or hr
  · have hT : Shared.TypeIs { s with heap := s.heap.push (newS w) } (.ref s.heap.objs.size) "set" := ⟨_, Heap.get?_push_size _ rfl, rfl⟩
    have f7 := set.init.bind (.ref s.heap.objs.size)
    wp_walk
    have init := codeAny_call_builtin (A := A.in1) (R := wants (fun r u => r = .none ∧ Q (.ref s.heap.objs.size) u) E) set.init.plain F.entry_set_init (check_set_init_1 hT (wpAny_mono h (fun fin u z => by rw [z.1]; exact ⟨rfl, z.2⟩) fun _ _ z => z))
    refine codeAny_mono init fun r u hr => ?_
    obtain ⟨_, rfl, rfl, z⟩ | ⟨e, rfl, he⟩ := wants_or hr
    · wp_walk
      exact z
    · exact he
  · exact he
/-- the filling begins: the list's iterator stands behind the new set -/
abbrev begun (w : World) (s : Shared) (l : Addr) : Shared := { s with heap := (s.heap.push (newS w)).push { cls := .type "list_iterator", data := .fields #[.ref l, .int 0 0] } }
theorem begun_old {b : Addr} {o : Obj} (e : s.heap.get? b = some o) : (begun w s l).heap.get? b = some o := Heap.get?_push_of_some _ (Heap.get?_push_of_some _ e)
/-- what stood ahead of the set is as it was -/
theorem begun_kept {s' : Shared} (m : Moved (s.heap.objs.size :: [(s.heap.push (newS w)).objs.size]) (fun a b => b = a) (begun w s l) s') : (∀ b o, s.heap.get? b = some o → s'.heap.get? b = some o) ∧ s' = { s with heap := s'.heap, toks := s'.toks } := by
  refine ⟨fun b o e => m.heap b o (fun i => ?_) (begun_old e), by rw [Moved.eq_with m]⟩
  have lt := Heap.lt_size e
  simp only [List.mem_cons, List.not_mem_nil, or_false] at i
  exact i.elim (Nat.ne_of_lt lt) (Nat.ne_of_lt (by rw [Heap.size_push]; exact Nat.lt_succ_of_lt lt))
/-- the new set lies off the iterator and the list -/
theorem begun_off (hl : s.heap.IsList l xs) : l ≠ (s.heap.push (newS w)).objs.size ∧ s.heap.objs.size ∉ [(s.heap.push (newS w)).objs.size, l] := by
  obtain ⟨_, e, _⟩ := hl
  have lt := Heap.lt_size e
  rw [Heap.size_push]
  refine ⟨Nat.ne_of_lt (Nat.lt_succ_of_lt lt), ?_⟩
  simp only [List.mem_cons, List.not_mem_nil, or_false, not_or]
  exact ⟨Nat.ne_of_lt (Nat.lt_succ_self _), Nat.ne_of_gt lt⟩
theorem listInto {R : Fin → Shared → Prop} (hl : s.heap.IsList l xs)
    (fill : codeAny (model P w) A (.builtin "set.update.loop" ⟨[.ref s.heap.objs.size, .ref (s.heap.push (newS w)).objs.size], []⟩) (fun r u => r = .ok (.ret .none) ∧ R (.done (.ret .none)) u) (begun w s l)) :
    wpAny (model P w) A (Builtin.«set.__init__» ⟨[.ref s.heap.objs.size, .ref l], []⟩) R E { s with heap := s.heap.push (newS w) } := by
  obtain ⟨ol, e1, e2, nl, e3⟩ := id hl
  have L := Heap.get?_push_of_some (newS w) e1
  have tS : Shared.TypeIs { s with heap := s.heap.push (newS w) } (.ref s.heap.objs.size) "set" := ⟨_, Heap.get?_push_size _ rfl, rfl⟩
  have tL : Shared.TypeIs { s with heap := s.heap.push (newS w) } (.ref l) "list" := ⟨_, L, e2⟩
  have sub1 := PySem.F.sub_list_set
  have sub2 := PySem.F.sub_list_frozenset
  have nd : (Value.type "list" == Value.type "dict") = false := by decide
  have hl1 : Heap.IsList (s.heap.push (newS w)) l xs := ⟨_, L, e2, nl, e3⟩
  unfold Builtin.«set.__init__» noKeywords Builtin.Frozenset.updateFrom
  wp_walk using wpAny_pyIter_list hl1
  refine codeAny_mono fill fun r u z => ?_
  rw [z.1]
  exact wpAny_pure (wpAny_pure z.2)
end

end Su
namespace Su
open PySem L2
local macro_rules | `(tactic| walk_at "side") => `(tactic| first | assumption | (show (0 : Int) < _; omega) | (show (0 : Int) ≤ _; omega) | (show (0 : Int) < _; split <;> omega) | (show _ ∨ _; omega) | (show _ ∧ _; omega) | exact ⟨by decide, by decide, by decide⟩ | exact ⟨by first | assumption | omega, by first | assumption | omega⟩)
local macro_rules | `(tactic| walk_at "x") => `(tactic| first
  | with_reducible refine Su.x_seq ?_ | with_reducible refine Su.x_asg ?_ | with_reducible refine Su.x_gname ?_ | with_reducible refine Su.x_drop ?_ | with_reducible refine Su.x_ret ?_ | with_reducible refine Su.x_ifS ?_
  | ((with_reducible show L2.tVar _ _ _ _); refine Su.x_var rfl ?_) | with_reducible refine Su.x_c ?_ | with_reducible refine Su.x_op ?_ | with_reducible refine Su.x_rI0 ?_ | ((with_reducible refine Su.x_rI ?_ ?_); focus walk_at "side")
  | ((with_reducible show L2.rIxL _ (L2.V.ref _) (L2.V.int _) _ _); refine Su.x_ixI (by assumption) (by first | decide | omega) (by omega) ?_) | with_reducible refine Su.x_isi_int_int ?_ | with_reducible refine Su.x_isi_int_bool ?_ | with_reducible refine Su.x_isi_int_str ?_ | with_reducible refine Su.x_isi_int_list ?_ | with_reducible refine Su.x_isi_int_tuple ?_ | with_reducible refine Su.x_isi_bool_int ?_ | with_reducible refine Su.x_isi_bool_bool ?_ | with_reducible refine Su.x_isi_bool_str ?_ | with_reducible refine Su.x_isi_bool_list ?_ | with_reducible refine Su.x_isi_bool_tuple ?_ | with_reducible refine Su.x_isi_str_int ?_ | with_reducible refine Su.x_isi_str_bool ?_ | with_reducible refine Su.x_isi_str_str ?_ | with_reducible refine Su.x_isi_str_list ?_ | with_reducible refine Su.x_isi_str_tuple ?_ | with_reducible refine Su.x_isi_NoneType_int ?_ | with_reducible refine Su.x_isi_NoneType_bool ?_ | with_reducible refine Su.x_isi_NoneType_str ?_ | with_reducible refine Su.x_isi_NoneType_list ?_ | with_reducible refine Su.x_isi_NoneType_tuple ?_ | with_reducible refine Su.x_rGt ?_ | with_reducible refine Su.x_rGe ?_ | with_reducible refine Su.x_iteF ?_ | with_reducible refine Su.x_iteT ?_ | with_reducible refine Su.x_iteNT ?_ | with_reducible refine Su.x_iteNF ?_ | with_reducible refine Su.x_eqI ?_ | with_reducible refine Su.x_neI ?_ | with_reducible refine Su.x_eqS ?_ | with_reducible refine Su.x_neS ?_ | with_reducible refine Su.x_eqB ?_ | with_reducible refine Su.x_neB ?_
  | with_reducible refine Su.x_test ?_ | with_reducible refine Su.x_tB ?_ | with_reducible refine Su.x_isB ?_ | with_reducible refine Su.x_isB' ?_ | with_reducible refine Su.x_not ?_ | with_reducible refine Su.x_and ?_ | with_reducible refine Su.x_or ?_
  | with_reducible refine Su.x_andV ?_ | with_reducible refine Su.x_orV ?_ | with_reducible refine Su.x_notV ?_ | with_reducible refine Su.x_chain ?_ | with_reducible refine Su.x_nil ?_ | with_reducible refine Su.x_cons ?_ | with_reducible refine Su.x_cb ?_ | with_reducible refine Su.x_call ?_
  | with_reducible refine Su.x_un ?_ | with_reducible refine Su.x_rU ?_ | with_reducible refine Su.x_abs ?_ | with_reducible refine Su.x_max2 ?_ | with_reducible refine Su.x_min2 ?_ | with_reducible refine Su.x_int1 ?_ | with_reducible refine Su.x_intB ?_
  | with_reducible refine Su.x_lst ?_ | with_reducible refine Su.x_tup ?_ | with_reducible refine Su.x_bmL ?_ | with_reducible refine Su.x_next ?_ | with_reducible refine Su.x_for ?_ | with_reducible refine Su.x_iList ?_ | with_reducible refine Su.x_iRng1 ?_ | with_reducible refine Su.x_iRng2 ?_ | with_reducible refine Su.x_whileN ?_ | with_reducible refine Su.x_iEnum ?_ | with_reducible refine Su.x_iZip ?_ | with_reducible refine Su.x_iZipA ?_ | with_reducible refine Su.x_iTup ?_ | with_reducible refine Su.x_gcons ?_ | with_reducible refine Su.x_gnil ?_ | with_reducible refine Su.x_gsub ?_ | with_reducible refine Su.x_yes ?_ | with_reducible refine Su.x_lc ?_ | with_reducible refine Su.x_sl ?_ | with_reducible refine Su.x_nopart ?_ | with_reducible refine Su.x_part ?_ | with_reducible refine Su.x_isI ?_ | with_reducible refine Su.x_lstRg ?_ | with_reducible refine Su.x_rg1 ?_ | with_reducible refine Su.x_augS ?_ | with_reducible refine Su.x_ipI ?_ | ((with_reducible show L2.tAug _ _ _ _ _ _); refine Su.x_aug rfl ?_) | with_reducible refine Su.x_callS ?_ | with_reducible refine Su.x_tryAs ?_)
local macro_rules | `(tactic| walk_at "xs") => `(tactic| repeat walk_at "x")
local macro_rules | `(tactic| walk_at "if") => `(tactic| first | with_reducible refine Su.x_iteD (fun c => ?_) (fun c => ?_) | with_reducible refine Su.x_iteN (fun c => ?_) (fun c => ?_) | with_reducible refine Su.x_ite (fun c => ?_) (fun c => ?_))
/-! sorted(set(xs)) of a list of whole numbers -/
section
open PySem.Calls PyProof.Rows
variable {P : Program} {w : World} {A : Around} {E : Value → Shared → Prop} {s : Shared} {l : Addr} {xs : Array Value} {ns : List Int}
/-- the items of a list of whole numbers, one by one -/
theorem ints_at (hi : IntsAre xs.toList ns) (i : Nat) (v : Value) (e : xs[i]? = some v) : ∃ k t, ns[i]? = some k ∧ v = .int k t := by
  have size : xs.toList.length = ns.length := IntsAre.length hi
  have il : i < ns.length := by rw [← size, Array.length_toList]; exact (Array.getElem?_eq_some_iff.mp e).1
  obtain ⟨t, et⟩ := IntsAre.int_at hi i v (by rw [Array.getElem?_toList]; exact e)
  have en := List.getElem?_eq_getElem il
  exact ⟨_, t, en, by rw [et, List.getD_eq_getElem?_getD, en]; rfl⟩
theorem set_of_list {Q : Value → Shared → Prop} (hh : A.handled = none) (hl : s.heap.IsList l xs) (hi : IntsAre xs.toList ns) (hb : ns.length + 1 < scanBound)
    (h : ∀ (h' : Heap) (tk c : Nat), SetR w h' s.heap.objs.size (fun j => decide (j ∈ ns)) c → c ≤ ns.length → (∀ b o, s.heap.get? b = some o → h'.get? b = some o) → Q (.ref s.heap.objs.size) { s with heap := h', toks := tk }) :
    wpAny (model P w) A (PySem.call (.type "set") [.ref l]) Q E s := by
  have size : xs.size = ns.length := by rw [← Array.length_toList]; exact IntsAre.length hi
  obtain ⟨far, off⟩ := begun_off (w := w) hl
  obtain ⟨o, e1, e2, nl, e3⟩ := id hl
  have hh3 : A.in1.in1.in1.handled = none := by simpa using hh
  refine setMade (listInto hl (set_update_ints ((Walks.list hh3 _ l far xs).toS) _ off ns size hb (ints_at hi) _ 0 _ rfl (Nat.zero_le _) ⟨⟨_, Heap.get?_push_size _ rfl, rfl, rfl⟩, ⟨o, begun_old e1, e2, nl, e3⟩⟩ ⟨0, Nat.le_refl 0, setR_new_at (Heap.get?_push_of_some _ (Heap.get?_push_size _ rfl))⟩ fun u c m hc R => ⟨rfl, rfl, ?_⟩))
  obtain ⟨old, eu⟩ := begun_kept m
  rw [eu]
  exact h _ _ c R (size ▸ hc) old
end
section
variable {X : Cx} {e : Expr} {t t' : TE} {p p2 pos q : Pos}
def rSetOfI (K : PySem.W.Frag) (w : World) : CR := fun xs H Q => ∃ (l : Addr) (ns : List Int), xs = [V.ref l] ∧ SqL K H l (ns.map V.int) ∧ ns.length + 1 < scanBound ∧ ∀ a c, H a = none → c ≤ ns.length → Q (.ref a) (upd H a (SetO w a (fun j => decide (j ∈ ns)) c))
theorem vals_ints : ∀ {ns : List Int} {us : List Value}, Vals (ns.map V.int) us → PyProof.Rows.IntsAre us ns
  | [], _, .nil => .nil
  | n :: ns, _, .cons r t => by
    obtain ⟨k, rfl⟩ := r
    exact .cons _ _ (vals_ints t)
theorem cr_setOfI (hc : X.calm = true) : CallR X (.type "set") (rSetOfI X.K X.w) := by
  intro pins s σ H xs us Q I r h
  obtain ⟨l, ns, rfl, hq, hb, k⟩ := h
  cases r with
  | cons r rr =>
    cases rr; cases r
    obtain ⟨its, rv, pl, hz⟩ := I.list hq
    refine set_of_list (I.ok.hd hc) pl.isList (by simpa using vals_ints rv) hb fun h' tk c R hcl kp => ?_
    exact ⟨.ref _, upd H s.heap.objs.size (SetO X.w s.heap.objs.size (fun j => decide (j ∈ ns)) c), I.laid (t' := tk) kp (Nat.le_refl _) (setO_new R), rfl, k _ c (I.hok.fresh (Nat.le_refl _)) hcl⟩
theorem al_setOf {K : PySem.W.Frag} {w : World} {H : Hp} {Q : VK} {l : Addr} {ns : List Int} (h : SqL K H l (ns.map V.int)) (hl : ns.length ≤ 60) (q : ∀ a c H', H a = none → Same H H' → c ≤ ns.length → H' a = some (SetO w a (fun j => decide (j ∈ ns)) c) → Q (.ref a) H') : rSetOfI K w [.ref l] H Q :=
  ⟨l, ns, rfl, h, Nat.lt_of_le_of_lt (Nat.succ_le_succ hl) (by decide), fun a c na hc => q a c _ na (same_new (Same.refl H) na) hc upd_same⟩
theorem al_sortedSet {w : World} {H : Hp} {Q : VK} {a : Addr} {ns : List Int} {c : Nat} (h : H a = some (SetO w a (fun j => decide (j ∈ ns)) c)) (hc : c ≤ 60) (q : ∀ (p : Addr) (ms : List Int) (H' : Hp), H p = none → Same H H' → ms.Pairwise (· < ·) → (∀ k, k ∈ ms ↔ k ∈ ns) → H' p = some (.lst (ms.map V.int)) → Q (.ref p) H') : rSortedSet w [.ref a] H Q :=
  ⟨a, _, c, rfl, h, by omega, fun ms p pw hm _ np => q p ms _ np (same_new (Same.refl H) np) pw (fun k => by rw [hm k]; simp) upd_same⟩
end

end Su
namespace Su
open PySem L2
local macro_rules | `(tactic| walk_at "side") => `(tactic| first | assumption | (show (0 : Int) < _; omega) | (show (0 : Int) ≤ _; omega) | (show (0 : Int) < _; split <;> omega) | (show _ ∨ _; omega) | (show _ ∧ _; omega) | exact ⟨by decide, by decide, by decide⟩ | exact ⟨by first | assumption | omega, by first | assumption | omega⟩)
local macro_rules | `(tactic| walk_at "x") => `(tactic| first | with_reducible refine Su.x_seq ?_ | with_reducible refine Su.x_gname ?_ | with_reducible refine Su.x_ret ?_ | with_reducible refine Su.x_ifS ?_ | ((with_reducible show L2.tVar _ _ _ _); refine Su.x_var rfl ?_) | with_reducible refine Su.x_c ?_ | with_reducible refine Su.x_op ?_ | with_reducible refine Su.x_rI0 ?_ | with_reducible refine Su.x_iteT ?_ | with_reducible refine Su.x_iteNF ?_ | with_reducible refine Su.x_neI ?_ | with_reducible refine Su.x_test ?_ | with_reducible refine Su.x_isB' ?_ | with_reducible refine Su.x_not ?_ | with_reducible refine Su.x_or ?_ | with_reducible refine Su.x_chain ?_ | with_reducible refine Su.x_nil ?_ | with_reducible refine Su.x_cons ?_ | with_reducible refine Su.x_cb ?_ | with_reducible refine Su.x_next ?_ | with_reducible refine Su.x_for ?_ | with_reducible refine Su.x_iEnum ?_ | with_reducible refine Su.x_gcons ?_ | with_reducible refine Su.x_gnil ?_ | with_reducible refine Su.x_isI ?_ | with_reducible refine Su.x_lstRg ?_ | with_reducible refine Su.x_rg1 ?_)
local macro_rules | `(tactic| walk_at "xs") => `(tactic| repeat walk_at "x")
local macro_rules | `(tactic| walk_at "if") => `(tactic| first | with_reducible refine Su.x_iteD (fun c => ?_) (fun c => ?_) | with_reducible refine Su.x_iteN (fun c => ?_) (fun c => ?_) | with_reducible refine Su.x_ite (fun c => ?_) (fun c => ?_))

/-! _law_keeps: is a row of numbers an order of the windows -/
def KeepsP (ws : List (Int × Int)) (row : List Int) : Prop := ∃ r : List Nat, row = r.map (fun (i : Nat) => (i : Int)) ∧ IsOrder ws r
theorem perm_nat {row : List Int} {n : Nat} (h : row.Perm ((List.range n).map fun (i : Nat) => (i : Int))) : ∃ r : List Nat, row = r.map (fun (i : Nat) => (i : Int)) ∧ r.Perm (List.range n) := by
  refine ⟨row.map Int.toNat, ?_, ?_⟩
  · rw [List.map_map]
    have : ∀ x ∈ row, ((fun (i : Nat) => (i : Int)) ∘ Int.toNat) x = x := fun x hx => by
      obtain ⟨i, _, rfl⟩ := List.mem_map.mp (h.mem_iff.mp hx)
      show ((i : Int).toNat : Int) = i
      omega
    rw [List.map_congr_left this, List.map_id']
  · have := h.map Int.toNat
    rw [List.map_map] at this
    have e : (List.range n).map (Int.toNat ∘ fun (i : Nat) => (i : Int)) = List.range n := by
      rw [List.map_congr_left (g := id) (fun i _ => by show (i : Int).toNat = i; omega), List.map_id]
    rw [e] at this
    exact this
theorem sorted_range (n : Nat) : ((List.range n).map fun (i : Nat) => (i : Int)).Pairwise (· ≤ ·) := by
  rw [List.pairwise_map]
  exact List.Pairwise.imp (fun h => by omega) List.pairwise_lt_range
theorem sorted_iff {row ns : List Int} {n : Nat} (pm : ns.Perm row) (pw : ns.Pairwise (· ≤ ·)) : ns = (List.range n).map (fun (i : Nat) => (i : Int)) ↔ row.Perm ((List.range n).map fun (i : Nat) => (i : Int)) := by
  constructor
  · intro e; rw [← e]; exact pm.symm
  · intro h
    exact List.Perm.eq_of_pairwise (fun _ _ _ _ a b => Int.le_antisymm a b) pw (sorted_range n) (pm.trans h)
theorem ints_nI (r : List Nat) : (r.map fun (i : Nat) => (i : Int)).map V.int = nI r := by rw [List.map_map]; rfl
theorem order_of_perm {ws : List (Int × Int)} {r : List Nat} (pm : r.Perm (List.range ws.length)) (fit : ∀ k (h : k < r.length), w1 ws r[k] ≤ (k : Int) + 1 ∧ (k : Int) + 1 ≤ w2 ws r[k]) : IsOrder ws r :=
  ⟨by rw [pm.length_eq, List.length_range], pm.nodup_iff.mpr List.nodup_range, fun x hx => List.mem_range.mp (pm.mem_iff.mp hx), fit⟩
theorem perm_of_order {ws : List (Int × Int)} {r : List Nat} (o : IsOrder ws r) : r.Perm (List.range ws.length) := by
  rw [List.perm_ext_iff_of_nodup o.nd List.nodup_range]
  intro a
  rw [List.mem_range]
  exact ⟨o.lt a, fun h => nodup_all o.nd o.len o.lt h⟩
def sp_law_keeps (K : PySem.W.Frag) : Sp := fun vs H Q _ => ∃ (v : V) (ws : List (Int × Int)) (p : Addr) (row : List Int), vs = [v, .ref p] ∧ Dp K H v (dWin ws) ∧ SqL K H p (row.map V.int) ∧ ws.length ≤ 1000 ∧
  ∀ b H', Same H H' → (b = true ↔ KeepsP ws row) → Q (.bl b) H'
abbrev N_law_keeps : List Str := ["_law_windows_here", "_law_row", "_law_at", "_law_number"]
def t_law_keeps (K : PySem.W.Frag) : TS :=
 (tSeq (tIfS (tOr (tTest (tOp rNe (tCB (rLenSeq K) (tCons (tVar 1) tNil)) (tCB (rLenSeq K) (tCons (tVar 0) tNil)))) (tTest (tOp (rNeD K) (tCB (rSortedI K) (tCons (tVar 1) tNil)) (tLstRg (tRg1 (tCB (rLenSeq K) (tCons (tVar 0) tNil)))))))
 (tRet (tC (.bl false)))
 tNext)
 (tSeq (tFor (iEnum K (tCons (tVar 1) tNil)) (gTup K 2 (gCons (gName 2) (gCons (gName 3) gNil)))
 (tIfS (tNot (tTest (tChain rLe rLe (tOp (rIxT K) (tOp (rIxL K) (tVar 0) (tVar 3)) (tC (.int 0))) (tOp rAdd (tVar 2) (tC (.int 1))) (tOp (rIxT K) (tOp (rIxL K) (tVar 0) (tVar 3)) (tC (.int 1))))))
 (tRet (tC (.bl false)))
 tNext))
 (tRet (tC (.bl true)))))

theorem len_law_keeps {K : PySem.W.Frag} : ∀ vs H Q E, sp_law_keeps K vs H Q E → vs.length = ["a", "b"].length := by
  rintro vs H Q E ⟨_, _, _, _, rfl, _⟩; rfl
theorem pure_law_keeps {K : PySem.W.Frag} {vs : List V} {H : Hp} {Q : VK} {E : XK} (h : sp_law_keeps K vs H Q E) : t_law_keeps K { nx := fun _ H' => Q .non H', rt := Q } (start N_law_keeps vs) H := by
  obtain ⟨v, ws, p, row, rfl, hw, hp, hl, k⟩ := h
  obtain ⟨q, xs, rfl, hq, hx, hat⟩ := win_at hw
  have no : ¬ KeepsP ws row → ∀ H', Same H H' → Q (.bl false) H' := fun h H' s => k false H' s ⟨(fun z => by cases z), fun z => absurd z h⟩
  have pmK : KeepsP ws row → row.Perm ((List.range ws.length).map fun (i : Nat) => (i : Int)) := by
    rintro ⟨r, rfl, o⟩
    exact (perm_of_order o).map _
  unfold t_law_keeps
  walk_at "xs"
  refine x_lenL hp ?_
  walk_at "xs"
  refine x_lenL hq ?_
  rw [hx, List.length_map]
  walk_at "xs"
  walk_at "if"
  · rename_i c
    walk_at "xs"
    refine no (fun z => c ?_) H (Same.refl H)
    have := (pmK z).length_eq
    rw [List.length_map, List.length_range] at this
    omega
  rename_i c
  have hlen : row.length = ws.length := by omega
  walk_at "xs"
  refine al_sorted hp fun ps ns H1 nps s1 pm pw hps => ?_
  walk_at "xs"
  refine x_lenL (s1.seq hq) ?_
  rw [hx]
  walk_at "xs"
  refine al_rg rfl (by omega) fun pr H2 npr s2 hpr => ?_
  have hpr' : H2 pr = some (.lst (((List.range ws.length).map fun (i : Nat) => (i : Int)).map V.int)) := by rw [hpr, List.map_map]; rfl
  walk_at "xs"
  refine ⟨dInts ns, dInts ((List.range ws.length).map fun (i : Nat) => (i : Int)), dp_ints (SqL.of (s2 _ _ hps)), dp_ints (SqL.of hpr'), shaped_ints _, shaped_ints _, ?_⟩
  rw [eqv_ints]
  have s12 := s1.trans s2
  walk_at "xs"
  walk_at "if"
  · rename_i c2
    walk_at "xs"
    exact no (fun z => c2 ((sorted_iff pm pw).mpr (pmK z))) H2 s12
  rename_i c2
  obtain ⟨r, rfl, pr'⟩ := perm_nat ((sorted_iff pm pw).mp c2)
  rw [ints_nI] at hp
  have rl : r.length = ws.length := by rw [pr'.length_eq, List.length_range]
  walk_at "xs"
  refine ⟨p, nI r, rfl, s12.seq hp, for_by turnsE (fun i σ H' => ∃ (u1 u2 : Option V), σ = [some (.ref q), some (.ref p), u1, u2] ∧ Same H H' ∧ ∀ j (h : j < r.length), j < i → w1 ws r[j] ≤ (j : Int) + 1 ∧ (j : Int) + 1 ≤ w2 ws r[j])
    ⟨none, none, rfl, s12, fun j h z => absurd z (Nat.not_lt_zero _)⟩ (fun i σ H' _ ⟨_, _, _, h, _⟩ => h.seq hp) ?_ ?_⟩
  · rintro i y σ H5 H6 hi ⟨u1, u2, rfl, s5, fit⟩ ⟨x, hx', T, rfl, nT, s6, hT, _⟩
    rw [nI_len] at hi
    unfold nI at hx'
    rw [List.getElem?_map, List.getElem?_eq_getElem hi] at hx'
    cases hx'
    have rlt : r[i] < ws.length := List.mem_range.mp (pr'.mem_iff.mp (List.getElem_mem hi))
    have s56 := s5.trans s6
    have bad : ¬ (w1 ws r[i] ≤ (i : Int) + 1 ∧ (i : Int) + 1 ≤ w2 ws r[i]) → Q (.bl false) H6 := fun z => no (fun ⟨r', e, o⟩ => z (by
      have : r = r' := by
        have h1 : r.map (fun (i : Nat) => (i : Int)) = r'.map (fun (i : Nat) => (i : Int)) := e
        have h2 := congrArg (List.map Int.toNat) h1
        rw [List.map_map, List.map_map] at h2
        have e1 : ∀ l : List Nat, l.map (Int.toNat ∘ fun (i : Nat) => (i : Int)) = l := fun l => by
          rw [List.map_congr_left (g := id) (fun i _ => by show (i : Int).toNat = i; omega), List.map_id]
        rw [e1, e1] at h2
        exact h2
      subst this
      exact o.fit i hi)) H6 s56
    refine x_gtup (SqT.of hT) rfl ?_
    walk_at "xs"
    refine x_winix (dp_same s56 hw) (by omega) (by omega) fun t2 ht2 => ?_
    walk_at "xs"
    refine x_ix0 ht2 ?_
    walk_at "xs"
    have eb : (ws.getD ((r[i] : Nat) : Int).toNat (0, 0)).1 = w1 ws r[i] := rfl
    rw [eb]
    walk_at "if"
    · rename_i c3
      walk_at "xs"
      refine x_winix (dp_same s56 hw) (by omega) (by omega) fun t3 ht3 => ?_
      walk_at "xs"
      refine x_ix1 ht3 ?_
      walk_at "xs"
      have eb : (ws.getD ((r[i] : Nat) : Int).toNat (0, 0)).2 = w2 ws r[i] := rfl
      rw [eb]
      walk_at "if"
      · rename_i c4
        walk_at "xs"
        exact bad (fun z => c4 z.2)
      · rename_i c4
        walk_at "xs"
        refine ⟨_, _, rfl, s56, fun j hj z => ?_⟩
        by_cases q : j < i
        · exact fit j hj q
        · have : j = i := by omega
          subst this
          exact ⟨c3, c4⟩
    · rename_i c3
      walk_at "xs"
      exact bad (fun z => c3 z.1)
  · rintro σ H5 ⟨u1, u2, rfl, s5, fit⟩
    walk_at "xs"
    rw [nI_len] at fit
    exact k true H5 s5 ⟨fun _ => ⟨r, rfl, order_of_perm pr' fun j hj => fit j hj hj⟩, fun _ => rfl⟩

end Su
namespace Su
open PySem L2
local macro_rules | `(tactic| walk_at "side") => `(tactic| first | assumption | (show (0 : Int) < _; omega) | (show (0 : Int) ≤ _; omega) | (show (0 : Int) < _; split <;> omega) | (show _ ∨ _; omega) | (show _ ∧ _; omega) | exact ⟨by decide, by decide, by decide⟩ | exact ⟨by first | assumption | omega, by first | assumption | omega⟩)
local macro_rules | `(tactic| walk_at "xs") => `(tactic| repeat walk_at "x")
local macro_rules | `(tactic| walk_at "if") => `(tactic| first | with_reducible refine Su.x_iteD (fun c => ?_) (fun c => ?_) | with_reducible refine Su.x_iteN (fun c => ?_) (fun c => ?_) | with_reducible refine Su.x_ite (fun c => ?_) (fun c => ?_))

/-! a crowd of whole numbers as a bar -/
def BarsP (ws : List (Int × Int)) (a b : Int) (row : List Int) : Prop := ∃ c : List Nat, row = c.map (fun (i : Nat) => (i : Int)) ∧ IsBar ws a b c
theorem inc_eq {ms row : List Int} (h1 : ms.Pairwise (· < ·)) (h2 : row.Pairwise (· < ·)) (hm : ∀ k, k ∈ ms ↔ k ∈ row) : ms = row := by
  have n1 : ms.Nodup := h1.imp fun h => Int.ne_of_lt h
  have n2 : row.Nodup := h2.imp fun h => Int.ne_of_lt h
  exact List.Perm.eq_of_pairwise (le := (· < ·)) (fun a b _ _ h h' => by omega) h1 h2 ((List.perm_ext_iff_of_nodup n1 n2).mpr hm)
theorem nats_of {row : List Int} {n : Nat} (h : ∀ x ∈ row, 0 ≤ x ∧ x < n) : ∃ c : List Nat, row = c.map (fun (i : Nat) => (i : Int)) ∧ ∀ x ∈ c, x < n := by
  refine ⟨row.map Int.toNat, ?_, fun x hx => ?_⟩
  · rw [List.map_map]
    have : ∀ x ∈ row, ((fun (i : Nat) => (i : Int)) ∘ Int.toNat) x = x := fun x hx => by
      have := h x hx
      show ((x.toNat : Nat) : Int) = x
      omega
    rw [List.map_congr_left this, List.map_id']
  · obtain ⟨y, hy, rfl⟩ := List.mem_map.mp hx
    have := h y hy
    omega
theorem bars_inc {ws : List (Int × Int)} {a b : Int} {row : List Int} (h : BarsP ws a b row) : row.Pairwise (· < ·) := by
  obtain ⟨c, rfl, r⟩ := h
  rw [List.pairwise_map]
  exact r.inc.imp fun h => by omega

end Su
namespace Su
open PySem L2
local macro_rules | `(tactic| walk_at "side") => `(tactic| first | assumption | (show (0 : Int) < _; omega) | (show (0 : Int) ≤ _; omega) | (show (0 : Int) < _; split <;> omega) | (show _ ∨ _; omega) | (show _ ∧ _; omega) | exact ⟨by decide, by decide, by decide⟩ | exact ⟨by first | assumption | omega, by first | assumption | omega⟩)
local macro_rules | `(tactic| walk_at "x") => `(tactic| first | with_reducible refine Su.x_seq ?_ | with_reducible refine Su.x_gname ?_ | with_reducible refine Su.x_ret ?_ | with_reducible refine Su.x_ifS ?_ | ((with_reducible show L2.tVar _ _ _ _); refine Su.x_var rfl ?_) | with_reducible refine Su.x_c ?_ | with_reducible refine Su.x_op ?_ | with_reducible refine Su.x_rI0 ?_ | with_reducible refine Su.x_rGt ?_ | with_reducible refine Su.x_iteT ?_ | with_reducible refine Su.x_iteNF ?_ | with_reducible refine Su.x_test ?_ | with_reducible refine Su.x_isB' ?_ | with_reducible refine Su.x_not ?_ | with_reducible refine Su.x_or ?_ | with_reducible refine Su.x_chain ?_ | with_reducible refine Su.x_nil ?_ | with_reducible refine Su.x_cons ?_ | with_reducible refine Su.x_cb ?_ | with_reducible refine Su.x_max2 ?_ | with_reducible refine Su.x_next ?_ | with_reducible refine Su.x_for ?_ | with_reducible refine Su.x_iList ?_)
local macro_rules | `(tactic| walk_at "xs") => `(tactic| repeat walk_at "x")
local macro_rules | `(tactic| walk_at "if") => `(tactic| first | with_reducible refine Su.x_iteD (fun c => ?_) (fun c => ?_) | with_reducible refine Su.x_iteN (fun c => ?_) (fun c => ?_) | with_reducible refine Su.x_ite (fun c => ?_) (fun c => ?_))

/-! _law_bars: does a crowd show a bar -/
def sp_law_bars (K : PySem.W.Frag) : Sp := fun vs H Q _ => ∃ (v : V) (ws : List (Int × Int)) (a b : Int) (p : Addr) (row : List Int), vs = [v, .int a, .int b, .ref p] ∧ Dp K H v (dWin ws) ∧ SqL K H p (row.map V.int) ∧ ws.length ≤ 1000 ∧ row.length ≤ 60 ∧
  ∀ t H', Same H H' → (t = true ↔ BarsP ws a b row) → Q (.bl t) H'
abbrev N_law_bars : List Str := ["_law_windows_here", "_law_a", "_law_b", "_law_crowd", "_law_number"]
def t_law_bars (K : PySem.W.Frag) (w : World) : TS :=
 (tSeq (tIfS (tOr (tNot (tTest (tChain rLe rLe (tC (.int 1)) (tVar 1) (tCB (rLenSeq K) (tCons (tVar 0) tNil))))) (tNot (tTest (tChain rLe rLe (tC (.int 1)) (tVar 2) (tCB (rLenSeq K) (tCons (tVar 0) tNil))))))
 (tRet (tC (.bl false)))
 tNext)
 (tSeq (tIfS (tOr (tTest (tOp (rNeD K) (tVar 3) (tCB (rSortedSet w) (tCons (tCB (rSetOfI K w) (tCons (tVar 3) tNil)) tNil)))) (tTest (tOp rLe (tCB (rLenSeq K) (tCons (tVar 3) tNil)) (tCB rMax2 (tCons (tC (.int 0)) (tCons (tOp rAdd (tOp rSub (tVar 2) (tVar 1)) (tC (.int 1))) tNil))))))
 (tRet (tC (.bl false)))
 tNext)
 (tSeq (tFor (iList K (tVar 3)) (gName 4)
 (tSeq (tIfS (tNot (tTest (tChain rLe rLt (tC (.int 0)) (tVar 4) (tCB (rLenSeq K) (tCons (tVar 0) tNil)))))
 (tRet (tC (.bl false)))
 tNext)
 (tIfS (tOr (tTest (tOp rLt (tOp (rIxT K) (tOp (rIxL K) (tVar 0) (tVar 4)) (tC (.int 0))) (tVar 1))) (tTest (tOp rGt (tOp (rIxT K) (tOp (rIxL K) (tVar 0) (tVar 4)) (tC (.int 1))) (tVar 2))))
 (tRet (tC (.bl false)))
 tNext)))
 (tRet (tC (.bl true))))))

theorem len_law_bars {K : PySem.W.Frag} : ∀ vs H Q E, sp_law_bars K vs H Q E → vs.length = ["a", "b", "c", "d"].length := by
  rintro vs H Q E ⟨_, _, _, _, _, _, rfl, _⟩; rfl
theorem pure_law_bars {K : PySem.W.Frag} {w : World} {vs : List V} {H : Hp} {Q : VK} {E : XK} (h : sp_law_bars K vs H Q E) : t_law_bars K w { nx := fun _ H' => Q .non H', rt := Q } (start N_law_bars vs) H := by
  obtain ⟨v, ws, a, b, p, row, rfl, hw, hp, hl, hl2, k⟩ := h
  obtain ⟨q, xs, rfl, hq, hx, hat⟩ := win_at hw
  have no : ¬ BarsP ws a b row → ∀ H', Same H H' → Q (.bl false) H' := fun h H' s => k false H' s ⟨(fun z => by cases z), fun z => absurd z h⟩
  unfold t_law_bars
  walk_at "xs"
  -- a, b within their bounds
  walk_at "if"
  rotate_left
  · rename_i c
    walk_at "xs"
    exact no (fun ⟨_, _, z⟩ => c z.a1.1) H (Same.refl H)
  rename_i a1
  walk_at "xs"
  refine x_lenL hq ?_
  rw [hx]
  walk_at "xs"
  walk_at "if"
  · rename_i c
    walk_at "xs"
    exact no (fun ⟨_, _, z⟩ => c z.a1.2) H (Same.refl H)
  rename_i a2
  walk_at "xs"
  walk_at "if"
  rotate_left
  · rename_i c
    walk_at "xs"
    exact no (fun ⟨_, _, z⟩ => c z.b1.1) H (Same.refl H)
  rename_i b1
  walk_at "xs"
  refine x_lenL hq ?_
  rw [hx]
  walk_at "xs"
  walk_at "if"
  · rename_i c
    walk_at "xs"
    exact no (fun ⟨_, _, z⟩ => c z.b1.2) H (Same.refl H)
  rename_i b2
  walk_at "xs"
  refine al_setOf hp hl2 fun pa c H1 npa s1 hc hpa => ?_
  walk_at "xs"
  refine al_sortedSet hpa (by omega) fun pm ms H2 npm s2 pw hm hpm => ?_
  walk_at "xs"
  have s12 := s1.trans s2
  refine ⟨dInts row, dInts ms, dp_ints (s12.seq hp), dp_ints (SqL.of hpm), shaped_ints _, shaped_ints _, ?_⟩
  rw [eqv_ints]
  walk_at "xs"
  walk_at "if"
  · rename_i c
    walk_at "xs"
    exact no (fun z => c (inc_eq pw (bars_inc z) hm).symm) H2 s12
  rename_i e
  subst e
  walk_at "xs"
  refine x_lenL (s12.seq hp) ?_
  rw [List.length_map]
  walk_at "xs"
  have em : (if b - a + 1 > 0 then b - a + 1 else 0) = max 0 (b - a + 1) := by
    rw [Int.max_def]; split <;> split <;> omega
  rw [em]
  walk_at "if"
  · rename_i c
    walk_at "xs"
    exact no (fun ⟨l, e, z⟩ => by have := z.many; rw [e, List.length_map] at c; omega) H2 s12
  rename_i many
  walk_at "xs"
  refine ⟨p, rfl, ⟨_, s12.seq hp⟩, for_by turnsL (fun i σ H' => ∃ (u : Option V), σ = [some (.ref q), some (.int a), some (.int b), some (.ref p), u] ∧ Same H H' ∧ ∀ j (h : j < row.length), j < i → (0 ≤ row[j] ∧ row[j] < ws.length) ∧ a ≤ w1 ws row[j].toNat ∧ w2 ws row[j].toNat ≤ b)
    ⟨none, rfl, s12, fun j h z => absurd z (Nat.not_lt_zero _)⟩ (fun i σ H' _ ⟨_, _, h, _⟩ => h.seq hp) ?_ ?_⟩
  · rintro i y σ H5 _ hi ⟨u, rfl, s5, fit⟩ ⟨rfl, hx'⟩
    rw [List.length_map] at hi
    rw [List.getElem?_map, List.getElem?_eq_getElem hi] at hx'
    cases hx'
    have bad : ¬ ((0 ≤ row[i] ∧ row[i] < ws.length) ∧ a ≤ w1 ws row[i].toNat ∧ w2 ws row[i].toNat ≤ b) → Q (.bl false) H5 := fun z => no (fun ⟨l, e, r⟩ => z (by
      have hil : i < l.length := by rw [e, List.length_map] at hi; exact hi
      have h1 : row[i] = (l[i] : Int) := by simp [e]
      rw [h1]
      obtain ⟨m1, m2, m3⟩ := r.mem l[i] (List.getElem_mem hil)
      have e2 : ((l[i] : Nat) : Int).toNat = l[i] := by omega
      rw [e2]
      exact ⟨⟨by omega, by omega⟩, m2, m3⟩)) H5 s5
    walk_at "xs"
    walk_at "if"
    rotate_left
    · rename_i c
      walk_at "xs"
      exact bad (fun z => c z.1.1)
    rename_i c1
    walk_at "xs"
    refine x_lenL (s5.seq hq) ?_
    rw [hx]
    walk_at "xs"
    walk_at "if"
    · rename_i c
      walk_at "xs"
      exact bad (fun z => c z.1.2)
    rename_i c2
    walk_at "xs"
    refine x_winix (dp_same s5 hw) c1 c2 fun t2 ht2 => ?_
    walk_at "xs"
    refine x_ix0 ht2 ?_
    walk_at "xs"
    have eb : (ws.getD row[i].toNat (0, 0)).1 = w1 ws row[i].toNat := rfl
    rw [eb]
    walk_at "if"
    · rename_i c
      walk_at "xs"
      exact bad (fun z => by have := z.2.1; omega)
    rename_i c3
    walk_at "xs"
    refine x_winix (dp_same s5 hw) c1 c2 fun t3 ht3 => ?_
    walk_at "xs"
    refine x_ix1 ht3 ?_
    walk_at "xs"
    have eb : (ws.getD row[i].toNat (0, 0)).2 = w2 ws row[i].toNat := rfl
    rw [eb]
    walk_at "if"
    · rename_i c
      walk_at "xs"
      exact bad (fun z => by have := z.2.2; omega)
    rename_i c4
    walk_at "xs"
    refine ⟨_, rfl, s5, fun j hj z => ?_⟩
    by_cases q : j < i
    · exact fit j hj q
    · have : j = i := by omega
      subst this
      exact ⟨⟨c1, c2⟩, by omega, by omega⟩
  · rintro σ H5 ⟨u, rfl, s5, fit⟩
    rw [List.length_map] at fit
    walk_at "xs"
    refine k true H5 s5 ⟨fun _ => ?_, fun _ => rfl⟩
    obtain ⟨l, e, hlt⟩ := nats_of (row := row) (n := ws.length) fun x hx => by
      obtain ⟨j, hj, rfl⟩ := List.getElem_of_mem hx
      exact (fit j hj hj).1
    refine ⟨l, e, ⟨a1, a2⟩, ⟨b1, b2⟩, ?_, fun c hc => ?_, ?_⟩
    · rw [e, List.pairwise_map] at pw
      exact pw.imp fun h => by omega
    · obtain ⟨j, hj, rfl⟩ := List.getElem_of_mem hc
      have hj' : j < row.length := by rw [e, List.length_map]; exact hj
      have h1 : row[j] = (l[j] : Int) := by simp [e]
      have := (fit j hj' hj').2
      rw [h1] at this
      have e2 : ((l[j] : Nat) : Int).toNat = l[j] := by omega
      rw [e2] at this
      exact ⟨hlt _ (List.getElem_mem _), this⟩
    · rw [e, List.length_map] at many; omega

end Su
namespace Su
open PySem L2
local macro_rules | `(tactic| walk_at "side") => `(tactic| first | assumption | (show (0 : Int) < _; omega) | (show (0 : Int) ≤ _; omega) | (show (0 : Int) < _; split <;> omega) | (show _ ∨ _; omega) | (show _ ∧ _; omega) | exact ⟨by decide, by decide, by decide⟩ | exact ⟨by first | assumption | omega, by first | assumption | omega⟩)
local macro_rules | `(tactic| walk_at "x") => `(tactic| first | with_reducible refine Su.x_seq ?_ | with_reducible refine Su.x_asg ?_ | with_reducible refine Su.x_gname ?_ | with_reducible refine Su.x_drop ?_ | with_reducible refine Su.x_ret ?_ | with_reducible refine Su.x_ifS ?_ | ((with_reducible show L2.tVar _ _ _ _); refine Su.x_var rfl ?_) | with_reducible refine Su.x_c ?_ | with_reducible refine Su.x_op ?_ | with_reducible refine Su.x_rI0 ?_ | ((with_reducible refine Su.x_rI ?_ ?_); focus walk_at "side") | with_reducible refine Su.x_rGt ?_ | with_reducible refine Su.x_test ?_ | with_reducible refine Su.x_isB' ?_ | with_reducible refine Su.x_and ?_ | with_reducible refine Su.x_nil ?_ | with_reducible refine Su.x_cons ?_ | with_reducible refine Su.x_cb ?_ | with_reducible refine Su.x_abs ?_ | with_reducible refine Su.x_lst ?_ | with_reducible refine Su.x_bmL ?_ | with_reducible refine Su.x_for ?_ | with_reducible refine Su.x_iList ?_ | with_reducible refine Su.x_whileN ?_)
local macro_rules | `(tactic| walk_at "xs") => `(tactic| repeat walk_at "x")
local macro_rules | `(tactic| walk_at "if") => `(tactic| first | with_reducible refine Su.x_iteD (fun c => ?_) (fun c => ?_) | with_reducible refine Su.x_iteN (fun c => ?_) (fun c => ?_) | with_reducible refine Su.x_ite (fun c => ?_) (fun c => ?_))

/-! _law_draws -/
def sp_law_draws (K : PySem.W.Frag) : Sp := fun vs H Q _ => ∃ (a : Addr) (ns : List Int) (many : Nat), vs = [.ref a, .int many] ∧ SqL K H a (ns.map V.int) ∧ ns.length ≤ 63 ∧ many ≤ 1000 ∧
  ∀ (p : Addr) (rows : List Int) (H' : Hp), H p = none → Same H H' → H' p = some (.lst (rows.map V.int)) → many ≤ rows.length → rows.length ≤ 2000 → (∀ x ∈ rows, -(10 ^ 18) < x ∧ x < 10 ^ 18) → Q (.ref p) H'
abbrev N_law_draws : List Str := ["_law_script", "_law_many", "_law_rows", "_law_mix", "_law_cell", "_law_rest"]
def t_law_draws (K : PySem.W.Frag) : TS :=
 (tSeq (tAsg (tLst tNil) (gName 2))
 (tSeq (tAsg (tC (.int 1)) (gName 3))
 (tSeq (tFor (iList K (tVar 0)) (gName 4)
 (tSeq (tAsg (tOp rMod (tOp rAdd (tOp rMul (tVar 3) (tC (.int 31))) (tVar 4)) (tC (.int 2147483647))) (gName 3))
 (tSeq (tAsg (tCB rAbs (tCons (tVar 4) tNil)) (gName 5))
 (C8.tCut (tIfS (tTest (tOp rLt (tVar 5) (tOp rPow (tC (.int 10)) (tC (.int 18)))))
 (tSeq (tDrop (tBM K "list" rAppend (tVar 2) (tCons (tVar 4) tNil)))
 (tAsg (tC (.int 0)) (gName 5)))
 tNext)
 (tWhile (tAnd (tTest (tOp rGt (tVar 5) (tC (.int 0)))) (tTest (tOp rLt (tCB (rLenSeq K) (tCons (tVar 2) tNil)) (tVar 1))))
 (tSeq (tDrop (tBM K "list" rAppend (tVar 2) (tCons (tOp rMod (tVar 5) (tC (.int 1000003))) tNil)))
 (tAsg (tOp rDiv (tVar 5) (tC (.int 1000003))) (gName 5))))))))
 (tSeq (tWhile (tTest (tOp rLt (tCB (rLenSeq K) (tCons (tVar 2) tNil)) (tVar 1)))
 (tSeq (tAsg (tOp rMod (tOp rAdd (tOp rMul (tVar 3) (tC (.int 48271))) (tC (.int 11))) (tC (.int 2147483647))) (gName 3))
 (tDrop (tBM K "list" rAppend (tVar 2) (tCons (tOp rMod (tOp rMul (tVar 3) (tVar 3)) (tC (.int 999983))) tNil)))))
 (tRet (tVar 2))))))

theorem len_law_draws {K : PySem.W.Frag} : ∀ vs H Q E, sp_law_draws K vs H Q E → vs.length = ["_law_script", "_law_many"].length := by
  rintro vs H Q E ⟨s, n, p, rfl, _⟩; rfl
structure DrawSt (H : Hp) (p : Addr) (rows : List Int) (H' : Hp) : Prop where
  s : Same H H'
  o : H' p = some (.lst (rows.map V.int))
  b : ∀ x ∈ rows, -(10 ^ 18) < x ∧ x < 10 ^ 18
theorem DrawSt.push {H : Hp} {p : Addr} {rows : List Int} {H' : Hp} (h : DrawSt H p rows H') (np : H p = none) {x : Int} (hx : -(10 ^ 18) < x ∧ x < 10 ^ 18) : DrawSt H p (rows ++ [x]) (upd H' p (.lst (rows.map V.int ++ [.int x]))) where
  s := fun b o e => by rw [upd_ne (ne_of_none e np)]; exact h.s b o e
  o := by rw [upd_same, List.map_append]; rfl
  b := fun y hy => by
    rcases List.mem_append.mp hy with q | q
    · exact h.b y q
    · cases List.mem_singleton.mp q; exact hx
theorem pure_law_draws {K : PySem.W.Frag} {vs : List V} {H : Hp} {Q : VK} {E : XK} (h : sp_law_draws K vs H Q E) : t_law_draws K { nx := fun _ H' => Q .non H', rt := Q } (start N_law_draws vs) H := by
  obtain ⟨a, ns, many, rfl, hS, hl, hm, k⟩ := h
  unfold t_law_draws
  walk_at "xs"
  refine ⟨by decide, fun p np => ?_⟩
  walk_at "xs"
  refine ⟨a, rfl, ⟨_, Same.seq (H := H) (fun b o e => by rw [upd_ne (ne_of_none e np)]; exact e) hS⟩, for_list (K := K) (a := a) (xs := ns.map V.int) (fun i σ H' => ∃ (rows : List Int) (mix : Int) (u v : Option V),
      σ = [some (.ref a), some (.int many), some (.ref p), some (.int mix), u, v] ∧ DrawSt H p rows H' ∧ rows.length ≤ i + many ∧ 0 ≤ mix ∧ mix < 2147483647)
    ⟨[], 1, none, none, rfl, ⟨fun b o e => by rw [upd_ne (ne_of_none e np)]; exact e, upd_same, fun _ h => nomatch h⟩, by simp, by decide, by decide⟩ (fun i σ H' _ ⟨_, _, _, _, _, d, _⟩ => d.s.seq hS) ?_ ?_⟩
  · rintro i y σ H1 hi ⟨rows, mix, u, v, rfl, d, hr, m0, m1⟩
    obtain ⟨z, rfl⟩ : ∃ z, y = V.int z := by
      rw [List.getElem?_map] at hi
      cases e : ns[i]? with
      | none => rw [e] at hi; cases hi
      | some z => rw [e] at hi; exact ⟨z, (Option.some.inj hi).symm⟩
    have hil : i < ns.length := by
      have := (List.getElem?_eq_some_iff.mp hi).1
      rwa [List.length_map] at this
    have hq : (0 : Int) ≤ (mix * 31 + z) % 2147483647 ∧ (mix * 31 + z) % 2147483647 < 2147483647 := ⟨Int.emod_nonneg _ (by decide), Int.emod_lt_of_pos _ (by decide)⟩
    -- the while, from any state
    have loop : ∀ (D : Ends) (rows : List Int) (rest : Int) (u : Option V) (H2 : Hp), DrawSt H p rows H2 → 0 ≤ rest → rows.length ≤ i + 1 + many → 
        (∀ rows' rest' H3, DrawSt H p rows' H3 → rows'.length ≤ i + 1 + many → D.nx [some (.ref a), some (.int many), some (.ref p), some (.int ((mix * 31 + z) % 2147483647)), u, some (.int rest')] H3) →
        tWhile (tAnd (tTest (tOp rGt (tVar 5) (tC (V.int 0)))) (tTest (tOp rLt (tCB (rLenSeq K) (tCons (tVar 2) tNil)) (tVar 1))))
            (tSeq (tDrop (tBM K "list" rAppend (tVar 2) (tCons (tOp rMod (tVar 5) (tC (V.int 1000003))) tNil)))
              (tAsg (tOp rDiv (tVar 5) (tC (V.int 1000003))) (gName 5))) D [some (.ref a), some (.int many), some (.ref p), some (.int ((mix * 31 + z) % 2147483647)), u, some (.int rest)] H2 := by
      intro D rows rest u H2 d h0 hr kk
      refine ⟨fun m σ H2 => ∃ rows rest, σ = [some (.ref a), some (.int many), some (.ref p), some (.int ((mix * 31 + z) % 2147483647)), u, some (.int rest)] ∧ DrawSt H p rows H2 ∧ 0 ≤ rest ∧ rows.length ≤ i + 1 + many ∧ m = rest.toNat, ⟨_, rows, rest, rfl, d, h0, hr, rfl⟩, ?_⟩
      rintro m σ H2 ⟨rows, rest, rfl, d, h0, hr, rfl⟩
      walk_at "xs"
      walk_at "if"
      · walk_at "xs"
        refine x_lenL (SqL.of d.o) ?_
        walk_at "xs"
        walk_at "if"
        · rename_i c1 c2
          have c2' : rows.length < many := by rw [List.length_map] at c2; exact Int.ofNat_lt.mp c2
          walk_at "xs"
          refine ⟨tyL (SqL.of d.o), ?_⟩
          walk_at "xs"
          refine x_append d.o (small (by rw [List.length_map]; omega)) ?_
          have b0 := Int.emod_nonneg rest (show (1000003 : Int) ≠ 0 by decide)
          have b1 := Int.emod_lt_of_pos rest (show (0 : Int) < 1000003 by decide)
          walk_at "xs"
          exact ⟨_, by show (rest / 1000003).toNat < rest.toNat; omega, rows ++ [rest % 1000003], rest / 1000003, rfl, d.push np ⟨by omega, by omega⟩, by omega, by rw [List.length_append]; simp; omega, rfl⟩
        · exact kk rows rest H2 d hr
      · exact kk rows rest H2 d hr
    walk_at "xs"
    refine x_cut (fun σ H2 => ∃ (rows : List Int) (rest : Int), σ = [some (.ref a), some (.int many), some (.ref p), some (.int ((mix * 31 + z) % 2147483647)), some (.int z), some (.int rest)] ∧ DrawSt H p rows H2 ∧ 0 ≤ rest ∧ rows.length ≤ i + 1 + many) ?_ ?_
    · walk_at "xs"
      walk_at "if"
      · rename_i c1
        walk_at "xs"
        refine ⟨tyL (SqL.of d.o), ?_⟩
        walk_at "xs"
        have hz : -(10 ^ 18) < z ∧ z < 10 ^ 18 := by
          by_cases z0 : z < 0
          · rw [if_pos z0] at c1; exact ⟨by have : -z < 10 ^ 18 := c1; omega, by omega⟩
          · rw [if_neg z0] at c1; exact ⟨by omega, c1⟩
        refine x_append d.o (small (by rw [List.length_map]; omega)) ?_
        walk_at "xs"
        exact ⟨rows ++ [z], 0, rfl, d.push np hz, by decide, by rw [List.length_append]; simp; omega⟩
      · refine ⟨rows, _, rfl, d, ?_, by omega⟩
        by_cases z0 : z < 0
        · rw [if_pos z0]; omega
        · rw [if_neg z0]; omega
    rintro _ _ ⟨rows, rest, rfl, d, h0, hr⟩
    refine loop _ rows rest _ _ d h0 hr fun rows' rest' H3 d3 h3 => ?_
    exact ⟨rows', _, _, _, rfl, d3, h3, hq.1, hq.2⟩
  · rintro σ H1 ⟨rows, mix, u, v, rfl, d, hr, m0, m1⟩
    rw [List.length_map] at hr
    walk_at "xs"
    refine ⟨fun m σ H2 => ∃ (rows : List Int) (mix : Int), σ = [some (.ref a), some (.int many), some (.ref p), some (.int mix), u, v] ∧ DrawSt H p rows H2 ∧ rows.length ≤ 63 + many ∧ 0 ≤ mix ∧ mix < 2147483647 ∧ m = many - rows.length, ⟨_, rows, mix, rfl, d, by omega, m0, m1, rfl⟩, ?_⟩
    rintro m σ H2 ⟨rows, mix, rfl, d, hr, m0, m1, rfl⟩
    walk_at "xs"
    refine x_lenL (SqL.of d.o) ?_
    walk_at "xs"
    walk_at "if"
    · rename_i c2
      have c2' : rows.length < many := by rw [List.length_map] at c2; exact Int.ofNat_lt.mp c2
      have hq : (0 : Int) ≤ (mix * 48271 + 11) % 2147483647 ∧ (mix * 48271 + 11) % 2147483647 < 2147483647 := ⟨Int.emod_nonneg _ (by decide), Int.emod_lt_of_pos _ (by decide)⟩
      walk_at "xs"
      refine ⟨tyL (SqL.of d.o), ?_⟩
      walk_at "xs"
      refine x_append d.o (small (by rw [List.length_map]; omega)) ?_
      have b0 := Int.emod_nonneg ((mix * 48271 + 11) % 2147483647 * ((mix * 48271 + 11) % 2147483647)) (show (999983 : Int) ≠ 0 by decide)
      have b1 := Int.emod_lt_of_pos ((mix * 48271 + 11) % 2147483647 * ((mix * 48271 + 11) % 2147483647)) (show (0 : Int) < 999983 by decide)
      exact ⟨_, by show many - (rows.length + 1) < many - rows.length; omega, rows ++ [_], _, rfl, d.push np ⟨by omega, by omega⟩, by rw [List.length_append]; simp; omega, hq.1, hq.2, by rw [List.length_append]; rfl⟩
    · rename_i c2
      have c2' : many ≤ rows.length := by
        rw [List.length_map] at c2
        omega
      walk_at "xs"
      exact k p rows H2 np d.s d.o c2' (by omega) d.b

end Su
namespace Su
open PySem L2
local macro_rules | `(tactic| walk_at "side") => `(tactic| first | assumption | (show (0 : Int) < _; omega) | (show (0 : Int) ≤ _; omega) | (show (0 : Int) < _; split <;> omega) | (show _ ∨ _; omega) | (show _ ∧ _; omega) | exact ⟨by decide, by decide, by decide⟩ | exact ⟨by first | assumption | omega, by first | assumption | omega⟩)
local macro_rules | `(tactic| walk_at "x") => `(tactic| first | with_reducible refine Su.x_seq ?_ | with_reducible refine Su.x_gname ?_ | with_reducible refine Su.x_ret ?_ | with_reducible refine Su.x_ifS ?_ | ((with_reducible show L2.tVar _ _ _ _); refine Su.x_var rfl ?_) | with_reducible refine Su.x_c ?_ | with_reducible refine Su.x_isi_int_int ?_ | with_reducible refine Su.x_isi_int_bool ?_ | with_reducible refine Su.x_iteT ?_ | with_reducible refine Su.x_iteNT ?_ | with_reducible refine Su.x_tB ?_ | with_reducible refine Su.x_isB' ?_ | with_reducible refine Su.x_not ?_ | with_reducible refine Su.x_andV ?_ | with_reducible refine Su.x_notV ?_ | with_reducible refine Su.x_nil ?_ | with_reducible refine Su.x_cons ?_ | with_reducible refine Su.x_cb ?_ | with_reducible refine Su.x_next ?_ | with_reducible refine Su.x_iList ?_ | with_reducible refine Su.x_yes ?_ | with_reducible refine Su.x_lc ?_)
local macro_rules | `(tactic| walk_at "xs") => `(tactic| repeat walk_at "x")
local macro_rules | `(tactic| walk_at "if") => `(tactic| first | with_reducible refine Su.x_iteD (fun c => ?_) (fun c => ?_) | with_reducible refine Su.x_iteN (fun c => ?_) (fun c => ?_) | with_reducible refine Su.x_ite (fun c => ?_) (fun c => ?_))

/-! _law_wholes of a list of ints -/
def sp_law_wholes (K : PySem.W.Frag) : Sp := fun vs H Q _ => ∃ (p : Addr) (ns : List Int), vs = [.ref p] ∧ SqL K H p (ns.map V.int) ∧ ns.length ≤ 100000 ∧ ∀ H', Same H H' → Q (.bl true) H'
abbrev N_law_wholes : List Str := ["_law_told", "_law_one"]
def t_law_wholes (K : PySem.W.Frag) : TS :=
 (tSeq (tIfS (tNot (tB (tCB (rIsi K) (tCons (tVar 0) (tCons (tC (.ty "list")) tNil)))))
 (tRet (tC (.bl false)))
 tNext)
 (tRet (tCB (rAll K) (tCons (tLc (iList K (tVar 0)) (gName 1) tYes (tAndV (tCB (rIsi K) (tCons (tVar 1) (tCons (tC (.ty "int")) tNil))) (tNotV (tCB (rIsi K) (tCons (tVar 1) (tCons (tC (.ty "bool")) tNil))))) [1]) tNil))))

theorem len_law_wholes {K : PySem.W.Frag} : ∀ vs H Q E, sp_law_wholes K vs H Q E → vs.length = ["a"].length := by
  rintro vs H Q E ⟨_, _, rfl, _⟩; rfl
theorem pure_law_wholes {K : PySem.W.Frag} {vs : List V} {H : Hp} {Q : VK} {E : XK} (h : sp_law_wholes K vs H Q E) : t_law_wholes K { nx := fun _ H' => Q .non H', rt := Q } (start N_law_wholes vs) H := by
  obtain ⟨p, ns, rfl, hp, hl, k⟩ := h
  unfold t_law_wholes
  walk_at "xs"
  refine isi_list_list hp ?_
  walk_at "xs"
  refine ⟨p, rfl, ⟨_, hp⟩, fun A nA => ?_⟩
  refine lc_flat (fun _ => some (.bl true)) (turnsL (K := K) (a := p) (xs := ns.map V.int)) (fun H' s => s.seq hp) nA ?_ ?_
  · rintro j x Hc _ hj lc ⟨rfl, hx⟩
    rw [List.length_map] at hj
    rw [List.getElem?_map, List.getElem?_eq_getElem hj] at hx
    cases hx
    walk_at "xs"
    refine x_wipe rfl ?_
    walk_at "xs"
    exact lc.keep nA (Same.refl _) rfl (by omega)
  · intro H1 s1 hA
    walk_at "xs"
    refine ⟨A, List.replicate ns.length true, rfl, SqL.of ?_, ?_⟩
    · rw [hA, List.length_map, List.filterMap_eq_map', List.map_replicate, List.map_const', List.length_range]
    · have : (List.replicate ns.length true).all id = true := by
        rw [List.all_eq_true]; intro x hx; rw [List.eq_of_mem_replicate hx]; rfl
      rw [this]
      exact k H1 s1

end Su
namespace Su
open PySem L2
local macro_rules | `(tactic| walk_at "side") => `(tactic| first | assumption | (show (0 : Int) < _; omega) | (show (0 : Int) ≤ _; omega) | (show (0 : Int) < _; split <;> omega) | (show _ ∨ _; omega) | (show _ ∧ _; omega) | exact ⟨by decide, by decide, by decide⟩ | exact ⟨by first | assumption | omega, by first | assumption | omega⟩)
local macro_rules | `(tactic| walk_at "x") => `(tactic| first
  | with_reducible refine Su.x_seq ?_ | with_reducible refine Su.x_asg ?_ | with_reducible refine Su.x_gname ?_ | with_reducible refine Su.x_drop ?_ | with_reducible refine Su.x_ret ?_ | with_reducible refine Su.x_ifS ?_
  | ((with_reducible show L2.tVar _ _ _ _); refine Su.x_var rfl ?_) | with_reducible refine Su.x_c ?_ | with_reducible refine Su.x_op ?_ | with_reducible refine Su.x_rI0 ?_ | ((with_reducible refine Su.x_rI ?_ ?_); focus walk_at "side")
  | ((with_reducible show L2.rIxL _ (L2.V.ref _) (L2.V.int _) _ _); refine Su.x_ixI (by assumption) (by first | decide | omega) (by omega) ?_) | with_reducible refine Su.x_isi_int_int ?_ | with_reducible refine Su.x_isi_int_bool ?_ | with_reducible refine Su.x_isi_int_str ?_ | with_reducible refine Su.x_isi_int_list ?_ | with_reducible refine Su.x_isi_int_tuple ?_ | with_reducible refine Su.x_isi_bool_int ?_ | with_reducible refine Su.x_isi_bool_bool ?_ | with_reducible refine Su.x_isi_bool_str ?_ | with_reducible refine Su.x_isi_bool_list ?_ | with_reducible refine Su.x_isi_bool_tuple ?_ | with_reducible refine Su.x_isi_str_int ?_ | with_reducible refine Su.x_isi_str_bool ?_ | with_reducible refine Su.x_isi_str_str ?_ | with_reducible refine Su.x_isi_str_list ?_ | with_reducible refine Su.x_isi_str_tuple ?_ | with_reducible refine Su.x_isi_NoneType_int ?_ | with_reducible refine Su.x_isi_NoneType_bool ?_ | with_reducible refine Su.x_isi_NoneType_str ?_ | with_reducible refine Su.x_isi_NoneType_list ?_ | with_reducible refine Su.x_isi_NoneType_tuple ?_ | with_reducible refine Su.x_rGt ?_ | with_reducible refine Su.x_rGe ?_ | with_reducible refine Su.x_iteF ?_ | with_reducible refine Su.x_iteT ?_ | with_reducible refine Su.x_iteNT ?_ | with_reducible refine Su.x_iteNF ?_ | with_reducible refine Su.x_eqI ?_ | with_reducible refine Su.x_neI ?_ | with_reducible refine Su.x_eqS ?_ | with_reducible refine Su.x_neS ?_ | with_reducible refine Su.x_eqB ?_ | with_reducible refine Su.x_neB ?_
  | with_reducible refine Su.x_test ?_ | with_reducible refine Su.x_tB ?_ | with_reducible refine Su.x_isB ?_ | with_reducible refine Su.x_isB' ?_ | with_reducible refine Su.x_not ?_ | with_reducible refine Su.x_and ?_ | with_reducible refine Su.x_or ?_
  | with_reducible refine Su.x_andV ?_ | with_reducible refine Su.x_orV ?_ | with_reducible refine Su.x_notV ?_ | with_reducible refine Su.x_chain ?_ | with_reducible refine Su.x_nil ?_ | with_reducible refine Su.x_cons ?_ | with_reducible refine Su.x_cb ?_ | with_reducible refine Su.x_call ?_
  | with_reducible refine Su.x_un ?_ | with_reducible refine Su.x_rU ?_ | with_reducible refine Su.x_abs ?_ | with_reducible refine Su.x_max2 ?_ | with_reducible refine Su.x_min2 ?_ | with_reducible refine Su.x_int1 ?_ | with_reducible refine Su.x_intB ?_
  | with_reducible refine Su.x_lst ?_ | with_reducible refine Su.x_tup ?_ | with_reducible refine Su.x_bmL ?_ | with_reducible refine Su.x_next ?_ | with_reducible refine Su.x_for ?_ | with_reducible refine Su.x_iList ?_ | with_reducible refine Su.x_iRng1 ?_ | with_reducible refine Su.x_iRng2 ?_ | with_reducible refine Su.x_whileN ?_ | with_reducible refine Su.x_iEnum ?_ | with_reducible refine Su.x_iZip ?_ | with_reducible refine Su.x_iZipA ?_ | with_reducible refine Su.x_iTup ?_ | with_reducible refine Su.x_gcons ?_ | with_reducible refine Su.x_gnil ?_ | with_reducible refine Su.x_gsub ?_ | with_reducible refine Su.x_yes ?_ | with_reducible refine Su.x_lc ?_ | with_reducible refine Su.x_sl ?_ | with_reducible refine Su.x_nopart ?_ | with_reducible refine Su.x_part ?_ | with_reducible refine Su.x_isI ?_ | with_reducible refine Su.x_lstRg ?_ | with_reducible refine Su.x_rg1 ?_ | with_reducible refine Su.x_augS ?_ | with_reducible refine Su.x_ipI ?_ | ((with_reducible show L2.tAug _ _ _ _ _ _); refine Su.x_aug rfl ?_) | with_reducible refine Su.x_callS ?_ | with_reducible refine Su.x_tryAs ?_)
local macro_rules | `(tactic| walk_at "xs") => `(tactic| repeat walk_at "x")
local macro_rules | `(tactic| walk_at "if") => `(tactic| first | with_reducible refine Su.x_iteD (fun c => ?_) (fun c => ?_) | with_reducible refine Su.x_iteN (fun c => ?_) (fun c => ?_) | with_reducible refine Su.x_ite (fun c => ?_) (fun c => ?_))
/-! is_bar -/
def sp_is_bar (K : PySem.W.Frag) : Sp := fun vs H Q _ => ∃ (v : V) (ws : List (Int × Int)) (a b : Int) (p : Addr) (row : List Int), vs = [v, .int a, .int b, .ref p] ∧ Dp K H v (dWin ws) ∧ SqL K H p (row.map V.int) ∧ ws.length ≤ 1000 ∧
  ∀ t H', Same H H' → (t = true ↔ BarsP ws a b row) → Q (.bl t) H'
abbrev N_is_bar : List Str := ["windows", "a", "b", "crowd", "ahead", "at"]
def t_is_bar (K : PySem.W.Frag) : TS :=
 (tSeq (tIfS (tOr (tNot (tTest (tChain rLe rLe (tC (.int 1)) (tVar 1) (tCB (rLenSeq K) (tCons (tVar 0) tNil))))) (tNot (tTest (tChain rLe rLe (tC (.int 1)) (tVar 2) (tCB (rLenSeq K) (tCons (tVar 0) tNil))))))
 (tRet (tC (.bl false)))
 tNext)
 (tSeq (tAsg (tUn rNeg (tC (.int 1))) (gName 4))
 (tSeq (tFor (iList K (tVar 3)) (gName 5)
 (tSeq (tIfS (tOr (tTest (tOp rLe (tVar 5) (tVar 4))) (tTest (tOp rGe (tVar 5) (tCB (rLenSeq K) (tCons (tVar 0) tNil)))))
 (tRet (tC (.bl false)))
 tNext)
 (tSeq (tIfS (tOr (tTest (tOp rLt (tOp (rIxT K) (tOp (rIxL K) (tVar 0) (tVar 5)) (tC (.int 0))) (tVar 1))) (tTest (tOp rGt (tOp (rIxT K) (tOp (rIxL K) (tVar 0) (tVar 5)) (tC (.int 1))) (tVar 2))))
 (tRet (tC (.bl false)))
 tNext)
 (tAsg (tVar 5) (gName 4)))))
 (tRet (tOp rGt (tCB (rLenSeq K) (tCons (tVar 3) tNil)) (tCB rMax2 (tCons (tC (.int 0)) (tCons (tOp rAdd (tOp rSub (tVar 2) (tVar 1)) (tC (.int 1))) tNil))))))))

theorem len_is_bar {K : PySem.W.Frag} : ∀ vs H Q E, sp_is_bar K vs H Q E → vs.length = ["a", "b", "c", "d"].length := by
  rintro vs H Q E ⟨_, _, _, _, _, _, rfl, _⟩; rfl
theorem bars_at {ws : List (Int × Int)} {a b : Int} {row : List Int} (h : BarsP ws a b row) {i : Nat} (hi : i < row.length) : (0 ≤ row[i] ∧ row[i] < ws.length) ∧ a ≤ w1 ws row[i].toNat ∧ w2 ws row[i].toNat ≤ b := by
  obtain ⟨l, e, r⟩ := h
  have hil : i < l.length := by rw [e, List.length_map] at hi; exact hi
  have h1 : row[i] = (l[i] : Int) := by simp [e]
  rw [h1]
  obtain ⟨m1, m2, m3⟩ := r.mem l[i] (List.getElem_mem hil)
  have e2 : ((l[i] : Nat) : Int).toNat = l[i] := by omega
  rw [e2]
  exact ⟨⟨by omega, by omega⟩, m2, m3⟩
/-- what stands ahead of place i -/
def aheadOf (row : List Int) : Nat → Int
  | 0 => -1
  | i + 1 => row.getD i 0
theorem pure_is_bar {K : PySem.W.Frag} {vs : List V} {H : Hp} {Q : VK} {E : XK} (h : sp_is_bar K vs H Q E) : t_is_bar K { nx := fun _ H' => Q .non H', rt := Q } (start N_is_bar vs) H := by
  obtain ⟨v, ws, a, b, p, row, rfl, hw, hp, hl, k⟩ := h
  obtain ⟨q, xs, rfl, hq, hx, hat⟩ := win_at hw
  have no : ¬ BarsP ws a b row → Q (.bl false) H := fun h => k false H (Same.refl H) ⟨(fun z => by cases z), fun z => absurd z h⟩
  unfold t_is_bar
  walk_at "xs"
  walk_at "if"
  rotate_left
  · rename_i c
    walk_at "xs"
    exact no (fun ⟨_, _, z⟩ => c z.a1.1)
  rename_i a1
  walk_at "xs"
  refine x_lenL hq ?_
  rw [hx]
  walk_at "xs"
  walk_at "if"
  · rename_i c
    walk_at "xs"
    exact no (fun ⟨_, _, z⟩ => c z.a1.2)
  rename_i a2
  walk_at "xs"
  walk_at "if"
  rotate_left
  · rename_i c
    walk_at "xs"
    exact no (fun ⟨_, _, z⟩ => c z.b1.1)
  rename_i b1
  walk_at "xs"
  refine x_lenL hq ?_
  rw [hx]
  walk_at "xs"
  walk_at "if"
  · rename_i c
    walk_at "xs"
    exact no (fun ⟨_, _, z⟩ => c z.b1.2)
  rename_i b2
  walk_at "xs"
  refine ⟨p, rfl, ⟨_, hp⟩, for_by turnsL (fun i σ H' => ∃ (u : Option V), σ = [some (.ref q), some (.int a), some (.int b), some (.ref p), some (.int (aheadOf row i)), u] ∧ H = H' ∧ -1 ≤ aheadOf row i ∧
      ∀ j (h : j < row.length), j < i → aheadOf row j < row[j] ∧ (0 ≤ row[j] ∧ row[j] < ws.length) ∧ a ≤ w1 ws row[j].toNat ∧ w2 ws row[j].toNat ≤ b)
    ⟨none, rfl, rfl, Int.le_refl _, fun j h z => absurd z (Nat.not_lt_zero _)⟩ (fun i σ H' _ ⟨_, _, h, _⟩ => h ▸ hp) ?_ ?_⟩
  · rintro i y σ H5 _ hi ⟨u, rfl, rfl, a0, fit⟩ ⟨rfl, hx'⟩
    rw [List.length_map] at hi
    rw [List.getElem?_map, List.getElem?_eq_getElem hi] at hx'
    cases hx'
    have hg : row.getD i 0 = row[i] := by rw [List.getD_eq_getElem?_getD, List.getElem?_eq_getElem hi]; rfl
    walk_at "xs"
    walk_at "if"
    · rename_i c1
      walk_at "xs"
      refine no (fun z => ?_)
      cases i with
      | zero =>
        have h1 := (bars_at z hi).1.1
        have : row[0] ≤ -1 := c1
        omega
      | succ i =>
        have pw := bars_inc z
        rw [List.pairwise_iff_getElem] at pw
        have h1 := pw i (i + 1) (by omega) hi (by omega)
        have h2 : row[i + 1] ≤ row.getD i 0 := c1
        rw [List.getD_eq_getElem?_getD, List.getElem?_eq_getElem (by omega)] at h2
        have h3 : row[i + 1] ≤ row[i] := h2
        omega
    rename_i c1
    walk_at "xs"
    refine x_lenL hq ?_
    rw [hx]
    walk_at "xs"
    walk_at "if"
    · rename_i c2
      walk_at "xs"
      exact no (fun z => by have := (bars_at z hi).1.2; omega)
    rename_i c2
    have c0 : 0 ≤ row[i] := by omega
    have c2' : row[i] < ws.length := by omega
    walk_at "xs"
    refine x_winix hw c0 c2' fun t2 ht2 => ?_
    walk_at "xs"
    refine x_ix0 ht2 ?_
    walk_at "xs"
    have eb : (ws.getD row[i].toNat (0, 0)).1 = w1 ws row[i].toNat := rfl
    rw [eb]
    walk_at "if"
    · rename_i c
      walk_at "xs"
      exact no (fun z => by have := (bars_at z hi).2.1; omega)
    rename_i c3
    walk_at "xs"
    refine x_winix hw c0 c2' fun t3 ht3 => ?_
    walk_at "xs"
    refine x_ix1 ht3 ?_
    walk_at "xs"
    have eb : (ws.getD row[i].toNat (0, 0)).2 = w2 ws row[i].toNat := rfl
    rw [eb]
    walk_at "if"
    · rename_i c
      walk_at "xs"
      exact no (fun z => by have := (bars_at z hi).2.2; omega)
    rename_i c4
    walk_at "xs"
    refine ⟨_, by show _ = [_, _, _, _, some (V.int (row.getD i 0)), _]; rw [hg]; rfl, rfl, by show _ ≤ row.getD i 0; rw [hg]; omega, fun j hj z => ?_⟩
    by_cases q : j < i
    · exact fit j hj q
    · have : j = i := by omega
      subst this
      exact ⟨by omega, ⟨c0, c2'⟩, by omega, by omega⟩
  · rintro σ H5 ⟨u, rfl, rfl, a0, fit⟩
    rw [List.length_map] at fit
    walk_at "xs"
    refine x_lenL hp ?_
    rw [List.length_map]
    walk_at "xs"
    have em : (if b - a + 1 > 0 then b - a + 1 else 0) = max 0 (b - a + 1) := by
      rw [Int.max_def]; split <;> split <;> omega
    rw [em]
    refine k _ H (Same.refl H) ?_
    rw [decide_eq_true_eq]
    constructor
    · intro many
      obtain ⟨l, e, hlt⟩ := nats_of (row := row) (n := ws.length) fun x hx => by
        obtain ⟨j, hj, rfl⟩ := List.getElem_of_mem hx
        exact (fit j hj hj).2.1
      have step : ∀ j (h : j + 1 < row.length), row[j] < row[j + 1] := fun j h => by
        have h1 := (fit (j + 1) h h).1
        have h2 : row.getD j 0 < row[j + 1] := h1
        rw [List.getD_eq_getElem?_getD, List.getElem?_eq_getElem (by omega)] at h2
        exact h2
      have inc : row.Pairwise (· < ·) := by
        rw [List.pairwise_iff_getElem]
        intro i j hi hj hij
        induction j with
        | zero => omega
        | succ j ih =>
          have s := step j hj
          by_cases e : i = j
          · subst e; exact s
          · have := ih (by omega) (by omega); omega
      refine ⟨l, e, ⟨a1, a2⟩, ⟨b1, b2⟩, ?_, fun c hc => ?_, ?_⟩
      · rw [e, List.pairwise_map] at inc
        exact inc.imp fun h => by omega
      · obtain ⟨j, hj, rfl⟩ := List.getElem_of_mem hc
        have hj' : j < row.length := by rw [e, List.length_map]; exact hj
        have h1 : row[j] = (l[j] : Int) := by simp [e]
        have := (fit j hj' hj').2.2
        rw [h1] at this
        have e2 : ((l[j] : Nat) : Int).toNat = l[j] := by omega
        rw [e2] at this
        exact ⟨hlt _ (List.getElem_mem _), this⟩
      · rw [e, List.length_map] at many; omega
    · rintro ⟨l, e, r⟩
      have := r.many
      rw [e, List.length_map]
      omega

end Su
namespace Su
open PySem L2
local macro_rules | `(tactic| walk_at "side") => `(tactic| first | assumption | (show (0 : Int) < _; omega) | (show (0 : Int) ≤ _; omega) | (show (0 : Int) < _; split <;> omega) | (show _ ∨ _; omega) | (show _ ∧ _; omega) | exact ⟨by decide, by decide, by decide⟩ | exact ⟨by first | assumption | omega, by first | assumption | omega⟩)
local macro_rules | `(tactic| walk_at "x") => `(tactic| first
  | with_reducible refine Su.x_seq ?_ | with_reducible refine Su.x_asg ?_ | with_reducible refine Su.x_gname ?_ | with_reducible refine Su.x_drop ?_ | with_reducible refine Su.x_ret ?_ | with_reducible refine Su.x_ifS ?_
  | ((with_reducible show L2.tVar _ _ _ _); refine Su.x_var rfl ?_) | with_reducible refine Su.x_c ?_ | with_reducible refine Su.x_op ?_ | with_reducible refine Su.x_rI0 ?_ | ((with_reducible refine Su.x_rI ?_ ?_); focus walk_at "side")
  | ((with_reducible show L2.rIxL _ (L2.V.ref _) (L2.V.int _) _ _); refine Su.x_ixI (by assumption) (by first | decide | omega) (by omega) ?_) | with_reducible refine Su.x_isi_int_int ?_ | with_reducible refine Su.x_isi_int_bool ?_ | with_reducible refine Su.x_isi_int_str ?_ | with_reducible refine Su.x_isi_int_list ?_ | with_reducible refine Su.x_isi_int_tuple ?_ | with_reducible refine Su.x_isi_bool_int ?_ | with_reducible refine Su.x_isi_bool_bool ?_ | with_reducible refine Su.x_isi_bool_str ?_ | with_reducible refine Su.x_isi_bool_list ?_ | with_reducible refine Su.x_isi_bool_tuple ?_ | with_reducible refine Su.x_isi_str_int ?_ | with_reducible refine Su.x_isi_str_bool ?_ | with_reducible refine Su.x_isi_str_str ?_ | with_reducible refine Su.x_isi_str_list ?_ | with_reducible refine Su.x_isi_str_tuple ?_ | with_reducible refine Su.x_isi_NoneType_int ?_ | with_reducible refine Su.x_isi_NoneType_bool ?_ | with_reducible refine Su.x_isi_NoneType_str ?_ | with_reducible refine Su.x_isi_NoneType_list ?_ | with_reducible refine Su.x_isi_NoneType_tuple ?_ | with_reducible refine Su.x_rGt ?_ | with_reducible refine Su.x_rGe ?_ | with_reducible refine Su.x_iteF ?_ | with_reducible refine Su.x_iteT ?_ | with_reducible refine Su.x_iteNT ?_ | with_reducible refine Su.x_iteNF ?_ | with_reducible refine Su.x_eqI ?_ | with_reducible refine Su.x_neI ?_ | with_reducible refine Su.x_eqS ?_ | with_reducible refine Su.x_neS ?_ | with_reducible refine Su.x_eqB ?_ | with_reducible refine Su.x_neB ?_
  | with_reducible refine Su.x_test ?_ | with_reducible refine Su.x_tB ?_ | with_reducible refine Su.x_isB ?_ | with_reducible refine Su.x_isB' ?_ | with_reducible refine Su.x_not ?_ | with_reducible refine Su.x_and ?_ | with_reducible refine Su.x_or ?_
  | with_reducible refine Su.x_andV ?_ | with_reducible refine Su.x_orV ?_ | with_reducible refine Su.x_notV ?_ | with_reducible refine Su.x_chain ?_ | with_reducible refine Su.x_nil ?_ | with_reducible refine Su.x_cons ?_ | with_reducible refine Su.x_cb ?_ | with_reducible refine Su.x_call ?_
  | with_reducible refine Su.x_un ?_ | with_reducible refine Su.x_rU ?_ | with_reducible refine Su.x_abs ?_ | with_reducible refine Su.x_max2 ?_ | with_reducible refine Su.x_min2 ?_ | with_reducible refine Su.x_int1 ?_ | with_reducible refine Su.x_intB ?_
  | with_reducible refine Su.x_lst ?_ | with_reducible refine Su.x_tup ?_ | with_reducible refine Su.x_bmL ?_ | with_reducible refine Su.x_next ?_ | with_reducible refine Su.x_for ?_ | with_reducible refine Su.x_iList ?_ | with_reducible refine Su.x_iRng1 ?_ | with_reducible refine Su.x_iRng2 ?_ | with_reducible refine Su.x_whileN ?_ | with_reducible refine Su.x_iEnum ?_ | with_reducible refine Su.x_iZip ?_ | with_reducible refine Su.x_iZipA ?_ | with_reducible refine Su.x_iTup ?_ | with_reducible refine Su.x_gcons ?_ | with_reducible refine Su.x_gnil ?_ | with_reducible refine Su.x_gsub ?_ | with_reducible refine Su.x_yes ?_ | with_reducible refine Su.x_lc ?_ | with_reducible refine Su.x_sl ?_ | with_reducible refine Su.x_nopart ?_ | with_reducible refine Su.x_part ?_ | with_reducible refine Su.x_isI ?_ | with_reducible refine Su.x_lstRg ?_ | with_reducible refine Su.x_rg1 ?_ | with_reducible refine Su.x_augS ?_ | with_reducible refine Su.x_ipI ?_ | ((with_reducible show L2.tAug _ _ _ _ _ _); refine Su.x_aug rfl ?_) | with_reducible refine Su.x_callS ?_ | with_reducible refine Su.x_tryAs ?_)
local macro_rules | `(tactic| walk_at "xs") => `(tactic| repeat walk_at "x")
local macro_rules | `(tactic| walk_at "if") => `(tactic| first | with_reducible refine Su.x_iteD (fun c => ?_) (fun c => ?_) | with_reducible refine Su.x_iteN (fun c => ?_) (fun c => ?_) | with_reducible refine Su.x_ite (fun c => ?_) (fun c => ?_))
/-! enumerate(xs, 1): the numbers from 1 on -/
section
open PySem.Calls PyProof.Rows AutoSeq1
theorem tyC2 (a b : Value) : checkTypeCall "enumerate" ⟨[a, b], []⟩ = pure () := by kernel_rfl
theorem nwC2 (a b : Value) : checkBuiltinCall "enumerate.__new__" ⟨[.type "enumerate", a, b], []⟩ = pure () := by kernel_rfl
abbrev itO (l : Addr) : Obj := { cls := .type "list_iterator", data := .fields #[.ref l, .int 0 0] }
abbrev enO (it : Addr) : Obj := { cls := .type "enumerate", data := .fields #[.none, .bool false, .ref it, rawInt 1, .none, .none] }
set_option maxHeartbeats 4000000 in
theorem meets_enum1 (l : Addr) (its : Array Value) (n : Nat) (dct : Option Addr) (sl : Array (Option Value)) (u : Tok) :
    Meets (Builtin.«enumerate.__new__» ⟨[.type "enumerate", .ref l, .int 1 u], []⟩) (fun _ R s => s.heap.get? l = some { cls := .type "list", dict := dct, data := .seq its n, slots := sl } ∧
      R (.ok (.ret (.ref (s.heap.push (itO l)).objs.size))) { s with heap := (s.heap.push (itO l)).push (enO s.heap.objs.size) }) :=
  .of_wp fun P w A R s ⟨hl, h⟩ => by
    obtain ⟨hp, g, d, tk, os⟩ := s
    have hsub := sub_enumerate
    have hL : Heap.IsList (Shared.heap ⟨hp, g, d, tk, os⟩) l its := ⟨_, hl, rfl, n, rfl⟩
    wp_walk using wpAny_loadPart' hl
    refine wpAny_stack_any fun st => wpAny_pure ?_
    split
    · rename_i c _ _ _ _ _
      cases (c == Value.type "enumerate") <;> (wp_walk using wpAny_loadPart' hl, wpAny_pyIter_list hL; exact ⟨_, rfl, h⟩)
    · wp_walk using wpAny_loadPart' hl, wpAny_pyIter_list hL
      exact ⟨_, rfl, h⟩
variable {P : Program} {w : World} {A : Around} {E : Value → Shared → Prop} {s : Shared}
theorem call_enum1 {l : Addr} {its : Array Value} {u : Tok} {Q : Value → Shared → Prop} (hL : s.heap.IsList l its)
    (h : ∀ h', IsEnum h' (s.heap.objs.size + 1) s.heap.objs.size 1 .none → h'.IsListIter s.heap.objs.size l 0 → (∀ b o, s.heap.get? b = some o → h'.get? b = some o) → Q (.ref (s.heap.objs.size + 1)) { s with heap := h' }) :
    wpAny (model P w) A (PySem.call (.type "enumerate") [.ref l, .int 1 u]) Q E s := by
  obtain ⟨⟨c, dct, dt, sl⟩, hl, hc, n, hd⟩ := hL
  replace hc : c = .type "list" := hc
  replace hd : dt = .seq its n := hd
  subst hc hd
  refine callType_new F.called_enumerate (by decide) (tyC2 _ _) (nwC2 _ _) (fun obj => F.args_object_init_3 obj _ _) F.entry_enumerate_new (meets_enum1 l its n dct sl u) ⟨hl, ?_⟩
  have hz : (s.heap.push (itO l)).objs.size = s.heap.objs.size + 1 := Heap.size_push ..
  show _ ∧ _
  rw [hz]
  have he : IsEnum ((s.heap.push (itO l)).push (enO s.heap.objs.size)) (s.heap.objs.size + 1) s.heap.objs.size 1 .none := hz ▸ Heap.get?_push_size (s.heap.push (itO l)) (o := enO s.heap.objs.size) rfl
  exact ⟨⟨_, he, rfl⟩, h _ he ⟨_, Heap.get?_push_of_some _ (Heap.get?_push_size _ rfl), rfl, rfl⟩ fun b o x => Heap.get?_push_of_some _ (Heap.get?_push_of_some _ x)⟩
/-- what is drawn, counted from one on -/
theorem draws_shift {it : Addr} {fp : List Addr} {n : Nat} {Pr : Nat → Value → Prop} {St : Nat → Heap → Prop} (D : Draws P w A it fp n Pr St) : Draws P w A it fp (n + 1) (fun i v => Pr (i - 1) v) (fun i h => ∃ j, i = j + 1 ∧ St j h) where
  live := fun i h ⟨j, _, st⟩ => D.live j h st
  frame := fun i h h' ⟨j, e, st⟩ k => ⟨j, e, D.frame j h h' st k⟩
  item := fun i s Q E hi ⟨j, e, st⟩ k => by
    subst e
    exact D.item j s Q E (by omega) st fun x h' tk p st' sb => k x h' tk p ⟨j + 1, rfl, st'⟩ sb
  done := fun s Q E ⟨j, e, st⟩ k => by
    have : j = n := by omega
    subst this
    exact D.done s Q E st k
end
/-- the list at a, its items in new pairs with their numbers from one on -/
def Ite1 (K : PySem.W.Frag) (a : Addr) : It :=
  ⟨fun i H => ∃ (xs : List V) (x : V), SqL K H a xs ∧ xs[i]? = some x, fun i H v H' => ∃ T x, v = .ref T ∧ H T = none ∧ H' = upd H T (.tup [.int ((i + 1 : Nat) : Int), x]) ∧ ∀ xs, SqL K H a xs → xs[i]? = some x, fun i H => ∃ xs : List V, SqL K H a xs ∧ xs.length = i⟩
theorem both {q : Addr → Prop} {a b : Addr} (h1 : q a) (h2 : q b) : ∀ c ∈ [a, b], q c := by
  simp only [List.forall_mem_cons]
  exact ⟨h1, h2, nofun⟩
theorem turn_enum1 {P : Program} {w : World} {K : PySem.W.Frag} {elts : List Expr} {kk : Nat} {tpos : Pos} (a e it : Addr) :
    Turn P w K (.Tuple elts kk tpos) (Ite1 K a) [e, it] e (fun i h => (∃ old, IsEnum h e it ((i + 1 : Nat) : Int) old) ∧ h.IsListIter it a i ∧ e ≠ it) where
  mem := by simp
  obj := fun i h ⟨⟨_, o1⟩, ⟨o2, e2, _, d2⟩, _⟩ => both ⟨_, o1, nofun⟩ ⟨o2, e2, fun v z => by rw [d2] at z; cases z⟩
  keep := fun i h h' ⟨⟨old, he⟩, hi, hne⟩ k => ⟨⟨old, k e (by simp) _ he⟩, hi.at fun o q => k it (by simp) o q, hne⟩
  item := by
    rintro X rfl rfl rfl hc i pins s σ H E I hf ⟨⟨old, he⟩, hit, hne⟩ ⟨xs, x, hq, hx⟩
    obtain ⟨its, rv, p, -⟩ := I.list hq
    have ⟨u, hu, ru⟩ := rv.get hx
    have hel := Heap.lt_size he
    have hil := hit.elim fun _ q => Heap.lt_size q.1
    obtain ⟨lo, hlo, lcl, lnl, ldl⟩ := p.isList
    have hai : a ≠ it := fun z => by
      obtain ⟨o, ho, oc, _⟩ := hit
      rw [← z, hlo] at ho
      injection ho with ho
      rw [← ho, lcl] at oc
      exact absurd oc (by decide)
    have hea : e ≠ a := fun z => by
      have he2 : s.heap.get? e = _ := he
      rw [z, hlo] at he2
      injection he2 with he2
      rw [he2] at lcl
      exact absurd (show Value.type "enumerate" = Value.type "list" from lcl) (by decide)
    have D := draws_shift (P := X.prog) (w := X.w) (Draws.list (A := X.A.in1) (prog := X.prog) (w := X.w) (show X.A.in1.handled = none by simp [I.ok.hd hc]) it a hai its.toArray)
    have hsz : its.toArray.size = xs.length := by rw [List.size_toArray]; exact rv.length.symm
    have hlt : i < xs.length := (List.getElem?_eq_some_iff.mp hx).1
    refine PySem.wpAny_pyNext_enum_itemD D he ⟨i, rfl, hit, p.isList⟩ (by omega) hne (by simp [hne, hea]) fun y h' tk hy ho hst hT hsz' hk => ?_
    have ey : y = u := by
      have hy' : its.toArray[i]? = some y := hy
      rw [show its.toArray[i]? = some u by simpa using hu] at hy'
      exact (Option.some.inj hy').symm
    subst ey
    obtain ⟨j, ej, hit', _⟩ := hst
    have : j = i + 1 := by omega
    subst this
    refine ⟨_, rfl, wpAny_letOwnedTupleGo_enum (s := { s with heap := h', toks := tk + 1 }) ho fun h'' he' sb => ?_⟩
    have hT2 : h''.get? s.heap.objs.size = some { cls := .type "tuple", data := .seq #[.int ((i + 1 : Nat) : Int) tk, y] } := (sb.2 _ (Nat.ne_of_gt hel)).trans hT
    have new : ObjOk X.prog X.w (upd H s.heap.objs.size (.tup [.int ((i + 1 : Nat) : Int), x])) h'' s.heap.objs.size (.tup [.int ((i + 1 : Nat) : Int), x]) :=
      ⟨by show 2 ≤ sizeLine; decide, [.int ((i + 1 : Nat) : Int) tk, y], .cons ⟨_, rfl⟩ (.cons ru .nil), ⟨_, hT2, rfl, _, rfl⟩⟩
    have I1 : L2.Inv X pins σ (upd H s.heap.objs.size (.tup [.int ((i + 1 : Nat) : Int), x])) { s with heap := h'', toks := tk + 1 } :=
      I.turnedNew (ch := [e, it]) (fun b ob hb q => (sb.2 b (fun z => hb (by simp [z]))).trans (hk b ob (fun z => hb (by simp [z])) (fun z => hb (by simp [z])) q)) hf (Nat.le_refl _) new
    refine ⟨.ref s.heap.objs.size, _, I1, rfl, ⟨_, x, rfl, I.hok.fresh (Nat.le_refl _), rfl, fun ys hy => by rw [I.list_inj hy hq]; exact hx⟩, ⟨⟨y, ?_⟩, hit'.at fun o q => (sb.2 it (Ne.symm hne)).trans q, hne⟩, fun b hb => ?_⟩
    · have e1 : ((i + 1 + 1 : Nat) : Int) = ((i + 1 : Nat) : Int) + 1 := by omega
      rw [e1]; exact he'
    · rw [upd_ne (Nat.ne_of_lt (both (q := (· < s.heap.objs.size)) hel hil b hb))]
      exact (hf b hb).1
  done := by
    rintro X rfl rfl rfl hc i pins s σ H E I hf ⟨⟨old, he⟩, hit, hne⟩ ⟨xs, hq, hx⟩
    obtain ⟨its, rv, p, -⟩ := I.list hq
    have own := hf it (by simp)
    obtain ⟨lo, hlo, lcl, lnl, ldl⟩ := p.isList
    have hai : a ≠ it := fun z => by
      obtain ⟨o, ho, oc, _⟩ := hit
      rw [← z, hlo] at ho
      injection ho with ho
      rw [← ho, lcl] at oc
      exact absurd oc (by decide)
    have D := Draws.list (A := X.A.in1) (prog := X.prog) (w := X.w) (show X.A.in1.handled = none by simp [I.ok.hd hc]) it a hai its.toArray
    have hsz : its.toArray.size = i := by rw [List.size_toArray, ← rv.length]; exact hx
    exact PySem.wpAny_pyNext_enum_endD D he (by rw [hsz]; exact ⟨hit, p.isList⟩) fun h' eb => ⟨rfl, I.turned (t' := s.toks) eb own.1 own.2.1 own.2.2.2.1 own.2.2.2.2.1 own.2.2.2.2.2⟩
  self := fun A i s Q E ⟨⟨_, he⟩, _⟩ h => wpAny_pyIter_enum he h
def iEnum1 (K : PySem.W.Frag) (ta : TA) : TI := fun σ H R => ta σ H fun vs H1 => ∃ a xs, vs = [.ref a, .int 1] ∧ SqL K H1 a xs ∧ R (Ite1 K a) H1

theorem pi_enum1 {X : Cx} {e : Expr} {te : TE} {p pos tpos pc : Pos} {elts : List Expr} {kk j : Nat} (hg : Gl X "enumerate") (hm : X.mg "enumerate" = none) (ha : PE X e te)
    (hs : starEach [e, .Constant (.int 1) j pc] X.env = (false, eval e X.env) :: starEach [.Constant (.int 1) j pc] X.env := by rfl) :
    PI X (.Tuple elts kk tpos) (.Call (.Name "enumerate" p) [e, .Constant (.int 1) j pc] [] pos) (iEnum1 X.K (tCons te (tCons (tC (.int 1)) tNil))) := by
  have ha' : PA X [e, .Constant (.int 1) j pc] (tCons te (tCons (tC (.int 1)) tNil)) := pa_cons ha (pa_cons pe_int pa_nil) (by first | exact hs | rfl)
  refine ⟨fun pins s σ H R I h => PyProof.Rows.Call_ (ld_blt I hg hm PyProof.Rows.boot_enumerate (PyProof.Rows.callWith_type1 (thn (ha'.run pos pins s σ H _ I h) fun us s1 ⟨vs, H1, I1, r1, q1⟩ => ?_) hs rfl))⟩
  obtain ⟨a, xs, ex, hq, q⟩ := q1
  subst ex
  cases r1 with
  | cons r rr =>
    cases rr with
    | cons r2 rr =>
      cases rr
      cases r
      obtain ⟨u, rfl⟩ := r2
      obtain ⟨its, rv, p', hz⟩ := I1.list hq
      refine call_enum1 p'.isList fun h' he hit hk => wpAny_pyIter_enum he ?_
      have I2 : L2.Inv X pins σ H1 { s1 with heap := h' } := I1.kept (t' := s1.toks) hk
      refine ⟨s1.heap.objs.size + 1, [s1.heap.objs.size + 1, s1.heap.objs.size], _, _, H1, rfl, I2, turn_enum1 a (s1.heap.objs.size + 1) s1.heap.objs.size, ⟨⟨.none, he⟩, hit, Nat.succ_ne_self _⟩, fun b hb => ?_, q⟩
      have above := both (q := (s1.heap.objs.size ≤ ·)) (Nat.le_succ _) (Nat.le_refl _) b hb
      exact I1.fpOk above (I1.hok.fresh above)
theorem turnsE1 {K : PySem.W.Frag} {a : Addr} {xs : List V} : Turns (Ite1 K a) xs.length (fun H => SqL K H a xs) (fun i v H H' => ∃ x, xs[i]? = some x ∧ Pair (.int ((i + 1 : Nat) : Int)) x v H H') where
  go := fun i H hi q => ⟨xs, xs[i], q, List.getElem?_eq_getElem hi⟩
  yld := fun i H v H' _ q y => by
    obtain ⟨T, x, rfl, hT, rfl, f⟩ := y
    exact ⟨x, f xs q, pair_mk hT⟩
  stop := fun H q => ⟨xs, q, rfl⟩
theorem x_iEnum1 {K : PySem.W.Frag} {a1 : TA} {σ : St} {H : Hp} {R : It → Hp → Prop} (h : a1 σ H fun vs H1 => ∃ a xs, vs = [.ref a, .int 1] ∧ SqL K H1 a xs ∧ R (Ite1 K a) H1) : iEnum1 K a1 σ H R := h

end Su
namespace Su
open PySem L2
local macro_rules | `(tactic| walk_at "side") => `(tactic| first | assumption | (show (0 : Int) < _; omega) | (show (0 : Int) ≤ _; omega) | (show (0 : Int) < _; split <;> omega) | (show _ ∨ _; omega) | (show _ ∧ _; omega) | exact ⟨by decide, by decide, by decide⟩ | exact ⟨by first | assumption | omega, by first | assumption | omega⟩)
local macro_rules | `(tactic| walk_at "x") => `(tactic| first
  | with_reducible refine Su.x_seq ?_ | with_reducible refine Su.x_asg ?_ | with_reducible refine Su.x_gname ?_ | with_reducible refine Su.x_drop ?_ | with_reducible refine Su.x_ret ?_ | with_reducible refine Su.x_ifS ?_
  | ((with_reducible show L2.tVar _ _ _ _); refine Su.x_var rfl ?_) | with_reducible refine Su.x_c ?_ | with_reducible refine Su.x_op ?_ | with_reducible refine Su.x_rI0 ?_ | ((with_reducible refine Su.x_rI ?_ ?_); focus walk_at "side")
  | ((with_reducible show L2.rIxL _ (L2.V.ref _) (L2.V.int _) _ _); refine Su.x_ixI (by assumption) (by first | decide | omega) (by omega) ?_) | with_reducible refine Su.x_isi_int_int ?_ | with_reducible refine Su.x_isi_int_bool ?_ | with_reducible refine Su.x_isi_int_str ?_ | with_reducible refine Su.x_isi_int_list ?_ | with_reducible refine Su.x_isi_int_tuple ?_ | with_reducible refine Su.x_isi_bool_int ?_ | with_reducible refine Su.x_isi_bool_bool ?_ | with_reducible refine Su.x_isi_bool_str ?_ | with_reducible refine Su.x_isi_bool_list ?_ | with_reducible refine Su.x_isi_bool_tuple ?_ | with_reducible refine Su.x_isi_str_int ?_ | with_reducible refine Su.x_isi_str_bool ?_ | with_reducible refine Su.x_isi_str_str ?_ | with_reducible refine Su.x_isi_str_list ?_ | with_reducible refine Su.x_isi_str_tuple ?_ | with_reducible refine Su.x_isi_NoneType_int ?_ | with_reducible refine Su.x_isi_NoneType_bool ?_ | with_reducible refine Su.x_isi_NoneType_str ?_ | with_reducible refine Su.x_isi_NoneType_list ?_ | with_reducible refine Su.x_isi_NoneType_tuple ?_ | with_reducible refine Su.x_rGt ?_ | with_reducible refine Su.x_rGe ?_ | with_reducible refine Su.x_iteF ?_ | with_reducible refine Su.x_iteT ?_ | with_reducible refine Su.x_iteNT ?_ | with_reducible refine Su.x_iteNF ?_ | with_reducible refine Su.x_eqI ?_ | with_reducible refine Su.x_neI ?_ | with_reducible refine Su.x_eqS ?_ | with_reducible refine Su.x_neS ?_ | with_reducible refine Su.x_eqB ?_ | with_reducible refine Su.x_neB ?_
  | with_reducible refine Su.x_test ?_ | with_reducible refine Su.x_tB ?_ | with_reducible refine Su.x_isB ?_ | with_reducible refine Su.x_isB' ?_ | with_reducible refine Su.x_not ?_ | with_reducible refine Su.x_and ?_ | with_reducible refine Su.x_or ?_
  | with_reducible refine Su.x_andV ?_ | with_reducible refine Su.x_orV ?_ | with_reducible refine Su.x_notV ?_ | with_reducible refine Su.x_chain ?_ | with_reducible refine Su.x_nil ?_ | with_reducible refine Su.x_cons ?_ | with_reducible refine Su.x_cb ?_ | with_reducible refine Su.x_call ?_
  | with_reducible refine Su.x_un ?_ | with_reducible refine Su.x_rU ?_ | with_reducible refine Su.x_abs ?_ | with_reducible refine Su.x_max2 ?_ | with_reducible refine Su.x_min2 ?_ | with_reducible refine Su.x_int1 ?_ | with_reducible refine Su.x_intB ?_
  | with_reducible refine Su.x_lst ?_ | with_reducible refine Su.x_tup ?_ | with_reducible refine Su.x_bmL ?_ | with_reducible refine Su.x_next ?_ | with_reducible refine Su.x_for ?_ | with_reducible refine Su.x_iList ?_ | with_reducible refine Su.x_iRng1 ?_ | with_reducible refine Su.x_iRng2 ?_ | with_reducible refine Su.x_whileN ?_ | with_reducible refine Su.x_iEnum ?_ | with_reducible refine Su.x_iZip ?_ | with_reducible refine Su.x_iZipA ?_ | with_reducible refine Su.x_iTup ?_ | with_reducible refine Su.x_gcons ?_ | with_reducible refine Su.x_gnil ?_ | with_reducible refine Su.x_gsub ?_ | with_reducible refine Su.x_yes ?_ | with_reducible refine Su.x_lc ?_ | with_reducible refine Su.x_sl ?_ | with_reducible refine Su.x_nopart ?_ | with_reducible refine Su.x_part ?_ | with_reducible refine Su.x_isI ?_ | with_reducible refine Su.x_lstRg ?_ | with_reducible refine Su.x_rg1 ?_ | with_reducible refine Su.x_augS ?_ | with_reducible refine Su.x_ipI ?_ | ((with_reducible show L2.tAug _ _ _ _ _ _); refine Su.x_aug rfl ?_) | with_reducible refine Su.x_callS ?_ | with_reducible refine Su.x_tryAs ?_)
local macro_rules | `(tactic| walk_at "xs") => `(tactic| repeat walk_at "x")
local macro_rules | `(tactic| walk_at "if") => `(tactic| first | with_reducible refine Su.x_iteD (fun c => ?_) (fun c => ?_) | with_reducible refine Su.x_iteN (fun c => ?_) (fun c => ?_) | with_reducible refine Su.x_ite (fun c => ?_) (fun c => ?_))
/-! is_order -/
def sp_is_order (K : PySem.W.Frag) : Sp := fun vs H Q _ => ∃ (v : V) (ws : List (Int × Int)) (p : Addr) (row : List Int), vs = [v, .ref p] ∧ Dp K H v (dWin ws) ∧ SqL K H p (row.map V.int) ∧ ws.length ≤ 1000 ∧
  ∀ b H', Same H H' → (b = true ↔ KeepsP ws row) → Q (.bl b) H'
abbrev N_is_order : List Str := ["windows", "row", "seen", "turn", "at"]
def t_is_order (K : PySem.W.Frag) : TS :=
 (tSeq (tIfS (tTest (tOp rNe (tCB (rLenSeq K) (tCons (tVar 1) tNil)) (tCB (rLenSeq K) (tCons (tVar 0) tNil))))
 (tRet (tC (.bl false)))
 tNext)
 (tSeq (tAsg (tLst tNil) (gName 2))
 (tSeq (tFor (iEnum1 K (tCons (tVar 1) (tCons (tC (.int 1)) tNil))) (gTup K 2 (gCons (gName 3) (gCons (gName 4) gNil)))
 (tSeq (tIfS (tOr (tNot (tTest (tChain rLe rLt (tC (.int 0)) (tVar 4) (tCB (rLenSeq K) (tCons (tVar 0) tNil))))) (tTest (tOp (rIn K false) (tVar 4) (tVar 2))))
 (tRet (tC (.bl false)))
 tNext)
 (tSeq (tIfS (tNot (tTest (tChain rLe rLe (tOp (rIxT K) (tOp (rIxL K) (tVar 0) (tVar 4)) (tC (.int 0))) (tVar 3) (tOp (rIxT K) (tOp (rIxL K) (tVar 0) (tVar 4)) (tC (.int 1))))))
 (tRet (tC (.bl false)))
 tNext)
 (tDrop (tBM K "list" rAppend (tVar 2) (tCons (tVar 4) tNil))))))
 (tRet (tC (.bl true))))))

theorem len_is_order {K : PySem.W.Frag} : ∀ vs H Q E, sp_is_order K vs H Q E → vs.length = ["a", "b"].length := by
  rintro vs H Q E ⟨_, _, _, _, rfl, _⟩; rfl
theorem keeps_at {ws : List (Int × Int)} {row : List Int} (h : KeepsP ws row) {i : Nat} (hi : i < row.length) : (0 ≤ row[i] ∧ row[i] < ws.length) ∧ w1 ws row[i].toNat ≤ (i : Int) + 1 ∧ (i : Int) + 1 ≤ w2 ws row[i].toNat := by
  obtain ⟨r, e, o⟩ := h
  have hir : i < r.length := by rw [e, List.length_map] at hi; exact hi
  have h1 : row[i] = (r[i] : Int) := by simp [e]
  have h2 := o.lt r[i] (List.getElem_mem hir)
  have h3 := o.fit i hir
  rw [h1]
  have e2 : ((r[i] : Nat) : Int).toNat = r[i] := by omega
  rw [e2]
  exact ⟨⟨by omega, by omega⟩, h3⟩
theorem keeps_nodup {ws : List (Int × Int)} {row : List Int} (h : KeepsP ws row) : row.Nodup := by
  obtain ⟨r, e, o⟩ := h
  rw [e, List.nodup_iff_pairwise_ne, List.pairwise_map]
  exact (List.nodup_iff_pairwise_ne.mp o.nd).imp fun h e => h (by omega)
theorem keeps_of {ws : List (Int × Int)} {row : List Int} (hl : row.length = ws.length) (nd : row.Nodup) (fit : ∀ j (h : j < row.length), (0 ≤ row[j] ∧ row[j] < ws.length) ∧ w1 ws row[j].toNat ≤ (j : Int) + 1 ∧ (j : Int) + 1 ≤ w2 ws row[j].toNat) : KeepsP ws row := by
  refine ⟨row.map Int.toNat, ?_, ?_, ?_, ?_, ?_⟩
  · rw [List.map_map]
    have : ∀ x ∈ row, ((fun (i : Nat) => (i : Int)) ∘ Int.toNat) x = x := fun x hx => by
      obtain ⟨j, hj, rfl⟩ := List.getElem_of_mem hx
      have := (fit j hj).1
      show ((row[j].toNat : Nat) : Int) = row[j]
      omega
    rw [List.map_congr_left this, List.map_id']
  · rw [List.length_map]; exact hl
  · rw [List.nodup_iff_pairwise_ne, List.pairwise_map]
    refine (List.nodup_iff_pairwise_ne.mp nd).imp_of_mem fun {x y} hx hy hne he => hne ?_
    obtain ⟨j, hj, rfl⟩ := List.getElem_of_mem hx
    obtain ⟨l, hl, rfl⟩ := List.getElem_of_mem hy
    have a := (fit j hj).1
    have b := (fit l hl).1
    omega
  · intro x hx
    obtain ⟨y, hy, rfl⟩ := List.mem_map.mp hx
    obtain ⟨j, hj, rfl⟩ := List.getElem_of_mem hy
    have := (fit j hj).1
    omega
  · intro k hk
    rw [List.getElem_map]
    rw [List.length_map] at hk
    exact (fit k hk).2
theorem pure_is_order {K : PySem.W.Frag} {vs : List V} {H : Hp} {Q : VK} {E : XK} (h : sp_is_order K vs H Q E) : t_is_order K { nx := fun _ H' => Q .non H', rt := Q } (start N_is_order vs) H := by
  obtain ⟨v, ws, p, row, rfl, hw, hp, hl, k⟩ := h
  obtain ⟨q, xs, rfl, hq, hx, hat⟩ := win_at hw
  have no : ¬ KeepsP ws row → ∀ H', Same H H' → Q (.bl false) H' := fun h H' s => k false H' s ⟨(fun z => by cases z), fun z => absurd z h⟩
  unfold t_is_order
  walk_at "xs"
  refine x_lenL hp ?_
  walk_at "xs"
  refine x_lenL hq ?_
  rw [hx, List.length_map]
  walk_at "xs"
  walk_at "if"
  · rename_i c
    walk_at "xs"
    refine no (fun ⟨r, e, o⟩ => c ?_) H (Same.refl H)
    have := o.len
    rw [e, List.length_map]
    omega
  rename_i c
  have hlen : row.length = ws.length := by omega
  walk_at "xs"
  refine al_lst fun ps H1 nps s1 hps => ?_
  walk_at "xs"
  refine x_iEnum1 ?_
  walk_at "xs"
  refine ⟨p, _, rfl, s1.seq hp, for_by turnsE1 (fun i σ H' => ∃ (u1 u2 : Option V), σ = [some (.ref q), some (.ref p), some (.ref ps), u1, u2] ∧ Same H H' ∧ H' ps = some (.lst ((row.take i).map V.int)) ∧ (row.take i).Nodup ∧
      ∀ j (h : j < row.length), j < i → (0 ≤ row[j] ∧ row[j] < ws.length) ∧ w1 ws row[j].toNat ≤ (j : Int) + 1 ∧ (j : Int) + 1 ≤ w2 ws row[j].toNat)
    ⟨none, none, rfl, s1, hps, List.nodup_nil, fun j h z => absurd z (Nat.not_lt_zero _)⟩ (fun i σ H' _ ⟨_, _, _, h, _⟩ => h.seq hp) ?_ ?_⟩
  · rintro i y σ H5 H6 hi ⟨u1, u2, rfl, s5, hps5, nd, fit⟩ ⟨x, hx', T, rfl, nT, s6, hT, _⟩
    rw [List.length_map] at hi
    rw [List.getElem?_map, List.getElem?_eq_getElem hi] at hx'
    cases hx'
    have s56 := s5.trans s6
    have hps6 := s6 _ _ hps5
    refine x_gtup (SqT.of hT) rfl ?_
    walk_at "xs"
    walk_at "if"
    rotate_left
    · rename_i c1
      walk_at "xs"
      exact no (fun z => c1 (keeps_at z hi).1.1) H6 s56
    rename_i c1
    walk_at "xs"
    refine x_lenL (s56.seq hq) ?_
    rw [hx]
    walk_at "xs"
    walk_at "if"
    · rename_i c2
      walk_at "xs"
      exact no (fun z => c2 (keeps_at z hi).1.2) H6 s56
    rename_i c2
    walk_at "xs"
    refine x_inI (SqL.of hps6) ?_
    walk_at "xs"
    have tk : row.take (i + 1) = row.take i ++ [row[i]] := by rw [List.take_add_one, List.getElem?_eq_getElem hi]; rfl
    walk_at "if"
    · rename_i c3
      walk_at "xs"
      refine no (fun z => ?_) H6 s56
      have := List.Nodup.sublist (List.take_sublist (i + 1) row) (keeps_nodup z)
      rw [tk, List.nodup_append] at this
      exact this.2.2 _ c3 _ (List.mem_singleton.mpr rfl) rfl
    rename_i c3
    walk_at "xs"
    refine x_winix (dp_same s56 hw) c1 c2 fun t2 ht2 => ?_
    walk_at "xs"
    refine x_ix0 ht2 ?_
    walk_at "xs"
    have eb : (ws.getD row[i].toNat (0, 0)).1 = w1 ws row[i].toNat := rfl
    rw [eb]
    walk_at "if"
    rotate_left
    · rename_i c4
      walk_at "xs"
      exact no (fun z => c4 (by have := (keeps_at z hi).2.1; omega)) H6 s56
    rename_i c4
    walk_at "xs"
    refine x_winix (dp_same s56 hw) c1 c2 fun t3 ht3 => ?_
    walk_at "xs"
    refine x_ix1 ht3 ?_
    walk_at "xs"
    have eb : (ws.getD row[i].toNat (0, 0)).2 = w2 ws row[i].toNat := rfl
    rw [eb]
    walk_at "if"
    · rename_i c5
      walk_at "xs"
      exact no (fun z => c5 (by have := (keeps_at z hi).2.2; omega)) H6 s56
    rename_i c5
    walk_at "xs"
    refine ⟨tyL (SqL.of hps6), ?_⟩
    walk_at "xs"
    refine x_append hps6 (small (by rw [List.length_map, List.length_take]; omega)) ?_
    refine ⟨_, _, rfl, same_upd s56 nps, ?_, ?_, fun j hj z => ?_⟩
    · rw [upd_same, tk, List.map_append]; rfl
    · rw [tk, List.nodup_append]
      exact ⟨nd, by simp, fun a ha b hb e => c3 (by rw [List.mem_singleton] at hb; rw [← hb, ← e]; exact ha)⟩
    · by_cases q : j < i
      · exact fit j hj q
      · have : j = i := by omega
        subst this
        exact ⟨⟨c1, c2⟩, by omega, by omega⟩
  · rintro σ H5 ⟨u1, u2, rfl, s5, hps5, nd, fit⟩
    rw [List.length_map] at fit nd
    rw [List.take_length] at nd
    walk_at "xs"
    exact k true H5 s5 ⟨fun _ => keeps_of hlen nd fun j hj => fit j hj hj, fun _ => rfl⟩

end Su
namespace Su
open PySem L2
local macro_rules | `(tactic| walk_at "side") => `(tactic| first | assumption | (show (0 : Int) < _; omega) | (show (0 : Int) ≤ _; omega) | (show (0 : Int) < _; split <;> omega) | (show _ ∨ _; omega) | (show _ ∧ _; omega) | exact ⟨by decide, by decide, by decide⟩ | exact ⟨by first | assumption | omega, by first | assumption | omega⟩)
local macro_rules | `(tactic| walk_at "x") => `(tactic| first
  | with_reducible refine Su.x_seq ?_ | with_reducible refine Su.x_asg ?_ | with_reducible refine Su.x_gname ?_ | with_reducible refine Su.x_drop ?_ | with_reducible refine Su.x_ret ?_ | with_reducible refine Su.x_ifS ?_
  | ((with_reducible show L2.tVar _ _ _ _); refine Su.x_var rfl ?_) | with_reducible refine Su.x_c ?_ | with_reducible refine Su.x_op ?_ | with_reducible refine Su.x_rI0 ?_ | ((with_reducible refine Su.x_rI ?_ ?_); focus walk_at "side")
  | ((with_reducible show L2.rIxL _ (L2.V.ref _) (L2.V.int _) _ _); refine Su.x_ixI (by assumption) (by first | decide | omega) (by omega) ?_) | with_reducible refine Su.x_isi_int_int ?_ | with_reducible refine Su.x_isi_int_bool ?_ | with_reducible refine Su.x_isi_int_str ?_ | with_reducible refine Su.x_isi_int_list ?_ | with_reducible refine Su.x_isi_int_tuple ?_ | with_reducible refine Su.x_isi_bool_int ?_ | with_reducible refine Su.x_isi_bool_bool ?_ | with_reducible refine Su.x_isi_bool_str ?_ | with_reducible refine Su.x_isi_bool_list ?_ | with_reducible refine Su.x_isi_bool_tuple ?_ | with_reducible refine Su.x_isi_str_int ?_ | with_reducible refine Su.x_isi_str_bool ?_ | with_reducible refine Su.x_isi_str_str ?_ | with_reducible refine Su.x_isi_str_list ?_ | with_reducible refine Su.x_isi_str_tuple ?_ | with_reducible refine Su.x_isi_NoneType_int ?_ | with_reducible refine Su.x_isi_NoneType_bool ?_ | with_reducible refine Su.x_isi_NoneType_str ?_ | with_reducible refine Su.x_isi_NoneType_list ?_ | with_reducible refine Su.x_isi_NoneType_tuple ?_ | with_reducible refine Su.x_rGt ?_ | with_reducible refine Su.x_rGe ?_ | with_reducible refine Su.x_iteF ?_ | with_reducible refine Su.x_iteT ?_ | with_reducible refine Su.x_iteNT ?_ | with_reducible refine Su.x_iteNF ?_ | with_reducible refine Su.x_eqI ?_ | with_reducible refine Su.x_neI ?_ | with_reducible refine Su.x_eqS ?_ | with_reducible refine Su.x_neS ?_ | with_reducible refine Su.x_eqB ?_ | with_reducible refine Su.x_neB ?_
  | with_reducible refine Su.x_test ?_ | with_reducible refine Su.x_tB ?_ | with_reducible refine Su.x_isB ?_ | with_reducible refine Su.x_isB' ?_ | with_reducible refine Su.x_not ?_ | with_reducible refine Su.x_and ?_ | with_reducible refine Su.x_or ?_
  | with_reducible refine Su.x_andV ?_ | with_reducible refine Su.x_orV ?_ | with_reducible refine Su.x_notV ?_ | with_reducible refine Su.x_chain ?_ | with_reducible refine Su.x_nil ?_ | with_reducible refine Su.x_cons ?_ | with_reducible refine Su.x_cb ?_ | with_reducible refine Su.x_call ?_
  | with_reducible refine Su.x_un ?_ | with_reducible refine Su.x_rU ?_ | with_reducible refine Su.x_abs ?_ | with_reducible refine Su.x_max2 ?_ | with_reducible refine Su.x_min2 ?_ | with_reducible refine Su.x_int1 ?_ | with_reducible refine Su.x_intB ?_
  | with_reducible refine Su.x_lst ?_ | with_reducible refine Su.x_tup ?_ | with_reducible refine Su.x_bmL ?_ | with_reducible refine Su.x_next ?_ | with_reducible refine Su.x_for ?_ | with_reducible refine Su.x_iList ?_ | with_reducible refine Su.x_iRng1 ?_ | with_reducible refine Su.x_iRng2 ?_ | with_reducible refine Su.x_whileN ?_ | with_reducible refine Su.x_iEnum ?_ | with_reducible refine Su.x_iZip ?_ | with_reducible refine Su.x_iZipA ?_ | with_reducible refine Su.x_iTup ?_ | with_reducible refine Su.x_gcons ?_ | with_reducible refine Su.x_gnil ?_ | with_reducible refine Su.x_gsub ?_ | with_reducible refine Su.x_yes ?_ | with_reducible refine Su.x_lc ?_ | with_reducible refine Su.x_sl ?_ | with_reducible refine Su.x_nopart ?_ | with_reducible refine Su.x_part ?_ | with_reducible refine Su.x_isI ?_ | with_reducible refine Su.x_lstRg ?_ | with_reducible refine Su.x_rg1 ?_ | with_reducible refine Su.x_augS ?_ | with_reducible refine Su.x_ipI ?_ | ((with_reducible show L2.tAug _ _ _ _ _ _); refine Su.x_aug rfl ?_) | with_reducible refine Su.x_callS ?_ | with_reducible refine Su.x_tryAs ?_)
local macro_rules | `(tactic| walk_at "xs") => `(tactic| repeat walk_at "x")
local macro_rules | `(tactic| walk_at "if") => `(tactic| first | with_reducible refine Su.x_iteD (fun c => ?_) (fun c => ?_) | with_reducible refine Su.x_iteN (fun c => ?_) (fun c => ?_) | with_reducible refine Su.x_ite (fun c => ?_) (fun c => ?_))
/-! good_paper -/
inductive PapI where
  | order (row : List Int)
  | bar (a b : Int) (row : List Int)
def GoodI (ws : List (Int × Int)) : PapI → Prop
  | .order row => KeepsP ws row
  | .bar a b row => BarsP ws a b row
def PapAt (K : PySem.W.Frag) (H : Hp) (t p : Addr) : PapI → Prop
  | .order row => SqT K H t [.str "order", .ref p] ∧ SqL K H p (row.map V.int)
  | .bar a b row => SqT K H t [.str "bar", .int a, .int b, .ref p] ∧ SqL K H p (row.map V.int)
def sp_good_paper (K : PySem.W.Frag) : Sp := fun vs H Q _ => ∃ (v : V) (ws : List (Int × Int)) (t p : Addr) (x : PapI), vs = [v, .ref t] ∧ Dp K H v (dWin ws) ∧ PapAt K H t p x ∧ ws.length ≤ 1000 ∧
  ∀ b H', Same H H' → (b = true ↔ GoodI ws x) → Q (.bl b) H'
abbrev N_good_paper : List Str := ["windows", "paper"]
def t_good_paper (K : PySem.W.Frag) : TS :=
 (tSeq (tIfS (tTest (tOp rEq (tOp (rIxT K) (tVar 1) (tC (.int 0))) (tC (.str "order"))))
 (tRet (tCall (sp_is_order K) [] E0 (tCons (tVar 0) (tCons (tOp (rIxT K) (tVar 1) (tC (.int 1))) tNil))))
 tNext)
 (tRet (tCall (sp_is_bar K) [] E0 (tCons (tVar 0) (tCons (tOp (rIxT K) (tVar 1) (tC (.int 1))) (tCons (tOp (rIxT K) (tVar 1) (tC (.int 2))) (tCons (tOp (rIxT K) (tVar 1) (tC (.int 3))) tNil)))))))

theorem len_good_paper {K : PySem.W.Frag} : ∀ vs H Q E, sp_good_paper K vs H Q E → vs.length = ["a", "b"].length := by
  rintro vs H Q E ⟨_, _, _, _, _, rfl, _⟩; rfl
theorem bar_ne : ¬ ("bar" : Str) = "order" := by decide +kernel
theorem pure_good_paper {K : PySem.W.Frag} {vs : List V} {H : Hp} {Q : VK} {E : XK} (h : sp_good_paper K vs H Q E) : t_good_paper K { nx := fun _ H' => Q .non H', rt := Q } (start N_good_paper vs) H := by
  obtain ⟨v, ws, t, p, x, rfl, hw, hp, hl, k⟩ := h
  unfold t_good_paper
  cases x with
  | order row =>
    obtain ⟨ht, hp⟩ := hp
    walk_at "xs"
    refine x_ix0 ht ?_
    walk_at "xs"
    walk_at "if"
    · walk_at "xs"
      refine x_ix1 ht ?_
      walk_at "xs"
      exact ⟨v, ws, p, row, rfl, hw, hp, hl, k⟩
    · rename_i c; exact absurd rfl c
  | bar a b row =>
    obtain ⟨ht, hp⟩ := hp
    walk_at "xs"
    refine x_ix0 ht ?_
    walk_at "xs"
    walk_at "if"
    · rename_i c; exact absurd c bar_ne
    · walk_at "xs"
      refine x_ix1 ht ?_
      walk_at "xs"
      refine x_ixT (v := .int b) ht (by rfl) ?_
      walk_at "xs"
      refine x_ixT (v := .ref p) ht (by rfl) ?_
      walk_at "xs"
      exact ⟨v, ws, a, b, p, row, rfl, hw, hp, hl, k⟩

end Su
namespace Su
open PySem L2
local macro_rules | `(tactic| walk_at "side") => `(tactic| first | assumption | (show (0 : Int) < _; omega) | (show (0 : Int) ≤ _; omega) | (show (0 : Int) < _; split <;> omega) | (show _ ∨ _; omega) | (show _ ∧ _; omega) | exact ⟨by decide, by decide, by decide⟩ | exact ⟨by first | assumption | omega, by first | assumption | omega⟩)
local macro_rules | `(tactic| walk_at "x") => `(tactic| first | with_reducible refine Su.x_seq ?_ | with_reducible refine Su.x_asg ?_ | with_reducible refine Su.x_gname ?_ | with_reducible refine Su.x_ret ?_ | ((with_reducible show L2.tVar _ _ _ _); refine Su.x_var rfl ?_) | with_reducible refine Su.x_c ?_ | with_reducible refine Su.x_op ?_ | with_reducible refine Su.x_rI0 ?_ | with_reducible refine Su.x_rGt ?_ | with_reducible refine Su.x_test ?_ | with_reducible refine Su.x_isB' ?_ | with_reducible refine Su.x_and ?_ | with_reducible refine Su.x_nil ?_ | with_reducible refine Su.x_cons ?_ | with_reducible refine Su.x_call ?_ | with_reducible refine Su.x_tup ?_ | with_reducible refine Su.x_whileN ?_ | with_reducible refine Su.x_ipI ?_ | ((with_reducible show L2.tAug _ _ _ _ _ _); refine Su.x_aug rfl ?_))
local macro_rules | `(tactic| walk_at "xs") => `(tactic| repeat walk_at "x")
local macro_rules | `(tactic| walk_at "if") => `(tactic| first | with_reducible refine Su.x_iteD (fun c => ?_) (fun c => ?_) | with_reducible refine Su.x_iteN (fun c => ?_) (fun c => ?_) | with_reducible refine Su.x_ite (fun c => ?_) (fun c => ?_))

/-! bar_of -/
def sp_bar_of (K : PySem.W.Frag) : Sp := fun vs H Q _ => ∃ (v : V) (ws : List (Int × Int)) (p : Addr) (row : List Nat) (late : Int), vs = [v, .ref p, .int late] ∧ Dp K H v (dWin ws) ∧ SqL K H p (nI row) ∧ ws.length ≤ 1000 ∧ 0 ≤ late ∧ late ≤ row.length ∧ (∀ x ∈ row, x < ws.length) ∧
  ∀ v' H', Same H H' → PaperAt H H' v' (barOf ws row late) → Q v' H'
abbrev N_bar_of : List Str := ["windows", "row", "late", "early"]
def t_bar_of (K : PySem.W.Frag) : TS :=
 (tSeq (tAsg (tOp rAdd (tVar 2) (tC (.int 1))) (gName 3))
 (tSeq (tWhile (tAnd (tTest (tOp rGt (tVar 3) (tC (.int 1)))) (tTest (tOp rLe (tOp (rIxT K) (tOp (rIxL K) (tVar 0) (tOp (rIxL K) (tVar 1) (tOp rSub (tVar 3) (tC (.int 2))))) (tC (.int 1))) (tVar 2))))
 (tAug 3 (tC (.int 1)) (ipI fun i j => i - j)))
 (tRet (tTup (tCons (tC (.str "bar")) (tCons (tVar 3) (tCons (tVar 2) (tCons (tCall (sp_within K) [] E0 (tCons (tVar 0) (tCons (tVar 3) (tCons (tVar 2) tNil)))) tNil))))))))

theorem len_bar_of {K : PySem.W.Frag} : ∀ vs H Q E, sp_bar_of K vs H Q E → vs.length = ["a", "b", "c"].length := by
  rintro vs H Q E ⟨_, _, _, _, _, rfl, _⟩; rfl
theorem pure_bar_of {K : PySem.W.Frag} {vs : List V} {H : Hp} {Q : VK} {E : XK} (h : sp_bar_of K vs H Q E) : t_bar_of K { nx := fun _ H' => Q .non H', rt := Q } (start N_bar_of vs) H := by
  obtain ⟨v, ws, p, row, late, rfl, hw, hp, hl, l0, l1, hr, k⟩ := h
  obtain ⟨q, xs, rfl, hq, hx, hat⟩ := win_at hw
  unfold t_bar_of
  walk_at "xs"
  have fin : ∀ j : Nat, downTo ws row late j = downTo ws row late late.toNat → downTo ws row late j = j →
      (tRet (tTup (tCons (tC (.str "bar")) (tCons (tVar 3) (tCons (tVar 2) (tCons (tCall (sp_within K) [] E0 (tCons (tVar 0) (tCons (tVar 3) (tCons (tVar 2) tNil)))) tNil)))))) { nx := fun _ H' => Q .non H', rt := Q } [some (.ref q), some (.ref p), some (.int late), some (.int ((j : Int) + 1))] H := by
    intro j e1 e2
    walk_at "xs"
    refine ⟨_, ws, (j : Int) + 1, late, rfl, hw, hl, fun c H1 nc s1 hc => ?_⟩
    walk_at "xs"
    refine al_tup fun t H2 nt s2 ht => ?_
    have e3 : downTo ws row late late.toNat = j := by rw [← e1, e2]
    refine k _ H2 (s1.trans s2) ?_
    unfold barOf
    rw [e3]
    exact ⟨t, c, rfl, s1.free nt, nc, ht, s2 _ _ hc⟩
  refine ⟨fun m σ H' => ∃ j : Nat, σ = [some (.ref q), some (.ref p), some (.int late), some (.int ((j : Int) + 1))] ∧ H = H' ∧ j ≤ late.toNat ∧ downTo ws row late j = downTo ws row late late.toNat ∧ j = m, ⟨_, late.toNat, by rw [Int.toNat_of_nonneg l0]; rfl, rfl, Nat.le_refl _, rfl, rfl⟩, ?_⟩
  rintro m σ H2 ⟨j, rfl, rfl, hj, hd, rfl⟩
  walk_at "xs"
  walk_at "if"
  · rename_i c1
    obtain ⟨j', rfl⟩ : ∃ j', j = j' + 1 := ⟨j - 1, by omega⟩
    walk_at "xs"
    refine x_ixL hp (at_getN (by omega) (by omega)) ?_
    have e0 : (((j' + 1 : Nat) : Int) + 1 - 2).toNat = j' := by omega
    rw [e0]
    have hjl : j' < row.length := by omega
    have hg : row.getD j' 0 < ws.length := by
      rw [List.getD_eq_getElem?_getD, List.getElem?_eq_getElem hjl]
      exact hr _ (List.getElem_mem _)
    refine x_winix hw (by omega) (by omega) fun t2 ht2 => ?_
    walk_at "xs"
    refine x_ix1 ht2 ?_
    walk_at "xs"
    have eb : (ws.getD ((row.getD j' 0 : Nat) : Int).toNat (0, 0)).2 = w2 ws (row.getD j' 0) := rfl
    rw [eb]
    have ed : downTo ws row late (j' + 1) = if w2 ws (row.getD j' 0) ≤ late then downTo ws row late j' else j' + 1 := rfl
    walk_at "if"
    · rename_i c2
      walk_at "xs"
      rw [if_pos c2] at ed
      exact ⟨_, Nat.lt_succ_self _, j', by show [_, _, _, some (V.int ((((j' + 1 : Nat) : Int) + 1) - 1))] = _; rw [show (((j' + 1 : Nat) : Int) + 1) - 1 = (j' : Int) + 1 by omega], rfl, by omega, by rw [← hd, ed], rfl⟩
    · rename_i c2
      rw [if_neg c2] at ed
      exact fin (j' + 1) hd ed
  · rename_i c1
    have : j = 0 := by omega
    subst this
    refine x_iteF ?_
    exact fin 0 hd rfl

end Su
namespace Su
open PySem L2
local macro_rules | `(tactic| walk_at "side") => `(tactic| first | assumption | (show (0 : Int) < _; omega) | (show (0 : Int) ≤ _; omega) | (show (0 : Int) < _; split <;> omega) | (show _ ∨ _; omega) | (show _ ∧ _; omega) | exact ⟨by decide, by decide, by decide⟩ | exact ⟨by first | assumption | omega, by first | assumption | omega⟩)
local macro_rules | `(tactic| walk_at "x") => `(tactic| first | with_reducible refine Su.x_seq ?_ | with_reducible refine Su.x_asg ?_ | with_reducible refine Su.x_gname ?_ | with_reducible refine Su.x_ret ?_ | with_reducible refine Su.x_ifS ?_ | ((with_reducible show L2.tVar _ _ _ _); refine Su.x_var rfl ?_) | with_reducible refine Su.x_c ?_ | with_reducible refine Su.x_op ?_ | with_reducible refine Su.x_rI0 ?_ | with_reducible refine Su.x_iteF ?_ | with_reducible refine Su.x_iteT ?_ | with_reducible refine Su.x_eqI ?_ | with_reducible refine Su.x_test ?_ | with_reducible refine Su.x_isB' ?_ | with_reducible refine Su.x_and ?_ | with_reducible refine Su.x_or ?_ | with_reducible refine Su.x_nil ?_ | with_reducible refine Su.x_cons ?_ | with_reducible refine Su.x_un ?_ | with_reducible refine Su.x_rU ?_ | with_reducible refine Su.x_next ?_ | with_reducible refine Su.x_for ?_ | with_reducible refine Su.x_iEnum ?_ | with_reducible refine Su.x_gcons ?_ | with_reducible refine Su.x_gnil ?_)
local macro_rules | `(tactic| walk_at "xs") => `(tactic| repeat walk_at "x")
local macro_rules | `(tactic| walk_at "if") => `(tactic| first | with_reducible refine Su.x_iteD (fun c => ?_) (fun c => ?_) | with_reducible refine Su.x_iteN (fun c => ?_) (fun c => ?_) | with_reducible refine Su.x_ite (fun c => ?_) (fun c => ?_))

/-! next_window -/
def sp_next_window (K : PySem.W.Frag) : Sp := fun vs H Q _ => ∃ (v : V) (ws : List (Int × Int)) (p : Addr) (row : List Nat) (t : Int), vs = [v, .ref p, .int t] ∧ Dp K H v (dWin ws) ∧ SqL K H p (nI row) ∧
  ∀ H', Same H H' → Q (.int (optI (nextN ws row t ws.length))) H'
abbrev N_next_window : List Str := ["windows", "row", "turn", "best", "at", "first", "last"]
def t_next_window (K : PySem.W.Frag) : TS :=
 (tSeq (tAsg (tUn rNeg (tC (.int 1))) (gName 3))
 (tSeq (tFor (iEnum K (tCons (tVar 0) tNil)) (gTup K 2 (gCons (gName 4) (gCons (gTup K 2 (gCons (gName 5) (gCons (gName 6) gNil))) gNil)))
 (tIfS (tAnd (tTest (tOp rLe (tVar 5) (tVar 2))) (tTest (tOp (rIn K true) (tVar 4) (tVar 1))))
 (tIfS (tOr (tTest (tOp rEq (tVar 3) (tUn rNeg (tC (.int 1))))) (tTest (tOp rLt (tVar 6) (tOp (rIxT K) (tOp (rIxL K) (tVar 0) (tVar 3)) (tC (.int 1))))))
 (tAsg (tVar 4) (gName 3))
 tNext)
 tNext))
 (tRet (tVar 3))))

theorem len_next_window {K : PySem.W.Frag} : ∀ vs H Q E, sp_next_window K vs H Q E → vs.length = ["a", "b", "c"].length := by
  rintro vs H Q E ⟨_, _, _, _, _, rfl, _⟩; rfl
theorem pure_next_window {K : PySem.W.Frag} {vs : List V} {H : Hp} {Q : VK} {E : XK} (h : sp_next_window K vs H Q E) : t_next_window K { nx := fun _ H' => Q .non H', rt := Q } (start N_next_window vs) H := by
  obtain ⟨v, ws, p, row, t, rfl, hw, hp, k⟩ := h
  obtain ⟨q, xs, rfl, hq, hx, hat⟩ := win_at hw
  unfold t_next_window
  walk_at "xs"
  refine ⟨q, xs, rfl, hq, for_by turnsE (fun i σ H' => ∃ (u v w : Option V), σ = [some (.ref q), some (.ref p), some (.int t), some (.int (optI (nextN ws row t i))), u, v, w] ∧ Same H H')
    ⟨none, none, none, rfl, Same.refl H⟩ (fun i σ H' _ ⟨_, _, _, _, s⟩ => s.seq hq) ?_ ?_⟩
  · rintro i y σ H2 H3 hi ⟨u, v, w, rfl, s2⟩ ⟨x, hx', T, rfl, nT, s3, hT, _⟩
    obtain ⟨wi, t1, ew, rfl, ht⟩ := hat i x hx'
    have hd : ws.getD i (0, 0) = wi := by rw [List.getD_eq_getElem?_getD, ew]; rfl
    have h1 : w1 ws i = wi.1 := by unfold w1; rw [hd]
    have h2 : w2 ws i = wi.2 := by unfold w2; rw [hd]
    have s4 := s2.trans s3
    refine x_gtup (SqT.of hT) rfl ?_
    walk_at "xs"
    refine x_gtup (seqT_same s4 ht) rfl ?_
    walk_at "xs"
    have en : nextN ws row t (i + 1) = if rdy ws row t i = true then pick ws i (nextN ws row t i) else nextN ws row t i := rfl
    walk_at "if"
    · rename_i c1
      walk_at "xs"
      refine x_notInN (s4.seq hp) ?_
      walk_at "xs"
      walk_at "if"
      · rename_i c2
        have r : rdy ws row t i = true := by unfold rdy; rw [h1]; simp [c1, c2]
        rw [if_pos r] at en
        walk_at "xs"
        cases e : nextN ws row t i with
        | none =>
          rw [e] at en
          walk_at "xs"
          walk_at "if"
          · walk_at "xs"
            exact ⟨_, _, _, by rw [en]; rfl, s4⟩
          · rename_i c3; exact absurd rfl c3
        | some b =>
          rw [e] at en
          have hb := (nextN_some e).1
          walk_at "if"
          · rename_i c3
            have : (b : Int) = -1 := c3
            omega
          · walk_at "xs"
            refine x_winix (dp_same s4 hw) (by show (0 : Int) ≤ (b : Int); omega) (by show (b : Int) < _; omega) fun t2 ht2 => ?_
            walk_at "xs"
            refine x_ix1 ht2 ?_
            walk_at "xs"
            have eb : (ws.getD (optI (some b)).toNat (0, 0)).2 = w2 ws b := rfl
            rw [eb, ← h2]
            walk_at "if"
            · rename_i c4
              walk_at "xs"
              exact ⟨_, _, _, by rw [en]; unfold pick; simp only; rw [if_pos c4]; rfl, s4⟩
            · rename_i c4
              walk_at "xs"
              exact ⟨_, _, _, by rw [en]; unfold pick; simp only; rw [if_neg c4]; rfl, s4⟩
      · rename_i c2
        have r : rdy ws row t i = false := by unfold rdy; simp [c2]
        rw [r, if_neg Bool.false_ne_true] at en
        walk_at "xs"
        exact ⟨_, _, _, by rw [en]; rfl, s4⟩
    · rename_i c1
      have r : rdy ws row t i = false := by unfold rdy; rw [h1]; simp [c1]
      rw [r, if_neg Bool.false_ne_true] at en
      walk_at "xs"
      exact ⟨_, _, _, by rw [en]; rfl, s4⟩
  · rintro σ H2 ⟨u, v, w, rfl, s2⟩
    walk_at "xs"
    rw [hx]
    exact k H2 s2

end Su
namespace Su
open PySem L2
local macro_rules | `(tactic| walk_at "side") => `(tactic| first | assumption | (show (0 : Int) < _; omega) | (show (0 : Int) ≤ _; omega) | (show (0 : Int) < _; split <;> omega) | (show _ ∨ _; omega) | (show _ ∧ _; omega) | exact ⟨by decide, by decide, by decide⟩ | exact ⟨by first | assumption | omega, by first | assumption | omega⟩)
local macro_rules | `(tactic| walk_at "x") => `(tactic| first | with_reducible refine Su.x_seq ?_ | with_reducible refine Su.x_asg ?_ | with_reducible refine Su.x_gname ?_ | with_reducible refine Su.x_drop ?_ | with_reducible refine Su.x_ret ?_ | with_reducible refine Su.x_ifS ?_ | ((with_reducible show L2.tVar _ _ _ _); refine Su.x_var rfl ?_) | with_reducible refine Su.x_c ?_ | with_reducible refine Su.x_op ?_ | with_reducible refine Su.x_rI0 ?_ | with_reducible refine Su.x_eqI ?_ | with_reducible refine Su.x_test ?_ | with_reducible refine Su.x_isB' ?_ | with_reducible refine Su.x_nil ?_ | with_reducible refine Su.x_cons ?_ | with_reducible refine Su.x_cb ?_ | with_reducible refine Su.x_call ?_ | with_reducible refine Su.x_un ?_ | with_reducible refine Su.x_rU ?_ | with_reducible refine Su.x_lst ?_ | with_reducible refine Su.x_tup ?_ | with_reducible refine Su.x_bmL ?_ | with_reducible refine Su.x_next ?_ | with_reducible refine Su.x_for ?_ | with_reducible refine Su.x_iRng2 ?_)
local macro_rules | `(tactic| walk_at "xs") => `(tactic| repeat walk_at "x")
local macro_rules | `(tactic| walk_at "if") => `(tactic| first | with_reducible refine Su.x_iteD (fun c => ?_) (fun c => ?_) | with_reducible refine Su.x_iteN (fun c => ?_) (fun c => ?_) | with_reducible refine Su.x_ite (fun c => ?_) (fun c => ?_))

/-! order_or_bar -/
def sp_order_or_bar (K : PySem.W.Frag) : Sp := fun vs H Q _ => ∃ (v : V) (ws : List (Int × Int)), vs = [v] ∧ Dp K H v (dWin ws) ∧ ws.length ≤ 1000 ∧ WinOk ws.length ws ∧
  ∀ v' H', Same H H' → PaperAt H H' v' (paperOf ws) → Q v' H'
abbrev N_order_or_bar : List Str := ["windows", "row", "size", "turn", "at"]
def t_order_or_bar (K : PySem.W.Frag) : TS :=
 (tSeq (tAsg (tLst tNil) (gName 1))
 (tSeq (tAsg (tCB (rLenSeq K) (tCons (tVar 0) tNil)) (gName 2))
 (tSeq (tFor (iRng2 (tCons (tC (.int 1)) (tCons (tOp rAdd (tVar 2) (tC (.int 1))) tNil))) (gName 3)
 (tSeq (tAsg (tCall (sp_next_window K) [] E0 (tCons (tVar 0) (tCons (tVar 1) (tCons (tVar 3) tNil)))) (gName 4))
 (tSeq (tIfS (tTest (tOp rEq (tVar 4) (tUn rNeg (tC (.int 1)))))
 (tRet (tTup (tCons (tC (.str "bar")) (tCons (tOp rAdd (tVar 3) (tC (.int 1))) (tCons (tVar 2) (tCons (tCall (sp_within K) [] E0 (tCons (tVar 0) (tCons (tOp rAdd (tVar 3) (tC (.int 1))) (tCons (tVar 2) tNil)))) tNil))))))
 tNext)
 (tSeq (tIfS (tTest (tOp rLt (tOp (rIxT K) (tOp (rIxL K) (tVar 0) (tVar 4)) (tC (.int 1))) (tVar 3)))
 (tRet (tCall (sp_bar_of K) [] E0 (tCons (tVar 0) (tCons (tVar 1) (tCons (tOp (rIxT K) (tOp (rIxL K) (tVar 0) (tVar 4)) (tC (.int 1))) tNil)))))
 tNext)
 (tDrop (tBM K "list" rAppend (tVar 1) (tCons (tVar 4) tNil)))))))
 (tRet (tTup (tCons (tC (.str "order")) (tCons (tVar 1) tNil)))))))

theorem len_order_or_bar {K : PySem.W.Frag} : ∀ vs H Q E, sp_order_or_bar K vs H Q E → vs.length = ["a"].length := by
  rintro vs H Q E ⟨_, _, rfl, _⟩; rfl
theorem pure_order_or_bar {K : PySem.W.Frag} {vs : List V} {H : Hp} {Q : VK} {E : XK} (h : sp_order_or_bar K vs H Q E) : t_order_or_bar K { nx := fun _ H' => Q .non H', rt := Q } (start N_order_or_bar vs) H := by
  obtain ⟨v, ws, rfl, hw, hl, ok, k⟩ := h
  obtain ⟨q, xs, rfl, hq, hx, hat⟩ := win_at hw
  unfold t_order_or_bar
  walk_at "xs"
  refine al_lst fun p H1 np s1 hp => ?_
  walk_at "xs"
  refine x_lenL (s1.seq hq) ?_
  rw [hx]
  walk_at "xs"
  have en : ((ws.length : Int) + 1 - 1).toNat = ws.length := by omega
  refine ⟨1, (ws.length : Int) + 1, rfl, ⟨by decide, by decide, by omega, by omega⟩, ?_⟩
  rw [en]
  refine for_by turnsR (fun i σ H' => ∃ (row : List Nat) (u v : Option V), σ = [some (.ref q), some (.ref p), some (.int ws.length), u, v] ∧ Same H H' ∧ H' p = some (.lst (nI row)) ∧ row.length = i ∧ Greedy ws row ∧ ordB ws (ws.length - i) row = paperOf ws)
    ⟨[], none, none, rfl, s1, hp, rfl, greedy_nil, rfl⟩ (fun _ _ _ _ _ => trivial) ?_ ?_
  · rintro i y σ H2 _ hi ⟨row, u, v, rfl, s2, hp2, hr, g, hB⟩ ⟨rfl, rfl⟩
    obtain ⟨m, hm⟩ : ∃ m, ws.length - i = m + 1 := ⟨ws.length - i - 1, by omega⟩
    rw [hm] at hB
    have hB' : (match nextN ws row ((row.length : Int) + 1) ws.length with
      | none => .bar ((row.length : Int) + 2) ws.length (wIn ws ((row.length : Int) + 2) ws.length)
      | some c => if w2 ws c < (row.length : Int) + 1 then barOf ws row (w2 ws c) else ordB ws m (row ++ [c])) = paperOf ws := hB
    have et : (1 : Int) + (i : Int) = (row.length : Int) + 1 := by omega
    walk_at "xs"
    refine ⟨_, ws, p, row, _, rfl, dp_same s2 hw, SqL.of hp2, fun H3 s3 => ?_⟩
    rw [et]
    have hp3 := s3 _ _ hp2
    have s23 := s2.trans s3
    walk_at "xs"
    cases e : nextN ws row ((row.length : Int) + 1) ws.length with
    | none =>
      rw [e] at hB'
      walk_at "if"
      · walk_at "xs"
        refine ⟨_, ws, (row.length : Int) + 1 + 1, ws.length, rfl, dp_same s23 hw, hl, fun c H4 nc s4 hc => ?_⟩
        walk_at "xs"
        refine al_tup fun t H5 nt s5 ht => ?_
        refine k _ H5 ((s23.trans s4).trans s5) ?_
        rw [← hB']
        rw [show (row.length : Int) + 1 + 1 = (row.length : Int) + 2 by omega] at hc ht
        exact ⟨t, c, rfl, (s23.trans s4).free nt, s23.free nc, ht, s5 _ _ hc⟩
      · rename_i c; exact absurd rfl c
    | some c =>
      rw [e] at hB'
      have hB' : (if w2 ws c < (row.length : Int) + 1 then barOf ws row (w2 ws c) else ordB ws m (row ++ [c])) = paperOf ws := hB'
      obtain ⟨c1, c2, c3⟩ := nextN_some e
      walk_at "if"
      · rename_i z
        have : (c : Int) = -1 := z
        omega
      walk_at "xs"
      refine x_winix (dp_same s23 hw) (by show (0 : Int) ≤ (c : Int); omega) (by show (c : Int) < _; omega) fun t2 ht2 => ?_
      walk_at "xs"
      refine x_ix1 ht2 ?_
      walk_at "xs"
      have eb : (ws.getD (optI (some c)).toNat (0, 0)).2 = w2 ws c := rfl
      rw [eb]
      walk_at "if"
      · rename_i z
        rw [if_pos z] at hB'
        have wk := win_ok ok c1
        walk_at "xs"
        refine x_winix (dp_same s23 hw) (by show (0 : Int) ≤ (c : Int); omega) (by show (c : Int) < _; omega) fun t3 ht3 => ?_
        walk_at "xs"
        refine x_ix1 ht3 ?_
        walk_at "xs"
        refine ⟨_, ws, p, row, w2 ws c, rfl, dp_same s23 hw, SqL.of hp3, hl, by omega, by omega, g.lt, fun v' H4 s4 hP => ?_⟩
        refine k v' H4 (s23.trans s4) ?_
        rw [← hB']
        revert hP
        unfold barOf PaperAt
        rintro ⟨t, p', h1, h2, h3, h4⟩
        exact ⟨t, p', h1, s23.free h2, s23.free h3, h4⟩
      · rename_i z
        rw [if_neg z] at hB'
        walk_at "xs"
        refine ⟨tyL (SqL.of hp3), ?_⟩
        walk_at "xs"
        refine x_append hp3 (small (by rw [nI_len]; omega)) ?_
        refine ⟨row ++ [c], _, _, rfl, same_upd s23 np, ?_, by rw [List.length_append]; simp; exact hr, greedy_snoc g e z, ?_⟩
        · rw [upd_same, nI_snoc]; rfl
        · rw [show ws.length - (i + 1) = m by omega]; exact hB'
  · rintro σ H2 ⟨row, u, v, rfl, s2, hp2, hr, g, hB⟩
    rw [Nat.sub_self] at hB
    walk_at "xs"
    refine al_tup fun t H3 nt s3 ht => ?_
    refine k _ H3 (s2.trans s3) ?_
    rw [← hB]
    exact ⟨t, p, rfl, s2.free nt, np, ht, s3 _ _ hp2⟩

end Su
namespace Su
open PySem L2
local macro_rules | `(tactic| walk_at "side") => `(tactic| first | assumption | (show (0 : Int) < _; omega) | (show (0 : Int) ≤ _; omega) | (show (0 : Int) < _; split <;> omega) | (show _ ∨ _; omega) | (show _ ∧ _; omega) | exact ⟨by decide, by decide, by decide⟩ | exact ⟨by first | assumption | omega, by first | assumption | omega⟩)
local macro_rules | `(tactic| walk_at "xs") => `(tactic| repeat walk_at "x")
local macro_rules | `(tactic| walk_at "if") => `(tactic| first | with_reducible refine Su.x_iteD (fun c => ?_) (fun c => ?_) | with_reducible refine Su.x_iteN (fun c => ?_) (fun c => ?_) | with_reducible refine Su.x_ite (fun c => ?_) (fun c => ?_))

/-! a list of windows that is changed by place -/
def WinAt (K : PySem.W.Frag) (H : Hp) (p : Addr) (ws : List (Int × Int)) : Prop := ∃ xs, H p = some (.lst xs) ∧ DpAll K (del H p) xs (ws.map dPair)
section
variable {K : PySem.W.Frag} {H H' : Hp} {p t : Addr} {ws : List (Int × Int)}
theorem WinAt.dp (h : WinAt K H p ws) : Dp K H (.ref p) (dWin ws) := by
  obtain ⟨xs, h1, h2⟩ := h
  exact .lst (SqL.of h1) (dpAll_same del_same h2)
theorem WinAt.lst (h : WinAt K H p ws) : ∃ xs, H p = some (.lst xs) ∧ xs.length = ws.length := by
  obtain ⟨xs, h1, h2⟩ := h
  exact ⟨xs, h1, by rw [dpAll_len h2, List.length_map]⟩
end
end Su
namespace Su
open PySem L2
local macro_rules | `(tactic| walk_at "side") => `(tactic| first | assumption | (show (0 : Int) < _; omega) | (show (0 : Int) ≤ _; omega) | (show (0 : Int) < _; split <;> omega) | (show _ ∨ _; omega) | (show _ ∧ _; omega) | exact ⟨by decide, by decide, by decide⟩ | exact ⟨by first | assumption | omega, by first | assumption | omega⟩)
local macro_rules | `(tactic| walk_at "x") => `(tactic| first
  | with_reducible refine Su.x_seq ?_ | with_reducible refine Su.x_asg ?_ | with_reducible refine Su.x_gname ?_ | with_reducible refine Su.x_drop ?_ | with_reducible refine Su.x_ret ?_ | with_reducible refine Su.x_ifS ?_
  | ((with_reducible show L2.tVar _ _ _ _); refine Su.x_var rfl ?_) | with_reducible refine Su.x_c ?_ | with_reducible refine Su.x_op ?_ | with_reducible refine Su.x_rI0 ?_ | ((with_reducible refine Su.x_rI ?_ ?_); focus walk_at "side")
  | ((with_reducible show L2.rIxL _ (L2.V.ref _) (L2.V.int _) _ _); refine Su.x_ixI (by assumption) (by first | decide | omega) (by omega) ?_) | with_reducible refine Su.x_isi_int_int ?_ | with_reducible refine Su.x_isi_int_bool ?_ | with_reducible refine Su.x_isi_int_str ?_ | with_reducible refine Su.x_isi_int_list ?_ | with_reducible refine Su.x_isi_int_tuple ?_ | with_reducible refine Su.x_isi_bool_int ?_ | with_reducible refine Su.x_isi_bool_bool ?_ | with_reducible refine Su.x_isi_bool_str ?_ | with_reducible refine Su.x_isi_bool_list ?_ | with_reducible refine Su.x_isi_bool_tuple ?_ | with_reducible refine Su.x_isi_str_int ?_ | with_reducible refine Su.x_isi_str_bool ?_ | with_reducible refine Su.x_isi_str_str ?_ | with_reducible refine Su.x_isi_str_list ?_ | with_reducible refine Su.x_isi_str_tuple ?_ | with_reducible refine Su.x_isi_NoneType_int ?_ | with_reducible refine Su.x_isi_NoneType_bool ?_ | with_reducible refine Su.x_isi_NoneType_str ?_ | with_reducible refine Su.x_isi_NoneType_list ?_ | with_reducible refine Su.x_isi_NoneType_tuple ?_ | with_reducible refine Su.x_rGt ?_ | with_reducible refine Su.x_rGe ?_ | with_reducible refine Su.x_iteF ?_ | with_reducible refine Su.x_iteT ?_ | with_reducible refine Su.x_iteNT ?_ | with_reducible refine Su.x_iteNF ?_ | with_reducible refine Su.x_eqI ?_ | with_reducible refine Su.x_neI ?_ | with_reducible refine Su.x_eqS ?_ | with_reducible refine Su.x_neS ?_ | with_reducible refine Su.x_eqB ?_ | with_reducible refine Su.x_neB ?_
  | with_reducible refine Su.x_test ?_ | with_reducible refine Su.x_tB ?_ | with_reducible refine Su.x_isB ?_ | with_reducible refine Su.x_isB' ?_ | with_reducible refine Su.x_not ?_ | with_reducible refine Su.x_and ?_ | with_reducible refine Su.x_or ?_
  | with_reducible refine Su.x_andV ?_ | with_reducible refine Su.x_orV ?_ | with_reducible refine Su.x_notV ?_ | with_reducible refine Su.x_chain ?_ | with_reducible refine Su.x_nil ?_ | with_reducible refine Su.x_cons ?_ | with_reducible refine Su.x_cb ?_ | with_reducible refine Su.x_call ?_
  | with_reducible refine Su.x_un ?_ | with_reducible refine Su.x_rU ?_ | with_reducible refine Su.x_abs ?_ | with_reducible refine Su.x_max2 ?_ | with_reducible refine Su.x_min2 ?_ | with_reducible refine Su.x_int1 ?_ | with_reducible refine Su.x_intB ?_
  | with_reducible refine Su.x_lst ?_ | with_reducible refine Su.x_tup ?_ | with_reducible refine Su.x_bmL ?_ | with_reducible refine Su.x_next ?_ | with_reducible refine Su.x_for ?_ | with_reducible refine Su.x_iList ?_ | with_reducible refine Su.x_iRng1 ?_ | with_reducible refine Su.x_iRng2 ?_ | with_reducible refine Su.x_whileN ?_ | with_reducible refine Su.x_iEnum ?_ | with_reducible refine Su.x_iZip ?_ | with_reducible refine Su.x_iZipA ?_ | with_reducible refine Su.x_iTup ?_ | with_reducible refine Su.x_gcons ?_ | with_reducible refine Su.x_gnil ?_ | with_reducible refine Su.x_gsub ?_ | with_reducible refine Su.x_yes ?_ | with_reducible refine Su.x_lc ?_ | with_reducible refine Su.x_sl ?_ | with_reducible refine Su.x_nopart ?_ | with_reducible refine Su.x_part ?_ | with_reducible refine Su.x_isI ?_ | with_reducible refine Su.x_lstRg ?_ | with_reducible refine Su.x_rg1 ?_ | with_reducible refine Su.x_augS ?_ | with_reducible refine Su.x_ipI ?_ | ((with_reducible show L2.tAug _ _ _ _ _ _); refine Su.x_aug rfl ?_) | with_reducible refine Su.x_callS ?_ | with_reducible refine Su.x_tryAs ?_)
local macro_rules | `(tactic| walk_at "xs") => `(tactic| repeat walk_at "x")
local macro_rules | `(tactic| walk_at "if") => `(tactic| first | with_reducible refine Su.x_iteD (fun c => ?_) (fun c => ?_) | with_reducible refine Su.x_iteN (fun c => ?_) (fun c => ?_) | with_reducible refine Su.x_ite (fun c => ?_) (fun c => ?_))
def sp_law (K : PySem.W.Frag) : Sp := fun vs H Q _ => ∃ (a : Addr) (ns : List Int), vs = [.ref a] ∧ SqL K H a (ns.map V.int) ∧ ns.length ≤ 63 ∧ ∀ H', Q (.bl true) H'
abbrev N_law : List Str := ["_law_script", "_law_some", "_law_size", "_law_windows_here", "_law_paper", "_law_told", "_law_other", "_law_good"]
def t_law (K : PySem.W.Frag) : TS :=
 (tSeq (tAsg (tCall (sp_law_draws K) [] E0 (tCons (tVar 0) (tCons (tC (.int 48)) tNil))) (gName 1))
 (tSeq (tAsg (tOp rMod (tOp (rIxL K) (tVar 1) (tC (.int 0))) (tC (.int 21))) (gName 2))
 (tSeq (tAsg (tLst tNil) (gName 3))
 (C8.tCut (tIfS (tTest (tOp rGt (tVar 2) (tC (.int 0))))
 (tAsg (tCall (sp_law_windows K) [] E0 (tCons (tSl (rSlL K) (tVar 1) (tPart (tC (.int 2))) tNoPart) (tCons (tVar 2) (tCons (tOp (rIxL K) (tVar 1) (tC (.int 1))) tNil)))) (gName 3))
 tNext)
 (tSeq (tAsg (tCall (sp_order_or_bar K) [] E0 (tCons (tCB (rListOf K) (tCons (tVar 3) tNil)) tNil)) (gName 4))
 (tSeq (tIfS (tOr (tNot (tB (tCB (rIsi K) (tCons (tVar 4) (tCons (tC (.ty "tuple")) tNil))))) (tOr (tTest (tOp (rIn K true) (tCB (rLenSeq K) (tCons (tVar 4) tNil)) (tTup (tCons (tC (.int 2)) (tCons (tC (.int 4)) tNil))))) (tNot (tB (tCall (sp_law_wholes K) [] E0 (tCons (tOp (rIxT K) (tVar 4) (tUn rNeg (tC (.int 1)))) tNil))))))
 (tRet (tC (.bl false)))
 tNext)
 (tSeq (tAsg (tCall (sp_good_paper K) [] E0 (tCons (tCB (rListOf K) (tCons (tVar 3) tNil)) (tCons (tVar 4) tNil))) (gName 5))
 (tSeq (tIfS (tOr (tNot (tB (tCB (rIsi K) (tCons (tVar 5) (tCons (tC (.ty "bool")) tNil))))) (tNot (tB (tVar 5))))
 (tRet (tC (.bl false)))
 tNext)
 (tSeq (tIfS (tTest (tOp rEq (tCB (rLenSeq K) (tCons (tVar 4) tNil)) (tC (.int 2))))
 (tSeq (tAsg (tCall (sp_good_paper K) [] E0 (tCons (tCB (rListOf K) (tCons (tVar 3) tNil)) (tCons (tTup (tCons (tC (.str "bar")) (tCons (tC (.int 1)) (tCons (tVar 2) (tCons (tLstRg (tRg1 (tVar 2))) tNil))))) tNil))) (gName 6))
 (tRet (tAndV (tOp rEq (tOp (rIxT K) (tVar 4) (tC (.int 0))) (tC (.str "order"))) (tAndV (tCall (sp_law_keeps K) [] E0 (tCons (tVar 3) (tCons (tOp (rIxT K) (tVar 4) (tC (.int 1))) tNil))) (tAndV (tCB (rIsi K) (tCons (tVar 6) (tCons (tC (.ty "bool")) tNil))) (tNotV (tVar 6)))))))
 tNext)
 (tSeq (tAsg (tCall (sp_good_paper K) [] E0 (tCons (tCB (rListOf K) (tCons (tVar 3) tNil)) (tCons (tTup (tCons (tC (.str "order")) (tCons (tLstRg (tRg1 (tVar 2))) tNil))) tNil))) (gName 6))
 (tSeq (tIfS (tOr (tNot (tB (tCB (rIsi K) (tCons (tOp (rIxT K) (tVar 4) (tC (.int 1))) (tCons (tC (.ty "int")) tNil))))) (tNot (tB (tCB (rIsi K) (tCons (tOp (rIxT K) (tVar 4) (tC (.int 2))) (tCons (tC (.ty "int")) tNil))))))
 (tRet (tC (.bl false)))
 tNext)
 (tSeq (tAsg (tAndV (tOp rEq (tOp (rIxT K) (tVar 4) (tC (.int 0))) (tC (.str "bar"))) (tCall (sp_law_bars K) [] E0 (tCons (tVar 3) (tCons (tOp (rIxT K) (tVar 4) (tC (.int 1))) (tCons (tOp (rIxT K) (tVar 4) (tC (.int 2))) (tCons (tOp (rIxT K) (tVar 4) (tC (.int 3))) tNil)))))) (gName 7))
 (tRet (tAndV (tVar 7) (tAndV (tCB (rIsi K) (tCons (tVar 6) (tCons (tC (.ty "bool")) tNil))) (tNotV (tVar 6)))))))))))))))))

theorem len_law {K : PySem.W.Frag} : ∀ vs H Q E, sp_law K vs H Q E → vs.length = ["_law_script"].length := by
  rintro vs H Q E ⟨s, n, rfl, _⟩; rfl
theorem x_in2 {K : PySem.W.Frag} {H : Hp} {Q : VK} {p : Addr} {i : Int} {row : List Int} (e : SqT K H p (row.map V.int)) (h : Q (.bl (!decide (i ∈ row))) H) : rIn K true (.int i) (.ref p) H Q := ⟨p, _, rfl, .inr e, rfl, flat_int row, by rw [if_pos rfl, inV_int]; exact h⟩
theorem pure_law {K : PySem.W.Frag} {vs : List V} {H : Hp} {Q : VK} {E : XK} (h : sp_law K vs H Q E) : t_law K { nx := fun _ H' => Q .non H', rt := Q } (start N_law vs) H := by
  obtain ⟨a, ns, rfl, hS, hl, k⟩ := h
  unfold t_law
  walk_at "xs"
  refine ⟨a, ns, 48, rfl, hS, hl, by decide, fun p rows H1 np s1 hp hm hm2 hb => ?_⟩
  walk_at "xs"
  have m0 := Int.emod_nonneg (rows.getD (Int.toNat 0) 0) (show (21 : Int) ≠ 0 by decide)
  have m1 := Int.emod_lt_of_pos (rows.getD (Int.toNat 0) 0) (show (0 : Int) < 21 by decide)
  obtain ⟨n, hn⟩ := Int.eq_ofNat_of_zero_le m0
  rw [hn] at m1 ⊢
  have hn20 : n ≤ 20 := by omega
  refine al_lst fun pe H2 npe s2 hpe => ?_
  have hp2 := s2 _ _ hp
  walk_at "xs"
  refine x_cut (fun σ H' => ∃ (pw : Addr) (ws : List (Int × Int)), σ = [some (.ref a), some (.ref p), some (.int n), some (.ref pw), none, none, none, none] ∧ WinAt K H' pw ws ∧ ws.length = n ∧ WinOk n ws) ?_ ?_
  · walk_at "xs"
    walk_at "if"
    · walk_at "xs"
      refine al_from (i := 2) (SqL.of hp2) rfl fun ps H3 nps s3 hps => ?_
      have hp3 := s3 _ _ hp2
      walk_at "xs"
      refine ⟨ps, rows.drop 2, n, _, rfl, SqL.of hps, by omega, by omega, by rw [List.length_drop]; omega, fun pw ws xs H4 npw s4 hpw hd hlen hok => ?_⟩
      exact ⟨pw, ws, rfl, ⟨xs, hpw, hd⟩, hlen, hok⟩
    · walk_at "xs"
      exact ⟨pe, [], rfl, ⟨[], hpe, .nil⟩, by simp; omega, fun _ h => nomatch h⟩
  rintro _ H3 ⟨pw, ws, rfl, hw, hlen, hok⟩
  have ok' : WinOk ws.length ws := by rw [hlen]; exact hok
  have dw := hw.dp
  obtain ⟨xs, hpw, hd⟩ := hw
  -- list(windows)
  have copy : ∀ (H' : Hp) (Q' : VK), Same H3 H' → (∀ ph H'', Same H' H'' → Dp K H'' (.ref ph) (dWin ws) → Q' (.ref ph) H'') → rListOf K [.ref pw] H' Q' := fun H' Q' s q =>
    al_list (SqL.of (s _ _ hpw)) fun ph H'' nph s'' hph => q ph H'' s'' (.lst (SqL.of hph) (dpAll_same ((del_same.trans s).trans s'') hd))
  walk_at "xs"
  refine copy _ _ (Same.refl _) fun ph H4 s4 dh => ?_
  walk_at "xs"
  refine ⟨_, ws, rfl, dh, by omega, ok', fun v H5 s5 hv => ?_⟩
  have good := paper_good ok'
  have s35 := s4.trans s5
  cases hP : paperOf ws with
  | order r =>
    rw [hP] at hv good
    have good : IsOrder ws r := good
    obtain ⟨t, pt, rfl, nt, npt, ht, hpt⟩ := hv
    have rl : r.length ≤ 1000 := by have := good.len; omega
    have hpt' : H5 pt = some (.lst ((r.map fun (i : Nat) => (i : Int)).map V.int)) := by rw [ints_nI]; exact hpt
    walk_at "xs"
    refine isi_tuple_tuple (SqT.of ht) ?_
    walk_at "xs"
    refine x_lenT (SqT.of ht) ?_
    walk_at "xs"
    refine al_tup fun t2 H6 nt2 s6 ht2 => ?_
    walk_at "xs"
    refine x_in2 (row := [2, 4]) (SqT.of ht2) ?_
    walk_at "xs"
    refine x_iteN (fun c => absurd (show ((2 : Nat) : Int) ∈ [2, 4] by decide) c) (fun _ => ?_)
    walk_at "xs"
    have ht6 := s6 _ _ ht
    refine x_ixT (v := .ref pt) (SqT.of ht6) (by rfl) ?_
    walk_at "xs"
    refine ⟨pt, _, rfl, SqL.of (s6 _ _ hpt'), by rw [List.length_map]; omega, fun H7 s7 => ?_⟩
    have ht7 := s7 _ _ ht6
    have hpt7 := s7 _ _ (s6 _ _ hpt')
    have s37 := (s35.trans s6).trans s7
    walk_at "xs"
    refine copy _ _ s37 fun ph2 H8 s8 dh2 => ?_
    walk_at "xs"
    refine ⟨_, ws, t, pt, .order (r.map fun (i : Nat) => (i : Int)), rfl, dh2, ⟨SqT.of (s8 _ _ ht7), SqL.of (s8 _ _ hpt7)⟩, by omega, fun b H9 s9 hb => ?_⟩
    rw [hb.mpr ⟨r, rfl, good⟩]
    have s39 := (s37.trans s8).trans s9
    have ht9 := s9 _ _ (s8 _ _ ht7)
    have hpt9 := s9 _ _ (s8 _ _ hpt7)
    walk_at "xs"
    refine x_lenT (SqT.of ht9) ?_
    walk_at "xs"
    refine x_iteD (fun _ => ?_) (fun c => absurd rfl c)
    walk_at "xs"
    refine copy _ _ s39 fun ph3 H10 s10 dh3 => ?_
    walk_at "xs"
    refine al_rg rfl (by omega) fun pr H11 npr s11 hpr => ?_
    walk_at "xs"
    refine al_tup fun t12 H12 nt12 s12 ht12 => ?_
    walk_at "xs"
    have hpr' : H12 pr = some (.lst (((List.range n).map fun (i : Nat) => (i : Int)).map V.int)) := by rw [s12 _ _ hpr, List.map_map]; rfl
    refine ⟨_, ws, t12, pr, .bar 1 n ((List.range n).map fun (i : Nat) => (i : Int)), rfl, dp_same (s11.trans s12) dh3, ⟨SqT.of ht12, SqL.of hpr'⟩, by omega, fun b2 H13 s13 hb2 => ?_⟩
    have b2f : b2 = false := by
      cases b2 with
      | false => rfl
      | true =>
        obtain ⟨c, _, br⟩ := hb2.mp rfl
        exact (no_both good br).elim
    rw [b2f]
    have s9d := ((s10.trans s11).trans s12).trans s13
    walk_at "xs"
    refine x_ix0 (SqT.of (s9d _ _ ht9)) ?_
    walk_at "xs"
    refine x_iteD (fun _ => ?_) (fun c => absurd rfl c)
    walk_at "xs"
    refine x_ix1 (SqT.of (s9d _ _ ht9)) ?_
    walk_at "xs"
    refine ⟨_, ws, pt, _, rfl, dp_same (s39.trans s9d) dw, SqL.of (s9d _ _ hpt9), by omega, fun b3 H14 s14 hb3 => ?_⟩
    rw [hb3.mpr ⟨r, rfl, good⟩]
    walk_at "xs"
    exact k _
  | bar x y c =>
    rw [hP] at hv good
    have good : IsBar ws x y c := good
    obtain ⟨t, pt, rfl, nt, npt, ht, hpt⟩ := hv
    have cl : c.length ≤ 60 := by
      have h1 := nodup_sub (m := List.range ws.length) (inc_nodup good.inc) fun x hx => List.mem_range.mpr (good.mem x hx).1
      rw [List.length_range] at h1
      omega
    have hpt' : H5 pt = some (.lst ((c.map fun (i : Nat) => (i : Int)).map V.int)) := by rw [ints_nI]; exact hpt
    walk_at "xs"
    refine isi_tuple_tuple (SqT.of ht) ?_
    walk_at "xs"
    refine x_lenT (SqT.of ht) ?_
    walk_at "xs"
    refine al_tup fun t2 H6 nt2 s6 ht2 => ?_
    walk_at "xs"
    refine x_in2 (row := [2, 4]) (SqT.of ht2) ?_
    walk_at "xs"
    refine x_iteN (fun c => absurd (show ((4 : Nat) : Int) ∈ [2, 4] by decide) c) (fun _ => ?_)
    walk_at "xs"
    have ht6 := s6 _ _ ht
    refine x_ixT (v := .ref pt) (SqT.of ht6) (by rfl) ?_
    walk_at "xs"
    refine ⟨pt, _, rfl, SqL.of (s6 _ _ hpt'), by rw [List.length_map]; omega, fun H7 s7 => ?_⟩
    have ht7 := s7 _ _ ht6
    have hpt7 := s7 _ _ (s6 _ _ hpt')
    have s37 := (s35.trans s6).trans s7
    walk_at "xs"
    refine copy _ _ s37 fun ph2 H8 s8 dh2 => ?_
    walk_at "xs"
    refine ⟨_, ws, t, pt, .bar x y (c.map fun (i : Nat) => (i : Int)), rfl, dh2, ⟨SqT.of (s8 _ _ ht7), SqL.of (s8 _ _ hpt7)⟩, by omega, fun b H9 s9 hb => ?_⟩
    rw [hb.mpr ⟨c, rfl, good⟩]
    have s39 := (s37.trans s8).trans s9
    have ht9 := s9 _ _ (s8 _ _ ht7)
    have hpt9 := s9 _ _ (s8 _ _ hpt7)
    walk_at "xs"
    refine x_lenT (SqT.of ht9) ?_
    walk_at "xs"
    refine x_iteD (fun z => absurd z (by show ¬ ((4 : Nat) : Int) = 2; decide)) (fun _ => ?_)
    walk_at "xs"
    refine copy _ _ s39 fun ph3 H10 s10 dh3 => ?_
    walk_at "xs"
    refine al_rg rfl (by omega) fun pr H11 npr s11 hpr => ?_
    walk_at "xs"
    refine al_tup fun t12 H12 nt12 s12 ht12 => ?_
    walk_at "xs"
    have hpr' : H12 pr = some (.lst (((List.range n).map fun (i : Nat) => (i : Int)).map V.int)) := by rw [s12 _ _ hpr, List.map_map]; rfl
    refine ⟨_, ws, t12, pr, .order ((List.range n).map fun (i : Nat) => (i : Int)), rfl, dp_same (s11.trans s12) dh3, ⟨SqT.of ht12, SqL.of hpr'⟩, by omega, fun b2 H13 s13 hb2 => ?_⟩
    have b2f : b2 = false := by
      cases b2 with
      | false => rfl
      | true =>
        obtain ⟨c, _, br⟩ := hb2.mp rfl
        exact (no_both br good).elim
    rw [b2f]
    have s9d := ((s10.trans s11).trans s12).trans s13
    have ht13 := s9d _ _ ht9
    walk_at "xs"
    refine x_ix1 (SqT.of ht13) ?_
    walk_at "xs"
    refine x_ixT (v := .int y) (SqT.of ht13) (by rfl) ?_
    walk_at "xs"
    refine x_ix0 (SqT.of ht13) ?_
    walk_at "xs"
    refine x_iteD (fun _ => ?_) (fun c => absurd rfl c)
    walk_at "xs"
    refine x_ix1 (SqT.of ht13) ?_
    walk_at "xs"
    refine x_ixT (v := .int y) (SqT.of ht13) (by rfl) ?_
    walk_at "xs"
    refine x_ixT (v := .ref pt) (SqT.of ht13) (by rfl) ?_
    walk_at "xs"
    refine ⟨_, ws, x, y, pt, _, rfl, dp_same (s39.trans s9d) dw, SqL.of (s9d _ _ hpt9), by omega, by rw [List.length_map]; omega, fun b3 H14 s14 hb3 => ?_⟩
    rw [hb3.mpr ⟨c, rfl, good⟩]
    walk_at "xs"
    exact k _

end Su
namespace Su
open PySem L2
structure Fx (K : PySem.W.Frag) (mg : Str → Option Value) : Prop where
  n_abs : mg "abs" = none
  n_all : mg "all" = none
  n_bool : mg "bool" = none
  n_enumerate : mg "enumerate" = none
  n_int : mg "int" = none
  n_isinstance : mg "isinstance" = none
  n_len : mg "len" = none
  n_list : mg "list" = none
  n_max : mg "max" = none
  n_min : mg "min" = none
  n_range : mg "range" = none
  n_set : mg "set" = none
  n_sorted : mg "sorted" = none
  n_tuple : mg "tuple" = none
  g_law_bars : mg "_law_bars" = some (.ref (He.fAd K ("_law_bars", none)))
  F_law_bars : ∃ fd, FunD K "_law_bars" "_law_bars" (defArgs s_law_bars) (defBody s_law_bars) (defScope s_law_bars) [] [] (He.fAd K ("_law_bars", none)) fd
  g_law_draws : mg "_law_draws" = some (.ref (He.fAd K ("_law_draws", none)))
  F_law_draws : ∃ fd, FunD K "_law_draws" "_law_draws" (defArgs s_law_draws) (defBody s_law_draws) (defScope s_law_draws) [] [] (He.fAd K ("_law_draws", none)) fd
  g_law_keeps : mg "_law_keeps" = some (.ref (He.fAd K ("_law_keeps", none)))
  F_law_keeps : ∃ fd, FunD K "_law_keeps" "_law_keeps" (defArgs s_law_keeps) (defBody s_law_keeps) (defScope s_law_keeps) [] [] (He.fAd K ("_law_keeps", none)) fd
  g_law_wholes : mg "_law_wholes" = some (.ref (He.fAd K ("_law_wholes", none)))
  F_law_wholes : ∃ fd, FunD K "_law_wholes" "_law_wholes" (defArgs s_law_wholes) (defBody s_law_wholes) (defScope s_law_wholes) [] [] (He.fAd K ("_law_wholes", none)) fd
  g_law_windows : mg "_law_windows" = some (.ref (He.fAd K ("_law_windows", none)))
  F_law_windows : ∃ fd, FunD K "_law_windows" "_law_windows" (defArgs s_law_windows) (defBody s_law_windows) (defScope s_law_windows) [] [] (He.fAd K ("_law_windows", none)) fd
  g_is_bar : mg "is_bar" = some (.ref (He.fAd K ("is_bar", none)))
  F_is_bar : ∃ fd, FunD K "is_bar" "is_bar" (defArgs s_is_bar) (defBody s_is_bar) (defScope s_is_bar) [] [] (He.fAd K ("is_bar", none)) fd
  g_is_order : mg "is_order" = some (.ref (He.fAd K ("is_order", none)))
  F_is_order : ∃ fd, FunD K "is_order" "is_order" (defArgs s_is_order) (defBody s_is_order) (defScope s_is_order) [] [] (He.fAd K ("is_order", none)) fd
  g_good_paper : mg "good_paper" = some (.ref (He.fAd K ("good_paper", none)))
  F_good_paper : ∃ fd, FunD K "good_paper" "good_paper" (defArgs s_good_paper) (defBody s_good_paper) (defScope s_good_paper) [] [] (He.fAd K ("good_paper", none)) fd
  g_within : mg "within" = some (.ref (He.fAd K ("within", none)))
  F_within : ∃ fd, FunD K "within" "within" (defArgs s_within) (defBody s_within) (defScope s_within) [] [] (He.fAd K ("within", none)) fd
  g_bar_of : mg "bar_of" = some (.ref (He.fAd K ("bar_of", none)))
  F_bar_of : ∃ fd, FunD K "bar_of" "bar_of" (defArgs s_bar_of) (defBody s_bar_of) (defScope s_bar_of) [] [] (He.fAd K ("bar_of", none)) fd
  g_next_window : mg "next_window" = some (.ref (He.fAd K ("next_window", none)))
  F_next_window : ∃ fd, FunD K "next_window" "next_window" (defArgs s_next_window) (defBody s_next_window) (defScope s_next_window) [] [] (He.fAd K ("next_window", none)) fd
  g_order_or_bar : mg "order_or_bar" = some (.ref (He.fAd K ("order_or_bar", none)))
  F_order_or_bar : ∃ fd, FunD K "order_or_bar" "order_or_bar" (defArgs s_order_or_bar) (defBody s_order_or_bar) (defScope s_order_or_bar) [] [] (He.fAd K ("order_or_bar", none)) fd
  g_law : mg "law" = some (.ref (He.fAd K ("law", none)))
  F_law : ∃ fd, FunD K "law" "law" (defArgs s_law) (defBody s_law) (defScope s_law) [] [] (He.fAd K ("law", none)) fd
section
variable {P : Program} {w : World} {K : PySem.W.Frag} {mg : Str → Option Value} {base : Heap}
theorem sc_law_bars : FnScope N_law_bars ["_law_windows_here", "_law_a", "_law_b", "_law_crowd"] (defScope s_law_bars) := ⟨rfl, rfl, rfl, by decide +kernel, rfl, by decide +kernel, by decide +kernel⟩
theorem ok_law_bars (T : Fx K mg) : Cl P w K mg base CX0 1 "_law_bars" (sp_law_bars K) := by
  obtain ⟨fd, F⟩ := T.F_law_bars
  have sc := sc_law_bars
  refine ⟨_, fd, ["_law_windows_here", "_law_a", "_law_b", "_law_crowd"], T.g_law_bars, F.kp, F.bindsN fun _ _ _ _ _ _ us hl => match us, hl with | [_, _, _, _], _ => rfl, ?_⟩
  refine F.ok sc (len_law_bars) (fun cdv A outer s H vs Q E hr h => ⟨t_law_bars K w, PSs.nox ?_, pure_law_bars h⟩)
  exact (pss_cons (ps_if (PW.pt (pw_or (pt_not (pt_chain op_le op_le pe_int (pv 1) (pe_callB call_len_seq (by rfl) T.n_len b_len (pa_cons (pv 0) pa_nil)))) (pw_or1 (pt_not (pt_chain op_le op_le pe_int (pv 2) (pe_callB call_len_seq (by rfl) T.n_len b_len (pa_cons (pv 0) pa_nil)))))))
 (pss_one (ps_ret pe_bl))
 pss_nil)
 (pss_cons (ps_if (PW.pt (pw_or (pt_cmpR (op_neD hr.units) (pv 3) (pe_callB (cr_sortedSet rfl) (by rfl) T.n_sorted b_sorted (pa_cons (pe_callTy (cr_setOfI rfl) (by rfl) T.n_set b_set (pa_cons (pv 3) pa_nil)) pa_nil)) (nomark _)) (pw_or1 (pt_cmpR op_le (pe_callB call_len_seq (by rfl) T.n_len b_len (pa_cons (pv 3) pa_nil)) (pe_callB (call_max2 rfl) (by rfl) T.n_max b_max (pa_cons pe_int (pa_cons (pe_op op_add (pe_op op_sub (pv 2) (pv 1)) pe_int) pa_nil))) (nomark _)))))
 (pss_one (ps_ret pe_bl))
 pss_nil)
 (pss_cons (ps_for PassesOwn.never rfl (pi_list (pv 3)) (pg_name (i := 4) sc.nd rfl (Or.inl rfl))
 (pss_cons (ps_if (pt_not (pt_chain op_le op_lt pe_int (pv 4) (pe_callB call_len_seq (by rfl) T.n_len b_len (pa_cons (pv 0) pa_nil))))
 (pss_one (ps_ret pe_bl))
 pss_nil)
 (pss_one (ps_if (PW.pt (pw_or (pt_cmpR op_lt (pe_ix ix_tup (pe_ix ix_list (pv 0) (pv 4) (fun _ _ => rfl)) pe_int (fun _ _ => rfl)) (pv 1) (nomark _)) (pw_or1 (pt_cmpR op_gt (pe_ix ix_tup (pe_ix ix_list (pv 0) (pv 4) (fun _ _ => rfl)) pe_int (fun _ _ => rfl)) (pv 2) (nomark _)))))
 (pss_one (ps_ret pe_bl))
 pss_nil))))
 (pss_one (ps_ret pe_bl)))))
theorem sc_law_draws : FnScope N_law_draws ["_law_script", "_law_many"] (defScope s_law_draws) := ⟨rfl, rfl, rfl, by decide +kernel, rfl, by decide +kernel, by decide +kernel⟩
theorem ok_law_draws (T : Fx K mg) : Cl P w K mg base CX0 1 "_law_draws" (sp_law_draws K) := by
  obtain ⟨fd, F⟩ := T.F_law_draws
  have sc := sc_law_draws
  refine ⟨_, fd, ["_law_script", "_law_many"], T.g_law_draws, F.kp, F.bindsN fun _ _ _ _ _ _ us hl => match us, hl with | [_, _], _ => rfl, ?_⟩
  refine F.ok sc (len_law_draws) (fun cdv A outer s H vs Q E hr h => ⟨t_law_draws K, PSs.nox ?_, pure_law_draws h⟩)
  exact (pss_cons (ps_set (i := 2) sc.nd rfl (Or.inl rfl) (pe_lst pa_nil))
 (pss_cons (ps_set (i := 3) sc.nd rfl (Or.inl rfl) pe_int)
 (pss_cons (ps_for PassesOwn.never rfl (pi_list (pv 0)) (pg_name (i := 4) sc.nd rfl (Or.inl rfl))
 (pss_cons (ps_set (i := 3) sc.nd rfl (Or.inl rfl) (pe_op op_mod (pe_op op_add (pe_op op_mul (pv 3) pe_int) (pv 4)) pe_int))
 (pss_cons (ps_set (i := 5) sc.nd rfl (Or.inl rfl) (pe_callB call_abs (by rfl) T.n_abs b_abs (pa_cons (pv 4) pa_nil)))
 (C8.pss_cut (ps_if (pt_cmpR op_lt (pv 5) (pe_op op_pow pe_int pe_int) (nomark _))
 (pss_cons (ps_expr (pe_bm PySem.F.plainAttrs_list PySem.F.slot_list_append PySem.F.type_list_append mt_append (pv 2) (pa_cons (pv 4) pa_nil)))
 (pss_one (ps_set (i := 5) sc.nd rfl (Or.inl rfl) pe_int)))
 pss_nil)
 (pss_one (ps_while PassesOwn.never (PW.pt (pw_and (pt_cmpR op_gt (pv 5) pe_int (nomark _)) (pw_and1 (pt_cmpR op_lt (pe_callB call_len_seq (by rfl) T.n_len b_len (pa_cons (pv 2) pa_nil)) (pv 1) (nomark _)))))
 (pss_cons (ps_expr (pe_bm PySem.F.plainAttrs_list PySem.F.slot_list_append PySem.F.type_list_append mt_append (pv 2) (pa_cons (pe_op op_mod (pv 5) pe_int) pa_nil)))
 (pss_one (ps_set (i := 5) sc.nd rfl (Or.inl rfl) (pe_op op_fdiv (pv 5) pe_int))))))))))
 (pss_cons (ps_while PassesOwn.never (pt_cmpR op_lt (pe_callB call_len_seq (by rfl) T.n_len b_len (pa_cons (pv 2) pa_nil)) (pv 1) (nomark _))
 (pss_cons (ps_set (i := 3) sc.nd rfl (Or.inl rfl) (pe_op op_mod (pe_op op_add (pe_op op_mul (pv 3) pe_int) pe_int) pe_int))
 (pss_one (ps_expr (pe_bm PySem.F.plainAttrs_list PySem.F.slot_list_append PySem.F.type_list_append mt_append (pv 2) (pa_cons (pe_op op_mod (pe_op op_mul (pv 3) (pv 3)) pe_int) pa_nil))))))
 (pss_one (ps_ret (pv 2)))))))
theorem sc_law_keeps : FnScope N_law_keeps ["_law_windows_here", "_law_row"] (defScope s_law_keeps) := ⟨rfl, rfl, rfl, by decide +kernel, rfl, by decide +kernel, by decide +kernel⟩
theorem ok_law_keeps (T : Fx K mg) : Cl P w K mg base CX0 1 "_law_keeps" (sp_law_keeps K) := by
  obtain ⟨fd, F⟩ := T.F_law_keeps
  have sc := sc_law_keeps
  refine ⟨_, fd, ["_law_windows_here", "_law_row"], T.g_law_keeps, F.kp, F.bindsN fun _ _ _ _ _ _ us hl => match us, hl with | [_, _], _ => rfl, ?_⟩
  refine F.ok sc (len_law_keeps) (fun cdv A outer s H vs Q E hr h => ⟨t_law_keeps K, PSs.nox ?_, pure_law_keeps h⟩)
  exact (pss_cons (ps_if (PW.pt (pw_or (pt_cmpR op_ne (pe_callB call_len_seq (by rfl) T.n_len b_len (pa_cons (pv 1) pa_nil)) (pe_callB call_len_seq (by rfl) T.n_len b_len (pa_cons (pv 0) pa_nil)) (nomark _)) (pw_or1 (pt_cmpR (op_neD hr.units) (pe_callB cr_sortedI (by rfl) T.n_sorted b_sorted (pa_cons (pv 1) pa_nil)) (pe_listRg rfl (by rfl) T.n_list (prg_1 (by rfl) T.n_range (pe_callB call_len_seq (by rfl) T.n_len b_len (pa_cons (pv 0) pa_nil)))) (nomark _)))))
 (pss_one (ps_ret pe_bl))
 pss_nil)
 (pss_cons (ps_for PassesOwn.never rfl (pi_enum (by rfl) T.n_enumerate (pa_cons (pv 1) pa_nil)) (pg_tup rfl (pgs_cons (pg_name (i := 2) sc.nd rfl (Or.inl rfl)) (pgs_cons (pg_name (i := 3) sc.nd rfl (Or.inl rfl)) pgs_nil)))
 (pss_one (ps_if (pt_not (pt_chain op_le op_le (pe_ix ix_tup (pe_ix ix_list (pv 0) (pv 3) (fun _ _ => rfl)) pe_int (fun _ _ => rfl)) (pe_op op_add (pv 2) pe_int) (pe_ix ix_tup (pe_ix ix_list (pv 0) (pv 3) (fun _ _ => rfl)) pe_int (fun _ _ => rfl))))
 (pss_one (ps_ret pe_bl))
 pss_nil)))
 (pss_one (ps_ret pe_bl))))
theorem sc_law_wholes : FnScope N_law_wholes ["_law_told"] (defScope s_law_wholes) := ⟨rfl, rfl, rfl, by decide +kernel, rfl, by decide +kernel, by decide +kernel⟩
theorem ok_law_wholes (T : Fx K mg) : Cl P w K mg base CX0 1 "_law_wholes" (sp_law_wholes K) := by
  obtain ⟨fd, F⟩ := T.F_law_wholes
  have sc := sc_law_wholes
  refine ⟨_, fd, ["_law_told"], T.g_law_wholes, F.kp, F.bindsN fun _ _ _ _ _ _ us hl => match us, hl with | [_], _ => rfl, ?_⟩
  refine F.ok sc (len_law_wholes) (fun cdv A outer s H vs Q E hr h => ⟨t_law_wholes K, PSs.nox ?_, pure_law_wholes h⟩)
  exact (pss_cons (ps_if (pt_not (pt_val (pe_callB call_isi (by rfl) T.n_isinstance b_isinstance (pa_cons (pv 0) (pa_cons (pe_bltn (v := .ty "list") (by rfl) T.n_list b_list rfl) pa_nil)))))
 (pss_one (ps_ret pe_bl))
 pss_nil)
 (pss_one (ps_ret (pe_callB (cr_all rfl) (by rfl) T.n_all b_all (pa_cons (pe_lc (own := [("_law_one", 1)]) (g := (gName 1)) (tt := tYes) (by rfl) sc.nd (pi_list (pv 0)) (blkOk_by (own := [("_law_one", 1)]) (N := N_law_wholes) (sc := defScope s_law_wholes) (by decide +kernel)) (fun _ _ _ _ _ => (pg_name (i := 1) sc.nd rfl (Or.inl rfl))) (fun _ _ _ _ _ => pts_nil) (fun _ _ _ _ _ => (pe_and (pe_callB call_isi (by rfl) T.n_isinstance b_isinstance (pa_cons (pv 1) (pa_cons (pe_bltn (v := .ty "int") (by rfl) T.n_int b_int rfl) pa_nil))) (pe_one (pe_not (pe_callB call_isi (by rfl) T.n_isinstance b_isinstance (pa_cons (pv 1) (pa_cons (pe_bltn (v := .ty "bool") (by rfl) T.n_bool b_bool rfl) pa_nil)))))))) pa_nil)))))
theorem sc_law_windows : FnScope N_law_windows ["_law_some", "_law_size", "_law_wide"] (defScope s_law_windows) := ⟨rfl, rfl, rfl, by decide +kernel, rfl, by decide +kernel, by decide +kernel⟩
theorem ok_law_windows (T : Fx K mg) : Cl P w K mg base CX0 1 "_law_windows" (sp_law_windows K) := by
  obtain ⟨fd, F⟩ := T.F_law_windows
  have sc := sc_law_windows
  refine ⟨_, fd, ["_law_some", "_law_size", "_law_wide"], T.g_law_windows, F.kp, F.bindsN fun _ _ _ _ _ _ us hl => match us, hl with | [_, _, _], _ => rfl, ?_⟩
  refine F.ok sc (len_law_windows) (fun cdv A outer s H vs Q E hr h => ⟨t_law_windows K, PSs.nox ?_, pure_law_windows h⟩)
  exact (pss_cons (ps_set (i := 3) sc.nd rfl (Or.inl rfl) (pe_lst pa_nil))
 (pss_cons (ps_for PassesOwn.never rfl (pi_range1 (by rfl) T.n_range (pa_cons (pv 1) pa_nil)) (pg_name (i := 4) sc.nd rfl (Or.inl rfl))
 (pss_cons (ps_set (i := 5) sc.nd rfl (Or.inl rfl) (pe_op op_add pe_int (pe_op op_mod (pe_ix ix_list (pv 0) (pe_op op_mul pe_int (pv 4)) (fun _ _ => rfl)) (pv 1))))
 (pss_cons (ps_set (i := 6) sc.nd rfl (Or.inl rfl) (pe_op op_add pe_int (pe_op op_mod (pe_ix ix_list (pv 0) (pe_op op_add (pe_op op_mul pe_int (pv 4)) pe_int) (fun _ _ => rfl)) (pv 1))))
 (C8.pss_cut (ps_if (PW.pt (pw_and (pt_cmpR op_gt (pe_op op_mod (pv 2) pe_int) pe_int (nomark _)) (pw_and1 (pt_cmpR op_lt (pv 6) (pv 5) (nomark _)))))
 (pss_one (ps_set (i := 6) sc.nd rfl (Or.inl rfl) (pe_callB (call_min2 rfl) (by rfl) T.n_min b_min (pa_cons (pv 1) (pa_cons (pe_op op_add (pv 5) (pe_op op_mod (pe_ix ix_list (pv 0) (pe_op op_add (pe_op op_mul pe_int (pv 4)) pe_int) (fun _ _ => rfl)) (pe_op op_add pe_int (pe_op op_mod (pv 2) pe_int)))) pa_nil)))))
 pss_nil)
 (pss_one (ps_expr (pe_bm PySem.F.plainAttrs_list PySem.F.slot_list_append PySem.F.type_list_append mt_append (pv 3) (pa_cons (pe_tup (pa_cons (pv 5) (pa_cons (pv 6) pa_nil))) pa_nil))))))))
 (pss_one (ps_ret (pv 3)))))
theorem sc_is_bar : FnScope N_is_bar ["windows", "a", "b", "crowd"] (defScope s_is_bar) := ⟨rfl, rfl, rfl, by decide +kernel, rfl, by decide +kernel, by decide +kernel⟩
theorem ok_is_bar (T : Fx K mg) : Cl P w K mg base CX0 1 "is_bar" (sp_is_bar K) := by
  obtain ⟨fd, F⟩ := T.F_is_bar
  have sc := sc_is_bar
  refine ⟨_, fd, ["windows", "a", "b", "crowd"], T.g_is_bar, F.kp, F.bindsN fun _ _ _ _ _ _ us hl => match us, hl with | [_, _, _, _], _ => rfl, ?_⟩
  refine F.ok sc (len_is_bar) (fun cdv A outer s H vs Q E hr h => ⟨t_is_bar K, PSs.nox ?_, pure_is_bar h⟩)
  exact (pss_cons (ps_if (PW.pt (pw_or (pt_not (pt_chain op_le op_le pe_int (pv 1) (pe_callB call_len_seq (by rfl) T.n_len b_len (pa_cons (pv 0) pa_nil)))) (pw_or1 (pt_not (pt_chain op_le op_le pe_int (pv 2) (pe_callB call_len_seq (by rfl) T.n_len b_len (pa_cons (pv 0) pa_nil)))))))
 (pss_one (ps_ret pe_bl))
 pss_nil)
 (pss_cons (ps_set (i := 4) sc.nd rfl (Or.inl rfl) (pe_un un_neg pe_int))
 (pss_cons (ps_for PassesOwn.never rfl (pi_list (pv 3)) (pg_name (i := 5) sc.nd rfl (Or.inl rfl))
 (pss_cons (ps_if (PW.pt (pw_or (pt_cmpR op_le (pv 5) (pv 4) (nomark _)) (pw_or1 (pt_cmpR op_ge (pv 5) (pe_callB call_len_seq (by rfl) T.n_len b_len (pa_cons (pv 0) pa_nil)) (nomark _)))))
 (pss_one (ps_ret pe_bl))
 pss_nil)
 (pss_cons (ps_if (PW.pt (pw_or (pt_cmpR op_lt (pe_ix ix_tup (pe_ix ix_list (pv 0) (pv 5) (fun _ _ => rfl)) pe_int (fun _ _ => rfl)) (pv 1) (nomark _)) (pw_or1 (pt_cmpR op_gt (pe_ix ix_tup (pe_ix ix_list (pv 0) (pv 5) (fun _ _ => rfl)) pe_int (fun _ _ => rfl)) (pv 2) (nomark _)))))
 (pss_one (ps_ret pe_bl))
 pss_nil)
 (pss_one (ps_set (i := 4) sc.nd rfl (Or.inl rfl) (pv 5))))))
 (pss_one (ps_ret (pe_cmpR op_gt (pe_callB call_len_seq (by rfl) T.n_len b_len (pa_cons (pv 3) pa_nil)) (pe_callB (call_max2 rfl) (by rfl) T.n_max b_max (pa_cons pe_int (pa_cons (pe_op op_add (pe_op op_sub (pv 2) (pv 1)) pe_int) pa_nil))) (nomark _)))))))
theorem sc_is_order : FnScope N_is_order ["windows", "row"] (defScope s_is_order) := ⟨rfl, rfl, rfl, by decide +kernel, rfl, by decide +kernel, by decide +kernel⟩
theorem ok_is_order (T : Fx K mg) : Cl P w K mg base CX0 1 "is_order" (sp_is_order K) := by
  obtain ⟨fd, F⟩ := T.F_is_order
  have sc := sc_is_order
  refine ⟨_, fd, ["windows", "row"], T.g_is_order, F.kp, F.bindsN fun _ _ _ _ _ _ us hl => match us, hl with | [_, _], _ => rfl, ?_⟩
  refine F.ok sc (len_is_order) (fun cdv A outer s H vs Q E hr h => ⟨t_is_order K, PSs.nox ?_, pure_is_order h⟩)
  exact (pss_cons (ps_if (pt_cmpR op_ne (pe_callB call_len_seq (by rfl) T.n_len b_len (pa_cons (pv 1) pa_nil)) (pe_callB call_len_seq (by rfl) T.n_len b_len (pa_cons (pv 0) pa_nil)) (nomark _))
 (pss_one (ps_ret pe_bl))
 pss_nil)
 (pss_cons (ps_set (i := 2) sc.nd rfl (Or.inl rfl) (pe_lst pa_nil))
 (pss_cons (ps_for PassesOwn.never rfl (pi_enum1 (by rfl) T.n_enumerate (pv 1)) (pg_tup rfl (pgs_cons (pg_name (i := 3) sc.nd rfl (Or.inl rfl)) (pgs_cons (pg_name (i := 4) sc.nd rfl (Or.inl rfl)) pgs_nil)))
 (pss_cons (ps_if (PW.pt (pw_or (pt_not (pt_chain op_le op_lt pe_int (pv 4) (pe_callB call_len_seq (by rfl) T.n_len b_len (pa_cons (pv 0) pa_nil)))) (pw_or1 (pt_cmpR op_in_seq (pv 4) (pv 2) rfl))))
 (pss_one (ps_ret pe_bl))
 pss_nil)
 (pss_cons (ps_if (pt_not (pt_chain op_le op_le (pe_ix ix_tup (pe_ix ix_list (pv 0) (pv 4) (fun _ _ => rfl)) pe_int (fun _ _ => rfl)) (pv 3) (pe_ix ix_tup (pe_ix ix_list (pv 0) (pv 4) (fun _ _ => rfl)) pe_int (fun _ _ => rfl))))
 (pss_one (ps_ret pe_bl))
 pss_nil)
 (pss_one (ps_expr (pe_bm PySem.F.plainAttrs_list PySem.F.slot_list_append PySem.F.type_list_append mt_append (pv 2) (pa_cons (pv 4) pa_nil)))))))
 (pss_one (ps_ret pe_bl)))))
theorem sc_good_paper : FnScope N_good_paper ["windows", "paper"] (defScope s_good_paper) := ⟨rfl, rfl, rfl, by decide +kernel, rfl, by decide +kernel, by decide +kernel⟩
theorem ok_good_paper (T : Fx K mg) : Cl P w K mg base CX0 2 "good_paper" (sp_good_paper K) := by
  obtain ⟨fd, F⟩ := T.F_good_paper
  have sc := sc_good_paper
  refine ⟨_, fd, ["windows", "paper"], T.g_good_paper, F.kp, F.bindsN fun _ _ _ _ _ _ us hl => match us, hl with | [_, _], _ => rfl, ?_⟩
  refine F.ok sc (len_good_paper) (fun cdv A outer s H vs Q E hr h => ⟨t_good_paper K, PSs.nox ?_, pure_good_paper h⟩)
  exact (pss_cons (ps_if (pt_cmpR op_eq (pe_ix ix_tup (pv 1) pe_int (fun _ _ => rfl)) pe_str (nomark _))
 (pss_one (ps_ret (pe_cl (ok_is_order T) hr (by decide) (by rfl) pass0 (pa_cons (pv 0) (pa_cons (pe_ix ix_tup (pv 1) pe_int (fun _ _ => rfl)) pa_nil)))))
 pss_nil)
 (pss_one (ps_ret (pe_cl (ok_is_bar T) hr (by decide) (by rfl) pass0 (pa_cons (pv 0) (pa_cons (pe_ix ix_tup (pv 1) pe_int (fun _ _ => rfl)) (pa_cons (pe_ix ix_tup (pv 1) pe_int (fun _ _ => rfl)) (pa_cons (pe_ix ix_tup (pv 1) pe_int (fun _ _ => rfl)) pa_nil))))))))
theorem sc_within : FnScope N_within ["windows", "a", "b"] (defScope s_within) := ⟨rfl, rfl, rfl, by decide +kernel, rfl, by decide +kernel, by decide +kernel⟩
theorem ok_within (T : Fx K mg) : Cl P w K mg base CX0 1 "within" (sp_within K) := by
  obtain ⟨fd, F⟩ := T.F_within
  have sc := sc_within
  refine ⟨_, fd, ["windows", "a", "b"], T.g_within, F.kp, F.bindsN fun _ _ _ _ _ _ us hl => match us, hl with | [_, _, _], _ => rfl, ?_⟩
  refine F.ok sc (len_within) (fun cdv A outer s H vs Q E hr h => ⟨t_within K, PSs.nox ?_, pure_within h⟩)
  exact (pss_cons (ps_set (i := 3) sc.nd rfl (Or.inl rfl) (pe_lst pa_nil))
 (pss_cons (ps_for PassesOwn.never rfl (pi_enum (by rfl) T.n_enumerate (pa_cons (pv 0) pa_nil)) (pg_tup rfl (pgs_cons (pg_name (i := 4) sc.nd rfl (Or.inl rfl)) (pgs_cons (pg_tup rfl (pgs_cons (pg_name (i := 5) sc.nd rfl (Or.inl rfl)) (pgs_cons (pg_name (i := 6) sc.nd rfl (Or.inl rfl)) pgs_nil))) pgs_nil)))
 (pss_one (ps_if (PW.pt (pw_and (pt_cmpR op_ge (pv 5) (pv 1) (nomark _)) (pw_and1 (pt_cmpR op_le (pv 6) (pv 2) (nomark _)))))
 (pss_one (ps_expr (pe_bm PySem.F.plainAttrs_list PySem.F.slot_list_append PySem.F.type_list_append mt_append (pv 3) (pa_cons (pv 4) pa_nil))))
 pss_nil)))
 (pss_one (ps_ret (pv 3)))))
theorem sc_bar_of : FnScope N_bar_of ["windows", "row", "late"] (defScope s_bar_of) := ⟨rfl, rfl, rfl, by decide +kernel, rfl, by decide +kernel, by decide +kernel⟩
theorem ok_bar_of (T : Fx K mg) : Cl P w K mg base CX0 2 "bar_of" (sp_bar_of K) := by
  obtain ⟨fd, F⟩ := T.F_bar_of
  have sc := sc_bar_of
  refine ⟨_, fd, ["windows", "row", "late"], T.g_bar_of, F.kp, F.bindsN fun _ _ _ _ _ _ us hl => match us, hl with | [_, _, _], _ => rfl, ?_⟩
  refine F.ok sc (len_bar_of) (fun cdv A outer s H vs Q E hr h => ⟨t_bar_of K, PSs.nox ?_, pure_bar_of h⟩)
  exact (pss_cons (ps_set (i := 3) sc.nd rfl (Or.inl rfl) (pe_op op_add (pv 2) pe_int))
 (pss_cons (ps_while PassesOwn.never (PW.pt (pw_and (pt_cmpR op_gt (pv 3) pe_int (nomark _)) (pw_and1 (pt_cmpR op_le (pe_ix ix_tup (pe_ix ix_list (pv 0) (pe_ix ix_list (pv 1) (pe_op op_sub (pv 3) pe_int) (fun _ _ => rfl)) (fun _ _ => rfl)) pe_int (fun _ _ => rfl)) (pv 2) (nomark _)))))
 (pss_one (ps_aug (i := 3) sc.nd rfl (Or.inl rfl) pe_int ip_sub)))
 (pss_one (ps_ret (pe_tup (pa_cons pe_str (pa_cons (pv 3) (pa_cons (pv 2) (pa_cons (pe_cl (ok_within T) hr (by decide) (by rfl) pass0 (pa_cons (pv 0) (pa_cons (pv 3) (pa_cons (pv 2) pa_nil)))) pa_nil)))))))))
theorem sc_next_window : FnScope N_next_window ["windows", "row", "turn"] (defScope s_next_window) := ⟨rfl, rfl, rfl, by decide +kernel, rfl, by decide +kernel, by decide +kernel⟩
theorem ok_next_window (T : Fx K mg) : Cl P w K mg base CX0 1 "next_window" (sp_next_window K) := by
  obtain ⟨fd, F⟩ := T.F_next_window
  have sc := sc_next_window
  refine ⟨_, fd, ["windows", "row", "turn"], T.g_next_window, F.kp, F.bindsN fun _ _ _ _ _ _ us hl => match us, hl with | [_, _, _], _ => rfl, ?_⟩
  refine F.ok sc (len_next_window) (fun cdv A outer s H vs Q E hr h => ⟨t_next_window K, PSs.nox ?_, pure_next_window h⟩)
  exact (pss_cons (ps_set (i := 3) sc.nd rfl (Or.inl rfl) (pe_un un_neg pe_int))
 (pss_cons (ps_for PassesOwn.never rfl (pi_enum (by rfl) T.n_enumerate (pa_cons (pv 0) pa_nil)) (pg_tup rfl (pgs_cons (pg_name (i := 4) sc.nd rfl (Or.inl rfl)) (pgs_cons (pg_tup rfl (pgs_cons (pg_name (i := 5) sc.nd rfl (Or.inl rfl)) (pgs_cons (pg_name (i := 6) sc.nd rfl (Or.inl rfl)) pgs_nil))) pgs_nil)))
 (pss_one (ps_if (PW.pt (pw_and (pt_cmpR op_le (pv 5) (pv 2) (nomark _)) (pw_and1 (pt_cmpR op_notIn_seq (pv 4) (pv 1) rfl))))
 (pss_one (ps_if (PW.pt (pw_or (pt_cmpR op_eq (pv 3) (pe_un un_neg pe_int) (nomark _)) (pw_or1 (pt_cmpR op_lt (pv 6) (pe_ix ix_tup (pe_ix ix_list (pv 0) (pv 3) (fun _ _ => rfl)) pe_int (fun _ _ => rfl)) (nomark _)))))
 (pss_one (ps_set (i := 3) sc.nd rfl (Or.inl rfl) (pv 4)))
 pss_nil))
 pss_nil)))
 (pss_one (ps_ret (pv 3)))))
theorem sc_order_or_bar : FnScope N_order_or_bar ["windows"] (defScope s_order_or_bar) := ⟨rfl, rfl, rfl, by decide +kernel, rfl, by decide +kernel, by decide +kernel⟩
theorem ok_order_or_bar (T : Fx K mg) : Cl P w K mg base CX0 3 "order_or_bar" (sp_order_or_bar K) := by
  obtain ⟨fd, F⟩ := T.F_order_or_bar
  have sc := sc_order_or_bar
  refine ⟨_, fd, ["windows"], T.g_order_or_bar, F.kp, F.bindsN fun _ _ _ _ _ _ us hl => match us, hl with | [_], _ => rfl, ?_⟩
  refine F.ok sc (len_order_or_bar) (fun cdv A outer s H vs Q E hr h => ⟨t_order_or_bar K, PSs.nox ?_, pure_order_or_bar h⟩)
  exact (pss_cons (ps_set (i := 1) sc.nd rfl (Or.inl rfl) (pe_lst pa_nil))
 (pss_cons (ps_set (i := 2) sc.nd rfl (Or.inl rfl) (pe_callB call_len_seq (by rfl) T.n_len b_len (pa_cons (pv 0) pa_nil)))
 (pss_cons (ps_for PassesOwn.never rfl (pi_range2 (by rfl) T.n_range (pa_cons pe_int (pa_cons (pe_op op_add (pv 2) pe_int) pa_nil))) (pg_name (i := 3) sc.nd rfl (Or.inl rfl))
 (pss_cons (ps_set (i := 4) sc.nd rfl (Or.inl rfl) (pe_cl (ok_next_window T) hr (by decide) (by rfl) pass0 (pa_cons (pv 0) (pa_cons (pv 1) (pa_cons (pv 3) pa_nil)))))
 (pss_cons (ps_if (pt_cmpR op_eq (pv 4) (pe_un un_neg pe_int) (nomark _))
 (pss_one (ps_ret (pe_tup (pa_cons pe_str (pa_cons (pe_op op_add (pv 3) pe_int) (pa_cons (pv 2) (pa_cons (pe_cl (ok_within T) hr (by decide) (by rfl) pass0 (pa_cons (pv 0) (pa_cons (pe_op op_add (pv 3) pe_int) (pa_cons (pv 2) pa_nil)))) pa_nil)))))))
 pss_nil)
 (pss_cons (ps_if (pt_cmpR op_lt (pe_ix ix_tup (pe_ix ix_list (pv 0) (pv 4) (fun _ _ => rfl)) pe_int (fun _ _ => rfl)) (pv 3) (nomark _))
 (pss_one (ps_ret (pe_cl (ok_bar_of T) hr (by decide) (by rfl) pass0 (pa_cons (pv 0) (pa_cons (pv 1) (pa_cons (pe_ix ix_tup (pe_ix ix_list (pv 0) (pv 4) (fun _ _ => rfl)) pe_int (fun _ _ => rfl)) pa_nil))))))
 pss_nil)
 (pss_one (ps_expr (pe_bm PySem.F.plainAttrs_list PySem.F.slot_list_append PySem.F.type_list_append mt_append (pv 1) (pa_cons (pv 4) pa_nil))))))))
 (pss_one (ps_ret (pe_tup (pa_cons pe_str (pa_cons (pv 1) pa_nil))))))))
theorem sc_law : FnScope N_law ["_law_script"] (defScope s_law) := ⟨rfl, rfl, rfl, by decide +kernel, rfl, by decide +kernel, by decide +kernel⟩
theorem ok_law_at {fd : FuncData} (T : Fx K mg) (F : FunD K "law" "law" (defArgs s_law) (defBody s_law) (defScope s_law) [] [] (He.fAd K ("law", none)) fd) : FnOk P w K mg base CX0 4 (He.fAd K ("law", none)) fd ["_law_script"] (sp_law K) := by
  have sc := sc_law
  refine F.ok sc (len_law) (fun cdv A outer s H vs Q E hr h => ⟨t_law K, PSs.nox ?_, pure_law h⟩)
  exact (pss_cons (ps_set (i := 1) sc.nd rfl (Or.inl rfl) (pe_cl (ok_law_draws T) hr (by decide) (by rfl) pass0 (pa_cons (pv 0) (pa_cons pe_int pa_nil))))
 (pss_cons (ps_set (i := 2) sc.nd rfl (Or.inl rfl) (pe_op op_mod (pe_ix ix_list (pv 1) pe_int (fun _ _ => rfl)) pe_int))
 (pss_cons (ps_set (i := 3) sc.nd rfl (Or.inl rfl) (pe_lst pa_nil))
 (C8.pss_cut (ps_if (pt_cmpR op_gt (pv 2) pe_int (nomark _))
 (pss_one (ps_set (i := 3) sc.nd rfl (Or.inl rfl) (pe_cl (ok_law_windows T) hr (by decide) (by rfl) pass0 (pa_cons (pe_slice sl_list (pv 1) (po_some pe_int) po_none) (pa_cons (pv 2) (pa_cons (pe_ix ix_list (pv 1) pe_int (fun _ _ => rfl)) pa_nil))))))
 pss_nil)
 (pss_cons (ps_set (i := 4) sc.nd rfl (Or.inl rfl) (pe_cl (ok_order_or_bar T) hr (by decide) (by rfl) pass0 (pa_cons (pe_callTy call_list_of (by rfl) T.n_list b_list (pa_cons (pv 3) pa_nil)) pa_nil)))
 (pss_cons (ps_if (PW.pt (pw_or (pt_not (pt_val (pe_callB call_isi (by rfl) T.n_isinstance b_isinstance (pa_cons (pv 4) (pa_cons (pe_bltn (v := .ty "tuple") (by rfl) T.n_tuple b_tuple rfl) pa_nil))))) (pw_or (pt_cmpR op_notIn_seq (pe_callB call_len_seq (by rfl) T.n_len b_len (pa_cons (pv 4) pa_nil)) (pe_tup (pa_cons pe_int (pa_cons pe_int pa_nil))) rfl) (pw_or1 (pt_not (pt_val (pe_cl (ok_law_wholes T) hr (by decide) (by rfl) pass0 (pa_cons (pe_ix ix_tup (pv 4) (pe_un un_neg pe_int) (fun _ _ => rfl)) pa_nil))))))))
 (pss_one (ps_ret pe_bl))
 pss_nil)
 (pss_cons (ps_set (i := 5) sc.nd rfl (Or.inl rfl) (pe_cl (ok_good_paper T) hr (by decide) (by rfl) pass0 (pa_cons (pe_callTy call_list_of (by rfl) T.n_list b_list (pa_cons (pv 3) pa_nil)) (pa_cons (pv 4) pa_nil))))
 (pss_cons (ps_if (PW.pt (pw_or (pt_not (pt_val (pe_callB call_isi (by rfl) T.n_isinstance b_isinstance (pa_cons (pv 5) (pa_cons (pe_bltn (v := .ty "bool") (by rfl) T.n_bool b_bool rfl) pa_nil))))) (pw_or1 (pt_not (pt_val (pv 5))))))
 (pss_one (ps_ret pe_bl))
 pss_nil)
 (pss_cons (ps_if (pt_cmpR op_eq (pe_callB call_len_seq (by rfl) T.n_len b_len (pa_cons (pv 4) pa_nil)) pe_int (nomark _))
 (pss_cons (ps_set (i := 6) sc.nd rfl (Or.inl rfl) (pe_cl (ok_good_paper T) hr (by decide) (by rfl) pass0 (pa_cons (pe_callTy call_list_of (by rfl) T.n_list b_list (pa_cons (pv 3) pa_nil)) (pa_cons (pe_tup (pa_cons pe_str (pa_cons pe_int (pa_cons (pv 2) (pa_cons (pe_listRg rfl (by rfl) T.n_list (prg_1 (by rfl) T.n_range (pv 2))) pa_nil))))) pa_nil))))
 (pss_one (ps_ret (pe_and (pe_cmpR op_eq (pe_ix ix_tup (pv 4) pe_int (fun _ _ => rfl)) pe_str (nomark _)) (pe_and (pe_cl (ok_law_keeps T) hr (by decide) (by rfl) pass0 (pa_cons (pv 3) (pa_cons (pe_ix ix_tup (pv 4) pe_int (fun _ _ => rfl)) pa_nil))) (pe_and (pe_callB call_isi (by rfl) T.n_isinstance b_isinstance (pa_cons (pv 6) (pa_cons (pe_bltn (v := .ty "bool") (by rfl) T.n_bool b_bool rfl) pa_nil))) (pe_one (pe_not (pv 6)))))))))
 pss_nil)
 (pss_cons (ps_set (i := 6) sc.nd rfl (Or.inl rfl) (pe_cl (ok_good_paper T) hr (by decide) (by rfl) pass0 (pa_cons (pe_callTy call_list_of (by rfl) T.n_list b_list (pa_cons (pv 3) pa_nil)) (pa_cons (pe_tup (pa_cons pe_str (pa_cons (pe_listRg rfl (by rfl) T.n_list (prg_1 (by rfl) T.n_range (pv 2))) pa_nil))) pa_nil))))
 (pss_cons (ps_if (PW.pt (pw_or (pt_not (pt_val (pe_callB call_isi (by rfl) T.n_isinstance b_isinstance (pa_cons (pe_ix ix_tup (pv 4) pe_int (fun _ _ => rfl)) (pa_cons (pe_bltn (v := .ty "int") (by rfl) T.n_int b_int rfl) pa_nil))))) (pw_or1 (pt_not (pt_val (pe_callB call_isi (by rfl) T.n_isinstance b_isinstance (pa_cons (pe_ix ix_tup (pv 4) pe_int (fun _ _ => rfl)) (pa_cons (pe_bltn (v := .ty "int") (by rfl) T.n_int b_int rfl) pa_nil))))))))
 (pss_one (ps_ret pe_bl))
 pss_nil)
 (pss_cons (ps_set (i := 7) sc.nd rfl (Or.inl rfl) (pe_and (pe_cmpR op_eq (pe_ix ix_tup (pv 4) pe_int (fun _ _ => rfl)) pe_str (nomark _)) (pe_one (pe_cl (ok_law_bars T) hr (by decide) (by rfl) pass0 (pa_cons (pv 3) (pa_cons (pe_ix ix_tup (pv 4) pe_int (fun _ _ => rfl)) (pa_cons (pe_ix ix_tup (pv 4) pe_int (fun _ _ => rfl)) (pa_cons (pe_ix ix_tup (pv 4) pe_int (fun _ _ => rfl)) pa_nil))))))))
 (pss_one (ps_ret (pe_and (pv 7) (pe_and (pe_callB call_isi (by rfl) T.n_isinstance b_isinstance (pa_cons (pv 6) (pa_cons (pe_bltn (v := .ty "bool") (by rfl) T.n_bool b_bool rfl) pa_nil))) (pe_one (pe_not (pv 6)))))))))))))))))))

end
theorem facts {K : PySem.W.Frag} {h : Heap} {mg : Str → Option Value} (X : K.In h) (G : h.Ns mainGlobals mg) (c : He.SaysD fas fns K) : Fx K mg where
  n_abs := He.free_ok X G (c.fact 13 rfl)
  n_all := He.free_ok X G (c.fact 14 rfl)
  n_bool := He.free_ok X G (c.fact 15 rfl)
  n_enumerate := He.free_ok X G (c.fact 16 rfl)
  n_int := He.free_ok X G (c.fact 17 rfl)
  n_isinstance := He.free_ok X G (c.fact 18 rfl)
  n_len := He.free_ok X G (c.fact 19 rfl)
  n_list := He.free_ok X G (c.fact 20 rfl)
  n_max := He.free_ok X G (c.fact 21 rfl)
  n_min := He.free_ok X G (c.fact 22 rfl)
  n_range := He.free_ok X G (c.fact 23 rfl)
  n_set := He.free_ok X G (c.fact 24 rfl)
  n_sorted := He.free_ok X G (c.fact 25 rfl)
  n_tuple := He.free_ok X G (c.fact 26 rfl)
  g_law_bars := He.glo_ok X G (c.fact 0 rfl)
  F_law_bars := c.def_ 0 (d := dd_law_bars) rfl
  g_law_draws := He.glo_ok X G (c.fact 1 rfl)
  F_law_draws := c.def_ 1 (d := dd_law_draws) rfl
  g_law_keeps := He.glo_ok X G (c.fact 2 rfl)
  F_law_keeps := c.def_ 2 (d := dd_law_keeps) rfl
  g_law_wholes := He.glo_ok X G (c.fact 3 rfl)
  F_law_wholes := c.def_ 3 (d := dd_law_wholes) rfl
  g_law_windows := He.glo_ok X G (c.fact 4 rfl)
  F_law_windows := c.def_ 4 (d := dd_law_windows) rfl
  g_is_bar := He.glo_ok X G (c.fact 5 rfl)
  F_is_bar := c.def_ 5 (d := dd_is_bar) rfl
  g_is_order := He.glo_ok X G (c.fact 6 rfl)
  F_is_order := c.def_ 6 (d := dd_is_order) rfl
  g_good_paper := He.glo_ok X G (c.fact 7 rfl)
  F_good_paper := c.def_ 7 (d := dd_good_paper) rfl
  g_within := He.glo_ok X G (c.fact 8 rfl)
  F_within := c.def_ 8 (d := dd_within) rfl
  g_bar_of := He.glo_ok X G (c.fact 9 rfl)
  F_bar_of := c.def_ 9 (d := dd_bar_of) rfl
  g_next_window := He.glo_ok X G (c.fact 10 rfl)
  F_next_window := c.def_ 10 (d := dd_next_window) rfl
  g_order_or_bar := He.glo_ok X G (c.fact 11 rfl)
  F_order_or_bar := c.def_ 11 (d := dd_order_or_bar) rfl
  g_law := He.glo_ok X G (c.fact 12 rfl)
  F_law := c.def_ 12 (d := dd_law) rfl
theorem fin {P : Program} {w : World} {K : PySem.W.Frag} {h : Heap} {mg : Str → Option Value} {fa : Addr} (X : K.In h) (G : h.Ns mainGlobals mg) (hmg : mg ("law" : Str) = some (.ref fa)) (c : He.SaysD fas fns K) :
    ∃ (K : PySem.W.Frag) (fd : FuncData) (sp : Sp), K.In h ∧ (∀ (s : Shared) (u : Value), BindsTo s fd ⟨[u], []⟩ [("_law_script", u)]) ∧
        (∀ (H : Hp) (a : Addr) (ns : List Int), ns.length ≤ 63 → Only H → SqL K H a (ns.map V.int) → sp [.ref a] H (fun v _ => v = .bl true) fun _ _ _ => False) ∧
        ∀ base : Heap, K.In base → base.Ns mainGlobals mg → FnOk P w K mg base CX0 4 fa fd ["_law_script"] sp := by
  have T := facts X G c
  obtain ⟨fd, F⟩ := T.F_law
  have e := hmg.symm.trans T.g_law
  cases e
  have b := FunD.bindsA (ps := ["_law_script"]) F fun _ _ _ _ _ _ us hl => match us, hl with | [_], _ => rfl
  refine ⟨K, fd, sp_law K, X, fun s v => b s [v] rfl, fun H a ns hl _ hS => ⟨a, ns, rfl, hS, hl, fun _ => rfl⟩, fun base _ _ => ?_⟩
  exact ok_law_at T F
end Su
open PySem PySem.W PySem.Calls PyProof.Rows
theorem PySem.Challenge.cw_susu_k07_good_papers_let_by_holds : PySem.Challenge.rw_susu_k07_good_papers_let_by.Holds := by
  w_on; o_law
  refine HandSHeadRun.head_any (r := OpenLaw.row PySem.Challenge.rw_susu_k07_good_papers_let_by) (q := view (OpenLaw.row PySem.Challenge.rw_susu_k07_good_papers_let_by).prog [14]) (H := Su.hk) (ob := Su.ob) (M := 4000) (loose := Su.loose) (d := HandSHeadRun.topDef (OpenLaw.row PySem.Challenge.rw_susu_k07_good_papers_let_by).prog 14) (kwd := []) Su.ob_eq
    Su.hd_e Su.hd_f Su.run Su.hd_def Su.hd_p Su.hd_k (by rfl) (by first | assumption | decide +kernel) Su.hd_ok ⟨rfl, rfl, rfl, rfl, rfl, by decide +kernel⟩ ?hw ?hc
  case hw => w_witness2
  case hc =>
    refine L2.walk_ofE (l := PySem.Challenge.rw_susu_k07_good_papers_let_by) (n := 63) (k := 4) (x := "_law_script") (CX := L2.CX0) rfl (by decide) (by kernel_rfl) ⟨rfl, by decide, by decide⟩ ?F (fun _ _ _ _ z => z)
    intro w mg fa h Y G hmg0
    obtain ⟨K, KX, c⟩ := Y
    have hmg : mg ("law" : PySem.Str) = some (.ref fa) := by
      have e : (HandSHeadRun.topDef (OpenLaw.row PySem.Challenge.rw_susu_k07_good_papers_let_by).prog 14).name = ("law" : PySem.Str) := by kernel_rfl
      rw [← e]
      exact hmg0
    exact Su.fin KX G hmg c
