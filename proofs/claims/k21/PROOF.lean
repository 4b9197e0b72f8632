import PyProof.Rows.All
import Wide.All
import OpenK.AllK
import Wide.FinOn
import KE.KStateDown
import Lean
import HandS.ForMost
import HandS.Exc
import HandS.TryOnly
import HandS.ExcOwn
import HandS.WordsExc
import HandS.ExcIs
import HandS.More
import HandS.Defaults
import HandS.IsInst
import HandS.Flow
import HandS.Steps
import HandS.Wide
import HandS.Deep
import HandS.Codes
import HandS.Zip
import HandS.Strs
import HandS.Conv
import HandS.SetFor
import HandS.SortInts
import HandS.Head0
import HandS.Head1
import HandS.Head2
import HandS.HeadEnd
import HandS.HeadHook1
import HandS.HeadHook2
import HandS.HeadHook3
import HandS.HeadHook4
import HandS.ExcField
import HandS.ExcInit
import HandS.ExcIs
import HandS.TryOnly
import PySem.Challenge.RW_susu_k21_openings_refused
set_option Elab.async false
set_option linter.all false
set_option maxRecDepth 100000
set_option maxHeartbeats 4000000
namespace Su
open PySem L2

abbrev rAdd : R2 := rI0 fun i j => .int (i + j)
abbrev rSub : R2 := rI0 fun i j => .int (i - j)
abbrev rMul : R2 := rI CMul fun i j => .int (i * j)
abbrev rDiv : R2 := rI CDiv fun i j => .int (i / j)
abbrev rDivW : R2 := rI CDivW fun i j => .int (i / j)
abbrev rMod : R2 := rI (fun _ j => 0 < j) fun i j => .int (i % j)
abbrev rPow : R2 := rI CPow fun i j => .int (i ^ j.toNat)
abbrev rLt : R2 := rI0 fun i j => .bl (decide (i < j))
abbrev rLe : R2 := rI0 fun i j => .bl (decide (i ≤ j))
abbrev rNeg : V → Hp → VK → Prop := rU fun i => .int (-i)
abbrev CR : Type := List V → Hp → VK → Prop
abbrev rLenSeq (K : PySem.W.Frag) : CR := fun xs H Q => ∃ p ys, xs = [.ref p] ∧ (SqL K H p ys ∨ SqT K H p ys) ∧ Q (.int ys.length) H
abbrev rAbs : CR := fun xs H Q => ∃ i, xs = [.int i] ∧ Q (.int (if i < 0 then -i else i)) H
abbrev rMax2 : CR := fun xs H Q => ∃ i j, xs = [.int i, .int j] ∧ Q (.int (if j > i then j else i)) H
abbrev rMin2 : CR := fun xs H Q => ∃ i j, xs = [.int i, .int j] ∧ Q (.int (if j < i then j else i)) H
abbrev rInt1 : CR := fun xs H Q => (∃ i, xs = [.int i] ∧ Q (.int i) H) ∨ ∃ k, xs = [.bl k] ∧ Q (.int (if k then 1 else 0)) H
abbrev rListOf (K : PySem.W.Frag) : CR := fun xs H Q => ∃ p ys, xs = [.ref p] ∧ (SqL K H p ys ∨ SqT K H p ys) ∧ ∀ l, H l = none → Q (.ref l) (upd H l (.lst ys))
abbrev MR : Type := V → List V → Hp → VK → Prop
abbrev rAppend : MR := fun x vs H Q => ∃ (l : Addr) (xs : List V) (y : V), x = .ref l ∧ vs = [y] ∧ H l = some (.lst xs) ∧ xs.length < sizeLine ∧ Q .non (upd H l (.lst (xs ++ [y])))
theorem b_len : bootBuiltins "len" = some (.builtin "len") := by decide +kernel
theorem b_abs : bootBuiltins "abs" = some (.builtin "abs") := by decide +kernel
theorem b_max : bootBuiltins "max" = some (.builtin "max") := by decide +kernel
theorem b_min : bootBuiltins "min" = some (.builtin "min") := by decide +kernel
theorem b_all : bootBuiltins "all" = some (.builtin "all") := by decide +kernel
theorem b_sorted : bootBuiltins "sorted" = some (.builtin "sorted") := by decide +kernel
theorem b_isinstance : bootBuiltins "isinstance" = some (.builtin "isinstance") := by decide +kernel
theorem b_ValueError : bootBuiltins "ValueError" = some (.type "ValueError") := by decide +kernel
theorem b_int : bootBuiltins "int" = some (.type "int") := by decide +kernel
theorem b_bool : bootBuiltins "bool" = some (.type "bool") := by decide +kernel
theorem b_list : bootBuiltins "list" = some (.type "list") := by decide +kernel
theorem b_set : bootBuiltins "set" = some (.type "set") := by decide +kernel

/-- a def of the module that may be called by its name -/
structure Cl (P : Program) (w : World) (K : PySem.W.Frag) (mg : Str → Option Value) (base : Heap) (CX : CXT) (k : Nat) (x : Str) (sp : Sp) : Prop where
  ex : ∃ (f : Addr) (fd : FuncData) (ps : List Str), mg x = some (.ref f) ∧ PySem.W.keepIn K (.ref f) = true ∧ Binds K fd ps [] ∧ FnOk P w K mg base CX k f fd ps sp
section
variable {X : Cx} {CX : CXT} {k j : Nat} {x : Str} {sp : Sp} {E : XK} {e : Expr} {es : List Expr} {t : TA} {p pos : Pos}
theorem pe_cl (c : Cl X.prog X.w X.K X.mg X.base CX k x sp) (hr : Room j X.A) (hk : k ≤ j) (hg : Gl X x) (hx : Passes CX X E) (ha : PA X (e :: es) t)
    (hdb : (x == ("__debug__" : Str)) = false := by decide) (he : starEach (e :: es) X.env = (false, eval e X.env) :: starEach es X.env := by rfl) (hpl : (backTo pos (starEach es X.env)).any (·.1) = false := by rfl) : PE X (.Call (.Name x p) (e :: es) [] pos) (tCall sp [] E t) := by
  obtain ⟨f, fd, ps, h1, h2, h3, h4⟩ := c.ex
  exact pe_call h4 (hr.mono hk) hg h1 h2 h3 .nil hx ha hdb he hpl
theorem pe_gc {v : V} (hg : Gl X x) (h : ∃ u, X.mg x = some u ∧ RelV v u) (hd : (x == ("__debug__" : Str)) = false := by decide) : PE X (.Name x pos) (tC v) := by
  obtain ⟨u, h1, h2⟩ := h
  exact pe_glob hg h1 h2 hd
end

/-! ### the readings, step by step -/
section
variable {K : PySem.W.Frag} {t1 t2 : TS} {te ta tb tc : TE} {tt tu : TT} {a1 a2 : TA} {D : Ends} {σ : St} {H : Hp} {Q : VK} {Qb : Bool → Hp → Prop} {Qa : List V → Hp → Prop} {g : TG} {v w x y : V} {n i : Nat}
theorem x_seq (h : t1 { D with nx := t2 D } σ H) : tSeq t1 t2 D σ H := h
theorem x_next (h : D.nx σ H) : tNext D σ H := h
theorem x_ret (h : te σ H D.rt) : tRet te D σ H := h
theorem x_retN (h : D.rt .non H) : tRetN D σ H := h
theorem x_brk (h : D.bk σ H) : tBreak D σ H := h
theorem x_drop (h : te σ H fun _ H1 => D.nx σ H1) : tDrop te D σ H := h
theorem x_asg (h : te σ H fun x H1 => g x σ H1 D.nx) : tAsg te g D σ H := h
theorem x_gname {Qs : St → Hp → Prop} (h : Qs (σ.set i (some v)) H) : gName i v σ H Qs := h
theorem x_ifS (h : tt σ H fun b H1 => if b = true then t1 D σ H1 else t2 D σ H1) : tIfS tt t1 t2 D σ H := h
theorem x_var (e : σ[i]? = some (some v)) (h : Q v H) : tVar i σ H Q := ⟨v, e, h⟩
theorem x_c (h : Q v H) : tC v σ H Q := h
theorem x_op {r : R2} (h : ta σ H fun x H1 => tb σ H1 fun y H2 => r x y H2 Q) : tOp r ta tb σ H Q := h
theorem x_un {r : V → Hp → VK → Prop} (h : ta σ H fun x H1 => r x H1 Q) : tUn r ta σ H Q := h
theorem x_rU {g : Int → V} {i : Int} (h : Q (g i) H) : rU g (.int i) H Q := ⟨i, rfl, h⟩
theorem x_rI0 {g : Int → Int → V} {i j : Int} (h : Q (g i j) H) : rI0 g (.int i) (.int j) H Q := ⟨i, j, rfl, rfl, h⟩
theorem x_rI {C : Int → Int → Prop} {g : Int → Int → V} {i j : Int} (c : C i j) (h : Q (g i j) H) : rI C g (.int i) (.int j) H Q := ⟨i, j, rfl, rfl, c, h⟩
theorem x_eqI {i j : Int} (h : Q (.bl (decide (i = j))) H) : rEq (.int i) (.int j) H Q := ⟨rfl, by
  have e : decide (V.int i = V.int j) = decide (i = j) := by simp
  rw [e]; exact h⟩
theorem x_neI {i j : Int} (h : Q (.bl (!decide (i = j))) H) : rNe (.int i) (.int j) H Q := ⟨rfl, by
  have e : decide (V.int i = V.int j) = decide (i = j) := by simp
  rw [e]; exact h⟩
theorem x_eqS {i j : Str} (h : Q (.bl (decide (i = j))) H) : rEq (.str i) (.str j) H Q := ⟨rfl, by
  have e : decide (V.str i = V.str j) = decide (i = j) := by simp
  rw [e]; exact h⟩
theorem x_neS {i j : Str} (h : Q (.bl (!decide (i = j))) H) : rNe (.str i) (.str j) H Q := ⟨rfl, by
  have e : decide (V.str i = V.str j) = decide (i = j) := by simp
  rw [e]; exact h⟩
theorem x_eqB {i j : Bool} (h : Q (.bl (decide (i = j))) H) : rEq (.bl i) (.bl j) H Q := ⟨rfl, by
  have e : decide (V.bl i = V.bl j) = decide (i = j) := by simp
  rw [e]; exact h⟩
theorem x_neB {i j : Bool} (h : Q (.bl (!decide (i = j))) H) : rNe (.bl i) (.bl j) H Q := ⟨rfl, by
  have e : decide (V.bl i = V.bl j) = decide (i = j) := by simp
  rw [e]; exact h⟩
theorem x_test (h : te σ H fun x H' => ∃ k, x = .bl k ∧ Qb k H') : tTest te σ H Qb := h
theorem x_tB (h : te σ H fun x H' => ∃ k, x = .bl k ∧ Qb k H') : tB te σ H Qb := h
theorem x_isB {k : Bool} (h : Qb k H) : ∃ k', V.bl k = .bl k' ∧ Qb k' H := ⟨k, rfl, h⟩
theorem x_isB' {k : Bool} {P : Bool → Prop} (h : P k) : ∃ k', V.bl k = .bl k' ∧ P k' := ⟨k, rfl, h⟩
theorem x_not (h : tt σ H fun c H1 => Qb (!c) H1) : tNot tt σ H Qb := h
theorem x_and (h : tt σ H fun c H1 => if c = true then tu σ H1 Qb else Qb false H1) : tAnd tt tu σ H Qb := h
theorem x_or (h : tt σ H fun c H1 => if c = true then Qb true H1 else tu σ H1 Qb) : tOr tt tu σ H Qb := h
theorem x_andV (h : ta σ H fun x H1 => ∃ c, x = .bl c ∧ if c = true then tb σ H1 Q else Q (.bl false) H1) : tAndV ta tb σ H Q := h
theorem x_orV (h : ta σ H fun x H1 => ∃ c, x = .bl c ∧ if c = true then Q (.bl true) H1 else tb σ H1 Q) : tOrV ta tb σ H Q := h
theorem x_notV (h : ta σ H fun x H1 => ∃ c, x = .bl c ∧ Q (.bl (!c)) H1) : tNotV ta σ H Q := h
theorem x_chain {r r' : R2} (h : ta σ H fun x H1 => tb σ H1 fun y H2 => r x y H2 fun z H3 => ∃ k, z = .bl k ∧ (if k = true then tc σ H3 fun w' H4 => r' y w' H4 Q else Q (.bl false) H3)) : tChain r r' ta tb tc σ H Q := h
theorem x_nil (h : Qa [] H) : tNil σ H Qa := h
theorem x_cons (h : ta σ H fun x H1 => a1 σ H1 fun xs H2 => Qa (x :: xs) H2) : tCons ta a1 σ H Qa := h
theorem x_cb {r : CR} (h : a1 σ H fun vs H1 => r vs H1 Q) : tCB r a1 σ H Q := h
theorem x_call {sp : Sp} {E : XK} (h : a1 σ H fun vs H1 => sp (vs ++ []) H1 Q E) : tCall sp [] E a1 σ H Q := h
def AlL (Q : VK) (xs : List V) (H : Hp) : Prop := xs.length ≤ sizeLine ∧ ∀ p, H p = none → Q (.ref p) (upd H p (.lst xs))
def AlT (Q : VK) (xs : List V) (H : Hp) : Prop := xs.length ≤ sizeLine ∧ ∀ p, H p = none → Q (.ref p) (upd H p (.tup xs))
theorem x_lst (h : a1 σ H (AlL Q)) : tLst a1 σ H Q := h
theorem x_tup (h : a1 σ H (AlT Q)) : tTup a1 σ H Q := h
theorem x_abs {i : Int} (h : Q (.int (if i < 0 then -i else i)) H) : rAbs [.int i] H Q := ⟨i, rfl, h⟩
theorem x_max2 {i j : Int} (h : Q (.int (if j > i then j else i)) H) : rMax2 [.int i, .int j] H Q := ⟨i, j, rfl, h⟩
theorem x_min2 {i j : Int} (h : Q (.int (if j < i then j else i)) H) : rMin2 [.int i, .int j] H Q := ⟨i, j, rfl, h⟩
theorem x_int1 {i : Int} (h : Q (.int i) H) : rInt1 [.int i] H Q := .inl ⟨i, rfl, h⟩
theorem x_intB {k : Bool} (h : Q (.int (if k then 1 else 0)) H) : rInt1 [.bl k] H Q := .inr ⟨k, rfl, h⟩
theorem x_lenL {p : Addr} {ys : List V} (e : SqL K H p ys) (h : Q (.int ys.length) H) : rLenSeq K [.ref p] H Q := ⟨p, ys, rfl, .inl e, h⟩
theorem x_ixL {p : Addr} {xs : List V} {i : Int} (e : SqL K H p xs) (z : atI xs i = some v) (h : Q v H) : rIxL K (.ref p) (.int i) H Q := ⟨p, xs, i, v, rfl, rfl, e, z, h⟩
theorem x_ixT {p : Addr} {xs : List V} {i : Int} (e : SqT K H p xs) (z : atI xs i = some v) (h : Q v H) : rIxT K (.ref p) (.int i) H Q := ⟨p, xs, i, v, rfl, rfl, e, z, h⟩
theorem x_append {p : Addr} {xs : List V} (e : H p = some (.lst xs)) (z : xs.length < sizeLine) (h : Q .non (upd H p (.lst (xs ++ [v])))) : rAppend (.ref p) [v] H Q := ⟨p, xs, v, rfl, rfl, e, z, h⟩
theorem x_bmL {r : MR} {to : TE} (h : to σ H fun x H1 => tyV K "list" x H1 ∧ a1 σ H1 fun xs H2 => r x xs H2 Q) : tBM K "list" r to a1 σ H Q := h
theorem tyL {p : Addr} {xs : List V} (e : SqL K H p xs) : tyV K "list" (.ref p) H := .inl ⟨rfl, _, e⟩
theorem SqL.of {p : Addr} {xs : List V} (e : H p = some (.lst xs)) : SqL K H p xs := .inl (.inl e)
theorem SqT.of {p : Addr} {xs : List V} (e : H p = some (.tup xs)) : SqT K H p xs := .inl (.inl e)
theorem x_listOf {p : Addr} {ys : List V} (e : SqL K H p ys) (h : ∀ l, H l = none → Q (.ref l) (upd H l (.lst ys))) : rListOf K [.ref p] H Q := ⟨p, ys, rfl, .inl e, h⟩
theorem x_isi {c : V} {t u : Value} {b : Bool} (h1 : ClsV c u) (h2 : TyX K H x t) (h3 : PySem.W.kitOne K t u = some b) (h : Q (.bl b) H) : rIsi K [x, c] H Q := ⟨x, c, t, u, b, rfl, h1, h2, h3, h⟩
theorem x_ite {b : Bool} {A B : Prop} (h1 : b = true → A) (h2 : b = false → B) : if b = true then A else B := by
  cases b
  · exact (if_neg Bool.false_ne_true).symm ▸ h2 rfl
  · exact (if_pos rfl).symm ▸ h1 rfl
theorem x_iteD {c A B : Prop} {inst : Decidable c} (h1 : c → A) (h2 : ¬ c → B) : if decide c = true then A else B := x_ite (fun e => h1 (of_decide_eq_true e)) (fun e => h2 (of_decide_eq_false e))
theorem x_iteN {c A B : Prop} {inst : Decidable c} (h1 : ¬ c → A) (h2 : c → B) : if (!decide c) = true then A else B := x_ite (fun e => h1 (by simpa using e)) (fun e => h2 (by simpa using e))
theorem x_whileN {tb : TS} {W : Nat → St → Hp → Prop} {m : Nat} (h : tb { D with nx := (fun σ' H' => ∃ m', m' < m ∧ W m' σ' H'), ct := (fun σ' H' => ∃ m', m' < m ∧ W m' σ' H'), bk := D.nx } σ H) :
    ∃ N : St → Hp → Prop, (∀ σ' H', N σ' H' → ∃ m', m' < m ∧ W m' σ' H') ∧ tb { D with nx := N, ct := N, bk := D.nx } σ H := ⟨_, fun _ _ h => h, h⟩
theorem x_for {wi : TI} {tb : TS} (h : wi σ H fun J H1 => ∃ W : Nat → Nat → St → Hp → Prop, (∃ m, W 0 m σ H1) ∧ ∀ i m σ H, W i m σ H →
    (J.stop i H ∧ D.nx σ H) ∨ (J.go i H ∧ ∃ N : St → Hp → Prop, (∀ σ' H', N σ' H' → ∃ m', m' < m ∧ W (i + 1) m' σ' H') ∧ ∀ x H', J.yld i H x H' → g x σ H' fun σ2 H2 => tb { D with nx := N, ct := N, bk := D.nx } σ2 H2)) : tFor wi g tb D σ H := h
theorem x_iList {R : It → Hp → Prop} (h : te σ H fun x H1 => ∃ a, x = .ref a ∧ (∃ xs, SqL K H1 a xs) ∧ R (Itl K a) H1) : iList K te σ H R := h
theorem x_iRng1 {R : It → Hp → Prop} (h : a1 σ H fun vs H1 => ∃ j : Int, vs = [.int j] ∧ -(2 ^ 62) ≤ j ∧ j < 2 ^ 62 ∧ R (Itr 0 j.toNat) H1) : iRng1 a1 σ H R := h
theorem x_iRng2 {R : It → Hp → Prop} (h : a1 σ H fun vs H1 => ∃ i j : Int, vs = [.int i, .int j] ∧ (-(2 ^ 62) ≤ i ∧ i < 2 ^ 62 ∧ -(2 ^ 62) ≤ j ∧ j < 2 ^ 62) ∧ R (Itr i (j - i).toNat) H1) : iRng2 a1 σ H R := h
theorem x_rGt {i j : Int} (h : Q (.bl (decide (j < i))) H) : rGt (.int i) (.int j) H Q := ⟨i, j, rfl, rfl, h⟩
theorem x_rGe {i j : Int} (h : Q (.bl (decide (j ≤ i))) H) : rGe (.int i) (.int j) H Q := ⟨i, j, rfl, rfl, h⟩
theorem x_iteF {A B : Prop} (h : B) : if false = true then A else B := iteF h
theorem x_iteT {A B : Prop} (h : A) : if true = true then A else B := iteT h
theorem x_iteNT {A B : Prop} (h : B) : if (!true) = true then A else B := iteF h
theorem x_iteNF {A B : Prop} (h : A) : if (!false) = true then A else B := iteT h
theorem small {n : Nat} (h : n ≤ 100000) : n < sizeLine := Nat.lt_of_le_of_lt h (by rw [sizeLine_eq]; decide)
theorem at_get {α : Type} {xs : List α} {i : Int} {d : α} (h0 : 0 ≤ i) (h1 : i < xs.length) : atI xs i = some (xs.getD i.toNat d) := by
  have h2 : i.toNat < xs.length := by omega
  unfold atI ixN
  rw [if_pos h0, if_pos h1]
  show xs[i.toNat]? = _
  rw [List.getElem?_eq_getElem h2, List.getD_eq_getElem?_getD, List.getElem?_eq_getElem h2]
  rfl
theorem at_getI {xs : List Int} {i : Int} (h0 : 0 ≤ i) (h1 : i < xs.length) : atI (xs.map V.int) i = some (.int (xs.getD i.toNat 0)) := by
  have h2 : i.toNat < xs.length := by omega
  rw [at_get (d := .int 0) h0 (by rw [List.length_map]; exact h1), List.getD_eq_getElem?_getD, List.getD_eq_getElem?_getD, List.getElem?_map, List.getElem?_eq_getElem h2]
  rfl
theorem x_ixI {p : Addr} {xs : List Int} {i : Int} (e : H p = some (.lst (xs.map V.int))) (h0 : 0 ≤ i) (h1 : i < xs.length) (h : Q (.int (xs.getD i.toNat 0)) H) : rIxL K (.ref p) (.int i) H Q := x_ixL (SqL.of e) (at_getI h0 h1) h
theorem x_cut {t u : TS} (M : St → Hp → Prop) (h : t { D with nx := M } σ H) (k : ∀ σ' H', M σ' H' → u D σ' H') : C8.tCut t u D σ H := ⟨M, h, k⟩
theorem kt_int_int : kitB "int" "int" = some true := by decide +kernel
theorem kt_int_bool : kitB "int" "bool" = some false := by decide +kernel
theorem kt_int_str : kitB "int" "str" = some false := by decide +kernel
theorem kt_int_list : kitB "int" "list" = some false := by decide +kernel
theorem kt_int_tuple : kitB "int" "tuple" = some false := by decide +kernel
theorem kt_bool_int : kitB "bool" "int" = some true := by decide +kernel
theorem kt_bool_bool : kitB "bool" "bool" = some true := by decide +kernel
theorem kt_bool_str : kitB "bool" "str" = some false := by decide +kernel
theorem kt_bool_list : kitB "bool" "list" = some false := by decide +kernel
theorem kt_bool_tuple : kitB "bool" "tuple" = some false := by decide +kernel
theorem kt_str_int : kitB "str" "int" = some false := by decide +kernel
theorem kt_str_bool : kitB "str" "bool" = some false := by decide +kernel
theorem kt_str_str : kitB "str" "str" = some true := by decide +kernel
theorem kt_str_list : kitB "str" "list" = some false := by decide +kernel
theorem kt_str_tuple : kitB "str" "tuple" = some false := by decide +kernel
theorem kt_NoneType_int : kitB "NoneType" "int" = some false := by decide +kernel
theorem kt_NoneType_bool : kitB "NoneType" "bool" = some false := by decide +kernel
theorem kt_NoneType_str : kitB "NoneType" "str" = some false := by decide +kernel
theorem kt_NoneType_list : kitB "NoneType" "list" = some false := by decide +kernel
theorem kt_NoneType_tuple : kitB "NoneType" "tuple" = some false := by decide +kernel
theorem kt_list_list : kitB "list" "list" = some true := by decide +kernel
theorem ty_lst {a : Addr} {xs : List V} (e : SqL K H a xs) : TyX K H (.ref a) (.type "list") := by
  rcases e with (h | ⟨o, h⟩) | ⟨o, n, us, h1, h2, h3, _⟩
  · exact .base (.lst h)
  · exact .base (.frz h)
  · exact .kList h1 h2
theorem x_isi_int_int {i : Int} (q : Q (.bl true) H) : rIsi K [(.int i), .ty "int"] H Q := x_isi (.ty _) (.base (.int _)) (kit_ty kt_int_int) q
theorem x_isi_int_bool {i : Int} (q : Q (.bl false) H) : rIsi K [(.int i), .ty "bool"] H Q := x_isi (.ty _) (.base (.int _)) (kit_ty kt_int_bool) q
theorem x_isi_int_str {i : Int} (q : Q (.bl false) H) : rIsi K [(.int i), .ty "str"] H Q := x_isi (.ty _) (.base (.int _)) (kit_ty kt_int_str) q
theorem x_isi_int_list {i : Int} (q : Q (.bl false) H) : rIsi K [(.int i), .ty "list"] H Q := x_isi (.ty _) (.base (.int _)) (kit_ty kt_int_list) q
theorem x_isi_int_tuple {i : Int} (q : Q (.bl false) H) : rIsi K [(.int i), .ty "tuple"] H Q := x_isi (.ty _) (.base (.int _)) (kit_ty kt_int_tuple) q
theorem x_isi_bool_int {i : Bool} (q : Q (.bl true) H) : rIsi K [(.bl i), .ty "int"] H Q := x_isi (.ty _) (.base (.bl _)) (kit_ty kt_bool_int) q
theorem x_isi_bool_bool {i : Bool} (q : Q (.bl true) H) : rIsi K [(.bl i), .ty "bool"] H Q := x_isi (.ty _) (.base (.bl _)) (kit_ty kt_bool_bool) q
theorem x_isi_bool_str {i : Bool} (q : Q (.bl false) H) : rIsi K [(.bl i), .ty "str"] H Q := x_isi (.ty _) (.base (.bl _)) (kit_ty kt_bool_str) q
theorem x_isi_bool_list {i : Bool} (q : Q (.bl false) H) : rIsi K [(.bl i), .ty "list"] H Q := x_isi (.ty _) (.base (.bl _)) (kit_ty kt_bool_list) q
theorem x_isi_bool_tuple {i : Bool} (q : Q (.bl false) H) : rIsi K [(.bl i), .ty "tuple"] H Q := x_isi (.ty _) (.base (.bl _)) (kit_ty kt_bool_tuple) q
theorem x_isi_str_int {i : Str} (q : Q (.bl false) H) : rIsi K [(.str i), .ty "int"] H Q := x_isi (.ty _) (.base (.str _)) (kit_ty kt_str_int) q
theorem x_isi_str_bool {i : Str} (q : Q (.bl false) H) : rIsi K [(.str i), .ty "bool"] H Q := x_isi (.ty _) (.base (.str _)) (kit_ty kt_str_bool) q
theorem x_isi_str_str {i : Str} (q : Q (.bl true) H) : rIsi K [(.str i), .ty "str"] H Q := x_isi (.ty _) (.base (.str _)) (kit_ty kt_str_str) q
theorem x_isi_str_list {i : Str} (q : Q (.bl false) H) : rIsi K [(.str i), .ty "list"] H Q := x_isi (.ty _) (.base (.str _)) (kit_ty kt_str_list) q
theorem x_isi_str_tuple {i : Str} (q : Q (.bl false) H) : rIsi K [(.str i), .ty "tuple"] H Q := x_isi (.ty _) (.base (.str _)) (kit_ty kt_str_tuple) q
theorem x_isi_NoneType_int (q : Q (.bl false) H) : rIsi K [.non, .ty "int"] H Q := x_isi (.ty _) (.base .non) (kit_ty kt_NoneType_int) q
theorem x_isi_NoneType_bool (q : Q (.bl false) H) : rIsi K [.non, .ty "bool"] H Q := x_isi (.ty _) (.base .non) (kit_ty kt_NoneType_bool) q
theorem x_isi_NoneType_str (q : Q (.bl false) H) : rIsi K [.non, .ty "str"] H Q := x_isi (.ty _) (.base .non) (kit_ty kt_NoneType_str) q
theorem x_isi_NoneType_list (q : Q (.bl false) H) : rIsi K [.non, .ty "list"] H Q := x_isi (.ty _) (.base .non) (kit_ty kt_NoneType_list) q
theorem x_isi_NoneType_tuple (q : Q (.bl false) H) : rIsi K [.non, .ty "tuple"] H Q := x_isi (.ty _) (.base .non) (kit_ty kt_NoneType_tuple) q
theorem isi_list_list {a : Addr} {xs : List V} (e : SqL K H a xs) (q : Q (.bl true) H) : rIsi K [.ref a, .ty "list"] H Q := x_isi (.ty _) (ty_lst e) (kit_ty kt_list_list) q
theorem same_upd {H0 H1 : Hp} {p : Addr} {o : HO} (h : Same H0 H1) (n : H0 p = none) : Same H0 (upd H1 p o) := fun b q e => by rw [upd_ne (ne_of_none e n)]; exact h b q e
theorem same_new {H0 H1 : Hp} {p : Addr} {o : HO} (h : Same H0 H1) (n : H1 p = none) : Same H0 (L2.upd H1 p o) := same_upd h (h.free n)
theorem al_lst {xs : List V} (h : ∀ p H', H p = none → Same H H' → H' p = some (.lst xs) → Q (.ref p) H') (h0 : Nat.ble xs.length 100000 = true := by rfl) : AlL Q xs H := ⟨Nat.le_of_lt (small (Nat.le_of_ble_eq_true h0)), fun p n => h p _ n (same_new (Same.refl H) n) upd_same⟩
theorem al_tup {xs : List V} (h : ∀ p H', H p = none → Same H H' → H' p = some (.tup xs) → Q (.ref p) H') (h0 : Nat.ble xs.length 100000 = true := by rfl) : AlT Q xs H := ⟨Nat.le_of_lt (small (Nat.le_of_ble_eq_true h0)), fun p n => h p _ n (same_new (Same.refl H) n) upd_same⟩
theorem al_list {p : Addr} {ys : List V} (e : SqL K H p ys) (h : ∀ p H', H p = none → Same H H' → H' p = some (.lst ys) → Q (.ref p) H') : rListOf K [.ref p] H Q := x_listOf e fun p n => h p _ n (same_new (Same.refl H) n) upd_same
end
/-! ### turns of a walk -/
structure Turns (J : It) (n : Nat) (ok : Hp → Prop) (item : Nat → V → Hp → Hp → Prop) : Prop where
  go : ∀ i H, i < n → ok H → J.go i H
  yld : ∀ i H x H', i < n → ok H → J.yld i H x H' → item i x H H'
  stop : ∀ H, ok H → J.stop n H
section
variable {K : PySem.W.Frag} {J : It} {n : Nat} {ok : Hp → Prop} {item : Nat → V → Hp → Hp → Prop} {g : TG} {tb : TS} {D : Ends} {σ : St} {H : Hp}
theorem for_by (T : Turns J n ok item) (Pv : Nat → St → Hp → Prop) (h0 : Pv 0 σ H) (hok : ∀ i σ H, i ≤ n → Pv i σ H → ok H)
    (hs : ∀ i x σ H H', i < n → Pv i σ H → item i x H H' → g x σ H' fun σ2 H2 => tb { D with nx := Pv (i + 1), ct := Pv (i + 1), bk := D.nx } σ2 H2) (hd : ∀ σ H, Pv n σ H → D.nx σ H) :
    ∃ W : Nat → Nat → St → Hp → Prop, (∃ m, W 0 m σ H) ∧ ∀ i m σ H, W i m σ H →
      (J.stop i H ∧ D.nx σ H) ∨ (J.go i H ∧ ∃ N : St → Hp → Prop, (∀ σ' H', N σ' H' → ∃ m', m' < m ∧ W (i + 1) m' σ' H') ∧ ∀ v H', J.yld i H v H' → g v σ H' fun σ2 H2 => tb { D with nx := N, ct := N, bk := D.nx } σ2 H2) := by
  refine ⟨fun i m σ H => m = n - i ∧ i ≤ n ∧ Pv i σ H, ⟨n, rfl, Nat.zero_le _, h0⟩, ?_⟩
  rintro i m σ H ⟨rfl, hi, p⟩
  have q := hok i σ H hi p
  by_cases hlt : i < n
  · exact .inr ⟨T.go i H hlt q, Pv (i + 1), fun σ' H' p' => ⟨n - (i + 1), by omega, rfl, hlt, p'⟩, fun v H' y => hs i v σ H H' hlt p (T.yld i H v H' hlt q y)⟩
  · have e : i = n := by omega
    subst e
    exact .inl ⟨T.stop H q, hd σ H p⟩
variable {tt : TT} {te : TE} {vs : List Nat} {H1 : Hp} {A : Addr} {Qd : Hp → Prop}
theorem lc_by (T : Turns J n ok item) (Pv : Nat → Hp → Prop) (h0 : Pv 0 (upd H1 A (.lst []))) (hok : ∀ i H, i ≤ n → Pv i H → ok H)
    (hs : ∀ i x H H', i < n → Pv i H → item i x H H' → g x (wipe σ vs) H' fun σ2 H2 => wipe σ2 vs = wipe σ vs ∧ tt σ2 H2 fun b H3 =>
      if b = true then te σ2 H3 fun y H4 => ∃ acc, H4 A = some (.lst acc) ∧ acc.length < sizeLine ∧ Pv (i + 1) (upd H4 A (.lst (acc ++ [y]))) else Pv (i + 1) H3) (hd : ∀ H, Pv n H → Qd H) :
    ∃ W : Nat → Nat → Hp → Prop, (∃ m, W 0 m (upd H1 A (.lst []))) ∧ ∀ i m H, W i m H →
      (J.stop i H ∧ Qd H) ∨ (J.go i H ∧ ∃ Nx : Hp → Prop, (∀ H', Nx H' → ∃ m', m' < m ∧ W (i + 1) m' H') ∧ ∀ x H', J.yld i H x H' → g x (wipe σ vs) H' fun σ2 H2 => wipe σ2 vs = wipe σ vs ∧ tt σ2 H2 fun b H3 =>
        if b = true then te σ2 H3 fun y H4 => ∃ acc, H4 A = some (.lst acc) ∧ acc.length < sizeLine ∧ Nx (upd H4 A (.lst (acc ++ [y]))) else Nx H3) := by
  refine ⟨fun i m H => m = n - i ∧ i ≤ n ∧ Pv i H, ⟨n, rfl, Nat.zero_le _, h0⟩, ?_⟩
  rintro i m H ⟨rfl, hi, p⟩
  have q := hok i H hi p
  by_cases hlt : i < n
  · exact .inr ⟨T.go i H hlt q, Pv (i + 1), fun H' p' => ⟨n - (i + 1), by omega, rfl, hlt, p'⟩, fun v H' y => hs i v H H' hlt p (T.yld i H v H' hlt q y)⟩
  · have e : i = n := by omega
    subst e
    exact .inl ⟨T.stop H q, hd H p⟩
theorem turnsL {a : Addr} {xs : List V} : Turns (Itl K a) xs.length (fun H => SqL K H a xs) (fun i x H H' => H = H' ∧ xs[i]? = some x) where
  go := fun i H hi q => ⟨xs, xs[i], q, List.getElem?_eq_getElem hi⟩
  yld := fun i H x H' _ q y => ⟨y.1.symm, y.2 xs q⟩
  stop := fun H q => ⟨xs, q, Nat.le_refl _⟩
theorem turnsR {lo : Int} {n : Nat} : Turns (Itr lo n) n (fun _ => True) (fun i x H H' => H = H' ∧ x = .int (lo + i)) where
  go := fun i H hi _ => hi
  yld := fun i H x H' _ _ y => ⟨y.1.symm, y.2⟩
  stop := fun H _ => Nat.le_refl _
/-- a new pair stands at T -/
def Pair (x y : V) (v : V) (H H' : Hp) : Prop := ∃ T, v = .ref T ∧ H T = none ∧ Same H H' ∧ H' T = some (.tup [x, y]) ∧ ∀ b, b ≠ T → H' b = H b
theorem pair_mk {x y : V} {T : Addr} (h : H T = none) : Pair x y (.ref T) H (upd H T (.tup [x, y])) := ⟨T, rfl, h, same_new (Same.refl H) h, upd_same, fun b hb => upd_ne hb⟩
theorem turnsE {a : Addr} {xs : List V} : Turns (Ite K a) xs.length (fun H => SqL K H a xs) (fun i v H H' => ∃ x, xs[i]? = some x ∧ Pair (.int (i : Nat)) x v H H') where
  go := fun i H hi q => ⟨xs, xs[i], q, List.getElem?_eq_getElem hi⟩
  yld := fun i H v H' _ q y => by
    obtain ⟨T, x, rfl, hT, rfl, f⟩ := y
    exact ⟨x, f xs q, pair_mk hT⟩
  stop := fun H q => ⟨xs, q, Nat.le_refl _⟩
theorem turnsZ {a b : Addr} {xs ys : List V} (hl : xs.length = ys.length) : Turns (Itz K a b) xs.length (fun H => SqL K H a xs ∧ SqL K H b ys) (fun i v H H' => ∃ x y, xs[i]? = some x ∧ ys[i]? = some y ∧ Pair x y v H H') where
  go := fun i H hi q => ⟨xs, ys, xs[i], ys[i]'(by omega), q.1, q.2, List.getElem?_eq_getElem hi, List.getElem?_eq_getElem (by omega)⟩
  yld := fun i H v H' _ q y => by
    obtain ⟨T, x, y, rfl, hT, rfl, f1, f2⟩ := y
    exact ⟨x, y, f1 xs q.1, f2 ys q.2, pair_mk hT⟩
  stop := fun H q => ⟨xs, ys, q.1, q.2, .inl (Nat.le_refl _)⟩
/-! ### a comprehension of flat values -/
structure LcF (H1 : Hp) (A : Addr) (f : Nat → Option V) (i : Nat) (H : Hp) : Prop where
  s : Same H1 H
  o : H A = some (.lst ((List.range i).filterMap f))
theorem lcF_len (f : Nat → Option V) (i : Nat) : ((List.range i).filterMap f).length ≤ i := by
  have := List.length_filterMap_le f (List.range i)
  rwa [List.length_range] at this
theorem LcF.keep {f : Nat → Option V} {i : Nat} {Hc H4 : Hp} {y : V} (h : LcF H1 A f i Hc) (n : H1 A = none) (s : Same Hc H4) (hf : f i = some y) (hi : i ≤ 100000) :
    ∃ acc, H4 A = some (.lst acc) ∧ acc.length < sizeLine ∧ LcF H1 A f (i + 1) (upd H4 A (.lst (acc ++ [y]))) := by
  refine ⟨_, s _ _ h.o, small (Nat.le_trans (lcF_len f i) hi), same_upd (h.s.trans s) n, ?_⟩
  rw [upd_same, List.range_succ, List.filterMap_append]
  simp [hf]
theorem lc_flat (f : Nat → Option V) (T : Turns J n ok item) (hok : ∀ H', Same H1 H' → ok H') (hn : H1 A = none)
    (hs : ∀ i x Hc H', i < n → LcF H1 A f i Hc → item i x Hc H' → g x (wipe σ vs) H' fun σ2 H2 => wipe σ2 vs = wipe σ vs ∧ tt σ2 H2 fun b H3 =>
      if b = true then te σ2 H3 fun y H4 => ∃ acc, H4 A = some (.lst acc) ∧ acc.length < sizeLine ∧ LcF H1 A f (i + 1) (upd H4 A (.lst (acc ++ [y]))) else LcF H1 A f (i + 1) H3)
    (hd : ∀ H, Same H1 H → H A = some (.lst ((List.range n).filterMap f)) → Qd H) :
    ∃ W : Nat → Nat → Hp → Prop, (∃ m, W 0 m (upd H1 A (.lst []))) ∧ ∀ i m H, W i m H →
      (J.stop i H ∧ Qd H) ∨ (J.go i H ∧ ∃ Nx : Hp → Prop, (∀ H', Nx H' → ∃ m', m' < m ∧ W (i + 1) m' H') ∧ ∀ x H', J.yld i H x H' → g x (wipe σ vs) H' fun σ2 H2 => wipe σ2 vs = wipe σ vs ∧ tt σ2 H2 fun b H3 =>
        if b = true then te σ2 H3 fun y H4 => ∃ acc, H4 A = some (.lst acc) ∧ acc.length < sizeLine ∧ Nx (upd H4 A (.lst (acc ++ [y]))) else Nx H3) :=
  lc_by T (LcF H1 A f) ⟨same_new (Same.refl H1) hn, upd_same⟩ (fun i H _ p => hok H p.s) hs (fun H p => hd H p.s p.o)
end

/-! ### data -/
section
variable {K : PySem.W.Frag} {H H' : Hp}
theorem seqT_same {a : Addr} {xs : List V} (e : Same H H') (h : SqT K H a xs) : SqT K H' a xs := by
  rcases h with (h | ⟨o, h⟩) | h
  · exact .inl (.inl (e _ _ h))
  · exact .inl (.inr ⟨o, e _ _ h⟩)
  · exact .inr h
mutual
theorem dp_same (e : Same H H') : ∀ {v : V} {d : PyData}, Dp K H v d → Dp K H' v d
  | _, _, .non => .non
  | _, _, .bl b => .bl b
  | _, _, .int i => .int i
  | _, _, .str x => .str x
  | _, _, .lst h a => .lst (e.seq h) (dpAll_same e a)
  | _, _, .tup h a => .tup (seqT_same e h) (dpAll_same e a)
theorem dpAll_same (e : Same H H') : ∀ {vs : List V} {ds : List PyData}, DpAll K H vs ds → DpAll K H' vs ds
  | _, _, .nil => .nil
  | _, _, .cons a b => .cons (dp_same e a) (dpAll_same e b)
end
theorem dpAll_len : ∀ {vs : List V} {ds : List PyData}, DpAll K H vs ds → vs.length = ds.length
  | _, _, .nil => rfl
  | _, _, .cons _ b => congrArg Nat.succ (dpAll_len b)
theorem dpAll_get : ∀ {vs : List V} {ds : List PyData} {i : Nat} {v : V}, DpAll K H vs ds → vs[i]? = some v → ∃ d, ds[i]? = some d ∧ Dp K H v d
  | _, _, i, _, .nil, e => by simp at e
  | _, _, 0, _, .cons a _, e => by simp at e; subst e; exact ⟨_, rfl, a⟩
  | _, _, i + 1, _, .cons _ b, e => by
    obtain ⟨d, h1, h2⟩ := dpAll_get (i := i) b (by simpa using e)
    exact ⟨d, by simpa using h1, h2⟩
theorem dpAll_snoc : ∀ {vs : List V} {ds : List PyData} {v : V} {d : PyData}, DpAll K H vs ds → Dp K H v d → DpAll K H (vs ++ [v]) (ds ++ [d])
  | _, _, _, _, .nil, h => .cons h .nil
  | _, _, _, _, .cons a b, h => .cons a (dpAll_snoc b h)
theorem dp_int {v : V} {i : Int} (h : Dp K H v (.int i)) : v = .int i := by cases h; rfl
theorem dp_lst {v : V} {ds : List PyData} (h : Dp K H v (.list ds)) : ∃ a xs, v = .ref a ∧ SqL K H a xs ∧ DpAll K H xs ds := by cases h with | lst a b => exact ⟨_, _, rfl, a, b⟩
theorem dp_tup {v : V} {ds : List PyData} (h : Dp K H v (.tuple ds)) : ∃ a xs, v = .ref a ∧ SqT K H a xs ∧ DpAll K H xs ds := by cases h with | tup a b => exact ⟨_, _, rfl, a, b⟩
theorem ints_dpAll : ∀ (ns : List Int), DpAll K H (ns.map V.int) (ns.map .int)
  | [] => .nil
  | n :: ns => .cons (.int n) (ints_dpAll ns)
theorem bls_dpAll : ∀ (ns : List Bool), DpAll K H (ns.map V.bl) (ns.map .bool)
  | [] => .nil
  | n :: ns => .cons (.bl n) (bls_dpAll ns)
theorem dp_pair {v : V} {i j : Int} (h : Dp K H v (.tuple [.int i, .int j])) : ∃ a, v = .ref a ∧ SqT K H a [.int i, .int j] := by
  obtain ⟨a, xs, rfl, h1, h2⟩ := dp_tup h
  cases h2 with
  | cons p h3 => cases h3 with
    | cons q h4 =>
      cases h4
      cases dp_int p; cases dp_int q
      exact ⟨a, rfl, h1⟩
theorem pair_dp {a : Addr} {i j : Int} (h : SqT K H a [.int i, .int j]) : Dp K H (.ref a) (.tuple [.int i, .int j]) := .tup h (.cons (.int i) (.cons (.int j) .nil))
/-- the heap without what stands at A -/
def del (H : Hp) (A : Addr) : Hp := fun b => if b = A then none else H b
theorem del_same {A : Addr} : Same (del H A) H := fun b o e => by
  unfold del at e
  by_cases c : b = A
  · rw [if_pos c] at e; cases e
  · rw [if_neg c] at e; exact e
theorem del_at {A b : Addr} {o : HO} (h : H b = some o) (n : b ≠ A) : del H A b = some o := by unfold del; rw [if_neg n]; exact h
theorem del_upd {A : Addr} {o : HO} : del (upd H A o) A = del H A := by
  funext b
  unfold del
  by_cases c : b = A
  · rw [if_pos c, if_pos c]
  · rw [if_neg c, if_neg c, upd_ne c]
theorem del_mono {A : Addr} (e : Same H H') : Same (del H A) (del H' A) := fun b o h => by
  unfold del at h ⊢
  by_cases c : b = A
  · rw [if_pos c] at h; cases h
  · rw [if_neg c] at h ⊢; exact e b o h
end

/-! ### a comprehension of data -/
structure LcD (K : PySem.W.Frag) (H1 : Hp) (A : Addr) (f : Nat → Option PyData) (i : Nat) (H : Hp) : Prop where
  s : Same H1 H
  ex : ∃ acc, H A = some (.lst acc) ∧ DpAll K (del H A) acc ((List.range i).filterMap f)
section
variable {K : PySem.W.Frag} {J : It} {n : Nat} {ok : Hp → Prop} {item : Nat → V → Hp → Hp → Prop} {g : TG} {σ : St} {tt : TT} {te : TE} {vs : List Nat} {H1 : Hp} {A : Addr} {Qd : Hp → Prop}
theorem lcD_len (f : Nat → Option PyData) (i : Nat) : ((List.range i).filterMap f).length ≤ i := by
  have := List.length_filterMap_le f (List.range i)
  rwa [List.length_range] at this
theorem LcD.keep {f : Nat → Option PyData} {i : Nat} {Hc H4 : Hp} {y : V} {d : PyData} (h : LcD K H1 A f i Hc) (n : H1 A = none) (s : Same Hc H4) (hf : f i = some d) (hy : Dp K (del H4 A) y d) (hi : i ≤ 100000) :
    ∃ acc, H4 A = some (.lst acc) ∧ acc.length < sizeLine ∧ LcD K H1 A f (i + 1) (upd H4 A (.lst (acc ++ [y]))) := by
  obtain ⟨acc, ho, ha⟩ := h.ex
  refine ⟨acc, s _ _ ho, small (by rw [dpAll_len ha]; exact Nat.le_trans (lcD_len f i) hi), same_upd (h.s.trans s) n, acc ++ [y], upd_same, ?_⟩
  rw [del_upd, List.range_succ, List.filterMap_append]
  have e : List.filterMap f [i] = [d] := by simp [hf]
  rw [e]
  exact dpAll_snoc (dpAll_same (del_mono s) ha) hy
theorem lc_data (f : Nat → Option PyData) (T : Turns J n ok item) (hok : ∀ H', Same H1 H' → ok H') (hn : H1 A = none)
    (hs : ∀ i x Hc H', i < n → LcD K H1 A f i Hc → item i x Hc H' → g x (wipe σ vs) H' fun σ2 H2 => wipe σ2 vs = wipe σ vs ∧ tt σ2 H2 fun b H3 =>
      if b = true then te σ2 H3 fun y H4 => ∃ acc, H4 A = some (.lst acc) ∧ acc.length < sizeLine ∧ LcD K H1 A f (i + 1) (upd H4 A (.lst (acc ++ [y]))) else LcD K H1 A f (i + 1) H3)
    (hd : ∀ H acc, Same H1 H → H A = some (.lst acc) → DpAll K (del H A) acc ((List.range n).filterMap f) → Qd H) :
    ∃ W : Nat → Nat → Hp → Prop, (∃ m, W 0 m (upd H1 A (.lst []))) ∧ ∀ i m H, W i m H →
      (J.stop i H ∧ Qd H) ∨ (J.go i H ∧ ∃ Nx : Hp → Prop, (∀ H', Nx H' → ∃ m', m' < m ∧ W (i + 1) m' H') ∧ ∀ x H', J.yld i H x H' → g x (wipe σ vs) H' fun σ2 H2 => wipe σ2 vs = wipe σ vs ∧ tt σ2 H2 fun b H3 =>
        if b = true then te σ2 H3 fun y H4 => ∃ acc, H4 A = some (.lst acc) ∧ acc.length < sizeLine ∧ Nx (upd H4 A (.lst (acc ++ [y]))) else Nx H3) :=
  lc_by T (LcD K H1 A f) ⟨same_new (Same.refl H1) hn, [], upd_same, .nil⟩ (fun i H _ p => hok H p.s) hs (fun H p => p.ex.elim fun acc e => hd H acc p.s e.1 e.2)
end

/-! ### further steps -/
section
variable {K : PySem.W.Frag} {te : TE} {a1 : TA} {σ : St} {H : Hp} {R : It → Hp → Prop} {Qs : St → Hp → Prop} {g : TG} {u : TGs} {v : V} {r xs : List V} {n : Nat} {a : Addr}
theorem x_iEnum (h : a1 σ H fun vs H1 => ∃ a xs, vs = [.ref a] ∧ SqL K H1 a xs ∧ R (Ite K a) H1) : iEnum K a1 σ H R := h
theorem x_iZip (h : a1 σ H fun vs H1 => ∃ a b xs ys, vs = [.ref a, .ref b] ∧ SqL K H1 a xs ∧ SqL K H1 b ys ∧ R (Itz K a b) H1) : iZip K a1 σ H R := h
theorem x_iZipA (h : a1 σ H fun vs H1 => ∃ a b xs ys, vs = [.ref a, .ref b] ∧ ((SqL K H1 a xs ∧ SqL K H1 b ys ∧ R (Itz K a b) H1) ∨ (SqT K H1 a xs ∧ SqT K H1 b ys ∧ R (RZ.ItzT K a b) H1))) : RZ.iZipA K a1 σ H R := h
theorem x_iTup (h : te σ H fun x H1 => ∃ a, x = .ref a ∧ (∃ xs, SqT K H1 a xs) ∧ R (Itt K a) H1) : iTup K te σ H R := h
theorem x_gtup (e : SqT K H a xs) (l : xs.length = n) (h : u xs σ H Qs) : gTup K n u (.ref a) σ H Qs := ⟨a, xs, rfl, e, l, h⟩
theorem x_gcons (h : g v σ H fun σ' H' => u r σ' H' Qs) : gCons g u (v :: r) σ H Qs := ⟨v, r, rfl, h⟩
theorem x_gnil (h : Qs σ H) : gNil [] σ H Qs := ⟨rfl, h⟩
theorem x_gsub {to ti : TE} {t : TSet} (h : to σ H fun o H1 => ti σ H1 fun i H2 => t o i v H2 fun H3 => Qs σ H3) : gSub to ti t v σ H Qs := h
theorem x_setL {p : Addr} {xs : List V} {k : Int} {Qh : Hp → Prop} (e : H p = some (.lst xs)) (h0 : 0 ≤ k) (h1 : k < xs.length) (h : Qh (upd H p (.lst (xs.set k.toNat v)))) : rSetL (.ref p) (.int k) v H Qh := by
  refine ⟨p, xs, k, k.toNat, rfl, rfl, e, ?_, h⟩
  unfold ixN
  rw [if_pos h0, if_pos h1]
theorem x_yes {Qb : Bool → Hp → Prop} (h : Qb true H) : tYes σ H Qb := h
theorem x_lc {wi : TI} {tt : TT} {te : TE} {vs : List Nat} {Q : VK} (h : wi σ H fun J H1 => ∀ D, H1 D = none → ∃ W : Nat → Nat → Hp → Prop, (∃ m, W 0 m (upd H1 D (.lst []))) ∧ ∀ i m H, W i m H →
  (J.stop i H ∧ Q (.ref D) H) ∨ (J.go i H ∧ ∃ Nx : Hp → Prop, (∀ H', Nx H' → ∃ m', m' < m ∧ W (i + 1) m' H') ∧ ∀ x H', J.yld i H x H' → g x (wipe σ vs) H' fun σ2 H2 => wipe σ2 vs = wipe σ vs ∧ tt σ2 H2 fun b H3 =>
    if b = true then te σ2 H3 fun y H4 => ∃ acc, H4 D = some (.lst acc) ∧ acc.length < sizeLine ∧ Nx (upd H4 D (.lst (acc ++ [y]))) else Nx H3)) : tLc wi g tt te vs σ H Q := h
theorem x_wipe {P : Prop} {σ' : St} (e : σ' = σ) (h : P) : σ' = σ ∧ P := ⟨e, h⟩
end
/-! ### slices, defs that are not called, windows -/
section
variable {K : PySem.W.Frag} {te : TE} {tl th : TO} {σ : St} {H : Hp} {Q : VK} {v : V}
theorem x_sl {r : V → Option Int → Option Int → Hp → VK → Prop} (h : te σ H fun x H1 => tl σ H1 fun l H2 => th σ H2 fun u H3 => r x l u H3 Q) : tSl r te tl th σ H Q := h
theorem x_nopart {Qo : Option Int → Hp → Prop} (h : Qo none H) : tNoPart σ H Qo := h
theorem x_part {Qo : Option Int → Hp → Prop} (h : te σ H fun x H1 => ∃ i, x = .int i ∧ Qo (some i) H1) : tPart te σ H Qo := h
theorem x_isI {i : Int} {P : Int → Prop} (h : P i) : ∃ j, V.int i = .int j ∧ P j := ⟨i, rfl, h⟩
theorem al_slL {a : Addr} {xs : List V} {lo hi : Option Int} (e : SqL K H a xs) (h : ∀ p H', H p = none → Same H H' → H' p = some (.lst (cutV xs lo hi)) → Q (.ref p) H') : rSlL K (.ref a) lo hi H Q := ⟨a, xs, rfl, e, fun p n => h p _ n (same_new (Same.refl H) n) upd_same⟩
theorem cutV_from {xs : List V} {i : Nat} : cutV xs (some (i : Int)) none = xs.drop i := by
  unfold cutV HT.sIx
  have h : ¬ ((i : Int) < 0) := by omega
  simp only [if_neg h, Int.toNat_natCast]
  by_cases c : i ≤ xs.length
  · rw [Nat.min_eq_left c, List.take_of_length_le]
    rw [List.length_drop]; exact Nat.le_refl _
  · have c' : xs.length ≤ i := by omega
    rw [Nat.min_eq_right c', List.drop_of_length_le c', List.drop_of_length_le (Nat.le_refl _)]
    simp
theorem al_from {a : Addr} {xs : List Int} {i : Nat} {j : Int} (e : SqL K H a (xs.map V.int)) (hj : j = i) (h : ∀ p H', H p = none → Same H H' → H' p = some (.lst ((xs.drop i).map V.int)) → Q (.ref p) H') : rSlL K (.ref a) (some j) none H Q :=
  al_slL e fun p H' n s o => h p H' n s (by subst hj; rw [cutV_from] at o; rw [List.map_drop]; exact o)
end
/-- a list of windows, as data -/
def dPair (w : Int × Int) : PyData := .tuple [.int w.1, .int w.2]
def dWin (ws : List (Int × Int)) : PyData := .list (ws.map dPair)
section
variable {K : PySem.W.Frag} {H H' : Hp}
theorem win_at {v : V} {ws : List (Int × Int)} (h : Dp K H v (dWin ws)) : ∃ (a : Addr) (xs : List V), v = V.ref a ∧ SqL K H a xs ∧ xs.length = ws.length ∧ ∀ (i : Nat) (x : V), xs[i]? = some x → ∃ (w : Int × Int) (t : Addr), ws[i]? = some w ∧ x = V.ref t ∧ SqT K H t [.int w.1, .int w.2] := by
  obtain ⟨a, xs, rfl, h1, h2⟩ := dp_lst h
  refine ⟨a, xs, rfl, h1, by rw [dpAll_len h2, List.length_map], fun i x e => ?_⟩
  obtain ⟨d, e1, e2⟩ := dpAll_get h2 e
  rw [List.getElem?_map] at e1
  cases hw : ws[i]? with
  | none => rw [hw] at e1; cases e1
  | some w =>
    rw [hw] at e1
    cases e1
    obtain ⟨t, rfl, ht⟩ := dp_pair e2
    exact ⟨w, t, rfl, rfl, ht⟩
end
/-! ### list(range(..)), sorted, lists of ints as data -/
section
variable {K : PySem.W.Frag} {te ta : TE} {σ : St} {H : Hp} {Q : VK} {v : V}
def AlRg (Q : VK) (a b : Int) (H : Hp) : Prop := RgOk a b ∧ ∀ q, H q = none → Q (.ref q) (upd H q (.lst (rgV a b)))
theorem x_lstRg {tr : St → Hp → (Int → Int → Hp → Prop) → Prop} (h : tr σ H (AlRg Q)) : tLstRg tr σ H Q := h
theorem x_rg1 {R : Int → Int → Hp → Prop} (h : ta σ H fun x H1 => ∃ n, x = .int n ∧ R 0 n H1) : tRg1 ta σ H R := h
theorem rgV_nat (n : Nat) : rgV 0 (n : Int) = (List.range n).map fun (i : Nat) => V.int (i : Int) := by
  unfold rgV
  rw [show ((n : Int) - 0).toNat = n by omega]
  apply List.map_congr_left
  intro i _
  rw [show (0 : Int) + ((i : Nat) : Int) = (i : Int) by omega]
theorem al_rg {n : Nat} {j : Int} (hj : j = n) (hn : n ≤ 100000) (h : ∀ p H', H p = none → Same H H' → H' p = some (.lst ((List.range n).map fun (i : Nat) => V.int (i : Int))) → Q (.ref p) H') : AlRg Q 0 j H := by
  subst hj
  refine ⟨RgOk.of_le (by decide) (by omega) (by decide) (by omega), fun p np => h p _ np (same_new (Same.refl H) np) ?_⟩
  rw [upd_same, rgV_nat]
theorem al_sorted {a : Addr} {ns : List Int} (e : SqL K H a (ns.map V.int)) (h : ∀ (p : Addr) (ns' : List Int) (H' : Hp), H p = none → Same H H' → ns'.Perm ns → ns'.Pairwise (· ≤ ·) → H' p = some (.lst (ns'.map V.int)) → Q (.ref p) H') : rSortedI K [.ref a] H Q :=
  ⟨a, ns, rfl, e, fun ns' p pm pw np => h p ns' _ np (same_new (Same.refl H) np) pm pw upd_same⟩
end
def dInts (l : List Int) : PyData := .list (l.map .int)
theorem lay_ints : ∀ l : List Int, PyData.canLayAll0 (l.map .int) = true
  | [] => rfl
  | n :: l => by
    show (PyData.canLay0 (.int n) && PyData.canLayAll0 (l.map .int)) = true
    rw [lay_ints l]; rfl
theorem dep_ints : ∀ l : List Int, PyData.depthAll (l.map .int) = 0
  | [] => rfl
  | n :: l => by
    show max (PyData.depth (.int n)) (PyData.depthAll (l.map .int)) = 0
    rw [dep_ints l]; rfl
theorem shaped_ints (l : List Int) : SeqAt.shaped (dInts l) = true := by
  have h1 : (dInts l).canLay0 = true := lay_ints l
  have h2 : (dInts l).depth ≤ 64 := by
    show PyData.depthAll (l.map .int) + 1 ≤ 64
    rw [dep_ints]; decide
  unfold SeqAt.shaped
  rw [h1, decide_eq_true h2]; rfl
theorem eqvAll_ints : ∀ a b : List Int, PyData.eqvAll (a.map .int) (b.map .int) = decide (a = b)
  | [], [] => rfl
  | [], _ :: _ => rfl
  | _ :: _, [] => rfl
  | x :: a, y :: b => by
    show (PyData.eqv (.int x) (.int y) && PyData.eqvAll (a.map .int) (b.map .int)) = _
    rw [eqvAll_ints a b]
    by_cases c : x = y
    · by_cases d : a = b
      · simp [PyData.eqv, c, d]
      · simp [PyData.eqv, c, d]
    · simp [PyData.eqv, c]
theorem eqv_ints (a b : List Int) : PyData.eqv (dInts a) (dInts b) = decide (a = b) := eqvAll_ints a b
theorem dp_ints {K : PySem.W.Frag} {H : Hp} {a : Addr} {ns : List Int} (h : SqL K H a (ns.map V.int)) : Dp K H (.ref a) (dInts ns) := .lst h (ints_dpAll ns)
/-! own exceptions made without arguments, raised and caught -/
section
variable {X : Cx} {x : Str} {p pos pos' : Pos}
/-- what the top says of an own exception class without __init__ -/
structure Xc (K : PySem.W.Frag) (mg : Str → Option Value) (x : Str) : Prop where
  q : PySem.W.excIn K (He.ga K x) He.veBase "ValueError.__new__" = true
  g : mg x = some (.ref (He.ga K x))
  k : PySem.W.keepIn K (.ref (He.ga K x)) = true
  s : PySem.W.subIn K (.ref (He.ga K x)) (.type "BaseException") = some true
  t : PySem.W.typeIn K (.ref (He.ga K x)) = some (.type "type")
theorem pmk_own0 (T : Xc X.K X.mg x) (hg : Gl X x) (hdb : (x == ("__debug__" : Str)) = false := by decide) : PMk X (.Call (.Name x p) [] [] pos) (fun _ H Q => Q (.ref (He.ga X.K x)) none H) := by
  intro pins s σ H Q I h
  refine wpAny_Call_Name_kw (ld_glob I hg T.g ?_ hdb)
  refine PySem.W.callWith_K0 I.kIn T.k ?_
  show wpAny _ _ (call (.ref (He.ga X.K x)) []) _ _ _
  obtain ⟨bm, N, nm, qn, bs, hdct, sn, sub, ab, col, dd, k0, k1, k2, k3, k5, mN, hC, hN, hni, T'⟩ := exc_obj I.kIn T.q
  refine PySem.wpAny_call_exc_subT PySem.F.excBase_ValueError T' hC hN hni (fun h' e hm => ?_) (Nat.zero_le _)
  exact mk_of I hm (raises_own T.s T.t) h (I.hok.gone hm.new)
abbrev wE (E : XK) : WX := fun cls d _ H => E cls d H
def tRaise (C : Addr) (W : WX) : TS := fun _ σ H => W (.ref C) none σ H
theorem ps_raise0 {W : WX} (hc : X.calm = true) (tk : Takes X W) (T : Xc X.K X.mg x) (hg : Gl X x) (hdb : (x == ("__debug__" : Str)) = false := by decide) :
    PS X (.Raise (some (.Call (.Name x p) [] [] pos)) none pos') (tRaise (He.ga X.K x) W) := ps_raise hc tk (pmk_own0 T hg hdb)
theorem pass_tk {E : XK} (tk : Takes X (wE E)) : Passes (L2.CX X.prog X.w) X E := fun pins σ H s e s' I c => passAt tk σ pins H s e s' I c
def tTryAs (K : PySem.W.Frag) (c : Value) (i : Nat) (ts : Addr → Value → Option Addr → TS) (Wout : WX) (tb : WX → TS) : TS := fun D σ H => tb (wAs K c i ts Wout D) D σ H
end
section
variable {X : Cx} {CX : CXT} {k j : Nat} {sp : Sp} {E : St → XK} {x : Str} {p pos : Pos} {e : Expr} {es : List Expr} {t : TA}
theorem x_callS {σ : St} {H : Hp} {Q : VK} (h : t σ H fun vs H1 => sp vs H1 Q (E σ)) : tCallS sp E t σ H Q := h
theorem x_tryAs {K : PySem.W.Frag} {c : Value} {i : Nat} {ts : Addr → Value → Option Addr → TS} {Wout : WX} {tb : WX → TS} {D : Ends} {σ : St} {H : Hp} (h : tb (wAs K c i ts Wout D) D σ H) : tTryAs K c i ts Wout tb D σ H := h
end
/-- what is asked of the own exception classes cs (all under SusuError alone) -/
def excCB (K : PySem.W.Frag) (D : Addr) : Bool :=
  decide (PySem.W.findIn K (.ref D) "__getattribute__" = some (some (.builtin "BaseException.__getattribute__"))) && (decide (PySem.W.findIn K (.ref D) "__getattr__" = some none) &&
  (decide (PySem.W.subIn K (.ref D) (.type "BaseException") = some true) && (PySem.W.hasDictIn K D && (decide (PySem.W.findIn K (.ref D) "__class__" = some (some (.builtin "object.__class__"))) &&
  (decide (PySem.W.specialIn K (.builtin "object.__class__") "__get__" = some (some (.builtin "getset_descriptor.__get__"))) && (decide (PySem.W.takesIn K (.builtin "object.__class__") = some true) && decide (PySem.W.mroIn K D (.type "object") = some true)))))))
theorem excCB_ok {K : PySem.W.Frag} {D : Addr} (h : excCB K D = true) : ExcC K D := by
  simp only [excCB, Bool.and_eq_true, decide_eq_true_eq] at h
  obtain ⟨h1, h2, h3, h4, h5, h6, h7, h8⟩ := h
  exact ⟨h1, h2, h3, h4, h5, h6, h7, h8⟩
def xfB (K : PySem.W.Frag) (cs : List Str) : Bool := cs.all fun x => excCB K (He.ga K x) && (decide (PySem.W.exmOne K (.ref (He.ga K x)) (.ref (He.ga K "SusuError")) = some true) && (decide (PySem.W.kitOne K (.ref (He.ga K x)) (.type "ValueError") = some true) &&
  cs.all fun y => decide (PySem.W.kitOne K (.ref (He.ga K x)) (.ref (He.ga K y)) = some (x == y))))
structure Xf (K : PySem.W.Frag) (cs : List Str) : Prop where
  c : ∀ x ∈ cs, ExcC K (He.ga K x)
  m : ∀ x ∈ cs, PySem.W.exmOne K (.ref (He.ga K x)) (.ref (He.ga K "SusuError")) = some true
  v : ∀ x ∈ cs, PySem.W.kitOne K (.ref (He.ga K x)) (.type "ValueError") = some true
  k : ∀ x ∈ cs, ∀ y ∈ cs, PySem.W.kitOne K (.ref (He.ga K x)) (.ref (He.ga K y)) = some (x == y)
theorem xf_of {K : PySem.W.Frag} {cs : List Str} (h : xfB K cs = true) : Xf K cs := by
  simp only [xfB, List.all_eq_true, Bool.and_eq_true, decide_eq_true_eq] at h
  exact ⟨fun x hx => excCB_ok (h x hx).1, fun x hx => (h x hx).2.1, fun x hx => (h x hx).2.2.1, fun x hx y hy => (h x hx).2.2.2 y hy⟩
theorem x_augS {to ti te : TE} {tget : V → V → Hp → VK → Prop} {tip : TIp} {tset : TSet} {D : Ends} {σ : St} {H : Hp} (h : to σ H fun o H1 => ti σ H1 fun i H2 => tget o i H2 fun x H3 => te σ H3 fun y H4 => tip x y H4 fun z H5 => tset o i z H5 fun H6 => D.nx σ H6) : tAugS to ti te tget tip tset D σ H := h
theorem x_aug {te : TE} {ti : TIp} {D : Ends} {σ : St} {H : Hp} {i : Nat} {v : V} (e : σ[i]? = some (some v)) (h : te σ H fun y H1 => ti v y H1 fun z H2 => D.nx (σ.set i (some z)) H2) : tAug i te ti D σ H := ⟨v, e, h⟩
theorem x_ipI {f : Int → Int → Int} {i j : Int} {H : Hp} {Q : VK} (h : Q (.int (f i j)) H) : ipI f (.int i) (.int j) H Q := ⟨i, j, rfl, rfl, h⟩
end Su
namespace Su
open PySem L2
local macro_rules | `(tactic| walk_at "side") => `(tactic| first | assumption | (show (0 : Int) < _; omega) | (show (0 : Int) ≤ _; omega) | (show (0 : Int) < _; split <;> omega) | (show _ ∨ _; omega) | (show _ ∧ _; omega) | exact ⟨by decide, by decide, by decide⟩ | exact ⟨by first | assumption | omega, by first | assumption | omega⟩)
local macro_rules | `(tactic| walk_at "xs") => `(tactic| repeat walk_at "x")
local macro_rules | `(tactic| walk_at "if") => `(tactic| first | with_reducible refine Su.x_iteD (fun c => ?_) (fun c => ?_) | with_reducible refine Su.x_iteN (fun c => ?_) (fun c => ?_) | with_reducible refine Su.x_ite (fun c => ?_) (fun c => ?_))

/-! what K says of NoOrder -/
abbrev nxC (K : PySem.W.Frag) : Addr := He.ga K "NoOrder"
structure NxC (K : PySem.W.Frag) : Prop where
  x : OexC K (nxC K)
  i : PySem.W.findIn K (.ref (nxC K)) "__init__" = some (some (.ref (He.fAd K ("NoOrder", some "__init__"))))
  t : PySem.W.typeIn K (.ref (He.fAd K ("NoOrder", some "__init__"))) = some (.type "function")
  f1 : PySem.W.findIn K (.ref (nxC K)) "early" = some none
  f2 : PySem.W.findIn K (.ref (nxC K)) "late" = some none
  f3 : PySem.W.findIn K (.ref (nxC K)) "crowd" = some none
  fx : XfC K (nxC K)
def nxCls (K : PySem.W.Frag) : Bool := match K.lookup (nxC K) with
  | some ⟨.type "type", _, .cls cd, sl⟩ => (match cd.mro, sl.toList with
    | .ref C' :: bm, [_, _, _, _, some (.builtin n), _] => C' == nxC K && (n == "ValueError.__new__" && (!cd.hasDel && (cd.hasDict && PySem.HandSPX.refsVE bm)))
    | _, _ => false)
  | _ => false
def nxB (K : PySem.W.Frag) : Bool := nxCls K && (decide (PySem.W.findIn K (.ref (nxC K)) "__setattr__" = some (some (.builtin "object.__setattr__"))) && (decide (PySem.W.typeIn K (.ref (nxC K)) = some (.type "type")) && (PySem.W.keepIn K (.ref (nxC K)) &&
  (decide (PySem.W.findIn K (.ref (nxC K)) "__init__" = some (some (.ref (He.fAd K ("NoOrder", some "__init__"))))) && (decide (PySem.W.typeIn K (.ref (He.fAd K ("NoOrder", some "__init__"))) = some (.type "function")) && (decide (PySem.W.findIn K (.ref (nxC K)) "early" = some none) &&
  (decide (PySem.W.findIn K (.ref (nxC K)) "late" = some none) && (decide (PySem.W.findIn K (.ref (nxC K)) "crowd" = some none) && L2.xfB K (nxC K)))))))))
theorem nxCls_ok {K : PySem.W.Frag} (h : nxCls K = true) : ∃ nm q N bs bm sn sub ab col dd k0 k1 k2 k3 k5, K.lookup (nxC K) = some (excClassObj nm q (nxC K) N bs bm true sn sub ab col dd k0 k1 k2 k3 k5 "ValueError.__new__") ∧ PySem.HandSPX.refsVE bm = true := by
  unfold nxCls at h
  split at h
  · rename_i dd cd sl ho
    split at h
    · rename_i C' bm k0 k1 k2 k3 n k5 hm hs
      simp only [Bool.and_eq_true, beq_iff_eq, Bool.not_eq_true'] at h
      obtain ⟨h1, h2, h3, h4, h5⟩ := h
      subst h1 h2
      obtain ⟨nm, bs, mro, ns, qn, hd, sn, sb, ab, col, del⟩ := cd
      dsimp only at hm h3 h4
      subst hm h3 h4
      refine ⟨nm, qn, ns, bs, bm, sn, sb, ab, col, dd, k0, k1, k2, k3, k5, ?_, h5⟩
      rw [ho]
      have : sl = #[k0, k1, k2, k3, some (.builtin "ValueError.__new__"), k5] := by
        apply Array.toList_inj.mp
        rw [hs]
      rw [this]
    · cases h
  · cases h
theorem nx_of {K : PySem.W.Frag} (h : nxB K = true) : NxC K := by
  unfold nxB at h
  simp only [Bool.and_eq_true, decide_eq_true_eq] at h
  obtain ⟨h1, h2, h3, h4, h5, h6, h7, h8, h9, h10⟩ := h
  have fx := L2.xfB_ok h10
  exact ⟨⟨nxCls_ok h1, h2, fx.exC, h3, h4⟩, h5, h6, h7, h8, h9, fx⟩
/-- the classes cs, NoOrder among them, in except clauses of NoOrder and of all -/
def nmB (K : PySem.W.Frag) (cs : List Str) : Bool := cs.all fun x => decide (PySem.W.exmOne K (.ref (He.ga K x)) (.ref (nxC K)) = some (x == "NoOrder")) && decide (PySem.W.kitOne K (.ref (He.ga K x)) (.ref (He.ga K "SusuError")) = some true)
structure NmX (K : PySem.W.Frag) (cs : List Str) : Prop where
  m : ∀ x ∈ cs, PySem.W.exmOne K (.ref (He.ga K x)) (.ref (nxC K)) = some (x == "NoOrder")
  s : ∀ x ∈ cs, PySem.W.kitOne K (.ref (He.ga K x)) (.ref (He.ga K "SusuError")) = some true
theorem nm_of {K : PySem.W.Frag} {cs : List Str} (h : nmB K cs = true) : NmX K cs := by
  simp only [nmB, List.all_eq_true, Bool.and_eq_true, decide_eq_true_eq] at h
  exact ⟨fun x hx => (h x hx).1, fun x hx => (h x hx).2⟩

end Su
namespace Su
open PySem L2
def top (i : Nat) : Stmt := PySem.Challenge.pw_susu_k21_openings_refused.main.body.getD i (.Pass ⟨0, 0, 0, 0⟩)
abbrev s_NoOrder_init : Stmt := inClass (top 6) 0
abbrev s_check_opening : Stmt := top 17
abbrev s_first_covered : Stmt := top 8
abbrev s_within : Stmt := top 9
abbrev s_bar_of : Stmt := top 11
abbrev s_next_window : Stmt := top 10
abbrev s_order_or_bar : Stmt := top 12
abbrev s_Circle_init : Stmt := inClass (top 18) 0
abbrev s_Circle_queue : Stmt := inClass (top 18) 3
abbrev s_law_bars : Stmt := top 24
abbrev s_law_draws : Stmt := top 20
abbrev s_law_early : Stmt := top 25
abbrev s_law_good : Stmt := top 27
abbrev s_law_keeps : Stmt := top 23
abbrev s_law_spoil : Stmt := top 26
abbrev s_law_whole : Stmt := top 22
abbrev s_law_wholes : Stmt := top 21
abbrev s_law : Stmt := top 28
def dd_NoOrder_init : He.DefD := ⟨("NoOrder", some "__init__"), "__init__", "NoOrder.__init__", defArgs s_NoOrder_init, defBody s_NoOrder_init, defScope s_NoOrder_init, [], []⟩
def dd_check_opening : He.DefD := ⟨("check_opening", none), "check_opening", "check_opening", defArgs s_check_opening, defBody s_check_opening, defScope s_check_opening, [], []⟩
def dd_first_covered : He.DefD := ⟨("first_covered", none), "first_covered", "first_covered", defArgs s_first_covered, defBody s_first_covered, defScope s_first_covered, [], []⟩
def dd_within : He.DefD := ⟨("within", none), "within", "within", defArgs s_within, defBody s_within, defScope s_within, [], []⟩
def dd_bar_of : He.DefD := ⟨("bar_of", none), "bar_of", "bar_of", defArgs s_bar_of, defBody s_bar_of, defScope s_bar_of, [], []⟩
def dd_next_window : He.DefD := ⟨("next_window", none), "next_window", "next_window", defArgs s_next_window, defBody s_next_window, defScope s_next_window, [], []⟩
def dd_order_or_bar : He.DefD := ⟨("order_or_bar", none), "order_or_bar", "order_or_bar", defArgs s_order_or_bar, defBody s_order_or_bar, defScope s_order_or_bar, [], []⟩
def dd_Circle_init : He.DefD := ⟨("Circle", some "__init__"), "__init__", "Circle.__init__", defArgs s_Circle_init, defBody s_Circle_init, defScope s_Circle_init, [.bl false], []⟩
def dd_Circle_queue : He.DefD := ⟨("Circle", some "queue"), "queue", "Circle.queue", defArgs s_Circle_queue, defBody s_Circle_queue, defScope s_Circle_queue, [], []⟩
def dd_law_bars : He.DefD := ⟨("_law_bars", none), "_law_bars", "_law_bars", defArgs s_law_bars, defBody s_law_bars, defScope s_law_bars, [], []⟩
def dd_law_draws : He.DefD := ⟨("_law_draws", none), "_law_draws", "_law_draws", defArgs s_law_draws, defBody s_law_draws, defScope s_law_draws, [], []⟩
def dd_law_early : He.DefD := ⟨("_law_early", none), "_law_early", "_law_early", defArgs s_law_early, defBody s_law_early, defScope s_law_early, [], []⟩
def dd_law_good : He.DefD := ⟨("_law_good", none), "_law_good", "_law_good", defArgs s_law_good, defBody s_law_good, defScope s_law_good, [], []⟩
def dd_law_keeps : He.DefD := ⟨("_law_keeps", none), "_law_keeps", "_law_keeps", defArgs s_law_keeps, defBody s_law_keeps, defScope s_law_keeps, [], []⟩
def dd_law_spoil : He.DefD := ⟨("_law_spoil", none), "_law_spoil", "_law_spoil", defArgs s_law_spoil, defBody s_law_spoil, defScope s_law_spoil, [], []⟩
def dd_law_whole : He.DefD := ⟨("_law_whole", none), "_law_whole", "_law_whole", defArgs s_law_whole, defBody s_law_whole, defScope s_law_whole, [], []⟩
def dd_law_wholes : He.DefD := ⟨("_law_wholes", none), "_law_wholes", "_law_wholes", defArgs s_law_wholes, defBody s_law_wholes, defScope s_law_wholes, [], []⟩
def dd_law : He.DefD := ⟨("law", none), "law", "law", defArgs s_law, defBody s_law, defScope s_law, [], []⟩
def fns : List He.DefD := dd_NoOrder_init :: dd_check_opening :: dd_first_covered :: dd_within :: dd_bar_of :: dd_next_window :: dd_order_or_bar :: dd_Circle_init :: dd_Circle_queue :: dd_law_bars :: dd_law_draws :: dd_law_early :: dd_law_good :: dd_law_keeps :: dd_law_spoil :: dd_law_whole :: dd_law_wholes :: dd_law :: []
abbrev R : PySem.W.OpenRow := PySem.W.OpenLaw.row PySem.Challenge.rw_susu_k21_openings_refused
def fas : List He.Fa := .glo "check_opening" :: .glo "first_covered" :: .glo "within" :: .glo "bar_of" :: .glo "next_window" :: .glo "order_or_bar" :: .glo "_law_bars" :: .glo "_law_draws" :: .glo "_law_early" :: .glo "_law_good" :: .glo "_law_keeps" :: .glo "_law_spoil" :: .glo "_law_whole" :: .glo "_law_wholes" :: .glo "law" :: .free "ValueError" :: .free "abs" :: .free "all" :: .free "bool" :: .free "enumerate" :: .free "int" :: .free "isinstance" :: .free "len" :: .free "list" :: .free "max" :: .free "min" :: .free "range" :: .free "set" :: .free "sorted" :: .free "zip" :: .cls "Circle" :: .noat "Circle" "stake" :: .noat "Circle" "size" :: .noat "Circle" "bidding" :: .noat "Circle" "now" :: .noat "Circle" "line" :: .noat "Circle" "due" :: .noat "Circle" "chest" :: .noat "Circle" "state" :: .noat "Circle" "when" :: .noat "Circle" "pledged" :: .noat "Circle" "given" :: .noat "Circle" "drawn" :: .noat "Circle" "shared" :: .noat "Circle" "missed" :: .noat "Circle" "flows" :: .mkr "Circle" :: .glo "Circle" :: .meth "Circle" "queue" :: .int "MOST_COINS" 1000000000 :: .int "MOST_SEATS" 20 :: .int "MOST_STAKE" 1000000 :: .glo "BadNumber" :: .glo "NoOrder" :: .glo "SusuError" :: .exc "BadNumber" :: []
abbrev hx (K : PySem.W.Frag) : Bool := xfB K ["BadNumber", "NoOrder"] && nxB K && nmB K ["BadNumber", "NoOrder"]
abbrev hk : PySem.W.Hook := He.hookX 5 fas fns [] [] hx
def ob (s : PySem.W.SharedT) : He.AlX := He.obsX 5 fas fns [] [] hx (HandSHeadRun.getT s)
theorem ob_eq (s : PySem.W.SharedT) : ob s = hk.obs s.abs := He.obsX_eq (HandSHeadRun.getT_eq s)
def loose : List PySem.Str := "_wall" :: "SusuError" :: "BadNumber" :: "NoSeat" :: "Ended" :: "NoOrder" :: "first_covered" :: "within" :: "next_window" :: "bar_of" :: "order_or_bar" :: "MOST_STAKE" :: "MOST_COINS" :: "MOST_SEATS" :: "check_opening" :: "Circle" :: "_law_draws" :: "_law_wholes" :: "_law_whole" :: "_law_keeps" :: "_law_bars" :: "_law_early" :: "_law_spoil" :: "_law_good" :: []
theorem run (w : World) : HandSHeadRun.RunEq R (PySem.W.view R.prog [28]) hk ob 4000 loose w := by
  intro os
  kernel_rfl
open PySem PySem.W PySem.Calls PyProof.Rows in
theorem hd_e : opening R.prog = plainProg R.prog.main.scope.names := by kernel_rfl
open PySem PySem.W PySem.Calls PyProof.Rows in
theorem hd_f : ∀ s, fenceModules? R.prog s = some s := fun s => by kernel_rfl
open PySem PySem.W PySem.Calls PyProof.Rows in
theorem hd_def : defOf (PySem.W.view R.prog [28]) R.name = some (HandSHeadRun.topDef R.prog 28, []) := by kernel_rfl
open PySem PySem.W PySem.Calls PyProof.Rows in
theorem hd_p : R.prog.theDef R.name = some ((HandSHeadRun.topDef R.prog 28).params, (HandSHeadRun.topDef R.prog 28).body, (HandSHeadRun.topDef R.prog 28).scope) := by kernel_rfl
open PySem PySem.W PySem.Calls PyProof.Rows in
theorem hd_k : kwWritten? (HandSHeadRun.topDef R.prog 28).params.kwonlyargs (HandSHeadRun.topDef R.prog 28).params.kw_defaults = some [] := by kernel_rfl
open PySem PySem.W PySem.Calls PyProof.Rows in
theorem hd_ok : (chainsOk (PySem.W.view R.prog [28]) && opensWell R.prog && (frees R.toRowW && R.within.isEmpty)) = true := by decide +kernel
end Su
namespace Su
open PySem L2
local macro_rules | `(tactic| walk_at "side") => `(tactic| first | assumption | (show (0 : Int) < _; omega) | (show (0 : Int) ≤ _; omega) | (show (0 : Int) < _; split <;> omega) | (show _ ∨ _; omega) | (show _ ∧ _; omega) | exact ⟨by decide, by decide, by decide⟩ | exact ⟨by first | assumption | omega, by first | assumption | omega⟩)
local macro_rules | `(tactic| walk_at "x") => `(tactic| first | with_reducible refine Su.x_seq ?_ | with_reducible refine Su.x_asg ?_ | with_reducible refine Su.x_gname ?_ | with_reducible refine Su.x_drop ?_ | with_reducible refine Su.x_ret ?_ | with_reducible refine Su.x_ifS ?_ | ((with_reducible show L2.tVar _ _ _ _); refine Su.x_var rfl ?_) | with_reducible refine Su.x_op ?_ | with_reducible refine Su.x_rI0 ?_ | with_reducible refine Su.x_rGe ?_ | with_reducible refine Su.x_iteF ?_ | with_reducible refine Su.x_test ?_ | with_reducible refine Su.x_isB' ?_ | with_reducible refine Su.x_and ?_ | with_reducible refine Su.x_nil ?_ | with_reducible refine Su.x_cons ?_ | with_reducible refine Su.x_lst ?_ | with_reducible refine Su.x_bmL ?_ | with_reducible refine Su.x_next ?_ | with_reducible refine Su.x_for ?_ | with_reducible refine Su.x_iEnum ?_ | with_reducible refine Su.x_gcons ?_ | with_reducible refine Su.x_gnil ?_)
local macro_rules | `(tactic| walk_at "xs") => `(tactic| repeat walk_at "x")
local macro_rules | `(tactic| walk_at "if") => `(tactic| first | with_reducible refine Su.x_iteD (fun c => ?_) (fun c => ?_) | with_reducible refine Su.x_iteN (fun c => ?_) (fun c => ?_) | with_reducible refine Su.x_ite (fun c => ?_) (fun c => ?_))

/-! within -/
def inAB (ws : List (Int × Int)) (a b : Int) (i : Nat) : Bool := decide (a ≤ (ws.getD i (0, 0)).1 ∧ (ws.getD i (0, 0)).2 ≤ b)
def wInN (ws : List (Int × Int)) (a b : Int) (n : Nat) : List Nat := (List.range n).filter (inAB ws a b)
def wIn (ws : List (Int × Int)) (a b : Int) : List Nat := wInN ws a b ws.length
theorem wInN_succ (ws : List (Int × Int)) (a b : Int) (n : Nat) : wInN ws a b (n + 1) = wInN ws a b n ++ (if inAB ws a b n then [n] else []) := by
  unfold wInN
  rw [List.range_succ, List.filter_append]
  congr 1
  cases h : inAB ws a b n <;> simp [h]
theorem wInN_len (ws : List (Int × Int)) (a b : Int) (n : Nat) : (wInN ws a b n).length ≤ n := by
  have := List.length_filter_le (inAB ws a b) (List.range n)
  rwa [List.length_range] at this
def nI (l : List Nat) : List V := l.map fun (i : Nat) => V.int (i : Int)
def sp_within (K : PySem.W.Frag) : Sp := fun vs H Q _ => ∃ (v : V) (ws : List (Int × Int)) (a b : Int), vs = [v, .int a, .int b] ∧ Dp K H v (dWin ws) ∧ ws.length ≤ 1000 ∧
  ∀ (p : Addr) (H' : Hp), H p = none → Same H H' → H' p = some (.lst (nI (wIn ws a b))) → Q (.ref p) H'
abbrev N_within : List Str := ["windows", "a", "b", "crowd", "at", "first", "last"]
def t_within (K : PySem.W.Frag) : TS :=
 (tSeq (tAsg (tLst tNil) (gName 3))
 (tSeq (tFor (iEnum K (tCons (tVar 0) tNil)) (gTup K 2 (gCons (gName 4) (gCons (gTup K 2 (gCons (gName 5) (gCons (gName 6) gNil))) gNil)))
 (tIfS (tAnd (tTest (tOp rGe (tVar 5) (tVar 1))) (tTest (tOp rLe (tVar 6) (tVar 2))))
 (tDrop (tBM K "list" rAppend (tVar 3) (tCons (tVar 4) tNil)))
 tNext))
 (tRet (tVar 3))))

theorem len_within {K : PySem.W.Frag} : ∀ vs H Q E, sp_within K vs H Q E → vs.length = ["windows", "a", "b"].length := by
  rintro vs H Q E ⟨_, _, _, _, rfl, _⟩; rfl
theorem pure_within {K : PySem.W.Frag} {vs : List V} {H : Hp} {Q : VK} {E : XK} (h : sp_within K vs H Q E) : t_within K { nx := fun _ H' => Q .non H', rt := Q } (start N_within vs) H := by
  obtain ⟨v, ws, a, b, rfl, hw, hl, k⟩ := h
  obtain ⟨q, xs, rfl, hq, hx, hat⟩ := win_at hw
  unfold t_within
  walk_at "xs"
  refine al_lst fun p H1 np s1 hp => ?_
  walk_at "xs"
  refine ⟨q, xs, rfl, s1.seq hq, for_by turnsE (fun i σ H' => ∃ (u v w : Option V), σ = [some (.ref q), some (.int a), some (.int b), some (.ref p), u, v, w] ∧ Same H H' ∧ H' p = some (.lst (nI (wInN ws a b i))))
    ⟨none, none, none, rfl, s1, hp⟩ (fun i σ H' _ ⟨_, _, _, _, s, _⟩ => s.seq hq) ?_ ?_⟩
  · rintro i y σ H2 H3 hi ⟨u, v, w, rfl, s2, hp2⟩ ⟨x, hx, T, rfl, nT, s3, hT, _⟩
    obtain ⟨wi, t, ew, rfl, ht⟩ := hat i x hx
    have hd : ws.getD i (0, 0) = wi := by rw [List.getD_eq_getElem?_getD, ew]; rfl
    refine x_gtup (SqT.of hT) rfl ?_
    walk_at "xs"
    refine x_gtup (seqT_same (s2.trans s3) ht) rfl ?_
    walk_at "xs"
    have hp3 := s3 _ _ hp2
    walk_at "if"
    · walk_at "xs"
      walk_at "if"
      · walk_at "xs"
        refine ⟨tyL (SqL.of hp3), ?_⟩
        walk_at "xs"
        refine x_append hp3 (small ?_) ?_
        · unfold nI; rw [List.length_map]; have := wInN_len ws a b i; omega
        · refine ⟨_, _, _, rfl, same_upd (s2.trans s3) np, ?_⟩
          have e : inAB ws a b i = true := by unfold inAB; rw [hd]; simp; omega
          rw [upd_same, wInN_succ, if_pos e]
          unfold nI
          rw [List.map_append]; rfl
      · refine ⟨_, _, _, rfl, s2.trans s3, ?_⟩
        have e : inAB ws a b i = false := by unfold inAB; rw [hd]; simp; omega
        rw [wInN_succ, e]; simpa using hp3
    · walk_at "xs"
      refine ⟨_, _, _, rfl, s2.trans s3, ?_⟩
      have e : inAB ws a b i = false := by unfold inAB; rw [hd]; simp; omega
      rw [wInN_succ, e]; simpa using hp3
  · rintro σ H2 ⟨u, v, w, rfl, s2, hp2⟩
    walk_at "xs"
    rw [hx] at hp2
    exact k p H2 np s2 hp2

end Su
namespace Su
open PySem L2
local macro_rules | `(tactic| walk_at "side") => `(tactic| first | assumption | (show (0 : Int) < _; omega) | (show (0 : Int) ≤ _; omega) | (show (0 : Int) < _; split <;> omega) | (show _ ∨ _; omega) | (show _ ∧ _; omega) | exact ⟨by decide, by decide, by decide⟩ | exact ⟨by first | assumption | omega, by first | assumption | omega⟩)
local macro_rules | `(tactic| walk_at "x") => `(tactic| first | with_reducible refine Su.x_seq ?_ | with_reducible refine Su.x_asg ?_ | with_reducible refine Su.x_gname ?_ | with_reducible refine Su.x_drop ?_ | with_reducible refine Su.x_ret ?_ | with_reducible refine Su.x_ifS ?_ | ((with_reducible show L2.tVar _ _ _ _); refine Su.x_var rfl ?_) | with_reducible refine Su.x_c ?_ | with_reducible refine Su.x_op ?_ | with_reducible refine Su.x_rI0 ?_ | ((with_reducible refine Su.x_rI ?_ ?_); focus walk_at "side") | with_reducible refine Su.x_rGt ?_ | with_reducible refine Su.x_iteF ?_ | with_reducible refine Su.x_test ?_ | with_reducible refine Su.x_isB' ?_ | with_reducible refine Su.x_and ?_ | with_reducible refine Su.x_nil ?_ | with_reducible refine Su.x_cons ?_ | with_reducible refine Su.x_cb ?_ | with_reducible refine Su.x_min2 ?_ | with_reducible refine Su.x_lst ?_ | with_reducible refine Su.x_tup ?_ | with_reducible refine Su.x_bmL ?_ | with_reducible refine Su.x_next ?_ | with_reducible refine Su.x_for ?_ | with_reducible refine Su.x_iRng1 ?_)
local macro_rules | `(tactic| walk_at "xs") => `(tactic| repeat walk_at "x")
local macro_rules | `(tactic| walk_at "if") => `(tactic| first | with_reducible refine Su.x_iteD (fun c => ?_) (fun c => ?_) | with_reducible refine Su.x_iteN (fun c => ?_) (fun c => ?_) | with_reducible refine Su.x_ite (fun c => ?_) (fun c => ?_))

/-! _law_windows -/
/-- each first and last from 1 to the number -/
def WinOk (n : Nat) (ws : List (Int × Int)) : Prop := ∀ w ∈ ws, 1 ≤ w.1 ∧ w.1 ≤ n ∧ 1 ≤ w.2 ∧ w.2 ≤ n
end Su
namespace Su
open PySem L2
local macro_rules | `(tactic| walk_at "side") => `(tactic| first | assumption | (show (0 : Int) < _; omega) | (show (0 : Int) ≤ _; omega) | (show (0 : Int) < _; split <;> omega) | (show _ ∨ _; omega) | (show _ ∧ _; omega) | exact ⟨by decide, by decide, by decide⟩ | exact ⟨by first | assumption | omega, by first | assumption | omega⟩)
local macro_rules | `(tactic| walk_at "xs") => `(tactic| repeat walk_at "x")
local macro_rules | `(tactic| walk_at "if") => `(tactic| first | with_reducible refine Su.x_iteD (fun c => ?_) (fun c => ?_) | with_reducible refine Su.x_iteN (fun c => ?_) (fun c => ?_) | with_reducible refine Su.x_ite (fun c => ?_) (fun c => ?_))

/-! windows, orders, bars: the mathematics -/
theorem nodup_sub : ∀ {l m : List Nat}, l.Nodup → (∀ x ∈ l, x ∈ m) → l.length ≤ m.length
  | [], _, _, _ => Nat.zero_le _
  | x :: l, m, h, s => by
    have hx := s x (List.mem_cons_self ..)
    have h1 : x ∉ l := (List.nodup_cons.mp h).1
    have h2 := nodup_sub (l := l) (m := m.erase x) (List.nodup_cons.mp h).2 fun y hy => by
      have : y ≠ x := fun e => h1 (e ▸ hy)
      exact (List.mem_erase_of_ne this).mpr (s y (List.mem_cons_of_mem _ hy))
    rw [List.length_erase_of_mem hx] at h2
    have : 0 < m.length := List.length_pos_of_mem hx
    simp only [List.length_cons]
    omega
theorem nodup_all {row : List Nat} {n : Nat} (h : row.Nodup) (hl : row.length = n) (hb : ∀ x ∈ row, x < n) {c : Nat} (hc : c < n) : c ∈ row := by
  by_cases e : c ∈ row
  · exact e
  · exfalso
    have h1 : (c :: row).Nodup := List.nodup_cons.mpr ⟨e, h⟩
    have h2 := nodup_sub (m := List.range n) h1 fun x hx => by
      rcases List.mem_cons.mp hx with r | r
      · exact r ▸ List.mem_range.mpr hc
      · exact List.mem_range.mpr (hb x r)
    simp only [List.length_cons, List.length_range] at h2
    omega
def w1 (ws : List (Int × Int)) (i : Nat) : Int := (ws.getD i (0, 0)).1
def w2 (ws : List (Int × Int)) (i : Nat) : Int := (ws.getD i (0, 0)).2
theorem win_ok {n : Nat} {ws : List (Int × Int)} (h : WinOk n ws) {i : Nat} (hi : i < ws.length) : 1 ≤ w1 ws i ∧ w1 ws i ≤ n ∧ 1 ≤ w2 ws i ∧ w2 ws i ≤ n := by
  have e : ws.getD i (0, 0) = ws[i] := by rw [List.getD_eq_getElem?_getD, List.getElem?_eq_getElem hi]; rfl
  unfold w1 w2
  rw [e]
  exact h _ (List.getElem_mem hi)
/-- an order of the windows -/
structure IsOrder (ws : List (Int × Int)) (row : List Nat) : Prop where
  len : row.length = ws.length
  nd : row.Nodup
  lt : ∀ x ∈ row, x < ws.length
  fit : ∀ k (h : k < row.length), w1 ws row[k] ≤ (k : Int) + 1 ∧ (k : Int) + 1 ≤ w2 ws row[k]
/-- a bar -/
structure IsBar (ws : List (Int × Int)) (a b : Int) (crowd : List Nat) : Prop where
  a1 : 1 ≤ a ∧ a ≤ ws.length
  b1 : 1 ≤ b ∧ b ≤ ws.length
  inc : crowd.Pairwise (· < ·)
  mem : ∀ c ∈ crowd, c < ws.length ∧ a ≤ w1 ws c ∧ w2 ws c ≤ b
  many : max 0 (b - a + 1) < (crowd.length : Int)
theorem inc_nodup {l : List Nat} (h : l.Pairwise (· < ·)) : l.Nodup := h.imp fun h => Nat.ne_of_lt h
/-! ### the greedy way -/
def rdy (ws : List (Int × Int)) (row : List Nat) (t : Int) (i : Nat) : Bool := decide (w1 ws i ≤ t) && !decide (i ∈ row)
def pick (ws : List (Int × Int)) (i : Nat) : Option Nat → Option Nat
  | none => some i
  | some b => if w2 ws i < w2 ws b then some i else some b
def nextN (ws : List (Int × Int)) (row : List Nat) (t : Int) : Nat → Option Nat
  | 0 => none
  | i + 1 => if rdy ws row t i = true then pick ws i (nextN ws row t i) else nextN ws row t i
theorem nextN_none {ws : List (Int × Int)} {row : List Nat} {t : Int} : ∀ {n : Nat}, nextN ws row t n = none → ∀ i, i < n → rdy ws row t i = false
  | 0, _, i, hi => absurd hi (Nat.not_lt_zero _)
  | n + 1, h, i, hi => by
    unfold nextN at h
    by_cases c : rdy ws row t n = true
    · rw [if_pos c] at h
      cases e : nextN ws row t n with
      | none => rw [e] at h; cases h
      | some b =>
        rw [e] at h
        unfold pick at h
        simp only at h
        split at h <;> cases h
    · rw [if_neg c] at h
      by_cases q : i < n
      · exact nextN_none h i q
      · have : i = n := by omega
        rw [this]
        simpa using c
theorem nextN_some {ws : List (Int × Int)} {row : List Nat} {t : Int} : ∀ {n c : Nat}, nextN ws row t n = some c → c < n ∧ rdy ws row t c = true ∧ ∀ i, i < n → rdy ws row t i = true → w2 ws c ≤ w2 ws i ∧ (w2 ws i = w2 ws c → c ≤ i)
  | 0, _, h => by cases h
  | n + 1, c, h => by
    unfold nextN at h
    by_cases q : rdy ws row t n = true
    · rw [if_pos q] at h
      cases e : nextN ws row t n with
      | none =>
        rw [e] at h
        cases h
        refine ⟨Nat.lt_succ_self _, q, fun i hi r => ?_⟩
        by_cases z : i < n
        · rw [nextN_none e i z] at r; cases r
        · have : i = n := by omega
          subst this; exact ⟨Int.le_refl _, fun _ => Nat.le_refl _⟩
      | some b =>
        rw [e] at h
        obtain ⟨b1, b2, b3⟩ := nextN_some e
        unfold pick at h
        simp only at h
        by_cases l : w2 ws n < w2 ws b
        · rw [if_pos l] at h
          cases h
          refine ⟨Nat.lt_succ_self _, q, fun i hi r => ?_⟩
          by_cases z : i < n
          · have := (b3 i z r).1
            exact ⟨by omega, fun e => by omega⟩
          · have : i = n := by omega
            subst this; exact ⟨Int.le_refl _, fun _ => Nat.le_refl _⟩
        · rw [if_neg l] at h
          cases h
          refine ⟨by omega, b2, fun i hi r => ?_⟩
          by_cases z : i < n
          · exact b3 i z r
          · have : i = n := by omega
            subst this; exact ⟨by omega, fun _ => by omega⟩
    · rw [if_neg q] at h
      obtain ⟨b1, b2, b3⟩ := nextN_some h
      refine ⟨by omega, b2, fun i hi r => ?_⟩
      by_cases z : i < n
      · exact b3 i z r
      · have : i = n := by omega
        rw [this] at r; exact absurd r q
inductive Paper where
  | order (row : List Nat)
  | bar (a b : Int) (crowd : List Nat)
/-- how far a bar goes down: from e to the least round such that all windows from there to late lie by late -/
def downTo (ws : List (Int × Int)) (row : List Nat) (late : Int) : Nat → Nat
  | 0 => 0
  | j + 1 => if w2 ws (row.getD j 0) ≤ late then downTo ws row late j else j + 1
def barOf (ws : List (Int × Int)) (row : List Nat) (late : Int) : Paper := .bar (downTo ws row late late.toNat + 1) late (wIn ws (downTo ws row late late.toNat + 1) late)
def ordB (ws : List (Int × Int)) : Nat → List Nat → Paper
  | 0, row => .order row
  | k + 1, row => match nextN ws row ((row.length : Int) + 1) ws.length with
    | none => .bar ((row.length : Int) + 2) ws.length (wIn ws ((row.length : Int) + 2) ws.length)
    | some c => if w2 ws c < (row.length : Int) + 1 then barOf ws row (w2 ws c) else ordB ws k (row ++ [c])
def paperOf (ws : List (Int × Int)) : Paper := ordB ws ws.length []
/-- what the greedy row keeps -/
structure Greedy (ws : List (Int × Int)) (row : List Nat) : Prop where
  nd : row.Nodup
  lt : ∀ x ∈ row, x < ws.length
  fit : ∀ k (h : k < row.length), w1 ws row[k] ≤ (k : Int) + 1 ∧ (k : Int) + 1 ≤ w2 ws row[k]
  least : ∀ k (h : k < row.length) i, i < ws.length → i ∉ row.take k → w1 ws i ≤ (k : Int) + 1 → w2 ws row[k] ≤ w2 ws i
theorem greedy_nil {ws : List (Int × Int)} : Greedy ws [] := ⟨List.nodup_nil, (fun _ h => nomatch h), fun _ h => absurd h (Nat.not_lt_zero _), fun _ h => absurd h (Nat.not_lt_zero _)⟩
theorem greedy_snoc {ws : List (Int × Int)} {row : List Nat} {c : Nat} (g : Greedy ws row) (h : nextN ws row ((row.length : Int) + 1) ws.length = some c) (hl : ¬ w2 ws c < (row.length : Int) + 1) : Greedy ws (row ++ [c]) := by
  obtain ⟨c1, c2, c3⟩ := nextN_some h
  unfold rdy at c2
  simp only [Bool.and_eq_true, decide_eq_true_eq, Bool.not_eq_true', decide_eq_false_iff_not] at c2
  have at_ : ∀ k (h : k < (row ++ [c]).length), (∃ h' : k < row.length, (row ++ [c])[k] = row[k]) ∨ (k = row.length ∧ (row ++ [c])[k] = c) := fun k h => by
    by_cases q : k < row.length
    · exact .inl ⟨q, List.getElem_append_left q⟩
    · have : k = row.length := by simp at h; omega
      subst this
      exact .inr ⟨rfl, by simp⟩
  refine ⟨?_, ?_, ?_, ?_⟩
  · rw [List.nodup_append]
    refine ⟨g.nd, by simp, fun a ha b hb e => ?_⟩
    rw [List.mem_singleton] at hb
    exact c2.2 (hb ▸ e ▸ ha)
  · intro x hx
    rcases List.mem_append.mp hx with r | r
    · exact g.lt x r
    · rw [List.mem_singleton] at r; exact r ▸ c1
  · intro k hk
    rcases at_ k hk with ⟨h', e⟩ | ⟨e1, e⟩
    · rw [e]; exact g.fit k h'
    · rw [e, e1]; exact ⟨c2.1, by omega⟩
  · intro k hk i hi hn hf
    rcases at_ k hk with ⟨h', e⟩ | ⟨e1, e⟩
    · rw [e]
      refine g.least k h' i hi ?_ hf
      rw [List.take_append_of_le_length (by omega)] at hn
      exact hn
    · rw [e]
      subst e1
      rw [List.take_left'] at hn
      · refine (c3 i hi ?_).1
        unfold rdy
        simp only [Bool.and_eq_true, decide_eq_true_eq, Bool.not_eq_true', decide_eq_false_iff_not]
        exact ⟨hf, hn⟩
      · rfl
theorem filter_len (p : Nat → Bool) : ∀ l : List Nat, (l.filter p).length + (l.filter (fun x => !p x)).length = l.length
  | [] => rfl
  | x :: l => by
    have := filter_len p l
    cases h : p x <;> simp [List.filter_cons, h] <;> omega
theorem wIn_inc (ws : List (Int × Int)) (a b : Int) : (wIn ws a b).Pairwise (· < ·) := by
  unfold wIn wInN
  exact List.Pairwise.filter _ List.pairwise_lt_range
theorem wIn_mem {ws : List (Int × Int)} {a b : Int} {c : Nat} : c ∈ wIn ws a b ↔ c < ws.length ∧ a ≤ w1 ws c ∧ w2 ws c ≤ b := by
  unfold wIn wInN inAB w1 w2
  rw [List.mem_filter, List.mem_range, decide_eq_true_eq]
theorem downTo_le (ws : List (Int × Int)) (row : List Nat) (late : Int) : ∀ j, downTo ws row late j ≤ j
  | 0 => Nat.le_refl _
  | j + 1 => by
    unfold downTo
    split
    · exact Nat.le_succ_of_le (downTo_le ws row late j)
    · exact Nat.le_refl _
theorem downTo_in (ws : List (Int × Int)) (row : List Nat) (late : Int) : ∀ j k, downTo ws row late j ≤ k → k < j → w2 ws (row.getD k 0) ≤ late
  | 0, k, _, h => absurd h (Nat.not_lt_zero _)
  | j + 1, k, h1, h2 => by
    unfold downTo at h1
    by_cases c : w2 ws (row.getD j 0) ≤ late
    · rw [if_pos c] at h1
      by_cases q : k < j
      · exact downTo_in ws row late j k h1 q
      · have : k = j := by omega
        rw [this]; exact c
    · rw [if_neg c] at h1; omega
theorem downTo_stop (ws : List (Int × Int)) (row : List Nat) (late : Int) : ∀ j, downTo ws row late j = 0 ∨ ∃ k, downTo ws row late j = k + 1 ∧ late < w2 ws (row.getD k 0)
  | 0 => .inl rfl
  | j + 1 => by
    unfold downTo
    by_cases c : w2 ws (row.getD j 0) ≤ late
    · rw [if_pos c]; exact downTo_stop ws row late j
    · rw [if_neg c]; exact .inr ⟨j, rfl, by omega⟩
theorem bar_none {ws : List (Int × Int)} {row : List Nat} (ok : WinOk ws.length ws) (g : Greedy ws row) (hl : row.length < ws.length) (h : nextN ws row ((row.length : Int) + 1) ws.length = none) :
    IsBar ws ((row.length : Int) + 2) ws.length (wIn ws ((row.length : Int) + 2) ws.length) := by
  have hn := nextN_none h
  have out : ∀ i, i < ws.length → i ∉ row → (row.length : Int) + 2 ≤ w1 ws i := fun i hi hr => by
    have := hn i hi
    unfold rdy at this
    simp only [hr, decide_false, Bool.not_false, Bool.and_true, decide_eq_false_iff_not] at this
    omega
  have cnt : ws.length ≤ ((List.range ws.length).filter fun x => !decide (x ∈ row)).length + row.length := by
    have h1 := filter_len (fun x => decide (x ∈ row)) (List.range ws.length)
    have h2 : ((List.range ws.length).filter fun x => decide (x ∈ row)).length ≤ row.length := nodup_sub (List.Pairwise.filter _ List.nodup_range) fun x hx => by
      have := (List.mem_filter.mp hx).2
      simpa using this
    rw [List.length_range] at h1
    omega
  have sub : ((List.range ws.length).filter fun x => !decide (x ∈ row)).length ≤ (wIn ws ((row.length : Int) + 2) ws.length).length := nodup_sub (List.Pairwise.filter _ List.nodup_range) fun x hx => by
    obtain ⟨h1, h2⟩ := List.mem_filter.mp hx
    have h1 := List.mem_range.mp h1
    have h2 : x ∉ row := by simpa using h2
    exact wIn_mem.mpr ⟨h1, out x h1 h2, (win_ok ok h1).2.2.2⟩
  have ex : ∃ i, i < ws.length ∧ i ∉ row := by
    have : 0 < ((List.range ws.length).filter fun x => !decide (x ∈ row)).length := by omega
    obtain ⟨i, hi⟩ := List.exists_mem_of_length_pos this
    obtain ⟨h1, h2⟩ := List.mem_filter.mp hi
    exact ⟨i, List.mem_range.mp h1, by simpa using h2⟩
  obtain ⟨i, hi, hir⟩ := ex
  have o1 := out i hi hir
  have o2 := (win_ok ok hi).2.1
  exact ⟨⟨by omega, by omega⟩, ⟨by omega, by omega⟩, wIn_inc .., fun c hc => wIn_mem.mp hc, by omega⟩
theorem bar_late {ws : List (Int × Int)} {row : List Nat} {c : Nat} (ok : WinOk ws.length ws) (g : Greedy ws row) (hl : row.length < ws.length) (h : nextN ws row ((row.length : Int) + 1) ws.length = some c) (hc : w2 ws c < (row.length : Int) + 1) :
    IsBar ws (downTo ws row (w2 ws c) (w2 ws c).toNat + 1) (w2 ws c) (wIn ws (downTo ws row (w2 ws c) (w2 ws c).toNat + 1) (w2 ws c)) := by
  obtain ⟨c1, c2, c3⟩ := nextN_some h
  unfold rdy at c2
  simp only [Bool.and_eq_true, decide_eq_true_eq, Bool.not_eq_true', decide_eq_false_iff_not] at c2
  have okc := win_ok ok c1
  generalize hL : w2 ws c = L at *
  generalize he : downTo ws row L L.toNat = e
  have e1 : e ≤ L.toNat := he ▸ downTo_le ws row L L.toNat
  have e2 : ∀ k, e ≤ k → k < L.toNat → w2 ws (row.getD k 0) ≤ L := fun k a b => downTo_in ws row L L.toNat k (he ▸ a) b
  have e3 := downTo_stop ws row L L.toNat
  rw [he] at e3
  have gd : ∀ k (hk : k < row.length), row.getD k 0 = row[k] := fun k hk => by rw [List.getD_eq_getElem?_getD, List.getElem?_eq_getElem hk]; rfl
  -- a window that was not placed by round e, of a last by L, opens behind e
  have open_ : ∀ i, i < ws.length → i ∉ row.take (e - 1) → w2 ws i ≤ L → (e : Int) + 1 ≤ w1 ws i := fun i hi hr h2 => by
    have o1 := (win_ok ok hi).1
    rcases e3 with z | ⟨k, z, q⟩
    · omega
    · have hk : k < row.length := by omega
      rw [gd k hk] at q
      by_cases w : w1 ws i ≤ (k : Int) + 1
      · have := g.least k hk i hi (by rw [z] at hr; exact hr) w
        omega
      · omega
  have nd : (c :: (row.take L.toNat).drop e).Nodup := by
    rw [List.nodup_cons]
    exact ⟨fun hm => c2.2 (List.mem_of_mem_take (List.mem_of_mem_drop hm)), List.Nodup.sublist ((List.drop_sublist _ _).trans (List.take_sublist _ _)) g.nd⟩
  have sub := nodup_sub (m := wIn ws ((e : Int) + 1) L) nd fun x hx => by
    rcases List.mem_cons.mp hx with r | r
    · subst r
      exact wIn_mem.mpr ⟨c1, open_ x c1 (fun hm => c2.2 (List.mem_of_mem_take hm)) (by omega), by omega⟩
    · obtain ⟨k, hk, hx2⟩ := List.getElem_of_mem r
      rw [List.getElem_drop, List.getElem_take] at hx2
      have hk' : k < L.toNat - e := by
        rw [List.length_drop, List.length_take] at hk; omega
      have hlt : e + k < row.length := by omega
      have xl : x < ws.length := g.lt x (hx2 ▸ List.getElem_mem _)
      have wx : w2 ws x ≤ L := by
        have := e2 (e + k) (by omega) (by omega)
        rw [gd _ hlt, hx2] at this
        exact this
      refine wIn_mem.mpr ⟨xl, open_ x xl (fun hm => ?_) wx, wx⟩
      obtain ⟨j, hj, hxj⟩ := List.getElem_of_mem hm
      rw [List.getElem_take] at hxj
      have hj' : j < e - 1 := by rw [List.length_take] at hj; omega
      have := (List.nodup_iff_pairwise_ne.mp g.nd)
      rw [List.pairwise_iff_getElem] at this
      exact this j (e + k) (by omega) hlt (by omega) (hxj.trans hx2.symm)
  have ln : (c :: (row.take L.toNat).drop e).length = L.toNat - e + 1 := by
    clear e3 sub
    rw [List.length_cons, List.length_drop, List.length_take]; omega
  rw [ln] at sub
  clear e3
  exact ⟨⟨by omega, by omega⟩, ⟨by omega, by omega⟩, wIn_inc .., fun c hc => wIn_mem.mp hc, by omega⟩
def Good (ws : List (Int × Int)) : Paper → Prop
  | .order row => IsOrder ws row
  | .bar a b crowd => IsBar ws a b crowd
theorem ordB_good {ws : List (Int × Int)} (ok : WinOk ws.length ws) : ∀ k row, Greedy ws row → row.length + k = ws.length → Good ws (ordB ws k row)
  | 0, row, g, h => ⟨h, g.nd, g.lt, g.fit⟩
  | k + 1, row, g, h => by
    unfold ordB
    cases e : nextN ws row ((row.length : Int) + 1) ws.length with
    | none => exact bar_none ok g (by omega) e
    | some c =>
      show Good ws (if w2 ws c < (row.length : Int) + 1 then barOf ws row (w2 ws c) else ordB ws k (row ++ [c]))
      by_cases q : w2 ws c < (row.length : Int) + 1
      · rw [if_pos q]; exact bar_late ok g (by omega) e q
      · rw [if_neg q]; exact ordB_good ok k (row ++ [c]) (greedy_snoc g e q) (by rw [List.length_append]; simp; omega)
theorem paper_good {ws : List (Int × Int)} (ok : WinOk ws.length ws) : Good ws (paperOf ws) := ordB_good ok ws.length [] greedy_nil (by simp)

end Su
namespace Su
open PySem L2
local macro_rules | `(tactic| walk_at "side") => `(tactic| first | assumption | (show (0 : Int) < _; omega) | (show (0 : Int) ≤ _; omega) | (show (0 : Int) < _; split <;> omega) | (show _ ∨ _; omega) | (show _ ∧ _; omega) | exact ⟨by decide, by decide, by decide⟩ | exact ⟨by first | assumption | omega, by first | assumption | omega⟩)
local macro_rules | `(tactic| walk_at "x") => `(tactic| first | with_reducible refine Su.x_seq ?_ | with_reducible refine Su.x_gname ?_ | with_reducible refine Su.x_ret ?_ | with_reducible refine Su.x_ifS ?_ | ((with_reducible show L2.tVar _ _ _ _); refine Su.x_var rfl ?_) | with_reducible refine Su.x_c ?_ | with_reducible refine Su.x_op ?_ | with_reducible refine Su.x_iteT ?_ | with_reducible refine Su.x_eqI ?_ | with_reducible refine Su.x_eqB ?_ | with_reducible refine Su.x_neB ?_ | with_reducible refine Su.x_test ?_ | with_reducible refine Su.x_tB ?_ | with_reducible refine Su.x_isB' ?_ | with_reducible refine Su.x_not ?_ | with_reducible refine Su.x_and ?_ | with_reducible refine Su.x_or ?_ | with_reducible refine Su.x_andV ?_ | with_reducible refine Su.x_nil ?_ | with_reducible refine Su.x_cons ?_ | with_reducible refine Su.x_cb ?_ | with_reducible refine Su.x_call ?_ | with_reducible refine Su.x_next ?_ | with_reducible refine Su.x_iZipA ?_ | with_reducible refine Su.x_gcons ?_ | with_reducible refine Su.x_gnil ?_ | with_reducible refine Su.x_yes ?_ | with_reducible refine Su.x_lc ?_)
local macro_rules | `(tactic| walk_at "xs") => `(tactic| repeat walk_at "x")
local macro_rules | `(tactic| walk_at "if") => `(tactic| first | with_reducible refine Su.x_iteD (fun c => ?_) (fun c => ?_) | with_reducible refine Su.x_iteN (fun c => ?_) (fun c => ?_) | with_reducible refine Su.x_ite (fun c => ?_) (fun c => ?_))

/-! _law_same: two data alike -/
mutual
def okD : PyData → Bool
  | .none => true
  | .bool _ => true
  | .int _ => true
  | .str x => PyData.strOk x
  | .list xs => decide (xs.length ≤ 1000) && okL xs
  | .tuple xs => decide (xs.length ≤ 1000) && okL xs
  | .dict _ => false
def okL : List PyData → Bool
  | [] => true
  | x :: xs => okD x && okL xs
end
section
variable {K : PySem.W.Frag} {H : Hp} {Q : VK} {x : V} {d : PyData}
end
end Su
namespace Su
open PySem L2
local macro_rules | `(tactic| walk_at "side") => `(tactic| first | assumption | (show (0 : Int) < _; omega) | (show (0 : Int) ≤ _; omega) | (show (0 : Int) < _; split <;> omega) | (show _ ∨ _; omega) | (show _ ∧ _; omega) | exact ⟨by decide, by decide, by decide⟩ | exact ⟨by first | assumption | omega, by first | assumption | omega⟩)
local macro_rules | `(tactic| walk_at "xs") => `(tactic| repeat walk_at "x")
local macro_rules | `(tactic| walk_at "if") => `(tactic| first | with_reducible refine Su.x_iteD (fun c => ?_) (fun c => ?_) | with_reducible refine Su.x_iteN (fun c => ?_) (fun c => ?_) | with_reducible refine Su.x_ite (fun c => ?_) (fun c => ?_))

/-! windows by index, lists of numbers as data -/
section
variable {K : PySem.W.Frag} {H : Hp} {Q : VK} {a t p : Addr} {i : Int} {v w : V} {r : List V}
theorem x_winix {ws : List (Int × Int)} (h : Dp K H (.ref a) (dWin ws)) (h0 : 0 ≤ i) (h1 : i < ws.length) (k : ∀ t, SqT K H t [.int (ws.getD i.toNat (0, 0)).1, .int (ws.getD i.toNat (0, 0)).2] → Q (.ref t) H) : rIxL K (.ref a) (.int i) H Q := by
  obtain ⟨q, xs, e, hq, hx, hat⟩ := win_at h
  cases e
  have h2 : i.toNat < xs.length := by omega
  obtain ⟨w, t, ew, et, ht⟩ := hat i.toNat _ (List.getElem?_eq_getElem h2)
  have hd : ws.getD i.toNat (0, 0) = w := by rw [List.getD_eq_getElem?_getD, ew]; rfl
  refine x_ixL (v := .ref t) hq ?_ (k t (by rw [hd]; exact ht))
  rw [at_get (d := .non) h0 (by omega), List.getD_eq_getElem?_getD, List.getElem?_eq_getElem h2, et]
  rfl
theorem x_ix0 (e : SqT K H t (v :: r)) (h : Q v H) : rIxT K (.ref t) (.int 0) H Q := x_ixT e (by
  unfold atI ixN
  rw [if_pos (by decide), if_pos (by simp)]
  rfl) h
theorem x_ix1 (e : SqT K H t (w :: v :: r)) (h : Q v H) : rIxT K (.ref t) (.int 1) H Q := x_ixT e (by
  unfold atI ixN
  rw [if_pos (by decide), if_pos (by simp; omega)]
  rfl) h
end
end Su
namespace Su
open PySem L2
local macro_rules | `(tactic| walk_at "side") => `(tactic| first | assumption | (show (0 : Int) < _; omega) | (show (0 : Int) ≤ _; omega) | (show (0 : Int) < _; split <;> omega) | (show _ ∨ _; omega) | (show _ ∧ _; omega) | exact ⟨by decide, by decide, by decide⟩ | exact ⟨by first | assumption | omega, by first | assumption | omega⟩)
local macro_rules | `(tactic| walk_at "xs") => `(tactic| repeat walk_at "x")
local macro_rules | `(tactic| walk_at "if") => `(tactic| first | with_reducible refine Su.x_iteD (fun c => ?_) (fun c => ?_) | with_reducible refine Su.x_iteN (fun c => ?_) (fun c => ?_) | with_reducible refine Su.x_ite (fun c => ?_) (fun c => ?_))

/-! what walks over windows share -/
def optI : Option Nat → Int
  | none => -1
  | some c => (c : Int)
theorem inV_nat (i : Nat) : ∀ row : List Nat, inV (.int (i : Int)) (nI row) = decide (i ∈ row)
  | [] => rfl
  | x :: row => by
    show (eqV (.int (x : Int)) (.int (i : Int)) || inV (.int (i : Int)) (nI row)) = _
    rw [inV_nat i row]
    by_cases c : i = x
    · subst c
      simp [eqV]
    · have : ¬ (x : Int) = (i : Int) := by omega
      simp [eqV, this, c]
theorem flat_nat : ∀ row : List Nat, (nI row).all flatV = true
  | [] => rfl
  | x :: row => by
    show (flatV (.int (x : Int)) && (nI row).all flatV) = true
    rw [flat_nat row]; rfl
section
variable {K : PySem.W.Frag} {H : Hp} {Q : VK} {p : Addr} {i : Nat} {row : List Nat}
theorem x_notInN (e : SqL K H p (nI row)) (h : Q (.bl (!decide (i ∈ row))) H) : rIn K true (.int (i : Int)) (.ref p) H Q := ⟨p, nI row, rfl, .inl e, rfl, flat_nat row, by rw [if_pos rfl, inV_nat]; exact h⟩
theorem at_getN {xs : List Nat} {i : Int} (h0 : 0 ≤ i) (h1 : i < xs.length) : atI (nI xs) i = some (.int (xs.getD i.toNat 0 : Nat)) := by
  have h2 : i.toNat < xs.length := by omega
  unfold nI
  rw [at_get (d := .int 0) h0 (by rw [List.length_map]; exact h1), List.getD_eq_getElem?_getD, List.getD_eq_getElem?_getD, List.getElem?_map, List.getElem?_eq_getElem h2]
  rfl
theorem nI_len (l : List Nat) : (nI l).length = l.length := List.length_map ..
theorem nI_snoc (l : List Nat) (x : Nat) : nI (l ++ [x]) = nI l ++ [.int (x : Int)] := by unfold nI; rw [List.map_append]; rfl
end
/-- a paper that was told at v: its tuple and its list are new -/
def PaperAt (H0 H : Hp) (v : V) : Paper → Prop
  | .order row => ∃ t p, v = .ref t ∧ H0 t = none ∧ H0 p = none ∧ H t = some (.tup [.str "order", .ref p]) ∧ H p = some (.lst (nI row))
  | .bar a b crowd => ∃ t p, v = .ref t ∧ H0 t = none ∧ H0 p = none ∧ H t = some (.tup [.str "bar", .int a, .int b, .ref p]) ∧ H p = some (.lst (nI crowd))

end Su
namespace Su
open PySem L2
local macro_rules | `(tactic| walk_at "side") => `(tactic| first | assumption | (show (0 : Int) < _; omega) | (show (0 : Int) ≤ _; omega) | (show (0 : Int) < _; split <;> omega) | (show _ ∨ _; omega) | (show _ ∧ _; omega) | exact ⟨by decide, by decide, by decide⟩ | exact ⟨by first | assumption | omega, by first | assumption | omega⟩)
local macro_rules | `(tactic| walk_at "xs") => `(tactic| repeat walk_at "x")
local macro_rules | `(tactic| walk_at "if") => `(tactic| first | with_reducible refine Su.x_iteD (fun c => ?_) (fun c => ?_) | with_reducible refine Su.x_iteN (fun c => ?_) (fun c => ?_) | with_reducible refine Su.x_ite (fun c => ?_) (fun c => ?_))

/-! texts by their signs -/
section
variable {K : PySem.W.Frag} {σ : St} {H : Hp} {Q : VK} {to te : TE} {p : Addr}
theorem x_m1 {r : V → List V → Hp → VK → Prop} (h : to σ H fun x H1 => (∃ a, x = .str a) ∧ te σ H1 fun y H2 => r x [y] H2 Q) : tM1 r to te σ H Q := h
theorem x_strE {a : Str} {P : Prop} (h : P) : (∃ b, V.str a = .str b) ∧ P := ⟨⟨a, rfl⟩, h⟩
end
/-- 1 to 12 small letters -/
structure NameOk (w : List Nat) : Prop where
  lo : 1 ≤ w.length
  hi : w.length ≤ 12
  ok : ∀ c ∈ w, 97 ≤ c ∧ c ≤ 122
end Su
namespace Su
open PySem L2
local macro_rules | `(tactic| walk_at "side") => `(tactic| first | assumption | (show (0 : Int) < _; omega) | (show (0 : Int) ≤ _; omega) | (show (0 : Int) < _; split <;> omega) | (show _ ∨ _; omega) | (show _ ∧ _; omega) | exact ⟨by decide, by decide, by decide⟩ | exact ⟨by first | assumption | omega, by first | assumption | omega⟩)
local macro_rules | `(tactic| walk_at "xs") => `(tactic| repeat walk_at "x")
local macro_rules | `(tactic| walk_at "if") => `(tactic| first | with_reducible refine Su.x_iteD (fun c => ?_) (fun c => ?_) | with_reducible refine Su.x_iteN (fun c => ?_) (fun c => ?_) | with_reducible refine Su.x_ite (fun c => ?_) (fun c => ?_))

/-! lists by names -/
section
variable {α β : Type}
end
/-! lists that grow strictly -/
/-! nets of debts -/
end Su
namespace Su
open PySem L2
local macro_rules | `(tactic| walk_at "side") => `(tactic| first | assumption | (show (0 : Int) < _; omega) | (show (0 : Int) ≤ _; omega) | (show (0 : Int) < _; split <;> omega) | (show _ ∨ _; omega) | (show _ ∧ _; omega) | exact ⟨by decide, by decide, by decide⟩ | exact ⟨by first | assumption | omega, by first | assumption | omega⟩)
local macro_rules | `(tactic| walk_at "xs") => `(tactic| repeat walk_at "x")
local macro_rules | `(tactic| walk_at "if") => `(tactic| first | with_reducible refine Su.x_iteD (fun c => ?_) (fun c => ?_) | with_reducible refine Su.x_iteN (fun c => ?_) (fun c => ?_) | with_reducible refine Su.x_ite (fun c => ?_) (fun c => ?_))

/-! dicts by names; the heap without some places -/
section
variable {K : PySem.W.Frag} {σ : St} {H H' : Hp} {Q : VK} {D : Ends} {td ty tv tx : TE} {a : Addr}
def AlD (Q : VK) (H : Hp) : Prop := ∀ p, H p = none → Q (.ref p) (upd H p (.dK []))
theorem x_dnew (h : AlD Q H) : tDNewK σ H Q := h
theorem x_dput (h : tv σ H fun v H1 => td σ H1 fun x H2 => ty σ H2 fun y H3 => ∃ a H4, x = .ref a ∧ DPut H3 a y v H4 ∧ D.nx σ H4) : sDPut td ty tv D σ H := h
theorem x_dgetE (h : td σ H fun x H1 => ty σ H1 fun y H2 => ∃ a v, x = .ref a ∧ DGet H2 a y (some v) ∧ Q v H2) : tDGet td ty σ H Q := h
theorem x_dget2 (h : td σ H fun x H1 => ∃ a, x = .ref a ∧ IsD H1 a ∧ ty σ H1 fun y H2 => tx σ H2 fun z H3 => ∃ o, DGet H3 a y o ∧ Q (o.getD z) H3) : tDGet2 td ty tx σ H Q := h
theorem x_din (h : ty σ H fun y H1 => td σ H1 fun x H2 => ∃ a o, x = .ref a ∧ DGet H2 a y o ∧ Q (.bl o.isSome) H2) : tDIn ty td σ H Q := h
theorem x_dnin (h : ty σ H fun y H1 => td σ H1 fun x H2 => ∃ a o, x = .ref a ∧ DGet H2 a y o ∧ Q (.bl (!o.isSome)) H2) : tDNotIn ty td σ H Q := h
end
/-! the heap without some places -/
def hide (A : List Addr) (H : Hp) : Hp := fun b => if b ∈ A then none else H b
section
variable {H H' : Hp} {A : List Addr} {a b : Addr} {o : HO}
theorem hide_in (h : a ∈ A) : hide A H a = none := by unfold hide; rw [if_pos h]
theorem hide_out (h : a ∉ A) : hide A H a = H a := by unfold hide; rw [if_neg h]
theorem hide_same : Same (hide A H) H := fun b o e => by
  by_cases c : b ∈ A
  · rw [hide_in c] at e; cases e
  · rw [hide_out c] at e; exact e
theorem hide_upd (h : a ∈ A) : hide A (upd H a o) = hide A H := by
  funext b
  by_cases c : b ∈ A
  · rw [hide_in c, hide_in c]
  · rw [hide_out c, hide_out c, upd_ne (fun (e : b = a) => c (by rw [e]; exact h))]
theorem hide_mono (e : Same H H') : Same (hide A H) (hide A H') := fun b o h => by
  by_cases c : b ∈ A
  · rw [hide_in c] at h; cases h
  · rw [hide_out c] at h ⊢; exact e b o h
theorem same_hide (e : Same H H') (n : ∀ a ∈ A, H a = none) : Same H (hide A H') := fun b o h => by
  have c : b ∉ A := fun c => by rw [n b c] at h; cases h
  rw [hide_out c]; exact e b o h
end
/-- the list at p holds these data, none of which leans on what stands in A -/
def LsAt (K : PySem.W.Frag) (A : List Addr) (H : Hp) (p : Addr) (ds : List PyData) : Prop := ∃ xs, H p = some (.lst xs) ∧ DpAll K (hide A H) xs ds
theorem LsAt.dp {K : PySem.W.Frag} {A : List Addr} {H : Hp} {p : Addr} {ds : List PyData} (h : LsAt K A H p ds) : Dp K H (.ref p) (.list ds) := by
  obtain ⟨xs, h1, h2⟩ := h
  exact .lst (SqL.of h1) (dpAll_same hide_same h2)
/-! nets and transfers as data -/
section
variable {K : PySem.W.Frag} {H : Hp} {v : V}
end
theorem range_getN {α β : Type} (g : α → β) (l : List α) : ∀ n, n ≤ l.length → (List.range n).filterMap (fun i => (l[i]?).map g) = (l.take n).map g
  | 0, _ => by simp
  | n + 1, h => by
    rw [List.range_succ, List.filterMap_append, range_getN g l n (by omega), List.take_succ, List.map_append, List.getElem?_eq_getElem (show n < l.length by omega)]
    simp [List.getElem?_eq_getElem (show n < l.length by omega)]
theorem range_get {α β : Type} (g : α → β) (l : List α) : (List.range l.length).filterMap (fun i => (l[i]?).map g) = l.map g := by
  rw [range_getN g l _ (Nat.le_refl _), List.take_length]
end Su
namespace Su
open PySem L2
local macro_rules | `(tactic| walk_at "side") => `(tactic| first | assumption | (show (0 : Int) < _; omega) | (show (0 : Int) ≤ _; omega) | (show (0 : Int) < _; split <;> omega) | (show _ ∨ _; omega) | (show _ ∧ _; omega) | exact ⟨by decide, by decide, by decide⟩ | exact ⟨by first | assumption | omega, by first | assumption | omega⟩)
local macro_rules | `(tactic| walk_at "xs") => `(tactic| repeat walk_at "x")
local macro_rules | `(tactic| walk_at "if") => `(tactic| first | with_reducible refine Su.x_iteD (fun c => ?_) (fun c => ?_) | with_reducible refine Su.x_iteN (fun c => ?_) (fun c => ?_) | with_reducible refine Su.x_ite (fun c => ?_) (fun c => ?_))

/-! transfers: the plain law -/
end Su
namespace Su
open PySem L2
local macro_rules | `(tactic| walk_at "side") => `(tactic| first | assumption | (show (0 : Int) < _; omega) | (show (0 : Int) ≤ _; omega) | (show (0 : Int) < _; split <;> omega) | (show _ ∨ _; omega) | (show _ ∧ _; omega) | exact ⟨by decide, by decide, by decide⟩ | exact ⟨by first | assumption | omega, by first | assumption | omega⟩)
local macro_rules | `(tactic| walk_at "xs") => `(tactic| repeat walk_at "x")
local macro_rules | `(tactic| walk_at "if") => `(tactic| first | with_reducible refine Su.x_iteD (fun c => ?_) (fun c => ?_) | with_reducible refine Su.x_iteN (fun c => ?_) (fun c => ?_) | with_reducible refine Su.x_ite (fun c => ?_) (fun c => ?_))

/-! good data: may be compared, are like themselves -/
mutual
theorem okD_lay : ∀ d : PyData, okD d = true → PyData.canLay0 d = true
  | .none, _ => rfl
  | .bool _, _ => rfl
  | .int _, _ => rfl
  | .str _, h => h
  | .list xs, h => by
    simp only [okD, Bool.and_eq_true] at h
    show PyData.canLayAll0 xs = true
    exact okL_lay xs h.2
  | .tuple xs, h => by
    simp only [okD, Bool.and_eq_true] at h
    show PyData.canLayAll0 xs = true
    exact okL_lay xs h.2
  | .dict _, h => by simp [okD] at h
theorem okL_lay : ∀ ds : List PyData, okL ds = true → PyData.canLayAll0 ds = true
  | [], _ => rfl
  | d :: ds, h => by
    simp only [okL, Bool.and_eq_true] at h
    show (PyData.canLay0 d && PyData.canLayAll0 ds) = true
    rw [okD_lay d h.1, okL_lay ds h.2]; rfl
end
structure GoodD (n : Nat) (d : PyData) : Prop where
  ok : okD d = true
  dep : d.depth ≤ n
theorem okL_all {ds : List PyData} (h : ∀ d ∈ ds, okD d = true) : okL ds = true := by
  induction ds with
  | nil => rfl
  | cons d ds ih =>
    simp only [okL, Bool.and_eq_true]
    exact ⟨h d List.mem_cons_self, ih fun x hx => h x (List.mem_cons_of_mem _ hx)⟩
theorem dep_all {ds : List PyData} {n : Nat} (h : ∀ d ∈ ds, d.depth ≤ n) : PyData.depthAll ds ≤ n := by
  induction ds with
  | nil => exact Nat.zero_le _
  | cons d ds ih =>
    show max d.depth (PyData.depthAll ds) ≤ n
    exact Nat.max_le.mpr ⟨h d List.mem_cons_self, ih fun x hx => h x (List.mem_cons_of_mem _ hx)⟩
theorem GoodD.lst {ds : List PyData} {n : Nat} (hl : ds.length ≤ 1000) (h : ∀ d ∈ ds, GoodD n d) : GoodD (n + 1) (.list ds) := by
  refine ⟨?_, ?_⟩
  · simp only [okD, Bool.and_eq_true, decide_eq_true_eq]
    exact ⟨hl, okL_all fun d hd => (h d hd).ok⟩
  · show PyData.depthAll ds + 1 ≤ n + 1
    have := dep_all fun d hd => (h d hd).dep
    omega
theorem GoodD.tup {ds : List PyData} {n : Nat} (hl : ds.length ≤ 1000) (h : ∀ d ∈ ds, GoodD n d) : GoodD (n + 1) (.tuple ds) := by
  refine ⟨?_, ?_⟩
  · simp only [okD, Bool.and_eq_true, decide_eq_true_eq]
    exact ⟨hl, okL_all fun d hd => (h d hd).ok⟩
  · show PyData.depthAll ds + 1 ≤ n + 1
    have := dep_all fun d hd => (h d hd).dep
    omega
theorem GoodD.int (n : Nat) (i : Int) : GoodD n (.int i) := ⟨rfl, Nat.zero_le _⟩
theorem GoodD.bool (n : Nat) (i : Bool) : GoodD n (.bool i) := ⟨rfl, Nat.zero_le _⟩
theorem GoodD.non (n : Nat) : GoodD n .none := ⟨rfl, Nat.zero_le _⟩
theorem strOk_of {w : List Nat} (h : ∀ c ∈ w, c < 256) : PyData.strOk (SX.S w) = true := by
  unfold PyData.strOk
  rw [← Array.all_toList, List.all_eq_true]
  intro c hc
  have := h c hc
  simp; omega
theorem GoodD.str (n : Nat) {w : List Nat} (h : ∀ c ∈ w, c < 256) : GoodD n (.str (SX.S w)) := ⟨strOk_of h, Nat.zero_le _⟩
theorem NameOk.low {w : List Nat} (h : NameOk w) : ∀ c ∈ w, c < 256 := fun c hc => by have := h.ok c hc; omega
theorem GoodD.shaped {n : Nat} {d : PyData} (h : GoodD n d) (hn : n ≤ 64) : SeqAt.shaped d = true := by
  unfold SeqAt.shaped
  rw [okD_lay d h.ok, decide_eq_true (Nat.le_trans h.dep hn)]; rfl
section
variable {K : PySem.W.Frag} {H : Hp} {Q : VK} {x y : V} {d : PyData} {n : Nat}
end
theorem good_map {α : Type} {n : Nat} {f : α → PyData} {l : List α} (hl : l.length ≤ 1000) (h : ∀ x ∈ l, GoodD n (f x)) : GoodD (n + 1) (.list (l.map f)) := .lst (by rw [List.length_map]; exact hl) fun d hd => by
  obtain ⟨x, hx, rfl⟩ := List.mem_map.mp hd
  exact h x hx
/-! numbers of the places where something holds -/
end Su
namespace Su
open PySem L2
local macro_rules | `(tactic| walk_at "side") => `(tactic| first | assumption | (show (0 : Int) < _; omega) | (show (0 : Int) ≤ _; omega) | (show (0 : Int) < _; split <;> omega) | (show _ ∨ _; omega) | (show _ ∧ _; omega) | exact ⟨by decide, by decide, by decide⟩ | exact ⟨by first | assumption | omega, by first | assumption | omega⟩)
local macro_rules | `(tactic| walk_at "xs") => `(tactic| repeat walk_at "x")
local macro_rules | `(tactic| walk_at "if") => `(tactic| first | with_reducible refine Su.x_iteD (fun c => ?_) (fun c => ?_) | with_reducible refine Su.x_iteN (fun c => ?_) (fun c => ?_) | with_reducible refine Su.x_ite (fun c => ?_) (fun c => ?_))

/-! facts of an earlier heap, found by search -/
section
variable {K : PySem.W.Frag} {H H' : Hp} {a : Addr} {o : HO} {xs : List V} {v : V} {d : PyData} {vs : List V} {ds : List PyData}
theorem f_at (s : Same H H') (h : H a = some o) : H' a = some o := s _ _ h
theorem f_sqL (h : H a = some (.lst xs)) : SqL K H a xs := SqL.of h
theorem f_sqT (h : H a = some (.tup xs)) : SqT K H a xs := SqT.of h
theorem f_sqLs (s : Same H H') (h : SqL K H a xs) : SqL K H' a xs := s.seq h
theorem f_sqTs (s : Same H H') (h : SqT K H a xs) : SqT K H' a xs := seqT_same s h
theorem f_dp (s : Same H H') (h : Dp K H v d) : Dp K H' v d := dp_same s h
theorem f_dpA (s : Same H H') (h : DpAll K H vs ds) : DpAll K H' vs ds := dpAll_same s h
theorem f_tr {H1 H2 H3 : Hp} (s : Same H2 H3) (t : Same H1 H2) : Same H1 H3 := t.trans s
theorem f_free (s : Same H H') (n : H' a = none) : H a = none := s.free n
end

end Su
namespace Su
open PySem L2
local macro_rules | `(tactic| walk_at "side") => `(tactic| first | assumption | (show (0 : Int) < _; omega) | (show (0 : Int) ≤ _; omega) | (show (0 : Int) < _; split <;> omega) | (show _ ∨ _; omega) | (show _ ∧ _; omega) | exact ⟨by decide, by decide, by decide⟩ | exact ⟨by first | assumption | omega, by first | assumption | omega⟩)
local macro_rules | `(tactic| walk_at "xs") => `(tactic| repeat walk_at "x")
local macro_rules | `(tactic| walk_at "if") => `(tactic| first | with_reducible refine Su.x_iteD (fun c => ?_) (fun c => ?_) | with_reducible refine Su.x_iteN (fun c => ?_) (fun c => ?_) | with_reducible refine Su.x_ite (fun c => ?_) (fun c => ?_))

/-! classes: methods and makers that may be called -/
structure ClM (P : Program) (w : World) (K : PySem.W.Frag) (mg : Str → Option Value) (base : Heap) (CX : CXT) (k : Nat) (C : Addr) (m : Str) (sp : Sp) : Prop where
  cl : Cls K C
  ex : ∃ (f : Addr) (fd : FuncData) (ps : List Str), Meth K C m f ∧ Binds K fd ps [] ∧ FnOk P w K mg base CX k f fd ps sp
structure ClK (P : Program) (w : World) (K : PySem.W.Frag) (mg : Str → Option Value) (base : Heap) (CX : CXT) (k : Nat) (x : Str) (C : Addr) (sp : Sp) (dvs : List V) : Prop where
  ex : ∃ (f : Addr) (fd : FuncData) (ps : List Str) (ds : List Value), Mk K C f ∧ mg x = some (.ref C) ∧ Binds K fd ps ds ∧ Vals dvs ds ∧ FnOk P w K mg base CX k f fd ps sp
section
variable {X : Cx} {CX : CXT} {k j : Nat} {C : Addr} {m x : Str} {sp : Sp} {dvs : List V} {E : XK} {EW : St → XK} {p pos apos : Pos} {e o : Expr} {es : List Expr} {ta : TE} {t : TA}
theorem pe_cm0 {pl : Sem Bool} (c : ClM X.prog X.w X.K X.mg X.base CX k C m sp) (hr : Room j X.A) (hk : k ≤ j) (hx : Passes CX X E) (he : PE X o ta)
    (ht : eval (.Call (.Attribute o m apos) [] [] pos) X.env = (do
      let ov ← eval o X.env
      standAt apos.atName
      let (f, first) ← holding [ov] (getMethod ov m pl)
      callWith pos f first (backTo pos (starEach [] X.env)) (backToKw pos (keywordEach [] X.env))) := by rfl) :
    PE X (.Call (.Attribute o m apos) [] [] pos) (tMeth C m sp [] E ta tNil) := by
  obtain ⟨cl, f, fd, ps, h1, h2, h3⟩ := c
  exact pe_meth0 he cl h1 h3 (hr.mono hk) h2 .nil hx ht
def tMethW (C : Addr) (m : Str) (sp : Sp) (E : St → XK) (ta : TE) (t : TA) : TE := fun σ H Q => ta σ H fun x H1 => ∃ a dx fs, x = .ref a ∧ H1 a = some (.ins C dx fs) ∧ fs.lookup m = none ∧ t σ H1 fun vs H2 => sp (x :: vs) H2 Q (E σ)
def tMakeW (C : Addr) (sp : Sp) (dvs : List V) (E : St → XK) (t : TA) : TE := fun σ H Q => t σ H fun vs H1 => ∀ x dx, H1 x = none → H1 dx = none → dx ≠ x →
  sp (.ref x :: (vs ++ dvs)) (upd (upd H1 dx (.own x)) x (.ins C dx [])) (fun v H2 => v = .non ∧ Q (.ref x) H2) (E σ)
theorem run_makeW {f : Addr} {fd : FuncData} {ps : List Str} {ds : List Value} {pins : List (Addr × Obj)} {σ : St} {H : Hp} {s : Shared} {Q : VK} {us : List Value} {vs : List V} (M : Mk X.K C f) (F : FnOk X.prog X.w X.K X.mg X.base CX k f fd ps sp) (hr : Room (k + 1) X.A) (hb : Binds X.K fd ps ds) (hd : Vals dvs ds)
    (hx : PassesAt CX X σ E) (I : L2.Inv X pins σ H s) (r : Vals vs us)
    (h : ∀ x dx, H x = none → H dx = none → dx ≠ x → sp (.ref x :: (vs ++ dvs)) (upd (upd H dx (.own x)) x (.ins C dx [])) (fun v H2 => v = .non ∧ Q (.ref x) H2) E) :
    wpAny (model X.prog X.w) X.A (call (.ref C) us) (EP X pins σ Q) X.xe s := by
  have begun := h _ _ (I.hok.fresh (Nat.le_succ _)) (I.hok.fresh (Nat.le_refl s.heap.objs.size)) (Nat.ne_of_lt (Nat.lt_succ_self _))
  have J := Inv.made (C := C) I
  have all : Vals (.ref (s.heap.objs.size + 1) :: (vs ++ dvs)) (.ref (s.heap.objs.size + 1) :: (us ++ ds)) := .cons rfl (r.append hd)
  have count : (Value.ref (s.heap.objs.size + 1) :: us ++ ds).length = ps.length := all.length.symm.trans (F.len _ _ _ _ begun)
  have binds : BindsTo _ fd ⟨.ref (s.heap.objs.size + 1) :: us, []⟩ (ps.zip (.ref (s.heap.objs.size + 1) :: (us ++ ds))) := hb _ (.ref (s.heap.objs.size + 1) :: us) J.kIn count
  have run := F.run _ X.stack _ _ ⟨.ref (s.heap.objs.size + 1) :: us, []⟩ (.ref (s.heap.objs.size + 1) :: (us ++ ds)) _ _ E (hr.make C us []) (J.env0.make C us []) binds all begun
  refine wpAny_call (make_map (f := f) I.kIn M.makes M.init (beq_iff_eq.mp M.fn) (codeAny_mono run fun r z hz => ?_))
  match r, hz with
  | .error er, hz => exact hx pins _ _ er z J hz
  | .ok (.ret _), hz =>
    have ⟨v, H', J', rv, isN, post⟩ := J.after hz
    subst isN
    exact ⟨rv, V.ref (s.heap.objs.size + 1), H', J', rfl, post⟩
theorem pe_ckW (c : ClK X.prog X.w X.K X.mg X.base CX k x C sp dvs) (hr : Room j X.A) (hk : k + 1 ≤ j) (hg : Gl X x) (hx : ∀ σ, PassesAt CX X σ (EW σ)) (ha : PA X (e :: es) t)
    (hdb : (x == ("__debug__" : Str)) = false := by decide) (he : starEach (e :: es) X.env = (false, eval e X.env) :: starEach es X.env := by rfl) (hpl : (backTo pos (starEach es X.env)).any (·.1) = false := by rfl) :
    PE X (.Call (.Name x p) (e :: es) [] pos) (tMakeW C sp dvs EW t) := by
  obtain ⟨f, fd, ps, ds, h1, h2, h3, h4, h5⟩ := c.ex
  refine ⟨fun pins s σ H Q I h => ?_⟩
  refine wpAny_Call_Name_kw (ld_glob I hg h2 ?_ hdb)
  refine PySem.W.callWith_K (h₀ := X.base) I.ok.mod.kin h1.kp (thn (ha.run pos pins s σ H _ I h) fun us s1 ⟨vs, H1, I1, r, q⟩ => ⟨I1.kIn, ?_⟩) he hpl
  exact run_makeW h1 h5 (hr.mono hk) h3 h4 (hx σ) I1 r q
end
/-! ### what a class has not -/
def NoAll (K : PySem.W.Frag) (C : Addr) : List Str → Prop
  | [] => True
  | f :: r => NoAttr K C f ∧ NoAll K C r
theorem NoAll.get {K : PySem.W.Frag} {C : Addr} {f : Str} : ∀ {fs : List Str}, NoAll K C fs → f ∈ fs → NoAttr K C f
  | [], _, h => nomatch h
  | g :: r, n, h => by
    rcases List.mem_cons.mp h with e | h
    · rw [e]; exact n.1
    · exact n.2.get h
structure ClsT (K : PySem.W.Frag) (x : Str) (fs : List Str) : Prop where
  cl : Cls K (He.ga K x)
  no : NoAll K (He.ga K x) fs
/-! ### readings -/
section
variable {K : PySem.W.Frag} {σ : St} {H : Hp} {Q : VK} {D : Ends} {ta tv : TE} {f m : Str} {C a : Addr} {sp : Sp} {dvs : List V} {E : XK} {EW : St → XK} {t : TA}
theorem x_fld (h : ta σ H fun x H1 => ∃ a C dx fs v, x = .ref a ∧ H1 a = some (.ins C dx fs) ∧ Cls K C ∧ NoAttr K C f ∧ fs.lookup f = some v ∧ Q v H1) : tFld K ta f σ H Q := h
theorem x_sfld (h : tv σ H fun y H1 => ta σ H1 fun x H2 => ∃ a C dx fs, x = .ref a ∧ H2 a = some (.ins C dx fs) ∧ Cls K C ∧ NoAttr K C f ∧ fs.length < 1000 ∧ D.nx σ (upd H2 a (.ins C dx (putF f y fs)))) : sFld K ta tv f D σ H := h
theorem x_sfldAug {rd : V → V → Hp → VK → Prop} (h : ta σ H fun x H1 => ∃ a C dx fs v, x = .ref a ∧ H1 a = some (.ins C dx fs) ∧ Cls K C ∧ NoAttr K C f ∧ fs.lookup f = some v ∧
  tv σ H1 fun y H2 => rd v y H2 fun z H3 => ∃ dx' fs', H3 a = some (.ins C dx' fs') ∧ fs'.length < 1000 ∧ D.nx σ (upd H3 a (.ins C dx' (putF f z fs')))) : sFldAug K ta tv rd f D σ H := h
theorem x_meth (h : ta σ H fun x H1 => ∃ a dx fs, x = .ref a ∧ H1 a = some (.ins C dx fs) ∧ fs.lookup m = none ∧ t σ H1 fun vs H2 => sp (x :: (vs ++ dvs)) H2 Q E) : tMeth C m sp dvs E ta t σ H Q := h
theorem x_methW (h : ta σ H fun x H1 => ∃ a dx fs, x = .ref a ∧ H1 a = some (.ins C dx fs) ∧ fs.lookup m = none ∧ t σ H1 fun vs H2 => sp (x :: vs) H2 Q (EW σ)) : tMethW C m sp EW ta t σ H Q := h
theorem x_make (h : t σ H fun vs H1 => ∀ x dx, H1 x = none → H1 dx = none → dx ≠ x → sp (.ref x :: (vs ++ dvs)) (upd (upd H1 dx (.own x)) x (.ins C dx [])) (fun v H2 => v = .non ∧ Q (.ref x) H2) E) : tMake C sp dvs E t σ H Q := h
theorem x_makeW (h : t σ H fun vs H1 => ∀ x dx, H1 x = none → H1 dx = none → dx ≠ x → sp (.ref x :: (vs ++ dvs)) (upd (upd H1 dx (.own x)) x (.ins C dx [])) (fun v H2 => v = .non ∧ Q (.ref x) H2) (EW σ)) : tMakeW C sp dvs EW t σ H Q := h
end
/-! ### frames: all but what stands in A is as it was -/
def Off (A : List Addr) (H H' : Hp) : Prop := ∀ b o, b ∉ A → H b = some o → H' b = some o
section
variable {A B : List Addr} {H H1 H2 : Hp} {x : Addr} {o : HO}
theorem Off.refl : Off A H H := fun _ _ _ h => h
theorem Off.of (s : Same H H1) : Off A H H1 := fun b o _ h => s b o h
theorem Off.trans (h : Off A H H1) (k : Off A H1 H2) : Off A H H2 := fun b o n e => k b o n (h b o n e)
theorem Off.mono (h : Off A H H1) (k : ∀ a ∈ A, a ∈ B) : Off B H H1 := fun b o n e => h b o (fun z => n (k b z)) e
theorem Off.upd (h : Off A H H1) (k : x ∈ A) : Off A H (L2.upd H1 x o) := fun b u n e => by rw [upd_ne (fun (z : b = x) => n (by rw [z]; exact k))]; exact h b u n e
theorem Off.hide (h : Off A H H1) : Same (hide A H) (Su.hide A H1) := fun b u e => by
  by_cases c : b ∈ A
  · rw [hide_in c] at e; cases e
  · rw [hide_out c] at e ⊢; exact h b u c e
theorem Off.same (h : Off A H H1) (n : ∀ a ∈ A, H a = none) : Same H H1 := fun b u e => h b u (fun c => by rw [n b c] at e; cases e) e
end
/-! ### cells -/
def Cells (H : Hp) (l : List (Addr × HO)) : Prop := ∀ p ∈ l, H p.1 = some p.2
section
variable {H H1 : Hp} {l m : List (Addr × HO)} {x : Addr} {o : HO}
theorem Cells.nil : Cells H [] := fun _ h => nomatch h
theorem Cells.cons (h : H x = some o) (k : Cells H l) : Cells H ((x, o) :: l) := fun p hp => by
  rcases List.mem_cons.mp hp with rfl | hp
  · exact h
  · exact k p hp
theorem Cells.app (h : Cells H l) (k : Cells H m) : Cells H (l ++ m) := fun p hp => (List.mem_append.mp hp).elim (h p) (k p)
theorem Cells.at_ (h : Cells H l) {j : Nat} (e : l[j]? = some (x, o)) : H x = some o := h (x, o) (List.mem_of_getElem? e)
theorem Cells.same (h : Cells H l) (s : Same H H1) : Cells H1 l := fun p hp => s _ _ (h p hp)
theorem Cells.off {A : List Addr} (h : Cells H l) (s : Off A H H1) (n : ∀ p ∈ l, p.1 ∉ A) : Cells H1 l := fun p hp => s _ _ (n p hp) (h p hp)
theorem Cells.upd (h : Cells H l) (n : x ∉ l.map (·.1)) : Cells (upd H x o) l := fun p hp => by
  rw [upd_ne (fun e => n (List.mem_map.mpr ⟨p, hp, e⟩))]; exact h p hp
theorem Cells.set (h : Cells H l) (nd : (l.map (·.1)).Nodup) {j : Nat} {u : HO} (e : l[j]? = some (x, u)) : Cells (L2.upd H x o) (l.set j (x, o)) := fun p hp => by
  have hj := (List.getElem?_eq_some_iff.mp e).1
  obtain ⟨i, hi, rfl⟩ := List.getElem_of_mem hp
  rw [List.length_set] at hi
  by_cases c : j = i
  · subst c
    rw [List.getElem_set_self]; exact upd_same
  · rw [List.getElem_set_ne c]
    have ne : (l[i]).1 ≠ x := fun z => c (by
      have h1 : (l.map (·.1))[i]'(by rw [List.length_map]; exact hi) = x := by rw [List.getElem_map]; exact z
      have h2 : (l.map (·.1))[j]'(by rw [List.length_map]; exact hj) = x := by
        rw [List.getElem_map, (List.getElem?_eq_some_iff.mp e).2]
      exact (List.getElem_inj nd).mp (h2.trans h1.symm))
    rw [upd_ne ne]
    exact h _ (List.getElem_mem _)
theorem Cells.fresh (h : Cells H l) (n : H x = none) : x ∉ l.map (·.1) := fun c => by
  obtain ⟨p, hp, rfl⟩ := List.mem_map.mp c
  rw [h p hp] at n; cases n
end

end Su
namespace Su
open PySem L2
local macro_rules | `(tactic| walk_at "side") => `(tactic| first | assumption | (show (0 : Int) < _; omega) | (show (0 : Int) ≤ _; omega) | (show (0 : Int) < _; split <;> omega) | (show _ ∨ _; omega) | (show _ ∧ _; omega) | exact ⟨by decide, by decide, by decide⟩ | exact ⟨by first | assumption | omega, by first | assumption | omega⟩)
local macro_rules | `(tactic| walk_at "xs") => `(tactic| repeat walk_at "x")
local macro_rules | `(tactic| walk_at "if") => `(tactic| first | with_reducible refine Su.x_iteD (fun c => ?_) (fun c => ?_) | with_reducible refine Su.x_iteN (fun c => ?_) (fun c => ?_) | with_reducible refine Su.x_ite (fun c => ?_) (fun c => ?_))

/-! NoOrder: an exception with an __init__ of its own -/
/-- the class, called by its name -/
structure ClX (P : Program) (w : World) (K : PySem.W.Frag) (mg : Str → Option Value) (base : Heap) (CX : CXT) (k : Nat) (sp : Sp) : Prop where
  ex : ∃ fd ps, NxC K ∧ mg "NoOrder" = some (.ref (nxC K)) ∧ Binds K fd ps [] ∧ FnOk P w K mg base CX k (He.fAd K ("NoOrder", some "__init__")) fd ps sp
def tRaiseN (K : PySem.W.Frag) (sp : Sp) (ta : TA) (W : WX) : TS := fun _ σ H => NxC K → tMkO (nxC K) sp [] ta σ H fun cls d H' => W cls d σ H'
section
variable {X : Cx} {CX : CXT} {k j : Nat} {sp : Sp} {e : Expr} {es : List Expr} {t : TA} {p pos pos' : Pos} {W : WX}
theorem ps_raiseN (hc : X.calm = true) (tk : Takes X W) (c : ClX X.prog X.w X.K X.mg X.base CX k sp) (hr : Room j X.A) (hk : k + 1 ≤ j) (hg : Gl X "NoOrder") (hx : Passes CX X (fun _ _ _ => False)) (ha : PA X (e :: es) t)
    (he : starEach (e :: es) X.env = (false, eval e X.env) :: starEach es X.env := by rfl) (hpl : (backTo pos (starEach es X.env)).any (·.1) = false := by rfl) : PS X (.Raise (some (.Call (.Name "NoOrder" p) (e :: es) [] pos)) none pos') (tRaiseN X.K sp t W) := by
  obtain ⟨fd, ps, nx, hm, hb, F⟩ := c.ex
  have m := ps_raise (pos := pos') (e := .Call (.Name "NoOrder" p) (e :: es) [] pos) hc tk (pmk_oex nx.x nx.i nx.t F (hr.mono hk) hb .nil hx hg hm ha (by decide) he hpl)
  exact ⟨fun pins s σ H D I h => m.run pins s σ H D I (h nx)⟩
end
/-- what stands there behind the raise -/
structure NoOrd (H H' : Hp) (d : Addr) (e l : Int) (cr : List Nat) : Prop where
  s : Same H H'
  n : H d = none
  ex : ∃ (fs : List (Str × V)) (p : Addr), H' d = some (.xd fs) ∧ fs.lookup ("early" : Str) = some (.int e) ∧ fs.lookup ("late" : Str) = some (.int l) ∧ fs.lookup ("crowd" : Str) = some (.ref p) ∧ H' p = some (.lst (nI cr)) ∧ H p = none ∧ p ≠ d
theorem NoOrd.low {H H1 H' : Hp} {d : Addr} {e l : Int} {cr : List Nat} (h : NoOrd H1 H' d e l cr) (s : Same H H1) : NoOrd H H' d e l cr := by
  obtain ⟨fs, p, a1, a2, a3, a4, a5, a6, a7⟩ := h.ex
  exact ⟨s.trans h.s, s.free h.n, fs, p, a1, a2, a3, a4, a5, s.free a6, a7⟩

end Su
namespace Su
open PySem L2
local macro_rules | `(tactic| walk_at "side") => `(tactic| first | assumption | (show (0 : Int) < _; omega) | (show (0 : Int) ≤ _; omega) | (show (0 : Int) < _; split <;> omega) | (show _ ∨ _; omega) | (show _ ∧ _; omega) | exact ⟨by decide, by decide, by decide⟩ | exact ⟨by first | assumption | omega, by first | assumption | omega⟩)
local macro_rules | `(tactic| walk_at "x") => `(tactic| first | with_reducible refine Su.x_seq ?_ | ((with_reducible show L2.tVar _ _ _ _); refine Su.x_var rfl ?_) | with_reducible refine Su.x_nil ?_ | with_reducible refine Su.x_cons ?_ | with_reducible refine Su.x_cb ?_)
local macro_rules | `(tactic| walk_at "xs") => `(tactic| repeat walk_at "x")
local macro_rules | `(tactic| walk_at "if") => `(tactic| first | with_reducible refine Su.x_iteD (fun c => ?_) (fun c => ?_) | with_reducible refine Su.x_iteN (fun c => ?_) (fun c => ?_) | with_reducible refine Su.x_ite (fun c => ?_) (fun c => ?_))

/-- self.early, self.late, self.crowd -/
def sp_NoOrder_init (K : PySem.W.Frag) : Sp := fun vs H Q _ => ∃ (a : Addr) (e l : Int) (q : Addr) (cr : List Nat), vs = [.ref a, .int e, .int l, .ref q] ∧ NxC K ∧ H a = some (exo a (nxC K) none) ∧ SqL K (Su.del H a) q (nI cr) ∧
  ∀ (d p : Addr) (fs : List (Str × V)) (H' : Hp), H d = none → H p = none → d ≠ a → p ≠ a → p ≠ d → (∀ y u, y ≠ a → H y = some u → H' y = some u) → H' a = some (exo a (nxC K) (some d)) → H' d = some (exd d fs) → H' p = some (.lst (nI cr)) → fs.lookup ("early" : Str) = some (.int e) → fs.lookup ("late" : Str) = some (.int l) → fs.lookup ("crowd" : Str) = some (.ref p) → Q .non H'
theorem x_ost {K : PySem.W.Frag} {f : Str} {to te : TE} {D : Ends} {σ : St} {H : Hp} (h : te σ H fun y H1 => to σ H1 fun x H2 => ∃ a C : Addr, x = .ref a ∧ OexC K C ∧ PySem.W.findIn K (.ref C) f = some none ∧
  ((H2 a = some (exo a C none) ∧ ∀ dx, H2 dx = none → dx ≠ a → D.nx σ (upd (upd H2 dx (exd dx [(f, y)])) a (exo a C (some dx)))) ∨
    ∃ (dx : Addr) (fs : List (Str × V)), H2 a = some (exo a C (some dx)) ∧ H2 dx = some (exd dx fs) ∧ fs.length ≤ 900 ∧ D.nx σ (upd H2 dx (exd dx ((f, y) :: fs))))) : tOst K f to te D σ H := h
theorem x_raiseN {K : PySem.W.Frag} {sp : Sp} {ta : TA} {W : WX} {D : Ends} {σ : St} {H : Hp} (h : NxC K → ta σ H fun vs H1 => vs.length ≤ 1000 ∧ ∀ a, H1 a = none → sp (.ref a :: (vs ++ [])) (upd H1 a (exo a (nxC K) none))
  (fun v H2 => v = .non ∧ ∃ (d : Addr) (fs : List (Str × V)), H2 a = some (exo a (nxC K) (some d)) ∧ H2 d = some (exd d fs) ∧ H1 d = none ∧ W (.ref (nxC K)) (some d) σ (upd (L2.del H2 a) d (.xd fs))) (fun _ _ _ => False)) : tRaiseN K sp ta W D σ H := h
/-- the exception is made -/
theorem no_made {K : PySem.W.Frag} {H : Hp} {e l : Int} {q : Addr} {cr : List Nat} {Q : Option Addr → Hp → Prop} (nx : NxC K) (hq : SqL K H q (nI cr)) (k : ∀ d H', NoOrd H H' d e l cr → Q (some d) H') :
    ([.int e, .int l, .ref q] : List V).length ≤ 1000 ∧ ∀ a, H a = none → sp_NoOrder_init K (.ref a :: ([.int e, .int l, .ref q] ++ [])) (upd H a (exo a (nxC K) none))
      (fun v H2 => v = .non ∧ ∃ (d : Addr) (fs : List (Str × V)), H2 a = some (exo a (nxC K) (some d)) ∧ H2 d = some (exd d fs) ∧ H d = none ∧ Q (some d) (upd (L2.del H2 a) d (.xd fs))) (fun _ _ _ => False) := by
  refine ⟨by show 3 ≤ 1000; decide, fun a na => ⟨a, e, l, q, cr, rfl, nx, upd_same, Same.seq (fun y u hy => ?_) hq, fun d p fs H' nd np da pa pd keep ha hd hp f1 f2 f3 => ?_⟩⟩
  · rw [del_upd]
    unfold Su.del
    rw [if_neg (fun z => by rw [z, na] at hy; cases hy)]; exact hy
  have nd0 : H d = none := by rw [upd_ne da] at nd; exact nd
  have np0 : H p = none := by rw [upd_ne pa] at np; exact np
  refine ⟨rfl, d, fs, ha, hd, nd0, k d _ ⟨fun y u hy => ?_, nd0, fs, p, upd_same, f1, f2, f3, ?_, np0, pd⟩⟩
  · have ya : y ≠ a := fun z => by rw [z, na] at hy; cases hy
    rw [upd_ne (fun z => by rw [z, nd0] at hy; cases hy), L2.del_ne ya]
    exact keep y u ya (by rw [upd_ne ya]; exact hy)
  · rw [upd_ne pd, L2.del_ne pa]; exact hp
abbrev N_NoOrder_init : List Str := ["self", "early", "late", "crowd"]
def t_NoOrder_init (K : PySem.W.Frag) : TS :=
 (tSeq (tOst K "early" (tVar 0) (tVar 1))
 (tSeq (tOst K "late" (tVar 0) (tVar 2))
 (tOst K "crowd" (tVar 0) (tCB (rListOf K) (tCons (tVar 3) tNil)))))

theorem len_NoOrder_init {K : PySem.W.Frag} : ∀ vs H Q E, sp_NoOrder_init K vs H Q E → vs.length = ["a", "b", "c", "d"].length := by
  rintro vs H Q E ⟨_, _, _, _, _, rfl, _⟩; rfl
theorem pure_NoOrder_init {K : PySem.W.Frag} {vs : List V} {H : Hp} {Q : VK} {E : XK} (h : sp_NoOrder_init K vs H Q E) : t_NoOrder_init K { nx := fun _ H' => Q .non H', rt := Q } (start N_NoOrder_init vs) H := by
  obtain ⟨a, e, l, q, cr, rfl, nx, ha, hq, k⟩ := h
  unfold t_NoOrder_init
  walk_at "xs"
  refine x_ost ?_
  walk_at "xs"
  refine ⟨a, nxC K, rfl, nx.x, nx.f1, .inl ⟨ha, fun d nd da => ?_⟩⟩
  have h1a : upd (upd H d (exd d [(("early" : Str), V.int e)])) a (exo a (nxC K) (some d)) a = some (exo a (nxC K) (some d)) := upd_same
  have h1d : upd (upd H d (exd d [(("early" : Str), V.int e)])) a (exo a (nxC K) (some d)) d = some (exd d [(("early" : Str), V.int e)]) := by rw [upd_ne da, upd_same]
  have h1 : ∀ y u, y ≠ a → H y = some u → upd (upd H d (exd d [(("early" : Str), V.int e)])) a (exo a (nxC K) (some d)) y = some u := fun y u ya hy => by
    rw [upd_ne ya, upd_ne (fun z => by rw [z, nd] at hy; cases hy)]; exact hy
  generalize upd (upd H d (exd d [(("early" : Str), V.int e)])) a (exo a (nxC K) (some d)) = H1 at h1a h1d h1
  walk_at "xs"
  refine x_ost ?_
  walk_at "xs"
  refine ⟨a, nxC K, rfl, nx.x, nx.f2, .inr ⟨d, _, h1a, h1d, by show 1 ≤ 900; decide, ?_⟩⟩
  have h2a : upd H1 d (exd d [(("late" : Str), V.int l), (("early" : Str), V.int e)]) a = some (exo a (nxC K) (some d)) := by rw [upd_ne da.symm]; exact h1a
  have h2d : upd H1 d (exd d [(("late" : Str), V.int l), (("early" : Str), V.int e)]) d = some (exd d [(("late" : Str), V.int l), (("early" : Str), V.int e)]) := upd_same
  have h2 : ∀ y u, y ≠ a → H y = some u → upd H1 d (exd d [(("late" : Str), V.int l), (("early" : Str), V.int e)]) y = some u := fun y u ya hy => by
    rw [upd_ne (fun z => by rw [z, nd] at hy; cases hy)]; exact h1 y u ya hy
  generalize upd H1 d (exd d [(("late" : Str), V.int l), (("early" : Str), V.int e)]) = H2 at h2a h2d h2
  have s2 : Same (Su.del H a) H2 := fun y u ey => by
    have ya : y ≠ a := fun z => by
      unfold Su.del at ey
      rw [if_pos z] at ey; cases ey
    exact h2 y u ya (Su.del_same _ _ ey)
  walk_at "xs"
  dsimp only
  refine x_ost ?_
  walk_at "xs"
  refine al_list (s2.seq hq) fun p H3 np s3 hp => ?_
  walk_at "xs"
  have pa : p ≠ a := fun z => by rw [z, h2a] at np; cases np
  have pd : p ≠ d := fun z => by rw [z, h2d] at np; cases np
  have np0 : H p = none := by
    cases c : H p with
    | none => rfl
    | some u => rw [h2 p u pa c] at np; cases np
  refine ⟨a, nxC K, rfl, nx.x, nx.f3, .inr ⟨d, _, s3 _ _ h2a, s3 _ _ h2d, by show 2 ≤ 900; decide, ?_⟩⟩
  refine k d p _ _ nd np0 da pa pd (fun y u ya hy => ?_) (by rw [upd_ne da.symm]; exact s3 _ _ h2a) upd_same (by rw [upd_ne pd]; exact hp) rfl rfl rfl
  rw [upd_ne (fun z => by rw [z, nd] at hy; cases hy)]
  exact s3 _ _ (h2 y u ya hy)

end Su
namespace Su
open PySem L2
local macro_rules | `(tactic| walk_at "side") => `(tactic| first | assumption | (show (0 : Int) < _; omega) | (show (0 : Int) ≤ _; omega) | (show (0 : Int) < _; split <;> omega) | (show _ ∨ _; omega) | (show _ ∧ _; omega) | exact ⟨by decide, by decide, by decide⟩ | exact ⟨by first | assumption | omega, by first | assumption | omega⟩)
local macro_rules | `(tactic| walk_at "x") => `(tactic| first | with_reducible refine Su.x_seq ?_ | with_reducible refine Su.x_asg ?_ | with_reducible refine Su.x_gname ?_ | with_reducible refine Su.x_ret ?_ | with_reducible refine Su.x_ifS ?_ | ((with_reducible show L2.tVar _ _ _ _); refine Su.x_var rfl ?_) | with_reducible refine Su.x_c ?_ | with_reducible refine Su.x_op ?_ | with_reducible refine Su.x_rI0 ?_ | with_reducible refine Su.x_iteF ?_ | with_reducible refine Su.x_iteT ?_ | with_reducible refine Su.x_eqI ?_ | with_reducible refine Su.x_test ?_ | with_reducible refine Su.x_isB' ?_ | with_reducible refine Su.x_and ?_ | with_reducible refine Su.x_or ?_ | with_reducible refine Su.x_nil ?_ | with_reducible refine Su.x_cons ?_ | with_reducible refine Su.x_un ?_ | with_reducible refine Su.x_rU ?_ | with_reducible refine Su.x_next ?_ | with_reducible refine Su.x_for ?_ | with_reducible refine Su.x_iEnum ?_ | with_reducible refine Su.x_gcons ?_ | with_reducible refine Su.x_gnil ?_)
local macro_rules | `(tactic| walk_at "xs") => `(tactic| repeat walk_at "x")
local macro_rules | `(tactic| walk_at "if") => `(tactic| first | with_reducible refine Su.x_iteD (fun c => ?_) (fun c => ?_) | with_reducible refine Su.x_iteN (fun c => ?_) (fun c => ?_) | with_reducible refine Su.x_ite (fun c => ?_) (fun c => ?_))

/-! next_window -/
def sp_next_window (K : PySem.W.Frag) : Sp := fun vs H Q _ => ∃ (v : V) (ws : List (Int × Int)) (p : Addr) (row : List Nat) (t : Int), vs = [v, .ref p, .int t] ∧ Dp K H v (dWin ws) ∧ SqL K H p (nI row) ∧
  ∀ H', Same H H' → Q (.int (optI (nextN ws row t ws.length))) H'
abbrev N_next_window : List Str := ["windows", "row", "turn", "best", "at", "first", "last"]
def t_next_window (K : PySem.W.Frag) : TS :=
 (tSeq (tAsg (tUn rNeg (tC (.int 1))) (gName 3))
 (tSeq (tFor (iEnum K (tCons (tVar 0) tNil)) (gTup K 2 (gCons (gName 4) (gCons (gTup K 2 (gCons (gName 5) (gCons (gName 6) gNil))) gNil)))
 (tIfS (tAnd (tTest (tOp rLe (tVar 5) (tVar 2))) (tTest (tOp (rIn K true) (tVar 4) (tVar 1))))
 (tIfS (tOr (tTest (tOp rEq (tVar 3) (tUn rNeg (tC (.int 1))))) (tTest (tOp rLt (tVar 6) (tOp (rIxT K) (tOp (rIxL K) (tVar 0) (tVar 3)) (tC (.int 1))))))
 (tAsg (tVar 4) (gName 3))
 tNext)
 tNext))
 (tRet (tVar 3))))

theorem len_next_window {K : PySem.W.Frag} : ∀ vs H Q E, sp_next_window K vs H Q E → vs.length = ["a", "b", "c"].length := by
  rintro vs H Q E ⟨_, _, _, _, _, rfl, _⟩; rfl
theorem pure_next_window {K : PySem.W.Frag} {vs : List V} {H : Hp} {Q : VK} {E : XK} (h : sp_next_window K vs H Q E) : t_next_window K { nx := fun _ H' => Q .non H', rt := Q } (start N_next_window vs) H := by
  obtain ⟨v, ws, p, row, t, rfl, hw, hp, k⟩ := h
  obtain ⟨q, xs, rfl, hq, hx, hat⟩ := win_at hw
  unfold t_next_window
  walk_at "xs"
  refine ⟨q, xs, rfl, hq, for_by turnsE (fun i σ H' => ∃ (u v w : Option V), σ = [some (.ref q), some (.ref p), some (.int t), some (.int (optI (nextN ws row t i))), u, v, w] ∧ Same H H')
    ⟨none, none, none, rfl, Same.refl H⟩ (fun i σ H' _ ⟨_, _, _, _, s⟩ => s.seq hq) ?_ ?_⟩
  · rintro i y σ H2 H3 hi ⟨u, v, w, rfl, s2⟩ ⟨x, hx', T, rfl, nT, s3, hT, _⟩
    obtain ⟨wi, t1, ew, rfl, ht⟩ := hat i x hx'
    have hd : ws.getD i (0, 0) = wi := by rw [List.getD_eq_getElem?_getD, ew]; rfl
    have h1 : w1 ws i = wi.1 := by unfold w1; rw [hd]
    have h2 : w2 ws i = wi.2 := by unfold w2; rw [hd]
    have s4 := s2.trans s3
    refine x_gtup (SqT.of hT) rfl ?_
    walk_at "xs"
    refine x_gtup (seqT_same s4 ht) rfl ?_
    walk_at "xs"
    have en : nextN ws row t (i + 1) = if rdy ws row t i = true then pick ws i (nextN ws row t i) else nextN ws row t i := rfl
    walk_at "if"
    · rename_i c1
      walk_at "xs"
      refine x_notInN (s4.seq hp) ?_
      walk_at "xs"
      walk_at "if"
      · rename_i c2
        have r : rdy ws row t i = true := by unfold rdy; rw [h1]; simp [c1, c2]
        rw [if_pos r] at en
        walk_at "xs"
        cases e : nextN ws row t i with
        | none =>
          rw [e] at en
          walk_at "xs"
          walk_at "if"
          · walk_at "xs"
            exact ⟨_, _, _, by rw [en]; rfl, s4⟩
          · rename_i c3; exact absurd rfl c3
        | some b =>
          rw [e] at en
          have hb := (nextN_some e).1
          walk_at "if"
          · rename_i c3
            have : (b : Int) = -1 := c3
            omega
          · walk_at "xs"
            refine x_winix (dp_same s4 hw) (by show (0 : Int) ≤ (b : Int); omega) (by show (b : Int) < _; omega) fun t2 ht2 => ?_
            walk_at "xs"
            refine x_ix1 ht2 ?_
            walk_at "xs"
            have eb : (ws.getD (optI (some b)).toNat (0, 0)).2 = w2 ws b := rfl
            rw [eb, ← h2]
            walk_at "if"
            · rename_i c4
              walk_at "xs"
              exact ⟨_, _, _, by rw [en]; unfold pick; simp only; rw [if_pos c4]; rfl, s4⟩
            · rename_i c4
              walk_at "xs"
              exact ⟨_, _, _, by rw [en]; unfold pick; simp only; rw [if_neg c4]; rfl, s4⟩
      · rename_i c2
        have r : rdy ws row t i = false := by unfold rdy; simp [c2]
        rw [r, if_neg Bool.false_ne_true] at en
        walk_at "xs"
        exact ⟨_, _, _, by rw [en]; rfl, s4⟩
    · rename_i c1
      have r : rdy ws row t i = false := by unfold rdy; rw [h1]; simp [c1]
      rw [r, if_neg Bool.false_ne_true] at en
      walk_at "xs"
      exact ⟨_, _, _, by rw [en]; rfl, s4⟩
  · rintro σ H2 ⟨u, v, w, rfl, s2⟩
    walk_at "xs"
    rw [hx]
    exact k H2 s2

end Su
namespace Su
open PySem L2
local macro_rules | `(tactic| walk_at "side") => `(tactic| first | assumption | (show (0 : Int) < _; omega) | (show (0 : Int) ≤ _; omega) | (show (0 : Int) < _; split <;> omega) | (show _ ∨ _; omega) | (show _ ∧ _; omega) | exact ⟨by decide, by decide, by decide⟩ | exact ⟨by first | assumption | omega, by first | assumption | omega⟩)
local macro_rules | `(tactic| walk_at "x") => `(tactic| first | with_reducible refine Su.x_seq ?_ | with_reducible refine Su.x_asg ?_ | with_reducible refine Su.x_gname ?_ | with_reducible refine Su.x_ret ?_ | ((with_reducible show L2.tVar _ _ _ _); refine Su.x_var rfl ?_) | with_reducible refine Su.x_c ?_ | with_reducible refine Su.x_op ?_ | with_reducible refine Su.x_rI0 ?_ | with_reducible refine Su.x_rGt ?_ | with_reducible refine Su.x_test ?_ | with_reducible refine Su.x_isB' ?_ | with_reducible refine Su.x_and ?_ | with_reducible refine Su.x_nil ?_ | with_reducible refine Su.x_cons ?_ | with_reducible refine Su.x_call ?_ | with_reducible refine Su.x_tup ?_ | with_reducible refine Su.x_whileN ?_ | with_reducible refine Su.x_ipI ?_ | ((with_reducible show L2.tAug _ _ _ _ _ _); refine Su.x_aug rfl ?_))
local macro_rules | `(tactic| walk_at "xs") => `(tactic| repeat walk_at "x")
local macro_rules | `(tactic| walk_at "if") => `(tactic| first | with_reducible refine Su.x_iteD (fun c => ?_) (fun c => ?_) | with_reducible refine Su.x_iteN (fun c => ?_) (fun c => ?_) | with_reducible refine Su.x_ite (fun c => ?_) (fun c => ?_))

/-! bar_of -/
def sp_bar_of (K : PySem.W.Frag) : Sp := fun vs H Q _ => ∃ (v : V) (ws : List (Int × Int)) (p : Addr) (row : List Nat) (late : Int), vs = [v, .ref p, .int late] ∧ Dp K H v (dWin ws) ∧ SqL K H p (nI row) ∧ ws.length ≤ 1000 ∧ 0 ≤ late ∧ late ≤ row.length ∧ (∀ x ∈ row, x < ws.length) ∧
  ∀ v' H', Same H H' → PaperAt H H' v' (barOf ws row late) → Q v' H'
abbrev N_bar_of : List Str := ["windows", "row", "late", "early"]
def t_bar_of (K : PySem.W.Frag) : TS :=
 (tSeq (tAsg (tOp rAdd (tVar 2) (tC (.int 1))) (gName 3))
 (tSeq (tWhile (tAnd (tTest (tOp rGt (tVar 3) (tC (.int 1)))) (tTest (tOp rLe (tOp (rIxT K) (tOp (rIxL K) (tVar 0) (tOp (rIxL K) (tVar 1) (tOp rSub (tVar 3) (tC (.int 2))))) (tC (.int 1))) (tVar 2))))
 (tAug 3 (tC (.int 1)) (ipI fun i j => i - j)))
 (tRet (tTup (tCons (tC (.str "bar")) (tCons (tVar 3) (tCons (tVar 2) (tCons (tCall (sp_within K) [] E0 (tCons (tVar 0) (tCons (tVar 3) (tCons (tVar 2) tNil)))) tNil))))))))

theorem len_bar_of {K : PySem.W.Frag} : ∀ vs H Q E, sp_bar_of K vs H Q E → vs.length = ["a", "b", "c"].length := by
  rintro vs H Q E ⟨_, _, _, _, _, rfl, _⟩; rfl
theorem pure_bar_of {K : PySem.W.Frag} {vs : List V} {H : Hp} {Q : VK} {E : XK} (h : sp_bar_of K vs H Q E) : t_bar_of K { nx := fun _ H' => Q .non H', rt := Q } (start N_bar_of vs) H := by
  obtain ⟨v, ws, p, row, late, rfl, hw, hp, hl, l0, l1, hr, k⟩ := h
  obtain ⟨q, xs, rfl, hq, hx, hat⟩ := win_at hw
  unfold t_bar_of
  walk_at "xs"
  have fin : ∀ j : Nat, downTo ws row late j = downTo ws row late late.toNat → downTo ws row late j = j →
      (tRet (tTup (tCons (tC (.str "bar")) (tCons (tVar 3) (tCons (tVar 2) (tCons (tCall (sp_within K) [] E0 (tCons (tVar 0) (tCons (tVar 3) (tCons (tVar 2) tNil)))) tNil)))))) { nx := fun _ H' => Q .non H', rt := Q } [some (.ref q), some (.ref p), some (.int late), some (.int ((j : Int) + 1))] H := by
    intro j e1 e2
    walk_at "xs"
    refine ⟨_, ws, (j : Int) + 1, late, rfl, hw, hl, fun c H1 nc s1 hc => ?_⟩
    walk_at "xs"
    refine al_tup fun t H2 nt s2 ht => ?_
    have e3 : downTo ws row late late.toNat = j := by rw [← e1, e2]
    refine k _ H2 (s1.trans s2) ?_
    unfold barOf
    rw [e3]
    exact ⟨t, c, rfl, s1.free nt, nc, ht, s2 _ _ hc⟩
  refine ⟨fun m σ H' => ∃ j : Nat, σ = [some (.ref q), some (.ref p), some (.int late), some (.int ((j : Int) + 1))] ∧ H = H' ∧ j ≤ late.toNat ∧ downTo ws row late j = downTo ws row late late.toNat ∧ j = m, ⟨_, late.toNat, by rw [Int.toNat_of_nonneg l0]; rfl, rfl, Nat.le_refl _, rfl, rfl⟩, ?_⟩
  rintro m σ H2 ⟨j, rfl, rfl, hj, hd, rfl⟩
  walk_at "xs"
  walk_at "if"
  · rename_i c1
    obtain ⟨j', rfl⟩ : ∃ j', j = j' + 1 := ⟨j - 1, by omega⟩
    walk_at "xs"
    refine x_ixL hp (at_getN (by omega) (by omega)) ?_
    have e0 : (((j' + 1 : Nat) : Int) + 1 - 2).toNat = j' := by omega
    rw [e0]
    have hjl : j' < row.length := by omega
    have hg : row.getD j' 0 < ws.length := by
      rw [List.getD_eq_getElem?_getD, List.getElem?_eq_getElem hjl]
      exact hr _ (List.getElem_mem _)
    refine x_winix hw (by omega) (by omega) fun t2 ht2 => ?_
    walk_at "xs"
    refine x_ix1 ht2 ?_
    walk_at "xs"
    have eb : (ws.getD ((row.getD j' 0 : Nat) : Int).toNat (0, 0)).2 = w2 ws (row.getD j' 0) := rfl
    rw [eb]
    have ed : downTo ws row late (j' + 1) = if w2 ws (row.getD j' 0) ≤ late then downTo ws row late j' else j' + 1 := rfl
    walk_at "if"
    · rename_i c2
      walk_at "xs"
      rw [if_pos c2] at ed
      exact ⟨_, Nat.lt_succ_self _, j', by show [_, _, _, some (V.int ((((j' + 1 : Nat) : Int) + 1) - 1))] = _; rw [show (((j' + 1 : Nat) : Int) + 1) - 1 = (j' : Int) + 1 by omega], rfl, by omega, by rw [← hd, ed], rfl⟩
    · rename_i c2
      rw [if_neg c2] at ed
      exact fin (j' + 1) hd ed
  · rename_i c1
    have : j = 0 := by omega
    subst this
    refine x_iteF ?_
    exact fin 0 hd rfl

end Su
namespace Su
open PySem L2
local macro_rules | `(tactic| walk_at "side") => `(tactic| first | assumption | (show (0 : Int) < _; omega) | (show (0 : Int) ≤ _; omega) | (show (0 : Int) < _; split <;> omega) | (show _ ∨ _; omega) | (show _ ∧ _; omega) | exact ⟨by decide, by decide, by decide⟩ | exact ⟨by first | assumption | omega, by first | assumption | omega⟩)
local macro_rules | `(tactic| walk_at "x") => `(tactic| first | with_reducible refine Su.x_seq ?_ | with_reducible refine Su.x_asg ?_ | with_reducible refine Su.x_gname ?_ | with_reducible refine Su.x_drop ?_ | with_reducible refine Su.x_ret ?_ | with_reducible refine Su.x_ifS ?_ | ((with_reducible show L2.tVar _ _ _ _); refine Su.x_var rfl ?_) | with_reducible refine Su.x_c ?_ | with_reducible refine Su.x_op ?_ | with_reducible refine Su.x_rI0 ?_ | with_reducible refine Su.x_eqI ?_ | with_reducible refine Su.x_test ?_ | with_reducible refine Su.x_isB' ?_ | with_reducible refine Su.x_nil ?_ | with_reducible refine Su.x_cons ?_ | with_reducible refine Su.x_cb ?_ | with_reducible refine Su.x_call ?_ | with_reducible refine Su.x_un ?_ | with_reducible refine Su.x_rU ?_ | with_reducible refine Su.x_lst ?_ | with_reducible refine Su.x_tup ?_ | with_reducible refine Su.x_bmL ?_ | with_reducible refine Su.x_next ?_ | with_reducible refine Su.x_for ?_ | with_reducible refine Su.x_iRng2 ?_)
local macro_rules | `(tactic| walk_at "xs") => `(tactic| repeat walk_at "x")
local macro_rules | `(tactic| walk_at "if") => `(tactic| first | with_reducible refine Su.x_iteD (fun c => ?_) (fun c => ?_) | with_reducible refine Su.x_iteN (fun c => ?_) (fun c => ?_) | with_reducible refine Su.x_ite (fun c => ?_) (fun c => ?_))

/-! order_or_bar -/
def sp_order_or_bar (K : PySem.W.Frag) : Sp := fun vs H Q _ => ∃ (v : V) (ws : List (Int × Int)), vs = [v] ∧ Dp K H v (dWin ws) ∧ ws.length ≤ 1000 ∧ WinOk ws.length ws ∧
  ∀ v' H', Same H H' → PaperAt H H' v' (paperOf ws) → Q v' H'
abbrev N_order_or_bar : List Str := ["windows", "row", "size", "turn", "at"]
def t_order_or_bar (K : PySem.W.Frag) : TS :=
 (tSeq (tAsg (tLst tNil) (gName 1))
 (tSeq (tAsg (tCB (rLenSeq K) (tCons (tVar 0) tNil)) (gName 2))
 (tSeq (tFor (iRng2 (tCons (tC (.int 1)) (tCons (tOp rAdd (tVar 2) (tC (.int 1))) tNil))) (gName 3)
 (tSeq (tAsg (tCall (sp_next_window K) [] E0 (tCons (tVar 0) (tCons (tVar 1) (tCons (tVar 3) tNil)))) (gName 4))
 (tSeq (tIfS (tTest (tOp rEq (tVar 4) (tUn rNeg (tC (.int 1)))))
 (tRet (tTup (tCons (tC (.str "bar")) (tCons (tOp rAdd (tVar 3) (tC (.int 1))) (tCons (tVar 2) (tCons (tCall (sp_within K) [] E0 (tCons (tVar 0) (tCons (tOp rAdd (tVar 3) (tC (.int 1))) (tCons (tVar 2) tNil)))) tNil))))))
 tNext)
 (tSeq (tIfS (tTest (tOp rLt (tOp (rIxT K) (tOp (rIxL K) (tVar 0) (tVar 4)) (tC (.int 1))) (tVar 3)))
 (tRet (tCall (sp_bar_of K) [] E0 (tCons (tVar 0) (tCons (tVar 1) (tCons (tOp (rIxT K) (tOp (rIxL K) (tVar 0) (tVar 4)) (tC (.int 1))) tNil)))))
 tNext)
 (tDrop (tBM K "list" rAppend (tVar 1) (tCons (tVar 4) tNil)))))))
 (tRet (tTup (tCons (tC (.str "order")) (tCons (tVar 1) tNil)))))))

theorem len_order_or_bar {K : PySem.W.Frag} : ∀ vs H Q E, sp_order_or_bar K vs H Q E → vs.length = ["a"].length := by
  rintro vs H Q E ⟨_, _, rfl, _⟩; rfl
theorem pure_order_or_bar {K : PySem.W.Frag} {vs : List V} {H : Hp} {Q : VK} {E : XK} (h : sp_order_or_bar K vs H Q E) : t_order_or_bar K { nx := fun _ H' => Q .non H', rt := Q } (start N_order_or_bar vs) H := by
  obtain ⟨v, ws, rfl, hw, hl, ok, k⟩ := h
  obtain ⟨q, xs, rfl, hq, hx, hat⟩ := win_at hw
  unfold t_order_or_bar
  walk_at "xs"
  refine al_lst fun p H1 np s1 hp => ?_
  walk_at "xs"
  refine x_lenL (s1.seq hq) ?_
  rw [hx]
  walk_at "xs"
  have en : ((ws.length : Int) + 1 - 1).toNat = ws.length := by omega
  refine ⟨1, (ws.length : Int) + 1, rfl, ⟨by decide, by decide, by omega, by omega⟩, ?_⟩
  rw [en]
  refine for_by turnsR (fun i σ H' => ∃ (row : List Nat) (u v : Option V), σ = [some (.ref q), some (.ref p), some (.int ws.length), u, v] ∧ Same H H' ∧ H' p = some (.lst (nI row)) ∧ row.length = i ∧ Greedy ws row ∧ ordB ws (ws.length - i) row = paperOf ws)
    ⟨[], none, none, rfl, s1, hp, rfl, greedy_nil, rfl⟩ (fun _ _ _ _ _ => trivial) ?_ ?_
  · rintro i y σ H2 _ hi ⟨row, u, v, rfl, s2, hp2, hr, g, hB⟩ ⟨rfl, rfl⟩
    obtain ⟨m, hm⟩ : ∃ m, ws.length - i = m + 1 := ⟨ws.length - i - 1, by omega⟩
    rw [hm] at hB
    have hB' : (match nextN ws row ((row.length : Int) + 1) ws.length with
      | none => .bar ((row.length : Int) + 2) ws.length (wIn ws ((row.length : Int) + 2) ws.length)
      | some c => if w2 ws c < (row.length : Int) + 1 then barOf ws row (w2 ws c) else ordB ws m (row ++ [c])) = paperOf ws := hB
    have et : (1 : Int) + (i : Int) = (row.length : Int) + 1 := by omega
    walk_at "xs"
    refine ⟨_, ws, p, row, _, rfl, dp_same s2 hw, SqL.of hp2, fun H3 s3 => ?_⟩
    rw [et]
    have hp3 := s3 _ _ hp2
    have s23 := s2.trans s3
    walk_at "xs"
    cases e : nextN ws row ((row.length : Int) + 1) ws.length with
    | none =>
      rw [e] at hB'
      walk_at "if"
      · walk_at "xs"
        refine ⟨_, ws, (row.length : Int) + 1 + 1, ws.length, rfl, dp_same s23 hw, hl, fun c H4 nc s4 hc => ?_⟩
        walk_at "xs"
        refine al_tup fun t H5 nt s5 ht => ?_
        refine k _ H5 ((s23.trans s4).trans s5) ?_
        rw [← hB']
        rw [show (row.length : Int) + 1 + 1 = (row.length : Int) + 2 by omega] at hc ht
        exact ⟨t, c, rfl, (s23.trans s4).free nt, s23.free nc, ht, s5 _ _ hc⟩
      · rename_i c; exact absurd rfl c
    | some c =>
      rw [e] at hB'
      have hB' : (if w2 ws c < (row.length : Int) + 1 then barOf ws row (w2 ws c) else ordB ws m (row ++ [c])) = paperOf ws := hB'
      obtain ⟨c1, c2, c3⟩ := nextN_some e
      walk_at "if"
      · rename_i z
        have : (c : Int) = -1 := z
        omega
      walk_at "xs"
      refine x_winix (dp_same s23 hw) (by show (0 : Int) ≤ (c : Int); omega) (by show (c : Int) < _; omega) fun t2 ht2 => ?_
      walk_at "xs"
      refine x_ix1 ht2 ?_
      walk_at "xs"
      have eb : (ws.getD (optI (some c)).toNat (0, 0)).2 = w2 ws c := rfl
      rw [eb]
      walk_at "if"
      · rename_i z
        rw [if_pos z] at hB'
        have wk := win_ok ok c1
        walk_at "xs"
        refine x_winix (dp_same s23 hw) (by show (0 : Int) ≤ (c : Int); omega) (by show (c : Int) < _; omega) fun t3 ht3 => ?_
        walk_at "xs"
        refine x_ix1 ht3 ?_
        walk_at "xs"
        refine ⟨_, ws, p, row, w2 ws c, rfl, dp_same s23 hw, SqL.of hp3, hl, by omega, by omega, g.lt, fun v' H4 s4 hP => ?_⟩
        refine k v' H4 (s23.trans s4) ?_
        rw [← hB']
        revert hP
        unfold barOf PaperAt
        rintro ⟨t, p', h1, h2, h3, h4⟩
        exact ⟨t, p', h1, s23.free h2, s23.free h3, h4⟩
      · rename_i z
        rw [if_neg z] at hB'
        walk_at "xs"
        refine ⟨tyL (SqL.of hp3), ?_⟩
        walk_at "xs"
        refine x_append hp3 (small (by rw [nI_len]; omega)) ?_
        refine ⟨row ++ [c], _, _, rfl, same_upd s23 np, ?_, by rw [List.length_append]; simp; exact hr, greedy_snoc g e z, ?_⟩
        · rw [upd_same, nI_snoc]; rfl
        · rw [show ws.length - (i + 1) = m by omega]; exact hB'
  · rintro σ H2 ⟨row, u, v, rfl, s2, hp2, hr, g, hB⟩
    rw [Nat.sub_self] at hB
    walk_at "xs"
    refine al_tup fun t H3 nt s3 ht => ?_
    refine k _ H3 (s2.trans s3) ?_
    rw [← hB]
    exact ⟨t, p, rfl, s2.free nt, np, ht, s3 _ _ hp2⟩

end Su
namespace Su
open PySem L2
local macro_rules | `(tactic| walk_at "side") => `(tactic| first | assumption | (show (0 : Int) < _; omega) | (show (0 : Int) ≤ _; omega) | (show (0 : Int) < _; split <;> omega) | (show _ ∨ _; omega) | (show _ ∧ _; omega) | exact ⟨by decide, by decide, by decide⟩ | exact ⟨by first | assumption | omega, by first | assumption | omega⟩)
local macro_rules | `(tactic| walk_at "x") => `(tactic| first | with_reducible refine Su.x_seq ?_ | with_reducible refine Su.x_asg ?_ | with_reducible refine Su.x_gname ?_ | with_reducible refine Su.x_ret ?_ | with_reducible refine Su.x_ifS ?_ | ((with_reducible show L2.tVar _ _ _ _); refine Su.x_var rfl ?_) | with_reducible refine Su.x_c ?_ | with_reducible refine Su.x_op ?_ | with_reducible refine Su.x_rI0 ?_ | ((with_reducible refine Su.x_rI ?_ ?_); focus walk_at "side") | with_reducible refine Su.x_test ?_ | with_reducible refine Su.x_isB' ?_ | with_reducible refine Su.x_next ?_)
local macro_rules | `(tactic| walk_at "xs") => `(tactic| repeat walk_at "x")
local macro_rules | `(tactic| walk_at "if") => `(tactic| first | with_reducible refine Su.x_iteD (fun c => ?_) (fun c => ?_) | with_reducible refine Su.x_iteN (fun c => ?_) (fun c => ?_) | with_reducible refine Su.x_ite (fun c => ?_) (fun c => ?_))

/-! first_covered -/
def firstCov (s n p : Int) : Int := if n - p / s < 1 then 1 else n - p / s
def sp_first_covered (K : PySem.W.Frag) : Sp := fun vs H Q _ => ∃ s n p : Int, vs = [.int s, .int n, .int p] ∧ 0 < s ∧ s.natAbs.log2 < 9000 ∧ Q (.int (firstCov s n p)) H
abbrev N_first_covered : List Str := ["stake", "seats", "pledge", "early"]
def t_first_covered (K : PySem.W.Frag) : TS :=
 (tSeq (tAsg (tOp rSub (tVar 1) (tOp rDivW (tVar 2) (tVar 0))) (gName 3))
 (tSeq (tIfS (tTest (tOp rLt (tVar 3) (tC (.int 1))))
 (tRet (tC (.int 1)))
 tNext)
 (tRet (tVar 3))))

theorem len_first_covered {K : PySem.W.Frag} : ∀ vs H Q E, sp_first_covered K vs H Q E → vs.length = ["stake", "seats", "pledge"].length := by
  rintro vs H Q E ⟨s, n, p, rfl, _⟩; rfl
theorem pure_first_covered {K : PySem.W.Frag} {vs : List V} {H : Hp} {Q : VK} {E : XK} (h : sp_first_covered K vs H Q E) : t_first_covered K { nx := fun _ H' => Q .non H', rt := Q } (start N_first_covered vs) H := by
  obtain ⟨s, n, p, rfl, hs, hl, k⟩ := h
  unfold t_first_covered
  walk_at "xs"
  walk_at "if"
  · walk_at "xs"
    have e : firstCov s n p = 1 := if_pos (by assumption)
    rw [← e]; exact k
  · walk_at "xs"
    have e : firstCov s n p = n - p / s := if_neg (by assumption)
    rw [e] at k; exact k

end Su
namespace Su
open PySem L2
local macro_rules | `(tactic| walk_at "side") => `(tactic| first | assumption | (show (0 : Int) < _; omega) | (show (0 : Int) ≤ _; omega) | (show (0 : Int) < _; split <;> omega) | (show _ ∨ _; omega) | (show _ ∧ _; omega) | exact ⟨by decide, by decide, by decide⟩ | exact ⟨by first | assumption | omega, by first | assumption | omega⟩)
local macro_rules | `(tactic| walk_at "xs") => `(tactic| repeat walk_at "x")
local macro_rules | `(tactic| walk_at "if") => `(tactic| first | with_reducible refine Su.x_iteD (fun c => ?_) (fun c => ?_) | with_reducible refine Su.x_iteN (fun c => ?_) (fun c => ?_) | with_reducible refine Su.x_ite (fun c => ?_) (fun c => ?_))

/-! a list of windows that is changed by place -/
def WinAt (K : PySem.W.Frag) (H : Hp) (p : Addr) (ws : List (Int × Int)) : Prop := ∃ xs, H p = some (.lst xs) ∧ DpAll K (del H p) xs (ws.map dPair)
section
variable {K : PySem.W.Frag} {H H' : Hp} {p t : Addr} {ws : List (Int × Int)}
theorem WinAt.dp (h : WinAt K H p ws) : Dp K H (.ref p) (dWin ws) := by
  obtain ⟨xs, h1, h2⟩ := h
  exact .lst (SqL.of h1) (dpAll_same del_same h2)
theorem WinAt.same (h : WinAt K H p ws) (s : Same H H') : WinAt K H' p ws := by
  obtain ⟨xs, h1, h2⟩ := h
  exact ⟨xs, s _ _ h1, dpAll_same (del_mono s) h2⟩
theorem WinAt.lst (h : WinAt K H p ws) : ∃ xs, H p = some (.lst xs) ∧ xs.length = ws.length := by
  obtain ⟨xs, h1, h2⟩ := h
  exact ⟨xs, h1, by rw [dpAll_len h2, List.length_map]⟩
theorem rep_flat {v : V} : ∀ n, (List.replicate n [v]).flatten = List.replicate n v
  | 0 => rfl
  | n + 1 => by rw [List.replicate_succ, List.flatten_cons, rep_flat n, List.replicate_succ]; rfl
theorem al_rep {l : Addr} {v : V} {n : Nat} {Q : VK} (h : H l = some (.lst [v])) (hn : n ≤ 100000) (q : ∀ p H', H p = none → Same H H' → H' p = some (.lst (List.replicate n v)) → (∀ b, b ≠ p → H' b = H b) → Q (.ref p) H') : rRep (.ref l) (.int n) H Q := by
  refine ⟨l, n, [v], rfl, rfl, h, by omega, by omega, Nat.le_of_lt (small (by simp; omega)), fun p np => ?_⟩
  refine q p _ np (same_new (Same.refl H) np) ?_ fun b hb => upd_ne hb
  rw [upd_same, Int.toNat_natCast, rep_flat]
end
end Su
namespace Su
open PySem L2
local macro_rules | `(tactic| walk_at "side") => `(tactic| first | assumption | (show (0 : Int) < _; omega) | (show (0 : Int) ≤ _; omega) | (show (0 : Int) < _; split <;> omega) | (show _ ∨ _; omega) | (show _ ∧ _; omega) | exact ⟨by decide, by decide, by decide⟩ | exact ⟨by first | assumption | omega, by first | assumption | omega⟩)
local macro_rules | `(tactic| walk_at "xs") => `(tactic| repeat walk_at "x")
local macro_rules | `(tactic| walk_at "if") => `(tactic| first | with_reducible refine Su.x_iteD (fun c => ?_) (fun c => ?_) | with_reducible refine Su.x_iteN (fun c => ?_) (fun c => ?_) | with_reducible refine Su.x_ite (fun c => ?_) (fun c => ?_))

/-! a circle: its mirror, and how it stands in the heap -/
inductive Seat where
  | waits | drew | fell
  deriving DecidableEq
def Seat.s : Seat → Str
  | .waits => "waits"
  | .drew => "drew"
  | .fell => "fell"
structure SeatR where
  st : Seat := .waits
  wh : Int := 0
  pl : Int := 0
  gv : Int := 0
  dr : Int := 0
  sh : Int := 0
  ms : Int := 0
  fl : List Int := []
instance : Inhabited SeatR := ⟨{}⟩
structure CS where
  stake : Int
  bidding : Bool
  now : Nat
  line : List Nat
  due : Nat
  chest : Int
  seats : List SeatR
abbrev CS.size (st : CS) : Nat := st.seats.length
abbrev CS.get (st : CS) (i : Nat) : SeatR := st.seats.getD i {}
abbrev CS.mod (st : CS) (i : Nat) (f : SeatR → SeatR) : CS := { st with seats := st.seats.modify i f }
def cirNames : List Str := ["stake", "size", "bidding", "now", "line", "due", "chest", "state", "when", "pledged", "given", "drawn", "shared", "missed", "flows"]
def cirFs (a : Nat → Addr) (st : CS) : List (Str × V) := [("stake", .int st.stake), ("size", .int st.size), ("bidding", .bl st.bidding), ("now", .int st.now), ("line", .ref (a 2)), ("due", .int st.due), ("chest", .int st.chest), ("state", .ref (a 3)), ("when", .ref (a 4)),
  ("pledged", .ref (a 5)), ("given", .ref (a 6)), ("drawn", .ref (a 7)), ("shared", .ref (a 8)), ("missed", .ref (a 9)), ("flows", .ref (a 10))]
abbrev intsO (l : List Int) : HO := .lst (l.map V.int)
def cirCell (K : PySem.W.Frag) (a : Nat → Addr) (st : CS) : Nat → HO
  | 0 => .ins (He.ga K "Circle") (a 1) (cirFs a st)
  | 1 => .own (a 0)
  | 2 => .lst (nI st.line)
  | 3 => .lst (st.seats.map fun r => .str r.st.s)
  | 4 => .lst (st.seats.map fun r => .int r.wh)
  | 5 => .lst (st.seats.map fun r => .int r.pl)
  | 6 => .lst (st.seats.map fun r => .int r.gv)
  | 7 => .lst (st.seats.map fun r => .int r.dr)
  | 8 => .lst (st.seats.map fun r => .int r.sh)
  | 9 => .lst (st.seats.map fun r => .int r.ms)
  | 10 => .lst ((List.range st.size).map fun i => .ref (a (11 + i)))
  | n + 11 => intsO (st.get n).fl
def cirFoot (a : Nat → Addr) (n : Nat) : List Addr := (List.range (11 + n)).map a
structure CirAt (K : PySem.W.Frag) (H : Hp) (a : Nat → Addr) (st : CS) : Prop where
  t : ClsT K "Circle" cirNames
  inj : ∀ i j, i < 11 + st.size → j < 11 + st.size → a i = a j → i = j
  at_ : ∀ j, j < 11 + st.size → H (a j) = some (cirCell K a st j)
section
variable {K : PySem.W.Frag} {H H' : Hp} {a : Nat → Addr} {st st' : CS} {Q : VK} {D : Ends} {σ : St}
theorem mem_foot {n j : Nat} (h : j < 11 + n) : a j ∈ cirFoot a n := List.mem_map.mpr ⟨j, List.mem_range.mpr h, rfl⟩
theorem CirAt.same (h : CirAt K H a st) (s : Same H H') : CirAt K H' a st := ⟨h.t, h.inj, fun j hj => s _ _ (h.at_ j hj)⟩
theorem CirAt.off (h : CirAt K H a st) {A : List Addr} (s : Off A H H') (n : ∀ b ∈ cirFoot a st.size, b ∉ A) : CirAt K H' a st := ⟨h.t, h.inj, fun j hj => s _ _ (n _ (mem_foot hj)) (h.at_ j hj)⟩
theorem CirAt.fresh (h : CirAt K H a st) {x : Addr} (n : H x = none) : x ∉ cirFoot a st.size := fun c => by
  obtain ⟨j, hj, rfl⟩ := List.mem_map.mp c
  rw [h.at_ j (List.mem_range.mp hj)] at n; cases n
/-! fields -/
theorem c_fld {f : Str} {v : V} {P : V → Prop} (h : CirAt K H a st) (m : f ∈ cirNames) (l : (cirFs a st).lookup f = some v) (q : P v) : ∃ a' C dx fs v', V.ref (a 0) = .ref a' ∧ H a' = some (.ins C dx fs) ∧ Cls K C ∧ NoAttr K C f ∧ fs.lookup f = some v' ∧ P v' :=
  ⟨a 0, _, _, _, v, rfl, h.at_ 0 (by omega), h.t.cl, h.t.no.get m, l, q⟩
theorem c_meth {m : Str} {P : Prop} (h : CirAt K H a st) (l : (cirFs a st).lookup m = none) (q : P) : ∃ a' dx fs, V.ref (a 0) = .ref a' ∧ H a' = some (.ins (He.ga K "Circle") dx fs) ∧ fs.lookup m = none ∧ P := ⟨a 0, _, _, rfl, h.at_ 0 (by omega), l, q⟩
theorem c_stake {P : V → Prop} (h : CirAt K H a st) (q : P (.int st.stake)) : ∃ a' C dx fs v', V.ref (a 0) = .ref a' ∧ H a' = some (.ins C dx fs) ∧ Cls K C ∧ NoAttr K C ("stake" : Str) ∧ fs.lookup ("stake" : Str) = some v' ∧ P v' := c_fld h (by decide +kernel) rfl q
theorem c_size {P : V → Prop} (h : CirAt K H a st) (q : P (.int st.size)) : ∃ a' C dx fs v', V.ref (a 0) = .ref a' ∧ H a' = some (.ins C dx fs) ∧ Cls K C ∧ NoAttr K C ("size" : Str) ∧ fs.lookup ("size" : Str) = some v' ∧ P v' := c_fld h (by decide +kernel) rfl q
theorem c_bidding {P : V → Prop} (h : CirAt K H a st) (q : P (.bl st.bidding)) : ∃ a' C dx fs v', V.ref (a 0) = .ref a' ∧ H a' = some (.ins C dx fs) ∧ Cls K C ∧ NoAttr K C ("bidding" : Str) ∧ fs.lookup ("bidding" : Str) = some v' ∧ P v' := c_fld h (by decide +kernel) rfl q
theorem c_now {P : V → Prop} (h : CirAt K H a st) (q : P (.int st.now)) : ∃ a' C dx fs v', V.ref (a 0) = .ref a' ∧ H a' = some (.ins C dx fs) ∧ Cls K C ∧ NoAttr K C ("now" : Str) ∧ fs.lookup ("now" : Str) = some v' ∧ P v' := c_fld h (by decide +kernel) rfl q
theorem c_line {P : V → Prop} (h : CirAt K H a st) (q : P (.ref (a 2))) : ∃ a' C dx fs v', V.ref (a 0) = .ref a' ∧ H a' = some (.ins C dx fs) ∧ Cls K C ∧ NoAttr K C ("line" : Str) ∧ fs.lookup ("line" : Str) = some v' ∧ P v' := c_fld h (by decide +kernel) rfl q
theorem c_due {P : V → Prop} (h : CirAt K H a st) (q : P (.int st.due)) : ∃ a' C dx fs v', V.ref (a 0) = .ref a' ∧ H a' = some (.ins C dx fs) ∧ Cls K C ∧ NoAttr K C ("due" : Str) ∧ fs.lookup ("due" : Str) = some v' ∧ P v' := c_fld h (by decide +kernel) rfl q
theorem c_chest {P : V → Prop} (h : CirAt K H a st) (q : P (.int st.chest)) : ∃ a' C dx fs v', V.ref (a 0) = .ref a' ∧ H a' = some (.ins C dx fs) ∧ Cls K C ∧ NoAttr K C ("chest" : Str) ∧ fs.lookup ("chest" : Str) = some v' ∧ P v' := c_fld h (by decide +kernel) rfl q
theorem c_state {P : V → Prop} (h : CirAt K H a st) (q : P (.ref (a 3))) : ∃ a' C dx fs v', V.ref (a 0) = .ref a' ∧ H a' = some (.ins C dx fs) ∧ Cls K C ∧ NoAttr K C ("state" : Str) ∧ fs.lookup ("state" : Str) = some v' ∧ P v' := c_fld h (by decide +kernel) rfl q
theorem c_when {P : V → Prop} (h : CirAt K H a st) (q : P (.ref (a 4))) : ∃ a' C dx fs v', V.ref (a 0) = .ref a' ∧ H a' = some (.ins C dx fs) ∧ Cls K C ∧ NoAttr K C ("when" : Str) ∧ fs.lookup ("when" : Str) = some v' ∧ P v' := c_fld h (by decide +kernel) rfl q
theorem c_pledged {P : V → Prop} (h : CirAt K H a st) (q : P (.ref (a 5))) : ∃ a' C dx fs v', V.ref (a 0) = .ref a' ∧ H a' = some (.ins C dx fs) ∧ Cls K C ∧ NoAttr K C ("pledged" : Str) ∧ fs.lookup ("pledged" : Str) = some v' ∧ P v' := c_fld h (by decide +kernel) rfl q
theorem c_given {P : V → Prop} (h : CirAt K H a st) (q : P (.ref (a 6))) : ∃ a' C dx fs v', V.ref (a 0) = .ref a' ∧ H a' = some (.ins C dx fs) ∧ Cls K C ∧ NoAttr K C ("given" : Str) ∧ fs.lookup ("given" : Str) = some v' ∧ P v' := c_fld h (by decide +kernel) rfl q
theorem c_drawn {P : V → Prop} (h : CirAt K H a st) (q : P (.ref (a 7))) : ∃ a' C dx fs v', V.ref (a 0) = .ref a' ∧ H a' = some (.ins C dx fs) ∧ Cls K C ∧ NoAttr K C ("drawn" : Str) ∧ fs.lookup ("drawn" : Str) = some v' ∧ P v' := c_fld h (by decide +kernel) rfl q
theorem c_shared {P : V → Prop} (h : CirAt K H a st) (q : P (.ref (a 8))) : ∃ a' C dx fs v', V.ref (a 0) = .ref a' ∧ H a' = some (.ins C dx fs) ∧ Cls K C ∧ NoAttr K C ("shared" : Str) ∧ fs.lookup ("shared" : Str) = some v' ∧ P v' := c_fld h (by decide +kernel) rfl q
theorem c_missed {P : V → Prop} (h : CirAt K H a st) (q : P (.ref (a 9))) : ∃ a' C dx fs v', V.ref (a 0) = .ref a' ∧ H a' = some (.ins C dx fs) ∧ Cls K C ∧ NoAttr K C ("missed" : Str) ∧ fs.lookup ("missed" : Str) = some v' ∧ P v' := c_fld h (by decide +kernel) rfl q
theorem c_flows {P : V → Prop} (h : CirAt K H a st) (q : P (.ref (a 10))) : ∃ a' C dx fs v', V.ref (a 0) = .ref a' ∧ H a' = some (.ins C dx fs) ∧ Cls K C ∧ NoAttr K C ("flows" : Str) ∧ fs.lookup ("flows" : Str) = some v' ∧ P v' := c_fld h (by decide +kernel) rfl q
/-! items of the lists -/
end
/-! the line as a list of whole numbers -/
section
variable {K : PySem.W.Frag} {H : Hp} {Q : VK} {p : Addr} {l : List Nat} {k : Nat} {j : Int}
end
/-! changes of one cell -/
section
variable {K : PySem.W.Frag} {H : Hp} {a : Nat → Addr} {st : CS} {i : Nat}
end

end Su
namespace Su
open PySem L2
local macro_rules | `(tactic| walk_at "side") => `(tactic| first | assumption | (show (0 : Int) < _; omega) | (show (0 : Int) ≤ _; omega) | (show (0 : Int) < _; split <;> omega) | (show _ ∨ _; omega) | (show _ ∧ _; omega) | exact ⟨by decide, by decide, by decide⟩ | exact ⟨by first | assumption | omega, by first | assumption | omega⟩)
local macro_rules | `(tactic| walk_at "x") => `(tactic| first | with_reducible refine Su.x_seq ?_ | with_reducible refine Su.x_asg ?_ | with_reducible refine Su.x_gname ?_ | with_reducible refine Su.x_ifS ?_ | ((with_reducible show L2.tVar _ _ _ _); refine Su.x_var rfl ?_) | with_reducible refine Su.x_c ?_ | with_reducible refine Su.x_op ?_ | with_reducible refine Su.x_rI0 ?_ | with_reducible refine Su.x_iteT ?_ | with_reducible refine Su.x_iteNF ?_ | with_reducible refine Su.x_neI ?_ | with_reducible refine Su.x_test ?_ | with_reducible refine Su.x_isB' ?_ | with_reducible refine Su.x_not ?_ | with_reducible refine Su.x_or ?_ | with_reducible refine Su.x_chain ?_ | with_reducible refine Su.x_nil ?_ | with_reducible refine Su.x_cons ?_ | with_reducible refine Su.x_cb ?_ | with_reducible refine Su.x_for ?_ | with_reducible refine Su.x_iList ?_)
local macro_rules | `(tactic| walk_at "xs") => `(tactic| repeat walk_at "x")
local macro_rules | `(tactic| walk_at "if") => `(tactic| first | with_reducible refine Su.x_iteD (fun c => ?_) (fun c => ?_) | with_reducible refine Su.x_iteN (fun c => ?_) (fun c => ?_) | with_reducible refine Su.x_ite (fun c => ?_) (fun c => ?_))
local macro_rules | `(tactic| walk_at "at") => `(tactic| first | assumption | (refine Su.f_at (by assumption) ?_; walk_at "at"))
local macro_rules | `(tactic| walk_at "sm") => `(tactic| first | assumption | exact L2.Same.refl _ | (refine Su.f_tr (by assumption) ?_; walk_at "sm"))
local macro_rules | `(tactic| walk_at "hp") => `(tactic| first | assumption | ((with_reducible refine Su.f_sqL ?_); walk_at "at") | ((with_reducible refine Su.f_sqT ?_); walk_at "at") | ((with_reducible show L2.Same _ _); walk_at "sm") | ((with_reducible show _ = none); refine Su.f_free ?_ (by assumption); walk_at "sm") | ((with_reducible show _ = some _); walk_at "at") | (refine Su.f_dp (by assumption) ?_; walk_at "hp") | (refine Su.f_dpA (by assumption) ?_; walk_at "hp") | (refine Su.f_sqLs (by assumption) ?_; walk_at "hp") | (refine Su.f_sqTs (by assumption) ?_; walk_at "hp"))
local macro_rules | `(tactic| walk_at "me") => `(tactic| first | refine Su.c_meth (by assumption) rfl ?_ | refine Su.so_meth (by assumption) rfl ?_)

structure OpenOk (s : Int) (pl ws : List Int) : Prop where
  s1 : 1 ≤ s
  s2 : s ≤ 1000000
  n1 : 2 ≤ pl.length
  n2 : pl.length ≤ 20
  nw : ws.length = pl.length
  p : ∀ x ∈ pl, 0 ≤ x ∧ x ≤ 1000000000
  w : ∀ x ∈ ws, 1 ≤ x ∧ x ≤ (pl.length : Int)
def sp_check_opening (K : PySem.W.Frag) : Sp := fun vs H Q E => ∃ (s : Int) (p w : Addr) (pl ws : List Int), vs = [.int s, .ref p, .ref w] ∧ SqL K H p (pl.map V.int) ∧ SqL K H w (ws.map V.int) ∧ (OpenOk s pl ws → Q .non H) ∧ (¬ OpenOk s pl ws → E (.ref (He.ga K "BadNumber")) none H)
abbrev N_check_opening : List Str := ["stake", "pledges", "wishes", "size", "coins", "wish"]
def t_check_opening (K : PySem.W.Frag) (E : XK) : TS :=
 (tSeq (tAsg (tCB (rLenSeq K) (tCons (tVar 1) tNil)) (gName 3))
 (tSeq (tIfS (tOr (tNot (tTest (tChain rLe rLe (tC (.int 1)) (tVar 0) (tC (.int 1000000))))) (tOr (tNot (tTest (tChain rLe rLe (tC (.int 2)) (tVar 3) (tC (.int 20))))) (tTest (tOp rNe (tCB (rLenSeq K) (tCons (tVar 2) tNil)) (tVar 3)))))
 (tRaise (He.ga K "BadNumber") (wE E))
 tNext)
 (tSeq (tFor (iList K (tVar 1)) (gName 4)
 (tIfS (tNot (tTest (tChain rLe rLe (tC (.int 0)) (tVar 4) (tC (.int 1000000000)))))
 (tRaise (He.ga K "BadNumber") (wE E))
 tNext))
 (tFor (iList K (tVar 2)) (gName 5)
 (tIfS (tNot (tTest (tChain rLe rLe (tC (.int 1)) (tVar 5) (tVar 3))))
 (tRaise (He.ga K "BadNumber") (wE E))
 tNext)))))

theorem len_check_opening {K : PySem.W.Frag} : ∀ vs H Q E, sp_check_opening K vs H Q E → vs.length = ["a", "b", "c"].length := by
  rintro vs H Q E ⟨_, _, _, _, _, rfl, _⟩; rfl
theorem pure_check_opening {K : PySem.W.Frag} {vs : List V} {H : Hp} {Q : VK} {E : XK} (h : sp_check_opening K vs H Q E) : t_check_opening K E { nx := fun _ H' => Q .non H', rt := Q } (start N_check_opening vs) H := by
  obtain ⟨s, p, w, pl, ws, rfl, hp, hw, k1, k2⟩ := h
  unfold t_check_opening
  walk_at "xs"
  refine x_lenL hp ?_
  rw [List.length_map]
  walk_at "xs"
  have bad : ∀ z : ¬ OpenOk s pl ws, E (.ref (He.ga K "BadNumber")) none H := k2
  have next : 1 ≤ s → s ≤ 1000000 → 2 ≤ pl.length → pl.length ≤ 20 → ws.length = pl.length → (tSeq (tFor (iList K (tVar 1)) (gName 4)
      (tIfS (tNot (tTest (tChain rLe rLe (tC (.int 0)) (tVar 4) (tC (.int 1000000000)))))
      (tRaise (He.ga K "BadNumber") (wE E))
      tNext))
      (tFor (iList K (tVar 2)) (gName 5)
      (tIfS (tNot (tTest (tChain rLe rLe (tC (.int 1)) (tVar 5) (tVar 3))))
      (tRaise (He.ga K "BadNumber") (wE E))
      tNext))) { nx := fun _ H' => Q .non H', rt := Q } [some (.int s), some (.ref p), some (.ref w), some (.int pl.length), none, none] H := by
    intro s1 s2 n1 n2 nw
    walk_at "xs"
    refine ⟨p, rfl, ⟨_, hp⟩, for_by (turnsL (xs := pl.map V.int)) (fun i σ H' => ∃ u, σ = [some (.int s), some (.ref p), some (.ref w), some (.int pl.length), u, none] ∧ H = H' ∧ ∀ x ∈ pl.take i, 0 ≤ x ∧ x ≤ 1000000000) ⟨none, rfl, rfl, fun x hx => by simp at hx⟩ (fun i σ H' _ q => by obtain ⟨_, _, rfl, _⟩ := q; exact hp) ?_ ?_⟩
    · rintro i x σ _ _ hi ⟨u, rfl, rfl, hx⟩ ⟨rfl, hxi⟩
      rw [List.length_map] at hi
      rw [List.getElem?_map, List.getElem?_eq_getElem hi] at hxi
      cases hxi
      walk_at "xs"
      walk_at "if"
      · rename_i c3
        walk_at "xs"
        walk_at "if"
        · rename_i c4
          exact bad fun z => c4 (z.p _ (List.getElem_mem _)).2
        · rename_i c4
          refine ⟨_, rfl, rfl, fun x hx2 => ?_⟩
          rw [List.take_succ, List.getElem?_eq_getElem hi] at hx2
          rcases List.mem_append.mp hx2 with h | h
          · exact hx x h
          · simp at h; rw [h]; exact ⟨c3, by simpa using c4⟩
      · rename_i c3
        walk_at "xs"
        exact bad fun z => c3 (z.p _ (List.getElem_mem _)).1
    · rintro σ _ ⟨u, rfl, rfl, hpl⟩
      rw [List.length_map, List.take_length] at hpl
      walk_at "xs"
      refine ⟨w, rfl, ⟨_, hw⟩, for_by (turnsL (xs := ws.map V.int)) (fun i σ H' => ∃ v, σ = [some (.int s), some (.ref p), some (.ref w), some (.int pl.length), u, v] ∧ H = H' ∧ ∀ x ∈ ws.take i, 1 ≤ x ∧ x ≤ (pl.length : Int)) ⟨none, rfl, rfl, fun x hx => by simp at hx⟩ (fun i σ H' _ q => by obtain ⟨_, _, rfl, _⟩ := q; exact hw) ?_ ?_⟩
      · rintro i x σ _ _ hi ⟨v, rfl, rfl, hx⟩ ⟨rfl, hxi⟩
        rw [List.length_map] at hi
        rw [List.getElem?_map, List.getElem?_eq_getElem hi] at hxi
        cases hxi
        walk_at "xs"
        walk_at "if"
        · rename_i c3
          walk_at "xs"
          walk_at "if"
          · rename_i c4
            exact bad fun z => c4 (z.w _ (List.getElem_mem _)).2
          · rename_i c4
            refine ⟨_, rfl, rfl, fun x hx2 => ?_⟩
            rw [List.take_succ, List.getElem?_eq_getElem hi] at hx2
            rcases List.mem_append.mp hx2 with h | h
            · exact hx x h
            · simp at h; rw [h]; exact ⟨c3, by simpa using c4⟩
        · rename_i c3
          walk_at "xs"
          exact bad fun z => c3 (z.w _ (List.getElem_mem _)).1
      · rintro σ _ ⟨v, rfl, rfl, hws⟩
        rw [List.length_map, List.take_length] at hws
        exact k1 ⟨s1, s2, n1, n2, nw, hpl, hws⟩
  walk_at "if"
  · rename_i c1
    walk_at "xs"
    walk_at "if"
    · rename_i c2
      walk_at "xs"
      exact bad fun z => c2 z.s2
    · rename_i c2
      walk_at "xs"
      walk_at "if"
      · rename_i c3
        walk_at "xs"
        walk_at "if"
        · rename_i c4
          walk_at "xs"
          exact bad fun z => c4 (by have := z.n2; omega)
        · rename_i c4
          walk_at "xs"
          refine x_lenL hw ?_
          rw [List.length_map]
          walk_at "xs"
          walk_at "if"
          · rename_i c5
            exact bad fun z => c5 (by have := z.nw; omega)
          · rename_i c5
            exact next c1 (by simpa using c2) (by omega) (by have : (pl.length : Int) ≤ 20 := by simpa using c4
                                                             omega) (by omega)
      · rename_i c3
        walk_at "xs"
        exact bad fun z => c3 (by have := z.n1; omega)
  · rename_i c1
    walk_at "xs"
    exact bad fun z => c1 z.s1

end Su
namespace Su
open PySem L2
local macro_rules | `(tactic| walk_at "side") => `(tactic| first | assumption | (show (0 : Int) < _; omega) | (show (0 : Int) ≤ _; omega) | (show (0 : Int) < _; split <;> omega) | (show _ ∨ _; omega) | (show _ ∧ _; omega) | exact ⟨by decide, by decide, by decide⟩ | exact ⟨by first | assumption | omega, by first | assumption | omega⟩)
local macro_rules | `(tactic| walk_at "x") => `(tactic| first | with_reducible refine Su.x_ret ?_ | ((with_reducible show L2.tVar _ _ _ _); refine Su.x_var rfl ?_) | with_reducible refine Su.x_op ?_ | with_reducible refine Su.x_rI0 ?_ | with_reducible refine Su.x_cons ?_ | with_reducible refine Su.x_call ?_)
local macro_rules | `(tactic| walk_at "xs") => `(tactic| repeat walk_at "x")
local macro_rules | `(tactic| walk_at "if") => `(tactic| first | with_reducible refine Su.x_iteD (fun c => ?_) (fun c => ?_) | with_reducible refine Su.x_iteN (fun c => ?_) (fun c => ?_) | with_reducible refine Su.x_ite (fun c => ?_) (fun c => ?_))
local macro_rules | `(tactic| walk_at "at") => `(tactic| first | assumption | (refine Su.f_at (by assumption) ?_; walk_at "at"))
local macro_rules | `(tactic| walk_at "sm") => `(tactic| first | assumption | exact L2.Same.refl _ | (refine Su.f_tr (by assumption) ?_; walk_at "sm"))
local macro_rules | `(tactic| walk_at "hp") => `(tactic| first | assumption | ((with_reducible refine Su.f_sqL ?_); walk_at "at") | ((with_reducible refine Su.f_sqT ?_); walk_at "at") | ((with_reducible show L2.Same _ _); walk_at "sm") | ((with_reducible show _ = none); refine Su.f_free ?_ (by assumption); walk_at "sm") | ((with_reducible show _ = some _); walk_at "at") | (refine Su.f_dp (by assumption) ?_; walk_at "hp") | (refine Su.f_dpA (by assumption) ?_; walk_at "hp") | (refine Su.f_sqLs (by assumption) ?_; walk_at "hp") | (refine Su.f_sqTs (by assumption) ?_; walk_at "hp"))
local macro_rules | `(tactic| walk_at "x") => `(tactic| first | with_reducible refine Su.x_fld ?_ | with_reducible refine Su.c_stake (by assumption) ?_ | with_reducible refine Su.c_size (by assumption) ?_ | with_reducible refine Su.c_pledged (by assumption) ?_)
local macro_rules | `(tactic| walk_at "me") => `(tactic| first | refine Su.c_meth (by assumption) rfl ?_ | refine Su.so_meth (by assumption) rfl ?_)

theorem log_small {s : Int} (h0 : 0 < s) (h1 : s ≤ 1000000) : s.natAbs.log2 < 9000 := by
  have : s.natAbs.log2 ≤ s.natAbs := Nat.log2_le_self _
  have h : s.natAbs < 2 ^ 20 := by omega
  have := (Nat.log2_lt (show s.natAbs ≠ 0 by omega)).mpr h
  omega
end Su
namespace Su
open PySem L2
local macro_rules | `(tactic| walk_at "side") => `(tactic| first | assumption | (show (0 : Int) < _; omega) | (show (0 : Int) ≤ _; omega) | (show (0 : Int) < _; split <;> omega) | (show _ ∨ _; omega) | (show _ ∧ _; omega) | exact ⟨by decide, by decide, by decide⟩ | exact ⟨by first | assumption | omega, by first | assumption | omega⟩)
local macro_rules | `(tactic| walk_at "xs") => `(tactic| repeat walk_at "x")
local macro_rules | `(tactic| walk_at "if") => `(tactic| first | with_reducible refine Su.x_iteD (fun c => ?_) (fun c => ?_) | with_reducible refine Su.x_iteN (fun c => ?_) (fun c => ?_) | with_reducible refine Su.x_ite (fun c => ?_) (fun c => ?_))

/-! changes of seats, put together -/
section
variable {K : PySem.W.Frag} {H : Hp} {Q : VK} {p : Addr} {l : List Int} {x : Int}
end
/-! writes -/
section
variable {K : PySem.W.Frag} {H : Hp} {Q : VK} {Qh : Hp → Prop} {a : Nat → Addr} {st : CS} {i n : Nat} {j x : Int}
end

end Su
namespace Su
open PySem L2
local macro_rules | `(tactic| walk_at "side") => `(tactic| first | assumption | (show (0 : Int) < _; omega) | (show (0 : Int) ≤ _; omega) | (show (0 : Int) < _; split <;> omega) | (show _ ∨ _; omega) | (show _ ∧ _; omega) | exact ⟨by decide, by decide, by decide⟩ | exact ⟨by first | assumption | omega, by first | assumption | omega⟩)
local macro_rules | `(tactic| walk_at "x") => `(tactic| first | with_reducible refine Su.x_seq ?_ | with_reducible refine Su.x_asg ?_ | with_reducible refine Su.x_gname ?_ | with_reducible refine Su.x_ret ?_ | with_reducible refine Su.x_ifS ?_ | ((with_reducible show L2.tVar _ _ _ _); refine Su.x_var rfl ?_) | with_reducible refine Su.x_c ?_ | with_reducible refine Su.x_op ?_ | with_reducible refine Su.x_rGt ?_ | with_reducible refine Su.x_rGe ?_ | with_reducible refine Su.x_iteF ?_ | with_reducible refine Su.x_iteT ?_ | with_reducible refine Su.x_eqI ?_ | with_reducible refine Su.x_test ?_ | with_reducible refine Su.x_tB ?_ | with_reducible refine Su.x_isB' ?_ | with_reducible refine Su.x_and ?_ | with_reducible refine Su.x_or ?_ | with_reducible refine Su.x_nil ?_ | with_reducible refine Su.x_cons ?_ | with_reducible refine Su.x_un ?_ | with_reducible refine Su.x_rU ?_ | with_reducible refine Su.x_tup ?_ | with_reducible refine Su.x_next ?_ | with_reducible refine Su.x_for ?_ | with_reducible refine Su.x_iList ?_)
local macro_rules | `(tactic| walk_at "xs") => `(tactic| repeat walk_at "x")
local macro_rules | `(tactic| walk_at "if") => `(tactic| first | with_reducible refine Su.x_iteD (fun c => ?_) (fun c => ?_) | with_reducible refine Su.x_iteN (fun c => ?_) (fun c => ?_) | with_reducible refine Su.x_ite (fun c => ?_) (fun c => ?_))
local macro_rules | `(tactic| walk_at "at") => `(tactic| first | assumption | (refine Su.f_at (by assumption) ?_; walk_at "at"))
local macro_rules | `(tactic| walk_at "sm") => `(tactic| first | assumption | exact L2.Same.refl _ | (refine Su.f_tr (by assumption) ?_; walk_at "sm"))
local macro_rules | `(tactic| walk_at "hp") => `(tactic| first | assumption | ((with_reducible refine Su.f_sqL ?_); walk_at "at") | ((with_reducible refine Su.f_sqT ?_); walk_at "at") | ((with_reducible show L2.Same _ _); walk_at "sm") | ((with_reducible show _ = none); refine Su.f_free ?_ (by assumption); walk_at "sm") | ((with_reducible show _ = some _); walk_at "at") | (refine Su.f_dp (by assumption) ?_; walk_at "hp") | (refine Su.f_dpA (by assumption) ?_; walk_at "hp") | (refine Su.f_sqLs (by assumption) ?_; walk_at "hp") | (refine Su.f_sqTs (by assumption) ?_; walk_at "hp"))
local macro_rules | `(tactic| walk_at "x") => `(tactic| first | with_reducible refine Su.x_fld ?_ | with_reducible refine Su.x_meth ?_ | with_reducible refine Su.c_bidding (by assumption) ?_ | with_reducible refine Su.c_now (by assumption) ?_ | with_reducible refine Su.c_line (by assumption) ?_)
local macro_rules | `(tactic| walk_at "me") => `(tactic| first | refine Su.c_meth (by assumption) rfl ?_ | refine Su.so_meth (by assumption) rfl ?_)

end Su
namespace Su
open PySem L2
local macro_rules | `(tactic| walk_at "side") => `(tactic| first | assumption | (show (0 : Int) < _; omega) | (show (0 : Int) ≤ _; omega) | (show (0 : Int) < _; split <;> omega) | (show _ ∨ _; omega) | (show _ ∧ _; omega) | exact ⟨by decide, by decide, by decide⟩ | exact ⟨by first | assumption | omega, by first | assumption | omega⟩)
local macro_rules | `(tactic| walk_at "x") => `(tactic| first | with_reducible refine Su.x_seq ?_ | with_reducible refine Su.x_asg ?_ | with_reducible refine Su.x_gname ?_ | with_reducible refine Su.x_drop ?_ | with_reducible refine Su.x_ret ?_ | with_reducible refine Su.x_ifS ?_ | ((with_reducible show L2.tVar _ _ _ _); refine Su.x_var rfl ?_) | with_reducible refine Su.x_c ?_ | with_reducible refine Su.x_op ?_ | with_reducible refine Su.x_rI0 ?_ | ((with_reducible refine Su.x_rI ?_ ?_); focus walk_at "side") | with_reducible refine Su.x_rGt ?_ | with_reducible refine Su.x_iteF ?_ | with_reducible refine Su.x_neI ?_ | with_reducible refine Su.x_neS ?_ | with_reducible refine Su.x_test ?_ | with_reducible refine Su.x_isB' ?_ | with_reducible refine Su.x_and ?_ | with_reducible refine Su.x_nil ?_ | with_reducible refine Su.x_cons ?_ | with_reducible refine Su.x_cb ?_ | with_reducible refine Su.x_un ?_ | with_reducible refine Su.x_rU ?_ | with_reducible refine Su.x_tup ?_ | with_reducible refine Su.x_bmL ?_ | with_reducible refine Su.x_for ?_ | with_reducible refine Su.x_iList ?_ | with_reducible refine Su.x_iRng1 ?_ | with_reducible refine Su.x_gcons ?_ | with_reducible refine Su.x_gnil ?_ | with_reducible refine Su.x_gsub ?_ | with_reducible refine Su.x_lc ?_ | with_reducible refine Su.x_augS ?_ | with_reducible refine Su.x_ipI ?_)
local macro_rules | `(tactic| walk_at "xs") => `(tactic| repeat walk_at "x")
local macro_rules | `(tactic| walk_at "if") => `(tactic| first | with_reducible refine Su.x_iteD (fun c => ?_) (fun c => ?_) | with_reducible refine Su.x_iteN (fun c => ?_) (fun c => ?_) | with_reducible refine Su.x_ite (fun c => ?_) (fun c => ?_))
local macro_rules | `(tactic| walk_at "at") => `(tactic| first | assumption | (refine Su.f_at (by assumption) ?_; walk_at "at"))
local macro_rules | `(tactic| walk_at "sm") => `(tactic| first | assumption | exact L2.Same.refl _ | (refine Su.f_tr (by assumption) ?_; walk_at "sm"))
local macro_rules | `(tactic| walk_at "hp") => `(tactic| first | assumption | ((with_reducible refine Su.f_sqL ?_); walk_at "at") | ((with_reducible refine Su.f_sqT ?_); walk_at "at") | ((with_reducible show L2.Same _ _); walk_at "sm") | ((with_reducible show _ = none); refine Su.f_free ?_ (by assumption); walk_at "sm") | ((with_reducible show _ = some _); walk_at "at") | (refine Su.f_dp (by assumption) ?_; walk_at "hp") | (refine Su.f_dpA (by assumption) ?_; walk_at "hp") | (refine Su.f_sqLs (by assumption) ?_; walk_at "hp") | (refine Su.f_sqTs (by assumption) ?_; walk_at "hp"))
local macro_rules | `(tactic| walk_at "x") => `(tactic| first | with_reducible refine Su.x_fld ?_ | with_reducible refine Su.x_meth ?_ | with_reducible refine Su.c_stake (by assumption) ?_ | with_reducible refine Su.c_size (by assumption) ?_ | with_reducible refine Su.c_now (by assumption) ?_ | with_reducible refine Su.c_line (by assumption) ?_ | with_reducible refine Su.c_state (by assumption) ?_ | with_reducible refine Su.c_when (by assumption) ?_ | with_reducible refine Su.c_drawn (by assumption) ?_ | with_reducible refine Su.c_shared (by assumption) ?_ | with_reducible refine Su.c_flows (by assumption) ?_)
local macro_rules | `(tactic| walk_at "me") => `(tactic| first | refine Su.c_meth (by assumption) rfl ?_ | refine Su.so_meth (by assumption) rfl ?_)

end Su
namespace Su
open PySem L2
local macro_rules | `(tactic| walk_at "side") => `(tactic| first | assumption | (show (0 : Int) < _; omega) | (show (0 : Int) ≤ _; omega) | (show (0 : Int) < _; split <;> omega) | (show _ ∨ _; omega) | (show _ ∧ _; omega) | exact ⟨by decide, by decide, by decide⟩ | exact ⟨by first | assumption | omega, by first | assumption | omega⟩)
local macro_rules | `(tactic| walk_at "x") => `(tactic| first | with_reducible refine Su.x_seq ?_ | with_reducible refine Su.x_asg ?_ | with_reducible refine Su.x_gname ?_ | with_reducible refine Su.x_drop ?_ | with_reducible refine Su.x_ret ?_ | with_reducible refine Su.x_ifS ?_ | ((with_reducible show L2.tVar _ _ _ _); refine Su.x_var rfl ?_) | with_reducible refine Su.x_c ?_ | with_reducible refine Su.x_op ?_ | with_reducible refine Su.x_rI0 ?_ | with_reducible refine Su.x_neS ?_ | with_reducible refine Su.x_test ?_ | with_reducible refine Su.x_isB' ?_ | with_reducible refine Su.x_nil ?_ | with_reducible refine Su.x_cons ?_ | with_reducible refine Su.x_un ?_ | with_reducible refine Su.x_rU ?_ | with_reducible refine Su.x_bmL ?_ | with_reducible refine Su.x_for ?_ | with_reducible refine Su.x_iRng1 ?_ | with_reducible refine Su.x_augS ?_ | with_reducible refine Su.x_ipI ?_ | ((with_reducible show L2.tAug _ _ _ _ _ _); refine Su.x_aug rfl ?_))
local macro_rules | `(tactic| walk_at "xs") => `(tactic| repeat walk_at "x")
local macro_rules | `(tactic| walk_at "if") => `(tactic| first | with_reducible refine Su.x_iteD (fun c => ?_) (fun c => ?_) | with_reducible refine Su.x_iteN (fun c => ?_) (fun c => ?_) | with_reducible refine Su.x_ite (fun c => ?_) (fun c => ?_))
local macro_rules | `(tactic| walk_at "at") => `(tactic| first | assumption | (refine Su.f_at (by assumption) ?_; walk_at "at"))
local macro_rules | `(tactic| walk_at "sm") => `(tactic| first | assumption | exact L2.Same.refl _ | (refine Su.f_tr (by assumption) ?_; walk_at "sm"))
local macro_rules | `(tactic| walk_at "hp") => `(tactic| first | assumption | ((with_reducible refine Su.f_sqL ?_); walk_at "at") | ((with_reducible refine Su.f_sqT ?_); walk_at "at") | ((with_reducible show L2.Same _ _); walk_at "sm") | ((with_reducible show _ = none); refine Su.f_free ?_ (by assumption); walk_at "sm") | ((with_reducible show _ = some _); walk_at "at") | (refine Su.f_dp (by assumption) ?_; walk_at "hp") | (refine Su.f_dpA (by assumption) ?_; walk_at "hp") | (refine Su.f_sqLs (by assumption) ?_; walk_at "hp") | (refine Su.f_sqTs (by assumption) ?_; walk_at "hp"))
local macro_rules | `(tactic| walk_at "x") => `(tactic| first | with_reducible refine Su.x_fld ?_ | with_reducible refine Su.c_stake (by assumption) ?_ | with_reducible refine Su.c_size (by assumption) ?_ | with_reducible refine Su.c_now (by assumption) ?_ | with_reducible refine Su.c_state (by assumption) ?_ | with_reducible refine Su.c_when (by assumption) ?_ | with_reducible refine Su.c_pledged (by assumption) ?_ | with_reducible refine Su.c_given (by assumption) ?_ | with_reducible refine Su.c_missed (by assumption) ?_ | with_reducible refine Su.c_flows (by assumption) ?_)
local macro_rules | `(tactic| walk_at "me") => `(tactic| first | refine Su.c_meth (by assumption) rfl ?_ | refine Su.so_meth (by assumption) rfl ?_)

end Su
namespace Su
open PySem L2
local macro_rules | `(tactic| walk_at "side") => `(tactic| first | assumption | (show (0 : Int) < _; omega) | (show (0 : Int) ≤ _; omega) | (show (0 : Int) < _; split <;> omega) | (show _ ∨ _; omega) | (show _ ∧ _; omega) | exact ⟨by decide, by decide, by decide⟩ | exact ⟨by first | assumption | omega, by first | assumption | omega⟩)
local macro_rules | `(tactic| walk_at "x") => `(tactic| first | with_reducible refine Su.x_seq ?_ | with_reducible refine Su.x_asg ?_ | with_reducible refine Su.x_drop ?_ | ((with_reducible show L2.tVar _ _ _ _); refine Su.x_var rfl ?_) | with_reducible refine Su.x_c ?_ | with_reducible refine Su.x_op ?_ | with_reducible refine Su.x_nil ?_ | with_reducible refine Su.x_cons ?_ | with_reducible refine Su.x_bmL ?_ | with_reducible refine Su.x_gsub ?_)
local macro_rules | `(tactic| walk_at "xs") => `(tactic| repeat walk_at "x")
local macro_rules | `(tactic| walk_at "if") => `(tactic| first | with_reducible refine Su.x_iteD (fun c => ?_) (fun c => ?_) | with_reducible refine Su.x_iteN (fun c => ?_) (fun c => ?_) | with_reducible refine Su.x_ite (fun c => ?_) (fun c => ?_))
local macro_rules | `(tactic| walk_at "at") => `(tactic| first | assumption | (refine Su.f_at (by assumption) ?_; walk_at "at"))
local macro_rules | `(tactic| walk_at "sm") => `(tactic| first | assumption | exact L2.Same.refl _ | (refine Su.f_tr (by assumption) ?_; walk_at "sm"))
local macro_rules | `(tactic| walk_at "hp") => `(tactic| first | assumption | ((with_reducible refine Su.f_sqL ?_); walk_at "at") | ((with_reducible refine Su.f_sqT ?_); walk_at "at") | ((with_reducible show L2.Same _ _); walk_at "sm") | ((with_reducible show _ = none); refine Su.f_free ?_ (by assumption); walk_at "sm") | ((with_reducible show _ = some _); walk_at "at") | (refine Su.f_dp (by assumption) ?_; walk_at "hp") | (refine Su.f_dpA (by assumption) ?_; walk_at "hp") | (refine Su.f_sqLs (by assumption) ?_; walk_at "hp") | (refine Su.f_sqTs (by assumption) ?_; walk_at "hp"))
local macro_rules | `(tactic| walk_at "x") => `(tactic| first | with_reducible refine Su.x_fld ?_ | with_reducible refine Su.x_sfldAug ?_ | with_reducible refine Su.c_now (by assumption) ?_ | with_reducible refine Su.c_line (by assumption) ?_ | with_reducible refine Su.c_state (by assumption) ?_ | with_reducible refine Su.c_when (by assumption) ?_ | with_reducible refine Su.c_flows (by assumption) ?_)
local macro_rules | `(tactic| walk_at "me") => `(tactic| first | refine Su.c_meth (by assumption) rfl ?_ | refine Su.so_meth (by assumption) rfl ?_)

end Su
namespace Su
open PySem L2
local macro_rules | `(tactic| walk_at "side") => `(tactic| first | assumption | (show (0 : Int) < _; omega) | (show (0 : Int) ≤ _; omega) | (show (0 : Int) < _; split <;> omega) | (show _ ∨ _; omega) | (show _ ∧ _; omega) | exact ⟨by decide, by decide, by decide⟩ | exact ⟨by first | assumption | omega, by first | assumption | omega⟩)
local macro_rules | `(tactic| walk_at "x") => `(tactic| first | with_reducible refine Su.x_ret ?_ | ((with_reducible show L2.tVar _ _ _ _); refine Su.x_var rfl ?_) | with_reducible refine Su.x_op ?_ | with_reducible refine Su.x_rGt ?_)
local macro_rules | `(tactic| walk_at "xs") => `(tactic| repeat walk_at "x")
local macro_rules | `(tactic| walk_at "if") => `(tactic| first | with_reducible refine Su.x_iteD (fun c => ?_) (fun c => ?_) | with_reducible refine Su.x_iteN (fun c => ?_) (fun c => ?_) | with_reducible refine Su.x_ite (fun c => ?_) (fun c => ?_))
local macro_rules | `(tactic| walk_at "at") => `(tactic| first | assumption | (refine Su.f_at (by assumption) ?_; walk_at "at"))
local macro_rules | `(tactic| walk_at "sm") => `(tactic| first | assumption | exact L2.Same.refl _ | (refine Su.f_tr (by assumption) ?_; walk_at "sm"))
local macro_rules | `(tactic| walk_at "hp") => `(tactic| first | assumption | ((with_reducible refine Su.f_sqL ?_); walk_at "at") | ((with_reducible refine Su.f_sqT ?_); walk_at "at") | ((with_reducible show L2.Same _ _); walk_at "sm") | ((with_reducible show _ = none); refine Su.f_free ?_ (by assumption); walk_at "sm") | ((with_reducible show _ = some _); walk_at "at") | (refine Su.f_dp (by assumption) ?_; walk_at "hp") | (refine Su.f_dpA (by assumption) ?_; walk_at "hp") | (refine Su.f_sqLs (by assumption) ?_; walk_at "hp") | (refine Su.f_sqTs (by assumption) ?_; walk_at "hp"))
local macro_rules | `(tactic| walk_at "x") => `(tactic| first | with_reducible refine Su.x_fld ?_ | with_reducible refine Su.c_size (by assumption) ?_ | with_reducible refine Su.c_now (by assumption) ?_)
local macro_rules | `(tactic| walk_at "me") => `(tactic| first | refine Su.c_meth (by assumption) rfl ?_ | refine Su.so_meth (by assumption) rfl ?_)

end Su
namespace Su
open PySem L2
local macro_rules | `(tactic| walk_at "side") => `(tactic| first | assumption | (show (0 : Int) < _; omega) | (show (0 : Int) ≤ _; omega) | (show (0 : Int) < _; split <;> omega) | (show _ ∨ _; omega) | (show _ ∧ _; omega) | exact ⟨by decide, by decide, by decide⟩ | exact ⟨by first | assumption | omega, by first | assumption | omega⟩)
local macro_rules | `(tactic| walk_at "x") => `(tactic| first | with_reducible refine Su.x_seq ?_ | with_reducible refine Su.x_gname ?_ | with_reducible refine Su.x_ifS ?_ | ((with_reducible show L2.tVar _ _ _ _); refine Su.x_var rfl ?_) | with_reducible refine Su.x_c ?_ | with_reducible refine Su.x_op ?_ | with_reducible refine Su.x_rI0 ?_ | ((with_reducible refine Su.x_rI ?_ ?_); focus walk_at "side") | with_reducible refine Su.x_iteT ?_ | with_reducible refine Su.x_iteNF ?_ | with_reducible refine Su.x_neI ?_ | with_reducible refine Su.x_test ?_ | with_reducible refine Su.x_tB ?_ | with_reducible refine Su.x_isB' ?_ | with_reducible refine Su.x_not ?_ | with_reducible refine Su.x_or ?_ | with_reducible refine Su.x_chain ?_ | with_reducible refine Su.x_nil ?_ | with_reducible refine Su.x_cons ?_ | with_reducible refine Su.x_cb ?_ | with_reducible refine Su.x_next ?_ | with_reducible refine Su.x_for ?_ | with_reducible refine Su.x_iList ?_)
local macro_rules | `(tactic| walk_at "xs") => `(tactic| repeat walk_at "x")
local macro_rules | `(tactic| walk_at "if") => `(tactic| first | with_reducible refine Su.x_iteD (fun c => ?_) (fun c => ?_) | with_reducible refine Su.x_iteN (fun c => ?_) (fun c => ?_) | with_reducible refine Su.x_ite (fun c => ?_) (fun c => ?_))
local macro_rules | `(tactic| walk_at "at") => `(tactic| first | assumption | (refine Su.f_at (by assumption) ?_; walk_at "at"))
local macro_rules | `(tactic| walk_at "sm") => `(tactic| first | assumption | exact L2.Same.refl _ | (refine Su.f_tr (by assumption) ?_; walk_at "sm"))
local macro_rules | `(tactic| walk_at "hp") => `(tactic| first | assumption | ((with_reducible refine Su.f_sqL ?_); walk_at "at") | ((with_reducible refine Su.f_sqT ?_); walk_at "at") | ((with_reducible show L2.Same _ _); walk_at "sm") | ((with_reducible show _ = none); refine Su.f_free ?_ (by assumption); walk_at "sm") | ((with_reducible show _ = some _); walk_at "at") | (refine Su.f_dp (by assumption) ?_; walk_at "hp") | (refine Su.f_dpA (by assumption) ?_; walk_at "hp") | (refine Su.f_sqLs (by assumption) ?_; walk_at "hp") | (refine Su.f_sqTs (by assumption) ?_; walk_at "hp"))
local macro_rules | `(tactic| walk_at "x") => `(tactic| first | with_reducible refine Su.x_fld ?_ | with_reducible refine Su.x_meth ?_ | with_reducible refine Su.c_stake (by assumption) ?_ | with_reducible refine Su.c_size (by assumption) ?_)
local macro_rules | `(tactic| walk_at "me") => `(tactic| first | refine Su.c_meth (by assumption) rfl ?_ | refine Su.so_meth (by assumption) rfl ?_)

end Su
namespace Su
open PySem L2
local macro_rules | `(tactic| walk_at "side") => `(tactic| first | assumption | (show (0 : Int) < _; omega) | (show (0 : Int) ≤ _; omega) | (show (0 : Int) < _; split <;> omega) | (show _ ∨ _; omega) | (show _ ∧ _; omega) | exact ⟨by decide, by decide, by decide⟩ | exact ⟨by first | assumption | omega, by first | assumption | omega⟩)
local macro_rules | `(tactic| walk_at "x") => `(tactic| first | with_reducible refine Su.x_seq ?_ | with_reducible refine Su.x_asg ?_ | with_reducible refine Su.x_gname ?_ | with_reducible refine Su.x_drop ?_ | with_reducible refine Su.x_ret ?_ | with_reducible refine Su.x_ifS ?_ | ((with_reducible show L2.tVar _ _ _ _); refine Su.x_var rfl ?_) | with_reducible refine Su.x_c ?_ | with_reducible refine Su.x_op ?_ | with_reducible refine Su.x_rI0 ?_ | ((with_reducible refine Su.x_rI ?_ ?_); focus walk_at "side") | with_reducible refine Su.x_rGt ?_ | with_reducible refine Su.x_iteF ?_ | with_reducible refine Su.x_iteNT ?_ | with_reducible refine Su.x_iteNF ?_ | with_reducible refine Su.x_eqS ?_ | with_reducible refine Su.x_test ?_ | with_reducible refine Su.x_tB ?_ | with_reducible refine Su.x_isB' ?_ | with_reducible refine Su.x_not ?_ | with_reducible refine Su.x_and ?_ | with_reducible refine Su.x_nil ?_ | with_reducible refine Su.x_cons ?_ | with_reducible refine Su.x_cb ?_ | with_reducible refine Su.x_un ?_ | with_reducible refine Su.x_rU ?_ | with_reducible refine Su.x_tup ?_ | with_reducible refine Su.x_for ?_ | with_reducible refine Su.x_iList ?_ | with_reducible refine Su.x_iRng1 ?_ | with_reducible refine Su.x_gcons ?_ | with_reducible refine Su.x_gnil ?_ | with_reducible refine Su.x_lc ?_)
local macro_rules | `(tactic| walk_at "xs") => `(tactic| repeat walk_at "x")
local macro_rules | `(tactic| walk_at "if") => `(tactic| first | with_reducible refine Su.x_iteD (fun c => ?_) (fun c => ?_) | with_reducible refine Su.x_iteN (fun c => ?_) (fun c => ?_) | with_reducible refine Su.x_ite (fun c => ?_) (fun c => ?_))
local macro_rules | `(tactic| walk_at "at") => `(tactic| first | assumption | (refine Su.f_at (by assumption) ?_; walk_at "at"))
local macro_rules | `(tactic| walk_at "sm") => `(tactic| first | assumption | exact L2.Same.refl _ | (refine Su.f_tr (by assumption) ?_; walk_at "sm"))
local macro_rules | `(tactic| walk_at "hp") => `(tactic| first | assumption | ((with_reducible refine Su.f_sqL ?_); walk_at "at") | ((with_reducible refine Su.f_sqT ?_); walk_at "at") | ((with_reducible show L2.Same _ _); walk_at "sm") | ((with_reducible show _ = none); refine Su.f_free ?_ (by assumption); walk_at "sm") | ((with_reducible show _ = some _); walk_at "at") | (refine Su.f_dp (by assumption) ?_; walk_at "hp") | (refine Su.f_dpA (by assumption) ?_; walk_at "hp") | (refine Su.f_sqLs (by assumption) ?_; walk_at "hp") | (refine Su.f_sqTs (by assumption) ?_; walk_at "hp"))
local macro_rules | `(tactic| walk_at "x") => `(tactic| first | with_reducible refine Su.x_fld ?_ | with_reducible refine Su.x_sfldAug ?_ | with_reducible refine Su.x_meth ?_ | with_reducible refine Su.c_stake (by assumption) ?_ | with_reducible refine Su.c_size (by assumption) ?_ | with_reducible refine Su.c_now (by assumption) ?_ | with_reducible refine Su.c_due (by assumption) ?_ | with_reducible refine Su.c_state (by assumption) ?_)
local macro_rules | `(tactic| walk_at "me") => `(tactic| first | refine Su.c_meth (by assumption) rfl ?_ | refine Su.so_meth (by assumption) rfl ?_)

/-! put out, one by one -/
section
variable {st : CS} {paid : List Bool}
end
end Su
namespace Su
open PySem L2
local macro_rules | `(tactic| walk_at "side") => `(tactic| first | assumption | (show (0 : Int) < _; omega) | (show (0 : Int) ≤ _; omega) | (show (0 : Int) < _; split <;> omega) | (show _ ∨ _; omega) | (show _ ∧ _; omega) | exact ⟨by decide, by decide, by decide⟩ | exact ⟨by first | assumption | omega, by first | assumption | omega⟩)
local macro_rules | `(tactic| walk_at "x") => `(tactic| first | with_reducible refine Su.x_seq ?_ | with_reducible refine Su.x_asg ?_ | with_reducible refine Su.x_gname ?_ | with_reducible refine Su.x_drop ?_ | with_reducible refine Su.x_ret ?_ | ((with_reducible show L2.tVar _ _ _ _); refine Su.x_var rfl ?_) | with_reducible refine Su.x_c ?_ | with_reducible refine Su.x_op ?_ | with_reducible refine Su.x_rI0 ?_ | ((with_reducible refine Su.x_rI ?_ ?_); focus walk_at "side") | with_reducible refine Su.x_nil ?_ | with_reducible refine Su.x_cons ?_ | with_reducible refine Su.x_lst ?_ | with_reducible refine Su.x_bmL ?_ | with_reducible refine Su.x_for ?_ | with_reducible refine Su.x_iRng1 ?_)
local macro_rules | `(tactic| walk_at "xs") => `(tactic| repeat walk_at "x")
local macro_rules | `(tactic| walk_at "if") => `(tactic| first | with_reducible refine Su.x_iteD (fun c => ?_) (fun c => ?_) | with_reducible refine Su.x_iteN (fun c => ?_) (fun c => ?_) | with_reducible refine Su.x_ite (fun c => ?_) (fun c => ?_))

/-! _law_perm: a drawn order -/
end Su
namespace Su
open PySem L2
local macro_rules | `(tactic| walk_at "side") => `(tactic| first | assumption | (show (0 : Int) < _; omega) | (show (0 : Int) ≤ _; omega) | (show (0 : Int) < _; split <;> omega) | (show _ ∨ _; omega) | (show _ ∧ _; omega) | exact ⟨by decide, by decide, by decide⟩ | exact ⟨by first | assumption | omega, by first | assumption | omega⟩)
local macro_rules | `(tactic| walk_at "x") => `(tactic| first | with_reducible refine Su.x_seq ?_ | with_reducible refine Su.x_gname ?_ | with_reducible refine Su.x_ret ?_ | with_reducible refine Su.x_ifS ?_ | ((with_reducible show L2.tVar _ _ _ _); refine Su.x_var rfl ?_) | with_reducible refine Su.x_c ?_ | with_reducible refine Su.x_op ?_ | with_reducible refine Su.x_rI0 ?_ | with_reducible refine Su.x_iteT ?_ | with_reducible refine Su.x_iteNF ?_ | with_reducible refine Su.x_neI ?_ | with_reducible refine Su.x_test ?_ | with_reducible refine Su.x_isB' ?_ | with_reducible refine Su.x_not ?_ | with_reducible refine Su.x_or ?_ | with_reducible refine Su.x_chain ?_ | with_reducible refine Su.x_nil ?_ | with_reducible refine Su.x_cons ?_ | with_reducible refine Su.x_cb ?_ | with_reducible refine Su.x_next ?_ | with_reducible refine Su.x_for ?_ | with_reducible refine Su.x_iEnum ?_ | with_reducible refine Su.x_gcons ?_ | with_reducible refine Su.x_gnil ?_ | with_reducible refine Su.x_isI ?_ | with_reducible refine Su.x_lstRg ?_ | with_reducible refine Su.x_rg1 ?_)
local macro_rules | `(tactic| walk_at "xs") => `(tactic| repeat walk_at "x")
local macro_rules | `(tactic| walk_at "if") => `(tactic| first | with_reducible refine Su.x_iteD (fun c => ?_) (fun c => ?_) | with_reducible refine Su.x_iteN (fun c => ?_) (fun c => ?_) | with_reducible refine Su.x_ite (fun c => ?_) (fun c => ?_))

/-! _law_keeps: is a row of numbers an order of the windows -/
def KeepsP (ws : List (Int × Int)) (row : List Int) : Prop := ∃ r : List Nat, row = r.map (fun (i : Nat) => (i : Int)) ∧ IsOrder ws r
theorem perm_nat {row : List Int} {n : Nat} (h : row.Perm ((List.range n).map fun (i : Nat) => (i : Int))) : ∃ r : List Nat, row = r.map (fun (i : Nat) => (i : Int)) ∧ r.Perm (List.range n) := by
  refine ⟨row.map Int.toNat, ?_, ?_⟩
  · rw [List.map_map]
    have : ∀ x ∈ row, ((fun (i : Nat) => (i : Int)) ∘ Int.toNat) x = x := fun x hx => by
      obtain ⟨i, _, rfl⟩ := List.mem_map.mp (h.mem_iff.mp hx)
      show ((i : Int).toNat : Int) = i
      omega
    rw [List.map_congr_left this, List.map_id']
  · have := h.map Int.toNat
    rw [List.map_map] at this
    have e : (List.range n).map (Int.toNat ∘ fun (i : Nat) => (i : Int)) = List.range n := by
      rw [List.map_congr_left (g := id) (fun i _ => by show (i : Int).toNat = i; omega), List.map_id]
    rw [e] at this
    exact this
theorem sorted_range (n : Nat) : ((List.range n).map fun (i : Nat) => (i : Int)).Pairwise (· ≤ ·) := by
  rw [List.pairwise_map]
  exact List.Pairwise.imp (fun h => by omega) List.pairwise_lt_range
theorem sorted_iff {row ns : List Int} {n : Nat} (pm : ns.Perm row) (pw : ns.Pairwise (· ≤ ·)) : ns = (List.range n).map (fun (i : Nat) => (i : Int)) ↔ row.Perm ((List.range n).map fun (i : Nat) => (i : Int)) := by
  constructor
  · intro e; rw [← e]; exact pm.symm
  · intro h
    exact List.Perm.eq_of_pairwise (fun _ _ _ _ a b => Int.le_antisymm a b) pw (sorted_range n) (pm.trans h)
theorem ints_nI (r : List Nat) : (r.map fun (i : Nat) => (i : Int)).map V.int = nI r := by rw [List.map_map]; rfl
theorem order_of_perm {ws : List (Int × Int)} {r : List Nat} (pm : r.Perm (List.range ws.length)) (fit : ∀ k (h : k < r.length), w1 ws r[k] ≤ (k : Int) + 1 ∧ (k : Int) + 1 ≤ w2 ws r[k]) : IsOrder ws r :=
  ⟨by rw [pm.length_eq, List.length_range], pm.nodup_iff.mpr List.nodup_range, fun x hx => List.mem_range.mp (pm.mem_iff.mp hx), fit⟩
theorem perm_of_order {ws : List (Int × Int)} {r : List Nat} (o : IsOrder ws r) : r.Perm (List.range ws.length) := by
  rw [List.perm_ext_iff_of_nodup o.nd List.nodup_range]
  intro a
  rw [List.mem_range]
  exact ⟨o.lt a, fun h => nodup_all o.nd o.len o.lt h⟩
def sp_law_keeps (K : PySem.W.Frag) : Sp := fun vs H Q _ => ∃ (v : V) (ws : List (Int × Int)) (p : Addr) (row : List Int), vs = [v, .ref p] ∧ Dp K H v (dWin ws) ∧ SqL K H p (row.map V.int) ∧ ws.length ≤ 1000 ∧
  ∀ b H', Same H H' → (b = true ↔ KeepsP ws row) → Q (.bl b) H'
abbrev N_law_keeps : List Str := ["_law_windows", "_law_row", "_law_at", "_law_number"]
def t_law_keeps (K : PySem.W.Frag) : TS :=
 (tSeq (tIfS (tOr (tTest (tOp rNe (tCB (rLenSeq K) (tCons (tVar 1) tNil)) (tCB (rLenSeq K) (tCons (tVar 0) tNil)))) (tTest (tOp (rNeD K) (tCB (rSortedI K) (tCons (tVar 1) tNil)) (tLstRg (tRg1 (tCB (rLenSeq K) (tCons (tVar 0) tNil)))))))
 (tRet (tC (.bl false)))
 tNext)
 (tSeq (tFor (iEnum K (tCons (tVar 1) tNil)) (gTup K 2 (gCons (gName 2) (gCons (gName 3) gNil)))
 (tIfS (tNot (tTest (tChain rLe rLe (tOp (rIxT K) (tOp (rIxL K) (tVar 0) (tVar 3)) (tC (.int 0))) (tOp rAdd (tVar 2) (tC (.int 1))) (tOp (rIxT K) (tOp (rIxL K) (tVar 0) (tVar 3)) (tC (.int 1))))))
 (tRet (tC (.bl false)))
 tNext))
 (tRet (tC (.bl true)))))

theorem len_law_keeps {K : PySem.W.Frag} : ∀ vs H Q E, sp_law_keeps K vs H Q E → vs.length = ["a", "b"].length := by
  rintro vs H Q E ⟨_, _, _, _, rfl, _⟩; rfl
theorem pure_law_keeps {K : PySem.W.Frag} {vs : List V} {H : Hp} {Q : VK} {E : XK} (h : sp_law_keeps K vs H Q E) : t_law_keeps K { nx := fun _ H' => Q .non H', rt := Q } (start N_law_keeps vs) H := by
  obtain ⟨v, ws, p, row, rfl, hw, hp, hl, k⟩ := h
  obtain ⟨q, xs, rfl, hq, hx, hat⟩ := win_at hw
  have no : ¬ KeepsP ws row → ∀ H', Same H H' → Q (.bl false) H' := fun h H' s => k false H' s ⟨(fun z => by cases z), fun z => absurd z h⟩
  have pmK : KeepsP ws row → row.Perm ((List.range ws.length).map fun (i : Nat) => (i : Int)) := by
    rintro ⟨r, rfl, o⟩
    exact (perm_of_order o).map _
  unfold t_law_keeps
  walk_at "xs"
  refine x_lenL hp ?_
  walk_at "xs"
  refine x_lenL hq ?_
  rw [hx, List.length_map]
  walk_at "xs"
  walk_at "if"
  · rename_i c
    walk_at "xs"
    refine no (fun z => c ?_) H (Same.refl H)
    have := (pmK z).length_eq
    rw [List.length_map, List.length_range] at this
    omega
  rename_i c
  have hlen : row.length = ws.length := by omega
  walk_at "xs"
  refine al_sorted hp fun ps ns H1 nps s1 pm pw hps => ?_
  walk_at "xs"
  refine x_lenL (s1.seq hq) ?_
  rw [hx]
  walk_at "xs"
  refine al_rg rfl (by omega) fun pr H2 npr s2 hpr => ?_
  have hpr' : H2 pr = some (.lst (((List.range ws.length).map fun (i : Nat) => (i : Int)).map V.int)) := by rw [hpr, List.map_map]; rfl
  walk_at "xs"
  refine ⟨dInts ns, dInts ((List.range ws.length).map fun (i : Nat) => (i : Int)), dp_ints (SqL.of (s2 _ _ hps)), dp_ints (SqL.of hpr'), shaped_ints _, shaped_ints _, ?_⟩
  rw [eqv_ints]
  have s12 := s1.trans s2
  walk_at "xs"
  walk_at "if"
  · rename_i c2
    walk_at "xs"
    exact no (fun z => c2 ((sorted_iff pm pw).mpr (pmK z))) H2 s12
  rename_i c2
  obtain ⟨r, rfl, pr'⟩ := perm_nat ((sorted_iff pm pw).mp c2)
  rw [ints_nI] at hp
  have rl : r.length = ws.length := by rw [pr'.length_eq, List.length_range]
  walk_at "xs"
  refine ⟨p, nI r, rfl, s12.seq hp, for_by turnsE (fun i σ H' => ∃ (u1 u2 : Option V), σ = [some (.ref q), some (.ref p), u1, u2] ∧ Same H H' ∧ ∀ j (h : j < r.length), j < i → w1 ws r[j] ≤ (j : Int) + 1 ∧ (j : Int) + 1 ≤ w2 ws r[j])
    ⟨none, none, rfl, s12, fun j h z => absurd z (Nat.not_lt_zero _)⟩ (fun i σ H' _ ⟨_, _, _, h, _⟩ => h.seq hp) ?_ ?_⟩
  · rintro i y σ H5 H6 hi ⟨u1, u2, rfl, s5, fit⟩ ⟨x, hx', T, rfl, nT, s6, hT, _⟩
    rw [nI_len] at hi
    unfold nI at hx'
    rw [List.getElem?_map, List.getElem?_eq_getElem hi] at hx'
    cases hx'
    have rlt : r[i] < ws.length := List.mem_range.mp (pr'.mem_iff.mp (List.getElem_mem hi))
    have s56 := s5.trans s6
    have bad : ¬ (w1 ws r[i] ≤ (i : Int) + 1 ∧ (i : Int) + 1 ≤ w2 ws r[i]) → Q (.bl false) H6 := fun z => no (fun ⟨r', e, o⟩ => z (by
      have : r = r' := by
        have h1 : r.map (fun (i : Nat) => (i : Int)) = r'.map (fun (i : Nat) => (i : Int)) := e
        have h2 := congrArg (List.map Int.toNat) h1
        rw [List.map_map, List.map_map] at h2
        have e1 : ∀ l : List Nat, l.map (Int.toNat ∘ fun (i : Nat) => (i : Int)) = l := fun l => by
          rw [List.map_congr_left (g := id) (fun i _ => by show (i : Int).toNat = i; omega), List.map_id]
        rw [e1, e1] at h2
        exact h2
      subst this
      exact o.fit i hi)) H6 s56
    refine x_gtup (SqT.of hT) rfl ?_
    walk_at "xs"
    refine x_winix (dp_same s56 hw) (by omega) (by omega) fun t2 ht2 => ?_
    walk_at "xs"
    refine x_ix0 ht2 ?_
    walk_at "xs"
    have eb : (ws.getD ((r[i] : Nat) : Int).toNat (0, 0)).1 = w1 ws r[i] := rfl
    rw [eb]
    walk_at "if"
    · rename_i c3
      walk_at "xs"
      refine x_winix (dp_same s56 hw) (by omega) (by omega) fun t3 ht3 => ?_
      walk_at "xs"
      refine x_ix1 ht3 ?_
      walk_at "xs"
      have eb : (ws.getD ((r[i] : Nat) : Int).toNat (0, 0)).2 = w2 ws r[i] := rfl
      rw [eb]
      walk_at "if"
      · rename_i c4
        walk_at "xs"
        exact bad (fun z => c4 z.2)
      · rename_i c4
        walk_at "xs"
        refine ⟨_, _, rfl, s56, fun j hj z => ?_⟩
        by_cases q : j < i
        · exact fit j hj q
        · have : j = i := by omega
          subst this
          exact ⟨c3, c4⟩
    · rename_i c3
      walk_at "xs"
      exact bad (fun z => c3 z.1)
  · rintro σ H5 ⟨u1, u2, rfl, s5, fit⟩
    walk_at "xs"
    rw [nI_len] at fit
    exact k true H5 s5 ⟨fun _ => ⟨r, rfl, order_of_perm pr' fun j hj => fit j hj hj⟩, fun _ => rfl⟩

end Su
namespace Su
open PySem L2
local macro_rules | `(tactic| walk_at "side") => `(tactic| first | assumption | (show (0 : Int) < _; omega) | (show (0 : Int) ≤ _; omega) | (show (0 : Int) < _; split <;> omega) | (show _ ∨ _; omega) | (show _ ∧ _; omega) | exact ⟨by decide, by decide, by decide⟩ | exact ⟨by first | assumption | omega, by first | assumption | omega⟩)
local macro_rules | `(tactic| walk_at "xs") => `(tactic| repeat walk_at "x")
local macro_rules | `(tactic| walk_at "if") => `(tactic| first | with_reducible refine Su.x_iteD (fun c => ?_) (fun c => ?_) | with_reducible refine Su.x_iteN (fun c => ?_) (fun c => ?_) | with_reducible refine Su.x_ite (fun c => ?_) (fun c => ?_))

/-! papers as data -/
end Su
namespace Su
open PySem L2
local macro_rules | `(tactic| walk_at "side") => `(tactic| first | assumption | (show (0 : Int) < _; omega) | (show (0 : Int) ≤ _; omega) | (show (0 : Int) < _; split <;> omega) | (show _ ∨ _; omega) | (show _ ∧ _; omega) | exact ⟨by decide, by decide, by decide⟩ | exact ⟨by first | assumption | omega, by first | assumption | omega⟩)
local macro_rules | `(tactic| walk_at "xs") => `(tactic| repeat walk_at "x")
local macro_rules | `(tactic| walk_at "if") => `(tactic| first | with_reducible refine Su.x_iteD (fun c => ?_) (fun c => ?_) | with_reducible refine Su.x_iteN (fun c => ?_) (fun c => ?_) | with_reducible refine Su.x_ite (fun c => ?_) (fun c => ?_))

/-! windows around a drawn order -/
end Su
namespace Su
open PySem L2
local macro_rules | `(tactic| walk_at "side") => `(tactic| first | assumption | (show (0 : Int) < _; omega) | (show (0 : Int) ≤ _; omega) | (show (0 : Int) < _; split <;> omega) | (show _ ∨ _; omega) | (show _ ∧ _; omega) | exact ⟨by decide, by decide, by decide⟩ | exact ⟨by first | assumption | omega, by first | assumption | omega⟩)
local macro_rules | `(tactic| walk_at "xs") => `(tactic| repeat walk_at "x")
local macro_rules | `(tactic| walk_at "if") => `(tactic| first | with_reducible refine Su.x_iteD (fun c => ?_) (fun c => ?_) | with_reducible refine Su.x_iteN (fun c => ?_) (fun c => ?_) | with_reducible refine Su.x_ite (fun c => ?_) (fun c => ?_))

/-! a comprehension of new empty lists -/
structure Empties (H1 : Hp) (A : Addr) (i : Nat) (H : Hp) : Prop where
  s : Same H1 H
  ex : ∃ fr : List Addr, H A = some (.lst (fr.map V.ref)) ∧ fr.length = i ∧ fr.Nodup ∧ ∀ q ∈ fr, H1 q = none ∧ q ≠ A ∧ H q = some (.lst [])
theorem Empties.step {H1 H H' : Hp} {A p : Addr} {i : Nat} (h : Empties H1 A i H) (nA : H1 A = none) (np : H p = none) (s : Same H H') (e : H' p = some (.lst [])) (hi : i ≤ 100000) : ∃ acc, H' A = some (.lst acc) ∧ acc.length < sizeLine ∧ Empties H1 A (i + 1) (upd H' A (.lst (acc ++ [.ref p]))) := by
  obtain ⟨fr, h1, h2, h3, h4⟩ := h.ex
  have npA : p ≠ A := fun z => by subst z; rw [h1] at np; cases np
  refine ⟨fr.map V.ref, s _ _ h1, small (by rw [List.length_map]; omega), same_upd (h.s.trans s) nA, fr ++ [p], by rw [upd_same, List.map_append]; rfl, by rw [List.length_append, h2]; rfl, ?_, fun q hq => ?_⟩
  · rw [List.nodup_append]
    refine ⟨h3, by simp, fun x hx y hy exy => ?_⟩
    rw [List.mem_singleton] at hy
    subst hy; subst exy
    rw [(h4 x hx).2.2] at np; cases np
  · rcases List.mem_append.mp hq with hq | hq
    · have := h4 q hq
      exact ⟨this.1, this.2.1, by rw [upd_ne this.2.1]; exact s _ _ this.2.2⟩
    · cases List.mem_singleton.mp hq
      exact ⟨h.s.free np, npA, by rw [upd_ne npA]; exact e⟩
/-! an object that is being made -/
theorem putF_new {f : Str} {v : V} : ∀ {fs : List (Str × V)}, f ∉ fs.map (·.1) → putF f v fs = fs ++ [(f, v)]
  | [], _ => rfl
  | (g, x) :: r, h => by
    simp only [List.map_cons, List.mem_cons, not_or] at h
    show (if g = f then (g, v) :: r else (g, x) :: putF f v r) = _
    rw [if_neg (fun e => h.1 e.symm), putF_new h.2]; rfl
structure Bld (K : PySem.W.Frag) (cn : Str) (names : List Str) (H0 H : Hp) (x dx : Addr) (ks : List Str) (fs : List (Str × V)) (cs : List (Addr × HO)) : Prop where
  t : ClsT K cn names
  hx : H x = some (.ins (He.ga K cn) dx fs)
  hd : H dx = some (.own x)
  ndx : dx ≠ x
  off : Off [x] H0 H
  hc : Cells H cs
  nx : ∀ p ∈ cs, p.1 ≠ x ∧ p.1 ≠ dx ∧ H0 p.1 = none
  nd : (cs.map (·.1)).Nodup
  hk : fs.map (·.1) = ks
  sm : ∀ b, b ≠ x → H0 b ≠ none → H b = H0 b
section
variable {K : PySem.W.Frag} {cn : Str} {names : List Str} {H0 H H' : Hp} {x dx p : Addr} {ks : List Str} {fs : List (Str × V)} {cs : List (Addr × HO)} {f : Str} {v : V} {o : HO}
theorem Bld.same (B : Bld K cn names H0 H x dx ks fs cs) (s : Same H H') : Bld K cn names H0 H' x dx ks fs cs :=
  ⟨B.t, s _ _ B.hx, s _ _ B.hd, B.ndx, B.off.trans (Off.of s), B.hc.same s, B.nx, B.nd, B.hk, fun b hb h0 => by
    cases e : H0 b with
    | none => exact absurd e h0
    | some o => exact s b o (B.off b o (by simpa using hb) e)⟩
theorem Bld.free (B : Bld K cn names H0 H x dx ks fs cs) (n : H p = none) : H0 p = none ∧ p ≠ x ∧ p ≠ dx ∧ p ∉ cs.map (·.1) := by
  have n1 : p ≠ x := fun e => by subst e; rw [B.hx] at n; cases n
  refine ⟨?_, n1, (fun e => by subst e; rw [B.hd] at n; cases n), B.hc.fresh n⟩
  cases e : H0 p with
  | none => rfl
  | some o => rw [B.off p o (by simpa using n1) e] at n; cases n
theorem Bld.new (B : Bld K cn names H0 H x dx ks fs cs) (n : H p = none) (s : Same H H') (e : H' p = some o) : Bld K cn names H0 H' x dx ks fs (cs ++ [(p, o)]) := by
  have B' := B.same s
  obtain ⟨h1, h2, h3, h4⟩ := B.free n
  refine ⟨B.t, B'.hx, B'.hd, B.ndx, B'.off, B'.hc.app (Cells.cons e Cells.nil), fun q hq => ?_, ?_, B.hk, B'.sm⟩
  · rcases List.mem_append.mp hq with hq | hq
    · exact B.nx q hq
    · cases List.mem_singleton.mp hq; exact ⟨h2, h3, h1⟩
  · rw [List.map_append, List.nodup_append]
    exact ⟨B.nd, by simp, fun a ha b hb eab => h4 (by simp at hb; subst hb; subst eab; exact ha)⟩
/-- a list of new lists -/
theorem Bld.fam {A : Addr} {fr : List Addr} (B : Bld K cn names H0 H x dx ks fs cs) (n : H A = none) (s : Same H H') (e : H' A = some o) (nd : fr.Nodup) (h : ∀ q ∈ fr, H q = none ∧ q ≠ A ∧ H' q = some (.lst [])) :
    Bld K cn names H0 H' x dx ks fs (cs ++ [(A, o)] ++ fr.map fun q => (q, .lst [])) ∧ fr.Nodup := by
  refine ⟨?_, nd⟩
  have B1 := B.new n s e
  have fr' : ∀ q ∈ fr, H0 q = none ∧ q ≠ x ∧ q ≠ dx ∧ q ∉ cs.map (·.1) := fun q hq => B.free (h q hq).1
  refine ⟨B.t, B1.hx, B1.hd, B.ndx, B1.off, B1.hc.app fun q hq => ?_, fun q hq => ?_, ?_, B.hk, B1.sm⟩
  · obtain ⟨z, hz, rfl⟩ := List.mem_map.mp hq
    exact (h z hz).2.2
  · rcases List.mem_append.mp hq with hq | hq
    · exact B1.nx q hq
    · obtain ⟨z, hz, rfl⟩ := List.mem_map.mp hq
      have := fr' z hz
      exact ⟨this.2.1, this.2.2.1, this.1⟩
  · rw [List.map_append, List.nodup_append]
    refine ⟨B1.nd, ?_, fun a ha b hb e => ?_⟩
    · rw [List.map_map]
      show (fr.map id).Nodup
      rw [List.map_id]; exact nd
    · rw [List.map_map] at hb
      have hb : b ∈ fr.map id := hb
      rw [List.map_id] at hb
      subst e
      rw [List.map_append] at ha
      rcases List.mem_append.mp ha with ha | ha
      · exact (fr' a hb).2.2.2 ha
      · simp at ha; exact (h a hb).2.1 ha
theorem Bld.set {Qh : Hp → Prop} (B : Bld K cn names H0 H x dx ks fs cs) (hf : f ∉ ks) (m : f ∈ names) (hl : ks.length < 1000) (q : ∀ H', Bld K cn names H0 H' x dx (ks ++ [f]) (fs ++ [(f, v)]) cs → (∀ b, b ≠ x → H' b = H b) → Qh H') :
    ∃ a C dx fs, V.ref x = .ref a ∧ H a = some (.ins C dx fs) ∧ Cls K C ∧ NoAttr K C f ∧ fs.length < 1000 ∧ Qh (upd H a (.ins C dx (putF f v fs))) := by
  have hl' : fs.length < 1000 := by rw [← List.length_map (f := (·.1)), B.hk]; exact hl
  refine ⟨x, _, dx, fs, rfl, B.hx, B.t.cl, B.t.no.get m, hl', q _ ?_ fun b hb => upd_ne hb⟩
  rw [putF_new (by rw [B.hk]; exact hf)]
  refine ⟨B.t, upd_same, by rw [upd_ne B.ndx]; exact B.hd, B.ndx, B.off.upd (by simp), B.hc.upd fun z => ?_, B.nx, B.nd, by rw [List.map_append, B.hk]; rfl, fun b hb h0 => by rw [upd_ne hb]; exact B.sm b hb h0⟩
  obtain ⟨q, hq, e⟩ := List.mem_map.mp z
  exact (B.nx q hq).1 e
end

end Su
namespace Su
open PySem L2
local macro_rules | `(tactic| walk_at "side") => `(tactic| first | assumption | (show (0 : Int) < _; omega) | (show (0 : Int) ≤ _; omega) | (show (0 : Int) < _; split <;> omega) | (show _ ∨ _; omega) | (show _ ∧ _; omega) | exact ⟨by decide, by decide, by decide⟩ | exact ⟨by first | assumption | omega, by first | assumption | omega⟩)
local macro_rules | `(tactic| walk_at "x") => `(tactic| first | with_reducible refine Su.x_seq ?_ | with_reducible refine Su.x_asg ?_ | with_reducible refine Su.x_gname ?_ | with_reducible refine Su.x_drop ?_ | with_reducible refine Su.x_ifS ?_ | ((with_reducible show L2.tVar _ _ _ _); refine Su.x_var rfl ?_) | with_reducible refine Su.x_c ?_ | with_reducible refine Su.x_op ?_ | with_reducible refine Su.x_iteT ?_ | with_reducible refine Su.x_eqS ?_ | with_reducible refine Su.x_test ?_ | with_reducible refine Su.x_isB' ?_ | with_reducible refine Su.x_nil ?_ | with_reducible refine Su.x_cons ?_ | with_reducible refine Su.x_cb ?_ | with_reducible refine Su.x_call ?_ | with_reducible refine Su.x_lst ?_ | with_reducible refine Su.x_tup ?_ | with_reducible refine Su.x_next ?_ | with_reducible refine Su.x_iRng1 ?_ | with_reducible refine Su.x_iZip ?_ | with_reducible refine Su.x_gcons ?_ | with_reducible refine Su.x_gnil ?_ | with_reducible refine Su.x_yes ?_ | with_reducible refine Su.x_lc ?_)
local macro_rules | `(tactic| walk_at "xs") => `(tactic| repeat walk_at "x")
local macro_rules | `(tactic| walk_at "if") => `(tactic| first | with_reducible refine Su.x_iteD (fun c => ?_) (fun c => ?_) | with_reducible refine Su.x_iteN (fun c => ?_) (fun c => ?_) | with_reducible refine Su.x_ite (fun c => ?_) (fun c => ?_))
local macro_rules | `(tactic| walk_at "at") => `(tactic| first | assumption | (refine Su.f_at (by assumption) ?_; walk_at "at"))
local macro_rules | `(tactic| walk_at "sm") => `(tactic| first | assumption | exact L2.Same.refl _ | (refine Su.f_tr (by assumption) ?_; walk_at "sm"))
local macro_rules | `(tactic| walk_at "hp") => `(tactic| first | assumption | ((with_reducible refine Su.f_sqL ?_); walk_at "at") | ((with_reducible refine Su.f_sqT ?_); walk_at "at") | ((with_reducible show L2.Same _ _); walk_at "sm") | ((with_reducible show _ = none); refine Su.f_free ?_ (by assumption); walk_at "sm") | ((with_reducible show _ = some _); walk_at "at") | (refine Su.f_dp (by assumption) ?_; walk_at "hp") | (refine Su.f_dpA (by assumption) ?_; walk_at "hp") | (refine Su.f_sqLs (by assumption) ?_; walk_at "hp") | (refine Su.f_sqTs (by assumption) ?_; walk_at "hp"))
local macro_rules | `(tactic| walk_at "x") => `(tactic| first | with_reducible refine Su.x_sfld ?_)
local macro_rules | `(tactic| walk_at "me") => `(tactic| first | refine Su.c_meth (by assumption) rfl ?_ | refine Su.so_meth (by assumption) rfl ?_)

def openWin (s : Int) (pl ws : List Int) : List (Int × Int) := List.zipWith (fun p w => (firstCov s pl.length p, w)) pl ws
def openS (s : Int) (b : Bool) (pl : List Int) (row : List Nat) : CS := { stake := s, bidding := b, now := 1, line := row, due := 0, chest := 0, seats := pl.map fun p => { pl := p } }
theorem openWin_at {s : Int} {pl ws : List Int} (i : Nat) (h1 : i < pl.length) (h2 : i < ws.length) : (openWin s pl ws)[i]? = some (firstCov s pl.length pl[i], ws[i]) := by
  unfold openWin
  rw [List.getElem?_zipWith, List.getElem?_eq_getElem h1, List.getElem?_eq_getElem h2]
theorem firstCov_in {s n p : Int} (hs : 0 < s) (hn : 1 ≤ n) (hp : 0 ≤ p) : 1 ≤ firstCov s n p ∧ firstCov s n p ≤ n := by
  unfold firstCov
  have := Int.ediv_nonneg hp (Int.le_of_lt hs)
  split <;> omega
theorem openWin_ok {s : Int} {pl ws : List Int} (ok : OpenOk s pl ws) : WinOk (openWin s pl ws).length (openWin s pl ws) := by
  have n1 := ok.n1
  have nw := ok.nw
  have l : (openWin s pl ws).length = pl.length := by unfold openWin; rw [List.length_zipWith]; omega
  rw [l]
  intro x hx
  obtain ⟨i, hi, e⟩ := List.getElem_of_mem hx
  have e' : (openWin s pl ws)[i]? = some x := by rw [List.getElem?_eq_getElem hi, e]
  rw [l] at hi
  rw [openWin_at i hi (by omega)] at e'
  cases e'
  have h1 := firstCov_in (s := s) (n := pl.length) (p := pl[i]) (by have := ok.s1; omega) (by omega) (ok.p _ (List.getElem_mem _)).1
  have h2 := ok.w ws[i] (List.getElem_mem _)
  exact ⟨h1.1, h1.2, h2.1, h2.2⟩
def sp_Circle_init (K : PySem.W.Frag) : Sp := fun vs H Q E => ∃ (x dx : Addr) (s : Int) (p w : Addr) (pl ws : List Int) (b : Bool), vs = [.ref x, .int s, .ref p, .ref w, .bl b] ∧ ClsT K "Circle" cirNames ∧ H x = some (.ins (He.ga K "Circle") dx []) ∧ H dx = some (.own x) ∧ dx ≠ x ∧ SqL K (hide [x] H) p (pl.map V.int) ∧ SqL K (hide [x] H) w (ws.map V.int) ∧ (¬ OpenOk s pl ws → E (.ref (He.ga K "BadNumber")) none H) ∧ (OpenOk s pl ws → (∀ e l cr, paperOf (openWin s pl ws) = .bar e l cr → ∀ d H', NoOrd H H' d e l cr → E (.ref (He.ga K "NoOrder")) (some d) H') ∧ ∀ row, paperOf (openWin s pl ws) = .order row → ∀ a H', a 0 = x → a 1 = dx → (∀ j, 2 ≤ j → j < 11 + pl.length → H (a j) = none) → Off [x] H H' → CirAt K H' a (openS s b pl row) → Q .non H')
abbrev N_Circle_init : List Str := ["self", "stake", "pledges", "wishes", "bidding", "size", "windows", "paper", "coins", "wish", "at"]
def t_Circle_init (K : PySem.W.Frag) (E : XK) : TS :=
 (tSeq (tDrop (tCall (sp_check_opening K) [] E (tCons (tVar 1) (tCons (tVar 2) (tCons (tVar 3) tNil)))))
 (tSeq (tAsg (tCB (rLenSeq K) (tCons (tVar 2) tNil)) (gName 5))
 (tSeq (tAsg (tLc (iZip K (tCons (tVar 2) (tCons (tVar 3) tNil))) (gTup K 2 (gCons (gName 8) (gCons (gName 9) gNil))) tYes (tTup (tCons (tCall (sp_first_covered K) [] E0 (tCons (tVar 1) (tCons (tVar 5) (tCons (tVar 8) tNil)))) (tCons (tVar 9) tNil))) [8, 9]) (gName 6))
 (tSeq (tAsg (tCall (sp_order_or_bar K) [] E0 (tCons (tVar 6) tNil)) (gName 7))
 (tSeq (tIfS (tTest (tOp rEq (tOp (rIxT K) (tVar 7) (tC (.int 0))) (tC (.str "bar"))))
 (tRaiseN K (sp_NoOrder_init K) (tCons (tOp (rIxT K) (tVar 7) (tC (.int 1))) (tCons (tOp (rIxT K) (tVar 7) (tC (.int 2))) (tCons (tOp (rIxT K) (tVar 7) (tC (.int 3))) tNil))) (wE E))
 tNext)
 (tSeq (sFld K (tVar 0) (tVar 1) "stake")
 (tSeq (sFld K (tVar 0) (tVar 5) "size")
 (tSeq (sFld K (tVar 0) (tVar 4) "bidding")
 (tSeq (sFld K (tVar 0) (tC (.int 1)) "now")
 (tSeq (sFld K (tVar 0) (tCB (rListOf K) (tCons (tOp (rIxT K) (tVar 7) (tC (.int 1))) tNil)) "line")
 (tSeq (sFld K (tVar 0) (tC (.int 0)) "due")
 (tSeq (sFld K (tVar 0) (tC (.int 0)) "chest")
 (tSeq (sFld K (tVar 0) (tOp rRep (tLst (tCons (tC (.str "waits")) tNil)) (tVar 5)) "state")
 (tSeq (sFld K (tVar 0) (tOp rRep (tLst (tCons (tC (.int 0)) tNil)) (tVar 5)) "when")
 (tSeq (sFld K (tVar 0) (tCB (rListOf K) (tCons (tVar 2) tNil)) "pledged")
 (tSeq (sFld K (tVar 0) (tOp rRep (tLst (tCons (tC (.int 0)) tNil)) (tVar 5)) "given")
 (tSeq (sFld K (tVar 0) (tOp rRep (tLst (tCons (tC (.int 0)) tNil)) (tVar 5)) "drawn")
 (tSeq (sFld K (tVar 0) (tOp rRep (tLst (tCons (tC (.int 0)) tNil)) (tVar 5)) "shared")
 (tSeq (sFld K (tVar 0) (tOp rRep (tLst (tCons (tC (.int 0)) tNil)) (tVar 5)) "missed")
 (sFld K (tVar 0) (tLc (iRng1 (tCons (tVar 5) tNil)) (gName 10) tYes (tLst tNil) [10]) "flows"))))))))))))))))))))

theorem len_Circle_init {K : PySem.W.Frag} : ∀ vs H Q E, sp_Circle_init K vs H Q E → vs.length = ["a", "b", "c", "d", "e"].length := by
  rintro vs H Q E ⟨_, _, _, _, _, _, _, _, rfl, _⟩; rfl
theorem pure_Circle_init {K : PySem.W.Frag} {vs : List V} {H : Hp} {Q : VK} {E : XK} (h : sp_Circle_init K vs H Q E) : t_Circle_init K E { nx := fun _ H' => Q .non H', rt := Q } (start N_Circle_init vs) H := by
  obtain ⟨x, dx, s, p, w, pl, ws, b, rfl, t, hx, hdx, nxd, hp, hw, k1, k2⟩ := h
  unfold t_Circle_init
  walk_at "xs"
  refine ⟨s, p, w, pl, ws, rfl, hide_same.seq hp, hide_same.seq hw, fun ok => ?_, k1⟩
  obtain ⟨kb, kr⟩ := k2 ok
  clear k1 k2
  have n1 := ok.n1
  have n2 := ok.n2
  have nw := ok.nw
  walk_at "xs"
  refine x_lenL (hide_same.seq hp) ?_
  rw [List.length_map]
  walk_at "xs"
  refine ⟨p, w, _, _, rfl, hide_same.seq hp, hide_same.seq hw, fun A nA => ?_⟩
  have nAx : A ≠ x := fun e => by subst e; rw [hx] at nA; cases nA
  have ow := openWin_at (s := s) (pl := pl) (ws := ws)
  refine lc_data (K := K) (fun i => ((openWin s pl ws)[i]?).map dPair) (turnsZ (K := K) (a := p) (b := w) (xs := pl.map V.int) (ys := ws.map V.int) (by rw [List.length_map, List.length_map, nw])) (fun H' q => ⟨q.seq (hide_same.seq hp), q.seq (hide_same.seq hw)⟩) nA ?_ ?_
  · rintro i v Hc Hd hi lc ⟨y, z, hy, hz, T, rfl, nT, sT, hT, _⟩
    rw [List.length_map] at hi
    rw [List.getElem?_map, List.getElem?_eq_getElem hi] at hy
    rw [List.getElem?_map, List.getElem?_eq_getElem (by omega)] at hz
    cases hy; cases hz
    refine x_gtup (SqT.of hT) rfl ?_
    walk_at "xs"
    refine x_wipe rfl ?_
    walk_at "xs"
    refine ⟨s, pl.length, pl[i], rfl, by have := ok.s1; omega, log_small (by have := ok.s1; omega) ok.s2, ?_⟩
    walk_at "xs"
    refine al_tup fun U H4 nU s4 hU => ?_
    have neA : U ≠ A := fun e => by subst e; obtain ⟨acc, hA, _⟩ := lc.ex; rw [sT _ _ hA] at nU; cases nU
    refine lc.keep nA (sT.trans s4) (d := dPair (firstCov s pl.length pl[i], ws[i])) ?_ (pair_dp (SqT.of (del_at hU neA))) (by omega)
    rw [ow i hi (by omega)]; rfl
  intro H1 acc s1 hA hD
  have owl : (openWin s pl ws).length = pl.length := by unfold openWin; rw [List.length_zipWith]; omega
  have e1 : (List.range (pl.map V.int).length).filterMap (fun i => ((openWin s pl ws)[i]?).map dPair) = (openWin s pl ws).map dPair := by
    rw [List.length_map, ← owl]; exact range_get dPair (openWin s pl ws)
  rw [e1] at hD
  have dA : Dp K H1 (.ref A) (dWin (openWin s pl ws)) := .lst (SqL.of hA) (dpAll_same del_same hD)
  walk_at "xs"
  refine ⟨_, openWin s pl ws, rfl, dA, by omega, openWin_ok ok, fun v H2 s2 pa => ?_⟩
  have hx0 := hx
  cases er : paperOf (openWin s pl ws) with
  | bar e l cr =>
    rw [er] at pa
    obtain ⟨T, L, rfl, nT, nL, hT, hL⟩ := pa
    walk_at "xs"
    refine x_ixT (SqT.of hT) (v := .str "bar") (by rfl) ?_
    walk_at "xs"
    refine x_iteD (fun _ => ?_) fun c => absurd (by decide +kernel) c
    refine x_raiseN fun nx => ?_
    walk_at "xs"
    refine x_ixT (SqT.of hT) (v := .int e) (by rfl) ?_
    walk_at "xs"
    refine x_ixT (SqT.of hT) (v := .int l) (by rfl) ?_
    walk_at "xs"
    refine x_ixT (SqT.of hT) (v := .ref L) (by rfl) ?_
    walk_at "xs"
    exact no_made (Q := fun d H' => E (.ref (nxC K)) d H') nx (SqL.of hL) fun d H' no => kb e l cr er d H' (no.low (s1.trans s2))
  | order row =>
  have k := kr row er
  clear kb kr
  rw [er] at pa
  obtain ⟨T, L, rfl, nT, nL, hT, hL⟩ := pa
  have hx2 := s2 _ _ (s1 _ _ hx)
  have hdx2 := s2 _ _ (s1 _ _ hdx)
  have nTx : T ≠ x := fun e => by subst e; rw [s1 _ _ hx] at nT; cases nT
  have hp2 : SqL K (hide [x] H2) p (pl.map V.int) := (hide_mono (s1.trans s2)).seq hp
  have o2 : Off [x] H H2 := Off.of (s1.trans s2)
  walk_at "xs"
  refine x_ixT (SqT.of hT) (v := .str "order") (by rfl) ?_
  walk_at "xs"
  refine x_iteD (fun c => absurd c (by decide +kernel)) fun _ => ?_
  walk_at "xs"
  have B0 : Bld K "Circle" cirNames H H2 x dx [] [] [] := ⟨t, hx2, hdx2, nxd, o2, Cells.nil, fun _ h => (nomatch h), List.nodup_nil, rfl, fun b hb h0 => by
    cases e : H b with
    | none => exact absurd e h0
    | some o => exact s2 _ _ (s1 _ _ e)⟩
  refine B0.set (by decide +kernel) (by decide +kernel) (by decide) fun H3 B1 f3 => ?_
  walk_at "xs"
  refine B1.set (by decide +kernel) (by decide +kernel) (by decide) fun H4 B2 f4 => ?_
  walk_at "xs"
  refine B2.set (by decide +kernel) (by decide +kernel) (by decide) fun H5 B3 f5 => ?_
  walk_at "xs"
  refine B3.set (by decide +kernel) (by decide +kernel) (by decide) fun H6 B4 f6 => ?_
  have hT6 : H6 T = some (.tup [.str "order", .ref L]) := by rw [f6 T nTx, f5 T nTx, f4 T nTx, f3 T nTx]; exact hT
  have nLx : L ≠ x := fun e => by subst e; rw [s1 _ _ hx] at nL; cases nL
  have hL6 : H6 L = some (.lst (nI row)) := by rw [f6 L nLx, f5 L nLx, f4 L nLx, f3 L nLx]; exact hL
  have hp6 : SqL K (hide [x] H6) p (pl.map V.int) := by
    have : hide [x] H6 = hide [x] H2 := by
      funext c
      by_cases z : c ∈ [x]
      · rw [hide_in z, hide_in z]
      · have z' : c ≠ x := by simpa using z
        rw [hide_out z, hide_out z, f6 c z', f5 c z', f4 c z', f3 c z']
    rw [this]; exact hp2
  walk_at "xs"
  refine x_ixT (SqT.of hT6) (v := .ref L) (by rfl) ?_
  walk_at "xs"
  refine al_list (SqL.of hL6) fun l2 H7 nl2 q7 hl2 => ?_
  have B4 := B4.new nl2 q7 hl2
  walk_at "xs"
  refine B4.set (by decide +kernel) (by decide +kernel) (by decide) fun H8 B5 f8 => ?_
  walk_at "xs"
  refine B5.set (by decide +kernel) (by decide +kernel) (by decide) fun H9 B6 f9 => ?_
  walk_at "xs"
  refine B6.set (by decide +kernel) (by decide +kernel) (by decide) fun H10 B7 f10 => ?_
  have hp10 : SqL K (hide [x] H10) p (pl.map V.int) := by
    have : hide [x] H10 = hide [x] H7 := by
      funext c
      by_cases z : c ∈ [x]
      · rw [hide_in z, hide_in z]
      · have z' : c ≠ x := by simpa using z
        rw [hide_out z, hide_out z, f10 c z', f9 c z', f8 c z']
    rw [this]; exact (hide_mono q7).seq hp6
  walk_at "xs"
  refine al_lst fun m1 H11 nm1 q11 hm1 => ?_
  walk_at "xs"
  refine al_rep hm1 (by omega) fun l3 H12 nl3 q12 hl3 _ => ?_
  have B7 := (B7.same q11).new nl3 q12 hl3
  walk_at "xs"
  refine B7.set (by decide +kernel) (by decide +kernel) (by decide) fun H13 B8 f13 => ?_
  walk_at "xs"
  refine al_lst fun m2 H14 nm2 q14 hm2 => ?_
  walk_at "xs"
  refine al_rep hm2 (by omega) fun l4 H15 nl4 q15 hl4 _ => ?_
  have B8 := (B8.same q14).new nl4 q15 hl4
  walk_at "xs"
  refine B8.set (by decide +kernel) (by decide +kernel) (by decide) fun H16 B9 f16 => ?_
  have hp16 : SqL K H16 p (pl.map V.int) := by
    have e13 : hide [x] H13 = hide [x] H12 := by
      funext c
      by_cases z : c ∈ [x]
      · rw [hide_in z, hide_in z]
      · rw [hide_out z, hide_out z, f13 c (by simpa using z)]
    have e16 : hide [x] H16 = hide [x] H15 := by
      funext c
      by_cases z : c ∈ [x]
      · rw [hide_in z, hide_in z]
      · rw [hide_out z, hide_out z, f16 c (by simpa using z)]
    have h12 := (hide_mono (q11.trans q12)).seq hp10
    rw [← e13] at h12
    have h15 := (hide_mono (q14.trans q15)).seq h12
    rw [← e16] at h15
    exact hide_same.seq h15
  walk_at "xs"
  refine al_list hp16 fun l5 H17 nl5 q17 hl5 => ?_
  have B9 := B9.new nl5 q17 hl5
  walk_at "xs"
  refine B9.set (by decide +kernel) (by decide +kernel) (by decide) fun H18 B10 f18 => ?_
  walk_at "xs"
  refine al_lst fun m3 H19 nm3 q19 hm3 => ?_
  walk_at "xs"
  refine al_rep hm3 (by omega) fun l6 H20 nl6 q20 hl6 _ => ?_
  have B10 := (B10.same q19).new nl6 q20 hl6
  walk_at "xs"
  refine B10.set (by decide +kernel) (by decide +kernel) (by decide) fun H21 B11 f21 => ?_
  walk_at "xs"
  refine al_lst fun m4 H22 nm4 q22 hm4 => ?_
  walk_at "xs"
  refine al_rep hm4 (by omega) fun l7 H23 nl7 q23 hl7 _ => ?_
  have B11 := (B11.same q22).new nl7 q23 hl7
  walk_at "xs"
  refine B11.set (by decide +kernel) (by decide +kernel) (by decide) fun H24 B12 f24 => ?_
  walk_at "xs"
  refine al_lst fun m5 H25 nm5 q25 hm5 => ?_
  walk_at "xs"
  refine al_rep hm5 (by omega) fun l8 H26 nl8 q26 hl8 _ => ?_
  have B12 := (B12.same q25).new nl8 q26 hl8
  walk_at "xs"
  refine B12.set (by decide +kernel) (by decide +kernel) (by decide) fun H27 B13 f27 => ?_
  walk_at "xs"
  refine al_lst fun m6 H28 nm6 q28 hm6 => ?_
  walk_at "xs"
  refine al_rep hm6 (by omega) fun l9 H29 nl9 q29 hl9 _ => ?_
  have B13 := (B13.same q28).new nl9 q29 hl9
  walk_at "xs"
  refine B13.set (by decide +kernel) (by decide +kernel) (by decide) fun H30 B14 f30 => ?_
  walk_at "xs"
  refine ⟨pl.length, rfl, by omega, by omega, fun l10 nl10 => ?_⟩
  refine lc_by turnsR (Empties H30 l10) ⟨same_new (Same.refl _) nl10, [], upd_same, rfl, List.nodup_nil, fun _ h => (nomatch h)⟩ (fun _ _ _ _ => trivial) ?_ ?_
  · rintro i v Hc _ hi em ⟨rfl, rfl⟩
    walk_at "xs"
    refine x_wipe rfl ?_
    walk_at "xs"
    refine al_lst fun q Hd nq sd hq => ?_
    exact em.step nl10 nq sd hq (by omega)
  intro H31 em
  rw [show ((pl.length : Nat) : Int).toNat = pl.length by omega] at em
  obtain ⟨fr, e1, e2, e3, e4⟩ := em.ex
  obtain ⟨B15, ndf⟩ := Bld.fam B14 nl10 em.s e1 e3 e4
  walk_at "xs"
  refine B15.set (by decide +kernel) (by decide +kernel) (by decide) fun H32 B f32 => ?_
  obtain ⟨Ls, hLs⟩ : ∃ Ls, Ls = [x, dx, l2, l3, l4, l5, l6, l7, l8, l9, l10] ++ fr := ⟨_, rfl⟩
  have zs : (openS s b pl row).size = pl.length := by simp [openS, CS.size]
  have hcs := B.hc
  have hnx := B.nx
  have hnd := B.nd
  have ecs : (([] ++ [(l2, HO.lst (nI row))] ++ [(l3, HO.lst (List.replicate pl.length (.str "waits")))] ++ [(l4, HO.lst (List.replicate pl.length (.int 0)))] ++ [(l5, HO.lst (pl.map V.int))] ++ [(l6, HO.lst (List.replicate pl.length (.int 0)))] ++ [(l7, HO.lst (List.replicate pl.length (.int 0)))] ++ [(l8, HO.lst (List.replicate pl.length (.int 0)))] ++ [(l9, HO.lst (List.replicate pl.length (.int 0)))] ++ [(l10, HO.lst (fr.map V.ref))] ++ fr.map fun q => (q, HO.lst [])).map (fun q : Addr × HO => q.1)) = [l2, l3, l4, l5, l6, l7, l8, l9, l10] ++ fr := by
    simp [Function.comp_def]
  rw [ecs] at hnd
  have ndL : Ls.Nodup := by
    rw [hLs]
    have mem : ∀ y ∈ [l2, l3, l4, l5, l6, l7, l8, l9, l10] ++ fr, y ≠ x ∧ y ≠ dx := fun y hy => by
      rw [← ecs] at hy
      obtain ⟨q, hq, rfl⟩ := List.mem_map.mp hy
      exact ⟨(hnx q hq).1, (hnx q hq).2.1⟩
    show (x :: dx :: ([l2, l3, l4, l5, l6, l7, l8, l9, l10] ++ fr)).Nodup
    rw [List.nodup_cons, List.nodup_cons]
    refine ⟨fun z => ?_, fun z => (mem dx z).2 rfl, hnd⟩
    rcases List.mem_cons.mp z with z | z
    · exact nxd z.symm
    · exact (mem x z).1 rfl
  have Ll : Ls.length = 11 + pl.length := by rw [hLs, List.length_append, e2]; rfl
  have atf : ∀ i, Ls.getD (11 + i) 0 = fr.getD i 0 := fun i => by
    rw [hLs, List.getD_eq_getElem?_getD, List.getD_eq_getElem?_getD, List.getElem?_append_right (by show 11 ≤ 11 + i; omega)]
    show (fr[11 + i - 11]?).getD 0 = _
    rw [Nat.add_sub_cancel_left]
  refine k (fun j => Ls.getD j 0) H32 (by rw [hLs]; rfl) (by rw [hLs]; rfl) (fun j h2 hj => ?_) B.off ⟨t, fun i j hi hj e => ?_, fun j hj => ?_⟩
  · have hm : Ls.getD j 0 ∈ [l2, l3, l4, l5, l6, l7, l8, l9, l10] ++ fr := by
      rw [hLs]
      obtain ⟨i, rfl⟩ : ∃ i, j = i + 2 := ⟨j - 2, by omega⟩
      show ([l2, l3, l4, l5, l6, l7, l8, l9, l10] ++ fr).getD i 0 ∈ _
      have hil : i < ([l2, l3, l4, l5, l6, l7, l8, l9, l10] ++ fr).length := by rw [List.length_append, e2]; show i < 9 + _; omega
      rw [List.getD_eq_getElem?_getD, List.getElem?_eq_getElem hil]
      exact List.getElem_mem _
    rw [← ecs] at hm
    obtain ⟨q, hq, e⟩ := List.mem_map.mp hm
    show H (Ls.getD j 0) = none
    rw [← e]; exact (hnx q hq).2.2
  · rw [zs] at hi hj
    have e : Ls.getD i 0 = Ls.getD j 0 := e
    rw [List.getD_eq_getElem?_getD, List.getD_eq_getElem?_getD, List.getElem?_eq_getElem (by omega), List.getElem?_eq_getElem (by omega)] at e
    exact (List.getElem_inj ndL).mp e
  · rw [zs] at hj
    have cell : ∀ {y : Addr} {o : HO}, (y, o) ∈ ([] ++ [(l2, HO.lst (nI row))] ++ [(l3, HO.lst (List.replicate pl.length (.str "waits")))] ++ [(l4, HO.lst (List.replicate pl.length (.int 0)))] ++ [(l5, HO.lst (pl.map V.int))] ++ [(l6, HO.lst (List.replicate pl.length (.int 0)))] ++ [(l7, HO.lst (List.replicate pl.length (.int 0)))] ++ [(l8, HO.lst (List.replicate pl.length (.int 0)))] ++ [(l9, HO.lst (List.replicate pl.length (.int 0)))] ++ [(l10, HO.lst (fr.map V.ref))] ++ fr.map fun q => (q, HO.lst [])) → H32 y = some o := fun {y o} h => hcs (y, o) h
    have rep : ∀ g : SeatR → V, ∀ v : V, (∀ p, g { pl := p } = v) → (openS s b pl row).seats.map g = List.replicate pl.length v := fun g v h => by
      show (pl.map _).map g = _
      rw [List.map_map, List.eq_replicate_iff]
      refine ⟨by simp, fun z hz => ?_⟩
      obtain ⟨q, _, rfl⟩ := List.mem_map.mp hz
      exact h q
    match j, hj with
    | 0, _ =>
      show H32 (Ls.getD 0 0) = _
      rw [show Ls.getD 0 0 = x by rw [hLs]; rfl, B.hx]
      show _ = some (HO.ins _ (Ls.getD 1 0) (cirFs (fun j => Ls.getD j 0) (openS s b pl row)))
      rw [show Ls.getD 1 0 = dx by rw [hLs]; rfl]
      unfold cirFs
      rw [zs, hLs]
      rfl
    | 1, _ =>
      show H32 (Ls.getD 1 0) = some (.own (Ls.getD 0 0))
      rw [show Ls.getD 1 0 = dx by rw [hLs]; rfl, show Ls.getD 0 0 = x by rw [hLs]; rfl]
      exact B.hd
    | 2, _ => show H32 (Ls.getD 2 0) = some (.lst (nI row)); rw [show Ls.getD 2 0 = l2 by rw [hLs]; rfl]; exact cell (by simp)
    | 3, _ =>
      show H32 (Ls.getD 3 0) = some (.lst ((openS s b pl row).seats.map _))
      rw [show Ls.getD 3 0 = l3 by rw [hLs]; rfl, rep _ (.str "waits") fun _ => rfl]; exact cell (by simp)
    | 4, _ =>
      show H32 (Ls.getD 4 0) = some (.lst ((openS s b pl row).seats.map _))
      rw [show Ls.getD 4 0 = l4 by rw [hLs]; rfl, rep _ (.int 0) fun _ => rfl]; exact cell (by simp)
    | 5, _ =>
      show H32 (Ls.getD 5 0) = some (.lst ((pl.map _).map _))
      rw [show Ls.getD 5 0 = l5 by rw [hLs]; rfl, List.map_map]; exact cell (by simp)
    | 6, _ =>
      show H32 (Ls.getD 6 0) = some (.lst ((openS s b pl row).seats.map _))
      rw [show Ls.getD 6 0 = l6 by rw [hLs]; rfl, rep _ (.int 0) fun _ => rfl]; exact cell (by simp)
    | 7, _ =>
      show H32 (Ls.getD 7 0) = some (.lst ((openS s b pl row).seats.map _))
      rw [show Ls.getD 7 0 = l7 by rw [hLs]; rfl, rep _ (.int 0) fun _ => rfl]; exact cell (by simp)
    | 8, _ =>
      show H32 (Ls.getD 8 0) = some (.lst ((openS s b pl row).seats.map _))
      rw [show Ls.getD 8 0 = l8 by rw [hLs]; rfl, rep _ (.int 0) fun _ => rfl]; exact cell (by simp)
    | 9, _ =>
      show H32 (Ls.getD 9 0) = some (.lst ((openS s b pl row).seats.map _))
      rw [show Ls.getD 9 0 = l9 by rw [hLs]; rfl, rep _ (.int 0) fun _ => rfl]; exact cell (by simp)
    | 10, _ =>
      show H32 (Ls.getD 10 0) = some (.lst ((List.range (openS s b pl row).size).map fun i => .ref (Ls.getD (11 + i) 0)))
      have e : (List.range (openS s b pl row).size).map (fun i => V.ref (Ls.getD (11 + i) 0)) = fr.map V.ref := by
        rw [zs, ← e2]
        apply List.ext_getElem?
        intro n
        rw [List.getElem?_map, List.getElem?_map]
        by_cases hn : n < fr.length
        · rw [List.getElem?_range hn, List.getElem?_eq_getElem hn]
          show some (V.ref (Ls.getD (11 + n) 0)) = _
          rw [atf, List.getD_eq_getElem?_getD, List.getElem?_eq_getElem hn]; rfl
        · rw [List.getElem?_eq_none (by rw [List.length_range]; omega), List.getElem?_eq_none (by omega)]; rfl
      rw [e, show Ls.getD 10 0 = l10 by rw [hLs]; rfl]; exact cell (by simp)
    | n + 11, hj =>
      show H32 (Ls.getD (n + 11) 0) = some (intsO ((openS s b pl row).get n).fl)
      have hn : n < fr.length := by omega
      rw [Nat.add_comm n 11, atf, List.getD_eq_getElem?_getD, List.getElem?_eq_getElem hn]
      have : ((openS s b pl row).get n).fl = [] := by
        show ((pl.map fun p => ({ pl := p } : SeatR)).getD n {}).fl = []
        rw [List.getD_eq_getElem?_getD, List.getElem?_map]
        cases pl[n]? <;> rfl
      rw [this]
      exact cell (List.mem_append_right _ (List.mem_map.mpr ⟨fr[n], List.getElem_mem _, rfl⟩))

end Su
namespace Su
open PySem L2
local macro_rules | `(tactic| walk_at "side") => `(tactic| first | assumption | (show (0 : Int) < _; omega) | (show (0 : Int) ≤ _; omega) | (show (0 : Int) < _; split <;> omega) | (show _ ∨ _; omega) | (show _ ∧ _; omega) | exact ⟨by decide, by decide, by decide⟩ | exact ⟨by first | assumption | omega, by first | assumption | omega⟩)
local macro_rules | `(tactic| walk_at "x") => `(tactic| first | with_reducible refine Su.x_ret ?_ | ((with_reducible show L2.tVar _ _ _ _); refine Su.x_var rfl ?_) | with_reducible refine Su.x_nil ?_ | with_reducible refine Su.x_cons ?_ | with_reducible refine Su.x_cb ?_)
local macro_rules | `(tactic| walk_at "xs") => `(tactic| repeat walk_at "x")
local macro_rules | `(tactic| walk_at "if") => `(tactic| first | with_reducible refine Su.x_iteD (fun c => ?_) (fun c => ?_) | with_reducible refine Su.x_iteN (fun c => ?_) (fun c => ?_) | with_reducible refine Su.x_ite (fun c => ?_) (fun c => ?_))
local macro_rules | `(tactic| walk_at "at") => `(tactic| first | assumption | (refine Su.f_at (by assumption) ?_; walk_at "at"))
local macro_rules | `(tactic| walk_at "sm") => `(tactic| first | assumption | exact L2.Same.refl _ | (refine Su.f_tr (by assumption) ?_; walk_at "sm"))
local macro_rules | `(tactic| walk_at "hp") => `(tactic| first | assumption | ((with_reducible refine Su.f_sqL ?_); walk_at "at") | ((with_reducible refine Su.f_sqT ?_); walk_at "at") | ((with_reducible show L2.Same _ _); walk_at "sm") | ((with_reducible show _ = none); refine Su.f_free ?_ (by assumption); walk_at "sm") | ((with_reducible show _ = some _); walk_at "at") | (refine Su.f_dp (by assumption) ?_; walk_at "hp") | (refine Su.f_dpA (by assumption) ?_; walk_at "hp") | (refine Su.f_sqLs (by assumption) ?_; walk_at "hp") | (refine Su.f_sqTs (by assumption) ?_; walk_at "hp"))
local macro_rules | `(tactic| walk_at "x") => `(tactic| first | with_reducible refine Su.x_fld ?_ | with_reducible refine Su.c_line (by assumption) ?_)
local macro_rules | `(tactic| walk_at "me") => `(tactic| first | refine Su.c_meth (by assumption) rfl ?_ | refine Su.so_meth (by assumption) rfl ?_)

def sp_Circle_queue (K : PySem.W.Frag) : Sp := fun vs H Q E => ∃ (a : Nat → Addr) (st : CS), vs = [.ref (a 0)] ∧ CirAt K H a st ∧ ∀ p H', H p = none → Same H H' → H' p = some (.lst (nI st.line)) → Q (.ref p) H'
abbrev N_Circle_queue : List Str := ["self"]
def t_Circle_queue (K : PySem.W.Frag) : TS :=
 (tRet (tCB (rListOf K) (tCons (tFld K (tVar 0) "line") tNil)))

theorem len_Circle_queue {K : PySem.W.Frag} : ∀ vs H Q E, sp_Circle_queue K vs H Q E → vs.length = ["a"].length := by
  rintro vs H Q E ⟨_, _, rfl, _⟩; rfl
theorem pure_Circle_queue {K : PySem.W.Frag} {vs : List V} {H : Hp} {Q : VK} {E : XK} (h : sp_Circle_queue K vs H Q E) : t_Circle_queue K { nx := fun _ H' => Q .non H', rt := Q } (start N_Circle_queue vs) H := by
  obtain ⟨a, st, rfl, hc, k⟩ := h
  unfold t_Circle_queue
  walk_at "xs"
  exact al_list (SqL.of (hc.at_ 2 (by omega))) k

end Su
namespace Su
open PySem L2
local macro_rules | `(tactic| walk_at "side") => `(tactic| first | assumption | (show (0 : Int) < _; omega) | (show (0 : Int) ≤ _; omega) | (show (0 : Int) < _; split <;> omega) | (show _ ∨ _; omega) | (show _ ∧ _; omega) | exact ⟨by decide, by decide, by decide⟩ | exact ⟨by first | assumption | omega, by first | assumption | omega⟩)
local macro_rules | `(tactic| walk_at "xs") => `(tactic| repeat walk_at "x")
local macro_rules | `(tactic| walk_at "if") => `(tactic| first | with_reducible refine Su.x_iteD (fun c => ?_) (fun c => ?_) | with_reducible refine Su.x_iteN (fun c => ?_) (fun c => ?_) | with_reducible refine Su.x_ite (fun c => ?_) (fun c => ?_))

/-! a set made of a list: the call around its filling -/
section
open PySem.Calls PyProof.Rows
/-- a set as it is made -/
abbrev newS (w : World) : Obj := { cls := .type "set", dict := none, data := .set #[] 0 (.fresh 0 0 (!w.params.followText "set-order")) }
variable {P : Program} {w : World} {A : Around} {E : Value → Shared → Prop} {s : Shared} {l : Addr} {xs : Array Value}
theorem wants_or {Q : Value → Shared → Prop} {r : Result} (h : wants Q E r s) : (∃ v, r = .ok (.ret v) ∧ Q v s) ∨ ∃ e, r = .error e ∧ E e s := by
  cases r with
  | error e => exact .inr ⟨e, rfl, h⟩
  | ok f => cases f with
    | ret v => exact .inl ⟨v, rfl, h⟩
    | _ => exact h.elim
theorem setMade {v : Value} {Q : Value → Shared → Prop} (h : wpAny (model P w) A.in1.in1 (Builtin.«set.__init__» ⟨[.ref s.heap.objs.size, v], []⟩) (fun fin u => fin = .done (.ret .none) ∧ Q (.ref s.heap.objs.size) u) E { s with heap := s.heap.push (newS w) }) :
    wpAny (model P w) A (PySem.call (.type "set") [v]) Q E s := by
  have set := F.called_set
  obtain ⟨_, _, mro⟩ := set.mro
  have ⟨f1, f2, f3, f4, f5⟩ : _ ∧ _ ∧ _ ∧ _ ∧ _ := ⟨set.made, set.sub, set.notType, set.canCreate, F.typeCall_set_1 v⟩
  have f6 := set.init.lookup
  refine wpAny_call (codeAny_of_tree ?_)
  show wpAny _ _ (callAny (.type "set") _) _ _ _
  refine wpAny_pure ⟨Code.quiet_builtin _ (by decide +kernel), codeAny_builtin F.entry_type_call ?_⟩
  rw [Around.under_plain (weight_type_call_type "set" [v] []) rfl]
  wp_walk
  refine codeAny_mono (code_set_led1 v (E := E) (Q₁ := fun r u => r = .ref s.heap.objs.size ∧ u = { s with heap := s.heap.push (newS w) }) ⟨rfl, rfl⟩) fun r u hr => ?_
  obtain ⟨_, rfl, rfl, rfl⟩ | ⟨e, rfl, he⟩ := wants_or hr
  · have hT : Shared.TypeIs { s with heap := s.heap.push (newS w) } (.ref s.heap.objs.size) "set" := ⟨_, Heap.get?_push_size _ rfl, rfl⟩
    have f7 := set.init.bind (.ref s.heap.objs.size)
    wp_walk
    have init := codeAny_call_builtin (A := A.in1) (R := wants (fun r u => r = .none ∧ Q (.ref s.heap.objs.size) u) E) set.init.plain F.entry_set_init (check_set_init_1 hT (wpAny_mono h (fun fin u z => by rw [z.1]; exact ⟨rfl, z.2⟩) fun _ _ z => z))
    refine codeAny_mono init fun r u hr => ?_
    obtain ⟨_, rfl, rfl, z⟩ | ⟨e, rfl, he⟩ := wants_or hr
    · wp_walk
      exact z
    · exact he
  · exact he
/-- the filling begins: the list's iterator stands behind the new set -/
abbrev begun (w : World) (s : Shared) (l : Addr) : Shared := { s with heap := (s.heap.push (newS w)).push { cls := .type "list_iterator", data := .fields #[.ref l, .int 0 0] } }
theorem begun_old {b : Addr} {o : Obj} (e : s.heap.get? b = some o) : (begun w s l).heap.get? b = some o := Heap.get?_push_of_some _ (Heap.get?_push_of_some _ e)
/-- what stood ahead of the set is as it was -/
theorem begun_kept {s' : Shared} (m : Moved (s.heap.objs.size :: [(s.heap.push (newS w)).objs.size]) (fun a b => b = a) (begun w s l) s') : (∀ b o, s.heap.get? b = some o → s'.heap.get? b = some o) ∧ s' = { s with heap := s'.heap, toks := s'.toks } := by
  refine ⟨fun b o e => m.heap b o (fun i => ?_) (begun_old e), by rw [Moved.eq_with m]⟩
  have lt := Heap.lt_size e
  simp only [List.mem_cons, List.not_mem_nil, or_false] at i
  exact i.elim (Nat.ne_of_lt lt) (Nat.ne_of_lt (by rw [Heap.size_push]; exact Nat.lt_succ_of_lt lt))
/-- the new set lies off the iterator and the list -/
theorem begun_off (hl : s.heap.IsList l xs) : l ≠ (s.heap.push (newS w)).objs.size ∧ s.heap.objs.size ∉ [(s.heap.push (newS w)).objs.size, l] := by
  obtain ⟨_, e, _⟩ := hl
  have lt := Heap.lt_size e
  rw [Heap.size_push]
  refine ⟨Nat.ne_of_lt (Nat.lt_succ_of_lt lt), ?_⟩
  simp only [List.mem_cons, List.not_mem_nil, or_false, not_or]
  exact ⟨Nat.ne_of_lt (Nat.lt_succ_self _), Nat.ne_of_gt lt⟩
theorem listInto {R : Fin → Shared → Prop} (hl : s.heap.IsList l xs)
    (fill : codeAny (model P w) A (.builtin "set.update.loop" ⟨[.ref s.heap.objs.size, .ref (s.heap.push (newS w)).objs.size], []⟩) (fun r u => r = .ok (.ret .none) ∧ R (.done (.ret .none)) u) (begun w s l)) :
    wpAny (model P w) A (Builtin.«set.__init__» ⟨[.ref s.heap.objs.size, .ref l], []⟩) R E { s with heap := s.heap.push (newS w) } := by
  obtain ⟨ol, e1, e2, nl, e3⟩ := id hl
  have L := Heap.get?_push_of_some (newS w) e1
  have tS : Shared.TypeIs { s with heap := s.heap.push (newS w) } (.ref s.heap.objs.size) "set" := ⟨_, Heap.get?_push_size _ rfl, rfl⟩
  have tL : Shared.TypeIs { s with heap := s.heap.push (newS w) } (.ref l) "list" := ⟨_, L, e2⟩
  have sub1 := PySem.F.sub_list_set
  have sub2 := PySem.F.sub_list_frozenset
  have nd : (Value.type "list" == Value.type "dict") = false := by decide
  have hl1 : Heap.IsList (s.heap.push (newS w)) l xs := ⟨_, L, e2, nl, e3⟩
  unfold Builtin.«set.__init__» noKeywords Builtin.Frozenset.updateFrom
  wp_walk using wpAny_pyIter_list hl1
  refine codeAny_mono fill fun r u z => ?_
  rw [z.1]
  exact wpAny_pure (wpAny_pure z.2)
end

end Su
namespace Su
open PySem L2
local macro_rules | `(tactic| walk_at "side") => `(tactic| first | assumption | (show (0 : Int) < _; omega) | (show (0 : Int) ≤ _; omega) | (show (0 : Int) < _; split <;> omega) | (show _ ∨ _; omega) | (show _ ∧ _; omega) | exact ⟨by decide, by decide, by decide⟩ | exact ⟨by first | assumption | omega, by first | assumption | omega⟩)
local macro_rules | `(tactic| walk_at "xs") => `(tactic| repeat walk_at "x")
local macro_rules | `(tactic| walk_at "if") => `(tactic| first | with_reducible refine Su.x_iteD (fun c => ?_) (fun c => ?_) | with_reducible refine Su.x_iteN (fun c => ?_) (fun c => ?_) | with_reducible refine Su.x_ite (fun c => ?_) (fun c => ?_))

/-! sorted(set(xs)) of a list of whole numbers -/
section
open PySem.Calls PyProof.Rows
variable {P : Program} {w : World} {A : Around} {E : Value → Shared → Prop} {s : Shared} {l : Addr} {xs : Array Value} {ns : List Int}
/-- the items of a list of whole numbers, one by one -/
theorem ints_at (hi : IntsAre xs.toList ns) (i : Nat) (v : Value) (e : xs[i]? = some v) : ∃ k t, ns[i]? = some k ∧ v = .int k t := by
  have size : xs.toList.length = ns.length := IntsAre.length hi
  have il : i < ns.length := by rw [← size, Array.length_toList]; exact (Array.getElem?_eq_some_iff.mp e).1
  obtain ⟨t, et⟩ := IntsAre.int_at hi i v (by rw [Array.getElem?_toList]; exact e)
  have en := List.getElem?_eq_getElem il
  exact ⟨_, t, en, by rw [et, List.getD_eq_getElem?_getD, en]; rfl⟩
theorem set_of_list {Q : Value → Shared → Prop} (hh : A.handled = none) (hl : s.heap.IsList l xs) (hi : IntsAre xs.toList ns) (hb : ns.length + 1 < scanBound)
    (h : ∀ (h' : Heap) (tk c : Nat), SetR w h' s.heap.objs.size (fun j => decide (j ∈ ns)) c → c ≤ ns.length → (∀ b o, s.heap.get? b = some o → h'.get? b = some o) → Q (.ref s.heap.objs.size) { s with heap := h', toks := tk }) :
    wpAny (model P w) A (PySem.call (.type "set") [.ref l]) Q E s := by
  have size : xs.size = ns.length := by rw [← Array.length_toList]; exact IntsAre.length hi
  obtain ⟨far, off⟩ := begun_off (w := w) hl
  obtain ⟨o, e1, e2, nl, e3⟩ := id hl
  have hh3 : A.in1.in1.in1.handled = none := by simpa using hh
  refine setMade (listInto hl (set_update_ints ((Walks.list hh3 _ l far xs).toS) _ off ns size hb (ints_at hi) _ 0 _ rfl (Nat.zero_le _) ⟨⟨_, Heap.get?_push_size _ rfl, rfl, rfl⟩, ⟨o, begun_old e1, e2, nl, e3⟩⟩ ⟨0, Nat.le_refl 0, setR_new_at (Heap.get?_push_of_some _ (Heap.get?_push_size _ rfl))⟩ fun u c m hc R => ⟨rfl, rfl, ?_⟩))
  obtain ⟨old, eu⟩ := begun_kept m
  rw [eu]
  exact h _ _ c R (size ▸ hc) old
end
section
variable {X : Cx} {e : Expr} {t t' : TE} {p p2 pos q : Pos}
def rSetOfI (K : PySem.W.Frag) (w : World) : CR := fun xs H Q => ∃ (l : Addr) (ns : List Int), xs = [V.ref l] ∧ SqL K H l (ns.map V.int) ∧ ns.length + 1 < scanBound ∧ ∀ a c, H a = none → c ≤ ns.length → Q (.ref a) (upd H a (SetO w a (fun j => decide (j ∈ ns)) c))
theorem vals_ints : ∀ {ns : List Int} {us : List Value}, Vals (ns.map V.int) us → PyProof.Rows.IntsAre us ns
  | [], _, .nil => .nil
  | n :: ns, _, .cons r t => by
    obtain ⟨k, rfl⟩ := r
    exact .cons _ _ (vals_ints t)
theorem cr_setOfI (hc : X.calm = true) : CallR X (.type "set") (rSetOfI X.K X.w) := by
  intro pins s σ H xs us Q I r h
  obtain ⟨l, ns, rfl, hq, hb, k⟩ := h
  cases r with
  | cons r rr =>
    cases rr; cases r
    obtain ⟨its, rv, pl, hz⟩ := I.list hq
    refine set_of_list (I.ok.hd hc) pl.isList (by simpa using vals_ints rv) hb fun h' tk c R hcl kp => ?_
    exact ⟨.ref _, upd H s.heap.objs.size (SetO X.w s.heap.objs.size (fun j => decide (j ∈ ns)) c), I.laid (t' := tk) kp (Nat.le_refl _) (setO_new R), rfl, k _ c (I.hok.fresh (Nat.le_refl _)) hcl⟩
theorem al_setOf {K : PySem.W.Frag} {w : World} {H : Hp} {Q : VK} {l : Addr} {ns : List Int} (h : SqL K H l (ns.map V.int)) (hl : ns.length ≤ 60) (q : ∀ a c H', H a = none → Same H H' → c ≤ ns.length → H' a = some (SetO w a (fun j => decide (j ∈ ns)) c) → Q (.ref a) H') : rSetOfI K w [.ref l] H Q :=
  ⟨l, ns, rfl, h, Nat.lt_of_le_of_lt (Nat.succ_le_succ hl) (by decide), fun a c na hc => q a c _ na (same_new (Same.refl H) na) hc upd_same⟩
theorem al_sortedSet {w : World} {H : Hp} {Q : VK} {a : Addr} {ns : List Int} {c : Nat} (h : H a = some (SetO w a (fun j => decide (j ∈ ns)) c)) (hc : c ≤ 60) (q : ∀ (p : Addr) (ms : List Int) (H' : Hp), H p = none → Same H H' → ms.Pairwise (· < ·) → (∀ k, k ∈ ms ↔ k ∈ ns) → H' p = some (.lst (ms.map V.int)) → Q (.ref p) H') : rSortedSet w [.ref a] H Q :=
  ⟨a, _, c, rfl, h, by omega, fun ms p pw hm _ np => q p ms _ np (same_new (Same.refl H) np) pw (fun k => by rw [hm k]; simp) upd_same⟩
end

end Su
namespace Su
open PySem L2
local macro_rules | `(tactic| walk_at "side") => `(tactic| first | assumption | (show (0 : Int) < _; omega) | (show (0 : Int) ≤ _; omega) | (show (0 : Int) < _; split <;> omega) | (show _ ∨ _; omega) | (show _ ∧ _; omega) | exact ⟨by decide, by decide, by decide⟩ | exact ⟨by first | assumption | omega, by first | assumption | omega⟩)
local macro_rules | `(tactic| walk_at "xs") => `(tactic| repeat walk_at "x")
local macro_rules | `(tactic| walk_at "if") => `(tactic| first | with_reducible refine Su.x_iteD (fun c => ?_) (fun c => ?_) | with_reducible refine Su.x_iteN (fun c => ?_) (fun c => ?_) | with_reducible refine Su.x_ite (fun c => ?_) (fun c => ?_))

/-! a crowd of whole numbers as a bar -/
def BarsP (ws : List (Int × Int)) (a b : Int) (row : List Int) : Prop := ∃ c : List Nat, row = c.map (fun (i : Nat) => (i : Int)) ∧ IsBar ws a b c
theorem inc_eq {ms row : List Int} (h1 : ms.Pairwise (· < ·)) (h2 : row.Pairwise (· < ·)) (hm : ∀ k, k ∈ ms ↔ k ∈ row) : ms = row := by
  have n1 : ms.Nodup := h1.imp fun h => Int.ne_of_lt h
  have n2 : row.Nodup := h2.imp fun h => Int.ne_of_lt h
  exact List.Perm.eq_of_pairwise (le := (· < ·)) (fun a b _ _ h h' => by omega) h1 h2 ((List.perm_ext_iff_of_nodup n1 n2).mpr hm)
theorem nats_of {row : List Int} {n : Nat} (h : ∀ x ∈ row, 0 ≤ x ∧ x < n) : ∃ c : List Nat, row = c.map (fun (i : Nat) => (i : Int)) ∧ ∀ x ∈ c, x < n := by
  refine ⟨row.map Int.toNat, ?_, fun x hx => ?_⟩
  · rw [List.map_map]
    have : ∀ x ∈ row, ((fun (i : Nat) => (i : Int)) ∘ Int.toNat) x = x := fun x hx => by
      have := h x hx
      show ((x.toNat : Nat) : Int) = x
      omega
    rw [List.map_congr_left this, List.map_id']
  · obtain ⟨y, hy, rfl⟩ := List.mem_map.mp hx
    have := h y hy
    omega
theorem bars_inc {ws : List (Int × Int)} {a b : Int} {row : List Int} (h : BarsP ws a b row) : row.Pairwise (· < ·) := by
  obtain ⟨c, rfl, r⟩ := h
  rw [List.pairwise_map]
  exact r.inc.imp fun h => by omega

end Su
namespace Su
open PySem L2
local macro_rules | `(tactic| walk_at "side") => `(tactic| first | assumption | (show (0 : Int) < _; omega) | (show (0 : Int) ≤ _; omega) | (show (0 : Int) < _; split <;> omega) | (show _ ∨ _; omega) | (show _ ∧ _; omega) | exact ⟨by decide, by decide, by decide⟩ | exact ⟨by first | assumption | omega, by first | assumption | omega⟩)
local macro_rules | `(tactic| walk_at "x") => `(tactic| first | with_reducible refine Su.x_seq ?_ | with_reducible refine Su.x_gname ?_ | with_reducible refine Su.x_ret ?_ | with_reducible refine Su.x_ifS ?_ | ((with_reducible show L2.tVar _ _ _ _); refine Su.x_var rfl ?_) | with_reducible refine Su.x_c ?_ | with_reducible refine Su.x_op ?_ | with_reducible refine Su.x_rI0 ?_ | with_reducible refine Su.x_rGt ?_ | with_reducible refine Su.x_iteT ?_ | with_reducible refine Su.x_iteNF ?_ | with_reducible refine Su.x_test ?_ | with_reducible refine Su.x_isB' ?_ | with_reducible refine Su.x_not ?_ | with_reducible refine Su.x_or ?_ | with_reducible refine Su.x_chain ?_ | with_reducible refine Su.x_nil ?_ | with_reducible refine Su.x_cons ?_ | with_reducible refine Su.x_cb ?_ | with_reducible refine Su.x_max2 ?_ | with_reducible refine Su.x_next ?_ | with_reducible refine Su.x_for ?_ | with_reducible refine Su.x_iList ?_)
local macro_rules | `(tactic| walk_at "xs") => `(tactic| repeat walk_at "x")
local macro_rules | `(tactic| walk_at "if") => `(tactic| first | with_reducible refine Su.x_iteD (fun c => ?_) (fun c => ?_) | with_reducible refine Su.x_iteN (fun c => ?_) (fun c => ?_) | with_reducible refine Su.x_ite (fun c => ?_) (fun c => ?_))

/-! _law_bars: does a crowd show a bar -/
def sp_law_bars (K : PySem.W.Frag) : Sp := fun vs H Q _ => ∃ (v : V) (ws : List (Int × Int)) (a b : Int) (p : Addr) (row : List Int), vs = [v, .int a, .int b, .ref p] ∧ Dp K H v (dWin ws) ∧ SqL K H p (row.map V.int) ∧ ws.length ≤ 1000 ∧ row.length ≤ 60 ∧
  ∀ t H', Same H H' → (t = true ↔ BarsP ws a b row) → Q (.bl t) H'
abbrev N_law_bars : List Str := ["_law_windows", "_law_a", "_law_b", "_law_crowd", "_law_number"]
def t_law_bars (K : PySem.W.Frag) (w : World) : TS :=
 (tSeq (tIfS (tOr (tNot (tTest (tChain rLe rLe (tC (.int 1)) (tVar 1) (tCB (rLenSeq K) (tCons (tVar 0) tNil))))) (tNot (tTest (tChain rLe rLe (tC (.int 1)) (tVar 2) (tCB (rLenSeq K) (tCons (tVar 0) tNil))))))
 (tRet (tC (.bl false)))
 tNext)
 (tSeq (tIfS (tOr (tTest (tOp (rNeD K) (tVar 3) (tCB (rSortedSet w) (tCons (tCB (rSetOfI K w) (tCons (tVar 3) tNil)) tNil)))) (tTest (tOp rLe (tCB (rLenSeq K) (tCons (tVar 3) tNil)) (tCB rMax2 (tCons (tC (.int 0)) (tCons (tOp rAdd (tOp rSub (tVar 2) (tVar 1)) (tC (.int 1))) tNil))))))
 (tRet (tC (.bl false)))
 tNext)
 (tSeq (tFor (iList K (tVar 3)) (gName 4)
 (tSeq (tIfS (tNot (tTest (tChain rLe rLt (tC (.int 0)) (tVar 4) (tCB (rLenSeq K) (tCons (tVar 0) tNil)))))
 (tRet (tC (.bl false)))
 tNext)
 (tIfS (tOr (tTest (tOp rLt (tOp (rIxT K) (tOp (rIxL K) (tVar 0) (tVar 4)) (tC (.int 0))) (tVar 1))) (tTest (tOp rGt (tOp (rIxT K) (tOp (rIxL K) (tVar 0) (tVar 4)) (tC (.int 1))) (tVar 2))))
 (tRet (tC (.bl false)))
 tNext)))
 (tRet (tC (.bl true))))))

theorem len_law_bars {K : PySem.W.Frag} : ∀ vs H Q E, sp_law_bars K vs H Q E → vs.length = ["a", "b", "c", "d"].length := by
  rintro vs H Q E ⟨_, _, _, _, _, _, rfl, _⟩; rfl
theorem pure_law_bars {K : PySem.W.Frag} {w : World} {vs : List V} {H : Hp} {Q : VK} {E : XK} (h : sp_law_bars K vs H Q E) : t_law_bars K w { nx := fun _ H' => Q .non H', rt := Q } (start N_law_bars vs) H := by
  obtain ⟨v, ws, a, b, p, row, rfl, hw, hp, hl, hl2, k⟩ := h
  obtain ⟨q, xs, rfl, hq, hx, hat⟩ := win_at hw
  have no : ¬ BarsP ws a b row → ∀ H', Same H H' → Q (.bl false) H' := fun h H' s => k false H' s ⟨(fun z => by cases z), fun z => absurd z h⟩
  unfold t_law_bars
  walk_at "xs"
  -- a, b within their bounds
  walk_at "if"
  rotate_left
  · rename_i c
    walk_at "xs"
    exact no (fun ⟨_, _, z⟩ => c z.a1.1) H (Same.refl H)
  rename_i a1
  walk_at "xs"
  refine x_lenL hq ?_
  rw [hx]
  walk_at "xs"
  walk_at "if"
  · rename_i c
    walk_at "xs"
    exact no (fun ⟨_, _, z⟩ => c z.a1.2) H (Same.refl H)
  rename_i a2
  walk_at "xs"
  walk_at "if"
  rotate_left
  · rename_i c
    walk_at "xs"
    exact no (fun ⟨_, _, z⟩ => c z.b1.1) H (Same.refl H)
  rename_i b1
  walk_at "xs"
  refine x_lenL hq ?_
  rw [hx]
  walk_at "xs"
  walk_at "if"
  · rename_i c
    walk_at "xs"
    exact no (fun ⟨_, _, z⟩ => c z.b1.2) H (Same.refl H)
  rename_i b2
  walk_at "xs"
  refine al_setOf hp hl2 fun pa c H1 npa s1 hc hpa => ?_
  walk_at "xs"
  refine al_sortedSet hpa (by omega) fun pm ms H2 npm s2 pw hm hpm => ?_
  walk_at "xs"
  have s12 := s1.trans s2
  refine ⟨dInts row, dInts ms, dp_ints (s12.seq hp), dp_ints (SqL.of hpm), shaped_ints _, shaped_ints _, ?_⟩
  rw [eqv_ints]
  walk_at "xs"
  walk_at "if"
  · rename_i c
    walk_at "xs"
    exact no (fun z => c (inc_eq pw (bars_inc z) hm).symm) H2 s12
  rename_i e
  subst e
  walk_at "xs"
  refine x_lenL (s12.seq hp) ?_
  rw [List.length_map]
  walk_at "xs"
  have em : (if b - a + 1 > 0 then b - a + 1 else 0) = max 0 (b - a + 1) := by
    rw [Int.max_def]; split <;> split <;> omega
  rw [em]
  walk_at "if"
  · rename_i c
    walk_at "xs"
    exact no (fun ⟨l, e, z⟩ => by have := z.many; rw [e, List.length_map] at c; omega) H2 s12
  rename_i many
  walk_at "xs"
  refine ⟨p, rfl, ⟨_, s12.seq hp⟩, for_by turnsL (fun i σ H' => ∃ (u : Option V), σ = [some (.ref q), some (.int a), some (.int b), some (.ref p), u] ∧ Same H H' ∧ ∀ j (h : j < row.length), j < i → (0 ≤ row[j] ∧ row[j] < ws.length) ∧ a ≤ w1 ws row[j].toNat ∧ w2 ws row[j].toNat ≤ b)
    ⟨none, rfl, s12, fun j h z => absurd z (Nat.not_lt_zero _)⟩ (fun i σ H' _ ⟨_, _, h, _⟩ => h.seq hp) ?_ ?_⟩
  · rintro i y σ H5 _ hi ⟨u, rfl, s5, fit⟩ ⟨rfl, hx'⟩
    rw [List.length_map] at hi
    rw [List.getElem?_map, List.getElem?_eq_getElem hi] at hx'
    cases hx'
    have bad : ¬ ((0 ≤ row[i] ∧ row[i] < ws.length) ∧ a ≤ w1 ws row[i].toNat ∧ w2 ws row[i].toNat ≤ b) → Q (.bl false) H5 := fun z => no (fun ⟨l, e, r⟩ => z (by
      have hil : i < l.length := by rw [e, List.length_map] at hi; exact hi
      have h1 : row[i] = (l[i] : Int) := by simp [e]
      rw [h1]
      obtain ⟨m1, m2, m3⟩ := r.mem l[i] (List.getElem_mem hil)
      have e2 : ((l[i] : Nat) : Int).toNat = l[i] := by omega
      rw [e2]
      exact ⟨⟨by omega, by omega⟩, m2, m3⟩)) H5 s5
    walk_at "xs"
    walk_at "if"
    rotate_left
    · rename_i c
      walk_at "xs"
      exact bad (fun z => c z.1.1)
    rename_i c1
    walk_at "xs"
    refine x_lenL (s5.seq hq) ?_
    rw [hx]
    walk_at "xs"
    walk_at "if"
    · rename_i c
      walk_at "xs"
      exact bad (fun z => c z.1.2)
    rename_i c2
    walk_at "xs"
    refine x_winix (dp_same s5 hw) c1 c2 fun t2 ht2 => ?_
    walk_at "xs"
    refine x_ix0 ht2 ?_
    walk_at "xs"
    have eb : (ws.getD row[i].toNat (0, 0)).1 = w1 ws row[i].toNat := rfl
    rw [eb]
    walk_at "if"
    · rename_i c
      walk_at "xs"
      exact bad (fun z => by have := z.2.1; omega)
    rename_i c3
    walk_at "xs"
    refine x_winix (dp_same s5 hw) c1 c2 fun t3 ht3 => ?_
    walk_at "xs"
    refine x_ix1 ht3 ?_
    walk_at "xs"
    have eb : (ws.getD row[i].toNat (0, 0)).2 = w2 ws row[i].toNat := rfl
    rw [eb]
    walk_at "if"
    · rename_i c
      walk_at "xs"
      exact bad (fun z => by have := z.2.2; omega)
    rename_i c4
    walk_at "xs"
    refine ⟨_, rfl, s5, fun j hj z => ?_⟩
    by_cases q : j < i
    · exact fit j hj q
    · have : j = i := by omega
      subst this
      exact ⟨⟨c1, c2⟩, by omega, by omega⟩
  · rintro σ H5 ⟨u, rfl, s5, fit⟩
    rw [List.length_map] at fit
    walk_at "xs"
    refine k true H5 s5 ⟨fun _ => ?_, fun _ => rfl⟩
    obtain ⟨l, e, hlt⟩ := nats_of (row := row) (n := ws.length) fun x hx => by
      obtain ⟨j, hj, rfl⟩ := List.getElem_of_mem hx
      exact (fit j hj hj).1
    refine ⟨l, e, ⟨a1, a2⟩, ⟨b1, b2⟩, ?_, fun c hc => ?_, ?_⟩
    · rw [e, List.pairwise_map] at pw
      exact pw.imp fun h => by omega
    · obtain ⟨j, hj, rfl⟩ := List.getElem_of_mem hc
      have hj' : j < row.length := by rw [e, List.length_map]; exact hj
      have h1 : row[j] = (l[j] : Int) := by simp [e]
      have := (fit j hj' hj').2
      rw [h1] at this
      have e2 : ((l[j] : Nat) : Int).toNat = l[j] := by omega
      rw [e2] at this
      exact ⟨hlt _ (List.getElem_mem _), this⟩
    · rw [e, List.length_map] at many; omega

end Su
namespace Su
open PySem L2
local macro_rules | `(tactic| walk_at "side") => `(tactic| first | assumption | (show (0 : Int) < _; omega) | (show (0 : Int) ≤ _; omega) | (show (0 : Int) < _; split <;> omega) | (show _ ∨ _; omega) | (show _ ∧ _; omega) | exact ⟨by decide, by decide, by decide⟩ | exact ⟨by first | assumption | omega, by first | assumption | omega⟩)
local macro_rules | `(tactic| walk_at "x") => `(tactic| first | with_reducible refine Su.x_seq ?_ | with_reducible refine Su.x_asg ?_ | with_reducible refine Su.x_gname ?_ | with_reducible refine Su.x_drop ?_ | with_reducible refine Su.x_ret ?_ | with_reducible refine Su.x_ifS ?_ | ((with_reducible show L2.tVar _ _ _ _); refine Su.x_var rfl ?_) | with_reducible refine Su.x_c ?_ | with_reducible refine Su.x_op ?_ | with_reducible refine Su.x_rI0 ?_ | ((with_reducible refine Su.x_rI ?_ ?_); focus walk_at "side") | with_reducible refine Su.x_rGt ?_ | with_reducible refine Su.x_test ?_ | with_reducible refine Su.x_isB' ?_ | with_reducible refine Su.x_and ?_ | with_reducible refine Su.x_nil ?_ | with_reducible refine Su.x_cons ?_ | with_reducible refine Su.x_cb ?_ | with_reducible refine Su.x_abs ?_ | with_reducible refine Su.x_lst ?_ | with_reducible refine Su.x_bmL ?_ | with_reducible refine Su.x_for ?_ | with_reducible refine Su.x_iList ?_ | with_reducible refine Su.x_whileN ?_)
local macro_rules | `(tactic| walk_at "xs") => `(tactic| repeat walk_at "x")
local macro_rules | `(tactic| walk_at "if") => `(tactic| first | with_reducible refine Su.x_iteD (fun c => ?_) (fun c => ?_) | with_reducible refine Su.x_iteN (fun c => ?_) (fun c => ?_) | with_reducible refine Su.x_ite (fun c => ?_) (fun c => ?_))

/-! _law_draws -/
def sp_law_draws (K : PySem.W.Frag) : Sp := fun vs H Q _ => ∃ (a : Addr) (ns : List Int) (many : Nat), vs = [.ref a, .int many] ∧ SqL K H a (ns.map V.int) ∧ ns.length ≤ 63 ∧ many ≤ 1000 ∧
  ∀ (p : Addr) (rows : List Int) (H' : Hp), H p = none → Same H H' → H' p = some (.lst (rows.map V.int)) → many ≤ rows.length → rows.length ≤ 2000 → (∀ x ∈ rows, -(10 ^ 18) < x ∧ x < 10 ^ 18) → Q (.ref p) H'
abbrev N_law_draws : List Str := ["_law_script", "_law_many", "_law_rows", "_law_mix", "_law_cell", "_law_rest"]
def t_law_draws (K : PySem.W.Frag) : TS :=
 (tSeq (tAsg (tLst tNil) (gName 2))
 (tSeq (tAsg (tC (.int 1)) (gName 3))
 (tSeq (tFor (iList K (tVar 0)) (gName 4)
 (tSeq (tAsg (tOp rMod (tOp rAdd (tOp rMul (tVar 3) (tC (.int 31))) (tVar 4)) (tC (.int 2147483647))) (gName 3))
 (tSeq (tAsg (tCB rAbs (tCons (tVar 4) tNil)) (gName 5))
 (C8.tCut (tIfS (tTest (tOp rLt (tVar 5) (tOp rPow (tC (.int 10)) (tC (.int 18)))))
 (tSeq (tDrop (tBM K "list" rAppend (tVar 2) (tCons (tVar 4) tNil)))
 (tAsg (tC (.int 0)) (gName 5)))
 tNext)
 (tWhile (tAnd (tTest (tOp rGt (tVar 5) (tC (.int 0)))) (tTest (tOp rLt (tCB (rLenSeq K) (tCons (tVar 2) tNil)) (tVar 1))))
 (tSeq (tDrop (tBM K "list" rAppend (tVar 2) (tCons (tOp rMod (tVar 5) (tC (.int 1000003))) tNil)))
 (tAsg (tOp rDiv (tVar 5) (tC (.int 1000003))) (gName 5))))))))
 (tSeq (tWhile (tTest (tOp rLt (tCB (rLenSeq K) (tCons (tVar 2) tNil)) (tVar 1)))
 (tSeq (tAsg (tOp rMod (tOp rAdd (tOp rMul (tVar 3) (tC (.int 48271))) (tC (.int 11))) (tC (.int 2147483647))) (gName 3))
 (tDrop (tBM K "list" rAppend (tVar 2) (tCons (tOp rMod (tOp rMul (tVar 3) (tVar 3)) (tC (.int 999983))) tNil)))))
 (tRet (tVar 2))))))

theorem len_law_draws {K : PySem.W.Frag} : ∀ vs H Q E, sp_law_draws K vs H Q E → vs.length = ["_law_script", "_law_many"].length := by
  rintro vs H Q E ⟨s, n, p, rfl, _⟩; rfl
structure DrawSt (H : Hp) (p : Addr) (rows : List Int) (H' : Hp) : Prop where
  s : Same H H'
  o : H' p = some (.lst (rows.map V.int))
  b : ∀ x ∈ rows, -(10 ^ 18) < x ∧ x < 10 ^ 18
theorem DrawSt.push {H : Hp} {p : Addr} {rows : List Int} {H' : Hp} (h : DrawSt H p rows H') (np : H p = none) {x : Int} (hx : -(10 ^ 18) < x ∧ x < 10 ^ 18) : DrawSt H p (rows ++ [x]) (upd H' p (.lst (rows.map V.int ++ [.int x]))) where
  s := fun b o e => by rw [upd_ne (ne_of_none e np)]; exact h.s b o e
  o := by rw [upd_same, List.map_append]; rfl
  b := fun y hy => by
    rcases List.mem_append.mp hy with q | q
    · exact h.b y q
    · cases List.mem_singleton.mp q; exact hx
theorem pure_law_draws {K : PySem.W.Frag} {vs : List V} {H : Hp} {Q : VK} {E : XK} (h : sp_law_draws K vs H Q E) : t_law_draws K { nx := fun _ H' => Q .non H', rt := Q } (start N_law_draws vs) H := by
  obtain ⟨a, ns, many, rfl, hS, hl, hm, k⟩ := h
  unfold t_law_draws
  walk_at "xs"
  refine ⟨by decide, fun p np => ?_⟩
  walk_at "xs"
  refine ⟨a, rfl, ⟨_, Same.seq (H := H) (fun b o e => by rw [upd_ne (ne_of_none e np)]; exact e) hS⟩, for_list (K := K) (a := a) (xs := ns.map V.int) (fun i σ H' => ∃ (rows : List Int) (mix : Int) (u v : Option V),
      σ = [some (.ref a), some (.int many), some (.ref p), some (.int mix), u, v] ∧ DrawSt H p rows H' ∧ rows.length ≤ i + many ∧ 0 ≤ mix ∧ mix < 2147483647)
    ⟨[], 1, none, none, rfl, ⟨fun b o e => by rw [upd_ne (ne_of_none e np)]; exact e, upd_same, fun _ h => nomatch h⟩, by simp, by decide, by decide⟩ (fun i σ H' _ ⟨_, _, _, _, _, d, _⟩ => d.s.seq hS) ?_ ?_⟩
  · rintro i y σ H1 hi ⟨rows, mix, u, v, rfl, d, hr, m0, m1⟩
    obtain ⟨z, rfl⟩ : ∃ z, y = V.int z := by
      rw [List.getElem?_map] at hi
      cases e : ns[i]? with
      | none => rw [e] at hi; cases hi
      | some z => rw [e] at hi; exact ⟨z, (Option.some.inj hi).symm⟩
    have hil : i < ns.length := by
      have := (List.getElem?_eq_some_iff.mp hi).1
      rwa [List.length_map] at this
    have hq : (0 : Int) ≤ (mix * 31 + z) % 2147483647 ∧ (mix * 31 + z) % 2147483647 < 2147483647 := ⟨Int.emod_nonneg _ (by decide), Int.emod_lt_of_pos _ (by decide)⟩
    -- the while, from any state
    have loop : ∀ (D : Ends) (rows : List Int) (rest : Int) (u : Option V) (H2 : Hp), DrawSt H p rows H2 → 0 ≤ rest → rows.length ≤ i + 1 + many → 
        (∀ rows' rest' H3, DrawSt H p rows' H3 → rows'.length ≤ i + 1 + many → D.nx [some (.ref a), some (.int many), some (.ref p), some (.int ((mix * 31 + z) % 2147483647)), u, some (.int rest')] H3) →
        tWhile (tAnd (tTest (tOp rGt (tVar 5) (tC (V.int 0)))) (tTest (tOp rLt (tCB (rLenSeq K) (tCons (tVar 2) tNil)) (tVar 1))))
            (tSeq (tDrop (tBM K "list" rAppend (tVar 2) (tCons (tOp rMod (tVar 5) (tC (V.int 1000003))) tNil)))
              (tAsg (tOp rDiv (tVar 5) (tC (V.int 1000003))) (gName 5))) D [some (.ref a), some (.int many), some (.ref p), some (.int ((mix * 31 + z) % 2147483647)), u, some (.int rest)] H2 := by
      intro D rows rest u H2 d h0 hr kk
      refine ⟨fun m σ H2 => ∃ rows rest, σ = [some (.ref a), some (.int many), some (.ref p), some (.int ((mix * 31 + z) % 2147483647)), u, some (.int rest)] ∧ DrawSt H p rows H2 ∧ 0 ≤ rest ∧ rows.length ≤ i + 1 + many ∧ m = rest.toNat, ⟨_, rows, rest, rfl, d, h0, hr, rfl⟩, ?_⟩
      rintro m σ H2 ⟨rows, rest, rfl, d, h0, hr, rfl⟩
      walk_at "xs"
      walk_at "if"
      · walk_at "xs"
        refine x_lenL (SqL.of d.o) ?_
        walk_at "xs"
        walk_at "if"
        · rename_i c1 c2
          have c2' : rows.length < many := by rw [List.length_map] at c2; exact Int.ofNat_lt.mp c2
          walk_at "xs"
          refine ⟨tyL (SqL.of d.o), ?_⟩
          walk_at "xs"
          refine x_append d.o (small (by rw [List.length_map]; omega)) ?_
          have b0 := Int.emod_nonneg rest (show (1000003 : Int) ≠ 0 by decide)
          have b1 := Int.emod_lt_of_pos rest (show (0 : Int) < 1000003 by decide)
          walk_at "xs"
          exact ⟨_, by show (rest / 1000003).toNat < rest.toNat; omega, rows ++ [rest % 1000003], rest / 1000003, rfl, d.push np ⟨by omega, by omega⟩, by omega, by rw [List.length_append]; simp; omega, rfl⟩
        · exact kk rows rest H2 d hr
      · exact kk rows rest H2 d hr
    walk_at "xs"
    refine x_cut (fun σ H2 => ∃ (rows : List Int) (rest : Int), σ = [some (.ref a), some (.int many), some (.ref p), some (.int ((mix * 31 + z) % 2147483647)), some (.int z), some (.int rest)] ∧ DrawSt H p rows H2 ∧ 0 ≤ rest ∧ rows.length ≤ i + 1 + many) ?_ ?_
    · walk_at "xs"
      walk_at "if"
      · rename_i c1
        walk_at "xs"
        refine ⟨tyL (SqL.of d.o), ?_⟩
        walk_at "xs"
        have hz : -(10 ^ 18) < z ∧ z < 10 ^ 18 := by
          by_cases z0 : z < 0
          · rw [if_pos z0] at c1; exact ⟨by have : -z < 10 ^ 18 := c1; omega, by omega⟩
          · rw [if_neg z0] at c1; exact ⟨by omega, c1⟩
        refine x_append d.o (small (by rw [List.length_map]; omega)) ?_
        walk_at "xs"
        exact ⟨rows ++ [z], 0, rfl, d.push np hz, by decide, by rw [List.length_append]; simp; omega⟩
      · refine ⟨rows, _, rfl, d, ?_, by omega⟩
        by_cases z0 : z < 0
        · rw [if_pos z0]; omega
        · rw [if_neg z0]; omega
    rintro _ _ ⟨rows, rest, rfl, d, h0, hr⟩
    refine loop _ rows rest _ _ d h0 hr fun rows' rest' H3 d3 h3 => ?_
    exact ⟨rows', _, _, _, rfl, d3, h3, hq.1, hq.2⟩
  · rintro σ H1 ⟨rows, mix, u, v, rfl, d, hr, m0, m1⟩
    rw [List.length_map] at hr
    walk_at "xs"
    refine ⟨fun m σ H2 => ∃ (rows : List Int) (mix : Int), σ = [some (.ref a), some (.int many), some (.ref p), some (.int mix), u, v] ∧ DrawSt H p rows H2 ∧ rows.length ≤ 63 + many ∧ 0 ≤ mix ∧ mix < 2147483647 ∧ m = many - rows.length, ⟨_, rows, mix, rfl, d, by omega, m0, m1, rfl⟩, ?_⟩
    rintro m σ H2 ⟨rows, mix, rfl, d, hr, m0, m1, rfl⟩
    walk_at "xs"
    refine x_lenL (SqL.of d.o) ?_
    walk_at "xs"
    walk_at "if"
    · rename_i c2
      have c2' : rows.length < many := by rw [List.length_map] at c2; exact Int.ofNat_lt.mp c2
      have hq : (0 : Int) ≤ (mix * 48271 + 11) % 2147483647 ∧ (mix * 48271 + 11) % 2147483647 < 2147483647 := ⟨Int.emod_nonneg _ (by decide), Int.emod_lt_of_pos _ (by decide)⟩
      walk_at "xs"
      refine ⟨tyL (SqL.of d.o), ?_⟩
      walk_at "xs"
      refine x_append d.o (small (by rw [List.length_map]; omega)) ?_
      have b0 := Int.emod_nonneg ((mix * 48271 + 11) % 2147483647 * ((mix * 48271 + 11) % 2147483647)) (show (999983 : Int) ≠ 0 by decide)
      have b1 := Int.emod_lt_of_pos ((mix * 48271 + 11) % 2147483647 * ((mix * 48271 + 11) % 2147483647)) (show (0 : Int) < 999983 by decide)
      exact ⟨_, by show many - (rows.length + 1) < many - rows.length; omega, rows ++ [_], _, rfl, d.push np ⟨by omega, by omega⟩, by rw [List.length_append]; simp; omega, hq.1, hq.2, by rw [List.length_append]; rfl⟩
    · rename_i c2
      have c2' : many ≤ rows.length := by
        rw [List.length_map] at c2
        omega
      walk_at "xs"
      exact k p rows H2 np d.s d.o c2' (by omega) d.b

end Su
namespace Su
open PySem L2
local macro_rules | `(tactic| walk_at "side") => `(tactic| first | assumption | (show (0 : Int) < _; omega) | (show (0 : Int) ≤ _; omega) | (show (0 : Int) < _; split <;> omega) | (show _ ∨ _; omega) | (show _ ∧ _; omega) | exact ⟨by decide, by decide, by decide⟩ | exact ⟨by first | assumption | omega, by first | assumption | omega⟩)
local macro_rules | `(tactic| walk_at "x") => `(tactic| first | with_reducible refine Su.x_ret ?_ | ((with_reducible show L2.tVar _ _ _ _); refine Su.x_var rfl ?_) | with_reducible refine Su.x_c ?_ | with_reducible refine Su.x_op ?_ | with_reducible refine Su.x_rI0 ?_ | with_reducible refine Su.x_nil ?_ | with_reducible refine Su.x_cons ?_ | with_reducible refine Su.x_cb ?_ | with_reducible refine Su.x_max2 ?_)
local macro_rules | `(tactic| walk_at "xs") => `(tactic| repeat walk_at "x")
local macro_rules | `(tactic| walk_at "if") => `(tactic| first | with_reducible refine Su.x_iteD (fun c => ?_) (fun c => ?_) | with_reducible refine Su.x_iteN (fun c => ?_) (fun c => ?_) | with_reducible refine Su.x_ite (fun c => ?_) (fun c => ?_))

/-! _law_early -/
def sp_law_early (K : PySem.W.Frag) : Sp := fun vs H Q _ => ∃ s n p : Int, vs = [.int s, .int n, .int p] ∧ 0 < s ∧ s ≤ 1000000 ∧ Q (.int (firstCov s n p)) H
abbrev N_law_early : List Str := ["_law_stake", "_law_size", "_law_pledge"]
def t_law_early (K : PySem.W.Frag) : TS :=
 (tRet (tCB rMax2 (tCons (tC (.int 1)) (tCons (tOp rSub (tVar 1) (tOp rDivW (tVar 2) (tVar 0))) tNil))))

theorem len_law_early {K : PySem.W.Frag} : ∀ vs H Q E, sp_law_early K vs H Q E → vs.length = ["a", "b", "c"].length := by
  rintro vs H Q E ⟨_, _, _, rfl, _⟩; rfl
theorem pure_law_early {K : PySem.W.Frag} {vs : List V} {H : Hp} {Q : VK} {E : XK} (h : sp_law_early K vs H Q E) : t_law_early K { nx := fun _ H' => Q .non H', rt := Q } (start N_law_early vs) H := by
  obtain ⟨s, n, p, rfl, h0, h1, k⟩ := h
  unfold t_law_early
  walk_at "xs"
  refine x_rI (C := CDivW) ⟨h0, log_small h0 h1⟩ ?_
  walk_at "xs"
  have e : (if n - p / s > 1 then n - p / s else 1) = firstCov s n p := by
    unfold firstCov
    split <;> split <;> omega
  rw [e]; exact k

end Su
namespace Su
open PySem L2
local macro_rules | `(tactic| walk_at "side") => `(tactic| first | assumption | (show (0 : Int) < _; omega) | (show (0 : Int) ≤ _; omega) | (show (0 : Int) < _; split <;> omega) | (show _ ∨ _; omega) | (show _ ∧ _; omega) | exact ⟨by decide, by decide, by decide⟩ | exact ⟨by first | assumption | omega, by first | assumption | omega⟩)
local macro_rules | `(tactic| walk_at "xs") => `(tactic| repeat walk_at "x")
local macro_rules | `(tactic| walk_at "if") => `(tactic| first | with_reducible refine Su.x_iteD (fun c => ?_) (fun c => ?_) | with_reducible refine Su.x_iteN (fun c => ?_) (fun c => ?_) | with_reducible refine Su.x_ite (fun c => ?_) (fun c => ?_))

/-! the state, written anew -/
theorem x_normE {N : St → Hp → Prop} {σ σ' : St} {H : Hp} (e : σ = σ') (h : N σ' H) : N σ H := by rw [e]; exact h
end Su
namespace Su
open PySem L2
local macro_rules | `(tactic| walk_at "side") => `(tactic| first | assumption | (show (0 : Int) < _; omega) | (show (0 : Int) ≤ _; omega) | (show (0 : Int) < _; split <;> omega) | (show _ ∨ _; omega) | (show _ ∧ _; omega) | exact ⟨by decide, by decide, by decide⟩ | exact ⟨by first | assumption | omega, by first | assumption | omega⟩)
local macro_rules | `(tactic| walk_at "xs") => `(tactic| repeat walk_at "x")
local macro_rules | `(tactic| walk_at "if") => `(tactic| first | with_reducible refine Su.x_iteD (fun c => ?_) (fun c => ?_) | with_reducible refine Su.x_iteN (fun c => ?_) (fun c => ?_) | with_reducible refine Su.x_ite (fun c => ?_) (fun c => ?_))

/-! the loop of windows around a planted order: one turn -/
theorem b_mod (r d : Int) (h : 0 < d) : 0 ≤ r % d ∧ r % d < d := ⟨Int.emod_nonneg r (by omega), Int.emod_lt_of_pos r h⟩
end Su
namespace Su
open PySem L2
local macro_rules | `(tactic| walk_at "side") => `(tactic| first | assumption | (show (0 : Int) < _; omega) | (show (0 : Int) ≤ _; omega) | (show (0 : Int) < _; split <;> omega) | (show _ ∨ _; omega) | (show _ ∧ _; omega) | exact ⟨by decide, by decide, by decide⟩ | exact ⟨by first | assumption | omega, by first | assumption | omega⟩)
local macro_rules | `(tactic| walk_at "x") => `(tactic| first | with_reducible refine Su.x_seq ?_ | with_reducible refine Su.x_asg ?_ | with_reducible refine Su.x_ret ?_ | with_reducible refine Su.x_ifS ?_ | ((with_reducible show L2.tVar _ _ _ _); refine Su.x_var rfl ?_) | with_reducible refine Su.x_c ?_ | with_reducible refine Su.x_op ?_ | with_reducible refine Su.x_rI0 ?_ | with_reducible refine Su.x_iteT ?_ | with_reducible refine Su.x_iteNF ?_ | with_reducible refine Su.x_neI ?_ | with_reducible refine Su.x_test ?_ | with_reducible refine Su.x_isB' ?_ | with_reducible refine Su.x_not ?_ | with_reducible refine Su.x_or ?_ | with_reducible refine Su.x_chain ?_ | with_reducible refine Su.x_nil ?_ | with_reducible refine Su.x_cons ?_ | with_reducible refine Su.x_cb ?_ | with_reducible refine Su.x_for ?_ | with_reducible refine Su.x_iZip ?_)
local macro_rules | `(tactic| walk_at "xs") => `(tactic| repeat walk_at "x")
local macro_rules | `(tactic| walk_at "if") => `(tactic| first | with_reducible refine Su.x_iteD (fun c => ?_) (fun c => ?_) | with_reducible refine Su.x_iteN (fun c => ?_) (fun c => ?_) | with_reducible refine Su.x_ite (fun c => ?_) (fun c => ?_))

/-! _law_good -/
def sp_law_good (K : PySem.W.Frag) : Sp := fun vs H Q _ => ∃ (p w : Addr) (s : Int) (pl ws : List Int), vs = [.int s, .ref p, .ref w] ∧ SqL K H p (pl.map V.int) ∧ SqL K H w (ws.map V.int) ∧ pl.length ≤ 100 ∧
  ∀ (t : Bool) (H' : Hp), Same H H' → (t = true ↔ OpenOk s pl ws) → Q (.bl t) H'
abbrev N_law_good : List Str := ["_law_stake", "_law_pledges", "_law_wishes", "_law_size", "_law_pledge", "_law_wish"]
def t_law_good (K : PySem.W.Frag) : TS :=
 (tSeq (tAsg (tCB (rLenSeq K) (tCons (tVar 1) tNil)) (gName 3))
 (tSeq (tIfS (tOr (tNot (tTest (tChain rLe rLe (tC (.int 1)) (tVar 0) (tC (.int 1000000))))) (tOr (tNot (tTest (tChain rLe rLe (tC (.int 2)) (tVar 3) (tC (.int 20))))) (tTest (tOp rNe (tCB (rLenSeq K) (tCons (tVar 2) tNil)) (tVar 3)))))
 (tRet (tC (.bl false)))
 tNext)
 (tSeq (tFor (iZip K (tCons (tVar 1) (tCons (tVar 2) tNil))) (gTup K 2 (gCons (gName 4) (gCons (gName 5) gNil)))
 (tIfS (tOr (tNot (tTest (tChain rLe rLe (tC (.int 0)) (tVar 4) (tC (.int 1000000000))))) (tNot (tTest (tChain rLe rLe (tC (.int 1)) (tVar 5) (tVar 3)))))
 (tRet (tC (.bl false)))
 tNext))
 (tRet (tC (.bl true))))))

theorem len_law_good {K : PySem.W.Frag} : ∀ vs H Q E, sp_law_good K vs H Q E → vs.length = ["a", "b", "c"].length := by
  rintro vs H Q E ⟨_, _, _, _, _, rfl, _⟩; rfl
theorem pure_law_good {K : PySem.W.Frag} {vs : List V} {H : Hp} {Q : VK} {E : XK} (h : sp_law_good K vs H Q E) : t_law_good K { nx := fun _ H' => Q .non H', rt := Q } (start N_law_good vs) H := by
  obtain ⟨p, w, s, pl, ws, rfl, hp, hw, lb, k⟩ := h
  unfold t_law_good
  walk_at "xs"
  refine x_lenL hp ?_
  rw [List.length_map]
  refine x_gname ?_
  refine x_normE (σ' := [some (.int s), some (.ref p), some (.ref w), some (.int (pl.length : Nat)), none, none]) rfl ?_
  have no : ¬ OpenOk s pl ws → Q (.bl false) H := fun z => k false H (Same.refl _) ⟨(fun e => by cases e), fun o => absurd o z⟩
  walk_at "xs"
  by_cases c1 : (1 : Int) ≤ s
  · rw [decide_eq_true c1]
    refine x_iteT ?_
    walk_at "xs"
    by_cases c2 : s ≤ 1000000
    · rw [decide_eq_true c2]
      refine x_iteNT ?_
      walk_at "xs"
      by_cases c3 : (2 : Int) ≤ (pl.length : Int)
      · rw [decide_eq_true c3]
        refine x_iteT ?_
        walk_at "xs"
        by_cases c4 : (pl.length : Int) ≤ 20
        · rw [decide_eq_true c4]
          refine x_iteNT ?_
          walk_at "xs"
          refine x_lenL hw ?_
          rw [List.length_map]
          walk_at "xs"
          by_cases c5 : (ws.length : Int) = (pl.length : Int)
          · rw [decide_eq_true c5]
            refine x_iteNT (x_next ?_)
            have ll : ws.length = pl.length := by omega
            walk_at "xs"
            refine ⟨p, w, _, _, rfl, hp, hw, for_by (turnsZ (K := K) (a := p) (b := w) (xs := pl.map V.int) (ys := ws.map V.int) (by rw [List.length_map, List.length_map, ll])) (fun i σ H' => ∃ (u4 u5 : Option V), σ = [some (.int s), some (.ref p), some (.ref w), some (.int (pl.length : Nat)), u4, u5] ∧ Same H H' ∧ ∀ j, j < i → (0 ≤ pl.getD j 0 ∧ pl.getD j 0 ≤ 1000000000) ∧ 1 ≤ ws.getD j 0 ∧ ws.getD j 0 ≤ (pl.length : Int))
              ⟨_, _, rfl, Same.refl _, fun j z => absurd z (by omega)⟩ (fun i σ H' _ q => by obtain ⟨_, _, _, s', _⟩ := q; exact ⟨s'.seq hp, s'.seq hw⟩) ?_ ?_⟩
            · rintro i v σ H1 H2 hi ⟨u4, u5, rfl, s1, ok⟩ ⟨x, y, hx, hy, T, rfl, nT, sT, hT, _⟩
              rw [List.length_map] at hi
              have hi' : i < ws.length := by omega
              rw [List.getElem?_map, List.getElem?_eq_getElem hi] at hx
              rw [List.getElem?_map, List.getElem?_eq_getElem hi'] at hy
              cases hx; cases hy
              have g1 : pl.getD i 0 = pl[i] := by rw [List.getD_eq_getElem?_getD, List.getElem?_eq_getElem hi]; rfl
              have g2 : ws.getD i 0 = ws[i] := by rw [List.getD_eq_getElem?_getD, List.getElem?_eq_getElem hi']; rfl
              have no1 : ¬ (0 ≤ pl[i] ∧ pl[i] ≤ 1000000000) → Q (.bl false) H2 := fun z => k false H2 (s1.trans sT) ⟨(fun e => by cases e), fun o => absurd (o.p _ (List.getElem_mem hi)) z⟩
              have no2 : ¬ (1 ≤ ws[i] ∧ ws[i] ≤ (pl.length : Int)) → Q (.bl false) H2 := fun z => k false H2 (s1.trans sT) ⟨(fun e => by cases e), fun o => absurd (o.w _ (List.getElem_mem hi')) z⟩
              refine x_gtup (SqT.of hT) rfl ?_
              refine x_gcons (x_gname (x_gcons (x_gname (x_gnil ?_))))
              refine x_normE (σ' := [some (.int s), some (.ref p), some (.ref w), some (.int (pl.length : Nat)), some (.int pl[i]), some (.int ws[i])]) rfl ?_
              generalize pl[i] = a at g1 no1
              generalize ws[i] = b at g2 no2
              walk_at "xs"
              by_cases d1 : 0 ≤ a
              · rw [decide_eq_true d1]
                refine x_iteT ?_
                walk_at "xs"
                by_cases d2 : a ≤ 1000000000
                · rw [decide_eq_true d2]
                  refine x_iteNT ?_
                  walk_at "xs"
                  by_cases d3 : 1 ≤ b
                  · rw [decide_eq_true d3]
                    refine x_iteT ?_
                    walk_at "xs"
                    by_cases d4 : b ≤ (pl.length : Int)
                    · rw [decide_eq_true d4]
                      refine x_iteNT (x_next ?_)
                      refine ⟨_, _, rfl, s1.trans sT, fun j hj => ?_⟩
                      rcases (show j < i ∨ j = i by omega) with z | z
                      · exact ok j z
                      · rw [z, g1, g2]; exact ⟨⟨d1, d2⟩, d3, d4⟩
                    · rw [decide_eq_false d4]
                      refine x_iteNF ?_
                      walk_at "xs"
                      exact no2 fun z => d4 z.2
                  · rw [decide_eq_false d3]
                    refine x_iteF ?_
                    walk_at "xs"
                    exact no2 fun z => d3 z.1
                · rw [decide_eq_false d2]
                  refine x_iteNF ?_
                  walk_at "xs"
                  exact no1 fun z => d2 z.2
              · rw [decide_eq_false d1]
                refine x_iteF ?_
                walk_at "xs"
                exact no1 fun z => d1 z.1
            rintro σ H1 ⟨u4, u5, rfl, s1, ok⟩
            rw [List.length_map] at ok
            walk_at "xs"
            have mem : ∀ (l : List Int) x, x ∈ l → ∃ j, j < l.length ∧ l.getD j 0 = x := fun l x hx => by
              obtain ⟨j, hj, e⟩ := List.getElem_of_mem hx
              exact ⟨j, hj, by rw [List.getD_eq_getElem?_getD, List.getElem?_eq_getElem hj]; exact e⟩
            exact k true H1 s1 ⟨fun _ => ⟨c1, c2, by omega, by omega, ll, fun x hx => by
              obtain ⟨j, hj, e⟩ := mem pl x hx
              rw [← e]; exact (ok j hj).1, fun x hx => by
              obtain ⟨j, hj, e⟩ := mem ws x hx
              rw [← e]; exact (ok j (by omega)).2⟩, fun _ => rfl⟩
          · rw [decide_eq_false c5]
            refine x_iteNF ?_
            walk_at "xs"
            exact no fun o => c5 (by rw [o.nw])
        · rw [decide_eq_false c4]
          refine x_iteNF ?_
          walk_at "xs"
          exact no fun o => c4 (by have := o.n2; omega)
      · rw [decide_eq_false c3]
        refine x_iteF ?_
        walk_at "xs"
        exact no fun o => c3 (by have := o.n1; omega)
    · rw [decide_eq_false c2]
      refine x_iteNF ?_
      walk_at "xs"
      exact no fun o => c2 o.s2
  · rw [decide_eq_false c1]
    refine x_iteF ?_
    walk_at "xs"
    exact no fun o => c1 o.s1

end Su
namespace Su
open PySem L2
local macro_rules | `(tactic| walk_at "side") => `(tactic| first | assumption | (show (0 : Int) < _; omega) | (show (0 : Int) ≤ _; omega) | (show (0 : Int) < _; split <;> omega) | (show _ ∨ _; omega) | (show _ ∧ _; omega) | exact ⟨by decide, by decide, by decide⟩ | exact ⟨by first | assumption | omega, by first | assumption | omega⟩)
local macro_rules | `(tactic| walk_at "x") => `(tactic| first | with_reducible refine Su.x_seq ?_ | with_reducible refine Su.x_asg ?_ | with_reducible refine Su.x_gname ?_ | with_reducible refine Su.x_drop ?_ | with_reducible refine Su.x_ret ?_ | with_reducible refine Su.x_ifS ?_ | ((with_reducible show L2.tVar _ _ _ _); refine Su.x_var rfl ?_) | with_reducible refine Su.x_c ?_ | with_reducible refine Su.x_op ?_ | with_reducible refine Su.x_rI0 ?_ | ((with_reducible refine Su.x_rI ?_ ?_); focus walk_at "side") | ((with_reducible show L2.rIxL _ (L2.V.ref _) (L2.V.int _) _ _); refine Su.x_ixI (by assumption) (by first | decide | omega) (by omega) ?_) | with_reducible refine Su.x_rGt ?_ | with_reducible refine Su.x_eqI ?_ | with_reducible refine Su.x_test ?_ | with_reducible refine Su.x_isB' ?_ | with_reducible refine Su.x_and ?_ | with_reducible refine Su.x_nil ?_ | with_reducible refine Su.x_cons ?_ | with_reducible refine Su.x_cb ?_ | with_reducible refine Su.x_un ?_ | with_reducible refine Su.x_rU ?_ | with_reducible refine Su.x_lst ?_ | with_reducible refine Su.x_tup ?_ | with_reducible refine Su.x_bmL ?_ | with_reducible refine Su.x_gsub ?_ | with_reducible refine Su.x_sl ?_ | with_reducible refine Su.x_nopart ?_ | with_reducible refine Su.x_part ?_ | with_reducible refine Su.x_isI ?_)
local macro_rules | `(tactic| walk_at "xs") => `(tactic| repeat walk_at "x")
local macro_rules | `(tactic| walk_at "if") => `(tactic| first | with_reducible refine Su.x_iteD (fun c => ?_) (fun c => ?_) | with_reducible refine Su.x_iteN (fun c => ?_) (fun c => ?_) | with_reducible refine Su.x_ite (fun c => ?_) (fun c => ?_))

/-! _law_spoil: one thing spoilt; what comes out is a stake, pledges, wishes -/
def sp_law_spoil (K : PySem.W.Frag) : Sp := fun vs H Q _ => ∃ (a p w : Addr) (rows : List Int) (s : Int) (pl ws : List Int), vs = [.ref a, .int s, .ref p, .ref w] ∧ H a = some (.lst (rows.map V.int)) ∧ 3 ≤ rows.length ∧ H p = some (.lst (pl.map V.int)) ∧ H w = some (.lst (ws.map V.int)) ∧ p ≠ w ∧ a ≠ p ∧ a ≠ w ∧ pl.length = ws.length ∧ pl.length ≤ 30 ∧
  ∀ (t w' : Addr) (s' : Int) (pl' ws' : List Int) (H' : Hp), H' t = some (.tup [.int s', .ref p, .ref w']) → H' p = some (.lst (pl'.map V.int)) → H' w' = some (.lst (ws'.map V.int)) → pl'.length = pl.length → ws'.length ≤ ws.length + 1 → w' ≠ p → (∀ y u, y ≠ p → y ≠ w → H y = some u → H' y = some u) → (∀ y u, y ≠ w → y ≠ p → H y = some u → y ≠ w') → Q (.ref t) H'
abbrev N_law_spoil : List Str := ["_law_some", "_law_stake", "_law_pledges", "_law_wishes", "_law_size", "_law_way", "_law_bad"]
def t_law_spoil (K : PySem.W.Frag) : TS :=
 (tSeq (tAsg (tCB (rLenSeq K) (tCons (tVar 2) tNil)) (gName 4))
 (tSeq (tAsg (tOp rMod (tOp (rIxL K) (tVar 0) (tC (.int 0))) (tC (.int 6))) (gName 5))
 (tSeq (tAsg (tOp (rIxL K) (tLst (tCons (tC (.int 0)) (tCons (tUn rNeg (tC (.int 1))) (tCons (tC (.int 1000001)) (tCons (tOp rPow (tC (.int 10)) (tC (.int 12))) tNil))))) (tOp rMod (tOp (rIxL K) (tVar 0) (tC (.int 1))) (tC (.int 4)))) (gName 6))
 (tSeq (tIfS (tTest (tOp rEq (tVar 5) (tC (.int 0))))
 (tRet (tTup (tCons (tVar 6) (tCons (tVar 2) (tCons (tVar 3) tNil)))))
 tNext)
 (C8.tCut (tIfS (tAnd (tTest (tOp rEq (tVar 5) (tC (.int 1)))) (tTest (tOp rGt (tVar 4) (tC (.int 0)))))
 (tAsg (tOp (rIxL K) (tLst (tCons (tUn rNeg (tC (.int 1))) (tCons (tC (.int 1000000001)) (tCons (tC (.int 1000000000)) (tCons (tUn rNeg (tC (.int 999))) tNil))))) (tOp rMod (tOp (rIxL K) (tVar 0) (tC (.int 1))) (tC (.int 4)))) (gSub (tVar 2) (tOp rMod (tOp (rIxL K) (tVar 0) (tC (.int 2))) (tVar 4)) rSetL))
 tNext)
 (C8.tCut (tIfS (tAnd (tTest (tOp rEq (tVar 5) (tC (.int 2)))) (tTest (tOp rGt (tVar 4) (tC (.int 0)))))
 (tAsg (tOp (rIxL K) (tLst (tCons (tC (.int 0)) (tCons (tOp rAdd (tVar 4) (tC (.int 1))) (tCons (tUn rNeg (tC (.int 1))) (tCons (tOp rAdd (tVar 4) (tC (.int 9))) tNil))))) (tOp rMod (tOp (rIxL K) (tVar 0) (tC (.int 1))) (tC (.int 4)))) (gSub (tVar 3) (tOp rMod (tOp (rIxL K) (tVar 0) (tC (.int 2))) (tVar 4)) rSetL))
 tNext)
 (C8.tCut (tIfS (tTest (tOp rEq (tVar 5) (tC (.int 3))))
 (tDrop (tBM K "list" rAppend (tVar 3) (tCons (tC (.int 1)) tNil)))
 tNext)
 (C8.tCut (tIfS (tAnd (tTest (tOp rEq (tVar 5) (tC (.int 4)))) (tTest (tOp rGt (tVar 4) (tC (.int 0)))))
 (tAsg (tSl (rSlL K) (tVar 3) (tPart (tC (.int 1))) tNoPart) (gName 3))
 tNext)
 (tRet (tTup (tCons (tVar 1) (tCons (tVar 2) (tCons (tVar 3) tNil)))))))))))))

theorem len_law_spoil {K : PySem.W.Frag} : ∀ vs H Q E, sp_law_spoil K vs H Q E → vs.length = ["a", "b", "c", "d"].length := by
  rintro vs H Q E ⟨_, _, _, _, _, _, _, rfl, _⟩; rfl
theorem map_setI {xs : List Int} {i : Nat} {v : Int} : (xs.map V.int).set i (.int v) = (xs.set i v).map V.int := by rw [List.map_set]
structure SpIn (H H' : Hp) (a p w : Addr) (n : Nat) (pl ws : List Int) : Prop where
  hp : H' p = some (.lst (pl.map V.int))
  hw : H' w = some (.lst (ws.map V.int))
  lp : pl.length = n
  k : ∀ y u, y ≠ p → y ≠ w → H y = some u → H' y = some u
theorem pure_law_spoil {K : PySem.W.Frag} {vs : List V} {H : Hp} {Q : VK} {E : XK} (h : sp_law_spoil K vs H Q E) : t_law_spoil K { nx := fun _ H' => Q .non H', rt := Q } (start N_law_spoil vs) H := by
  obtain ⟨a, p, w, rows, s, pl, ws, rfl, ha, hr, hp, hw, pw, ap, aw, ll, lb, k⟩ := h
  have haS : H a = some (.lst (rows.map V.int)) := ha
  unfold t_law_spoil
  walk_at "xs"
  refine x_lenL (SqL.of hp) ?_
  rw [List.length_map]
  obtain ⟨n, hn⟩ : ∃ n, pl.length = n := ⟨_, rfl⟩
  rw [hn]
  walk_at "xs"
  have b6 := b_mod (rows.getD (Int.toNat 0) 0) 6 (by decide)
  generalize rows.getD (Int.toNat 0) 0 % 6 = way at b6
  refine al_lst fun L H1 nL s1 hL => ?_
  have ha1 := s1 _ _ ha
  walk_at "xs"
  have b4 := b_mod (rows.getD (Int.toNat 1) 0) 4 (by decide)
  have pick : ∀ {l : List Int} {i : Int}, l.length = 4 → 0 ≤ i → i < 4 → ∃ v, atI (l.map V.int) i = some (.int v) := fun {l i} e h0 h1 => ⟨_, at_getI h0 (by omega)⟩
  obtain ⟨bad, eb⟩ := pick (l := [0, -1, 1000001, 10 ^ 12]) rfl b4.1 b4.2
  refine x_ixL (SqL.of hL) eb ?_
  refine x_gname ?_
  refine x_normE (σ' := [some (.ref a), some (.int s), some (.ref p), some (.ref w), some (.int (n : Nat)), some (.int way), some (.int bad)]) rfl ?_
  have keep1 : ∀ y u, y ≠ p → y ≠ w → H y = some u → H1 y = some u := fun y u _ _ e => s1 _ _ e
  walk_at "xs"
  by_cases c0 : way = 0
  · rw [decide_eq_true c0]
    refine x_iteT ?_
    walk_at "xs"
    refine al_tup fun T H2 nT s2 hT => ?_
    exact k T w bad pl ws H2 hT (s2 _ _ (s1 _ _ hp)) (s2 _ _ (s1 _ _ hw)) rfl (by omega) pw.symm (fun y u _ _ e => s2 _ _ (s1 _ _ e)) fun y u yw _ _ => yw
  rw [decide_eq_false c0]
  refine x_iteF (x_next ?_)
  have I1 : SpIn H H1 a p w n pl ws := ⟨s1 _ _ hp, s1 _ _ hw, hn, keep1⟩
  clear keep1 hL nL
  refine x_cut (fun σ' H' => σ' = [some (.ref a), some (.int s), some (.ref p), some (.ref w), some (.int (n : Nat)), some (.int way), some (.int bad)] ∧ ∃ pl', SpIn H H' a p w n pl' ws) ?_ ?_
  · walk_at "xs"
    by_cases c1 : way = 1
    · rw [decide_eq_true c1]
      refine x_iteT ?_
      walk_at "xs"
      by_cases c2 : (0 : Int) < (n : Int)
      · rw [decide_eq_true c2]
        refine x_iteT ?_
        walk_at "xs"
        refine al_lst fun L H2 nL s2 hL => ?_
        have ha2 := s2 _ _ ha1
        walk_at "xs"
        obtain ⟨v, ev⟩ := pick (l := [-1, 1000000001, 1000000000, -999]) rfl b4.1 b4.2
        refine x_ixL (SqL.of hL) ev ?_
        walk_at "xs"
        have bn := b_mod (rows.getD (Int.toNat 2) 0) (n : Int) c2
        refine x_setL (s2 _ _ I1.hp) bn.1 (by rw [List.length_map, hn]; exact bn.2) ?_
        rw [map_setI]
        exact ⟨rfl, _, upd_same, by rw [upd_ne pw.symm]; exact s2 _ _ I1.hw, by rw [List.length_set]; exact hn, fun y u yp yw e => by rw [upd_ne yp]; exact s2 _ _ (I1.k y u yp yw e)⟩
      · rw [decide_eq_false c2]
        exact x_iteF (x_next ⟨rfl, pl, I1⟩)
    · rw [decide_eq_false c1]
      refine x_iteF ?_
      exact x_iteF (x_next ⟨rfl, pl, I1⟩)
  clear I1 ha1
  rintro σ' H2 ⟨rfl, pl1, I2⟩
  have ha2 := I2.k a _ ap aw ha
  refine x_cut (fun σ' H' => σ' = [some (.ref a), some (.int s), some (.ref p), some (.ref w), some (.int (n : Nat)), some (.int way), some (.int bad)] ∧ ∃ ws', SpIn H H' a p w n pl1 ws' ∧ ws'.length = n) ?_ ?_
  · walk_at "xs"
    by_cases c1 : way = 2
    · rw [decide_eq_true c1]
      refine x_iteT ?_
      walk_at "xs"
      by_cases c2 : (0 : Int) < (n : Int)
      · rw [decide_eq_true c2]
        refine x_iteT ?_
        walk_at "xs"
        refine al_lst fun L H3 nL s3 hL => ?_
        have ha3 := s3 _ _ ha2
        walk_at "xs"
        obtain ⟨v, ev⟩ := pick (l := [0, (n : Int) + 1, -1, (n : Int) + 9]) rfl b4.1 b4.2
        refine x_ixL (SqL.of hL) ev ?_
        walk_at "xs"
        have bn := b_mod (rows.getD (Int.toNat 2) 0) (n : Int) c2
        refine x_setL (s3 _ _ I2.hw) bn.1 (by rw [List.length_map, ← ll, hn]; exact bn.2) ?_
        rw [map_setI]
        exact ⟨rfl, _, ⟨by rw [upd_ne pw]; exact s3 _ _ I2.hp, upd_same, I2.lp, fun y u yp yw e => by rw [upd_ne yw]; exact s3 _ _ (I2.k y u yp yw e)⟩, by rw [List.length_set]; omega⟩
      · rw [decide_eq_false c2]
        exact x_iteF (x_next ⟨rfl, ws, I2, by omega⟩)
    · rw [decide_eq_false c1]
      refine x_iteF ?_
      exact x_iteF (x_next ⟨rfl, ws, I2, by omega⟩)
  clear I2 ha2
  rintro σ' H3 ⟨rfl, ws1, I3, l3⟩
  refine x_cut (fun σ' H' => σ' = [some (.ref a), some (.int s), some (.ref p), some (.ref w), some (.int (n : Nat)), some (.int way), some (.int bad)] ∧ ∃ ws', SpIn H H' a p w n pl1 ws' ∧ ws'.length ≤ n + 1) ?_ ?_
  · walk_at "xs"
    by_cases c1 : way = 3
    · rw [decide_eq_true c1]
      refine x_iteT ?_
      walk_at "xs"
      refine ⟨tyL (SqL.of I3.hw), ?_⟩
      walk_at "xs"
      refine x_append I3.hw (small (by rw [List.length_map]; omega)) ?_
      exact ⟨rfl, ws1 ++ [1], ⟨by rw [upd_ne pw]; exact I3.hp, by rw [upd_same, List.map_append]; rfl, I3.lp, fun y u yp yw e => by rw [upd_ne yw]; exact I3.k y u yp yw e⟩, by rw [List.length_append, l3]; exact Nat.le_refl _⟩
    · rw [decide_eq_false c1]
      exact x_iteF (x_next ⟨rfl, ws1, I3, by omega⟩)
  clear I3 l3
  rintro σ' H4 ⟨rfl, ws2, I4, l4⟩
  refine x_cut (fun σ' H' => ∃ (w' : Addr) (ws' : List Int), σ' = [some (.ref a), some (.int s), some (.ref p), some (.ref w'), some (.int (n : Nat)), some (.int way), some (.int bad)] ∧ H' p = some (.lst (pl1.map V.int)) ∧ H' w' = some (.lst (ws'.map V.int)) ∧ ws'.length ≤ n + 1 ∧ w' ≠ p ∧ (∀ y u, y ≠ p → y ≠ w → H y = some u → H' y = some u) ∧ ∀ y u, y ≠ w → y ≠ p → H y = some u → y ≠ w') ?_ ?_
  · have stay : ∃ (w' : Addr) (ws' : List Int), [some (.ref a), some (.int s), some (.ref p), some (.ref w), some (.int (n : Nat)), some (.int way), some (.int bad)] = [some (.ref a), some (.int s), some (.ref p), some (.ref w'), some (.int (n : Nat)), some (.int way), some (V.int bad)] ∧ H4 p = some (.lst (pl1.map V.int)) ∧ H4 w' = some (.lst (ws'.map V.int)) ∧ ws'.length ≤ n + 1 ∧ w' ≠ p ∧ (∀ y u, y ≠ p → y ≠ w → H y = some u → H4 y = some u) ∧ ∀ y u, y ≠ w → y ≠ p → H y = some u → y ≠ w' := ⟨w, ws2, rfl, I4.hp, I4.hw, l4, pw.symm, I4.k, fun y u yw _ _ => yw⟩
    walk_at "xs"
    by_cases c1 : way = 4
    · rw [decide_eq_true c1]
      refine x_iteT ?_
      walk_at "xs"
      by_cases c2 : (0 : Int) < (n : Int)
      · rw [decide_eq_true c2]
        refine x_iteT ?_
        walk_at "xs"
        refine al_from (i := 1) (SqL.of I4.hw) rfl fun q H5 nq s5 hq => ?_
        walk_at "xs"
        exact ⟨q, ws2.drop 1, rfl, s5 _ _ I4.hp, hq, by rw [List.length_drop]; omega, (fun z => by rw [z, I4.hp] at nq; cases nq), (fun y u yp yw e => s5 _ _ (I4.k y u yp yw e)), fun y u yw yp e z => by rw [← z, I4.k y u yp yw e] at nq; cases nq⟩
      · rw [decide_eq_false c2]
        exact x_iteF (x_next stay)
    · rw [decide_eq_false c1]
      refine x_iteF ?_
      exact x_iteF (x_next stay)
  rintro σ' H5 ⟨w', ws3, rfl, hp5, hw5, l5, wp, kk, ne⟩
  walk_at "xs"
  refine al_tup fun T H6 nT s6 hT => ?_
  exact k T w' s pl1 ws3 H6 hT (s6 _ _ hp5) (s6 _ _ hw5) (by rw [I4.lp, hn]) (by omega) wp (fun y u yp yw e => s6 _ _ (kk y u yp yw e)) ne

end Su
namespace Su
open PySem L2
local macro_rules | `(tactic| walk_at "side") => `(tactic| first | assumption | (show (0 : Int) < _; omega) | (show (0 : Int) ≤ _; omega) | (show (0 : Int) < _; split <;> omega) | (show _ ∨ _; omega) | (show _ ∧ _; omega) | exact ⟨by decide, by decide, by decide⟩ | exact ⟨by first | assumption | omega, by first | assumption | omega⟩)
local macro_rules | `(tactic| walk_at "x") => `(tactic| first | with_reducible refine Su.x_ret ?_ | ((with_reducible show L2.tVar _ _ _ _); refine Su.x_var rfl ?_) | with_reducible refine Su.x_c ?_ | with_reducible refine Su.x_isi_int_int ?_ | with_reducible refine Su.x_isi_int_bool ?_ | with_reducible refine Su.x_iteT ?_ | with_reducible refine Su.x_isB ?_ | with_reducible refine Su.x_isB' ?_ | with_reducible refine Su.x_andV ?_ | with_reducible refine Su.x_notV ?_ | with_reducible refine Su.x_nil ?_ | with_reducible refine Su.x_cons ?_ | with_reducible refine Su.x_cb ?_)
local macro_rules | `(tactic| walk_at "xs") => `(tactic| repeat walk_at "x")
local macro_rules | `(tactic| walk_at "if") => `(tactic| first | with_reducible refine Su.x_iteD (fun c => ?_) (fun c => ?_) | with_reducible refine Su.x_iteN (fun c => ?_) (fun c => ?_) | with_reducible refine Su.x_ite (fun c => ?_) (fun c => ?_))

/-! _law_whole of an int -/
def sp_law_whole (K : PySem.W.Frag) : Sp := fun vs H Q _ => ∃ n : Int, vs = [.int n] ∧ Q (.bl true) H
abbrev N_law_whole : List Str := ["_law_told"]
def t_law_whole (K : PySem.W.Frag) : TS :=
 (tRet (tAndV (tCB (rIsi K) (tCons (tVar 0) (tCons (tC (.ty "int")) tNil))) (tNotV (tCB (rIsi K) (tCons (tVar 0) (tCons (tC (.ty "bool")) tNil))))))

theorem len_law_whole {K : PySem.W.Frag} : ∀ vs H Q E, sp_law_whole K vs H Q E → vs.length = ["a"].length := by
  rintro vs H Q E ⟨_, rfl, _⟩; rfl
theorem pure_law_whole {K : PySem.W.Frag} {vs : List V} {H : Hp} {Q : VK} {E : XK} (h : sp_law_whole K vs H Q E) : t_law_whole K { nx := fun _ H' => Q .non H', rt := Q } (start N_law_whole vs) H := by
  obtain ⟨n, rfl, k⟩ := h
  unfold t_law_whole
  walk_at "xs"
  exact k

end Su
namespace Su
open PySem L2
local macro_rules | `(tactic| walk_at "side") => `(tactic| first | assumption | (show (0 : Int) < _; omega) | (show (0 : Int) ≤ _; omega) | (show (0 : Int) < _; split <;> omega) | (show _ ∨ _; omega) | (show _ ∧ _; omega) | exact ⟨by decide, by decide, by decide⟩ | exact ⟨by first | assumption | omega, by first | assumption | omega⟩)
local macro_rules | `(tactic| walk_at "x") => `(tactic| first | with_reducible refine Su.x_seq ?_ | with_reducible refine Su.x_gname ?_ | with_reducible refine Su.x_ret ?_ | with_reducible refine Su.x_ifS ?_ | ((with_reducible show L2.tVar _ _ _ _); refine Su.x_var rfl ?_) | with_reducible refine Su.x_c ?_ | with_reducible refine Su.x_isi_int_int ?_ | with_reducible refine Su.x_isi_int_bool ?_ | with_reducible refine Su.x_iteT ?_ | with_reducible refine Su.x_iteNT ?_ | with_reducible refine Su.x_tB ?_ | with_reducible refine Su.x_isB' ?_ | with_reducible refine Su.x_not ?_ | with_reducible refine Su.x_andV ?_ | with_reducible refine Su.x_notV ?_ | with_reducible refine Su.x_nil ?_ | with_reducible refine Su.x_cons ?_ | with_reducible refine Su.x_cb ?_ | with_reducible refine Su.x_next ?_ | with_reducible refine Su.x_iList ?_ | with_reducible refine Su.x_yes ?_ | with_reducible refine Su.x_lc ?_)
local macro_rules | `(tactic| walk_at "xs") => `(tactic| repeat walk_at "x")
local macro_rules | `(tactic| walk_at "if") => `(tactic| first | with_reducible refine Su.x_iteD (fun c => ?_) (fun c => ?_) | with_reducible refine Su.x_iteN (fun c => ?_) (fun c => ?_) | with_reducible refine Su.x_ite (fun c => ?_) (fun c => ?_))

/-! _law_wholes of a list of ints -/
def sp_law_wholes (K : PySem.W.Frag) : Sp := fun vs H Q _ => ∃ (p : Addr) (ns : List Int), vs = [.ref p] ∧ SqL K H p (ns.map V.int) ∧ ns.length ≤ 100000 ∧ ∀ H', Same H H' → Q (.bl true) H'
abbrev N_law_wholes : List Str := ["_law_told", "_law_one"]
def t_law_wholes (K : PySem.W.Frag) : TS :=
 (tSeq (tIfS (tNot (tB (tCB (rIsi K) (tCons (tVar 0) (tCons (tC (.ty "list")) tNil)))))
 (tRet (tC (.bl false)))
 tNext)
 (tRet (tCB (rAll K) (tCons (tLc (iList K (tVar 0)) (gName 1) tYes (tAndV (tCB (rIsi K) (tCons (tVar 1) (tCons (tC (.ty "int")) tNil))) (tNotV (tCB (rIsi K) (tCons (tVar 1) (tCons (tC (.ty "bool")) tNil))))) [1]) tNil))))

theorem len_law_wholes {K : PySem.W.Frag} : ∀ vs H Q E, sp_law_wholes K vs H Q E → vs.length = ["a"].length := by
  rintro vs H Q E ⟨_, _, rfl, _⟩; rfl
theorem pure_law_wholes {K : PySem.W.Frag} {vs : List V} {H : Hp} {Q : VK} {E : XK} (h : sp_law_wholes K vs H Q E) : t_law_wholes K { nx := fun _ H' => Q .non H', rt := Q } (start N_law_wholes vs) H := by
  obtain ⟨p, ns, rfl, hp, hl, k⟩ := h
  unfold t_law_wholes
  walk_at "xs"
  refine isi_list_list hp ?_
  walk_at "xs"
  refine ⟨p, rfl, ⟨_, hp⟩, fun A nA => ?_⟩
  refine lc_flat (fun _ => some (.bl true)) (turnsL (K := K) (a := p) (xs := ns.map V.int)) (fun H' s => s.seq hp) nA ?_ ?_
  · rintro j x Hc _ hj lc ⟨rfl, hx⟩
    rw [List.length_map] at hj
    rw [List.getElem?_map, List.getElem?_eq_getElem hj] at hx
    cases hx
    walk_at "xs"
    refine x_wipe rfl ?_
    walk_at "xs"
    exact lc.keep nA (Same.refl _) rfl (by omega)
  · intro H1 s1 hA
    walk_at "xs"
    refine ⟨A, List.replicate ns.length true, rfl, SqL.of ?_, ?_⟩
    · rw [hA, List.length_map, List.filterMap_eq_map', List.map_replicate, List.map_const', List.length_range]
    · have : (List.replicate ns.length true).all id = true := by
        rw [List.all_eq_true]; intro x hx; rw [List.eq_of_mem_replicate hx]; rfl
      rw [this]
      exact k H1 s1

end Su
namespace Su
open PySem L2
local macro_rules | `(tactic| walk_at "side") => `(tactic| first | assumption | (show (0 : Int) < _; omega) | (show (0 : Int) ≤ _; omega) | (show (0 : Int) < _; split <;> omega) | (show _ ∨ _; omega) | (show _ ∧ _; omega) | exact ⟨by decide, by decide, by decide⟩ | exact ⟨by first | assumption | omega, by first | assumption | omega⟩)
local macro_rules | `(tactic| walk_at "x") => `(tactic| first | with_reducible refine Su.x_seq ?_ | with_reducible refine Su.x_asg ?_ | with_reducible refine Su.x_gname ?_ | with_reducible refine Su.x_ret ?_ | ((with_reducible show L2.tVar _ _ _ _); refine Su.x_var rfl ?_) | with_reducible refine Su.x_c ?_ | with_reducible refine Su.x_op ?_ | with_reducible refine Su.x_rI0 ?_ | ((with_reducible refine Su.x_rI ?_ ?_); focus walk_at "side") | with_reducible refine Su.x_nil ?_ | with_reducible refine Su.x_cons ?_ | with_reducible refine Su.x_cb ?_ | with_reducible refine Su.x_call ?_ | with_reducible refine Su.x_max2 ?_ | with_reducible refine Su.x_lst ?_ | with_reducible refine Su.x_tup ?_ | with_reducible refine Su.x_for ?_ | with_reducible refine Su.x_iEnum ?_ | with_reducible refine Su.x_gcons ?_ | with_reducible refine Su.x_gnil ?_ | with_reducible refine Su.x_gsub ?_)
local macro_rules | `(tactic| walk_at "xs") => `(tactic| repeat walk_at "x")
local macro_rules | `(tactic| walk_at "if") => `(tactic| first | with_reducible refine Su.x_iteD (fun c => ?_) (fun c => ?_) | with_reducible refine Su.x_iteN (fun c => ?_) (fun c => ?_) | with_reducible refine Su.x_ite (fun c => ?_) (fun c => ?_))
local macro_rules | `(tactic| walk_at "at") => `(tactic| first | assumption | (refine Su.f_at (by assumption) ?_; walk_at "at"))
local macro_rules | `(tactic| walk_at "sm") => `(tactic| first | assumption | exact L2.Same.refl _ | (refine Su.f_tr (by assumption) ?_; walk_at "sm"))
local macro_rules | `(tactic| walk_at "hp") => `(tactic| first | assumption | ((with_reducible refine Su.f_sqL ?_); walk_at "at") | ((with_reducible refine Su.f_sqT ?_); walk_at "at") | ((with_reducible show L2.Same _ _); walk_at "sm") | ((with_reducible show _ = none); refine Su.f_free ?_ (by assumption); walk_at "sm") | ((with_reducible show _ = some _); walk_at "at") | (refine Su.f_dp (by assumption) ?_; walk_at "hp") | (refine Su.f_dpA (by assumption) ?_; walk_at "hp") | (refine Su.f_sqLs (by assumption) ?_; walk_at "hp") | (refine Su.f_sqTs (by assumption) ?_; walk_at "hp"))

/-! _law_opening -/
end Su
namespace Su
open PySem L2
local macro_rules | `(tactic| walk_at "side") => `(tactic| first | assumption | (show (0 : Int) < _; omega) | (show (0 : Int) ≤ _; omega) | (show (0 : Int) < _; split <;> omega) | (show _ ∨ _; omega) | (show _ ∧ _; omega) | exact ⟨by decide, by decide, by decide⟩ | exact ⟨by first | assumption | omega, by first | assumption | omega⟩)
local macro_rules | `(tactic| walk_at "x") => `(tactic| first | with_reducible refine Su.x_ifS ?_ | ((with_reducible show L2.tVar _ _ _ _); refine Su.x_var rfl ?_) | with_reducible refine Su.x_c ?_ | with_reducible refine Su.x_rI0 ?_ | with_reducible refine Su.x_iteNF ?_ | with_reducible refine Su.x_test ?_ | with_reducible refine Su.x_isB' ?_ | with_reducible refine Su.x_not ?_ | with_reducible refine Su.x_chain ?_ | with_reducible refine Su.x_next ?_)
local macro_rules | `(tactic| walk_at "xs") => `(tactic| repeat walk_at "x")
local macro_rules | `(tactic| walk_at "if") => `(tactic| first | with_reducible refine Su.x_iteD (fun c => ?_) (fun c => ?_) | with_reducible refine Su.x_iteN (fun c => ?_) (fun c => ?_) | with_reducible refine Su.x_ite (fun c => ?_) (fun c => ?_))
local macro_rules | `(tactic| walk_at "at") => `(tactic| first | assumption | (refine Su.f_at (by assumption) ?_; walk_at "at"))
local macro_rules | `(tactic| walk_at "sm") => `(tactic| first | assumption | exact L2.Same.refl _ | (refine Su.f_tr (by assumption) ?_; walk_at "sm"))
local macro_rules | `(tactic| walk_at "hp") => `(tactic| first | assumption | ((with_reducible refine Su.f_sqL ?_); walk_at "at") | ((with_reducible refine Su.f_sqT ?_); walk_at "at") | ((with_reducible show L2.Same _ _); walk_at "sm") | ((with_reducible show _ = none); refine Su.f_free ?_ (by assumption); walk_at "sm") | ((with_reducible show _ = some _); walk_at "at") | (refine Su.f_dp (by assumption) ?_; walk_at "hp") | (refine Su.f_dpA (by assumption) ?_; walk_at "hp") | (refine Su.f_sqLs (by assumption) ?_; walk_at "hp") | (refine Su.f_sqTs (by assumption) ?_; walk_at "hp"))
local macro_rules | `(tactic| walk_at "x") => `(tactic| first | with_reducible refine Su.x_fld ?_ | with_reducible refine Su.c_size (by assumption) ?_)
local macro_rules | `(tactic| walk_at "me") => `(tactic| first | refine Su.c_meth (by assumption) rfl ?_ | refine Su.so_meth (by assumption) rfl ?_)

end Su
namespace Su
open PySem L2
local macro_rules | `(tactic| walk_at "side") => `(tactic| first | assumption | (show (0 : Int) < _; omega) | (show (0 : Int) ≤ _; omega) | (show (0 : Int) < _; split <;> omega) | (show _ ∨ _; omega) | (show _ ∧ _; omega) | exact ⟨by decide, by decide, by decide⟩ | exact ⟨by first | assumption | omega, by first | assumption | omega⟩)
local macro_rules | `(tactic| walk_at "x") => `(tactic| first | with_reducible refine Su.x_seq ?_ | with_reducible refine Su.x_drop ?_ | with_reducible refine Su.x_ret ?_ | with_reducible refine Su.x_ifS ?_ | ((with_reducible show L2.tVar _ _ _ _); refine Su.x_var rfl ?_) | with_reducible refine Su.x_c ?_ | with_reducible refine Su.x_op ?_ | with_reducible refine Su.x_rI0 ?_ | with_reducible refine Su.x_eqS ?_ | with_reducible refine Su.x_test ?_ | with_reducible refine Su.x_isB' ?_ | with_reducible refine Su.x_nil ?_ | with_reducible refine Su.x_cons ?_ | with_reducible refine Su.x_bmL ?_ | with_reducible refine Su.x_next ?_)
local macro_rules | `(tactic| walk_at "xs") => `(tactic| repeat walk_at "x")
local macro_rules | `(tactic| walk_at "if") => `(tactic| first | with_reducible refine Su.x_iteD (fun c => ?_) (fun c => ?_) | with_reducible refine Su.x_iteN (fun c => ?_) (fun c => ?_) | with_reducible refine Su.x_ite (fun c => ?_) (fun c => ?_))
local macro_rules | `(tactic| walk_at "at") => `(tactic| first | assumption | (refine Su.f_at (by assumption) ?_; walk_at "at"))
local macro_rules | `(tactic| walk_at "sm") => `(tactic| first | assumption | exact L2.Same.refl _ | (refine Su.f_tr (by assumption) ?_; walk_at "sm"))
local macro_rules | `(tactic| walk_at "hp") => `(tactic| first | assumption | ((with_reducible refine Su.f_sqL ?_); walk_at "at") | ((with_reducible refine Su.f_sqT ?_); walk_at "at") | ((with_reducible show L2.Same _ _); walk_at "sm") | ((with_reducible show _ = none); refine Su.f_free ?_ (by assumption); walk_at "sm") | ((with_reducible show _ = some _); walk_at "at") | (refine Su.f_dp (by assumption) ?_; walk_at "hp") | (refine Su.f_dpA (by assumption) ?_; walk_at "hp") | (refine Su.f_sqLs (by assumption) ?_; walk_at "hp") | (refine Su.f_sqTs (by assumption) ?_; walk_at "hp"))
local macro_rules | `(tactic| walk_at "x") => `(tactic| first | with_reducible refine Su.x_fld ?_ | with_reducible refine Su.x_meth ?_ | with_reducible refine Su.c_now (by assumption) ?_ | with_reducible refine Su.c_line (by assumption) ?_ | with_reducible refine Su.c_due (by assumption) ?_ | with_reducible refine Su.c_state (by assumption) ?_ | with_reducible refine Su.c_when (by assumption) ?_)
local macro_rules | `(tactic| walk_at "me") => `(tactic| first | refine Su.c_meth (by assumption) rfl ?_ | refine Su.so_meth (by assumption) rfl ?_)

end Su
namespace Su
open PySem L2
local macro_rules | `(tactic| walk_at "side") => `(tactic| first | assumption | (show (0 : Int) < _; omega) | (show (0 : Int) ≤ _; omega) | (show (0 : Int) < _; split <;> omega) | (show _ ∨ _; omega) | (show _ ∧ _; omega) | exact ⟨by decide, by decide, by decide⟩ | exact ⟨by first | assumption | omega, by first | assumption | omega⟩)
local macro_rules | `(tactic| walk_at "x") => `(tactic| first | with_reducible refine Su.x_seq ?_ | with_reducible refine Su.x_drop ?_ | with_reducible refine Su.x_ret ?_ | with_reducible refine Su.x_ifS ?_ | ((with_reducible show L2.tVar _ _ _ _); refine Su.x_var rfl ?_) | with_reducible refine Su.x_c ?_ | with_reducible refine Su.x_op ?_ | with_reducible refine Su.x_rI0 ?_ | ((with_reducible refine Su.x_rI ?_ ?_); focus walk_at "side") | with_reducible refine Su.x_eqS ?_ | with_reducible refine Su.x_test ?_ | with_reducible refine Su.x_isB' ?_ | with_reducible refine Su.x_nil ?_ | with_reducible refine Su.x_cons ?_ | with_reducible refine Su.x_next ?_)
local macro_rules | `(tactic| walk_at "xs") => `(tactic| repeat walk_at "x")
local macro_rules | `(tactic| walk_at "if") => `(tactic| first | with_reducible refine Su.x_iteD (fun c => ?_) (fun c => ?_) | with_reducible refine Su.x_iteN (fun c => ?_) (fun c => ?_) | with_reducible refine Su.x_ite (fun c => ?_) (fun c => ?_))
local macro_rules | `(tactic| walk_at "at") => `(tactic| first | assumption | (refine Su.f_at (by assumption) ?_; walk_at "at"))
local macro_rules | `(tactic| walk_at "sm") => `(tactic| first | assumption | exact L2.Same.refl _ | (refine Su.f_tr (by assumption) ?_; walk_at "sm"))
local macro_rules | `(tactic| walk_at "hp") => `(tactic| first | assumption | ((with_reducible refine Su.f_sqL ?_); walk_at "at") | ((with_reducible refine Su.f_sqT ?_); walk_at "at") | ((with_reducible show L2.Same _ _); walk_at "sm") | ((with_reducible show _ = none); refine Su.f_free ?_ (by assumption); walk_at "sm") | ((with_reducible show _ = some _); walk_at "at") | (refine Su.f_dp (by assumption) ?_; walk_at "hp") | (refine Su.f_dpA (by assumption) ?_; walk_at "hp") | (refine Su.f_sqLs (by assumption) ?_; walk_at "hp") | (refine Su.f_sqTs (by assumption) ?_; walk_at "hp"))
local macro_rules | `(tactic| walk_at "x") => `(tactic| first | with_reducible refine Su.x_fld ?_ | with_reducible refine Su.x_meth ?_ | with_reducible refine Su.c_stake (by assumption) ?_ | with_reducible refine Su.c_size (by assumption) ?_ | with_reducible refine Su.c_now (by assumption) ?_ | with_reducible refine Su.c_state (by assumption) ?_)
local macro_rules | `(tactic| walk_at "me") => `(tactic| first | refine Su.c_meth (by assumption) rfl ?_ | refine Su.so_meth (by assumption) rfl ?_)

end Su
namespace Su
open PySem L2
local macro_rules | `(tactic| walk_at "side") => `(tactic| first | assumption | (show (0 : Int) < _; omega) | (show (0 : Int) ≤ _; omega) | (show (0 : Int) < _; split <;> omega) | (show _ ∨ _; omega) | (show _ ∧ _; omega) | exact ⟨by decide, by decide, by decide⟩ | exact ⟨by first | assumption | omega, by first | assumption | omega⟩)
local macro_rules | `(tactic| walk_at "x") => `(tactic| first | with_reducible refine Su.x_seq ?_ | with_reducible refine Su.x_asg ?_ | with_reducible refine Su.x_gname ?_ | with_reducible refine Su.x_drop ?_ | with_reducible refine Su.x_ret ?_ | with_reducible refine Su.x_ifS ?_ | ((with_reducible show L2.tVar _ _ _ _); refine Su.x_var rfl ?_) | with_reducible refine Su.x_c ?_ | with_reducible refine Su.x_op ?_ | with_reducible refine Su.x_eqS ?_ | with_reducible refine Su.x_test ?_ | with_reducible refine Su.x_tB ?_ | with_reducible refine Su.x_isB' ?_ | with_reducible refine Su.x_not ?_ | with_reducible refine Su.x_nil ?_ | with_reducible refine Su.x_cons ?_ | with_reducible refine Su.x_lst ?_ | with_reducible refine Su.x_bmL ?_ | with_reducible refine Su.x_next ?_ | with_reducible refine Su.x_for ?_ | with_reducible refine Su.x_iRng1 ?_ | with_reducible refine Su.x_ipI ?_ | ((with_reducible show L2.tAug _ _ _ _ _ _); refine Su.x_aug rfl ?_))
local macro_rules | `(tactic| walk_at "xs") => `(tactic| repeat walk_at "x")
local macro_rules | `(tactic| walk_at "if") => `(tactic| first | with_reducible refine Su.x_iteD (fun c => ?_) (fun c => ?_) | with_reducible refine Su.x_iteN (fun c => ?_) (fun c => ?_) | with_reducible refine Su.x_ite (fun c => ?_) (fun c => ?_))
local macro_rules | `(tactic| walk_at "at") => `(tactic| first | assumption | (refine Su.f_at (by assumption) ?_; walk_at "at"))
local macro_rules | `(tactic| walk_at "sm") => `(tactic| first | assumption | exact L2.Same.refl _ | (refine Su.f_tr (by assumption) ?_; walk_at "sm"))
local macro_rules | `(tactic| walk_at "hp") => `(tactic| first | assumption | ((with_reducible refine Su.f_sqL ?_); walk_at "at") | ((with_reducible refine Su.f_sqT ?_); walk_at "at") | ((with_reducible show L2.Same _ _); walk_at "sm") | ((with_reducible show _ = none); refine Su.f_free ?_ (by assumption); walk_at "sm") | ((with_reducible show _ = some _); walk_at "at") | (refine Su.f_dp (by assumption) ?_; walk_at "hp") | (refine Su.f_dpA (by assumption) ?_; walk_at "hp") | (refine Su.f_sqLs (by assumption) ?_; walk_at "hp") | (refine Su.f_sqTs (by assumption) ?_; walk_at "hp"))
local macro_rules | `(tactic| walk_at "x") => `(tactic| first | with_reducible refine Su.x_fld ?_ | with_reducible refine Su.x_meth ?_ | with_reducible refine Su.c_size (by assumption) ?_ | with_reducible refine Su.c_state (by assumption) ?_ | with_reducible refine Su.c_pledged (by assumption) ?_ | with_reducible refine Su.c_given (by assumption) ?_)
local macro_rules | `(tactic| walk_at "me") => `(tactic| first | refine Su.c_meth (by assumption) rfl ?_ | refine Su.so_meth (by assumption) rfl ?_)

end Su
namespace Su
open PySem L2
local macro_rules | `(tactic| walk_at "side") => `(tactic| first | assumption | (show (0 : Int) < _; omega) | (show (0 : Int) ≤ _; omega) | (show (0 : Int) < _; split <;> omega) | (show _ ∨ _; omega) | (show _ ∧ _; omega) | exact ⟨by decide, by decide, by decide⟩ | exact ⟨by first | assumption | omega, by first | assumption | omega⟩)
local macro_rules | `(tactic| walk_at "xs") => `(tactic| repeat walk_at "x")
local macro_rules | `(tactic| walk_at "if") => `(tactic| first | with_reducible refine Su.x_iteD (fun c => ?_) (fun c => ?_) | with_reducible refine Su.x_iteN (fun c => ?_) (fun c => ?_) | with_reducible refine Su.x_ite (fun c => ?_) (fun c => ?_))

/-! circles stay well formed -/
section
variable {st : CS} {paid : List Bool} {bids : List Int}
end
end Su
namespace Su
open PySem L2
local macro_rules | `(tactic| walk_at "side") => `(tactic| first | assumption | (show (0 : Int) < _; omega) | (show (0 : Int) ≤ _; omega) | (show (0 : Int) < _; split <;> omega) | (show _ ∨ _; omega) | (show _ ∧ _; omega) | exact ⟨by decide, by decide, by decide⟩ | exact ⟨by first | assumption | omega, by first | assumption | omega⟩)
local macro_rules | `(tactic| walk_at "x") => `(tactic| first | with_reducible refine Su.x_ret ?_ | ((with_reducible show L2.tVar _ _ _ _); refine Su.x_var rfl ?_))
local macro_rules | `(tactic| walk_at "xs") => `(tactic| repeat walk_at "x")
local macro_rules | `(tactic| walk_at "if") => `(tactic| first | with_reducible refine Su.x_iteD (fun c => ?_) (fun c => ?_) | with_reducible refine Su.x_iteN (fun c => ?_) (fun c => ?_) | with_reducible refine Su.x_ite (fun c => ?_) (fun c => ?_))
local macro_rules | `(tactic| walk_at "at") => `(tactic| first | assumption | (refine Su.f_at (by assumption) ?_; walk_at "at"))
local macro_rules | `(tactic| walk_at "sm") => `(tactic| first | assumption | exact L2.Same.refl _ | (refine Su.f_tr (by assumption) ?_; walk_at "sm"))
local macro_rules | `(tactic| walk_at "hp") => `(tactic| first | assumption | ((with_reducible refine Su.f_sqL ?_); walk_at "at") | ((with_reducible refine Su.f_sqT ?_); walk_at "at") | ((with_reducible show L2.Same _ _); walk_at "sm") | ((with_reducible show _ = none); refine Su.f_free ?_ (by assumption); walk_at "sm") | ((with_reducible show _ = some _); walk_at "at") | (refine Su.f_dp (by assumption) ?_; walk_at "hp") | (refine Su.f_dpA (by assumption) ?_; walk_at "hp") | (refine Su.f_sqLs (by assumption) ?_; walk_at "hp") | (refine Su.f_sqTs (by assumption) ?_; walk_at "hp"))
local macro_rules | `(tactic| walk_at "x") => `(tactic| first | with_reducible refine Su.x_fld ?_ | with_reducible refine Su.c_chest (by assumption) ?_)
local macro_rules | `(tactic| walk_at "me") => `(tactic| first | refine Su.c_meth (by assumption) rfl ?_ | refine Su.so_meth (by assumption) rfl ?_)

end Su
namespace Su
open PySem L2
local macro_rules | `(tactic| walk_at "side") => `(tactic| first | assumption | (show (0 : Int) < _; omega) | (show (0 : Int) ≤ _; omega) | (show (0 : Int) < _; split <;> omega) | (show _ ∨ _; omega) | (show _ ∧ _; omega) | exact ⟨by decide, by decide, by decide⟩ | exact ⟨by first | assumption | omega, by first | assumption | omega⟩)
local macro_rules | `(tactic| walk_at "x") => `(tactic| first | with_reducible refine Su.x_ret ?_ | ((with_reducible show L2.tVar _ _ _ _); refine Su.x_var rfl ?_))
local macro_rules | `(tactic| walk_at "xs") => `(tactic| repeat walk_at "x")
local macro_rules | `(tactic| walk_at "if") => `(tactic| first | with_reducible refine Su.x_iteD (fun c => ?_) (fun c => ?_) | with_reducible refine Su.x_iteN (fun c => ?_) (fun c => ?_) | with_reducible refine Su.x_ite (fun c => ?_) (fun c => ?_))
local macro_rules | `(tactic| walk_at "at") => `(tactic| first | assumption | (refine Su.f_at (by assumption) ?_; walk_at "at"))
local macro_rules | `(tactic| walk_at "sm") => `(tactic| first | assumption | exact L2.Same.refl _ | (refine Su.f_tr (by assumption) ?_; walk_at "sm"))
local macro_rules | `(tactic| walk_at "hp") => `(tactic| first | assumption | ((with_reducible refine Su.f_sqL ?_); walk_at "at") | ((with_reducible refine Su.f_sqT ?_); walk_at "at") | ((with_reducible show L2.Same _ _); walk_at "sm") | ((with_reducible show _ = none); refine Su.f_free ?_ (by assumption); walk_at "sm") | ((with_reducible show _ = some _); walk_at "at") | (refine Su.f_dp (by assumption) ?_; walk_at "hp") | (refine Su.f_dpA (by assumption) ?_; walk_at "hp") | (refine Su.f_sqLs (by assumption) ?_; walk_at "hp") | (refine Su.f_sqTs (by assumption) ?_; walk_at "hp"))
local macro_rules | `(tactic| walk_at "x") => `(tactic| first | with_reducible refine Su.x_fld ?_ | with_reducible refine Su.c_now (by assumption) ?_)
local macro_rules | `(tactic| walk_at "me") => `(tactic| first | refine Su.c_meth (by assumption) rfl ?_ | refine Su.so_meth (by assumption) rfl ?_)

end Su
namespace Su
open PySem L2
local macro_rules | `(tactic| walk_at "side") => `(tactic| first | assumption | (show (0 : Int) < _; omega) | (show (0 : Int) ≤ _; omega) | (show (0 : Int) < _; split <;> omega) | (show _ ∨ _; omega) | (show _ ∧ _; omega) | exact ⟨by decide, by decide, by decide⟩ | exact ⟨by first | assumption | omega, by first | assumption | omega⟩)
local macro_rules | `(tactic| walk_at "x") => `(tactic| first | with_reducible refine Su.x_ret ?_ | ((with_reducible show L2.tVar _ _ _ _); refine Su.x_var rfl ?_))
local macro_rules | `(tactic| walk_at "xs") => `(tactic| repeat walk_at "x")
local macro_rules | `(tactic| walk_at "if") => `(tactic| first | with_reducible refine Su.x_iteD (fun c => ?_) (fun c => ?_) | with_reducible refine Su.x_iteN (fun c => ?_) (fun c => ?_) | with_reducible refine Su.x_ite (fun c => ?_) (fun c => ?_))
local macro_rules | `(tactic| walk_at "at") => `(tactic| first | assumption | (refine Su.f_at (by assumption) ?_; walk_at "at"))
local macro_rules | `(tactic| walk_at "sm") => `(tactic| first | assumption | exact L2.Same.refl _ | (refine Su.f_tr (by assumption) ?_; walk_at "sm"))
local macro_rules | `(tactic| walk_at "hp") => `(tactic| first | assumption | ((with_reducible refine Su.f_sqL ?_); walk_at "at") | ((with_reducible refine Su.f_sqT ?_); walk_at "at") | ((with_reducible show L2.Same _ _); walk_at "sm") | ((with_reducible show _ = none); refine Su.f_free ?_ (by assumption); walk_at "sm") | ((with_reducible show _ = some _); walk_at "at") | (refine Su.f_dp (by assumption) ?_; walk_at "hp") | (refine Su.f_dpA (by assumption) ?_; walk_at "hp") | (refine Su.f_sqLs (by assumption) ?_; walk_at "hp") | (refine Su.f_sqTs (by assumption) ?_; walk_at "hp"))
local macro_rules | `(tactic| walk_at "x") => `(tactic| first | with_reducible refine Su.x_fld ?_ | with_reducible refine Su.c_due (by assumption) ?_)
local macro_rules | `(tactic| walk_at "me") => `(tactic| first | refine Su.c_meth (by assumption) rfl ?_ | refine Su.so_meth (by assumption) rfl ?_)

end Su
namespace Su
open PySem L2
local macro_rules | `(tactic| walk_at "side") => `(tactic| first | assumption | (show (0 : Int) < _; omega) | (show (0 : Int) ≤ _; omega) | (show (0 : Int) < _; split <;> omega) | (show _ ∨ _; omega) | (show _ ∧ _; omega) | exact ⟨by decide, by decide, by decide⟩ | exact ⟨by first | assumption | omega, by first | assumption | omega⟩)
local macro_rules | `(tactic| walk_at "x") => `(tactic| first | with_reducible refine Su.x_seq ?_ | with_reducible refine Su.x_drop ?_ | with_reducible refine Su.x_ret ?_ | ((with_reducible show L2.tVar _ _ _ _); refine Su.x_var rfl ?_) | with_reducible refine Su.x_op ?_ | with_reducible refine Su.x_nil ?_ | with_reducible refine Su.x_cons ?_ | with_reducible refine Su.x_tup ?_)
local macro_rules | `(tactic| walk_at "xs") => `(tactic| repeat walk_at "x")
local macro_rules | `(tactic| walk_at "if") => `(tactic| first | with_reducible refine Su.x_iteD (fun c => ?_) (fun c => ?_) | with_reducible refine Su.x_iteN (fun c => ?_) (fun c => ?_) | with_reducible refine Su.x_ite (fun c => ?_) (fun c => ?_))
local macro_rules | `(tactic| walk_at "at") => `(tactic| first | assumption | (refine Su.f_at (by assumption) ?_; walk_at "at"))
local macro_rules | `(tactic| walk_at "sm") => `(tactic| first | assumption | exact L2.Same.refl _ | (refine Su.f_tr (by assumption) ?_; walk_at "sm"))
local macro_rules | `(tactic| walk_at "hp") => `(tactic| first | assumption | ((with_reducible refine Su.f_sqL ?_); walk_at "at") | ((with_reducible refine Su.f_sqT ?_); walk_at "at") | ((with_reducible show L2.Same _ _); walk_at "sm") | ((with_reducible show _ = none); refine Su.f_free ?_ (by assumption); walk_at "sm") | ((with_reducible show _ = some _); walk_at "at") | (refine Su.f_dp (by assumption) ?_; walk_at "hp") | (refine Su.f_dpA (by assumption) ?_; walk_at "hp") | (refine Su.f_sqLs (by assumption) ?_; walk_at "hp") | (refine Su.f_sqTs (by assumption) ?_; walk_at "hp"))
local macro_rules | `(tactic| walk_at "x") => `(tactic| first | with_reducible refine Su.x_fld ?_ | with_reducible refine Su.x_meth ?_ | with_reducible refine Su.c_state (by assumption) ?_ | with_reducible refine Su.c_when (by assumption) ?_ | with_reducible refine Su.c_pledged (by assumption) ?_ | with_reducible refine Su.c_given (by assumption) ?_ | with_reducible refine Su.c_drawn (by assumption) ?_ | with_reducible refine Su.c_shared (by assumption) ?_ | with_reducible refine Su.c_missed (by assumption) ?_)
local macro_rules | `(tactic| walk_at "me") => `(tactic| first | refine Su.c_meth (by assumption) rfl ?_ | refine Su.so_meth (by assumption) rfl ?_)

end Su
namespace Su
open PySem L2
local macro_rules | `(tactic| walk_at "side") => `(tactic| first | assumption | (show (0 : Int) < _; omega) | (show (0 : Int) ≤ _; omega) | (show (0 : Int) < _; split <;> omega) | (show _ ∨ _; omega) | (show _ ∧ _; omega) | exact ⟨by decide, by decide, by decide⟩ | exact ⟨by first | assumption | omega, by first | assumption | omega⟩)
local macro_rules | `(tactic| walk_at "x") => `(tactic| first | with_reducible refine Su.x_seq ?_ | with_reducible refine Su.x_drop ?_ | with_reducible refine Su.x_ret ?_ | ((with_reducible show L2.tVar _ _ _ _); refine Su.x_var rfl ?_) | with_reducible refine Su.x_op ?_ | with_reducible refine Su.x_nil ?_ | with_reducible refine Su.x_cons ?_ | with_reducible refine Su.x_cb ?_)
local macro_rules | `(tactic| walk_at "xs") => `(tactic| repeat walk_at "x")
local macro_rules | `(tactic| walk_at "if") => `(tactic| first | with_reducible refine Su.x_iteD (fun c => ?_) (fun c => ?_) | with_reducible refine Su.x_iteN (fun c => ?_) (fun c => ?_) | with_reducible refine Su.x_ite (fun c => ?_) (fun c => ?_))
local macro_rules | `(tactic| walk_at "at") => `(tactic| first | assumption | (refine Su.f_at (by assumption) ?_; walk_at "at"))
local macro_rules | `(tactic| walk_at "sm") => `(tactic| first | assumption | exact L2.Same.refl _ | (refine Su.f_tr (by assumption) ?_; walk_at "sm"))
local macro_rules | `(tactic| walk_at "hp") => `(tactic| first | assumption | ((with_reducible refine Su.f_sqL ?_); walk_at "at") | ((with_reducible refine Su.f_sqT ?_); walk_at "at") | ((with_reducible show L2.Same _ _); walk_at "sm") | ((with_reducible show _ = none); refine Su.f_free ?_ (by assumption); walk_at "sm") | ((with_reducible show _ = some _); walk_at "at") | (refine Su.f_dp (by assumption) ?_; walk_at "hp") | (refine Su.f_dpA (by assumption) ?_; walk_at "hp") | (refine Su.f_sqLs (by assumption) ?_; walk_at "hp") | (refine Su.f_sqTs (by assumption) ?_; walk_at "hp"))
local macro_rules | `(tactic| walk_at "x") => `(tactic| first | with_reducible refine Su.x_fld ?_ | with_reducible refine Su.x_meth ?_ | with_reducible refine Su.c_flows (by assumption) ?_)
local macro_rules | `(tactic| walk_at "me") => `(tactic| first | refine Su.c_meth (by assumption) rfl ?_ | refine Su.so_meth (by assumption) rfl ?_)

end Su
namespace Su
open PySem L2
local macro_rules | `(tactic| walk_at "side") => `(tactic| first | assumption | (show (0 : Int) < _; omega) | (show (0 : Int) ≤ _; omega) | (show (0 : Int) < _; split <;> omega) | (show _ ∨ _; omega) | (show _ ∧ _; omega) | exact ⟨by decide, by decide, by decide⟩ | exact ⟨by first | assumption | omega, by first | assumption | omega⟩)
local macro_rules | `(tactic| walk_at "xs") => `(tactic| repeat walk_at "x")
local macro_rules | `(tactic| walk_at "if") => `(tactic| first | with_reducible refine Su.x_iteD (fun c => ?_) (fun c => ?_) | with_reducible refine Su.x_iteN (fun c => ?_) (fun c => ?_) | with_reducible refine Su.x_ite (fun c => ?_) (fun c => ?_))

/-! what laws about circles share -/
section
variable {K : PySem.W.Frag} {H : Hp} {p : Addr}
end
theorem GoodD.up {n m : Nat} {d : PyData} (h : GoodD n d) (e : n ≤ m) : GoodD m d := ⟨h.ok, Nat.le_trans h.dep e⟩
end Su
namespace Su
open PySem L2
local macro_rules | `(tactic| walk_at "side") => `(tactic| first | assumption | (show (0 : Int) < _; omega) | (show (0 : Int) ≤ _; omega) | (show (0 : Int) < _; split <;> omega) | (show _ ∨ _; omega) | (show _ ∧ _; omega) | exact ⟨by decide, by decide, by decide⟩ | exact ⟨by first | assumption | omega, by first | assumption | omega⟩)
local macro_rules | `(tactic| walk_at "xs") => `(tactic| repeat walk_at "x")
local macro_rules | `(tactic| walk_at "if") => `(tactic| first | with_reducible refine Su.x_iteD (fun c => ?_) (fun c => ?_) | with_reducible refine Su.x_iteN (fun c => ?_) (fun c => ?_) | with_reducible refine Su.x_ite (fun c => ?_) (fun c => ?_))

/-! the catch: an exception that lies caught, whatever note (Z) it bears -/
section
open PySem.Spec PyProof.Rows
/-- how a suite ended, its state told apart from the end -/
def Ended (D : Ends) : Flow → L2.St → Hp → Prop
  | .next, σ, H => D.nx σ H
  | .brk, σ, H => D.bk σ H
  | .cont, σ, H => D.ct σ H
  | .ret u, _, H => ∃ v, RelV v u ∧ D.rt v H
variable {X Y : Cx} {pins : List (Addr × Obj)} {σ : L2.St} {H : Hp} {B : Heap} {sI s : Shared} {a : Addr} {Z : Obj → Prop} {D : Ends} {f : Flow}
theorem ended_of (e : SP X pins D f s) : ∃ σ H, L2.Inv X pins σ H s ∧ Ended D f σ H := by
  cases f with
  | ret u => obtain ⟨v, σ, H, I, r⟩ := e; exact ⟨σ, H, I, v, r⟩
  | _ => exact e
theorem sp_of (I : L2.Inv X pins σ H s) (e : Ended D f σ H) : SP X pins D f s := by
  cases f with
  | ret u => obtain ⟨v, r⟩ := e; exact ⟨v, σ, H, I, r⟩
  | _ => exact ⟨σ, H, I, e⟩
/-- the clause's name goes at the end -/
theorem ended_less {i : Nat} (e : Ended { nx := fun σ' H' => D.nx (σ'.set i none) H', rt := D.rt, bk := fun σ' H' => D.bk (σ'.set i none) H', ct := fun σ' H' => D.ct (σ'.set i none) H' } f σ H) : Ended D f (σ.set i none) H := by
  cases f <;> exact e
/-- the exception lies at a, its flight put away; B is what no frame may touch, sI the world ahead of it -/
structure Caught (X : Cx) (Z : Obj → Prop) (pins : List (Addr × Obj)) (σ : L2.St) (H : Hp) (B : Heap) (sI : Shared) (a : Addr) (s : Shared) : Prop where
  before : L2.Inv X pins σ H sI
  ground : ∀ b o, sI.heap.get? b = some o → b ∉ frs X.stack → B.get? b = some o
  grown : sI.heap.UpToSlots s.heap
  lies : HandSPX.FlyingZ B X.stack a Z s.heap
  new : H a = none
  os : s.os = sI.os
  gens : AllBare s.gens
namespace Caught
theorem on {h : Heap} (C : Caught X Z pins σ H B sI a s) (fl : HandSPX.FlyingZ B X.stack a Z h) (up : s.heap.UpToSlots h) : Caught X Z pins σ H B sI a { s with heap := h } :=
  ⟨C.before, C.ground, C.grown.trans up, fl, C.new, C.os, C.gens⟩
theorem now (C : Caught X Z pins σ H B sI a s) : L2.Inv X pins σ H s := C.before.landed C.ground C.lies.1 C.grown C.os C.gens
theorem still {M : Model} {A : Around} {Q : Unit → Shared → Prop} {E : Value → Shared → Prop} (C : Caught X Z pins σ H B sI a s) (k : ∀ s', Caught X Z pins σ H B sI a s' → Q () s') : wpAny M A (setFlight (.ref a) none) Q E s :=
  HandSPX.lands_againZ C.lies fun h fl up => k _ (C.on fl up)
section
variable (hst : X.stack = X.env :: X.outer) (hfr : X.env.frame = some X.env.locals)
include hst hfr
/-- its object; a suite that handles it may begin -/
theorem object (C : Caught X Z pins σ H B sI a s) : ∃ oe, Z oe ∧ s.heap.get? a = some oe ∧ (∃ vs, oe.data = .fields vs) ∧ L2.Inv (X.suite a ((a, oe) :: (X.pn ++ pins))) [] σ H s := by
  obtain ⟨oe, vs, at_, z, dt⟩ := C.lies.there
  have out : a ∉ frs X.stack := fun m => by
    obtain ⟨_, o, eo, nf⟩ := C.lies.2.2.1.mem m
    cases at_.symm.trans eo
    exact nf _ dt
  have names : frs X.stack = X.env.locals :: X.fs := by rw [hst]; exact List.filterMap_cons_some hfr
  rw [names, List.mem_cons, not_or] at out
  exact ⟨oe, z, at_, ⟨vs, dt⟩, C.now.suite at_ dt C.new out.1 out.2⟩
/-- no clause wants it: it is let fly again -/
theorem back {what : String} {Q : Flow → Shared → Prop} (C : Caught X Z pins σ H B sI a s) (k : ∀ h, HandSPX.HeldZ B X.stack a Z X.env.locals h → sI.heap.UpToSlots h → X.xe (.ref a) { s with heap := h }) :
    wpAny (model X.prog X.w) X.A (passOn what (.ref a) X.env : Sem Flow) Q X.xe s := by
  have up : wpAny (model X.prog X.w) X.A (setFlight (.ref a) X.env.frame) (fun _ s' => wpAny (model X.prog X.w) X.A (throw (.ref a) : Sem Flow) Q X.xe s') X.xe s := by
    rw [hfr]
    exact HandSPX.setFlight_upZ C.lies fun h held u => wpAny_throw (k h held (C.grown.trans u))
  obtain ⟨_, _, _, oe, vs, T, _, _, at_, _, dt, trace, _⟩ := C.lies
  unfold PySem.passOn
  refine wpAny_bind (wpAny_field at_ dt trace ?_)
  have ne : (Value.ref T == Value.none) = false := rfl
  simp only [ne, Bool.false_eq_true, if_false]
  first | exact wpAny_bind up | exact wpAny_bind (wpAny_pure (wpAny_bind up))
variable {x n : Str} {c cls : Value} {b : Bool} {np pos' : Pos} {b₀ : Stmt} {suite : List Stmt} {l : List ExceptHandler} {t : TS}
/-- the clause's class is looked up, and the exception held against it -/
theorem asked {R : Except Value Flow → Shared → Prop} (C : Caught X Z pins σ H B sI a s) (zc : ∀ o, Z o → o.cls = cls) (hc : Names X x c) (m : PySem.W.exmOne X.K cls c = some b) (q : R (.ok (if b then .brk else .next)) s) :
    codeAny (model X.prog X.w) (X.A.mark (some (.ref a))) (.handlers (.ref a) [.ExceptHandler (some (.Name x np)) none [] pos'] X.env) R s := by
  obtain ⟨oe, z, at_, _, S⟩ := C.object hst hfr
  have is : PySem.W.Looks (model X.prog X.w) s.heap (typeOf (.ref a)) cls := fun _ _ _ _ keeps q => wpAny_typeOf_ref (keeps _ _ at_) (zc _ z ▸ q)
  have found : ∀ {Q' E' : Value → Shared → Prop}, Q' c s → wpAny (model X.prog X.w) (X.A.mark (some (.ref a))) (eval (.Name x np) X.env) Q' E' s := fun q => by
    rcases hc with ⟨g, d, h | h⟩
    · exact ld_glob (X := X.suite a ((a, oe) :: (X.pn ++ pins))) S g h q d
    · exact ld_blt (X := X.suite a ((a, oe) :: (X.pn ++ pins))) S g h.1 h.2.1 q h.2.2 d
  exact codeAny_handlers_test (found ((PySem.W.exm_one S.kIn is m).here q))
/-- except x: suite -/
theorem only (C : Caught X Z pins σ H B sI a s) (zc : ∀ o, Z o → o.cls = cls) (hc : Names X x c) (m : PySem.W.exmOne X.K cls c = some b) (no : b = false → wpAny (model X.prog X.w) X.A (handleBy (.ref a) X.env l) (SP X pins D) X.xe s)
    (yes : b = true → t D σ H ∧ ∀ oe, Z oe → (∃ vs, oe.data = .fields vs) → PSs (X.suite a ((a, oe) :: (X.pn ++ pins))) (b₀ :: suite) t) :
    wpAny (model X.prog X.w) X.A (handleBy (.ref a) X.env (.ExceptHandler (some (.Name x np)) none (b₀ :: suite) pos' :: l)) (SP X pins D) X.xe s := by
  refine wpAny_handleBy_cons (C.asked hst hfr zc hc m ?_) (by intro z; cases z)
  cases b
  · exact no rfl
  refine codeAny_handlers_suite (C.still fun s' C' => ?_)
  obtain ⟨oe, z, _, dt, S⟩ := C'.object hst hfr
  refine wpAny_mono (((yes rfl).2 oe z dt).run [] s' σ H D S (yes rfl).1) (fun f s'' e => ?_) fun _ _ z => z.elim
  obtain ⟨σ', H', I, en⟩ := ended_of e
  exact sp_of (I.unsuite C.before.ok) en
/-- except x as n: suite -/
theorem named {i : Nat} (hN : X.N.Nodup) (hi : X.N[i]? = some n) (hl : X.env.kindOf n = some .local) (C : Caught X Z pins σ H B sI a s) (zc : ∀ o, Z o → o.cls = cls) (hc : Names X x c) (m : PySem.W.exmOne X.K cls c = some b)
    (no : b = false → wpAny (model X.prog X.w) X.A (handleBy (.ref a) X.env l) (SP X pins D) X.xe s)
    (yes : b = true → t { nx := fun σ' H' => D.nx (σ'.set i none) H', rt := D.rt, bk := fun σ' H' => D.bk (σ'.set i none) H', ct := fun σ' H' => D.ct (σ'.set i none) H' } (σ.set i (some (.ref a))) H ∧
      ∀ oe, Z oe → (∃ vs, oe.data = .fields vs) → PSs (X.suite a ((a, oe) :: (X.pn ++ pins))) (b₀ :: suite) t) :
    wpAny (model X.prog X.w) X.A (handleBy (.ref a) X.env (.ExceptHandler (some (.Name x np)) (some n) (b₀ :: suite) pos' :: l)) (SP X pins D) X.xe s := by
  refine wpAny_handleBy_cons (C.asked hst hfr zc hc m ?_) (by intro z; cases z)
  cases b
  · exact no rfl
  refine codeAny_handlers_suite_as (C.still fun s' C' => ?_)
  obtain ⟨oe, z, _, dt, S⟩ := C'.object hst hfr
  refine store_ok (X := X.suite a ((a, oe) :: (X.pn ++ pins))) (v := .ref a) S hN hi (.inl hl) rfl (fun s₁ S₁ => ?_) (.inr hl)
  refine wpAny_mono (((yes rfl).2 oe z dt).run [] s₁ _ H _ S₁ (yes rfl).1) (fun f s'' e => ?_) fun _ _ z => z.elim
  obtain ⟨σ', H', I, en⟩ := ended_of e
  exact gone_ok (I.unsuite C.before.ok) hN hi hl fun s₃ I₃ => sp_of I₃ (ended_less en)
end
end Caught
/-- what stands behind the body of a try: the frame notes the exception, it lands, the clauses are asked -/
def Handling (X : Cx) (l : List ExceptHandler) (Q : Flow → Shared → Prop) (e : Value) (s : Shared) : Prop :=
  wpAny (model X.prog X.w) X.A (noteFrame e X.env) (fun _ s₁ => wpAny (model X.prog X.w) X.A (setFlight e none) (fun _ s₂ => wpAny (model X.prog X.w) X.A (handleBy e X.env l) Q X.xe s₂) X.xe s₁) X.xe s
/-- a try of clauses alone, once its handling is known -/
theorem try_by {body : List Stmt} {h₀ : ExceptHandler} {hds : List ExceptHandler} {pos : Pos} {t : TS} (I : L2.Inv X pins σ H s) (want : t D σ H)
    (hb : PassesOwn (model X.prog X.w) X.A X.env (Handling X (h₀ :: hds) (SP X pins D)) → PSs (X.tr (X.pn ++ pins) (Handling X (h₀ :: hds) (SP X pins D))) body t) :
    wpAny (model X.prog X.w) X.A (exec (.Try body (h₀ :: hds) [] [] pos) X.env) (SP X pins D) X.xe s := by
  refine wpAny_Try_except (wpAny_mono ((hb PassesOwn.looking).run [] s σ H D (I.toTry _) want) (fun f s' e => ?_) fun _ _ z => z)
  obtain ⟨σ', H', J, en⟩ := ended_of e
  have r := sp_of (J.ofTry I.ok) en
  cases f with
  | next => exact wpAny_execs_nil r
  | _ => exact r
end

end Su
namespace Su
open PySem L2
local macro_rules | `(tactic| walk_at "side") => `(tactic| first | assumption | (show (0 : Int) < _; omega) | (show (0 : Int) ≤ _; omega) | (show (0 : Int) < _; split <;> omega) | (show _ ∨ _; omega) | (show _ ∧ _; omega) | exact ⟨by decide, by decide, by decide⟩ | exact ⟨by first | assumption | omega, by first | assumption | omega⟩)
local macro_rules | `(tactic| walk_at "xs") => `(tactic| repeat walk_at "x")
local macro_rules | `(tactic| walk_at "if") => `(tactic| first | with_reducible refine Su.x_iteD (fun c => ?_) (fun c => ?_) | with_reducible refine Su.x_iteN (fun c => ?_) (fun c => ?_) | with_reducible refine Su.x_ite (fun c => ?_) (fun c => ?_))

/-! several except clauses, with names or without -/
def CwF : Type := WX → Ends → WX
def cwOnly (K : PySem.W.Frag) (c : Value) (ts : Addr → Value → Option Addr → TS) : CwF := fun Wo D => wOnly K c ts Wo D
def cwAs (K : PySem.W.Frag) (c : Value) (i : Nat) (ts : Addr → Value → Option Addr → TS) : CwF := fun Wo D => wAs K c i ts Wo D
def cwNil : CwF := fun Wo _ => Wo
def cwCons (f g : CwF) : CwF := fun Wo D => f (g Wo D) D
def tTryL (F : CwF) (Wout : WX) (tb : WX → TS) : TS := fun D σ H => tb (F Wout D) D σ H
inductive HdOk (X : Cx) : ExceptHandler → CwF → Prop
  | only {x : Str} {c : Value} {ts : Addr → Value → Option Addr → TS} {b₀ : Stmt} {suite : List Stmt} {np pos' : Pos} (hc : Names X x c)
      (hsu : ∀ (a : Addr) (oe : Obj) (cls : Value) (d : Option Addr) (pn : List (Addr × Obj)), Zc cls d oe → (∃ vs, oe.data = .fields vs) → PSs (X.suite a ((a, oe) :: pn)) (b₀ :: suite) (ts a cls d)) :
      HdOk X (.ExceptHandler (some (.Name x np)) none (b₀ :: suite) pos') (cwOnly X.K c ts)
  | named {x n : Str} {i : Nat} {c : Value} {ts : Addr → Value → Option Addr → TS} {b₀ : Stmt} {suite : List Stmt} {np pos' : Pos} (hi : X.N[i]? = some n) (hln : X.env.kindOf n = some .local) (hc : Names X x c)
      (hsu : ∀ (a : Addr) (oe : Obj) (cls : Value) (d : Option Addr) (pn : List (Addr × Obj)), Zc cls d oe → (∃ vs, oe.data = .fields vs) → PSs (X.suite a ((a, oe) :: pn)) (b₀ :: suite) (ts a cls d)) :
      HdOk X (.ExceptHandler (some (.Name x np)) (some n) (b₀ :: suite) pos') (cwAs X.K c i ts)
inductive HdL (X : Cx) : List ExceptHandler → CwF → Prop
  | nil : HdL X [] cwNil
  | cons {h : ExceptHandler} {l : List ExceptHandler} {f g : CwF} (a : HdOk X h f) (r : HdL X l g) : HdL X (h :: l) (cwCons f g)
section
variable {X : Cx} {body : List Stmt} {h₀ : ExceptHandler} {hds : List ExceptHandler} {F : CwF} {pos : Pos} {tb : WX → TS} {Wout : WX}
theorem HdL.run (hst : X.stack = X.env :: X.outer) (hfr : X.env.frame = some X.env.locals) (hN : X.N.Nodup) (tk : Takes X Wout) {l : List ExceptHandler} (hl : HdL X l F) {cls : Value} {d : Option Addr} {pins : List (Addr × Obj)} {σ : L2.St} {H : Hp} {B : Heap} {sI s : Shared} {a : Addr} {D : Ends}
    (C : Caught X (Zc cls d) pins σ H B sI a s) : F Wout D cls d σ H → wpAny (model X.prog X.w) X.A (handleBy (.ref a) X.env l) (SP X pins D) X.xe s := by
  induction hl with
  | nil => exact fun w => wpAny_handleBy_nil (C.back hst hfr fun h held up => tk _ _ ⟨a, B, sI, pins, σ, H, cls, d, rfl, C.before, C.ground, up, .inr (.inr held), C.new, C.os, C.gens, w⟩)
  | cons first _ rest =>
    cases first with
    | only hc su => exact fun ⟨_, m, yes, no⟩ => C.only hst hfr (fun _ z => z.1) hc m (fun e => rest (no e)) fun e => ⟨yes e a C.new, fun oe z dt => su a oe cls d _ z dt⟩
    | named hi hl hc su => exact fun ⟨_, m, yes, no⟩ => C.named hst hfr hN hi hl (fun _ z => z.1) hc m (fun e => rest (no e)) fun e => ⟨yes e a C.new, fun oe z dt => su a oe cls d _ z dt⟩
theorem ps_tryL (hst : X.stack = X.env :: X.outer) (hfr0 : X.env.frame = some X.env.locals) (hN : X.N.Nodup) (tk : Takes X Wout)
    (hb : ∀ (W : WX) (pn : List (Addr × Obj)) (xe : Value → Shared → Prop), Takes (X.tr pn xe) W → PassesOwn (model X.prog X.w) X.A X.env xe → PSs (X.tr pn xe) body (tb W))
    (hh : HdL X (h₀ :: hds) F) : PS X (.Try body (h₀ :: hds) [] [] pos) (tTryL F Wout tb) := by
  refine ⟨fun pins s σ H D I want => try_by (t := tb (F Wout D)) I want (hb (F Wout D) _ _ ?_)⟩
  rintro _ s' ⟨a, B, sI, _, σ', H', cls, d, rfl, J, nb, up, sky, na, os, ag, w⟩
  exact Sky.land Zc.steady (I.ok.frames.trans (congrArg some hst)) hfr0 (hst ▸ sky) fun h fl u => hh.run hst hfr0 hN tk ⟨J.ofTry I.ok, nb, up.trans u, hst.symm ▸ fl, na, os, ag⟩ w
end
theorem x_tryL {F : CwF} {Wout : WX} {tb : WX → TS} {D : Ends} {σ : St} {H : Hp} (h : tb (F Wout D) D σ H) : tTryL F Wout tb D σ H := h
/-- the first clause catches -/
theorem x_hdAs {K : PySem.W.Frag} {c cls : Value} {i : Nat} {ts : Addr → Value → Option Addr → TS} {g : CwF} {Wout : WX} {D : Ends} {σ : St} {H : Hp} {d : Option Addr} (m : PySem.W.exmOne K cls c = some true)
    (h : ∀ a, H a = none → ts a cls d { nx := fun σ' H' => D.nx (σ'.set i none) H', rt := D.rt, bk := fun σ' H' => D.bk (σ'.set i none) H', ct := fun σ' H' => D.ct (σ'.set i none) H' } (σ.set i (some (.ref a))) H) : cwCons (cwAs K c i ts) g Wout D cls d σ H := ⟨true, m, fun _ => h, fun q => Bool.noConfusion q⟩
theorem x_hdNoAs {K : PySem.W.Frag} {c cls : Value} {i : Nat} {ts : Addr → Value → Option Addr → TS} {g : CwF} {Wout : WX} {D : Ends} {σ : St} {H : Hp} {d : Option Addr} (m : PySem.W.exmOne K cls c = some false) (h : g Wout D cls d σ H) : cwCons (cwAs K c i ts) g Wout D cls d σ H := ⟨false, m, fun q => Bool.noConfusion q, fun _ => h⟩
end Su
namespace Su
open PySem L2
local macro_rules | `(tactic| walk_at "side") => `(tactic| first | assumption | (show (0 : Int) < _; omega) | (show (0 : Int) ≤ _; omega) | (show (0 : Int) < _; split <;> omega) | (show _ ∨ _; omega) | (show _ ∧ _; omega) | exact ⟨by decide, by decide, by decide⟩ | exact ⟨by first | assumption | omega, by first | assumption | omega⟩)
local macro_rules | `(tactic| walk_at "xs") => `(tactic| repeat walk_at "x")
local macro_rules | `(tactic| walk_at "if") => `(tactic| first | with_reducible refine Su.x_iteD (fun c => ?_) (fun c => ?_) | with_reducible refine Su.x_iteN (fun c => ?_) (fun c => ?_) | with_reducible refine Su.x_ite (fun c => ?_) (fun c => ?_))

/-! isinstance of a caught exception that may have fields -/
section
open PySem.W PySem.Calls PyProof.Rows
variable {prog : Program} {w : World} {A : Around} {E : Value → Shared → Prop} {s : Shared} {K : PySem.W.Frag} {x D : Addr} {ox : Obj} {od : Option Obj}
theorem find_cls {C : Addr} {nm : Str} {va vg : Value} (c1 : (clsIn K C).isSome = true) (c2 : findIn K (.ref C) nm = some (some va)) (c3 : specialIn K va "__get__" = some (some vg)) (c4 : takesIn K va = some true) : findObj K C od nm = some (.bind vg va) := by
  obtain ⟨cd, e⟩ := Option.isSome_iff_exists.mp c1
  unfold findObj
  rw [e, Option.bind_some, c2, Option.bind_some]
  simp [c3, c4]
set_option maxHeartbeats 300000 in
theorem exc_class {Q : Option Value → Shared → Prop} (c : ExcC K D) (X : K.In s.heap) (I : InstAt s.heap x ox D od) (q : Q (some (.ref D)) { s with toks := s.toks + 1 }) : wpAny (model prog w) A (getAttr? (.ref x) "__class__") Q E s := by
  have fo : findObj K D od "__class__" = some (.bind (.builtin "getset_descriptor.__get__") (.builtin "object.__class__")) := find_cls (by obtain ⟨cd, hc, _⟩ := any_some c.hd; rw [hc]; rfl) c.ha c.hn c.ht
  obtain ⟨hp, g, d, t, os⟩ := s
  have L0 := I.type (M := model prog w)
  have Lg := looks_findIn (M := model prog w) X c.hg
  have Lt := looks_findIn (M := model prog w) X c.hk
  have Lf := looks_find (M := model prog w) X I fo
  have isB : Looks (model prog w) hp (isInstance (.ref x) (.type "BaseException")) true := L0.andThen (looks_subIn X c.hs)
  have other : (Value.builtin "BaseException.__getattribute__" == Value.builtin "object.__getattribute__") = false := by decide +kernel
  have bound := PySem.F.excAttr_ValueError.ga.bind (.ref x)
  have args := PySem.F.args_bexc_ga (.ref x) (.str "__class__" t)
  unfold getAttr? getAttrBy? getAttrBy
  wp_walk using L0.at, Lg.at, Lt.at
  -- the class's own __getattribute__ is asked
  show codeAny _ _ (.call (.builtin "BaseException.__getattribute__") ⟨[.ref x, .str "__class__" t], []⟩) _ _
  refine codeAny_call_builtin PySem.F.excAttr_ValueError.ga.plain PySem.F.entry_bexc_ga (@check_slot (model prog w) _ _ ⟨hp, g, d, t + 1, os⟩ "BaseException.__getattribute__" "BaseException" "__getattribute__" (.ref x) [.str "__class__" t] [] _ (by decide +kernel) (by decide +kernel) isB args ?_)
  have two : slotArgs "__getattribute__" 1 ⟨[.ref x, .str "__class__" t], []⟩ = pure (Value.ref x, [Value.str "__class__" t]) := by first | rfl | (simp only [slotArgs]; rfl)
  unfold Builtin.«object.__getattribute__»
  refine wpAny_bind (wpAny_of_eq two (wpAny_bind (wpAny_pure (wpAny_bind (L0.at (wpAny_bind (Lf.at ?_)))))))
  have given : handedOut (Value.ref D) = pure (Value.ref D) := handedOut_of rfl
  unfold Builtin.ObjectAttr.bindTo
  refine wpAny_bind (wpAny_holding (wpAny_call (class_get (s := ⟨hp, g, d, t + 1, os⟩) (ox := ox) (od := od) X I c.hm (wpAny_pure ?_))))
  dsimp only
  rw [given]
  exact wpAny_pure (wpAny_pure q)
/-- the class's own object -/
theorem cls_obj (c : ExcC K D) : ∃ a b cd sl, K.lookup D = some (⟨a, b, .cls cd, sl⟩ : Obj) := by
  obtain ⟨cd, e, -⟩ := any_some c.hd
  unfold clsIn at e
  split at e
  · exact ⟨_, _, _, _, by assumption⟩
  · cases e
theorem kit_exc (c : ExcC K D) : KitX K (.ref x) (.ref D) (fun h => InstAt h x ox D od) where
  ty := fun _ _ _ I => I.type
  ca := fun X I k => exc_class c X I k
  it := fun _ _ X _ A1 Q1 E1 s1 keep q => by
    obtain ⟨_, _, _, _, e⟩ := cls_obj c
    unfold isType loadHead
    exact wpAny_bind (wpAny_loadPart (keep _ _ (X _ _ e)) (wpAny_pure q))
  ne := fun _ _ _ _ _ _ X tup => by
    obtain ⟨_, _, _, _, e⟩ := cls_obj c
    refine beq_eq_false_iff_ne.mpr fun z => ?_
    cases z
    have both := (X _ _ e).symm.trans tup
    cases both
end
def rIsY (K : PySem.W.Frag) (a : Addr) (cls : Value) (d : Option Addr) : List V → Hp → VK → Prop := fun xs H Q => ∃ D, cls = .ref D ∧ ExcC K D ∧ (d = none ∨ ∃ (dd : Addr) (fs : List (Str × V)), d = some dd ∧ H dd = some (.xd fs)) ∧ rIsE K D a xs H Q
theorem call_isY {X : Cx} {a : Addr} {oe : Obj} {cls : Value} {d : Option Addr} {pn : List (Addr × Obj)} (hz : Zc cls d oe) (hf : ∃ vs, oe.data = .fields vs) : CallR (X.suite a ((a, oe) :: pn)) (.builtin "isinstance") (rIsY X.K a cls d) := by
  intro pins s σ H xs us Q I r h
  obtain ⟨D, rfl, C, hd, c, cv, b, rfl, hcv, e, q⟩ := h
  cases r with
  | cons rx rr =>
    cases rr with
    | cons rt rr =>
      cases rr
      cases rx
      have ec := hcv _ rt
      subst ec
      have hget := (I.pin (a, oe) (List.mem_append_left _ List.mem_cons_self)).1
      obtain ⟨vs, hv⟩ := hf
      obtain ⟨oc, odx, oda, osl⟩ := oe
      obtain ⟨h1, h2⟩ := hz
      dsimp only at h1 h2 hv
      subst h1 h2 hv
      rcases hd with rfl | ⟨dd, fs, rfl, hdd⟩
      · have J : PySem.W.InstAt s.heap a _ D none := ⟨hget, rfl, rfl, trivial⟩
        exact PySem.W.kia_one (kit_exc C) I.kIn J e (fun z => nomatch z) fun tk => ⟨.bl b, H, I.kept (t' := tk) fun _ _ z => z, rfl, q⟩
      · have hx : ObjOk X.prog X.w H s.heap dd (.xd fs) := I.hok dd _ hdd
        obtain ⟨mA, hns, hr⟩ := hx
        obtain ⟨od, ho, hl⟩ := L2.lookIn_ns hns
        have J : PySem.W.InstAt s.heap a _ D (some od) := ⟨hget, rfl, rfl, ho⟩
        exact PySem.W.kia_one (kit_exc C) I.kIn J e (fun z => nomatch z) fun tk => ⟨.bl b, H, I.kept (t' := tk) fun _ _ z => z, rfl, q⟩
theorem x_isY {K : PySem.W.Frag} {a D : Addr} {d : Option Addr} {cv : Value} {b : Bool} {c : V} {H : Hp} {Q : VK} (C : ExcC K D) (hd : d = none ∨ ∃ (dd : Addr) (fs : List (Str × V)), d = some dd ∧ H dd = some (.xd fs)) (hc : ∀ u, RelV c u → u = cv) (hk : PySem.W.kitOne K (.ref D) cv = some b) (h : Q (.bl b) H) : rIsY K a (.ref D) d [.ref a, c] H Q := ⟨D, rfl, C, hd, c, cv, b, rfl, hc, hk, h⟩

end Su
namespace Su
open PySem L2
local macro_rules | `(tactic| walk_at "side") => `(tactic| first | assumption | (show (0 : Int) < _; omega) | (show (0 : Int) ≤ _; omega) | (show (0 : Int) < _; split <;> omega) | (show _ ∨ _; omega) | (show _ ∧ _; omega) | exact ⟨by decide, by decide, by decide⟩ | exact ⟨by first | assumption | omega, by first | assumption | omega⟩)
local macro_rules | `(tactic| walk_at "x") => `(tactic| first
  | with_reducible refine Su.x_seq ?_ | with_reducible refine Su.x_asg ?_ | with_reducible refine Su.x_gname ?_ | with_reducible refine Su.x_drop ?_ | with_reducible refine Su.x_ret ?_ | with_reducible refine Su.x_ifS ?_
  | ((with_reducible show L2.tVar _ _ _ _); refine Su.x_var rfl ?_) | with_reducible refine Su.x_c ?_ | with_reducible refine Su.x_op ?_ | with_reducible refine Su.x_rI0 ?_ | ((with_reducible refine Su.x_rI ?_ ?_); focus walk_at "side")
  | ((with_reducible show L2.rIxL _ (L2.V.ref _) (L2.V.int _) _ _); refine Su.x_ixI (by assumption) (by first | decide | omega) (by omega) ?_) | with_reducible refine Su.x_isi_int_int ?_ | with_reducible refine Su.x_isi_int_bool ?_ | with_reducible refine Su.x_isi_int_str ?_ | with_reducible refine Su.x_isi_int_list ?_ | with_reducible refine Su.x_isi_int_tuple ?_ | with_reducible refine Su.x_isi_bool_int ?_ | with_reducible refine Su.x_isi_bool_bool ?_ | with_reducible refine Su.x_isi_bool_str ?_ | with_reducible refine Su.x_isi_bool_list ?_ | with_reducible refine Su.x_isi_bool_tuple ?_ | with_reducible refine Su.x_isi_str_int ?_ | with_reducible refine Su.x_isi_str_bool ?_ | with_reducible refine Su.x_isi_str_str ?_ | with_reducible refine Su.x_isi_str_list ?_ | with_reducible refine Su.x_isi_str_tuple ?_ | with_reducible refine Su.x_isi_NoneType_int ?_ | with_reducible refine Su.x_isi_NoneType_bool ?_ | with_reducible refine Su.x_isi_NoneType_str ?_ | with_reducible refine Su.x_isi_NoneType_list ?_ | with_reducible refine Su.x_isi_NoneType_tuple ?_ | with_reducible refine Su.x_rGt ?_ | with_reducible refine Su.x_rGe ?_ | with_reducible refine Su.x_iteF ?_ | with_reducible refine Su.x_iteT ?_ | with_reducible refine Su.x_iteNT ?_ | with_reducible refine Su.x_iteNF ?_ | with_reducible refine Su.x_eqI ?_ | with_reducible refine Su.x_neI ?_ | with_reducible refine Su.x_eqS ?_ | with_reducible refine Su.x_neS ?_ | with_reducible refine Su.x_eqB ?_ | with_reducible refine Su.x_neB ?_
  | with_reducible refine Su.x_test ?_ | with_reducible refine Su.x_tB ?_ | with_reducible refine Su.x_isB ?_ | with_reducible refine Su.x_isB' ?_ | with_reducible refine Su.x_not ?_ | with_reducible refine Su.x_and ?_ | with_reducible refine Su.x_or ?_
  | with_reducible refine Su.x_andV ?_ | with_reducible refine Su.x_orV ?_ | with_reducible refine Su.x_notV ?_ | with_reducible refine Su.x_chain ?_ | with_reducible refine Su.x_nil ?_ | with_reducible refine Su.x_cons ?_ | with_reducible refine Su.x_cb ?_ | with_reducible refine Su.x_call ?_
  | with_reducible refine Su.x_un ?_ | with_reducible refine Su.x_rU ?_ | with_reducible refine Su.x_abs ?_ | with_reducible refine Su.x_max2 ?_ | with_reducible refine Su.x_min2 ?_ | with_reducible refine Su.x_int1 ?_ | with_reducible refine Su.x_intB ?_
  | with_reducible refine Su.x_lst ?_ | with_reducible refine Su.x_tup ?_ | with_reducible refine Su.x_bmL ?_ | with_reducible refine Su.x_next ?_ | with_reducible refine Su.x_for ?_ | with_reducible refine Su.x_iList ?_ | with_reducible refine Su.x_iRng1 ?_ | with_reducible refine Su.x_iRng2 ?_ | with_reducible refine Su.x_whileN ?_ | with_reducible refine Su.x_iEnum ?_ | with_reducible refine Su.x_iZip ?_ | with_reducible refine Su.x_iZipA ?_ | with_reducible refine Su.x_iTup ?_ | with_reducible refine Su.x_gcons ?_ | with_reducible refine Su.x_gnil ?_ | with_reducible refine Su.x_gsub ?_ | with_reducible refine Su.x_yes ?_ | with_reducible refine Su.x_lc ?_ | with_reducible refine Su.x_sl ?_ | with_reducible refine Su.x_nopart ?_ | with_reducible refine Su.x_part ?_ | with_reducible refine Su.x_isI ?_ | with_reducible refine Su.x_lstRg ?_ | with_reducible refine Su.x_rg1 ?_ | with_reducible refine Su.x_augS ?_ | with_reducible refine Su.x_ipI ?_ | ((with_reducible show L2.tAug _ _ _ _ _ _); refine Su.x_aug rfl ?_) | with_reducible refine Su.x_callS ?_ | with_reducible refine Su.x_tryAs ?_)
local macro_rules | `(tactic| walk_at "xs") => `(tactic| repeat walk_at "x")
local macro_rules | `(tactic| walk_at "if") => `(tactic| first | with_reducible refine Su.x_iteD (fun c => ?_) (fun c => ?_) | with_reducible refine Su.x_iteN (fun c => ?_) (fun c => ?_) | with_reducible refine Su.x_ite (fun c => ?_) (fun c => ?_))
local macro_rules | `(tactic| walk_at "x") => `(tactic| first | with_reducible refine Su.x_m1 ?_ | with_reducible refine Su.x_strE ?_ | with_reducible refine Su.x_m0 ?_ | with_reducible refine Su.x_dnew ?_ | with_reducible refine Su.x_dput ?_ | with_reducible refine Su.x_dgetE ?_ | with_reducible refine Su.x_dget2 ?_ | with_reducible refine Su.x_daug ?_ | with_reducible refine Su.x_din ?_ | with_reducible refine Su.x_dnin ?_ | with_reducible refine Su.x_brk ?_ | with_reducible refine Su.x_retN ?_)
local macro_rules | `(tactic| walk_at "at") => `(tactic| first | assumption | (refine Su.f_at (by assumption) ?_; walk_at "at"))
local macro_rules | `(tactic| walk_at "sm") => `(tactic| first | assumption | exact L2.Same.refl _ | (refine Su.f_tr (by assumption) ?_; walk_at "sm"))
local macro_rules | `(tactic| walk_at "hp") => `(tactic| first | assumption | ((with_reducible refine Su.f_sqL ?_); walk_at "at") | ((with_reducible refine Su.f_sqT ?_); walk_at "at") | ((with_reducible show L2.Same _ _); walk_at "sm") | ((with_reducible show _ = none); refine Su.f_free ?_ (by assumption); walk_at "sm") | ((with_reducible show _ = some _); walk_at "at") | (refine Su.f_dp (by assumption) ?_; walk_at "hp") | (refine Su.f_dpA (by assumption) ?_; walk_at "hp") | (refine Su.f_sqLs (by assumption) ?_; walk_at "hp") | (refine Su.f_sqTs (by assumption) ?_; walk_at "hp"))
local macro_rules | `(tactic| walk_at "x") => `(tactic| first | with_reducible refine Su.x_fld ?_ | with_reducible refine Su.x_sfld ?_ | with_reducible refine Su.x_sfldAug ?_ | with_reducible refine Su.x_meth ?_ | with_reducible refine Su.x_methW ?_ | with_reducible refine Su.x_make ?_ | with_reducible refine Su.x_makeW ?_ | with_reducible refine Su.c_stake (by assumption) ?_ | with_reducible refine Su.c_size (by assumption) ?_ | with_reducible refine Su.c_bidding (by assumption) ?_ | with_reducible refine Su.c_now (by assumption) ?_ | with_reducible refine Su.c_line (by assumption) ?_ | with_reducible refine Su.c_due (by assumption) ?_ | with_reducible refine Su.c_chest (by assumption) ?_ | with_reducible refine Su.c_state (by assumption) ?_ | with_reducible refine Su.c_when (by assumption) ?_ | with_reducible refine Su.c_pledged (by assumption) ?_ | with_reducible refine Su.c_given (by assumption) ?_ | with_reducible refine Su.c_drawn (by assumption) ?_ | with_reducible refine Su.c_shared (by assumption) ?_ | with_reducible refine Su.c_missed (by assumption) ?_ | with_reducible refine Su.c_flows (by assumption) ?_)
local macro_rules | `(tactic| walk_at "me") => `(tactic| first | refine Su.c_meth (by assumption) rfl ?_ | refine Su.so_meth (by assumption) rfl ?_)
/-- a circle is made, or not -/
theorem make_any {K : PySem.W.Frag} {H : Hp} {Q : Addr → Hp → Prop} {E : XK} (t : ClsT K "Circle" cirNames) {s : Int} {p w : Addr} {pl ws : List Int} {b : Bool} (hp : SqL K H p (pl.map V.int)) (hw : SqL K H w (ws.map V.int))
    (k1 : ¬ OpenOk s pl ws → ∀ H', Same H H' → E (.ref (He.ga K "BadNumber")) none H')
    (k2 : OpenOk s pl ws → ∀ e l cr, paperOf (openWin s pl ws) = .bar e l cr → ∀ d H', NoOrd H H' d e l cr → E (.ref (He.ga K "NoOrder")) (some d) H')
    (q : OpenOk s pl ws → ∀ a row H', Same H H' → CirAt K H' a (openS s b pl row) → paperOf (openWin s pl ws) = .order row → Q (a 0) H') :
    ∀ x dx, H x = none → H dx = none → dx ≠ x → sp_Circle_init K (.ref x :: ([.int s, .ref p, .ref w, .bl b] ++ [])) (upd (upd H dx (.own x)) x (.ins (He.ga K "Circle") dx [])) (fun v H2 => v = .non ∧ Q x H2) E := by
  intro x dx nx ndx ne
  have s0 : Same H (upd (upd H dx (.own x)) x (.ins (He.ga K "Circle") dx [])) := fun y u hy => by
    rw [upd_ne (ne_of_none hy nx), upd_ne (ne_of_none hy ndx)]; exact hy
  have s1 : Same H (hide [x] (upd (upd H dx (.own x)) x (.ins (He.ga K "Circle") dx []))) := same_hide (same_upd (same_upd (Same.refl H) ndx) nx) fun a ha => by
    cases List.mem_singleton.mp ha; exact nx
  refine ⟨x, dx, s, p, w, pl, ws, b, rfl, t, upd_same, by rw [upd_ne ne, upd_same], ne, s1.seq hp, s1.seq hw, fun z => k1 z _ s0, fun ok => ⟨fun e l cr er d H' no => k2 ok e l cr er d H' (no.low s0), fun row er a H' a0 a1 fr off c => ⟨rfl, ?_⟩⟩⟩
  have := q ok a row H' (fun y u hy => off y u (fun z => by cases List.mem_singleton.mp z; rw [nx] at hy; cases hy) (s0 _ _ hy)) c er
  rw [a0] at this
  exact this
theorem dp_bl21 {K : PySem.W.Frag} {H : Hp} {p : Addr} {bs : List Bool} (h : H p = some (.lst (bs.map V.bl))) : Dp K H (.ref p) (.list (bs.map .bool)) := .lst (SqL.of h) (bls_dpAll bs)
theorem good_bl21 {bs : List Bool} (h : bs.length ≤ 1000) : GoodD 1 (.list (bs.map .bool)) := good_map h fun _ _ => .bool _ _
theorem eq_bl21 {K : PySem.W.Frag} {H : Hp} {Q : VK} {p q : Addr} {bs cs : List Bool} {x : Bool} (l1 : bs.length ≤ 1000) (l2 : cs.length ≤ 1000) (h1 : H p = some (.lst (bs.map V.bl))) (h2 : H q = some (.lst (cs.map V.bl))) (e : PyData.eqv (.list (bs.map .bool)) (.list (cs.map .bool)) = x) (h : Q (.bl x) H) : rEqD K (.ref p) (.ref q) H Q :=
  ⟨_, _, dp_bl21 h1, dp_bl21 h2, (good_bl21 l1).shaped (by decide), (good_bl21 l2).shaped (by decide), by rw [e]; exact h⟩
theorem ne_bl21 {K : PySem.W.Frag} {H : Hp} {Q : VK} {p q : Addr} {bs cs : List Bool} {x : Bool} (l1 : bs.length ≤ 1000) (l2 : cs.length ≤ 1000) (h1 : H p = some (.lst (bs.map V.bl))) (h2 : H q = some (.lst (cs.map V.bl))) (e : PyData.eqv (.list (bs.map .bool)) (.list (cs.map .bool)) = x) (h : Q (.bl (!x)) H) : rNeD K (.ref p) (.ref q) H Q :=
  ⟨_, _, dp_bl21 h1, dp_bl21 h2, (good_bl21 l1).shaped (by decide), (good_bl21 l2).shaped (by decide), by rw [e]; exact h⟩
theorem x_xfd {a : Addr} {cls : Value} {d : Option Addr} {C : Addr} {f : Str} {te : TE} {σ : St} {H : Hp} {Q : VK} (h : te σ H fun x H1 => x = .ref a ∧ cls = .ref C ∧ ∃ (dd : Addr) (fs : List (Str × V)) (v : V), d = some dd ∧ H1 dd = some (.xd fs) ∧ fs.lookup f = some v ∧ Q v H1) : tXf a cls d C f te σ H Q := h
structure En21 (K : PySem.W.Frag) (H : Hp) (m P W : Addr) (s : Int) (pl ws : List Int) (bs : List Bool) (u9 u10 : Option V) : Prop where
  hm : H m = some (.lst (bs.map V.bl))
  hP : H P = some (.lst (pl.map V.int))
  hW : H W = some (.lst (ws.map V.int))
  ex : (bs = [true, false, true, false] ∧ ¬ OpenOk s pl ws) ∨
    (bs = [false, true, true, false] ∧ OpenOk s pl ws ∧ ∃ (T q : Addr) (e l : Int) (cr : List Nat), u9 = some (.ref T) ∧ H T = some (.tup [.int e, .int l, .ref q]) ∧ H q = some (.lst (nI cr)) ∧ paperOf (openWin s pl ws) = .bar e l cr) ∨
    (bs = [] ∧ OpenOk s pl ws ∧ ∃ (q : Addr) (row : List Nat), u10 = some (.ref q) ∧ H q = some (.lst (nI row)) ∧ paperOf (openWin s pl ws) = .order row)
def sp_law (K : PySem.W.Frag) : Sp := fun vs H Q _ => ∃ (a : Addr) (ns : List Int), vs = [.ref a] ∧ SqL K H a (ns.map V.int) ∧ ns.length ≤ 63 ∧ Xf K ["BadNumber", "NoOrder"] ∧ NmX K ["BadNumber", "NoOrder"] ∧ ClsT K "Circle" cirNames ∧ ∀ H', Q (.bl true) H'
abbrev N_law : List Str := ["_law_script", "_law_some", "_law_size", "_law_stake", "_law_pledges", "_law_wishes", "_law_at", "_law_wish", "_law_marks", "_law_parts", "_law_queue", "e", "_law_windows", "_law_pledge"]
def t_law (K : PySem.W.Frag) : TS :=
 (tSeq (tAsg (tCall (sp_law_draws K) [] E0 (tCons (tVar 0) (tCons (tC (.int 56)) tNil))) (gName 1))
 (tSeq (tAsg (tOp rMod (tOp (rIxL K) (tVar 1) (tC (.int 0))) (tC (.int 24))) (gName 2))
 (tSeq (tAsg (tOp rAdd (tC (.int 1)) (tOp rMod (tOp (rIxL K) (tVar 1) (tC (.int 1))) (tOp (rIxL K) (tLst (tCons (tC (.int 5)) (tCons (tC (.int 1000000)) tNil))) (tOp rMod (tOp (rIxL K) (tVar 1) (tC (.int 2))) (tC (.int 2)))))) (gName 3))
 (tSeq (tAsg (tLst tNil) (gName 4))
 (tSeq (tAsg (tLst tNil) (gName 5))
 (tSeq (tFor (iRng1 (tCons (tVar 2) tNil)) (gName 6)
 (tSeq (tDrop (tBM K "list" rAppend (tVar 4) (tCons (tOp rMod (tOp (rIxL K) (tVar 1) (tOp rAdd (tC (.int 10)) (tVar 6))) (tOp rAdd (tOp rMul (tVar 3) (tVar 2)) (tC (.int 1)))) tNil)))
 (tSeq (tAsg (tOp rAdd (tC (.int 1)) (tOp rMod (tOp (rIxL K) (tVar 1) (tOp rAdd (tC (.int 33)) (tVar 6))) (tVar 2))) (gName 7))
 (C8.tCut (tIfS (tTest (tOp rEq (tOp rMod (tOp (rIxL K) (tVar 1) (tC (.int 3))) (tC (.int 3))) (tC (.int 1))))
 (tAsg (tVar 2) (gName 7))
 tNext)
 (C8.tCut (tIfS (tTest (tOp rEq (tOp rMod (tOp (rIxL K) (tVar 1) (tC (.int 3))) (tC (.int 3))) (tC (.int 2))))
 (tAsg (tCB rMax2 (tCons (tVar 7) (tCons (tOp rSub (tVar 2) (tC (.int 2))) tNil))) (gName 7))
 tNext)
 (C8.tCut (tIfS (tTest (tOp rGt (tOp rMod (tOp (rIxL K) (tVar 1) (tC (.int 4))) (tC (.int 3))) (tC (.int 0))))
 (tAsg (tCB rMin2 (tCons (tC (.int 1000000000)) (tCons (tOp rSub (tOp rMul (tVar 3) (tVar 2)) (tOp rDiv (tOp (rIxL K) (tVar 4) (tVar 6)) (tC (.int 3)))) tNil))) (gSub (tVar 4) (tVar 6) rSetL))
 tNext)
 (tDrop (tBM K "list" rAppend (tVar 5) (tCons (tVar 7) tNil)))))))))
 (C8.tCut (tIfS (tTest (tOp rEq (tOp rMod (tOp (rIxL K) (tVar 1) (tC (.int 5))) (tC (.int 2))) (tC (.int 1))))
 (tAsg (tCall (sp_law_spoil K) [] E0 (tCons (tSl (rSlL K) (tVar 1) (tPart (tC (.int 6))) tNoPart) (tCons (tVar 3) (tCons (tVar 4) (tCons (tVar 5) tNil))))) (gTup K 3 (gCons (gName 3) (gCons (gName 4) (gCons (gName 5) gNil)))))
 tNext)
 (tSeq (tAsg (tLst tNil) (gName 8))
 (tSeq (tAsg (tC .non) (gName 9))
 (tSeq (tAsg (tC .non) (gName 10))
 (C8.tCut (tTryL (cwCons (cwAs K (.ref (He.ga K "NoOrder")) 11 (fun a cls d => (tSeq (tAsg (tLst (tCons (tC (.bl false)) (tCons (tC (.bl true)) (tCons (tCB (rIsY K a cls d) (tCons (tVar 11) (tCons (tC (.ref (He.ga K "SusuError"))) tNil))) (tCons (tCB (rIsY K a cls d) (tCons (tVar 11) (tCons (tC (.ref (He.ga K "BadNumber"))) tNil))) tNil))))) (gName 8))
 (tAsg (tTup (tCons (tXf a cls d (He.ga K "NoOrder") "early" (tVar 11)) (tCons (tXf a cls d (He.ga K "NoOrder") "late" (tVar 11)) (tCons (tXf a cls d (He.ga K "NoOrder") "crowd" (tVar 11)) tNil)))) (gName 9)))))
 (cwCons (cwAs K (.ref (He.ga K "SusuError")) 11 (fun a cls d => (tAsg (tLst (tCons (tCB (rIsY K a cls d) (tCons (tVar 11) (tCons (tC (.ref (He.ga K "BadNumber"))) tNil))) (tCons (tC (.bl false)) (tCons (tCB (rIsY K a cls d) (tCons (tVar 11) (tCons (tC (.ty "ValueError")) tNil))) (tCons (tC (.bl false)) tNil))))) (gName 8))))
 cwNil)) (fun _ _ _ _ => False) (fun W => (tAsg (tMeth (He.ga K "Circle") "queue" (sp_Circle_queue K) [] E0 (tMakeW (He.ga K "Circle") (sp_Circle_init K) [] (WE W) (tCons (tVar 3) (tCons (tCB (rListOf K) (tCons (tVar 4) tNil)) (tCons (tCB (rListOf K) (tCons (tVar 5) tNil)) (tCons (tOp rEq (tOp rMod (tOp (rIxL K) (tVar 1) (tC (.int 9))) (tC (.int 2))) (tC (.int 1))) tNil))))) tNil) (gName 10))))
 (tSeq (tIfS (tNot (tB (tCall (sp_law_good K) [] E0 (tCons (tVar 3) (tCons (tVar 4) (tCons (tVar 5) tNil))))))
 (tRet (tOp (rEqD K) (tVar 8) (tLst (tCons (tC (.bl true)) (tCons (tC (.bl false)) (tCons (tC (.bl true)) (tCons (tC (.bl false)) tNil)))))))
 tNext)
 (tSeq (tAsg (tLst tNil) (gName 12))
 (tSeq (tFor (iZip K (tCons (tVar 4) (tCons (tVar 5) tNil))) (gTup K 2 (gCons (gName 13) (gCons (gName 7) gNil)))
 (tDrop (tBM K "list" rAppend (tVar 12) (tCons (tTup (tCons (tCall (sp_law_early K) [] E0 (tCons (tVar 3) (tCons (tVar 2) (tCons (tVar 13) tNil)))) (tCons (tVar 7) tNil))) tNil))))
 (tSeq (tIfS (tTest (tOp (rEqD K) (tVar 8) (tLst tNil)))
 (tRet (tAndV (tCall (sp_law_wholes K) [] E0 (tCons (tVar 10) tNil)) (tCall (sp_law_keeps K) [] E0 (tCons (tVar 12) (tCons (tVar 10) tNil)))))
 tNext)
 (tSeq (tIfS (tOr (tTest (tOp (rNeD K) (tVar 8) (tLst (tCons (tC (.bl false)) (tCons (tC (.bl true)) (tCons (tC (.bl true)) (tCons (tC (.bl false)) tNil))))))) (tOr (tNot (tB (tCall (sp_law_whole K) [] E0 (tCons (tOp (rIxT K) (tVar 9) (tC (.int 0))) tNil)))) (tNot (tB (tCall (sp_law_whole K) [] E0 (tCons (tOp (rIxT K) (tVar 9) (tC (.int 1))) tNil))))))
 (tRet (tC (.bl false)))
 tNext)
 (tRet (tAndV (tCall (sp_law_wholes K) [] E0 (tCons (tOp (rIxT K) (tVar 9) (tC (.int 2))) tNil)) (tCall (sp_law_bars K) [] E0 (tCons (tVar 12) (tCons (tOp (rIxT K) (tVar 9) (tC (.int 0))) (tCons (tOp (rIxT K) (tVar 9) (tC (.int 1))) (tCons (tOp (rIxT K) (tVar 9) (tC (.int 2))) tNil)))))))))))))))))))))))

theorem len_law {K : PySem.W.Frag} : ∀ vs H Q E, sp_law K vs H Q E → vs.length = ["_law_script"].length := by
  rintro vs H Q E ⟨s, n, rfl, _⟩; rfl
theorem pure_law {K : PySem.W.Frag} {vs : List V} {H : Hp} {Q : VK} {E : XK} (h : sp_law K vs H Q E) : t_law K { nx := fun _ H' => Q .non H', rt := Q } (start N_law vs) H := by
  obtain ⟨sa, sc, rfl, hS, hl, xf, nm, t, k⟩ := h
  unfold t_law
  walk_at "xs"
  refine ⟨sa, sc, 56, rfl, hS, hl, by decide, fun p rows H1 np q1 hp hm hm2 hb => ?_⟩
  walk_at "xs"
  have m0 := b_mod (rows.getD (Int.toNat 0) 0) 24 (by decide)
  obtain ⟨n, hn⟩ : ∃ n : Nat, rows.getD (Int.toNat 0) 0 % 24 = n := ⟨(rows.getD (Int.toNat 0) 0 % 24).toNat, by omega⟩
  rw [hn]
  have n2 : n ≤ 23 := by omega
  clear hn m0
  refine al_lst fun m1 H2 nm1 q2 hm1 => ?_
  have hp2 := q2 _ _ hp
  walk_at "xs"
  have m1' := b_mod (rows.getD (Int.toNat 2) 0) 2 (by decide)
  obtain ⟨d, hd, d1, d2⟩ : ∃ d : Int, atI ([.int 5, .int 1000000] : List V) (rows.getD (Int.toNat 2) 0 % 2) = some (.int d) ∧ 1 ≤ d ∧ d ≤ 1000000 := by
    rcases (by omega : rows.getD (Int.toNat 2) 0 % 2 = 0 ∨ rows.getD (Int.toNat 2) 0 % 2 = 1) with e | e <;> rw [e]
    · exact ⟨5, rfl, by decide, by decide⟩
    · exact ⟨1000000, rfl, by decide, by decide⟩
  refine x_ixL (SqL.of hm1) hd ?_
  have m2 := b_mod (rows.getD (Int.toNat 1) 0) d (by omega)
  walk_at "xs"
  obtain ⟨s, hs⟩ : ∃ s : Int, 1 + rows.getD (Int.toNat 1) 0 % d = s := ⟨_, rfl⟩
  rw [hs]
  have s2 : 1 ≤ s ∧ s ≤ 1000000 := by omega
  clear hs m2 hd d1 d2 m1'
  refine al_lst fun P H3 nP q3 hP => ?_
  walk_at "xs"
  refine al_lst fun W H4 nW q4 hW => ?_
  have hp4 := q4 _ _ (q3 _ _ hp2)
  have PW : P ≠ W := fun z => by rw [← z, hP] at nW; cases nW
  have pP : p ≠ P := fun z => by rw [← z, hp2] at nP; cases nP
  have pW : p ≠ W := fun z => by rw [← z, q3 _ _ hp2] at nW; cases nW
  have hP4 := q4 _ _ hP
  walk_at "xs"
  refine ⟨n, rfl, by omega, by omega, for_by turnsR (fun i σ H' => ∃ (u6 u7 : Option V) (pl ws : List Int), σ = [some (.ref sa), some (.ref p), some (.int n), some (.int s), some (.ref P), some (.ref W), u6, u7, none, none, none, none, none, none] ∧ H' p = some (.lst (rows.map V.int)) ∧ H' P = some (.lst (pl.map V.int)) ∧ H' W = some (.lst (ws.map V.int)) ∧ pl.length = i ∧ ws.length = i)
    ⟨_, _, [], [], rfl, hp4, hP4, hW, rfl, rfl⟩ (fun _ _ _ _ _ => trivial) ?_ ?_⟩
  · clear hp4 hP4 hW q4 q3 q2 hP hp2 hm1
    rintro i y σ G0 _ hi ⟨u6, u7, pl, ws, rfl, gp, gP, gW, l1, l2⟩ ⟨rfl, rfl⟩
    rw [show (0 : Int) + (i : Int) = i by omega]
    have sn : s * (n : Int) + 1 ≠ 0 ∧ s * (n : Int) ≤ 23000000 ∧ 0 ≤ s * (n : Int) := by
      have h1 := Int.mul_le_mul s2.2 (show (n : Int) ≤ 23 by omega) (by omega) (by decide)
      have h2 := Int.mul_nonneg (show (0 : Int) ≤ s by omega) (show (0 : Int) ≤ (n : Int) by omega)
      exact ⟨by omega, by omega, h2⟩
    walk_at "xs"
    refine ⟨tyL (SqL.of gP), ?_⟩
    walk_at "xs"
    refine x_append gP (small (by rw [List.length_map]; omega)) ?_
    generalize rows.getD (10 + (i : Int)).toNat 0 % (s * (n : Int) + 1) = v
    have gp1 : upd G0 P (.lst (pl.map V.int ++ [V.int v])) p = some (.lst (rows.map V.int)) := by rw [upd_ne pP]; exact gp
    have gP1 : upd G0 P (.lst (pl.map V.int ++ [V.int v])) P = some (.lst ((pl ++ [v]).map V.int)) := by rw [upd_same, List.map_append]; rfl
    have gW1 : upd G0 P (.lst (pl.map V.int ++ [V.int v])) W = some (.lst (ws.map V.int)) := by rw [upd_ne PW.symm]; exact gW
    have l3 : (pl ++ [v]).length = i + 1 := by rw [List.length_append, l1]; rfl
    generalize upd G0 P (.lst (pl.map V.int ++ [V.int v])) = G1 at gp1 gP1 gW1 ⊢
    generalize pl ++ [v] = pl1 at gP1 l3
    clear gp gP gW
    walk_at "xs"
    generalize 1 + rows.getD (33 + (i : Int)).toNat 0 % (n : Int) = wi
    refine x_normE (σ' := [some (.ref sa), some (.ref p), some (.int n), some (.int s), some (.ref P), some (.ref W), some (.int (i : Nat)), some (.int wi), none, none, none, none, none, none]) rfl ?_
    refine x_cut (fun σ' H' => ∃ wi' : Int, σ' = [some (.ref sa), some (.ref p), some (.int n), some (.int s), some (.ref P), some (.ref W), some (.int (i : Nat)), some (.int wi'), none, none, none, none, none, none] ∧ G1 = H') ?_ ?_
    · walk_at "xs"
      walk_at "if"
      · walk_at "xs"
        exact ⟨_, rfl, rfl⟩
      · exact ⟨_, rfl, rfl⟩
    rintro _ _ ⟨wi1, rfl, rfl⟩
    refine x_cut (fun σ' H' => ∃ wi' : Int, σ' = [some (.ref sa), some (.ref p), some (.int n), some (.int s), some (.ref P), some (.ref W), some (.int (i : Nat)), some (.int wi'), none, none, none, none, none, none] ∧ G1 = H') ?_ ?_
    · walk_at "xs"
      walk_at "if"
      · walk_at "xs"
        exact ⟨_, rfl, rfl⟩
      · exact ⟨_, rfl, rfl⟩
    rintro _ _ ⟨wi2, rfl, rfl⟩
    refine x_cut (fun σ' H' => σ' = [some (.ref sa), some (.ref p), some (.int n), some (.int s), some (.ref P), some (.ref W), some (.int (i : Nat)), some (.int wi2), none, none, none, none, none, none] ∧ ∃ pl2 : List Int, H' p = some (.lst (rows.map V.int)) ∧ H' P = some (.lst (pl2.map V.int)) ∧ H' W = some (.lst (ws.map V.int)) ∧ pl2.length = i + 1) ?_ ?_
    · walk_at "xs"
      walk_at "if"
      · walk_at "xs"
        refine x_setL gP1 (by omega) (by rw [List.length_map, l3]; omega) ?_
        rw [map_setI]
        exact ⟨rfl, _, by rw [upd_ne pP]; exact gp1, upd_same, by rw [upd_ne PW.symm]; exact gW1, by rw [List.length_set]; exact l3⟩
      · exact ⟨rfl, pl1, gp1, gP1, gW1, l3⟩
    clear gp1 gP1 gW1 l3
    rintro _ G2 ⟨rfl, pl2, gp, gP, gW, l3⟩
    walk_at "xs"
    refine ⟨tyL (SqL.of gW), ?_⟩
    walk_at "xs"
    refine x_append gW (small (by rw [List.length_map]; omega)) ?_
    exact ⟨_, _, pl2, ws ++ [wi2], rfl, by rw [upd_ne pW]; exact gp, by rw [upd_ne PW]; exact gP, by rw [upd_same, List.map_append]; rfl, l3, by rw [List.length_append, l2]; rfl⟩
  clear hp4 hP4 hW q4 q3 q2 hP hp2 hm1
  rintro _ G0 ⟨u6, u7, pl, ws, rfl, gp, gP, gW, l1, l2⟩
  rw [Int.toNat_natCast] at l1 l2
  refine x_cut (fun σ' H' => ∃ (s' : Int) (W' : Addr) (pl' ws' : List Int), σ' = [some (.ref sa), some (.ref p), some (.int n), some (.int s'), some (.ref P), some (.ref W'), u6, u7, none, none, none, none, none, none] ∧ H' p = some (.lst (rows.map V.int)) ∧ H' P = some (.lst (pl'.map V.int)) ∧ H' W' = some (.lst (ws'.map V.int)) ∧ pl'.length = n ∧ ws'.length ≤ n + 1) ?_ ?_
  · walk_at "xs"
    walk_at "if"
    · walk_at "xs"
      refine al_from (i := 6) (SqL.of gp) rfl fun a G1 na s1 ha => ?_
      walk_at "xs"
      have aP : a ≠ P := fun z => by rw [z, gP] at na; cases na
      have aW : a ≠ W := fun z => by rw [z, gW] at na; cases na
      refine ⟨a, P, W, rows.drop 6, s, pl, ws, rfl, ha, by rw [List.length_drop]; omega, s1 _ _ gP, s1 _ _ gW, PW, aP, aW, by omega, by omega, fun t w' s' pl' ws' G2 ht hP' hW' e1 e2 wp kk ne => ?_⟩
      refine x_gtup (SqT.of ht) rfl ?_
      walk_at "xs"
      exact ⟨s', w', pl', ws', rfl, kk _ _ pP pW (s1 _ _ gp), hP', hW', by omega, by omega⟩
    · exact ⟨s, W, pl, ws, rfl, gp, gP, gW, l1, by omega⟩
  clear gp gP gW l1 l2 s2 pP pW PW
  rintro _ G1 ⟨s', W', pl', ws', rfl, gp, gP, gW, l1, l2⟩

  walk_at "xs"
  refine al_lst fun M G2 nM s2 hM => ?_
  have gp2 := s2 _ _ gp
  have gP2 := s2 _ _ gP
  have gW2 := s2 _ _ gW
  walk_at "xs"
  refine x_normE (σ' := [some (.ref sa), some (.ref p), some (.int n), some (.int s'), some (.ref P), some (.ref W'), u6, u7, some (.ref M), some .non, some .non, none, none, none]) rfl ?_
  refine x_cut (fun σ' H' => ∃ (m : Addr) (u9 u10 : Option V) (bs : List Bool), σ' = [some (.ref sa), some (.ref p), some (.int n), some (.int s'), some (.ref P), some (.ref W'), u6, u7, some (.ref m), u9, u10, none, none, none] ∧ En21 K H' m P W' s' pl' ws' bs u9 u10) ?_ ?_
  · refine x_tryL ?_
    walk_at "xs"
    refine al_list (SqL.of gP2) fun P2 G3 nP2 s3 hP2 => ?_
    walk_at "xs"
    refine al_list (SqL.of (s3 _ _ gW2)) fun W2 G4 nW2 s4 hW2 => ?_
    have gp4 := s4 _ _ (s3 _ _ gp2)
    walk_at "xs"
    have s24 := s3.trans s4
    refine make_any t (SqL.of (s4 _ _ hP2)) (SqL.of hW2) (fun no G5 s5 => ?_) (fun ok e l cr er d G5 no => ?_) (fun ok a row G5 s5 ca er => ?_)
    · have s25 := s24.trans s5
      refine x_hdNoAs (nm.m _ (by simp)) ?_
      refine x_hdAs (xf.m _ (by simp)) fun x nx => ?_
      walk_at "xs"
      refine x_isY (xf.c _ (by simp)) (.inl rfl) (fun u h => h) (xf.k _ (by simp) _ (by simp)) ?_
      walk_at "xs"
      refine x_isY (xf.c _ (by simp)) (.inl rfl) (fun u h => h) (xf.v _ (by simp)) ?_
      walk_at "xs"
      refine al_lst fun m G6 nm6 s6 hm6 => ?_
      walk_at "xs"
      have s26 := s25.trans s6
      exact ⟨m, _, _, [true, false, true, false], rfl, hm6, s26 _ _ gP2, s26 _ _ gW2, .inl ⟨rfl, no⟩⟩
    · have s25 := s24.trans no.s
      obtain ⟨fs, q, hd, f1, f2, f3, hq, nq, qd⟩ := no.ex
      have hdd : (some d : Option Addr) = none ∨ ∃ (dd : Addr) (fs : List (Str × V)), some d = some dd ∧ G5 dd = some (.xd fs) := .inr ⟨d, fs, rfl, hd⟩
      refine x_hdAs (nm.m _ (by simp)) fun x nx => ?_
      walk_at "xs"
      refine x_isY (xf.c _ (by simp)) hdd (fun u h => h) (nm.s _ (by simp)) ?_
      walk_at "xs"
      refine x_isY (xf.c _ (by simp)) hdd (fun u h => h) (xf.k _ (by simp) _ (by simp)) ?_
      walk_at "xs"
      refine al_lst fun m G6 nm6 s6 hm6 => ?_
      walk_at "xs"
      refine x_xfd ?_
      walk_at "xs"
      refine ⟨rfl, rfl, d, fs, _, rfl, s6 _ _ hd, f1, ?_⟩
      walk_at "xs"
      refine x_xfd ?_
      walk_at "xs"
      refine ⟨rfl, rfl, d, fs, _, rfl, s6 _ _ hd, f2, ?_⟩
      walk_at "xs"
      refine x_xfd ?_
      walk_at "xs"
      refine ⟨rfl, rfl, d, fs, _, rfl, s6 _ _ hd, f3, ?_⟩
      walk_at "xs"
      refine al_tup fun T G7 nT s7 hT => ?_
      walk_at "xs"
      have s27 := (s25.trans s6).trans s7
      exact ⟨m, _, _, [false, true, true, false], rfl, s7 _ _ hm6, s27 _ _ gP2, s27 _ _ gW2, .inr (.inl ⟨rfl, ok, T, q, e, l, cr, rfl, hT, s7 _ _ (s6 _ _ hq), er⟩)⟩
    · walk_at "xs"
      walk_at "me"
      walk_at "xs"
      refine ⟨a, _, rfl, ca, fun q G6 nq s6 hq => ?_⟩
      walk_at "xs"
      have s26 := (s24.trans s5).trans s6
      exact ⟨M, _, _, [], rfl, s26 _ _ hM, s26 _ _ gP2, s26 _ _ gW2, .inr (.inr ⟨rfl, ok, q, row, rfl, hq, er⟩)⟩
  clear hM gp2 gP2 gW2 gp gP gW s2 nM
  rintro _ G2 ⟨m, u9, u10, bs, rfl, En⟩
  obtain ⟨hM, gP, gW, en⟩ := En
  walk_at "xs"
  refine ⟨P, W', s', pl', ws', rfl, SqL.of gP, SqL.of gW, by omega, fun g G3 s3 hg => ?_⟩
  have bl : bs.length ≤ 1000 := by rcases en with ⟨rfl, _⟩ | ⟨rfl, _⟩ | ⟨rfl, _⟩ <;> decide
  rcases en with ⟨rfl, no⟩ | en
  · cases g with
    | true => exact absurd (hg.mp rfl) no
    | false =>
      walk_at "xs"
      refine al_lst fun m2 G4 nm2 s4 hm2 => ?_
      walk_at "xs"
      refine eq_bl21 (x := true) (cs := [true, false, true, false]) (by decide) (by decide) (s4 _ _ (s3 _ _ hM)) hm2 (by decide +kernel) ?_
      walk_at "xs"
      exact k _
  have ok : OpenOk s' pl' ws' := by rcases en with ⟨_, ok, _⟩ | ⟨_, ok, _⟩ <;> exact ok
  cases g with
  | false => cases hg.mpr ok
  | true =>
  have n1 := ok.n1
  have n2 := ok.n2
  have nw := ok.nw
  have s1' := ok.s1
  have s2' := ok.s2
  have owl : (openWin s' pl' ws').length = n := by unfold openWin; rw [List.length_zipWith, nw, l1]; omega
  walk_at "xs"
  refine al_lst fun A G4 nA s4 hA => ?_
  walk_at "xs"
  have s24 := s3.trans s4
  refine ⟨P, W', _, _, rfl, s24.seq (SqL.of gP), s24.seq (SqL.of gW), for_by (turnsZ (K := K) (a := P) (b := W') (xs := pl'.map V.int) (ys := ws'.map V.int) (by rw [List.length_map, List.length_map, nw])) (fun i σ H' => ∃ (u1 u2 : Option V), σ = [some (.ref sa), some (.ref p), some (.int n), some (.int s'), some (.ref P), some (.ref W'), u6, u1, some (.ref m), u9, u10, none, some (.ref A), u2] ∧ Same G3 H' ∧ LsAt K [A] H' A (((openWin s' pl' ws').take i).map dPair))
    ⟨_, _, rfl, s4, ⟨[], hA, .nil⟩⟩ (fun i σ H' _ z => by obtain ⟨_, _, _, q, _⟩ := z; exact ⟨(s3.trans q).seq (SqL.of gP), (s3.trans q).seq (SqL.of gW)⟩) ?_ ?_⟩
  · rintro i v σ H2 H3 hi ⟨u1, u2, rfl, q2, ⟨xs, hx2, hd2⟩⟩ ⟨y, z, hy, hz, T, rfl, nT, q3, hT, _⟩
    rw [List.length_map] at hi
    rw [List.getElem?_map, List.getElem?_eq_getElem hi] at hy
    rw [List.getElem?_map, List.getElem?_eq_getElem (by omega)] at hz
    cases hy; cases hz
    have xl : xs.length ≤ 1000 := by rw [dpAll_len hd2, List.length_map, List.length_take]; omega
    have tk : ((openWin s' pl' ws').take (i + 1)).map dPair = ((openWin s' pl' ws').take i).map dPair ++ [dPair (firstCov s' pl'.length pl'[i], ws'[i])] := by
      rw [List.take_succ, openWin_at i hi (by omega), List.map_append]; rfl
    have hx3 := q3 _ _ hx2
    refine x_gtup (SqT.of hT) rfl ?_
    walk_at "xs"
    refine ⟨tyL (SqL.of hx3), ?_⟩
    walk_at "xs"
    refine ⟨s', n, pl'[i], rfl, by omega, s2', ?_⟩
    walk_at "xs"
    refine al_tup fun U H4 nU q4 hU => ?_
    have hx4 := q4 _ _ hx3
    walk_at "xs"
    refine x_append hx4 (small (by omega)) ?_
    have neA : U ≠ A := fun e => by subst e; rw [hx3] at nU; cases nU
    refine ⟨_, _, rfl, same_upd ((q2.trans q3).trans q4) nA, ⟨_, upd_same, ?_⟩⟩
    rw [hide_upd (by simp), tk]
    refine dpAll_snoc (dpAll_same (hide_mono (q3.trans q4)) hd2) (pair_dp (SqT.of ?_))
    rw [hide_out (by simpa using neA), hU, l1]
  rintro _ G5 ⟨u1, u2, rfl, s35, hx5⟩
  rw [List.length_map, l1, ← owl, List.take_length] at hx5
  have dA := hx5.dp
  have s25 := s3.trans s35
  have hM5 := s25 _ _ hM
  walk_at "xs"
  refine al_lst fun m2 G6 nm2 s6 hm2 => ?_
  walk_at "xs"
  rcases en with ⟨rfl, _, T, q, e, l, cr, rfl, hT, hq, er⟩ | ⟨rfl, _, q, row, rfl, hq, er⟩
  · refine eq_bl21 (x := false) (cs := []) (by decide) (by decide) (s6 _ _ hM5) hm2 (by decide +kernel) ?_
    walk_at "xs"
    refine al_lst fun m3 G7 nm3 s7 hm3 => ?_
    walk_at "xs"
    refine ne_bl21 (x := true) (cs := [false, true, true, false]) (by decide) (by decide) (s7 _ _ (s6 _ _ hM5)) hm3 (by decide +kernel) ?_
    walk_at "xs"
    have hT7 := s7 _ _ (s6 _ _ (s25 _ _ hT))
    have hq7 := s7 _ _ (s6 _ _ (s25 _ _ hq))
    have good := paper_good (openWin_ok ok)
    rw [er] at good
    have good : IsBar (openWin s' pl' ws') e l cr := good
    have crl : cr.length ≤ 60 := by
      have h1 := nodup_sub (m := List.range (openWin s' pl' ws').length) (inc_nodup good.inc) fun x hx => List.mem_range.mpr (good.mem x hx).1
      rw [List.length_range] at h1
      omega
    refine x_ixT (SqT.of hT7) (v := .int e) (by rfl) ?_
    walk_at "xs"
    refine ⟨e, rfl, ?_⟩
    walk_at "xs"
    refine x_ixT (SqT.of hT7) (v := .int l) (by rfl) ?_
    walk_at "xs"
    refine ⟨l, rfl, ?_⟩
    walk_at "xs"
    refine x_ixT (SqT.of hT7) (v := .ref q) (by rfl) ?_
    walk_at "xs"
    have hq7' : G7 q = some (.lst ((cr.map fun (i : Nat) => (i : Int)).map V.int)) := by rw [ints_nI]; exact hq7
    refine ⟨q, _, rfl, SqL.of hq7', by rw [List.length_map]; omega, fun G8 s8 => ?_⟩
    walk_at "xs"
    refine x_ixT (SqT.of (s8 _ _ hT7)) (v := .int e) (by rfl) ?_
    walk_at "xs"
    refine x_ixT (SqT.of (s8 _ _ hT7)) (v := .int l) (by rfl) ?_
    walk_at "xs"
    refine x_ixT (SqT.of (s8 _ _ hT7)) (v := .ref q) (by rfl) ?_
    walk_at "xs"
    refine ⟨_, _, e, l, q, _, rfl, dp_same ((s6.trans s7).trans s8) dA, SqL.of (s8 _ _ hq7'), by omega, by rw [List.length_map]; omega, fun b G9 s9 hb => ?_⟩
    rw [hb.mpr ⟨cr, rfl, good⟩]
    walk_at "xs"
    exact k _
  · refine eq_bl21 (x := true) (cs := []) (by decide) (by decide) (s6 _ _ hM5) hm2 (by decide +kernel) ?_
    walk_at "xs"
    have hq6 := s6 _ _ (s25 _ _ hq)
    have good := paper_good (openWin_ok ok)
    rw [er] at good
    have good : IsOrder (openWin s' pl' ws') row := good
    have rl : row.length ≤ 1000 := by have := good.len; omega
    have hq6' : G6 q = some (.lst ((row.map fun (i : Nat) => (i : Int)).map V.int)) := by rw [ints_nI]; exact hq6
    refine ⟨q, _, rfl, SqL.of hq6', by rw [List.length_map]; omega, fun G7 s7 => ?_⟩
    walk_at "xs"
    refine ⟨_, _, q, _, rfl, dp_same (s6.trans s7) dA, SqL.of (s7 _ _ hq6'), by omega, fun b G8 s8 hb => ?_⟩
    rw [hb.mpr ⟨row, rfl, good⟩]
    walk_at "xs"
    exact k _

end Su
namespace Su
open PySem L2
structure Fx (K : PySem.W.Frag) (mg : Str → Option Value) : Prop where
  n_ValueError : mg "ValueError" = none
  n_abs : mg "abs" = none
  n_all : mg "all" = none
  n_bool : mg "bool" = none
  n_enumerate : mg "enumerate" = none
  n_int : mg "int" = none
  n_isinstance : mg "isinstance" = none
  n_len : mg "len" = none
  n_list : mg "list" = none
  n_max : mg "max" = none
  n_min : mg "min" = none
  n_range : mg "range" = none
  n_set : mg "set" = none
  n_sorted : mg "sorted" = none
  n_zip : mg "zip" = none
  c_MOST_COINS : ∃ u, mg "MOST_COINS" = some u ∧ RelV (.int 1000000000) u
  c_MOST_SEATS : ∃ u, mg "MOST_SEATS" = some u ∧ RelV (.int 20) u
  c_MOST_STAKE : ∃ u, mg "MOST_STAKE" = some u ∧ RelV (.int 1000000) u
  g_BadNumber : mg "BadNumber" = some (.ref (He.ga K "BadNumber"))
  k_BadNumber : ∃ u, mg "BadNumber" = some u ∧ RelV (.ref (He.ga K "BadNumber")) u
  g_NoOrder : mg "NoOrder" = some (.ref (He.ga K "NoOrder"))
  k_NoOrder : ∃ u, mg "NoOrder" = some u ∧ RelV (.ref (He.ga K "NoOrder")) u
  g_SusuError : mg "SusuError" = some (.ref (He.ga K "SusuError"))
  k_SusuError : ∃ u, mg "SusuError" = some u ∧ RelV (.ref (He.ga K "SusuError")) u
  x_BadNumber : Xc K mg "BadNumber"
  cl_Circle : Cls K (He.ga K "Circle")
  t_Circle : ClsT K "Circle" ["stake", "size", "bidding", "now", "line", "due", "chest", "state", "when", "pledged", "given", "drawn", "shared", "missed", "flows"]
  nx : NxC K
  gk_Circle : mg "Circle" = some (.ref (He.ga K "Circle"))
  mk_Circle : Mk K (He.ga K "Circle") (He.fAd K ("Circle", some "__init__"))
  F_NoOrder_init : ∃ fd, FunD K "__init__" "NoOrder.__init__" (defArgs s_NoOrder_init) (defBody s_NoOrder_init) (defScope s_NoOrder_init) [] [] (He.fAd K ("NoOrder", some "__init__")) fd
  g_check_opening : mg "check_opening" = some (.ref (He.fAd K ("check_opening", none)))
  F_check_opening : ∃ fd, FunD K "check_opening" "check_opening" (defArgs s_check_opening) (defBody s_check_opening) (defScope s_check_opening) [] [] (He.fAd K ("check_opening", none)) fd
  g_first_covered : mg "first_covered" = some (.ref (He.fAd K ("first_covered", none)))
  F_first_covered : ∃ fd, FunD K "first_covered" "first_covered" (defArgs s_first_covered) (defBody s_first_covered) (defScope s_first_covered) [] [] (He.fAd K ("first_covered", none)) fd
  g_within : mg "within" = some (.ref (He.fAd K ("within", none)))
  F_within : ∃ fd, FunD K "within" "within" (defArgs s_within) (defBody s_within) (defScope s_within) [] [] (He.fAd K ("within", none)) fd
  g_bar_of : mg "bar_of" = some (.ref (He.fAd K ("bar_of", none)))
  F_bar_of : ∃ fd, FunD K "bar_of" "bar_of" (defArgs s_bar_of) (defBody s_bar_of) (defScope s_bar_of) [] [] (He.fAd K ("bar_of", none)) fd
  g_next_window : mg "next_window" = some (.ref (He.fAd K ("next_window", none)))
  F_next_window : ∃ fd, FunD K "next_window" "next_window" (defArgs s_next_window) (defBody s_next_window) (defScope s_next_window) [] [] (He.fAd K ("next_window", none)) fd
  g_order_or_bar : mg "order_or_bar" = some (.ref (He.fAd K ("order_or_bar", none)))
  F_order_or_bar : ∃ fd, FunD K "order_or_bar" "order_or_bar" (defArgs s_order_or_bar) (defBody s_order_or_bar) (defScope s_order_or_bar) [] [] (He.fAd K ("order_or_bar", none)) fd
  F_Circle_init : ∃ fd, FunD K "__init__" "Circle.__init__" (defArgs s_Circle_init) (defBody s_Circle_init) (defScope s_Circle_init) [.bl false] [] (He.fAd K ("Circle", some "__init__")) fd
  m_Circle_queue : Meth K (He.ga K "Circle") "queue" (He.fAd K ("Circle", some "queue"))
  F_Circle_queue : ∃ fd, FunD K "queue" "Circle.queue" (defArgs s_Circle_queue) (defBody s_Circle_queue) (defScope s_Circle_queue) [] [] (He.fAd K ("Circle", some "queue")) fd
  g_law_bars : mg "_law_bars" = some (.ref (He.fAd K ("_law_bars", none)))
  F_law_bars : ∃ fd, FunD K "_law_bars" "_law_bars" (defArgs s_law_bars) (defBody s_law_bars) (defScope s_law_bars) [] [] (He.fAd K ("_law_bars", none)) fd
  g_law_draws : mg "_law_draws" = some (.ref (He.fAd K ("_law_draws", none)))
  F_law_draws : ∃ fd, FunD K "_law_draws" "_law_draws" (defArgs s_law_draws) (defBody s_law_draws) (defScope s_law_draws) [] [] (He.fAd K ("_law_draws", none)) fd
  g_law_early : mg "_law_early" = some (.ref (He.fAd K ("_law_early", none)))
  F_law_early : ∃ fd, FunD K "_law_early" "_law_early" (defArgs s_law_early) (defBody s_law_early) (defScope s_law_early) [] [] (He.fAd K ("_law_early", none)) fd
  g_law_good : mg "_law_good" = some (.ref (He.fAd K ("_law_good", none)))
  F_law_good : ∃ fd, FunD K "_law_good" "_law_good" (defArgs s_law_good) (defBody s_law_good) (defScope s_law_good) [] [] (He.fAd K ("_law_good", none)) fd
  g_law_keeps : mg "_law_keeps" = some (.ref (He.fAd K ("_law_keeps", none)))
  F_law_keeps : ∃ fd, FunD K "_law_keeps" "_law_keeps" (defArgs s_law_keeps) (defBody s_law_keeps) (defScope s_law_keeps) [] [] (He.fAd K ("_law_keeps", none)) fd
  g_law_spoil : mg "_law_spoil" = some (.ref (He.fAd K ("_law_spoil", none)))
  F_law_spoil : ∃ fd, FunD K "_law_spoil" "_law_spoil" (defArgs s_law_spoil) (defBody s_law_spoil) (defScope s_law_spoil) [] [] (He.fAd K ("_law_spoil", none)) fd
  g_law_whole : mg "_law_whole" = some (.ref (He.fAd K ("_law_whole", none)))
  F_law_whole : ∃ fd, FunD K "_law_whole" "_law_whole" (defArgs s_law_whole) (defBody s_law_whole) (defScope s_law_whole) [] [] (He.fAd K ("_law_whole", none)) fd
  g_law_wholes : mg "_law_wholes" = some (.ref (He.fAd K ("_law_wholes", none)))
  F_law_wholes : ∃ fd, FunD K "_law_wholes" "_law_wholes" (defArgs s_law_wholes) (defBody s_law_wholes) (defScope s_law_wholes) [] [] (He.fAd K ("_law_wholes", none)) fd
  g_law : mg "law" = some (.ref (He.fAd K ("law", none)))
  F_law : ∃ fd, FunD K "law" "law" (defArgs s_law) (defBody s_law) (defScope s_law) [] [] (He.fAd K ("law", none)) fd
section
variable {P : Program} {w : World} {K : PySem.W.Frag} {mg : Str → Option Value} {base : Heap}
theorem sc_NoOrder_init : FnScope N_NoOrder_init ["self", "early", "late", "crowd"] (defScope s_NoOrder_init) := ⟨rfl, rfl, rfl, by decide +kernel, rfl, by decide +kernel, by decide +kernel⟩
theorem ok_NoOrder_init (T : Fx K mg) : ClX P w K mg base CX0 1 (sp_NoOrder_init K) := by
  obtain ⟨fd, F⟩ := T.F_NoOrder_init
  have sc := sc_NoOrder_init
  refine ⟨fd, ["self", "early", "late", "crowd"], T.nx, T.g_NoOrder, F.bindsN fun _ _ _ _ _ _ us hl => match us, hl with | [_, _, _, _], _ => rfl, ?_⟩
  refine F.ok sc (len_NoOrder_init) (fun cdv A outer s H vs Q E hr h => ⟨t_NoOrder_init K, PSs.nox ?_, pure_NoOrder_init h⟩)
  exact (pss_cons (ps_ost (pv 0) (pv 1))
 (pss_cons (ps_ost (pv 0) (pv 2))
 (pss_one (ps_ost (pv 0) (pe_callTy call_list_of (by rfl) T.n_list b_list (pa_cons (pv 3) pa_nil))))))
theorem sc_check_opening : FnScope N_check_opening ["stake", "pledges", "wishes"] (defScope s_check_opening) := ⟨rfl, rfl, rfl, by decide +kernel, rfl, by decide +kernel, by decide +kernel⟩
theorem ok_check_opening (T : Fx K mg) : Cl P w K mg base (L2.CX P w) 1 "check_opening" (sp_check_opening K) := by
  obtain ⟨fd, F⟩ := T.F_check_opening
  have sc := sc_check_opening
  refine ⟨_, fd, ["stake", "pledges", "wishes"], T.g_check_opening, F.kp, F.bindsN fun _ _ _ _ _ _ us hl => match us, hl with | [_, _, _], _ => rfl, ?_⟩
  refine F.ok sc (len_check_opening) (fun cdv A outer s H vs Q E hr h => ⟨t_check_opening K E, ?_, pure_check_opening h⟩)
  exact (pss_cons (ps_set (i := 3) sc.nd rfl (Or.inl rfl) (pe_callB call_len_seq (by rfl) T.n_len b_len (pa_cons (pv 1) pa_nil)))
 (pss_cons (ps_if (PW.pt (pw_or (pt_not (pt_chain op_le op_le pe_int (pv 0) (pe_gc (by rfl) T.c_MOST_STAKE))) (pw_or (pt_not (pt_chain op_le op_le pe_int (pv 3) (pe_gc (by rfl) T.c_MOST_SEATS))) (pw_or1 (pt_cmpR op_ne (pe_callB call_len_seq (by rfl) T.n_len b_len (pa_cons (pv 2) pa_nil)) (pv 3) (nomark _))))))
 (pss_one (ps_raise0 rfl (takes_of rfl rfl rfl rfl) T.x_BadNumber (by rfl)))
 pss_nil)
 (pss_cons (ps_for (passes_of rfl) rfl (pi_list (pv 1)) (pg_name (i := 4) sc.nd rfl (Or.inl rfl))
 (pss_one (ps_if (pt_not (pt_chain op_le op_le pe_int (pv 4) (pe_gc (by rfl) T.c_MOST_COINS)))
 (pss_one (ps_raise0 rfl (takes_of rfl rfl rfl rfl) T.x_BadNumber (by rfl)))
 pss_nil)))
 (pss_one (ps_for (passes_of rfl) rfl (pi_list (pv 2)) (pg_name (i := 5) sc.nd rfl (Or.inl rfl))
 (pss_one (ps_if (pt_not (pt_chain op_le op_le pe_int (pv 5) (pv 3)))
 (pss_one (ps_raise0 rfl (takes_of rfl rfl rfl rfl) T.x_BadNumber (by rfl)))
 pss_nil)))))))
theorem sc_first_covered : FnScope N_first_covered ["stake", "seats", "pledge"] (defScope s_first_covered) := ⟨rfl, rfl, rfl, by decide +kernel, rfl, by decide +kernel, by decide +kernel⟩
theorem ok_first_covered (T : Fx K mg) : Cl P w K mg base CX0 1 "first_covered" (sp_first_covered K) := by
  obtain ⟨fd, F⟩ := T.F_first_covered
  have sc := sc_first_covered
  refine ⟨_, fd, ["stake", "seats", "pledge"], T.g_first_covered, F.kp, F.bindsN fun _ _ _ _ _ _ us hl => match us, hl with | [_, _, _], _ => rfl, ?_⟩
  refine F.ok sc (len_first_covered) (fun cdv A outer s H vs Q E hr h => ⟨t_first_covered K, PSs.nox ?_, pure_first_covered h⟩)
  exact (pss_cons (ps_set (i := 3) sc.nd rfl (Or.inl rfl) (pe_op op_sub (pv 1) (pe_op op_fdivW (pv 2) (pv 0))))
 (pss_cons (ps_if (pt_cmpR op_lt (pv 3) pe_int (nomark _))
 (pss_one (ps_ret pe_int))
 pss_nil)
 (pss_one (ps_ret (pv 3)))))
theorem sc_within : FnScope N_within ["windows", "a", "b"] (defScope s_within) := ⟨rfl, rfl, rfl, by decide +kernel, rfl, by decide +kernel, by decide +kernel⟩
theorem ok_within (T : Fx K mg) : Cl P w K mg base CX0 1 "within" (sp_within K) := by
  obtain ⟨fd, F⟩ := T.F_within
  have sc := sc_within
  refine ⟨_, fd, ["windows", "a", "b"], T.g_within, F.kp, F.bindsN fun _ _ _ _ _ _ us hl => match us, hl with | [_, _, _], _ => rfl, ?_⟩
  refine F.ok sc (len_within) (fun cdv A outer s H vs Q E hr h => ⟨t_within K, PSs.nox ?_, pure_within h⟩)
  exact (pss_cons (ps_set (i := 3) sc.nd rfl (Or.inl rfl) (pe_lst pa_nil))
 (pss_cons (ps_for PassesOwn.never rfl (pi_enum (by rfl) T.n_enumerate (pa_cons (pv 0) pa_nil)) (pg_tup rfl (pgs_cons (pg_name (i := 4) sc.nd rfl (Or.inl rfl)) (pgs_cons (pg_tup rfl (pgs_cons (pg_name (i := 5) sc.nd rfl (Or.inl rfl)) (pgs_cons (pg_name (i := 6) sc.nd rfl (Or.inl rfl)) pgs_nil))) pgs_nil)))
 (pss_one (ps_if (PW.pt (pw_and (pt_cmpR op_ge (pv 5) (pv 1) (nomark _)) (pw_and1 (pt_cmpR op_le (pv 6) (pv 2) (nomark _)))))
 (pss_one (ps_expr (pe_bm PySem.F.plainAttrs_list PySem.F.slot_list_append PySem.F.type_list_append mt_append (pv 3) (pa_cons (pv 4) pa_nil))))
 pss_nil)))
 (pss_one (ps_ret (pv 3)))))
theorem sc_bar_of : FnScope N_bar_of ["windows", "row", "late"] (defScope s_bar_of) := ⟨rfl, rfl, rfl, by decide +kernel, rfl, by decide +kernel, by decide +kernel⟩
theorem ok_bar_of (T : Fx K mg) : Cl P w K mg base CX0 2 "bar_of" (sp_bar_of K) := by
  obtain ⟨fd, F⟩ := T.F_bar_of
  have sc := sc_bar_of
  refine ⟨_, fd, ["windows", "row", "late"], T.g_bar_of, F.kp, F.bindsN fun _ _ _ _ _ _ us hl => match us, hl with | [_, _, _], _ => rfl, ?_⟩
  refine F.ok sc (len_bar_of) (fun cdv A outer s H vs Q E hr h => ⟨t_bar_of K, PSs.nox ?_, pure_bar_of h⟩)
  exact (pss_cons (ps_set (i := 3) sc.nd rfl (Or.inl rfl) (pe_op op_add (pv 2) pe_int))
 (pss_cons (ps_while PassesOwn.never (PW.pt (pw_and (pt_cmpR op_gt (pv 3) pe_int (nomark _)) (pw_and1 (pt_cmpR op_le (pe_ix ix_tup (pe_ix ix_list (pv 0) (pe_ix ix_list (pv 1) (pe_op op_sub (pv 3) pe_int) (fun _ _ => rfl)) (fun _ _ => rfl)) pe_int (fun _ _ => rfl)) (pv 2) (nomark _)))))
 (pss_one (ps_aug (i := 3) sc.nd rfl (Or.inl rfl) pe_int ip_sub)))
 (pss_one (ps_ret (pe_tup (pa_cons pe_str (pa_cons (pv 3) (pa_cons (pv 2) (pa_cons (pe_cl (ok_within T) hr (by decide) (by rfl) pass0 (pa_cons (pv 0) (pa_cons (pv 3) (pa_cons (pv 2) pa_nil)))) pa_nil)))))))))
theorem sc_next_window : FnScope N_next_window ["windows", "row", "turn"] (defScope s_next_window) := ⟨rfl, rfl, rfl, by decide +kernel, rfl, by decide +kernel, by decide +kernel⟩
theorem ok_next_window (T : Fx K mg) : Cl P w K mg base CX0 1 "next_window" (sp_next_window K) := by
  obtain ⟨fd, F⟩ := T.F_next_window
  have sc := sc_next_window
  refine ⟨_, fd, ["windows", "row", "turn"], T.g_next_window, F.kp, F.bindsN fun _ _ _ _ _ _ us hl => match us, hl with | [_, _, _], _ => rfl, ?_⟩
  refine F.ok sc (len_next_window) (fun cdv A outer s H vs Q E hr h => ⟨t_next_window K, PSs.nox ?_, pure_next_window h⟩)
  exact (pss_cons (ps_set (i := 3) sc.nd rfl (Or.inl rfl) (pe_un un_neg pe_int))
 (pss_cons (ps_for PassesOwn.never rfl (pi_enum (by rfl) T.n_enumerate (pa_cons (pv 0) pa_nil)) (pg_tup rfl (pgs_cons (pg_name (i := 4) sc.nd rfl (Or.inl rfl)) (pgs_cons (pg_tup rfl (pgs_cons (pg_name (i := 5) sc.nd rfl (Or.inl rfl)) (pgs_cons (pg_name (i := 6) sc.nd rfl (Or.inl rfl)) pgs_nil))) pgs_nil)))
 (pss_one (ps_if (PW.pt (pw_and (pt_cmpR op_le (pv 5) (pv 2) (nomark _)) (pw_and1 (pt_cmpR op_notIn_seq (pv 4) (pv 1) rfl))))
 (pss_one (ps_if (PW.pt (pw_or (pt_cmpR op_eq (pv 3) (pe_un un_neg pe_int) (nomark _)) (pw_or1 (pt_cmpR op_lt (pv 6) (pe_ix ix_tup (pe_ix ix_list (pv 0) (pv 3) (fun _ _ => rfl)) pe_int (fun _ _ => rfl)) (nomark _)))))
 (pss_one (ps_set (i := 3) sc.nd rfl (Or.inl rfl) (pv 4)))
 pss_nil))
 pss_nil)))
 (pss_one (ps_ret (pv 3)))))
theorem sc_order_or_bar : FnScope N_order_or_bar ["windows"] (defScope s_order_or_bar) := ⟨rfl, rfl, rfl, by decide +kernel, rfl, by decide +kernel, by decide +kernel⟩
theorem ok_order_or_bar (T : Fx K mg) : Cl P w K mg base CX0 3 "order_or_bar" (sp_order_or_bar K) := by
  obtain ⟨fd, F⟩ := T.F_order_or_bar
  have sc := sc_order_or_bar
  refine ⟨_, fd, ["windows"], T.g_order_or_bar, F.kp, F.bindsN fun _ _ _ _ _ _ us hl => match us, hl with | [_], _ => rfl, ?_⟩
  refine F.ok sc (len_order_or_bar) (fun cdv A outer s H vs Q E hr h => ⟨t_order_or_bar K, PSs.nox ?_, pure_order_or_bar h⟩)
  exact (pss_cons (ps_set (i := 1) sc.nd rfl (Or.inl rfl) (pe_lst pa_nil))
 (pss_cons (ps_set (i := 2) sc.nd rfl (Or.inl rfl) (pe_callB call_len_seq (by rfl) T.n_len b_len (pa_cons (pv 0) pa_nil)))
 (pss_cons (ps_for PassesOwn.never rfl (pi_range2 (by rfl) T.n_range (pa_cons pe_int (pa_cons (pe_op op_add (pv 2) pe_int) pa_nil))) (pg_name (i := 3) sc.nd rfl (Or.inl rfl))
 (pss_cons (ps_set (i := 4) sc.nd rfl (Or.inl rfl) (pe_cl (ok_next_window T) hr (by decide) (by rfl) pass0 (pa_cons (pv 0) (pa_cons (pv 1) (pa_cons (pv 3) pa_nil)))))
 (pss_cons (ps_if (pt_cmpR op_eq (pv 4) (pe_un un_neg pe_int) (nomark _))
 (pss_one (ps_ret (pe_tup (pa_cons pe_str (pa_cons (pe_op op_add (pv 3) pe_int) (pa_cons (pv 2) (pa_cons (pe_cl (ok_within T) hr (by decide) (by rfl) pass0 (pa_cons (pv 0) (pa_cons (pe_op op_add (pv 3) pe_int) (pa_cons (pv 2) pa_nil)))) pa_nil)))))))
 pss_nil)
 (pss_cons (ps_if (pt_cmpR op_lt (pe_ix ix_tup (pe_ix ix_list (pv 0) (pv 4) (fun _ _ => rfl)) pe_int (fun _ _ => rfl)) (pv 3) (nomark _))
 (pss_one (ps_ret (pe_cl (ok_bar_of T) hr (by decide) (by rfl) pass0 (pa_cons (pv 0) (pa_cons (pv 1) (pa_cons (pe_ix ix_tup (pe_ix ix_list (pv 0) (pv 4) (fun _ _ => rfl)) pe_int (fun _ _ => rfl)) pa_nil))))))
 pss_nil)
 (pss_one (ps_expr (pe_bm PySem.F.plainAttrs_list PySem.F.slot_list_append PySem.F.type_list_append mt_append (pv 1) (pa_cons (pv 4) pa_nil))))))))
 (pss_one (ps_ret (pe_tup (pa_cons pe_str (pa_cons (pv 1) pa_nil))))))))
theorem sc_Circle_init : FnScope N_Circle_init ["self", "stake", "pledges", "wishes", "bidding"] (defScope s_Circle_init) := ⟨rfl, rfl, rfl, by decide +kernel, rfl, by decide +kernel, by decide +kernel⟩
theorem ok_Circle_init (T : Fx K mg) : ClK P w K mg base (L2.CX P w) 4 "Circle" (He.ga K "Circle") (sp_Circle_init K) [] := by
  obtain ⟨fd, F⟩ := T.F_Circle_init
  have sc := sc_Circle_init
  obtain ⟨ds, hd, hb⟩ := FunD.binds1 (ps := ["self", "stake", "pledges", "wishes", "bidding"]) F 5 1 (by intro z; cases z) rfl fun _ _ _ _ _ _ _ us its hl h2 => match us, hl, its, h2 with | [_, _, _, _, _], _, [_], _ => ⟨_, rfl, rfl⟩
  refine ⟨_, fd, ["self", "stake", "pledges", "wishes", "bidding"], ds, T.mk_Circle, T.gk_Circle, hb, hd, ?_⟩
  refine F.ok sc (len_Circle_init) (fun cdv A outer s H vs Q E hr h => ⟨t_Circle_init K E, ?_, pure_Circle_init h⟩)
  exact (pss_cons (ps_expr (pe_cl (ok_check_opening T) hr (by decide) (by rfl) (pass_tk (takes_of rfl rfl rfl rfl)) (pa_cons (pv 1) (pa_cons (pv 2) (pa_cons (pv 3) pa_nil)))))
 (pss_cons (ps_set (i := 5) sc.nd rfl (Or.inr rfl) (pe_callB call_len_seq (by rfl) T.n_len b_len (pa_cons (pv 2) pa_nil)))
 (pss_cons (ps_setLc (i := 6) (own := [("coins", 8), ("wish", 9)]) (g := (gTup K 2 (gCons (gName 8) (gCons (gName 9) gNil)))) (tt := tYes) (by rfl) sc.nd rfl rfl (sw_true rfl rfl rfl (by decide +kernel)) (pi_zip (by rfl) T.n_zip (pa_cons (pv 2) (pa_cons (pv 3) pa_nil))) (blkOk_by (own := [("coins", 8), ("wish", 9)]) (N := N_Circle_init) (sc := defScope s_Circle_init) (by decide +kernel)) (fun _ _ _ _ _ => (pg_tup rfl (pgs_cons (pg_name (i := 8) sc.nd rfl (Or.inl rfl)) (pgs_cons (pg_name (i := 9) sc.nd rfl (Or.inl rfl)) pgs_nil)))) (fun _ _ _ _ _ => pts_nil) (fun _ _ _ _ _ => (pe_tup (pa_cons (pe_cl (ok_first_covered T) hr (by decide) (by rfl) pass0 (pa_cons (pv 1) (pa_cons (pv 5) (pa_cons (pv 8) pa_nil)))) (pa_cons (pv 9) pa_nil)))))
 (pss_cons (ps_set (i := 7) sc.nd rfl (Or.inl rfl) (pe_cl (ok_order_or_bar T) hr (by decide) (by rfl) pass0 (pa_cons (pv 6) pa_nil)))
 (pss_cons (ps_if (pt_cmpR op_eq (pe_ix ix_tup (pv 7) pe_int (fun _ _ => rfl)) pe_str (nomark _))
 (pss_one (ps_raiseN rfl (takes_of rfl rfl rfl rfl) (ok_NoOrder_init T) hr (by decide) (by rfl) pass0 (pa_cons (pe_ix ix_tup (pv 7) pe_int (fun _ _ => rfl)) (pa_cons (pe_ix ix_tup (pv 7) pe_int (fun _ _ => rfl)) (pa_cons (pe_ix ix_tup (pv 7) pe_int (fun _ _ => rfl)) pa_nil)))))
 pss_nil)
 (pss_cons (ps_fld (pv 0) (pv 1) rfl)
 (pss_cons (ps_fld (pv 0) (pv 5) rfl)
 (pss_cons (ps_fld (pv 0) (pv 4) rfl)
 (pss_cons (ps_fld (pv 0) pe_int rfl)
 (pss_cons (ps_fld (pv 0) (pe_callTy call_list_of (by rfl) T.n_list b_list (pa_cons (pe_ix ix_tup (pv 7) pe_int (fun _ _ => rfl)) pa_nil)) rfl)
 (pss_cons (ps_fld (pv 0) pe_int rfl)
 (pss_cons (ps_fld (pv 0) pe_int rfl)
 (pss_cons (ps_fld (pv 0) (pe_op op_rep (pe_lst (pa_cons pe_str pa_nil)) (pv 5)) rfl)
 (pss_cons (ps_fld (pv 0) (pe_op op_rep (pe_lst (pa_cons pe_int pa_nil)) (pv 5)) rfl)
 (pss_cons (ps_fld (pv 0) (pe_callTy call_list_of (by rfl) T.n_list b_list (pa_cons (pv 2) pa_nil)) rfl)
 (pss_cons (ps_fld (pv 0) (pe_op op_rep (pe_lst (pa_cons pe_int pa_nil)) (pv 5)) rfl)
 (pss_cons (ps_fld (pv 0) (pe_op op_rep (pe_lst (pa_cons pe_int pa_nil)) (pv 5)) rfl)
 (pss_cons (ps_fld (pv 0) (pe_op op_rep (pe_lst (pa_cons pe_int pa_nil)) (pv 5)) rfl)
 (pss_cons (ps_fld (pv 0) (pe_op op_rep (pe_lst (pa_cons pe_int pa_nil)) (pv 5)) rfl)
 (pss_one (ps_fld (pv 0) (pe_lc (own := [("at", 10)]) (g := (gName 10)) (tt := tYes) (by rfl) sc.nd (pi_range1 (by rfl) T.n_range (pa_cons (pv 5) pa_nil)) (blkOk_by (own := [("at", 10)]) (N := N_Circle_init) (sc := defScope s_Circle_init) (by decide +kernel)) (fun _ _ _ _ _ => (pg_name (i := 10) sc.nd rfl (Or.inl rfl))) (fun _ _ _ _ _ => pts_nil) (fun _ _ _ _ _ => (pe_lst pa_nil))) rfl)))))))))))))))))))))
theorem sc_Circle_queue : FnScope N_Circle_queue ["self"] (defScope s_Circle_queue) := ⟨rfl, rfl, rfl, by decide +kernel, rfl, by decide +kernel, by decide +kernel⟩
theorem ok_Circle_queue (T : Fx K mg) : ClM P w K mg base CX0 1 (He.ga K "Circle") "queue" (sp_Circle_queue K) := by
  obtain ⟨fd, F⟩ := T.F_Circle_queue
  have sc := sc_Circle_queue
  refine ⟨T.cl_Circle, _, fd, ["self"], T.m_Circle_queue, F.bindsN fun _ _ _ _ _ _ us hl => match us, hl with | [_], _ => rfl, ?_⟩
  refine F.ok sc (len_Circle_queue) (fun cdv A outer s H vs Q E hr h => ⟨t_Circle_queue K, PSs.nox ?_, pure_Circle_queue h⟩)
  exact (pss_one (ps_ret (pe_callTy call_list_of (by rfl) T.n_list b_list (pa_cons (pe_fld (pv 0) rfl) pa_nil))))
theorem sc_law_bars : FnScope N_law_bars ["_law_windows", "_law_a", "_law_b", "_law_crowd"] (defScope s_law_bars) := ⟨rfl, rfl, rfl, by decide +kernel, rfl, by decide +kernel, by decide +kernel⟩
theorem ok_law_bars (T : Fx K mg) : Cl P w K mg base CX0 1 "_law_bars" (sp_law_bars K) := by
  obtain ⟨fd, F⟩ := T.F_law_bars
  have sc := sc_law_bars
  refine ⟨_, fd, ["_law_windows", "_law_a", "_law_b", "_law_crowd"], T.g_law_bars, F.kp, F.bindsN fun _ _ _ _ _ _ us hl => match us, hl with | [_, _, _, _], _ => rfl, ?_⟩
  refine F.ok sc (len_law_bars) (fun cdv A outer s H vs Q E hr h => ⟨t_law_bars K w, PSs.nox ?_, pure_law_bars h⟩)
  exact (pss_cons (ps_if (PW.pt (pw_or (pt_not (pt_chain op_le op_le pe_int (pv 1) (pe_callB call_len_seq (by rfl) T.n_len b_len (pa_cons (pv 0) pa_nil)))) (pw_or1 (pt_not (pt_chain op_le op_le pe_int (pv 2) (pe_callB call_len_seq (by rfl) T.n_len b_len (pa_cons (pv 0) pa_nil)))))))
 (pss_one (ps_ret pe_bl))
 pss_nil)
 (pss_cons (ps_if (PW.pt (pw_or (pt_cmpR (op_neD hr.units) (pv 3) (pe_callB (cr_sortedSet rfl) (by rfl) T.n_sorted b_sorted (pa_cons (pe_callTy (cr_setOfI rfl) (by rfl) T.n_set b_set (pa_cons (pv 3) pa_nil)) pa_nil)) (nomark _)) (pw_or1 (pt_cmpR op_le (pe_callB call_len_seq (by rfl) T.n_len b_len (pa_cons (pv 3) pa_nil)) (pe_callB (call_max2 rfl) (by rfl) T.n_max b_max (pa_cons pe_int (pa_cons (pe_op op_add (pe_op op_sub (pv 2) (pv 1)) pe_int) pa_nil))) (nomark _)))))
 (pss_one (ps_ret pe_bl))
 pss_nil)
 (pss_cons (ps_for PassesOwn.never rfl (pi_list (pv 3)) (pg_name (i := 4) sc.nd rfl (Or.inl rfl))
 (pss_cons (ps_if (pt_not (pt_chain op_le op_lt pe_int (pv 4) (pe_callB call_len_seq (by rfl) T.n_len b_len (pa_cons (pv 0) pa_nil))))
 (pss_one (ps_ret pe_bl))
 pss_nil)
 (pss_one (ps_if (PW.pt (pw_or (pt_cmpR op_lt (pe_ix ix_tup (pe_ix ix_list (pv 0) (pv 4) (fun _ _ => rfl)) pe_int (fun _ _ => rfl)) (pv 1) (nomark _)) (pw_or1 (pt_cmpR op_gt (pe_ix ix_tup (pe_ix ix_list (pv 0) (pv 4) (fun _ _ => rfl)) pe_int (fun _ _ => rfl)) (pv 2) (nomark _)))))
 (pss_one (ps_ret pe_bl))
 pss_nil))))
 (pss_one (ps_ret pe_bl)))))
theorem sc_law_draws : FnScope N_law_draws ["_law_script", "_law_many"] (defScope s_law_draws) := ⟨rfl, rfl, rfl, by decide +kernel, rfl, by decide +kernel, by decide +kernel⟩
theorem ok_law_draws (T : Fx K mg) : Cl P w K mg base CX0 1 "_law_draws" (sp_law_draws K) := by
  obtain ⟨fd, F⟩ := T.F_law_draws
  have sc := sc_law_draws
  refine ⟨_, fd, ["_law_script", "_law_many"], T.g_law_draws, F.kp, F.bindsN fun _ _ _ _ _ _ us hl => match us, hl with | [_, _], _ => rfl, ?_⟩
  refine F.ok sc (len_law_draws) (fun cdv A outer s H vs Q E hr h => ⟨t_law_draws K, PSs.nox ?_, pure_law_draws h⟩)
  exact (pss_cons (ps_set (i := 2) sc.nd rfl (Or.inl rfl) (pe_lst pa_nil))
 (pss_cons (ps_set (i := 3) sc.nd rfl (Or.inl rfl) pe_int)
 (pss_cons (ps_for PassesOwn.never rfl (pi_list (pv 0)) (pg_name (i := 4) sc.nd rfl (Or.inl rfl))
 (pss_cons (ps_set (i := 3) sc.nd rfl (Or.inl rfl) (pe_op op_mod (pe_op op_add (pe_op op_mul (pv 3) pe_int) (pv 4)) pe_int))
 (pss_cons (ps_set (i := 5) sc.nd rfl (Or.inl rfl) (pe_callB call_abs (by rfl) T.n_abs b_abs (pa_cons (pv 4) pa_nil)))
 (C8.pss_cut (ps_if (pt_cmpR op_lt (pv 5) (pe_op op_pow pe_int pe_int) (nomark _))
 (pss_cons (ps_expr (pe_bm PySem.F.plainAttrs_list PySem.F.slot_list_append PySem.F.type_list_append mt_append (pv 2) (pa_cons (pv 4) pa_nil)))
 (pss_one (ps_set (i := 5) sc.nd rfl (Or.inl rfl) pe_int)))
 pss_nil)
 (pss_one (ps_while PassesOwn.never (PW.pt (pw_and (pt_cmpR op_gt (pv 5) pe_int (nomark _)) (pw_and1 (pt_cmpR op_lt (pe_callB call_len_seq (by rfl) T.n_len b_len (pa_cons (pv 2) pa_nil)) (pv 1) (nomark _)))))
 (pss_cons (ps_expr (pe_bm PySem.F.plainAttrs_list PySem.F.slot_list_append PySem.F.type_list_append mt_append (pv 2) (pa_cons (pe_op op_mod (pv 5) pe_int) pa_nil)))
 (pss_one (ps_set (i := 5) sc.nd rfl (Or.inl rfl) (pe_op op_fdiv (pv 5) pe_int))))))))))
 (pss_cons (ps_while PassesOwn.never (pt_cmpR op_lt (pe_callB call_len_seq (by rfl) T.n_len b_len (pa_cons (pv 2) pa_nil)) (pv 1) (nomark _))
 (pss_cons (ps_set (i := 3) sc.nd rfl (Or.inl rfl) (pe_op op_mod (pe_op op_add (pe_op op_mul (pv 3) pe_int) pe_int) pe_int))
 (pss_one (ps_expr (pe_bm PySem.F.plainAttrs_list PySem.F.slot_list_append PySem.F.type_list_append mt_append (pv 2) (pa_cons (pe_op op_mod (pe_op op_mul (pv 3) (pv 3)) pe_int) pa_nil))))))
 (pss_one (ps_ret (pv 2)))))))
theorem sc_law_early : FnScope N_law_early ["_law_stake", "_law_size", "_law_pledge"] (defScope s_law_early) := ⟨rfl, rfl, rfl, by decide +kernel, rfl, by decide +kernel, by decide +kernel⟩
theorem ok_law_early (T : Fx K mg) : Cl P w K mg base CX0 1 "_law_early" (sp_law_early K) := by
  obtain ⟨fd, F⟩ := T.F_law_early
  have sc := sc_law_early
  refine ⟨_, fd, ["_law_stake", "_law_size", "_law_pledge"], T.g_law_early, F.kp, F.bindsN fun _ _ _ _ _ _ us hl => match us, hl with | [_, _, _], _ => rfl, ?_⟩
  refine F.ok sc (len_law_early) (fun cdv A outer s H vs Q E hr h => ⟨t_law_early K, PSs.nox ?_, pure_law_early h⟩)
  exact (pss_one (ps_ret (pe_callB (call_max2 rfl) (by rfl) T.n_max b_max (pa_cons pe_int (pa_cons (pe_op op_sub (pv 1) (pe_op op_fdivW (pv 2) (pv 0))) pa_nil)))))
theorem sc_law_good : FnScope N_law_good ["_law_stake", "_law_pledges", "_law_wishes"] (defScope s_law_good) := ⟨rfl, rfl, rfl, by decide +kernel, rfl, by decide +kernel, by decide +kernel⟩
theorem ok_law_good (T : Fx K mg) : Cl P w K mg base CX0 1 "_law_good" (sp_law_good K) := by
  obtain ⟨fd, F⟩ := T.F_law_good
  have sc := sc_law_good
  refine ⟨_, fd, ["_law_stake", "_law_pledges", "_law_wishes"], T.g_law_good, F.kp, F.bindsN fun _ _ _ _ _ _ us hl => match us, hl with | [_, _, _], _ => rfl, ?_⟩
  refine F.ok sc (len_law_good) (fun cdv A outer s H vs Q E hr h => ⟨t_law_good K, PSs.nox ?_, pure_law_good h⟩)
  exact (pss_cons (ps_set (i := 3) sc.nd rfl (Or.inl rfl) (pe_callB call_len_seq (by rfl) T.n_len b_len (pa_cons (pv 1) pa_nil)))
 (pss_cons (ps_if (PW.pt (pw_or (pt_not (pt_chain op_le op_le pe_int (pv 0) pe_int)) (pw_or (pt_not (pt_chain op_le op_le pe_int (pv 3) pe_int)) (pw_or1 (pt_cmpR op_ne (pe_callB call_len_seq (by rfl) T.n_len b_len (pa_cons (pv 2) pa_nil)) (pv 3) (nomark _))))))
 (pss_one (ps_ret pe_bl))
 pss_nil)
 (pss_cons (ps_for PassesOwn.never rfl (pi_zip (by rfl) T.n_zip (pa_cons (pv 1) (pa_cons (pv 2) pa_nil))) (pg_tup rfl (pgs_cons (pg_name (i := 4) sc.nd rfl (Or.inl rfl)) (pgs_cons (pg_name (i := 5) sc.nd rfl (Or.inl rfl)) pgs_nil)))
 (pss_one (ps_if (PW.pt (pw_or (pt_not (pt_chain op_le op_le pe_int (pv 4) pe_int)) (pw_or1 (pt_not (pt_chain op_le op_le pe_int (pv 5) (pv 3))))))
 (pss_one (ps_ret pe_bl))
 pss_nil)))
 (pss_one (ps_ret pe_bl)))))
theorem sc_law_keeps : FnScope N_law_keeps ["_law_windows", "_law_row"] (defScope s_law_keeps) := ⟨rfl, rfl, rfl, by decide +kernel, rfl, by decide +kernel, by decide +kernel⟩
theorem ok_law_keeps (T : Fx K mg) : Cl P w K mg base CX0 1 "_law_keeps" (sp_law_keeps K) := by
  obtain ⟨fd, F⟩ := T.F_law_keeps
  have sc := sc_law_keeps
  refine ⟨_, fd, ["_law_windows", "_law_row"], T.g_law_keeps, F.kp, F.bindsN fun _ _ _ _ _ _ us hl => match us, hl with | [_, _], _ => rfl, ?_⟩
  refine F.ok sc (len_law_keeps) (fun cdv A outer s H vs Q E hr h => ⟨t_law_keeps K, PSs.nox ?_, pure_law_keeps h⟩)
  exact (pss_cons (ps_if (PW.pt (pw_or (pt_cmpR op_ne (pe_callB call_len_seq (by rfl) T.n_len b_len (pa_cons (pv 1) pa_nil)) (pe_callB call_len_seq (by rfl) T.n_len b_len (pa_cons (pv 0) pa_nil)) (nomark _)) (pw_or1 (pt_cmpR (op_neD hr.units) (pe_callB cr_sortedI (by rfl) T.n_sorted b_sorted (pa_cons (pv 1) pa_nil)) (pe_listRg rfl (by rfl) T.n_list (prg_1 (by rfl) T.n_range (pe_callB call_len_seq (by rfl) T.n_len b_len (pa_cons (pv 0) pa_nil)))) (nomark _)))))
 (pss_one (ps_ret pe_bl))
 pss_nil)
 (pss_cons (ps_for PassesOwn.never rfl (pi_enum (by rfl) T.n_enumerate (pa_cons (pv 1) pa_nil)) (pg_tup rfl (pgs_cons (pg_name (i := 2) sc.nd rfl (Or.inl rfl)) (pgs_cons (pg_name (i := 3) sc.nd rfl (Or.inl rfl)) pgs_nil)))
 (pss_one (ps_if (pt_not (pt_chain op_le op_le (pe_ix ix_tup (pe_ix ix_list (pv 0) (pv 3) (fun _ _ => rfl)) pe_int (fun _ _ => rfl)) (pe_op op_add (pv 2) pe_int) (pe_ix ix_tup (pe_ix ix_list (pv 0) (pv 3) (fun _ _ => rfl)) pe_int (fun _ _ => rfl))))
 (pss_one (ps_ret pe_bl))
 pss_nil)))
 (pss_one (ps_ret pe_bl))))
theorem sc_law_spoil : FnScope N_law_spoil ["_law_some", "_law_stake", "_law_pledges", "_law_wishes"] (defScope s_law_spoil) := ⟨rfl, rfl, rfl, by decide +kernel, rfl, by decide +kernel, by decide +kernel⟩
theorem ok_law_spoil (T : Fx K mg) : Cl P w K mg base CX0 1 "_law_spoil" (sp_law_spoil K) := by
  obtain ⟨fd, F⟩ := T.F_law_spoil
  have sc := sc_law_spoil
  refine ⟨_, fd, ["_law_some", "_law_stake", "_law_pledges", "_law_wishes"], T.g_law_spoil, F.kp, F.bindsN fun _ _ _ _ _ _ us hl => match us, hl with | [_, _, _, _], _ => rfl, ?_⟩
  refine F.ok sc (len_law_spoil) (fun cdv A outer s H vs Q E hr h => ⟨t_law_spoil K, PSs.nox ?_, pure_law_spoil h⟩)
  exact (pss_cons (ps_set (i := 4) sc.nd rfl (Or.inl rfl) (pe_callB call_len_seq (by rfl) T.n_len b_len (pa_cons (pv 2) pa_nil)))
 (pss_cons (ps_set (i := 5) sc.nd rfl (Or.inl rfl) (pe_op op_mod (pe_ix ix_list (pv 0) pe_int (fun _ _ => rfl)) pe_int))
 (pss_cons (ps_set (i := 6) sc.nd rfl (Or.inl rfl) (pe_ix ix_list (pe_lst (pa_cons pe_int (pa_cons (pe_un un_neg pe_int) (pa_cons pe_int (pa_cons (pe_op op_pow pe_int pe_int) pa_nil))))) (pe_op op_mod (pe_ix ix_list (pv 0) pe_int (fun _ _ => rfl)) pe_int) (fun _ _ => rfl)))
 (pss_cons (ps_if (pt_cmpR op_eq (pv 5) pe_int (nomark _))
 (pss_one (ps_ret (pe_tup (pa_cons (pv 6) (pa_cons (pv 2) (pa_cons (pv 3) pa_nil))))))
 pss_nil)
 (C8.pss_cut (ps_if (PW.pt (pw_and (pt_cmpR op_eq (pv 5) pe_int (nomark _)) (pw_and1 (pt_cmpR op_gt (pv 4) pe_int (nomark _)))))
 (pss_one (ps_asg (pe_ix ix_list (pe_lst (pa_cons (pe_un un_neg pe_int) (pa_cons pe_int (pa_cons pe_int (pa_cons (pe_un un_neg pe_int) pa_nil))))) (pe_op op_mod (pe_ix ix_list (pv 0) pe_int (fun _ _ => rfl)) pe_int) (fun _ _ => rfl)) (pg_sub (pv 2) (pe_op op_mod (pe_ix ix_list (pv 0) pe_int (fun _ _ => rfl)) (pv 4)) set_list)))
 pss_nil)
 (C8.pss_cut (ps_if (PW.pt (pw_and (pt_cmpR op_eq (pv 5) pe_int (nomark _)) (pw_and1 (pt_cmpR op_gt (pv 4) pe_int (nomark _)))))
 (pss_one (ps_asg (pe_ix ix_list (pe_lst (pa_cons pe_int (pa_cons (pe_op op_add (pv 4) pe_int) (pa_cons (pe_un un_neg pe_int) (pa_cons (pe_op op_add (pv 4) pe_int) pa_nil))))) (pe_op op_mod (pe_ix ix_list (pv 0) pe_int (fun _ _ => rfl)) pe_int) (fun _ _ => rfl)) (pg_sub (pv 3) (pe_op op_mod (pe_ix ix_list (pv 0) pe_int (fun _ _ => rfl)) (pv 4)) set_list)))
 pss_nil)
 (C8.pss_cut (ps_if (pt_cmpR op_eq (pv 5) pe_int (nomark _))
 (pss_one (ps_expr (pe_bm PySem.F.plainAttrs_list PySem.F.slot_list_append PySem.F.type_list_append mt_append (pv 3) (pa_cons pe_int pa_nil))))
 pss_nil)
 (C8.pss_cut (ps_if (PW.pt (pw_and (pt_cmpR op_eq (pv 5) pe_int (nomark _)) (pw_and1 (pt_cmpR op_gt (pv 4) pe_int (nomark _)))))
 (pss_one (ps_set (i := 3) sc.nd rfl (Or.inl rfl) (pe_slice sl_list (pv 3) (po_some pe_int) po_none)))
 pss_nil)
 (pss_one (ps_ret (pe_tup (pa_cons (pv 1) (pa_cons (pv 2) (pa_cons (pv 3) pa_nil))))))))))))))
theorem sc_law_whole : FnScope N_law_whole ["_law_told"] (defScope s_law_whole) := ⟨rfl, rfl, rfl, by decide +kernel, rfl, by decide +kernel, by decide +kernel⟩
theorem ok_law_whole (T : Fx K mg) : Cl P w K mg base CX0 1 "_law_whole" (sp_law_whole K) := by
  obtain ⟨fd, F⟩ := T.F_law_whole
  have sc := sc_law_whole
  refine ⟨_, fd, ["_law_told"], T.g_law_whole, F.kp, F.bindsN fun _ _ _ _ _ _ us hl => match us, hl with | [_], _ => rfl, ?_⟩
  refine F.ok sc (len_law_whole) (fun cdv A outer s H vs Q E hr h => ⟨t_law_whole K, PSs.nox ?_, pure_law_whole h⟩)
  exact (pss_one (ps_ret (pe_and (pe_callB call_isi (by rfl) T.n_isinstance b_isinstance (pa_cons (pv 0) (pa_cons (pe_bltn (v := .ty "int") (by rfl) T.n_int b_int rfl) pa_nil))) (pe_one (pe_not (pe_callB call_isi (by rfl) T.n_isinstance b_isinstance (pa_cons (pv 0) (pa_cons (pe_bltn (v := .ty "bool") (by rfl) T.n_bool b_bool rfl) pa_nil))))))))
theorem sc_law_wholes : FnScope N_law_wholes ["_law_told"] (defScope s_law_wholes) := ⟨rfl, rfl, rfl, by decide +kernel, rfl, by decide +kernel, by decide +kernel⟩
theorem ok_law_wholes (T : Fx K mg) : Cl P w K mg base CX0 1 "_law_wholes" (sp_law_wholes K) := by
  obtain ⟨fd, F⟩ := T.F_law_wholes
  have sc := sc_law_wholes
  refine ⟨_, fd, ["_law_told"], T.g_law_wholes, F.kp, F.bindsN fun _ _ _ _ _ _ us hl => match us, hl with | [_], _ => rfl, ?_⟩
  refine F.ok sc (len_law_wholes) (fun cdv A outer s H vs Q E hr h => ⟨t_law_wholes K, PSs.nox ?_, pure_law_wholes h⟩)
  exact (pss_cons (ps_if (pt_not (pt_val (pe_callB call_isi (by rfl) T.n_isinstance b_isinstance (pa_cons (pv 0) (pa_cons (pe_bltn (v := .ty "list") (by rfl) T.n_list b_list rfl) pa_nil)))))
 (pss_one (ps_ret pe_bl))
 pss_nil)
 (pss_one (ps_ret (pe_callB (cr_all rfl) (by rfl) T.n_all b_all (pa_cons (pe_lc (own := [("_law_one", 1)]) (g := (gName 1)) (tt := tYes) (by rfl) sc.nd (pi_list (pv 0)) (blkOk_by (own := [("_law_one", 1)]) (N := N_law_wholes) (sc := defScope s_law_wholes) (by decide +kernel)) (fun _ _ _ _ _ => (pg_name (i := 1) sc.nd rfl (Or.inl rfl))) (fun _ _ _ _ _ => pts_nil) (fun _ _ _ _ _ => (pe_and (pe_callB call_isi (by rfl) T.n_isinstance b_isinstance (pa_cons (pv 1) (pa_cons (pe_bltn (v := .ty "int") (by rfl) T.n_int b_int rfl) pa_nil))) (pe_one (pe_not (pe_callB call_isi (by rfl) T.n_isinstance b_isinstance (pa_cons (pv 1) (pa_cons (pe_bltn (v := .ty "bool") (by rfl) T.n_bool b_bool rfl) pa_nil)))))))) pa_nil)))))
theorem sc_law : FnScope N_law ["_law_script"] (defScope s_law) := ⟨rfl, rfl, rfl, by decide +kernel, rfl, by decide +kernel, by decide +kernel⟩
theorem ok_law_at {fd : FuncData} (T : Fx K mg) (F : FunD K "law" "law" (defArgs s_law) (defBody s_law) (defScope s_law) [] [] (He.fAd K ("law", none)) fd) : FnOk P w K mg base CX0 6 (He.fAd K ("law", none)) fd ["_law_script"] (sp_law K) := by
  have sc := sc_law
  refine F.ok sc (len_law) (fun cdv A outer s H vs Q E hr h => ⟨t_law K, PSs.nox ?_, pure_law h⟩)
  exact (pss_cons (ps_set (i := 1) sc.nd rfl (Or.inl rfl) (pe_cl (ok_law_draws T) hr (by decide) (by rfl) pass0 (pa_cons (pv 0) (pa_cons pe_int pa_nil))))
 (pss_cons (ps_set (i := 2) sc.nd rfl (Or.inl rfl) (pe_op op_mod (pe_ix ix_list (pv 1) pe_int (fun _ _ => rfl)) pe_int))
 (pss_cons (ps_set (i := 3) sc.nd rfl (Or.inl rfl) (pe_op op_add pe_int (pe_op op_mod (pe_ix ix_list (pv 1) pe_int (fun _ _ => rfl)) (pe_ix ix_list (pe_lst (pa_cons pe_int (pa_cons pe_int pa_nil))) (pe_op op_mod (pe_ix ix_list (pv 1) pe_int (fun _ _ => rfl)) pe_int) (fun _ _ => rfl)))))
 (pss_cons (ps_set (i := 4) sc.nd rfl (Or.inl rfl) (pe_lst pa_nil))
 (pss_cons (ps_set (i := 5) sc.nd rfl (Or.inl rfl) (pe_lst pa_nil))
 (pss_cons (ps_for PassesOwn.never rfl (pi_range1 (by rfl) T.n_range (pa_cons (pv 2) pa_nil)) (pg_name (i := 6) sc.nd rfl (Or.inl rfl))
 (pss_cons (ps_expr (pe_bm PySem.F.plainAttrs_list PySem.F.slot_list_append PySem.F.type_list_append mt_append (pv 4) (pa_cons (pe_op op_mod (pe_ix ix_list (pv 1) (pe_op op_add pe_int (pv 6)) (fun _ _ => rfl)) (pe_op op_add (pe_op op_mul (pv 3) (pv 2)) pe_int)) pa_nil)))
 (pss_cons (ps_set (i := 7) sc.nd rfl (Or.inl rfl) (pe_op op_add pe_int (pe_op op_mod (pe_ix ix_list (pv 1) (pe_op op_add pe_int (pv 6)) (fun _ _ => rfl)) (pv 2))))
 (C8.pss_cut (ps_if (pt_cmpR op_eq (pe_op op_mod (pe_ix ix_list (pv 1) pe_int (fun _ _ => rfl)) pe_int) pe_int (nomark _))
 (pss_one (ps_set (i := 7) sc.nd rfl (Or.inl rfl) (pv 2)))
 pss_nil)
 (C8.pss_cut (ps_if (pt_cmpR op_eq (pe_op op_mod (pe_ix ix_list (pv 1) pe_int (fun _ _ => rfl)) pe_int) pe_int (nomark _))
 (pss_one (ps_set (i := 7) sc.nd rfl (Or.inl rfl) (pe_callB (call_max2 rfl) (by rfl) T.n_max b_max (pa_cons (pv 7) (pa_cons (pe_op op_sub (pv 2) pe_int) pa_nil)))))
 pss_nil)
 (C8.pss_cut (ps_if (pt_cmpR op_gt (pe_op op_mod (pe_ix ix_list (pv 1) pe_int (fun _ _ => rfl)) pe_int) pe_int (nomark _))
 (pss_one (ps_asg (pe_callB (call_min2 rfl) (by rfl) T.n_min b_min (pa_cons pe_int (pa_cons (pe_op op_sub (pe_op op_mul (pv 3) (pv 2)) (pe_op op_fdiv (pe_ix ix_list (pv 4) (pv 6) (fun _ _ => rfl)) pe_int)) pa_nil))) (pg_sub (pv 4) (pv 6) set_list)))
 pss_nil)
 (pss_one (ps_expr (pe_bm PySem.F.plainAttrs_list PySem.F.slot_list_append PySem.F.type_list_append mt_append (pv 5) (pa_cons (pv 7) pa_nil))))))))))
 (C8.pss_cut (ps_if (pt_cmpR op_eq (pe_op op_mod (pe_ix ix_list (pv 1) pe_int (fun _ _ => rfl)) pe_int) pe_int (nomark _))
 (pss_one (ps_asg (pe_cl (ok_law_spoil T) hr (by decide) (by rfl) pass0 (pa_cons (pe_slice sl_list (pv 1) (po_some pe_int) po_none) (pa_cons (pv 3) (pa_cons (pv 4) (pa_cons (pv 5) pa_nil))))) (pg_tup rfl (pgs_cons (pg_name (i := 3) sc.nd rfl (Or.inl rfl)) (pgs_cons (pg_name (i := 4) sc.nd rfl (Or.inl rfl)) (pgs_cons (pg_name (i := 5) sc.nd rfl (Or.inl rfl)) pgs_nil))))))
 pss_nil)
 (pss_cons (ps_set (i := 8) sc.nd rfl (Or.inl rfl) (pe_lst pa_nil))
 (pss_cons (ps_set (i := 9) sc.nd rfl (Or.inl rfl) pe_non)
 (pss_cons (ps_set (i := 10) sc.nd rfl (Or.inl rfl) pe_non)
 (C8.pss_cut (ps_tryL (tb := fun W => (tAsg (tMeth (He.ga K "Circle") "queue" (sp_Circle_queue K) [] E0 (tMakeW (He.ga K "Circle") (sp_Circle_init K) [] (WE W) (tCons (tVar 3) (tCons (tCB (rListOf K) (tCons (tVar 4) tNil)) (tCons (tCB (rListOf K) (tCons (tVar 5) tNil)) (tCons (tOp rEq (tOp rMod (tOp (rIxL K) (tVar 1) (tC (.int 9))) (tC (.int 2))) (tC (.int 1))) tNil))))) tNil) (gName 10))) (Wout := (fun _ _ _ _ => False)) rfl rfl sc.nd takes0
 (fun W pn xe tk po => (pss_one (ps_set (i := 10) sc.nd rfl (Or.inl rfl) (pe_cm0 (ok_Circle_queue T) hr (by decide) pass0 (pe_ckW (ok_Circle_init T) hr (by decide) (by rfl) (fun σ => passAt tk σ) (pa_cons (pv 3) (pa_cons (pe_callTy call_list_of (by rfl) T.n_list b_list (pa_cons (pv 4) pa_nil)) (pa_cons (pe_callTy call_list_of (by rfl) T.n_list b_list (pa_cons (pv 5) pa_nil)) (pa_cons (pe_cmpR op_eq (pe_op op_mod (pe_ix ix_list (pv 1) pe_int (fun _ _ => rfl)) pe_int) pe_int (nomark _)) pa_nil)))))))))
 (HdL.cons (HdOk.named (i := 11) (ts := fun a cls d => (tSeq (tAsg (tLst (tCons (tC (.bl false)) (tCons (tC (.bl true)) (tCons (tCB (rIsY K a cls d) (tCons (tVar 11) (tCons (tC (.ref (He.ga K "SusuError"))) tNil))) (tCons (tCB (rIsY K a cls d) (tCons (tVar 11) (tCons (tC (.ref (He.ga K "BadNumber"))) tNil))) tNil))))) (gName 8))
 (tAsg (tTup (tCons (tXf a cls d (He.ga K "NoOrder") "early" (tVar 11)) (tCons (tXf a cls d (He.ga K "NoOrder") "late" (tVar 11)) (tCons (tXf a cls d (He.ga K "NoOrder") "crowd" (tVar 11)) tNil)))) (gName 9)))) rfl rfl ⟨rfl, by decide, Or.inl T.g_NoOrder⟩ (fun a oe cls d pn hz hf => (pss_cons (ps_set (i := 8) sc.nd rfl (Or.inl rfl) (pe_lst (pa_cons pe_bl (pa_cons pe_bl (pa_cons (pe_callB (call_isY hz hf) (by rfl) T.n_isinstance b_isinstance (pa_cons (pv 11) (pa_cons (pe_gc (by rfl) T.k_SusuError) pa_nil))) (pa_cons (pe_callB (call_isY hz hf) (by rfl) T.n_isinstance b_isinstance (pa_cons (pv 11) (pa_cons (pe_gc (by rfl) T.k_BadNumber) pa_nil))) pa_nil))))))
 (pss_one (ps_set (i := 9) sc.nd rfl (Or.inl rfl) (pe_tup (pa_cons (pe_xf T.nx.fx T.nx.f1 hz hf (pv 11)) (pa_cons (pe_xf T.nx.fx T.nx.f2 hz hf (pv 11)) (pa_cons (pe_xf T.nx.fx T.nx.f3 hz hf (pv 11)) pa_nil)))))))))
 (HdL.cons (HdOk.named (i := 11) (ts := fun a cls d => (tAsg (tLst (tCons (tCB (rIsY K a cls d) (tCons (tVar 11) (tCons (tC (.ref (He.ga K "BadNumber"))) tNil))) (tCons (tC (.bl false)) (tCons (tCB (rIsY K a cls d) (tCons (tVar 11) (tCons (tC (.ty "ValueError")) tNil))) (tCons (tC (.bl false)) tNil))))) (gName 8))) rfl rfl ⟨rfl, by decide, Or.inl T.g_SusuError⟩ (fun a oe cls d pn hz hf => (pss_one (ps_set (i := 8) sc.nd rfl (Or.inl rfl) (pe_lst (pa_cons (pe_callB (call_isY hz hf) (by rfl) T.n_isinstance b_isinstance (pa_cons (pv 11) (pa_cons (pe_gc (by rfl) T.k_BadNumber) pa_nil))) (pa_cons pe_bl (pa_cons (pe_callB (call_isY hz hf) (by rfl) T.n_isinstance b_isinstance (pa_cons (pv 11) (pa_cons (pe_bltn (v := .ty "ValueError") (by rfl) T.n_ValueError b_ValueError rfl) pa_nil))) (pa_cons pe_bl pa_nil)))))))))
 HdL.nil)))
 (pss_cons (ps_if (pt_not (pt_val (pe_cl (ok_law_good T) hr (by decide) (by rfl) pass0 (pa_cons (pv 3) (pa_cons (pv 4) (pa_cons (pv 5) pa_nil))))))
 (pss_one (ps_ret (pe_cmpR (op_eqD hr.units) (pv 8) (pe_lst (pa_cons pe_bl (pa_cons pe_bl (pa_cons pe_bl (pa_cons pe_bl pa_nil))))) (nomark _))))
 pss_nil)
 (pss_cons (ps_set (i := 12) sc.nd rfl (Or.inl rfl) (pe_lst pa_nil))
 (pss_cons (ps_for PassesOwn.never rfl (pi_zip (by rfl) T.n_zip (pa_cons (pv 4) (pa_cons (pv 5) pa_nil))) (pg_tup rfl (pgs_cons (pg_name (i := 13) sc.nd rfl (Or.inl rfl)) (pgs_cons (pg_name (i := 7) sc.nd rfl (Or.inl rfl)) pgs_nil)))
 (pss_one (ps_expr (pe_bm PySem.F.plainAttrs_list PySem.F.slot_list_append PySem.F.type_list_append mt_append (pv 12) (pa_cons (pe_tup (pa_cons (pe_cl (ok_law_early T) hr (by decide) (by rfl) pass0 (pa_cons (pv 3) (pa_cons (pv 2) (pa_cons (pv 13) pa_nil)))) (pa_cons (pv 7) pa_nil))) pa_nil)))))
 (pss_cons (ps_if (pt_cmpR (op_eqD hr.units) (pv 8) (pe_lst pa_nil) (nomark _))
 (pss_one (ps_ret (pe_and (pe_cl (ok_law_wholes T) hr (by decide) (by rfl) pass0 (pa_cons (pv 10) pa_nil)) (pe_one (pe_cl (ok_law_keeps T) hr (by decide) (by rfl) pass0 (pa_cons (pv 12) (pa_cons (pv 10) pa_nil)))))))
 pss_nil)
 (pss_cons (ps_if (PW.pt (pw_or (pt_cmpR (op_neD hr.units) (pv 8) (pe_lst (pa_cons pe_bl (pa_cons pe_bl (pa_cons pe_bl (pa_cons pe_bl pa_nil))))) (nomark _)) (pw_or (pt_not (pt_val (pe_cl (ok_law_whole T) hr (by decide) (by rfl) pass0 (pa_cons (pe_ix ix_tup (pv 9) pe_int (fun _ _ => rfl)) pa_nil)))) (pw_or1 (pt_not (pt_val (pe_cl (ok_law_whole T) hr (by decide) (by rfl) pass0 (pa_cons (pe_ix ix_tup (pv 9) pe_int (fun _ _ => rfl)) pa_nil))))))))
 (pss_one (ps_ret pe_bl))
 pss_nil)
 (pss_one (ps_ret (pe_and (pe_cl (ok_law_wholes T) hr (by decide) (by rfl) pass0 (pa_cons (pe_ix ix_tup (pv 9) pe_int (fun _ _ => rfl)) pa_nil)) (pe_one (pe_cl (ok_law_bars T) hr (by decide) (by rfl) pass0 (pa_cons (pv 12) (pa_cons (pe_ix ix_tup (pv 9) pe_int (fun _ _ => rfl)) (pa_cons (pe_ix ix_tup (pv 9) pe_int (fun _ _ => rfl)) (pa_cons (pe_ix ix_tup (pv 9) pe_int (fun _ _ => rfl)) pa_nil)))))))))))))))))))))))))

end
theorem facts {K : PySem.W.Frag} {h : Heap} {mg : Str → Option Value} (X : K.In h) (G : h.Ns mainGlobals mg) (c : He.SaysD fas fns K) (nx : NxC K) : Fx K mg where
  nx := nx
  n_ValueError := He.free_ok X G (c.fact 15 rfl)
  n_abs := He.free_ok X G (c.fact 16 rfl)
  n_all := He.free_ok X G (c.fact 17 rfl)
  n_bool := He.free_ok X G (c.fact 18 rfl)
  n_enumerate := He.free_ok X G (c.fact 19 rfl)
  n_int := He.free_ok X G (c.fact 20 rfl)
  n_isinstance := He.free_ok X G (c.fact 21 rfl)
  n_len := He.free_ok X G (c.fact 22 rfl)
  n_list := He.free_ok X G (c.fact 23 rfl)
  n_max := He.free_ok X G (c.fact 24 rfl)
  n_min := He.free_ok X G (c.fact 25 rfl)
  n_range := He.free_ok X G (c.fact 26 rfl)
  n_set := He.free_ok X G (c.fact 27 rfl)
  n_sorted := He.free_ok X G (c.fact 28 rfl)
  n_zip := He.free_ok X G (c.fact 29 rfl)
  c_MOST_COINS := (He.int_ok X G (c.fact 49 rfl)).elim fun t e => ⟨_, e, ⟨t, rfl⟩⟩
  c_MOST_SEATS := (He.int_ok X G (c.fact 50 rfl)).elim fun t e => ⟨_, e, ⟨t, rfl⟩⟩
  c_MOST_STAKE := (He.int_ok X G (c.fact 51 rfl)).elim fun t e => ⟨_, e, ⟨t, rfl⟩⟩
  g_BadNumber := He.glo_ok X G (c.fact 52 rfl)
  k_BadNumber := ⟨_, He.glo_ok X G (c.fact 52 rfl), rfl⟩
  g_NoOrder := He.glo_ok X G (c.fact 53 rfl)
  k_NoOrder := ⟨_, He.glo_ok X G (c.fact 53 rfl), rfl⟩
  g_SusuError := He.glo_ok X G (c.fact 54 rfl)
  k_SusuError := ⟨_, He.glo_ok X G (c.fact 54 rfl), rfl⟩
  x_BadNumber := let z := He.exc_ok (c.fact 55 rfl); ⟨z.1, He.glo_ok X G (c.fact 52 rfl), z.2.1, z.2.2.1, z.2.2.2⟩
  cl_Circle := He.cls_ok (c.fact 30 rfl)
  t_Circle := ⟨He.cls_ok (c.fact 30 rfl), ⟨He.noat_ok (c.fact 31 rfl), He.noat_ok (c.fact 32 rfl), He.noat_ok (c.fact 33 rfl), He.noat_ok (c.fact 34 rfl), He.noat_ok (c.fact 35 rfl), He.noat_ok (c.fact 36 rfl), He.noat_ok (c.fact 37 rfl), He.noat_ok (c.fact 38 rfl), He.noat_ok (c.fact 39 rfl), He.noat_ok (c.fact 40 rfl), He.noat_ok (c.fact 41 rfl), He.noat_ok (c.fact 42 rfl), He.noat_ok (c.fact 43 rfl), He.noat_ok (c.fact 44 rfl), He.noat_ok (c.fact 45 rfl), trivial⟩⟩
  gk_Circle := He.glo_ok X G (c.fact 47 rfl)
  mk_Circle := He.mkr_ok (c.fact 46 rfl)
  F_NoOrder_init := c.def_ 0 (d := dd_NoOrder_init) rfl
  g_check_opening := He.glo_ok X G (c.fact 0 rfl)
  F_check_opening := c.def_ 1 (d := dd_check_opening) rfl
  g_first_covered := He.glo_ok X G (c.fact 1 rfl)
  F_first_covered := c.def_ 2 (d := dd_first_covered) rfl
  g_within := He.glo_ok X G (c.fact 2 rfl)
  F_within := c.def_ 3 (d := dd_within) rfl
  g_bar_of := He.glo_ok X G (c.fact 3 rfl)
  F_bar_of := c.def_ 4 (d := dd_bar_of) rfl
  g_next_window := He.glo_ok X G (c.fact 4 rfl)
  F_next_window := c.def_ 5 (d := dd_next_window) rfl
  g_order_or_bar := He.glo_ok X G (c.fact 5 rfl)
  F_order_or_bar := c.def_ 6 (d := dd_order_or_bar) rfl
  F_Circle_init := c.def_ 7 (d := dd_Circle_init) rfl
  m_Circle_queue := He.meth_ok (c.fact 48 rfl)
  F_Circle_queue := c.def_ 8 (d := dd_Circle_queue) rfl
  g_law_bars := He.glo_ok X G (c.fact 6 rfl)
  F_law_bars := c.def_ 9 (d := dd_law_bars) rfl
  g_law_draws := He.glo_ok X G (c.fact 7 rfl)
  F_law_draws := c.def_ 10 (d := dd_law_draws) rfl
  g_law_early := He.glo_ok X G (c.fact 8 rfl)
  F_law_early := c.def_ 11 (d := dd_law_early) rfl
  g_law_good := He.glo_ok X G (c.fact 9 rfl)
  F_law_good := c.def_ 12 (d := dd_law_good) rfl
  g_law_keeps := He.glo_ok X G (c.fact 10 rfl)
  F_law_keeps := c.def_ 13 (d := dd_law_keeps) rfl
  g_law_spoil := He.glo_ok X G (c.fact 11 rfl)
  F_law_spoil := c.def_ 14 (d := dd_law_spoil) rfl
  g_law_whole := He.glo_ok X G (c.fact 12 rfl)
  F_law_whole := c.def_ 15 (d := dd_law_whole) rfl
  g_law_wholes := He.glo_ok X G (c.fact 13 rfl)
  F_law_wholes := c.def_ 16 (d := dd_law_wholes) rfl
  g_law := He.glo_ok X G (c.fact 14 rfl)
  F_law := c.def_ 17 (d := dd_law) rfl
theorem fin {P : Program} {w : World} {K : PySem.W.Frag} {h : Heap} {mg : Str → Option Value} {fa : Addr} (X : K.In h) (G : h.Ns mainGlobals mg) (hmg : mg ("law" : Str) = some (.ref fa)) (c : He.SaysD fas fns K) (xf : Xf K ["BadNumber", "NoOrder"]) (nx : NxC K) (nm : NmX K ["BadNumber", "NoOrder"]) :
    ∃ (K : PySem.W.Frag) (fd : FuncData) (sp : Sp), K.In h ∧ (∀ (s : Shared) (u : Value), BindsTo s fd ⟨[u], []⟩ [("_law_script", u)]) ∧
        (∀ (H : Hp) (a : Addr) (ns : List Int), ns.length ≤ 63 → Only H → SqL K H a (ns.map V.int) → sp [.ref a] H (fun v _ => v = .bl true) fun _ _ _ => False) ∧
        ∀ base : Heap, K.In base → base.Ns mainGlobals mg → FnOk P w K mg base CX0 6 fa fd ["_law_script"] sp := by
  have T := facts X G c nx
  obtain ⟨fd, F⟩ := T.F_law
  have e := hmg.symm.trans T.g_law
  cases e
  have b := FunD.bindsA (ps := ["_law_script"]) F fun _ _ _ _ _ _ us hl => match us, hl with | [_], _ => rfl
  refine ⟨K, fd, sp_law K, X, fun s v => b s [v] rfl, fun H a ns hl _ hS => ⟨a, ns, rfl, hS, hl, xf, nm, T.t_Circle, fun _ => rfl⟩, fun base _ _ => ?_⟩
  exact ok_law_at T F
end Su
open PySem PySem.W PySem.Calls PyProof.Rows
theorem PySem.Challenge.cw_susu_k21_openings_refused_holds : PySem.Challenge.rw_susu_k21_openings_refused.Holds := by
  w_on; o_law
  refine HandSHeadRun.head_any (r := OpenLaw.row PySem.Challenge.rw_susu_k21_openings_refused) (q := view (OpenLaw.row PySem.Challenge.rw_susu_k21_openings_refused).prog [28]) (H := Su.hk) (ob := Su.ob) (M := 4000) (loose := Su.loose) (d := HandSHeadRun.topDef (OpenLaw.row PySem.Challenge.rw_susu_k21_openings_refused).prog 28) (kwd := []) Su.ob_eq
    Su.hd_e Su.hd_f Su.run Su.hd_def Su.hd_p Su.hd_k (by rfl) (by first | assumption | decide +kernel) Su.hd_ok ⟨rfl, rfl, rfl, rfl, rfl, by decide +kernel⟩ ?hw ?hc
  case hw => w_witness2
  case hc =>
    refine L2.walk_ofE (l := PySem.Challenge.rw_susu_k21_openings_refused) (n := 63) (k := 6) (x := "_law_script") (CX := L2.CX0) rfl (by decide) (by kernel_rfl) ⟨rfl, by decide, by decide⟩ ?F (fun _ _ _ _ z => z)
    intro w mg fa h Y G hmg0
    obtain ⟨K, KX, c⟩ := Y
    have hmg : mg ("law" : PySem.Str) = some (.ref fa) := by
      have e : (HandSHeadRun.topDef (OpenLaw.row PySem.Challenge.rw_susu_k21_openings_refused).prog 28).name = ("law" : PySem.Str) := by kernel_rfl
      rw [← e]
      exact hmg0
    exact Su.fin KX G hmg c.t.d (Su.xf_of (Bool.and_eq_true_iff.mp (Bool.and_eq_true_iff.mp c.more).1).1) (Su.nx_of (Bool.and_eq_true_iff.mp (Bool.and_eq_true_iff.mp c.more).1).2) (Su.nm_of (Bool.and_eq_true_iff.mp c.more).2)
