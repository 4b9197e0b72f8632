import PyProof.Rows.All
import Wide.All
import OpenK.AllK
import Wide.FinOn
import KE.KStateDown
import Lean
import HandS.ForMost
import HandS.Exc
import HandS.TryOnly
import HandS.ExcOwn
import HandS.WordsExc
import HandS.ExcIs
import HandS.More
import HandS.Defaults
import HandS.IsInst
import HandS.Flow
import HandS.Steps
import HandS.Wide
import HandS.Deep
import HandS.Codes
import HandS.Zip
import HandS.Strs
import HandS.Conv
import HandS.SetFor
import HandS.SortInts
import HandS.Head0
import HandS.Head1
import HandS.Head2
import HandS.HeadEnd
import HandS.HeadHook1
import HandS.HeadHook2
import HandS.HeadHook3
import HandS.HeadHook4
import PySem.Challenge.RW_susu_k12_orders_refused
set_option Elab.async false
set_option linter.all false
set_option maxRecDepth 100000
set_option maxHeartbeats 4000000
namespace Su
open PySem L2

abbrev rAdd : R2 := rI0 fun i j => .int (i + j)
abbrev rSub : R2 := rI0 fun i j => .int (i - j)
abbrev rMul : R2 := rI CMul fun i j => .int (i * j)
abbrev rDiv : R2 := rI CDiv fun i j => .int (i / j)
abbrev rMod : R2 := rI (fun _ j => 0 < j) fun i j => .int (i % j)
abbrev rPow : R2 := rI CPow fun i j => .int (i ^ j.toNat)
abbrev rShl : R2 := rI CPow fun i j => .int (i * 2 ^ j.toNat)
abbrev rShr : R2 := rI (fun _ j => 0 ≤ j) fun i j => .int (i / 2 ^ j.toNat)
abbrev rLt : R2 := rI0 fun i j => .bl (decide (i < j))
abbrev rLe : R2 := rI0 fun i j => .bl (decide (i ≤ j))
abbrev rNeg : V → Hp → VK → Prop := rU fun i => .int (-i)
abbrev CR : Type := List V → Hp → VK → Prop
abbrev rLenSeq (K : PySem.W.Frag) : CR := fun xs H Q => ∃ p ys, xs = [.ref p] ∧ (SqL K H p ys ∨ SqT K H p ys) ∧ Q (.int ys.length) H
abbrev rAbs : CR := fun xs H Q => ∃ i, xs = [.int i] ∧ Q (.int (if i < 0 then -i else i)) H
abbrev rMax2 : CR := fun xs H Q => ∃ i j, xs = [.int i, .int j] ∧ Q (.int (if j > i then j else i)) H
abbrev rMin2 : CR := fun xs H Q => ∃ i j, xs = [.int i, .int j] ∧ Q (.int (if j < i then j else i)) H
abbrev rInt1 : CR := fun xs H Q => (∃ i, xs = [.int i] ∧ Q (.int i) H) ∨ ∃ k, xs = [.bl k] ∧ Q (.int (if k then 1 else 0)) H
abbrev rListOf (K : PySem.W.Frag) : CR := fun xs H Q => ∃ p ys, xs = [.ref p] ∧ (SqL K H p ys ∨ SqT K H p ys) ∧ ∀ l, H l = none → Q (.ref l) (upd H l (.lst ys))
abbrev MR : Type := V → List V → Hp → VK → Prop
abbrev rAppend : MR := fun x vs H Q => ∃ (l : Addr) (xs : List V) (y : V), x = .ref l ∧ vs = [y] ∧ H l = some (.lst xs) ∧ xs.length < sizeLine ∧ Q .non (upd H l (.lst (xs ++ [y])))
theorem b_len : bootBuiltins "len" = some (.builtin "len") := by decide +kernel
theorem b_abs : bootBuiltins "abs" = some (.builtin "abs") := by decide +kernel
theorem b_sorted : bootBuiltins "sorted" = some (.builtin "sorted") := by decide +kernel
theorem b_isinstance : bootBuiltins "isinstance" = some (.builtin "isinstance") := by decide +kernel
theorem b_ValueError : bootBuiltins "ValueError" = some (.type "ValueError") := by decide +kernel
theorem b_int : bootBuiltins "int" = some (.type "int") := by decide +kernel
theorem b_bool : bootBuiltins "bool" = some (.type "bool") := by decide +kernel
theorem b_list : bootBuiltins "list" = some (.type "list") := by decide +kernel
/-- a def of the module that may be called by its name -/
structure Cl (P : Program) (w : World) (K : PySem.W.Frag) (mg : Str → Option Value) (base : Heap) (CX : CXT) (k : Nat) (x : Str) (sp : Sp) : Prop where
  ex : ∃ (f : Addr) (fd : FuncData) (ps : List Str), mg x = some (.ref f) ∧ PySem.W.keepIn K (.ref f) = true ∧ Binds K fd ps [] ∧ FnOk P w K mg base CX k f fd ps sp
section
variable {X : Cx} {CX : CXT} {k j : Nat} {x : Str} {sp : Sp} {E : XK} {e : Expr} {es : List Expr} {t : TA} {p pos : Pos}
theorem pe_cl (c : Cl X.prog X.w X.K X.mg X.base CX k x sp) (hr : Room j X.A) (hk : k ≤ j) (hg : Gl X x) (hx : Passes CX X E) (ha : PA X (e :: es) t)
    (hdb : (x == ("__debug__" : Str)) = false := by decide) (he : starEach (e :: es) X.env = (false, eval e X.env) :: starEach es X.env := by rfl) (hpl : (backTo pos (starEach es X.env)).any (·.1) = false := by rfl) : PE X (.Call (.Name x p) (e :: es) [] pos) (tCall sp [] E t) := by
  obtain ⟨f, fd, ps, h1, h2, h3, h4⟩ := c.ex
  exact pe_call h4 (hr.mono hk) hg h1 h2 h3 .nil hx ha hdb he hpl
theorem pe_gc {v : V} (hg : Gl X x) (h : ∃ u, X.mg x = some u ∧ RelV v u) (hd : (x == ("__debug__" : Str)) = false := by decide) : PE X (.Name x pos) (tC v) := by
  obtain ⟨u, h1, h2⟩ := h
  exact pe_glob hg h1 h2 hd
end

/-! ### the readings, step by step -/
section
variable {K : PySem.W.Frag} {t1 t2 : TS} {te ta tb tc : TE} {tt tu : TT} {a1 a2 : TA} {D : Ends} {σ : St} {H : Hp} {Q : VK} {Qb : Bool → Hp → Prop} {Qa : List V → Hp → Prop} {g : TG} {v w x y : V} {n i : Nat}
theorem x_seq (h : t1 { D with nx := t2 D } σ H) : tSeq t1 t2 D σ H := h
theorem x_next (h : D.nx σ H) : tNext D σ H := h
theorem x_ret (h : te σ H D.rt) : tRet te D σ H := h
theorem x_drop (h : te σ H fun _ H1 => D.nx σ H1) : tDrop te D σ H := h
theorem x_asg (h : te σ H fun x H1 => g x σ H1 D.nx) : tAsg te g D σ H := h
theorem x_gname {Qs : St → Hp → Prop} (h : Qs (σ.set i (some v)) H) : gName i v σ H Qs := h
theorem x_ifS (h : tt σ H fun b H1 => if b = true then t1 D σ H1 else t2 D σ H1) : tIfS tt t1 t2 D σ H := h
theorem x_var (e : σ[i]? = some (some v)) (h : Q v H) : tVar i σ H Q := ⟨v, e, h⟩
theorem x_c (h : Q v H) : tC v σ H Q := h
theorem x_op {r : R2} (h : ta σ H fun x H1 => tb σ H1 fun y H2 => r x y H2 Q) : tOp r ta tb σ H Q := h
theorem x_un {r : V → Hp → VK → Prop} (h : ta σ H fun x H1 => r x H1 Q) : tUn r ta σ H Q := h
theorem x_rU {g : Int → V} {i : Int} (h : Q (g i) H) : rU g (.int i) H Q := ⟨i, rfl, h⟩
theorem x_rI0 {g : Int → Int → V} {i j : Int} (h : Q (g i j) H) : rI0 g (.int i) (.int j) H Q := ⟨i, j, rfl, rfl, h⟩
theorem x_rI {C : Int → Int → Prop} {g : Int → Int → V} {i j : Int} (c : C i j) (h : Q (g i j) H) : rI C g (.int i) (.int j) H Q := ⟨i, j, rfl, rfl, c, h⟩
theorem x_eqI {i j : Int} (h : Q (.bl (decide (i = j))) H) : rEq (.int i) (.int j) H Q := ⟨rfl, by
  have e : decide (V.int i = V.int j) = decide (i = j) := by simp
  rw [e]; exact h⟩
theorem x_neI {i j : Int} (h : Q (.bl (!decide (i = j))) H) : rNe (.int i) (.int j) H Q := ⟨rfl, by
  have e : decide (V.int i = V.int j) = decide (i = j) := by simp
  rw [e]; exact h⟩
theorem x_eqS {i j : Str} (h : Q (.bl (decide (i = j))) H) : rEq (.str i) (.str j) H Q := ⟨rfl, by
  have e : decide (V.str i = V.str j) = decide (i = j) := by simp
  rw [e]; exact h⟩
theorem x_neS {i j : Str} (h : Q (.bl (!decide (i = j))) H) : rNe (.str i) (.str j) H Q := ⟨rfl, by
  have e : decide (V.str i = V.str j) = decide (i = j) := by simp
  rw [e]; exact h⟩
theorem x_eqB {i j : Bool} (h : Q (.bl (decide (i = j))) H) : rEq (.bl i) (.bl j) H Q := ⟨rfl, by
  have e : decide (V.bl i = V.bl j) = decide (i = j) := by simp
  rw [e]; exact h⟩
theorem x_neB {i j : Bool} (h : Q (.bl (!decide (i = j))) H) : rNe (.bl i) (.bl j) H Q := ⟨rfl, by
  have e : decide (V.bl i = V.bl j) = decide (i = j) := by simp
  rw [e]; exact h⟩
theorem x_test (h : te σ H fun x H' => ∃ k, x = .bl k ∧ Qb k H') : tTest te σ H Qb := h
theorem x_tB (h : te σ H fun x H' => ∃ k, x = .bl k ∧ Qb k H') : tB te σ H Qb := h
theorem x_isB {k : Bool} (h : Qb k H) : ∃ k', V.bl k = .bl k' ∧ Qb k' H := ⟨k, rfl, h⟩
theorem x_isB' {k : Bool} {P : Bool → Prop} (h : P k) : ∃ k', V.bl k = .bl k' ∧ P k' := ⟨k, rfl, h⟩
theorem x_not (h : tt σ H fun c H1 => Qb (!c) H1) : tNot tt σ H Qb := h
theorem x_and (h : tt σ H fun c H1 => if c = true then tu σ H1 Qb else Qb false H1) : tAnd tt tu σ H Qb := h
theorem x_or (h : tt σ H fun c H1 => if c = true then Qb true H1 else tu σ H1 Qb) : tOr tt tu σ H Qb := h
theorem x_andV (h : ta σ H fun x H1 => ∃ c, x = .bl c ∧ if c = true then tb σ H1 Q else Q (.bl false) H1) : tAndV ta tb σ H Q := h
theorem x_orV (h : ta σ H fun x H1 => ∃ c, x = .bl c ∧ if c = true then Q (.bl true) H1 else tb σ H1 Q) : tOrV ta tb σ H Q := h
theorem x_notV (h : ta σ H fun x H1 => ∃ c, x = .bl c ∧ Q (.bl (!c)) H1) : tNotV ta σ H Q := h
theorem x_chain {r r' : R2} (h : ta σ H fun x H1 => tb σ H1 fun y H2 => r x y H2 fun z H3 => ∃ k, z = .bl k ∧ (if k = true then tc σ H3 fun w' H4 => r' y w' H4 Q else Q (.bl false) H3)) : tChain r r' ta tb tc σ H Q := h
theorem x_nil (h : Qa [] H) : tNil σ H Qa := h
theorem x_cons (h : ta σ H fun x H1 => a1 σ H1 fun xs H2 => Qa (x :: xs) H2) : tCons ta a1 σ H Qa := h
theorem x_cb {r : CR} (h : a1 σ H fun vs H1 => r vs H1 Q) : tCB r a1 σ H Q := h
theorem x_call {sp : Sp} {E : XK} (h : a1 σ H fun vs H1 => sp (vs ++ []) H1 Q E) : tCall sp [] E a1 σ H Q := h
def AlL (Q : VK) (xs : List V) (H : Hp) : Prop := xs.length ≤ sizeLine ∧ ∀ p, H p = none → Q (.ref p) (upd H p (.lst xs))
def AlT (Q : VK) (xs : List V) (H : Hp) : Prop := xs.length ≤ sizeLine ∧ ∀ p, H p = none → Q (.ref p) (upd H p (.tup xs))
theorem x_lst (h : a1 σ H (AlL Q)) : tLst a1 σ H Q := h
theorem x_tup (h : a1 σ H (AlT Q)) : tTup a1 σ H Q := h
theorem x_abs {i : Int} (h : Q (.int (if i < 0 then -i else i)) H) : rAbs [.int i] H Q := ⟨i, rfl, h⟩
theorem x_max2 {i j : Int} (h : Q (.int (if j > i then j else i)) H) : rMax2 [.int i, .int j] H Q := ⟨i, j, rfl, h⟩
theorem x_min2 {i j : Int} (h : Q (.int (if j < i then j else i)) H) : rMin2 [.int i, .int j] H Q := ⟨i, j, rfl, h⟩
theorem x_int1 {i : Int} (h : Q (.int i) H) : rInt1 [.int i] H Q := .inl ⟨i, rfl, h⟩
theorem x_intB {k : Bool} (h : Q (.int (if k then 1 else 0)) H) : rInt1 [.bl k] H Q := .inr ⟨k, rfl, h⟩
theorem x_lenL {p : Addr} {ys : List V} (e : SqL K H p ys) (h : Q (.int ys.length) H) : rLenSeq K [.ref p] H Q := ⟨p, ys, rfl, .inl e, h⟩
theorem x_ixL {p : Addr} {xs : List V} {i : Int} (e : SqL K H p xs) (z : atI xs i = some v) (h : Q v H) : rIxL K (.ref p) (.int i) H Q := ⟨p, xs, i, v, rfl, rfl, e, z, h⟩
theorem x_ixT {p : Addr} {xs : List V} {i : Int} (e : SqT K H p xs) (z : atI xs i = some v) (h : Q v H) : rIxT K (.ref p) (.int i) H Q := ⟨p, xs, i, v, rfl, rfl, e, z, h⟩
theorem x_append {p : Addr} {xs : List V} (e : H p = some (.lst xs)) (z : xs.length < sizeLine) (h : Q .non (upd H p (.lst (xs ++ [v])))) : rAppend (.ref p) [v] H Q := ⟨p, xs, v, rfl, rfl, e, z, h⟩
theorem x_bmL {r : MR} {to : TE} (h : to σ H fun x H1 => tyV K "list" x H1 ∧ a1 σ H1 fun xs H2 => r x xs H2 Q) : tBM K "list" r to a1 σ H Q := h
theorem tyL {p : Addr} {xs : List V} (e : SqL K H p xs) : tyV K "list" (.ref p) H := .inl ⟨rfl, _, e⟩
theorem SqL.of {p : Addr} {xs : List V} (e : H p = some (.lst xs)) : SqL K H p xs := .inl (.inl e)
theorem SqT.of {p : Addr} {xs : List V} (e : H p = some (.tup xs)) : SqT K H p xs := .inl (.inl e)
theorem x_listOf {p : Addr} {ys : List V} (e : SqL K H p ys) (h : ∀ l, H l = none → Q (.ref l) (upd H l (.lst ys))) : rListOf K [.ref p] H Q := ⟨p, ys, rfl, .inl e, h⟩
theorem x_isi {c : V} {t u : Value} {b : Bool} (h1 : ClsV c u) (h2 : TyX K H x t) (h3 : PySem.W.kitOne K t u = some b) (h : Q (.bl b) H) : rIsi K [x, c] H Q := ⟨x, c, t, u, b, rfl, h1, h2, h3, h⟩
theorem x_ite {b : Bool} {A B : Prop} (h1 : b = true → A) (h2 : b = false → B) : if b = true then A else B := by
  cases b
  · exact (if_neg Bool.false_ne_true).symm ▸ h2 rfl
  · exact (if_pos rfl).symm ▸ h1 rfl
theorem x_iteD {c A B : Prop} {inst : Decidable c} (h1 : c → A) (h2 : ¬ c → B) : if decide c = true then A else B := x_ite (fun e => h1 (of_decide_eq_true e)) (fun e => h2 (of_decide_eq_false e))
theorem x_iteN {c A B : Prop} {inst : Decidable c} (h1 : ¬ c → A) (h2 : c → B) : if (!decide c) = true then A else B := x_ite (fun e => h1 (by simpa using e)) (fun e => h2 (by simpa using e))
theorem x_whileN {tb : TS} {W : Nat → St → Hp → Prop} {m : Nat} (h : tb { D with nx := (fun σ' H' => ∃ m', m' < m ∧ W m' σ' H'), ct := (fun σ' H' => ∃ m', m' < m ∧ W m' σ' H'), bk := D.nx } σ H) :
    ∃ N : St → Hp → Prop, (∀ σ' H', N σ' H' → ∃ m', m' < m ∧ W m' σ' H') ∧ tb { D with nx := N, ct := N, bk := D.nx } σ H := ⟨_, fun _ _ h => h, h⟩
theorem x_for {wi : TI} {tb : TS} (h : wi σ H fun J H1 => ∃ W : Nat → Nat → St → Hp → Prop, (∃ m, W 0 m σ H1) ∧ ∀ i m σ H, W i m σ H →
    (J.stop i H ∧ D.nx σ H) ∨ (J.go i H ∧ ∃ N : St → Hp → Prop, (∀ σ' H', N σ' H' → ∃ m', m' < m ∧ W (i + 1) m' σ' H') ∧ ∀ x H', J.yld i H x H' → g x σ H' fun σ2 H2 => tb { D with nx := N, ct := N, bk := D.nx } σ2 H2)) : tFor wi g tb D σ H := h
theorem x_iList {R : It → Hp → Prop} (h : te σ H fun x H1 => ∃ a, x = .ref a ∧ (∃ xs, SqL K H1 a xs) ∧ R (Itl K a) H1) : iList K te σ H R := h
theorem x_iRng1 {R : It → Hp → Prop} (h : a1 σ H fun vs H1 => ∃ j : Int, vs = [.int j] ∧ -(2 ^ 62) ≤ j ∧ j < 2 ^ 62 ∧ R (Itr 0 j.toNat) H1) : iRng1 a1 σ H R := h
theorem x_iRng2 {R : It → Hp → Prop} (h : a1 σ H fun vs H1 => ∃ i j : Int, vs = [.int i, .int j] ∧ (-(2 ^ 62) ≤ i ∧ i < 2 ^ 62 ∧ -(2 ^ 62) ≤ j ∧ j < 2 ^ 62) ∧ R (Itr i (j - i).toNat) H1) : iRng2 a1 σ H R := h
theorem x_rGt {i j : Int} (h : Q (.bl (decide (j < i))) H) : rGt (.int i) (.int j) H Q := ⟨i, j, rfl, rfl, h⟩
theorem x_rGe {i j : Int} (h : Q (.bl (decide (j ≤ i))) H) : rGe (.int i) (.int j) H Q := ⟨i, j, rfl, rfl, h⟩
theorem x_iteF {A B : Prop} (h : B) : if false = true then A else B := iteF h
theorem x_iteT {A B : Prop} (h : A) : if true = true then A else B := iteT h
theorem x_iteNT {A B : Prop} (h : B) : if (!true) = true then A else B := iteF h
theorem x_iteNF {A B : Prop} (h : A) : if (!false) = true then A else B := iteT h
theorem small {n : Nat} (h : n ≤ 100000) : n < sizeLine := Nat.lt_of_le_of_lt h (by rw [sizeLine_eq]; decide)
theorem at_get {α : Type} {xs : List α} {i : Int} {d : α} (h0 : 0 ≤ i) (h1 : i < xs.length) : atI xs i = some (xs.getD i.toNat d) := by
  have h2 : i.toNat < xs.length := by omega
  unfold atI ixN
  rw [if_pos h0, if_pos h1]
  show xs[i.toNat]? = _
  rw [List.getElem?_eq_getElem h2, List.getD_eq_getElem?_getD, List.getElem?_eq_getElem h2]
  rfl
theorem at_getI {xs : List Int} {i : Int} (h0 : 0 ≤ i) (h1 : i < xs.length) : atI (xs.map V.int) i = some (.int (xs.getD i.toNat 0)) := by
  have h2 : i.toNat < xs.length := by omega
  rw [at_get (d := .int 0) h0 (by rw [List.length_map]; exact h1), List.getD_eq_getElem?_getD, List.getD_eq_getElem?_getD, List.getElem?_map, List.getElem?_eq_getElem h2]
  rfl
theorem x_ixI {p : Addr} {xs : List Int} {i : Int} (e : H p = some (.lst (xs.map V.int))) (h0 : 0 ≤ i) (h1 : i < xs.length) (h : Q (.int (xs.getD i.toNat 0)) H) : rIxL K (.ref p) (.int i) H Q := x_ixL (SqL.of e) (at_getI h0 h1) h
theorem x_cut {t u : TS} (M : St → Hp → Prop) (h : t { D with nx := M } σ H) (k : ∀ σ' H', M σ' H' → u D σ' H') : C8.tCut t u D σ H := ⟨M, h, k⟩
theorem kt_int_int : kitB "int" "int" = some true := by decide +kernel
theorem kt_int_bool : kitB "int" "bool" = some false := by decide +kernel
theorem kt_int_str : kitB "int" "str" = some false := by decide +kernel
theorem kt_int_list : kitB "int" "list" = some false := by decide +kernel
theorem kt_int_tuple : kitB "int" "tuple" = some false := by decide +kernel
theorem kt_bool_int : kitB "bool" "int" = some true := by decide +kernel
theorem kt_bool_bool : kitB "bool" "bool" = some true := by decide +kernel
theorem kt_bool_str : kitB "bool" "str" = some false := by decide +kernel
theorem kt_bool_list : kitB "bool" "list" = some false := by decide +kernel
theorem kt_bool_tuple : kitB "bool" "tuple" = some false := by decide +kernel
theorem kt_str_int : kitB "str" "int" = some false := by decide +kernel
theorem kt_str_bool : kitB "str" "bool" = some false := by decide +kernel
theorem kt_str_str : kitB "str" "str" = some true := by decide +kernel
theorem kt_str_list : kitB "str" "list" = some false := by decide +kernel
theorem kt_str_tuple : kitB "str" "tuple" = some false := by decide +kernel
theorem kt_NoneType_int : kitB "NoneType" "int" = some false := by decide +kernel
theorem kt_NoneType_bool : kitB "NoneType" "bool" = some false := by decide +kernel
theorem kt_NoneType_str : kitB "NoneType" "str" = some false := by decide +kernel
theorem kt_NoneType_list : kitB "NoneType" "list" = some false := by decide +kernel
theorem kt_NoneType_tuple : kitB "NoneType" "tuple" = some false := by decide +kernel
theorem x_isi_int_int {i : Int} (q : Q (.bl true) H) : rIsi K [(.int i), .ty "int"] H Q := x_isi (.ty _) (.base (.int _)) (kit_ty kt_int_int) q
theorem x_isi_int_bool {i : Int} (q : Q (.bl false) H) : rIsi K [(.int i), .ty "bool"] H Q := x_isi (.ty _) (.base (.int _)) (kit_ty kt_int_bool) q
theorem x_isi_int_str {i : Int} (q : Q (.bl false) H) : rIsi K [(.int i), .ty "str"] H Q := x_isi (.ty _) (.base (.int _)) (kit_ty kt_int_str) q
theorem x_isi_int_list {i : Int} (q : Q (.bl false) H) : rIsi K [(.int i), .ty "list"] H Q := x_isi (.ty _) (.base (.int _)) (kit_ty kt_int_list) q
theorem x_isi_int_tuple {i : Int} (q : Q (.bl false) H) : rIsi K [(.int i), .ty "tuple"] H Q := x_isi (.ty _) (.base (.int _)) (kit_ty kt_int_tuple) q
theorem x_isi_bool_int {i : Bool} (q : Q (.bl true) H) : rIsi K [(.bl i), .ty "int"] H Q := x_isi (.ty _) (.base (.bl _)) (kit_ty kt_bool_int) q
theorem x_isi_bool_bool {i : Bool} (q : Q (.bl true) H) : rIsi K [(.bl i), .ty "bool"] H Q := x_isi (.ty _) (.base (.bl _)) (kit_ty kt_bool_bool) q
theorem x_isi_bool_str {i : Bool} (q : Q (.bl false) H) : rIsi K [(.bl i), .ty "str"] H Q := x_isi (.ty _) (.base (.bl _)) (kit_ty kt_bool_str) q
theorem x_isi_bool_list {i : Bool} (q : Q (.bl false) H) : rIsi K [(.bl i), .ty "list"] H Q := x_isi (.ty _) (.base (.bl _)) (kit_ty kt_bool_list) q
theorem x_isi_bool_tuple {i : Bool} (q : Q (.bl false) H) : rIsi K [(.bl i), .ty "tuple"] H Q := x_isi (.ty _) (.base (.bl _)) (kit_ty kt_bool_tuple) q
theorem x_isi_str_int {i : Str} (q : Q (.bl false) H) : rIsi K [(.str i), .ty "int"] H Q := x_isi (.ty _) (.base (.str _)) (kit_ty kt_str_int) q
theorem x_isi_str_bool {i : Str} (q : Q (.bl false) H) : rIsi K [(.str i), .ty "bool"] H Q := x_isi (.ty _) (.base (.str _)) (kit_ty kt_str_bool) q
theorem x_isi_str_str {i : Str} (q : Q (.bl true) H) : rIsi K [(.str i), .ty "str"] H Q := x_isi (.ty _) (.base (.str _)) (kit_ty kt_str_str) q
theorem x_isi_str_list {i : Str} (q : Q (.bl false) H) : rIsi K [(.str i), .ty "list"] H Q := x_isi (.ty _) (.base (.str _)) (kit_ty kt_str_list) q
theorem x_isi_str_tuple {i : Str} (q : Q (.bl false) H) : rIsi K [(.str i), .ty "tuple"] H Q := x_isi (.ty _) (.base (.str _)) (kit_ty kt_str_tuple) q
theorem x_isi_NoneType_int (q : Q (.bl false) H) : rIsi K [.non, .ty "int"] H Q := x_isi (.ty _) (.base .non) (kit_ty kt_NoneType_int) q
theorem x_isi_NoneType_bool (q : Q (.bl false) H) : rIsi K [.non, .ty "bool"] H Q := x_isi (.ty _) (.base .non) (kit_ty kt_NoneType_bool) q
theorem x_isi_NoneType_str (q : Q (.bl false) H) : rIsi K [.non, .ty "str"] H Q := x_isi (.ty _) (.base .non) (kit_ty kt_NoneType_str) q
theorem x_isi_NoneType_list (q : Q (.bl false) H) : rIsi K [.non, .ty "list"] H Q := x_isi (.ty _) (.base .non) (kit_ty kt_NoneType_list) q
theorem x_isi_NoneType_tuple (q : Q (.bl false) H) : rIsi K [.non, .ty "tuple"] H Q := x_isi (.ty _) (.base .non) (kit_ty kt_NoneType_tuple) q
theorem same_upd {H0 H1 : Hp} {p : Addr} {o : HO} (h : Same H0 H1) (n : H0 p = none) : Same H0 (upd H1 p o) := fun b q e => by rw [upd_ne (ne_of_none e n)]; exact h b q e
theorem same_new {H0 H1 : Hp} {p : Addr} {o : HO} (h : Same H0 H1) (n : H1 p = none) : Same H0 (L2.upd H1 p o) := same_upd h (h.free n)
theorem al_lst {xs : List V} (h : ∀ p H', H p = none → Same H H' → H' p = some (.lst xs) → Q (.ref p) H') (h0 : Nat.ble xs.length 100000 = true := by rfl) : AlL Q xs H := ⟨Nat.le_of_lt (small (Nat.le_of_ble_eq_true h0)), fun p n => h p _ n (same_new (Same.refl H) n) upd_same⟩
theorem al_tup {xs : List V} (h : ∀ p H', H p = none → Same H H' → H' p = some (.tup xs) → Q (.ref p) H') (h0 : Nat.ble xs.length 100000 = true := by rfl) : AlT Q xs H := ⟨Nat.le_of_lt (small (Nat.le_of_ble_eq_true h0)), fun p n => h p _ n (same_new (Same.refl H) n) upd_same⟩
theorem al_list {p : Addr} {ys : List V} (e : SqL K H p ys) (h : ∀ p H', H p = none → Same H H' → H' p = some (.lst ys) → Q (.ref p) H') : rListOf K [.ref p] H Q := x_listOf e fun p n => h p _ n (same_new (Same.refl H) n) upd_same
theorem getD_all {P : Int → Prop} {xs : List Int} (h : ∀ x ∈ xs, P x) (h0 : P 0) (i : Nat) : P (xs.getD i 0) := by
  rw [List.getD_eq_getElem?_getD]
  cases e : xs[i]? with
  | none => exact h0
  | some v => exact h v (List.mem_of_getElem? e)
end
/-! ### turns of a walk -/
structure Turns (J : It) (n : Nat) (ok : Hp → Prop) (item : Nat → V → Hp → Hp → Prop) : Prop where
  go : ∀ i H, i < n → ok H → J.go i H
  yld : ∀ i H x H', i < n → ok H → J.yld i H x H' → item i x H H'
  stop : ∀ H, ok H → J.stop n H
section
variable {K : PySem.W.Frag} {J : It} {n : Nat} {ok : Hp → Prop} {item : Nat → V → Hp → Hp → Prop} {g : TG} {tb : TS} {D : Ends} {σ : St} {H : Hp}
theorem for_by (T : Turns J n ok item) (Pv : Nat → St → Hp → Prop) (h0 : Pv 0 σ H) (hok : ∀ i σ H, i ≤ n → Pv i σ H → ok H)
    (hs : ∀ i x σ H H', i < n → Pv i σ H → item i x H H' → g x σ H' fun σ2 H2 => tb { D with nx := Pv (i + 1), ct := Pv (i + 1), bk := D.nx } σ2 H2) (hd : ∀ σ H, Pv n σ H → D.nx σ H) :
    ∃ W : Nat → Nat → St → Hp → Prop, (∃ m, W 0 m σ H) ∧ ∀ i m σ H, W i m σ H →
      (J.stop i H ∧ D.nx σ H) ∨ (J.go i H ∧ ∃ N : St → Hp → Prop, (∀ σ' H', N σ' H' → ∃ m', m' < m ∧ W (i + 1) m' σ' H') ∧ ∀ v H', J.yld i H v H' → g v σ H' fun σ2 H2 => tb { D with nx := N, ct := N, bk := D.nx } σ2 H2) := by
  refine ⟨fun i m σ H => m = n - i ∧ i ≤ n ∧ Pv i σ H, ⟨n, rfl, Nat.zero_le _, h0⟩, ?_⟩
  rintro i m σ H ⟨rfl, hi, p⟩
  have q := hok i σ H hi p
  by_cases hlt : i < n
  · exact .inr ⟨T.go i H hlt q, Pv (i + 1), fun σ' H' p' => ⟨n - (i + 1), by omega, rfl, hlt, p'⟩, fun v H' y => hs i v σ H H' hlt p (T.yld i H v H' hlt q y)⟩
  · have e : i = n := by omega
    subst e
    exact .inl ⟨T.stop H q, hd σ H p⟩
variable {tt : TT} {te : TE} {vs : List Nat} {H1 : Hp} {A : Addr} {Qd : Hp → Prop}
theorem turnsR {lo : Int} {n : Nat} : Turns (Itr lo n) n (fun _ => True) (fun i x H H' => H = H' ∧ x = .int (lo + i)) where
  go := fun i H hi _ => hi
  yld := fun i H x H' _ _ y => ⟨y.1.symm, y.2⟩
  stop := fun H _ => Nat.le_refl _
/-- a new pair stands at T -/
def Pair (x y : V) (v : V) (H H' : Hp) : Prop := ∃ T, v = .ref T ∧ H T = none ∧ Same H H' ∧ H' T = some (.tup [x, y]) ∧ ∀ b, b ≠ T → H' b = H b
theorem pair_mk {x y : V} {T : Addr} (h : H T = none) : Pair x y (.ref T) H (upd H T (.tup [x, y])) := ⟨T, rfl, h, same_new (Same.refl H) h, upd_same, fun b hb => upd_ne hb⟩
theorem turnsE {a : Addr} {xs : List V} : Turns (Ite K a) xs.length (fun H => SqL K H a xs) (fun i v H H' => ∃ x, xs[i]? = some x ∧ Pair (.int (i : Nat)) x v H H') where
  go := fun i H hi q => ⟨xs, xs[i], q, List.getElem?_eq_getElem hi⟩
  yld := fun i H v H' _ q y => by
    obtain ⟨T, x, rfl, hT, rfl, f⟩ := y
    exact ⟨x, f xs q, pair_mk hT⟩
  stop := fun H q => ⟨xs, q, Nat.le_refl _⟩
/-! ### a comprehension of flat values -/
structure LcF (H1 : Hp) (A : Addr) (f : Nat → Option V) (i : Nat) (H : Hp) : Prop where
  s : Same H1 H
  o : H A = some (.lst ((List.range i).filterMap f))
theorem lcF_len (f : Nat → Option V) (i : Nat) : ((List.range i).filterMap f).length ≤ i := by
  have := List.length_filterMap_le f (List.range i)
  rwa [List.length_range] at this
theorem LcF.keep {f : Nat → Option V} {i : Nat} {Hc H4 : Hp} {y : V} (h : LcF H1 A f i Hc) (n : H1 A = none) (s : Same Hc H4) (hf : f i = some y) (hi : i ≤ 100000) :
    ∃ acc, H4 A = some (.lst acc) ∧ acc.length < sizeLine ∧ LcF H1 A f (i + 1) (upd H4 A (.lst (acc ++ [y]))) := by
  refine ⟨_, s _ _ h.o, small (Nat.le_trans (lcF_len f i) hi), same_upd (h.s.trans s) n, ?_⟩
  rw [upd_same, List.range_succ, List.filterMap_append]
  simp [hf]
theorem LcF.skip {f : Nat → Option V} {i : Nat} {Hc H4 : Hp} (h : LcF H1 A f i Hc) (s : Same Hc H4) (hf : f i = none) : LcF H1 A f (i + 1) H4 := by
  refine ⟨h.s.trans s, ?_⟩
  rw [List.range_succ, List.filterMap_append]
  simp [hf]
  exact s _ _ h.o
end

/-! ### data -/
section
variable {K : PySem.W.Frag} {H H' : Hp}
theorem seqT_same {a : Addr} {xs : List V} (e : Same H H') (h : SqT K H a xs) : SqT K H' a xs := by
  rcases h with (h | ⟨o, h⟩) | h
  · exact .inl (.inl (e _ _ h))
  · exact .inl (.inr ⟨o, e _ _ h⟩)
  · exact .inr h
mutual
theorem dp_same (e : Same H H') : ∀ {v : V} {d : PyData}, Dp K H v d → Dp K H' v d
  | _, _, .non => .non
  | _, _, .bl b => .bl b
  | _, _, .int i => .int i
  | _, _, .str x => .str x
  | _, _, .lst h a => .lst (e.seq h) (dpAll_same e a)
  | _, _, .tup h a => .tup (seqT_same e h) (dpAll_same e a)
theorem dpAll_same (e : Same H H') : ∀ {vs : List V} {ds : List PyData}, DpAll K H vs ds → DpAll K H' vs ds
  | _, _, .nil => .nil
  | _, _, .cons a b => .cons (dp_same e a) (dpAll_same e b)
end
theorem dpAll_len : ∀ {vs : List V} {ds : List PyData}, DpAll K H vs ds → vs.length = ds.length
  | _, _, .nil => rfl
  | _, _, .cons _ b => congrArg Nat.succ (dpAll_len b)
theorem dpAll_get : ∀ {vs : List V} {ds : List PyData} {i : Nat} {v : V}, DpAll K H vs ds → vs[i]? = some v → ∃ d, ds[i]? = some d ∧ Dp K H v d
  | _, _, i, _, .nil, e => by simp at e
  | _, _, 0, _, .cons a _, e => by simp at e; subst e; exact ⟨_, rfl, a⟩
  | _, _, i + 1, _, .cons _ b, e => by
    obtain ⟨d, h1, h2⟩ := dpAll_get (i := i) b (by simpa using e)
    exact ⟨d, by simpa using h1, h2⟩
theorem dpAll_snoc : ∀ {vs : List V} {ds : List PyData} {v : V} {d : PyData}, DpAll K H vs ds → Dp K H v d → DpAll K H (vs ++ [v]) (ds ++ [d])
  | _, _, _, _, .nil, h => .cons h .nil
  | _, _, _, _, .cons a b, h => .cons a (dpAll_snoc b h)
theorem dp_int {v : V} {i : Int} (h : Dp K H v (.int i)) : v = .int i := by cases h; rfl
theorem dp_lst {v : V} {ds : List PyData} (h : Dp K H v (.list ds)) : ∃ a xs, v = .ref a ∧ SqL K H a xs ∧ DpAll K H xs ds := by cases h with | lst a b => exact ⟨_, _, rfl, a, b⟩
theorem dp_tup {v : V} {ds : List PyData} (h : Dp K H v (.tuple ds)) : ∃ a xs, v = .ref a ∧ SqT K H a xs ∧ DpAll K H xs ds := by cases h with | tup a b => exact ⟨_, _, rfl, a, b⟩
theorem ints_dpAll : ∀ (ns : List Int), DpAll K H (ns.map V.int) (ns.map .int)
  | [] => .nil
  | n :: ns => .cons (.int n) (ints_dpAll ns)
theorem bls_dpAll : ∀ (ns : List Bool), DpAll K H (ns.map V.bl) (ns.map .bool)
  | [] => .nil
  | n :: ns => .cons (.bl n) (bls_dpAll ns)
theorem dp_pair {v : V} {i j : Int} (h : Dp K H v (.tuple [.int i, .int j])) : ∃ a, v = .ref a ∧ SqT K H a [.int i, .int j] := by
  obtain ⟨a, xs, rfl, h1, h2⟩ := dp_tup h
  cases h2 with
  | cons p h3 => cases h3 with
    | cons q h4 =>
      cases h4
      cases dp_int p; cases dp_int q
      exact ⟨a, rfl, h1⟩
theorem pair_dp {a : Addr} {i j : Int} (h : SqT K H a [.int i, .int j]) : Dp K H (.ref a) (.tuple [.int i, .int j]) := .tup h (.cons (.int i) (.cons (.int j) .nil))
/-- the heap without what stands at A -/
def del (H : Hp) (A : Addr) : Hp := fun b => if b = A then none else H b
theorem del_same {A : Addr} : Same (del H A) H := fun b o e => by
  unfold del at e
  by_cases c : b = A
  · rw [if_pos c] at e; cases e
  · rw [if_neg c] at e; exact e
theorem del_at {A b : Addr} {o : HO} (h : H b = some o) (n : b ≠ A) : del H A b = some o := by unfold del; rw [if_neg n]; exact h
theorem del_upd {A : Addr} {o : HO} : del (upd H A o) A = del H A := by
  funext b
  unfold del
  by_cases c : b = A
  · rw [if_pos c, if_pos c]
  · rw [if_neg c, if_neg c, upd_ne c]
theorem del_mono {A : Addr} (e : Same H H') : Same (del H A) (del H' A) := fun b o h => by
  unfold del at h ⊢
  by_cases c : b = A
  · rw [if_pos c] at h; cases h
  · rw [if_neg c] at h ⊢; exact e b o h
end

/-! ### a comprehension of data -/
structure LcD (K : PySem.W.Frag) (H1 : Hp) (A : Addr) (f : Nat → Option PyData) (i : Nat) (H : Hp) : Prop where
  s : Same H1 H
  ex : ∃ acc, H A = some (.lst acc) ∧ DpAll K (del H A) acc ((List.range i).filterMap f)
section
variable {K : PySem.W.Frag} {J : It} {n : Nat} {ok : Hp → Prop} {item : Nat → V → Hp → Hp → Prop} {g : TG} {σ : St} {tt : TT} {te : TE} {vs : List Nat} {H1 : Hp} {A : Addr} {Qd : Hp → Prop}
theorem lcD_len (f : Nat → Option PyData) (i : Nat) : ((List.range i).filterMap f).length ≤ i := by
  have := List.length_filterMap_le f (List.range i)
  rwa [List.length_range] at this
theorem LcD.keep {f : Nat → Option PyData} {i : Nat} {Hc H4 : Hp} {y : V} {d : PyData} (h : LcD K H1 A f i Hc) (n : H1 A = none) (s : Same Hc H4) (hf : f i = some d) (hy : Dp K (del H4 A) y d) (hi : i ≤ 100000) :
    ∃ acc, H4 A = some (.lst acc) ∧ acc.length < sizeLine ∧ LcD K H1 A f (i + 1) (upd H4 A (.lst (acc ++ [y]))) := by
  obtain ⟨acc, ho, ha⟩ := h.ex
  refine ⟨acc, s _ _ ho, small (by rw [dpAll_len ha]; exact Nat.le_trans (lcD_len f i) hi), same_upd (h.s.trans s) n, acc ++ [y], upd_same, ?_⟩
  rw [del_upd, List.range_succ, List.filterMap_append]
  have e : List.filterMap f [i] = [d] := by simp [hf]
  rw [e]
  exact dpAll_snoc (dpAll_same (del_mono s) ha) hy
theorem LcD.skip {f : Nat → Option PyData} {i : Nat} {Hc H4 : Hp} (h : LcD K H1 A f i Hc) (s : Same Hc H4) (hf : f i = none) : LcD K H1 A f (i + 1) H4 := by
  obtain ⟨acc, ho, ha⟩ := h.ex
  refine ⟨h.s.trans s, acc, s _ _ ho, ?_⟩
  rw [List.range_succ, List.filterMap_append]
  have e : List.filterMap f [i] = [] := by simp [hf]
  rw [e, List.append_nil]
  exact dpAll_same (del_mono s) ha
end

/-! ### further steps -/
section
variable {K : PySem.W.Frag} {te : TE} {a1 : TA} {σ : St} {H : Hp} {R : It → Hp → Prop} {Qs : St → Hp → Prop} {g : TG} {u : TGs} {v : V} {r xs : List V} {n : Nat} {a : Addr}
theorem x_iEnum (h : a1 σ H fun vs H1 => ∃ a xs, vs = [.ref a] ∧ SqL K H1 a xs ∧ R (Ite K a) H1) : iEnum K a1 σ H R := h
theorem x_iZip (h : a1 σ H fun vs H1 => ∃ a b xs ys, vs = [.ref a, .ref b] ∧ SqL K H1 a xs ∧ SqL K H1 b ys ∧ R (Itz K a b) H1) : iZip K a1 σ H R := h
theorem x_iZipA (h : a1 σ H fun vs H1 => ∃ a b xs ys, vs = [.ref a, .ref b] ∧ ((SqL K H1 a xs ∧ SqL K H1 b ys ∧ R (Itz K a b) H1) ∨ (SqT K H1 a xs ∧ SqT K H1 b ys ∧ R (RZ.ItzT K a b) H1))) : RZ.iZipA K a1 σ H R := h
theorem x_iTup (h : te σ H fun x H1 => ∃ a, x = .ref a ∧ (∃ xs, SqT K H1 a xs) ∧ R (Itt K a) H1) : iTup K te σ H R := h
theorem x_gtup (e : SqT K H a xs) (l : xs.length = n) (h : u xs σ H Qs) : gTup K n u (.ref a) σ H Qs := ⟨a, xs, rfl, e, l, h⟩
theorem x_gcons (h : g v σ H fun σ' H' => u r σ' H' Qs) : gCons g u (v :: r) σ H Qs := ⟨v, r, rfl, h⟩
theorem x_gnil (h : Qs σ H) : gNil [] σ H Qs := ⟨rfl, h⟩
theorem x_gsub {to ti : TE} {t : TSet} (h : to σ H fun o H1 => ti σ H1 fun i H2 => t o i v H2 fun H3 => Qs σ H3) : gSub to ti t v σ H Qs := h
theorem x_setL {p : Addr} {xs : List V} {k : Int} {Qh : Hp → Prop} (e : H p = some (.lst xs)) (h0 : 0 ≤ k) (h1 : k < xs.length) (h : Qh (upd H p (.lst (xs.set k.toNat v)))) : rSetL (.ref p) (.int k) v H Qh := by
  refine ⟨p, xs, k, k.toNat, rfl, rfl, e, ?_, h⟩
  unfold ixN
  rw [if_pos h0, if_pos h1]
theorem x_yes {Qb : Bool → Hp → Prop} (h : Qb true H) : tYes σ H Qb := h
theorem x_lc {wi : TI} {tt : TT} {te : TE} {vs : List Nat} {Q : VK} (h : wi σ H fun J H1 => ∀ D, H1 D = none → ∃ W : Nat → Nat → Hp → Prop, (∃ m, W 0 m (upd H1 D (.lst []))) ∧ ∀ i m H, W i m H →
  (J.stop i H ∧ Q (.ref D) H) ∨ (J.go i H ∧ ∃ Nx : Hp → Prop, (∀ H', Nx H' → ∃ m', m' < m ∧ W (i + 1) m' H') ∧ ∀ x H', J.yld i H x H' → g x (wipe σ vs) H' fun σ2 H2 => wipe σ2 vs = wipe σ vs ∧ tt σ2 H2 fun b H3 =>
    if b = true then te σ2 H3 fun y H4 => ∃ acc, H4 D = some (.lst acc) ∧ acc.length < sizeLine ∧ Nx (upd H4 D (.lst (acc ++ [y]))) else Nx H3)) : tLc wi g tt te vs σ H Q := h
end
/-! ### slices, defs that are not called, windows -/
section
variable {K : PySem.W.Frag} {te : TE} {tl th : TO} {σ : St} {H : Hp} {Q : VK} {v : V}
theorem x_sl {r : V → Option Int → Option Int → Hp → VK → Prop} (h : te σ H fun x H1 => tl σ H1 fun l H2 => th σ H2 fun u H3 => r x l u H3 Q) : tSl r te tl th σ H Q := h
theorem x_nopart {Qo : Option Int → Hp → Prop} (h : Qo none H) : tNoPart σ H Qo := h
theorem x_part {Qo : Option Int → Hp → Prop} (h : te σ H fun x H1 => ∃ i, x = .int i ∧ Qo (some i) H1) : tPart te σ H Qo := h
theorem x_isI {i : Int} {P : Int → Prop} (h : P i) : ∃ j, V.int i = .int j ∧ P j := ⟨i, rfl, h⟩
theorem al_slL {a : Addr} {xs : List V} {lo hi : Option Int} (e : SqL K H a xs) (h : ∀ p H', H p = none → Same H H' → H' p = some (.lst (cutV xs lo hi)) → Q (.ref p) H') : rSlL K (.ref a) lo hi H Q := ⟨a, xs, rfl, e, fun p n => h p _ n (same_new (Same.refl H) n) upd_same⟩
theorem cutV_from {xs : List V} {i : Nat} : cutV xs (some (i : Int)) none = xs.drop i := by
  unfold cutV HT.sIx
  have h : ¬ ((i : Int) < 0) := by omega
  simp only [if_neg h, Int.toNat_natCast]
  by_cases c : i ≤ xs.length
  · rw [Nat.min_eq_left c, List.take_of_length_le]
    rw [List.length_drop]; exact Nat.le_refl _
  · have c' : xs.length ≤ i := by omega
    rw [Nat.min_eq_right c', List.drop_of_length_le c', List.drop_of_length_le (Nat.le_refl _)]
    simp
theorem al_from {a : Addr} {xs : List Int} {i : Nat} {j : Int} (e : SqL K H a (xs.map V.int)) (hj : j = i) (h : ∀ p H', H p = none → Same H H' → H' p = some (.lst ((xs.drop i).map V.int)) → Q (.ref p) H') : rSlL K (.ref a) (some j) none H Q :=
  al_slL e fun p H' n s o => h p H' n s (by subst hj; rw [cutV_from] at o; rw [List.map_drop]; exact o)
end
/-- a list of windows, as data -/
def dPair (w : Int × Int) : PyData := .tuple [.int w.1, .int w.2]
def dWin (ws : List (Int × Int)) : PyData := .list (ws.map dPair)
section
variable {K : PySem.W.Frag} {H H' : Hp}
theorem win_at {v : V} {ws : List (Int × Int)} (h : Dp K H v (dWin ws)) : ∃ (a : Addr) (xs : List V), v = V.ref a ∧ SqL K H a xs ∧ xs.length = ws.length ∧ ∀ (i : Nat) (x : V), xs[i]? = some x → ∃ (w : Int × Int) (t : Addr), ws[i]? = some w ∧ x = V.ref t ∧ SqT K H t [.int w.1, .int w.2] := by
  obtain ⟨a, xs, rfl, h1, h2⟩ := dp_lst h
  refine ⟨a, xs, rfl, h1, by rw [dpAll_len h2, List.length_map], fun i x e => ?_⟩
  obtain ⟨d, e1, e2⟩ := dpAll_get h2 e
  rw [List.getElem?_map] at e1
  cases hw : ws[i]? with
  | none => rw [hw] at e1; cases e1
  | some w =>
    rw [hw] at e1
    cases e1
    obtain ⟨t, rfl, ht⟩ := dp_pair e2
    exact ⟨w, t, rfl, rfl, ht⟩
end
/-! ### list(range(..)), sorted, lists of ints as data -/
section
variable {K : PySem.W.Frag} {te ta : TE} {σ : St} {H : Hp} {Q : VK} {v : V}
def AlRg (Q : VK) (a b : Int) (H : Hp) : Prop := RgOk a b ∧ ∀ q, H q = none → Q (.ref q) (upd H q (.lst (rgV a b)))
theorem x_lstRg {tr : St → Hp → (Int → Int → Hp → Prop) → Prop} (h : tr σ H (AlRg Q)) : tLstRg tr σ H Q := h
theorem x_rg1 {R : Int → Int → Hp → Prop} (h : ta σ H fun x H1 => ∃ n, x = .int n ∧ R 0 n H1) : tRg1 ta σ H R := h
theorem rgV_nat (n : Nat) : rgV 0 (n : Int) = (List.range n).map fun (i : Nat) => V.int (i : Int) := by
  unfold rgV
  rw [show ((n : Int) - 0).toNat = n by omega]
  apply List.map_congr_left
  intro i _
  rw [show (0 : Int) + ((i : Nat) : Int) = (i : Int) by omega]
theorem al_rg {n : Nat} {j : Int} (hj : j = n) (hn : n ≤ 100000) (h : ∀ p H', H p = none → Same H H' → H' p = some (.lst ((List.range n).map fun (i : Nat) => V.int (i : Int))) → Q (.ref p) H') : AlRg Q 0 j H := by
  subst hj
  refine ⟨RgOk.of_le (by decide) (by omega) (by decide) (by omega), fun p np => h p _ np (same_new (Same.refl H) np) ?_⟩
  rw [upd_same, rgV_nat]
theorem al_sorted {a : Addr} {ns : List Int} (e : SqL K H a (ns.map V.int)) (h : ∀ (p : Addr) (ns' : List Int) (H' : Hp), H p = none → Same H H' → ns'.Perm ns → ns'.Pairwise (· ≤ ·) → H' p = some (.lst (ns'.map V.int)) → Q (.ref p) H') : rSortedI K [.ref a] H Q :=
  ⟨a, ns, rfl, e, fun ns' p pm pw np => h p ns' _ np (same_new (Same.refl H) np) pm pw upd_same⟩
end
def dInts (l : List Int) : PyData := .list (l.map .int)
theorem lay_ints : ∀ l : List Int, PyData.canLayAll0 (l.map .int) = true
  | [] => rfl
  | n :: l => by
    show (PyData.canLay0 (.int n) && PyData.canLayAll0 (l.map .int)) = true
    rw [lay_ints l]; rfl
theorem dep_ints : ∀ l : List Int, PyData.depthAll (l.map .int) = 0
  | [] => rfl
  | n :: l => by
    show max (PyData.depth (.int n)) (PyData.depthAll (l.map .int)) = 0
    rw [dep_ints l]; rfl
theorem shaped_ints (l : List Int) : SeqAt.shaped (dInts l) = true := by
  have h1 : (dInts l).canLay0 = true := lay_ints l
  have h2 : (dInts l).depth ≤ 64 := by
    show PyData.depthAll (l.map .int) + 1 ≤ 64
    rw [dep_ints]; decide
  unfold SeqAt.shaped
  rw [h1, decide_eq_true h2]; rfl
theorem eqvAll_ints : ∀ a b : List Int, PyData.eqvAll (a.map .int) (b.map .int) = decide (a = b)
  | [], [] => rfl
  | [], _ :: _ => rfl
  | _ :: _, [] => rfl
  | x :: a, y :: b => by
    show (PyData.eqv (.int x) (.int y) && PyData.eqvAll (a.map .int) (b.map .int)) = _
    rw [eqvAll_ints a b]
    by_cases c : x = y
    · by_cases d : a = b
      · simp [PyData.eqv, c, d]
      · simp [PyData.eqv, c, d]
    · simp [PyData.eqv, c]
theorem eqv_ints (a b : List Int) : PyData.eqv (dInts a) (dInts b) = decide (a = b) := eqvAll_ints a b
theorem dp_ints {K : PySem.W.Frag} {H : Hp} {a : Addr} {ns : List Int} (h : SqL K H a (ns.map V.int)) : Dp K H (.ref a) (dInts ns) := .lst h (ints_dpAll ns)
theorem inV_int (i : Int) : ∀ row : List Int, inV (.int i) (row.map V.int) = decide (i ∈ row)
  | [] => rfl
  | x :: row => by
    show (eqV (.int x) (.int i) || inV (.int i) (row.map V.int)) = _
    rw [inV_int i row]
    by_cases c : i = x
    · subst c; simp [eqV]
    · have : ¬ x = i := fun e => c e.symm
      simp [eqV, this, c]
theorem flat_int : ∀ row : List Int, (row.map V.int).all flatV = true
  | [] => rfl
  | x :: row => by
    show (flatV (.int x) && (row.map V.int).all flatV) = true
    rw [flat_int row]; rfl
theorem x_inI {K : PySem.W.Frag} {H : Hp} {Q : VK} {p : Addr} {i : Int} {row : List Int} (e : SqL K H p (row.map V.int)) (h : Q (.bl (decide (i ∈ row))) H) : rIn K false (.int i) (.ref p) H Q := ⟨p, _, rfl, .inl e, rfl, flat_int row, by rw [if_neg Bool.false_ne_true, inV_int]; exact h⟩
/-! own exceptions made without arguments, raised and caught -/
section
variable {X : Cx} {x : Str} {p pos pos' : Pos}
/-- what the top says of an own exception class without __init__ -/
structure Xc (K : PySem.W.Frag) (mg : Str → Option Value) (x : Str) : Prop where
  q : PySem.W.excIn K (He.ga K x) He.veBase "ValueError.__new__" = true
  g : mg x = some (.ref (He.ga K x))
  k : PySem.W.keepIn K (.ref (He.ga K x)) = true
  s : PySem.W.subIn K (.ref (He.ga K x)) (.type "BaseException") = some true
  t : PySem.W.typeIn K (.ref (He.ga K x)) = some (.type "type")
theorem pmk_own0 (T : Xc X.K X.mg x) (hg : Gl X x) (hdb : (x == ("__debug__" : Str)) = false := by decide) : PMk X (.Call (.Name x p) [] [] pos) (fun _ H Q => Q (.ref (He.ga X.K x)) none H) := by
  intro pins s σ H Q I h
  refine wpAny_Call_Name_kw (ld_glob I hg T.g ?_ hdb)
  refine PySem.W.callWith_K0 I.kIn T.k ?_
  show wpAny _ _ (call (.ref (He.ga X.K x)) []) _ _ _
  obtain ⟨bm, N, nm, qn, bs, hdct, sn, sub, ab, col, dd, k0, k1, k2, k3, k5, mN, hC, hN, hni, T'⟩ := exc_obj I.kIn T.q
  refine PySem.wpAny_call_exc_subT PySem.F.excBase_ValueError T' hC hN hni (fun h' e hm => ?_) (Nat.zero_le _)
  exact mk_of I hm (raises_own T.s T.t) h (I.hok.gone hm.new)
abbrev wE (E : XK) : WX := fun cls d _ H => E cls d H
def tRaise (C : Addr) (W : WX) : TS := fun _ σ H => W (.ref C) none σ H
theorem ps_raise0 {W : WX} (hc : X.calm = true) (tk : Takes X W) (T : Xc X.K X.mg x) (hg : Gl X x) (hdb : (x == ("__debug__" : Str)) = false := by decide) :
    PS X (.Raise (some (.Call (.Name x p) [] [] pos)) none pos') (tRaise (He.ga X.K x) W) := ps_raise hc tk (pmk_own0 T hg hdb)
def tTryAs (K : PySem.W.Frag) (c : Value) (i : Nat) (ts : Addr → Value → Option Addr → TS) (Wout : WX) (tb : WX → TS) : TS := fun D σ H => tb (wAs K c i ts Wout D) D σ H
def rIsX (K : PySem.W.Frag) (a : Addr) (cls : Value) (d : Option Addr) : List V → Hp → VK → Prop := fun xs H Q => ∃ D, cls = .ref D ∧ d = none ∧ ExcC K D ∧ rIsE K D a xs H Q
theorem call_isX {a : Addr} {oe : Obj} {cls : Value} {d : Option Addr} {pn : List (Addr × Obj)} (hz : Zc cls d oe) (hf : ∃ vs, oe.data = .fields vs) : CallR (X.suite a ((a, oe) :: pn)) (.builtin "isinstance") (rIsX X.K a cls d) := by
  intro pins s σ H xs us Q I r h
  obtain ⟨D, rfl, rfl, C, h⟩ := h
  exact call_isE C hz hf pins s σ H xs us Q I r h
end
section
variable {X : Cx} {CX : CXT} {k j : Nat} {sp : Sp} {E : St → XK} {x : Str} {p pos : Pos} {e : Expr} {es : List Expr} {t : TA}
theorem pe_clS (c : Cl X.prog X.w X.K X.mg X.base CX k x sp) (hr : Room j X.A) (hk : k ≤ j) (hg : Gl X x) (hx : ∀ σ, PassesAt CX X σ (E σ)) (ha : PA X (e :: es) t)
    (hdb : (x == ("__debug__" : Str)) = false := by decide) (he : starEach (e :: es) X.env = (false, eval e X.env) :: starEach es X.env := by rfl) (hpl : (backTo pos (starEach es X.env)).any (·.1) = false := by rfl) : PE X (.Call (.Name x p) (e :: es) [] pos) (tCallS sp E t) := by
  obtain ⟨f, fd, ps, h1, h2, h3, h4⟩ := c.ex
  exact pe_callS h4 (hr.mono hk) hg h1 h2 h3 hx ha hdb he hpl
theorem x_callS {σ : St} {H : Hp} {Q : VK} (h : t σ H fun vs H1 => sp vs H1 Q (E σ)) : tCallS sp E t σ H Q := h
theorem x_tryAs {K : PySem.W.Frag} {c : Value} {i : Nat} {ts : Addr → Value → Option Addr → TS} {Wout : WX} {tb : WX → TS} {D : Ends} {σ : St} {H : Hp} (h : tb (wAs K c i ts Wout D) D σ H) : tTryAs K c i ts Wout tb D σ H := h
theorem x_isX {K : PySem.W.Frag} {a D : Addr} {cv : Value} {b : Bool} {c : V} {H : Hp} {Q : VK} (C : ExcC K D) (hc : ∀ u, RelV c u → u = cv) (hk : PySem.W.kitOne K (.ref D) cv = some b) (h : Q (.bl b) H) : rIsX K a (.ref D) none [.ref a, c] H Q := ⟨D, rfl, rfl, C, c, cv, b, rfl, hc, hk, h⟩
/-- the class that is caught -/
theorem x_caught {K : PySem.W.Frag} {c cls : Value} {i : Nat} {ts : Addr → Value → Option Addr → TS} {Wout : WX} {D : Ends} {σ : St} {H : Hp} {d : Option Addr} (m : PySem.W.exmOne K cls c = some true)
    (h : ∀ a, H a = none → ts a cls d { nx := fun σ' H' => D.nx (σ'.set i none) H', rt := D.rt, bk := fun σ' H' => D.bk (σ'.set i none) H', ct := fun σ' H' => D.ct (σ'.set i none) H' } (σ.set i (some (.ref a))) H) : wAs K c i ts Wout D cls d σ H := ⟨true, m, fun _ => h, fun q => Bool.noConfusion q⟩
end
/-- what is asked of the own exception classes cs (all under SusuError alone) -/
def excCB (K : PySem.W.Frag) (D : Addr) : Bool :=
  decide (PySem.W.findIn K (.ref D) "__getattribute__" = some (some (.builtin "BaseException.__getattribute__"))) && (decide (PySem.W.findIn K (.ref D) "__getattr__" = some none) &&
  (decide (PySem.W.subIn K (.ref D) (.type "BaseException") = some true) && (PySem.W.hasDictIn K D && (decide (PySem.W.findIn K (.ref D) "__class__" = some (some (.builtin "object.__class__"))) &&
  (decide (PySem.W.specialIn K (.builtin "object.__class__") "__get__" = some (some (.builtin "getset_descriptor.__get__"))) && (decide (PySem.W.takesIn K (.builtin "object.__class__") = some true) && decide (PySem.W.mroIn K D (.type "object") = some true)))))))
theorem excCB_ok {K : PySem.W.Frag} {D : Addr} (h : excCB K D = true) : ExcC K D := by
  simp only [excCB, Bool.and_eq_true, decide_eq_true_eq] at h
  obtain ⟨h1, h2, h3, h4, h5, h6, h7, h8⟩ := h
  exact ⟨h1, h2, h3, h4, h5, h6, h7, h8⟩
def xfB (K : PySem.W.Frag) (cs : List Str) : Bool := cs.all fun x => excCB K (He.ga K x) && (decide (PySem.W.exmOne K (.ref (He.ga K x)) (.ref (He.ga K "SusuError")) = some true) && (decide (PySem.W.kitOne K (.ref (He.ga K x)) (.type "ValueError") = some true) &&
  cs.all fun y => decide (PySem.W.kitOne K (.ref (He.ga K x)) (.ref (He.ga K y)) = some (x == y))))
structure Xf (K : PySem.W.Frag) (cs : List Str) : Prop where
  c : ∀ x ∈ cs, ExcC K (He.ga K x)
  m : ∀ x ∈ cs, PySem.W.exmOne K (.ref (He.ga K x)) (.ref (He.ga K "SusuError")) = some true
  v : ∀ x ∈ cs, PySem.W.kitOne K (.ref (He.ga K x)) (.type "ValueError") = some true
  k : ∀ x ∈ cs, ∀ y ∈ cs, PySem.W.kitOne K (.ref (He.ga K x)) (.ref (He.ga K y)) = some (x == y)
theorem xf_of {K : PySem.W.Frag} {cs : List Str} (h : xfB K cs = true) : Xf K cs := by
  simp only [xfB, List.all_eq_true, Bool.and_eq_true, decide_eq_true_eq] at h
  exact ⟨fun x hx => excCB_ok (h x hx).1, fun x hx => (h x hx).2.1, fun x hx => (h x hx).2.2.1, fun x hx y hy => (h x hx).2.2.2 y hy⟩
theorem x_augS {to ti te : TE} {tget : V → V → Hp → VK → Prop} {tip : TIp} {tset : TSet} {D : Ends} {σ : St} {H : Hp} (h : to σ H fun o H1 => ti σ H1 fun i H2 => tget o i H2 fun x H3 => te σ H3 fun y H4 => tip x y H4 fun z H5 => tset o i z H5 fun H6 => D.nx σ H6) : tAugS to ti te tget tip tset D σ H := h
theorem x_aug {te : TE} {ti : TIp} {D : Ends} {σ : St} {H : Hp} {i : Nat} {v : V} (e : σ[i]? = some (some v)) (h : te σ H fun y H1 => ti v y H1 fun z H2 => D.nx (σ.set i (some z)) H2) : tAug i te ti D σ H := ⟨v, e, h⟩
theorem x_ipI {f : Int → Int → Int} {i j : Int} {H : Hp} {Q : VK} (h : Q (.int (f i j)) H) : ipI f (.int i) (.int j) H Q := ⟨i, j, rfl, rfl, h⟩
end Su
namespace Su
open PySem L2
def top (i : Nat) : Stmt := PySem.Challenge.pw_susu_k12_orders_refused.main.body.getD i (.Pass ⟨0, 0, 0, 0⟩)
abbrev s_law_draws : Stmt := top 16
abbrev s_law_keeps : Stmt := top 19
abbrev s_law_row : Stmt := top 21
abbrev s_bits : Stmt := top 10
abbrev s_has_bit : Stmt := top 8
abbrev s_with_bit : Stmt := top 9
abbrev s_ways_on : Stmt := top 11
abbrev s_count_orders : Stmt := top 12
abbrev s_is_order : Stmt := top 5
abbrev s_number_of_order : Stmt := top 14
abbrev s_order_by_number : Stmt := top 13
abbrev s_law_tried : Stmt := top 20
abbrev s_law_whole : Stmt := top 17
abbrev s_law_wide : Stmt := top 18
abbrev s_law : Stmt := top 22
def dd_law_draws : He.DefD := ⟨("_law_draws", none), "_law_draws", "_law_draws", defArgs s_law_draws, defBody s_law_draws, defScope s_law_draws, [], []⟩
def dd_law_keeps : He.DefD := ⟨("_law_keeps", none), "_law_keeps", "_law_keeps", defArgs s_law_keeps, defBody s_law_keeps, defScope s_law_keeps, [], []⟩
def dd_law_row : He.DefD := ⟨("_law_row", none), "_law_row", "_law_row", defArgs s_law_row, defBody s_law_row, defScope s_law_row, [], []⟩
def dd_bits : He.DefD := ⟨("bits", none), "bits", "bits", defArgs s_bits, defBody s_bits, defScope s_bits, [], []⟩
def dd_has_bit : He.DefD := ⟨("has_bit", none), "has_bit", "has_bit", defArgs s_has_bit, defBody s_has_bit, defScope s_has_bit, [], []⟩
def dd_with_bit : He.DefD := ⟨("with_bit", none), "with_bit", "with_bit", defArgs s_with_bit, defBody s_with_bit, defScope s_with_bit, [], []⟩
def dd_ways_on : He.DefD := ⟨("ways_on", none), "ways_on", "ways_on", defArgs s_ways_on, defBody s_ways_on, defScope s_ways_on, [], []⟩
def dd_count_orders : He.DefD := ⟨("count_orders", none), "count_orders", "count_orders", defArgs s_count_orders, defBody s_count_orders, defScope s_count_orders, [], []⟩
def dd_is_order : He.DefD := ⟨("is_order", none), "is_order", "is_order", defArgs s_is_order, defBody s_is_order, defScope s_is_order, [], []⟩
def dd_number_of_order : He.DefD := ⟨("number_of_order", none), "number_of_order", "number_of_order", defArgs s_number_of_order, defBody s_number_of_order, defScope s_number_of_order, [], []⟩
def dd_order_by_number : He.DefD := ⟨("order_by_number", none), "order_by_number", "order_by_number", defArgs s_order_by_number, defBody s_order_by_number, defScope s_order_by_number, [], []⟩
def dd_law_tried : He.DefD := ⟨("_law_tried", none), "_law_tried", "_law_tried", defArgs s_law_tried, defBody s_law_tried, defScope s_law_tried, [], []⟩
def dd_law_whole : He.DefD := ⟨("_law_whole", none), "_law_whole", "_law_whole", defArgs s_law_whole, defBody s_law_whole, defScope s_law_whole, [], []⟩
def dd_law_wide : He.DefD := ⟨("_law_wide", none), "_law_wide", "_law_wide", defArgs s_law_wide, defBody s_law_wide, defScope s_law_wide, [], []⟩
def dd_law : He.DefD := ⟨("law", none), "law", "law", defArgs s_law, defBody s_law, defScope s_law, [], []⟩
def fns : List He.DefD := dd_law_draws :: dd_law_keeps :: dd_law_row :: dd_bits :: dd_has_bit :: dd_with_bit :: dd_ways_on :: dd_count_orders :: dd_is_order :: dd_number_of_order :: dd_order_by_number :: dd_law_tried :: dd_law_whole :: dd_law_wide :: dd_law :: []
abbrev R : PySem.W.OpenRow := PySem.W.OpenLaw.row PySem.Challenge.rw_susu_k12_orders_refused
def fas : List He.Fa := .glo "_law_draws" :: .glo "_law_keeps" :: .glo "_law_row" :: .glo "bits" :: .glo "has_bit" :: .glo "with_bit" :: .glo "ways_on" :: .glo "count_orders" :: .glo "is_order" :: .glo "number_of_order" :: .glo "order_by_number" :: .glo "_law_tried" :: .glo "_law_whole" :: .glo "_law_wide" :: .glo "law" :: .free "ValueError" :: .free "abs" :: .free "bool" :: .free "enumerate" :: .free "int" :: .free "isinstance" :: .free "len" :: .free "list" :: .free "range" :: .free "sorted" :: .int "MOST" 8 :: .glo "BadNumber" :: .glo "SusuError" :: .glo "TooMany" :: .exc "BadNumber" :: .exc "TooMany" :: []
abbrev hx (K : PySem.W.Frag) : Bool := xfB K ["TooMany", "BadNumber"]
abbrev hk : PySem.W.Hook := He.hookX 5 fas fns [] [] hx
def ob (s : PySem.W.SharedT) : He.AlX := He.obsX 5 fas fns [] [] hx (HandSHeadRun.getT s)
theorem ob_eq (s : PySem.W.SharedT) : ob s = hk.obs s.abs := He.obsX_eq (HandSHeadRun.getT_eq s)
def loose : List PySem.Str := "SusuError" :: "BadNumber" :: "TooMany" :: "is_order" :: "MOST" :: "has_bit" :: "with_bit" :: "bits" :: "ways_on" :: "count_orders" :: "order_by_number" :: "number_of_order" :: "_law_draws" :: "_law_whole" :: "_law_wide" :: "_law_keeps" :: "_law_tried" :: "_law_row" :: []
theorem run (w : World) : HandSHeadRun.RunEq R (PySem.W.view R.prog [22]) hk ob 4000 loose w := by
  intro os
  kernel_rfl
open PySem PySem.W PySem.Calls PyProof.Rows in
theorem hd_e : opening R.prog = plainProg R.prog.main.scope.names := by kernel_rfl
open PySem PySem.W PySem.Calls PyProof.Rows in
theorem hd_f : ∀ s, fenceModules? R.prog s = some s := fun s => by kernel_rfl
open PySem PySem.W PySem.Calls PyProof.Rows in
theorem hd_def : defOf (PySem.W.view R.prog [22]) R.name = some (HandSHeadRun.topDef R.prog 22, []) := by kernel_rfl
open PySem PySem.W PySem.Calls PyProof.Rows in
theorem hd_p : R.prog.theDef R.name = some ((HandSHeadRun.topDef R.prog 22).params, (HandSHeadRun.topDef R.prog 22).body, (HandSHeadRun.topDef R.prog 22).scope) := by kernel_rfl
open PySem PySem.W PySem.Calls PyProof.Rows in
theorem hd_k : kwWritten? (HandSHeadRun.topDef R.prog 22).params.kwonlyargs (HandSHeadRun.topDef R.prog 22).params.kw_defaults = some [] := by kernel_rfl
open PySem PySem.W PySem.Calls PyProof.Rows in
theorem hd_ok : (chainsOk (PySem.W.view R.prog [22]) && opensWell R.prog && (frees R.toRowW && R.within.isEmpty)) = true := by decide +kernel
end Su
namespace Su
open PySem L2
local macro_rules | `(tactic| walk_at "side") => `(tactic| first | assumption | (show (0 : Int) < _; omega) | (show (0 : Int) ≤ _; omega) | (show (0 : Int) < _; split <;> omega) | (show _ ∨ _; omega) | (show _ ∧ _; omega) | exact ⟨by decide, by decide, by decide⟩ | exact ⟨by first | assumption | omega, by first | assumption | omega⟩)
local macro_rules | `(tactic| walk_at "x") => `(tactic| first | with_reducible refine Su.x_seq ?_ | with_reducible refine Su.x_asg ?_ | with_reducible refine Su.x_gname ?_ | with_reducible refine Su.x_drop ?_ | with_reducible refine Su.x_ret ?_ | with_reducible refine Su.x_ifS ?_ | ((with_reducible show L2.tVar _ _ _ _); refine Su.x_var rfl ?_) | with_reducible refine Su.x_c ?_ | with_reducible refine Su.x_op ?_ | with_reducible refine Su.x_rI0 ?_ | ((with_reducible refine Su.x_rI ?_ ?_); focus walk_at "side") | with_reducible refine Su.x_rGt ?_ | with_reducible refine Su.x_test ?_ | with_reducible refine Su.x_isB' ?_ | with_reducible refine Su.x_and ?_ | with_reducible refine Su.x_nil ?_ | with_reducible refine Su.x_cons ?_ | with_reducible refine Su.x_cb ?_ | with_reducible refine Su.x_abs ?_ | with_reducible refine Su.x_lst ?_ | with_reducible refine Su.x_bmL ?_ | with_reducible refine Su.x_for ?_ | with_reducible refine Su.x_iList ?_ | with_reducible refine Su.x_whileN ?_)
local macro_rules | `(tactic| walk_at "xs") => `(tactic| repeat walk_at "x")
local macro_rules | `(tactic| walk_at "if") => `(tactic| first | with_reducible refine Su.x_iteD (fun c => ?_) (fun c => ?_) | with_reducible refine Su.x_iteN (fun c => ?_) (fun c => ?_) | with_reducible refine Su.x_ite (fun c => ?_) (fun c => ?_))

/-! _law_draws -/
def sp_law_draws (K : PySem.W.Frag) : Sp := fun vs H Q _ => ∃ (a : Addr) (ns : List Int) (many : Nat), vs = [.ref a, .int many] ∧ SqL K H a (ns.map V.int) ∧ ns.length ≤ 63 ∧ many ≤ 1000 ∧
  ∀ (p : Addr) (rows : List Int) (H' : Hp), H p = none → Same H H' → H' p = some (.lst (rows.map V.int)) → many ≤ rows.length → rows.length ≤ 2000 → (∀ x ∈ rows, -(10 ^ 18) < x ∧ x < 10 ^ 18) → Q (.ref p) H'
abbrev N_law_draws : List Str := ["_law_script", "_law_many", "_law_rows", "_law_mix", "_law_cell", "_law_rest"]
def t_law_draws (K : PySem.W.Frag) : TS :=
 (tSeq (tAsg (tLst tNil) (gName 2))
 (tSeq (tAsg (tC (.int 1)) (gName 3))
 (tSeq (tFor (iList K (tVar 0)) (gName 4)
 (tSeq (tAsg (tOp rMod (tOp rAdd (tOp rMul (tVar 3) (tC (.int 31))) (tVar 4)) (tC (.int 2147483647))) (gName 3))
 (tSeq (tAsg (tCB rAbs (tCons (tVar 4) tNil)) (gName 5))
 (C8.tCut (tIfS (tTest (tOp rLt (tVar 5) (tOp rPow (tC (.int 10)) (tC (.int 18)))))
 (tSeq (tDrop (tBM K "list" rAppend (tVar 2) (tCons (tVar 4) tNil)))
 (tAsg (tC (.int 0)) (gName 5)))
 tNext)
 (tWhile (tAnd (tTest (tOp rGt (tVar 5) (tC (.int 0)))) (tTest (tOp rLt (tCB (rLenSeq K) (tCons (tVar 2) tNil)) (tVar 1))))
 (tSeq (tDrop (tBM K "list" rAppend (tVar 2) (tCons (tOp rMod (tVar 5) (tC (.int 1000003))) tNil)))
 (tAsg (tOp rDiv (tVar 5) (tC (.int 1000003))) (gName 5))))))))
 (tSeq (tWhile (tTest (tOp rLt (tCB (rLenSeq K) (tCons (tVar 2) tNil)) (tVar 1)))
 (tSeq (tAsg (tOp rMod (tOp rAdd (tOp rMul (tVar 3) (tC (.int 48271))) (tC (.int 11))) (tC (.int 2147483647))) (gName 3))
 (tDrop (tBM K "list" rAppend (tVar 2) (tCons (tOp rMod (tOp rMul (tVar 3) (tVar 3)) (tC (.int 999983))) tNil)))))
 (tRet (tVar 2))))))

theorem len_law_draws {K : PySem.W.Frag} : ∀ vs H Q E, sp_law_draws K vs H Q E → vs.length = ["_law_script", "_law_many"].length := by
  rintro vs H Q E ⟨s, n, p, rfl, _⟩; rfl
structure DrawSt (H : Hp) (p : Addr) (rows : List Int) (H' : Hp) : Prop where
  s : Same H H'
  o : H' p = some (.lst (rows.map V.int))
  b : ∀ x ∈ rows, -(10 ^ 18) < x ∧ x < 10 ^ 18
theorem DrawSt.push {H : Hp} {p : Addr} {rows : List Int} {H' : Hp} (h : DrawSt H p rows H') (np : H p = none) {x : Int} (hx : -(10 ^ 18) < x ∧ x < 10 ^ 18) : DrawSt H p (rows ++ [x]) (upd H' p (.lst (rows.map V.int ++ [.int x]))) where
  s := fun b o e => by rw [upd_ne (ne_of_none e np)]; exact h.s b o e
  o := by rw [upd_same, List.map_append]; rfl
  b := fun y hy => by
    rcases List.mem_append.mp hy with q | q
    · exact h.b y q
    · cases List.mem_singleton.mp q; exact hx
theorem pure_law_draws {K : PySem.W.Frag} {vs : List V} {H : Hp} {Q : VK} {E : XK} (h : sp_law_draws K vs H Q E) : t_law_draws K { nx := fun _ H' => Q .non H', rt := Q } (start N_law_draws vs) H := by
  obtain ⟨a, ns, many, rfl, hS, hl, hm, k⟩ := h
  unfold t_law_draws
  walk_at "xs"
  refine ⟨by decide, fun p np => ?_⟩
  walk_at "xs"
  refine ⟨a, rfl, ⟨_, Same.seq (H := H) (fun b o e => by rw [upd_ne (ne_of_none e np)]; exact e) hS⟩, for_list (K := K) (a := a) (xs := ns.map V.int) (fun i σ H' => ∃ (rows : List Int) (mix : Int) (u v : Option V),
      σ = [some (.ref a), some (.int many), some (.ref p), some (.int mix), u, v] ∧ DrawSt H p rows H' ∧ rows.length ≤ i + many ∧ 0 ≤ mix ∧ mix < 2147483647)
    ⟨[], 1, none, none, rfl, ⟨fun b o e => by rw [upd_ne (ne_of_none e np)]; exact e, upd_same, fun _ h => nomatch h⟩, by simp, by decide, by decide⟩ (fun i σ H' _ ⟨_, _, _, _, _, d, _⟩ => d.s.seq hS) ?_ ?_⟩
  · rintro i y σ H1 hi ⟨rows, mix, u, v, rfl, d, hr, m0, m1⟩
    obtain ⟨z, rfl⟩ : ∃ z, y = V.int z := by
      rw [List.getElem?_map] at hi
      cases e : ns[i]? with
      | none => rw [e] at hi; cases hi
      | some z => rw [e] at hi; exact ⟨z, (Option.some.inj hi).symm⟩
    have hil : i < ns.length := by
      have := (List.getElem?_eq_some_iff.mp hi).1
      rwa [List.length_map] at this
    have hq : (0 : Int) ≤ (mix * 31 + z) % 2147483647 ∧ (mix * 31 + z) % 2147483647 < 2147483647 := ⟨Int.emod_nonneg _ (by decide), Int.emod_lt_of_pos _ (by decide)⟩
    -- the while, from any state
    have loop : ∀ (D : Ends) (rows : List Int) (rest : Int) (u : Option V) (H2 : Hp), DrawSt H p rows H2 → 0 ≤ rest → rows.length ≤ i + 1 + many → 
        (∀ rows' rest' H3, DrawSt H p rows' H3 → rows'.length ≤ i + 1 + many → D.nx [some (.ref a), some (.int many), some (.ref p), some (.int ((mix * 31 + z) % 2147483647)), u, some (.int rest')] H3) →
        tWhile (tAnd (tTest (tOp rGt (tVar 5) (tC (V.int 0)))) (tTest (tOp rLt (tCB (rLenSeq K) (tCons (tVar 2) tNil)) (tVar 1))))
            (tSeq (tDrop (tBM K "list" rAppend (tVar 2) (tCons (tOp rMod (tVar 5) (tC (V.int 1000003))) tNil)))
              (tAsg (tOp rDiv (tVar 5) (tC (V.int 1000003))) (gName 5))) D [some (.ref a), some (.int many), some (.ref p), some (.int ((mix * 31 + z) % 2147483647)), u, some (.int rest)] H2 := by
      intro D rows rest u H2 d h0 hr kk
      refine ⟨fun m σ H2 => ∃ rows rest, σ = [some (.ref a), some (.int many), some (.ref p), some (.int ((mix * 31 + z) % 2147483647)), u, some (.int rest)] ∧ DrawSt H p rows H2 ∧ 0 ≤ rest ∧ rows.length ≤ i + 1 + many ∧ m = rest.toNat, ⟨_, rows, rest, rfl, d, h0, hr, rfl⟩, ?_⟩
      rintro m σ H2 ⟨rows, rest, rfl, d, h0, hr, rfl⟩
      walk_at "xs"
      walk_at "if"
      · walk_at "xs"
        refine x_lenL (SqL.of d.o) ?_
        walk_at "xs"
        walk_at "if"
        · rename_i c1 c2
          have c2' : rows.length < many := by rw [List.length_map] at c2; exact Int.ofNat_lt.mp c2
          walk_at "xs"
          refine ⟨tyL (SqL.of d.o), ?_⟩
          walk_at "xs"
          refine x_append d.o (small (by rw [List.length_map]; omega)) ?_
          have b0 := Int.emod_nonneg rest (show (1000003 : Int) ≠ 0 by decide)
          have b1 := Int.emod_lt_of_pos rest (show (0 : Int) < 1000003 by decide)
          walk_at "xs"
          exact ⟨_, by show (rest / 1000003).toNat < rest.toNat; omega, rows ++ [rest % 1000003], rest / 1000003, rfl, d.push np ⟨by omega, by omega⟩, by omega, by rw [List.length_append]; simp; omega, rfl⟩
        · exact kk rows rest H2 d hr
      · exact kk rows rest H2 d hr
    walk_at "xs"
    refine x_cut (fun σ H2 => ∃ (rows : List Int) (rest : Int), σ = [some (.ref a), some (.int many), some (.ref p), some (.int ((mix * 31 + z) % 2147483647)), some (.int z), some (.int rest)] ∧ DrawSt H p rows H2 ∧ 0 ≤ rest ∧ rows.length ≤ i + 1 + many) ?_ ?_
    · walk_at "xs"
      walk_at "if"
      · rename_i c1
        walk_at "xs"
        refine ⟨tyL (SqL.of d.o), ?_⟩
        walk_at "xs"
        have hz : -(10 ^ 18) < z ∧ z < 10 ^ 18 := by
          by_cases z0 : z < 0
          · rw [if_pos z0] at c1; exact ⟨by have : -z < 10 ^ 18 := c1; omega, by omega⟩
          · rw [if_neg z0] at c1; exact ⟨by omega, c1⟩
        refine x_append d.o (small (by rw [List.length_map]; omega)) ?_
        walk_at "xs"
        exact ⟨rows ++ [z], 0, rfl, d.push np hz, by decide, by rw [List.length_append]; simp; omega⟩
      · refine ⟨rows, _, rfl, d, ?_, by omega⟩
        by_cases z0 : z < 0
        · rw [if_pos z0]; omega
        · rw [if_neg z0]; omega
    rintro _ _ ⟨rows, rest, rfl, d, h0, hr⟩
    refine loop _ rows rest _ _ d h0 hr fun rows' rest' H3 d3 h3 => ?_
    exact ⟨rows', _, _, _, rfl, d3, h3, hq.1, hq.2⟩
  · rintro σ H1 ⟨rows, mix, u, v, rfl, d, hr, m0, m1⟩
    rw [List.length_map] at hr
    walk_at "xs"
    refine ⟨fun m σ H2 => ∃ (rows : List Int) (mix : Int), σ = [some (.ref a), some (.int many), some (.ref p), some (.int mix), u, v] ∧ DrawSt H p rows H2 ∧ rows.length ≤ 63 + many ∧ 0 ≤ mix ∧ mix < 2147483647 ∧ m = many - rows.length, ⟨_, rows, mix, rfl, d, by omega, m0, m1, rfl⟩, ?_⟩
    rintro m σ H2 ⟨rows, mix, rfl, d, hr, m0, m1, rfl⟩
    walk_at "xs"
    refine x_lenL (SqL.of d.o) ?_
    walk_at "xs"
    walk_at "if"
    · rename_i c2
      have c2' : rows.length < many := by rw [List.length_map] at c2; exact Int.ofNat_lt.mp c2
      have hq : (0 : Int) ≤ (mix * 48271 + 11) % 2147483647 ∧ (mix * 48271 + 11) % 2147483647 < 2147483647 := ⟨Int.emod_nonneg _ (by decide), Int.emod_lt_of_pos _ (by decide)⟩
      walk_at "xs"
      refine ⟨tyL (SqL.of d.o), ?_⟩
      walk_at "xs"
      refine x_append d.o (small (by rw [List.length_map]; omega)) ?_
      have b0 := Int.emod_nonneg ((mix * 48271 + 11) % 2147483647 * ((mix * 48271 + 11) % 2147483647)) (show (999983 : Int) ≠ 0 by decide)
      have b1 := Int.emod_lt_of_pos ((mix * 48271 + 11) % 2147483647 * ((mix * 48271 + 11) % 2147483647)) (show (0 : Int) < 999983 by decide)
      exact ⟨_, by show many - (rows.length + 1) < many - rows.length; omega, rows ++ [_], _, rfl, d.push np ⟨by omega, by omega⟩, by rw [List.length_append]; simp; omega, hq.1, hq.2, by rw [List.length_append]; rfl⟩
    · rename_i c2
      have c2' : many ≤ rows.length := by
        rw [List.length_map] at c2
        omega
      walk_at "xs"
      exact k p rows H2 np d.s d.o c2' (by omega) d.b

end Su
namespace Su
open PySem L2
local macro_rules | `(tactic| walk_at "side") => `(tactic| first | assumption | (show (0 : Int) < _; omega) | (show (0 : Int) ≤ _; omega) | (show (0 : Int) < _; split <;> omega) | (show _ ∨ _; omega) | (show _ ∧ _; omega) | exact ⟨by decide, by decide, by decide⟩ | exact ⟨by first | assumption | omega, by first | assumption | omega⟩)
local macro_rules | `(tactic| walk_at "x") => `(tactic| first | with_reducible refine Su.x_seq ?_ | with_reducible refine Su.x_asg ?_ | with_reducible refine Su.x_gname ?_ | with_reducible refine Su.x_drop ?_ | with_reducible refine Su.x_ret ?_ | with_reducible refine Su.x_ifS ?_ | ((with_reducible show L2.tVar _ _ _ _); refine Su.x_var rfl ?_) | with_reducible refine Su.x_op ?_ | with_reducible refine Su.x_rI0 ?_ | with_reducible refine Su.x_rGe ?_ | with_reducible refine Su.x_iteF ?_ | with_reducible refine Su.x_test ?_ | with_reducible refine Su.x_isB' ?_ | with_reducible refine Su.x_and ?_ | with_reducible refine Su.x_nil ?_ | with_reducible refine Su.x_cons ?_ | with_reducible refine Su.x_lst ?_ | with_reducible refine Su.x_bmL ?_ | with_reducible refine Su.x_next ?_ | with_reducible refine Su.x_for ?_ | with_reducible refine Su.x_iEnum ?_ | with_reducible refine Su.x_gcons ?_ | with_reducible refine Su.x_gnil ?_)
local macro_rules | `(tactic| walk_at "xs") => `(tactic| repeat walk_at "x")
local macro_rules | `(tactic| walk_at "if") => `(tactic| first | with_reducible refine Su.x_iteD (fun c => ?_) (fun c => ?_) | with_reducible refine Su.x_iteN (fun c => ?_) (fun c => ?_) | with_reducible refine Su.x_ite (fun c => ?_) (fun c => ?_))

/-! within -/
def nI (l : List Nat) : List V := l.map fun (i : Nat) => V.int (i : Int)
end Su
namespace Su
open PySem L2
local macro_rules | `(tactic| walk_at "side") => `(tactic| first | assumption | (show (0 : Int) < _; omega) | (show (0 : Int) ≤ _; omega) | (show (0 : Int) < _; split <;> omega) | (show _ ∨ _; omega) | (show _ ∧ _; omega) | exact ⟨by decide, by decide, by decide⟩ | exact ⟨by first | assumption | omega, by first | assumption | omega⟩)
local macro_rules | `(tactic| walk_at "x") => `(tactic| first | with_reducible refine Su.x_seq ?_ | with_reducible refine Su.x_asg ?_ | with_reducible refine Su.x_gname ?_ | with_reducible refine Su.x_drop ?_ | with_reducible refine Su.x_ret ?_ | with_reducible refine Su.x_ifS ?_ | ((with_reducible show L2.tVar _ _ _ _); refine Su.x_var rfl ?_) | with_reducible refine Su.x_c ?_ | with_reducible refine Su.x_op ?_ | with_reducible refine Su.x_rI0 ?_ | ((with_reducible refine Su.x_rI ?_ ?_); focus walk_at "side") | with_reducible refine Su.x_rGt ?_ | with_reducible refine Su.x_iteF ?_ | with_reducible refine Su.x_test ?_ | with_reducible refine Su.x_isB' ?_ | with_reducible refine Su.x_and ?_ | with_reducible refine Su.x_nil ?_ | with_reducible refine Su.x_cons ?_ | with_reducible refine Su.x_cb ?_ | with_reducible refine Su.x_min2 ?_ | with_reducible refine Su.x_lst ?_ | with_reducible refine Su.x_tup ?_ | with_reducible refine Su.x_bmL ?_ | with_reducible refine Su.x_next ?_ | with_reducible refine Su.x_for ?_ | with_reducible refine Su.x_iRng1 ?_)
local macro_rules | `(tactic| walk_at "xs") => `(tactic| repeat walk_at "x")
local macro_rules | `(tactic| walk_at "if") => `(tactic| first | with_reducible refine Su.x_iteD (fun c => ?_) (fun c => ?_) | with_reducible refine Su.x_iteN (fun c => ?_) (fun c => ?_) | with_reducible refine Su.x_ite (fun c => ?_) (fun c => ?_))

/-! _law_windows -/
/-- each first and last from 1 to the number -/
def WinOk (n : Nat) (ws : List (Int × Int)) : Prop := ∀ w ∈ ws, 1 ≤ w.1 ∧ w.1 ≤ n ∧ 1 ≤ w.2 ∧ w.2 ≤ n
end Su
namespace Su
open PySem L2
local macro_rules | `(tactic| walk_at "side") => `(tactic| first | assumption | (show (0 : Int) < _; omega) | (show (0 : Int) ≤ _; omega) | (show (0 : Int) < _; split <;> omega) | (show _ ∨ _; omega) | (show _ ∧ _; omega) | exact ⟨by decide, by decide, by decide⟩ | exact ⟨by first | assumption | omega, by first | assumption | omega⟩)
local macro_rules | `(tactic| walk_at "xs") => `(tactic| repeat walk_at "x")
local macro_rules | `(tactic| walk_at "if") => `(tactic| first | with_reducible refine Su.x_iteD (fun c => ?_) (fun c => ?_) | with_reducible refine Su.x_iteN (fun c => ?_) (fun c => ?_) | with_reducible refine Su.x_ite (fun c => ?_) (fun c => ?_))

/-! windows, orders, bars: the mathematics -/
theorem nodup_sub : ∀ {l m : List Nat}, l.Nodup → (∀ x ∈ l, x ∈ m) → l.length ≤ m.length
  | [], _, _, _ => Nat.zero_le _
  | x :: l, m, h, s => by
    have hx := s x (List.mem_cons_self ..)
    have h1 : x ∉ l := (List.nodup_cons.mp h).1
    have h2 := nodup_sub (l := l) (m := m.erase x) (List.nodup_cons.mp h).2 fun y hy => by
      have : y ≠ x := fun e => h1 (e ▸ hy)
      exact (List.mem_erase_of_ne this).mpr (s y (List.mem_cons_of_mem _ hy))
    rw [List.length_erase_of_mem hx] at h2
    have : 0 < m.length := List.length_pos_of_mem hx
    simp only [List.length_cons]
    omega
theorem nodup_all {row : List Nat} {n : Nat} (h : row.Nodup) (hl : row.length = n) (hb : ∀ x ∈ row, x < n) {c : Nat} (hc : c < n) : c ∈ row := by
  by_cases e : c ∈ row
  · exact e
  · exfalso
    have h1 : (c :: row).Nodup := List.nodup_cons.mpr ⟨e, h⟩
    have h2 := nodup_sub (m := List.range n) h1 fun x hx => by
      rcases List.mem_cons.mp hx with r | r
      · exact r ▸ List.mem_range.mpr hc
      · exact List.mem_range.mpr (hb x r)
    simp only [List.length_cons, List.length_range] at h2
    omega
def w1 (ws : List (Int × Int)) (i : Nat) : Int := (ws.getD i (0, 0)).1
def w2 (ws : List (Int × Int)) (i : Nat) : Int := (ws.getD i (0, 0)).2
/-- an order of the windows -/
structure IsOrder (ws : List (Int × Int)) (row : List Nat) : Prop where
  len : row.length = ws.length
  nd : row.Nodup
  lt : ∀ x ∈ row, x < ws.length
  fit : ∀ k (h : k < row.length), w1 ws row[k] ≤ (k : Int) + 1 ∧ (k : Int) + 1 ≤ w2 ws row[k]
/-! ### the greedy way -/
end Su
namespace Su
open PySem L2
local macro_rules | `(tactic| walk_at "side") => `(tactic| first | assumption | (show (0 : Int) < _; omega) | (show (0 : Int) ≤ _; omega) | (show (0 : Int) < _; split <;> omega) | (show _ ∨ _; omega) | (show _ ∧ _; omega) | exact ⟨by decide, by decide, by decide⟩ | exact ⟨by first | assumption | omega, by first | assumption | omega⟩)
local macro_rules | `(tactic| walk_at "x") => `(tactic| first | with_reducible refine Su.x_seq ?_ | with_reducible refine Su.x_gname ?_ | with_reducible refine Su.x_ret ?_ | with_reducible refine Su.x_ifS ?_ | ((with_reducible show L2.tVar _ _ _ _); refine Su.x_var rfl ?_) | with_reducible refine Su.x_c ?_ | with_reducible refine Su.x_op ?_ | with_reducible refine Su.x_iteT ?_ | with_reducible refine Su.x_eqI ?_ | with_reducible refine Su.x_eqB ?_ | with_reducible refine Su.x_neB ?_ | with_reducible refine Su.x_test ?_ | with_reducible refine Su.x_tB ?_ | with_reducible refine Su.x_isB' ?_ | with_reducible refine Su.x_not ?_ | with_reducible refine Su.x_and ?_ | with_reducible refine Su.x_or ?_ | with_reducible refine Su.x_andV ?_ | with_reducible refine Su.x_nil ?_ | with_reducible refine Su.x_cons ?_ | with_reducible refine Su.x_cb ?_ | with_reducible refine Su.x_call ?_ | with_reducible refine Su.x_next ?_ | with_reducible refine Su.x_iZipA ?_ | with_reducible refine Su.x_gcons ?_ | with_reducible refine Su.x_gnil ?_ | with_reducible refine Su.x_yes ?_ | with_reducible refine Su.x_lc ?_)
local macro_rules | `(tactic| walk_at "xs") => `(tactic| repeat walk_at "x")
local macro_rules | `(tactic| walk_at "if") => `(tactic| first | with_reducible refine Su.x_iteD (fun c => ?_) (fun c => ?_) | with_reducible refine Su.x_iteN (fun c => ?_) (fun c => ?_) | with_reducible refine Su.x_ite (fun c => ?_) (fun c => ?_))

/-! _law_same: two data alike -/
section
variable {K : PySem.W.Frag} {H : Hp} {Q : VK} {x : V} {d : PyData}
end
end Su
namespace Su
open PySem L2
local macro_rules | `(tactic| walk_at "side") => `(tactic| first | assumption | (show (0 : Int) < _; omega) | (show (0 : Int) ≤ _; omega) | (show (0 : Int) < _; split <;> omega) | (show _ ∨ _; omega) | (show _ ∧ _; omega) | exact ⟨by decide, by decide, by decide⟩ | exact ⟨by first | assumption | omega, by first | assumption | omega⟩)
local macro_rules | `(tactic| walk_at "xs") => `(tactic| repeat walk_at "x")
local macro_rules | `(tactic| walk_at "if") => `(tactic| first | with_reducible refine Su.x_iteD (fun c => ?_) (fun c => ?_) | with_reducible refine Su.x_iteN (fun c => ?_) (fun c => ?_) | with_reducible refine Su.x_ite (fun c => ?_) (fun c => ?_))

/-! windows by index, lists of numbers as data -/
section
variable {K : PySem.W.Frag} {H : Hp} {Q : VK} {a t p : Addr} {i : Int} {v w : V} {r : List V}
theorem x_winix {ws : List (Int × Int)} (h : Dp K H (.ref a) (dWin ws)) (h0 : 0 ≤ i) (h1 : i < ws.length) (k : ∀ t, SqT K H t [.int (ws.getD i.toNat (0, 0)).1, .int (ws.getD i.toNat (0, 0)).2] → Q (.ref t) H) : rIxL K (.ref a) (.int i) H Q := by
  obtain ⟨q, xs, e, hq, hx, hat⟩ := win_at h
  cases e
  have h2 : i.toNat < xs.length := by omega
  obtain ⟨w, t, ew, et, ht⟩ := hat i.toNat _ (List.getElem?_eq_getElem h2)
  have hd : ws.getD i.toNat (0, 0) = w := by rw [List.getD_eq_getElem?_getD, ew]; rfl
  refine x_ixL (v := .ref t) hq ?_ (k t (by rw [hd]; exact ht))
  rw [at_get (d := .non) h0 (by omega), List.getD_eq_getElem?_getD, List.getElem?_eq_getElem h2, et]
  rfl
theorem x_ix0 (e : SqT K H t (v :: r)) (h : Q v H) : rIxT K (.ref t) (.int 0) H Q := x_ixT e (by
  unfold atI ixN
  rw [if_pos (by decide), if_pos (by simp)]
  rfl) h
theorem x_ix1 (e : SqT K H t (w :: v :: r)) (h : Q v H) : rIxT K (.ref t) (.int 1) H Q := x_ixT e (by
  unfold atI ixN
  rw [if_pos (by decide), if_pos (by simp; omega)]
  rfl) h
end
end Su
namespace Su
open PySem L2
local macro_rules | `(tactic| walk_at "side") => `(tactic| first | assumption | (show (0 : Int) < _; omega) | (show (0 : Int) ≤ _; omega) | (show (0 : Int) < _; split <;> omega) | (show _ ∨ _; omega) | (show _ ∧ _; omega) | exact ⟨by decide, by decide, by decide⟩ | exact ⟨by first | assumption | omega, by first | assumption | omega⟩)
local macro_rules | `(tactic| walk_at "xs") => `(tactic| repeat walk_at "x")
local macro_rules | `(tactic| walk_at "if") => `(tactic| first | with_reducible refine Su.x_iteD (fun c => ?_) (fun c => ?_) | with_reducible refine Su.x_iteN (fun c => ?_) (fun c => ?_) | with_reducible refine Su.x_ite (fun c => ?_) (fun c => ?_))

/-! what walks over windows share -/
section
variable {K : PySem.W.Frag} {H : Hp} {Q : VK} {p : Addr} {i : Nat} {row : List Nat}
theorem nI_len (l : List Nat) : (nI l).length = l.length := List.length_map ..
theorem nI_snoc (l : List Nat) (x : Nat) : nI (l ++ [x]) = nI l ++ [.int (x : Int)] := by unfold nI; rw [List.map_append]; rfl
end
end Su
namespace Su
open PySem L2
local macro_rules | `(tactic| walk_at "side") => `(tactic| first | assumption | (show (0 : Int) < _; omega) | (show (0 : Int) ≤ _; omega) | (show (0 : Int) < _; split <;> omega) | (show _ ∨ _; omega) | (show _ ∧ _; omega) | exact ⟨by decide, by decide, by decide⟩ | exact ⟨by first | assumption | omega, by first | assumption | omega⟩)
local macro_rules | `(tactic| walk_at "x") => `(tactic| first | with_reducible refine Su.x_seq ?_ | with_reducible refine Su.x_gname ?_ | with_reducible refine Su.x_ret ?_ | with_reducible refine Su.x_ifS ?_ | ((with_reducible show L2.tVar _ _ _ _); refine Su.x_var rfl ?_) | with_reducible refine Su.x_c ?_ | with_reducible refine Su.x_op ?_ | with_reducible refine Su.x_rI0 ?_ | with_reducible refine Su.x_iteT ?_ | with_reducible refine Su.x_iteNF ?_ | with_reducible refine Su.x_neI ?_ | with_reducible refine Su.x_test ?_ | with_reducible refine Su.x_isB' ?_ | with_reducible refine Su.x_not ?_ | with_reducible refine Su.x_or ?_ | with_reducible refine Su.x_chain ?_ | with_reducible refine Su.x_nil ?_ | with_reducible refine Su.x_cons ?_ | with_reducible refine Su.x_cb ?_ | with_reducible refine Su.x_next ?_ | with_reducible refine Su.x_for ?_ | with_reducible refine Su.x_iEnum ?_ | with_reducible refine Su.x_gcons ?_ | with_reducible refine Su.x_gnil ?_ | with_reducible refine Su.x_isI ?_ | with_reducible refine Su.x_lstRg ?_ | with_reducible refine Su.x_rg1 ?_)
local macro_rules | `(tactic| walk_at "xs") => `(tactic| repeat walk_at "x")
local macro_rules | `(tactic| walk_at "if") => `(tactic| first | with_reducible refine Su.x_iteD (fun c => ?_) (fun c => ?_) | with_reducible refine Su.x_iteN (fun c => ?_) (fun c => ?_) | with_reducible refine Su.x_ite (fun c => ?_) (fun c => ?_))

/-! _law_keeps: is a row of numbers an order of the windows -/
def KeepsP (ws : List (Int × Int)) (row : List Int) : Prop := ∃ r : List Nat, row = r.map (fun (i : Nat) => (i : Int)) ∧ IsOrder ws r
theorem perm_nat {row : List Int} {n : Nat} (h : row.Perm ((List.range n).map fun (i : Nat) => (i : Int))) : ∃ r : List Nat, row = r.map (fun (i : Nat) => (i : Int)) ∧ r.Perm (List.range n) := by
  refine ⟨row.map Int.toNat, ?_, ?_⟩
  · rw [List.map_map]
    have : ∀ x ∈ row, ((fun (i : Nat) => (i : Int)) ∘ Int.toNat) x = x := fun x hx => by
      obtain ⟨i, _, rfl⟩ := List.mem_map.mp (h.mem_iff.mp hx)
      show ((i : Int).toNat : Int) = i
      omega
    rw [List.map_congr_left this, List.map_id']
  · have := h.map Int.toNat
    rw [List.map_map] at this
    have e : (List.range n).map (Int.toNat ∘ fun (i : Nat) => (i : Int)) = List.range n := by
      rw [List.map_congr_left (g := id) (fun i _ => by show (i : Int).toNat = i; omega), List.map_id]
    rw [e] at this
    exact this
theorem sorted_range (n : Nat) : ((List.range n).map fun (i : Nat) => (i : Int)).Pairwise (· ≤ ·) := by
  rw [List.pairwise_map]
  exact List.Pairwise.imp (fun h => by omega) List.pairwise_lt_range
theorem sorted_iff {row ns : List Int} {n : Nat} (pm : ns.Perm row) (pw : ns.Pairwise (· ≤ ·)) : ns = (List.range n).map (fun (i : Nat) => (i : Int)) ↔ row.Perm ((List.range n).map fun (i : Nat) => (i : Int)) := by
  constructor
  · intro e; rw [← e]; exact pm.symm
  · intro h
    exact List.Perm.eq_of_pairwise (fun _ _ _ _ a b => Int.le_antisymm a b) pw (sorted_range n) (pm.trans h)
theorem ints_nI (r : List Nat) : (r.map fun (i : Nat) => (i : Int)).map V.int = nI r := by rw [List.map_map]; rfl
theorem order_of_perm {ws : List (Int × Int)} {r : List Nat} (pm : r.Perm (List.range ws.length)) (fit : ∀ k (h : k < r.length), w1 ws r[k] ≤ (k : Int) + 1 ∧ (k : Int) + 1 ≤ w2 ws r[k]) : IsOrder ws r :=
  ⟨by rw [pm.length_eq, List.length_range], pm.nodup_iff.mpr List.nodup_range, fun x hx => List.mem_range.mp (pm.mem_iff.mp hx), fit⟩
theorem perm_of_order {ws : List (Int × Int)} {r : List Nat} (o : IsOrder ws r) : r.Perm (List.range ws.length) := by
  rw [List.perm_ext_iff_of_nodup o.nd List.nodup_range]
  intro a
  rw [List.mem_range]
  exact ⟨o.lt a, fun h => nodup_all o.nd o.len o.lt h⟩
def sp_law_keeps (K : PySem.W.Frag) : Sp := fun vs H Q _ => ∃ (v : V) (ws : List (Int × Int)) (p : Addr) (row : List Int), vs = [v, .ref p] ∧ Dp K H v (dWin ws) ∧ SqL K H p (row.map V.int) ∧ ws.length ≤ 1000 ∧
  ∀ b H', Same H H' → (b = true ↔ KeepsP ws row) → Q (.bl b) H'
abbrev N_law_keeps : List Str := ["_law_windows", "_law_row_here", "_law_at", "_law_number"]
def t_law_keeps (K : PySem.W.Frag) : TS :=
 (tSeq (tIfS (tOr (tTest (tOp rNe (tCB (rLenSeq K) (tCons (tVar 1) tNil)) (tCB (rLenSeq K) (tCons (tVar 0) tNil)))) (tTest (tOp (rNeD K) (tCB (rSortedI K) (tCons (tVar 1) tNil)) (tLstRg (tRg1 (tCB (rLenSeq K) (tCons (tVar 0) tNil)))))))
 (tRet (tC (.bl false)))
 tNext)
 (tSeq (tFor (iEnum K (tCons (tVar 1) tNil)) (gTup K 2 (gCons (gName 2) (gCons (gName 3) gNil)))
 (tIfS (tNot (tTest (tChain rLe rLe (tOp (rIxT K) (tOp (rIxL K) (tVar 0) (tVar 3)) (tC (.int 0))) (tOp rAdd (tVar 2) (tC (.int 1))) (tOp (rIxT K) (tOp (rIxL K) (tVar 0) (tVar 3)) (tC (.int 1))))))
 (tRet (tC (.bl false)))
 tNext))
 (tRet (tC (.bl true)))))

theorem len_law_keeps {K : PySem.W.Frag} : ∀ vs H Q E, sp_law_keeps K vs H Q E → vs.length = ["a", "b"].length := by
  rintro vs H Q E ⟨_, _, _, _, rfl, _⟩; rfl
theorem pure_law_keeps {K : PySem.W.Frag} {vs : List V} {H : Hp} {Q : VK} {E : XK} (h : sp_law_keeps K vs H Q E) : t_law_keeps K { nx := fun _ H' => Q .non H', rt := Q } (start N_law_keeps vs) H := by
  obtain ⟨v, ws, p, row, rfl, hw, hp, hl, k⟩ := h
  obtain ⟨q, xs, rfl, hq, hx, hat⟩ := win_at hw
  have no : ¬ KeepsP ws row → ∀ H', Same H H' → Q (.bl false) H' := fun h H' s => k false H' s ⟨(fun z => by cases z), fun z => absurd z h⟩
  have pmK : KeepsP ws row → row.Perm ((List.range ws.length).map fun (i : Nat) => (i : Int)) := by
    rintro ⟨r, rfl, o⟩
    exact (perm_of_order o).map _
  unfold t_law_keeps
  walk_at "xs"
  refine x_lenL hp ?_
  walk_at "xs"
  refine x_lenL hq ?_
  rw [hx, List.length_map]
  walk_at "xs"
  walk_at "if"
  · rename_i c
    walk_at "xs"
    refine no (fun z => c ?_) H (Same.refl H)
    have := (pmK z).length_eq
    rw [List.length_map, List.length_range] at this
    omega
  rename_i c
  have hlen : row.length = ws.length := by omega
  walk_at "xs"
  refine al_sorted hp fun ps ns H1 nps s1 pm pw hps => ?_
  walk_at "xs"
  refine x_lenL (s1.seq hq) ?_
  rw [hx]
  walk_at "xs"
  refine al_rg rfl (by omega) fun pr H2 npr s2 hpr => ?_
  have hpr' : H2 pr = some (.lst (((List.range ws.length).map fun (i : Nat) => (i : Int)).map V.int)) := by rw [hpr, List.map_map]; rfl
  walk_at "xs"
  refine ⟨dInts ns, dInts ((List.range ws.length).map fun (i : Nat) => (i : Int)), dp_ints (SqL.of (s2 _ _ hps)), dp_ints (SqL.of hpr'), shaped_ints _, shaped_ints _, ?_⟩
  rw [eqv_ints]
  have s12 := s1.trans s2
  walk_at "xs"
  walk_at "if"
  · rename_i c2
    walk_at "xs"
    exact no (fun z => c2 ((sorted_iff pm pw).mpr (pmK z))) H2 s12
  rename_i c2
  obtain ⟨r, rfl, pr'⟩ := perm_nat ((sorted_iff pm pw).mp c2)
  rw [ints_nI] at hp
  have rl : r.length = ws.length := by rw [pr'.length_eq, List.length_range]
  walk_at "xs"
  refine ⟨p, nI r, rfl, s12.seq hp, for_by turnsE (fun i σ H' => ∃ (u1 u2 : Option V), σ = [some (.ref q), some (.ref p), u1, u2] ∧ Same H H' ∧ ∀ j (h : j < r.length), j < i → w1 ws r[j] ≤ (j : Int) + 1 ∧ (j : Int) + 1 ≤ w2 ws r[j])
    ⟨none, none, rfl, s12, fun j h z => absurd z (Nat.not_lt_zero _)⟩ (fun i σ H' _ ⟨_, _, _, h, _⟩ => h.seq hp) ?_ ?_⟩
  · rintro i y σ H5 H6 hi ⟨u1, u2, rfl, s5, fit⟩ ⟨x, hx', T, rfl, nT, s6, hT, _⟩
    rw [nI_len] at hi
    unfold nI at hx'
    rw [List.getElem?_map, List.getElem?_eq_getElem hi] at hx'
    cases hx'
    have rlt : r[i] < ws.length := List.mem_range.mp (pr'.mem_iff.mp (List.getElem_mem hi))
    have s56 := s5.trans s6
    have bad : ¬ (w1 ws r[i] ≤ (i : Int) + 1 ∧ (i : Int) + 1 ≤ w2 ws r[i]) → Q (.bl false) H6 := fun z => no (fun ⟨r', e, o⟩ => z (by
      have : r = r' := by
        have h1 : r.map (fun (i : Nat) => (i : Int)) = r'.map (fun (i : Nat) => (i : Int)) := e
        have h2 := congrArg (List.map Int.toNat) h1
        rw [List.map_map, List.map_map] at h2
        have e1 : ∀ l : List Nat, l.map (Int.toNat ∘ fun (i : Nat) => (i : Int)) = l := fun l => by
          rw [List.map_congr_left (g := id) (fun i _ => by show (i : Int).toNat = i; omega), List.map_id]
        rw [e1, e1] at h2
        exact h2
      subst this
      exact o.fit i hi)) H6 s56
    refine x_gtup (SqT.of hT) rfl ?_
    walk_at "xs"
    refine x_winix (dp_same s56 hw) (by omega) (by omega) fun t2 ht2 => ?_
    walk_at "xs"
    refine x_ix0 ht2 ?_
    walk_at "xs"
    have eb : (ws.getD ((r[i] : Nat) : Int).toNat (0, 0)).1 = w1 ws r[i] := rfl
    rw [eb]
    walk_at "if"
    · rename_i c3
      walk_at "xs"
      refine x_winix (dp_same s56 hw) (by omega) (by omega) fun t3 ht3 => ?_
      walk_at "xs"
      refine x_ix1 ht3 ?_
      walk_at "xs"
      have eb : (ws.getD ((r[i] : Nat) : Int).toNat (0, 0)).2 = w2 ws r[i] := rfl
      rw [eb]
      walk_at "if"
      · rename_i c4
        walk_at "xs"
        exact bad (fun z => c4 z.2)
      · rename_i c4
        walk_at "xs"
        refine ⟨_, _, rfl, s56, fun j hj z => ?_⟩
        by_cases q : j < i
        · exact fit j hj q
        · have : j = i := by omega
          subst this
          exact ⟨c3, c4⟩
    · rename_i c3
      walk_at "xs"
      exact bad (fun z => c3 z.1)
  · rintro σ H5 ⟨u1, u2, rfl, s5, fit⟩
    walk_at "xs"
    rw [nI_len] at fit
    exact k true H5 s5 ⟨fun _ => ⟨r, rfl, order_of_perm pr' fun j hj => fit j hj hj⟩, fun _ => rfl⟩

end Su
namespace Su
open PySem L2
local macro_rules | `(tactic| walk_at "side") => `(tactic| first | assumption | (show (0 : Int) < _; omega) | (show (0 : Int) ≤ _; omega) | (show (0 : Int) < _; split <;> omega) | (show _ ∨ _; omega) | (show _ ∧ _; omega) | exact ⟨by decide, by decide, by decide⟩ | exact ⟨by first | assumption | omega, by first | assumption | omega⟩)
local macro_rules | `(tactic| walk_at "x") => `(tactic| first
  | with_reducible refine Su.x_seq ?_ | with_reducible refine Su.x_asg ?_ | with_reducible refine Su.x_gname ?_ | with_reducible refine Su.x_drop ?_ | with_reducible refine Su.x_ret ?_ | with_reducible refine Su.x_ifS ?_
  | ((with_reducible show L2.tVar _ _ _ _); refine Su.x_var rfl ?_) | with_reducible refine Su.x_c ?_ | with_reducible refine Su.x_op ?_ | with_reducible refine Su.x_rI0 ?_ | ((with_reducible refine Su.x_rI ?_ ?_); focus walk_at "side")
  | ((with_reducible show L2.rIxL _ (L2.V.ref _) (L2.V.int _) _ _); refine Su.x_ixI (by assumption) (by first | decide | omega) (by omega) ?_) | with_reducible refine Su.x_isi_int_int ?_ | with_reducible refine Su.x_isi_int_bool ?_ | with_reducible refine Su.x_isi_int_str ?_ | with_reducible refine Su.x_isi_int_list ?_ | with_reducible refine Su.x_isi_int_tuple ?_ | with_reducible refine Su.x_isi_bool_int ?_ | with_reducible refine Su.x_isi_bool_bool ?_ | with_reducible refine Su.x_isi_bool_str ?_ | with_reducible refine Su.x_isi_bool_list ?_ | with_reducible refine Su.x_isi_bool_tuple ?_ | with_reducible refine Su.x_isi_str_int ?_ | with_reducible refine Su.x_isi_str_bool ?_ | with_reducible refine Su.x_isi_str_str ?_ | with_reducible refine Su.x_isi_str_list ?_ | with_reducible refine Su.x_isi_str_tuple ?_ | with_reducible refine Su.x_isi_NoneType_int ?_ | with_reducible refine Su.x_isi_NoneType_bool ?_ | with_reducible refine Su.x_isi_NoneType_str ?_ | with_reducible refine Su.x_isi_NoneType_list ?_ | with_reducible refine Su.x_isi_NoneType_tuple ?_ | with_reducible refine Su.x_rGt ?_ | with_reducible refine Su.x_rGe ?_ | with_reducible refine Su.x_iteF ?_ | with_reducible refine Su.x_iteT ?_ | with_reducible refine Su.x_iteNT ?_ | with_reducible refine Su.x_iteNF ?_ | with_reducible refine Su.x_eqI ?_ | with_reducible refine Su.x_neI ?_ | with_reducible refine Su.x_eqS ?_ | with_reducible refine Su.x_neS ?_ | with_reducible refine Su.x_eqB ?_ | with_reducible refine Su.x_neB ?_
  | with_reducible refine Su.x_test ?_ | with_reducible refine Su.x_tB ?_ | with_reducible refine Su.x_isB ?_ | with_reducible refine Su.x_isB' ?_ | with_reducible refine Su.x_not ?_ | with_reducible refine Su.x_and ?_ | with_reducible refine Su.x_or ?_
  | with_reducible refine Su.x_andV ?_ | with_reducible refine Su.x_orV ?_ | with_reducible refine Su.x_notV ?_ | with_reducible refine Su.x_chain ?_ | with_reducible refine Su.x_nil ?_ | with_reducible refine Su.x_cons ?_ | with_reducible refine Su.x_cb ?_ | with_reducible refine Su.x_call ?_
  | with_reducible refine Su.x_un ?_ | with_reducible refine Su.x_rU ?_ | with_reducible refine Su.x_abs ?_ | with_reducible refine Su.x_max2 ?_ | with_reducible refine Su.x_min2 ?_ | with_reducible refine Su.x_int1 ?_ | with_reducible refine Su.x_intB ?_
  | with_reducible refine Su.x_lst ?_ | with_reducible refine Su.x_tup ?_ | with_reducible refine Su.x_bmL ?_ | with_reducible refine Su.x_next ?_ | with_reducible refine Su.x_for ?_ | with_reducible refine Su.x_iList ?_ | with_reducible refine Su.x_iRng1 ?_ | with_reducible refine Su.x_iRng2 ?_ | with_reducible refine Su.x_whileN ?_ | with_reducible refine Su.x_iEnum ?_ | with_reducible refine Su.x_iZip ?_ | with_reducible refine Su.x_iZipA ?_ | with_reducible refine Su.x_iTup ?_ | with_reducible refine Su.x_gcons ?_ | with_reducible refine Su.x_gnil ?_ | with_reducible refine Su.x_gsub ?_ | with_reducible refine Su.x_yes ?_ | with_reducible refine Su.x_lc ?_ | with_reducible refine Su.x_sl ?_ | with_reducible refine Su.x_nopart ?_ | with_reducible refine Su.x_part ?_ | with_reducible refine Su.x_isI ?_ | with_reducible refine Su.x_lstRg ?_ | with_reducible refine Su.x_rg1 ?_ | with_reducible refine Su.x_augS ?_ | with_reducible refine Su.x_ipI ?_ | ((with_reducible show L2.tAug _ _ _ _ _ _); refine Su.x_aug rfl ?_) | with_reducible refine Su.x_callS ?_ | with_reducible refine Su.x_tryAs ?_)
local macro_rules | `(tactic| walk_at "xs") => `(tactic| repeat walk_at "x")
local macro_rules | `(tactic| walk_at "if") => `(tactic| first | with_reducible refine Su.x_iteD (fun c => ?_) (fun c => ?_) | with_reducible refine Su.x_iteN (fun c => ?_) (fun c => ?_) | with_reducible refine Su.x_ite (fun c => ?_) (fun c => ?_))
/-! _law_spoilt: some list of whole numbers, at most one longer -/
theorem cut_ints (xs : List Int) (lo hi : Option Int) : ∃ l : List Int, cutV (xs.map V.int) lo hi = l.map V.int ∧ l.length ≤ xs.length := by
  refine ⟨(xs.drop (HT.sIx xs.length 0 lo)).take (HT.sIx xs.length xs.length hi - HT.sIx xs.length 0 lo), ?_, ?_⟩
  · unfold cutV
    rw [List.length_map, List.map_take, List.map_drop]
  · rw [List.length_take, List.length_drop]; omega
/-- a list of ints that is new since H -/
structure NewL (H : Hp) (q : Addr) (l : List Int) (n : Nat) (H' : Hp) : Prop where
  nq : H q = none
  s : Same H H'
  o : H' q = some (.lst (l.map V.int))
  ln : l.length = n
theorem NewL.set {H H' : Hp} {q : Addr} {l : List Int} {n : Nat} (h : NewL H q l n H') (i : Nat) (x : Int) : NewL H q (l.set i x) n (upd H' q (.lst ((l.map V.int).set i (.int x)))) :=
  ⟨h.nq, same_upd h.s h.nq, by rw [upd_same, List.map_set], by rw [List.length_set]; exact h.ln⟩
end Su
namespace Su
open PySem L2
local macro_rules | `(tactic| walk_at "side") => `(tactic| first | assumption | (show (0 : Int) < _; omega) | (show (0 : Int) ≤ _; omega) | (show (0 : Int) < _; split <;> omega) | (show _ ∨ _; omega) | (show _ ∧ _; omega) | exact ⟨by decide, by decide, by decide⟩ | exact ⟨by first | assumption | omega, by first | assumption | omega⟩)
local macro_rules | `(tactic| walk_at "xs") => `(tactic| repeat walk_at "x")
local macro_rules | `(tactic| walk_at "if") => `(tactic| first | with_reducible refine Su.x_iteD (fun c => ?_) (fun c => ?_) | with_reducible refine Su.x_iteN (fun c => ?_) (fun c => ?_) | with_reducible refine Su.x_ite (fun c => ?_) (fun c => ?_))

/-! a list of windows that is changed by place -/
def WinAt (K : PySem.W.Frag) (H : Hp) (p : Addr) (ws : List (Int × Int)) : Prop := ∃ xs, H p = some (.lst xs) ∧ DpAll K (del H p) xs (ws.map dPair)
section
variable {K : PySem.W.Frag} {H H' : Hp} {p t : Addr} {ws : List (Int × Int)}
theorem WinAt.dp (h : WinAt K H p ws) : Dp K H (.ref p) (dWin ws) := by
  obtain ⟨xs, h1, h2⟩ := h
  exact .lst (SqL.of h1) (dpAll_same del_same h2)
theorem WinAt.lst (h : WinAt K H p ws) : ∃ xs, H p = some (.lst xs) ∧ xs.length = ws.length := by
  obtain ⟨xs, h1, h2⟩ := h
  exact ⟨xs, h1, by rw [dpAll_len h2, List.length_map]⟩
/-- a window is put behind -/
theorem x_winpush {i j : Int} {Q : VK} (h : WinAt K H p ws) (s : Same H H') (nt : H t = none) (ht : H' t = some (.tup [.int i, .int j])) (hl : ws.length ≤ 1000)
    (q : ∀ H2, (∀ b o, H' b = some o → b ≠ p → H2 b = some o) → WinAt K H2 p (ws ++ [(i, j)]) → Q .non H2) : rAppend (.ref p) [.ref t] H' Q := by
  obtain ⟨xs, e1, e2⟩ := h
  have hl' := dpAll_len e2
  rw [List.length_map] at hl'
  have htp : t ≠ p := fun e => by rw [e, e1] at nt; cases nt
  refine x_append (s _ _ e1) (small (by omega)) (q _ (fun b o hb hn => by rw [upd_ne hn]; exact hb) ⟨_, upd_same, ?_⟩)
  rw [del_upd, List.map_append]
  exact dpAll_snoc (dpAll_same (del_mono s) e2) (pair_dp (SqT.of (del_at ht htp)))
theorem rep_flat {v : V} : ∀ n, (List.replicate n [v]).flatten = List.replicate n v
  | 0 => rfl
  | n + 1 => by rw [List.replicate_succ, List.flatten_cons, rep_flat n, List.replicate_succ]; rfl
theorem al_rep {l : Addr} {v : V} {n : Nat} {Q : VK} (h : H l = some (.lst [v])) (hn : n ≤ 100000) (q : ∀ p H', H p = none → Same H H' → H' p = some (.lst (List.replicate n v)) → (∀ b, b ≠ p → H' b = H b) → Q (.ref p) H') : rRep (.ref l) (.int n) H Q := by
  refine ⟨l, n, [v], rfl, rfl, h, by omega, by omega, Nat.le_of_lt (small (by simp; omega)), fun p np => ?_⟩
  refine q p _ np (same_new (Same.refl H) np) ?_ fun b hb => upd_ne hb
  rw [upd_same, Int.toNat_natCast, rep_flat]
/-- unchanged but for what is new or at p -/
theorem keep_same {H0 H2 : Hp} (s : Same H0 H') (n : H0 p = none) (k : ∀ b o, H' b = some o → b ≠ p → H2 b = some o) : Same H0 H2 := fun b o e => k b o (s b o e) (ne_of_none e n)
end
end Su
namespace Su
open PySem L2
local macro_rules | `(tactic| walk_at "side") => `(tactic| first | assumption | (show (0 : Int) < _; omega) | (show (0 : Int) ≤ _; omega) | (show (0 : Int) < _; split <;> omega) | (show _ ∨ _; omega) | (show _ ∧ _; omega) | exact ⟨by decide, by decide, by decide⟩ | exact ⟨by first | assumption | omega, by first | assumption | omega⟩)
local macro_rules | `(tactic| walk_at "x") => `(tactic| first | with_reducible refine Su.x_seq ?_ | with_reducible refine Su.x_asg ?_ | with_reducible refine Su.x_gname ?_ | with_reducible refine Su.x_drop ?_ | with_reducible refine Su.x_ret ?_ | ((with_reducible show L2.tVar _ _ _ _); refine Su.x_var rfl ?_) | with_reducible refine Su.x_c ?_ | with_reducible refine Su.x_op ?_ | with_reducible refine Su.x_rI0 ?_ | ((with_reducible refine Su.x_rI ?_ ?_); focus walk_at "side") | with_reducible refine Su.x_nil ?_ | with_reducible refine Su.x_cons ?_ | with_reducible refine Su.x_lst ?_ | with_reducible refine Su.x_bmL ?_ | with_reducible refine Su.x_for ?_ | with_reducible refine Su.x_iRng1 ?_)
local macro_rules | `(tactic| walk_at "xs") => `(tactic| repeat walk_at "x")
local macro_rules | `(tactic| walk_at "if") => `(tactic| first | with_reducible refine Su.x_iteD (fun c => ?_) (fun c => ?_) | with_reducible refine Su.x_iteN (fun c => ?_) (fun c => ?_) | with_reducible refine Su.x_ite (fun c => ?_) (fun c => ?_))

/-! _law_perm: a drawn order -/
end Su
namespace Su
open PySem L2
local macro_rules | `(tactic| walk_at "side") => `(tactic| first | assumption | (show (0 : Int) < _; omega) | (show (0 : Int) ≤ _; omega) | (show (0 : Int) < _; split <;> omega) | (show _ ∨ _; omega) | (show _ ∧ _; omega) | exact ⟨by decide, by decide, by decide⟩ | exact ⟨by first | assumption | omega, by first | assumption | omega⟩)
local macro_rules | `(tactic| walk_at "xs") => `(tactic| repeat walk_at "x")
local macro_rules | `(tactic| walk_at "if") => `(tactic| first | with_reducible refine Su.x_iteD (fun c => ?_) (fun c => ?_) | with_reducible refine Su.x_iteN (fun c => ?_) (fun c => ?_) | with_reducible refine Su.x_ite (fun c => ?_) (fun c => ?_))

/-! papers as data -/
end Su
namespace Su
open PySem L2
local macro_rules | `(tactic| walk_at "side") => `(tactic| first | assumption | (show (0 : Int) < _; omega) | (show (0 : Int) ≤ _; omega) | (show (0 : Int) < _; split <;> omega) | (show _ ∨ _; omega) | (show _ ∧ _; omega) | exact ⟨by decide, by decide, by decide⟩ | exact ⟨by first | assumption | omega, by first | assumption | omega⟩)
local macro_rules | `(tactic| walk_at "x") => `(tactic| first | with_reducible refine Su.x_seq ?_ | with_reducible refine Su.x_asg ?_ | with_reducible refine Su.x_gname ?_ | with_reducible refine Su.x_ret ?_ | with_reducible refine Su.x_ifS ?_ | ((with_reducible show L2.tVar _ _ _ _); refine Su.x_var rfl ?_) | with_reducible refine Su.x_c ?_ | with_reducible refine Su.x_op ?_ | with_reducible refine Su.x_rI0 ?_ | with_reducible refine Su.x_iteF ?_ | with_reducible refine Su.x_iteT ?_ | with_reducible refine Su.x_eqI ?_ | with_reducible refine Su.x_test ?_ | with_reducible refine Su.x_isB' ?_ | with_reducible refine Su.x_and ?_ | with_reducible refine Su.x_or ?_ | with_reducible refine Su.x_nil ?_ | with_reducible refine Su.x_cons ?_ | with_reducible refine Su.x_un ?_ | with_reducible refine Su.x_rU ?_ | with_reducible refine Su.x_next ?_ | with_reducible refine Su.x_for ?_ | with_reducible refine Su.x_iEnum ?_ | with_reducible refine Su.x_gcons ?_ | with_reducible refine Su.x_gnil ?_)
local macro_rules | `(tactic| walk_at "xs") => `(tactic| repeat walk_at "x")
local macro_rules | `(tactic| walk_at "if") => `(tactic| first | with_reducible refine Su.x_iteD (fun c => ?_) (fun c => ?_) | with_reducible refine Su.x_iteN (fun c => ?_) (fun c => ?_) | with_reducible refine Su.x_ite (fun c => ?_) (fun c => ?_))

/-! next_window -/
end Su
namespace Su
open PySem L2
local macro_rules | `(tactic| walk_at "side") => `(tactic| first | assumption | (show (0 : Int) < _; omega) | (show (0 : Int) ≤ _; omega) | (show (0 : Int) < _; split <;> omega) | (show _ ∨ _; omega) | (show _ ∧ _; omega) | exact ⟨by decide, by decide, by decide⟩ | exact ⟨by first | assumption | omega, by first | assumption | omega⟩)
local macro_rules | `(tactic| walk_at "x") => `(tactic| first | with_reducible refine Su.x_seq ?_ | with_reducible refine Su.x_asg ?_ | with_reducible refine Su.x_gname ?_ | with_reducible refine Su.x_ret ?_ | ((with_reducible show L2.tVar _ _ _ _); refine Su.x_var rfl ?_) | with_reducible refine Su.x_c ?_ | with_reducible refine Su.x_op ?_ | with_reducible refine Su.x_rI0 ?_ | with_reducible refine Su.x_rGt ?_ | with_reducible refine Su.x_test ?_ | with_reducible refine Su.x_isB' ?_ | with_reducible refine Su.x_and ?_ | with_reducible refine Su.x_nil ?_ | with_reducible refine Su.x_cons ?_ | with_reducible refine Su.x_call ?_ | with_reducible refine Su.x_tup ?_ | with_reducible refine Su.x_whileN ?_ | with_reducible refine Su.x_ipI ?_ | ((with_reducible show L2.tAug _ _ _ _ _ _); refine Su.x_aug rfl ?_))
local macro_rules | `(tactic| walk_at "xs") => `(tactic| repeat walk_at "x")
local macro_rules | `(tactic| walk_at "if") => `(tactic| first | with_reducible refine Su.x_iteD (fun c => ?_) (fun c => ?_) | with_reducible refine Su.x_iteN (fun c => ?_) (fun c => ?_) | with_reducible refine Su.x_ite (fun c => ?_) (fun c => ?_))

/-! bar_of -/
end Su
namespace Su
open PySem L2
local macro_rules | `(tactic| walk_at "side") => `(tactic| first | assumption | (show (0 : Int) < _; omega) | (show (0 : Int) ≤ _; omega) | (show (0 : Int) < _; split <;> omega) | (show _ ∨ _; omega) | (show _ ∧ _; omega) | exact ⟨by decide, by decide, by decide⟩ | exact ⟨by first | assumption | omega, by first | assumption | omega⟩)
local macro_rules | `(tactic| walk_at "x") => `(tactic| first | with_reducible refine Su.x_seq ?_ | with_reducible refine Su.x_asg ?_ | with_reducible refine Su.x_gname ?_ | with_reducible refine Su.x_drop ?_ | with_reducible refine Su.x_ret ?_ | with_reducible refine Su.x_ifS ?_ | ((with_reducible show L2.tVar _ _ _ _); refine Su.x_var rfl ?_) | with_reducible refine Su.x_c ?_ | with_reducible refine Su.x_op ?_ | with_reducible refine Su.x_rI0 ?_ | with_reducible refine Su.x_eqI ?_ | with_reducible refine Su.x_test ?_ | with_reducible refine Su.x_isB' ?_ | with_reducible refine Su.x_nil ?_ | with_reducible refine Su.x_cons ?_ | with_reducible refine Su.x_cb ?_ | with_reducible refine Su.x_call ?_ | with_reducible refine Su.x_un ?_ | with_reducible refine Su.x_rU ?_ | with_reducible refine Su.x_lst ?_ | with_reducible refine Su.x_tup ?_ | with_reducible refine Su.x_bmL ?_ | with_reducible refine Su.x_next ?_ | with_reducible refine Su.x_for ?_ | with_reducible refine Su.x_iRng2 ?_)
local macro_rules | `(tactic| walk_at "xs") => `(tactic| repeat walk_at "x")
local macro_rules | `(tactic| walk_at "if") => `(tactic| first | with_reducible refine Su.x_iteD (fun c => ?_) (fun c => ?_) | with_reducible refine Su.x_iteN (fun c => ?_) (fun c => ?_) | with_reducible refine Su.x_ite (fun c => ?_) (fun c => ?_))

/-! order_or_bar -/
end Su
namespace Su
open PySem L2
local macro_rules | `(tactic| walk_at "side") => `(tactic| first | assumption | (show (0 : Int) < _; omega) | (show (0 : Int) ≤ _; omega) | (show (0 : Int) < _; split <;> omega) | (show _ ∨ _; omega) | (show _ ∧ _; omega) | exact ⟨by decide, by decide, by decide⟩ | exact ⟨by first | assumption | omega, by first | assumption | omega⟩)
local macro_rules | `(tactic| walk_at "xs") => `(tactic| repeat walk_at "x")
local macro_rules | `(tactic| walk_at "if") => `(tactic| first | with_reducible refine Su.x_iteD (fun c => ?_) (fun c => ?_) | with_reducible refine Su.x_iteN (fun c => ?_) (fun c => ?_) | with_reducible refine Su.x_ite (fun c => ?_) (fun c => ?_))

/-! windows around a drawn order -/
end Su
namespace Su
open PySem L2
local macro_rules | `(tactic| walk_at "side") => `(tactic| first | assumption | (show (0 : Int) < _; omega) | (show (0 : Int) ≤ _; omega) | (show (0 : Int) < _; split <;> omega) | (show _ ∨ _; omega) | (show _ ∧ _; omega) | exact ⟨by decide, by decide, by decide⟩ | exact ⟨by first | assumption | omega, by first | assumption | omega⟩)
local macro_rules | `(tactic| walk_at "xs") => `(tactic| repeat walk_at "x")
local macro_rules | `(tactic| walk_at "if") => `(tactic| first | with_reducible refine Su.x_iteD (fun c => ?_) (fun c => ?_) | with_reducible refine Su.x_iteN (fun c => ?_) (fun c => ?_) | with_reducible refine Su.x_ite (fun c => ?_) (fun c => ?_))

/-! the loop of windows around a planted order: one turn -/
theorem b_mod (r d : Int) (h : 0 < d) : 0 ≤ r % d ∧ r % d < d := ⟨Int.emod_nonneg r (by omega), Int.emod_lt_of_pos r h⟩
end Su
namespace Su
open PySem L2
local macro_rules | `(tactic| walk_at "side") => `(tactic| first | assumption | (show (0 : Int) < _; omega) | (show (0 : Int) ≤ _; omega) | (show (0 : Int) < _; split <;> omega) | (show _ ∨ _; omega) | (show _ ∧ _; omega) | exact ⟨by decide, by decide, by decide⟩ | exact ⟨by first | assumption | omega, by first | assumption | omega⟩)
local macro_rules | `(tactic| walk_at "x") => `(tactic| first
  | with_reducible refine Su.x_seq ?_ | with_reducible refine Su.x_asg ?_ | with_reducible refine Su.x_gname ?_ | with_reducible refine Su.x_drop ?_ | with_reducible refine Su.x_ret ?_ | with_reducible refine Su.x_ifS ?_
  | ((with_reducible show L2.tVar _ _ _ _); refine Su.x_var rfl ?_) | with_reducible refine Su.x_c ?_ | with_reducible refine Su.x_op ?_ | with_reducible refine Su.x_rI0 ?_ | ((with_reducible refine Su.x_rI ?_ ?_); focus walk_at "side")
  | ((with_reducible show L2.rIxL _ (L2.V.ref _) (L2.V.int _) _ _); refine Su.x_ixI (by assumption) (by first | decide | omega) (by omega) ?_) | with_reducible refine Su.x_isi_int_int ?_ | with_reducible refine Su.x_isi_int_bool ?_ | with_reducible refine Su.x_isi_int_str ?_ | with_reducible refine Su.x_isi_int_list ?_ | with_reducible refine Su.x_isi_int_tuple ?_ | with_reducible refine Su.x_isi_bool_int ?_ | with_reducible refine Su.x_isi_bool_bool ?_ | with_reducible refine Su.x_isi_bool_str ?_ | with_reducible refine Su.x_isi_bool_list ?_ | with_reducible refine Su.x_isi_bool_tuple ?_ | with_reducible refine Su.x_isi_str_int ?_ | with_reducible refine Su.x_isi_str_bool ?_ | with_reducible refine Su.x_isi_str_str ?_ | with_reducible refine Su.x_isi_str_list ?_ | with_reducible refine Su.x_isi_str_tuple ?_ | with_reducible refine Su.x_isi_NoneType_int ?_ | with_reducible refine Su.x_isi_NoneType_bool ?_ | with_reducible refine Su.x_isi_NoneType_str ?_ | with_reducible refine Su.x_isi_NoneType_list ?_ | with_reducible refine Su.x_isi_NoneType_tuple ?_ | with_reducible refine Su.x_rGt ?_ | with_reducible refine Su.x_rGe ?_ | with_reducible refine Su.x_iteF ?_ | with_reducible refine Su.x_iteT ?_ | with_reducible refine Su.x_iteNT ?_ | with_reducible refine Su.x_iteNF ?_ | with_reducible refine Su.x_eqI ?_ | with_reducible refine Su.x_neI ?_ | with_reducible refine Su.x_eqS ?_ | with_reducible refine Su.x_neS ?_ | with_reducible refine Su.x_eqB ?_ | with_reducible refine Su.x_neB ?_
  | with_reducible refine Su.x_test ?_ | with_reducible refine Su.x_tB ?_ | with_reducible refine Su.x_isB ?_ | with_reducible refine Su.x_isB' ?_ | with_reducible refine Su.x_not ?_ | with_reducible refine Su.x_and ?_ | with_reducible refine Su.x_or ?_
  | with_reducible refine Su.x_andV ?_ | with_reducible refine Su.x_orV ?_ | with_reducible refine Su.x_notV ?_ | with_reducible refine Su.x_chain ?_ | with_reducible refine Su.x_nil ?_ | with_reducible refine Su.x_cons ?_ | with_reducible refine Su.x_cb ?_ | with_reducible refine Su.x_call ?_
  | with_reducible refine Su.x_un ?_ | with_reducible refine Su.x_rU ?_ | with_reducible refine Su.x_abs ?_ | with_reducible refine Su.x_max2 ?_ | with_reducible refine Su.x_min2 ?_ | with_reducible refine Su.x_int1 ?_ | with_reducible refine Su.x_intB ?_
  | with_reducible refine Su.x_lst ?_ | with_reducible refine Su.x_tup ?_ | with_reducible refine Su.x_bmL ?_ | with_reducible refine Su.x_next ?_ | with_reducible refine Su.x_for ?_ | with_reducible refine Su.x_iList ?_ | with_reducible refine Su.x_iRng1 ?_ | with_reducible refine Su.x_iRng2 ?_ | with_reducible refine Su.x_whileN ?_ | with_reducible refine Su.x_iEnum ?_ | with_reducible refine Su.x_iZip ?_ | with_reducible refine Su.x_iZipA ?_ | with_reducible refine Su.x_iTup ?_ | with_reducible refine Su.x_gcons ?_ | with_reducible refine Su.x_gnil ?_ | with_reducible refine Su.x_gsub ?_ | with_reducible refine Su.x_yes ?_ | with_reducible refine Su.x_lc ?_ | with_reducible refine Su.x_sl ?_ | with_reducible refine Su.x_nopart ?_ | with_reducible refine Su.x_part ?_ | with_reducible refine Su.x_isI ?_ | with_reducible refine Su.x_lstRg ?_ | with_reducible refine Su.x_rg1 ?_ | with_reducible refine Su.x_augS ?_ | with_reducible refine Su.x_ipI ?_ | ((with_reducible show L2.tAug _ _ _ _ _ _); refine Su.x_aug rfl ?_) | with_reducible refine Su.x_callS ?_ | with_reducible refine Su.x_tryAs ?_)
local macro_rules | `(tactic| walk_at "xs") => `(tactic| repeat walk_at "x")
local macro_rules | `(tactic| walk_at "if") => `(tactic| first | with_reducible refine Su.x_iteD (fun c => ?_) (fun c => ?_) | with_reducible refine Su.x_iteN (fun c => ?_) (fun c => ?_) | with_reducible refine Su.x_ite (fun c => ?_) (fun c => ?_))
/-! _law_row: some list of whole numbers -/
def sp_law_row (K : PySem.W.Frag) : Sp := fun vs H Q _ => ∃ (size : Nat) (way at_ other : Int), vs = [.int size, .int way, .int at_, .int other] ∧ size ≤ 1000 ∧
  ∀ (q : Addr) (l : List Int) (H' : Hp), H q = none → Same H H' → H' q = some (.lst (l.map V.int)) → l.length ≤ 3000 → Q (.ref q) H'
abbrev N_law_row : List Str := ["_law_size", "_law_way", "_law_at", "_law_other", "_law_row_here"]
def t_law_row (K : PySem.W.Frag) : TS :=
 (tSeq (tAsg (tLstRg (tRg1 (tVar 0))) (gName 4))
 (C8.tCut (tIfS (tAnd (tTest (tOp rGt (tVar 0) (tC (.int 0)))) (tTest (tOp rEq (tVar 1) (tC (.int 1)))))
 (tAsg (tOp (rIxL K) (tLst (tCons (tUn rNeg (tC (.int 1))) (tCons (tVar 0) (tCons (tOp rAdd (tVar 0) (tC (.int 2))) tNil)))) (tOp rMod (tVar 3) (tC (.int 3)))) (gSub (tVar 4) (tOp rMod (tVar 2) (tVar 0)) rSetL))
 tNext)
 (C8.tCut (tIfS (tAnd (tTest (tOp rGt (tVar 0) (tC (.int 0)))) (tTest (tOp rEq (tVar 1) (tC (.int 2)))))
 (tAsg (tOp rMod (tVar 3) (tVar 0)) (gSub (tVar 4) (tOp rMod (tVar 2) (tVar 0)) rSetL))
 tNext)
 (C8.tCut (tIfS (tAnd (tTest (tOp rGt (tVar 0) (tC (.int 0)))) (tTest (tOp rEq (tVar 1) (tC (.int 3)))))
 (tAsg (tOp rCat (tSl (rSlL K) (tVar 4) tNoPart (tPart (tOp rMod (tVar 2) (tVar 0)))) (tSl (rSlL K) (tVar 4) (tPart (tOp rAdd (tOp rMod (tVar 2) (tVar 0)) (tC (.int 1)))) tNoPart)) (gName 4))
 tNext)
 (C8.tCut (tIfS (tTest (tOp rEq (tVar 1) (tC (.int 4))))
 (tDrop (tBM K "list" rAppend (tVar 4) (tCons (tOp rMod (tVar 3) (tOp rAdd (tVar 0) (tC (.int 1)))) tNil)))
 tNext)
 (C8.tCut (tIfS (tAnd (tTest (tOp rGt (tVar 0) (tC (.int 0)))) (tTest (tOp rEq (tVar 1) (tC (.int 5)))))
 (tSeq (tAsg (tOp rMod (tVar 3) (tVar 0)) (gSub (tVar 4) (tOp rMod (tVar 2) (tVar 0)) rSetL))
 (tAsg (tOp rMod (tVar 2) (tVar 0)) (gSub (tVar 4) (tOp rMod (tVar 3) (tVar 0)) rSetL)))
 tNext)
 (tRet (tVar 4))))))))

theorem len_law_row {K : PySem.W.Frag} : ∀ vs H Q E, sp_law_row K vs H Q E → vs.length = ["a", "b", "c", "d"].length := by
  rintro vs H Q E ⟨_, _, _, _, rfl, _⟩; rfl
theorem pure_law_row {K : PySem.W.Frag} {vs : List V} {H : Hp} {Q : VK} {E : XK} (h : sp_law_row K vs H Q E) : t_law_row K { nx := fun _ H' => Q .non H', rt := Q } (start N_law_row vs) H := by
  obtain ⟨size, way, at_, other, rfl, hz, k⟩ := h
  unfold t_law_row
  walk_at "xs"
  refine al_rg rfl (by omega) fun q H1 nq s1 hq => ?_
  have n1 : NewL H q ((List.range size).map fun (i : Nat) => (i : Int)) size H1 := ⟨nq, s1, by rw [hq, List.map_map]; rfl, by rw [List.length_map, List.length_range]⟩
  generalize ((List.range size).map fun (i : Nat) => (i : Int)) = l1 at n1
  clear hq s1 nq
  walk_at "xs"
  -- way 1
  refine x_cut (fun σ H' => ∃ l, σ = [some (.int size), some (.int way), some (.int at_), some (.int other), some (.ref q)] ∧ NewL H q l size H') ?_ ?_
  · walk_at "xs"
    walk_at "if"
    · rename_i c
      walk_at "xs"
      walk_at "if"
      · walk_at "xs"
        refine al_lst fun q5 H5 nq5 s5 hq5 => ?_
        have m0 := b_mod other 3 (by decide)
        have m1 := b_mod at_ size (by omega)
        walk_at "xs"
        refine x_ixI (xs := [-1, (size : Int), (size : Int) + 2]) hq5 m0.1 m0.2 ?_
        generalize [-1, (size : Int), (size : Int) + 2].getD (other % 3).toNat 0 = z5
        walk_at "xs"
        refine x_setL (s5 _ _ n1.o) m1.1 (by rw [List.length_map, n1.ln]; exact m1.2) ?_
        exact ⟨_, rfl, n1.nq, same_upd (n1.s.trans s5) n1.nq, by rw [upd_same, List.map_set], by rw [List.length_set, n1.ln]⟩
      · exact ⟨_, rfl, n1⟩
    · walk_at "xs"
      exact ⟨_, rfl, n1⟩
  clear n1 l1
  rintro _ H2 ⟨l, rfl, n2⟩
  -- way 2
  refine x_cut (fun σ H' => ∃ l, σ = [some (.int size), some (.int way), some (.int at_), some (.int other), some (.ref q)] ∧ NewL H q l size H') ?_ ?_
  · walk_at "xs"
    walk_at "if"
    · rename_i c
      walk_at "xs"
      walk_at "if"
      · walk_at "xs"
        have m1 := b_mod at_ size (by omega)
        refine x_setL n2.o m1.1 (by rw [List.length_map, n2.ln]; exact m1.2) ?_
        exact ⟨_, rfl, n2.set _ _⟩
      · exact ⟨_, rfl, n2⟩
    · walk_at "xs"
      exact ⟨_, rfl, n2⟩
  clear n2 l H2 H1
  rintro _ H2 ⟨l, rfl, n2⟩
  -- way 3
  refine x_cut (fun σ H' => ∃ (q : Addr) (l : List Int), σ = [some (.int size), some (.int way), some (.int at_), some (.int other), some (.ref q)] ∧ H q = none ∧ Same H H' ∧ H' q = some (.lst (l.map V.int)) ∧ l.length ≤ 2 * size ∧ (way = 3 ∨ l.length = size)) ?_ ?_
  · walk_at "xs"
    walk_at "if"
    · rename_i c
      walk_at "xs"
      walk_at "if"
      · rename_i c3
        have m1 := b_mod at_ size (by omega)
        walk_at "xs"
        refine al_slL (SqL.of n2.o) fun q1 H4 nq1 s4 hq1 => ?_
        walk_at "xs"
        refine al_slL (SqL.of (s4 _ _ n2.o)) fun q2 H5 nq2 s5 hq2 => ?_
        obtain ⟨l1, e1, b1'⟩ := cut_ints l none (some (at_ % size))
        obtain ⟨l2, e2, b2'⟩ := cut_ints l (some (at_ % size + 1)) none
        rw [e1] at hq1
        rw [e2] at hq2
        have := n2.ln
        walk_at "xs"
        refine ⟨q1, q2, _, _, rfl, rfl, s5 _ _ hq1, hq2, Nat.le_of_lt (small (by rw [List.length_map, List.length_map]; omega)), fun q3 nq3 => ?_⟩
        have s45 := (n2.s.trans s4).trans s5
        exact ⟨q3, l1 ++ l2, rfl, s45.free nq3, same_new s45 nq3, by rw [upd_same, List.map_append], by rw [List.length_append]; omega, .inl c3⟩
      · exact ⟨q, l, rfl, n2.nq, n2.s, n2.o, by rw [n2.ln]; omega, .inr n2.ln⟩
    · walk_at "xs"
      exact ⟨q, l, rfl, n2.nq, n2.s, n2.o, by rw [n2.ln]; omega, .inr n2.ln⟩
  clear n2 l H2 q
  rintro _ H2 ⟨q, l, rfl, nq, s2, hq, hl, w3⟩
  -- way 4
  refine x_cut (fun σ H' => ∃ (l : List Int), σ = [some (.int size), some (.int way), some (.int at_), some (.int other), some (.ref q)] ∧ Same H H' ∧ H' q = some (.lst (l.map V.int)) ∧ l.length ≤ 2 * size + 1 ∧ (way = 3 ∨ way = 4 ∨ l.length = size)) ?_ ?_
  · walk_at "xs"
    walk_at "if"
    · rename_i c
      walk_at "xs"
      refine ⟨tyL (SqL.of hq), ?_⟩
      walk_at "xs"
      refine x_append hq (small (by rw [List.length_map]; omega)) ?_
      exact ⟨l ++ [other % ((size : Int) + 1)], rfl, same_upd s2 nq, by rw [upd_same, List.map_append]; rfl, by rw [List.length_append]; show _ + 1 ≤ _; omega, .inr (.inl c)⟩
    · exact ⟨l, rfl, s2, hq, by omega, w3.imp id .inr⟩
  clear w3 hl hq s2 l H2
  rintro _ H2 ⟨l, rfl, s2, hq, hl, w4⟩
  refine x_cut (fun σ H' => ∃ (l : List Int), σ = [some (.int size), some (.int way), some (.int at_), some (.int other), some (.ref q)] ∧ Same H H' ∧ H' q = some (.lst (l.map V.int)) ∧ l.length ≤ 2 * size + 1) ?_ ?_
  · walk_at "xs"
    walk_at "if"
    · rename_i c
      walk_at "xs"
      walk_at "if"
      · rename_i c5
        have le : l.length = size := by rcases w4 with z | z | z <;> omega
        have m1 := b_mod at_ size (by omega)
        have m2 := b_mod other size (by omega)
        walk_at "xs"
        refine x_setL hq m1.1 (by rw [List.length_map, le]; exact m1.2) ?_
        walk_at "xs"
        refine x_setL upd_same m2.1 (by rw [List.length_set, List.length_map, le]; exact m2.2) ?_
        exact ⟨(l.set _ _).set _ _, rfl, same_upd (same_upd s2 nq) nq, by rw [upd_same, ← List.map_set, ← List.map_set], by rw [List.length_set, List.length_set]; omega⟩
      · exact ⟨l, rfl, s2, hq, by omega⟩
    · walk_at "xs"
      exact ⟨l, rfl, s2, hq, by omega⟩
  rintro _ H3 ⟨l3, rfl, s3, hq3, hl3⟩
  walk_at "xs"
  exact k q l3 H3 nq s3 hq3 (by omega)

end Su
namespace Su
open PySem L2
local macro_rules | `(tactic| walk_at "side") => `(tactic| first | assumption | (show (0 : Int) < _; omega) | (show (0 : Int) ≤ _; omega) | (show (0 : Int) < _; split <;> omega) | (show _ ∨ _; omega) | (show _ ∧ _; omega) | exact ⟨by decide, by decide, by decide⟩ | exact ⟨by first | assumption | omega, by first | assumption | omega⟩)
local macro_rules | `(tactic| walk_at "xs") => `(tactic| repeat walk_at "x")
local macro_rules | `(tactic| walk_at "if") => `(tactic| first | with_reducible refine Su.x_iteD (fun c => ?_) (fun c => ?_) | with_reducible refine Su.x_iteN (fun c => ?_) (fun c => ?_) | with_reducible refine Su.x_ite (fun c => ?_) (fun c => ?_))

/-! sets of windows as numbers; all orders that go on from a set, in their order -/
theorem mul2_div (a b : Nat) : (a + 2 ^ (b + 1)) / 2 = a / 2 + 2 ^ b := by rw [Nat.pow_succ]; omega
theorem mul2_mod (a b : Nat) : (a + 2 ^ (b + 1)) % 2 = a % 2 := by rw [Nat.pow_succ]; omega
def pc (m : Nat) : Nat := if h : m = 0 then 0 else m % 2 + pc (m / 2)
theorem pc_zero : pc 0 = 0 := by rw [pc]; simp
theorem pc_step {m : Nat} (h : m ≠ 0) : pc m = m % 2 + pc (m / 2) := by rw [pc, dif_neg h]
theorem pc_half (m : Nat) : pc m = m % 2 + pc (m / 2) := by
  by_cases h : m = 0
  · subst h; rw [pc_zero]
  · exact pc_step h
theorem tb_zero (m : Nat) : m.testBit 0 = decide (m % 2 = 1) := Nat.testBit_zero m
theorem tb_succ (m i : Nat) : m.testBit (i + 1) = (m / 2).testBit i := Nat.testBit_succ m i
theorem pc_add : ∀ (i m : Nat), m.testBit i = false → pc (m + 2 ^ i) = pc m + 1
  | 0, m, h => by
    rw [tb_zero] at h
    have h' : m % 2 = 0 := by have := of_decide_eq_false h; omega
    rw [pc_half (m + 2 ^ 0), pc_half m, Nat.pow_zero, show (m + 1) / 2 = m / 2 by omega]
    omega
  | i + 1, m, h => by
    rw [tb_succ] at h
    rw [pc_half (m + 2 ^ (i + 1)), mul2_div, mul2_mod, pc_add i _ h, pc_half m]
    omega
theorem tb_add : ∀ (i m x : Nat), m.testBit i = false → (m + 2 ^ i).testBit x = (m.testBit x || decide (x = i))
  | 0, m, 0, h => by
    rw [tb_zero] at h
    have h' : m % 2 = 0 := by have := of_decide_eq_false h; omega
    rw [tb_zero, Nat.pow_zero, decide_eq_true (show (m + 1) % 2 = 1 by omega), decide_eq_true rfl, Bool.or_true]
  | 0, m, x + 1, h => by
    rw [tb_zero] at h
    have h' : m % 2 = 0 := by have := of_decide_eq_false h; omega
    rw [tb_succ, tb_succ, Nat.pow_zero, show (m + 1) / 2 = m / 2 by omega, decide_eq_false (by omega), Bool.or_false]
  | i + 1, m, 0, h => by
    rw [tb_zero, tb_zero, mul2_mod, decide_eq_false (show ¬ 0 = i + 1 by omega), Bool.or_false]
  | i + 1, m, x + 1, h => by
    rw [tb_succ] at h
    rw [tb_succ, tb_succ, mul2_div, tb_add i _ x h]
    congr 1
    exact decide_eq_decide.mpr (by omega)
theorem add_lt : ∀ (i n m : Nat), i < n → m < 2 ^ n → m.testBit i = false → m + 2 ^ i < 2 ^ n
  | 0, n + 1, m, _, hm, h => by
    rw [tb_zero] at h
    have h' : m % 2 = 0 := by have := of_decide_eq_false h; omega
    rw [Nat.pow_succ] at hm ⊢
    omega
  | i + 1, n + 1, m, hi, hm, h => by
    rw [tb_succ] at h
    have := add_lt i n (m / 2) (by omega) (by rw [Nat.pow_succ] at hm; omega) h
    rw [Nat.pow_succ 2 n, Nat.pow_succ 2 i] at *
    omega
theorem pc_le : ∀ (n m : Nat), m < 2 ^ n → pc m ≤ n
  | 0, m, h => by
    have : m = 0 := by simpa using h
    rw [this, pc_zero]
    exact Nat.le_refl _
  | n + 1, m, h => by
    have := pc_le n (m / 2) (by rw [Nat.pow_succ] at h; omega)
    rw [pc_half]
    omega
theorem pc_lt : ∀ (n m : Nat), m + 1 < 2 ^ n → pc m < n
  | 0, m, h => by simp at h
  | n + 1, m, h => by
    rw [Nat.pow_succ] at h
    rw [pc_half]
    by_cases c : m / 2 + 1 < 2 ^ n
    · have := pc_lt n (m / 2) c
      omega
    · have := pc_le n (m / 2) (by omega)
      omega
theorem pc_full : ∀ n : Nat, pc (2 ^ n - 1) = n
  | 0 => by simp [pc_zero]
  | n + 1 => by
    have h := Nat.two_pow_pos n
    rw [pc_half, Nat.pow_succ, show (2 ^ n * 2 - 1) / 2 = 2 ^ n - 1 by omega, pc_full n]
    omega
def fitB (ws : List (Int × Int)) (t : Int) (i : Nat) : Bool := decide (w1 ws i ≤ t ∧ t ≤ w2 ws i)
/-- window i may draw at round t, the set m having drawn -/
def okB (ws : List (Int × Int)) (m : Nat) (t : Int) (i : Nat) : Bool := !m.testBit i && fitB ws t i
/-- all rows of k windows that go on from the set m -/
def conts (ws : List (Int × Int)) : Nat → Nat → List (List Nat)
  | 0, _ => [[]]
  | k + 1, m => (List.range ws.length).flatMap fun i => if okB ws m ((ws.length : Int) - k) i = true then (conts ws k (m + 2 ^ i)).map (i :: ·) else []
/-- the first j windows' share -/
def contsTo (ws : List (Int × Int)) (k m j : Nat) : List (List Nat) := (List.range j).flatMap fun i => if okB ws m ((ws.length : Int) - k) i = true then (conts ws k (m + 2 ^ i)).map (i :: ·) else []
theorem conts_succ (ws : List (Int × Int)) (k m : Nat) : conts ws (k + 1) m = contsTo ws k m ws.length := rfl
theorem contsTo_succ (ws : List (Int × Int)) (k m j : Nat) : contsTo ws k m (j + 1) = contsTo ws k m j ++ (if okB ws m ((ws.length : Int) - k) j = true then (conts ws k (m + 2 ^ j)).map (j :: ·) else []) := by
  unfold contsTo
  rw [List.range_succ, List.flatMap_append]
  simp
theorem contsTo_len (ws : List (Int × Int)) (k m j : Nat) : (contsTo ws k m (j + 1)).length = (contsTo ws k m j).length + (if okB ws m ((ws.length : Int) - k) j = true then (conts ws k (m + 2 ^ j)).length else 0) := by
  rw [contsTo_succ, List.length_append]
  split <;> simp
/-- what the rows of conts are -/
structure Goes (ws : List (Int × Int)) (k m : Nat) (row : List Nat) : Prop where
  len : row.length = k
  nd : row.Nodup
  lt : ∀ x ∈ row, x < ws.length ∧ m.testBit x = false
  fit : ∀ j (h : j < row.length), fitB ws ((ws.length : Int) - k + 1 + j) row[j] = true
theorem mem_conts (ws : List (Int × Int)) : ∀ (k m : Nat) (row : List Nat), row ∈ conts ws k m ↔ Goes ws k m row
  | 0, m, row => by
    rw [show conts ws 0 m = [[]] from rfl, List.mem_singleton]
    constructor
    · rintro rfl
      exact ⟨rfl, List.nodup_nil, (fun x h => nomatch h), fun j h => absurd h (Nat.not_lt_zero _)⟩
    · exact fun h => List.eq_nil_of_length_eq_zero h.len
  | k + 1, m, row => by
    rw [conts_succ]
    unfold contsTo
    rw [List.mem_flatMap]
    constructor
    · rintro ⟨i, hi, h⟩
      rw [List.mem_range] at hi
      by_cases c : okB ws m ((ws.length : Int) - k) i = true
      · rw [if_pos c, List.mem_map] at h
        obtain ⟨r, hr, rfl⟩ := h
        have g := (mem_conts ws k (m + 2 ^ i) r).mp hr
        unfold okB at c
        rw [Bool.and_eq_true, Bool.not_eq_true'] at c
        have hx : ∀ x ∈ r, x < ws.length ∧ m.testBit x = false ∧ x ≠ i := fun x hx => by
          obtain ⟨h1, h2⟩ := g.lt x hx
          rw [tb_add i m x c.1, Bool.or_eq_false_iff] at h2
          exact ⟨h1, h2.1, of_decide_eq_false h2.2⟩
        refine ⟨by rw [List.length_cons, g.len], List.nodup_cons.mpr ⟨fun z => (hx i z).2.2 rfl, g.nd⟩, fun x hx' => ?_, fun j hj => ?_⟩
        · rcases List.mem_cons.mp hx' with rfl | z
          · exact ⟨hi, c.1⟩
          · exact ⟨(hx x z).1, (hx x z).2.1⟩
        · cases j with
          | zero =>
            have := c.2
            rw [show (ws.length : Int) - (k + 1 : Nat) + 1 + (0 : Nat) = (ws.length : Int) - k by omega]
            exact this
          | succ j =>
            have := g.fit j (by simpa using hj)
            rw [show (ws.length : Int) - (k + 1 : Nat) + 1 + (j + 1 : Nat) = (ws.length : Int) - k + 1 + j by omega]
            exact this
      · rw [if_neg c] at h
        cases h
    · intro g
      cases row with
      | nil => have := g.len; simp at this
      | cons i r =>
        obtain ⟨hi, hb⟩ := g.lt i List.mem_cons_self
        have f0 := g.fit 0 (by simp)
        rw [show (ws.length : Int) - (k + 1 : Nat) + 1 + (0 : Nat) = (ws.length : Int) - k by omega] at f0
        have f0 : fitB ws ((ws.length : Int) - k) i = true := f0
        refine ⟨i, List.mem_range.mpr hi, ?_⟩
        have c : okB ws m ((ws.length : Int) - k) i = true := by unfold okB; rw [hb, f0]; rfl
        rw [if_pos c, List.mem_map]
        refine ⟨r, (mem_conts ws k (m + 2 ^ i) r).mpr ⟨by have := g.len; simpa using this, (List.nodup_cons.mp g.nd).2, fun x hx => ?_, fun j hj => ?_⟩, rfl⟩
        · obtain ⟨h1, h2⟩ := g.lt x (List.mem_cons_of_mem _ hx)
          refine ⟨h1, ?_⟩
          rw [tb_add i m x hb, h2, Bool.false_or]
          exact decide_eq_false fun e => (List.nodup_cons.mp g.nd).1 (e ▸ hx)
        · have := g.fit (j + 1) (by simpa using hj)
          rw [show (ws.length : Int) - (k + 1 : Nat) + 1 + (j + 1 : Nat) = (ws.length : Int) - k + 1 + j by omega] at this
          exact this
theorem mem_all (ws : List (Int × Int)) (row : List Nat) : row ∈ conts ws ws.length 0 ↔ IsOrder ws row := by
  rw [mem_conts]
  have e : ∀ j : Nat, (ws.length : Int) - ws.length + 1 + (j : Int) = j + 1 := fun j => by omega
  constructor
  · intro g
    exact ⟨g.len, g.nd, fun x h => (g.lt x h).1, fun j h => by have := g.fit j h; rw [e] at this; exact of_decide_eq_true this⟩
  · intro o
    exact ⟨o.len, o.nd, fun x h => ⟨o.lt x h, Nat.zero_testBit x⟩, fun j h => by rw [e]; exact decide_eq_true (o.fit j h)⟩

end Su
namespace Su
open PySem L2
local macro_rules | `(tactic| walk_at "side") => `(tactic| first | assumption | (show (0 : Int) < _; omega) | (show (0 : Int) ≤ _; omega) | (show (0 : Int) < _; split <;> omega) | (show _ ∨ _; omega) | (show _ ∧ _; omega) | exact ⟨by decide, by decide, by decide⟩ | exact ⟨by first | assumption | omega, by first | assumption | omega⟩)
local macro_rules | `(tactic| walk_at "x") => `(tactic| first | with_reducible refine Su.x_seq ?_ | with_reducible refine Su.x_asg ?_ | with_reducible refine Su.x_gname ?_ | with_reducible refine Su.x_ret ?_ | ((with_reducible show L2.tVar _ _ _ _); refine Su.x_var rfl ?_) | with_reducible refine Su.x_c ?_ | with_reducible refine Su.x_op ?_ | ((with_reducible refine Su.x_rI ?_ ?_); focus walk_at "side") | with_reducible refine Su.x_rGt ?_ | with_reducible refine Su.x_test ?_ | with_reducible refine Su.x_isB' ?_ | with_reducible refine Su.x_whileN ?_ | with_reducible refine Su.x_ipI ?_ | ((with_reducible show L2.tAug _ _ _ _ _ _); refine Su.x_aug rfl ?_))
local macro_rules | `(tactic| walk_at "xs") => `(tactic| repeat walk_at "x")
local macro_rules | `(tactic| walk_at "if") => `(tactic| first | with_reducible refine Su.x_iteD (fun c => ?_) (fun c => ?_) | with_reducible refine Su.x_iteN (fun c => ?_) (fun c => ?_) | with_reducible refine Su.x_ite (fun c => ?_) (fun c => ?_))

/-! bits -/
def sp_bits (K : PySem.W.Frag) : Sp := fun vs H Q _ => ∃ (m : Nat), vs = [.int m] ∧ Q (.int (pc m)) H
abbrev N_bits : List Str := ["mask", "many"]
def t_bits (K : PySem.W.Frag) : TS :=
 (tSeq (tAsg (tC (.int 0)) (gName 1))
 (tSeq (tWhile (tTest (tOp rGt (tVar 0) (tC (.int 0))))
 (tSeq (tAug 1 (tOp rMod (tVar 0) (tC (.int 2))) (ipI fun i j => i + j))
 (tAsg (tOp rDiv (tVar 0) (tC (.int 2))) (gName 0))))
 (tRet (tVar 1))))

theorem len_bits {K : PySem.W.Frag} : ∀ vs H Q E, sp_bits K vs H Q E → vs.length = ["a"].length := by
  rintro vs H Q E ⟨_, rfl, _⟩; rfl
theorem pure_bits {K : PySem.W.Frag} {vs : List V} {H : Hp} {Q : VK} {E : XK} (h : sp_bits K vs H Q E) : t_bits K { nx := fun _ H' => Q .non H', rt := Q } (start N_bits vs) H := by
  obtain ⟨m, rfl, k⟩ := h
  unfold t_bits
  walk_at "xs"
  refine ⟨fun f σ H' => ∃ (r c : Nat), σ = [some (.int r), some (.int c)] ∧ H = H' ∧ c + pc r = pc m ∧ f = r, ⟨m, m, 0, rfl, rfl, by omega, rfl⟩, ?_⟩
  rintro f σ H' ⟨r, c, rfl, rfl, he, rfl⟩
  walk_at "xs"
  walk_at "if"
  · rename_i c1
    walk_at "xs"
    refine ⟨f / 2, by omega, f / 2, c + f % 2, by simp, rfl, ?_, rfl⟩
    rw [← he, pc_step (m := f) (by omega)]
    omega
  · rename_i c1
    have : f = 0 := by omega
    subst this
    rw [pc_zero] at he
    walk_at "xs"
    rw [show c = pc m by omega]
    exact k

end Su
namespace Su
open PySem L2
local macro_rules | `(tactic| walk_at "side") => `(tactic| first | assumption | (show (0 : Int) < _; omega) | (show (0 : Int) ≤ _; omega) | (show (0 : Int) < _; split <;> omega) | (show _ ∨ _; omega) | (show _ ∧ _; omega) | exact ⟨by decide, by decide, by decide⟩ | exact ⟨by first | assumption | omega, by first | assumption | omega⟩)
local macro_rules | `(tactic| walk_at "x") => `(tactic| first | with_reducible refine Su.x_ret ?_ | ((with_reducible show L2.tVar _ _ _ _); refine Su.x_var rfl ?_) | with_reducible refine Su.x_c ?_ | with_reducible refine Su.x_op ?_ | ((with_reducible refine Su.x_rI ?_ ?_); focus walk_at "side") | with_reducible refine Su.x_eqI ?_)
local macro_rules | `(tactic| walk_at "xs") => `(tactic| repeat walk_at "x")
local macro_rules | `(tactic| walk_at "if") => `(tactic| first | with_reducible refine Su.x_iteD (fun c => ?_) (fun c => ?_) | with_reducible refine Su.x_iteN (fun c => ?_) (fun c => ?_) | with_reducible refine Su.x_ite (fun c => ?_) (fun c => ?_))

/-! has_bit, with_bit, bits: sets of places as numbers -/
def sp_has_bit (K : PySem.W.Frag) : Sp := fun vs H Q _ => ∃ (m i : Nat), vs = [.int m, .int i] ∧ Q (.bl (m.testBit i)) H
abbrev N_has_bit : List Str := ["mask", "at"]
def t_has_bit (K : PySem.W.Frag) : TS :=
 (tRet (tOp rEq (tOp rMod (tOp rShr (tVar 0) (tVar 1)) (tC (.int 2))) (tC (.int 1))))

theorem has_bit_is (m i : Nat) : decide ((m : Int) / 2 ^ i % 2 = 1) = m.testBit i := by
  rw [Nat.testBit_eq_decide_div_mod_eq]
  congr 1
  have e : (m : Int) / 2 ^ i = ((m / 2 ^ i : Nat) : Int) := by simp
  rw [e]
  apply propext
  omega
theorem len_has_bit {K : PySem.W.Frag} : ∀ vs H Q E, sp_has_bit K vs H Q E → vs.length = ["a", "b"].length := by
  rintro vs H Q E ⟨_, _, rfl, _⟩; rfl
theorem pure_has_bit {K : PySem.W.Frag} {vs : List V} {H : Hp} {Q : VK} {E : XK} (h : sp_has_bit K vs H Q E) : t_has_bit K { nx := fun _ H' => Q .non H', rt := Q } (start N_has_bit vs) H := by
  obtain ⟨m, i, rfl, k⟩ := h
  unfold t_has_bit
  walk_at "xs"
  have := has_bit_is m i
  rw [show ((i : Int)).toNat = i by omega]
  rw [this]
  exact k

end Su
namespace Su
open PySem L2
local macro_rules | `(tactic| walk_at "side") => `(tactic| first | assumption | (show (0 : Int) < _; omega) | (show (0 : Int) ≤ _; omega) | (show (0 : Int) < _; split <;> omega) | (show _ ∨ _; omega) | (show _ ∧ _; omega) | exact ⟨by decide, by decide, by decide⟩ | exact ⟨by first | assumption | omega, by first | assumption | omega⟩)
local macro_rules | `(tactic| walk_at "x") => `(tactic| first | with_reducible refine Su.x_ret ?_ | ((with_reducible show L2.tVar _ _ _ _); refine Su.x_var rfl ?_) | with_reducible refine Su.x_c ?_ | with_reducible refine Su.x_op ?_ | with_reducible refine Su.x_rI0 ?_ | ((with_reducible refine Su.x_rI ?_ ?_); focus walk_at "side"))
local macro_rules | `(tactic| walk_at "xs") => `(tactic| repeat walk_at "x")
local macro_rules | `(tactic| walk_at "if") => `(tactic| first | with_reducible refine Su.x_iteD (fun c => ?_) (fun c => ?_) | with_reducible refine Su.x_iteN (fun c => ?_) (fun c => ?_) | with_reducible refine Su.x_ite (fun c => ?_) (fun c => ?_))

/-! with_bit -/
def sp_with_bit (K : PySem.W.Frag) : Sp := fun vs H Q _ => ∃ (m i : Nat), vs = [.int m, .int i] ∧ i ≤ 1000 ∧ Q (.int (m + 2 ^ i : Nat)) H
abbrev N_with_bit : List Str := ["mask", "at"]
def t_with_bit (K : PySem.W.Frag) : TS :=
 (tRet (tOp rAdd (tVar 0) (tOp rShl (tC (.int 1)) (tVar 1))))

theorem len_with_bit {K : PySem.W.Frag} : ∀ vs H Q E, sp_with_bit K vs H Q E → vs.length = ["a", "b"].length := by
  rintro vs H Q E ⟨_, _, rfl, _⟩; rfl
theorem pure_with_bit {K : PySem.W.Frag} {vs : List V} {H : Hp} {Q : VK} {E : XK} (h : sp_with_bit K vs H Q E) : t_with_bit K { nx := fun _ H' => Q .non H', rt := Q } (start N_with_bit vs) H := by
  obtain ⟨m, i, rfl, hi, k⟩ := h
  unfold t_with_bit
  walk_at "xs"
  have e : (m : Int) + 1 * 2 ^ ((i : Int)).toNat = ((m + 2 ^ i : Nat) : Int) := by
    rw [show ((i : Int)).toNat = i by omega]; simp
  rw [e]
  exact k

end Su
namespace Su
open PySem L2
local macro_rules | `(tactic| walk_at "side") => `(tactic| first | assumption | (show (0 : Int) < _; omega) | (show (0 : Int) ≤ _; omega) | (show (0 : Int) < _; split <;> omega) | (show _ ∨ _; omega) | (show _ ∧ _; omega) | exact ⟨by decide, by decide, by decide⟩ | exact ⟨by first | assumption | omega, by first | assumption | omega⟩)
local macro_rules | `(tactic| walk_at "x") => `(tactic| first | with_reducible refine Su.x_seq ?_ | with_reducible refine Su.x_asg ?_ | with_reducible refine Su.x_gname ?_ | with_reducible refine Su.x_ret ?_ | with_reducible refine Su.x_ifS ?_ | ((with_reducible show L2.tVar _ _ _ _); refine Su.x_var rfl ?_) | with_reducible refine Su.x_c ?_ | with_reducible refine Su.x_op ?_ | with_reducible refine Su.x_rI0 ?_ | ((with_reducible refine Su.x_rI ?_ ?_); focus walk_at "side") | with_reducible refine Su.x_iteF ?_ | with_reducible refine Su.x_test ?_ | with_reducible refine Su.x_tB ?_ | with_reducible refine Su.x_isB' ?_ | with_reducible refine Su.x_not ?_ | with_reducible refine Su.x_and ?_ | with_reducible refine Su.x_chain ?_ | with_reducible refine Su.x_nil ?_ | with_reducible refine Su.x_cons ?_ | with_reducible refine Su.x_cb ?_ | with_reducible refine Su.x_call ?_ | with_reducible refine Su.x_lst ?_ | with_reducible refine Su.x_next ?_ | with_reducible refine Su.x_for ?_ | with_reducible refine Su.x_iRng1 ?_ | with_reducible refine Su.x_iRng2 ?_ | with_reducible refine Su.x_iEnum ?_ | with_reducible refine Su.x_gcons ?_ | with_reducible refine Su.x_gnil ?_ | with_reducible refine Su.x_gsub ?_ | with_reducible refine Su.x_ipI ?_ | ((with_reducible show L2.tAug _ _ _ _ _ _); refine Su.x_aug rfl ?_))
local macro_rules | `(tactic| walk_at "xs") => `(tactic| repeat walk_at "x")
local macro_rules | `(tactic| walk_at "if") => `(tactic| first | with_reducible refine Su.x_iteD (fun c => ?_) (fun c => ?_) | with_reducible refine Su.x_iteN (fun c => ?_) (fun c => ?_) | with_reducible refine Su.x_ite (fun c => ?_) (fun c => ?_))

/-! ways_on: the table of how many rows go on -/
def wy (ws : List (Int × Int)) (m : Nat) : Int := ((conts ws (ws.length - pc m) m).length : Nat)
structure TabOk (ws : List (Int × Int)) (tab : List Int) : Prop where
  len : tab.length = 2 ^ ws.length
  at_ : ∀ m, m < 2 ^ ws.length → tab.getD m 0 = wy ws m
def sp_ways_on (K : PySem.W.Frag) : Sp := fun vs H Q _ => ∃ (v : V) (ws : List (Int × Int)), vs = [v] ∧ Dp K H v (dWin ws) ∧ ws.length ≤ 8 ∧
  ∀ (p : Addr) (tab : List Int) (H' : Hp), H p = none → Same H H' → H' p = some (.lst (tab.map V.int)) → TabOk ws tab → Q (.ref p) H'
theorem wy_full (ws : List (Int × Int)) : wy ws (2 ^ ws.length - 1) = 1 := by
  unfold wy
  rw [pc_full, Nat.sub_self]; rfl
abbrev N_ways_on : List Str := ["windows", "size", "full", "step", "table", "back", "mask", "turn", "many", "at", "first", "last"]
def t_ways_on (K : PySem.W.Frag) : TS :=
 (tSeq (tAsg (tCB (rLenSeq K) (tCons (tVar 0) tNil)) (gName 1))
 (tSeq (tAsg (tC (.int 1)) (gName 2))
 (tSeq (tFor (iRng1 (tCons (tVar 1) tNil)) (gName 3)
 (tAsg (tOp rMul (tVar 2) (tC (.int 2))) (gName 2)))
 (tSeq (tAsg (tOp rRep (tLst (tCons (tC (.int 0)) tNil)) (tVar 2)) (gName 4))
 (tSeq (tAsg (tC (.int 1)) (gSub (tVar 4) (tOp rSub (tVar 2) (tC (.int 1))) rSetL))
 (tSeq (tFor (iRng2 (tCons (tC (.int 2)) (tCons (tOp rAdd (tVar 2) (tC (.int 1))) tNil))) (gName 5)
 (tSeq (tAsg (tOp rSub (tVar 2) (tVar 5)) (gName 6))
 (tSeq (tAsg (tOp rAdd (tCall (sp_bits K) [] E0 (tCons (tVar 6) tNil)) (tC (.int 1))) (gName 7))
 (tSeq (tAsg (tC (.int 0)) (gName 8))
 (tSeq (tFor (iEnum K (tCons (tVar 0) tNil)) (gTup K 2 (gCons (gName 9) (gCons (gTup K 2 (gCons (gName 10) (gCons (gName 11) gNil))) gNil)))
 (tIfS (tAnd (tNot (tB (tCall (sp_has_bit K) [] E0 (tCons (tVar 6) (tCons (tVar 9) tNil))))) (tTest (tChain rLe rLe (tVar 10) (tVar 7) (tVar 11))))
 (tAug 8 (tOp (rIxL K) (tVar 4) (tCall (sp_with_bit K) [] E0 (tCons (tVar 6) (tCons (tVar 9) tNil)))) (ipI fun i j => i + j))
 tNext))
 (tAsg (tVar 8) (gSub (tVar 4) (tVar 6) rSetL)))))))
 (tRet (tVar 4))))))))

theorem len_ways_on {K : PySem.W.Frag} : ∀ vs H Q E, sp_ways_on K vs H Q E → vs.length = ["a"].length := by
  rintro vs H Q E ⟨_, _, rfl, _⟩; rfl
theorem getD_setW {xs : List Int} {i j : Nat} {v : Int} (hi : i < xs.length) : (xs.set i v).getD j 0 = if j = i then v else xs.getD j 0 := by
  rw [List.getD_eq_getElem?_getD, List.getElem?_set]
  by_cases c : i = j
  · subst c; rw [if_pos rfl, if_pos hi, if_pos rfl]; rfl
  · rw [if_neg c, if_neg (fun e => c e.symm), List.getD_eq_getElem?_getD]
theorem pure_ways_on {K : PySem.W.Frag} {vs : List V} {H : Hp} {Q : VK} {E : XK} (h : sp_ways_on K vs H Q E) : t_ways_on K { nx := fun _ H' => Q .non H', rt := Q } (start N_ways_on vs) H := by
  obtain ⟨v, ws, rfl, hw, hl, k⟩ := h
  obtain ⟨q, xs, rfl, hq, hx, hat⟩ := win_at hw
  unfold t_ways_on
  walk_at "xs"
  refine x_lenL hq ?_
  rw [hx]
  walk_at "xs"
  refine ⟨ws.length, rfl, by omega, by omega, for_by turnsR (fun i σ H' => ∃ (u : Option V), σ = [some (.ref q), some (.int ws.length), some (.int (2 ^ i : Nat)), u, none, none, none, none, none, none, none, none] ∧ H = H')
    ⟨none, rfl, rfl⟩ (fun _ _ _ _ _ => trivial) ?_ ?_⟩
  · rintro i y σ H2 _ hi ⟨u, rfl, rfl⟩ ⟨rfl, rfl⟩
    walk_at "xs"
    have e : ((2 ^ i : Nat) : Int) * 2 = ((2 ^ (i + 1) : Nat) : Int) := by rw [Nat.pow_succ]; simp
    rw [e]
    exact ⟨_, rfl, rfl⟩
  rintro σ H2 ⟨u, rfl, rfl⟩
  rw [show ((ws.length : Int)).toNat = ws.length by omega]
  have full8 : 2 ^ ws.length ≤ 2 ^ 8 := Nat.pow_le_pow_right (by decide) hl
  have full0 := Nat.two_pow_pos ws.length
  obtain ⟨full, hf⟩ : ∃ full, full = 2 ^ ws.length := ⟨_, rfl⟩
  rw [← hf] at full8 full0 ⊢
  walk_at "xs"
  refine al_lst fun l H3 nl s3 hl3 => ?_
  walk_at "xs"
  refine al_rep hl3 (by omega) fun p H4 np s4 hp _ => ?_
  have s14 := s3.trans s4
  have np1 : H p = none := s3.free np
  have hp' : H4 p = some (.lst ((List.replicate full (0 : Int)).map V.int)) := by rw [hp]; simp
  walk_at "xs"
  refine x_setL hp' (by omega) (by simp; omega) ?_
  obtain ⟨H5, hH5⟩ : ∃ H5, H5 = upd H4 p (.lst (((List.replicate full (0 : Int)).map V.int).set ((full : Int) - 1).toNat (.int 1))) := ⟨_, rfl⟩
  rw [← hH5]
  have hp5 : H5 p = some (.lst (((List.replicate full (0 : Int)).set (full - 1) 1).map V.int)) := by
    rw [hH5, upd_same, List.map_set, show ((full : Int) - 1).toNat = full - 1 by omega]
  have s5 : Same H H5 := by rw [hH5]; exact same_upd s14 np1
  clear hH5 hp' hp s4 s3 s14 hl3 nl
  walk_at "xs"
  refine ⟨2, (full : Int) + 1, rfl, ⟨by omega, by omega, by omega, by omega⟩, for_by turnsR (fun i σ H' => ∃ (tab : List Int) (u1 u2 u3 u4 u5 u6 u7 : Option V), σ = [some (.ref q), some (.int ws.length), some (.int full), u, some (.ref p), u1, u2, u3, u4, u5, u6, u7] ∧ Same H H' ∧
    H' p = some (.lst (tab.map V.int)) ∧ tab.length = full ∧ ∀ m, full - 1 ≤ m + i → m < full → tab.getD m 0 = wy ws m)
    ⟨_, none, none, none, none, none, none, none, rfl, s5, hp5, by simp, fun m h1 h2 => ?_⟩ (fun _ _ _ _ _ => trivial) ?_ ?_⟩
  · have e : m = full - 1 := by omega
    rw [getD_setW (by simp; omega), if_pos e, e, hf, wy_full]
  · rintro i y σ H6 _ hi ⟨tab, u1, u2, u3, u4, u5, u6, u7, rfl, s6, hp6, tl, tok⟩ ⟨rfl, rfl⟩
    have hi' : i + 1 < full := by omega
    obtain ⟨m, hm⟩ : ∃ m : Nat, m = full - (2 + i) := ⟨_, rfl⟩
    have em : (full : Int) - (2 + (i : Int)) = m := by omega
    have pcm : pc m < ws.length := pc_lt ws.length m (by omega)
    obtain ⟨kk, hkk⟩ : ∃ kk, ws.length - pc m = kk + 1 := ⟨ws.length - pc m - 1, by omega⟩
    walk_at "xs"
    rw [em]
    refine ⟨m, rfl, ?_⟩
    walk_at "xs"
    refine ⟨q, xs, rfl, s6.seq hq, for_by turnsE (fun j σ H' => ∃ (v1 v2 v3 : Option V), σ = [some (.ref q), some (.int ws.length), some (.int full), u, some (.ref p), some (.int (2 + (i : Int))), some (.int m), some (.int ((pc m : Int) + 1)), some (.int (contsTo ws kk m j).length), v1, v2, v3] ∧ Same H6 H')
      ⟨u5, u6, u7, rfl, Same.refl _⟩ (fun j σ H' _ ⟨_, _, _, _, s⟩ => (s6.trans s).seq hq) ?_ ?_⟩
    · rintro j y σ H7 H8 hj ⟨v1, v2, v3, rfl, s7⟩ ⟨x, hxj, T, rfl, nT, s8, hT, _⟩
      have hj' : j < ws.length := by omega
      obtain ⟨wi, t, ew, rfl, ht⟩ := hat j x hxj
      have hd : ws.getD j (0, 0) = wi := by rw [List.getD_eq_getElem?_getD, ew]; rfl
      have s68 := (s6.trans s7).trans s8
      refine x_gtup (SqT.of hT) rfl ?_
      walk_at "xs"
      refine x_gtup (seqT_same s68 ht) rfl ?_
      walk_at "xs"
      refine ⟨m, j, rfl, ?_⟩
      have ek : (ws.length : Int) - kk = (pc m : Int) + 1 := by omega
      have cl := contsTo_len ws kk m j
      unfold okB fitB w1 w2 at cl
      rw [hd, ek] at cl
      walk_at "xs"
      walk_at "if"
      · rename_i c1
        walk_at "xs"
        walk_at "if"
        · rename_i c2
          walk_at "xs"
          walk_at "if"
          · rename_i c3
            walk_at "xs"
            refine ⟨m, j, rfl, by omega, ?_⟩
            have c1' : m.testBit j = false := by simpa using c1
            have lt := add_lt j ws.length m hj' (by omega) c1'
            have hp8 := (s7.trans s8) _ _ hp6
            refine x_ixL (SqL.of hp8) (at_getI (Int.natCast_nonneg _) (by rw [tl, hf]; exact Int.ofNat_lt.mpr lt)) ?_
            walk_at "xs"
            rw [Int.toNat_natCast, tok _ (by have := Nat.two_pow_pos j; omega) (by rw [hf]; exact lt)]
            have e2 : wy ws (m + 2 ^ j) = ((conts ws kk (m + 2 ^ j)).length : Nat) := by
              unfold wy
              rw [pc_add j m c1', show ws.length - (pc m + 1) = kk by omega]
            rw [c1', if_pos (by simp; exact ⟨c2, c3⟩)] at cl
            refine ⟨some (.int j), some (.int wi.1), some (.int wi.2), ?_, s7.trans s8⟩
            rw [cl, e2, Int.natCast_add]; rfl
          · rename_i c3
            rw [if_neg (by simp; intro _ _; omega)] at cl
            rw [Nat.add_zero] at cl
            refine ⟨some (.int j), some (.int wi.1), some (.int wi.2), ?_, s7.trans s8⟩
            rw [cl]; rfl
        · rename_i c2
          walk_at "xs"
          rw [if_neg (by simp; intro _ z; omega)] at cl
          rw [Nat.add_zero] at cl
          refine ⟨some (.int j), some (.int wi.1), some (.int wi.2), ?_, s7.trans s8⟩
          rw [cl]; rfl
      · rename_i c1
        have c1' : m.testBit j = true := by simpa using c1
        rw [c1', if_neg (by simp)] at cl
        rw [Nat.add_zero] at cl
        refine ⟨some (.int j), some (.int wi.1), some (.int wi.2), ?_, s7.trans s8⟩
        rw [cl]; rfl
    · rintro σ H7 ⟨v1, v2, v3, rfl, s7⟩
      have hp7 := s7 _ _ hp6
      walk_at "xs"
      refine x_setL hp7 (by omega) (by rw [List.length_map, tl]; omega) ?_
      refine ⟨tab.set m ((contsTo ws kk m ws.length).length : Nat), _, _, _, _, _, _, _, rfl, same_upd (s6.trans s7) np1, ?_, by rw [List.length_set]; exact tl, fun m' h1 h2 => ?_⟩
      · rw [upd_same, List.map_set, show ((m : Int)).toNat = m by omega, hx]
      · rw [getD_setW (by omega)]
        by_cases c : m' = m
        · rw [if_pos c, c]
          unfold wy
          rw [hkk, conts_succ]
        · rw [if_neg c]
          exact tok m' (by omega) h2
  · rintro σ H6 ⟨tab, u1, u2, u3, u4, u5, u6, u7, rfl, s6, hp6, tl, tok⟩
    walk_at "xs"
    exact k p tab H6 np1 s6 hp6 ⟨by rw [tl, hf], fun m hm => tok m (by omega) (by omega)⟩

end Su
namespace Su
open PySem L2
local macro_rules | `(tactic| walk_at "side") => `(tactic| first | assumption | (show (0 : Int) < _; omega) | (show (0 : Int) ≤ _; omega) | (show (0 : Int) < _; split <;> omega) | (show _ ∨ _; omega) | (show _ ∧ _; omega) | exact ⟨by decide, by decide, by decide⟩ | exact ⟨by first | assumption | omega, by first | assumption | omega⟩)
local macro_rules | `(tactic| walk_at "xs") => `(tactic| repeat walk_at "x")
local macro_rules | `(tactic| walk_at "if") => `(tactic| first | with_reducible refine Su.x_iteD (fun c => ?_) (fun c => ?_) | with_reducible refine Su.x_iteN (fun c => ?_) (fun c => ?_) | with_reducible refine Su.x_ite (fun c => ?_) (fun c => ?_))

/-! the row of all orders: shares, places, lesser ones first -/
theorem contsTo_pre (ws : List (Int × Int)) (k m : Nat) : ∀ j d, ∃ r, contsTo ws k m (j + d) = contsTo ws k m j ++ r
  | j, 0 => ⟨[], by simp⟩
  | j, d + 1 => by
    obtain ⟨r, e⟩ := contsTo_pre ws k m j d
    exact ⟨r ++ _, by rw [← Nat.add_assoc, contsTo_succ, e, List.append_assoc]⟩
theorem conts_at {ws : List (Int × Int)} {k m c x : Nat} (hc : c < ws.length) (ok : okB ws m ((ws.length : Int) - k) c = true) (hx : x < (conts ws k (m + 2 ^ c)).length) :
    (conts ws (k + 1) m)[(contsTo ws k m c).length + x]? = (conts ws k (m + 2 ^ c))[x]?.map (c :: ·) := by
  rw [conts_succ]
  obtain ⟨r, e⟩ := contsTo_pre ws k m (c + 1) (ws.length - (c + 1))
  rw [show c + 1 + (ws.length - (c + 1)) = ws.length by omega] at e
  rw [e, contsTo_succ, if_pos ok, List.append_assoc, List.getElem?_append_right (Nat.le_add_right _ _), Nat.add_sub_cancel_left, List.getElem?_append_left (by rw [List.length_map]; exact hx), List.getElem?_map]
/-- all orders, in their row -/
def allO (ws : List (Int × Int)) : List (List Nat) := conts ws ws.length 0
theorem mem_allO {ws : List (Int × Int)} {row : List Nat} : row ∈ allO ws ↔ IsOrder ws row := mem_all ws row
theorem wy_zero (ws : List (Int × Int)) : wy ws 0 = ((allO ws).length : Nat) := by
  unfold wy allO
  rw [pc_zero, Nat.sub_zero]
theorem x_tab {K : PySem.W.Frag} {H : Hp} {Q : VK} {p : Addr} {ws : List (Int × Int)} {tab : List Int} {m : Nat} (ok : TabOk ws tab) (e : H p = some (.lst (tab.map V.int))) (h : m < 2 ^ ws.length) (k : Q (.int (wy ws m)) H) : rIxL K (.ref p) (.int (m : Nat)) H Q :=
  x_ixL (SqL.of e) (at_getI (Int.natCast_nonneg _) (by rw [ok.len]; exact Int.ofNat_lt.mpr h)) (by rw [Int.toNat_natCast, ok.at_ m h]; exact k)

end Su
namespace Su
open PySem L2
local macro_rules | `(tactic| walk_at "side") => `(tactic| first | assumption | (show (0 : Int) < _; omega) | (show (0 : Int) ≤ _; omega) | (show (0 : Int) < _; split <;> omega) | (show _ ∨ _; omega) | (show _ ∧ _; omega) | exact ⟨by decide, by decide, by decide⟩ | exact ⟨by first | assumption | omega, by first | assumption | omega⟩)
local macro_rules | `(tactic| walk_at "x") => `(tactic| first | with_reducible refine Su.x_seq ?_ | with_reducible refine Su.x_ret ?_ | with_reducible refine Su.x_ifS ?_ | ((with_reducible show L2.tVar _ _ _ _); refine Su.x_var rfl ?_) | with_reducible refine Su.x_c ?_ | with_reducible refine Su.x_op ?_ | ((with_reducible show L2.rIxL _ (L2.V.ref _) (L2.V.int _) _ _); refine Su.x_ixI (by assumption) (by first | decide | omega) (by omega) ?_) | with_reducible refine Su.x_rGt ?_ | with_reducible refine Su.x_test ?_ | with_reducible refine Su.x_isB' ?_ | with_reducible refine Su.x_nil ?_ | with_reducible refine Su.x_cons ?_ | with_reducible refine Su.x_cb ?_ | with_reducible refine Su.x_call ?_ | with_reducible refine Su.x_next ?_)
local macro_rules | `(tactic| walk_at "xs") => `(tactic| repeat walk_at "x")
local macro_rules | `(tactic| walk_at "if") => `(tactic| first | with_reducible refine Su.x_iteD (fun c => ?_) (fun c => ?_) | with_reducible refine Su.x_iteN (fun c => ?_) (fun c => ?_) | with_reducible refine Su.x_ite (fun c => ?_) (fun c => ?_))

/-! count_orders -/
def sp_count_orders (K : PySem.W.Frag) : Sp := fun vs H Q E => ∃ (v : V) (ws : List (Int × Int)), vs = [v] ∧ Dp K H v (dWin ws) ∧
  (8 < ws.length → E (.ref (He.ga K "TooMany")) none H) ∧ (ws.length ≤ 8 → ∀ H', Same H H' → Q (.int ((allO ws).length : Nat)) H')
abbrev N_count_orders : List Str := ["windows"]
def t_count_orders (K : PySem.W.Frag) (E : XK) : TS :=
 (tSeq (tIfS (tTest (tOp rGt (tCB (rLenSeq K) (tCons (tVar 0) tNil)) (tC (.int 8))))
 (tRaise (He.ga K "TooMany") (wE E))
 tNext)
 (tRet (tOp (rIxL K) (tCall (sp_ways_on K) [] E0 (tCons (tVar 0) tNil)) (tC (.int 0)))))

theorem len_count_orders {K : PySem.W.Frag} : ∀ vs H Q E, sp_count_orders K vs H Q E → vs.length = ["a"].length := by
  rintro vs H Q E ⟨_, _, rfl, _⟩; rfl
theorem pure_count_orders {K : PySem.W.Frag} {vs : List V} {H : Hp} {Q : VK} {E : XK} (h : sp_count_orders K vs H Q E) : t_count_orders K E { nx := fun _ H' => Q .non H', rt := Q } (start N_count_orders vs) H := by
  obtain ⟨v, ws, rfl, hw, k1, k2⟩ := h
  obtain ⟨q, xs, rfl, hq, hx, hat⟩ := win_at hw
  unfold t_count_orders
  walk_at "xs"
  refine x_lenL hq ?_
  rw [hx]
  walk_at "xs"
  walk_at "if"
  · rename_i c
    exact k1 (by omega)
  · rename_i c
    walk_at "xs"
    refine ⟨_, ws, rfl, hw, by omega, fun p tab H' np s hp ok => ?_⟩
    have t0 := Nat.two_pow_pos ws.length
    have tl := ok.len
    walk_at "xs"
    rw [show (Int.toNat 0) = 0 by rfl, ok.at_ 0 t0, wy_zero]
    exact k2 (by omega) H' s

end Su
namespace Su
open PySem L2
local macro_rules | `(tactic| walk_at "side") => `(tactic| first | assumption | (show (0 : Int) < _; omega) | (show (0 : Int) ≤ _; omega) | (show (0 : Int) < _; split <;> omega) | (show _ ∨ _; omega) | (show _ ∧ _; omega) | exact ⟨by decide, by decide, by decide⟩ | exact ⟨by first | assumption | omega, by first | assumption | omega⟩)
local macro_rules | `(tactic| walk_at "x") => `(tactic| first
  | with_reducible refine Su.x_seq ?_ | with_reducible refine Su.x_asg ?_ | with_reducible refine Su.x_gname ?_ | with_reducible refine Su.x_drop ?_ | with_reducible refine Su.x_ret ?_ | with_reducible refine Su.x_ifS ?_
  | ((with_reducible show L2.tVar _ _ _ _); refine Su.x_var rfl ?_) | with_reducible refine Su.x_c ?_ | with_reducible refine Su.x_op ?_ | with_reducible refine Su.x_rI0 ?_ | ((with_reducible refine Su.x_rI ?_ ?_); focus walk_at "side")
  | ((with_reducible show L2.rIxL _ (L2.V.ref _) (L2.V.int _) _ _); refine Su.x_ixI (by assumption) (by first | decide | omega) (by omega) ?_) | with_reducible refine Su.x_isi_int_int ?_ | with_reducible refine Su.x_isi_int_bool ?_ | with_reducible refine Su.x_isi_int_str ?_ | with_reducible refine Su.x_isi_int_list ?_ | with_reducible refine Su.x_isi_int_tuple ?_ | with_reducible refine Su.x_isi_bool_int ?_ | with_reducible refine Su.x_isi_bool_bool ?_ | with_reducible refine Su.x_isi_bool_str ?_ | with_reducible refine Su.x_isi_bool_list ?_ | with_reducible refine Su.x_isi_bool_tuple ?_ | with_reducible refine Su.x_isi_str_int ?_ | with_reducible refine Su.x_isi_str_bool ?_ | with_reducible refine Su.x_isi_str_str ?_ | with_reducible refine Su.x_isi_str_list ?_ | with_reducible refine Su.x_isi_str_tuple ?_ | with_reducible refine Su.x_isi_NoneType_int ?_ | with_reducible refine Su.x_isi_NoneType_bool ?_ | with_reducible refine Su.x_isi_NoneType_str ?_ | with_reducible refine Su.x_isi_NoneType_list ?_ | with_reducible refine Su.x_isi_NoneType_tuple ?_ | with_reducible refine Su.x_rGt ?_ | with_reducible refine Su.x_rGe ?_ | with_reducible refine Su.x_iteF ?_ | with_reducible refine Su.x_iteT ?_ | with_reducible refine Su.x_iteNT ?_ | with_reducible refine Su.x_iteNF ?_ | with_reducible refine Su.x_eqI ?_ | with_reducible refine Su.x_neI ?_ | with_reducible refine Su.x_eqS ?_ | with_reducible refine Su.x_neS ?_ | with_reducible refine Su.x_eqB ?_ | with_reducible refine Su.x_neB ?_
  | with_reducible refine Su.x_test ?_ | with_reducible refine Su.x_tB ?_ | with_reducible refine Su.x_isB ?_ | with_reducible refine Su.x_isB' ?_ | with_reducible refine Su.x_not ?_ | with_reducible refine Su.x_and ?_ | with_reducible refine Su.x_or ?_
  | with_reducible refine Su.x_andV ?_ | with_reducible refine Su.x_orV ?_ | with_reducible refine Su.x_notV ?_ | with_reducible refine Su.x_chain ?_ | with_reducible refine Su.x_nil ?_ | with_reducible refine Su.x_cons ?_ | with_reducible refine Su.x_cb ?_ | with_reducible refine Su.x_call ?_
  | with_reducible refine Su.x_un ?_ | with_reducible refine Su.x_rU ?_ | with_reducible refine Su.x_abs ?_ | with_reducible refine Su.x_max2 ?_ | with_reducible refine Su.x_min2 ?_ | with_reducible refine Su.x_int1 ?_ | with_reducible refine Su.x_intB ?_
  | with_reducible refine Su.x_lst ?_ | with_reducible refine Su.x_tup ?_ | with_reducible refine Su.x_bmL ?_ | with_reducible refine Su.x_next ?_ | with_reducible refine Su.x_for ?_ | with_reducible refine Su.x_iList ?_ | with_reducible refine Su.x_iRng1 ?_ | with_reducible refine Su.x_iRng2 ?_ | with_reducible refine Su.x_whileN ?_ | with_reducible refine Su.x_iEnum ?_ | with_reducible refine Su.x_iZip ?_ | with_reducible refine Su.x_iZipA ?_ | with_reducible refine Su.x_iTup ?_ | with_reducible refine Su.x_gcons ?_ | with_reducible refine Su.x_gnil ?_ | with_reducible refine Su.x_gsub ?_ | with_reducible refine Su.x_yes ?_ | with_reducible refine Su.x_lc ?_ | with_reducible refine Su.x_sl ?_ | with_reducible refine Su.x_nopart ?_ | with_reducible refine Su.x_part ?_ | with_reducible refine Su.x_isI ?_ | with_reducible refine Su.x_lstRg ?_ | with_reducible refine Su.x_rg1 ?_ | with_reducible refine Su.x_augS ?_ | with_reducible refine Su.x_ipI ?_ | ((with_reducible show L2.tAug _ _ _ _ _ _); refine Su.x_aug rfl ?_) | with_reducible refine Su.x_callS ?_ | with_reducible refine Su.x_tryAs ?_)
local macro_rules | `(tactic| walk_at "xs") => `(tactic| repeat walk_at "x")
local macro_rules | `(tactic| walk_at "if") => `(tactic| first | with_reducible refine Su.x_iteD (fun c => ?_) (fun c => ?_) | with_reducible refine Su.x_iteN (fun c => ?_) (fun c => ?_) | with_reducible refine Su.x_ite (fun c => ?_) (fun c => ?_))
/-! enumerate(xs, 1): the numbers from 1 on -/
section
open PySem.Calls PyProof.Rows AutoSeq1
theorem tyC2 (a b : Value) : checkTypeCall "enumerate" ⟨[a, b], []⟩ = pure () := by kernel_rfl
theorem nwC2 (a b : Value) : checkBuiltinCall "enumerate.__new__" ⟨[.type "enumerate", a, b], []⟩ = pure () := by kernel_rfl
abbrev itO (l : Addr) : Obj := { cls := .type "list_iterator", data := .fields #[.ref l, .int 0 0] }
abbrev enO (it : Addr) : Obj := { cls := .type "enumerate", data := .fields #[.none, .bool false, .ref it, rawInt 1, .none, .none] }
set_option maxHeartbeats 4000000 in
theorem meets_enum1 (l : Addr) (its : Array Value) (n : Nat) (dct : Option Addr) (sl : Array (Option Value)) (u : Tok) :
    Meets (Builtin.«enumerate.__new__» ⟨[.type "enumerate", .ref l, .int 1 u], []⟩) (fun _ R s => s.heap.get? l = some { cls := .type "list", dict := dct, data := .seq its n, slots := sl } ∧
      R (.ok (.ret (.ref (s.heap.push (itO l)).objs.size))) { s with heap := (s.heap.push (itO l)).push (enO s.heap.objs.size) }) :=
  .of_wp fun P w A R s ⟨hl, h⟩ => by
    obtain ⟨hp, g, d, tk, os⟩ := s
    have hsub := sub_enumerate
    have hL : Heap.IsList (Shared.heap ⟨hp, g, d, tk, os⟩) l its := ⟨_, hl, rfl, n, rfl⟩
    wp_walk using wpAny_loadPart' hl
    refine wpAny_stack_any fun st => wpAny_pure ?_
    split
    · rename_i c _ _ _ _ _
      cases (c == Value.type "enumerate") <;> (wp_walk using wpAny_loadPart' hl, wpAny_pyIter_list hL; exact ⟨_, rfl, h⟩)
    · wp_walk using wpAny_loadPart' hl, wpAny_pyIter_list hL
      exact ⟨_, rfl, h⟩
variable {P : Program} {w : World} {A : Around} {E : Value → Shared → Prop} {s : Shared}
theorem call_enum1 {l : Addr} {its : Array Value} {u : Tok} {Q : Value → Shared → Prop} (hL : s.heap.IsList l its)
    (h : ∀ h', IsEnum h' (s.heap.objs.size + 1) s.heap.objs.size 1 .none → h'.IsListIter s.heap.objs.size l 0 → (∀ b o, s.heap.get? b = some o → h'.get? b = some o) → Q (.ref (s.heap.objs.size + 1)) { s with heap := h' }) :
    wpAny (model P w) A (PySem.call (.type "enumerate") [.ref l, .int 1 u]) Q E s := by
  obtain ⟨⟨c, dct, dt, sl⟩, hl, hc, n, hd⟩ := hL
  replace hc : c = .type "list" := hc
  replace hd : dt = .seq its n := hd
  subst hc hd
  refine callType_new F.called_enumerate (by decide) (tyC2 _ _) (nwC2 _ _) (fun obj => F.args_object_init_3 obj _ _) F.entry_enumerate_new (meets_enum1 l its n dct sl u) ⟨hl, ?_⟩
  have hz : (s.heap.push (itO l)).objs.size = s.heap.objs.size + 1 := Heap.size_push ..
  show _ ∧ _
  rw [hz]
  have he : IsEnum ((s.heap.push (itO l)).push (enO s.heap.objs.size)) (s.heap.objs.size + 1) s.heap.objs.size 1 .none := hz ▸ Heap.get?_push_size (s.heap.push (itO l)) (o := enO s.heap.objs.size) rfl
  exact ⟨⟨_, he, rfl⟩, h _ he ⟨_, Heap.get?_push_of_some _ (Heap.get?_push_size _ rfl), rfl, rfl⟩ fun b o x => Heap.get?_push_of_some _ (Heap.get?_push_of_some _ x)⟩
/-- what is drawn, counted from one on -/
theorem draws_shift {it : Addr} {fp : List Addr} {n : Nat} {Pr : Nat → Value → Prop} {St : Nat → Heap → Prop} (D : Draws P w A it fp n Pr St) : Draws P w A it fp (n + 1) (fun i v => Pr (i - 1) v) (fun i h => ∃ j, i = j + 1 ∧ St j h) where
  live := fun i h ⟨j, _, st⟩ => D.live j h st
  frame := fun i h h' ⟨j, e, st⟩ k => ⟨j, e, D.frame j h h' st k⟩
  item := fun i s Q E hi ⟨j, e, st⟩ k => by
    subst e
    exact D.item j s Q E (by omega) st fun x h' tk p st' sb => k x h' tk p ⟨j + 1, rfl, st'⟩ sb
  done := fun s Q E ⟨j, e, st⟩ k => by
    have : j = n := by omega
    subst this
    exact D.done s Q E st k
end
/-- the list at a, its items in new pairs with their numbers from one on -/
def Ite1 (K : PySem.W.Frag) (a : Addr) : It :=
  ⟨fun i H => ∃ (xs : List V) (x : V), SqL K H a xs ∧ xs[i]? = some x, fun i H v H' => ∃ T x, v = .ref T ∧ H T = none ∧ H' = upd H T (.tup [.int ((i + 1 : Nat) : Int), x]) ∧ ∀ xs, SqL K H a xs → xs[i]? = some x, fun i H => ∃ xs : List V, SqL K H a xs ∧ xs.length = i⟩
theorem both {q : Addr → Prop} {a b : Addr} (h1 : q a) (h2 : q b) : ∀ c ∈ [a, b], q c := by
  simp only [List.forall_mem_cons]
  exact ⟨h1, h2, nofun⟩
theorem turn_enum1 {P : Program} {w : World} {K : PySem.W.Frag} {elts : List Expr} {kk : Nat} {tpos : Pos} (a e it : Addr) :
    Turn P w K (.Tuple elts kk tpos) (Ite1 K a) [e, it] e (fun i h => (∃ old, IsEnum h e it ((i + 1 : Nat) : Int) old) ∧ h.IsListIter it a i ∧ e ≠ it) where
  mem := by simp
  obj := fun i h ⟨⟨_, o1⟩, ⟨o2, e2, _, d2⟩, _⟩ => both ⟨_, o1, nofun⟩ ⟨o2, e2, fun v z => by rw [d2] at z; cases z⟩
  keep := fun i h h' ⟨⟨old, he⟩, hi, hne⟩ k => ⟨⟨old, k e (by simp) _ he⟩, hi.at fun o q => k it (by simp) o q, hne⟩
  item := by
    rintro X rfl rfl rfl hc i pins s σ H E I hf ⟨⟨old, he⟩, hit, hne⟩ ⟨xs, x, hq, hx⟩
    obtain ⟨its, rv, p, -⟩ := I.list hq
    have ⟨u, hu, ru⟩ := rv.get hx
    have hel := Heap.lt_size he
    have hil := hit.elim fun _ q => Heap.lt_size q.1
    obtain ⟨lo, hlo, lcl, lnl, ldl⟩ := p.isList
    have hai : a ≠ it := fun z => by
      obtain ⟨o, ho, oc, _⟩ := hit
      rw [← z, hlo] at ho
      injection ho with ho
      rw [← ho, lcl] at oc
      exact absurd oc (by decide)
    have hea : e ≠ a := fun z => by
      have he2 : s.heap.get? e = _ := he
      rw [z, hlo] at he2
      injection he2 with he2
      rw [he2] at lcl
      exact absurd (show Value.type "enumerate" = Value.type "list" from lcl) (by decide)
    have D := draws_shift (P := X.prog) (w := X.w) (Draws.list (A := X.A.in1) (prog := X.prog) (w := X.w) (show X.A.in1.handled = none by simp [I.ok.hd hc]) it a hai its.toArray)
    have hsz : its.toArray.size = xs.length := by rw [List.size_toArray]; exact rv.length.symm
    have hlt : i < xs.length := (List.getElem?_eq_some_iff.mp hx).1
    refine PySem.wpAny_pyNext_enum_itemD D he ⟨i, rfl, hit, p.isList⟩ (by omega) hne (by simp [hne, hea]) fun y h' tk hy ho hst hT hsz' hk => ?_
    have ey : y = u := by
      have hy' : its.toArray[i]? = some y := hy
      rw [show its.toArray[i]? = some u by simpa using hu] at hy'
      exact (Option.some.inj hy').symm
    subst ey
    obtain ⟨j, ej, hit', _⟩ := hst
    have : j = i + 1 := by omega
    subst this
    refine ⟨_, rfl, wpAny_letOwnedTupleGo_enum (s := { s with heap := h', toks := tk + 1 }) ho fun h'' he' sb => ?_⟩
    have hT2 : h''.get? s.heap.objs.size = some { cls := .type "tuple", data := .seq #[.int ((i + 1 : Nat) : Int) tk, y] } := (sb.2 _ (Nat.ne_of_gt hel)).trans hT
    have new : ObjOk X.prog X.w (upd H s.heap.objs.size (.tup [.int ((i + 1 : Nat) : Int), x])) h'' s.heap.objs.size (.tup [.int ((i + 1 : Nat) : Int), x]) :=
      ⟨by show 2 ≤ sizeLine; decide, [.int ((i + 1 : Nat) : Int) tk, y], .cons ⟨_, rfl⟩ (.cons ru .nil), ⟨_, hT2, rfl, _, rfl⟩⟩
    have I1 : L2.Inv X pins σ (upd H s.heap.objs.size (.tup [.int ((i + 1 : Nat) : Int), x])) { s with heap := h'', toks := tk + 1 } :=
      I.turnedNew (ch := [e, it]) (fun b ob hb q => (sb.2 b (fun z => hb (by simp [z]))).trans (hk b ob (fun z => hb (by simp [z])) (fun z => hb (by simp [z])) q)) hf (Nat.le_refl _) new
    refine ⟨.ref s.heap.objs.size, _, I1, rfl, ⟨_, x, rfl, I.hok.fresh (Nat.le_refl _), rfl, fun ys hy => by rw [I.list_inj hy hq]; exact hx⟩, ⟨⟨y, ?_⟩, hit'.at fun o q => (sb.2 it (Ne.symm hne)).trans q, hne⟩, fun b hb => ?_⟩
    · have e1 : ((i + 1 + 1 : Nat) : Int) = ((i + 1 : Nat) : Int) + 1 := by omega
      rw [e1]; exact he'
    · rw [upd_ne (Nat.ne_of_lt (both (q := (· < s.heap.objs.size)) hel hil b hb))]
      exact (hf b hb).1
  done := by
    rintro X rfl rfl rfl hc i pins s σ H E I hf ⟨⟨old, he⟩, hit, hne⟩ ⟨xs, hq, hx⟩
    obtain ⟨its, rv, p, -⟩ := I.list hq
    have own := hf it (by simp)
    obtain ⟨lo, hlo, lcl, lnl, ldl⟩ := p.isList
    have hai : a ≠ it := fun z => by
      obtain ⟨o, ho, oc, _⟩ := hit
      rw [← z, hlo] at ho
      injection ho with ho
      rw [← ho, lcl] at oc
      exact absurd oc (by decide)
    have D := Draws.list (A := X.A.in1) (prog := X.prog) (w := X.w) (show X.A.in1.handled = none by simp [I.ok.hd hc]) it a hai its.toArray
    have hsz : its.toArray.size = i := by rw [List.size_toArray, ← rv.length]; exact hx
    exact PySem.wpAny_pyNext_enum_endD D he (by rw [hsz]; exact ⟨hit, p.isList⟩) fun h' eb => ⟨rfl, I.turned (t' := s.toks) eb own.1 own.2.1 own.2.2.2.1 own.2.2.2.2.1 own.2.2.2.2.2⟩
  self := fun A i s Q E ⟨⟨_, he⟩, _⟩ h => wpAny_pyIter_enum he h
def iEnum1 (K : PySem.W.Frag) (ta : TA) : TI := fun σ H R => ta σ H fun vs H1 => ∃ a xs, vs = [.ref a, .int 1] ∧ SqL K H1 a xs ∧ R (Ite1 K a) H1

theorem pi_enum1 {X : Cx} {e : Expr} {te : TE} {p pos tpos pc : Pos} {elts : List Expr} {kk j : Nat} (hg : Gl X "enumerate") (hm : X.mg "enumerate" = none) (ha : PE X e te)
    (hs : starEach [e, .Constant (.int 1) j pc] X.env = (false, eval e X.env) :: starEach [.Constant (.int 1) j pc] X.env := by rfl) :
    PI X (.Tuple elts kk tpos) (.Call (.Name "enumerate" p) [e, .Constant (.int 1) j pc] [] pos) (iEnum1 X.K (tCons te (tCons (tC (.int 1)) tNil))) := by
  have ha' : PA X [e, .Constant (.int 1) j pc] (tCons te (tCons (tC (.int 1)) tNil)) := pa_cons ha (pa_cons pe_int pa_nil) (by first | exact hs | rfl)
  refine ⟨fun pins s σ H R I h => PyProof.Rows.Call_ (ld_blt I hg hm PyProof.Rows.boot_enumerate (PyProof.Rows.callWith_type1 (thn (ha'.run pos pins s σ H _ I h) fun us s1 ⟨vs, H1, I1, r1, q1⟩ => ?_) hs rfl))⟩
  obtain ⟨a, xs, ex, hq, q⟩ := q1
  subst ex
  cases r1 with
  | cons r rr =>
    cases rr with
    | cons r2 rr =>
      cases rr
      cases r
      obtain ⟨u, rfl⟩ := r2
      obtain ⟨its, rv, p', hz⟩ := I1.list hq
      refine call_enum1 p'.isList fun h' he hit hk => wpAny_pyIter_enum he ?_
      have I2 : L2.Inv X pins σ H1 { s1 with heap := h' } := I1.kept (t' := s1.toks) hk
      refine ⟨s1.heap.objs.size + 1, [s1.heap.objs.size + 1, s1.heap.objs.size], _, _, H1, rfl, I2, turn_enum1 a (s1.heap.objs.size + 1) s1.heap.objs.size, ⟨⟨.none, he⟩, hit, Nat.succ_ne_self _⟩, fun b hb => ?_, q⟩
      have above := both (q := (s1.heap.objs.size ≤ ·)) (Nat.le_succ _) (Nat.le_refl _) b hb
      exact I1.fpOk above (I1.hok.fresh above)
theorem turnsE1 {K : PySem.W.Frag} {a : Addr} {xs : List V} : Turns (Ite1 K a) xs.length (fun H => SqL K H a xs) (fun i v H H' => ∃ x, xs[i]? = some x ∧ Pair (.int ((i + 1 : Nat) : Int)) x v H H') where
  go := fun i H hi q => ⟨xs, xs[i], q, List.getElem?_eq_getElem hi⟩
  yld := fun i H v H' _ q y => by
    obtain ⟨T, x, rfl, hT, rfl, f⟩ := y
    exact ⟨x, f xs q, pair_mk hT⟩
  stop := fun H q => ⟨xs, q, rfl⟩
theorem x_iEnum1 {K : PySem.W.Frag} {a1 : TA} {σ : St} {H : Hp} {R : It → Hp → Prop} (h : a1 σ H fun vs H1 => ∃ a xs, vs = [.ref a, .int 1] ∧ SqL K H1 a xs ∧ R (Ite1 K a) H1) : iEnum1 K a1 σ H R := h

end Su
namespace Su
open PySem L2
local macro_rules | `(tactic| walk_at "side") => `(tactic| first | assumption | (show (0 : Int) < _; omega) | (show (0 : Int) ≤ _; omega) | (show (0 : Int) < _; split <;> omega) | (show _ ∨ _; omega) | (show _ ∧ _; omega) | exact ⟨by decide, by decide, by decide⟩ | exact ⟨by first | assumption | omega, by first | assumption | omega⟩)
local macro_rules | `(tactic| walk_at "x") => `(tactic| first
  | with_reducible refine Su.x_seq ?_ | with_reducible refine Su.x_asg ?_ | with_reducible refine Su.x_gname ?_ | with_reducible refine Su.x_drop ?_ | with_reducible refine Su.x_ret ?_ | with_reducible refine Su.x_ifS ?_
  | ((with_reducible show L2.tVar _ _ _ _); refine Su.x_var rfl ?_) | with_reducible refine Su.x_c ?_ | with_reducible refine Su.x_op ?_ | with_reducible refine Su.x_rI0 ?_ | ((with_reducible refine Su.x_rI ?_ ?_); focus walk_at "side")
  | ((with_reducible show L2.rIxL _ (L2.V.ref _) (L2.V.int _) _ _); refine Su.x_ixI (by assumption) (by first | decide | omega) (by omega) ?_) | with_reducible refine Su.x_isi_int_int ?_ | with_reducible refine Su.x_isi_int_bool ?_ | with_reducible refine Su.x_isi_int_str ?_ | with_reducible refine Su.x_isi_int_list ?_ | with_reducible refine Su.x_isi_int_tuple ?_ | with_reducible refine Su.x_isi_bool_int ?_ | with_reducible refine Su.x_isi_bool_bool ?_ | with_reducible refine Su.x_isi_bool_str ?_ | with_reducible refine Su.x_isi_bool_list ?_ | with_reducible refine Su.x_isi_bool_tuple ?_ | with_reducible refine Su.x_isi_str_int ?_ | with_reducible refine Su.x_isi_str_bool ?_ | with_reducible refine Su.x_isi_str_str ?_ | with_reducible refine Su.x_isi_str_list ?_ | with_reducible refine Su.x_isi_str_tuple ?_ | with_reducible refine Su.x_isi_NoneType_int ?_ | with_reducible refine Su.x_isi_NoneType_bool ?_ | with_reducible refine Su.x_isi_NoneType_str ?_ | with_reducible refine Su.x_isi_NoneType_list ?_ | with_reducible refine Su.x_isi_NoneType_tuple ?_ | with_reducible refine Su.x_rGt ?_ | with_reducible refine Su.x_rGe ?_ | with_reducible refine Su.x_iteF ?_ | with_reducible refine Su.x_iteT ?_ | with_reducible refine Su.x_iteNT ?_ | with_reducible refine Su.x_iteNF ?_ | with_reducible refine Su.x_eqI ?_ | with_reducible refine Su.x_neI ?_ | with_reducible refine Su.x_eqS ?_ | with_reducible refine Su.x_neS ?_ | with_reducible refine Su.x_eqB ?_ | with_reducible refine Su.x_neB ?_
  | with_reducible refine Su.x_test ?_ | with_reducible refine Su.x_tB ?_ | with_reducible refine Su.x_isB ?_ | with_reducible refine Su.x_isB' ?_ | with_reducible refine Su.x_not ?_ | with_reducible refine Su.x_and ?_ | with_reducible refine Su.x_or ?_
  | with_reducible refine Su.x_andV ?_ | with_reducible refine Su.x_orV ?_ | with_reducible refine Su.x_notV ?_ | with_reducible refine Su.x_chain ?_ | with_reducible refine Su.x_nil ?_ | with_reducible refine Su.x_cons ?_ | with_reducible refine Su.x_cb ?_ | with_reducible refine Su.x_call ?_
  | with_reducible refine Su.x_un ?_ | with_reducible refine Su.x_rU ?_ | with_reducible refine Su.x_abs ?_ | with_reducible refine Su.x_max2 ?_ | with_reducible refine Su.x_min2 ?_ | with_reducible refine Su.x_int1 ?_ | with_reducible refine Su.x_intB ?_
  | with_reducible refine Su.x_lst ?_ | with_reducible refine Su.x_tup ?_ | with_reducible refine Su.x_bmL ?_ | with_reducible refine Su.x_next ?_ | with_reducible refine Su.x_for ?_ | with_reducible refine Su.x_iList ?_ | with_reducible refine Su.x_iRng1 ?_ | with_reducible refine Su.x_iRng2 ?_ | with_reducible refine Su.x_whileN ?_ | with_reducible refine Su.x_iEnum ?_ | with_reducible refine Su.x_iZip ?_ | with_reducible refine Su.x_iZipA ?_ | with_reducible refine Su.x_iTup ?_ | with_reducible refine Su.x_gcons ?_ | with_reducible refine Su.x_gnil ?_ | with_reducible refine Su.x_gsub ?_ | with_reducible refine Su.x_yes ?_ | with_reducible refine Su.x_lc ?_ | with_reducible refine Su.x_sl ?_ | with_reducible refine Su.x_nopart ?_ | with_reducible refine Su.x_part ?_ | with_reducible refine Su.x_isI ?_ | with_reducible refine Su.x_lstRg ?_ | with_reducible refine Su.x_rg1 ?_ | with_reducible refine Su.x_augS ?_ | with_reducible refine Su.x_ipI ?_ | ((with_reducible show L2.tAug _ _ _ _ _ _); refine Su.x_aug rfl ?_) | with_reducible refine Su.x_callS ?_ | with_reducible refine Su.x_tryAs ?_)
local macro_rules | `(tactic| walk_at "xs") => `(tactic| repeat walk_at "x")
local macro_rules | `(tactic| walk_at "if") => `(tactic| first | with_reducible refine Su.x_iteD (fun c => ?_) (fun c => ?_) | with_reducible refine Su.x_iteN (fun c => ?_) (fun c => ?_) | with_reducible refine Su.x_ite (fun c => ?_) (fun c => ?_))
/-! is_order -/
def sp_is_order (K : PySem.W.Frag) : Sp := fun vs H Q _ => ∃ (v : V) (ws : List (Int × Int)) (p : Addr) (row : List Int), vs = [v, .ref p] ∧ Dp K H v (dWin ws) ∧ SqL K H p (row.map V.int) ∧ ws.length ≤ 1000 ∧
  ∀ b H', Same H H' → (b = true ↔ KeepsP ws row) → Q (.bl b) H'
abbrev N_is_order : List Str := ["windows", "row", "seen", "turn", "at"]
def t_is_order (K : PySem.W.Frag) : TS :=
 (tSeq (tIfS (tTest (tOp rNe (tCB (rLenSeq K) (tCons (tVar 1) tNil)) (tCB (rLenSeq K) (tCons (tVar 0) tNil))))
 (tRet (tC (.bl false)))
 tNext)
 (tSeq (tAsg (tLst tNil) (gName 2))
 (tSeq (tFor (iEnum1 K (tCons (tVar 1) (tCons (tC (.int 1)) tNil))) (gTup K 2 (gCons (gName 3) (gCons (gName 4) gNil)))
 (tSeq (tIfS (tOr (tNot (tTest (tChain rLe rLt (tC (.int 0)) (tVar 4) (tCB (rLenSeq K) (tCons (tVar 0) tNil))))) (tTest (tOp (rIn K false) (tVar 4) (tVar 2))))
 (tRet (tC (.bl false)))
 tNext)
 (tSeq (tIfS (tNot (tTest (tChain rLe rLe (tOp (rIxT K) (tOp (rIxL K) (tVar 0) (tVar 4)) (tC (.int 0))) (tVar 3) (tOp (rIxT K) (tOp (rIxL K) (tVar 0) (tVar 4)) (tC (.int 1))))))
 (tRet (tC (.bl false)))
 tNext)
 (tDrop (tBM K "list" rAppend (tVar 2) (tCons (tVar 4) tNil))))))
 (tRet (tC (.bl true))))))

theorem len_is_order {K : PySem.W.Frag} : ∀ vs H Q E, sp_is_order K vs H Q E → vs.length = ["a", "b"].length := by
  rintro vs H Q E ⟨_, _, _, _, rfl, _⟩; rfl
theorem keeps_at {ws : List (Int × Int)} {row : List Int} (h : KeepsP ws row) {i : Nat} (hi : i < row.length) : (0 ≤ row[i] ∧ row[i] < ws.length) ∧ w1 ws row[i].toNat ≤ (i : Int) + 1 ∧ (i : Int) + 1 ≤ w2 ws row[i].toNat := by
  obtain ⟨r, e, o⟩ := h
  have hir : i < r.length := by rw [e, List.length_map] at hi; exact hi
  have h1 : row[i] = (r[i] : Int) := by simp [e]
  have h2 := o.lt r[i] (List.getElem_mem hir)
  have h3 := o.fit i hir
  rw [h1]
  have e2 : ((r[i] : Nat) : Int).toNat = r[i] := by omega
  rw [e2]
  exact ⟨⟨by omega, by omega⟩, h3⟩
theorem keeps_nodup {ws : List (Int × Int)} {row : List Int} (h : KeepsP ws row) : row.Nodup := by
  obtain ⟨r, e, o⟩ := h
  rw [e, List.nodup_iff_pairwise_ne, List.pairwise_map]
  exact (List.nodup_iff_pairwise_ne.mp o.nd).imp fun h e => h (by omega)
theorem keeps_of {ws : List (Int × Int)} {row : List Int} (hl : row.length = ws.length) (nd : row.Nodup) (fit : ∀ j (h : j < row.length), (0 ≤ row[j] ∧ row[j] < ws.length) ∧ w1 ws row[j].toNat ≤ (j : Int) + 1 ∧ (j : Int) + 1 ≤ w2 ws row[j].toNat) : KeepsP ws row := by
  refine ⟨row.map Int.toNat, ?_, ?_, ?_, ?_, ?_⟩
  · rw [List.map_map]
    have : ∀ x ∈ row, ((fun (i : Nat) => (i : Int)) ∘ Int.toNat) x = x := fun x hx => by
      obtain ⟨j, hj, rfl⟩ := List.getElem_of_mem hx
      have := (fit j hj).1
      show ((row[j].toNat : Nat) : Int) = row[j]
      omega
    rw [List.map_congr_left this, List.map_id']
  · rw [List.length_map]; exact hl
  · rw [List.nodup_iff_pairwise_ne, List.pairwise_map]
    refine (List.nodup_iff_pairwise_ne.mp nd).imp_of_mem fun {x y} hx hy hne he => hne ?_
    obtain ⟨j, hj, rfl⟩ := List.getElem_of_mem hx
    obtain ⟨l, hl, rfl⟩ := List.getElem_of_mem hy
    have a := (fit j hj).1
    have b := (fit l hl).1
    omega
  · intro x hx
    obtain ⟨y, hy, rfl⟩ := List.mem_map.mp hx
    obtain ⟨j, hj, rfl⟩ := List.getElem_of_mem hy
    have := (fit j hj).1
    omega
  · intro k hk
    rw [List.getElem_map]
    rw [List.length_map] at hk
    exact (fit k hk).2
theorem pure_is_order {K : PySem.W.Frag} {vs : List V} {H : Hp} {Q : VK} {E : XK} (h : sp_is_order K vs H Q E) : t_is_order K { nx := fun _ H' => Q .non H', rt := Q } (start N_is_order vs) H := by
  obtain ⟨v, ws, p, row, rfl, hw, hp, hl, k⟩ := h
  obtain ⟨q, xs, rfl, hq, hx, hat⟩ := win_at hw
  have no : ¬ KeepsP ws row → ∀ H', Same H H' → Q (.bl false) H' := fun h H' s => k false H' s ⟨(fun z => by cases z), fun z => absurd z h⟩
  unfold t_is_order
  walk_at "xs"
  refine x_lenL hp ?_
  walk_at "xs"
  refine x_lenL hq ?_
  rw [hx, List.length_map]
  walk_at "xs"
  walk_at "if"
  · rename_i c
    walk_at "xs"
    refine no (fun ⟨r, e, o⟩ => c ?_) H (Same.refl H)
    have := o.len
    rw [e, List.length_map]
    omega
  rename_i c
  have hlen : row.length = ws.length := by omega
  walk_at "xs"
  refine al_lst fun ps H1 nps s1 hps => ?_
  walk_at "xs"
  refine x_iEnum1 ?_
  walk_at "xs"
  refine ⟨p, _, rfl, s1.seq hp, for_by turnsE1 (fun i σ H' => ∃ (u1 u2 : Option V), σ = [some (.ref q), some (.ref p), some (.ref ps), u1, u2] ∧ Same H H' ∧ H' ps = some (.lst ((row.take i).map V.int)) ∧ (row.take i).Nodup ∧
      ∀ j (h : j < row.length), j < i → (0 ≤ row[j] ∧ row[j] < ws.length) ∧ w1 ws row[j].toNat ≤ (j : Int) + 1 ∧ (j : Int) + 1 ≤ w2 ws row[j].toNat)
    ⟨none, none, rfl, s1, hps, List.nodup_nil, fun j h z => absurd z (Nat.not_lt_zero _)⟩ (fun i σ H' _ ⟨_, _, _, h, _⟩ => h.seq hp) ?_ ?_⟩
  · rintro i y σ H5 H6 hi ⟨u1, u2, rfl, s5, hps5, nd, fit⟩ ⟨x, hx', T, rfl, nT, s6, hT, _⟩
    rw [List.length_map] at hi
    rw [List.getElem?_map, List.getElem?_eq_getElem hi] at hx'
    cases hx'
    have s56 := s5.trans s6
    have hps6 := s6 _ _ hps5
    refine x_gtup (SqT.of hT) rfl ?_
    walk_at "xs"
    walk_at "if"
    rotate_left
    · rename_i c1
      walk_at "xs"
      exact no (fun z => c1 (keeps_at z hi).1.1) H6 s56
    rename_i c1
    walk_at "xs"
    refine x_lenL (s56.seq hq) ?_
    rw [hx]
    walk_at "xs"
    walk_at "if"
    · rename_i c2
      walk_at "xs"
      exact no (fun z => c2 (keeps_at z hi).1.2) H6 s56
    rename_i c2
    walk_at "xs"
    refine x_inI (SqL.of hps6) ?_
    walk_at "xs"
    have tk : row.take (i + 1) = row.take i ++ [row[i]] := by rw [List.take_add_one, List.getElem?_eq_getElem hi]; rfl
    walk_at "if"
    · rename_i c3
      walk_at "xs"
      refine no (fun z => ?_) H6 s56
      have := List.Nodup.sublist (List.take_sublist (i + 1) row) (keeps_nodup z)
      rw [tk, List.nodup_append] at this
      exact this.2.2 _ c3 _ (List.mem_singleton.mpr rfl) rfl
    rename_i c3
    walk_at "xs"
    refine x_winix (dp_same s56 hw) c1 c2 fun t2 ht2 => ?_
    walk_at "xs"
    refine x_ix0 ht2 ?_
    walk_at "xs"
    have eb : (ws.getD row[i].toNat (0, 0)).1 = w1 ws row[i].toNat := rfl
    rw [eb]
    walk_at "if"
    rotate_left
    · rename_i c4
      walk_at "xs"
      exact no (fun z => c4 (by have := (keeps_at z hi).2.1; omega)) H6 s56
    rename_i c4
    walk_at "xs"
    refine x_winix (dp_same s56 hw) c1 c2 fun t3 ht3 => ?_
    walk_at "xs"
    refine x_ix1 ht3 ?_
    walk_at "xs"
    have eb : (ws.getD row[i].toNat (0, 0)).2 = w2 ws row[i].toNat := rfl
    rw [eb]
    walk_at "if"
    · rename_i c5
      walk_at "xs"
      exact no (fun z => c5 (by have := (keeps_at z hi).2.2; omega)) H6 s56
    rename_i c5
    walk_at "xs"
    refine ⟨tyL (SqL.of hps6), ?_⟩
    walk_at "xs"
    refine x_append hps6 (small (by rw [List.length_map, List.length_take]; omega)) ?_
    refine ⟨_, _, rfl, same_upd s56 nps, ?_, ?_, fun j hj z => ?_⟩
    · rw [upd_same, tk, List.map_append]; rfl
    · rw [tk, List.nodup_append]
      exact ⟨nd, by simp, fun a ha b hb e => c3 (by rw [List.mem_singleton] at hb; rw [← hb, ← e]; exact ha)⟩
    · by_cases q : j < i
      · exact fit j hj q
      · have : j = i := by omega
        subst this
        exact ⟨⟨c1, c2⟩, by omega, by omega⟩
  · rintro σ H5 ⟨u1, u2, rfl, s5, hps5, nd, fit⟩
    rw [List.length_map] at fit nd
    rw [List.take_length] at nd
    walk_at "xs"
    exact k true H5 s5 ⟨fun _ => keeps_of hlen nd fun j hj => fit j hj hj, fun _ => rfl⟩

end Su
namespace Su
open PySem L2
local macro_rules | `(tactic| walk_at "side") => `(tactic| first | assumption | (show (0 : Int) < _; omega) | (show (0 : Int) ≤ _; omega) | (show (0 : Int) < _; split <;> omega) | (show _ ∨ _; omega) | (show _ ∧ _; omega) | exact ⟨by decide, by decide, by decide⟩ | exact ⟨by first | assumption | omega, by first | assumption | omega⟩)
local macro_rules | `(tactic| walk_at "x") => `(tactic| first
  | with_reducible refine Su.x_seq ?_ | with_reducible refine Su.x_asg ?_ | with_reducible refine Su.x_gname ?_ | with_reducible refine Su.x_drop ?_ | with_reducible refine Su.x_ret ?_ | with_reducible refine Su.x_ifS ?_
  | ((with_reducible show L2.tVar _ _ _ _); refine Su.x_var rfl ?_) | with_reducible refine Su.x_c ?_ | with_reducible refine Su.x_op ?_ | with_reducible refine Su.x_rI0 ?_ | ((with_reducible refine Su.x_rI ?_ ?_); focus walk_at "side")
  | ((with_reducible show L2.rIxL _ (L2.V.ref _) (L2.V.int _) _ _); refine Su.x_ixI (by assumption) (by first | decide | omega) (by omega) ?_) | with_reducible refine Su.x_isi_int_int ?_ | with_reducible refine Su.x_isi_int_bool ?_ | with_reducible refine Su.x_isi_int_str ?_ | with_reducible refine Su.x_isi_int_list ?_ | with_reducible refine Su.x_isi_int_tuple ?_ | with_reducible refine Su.x_isi_bool_int ?_ | with_reducible refine Su.x_isi_bool_bool ?_ | with_reducible refine Su.x_isi_bool_str ?_ | with_reducible refine Su.x_isi_bool_list ?_ | with_reducible refine Su.x_isi_bool_tuple ?_ | with_reducible refine Su.x_isi_str_int ?_ | with_reducible refine Su.x_isi_str_bool ?_ | with_reducible refine Su.x_isi_str_str ?_ | with_reducible refine Su.x_isi_str_list ?_ | with_reducible refine Su.x_isi_str_tuple ?_ | with_reducible refine Su.x_isi_NoneType_int ?_ | with_reducible refine Su.x_isi_NoneType_bool ?_ | with_reducible refine Su.x_isi_NoneType_str ?_ | with_reducible refine Su.x_isi_NoneType_list ?_ | with_reducible refine Su.x_isi_NoneType_tuple ?_ | with_reducible refine Su.x_rGt ?_ | with_reducible refine Su.x_rGe ?_ | with_reducible refine Su.x_iteF ?_ | with_reducible refine Su.x_iteT ?_ | with_reducible refine Su.x_iteNT ?_ | with_reducible refine Su.x_iteNF ?_ | with_reducible refine Su.x_eqI ?_ | with_reducible refine Su.x_neI ?_ | with_reducible refine Su.x_eqS ?_ | with_reducible refine Su.x_neS ?_ | with_reducible refine Su.x_eqB ?_ | with_reducible refine Su.x_neB ?_
  | with_reducible refine Su.x_test ?_ | with_reducible refine Su.x_tB ?_ | with_reducible refine Su.x_isB ?_ | with_reducible refine Su.x_isB' ?_ | with_reducible refine Su.x_not ?_ | with_reducible refine Su.x_and ?_ | with_reducible refine Su.x_or ?_
  | with_reducible refine Su.x_andV ?_ | with_reducible refine Su.x_orV ?_ | with_reducible refine Su.x_notV ?_ | with_reducible refine Su.x_chain ?_ | with_reducible refine Su.x_nil ?_ | with_reducible refine Su.x_cons ?_ | with_reducible refine Su.x_cb ?_ | with_reducible refine Su.x_call ?_
  | with_reducible refine Su.x_un ?_ | with_reducible refine Su.x_rU ?_ | with_reducible refine Su.x_abs ?_ | with_reducible refine Su.x_max2 ?_ | with_reducible refine Su.x_min2 ?_ | with_reducible refine Su.x_int1 ?_ | with_reducible refine Su.x_intB ?_
  | with_reducible refine Su.x_lst ?_ | with_reducible refine Su.x_tup ?_ | with_reducible refine Su.x_bmL ?_ | with_reducible refine Su.x_next ?_ | with_reducible refine Su.x_for ?_ | with_reducible refine Su.x_iList ?_ | with_reducible refine Su.x_iRng1 ?_ | with_reducible refine Su.x_iRng2 ?_ | with_reducible refine Su.x_whileN ?_ | with_reducible refine Su.x_iEnum ?_ | with_reducible refine Su.x_iZip ?_ | with_reducible refine Su.x_iZipA ?_ | with_reducible refine Su.x_iTup ?_ | with_reducible refine Su.x_gcons ?_ | with_reducible refine Su.x_gnil ?_ | with_reducible refine Su.x_gsub ?_ | with_reducible refine Su.x_yes ?_ | with_reducible refine Su.x_lc ?_ | with_reducible refine Su.x_sl ?_ | with_reducible refine Su.x_nopart ?_ | with_reducible refine Su.x_part ?_ | with_reducible refine Su.x_isI ?_ | with_reducible refine Su.x_lstRg ?_ | with_reducible refine Su.x_rg1 ?_ | with_reducible refine Su.x_augS ?_ | with_reducible refine Su.x_ipI ?_ | ((with_reducible show L2.tAug _ _ _ _ _ _); refine Su.x_aug rfl ?_) | with_reducible refine Su.x_callS ?_ | with_reducible refine Su.x_tryAs ?_)
local macro_rules | `(tactic| walk_at "xs") => `(tactic| repeat walk_at "x")
local macro_rules | `(tactic| walk_at "if") => `(tactic| first | with_reducible refine Su.x_iteD (fun c => ?_) (fun c => ?_) | with_reducible refine Su.x_iteN (fun c => ?_) (fun c => ?_) | with_reducible refine Su.x_ite (fun c => ?_) (fun c => ?_))
/-! number_of_order -/
def sp_number_of_order (K : PySem.W.Frag) : Sp := fun vs H Q E => ∃ (v : V) (ws : List (Int × Int)) (a : Addr) (row : List Int), vs = [v, .ref a] ∧ Dp K H v (dWin ws) ∧ SqL K H a (row.map V.int) ∧
  (8 < ws.length → E (.ref (He.ga K "TooMany")) none H) ∧ (ws.length ≤ 8 → ¬ KeepsP ws row → ∀ H', Same H H' → E (.ref (He.ga K "BadNumber")) none H') ∧
  (ws.length ≤ 8 → ∀ (n : Nat) (r : List Nat) (H' : Hp), row = r.map (fun (i : Nat) => (i : Int)) → (allO ws)[n]? = some r → Same H H' → Q (.int n) H')
abbrev N_number_of_order : List Str := ["windows", "row", "table", "number", "mask", "turn", "here", "at"]
def t_number_of_order (K : PySem.W.Frag) (E : XK) : TS :=
 (tSeq (tIfS (tTest (tOp rGt (tCB (rLenSeq K) (tCons (tVar 0) tNil)) (tC (.int 8))))
 (tRaise (He.ga K "TooMany") (wE E))
 tNext)
 (tSeq (tIfS (tNot (tB (tCall (sp_is_order K) [] E0 (tCons (tVar 0) (tCons (tVar 1) tNil)))))
 (tRaise (He.ga K "BadNumber") (wE E))
 tNext)
 (tSeq (tAsg (tCall (sp_ways_on K) [] E0 (tCons (tVar 0) tNil)) (gName 2))
 (tSeq (tAsg (tC (.int 0)) (gName 3))
 (tSeq (tAsg (tC (.int 0)) (gName 4))
 (tSeq (tFor (iEnum1 K (tCons (tVar 1) (tCons (tC (.int 1)) tNil))) (gTup K 2 (gCons (gName 5) (gCons (gName 6) gNil)))
 (tSeq (tFor (iRng1 (tCons (tVar 6) tNil)) (gName 7)
 (tIfS (tAnd (tNot (tB (tCall (sp_has_bit K) [] E0 (tCons (tVar 4) (tCons (tVar 7) tNil))))) (tTest (tChain rLe rLe (tOp (rIxT K) (tOp (rIxL K) (tVar 0) (tVar 7)) (tC (.int 0))) (tVar 5) (tOp (rIxT K) (tOp (rIxL K) (tVar 0) (tVar 7)) (tC (.int 1))))))
 (tAug 3 (tOp (rIxL K) (tVar 2) (tCall (sp_with_bit K) [] E0 (tCons (tVar 4) (tCons (tVar 7) tNil)))) (ipI fun i j => i + j))
 tNext))
 (tAsg (tCall (sp_with_bit K) [] E0 (tCons (tVar 4) (tCons (tVar 6) tNil))) (gName 4))))
 (tRet (tVar 3))))))))

theorem len_number_of_order {K : PySem.W.Frag} : ∀ vs H Q E, sp_number_of_order K vs H Q E → vs.length = ["a", "b"].length := by
  rintro vs H Q E ⟨_, _, _, _, rfl, _⟩; rfl
theorem pure_number_of_order {K : PySem.W.Frag} {vs : List V} {H : Hp} {Q : VK} {E : XK} (h : sp_number_of_order K vs H Q E) : t_number_of_order K E { nx := fun _ H' => Q .non H', rt := Q } (start N_number_of_order vs) H := by
  obtain ⟨v, ws, a, row, rfl, hw, hS, k1, k2, k3⟩ := h
  obtain ⟨q, xs, rfl, hq, hx, hat⟩ := win_at hw
  unfold t_number_of_order
  walk_at "xs"
  refine x_lenL hq ?_
  rw [hx]
  walk_at "xs"
  walk_at "if"
  · rename_i c
    exact k1 (by omega)
  rename_i c8
  have l8 : ws.length ≤ 8 := by omega
  walk_at "xs"
  refine ⟨_, ws, a, row, rfl, hw, hS, by omega, fun b H1 s1 hb => ?_⟩
  walk_at "xs"
  cases b with
  | false =>
    walk_at "xs"
    exact k2 l8 (fun z => Bool.noConfusion (hb.mpr z)) H1 s1
  | true =>
  obtain ⟨r, rfl, ho⟩ := hb.mp rfl
  have k3 := fun n H' => k3 l8 n r H' rfl
  clear hb k1 k2
  walk_at "xs"
  refine ⟨_, ws, rfl, dp_same s1 hw, l8, fun p tab H2 np s2 hp ok => ?_⟩
  have t0 := Nat.two_pow_pos ws.length
  have tl := ok.len
  have s02 := s1.trans s2
  walk_at "xs"
  refine x_iEnum1 ?_
  walk_at "xs"
  have rl := ho.len
  have rin : r ∈ allO ws := mem_allO.mpr ho
  refine ⟨a, _, rfl, s02.seq hS, for_by turnsE1 (fun i σ H' => ∃ (num m : Nat) (u1 u2 u3 : Option V), σ = [some (.ref q), some (.ref a), some (.ref p), some (.int num), some (.int m), u1, u2, u3] ∧ Same H2 H' ∧
      pc m = i ∧ m < 2 ^ ws.length ∧ r.drop i ∈ conts ws (ws.length - i) m ∧ ∀ x, (conts ws (ws.length - i) m)[x]? = some (r.drop i) → (allO ws)[num + x]? = some r)
    ⟨0, 0, none, none, none, rfl, Same.refl _, pc_zero, t0, rin, fun x h => by rw [Nat.zero_add]; exact h⟩ (fun i σ H' _ ⟨_, _, _, _, _, _, s, _⟩ => (s02.trans s).seq hS) ?_ ?_⟩
  · rintro i y σ H3 H4 hi ⟨num, m, u1, u2, u3, rfl, s3, hpc, hm, hmem, hall⟩ ⟨x, hx', T, rfl, nT, s4, hT, _⟩
    rw [List.length_map, List.length_map] at hi
    rw [List.getElem?_map, List.getElem?_map, List.getElem?_eq_getElem hi] at hx'
    cases hx'
    have hi' : i < ws.length := by omega
    obtain ⟨k, hk⟩ : ∃ k, ws.length - i = k + 1 := ⟨ws.length - i - 1, by omega⟩
    rw [hk] at hmem hall
    have ek : (ws.length : Int) - k = 1 + (i : Int) := by omega
    have hdr : r.drop i = r[i] :: r.drop (i + 1) := List.drop_eq_getElem_cons hi
    obtain ⟨c, hc⟩ : ∃ c, c = r[i] := ⟨_, rfl⟩
    rw [hdr, ← hc] at hmem hall
    rw [← hc] at hT
    have g := (mem_conts ws (k + 1) m _).mp hmem
    obtain ⟨cl, cb⟩ := g.lt c List.mem_cons_self
    have cok : okB ws m ((ws.length : Int) - k) c = true := by
      unfold okB
      rw [cb]
      have f0 := g.fit 0 (by simp)
      rw [show (ws.length : Int) - (k + 1 : Nat) + 1 + (0 : Nat) = (ws.length : Int) - k by omega] at f0
      exact f0
    have rest : r.drop (i + 1) ∈ conts ws k (m + 2 ^ c) := by
      rw [conts_succ] at hmem
      unfold contsTo at hmem
      rw [List.mem_flatMap] at hmem
      obtain ⟨c', _, h⟩ := hmem
      by_cases z : okB ws m ((ws.length : Int) - k) c' = true
      · rw [if_pos z, List.mem_map] at h
        obtain ⟨r', h1, h2⟩ := h
        cases h2
        exact h1
      · rw [if_neg z] at h; cases h
    refine x_gtup (SqT.of hT) rfl ?_
    walk_at "xs"
    refine ⟨c, rfl, by omega, by omega, for_by turnsR (fun j σ H' => ∃ (v1 : Option V), σ = [some (.ref q), some (.ref a), some (.ref p), some (.int (num + (contsTo ws k m j).length : Nat)), some (.int m), some (.int ((i + 1 : Nat) : Int)), some (.int c), v1] ∧ H4 = H')
      ⟨u3, by rw [show (contsTo ws k m 0).length = 0 from rfl]; rfl, rfl⟩ (fun _ _ _ _ _ => trivial) ?_ ?_⟩
    · rintro j y σ H5 _ hj ⟨v1, rfl, rfl⟩ ⟨rfl, rfl⟩
      have hj' : j < ws.length := by omega
      have ln := contsTo_len ws k m j
      have okd : okB ws m ((ws.length : Int) - k) j = (!m.testBit j && decide ((ws.getD j (0, 0)).1 ≤ ((i + 1 : Nat) : Int) ∧ ((i + 1 : Nat) : Int) ≤ (ws.getD j (0, 0)).2)) := by
        unfold okB fitB w1 w2
        rw [ek, show 1 + (i : Int) = ((i + 1 : Nat) : Int) by omega]
      have skip : okB ws m ((ws.length : Int) - k) j = false → (contsTo ws k m (j + 1)).length = (contsTo ws k m j).length := fun z => by
        rw [z, if_neg Bool.false_ne_true, Nat.add_zero] at ln; exact ln
      rw [show (0 : Int) + (j : Int) = (j : Int) by omega]
      have s24 := (s3.trans s4)
      have hw4 := dp_same (s02.trans s24) hw
      walk_at "xs"
      refine ⟨m, j, rfl, ?_⟩
      walk_at "xs"
      walk_at "if"
      rotate_left
      · rename_i c2
        have c2' : m.testBit j = true := by simpa using c2
        refine ⟨some (.int j), ?_, rfl⟩
        rw [skip (by rw [okd, c2']; rfl)]; rfl
      rename_i c2
      have c2' : m.testBit j = false := by simpa using c2
      rw [c2'] at okd
      walk_at "xs"
      refine x_winix hw4 (by omega) (by omega) fun t2 ht2 => ?_
      walk_at "xs"
      refine x_ix0 ht2 ?_
      walk_at "xs"
      rw [show ((j : Int)).toNat = j by omega]
      walk_at "if"
      rotate_left
      · rename_i c3
        walk_at "xs"
        refine ⟨some (.int j), ?_, rfl⟩
        rw [skip (by rw [okd, decide_eq_false (fun z => c3 z.1)]; rfl)]; rfl
      rename_i c3
      walk_at "xs"
      refine x_winix hw4 (by omega) (by omega) fun t3 ht3 => ?_
      walk_at "xs"
      refine x_ix1 ht3 ?_
      walk_at "xs"
      rw [show ((j : Int)).toNat = j by omega]
      walk_at "if"
      rotate_left
      · rename_i c4
        walk_at "xs"
        refine ⟨some (.int j), ?_, rfl⟩
        rw [skip (by rw [okd, decide_eq_false (fun z => c4 z.2)]; rfl)]; rfl
      rename_i c4
      have okt : okB ws m ((ws.length : Int) - k) j = true := by rw [okd, decide_eq_true ⟨c3, c4⟩]; rfl
      rw [okt, if_pos rfl] at ln
      have lt := add_lt j ws.length m hj' hm c2'
      have e2 : wy ws (m + 2 ^ j) = ((conts ws k (m + 2 ^ j)).length : Nat) := by
        unfold wy
        rw [pc_add j m c2', show ws.length - (pc m + 1) = k by omega]
      have hp4 := s24 _ _ hp
      walk_at "xs"
      refine ⟨m, j, rfl, by omega, ?_⟩
      walk_at "xs"
      refine x_tab ok hp4 lt ?_
      rw [e2]
      walk_at "xs"
      refine ⟨some (.int j), ?_, rfl⟩
      rw [ln, ← Nat.add_assoc, Int.natCast_add (num + _)]; rfl
    · rintro σ H5 ⟨v1, rfl, rfl⟩
      rw [show ((c : Int)).toNat = c by omega]
      walk_at "xs"
      refine ⟨m, c, rfl, by omega, ?_⟩
      walk_at "xs"
      refine ⟨num + (contsTo ws k m c).length, m + 2 ^ c, _, _, _, rfl, s3.trans s4, by rw [pc_add c m cb, hpc], add_lt c ws.length m cl hm cb, by rw [show ws.length - (i + 1) = k by omega]; exact rest, fun x hx' => ?_⟩
      rw [show ws.length - (i + 1) = k by omega] at hx'
      have := conts_at (ws := ws) (k := k) (m := m) (x := x) cl cok (List.getElem?_eq_some_iff.mp hx').1
      rw [hx'] at this
      rw [Nat.add_assoc]
      exact hall _ this
  · rintro σ H3 ⟨num, m, u1, u2, u3, rfl, s3, hpc, hm, hmem, hall⟩
    rw [List.length_map, List.length_map, rl, Nat.sub_self] at hall
    have := hall 0 (by rw [← rl, List.drop_length]; rfl)
    rw [Nat.add_zero] at this
    walk_at "xs"
    exact k3 num H3 this (s02.trans s3)

end Su
namespace Su
open PySem L2
local macro_rules | `(tactic| walk_at "side") => `(tactic| first | assumption | (show (0 : Int) < _; omega) | (show (0 : Int) ≤ _; omega) | (show (0 : Int) < _; split <;> omega) | (show _ ∨ _; omega) | (show _ ∧ _; omega) | exact ⟨by decide, by decide, by decide⟩ | exact ⟨by first | assumption | omega, by first | assumption | omega⟩)
local macro_rules | `(tactic| walk_at "x") => `(tactic| first
  | with_reducible refine Su.x_seq ?_ | with_reducible refine Su.x_asg ?_ | with_reducible refine Su.x_gname ?_ | with_reducible refine Su.x_drop ?_ | with_reducible refine Su.x_ret ?_ | with_reducible refine Su.x_ifS ?_
  | ((with_reducible show L2.tVar _ _ _ _); refine Su.x_var rfl ?_) | with_reducible refine Su.x_c ?_ | with_reducible refine Su.x_op ?_ | with_reducible refine Su.x_rI0 ?_ | ((with_reducible refine Su.x_rI ?_ ?_); focus walk_at "side")
  | ((with_reducible show L2.rIxL _ (L2.V.ref _) (L2.V.int _) _ _); refine Su.x_ixI (by assumption) (by first | decide | omega) (by omega) ?_) | with_reducible refine Su.x_isi_int_int ?_ | with_reducible refine Su.x_isi_int_bool ?_ | with_reducible refine Su.x_isi_int_str ?_ | with_reducible refine Su.x_isi_int_list ?_ | with_reducible refine Su.x_isi_int_tuple ?_ | with_reducible refine Su.x_isi_bool_int ?_ | with_reducible refine Su.x_isi_bool_bool ?_ | with_reducible refine Su.x_isi_bool_str ?_ | with_reducible refine Su.x_isi_bool_list ?_ | with_reducible refine Su.x_isi_bool_tuple ?_ | with_reducible refine Su.x_isi_str_int ?_ | with_reducible refine Su.x_isi_str_bool ?_ | with_reducible refine Su.x_isi_str_str ?_ | with_reducible refine Su.x_isi_str_list ?_ | with_reducible refine Su.x_isi_str_tuple ?_ | with_reducible refine Su.x_isi_NoneType_int ?_ | with_reducible refine Su.x_isi_NoneType_bool ?_ | with_reducible refine Su.x_isi_NoneType_str ?_ | with_reducible refine Su.x_isi_NoneType_list ?_ | with_reducible refine Su.x_isi_NoneType_tuple ?_ | with_reducible refine Su.x_rGt ?_ | with_reducible refine Su.x_rGe ?_ | with_reducible refine Su.x_iteF ?_ | with_reducible refine Su.x_iteT ?_ | with_reducible refine Su.x_iteNT ?_ | with_reducible refine Su.x_iteNF ?_ | with_reducible refine Su.x_eqI ?_ | with_reducible refine Su.x_neI ?_ | with_reducible refine Su.x_eqS ?_ | with_reducible refine Su.x_neS ?_ | with_reducible refine Su.x_eqB ?_ | with_reducible refine Su.x_neB ?_
  | with_reducible refine Su.x_test ?_ | with_reducible refine Su.x_tB ?_ | with_reducible refine Su.x_isB ?_ | with_reducible refine Su.x_isB' ?_ | with_reducible refine Su.x_not ?_ | with_reducible refine Su.x_and ?_ | with_reducible refine Su.x_or ?_
  | with_reducible refine Su.x_andV ?_ | with_reducible refine Su.x_orV ?_ | with_reducible refine Su.x_notV ?_ | with_reducible refine Su.x_chain ?_ | with_reducible refine Su.x_nil ?_ | with_reducible refine Su.x_cons ?_ | with_reducible refine Su.x_cb ?_ | with_reducible refine Su.x_call ?_
  | with_reducible refine Su.x_un ?_ | with_reducible refine Su.x_rU ?_ | with_reducible refine Su.x_abs ?_ | with_reducible refine Su.x_max2 ?_ | with_reducible refine Su.x_min2 ?_ | with_reducible refine Su.x_int1 ?_ | with_reducible refine Su.x_intB ?_
  | with_reducible refine Su.x_lst ?_ | with_reducible refine Su.x_tup ?_ | with_reducible refine Su.x_bmL ?_ | with_reducible refine Su.x_next ?_ | with_reducible refine Su.x_for ?_ | with_reducible refine Su.x_iList ?_ | with_reducible refine Su.x_iRng1 ?_ | with_reducible refine Su.x_iRng2 ?_ | with_reducible refine Su.x_whileN ?_ | with_reducible refine Su.x_iEnum ?_ | with_reducible refine Su.x_iZip ?_ | with_reducible refine Su.x_iZipA ?_ | with_reducible refine Su.x_iTup ?_ | with_reducible refine Su.x_gcons ?_ | with_reducible refine Su.x_gnil ?_ | with_reducible refine Su.x_gsub ?_ | with_reducible refine Su.x_yes ?_ | with_reducible refine Su.x_lc ?_ | with_reducible refine Su.x_sl ?_ | with_reducible refine Su.x_nopart ?_ | with_reducible refine Su.x_part ?_ | with_reducible refine Su.x_isI ?_ | with_reducible refine Su.x_lstRg ?_ | with_reducible refine Su.x_rg1 ?_ | with_reducible refine Su.x_augS ?_ | with_reducible refine Su.x_ipI ?_ | ((with_reducible show L2.tAug _ _ _ _ _ _); refine Su.x_aug rfl ?_) | with_reducible refine Su.x_callS ?_ | with_reducible refine Su.x_tryAs ?_)
local macro_rules | `(tactic| walk_at "xs") => `(tactic| repeat walk_at "x")
local macro_rules | `(tactic| walk_at "if") => `(tactic| first | with_reducible refine Su.x_iteD (fun c => ?_) (fun c => ?_) | with_reducible refine Su.x_iteN (fun c => ?_) (fun c => ?_) | with_reducible refine Su.x_ite (fun c => ?_) (fun c => ?_))
/-! order_by_number -/
def sp_order_by_number (K : PySem.W.Frag) : Sp := fun vs H Q E => ∃ (v : V) (ws : List (Int × Int)) (num : Int), vs = [v, .int num] ∧ Dp K H v (dWin ws) ∧
  (8 < ws.length → E (.ref (He.ga K "TooMany")) none H) ∧ (ws.length ≤ 8 → ¬ (0 ≤ num ∧ num < ((allO ws).length : Nat)) → ∀ H', Same H H' → E (.ref (He.ga K "BadNumber")) none H') ∧
  (ws.length ≤ 8 → ∀ (n : Nat) (p : Addr) (row : List Nat) (H' : Hp), num = n → (allO ws)[n]? = some row → H p = none → Same H H' → H' p = some (.lst (nI row)) → Q (.ref p) H')
/-- the next window of the row that has the number -/
def pickAt (ws : List (Int × Int)) (k m num : Nat) (j : Nat) (ch : Int) (num' : Int) : Prop :=
  (ch = -1 ∧ (contsTo ws k m j).length ≤ num ∧ num' = (num : Int) - (contsTo ws k m j).length) ∨
  ∃ c : Nat, ch = c ∧ c < j ∧ okB ws m ((ws.length : Int) - k) c = true ∧ (contsTo ws k m c).length ≤ num ∧ num' = (num : Int) - (contsTo ws k m c).length ∧ num' < ((conts ws k (m + 2 ^ c)).length : Nat)
abbrev N_order_by_number : List Str := ["windows", "number", "table", "row", "mask", "turn", "chosen", "at", "first", "last"]
def t_order_by_number (K : PySem.W.Frag) (E : XK) : TS :=
 (tSeq (tIfS (tTest (tOp rGt (tCB (rLenSeq K) (tCons (tVar 0) tNil)) (tC (.int 8))))
 (tRaise (He.ga K "TooMany") (wE E))
 tNext)
 (tSeq (tAsg (tCall (sp_ways_on K) [] E0 (tCons (tVar 0) tNil)) (gName 2))
 (tSeq (tIfS (tNot (tTest (tChain rLe rLt (tC (.int 0)) (tVar 1) (tOp (rIxL K) (tVar 2) (tC (.int 0))))))
 (tRaise (He.ga K "BadNumber") (wE E))
 tNext)
 (tSeq (tAsg (tLst tNil) (gName 3))
 (tSeq (tAsg (tC (.int 0)) (gName 4))
 (tSeq (tFor (iRng2 (tCons (tC (.int 1)) (tCons (tOp rAdd (tCB (rLenSeq K) (tCons (tVar 0) tNil)) (tC (.int 1))) tNil))) (gName 5)
 (tSeq (tAsg (tUn rNeg (tC (.int 1))) (gName 6))
 (tSeq (tFor (iEnum K (tCons (tVar 0) tNil)) (gTup K 2 (gCons (gName 7) (gCons (gTup K 2 (gCons (gName 8) (gCons (gName 9) gNil))) gNil)))
 (tIfS (tAnd (tTest (tOp rEq (tVar 6) (tUn rNeg (tC (.int 1))))) (tAnd (tNot (tB (tCall (sp_has_bit K) [] E0 (tCons (tVar 4) (tCons (tVar 7) tNil))))) (tTest (tChain rLe rLe (tVar 8) (tVar 5) (tVar 9)))))
 (tIfS (tTest (tOp rLt (tVar 1) (tOp (rIxL K) (tVar 2) (tCall (sp_with_bit K) [] E0 (tCons (tVar 4) (tCons (tVar 7) tNil))))))
 (tAsg (tVar 7) (gName 6))
 (tAug 1 (tOp (rIxL K) (tVar 2) (tCall (sp_with_bit K) [] E0 (tCons (tVar 4) (tCons (tVar 7) tNil)))) (ipI fun i j => i - j)))
 tNext))
 (tSeq (tDrop (tBM K "list" rAppend (tVar 3) (tCons (tVar 6) tNil)))
 (tAsg (tCall (sp_with_bit K) [] E0 (tCons (tVar 4) (tCons (tVar 6) tNil))) (gName 4))))))
 (tRet (tVar 3))))))))

theorem len_order_by_number {K : PySem.W.Frag} : ∀ vs H Q E, sp_order_by_number K vs H Q E → vs.length = ["a", "b"].length := by
  rintro vs H Q E ⟨_, _, _, rfl, _⟩; rfl
theorem pure_order_by_number {K : PySem.W.Frag} {vs : List V} {H : Hp} {Q : VK} {E : XK} (h : sp_order_by_number K vs H Q E) : t_order_by_number K E { nx := fun _ H' => Q .non H', rt := Q } (start N_order_by_number vs) H := by
  obtain ⟨v, ws, num, rfl, hw, k1, k2, k3⟩ := h
  obtain ⟨q, xs, rfl, hq, hx, hat⟩ := win_at hw
  unfold t_order_by_number
  walk_at "xs"
  refine x_lenL hq ?_
  rw [hx]
  walk_at "xs"
  walk_at "if"
  · rename_i c
    exact k1 (by omega)
  rename_i c8
  have l8 : ws.length ≤ 8 := by omega
  walk_at "xs"
  refine ⟨_, ws, rfl, hw, l8, fun p tab H1 np s1 hp ok => ?_⟩
  have t0 := Nat.two_pow_pos ws.length
  have tl := ok.len
  walk_at "xs"
  walk_at "if"
  rotate_left
  · rename_i c
    walk_at "xs"
    exact k2 l8 (fun z => c z.1) H1 s1
  rename_i c1
  walk_at "xs"
  rw [show (Int.toNat 0) = 0 by rfl, ok.at_ 0 t0, wy_zero]
  walk_at "if"
  · rename_i c2
    walk_at "xs"
    exact k2 l8 (fun z => c2 z.2) H1 s1
  rename_i c2
  walk_at "xs"
  have k3 := k3 l8
  obtain ⟨n, hn⟩ : ∃ n : Nat, num = n := ⟨num.toNat, by omega⟩
  subst hn
  have k3 := fun p row H' => k3 n p row H' rfl
  refine al_lst fun r H2 nr s2 hr => ?_
  have hp2 := s2 _ _ hp
  have s02 := s1.trans s2
  have nr0 := s1.free nr
  walk_at "xs"
  refine x_lenL (s02.seq hq) ?_
  rw [hx]
  walk_at "xs"
  refine ⟨1, (ws.length : Int) + 1, rfl, ⟨by omega, by omega, by omega, by omega⟩, for_by turnsR (fun i σ H' => ∃ (num m : Nat) (row : List Nat) (u1 u2 u3 u4 u5 : Option V), σ = [some (.ref q), some (.int num), some (.ref p), some (.ref r), some (.int m), u1, u2, u3, u4, u5] ∧ Same H H' ∧ H' p = some (.lst (tab.map V.int)) ∧ H' r = some (.lst (nI row)) ∧
      row.length = i ∧ pc m = i ∧ m < 2 ^ ws.length ∧ num < (conts ws (ws.length - i) m).length ∧ ∀ rest, (conts ws (ws.length - i) m)[num]? = some rest → (allO ws)[n]? = some (row ++ rest))
    ⟨n, 0, [], none, none, none, none, none, rfl, s02, hp2, hr, rfl, pc_zero, t0, by rw [Nat.sub_zero]; unfold allO at c2; omega, fun rest h => h⟩ (fun _ _ _ _ _ => trivial) ?_ ?_⟩
  · rintro i y σ H3 _ hi ⟨num, m, row, u1, u2, u3, u4, u5, rfl, s3, hp3, hr3, hrl, hpc, hm, hnum, hall⟩ ⟨rfl, rfl⟩
    have hi' : i < ws.length := by omega
    obtain ⟨k, hk⟩ : ∃ k, ws.length - i = k + 1 := ⟨ws.length - i - 1, by omega⟩
    rw [hk] at hnum hall
    have ek : (ws.length : Int) - k = 1 + (i : Int) := by omega
    walk_at "xs"
    refine ⟨q, xs, rfl, s3.seq hq, for_by turnsE (fun j σ H' => ∃ (ch num' : Int) (v1 v2 v3 : Option V), σ = [some (.ref q), some (.int num'), some (.ref p), some (.ref r), some (.int m), some (.int (1 + (i : Int))), some (.int ch), v1, v2, v3] ∧ Same H3 H' ∧ pickAt ws k m num j ch num')
      ⟨-1, num, u3, u4, u5, rfl, Same.refl _, .inl ⟨rfl, Nat.zero_le _, by show (num : Int) = num - ((0 : Nat) : Int); omega⟩⟩ (fun j σ H' _ ⟨_, _, _, _, _, _, s, _⟩ => (s3.trans s).seq hq) ?_ ?_⟩
    · rintro j y σ H4 H5 hj ⟨ch, num', v1, v2, v3, rfl, s4, hpk⟩ ⟨x, hxj, T, rfl, nT, s5, hT, _⟩
      have hj' : j < ws.length := by omega
      obtain ⟨wi, t, ew, rfl, ht⟩ := hat j x hxj
      have hd : ws.getD j (0, 0) = wi := by rw [List.getD_eq_getElem?_getD, ew]; rfl
      have s35 := (s3.trans s4).trans s5
      have hp5 := (s4.trans s5) _ _ hp3
      have cl := contsTo_len ws k m j
      have okd : okB ws m ((ws.length : Int) - k) j = (!m.testBit j && decide (wi.1 ≤ 1 + (i : Int) ∧ 1 + (i : Int) ≤ wi.2)) := by
        unfold okB fitB w1 w2
        rw [hd, ek]
      refine x_gtup (SqT.of hT) rfl ?_
      walk_at "xs"
      refine x_gtup (seqT_same s35 ht) rfl ?_
      have skip : okB ws m ((ws.length : Int) - k) j = false ∨ ch ≠ -1 → pickAt ws k m num (j + 1) ch num' := by
        intro z
        rcases hpk with ⟨e1, e2, e3⟩ | ⟨c, e1, e2, e3⟩
        · rcases z with z | z
          · rw [z, if_neg Bool.false_ne_true, Nat.add_zero] at cl
            exact .inl ⟨e1, by omega, by omega⟩
          · exact absurd e1 z
        · exact .inr ⟨c, e1, by omega, e3⟩
      walk_at "xs"
      walk_at "if"
      rotate_left
      · rename_i c1
        exact ⟨ch, num', _, _, _, rfl, s4.trans s5, skip (.inr c1)⟩
      rename_i c1
      walk_at "xs"
      refine ⟨m, j, rfl, ?_⟩
      walk_at "xs"
      walk_at "if"
      rotate_left
      · rename_i c2
        have c2' : m.testBit j = true := by simpa using c2
        exact ⟨ch, num', _, _, _, rfl, s4.trans s5, skip (.inl (by rw [okd, c2']; rfl))⟩
      rename_i c2
      have c2' : m.testBit j = false := by simpa using c2
      rw [c2'] at okd
      walk_at "xs"
      walk_at "if"
      rotate_left
      · rename_i c3
        walk_at "xs"
        exact ⟨ch, num', _, _, _, rfl, s4.trans s5, skip (.inl (by rw [okd, decide_eq_false (by omega)]; rfl))⟩
      rename_i c3
      walk_at "xs"
      walk_at "if"
      rotate_left
      · rename_i c4
        walk_at "xs"
        exact ⟨ch, num', _, _, _, rfl, s4.trans s5, skip (.inl (by rw [okd, decide_eq_false (by omega)]; rfl))⟩
      rename_i c4
      have okt : okB ws m ((ws.length : Int) - k) j = true := by rw [okd, decide_eq_true ⟨c3, c4⟩]; rfl
      rw [okt, if_pos rfl] at cl
      have lt := add_lt j ws.length m hj' hm c2'
      have e2 : wy ws (m + 2 ^ j) = ((conts ws k (m + 2 ^ j)).length : Nat) := by
        unfold wy
        rw [pc_add j m c2', show ws.length - (pc m + 1) = k by omega]
      rcases hpk with ⟨e3, e4, e5⟩ | ⟨c, e3, _⟩
      rotate_left
      · exact absurd c1 (by omega)
      walk_at "xs"
      refine ⟨m, j, rfl, by omega, ?_⟩
      walk_at "xs"
      refine x_tab ok hp5 lt ?_
      rw [e2]
      walk_at "xs"
      walk_at "if"
      · rename_i c5
        walk_at "xs"
        exact ⟨j, num', _, _, _, rfl, s4.trans s5, .inr ⟨j, rfl, by omega, okt, e4, e5, c5⟩⟩
      · rename_i c5
        walk_at "xs"
        refine ⟨m, j, rfl, by omega, ?_⟩
        walk_at "xs"
        refine x_tab ok hp5 lt ?_
        rw [e2]
        walk_at "xs"
        exact ⟨ch, _, _, _, _, rfl, s4.trans s5, .inl ⟨c1, by omega, by omega⟩⟩
    · rintro σ H4 ⟨ch, num', v1, v2, v3, rfl, s4, hpk⟩
      rw [hx] at hpk
      have hr4 := s4 _ _ hr3
      rcases hpk with ⟨e3, e4, e5⟩ | ⟨c, rfl, e3, e4, e5, rfl, e6⟩
      · rw [conts_succ] at hnum; omega
      have e4' := e4
      unfold okB at e4'
      rw [Bool.and_eq_true, Bool.not_eq_true'] at e4'
      obtain ⟨x, hx'⟩ : ∃ x : Nat, (num : Int) - ((contsTo ws k m c).length : Nat) = x := ⟨num - (contsTo ws k m c).length, by omega⟩
      rw [hx'] at e6 ⊢
      walk_at "xs"
      refine ⟨tyL (SqL.of hr4), ?_⟩
      walk_at "xs"
      refine x_append hr4 (small (by rw [nI_len]; omega)) ?_
      walk_at "xs"
      refine ⟨m, c, rfl, by omega, ?_⟩
      walk_at "xs"
      have npr : p ≠ r := fun e => by rw [e] at hp; rw [hp] at nr; cases nr
      refine ⟨x, m + 2 ^ c, row ++ [c], _, _, _, _, _, rfl, same_upd (s3.trans s4) nr0, ?_, ?_, ?_, ?_, add_lt c ws.length m e3 hm e4'.1, ?_, ?_⟩
      · rw [upd_ne npr]; exact s4 _ _ hp3
      · rw [upd_same, nI_snoc]
      · rw [List.length_append, hrl]; rfl
      · rw [pc_add c m e4'.1, hpc]
      · rw [show ws.length - (i + 1) = k by omega]; omega
      · intro rest hrest
        rw [show ws.length - (i + 1) = k by omega] at hrest
        have := conts_at (ws := ws) (k := k) (m := m) (x := x) e3 e4 (by omega)
        rw [hrest, show (contsTo ws k m c).length + x = num by omega] at this
        have := hall _ this
        rw [List.append_assoc]
        exact this
  · rintro σ H3 ⟨num, m, row, u1, u2, u3, u4, u5, rfl, s3, hp3, hr3, hrl, hpc, hm, hnum, hall⟩
    rw [show ((ws.length : Int) + 1 - 1).toNat = ws.length by omega, Nat.sub_self] at hnum hall
    have e0 : num = 0 := by
      have : (conts ws 0 m).length = 1 := rfl
      omega
    subst e0
    have := hall [] rfl
    rw [List.append_nil] at this
    walk_at "xs"
    exact k3 r row H3 this nr0 s3 hr3

end Su
namespace Su
open PySem L2
local macro_rules | `(tactic| walk_at "side") => `(tactic| first | assumption | (show (0 : Int) < _; omega) | (show (0 : Int) ≤ _; omega) | (show (0 : Int) < _; split <;> omega) | (show _ ∨ _; omega) | (show _ ∧ _; omega) | exact ⟨by decide, by decide, by decide⟩ | exact ⟨by first | assumption | omega, by first | assumption | omega⟩)
local macro_rules | `(tactic| walk_at "x") => `(tactic| first
  | with_reducible refine Su.x_seq ?_ | with_reducible refine Su.x_asg ?_ | with_reducible refine Su.x_gname ?_ | with_reducible refine Su.x_drop ?_ | with_reducible refine Su.x_ret ?_ | with_reducible refine Su.x_ifS ?_
  | ((with_reducible show L2.tVar _ _ _ _); refine Su.x_var rfl ?_) | with_reducible refine Su.x_c ?_ | with_reducible refine Su.x_op ?_ | with_reducible refine Su.x_rI0 ?_ | ((with_reducible refine Su.x_rI ?_ ?_); focus walk_at "side")
  | ((with_reducible show L2.rIxL _ (L2.V.ref _) (L2.V.int _) _ _); refine Su.x_ixI (by assumption) (by first | decide | omega) (by omega) ?_) | with_reducible refine Su.x_isi_int_int ?_ | with_reducible refine Su.x_isi_int_bool ?_ | with_reducible refine Su.x_isi_int_str ?_ | with_reducible refine Su.x_isi_int_list ?_ | with_reducible refine Su.x_isi_int_tuple ?_ | with_reducible refine Su.x_isi_bool_int ?_ | with_reducible refine Su.x_isi_bool_bool ?_ | with_reducible refine Su.x_isi_bool_str ?_ | with_reducible refine Su.x_isi_bool_list ?_ | with_reducible refine Su.x_isi_bool_tuple ?_ | with_reducible refine Su.x_isi_str_int ?_ | with_reducible refine Su.x_isi_str_bool ?_ | with_reducible refine Su.x_isi_str_str ?_ | with_reducible refine Su.x_isi_str_list ?_ | with_reducible refine Su.x_isi_str_tuple ?_ | with_reducible refine Su.x_isi_NoneType_int ?_ | with_reducible refine Su.x_isi_NoneType_bool ?_ | with_reducible refine Su.x_isi_NoneType_str ?_ | with_reducible refine Su.x_isi_NoneType_list ?_ | with_reducible refine Su.x_isi_NoneType_tuple ?_ | with_reducible refine Su.x_rGt ?_ | with_reducible refine Su.x_rGe ?_ | with_reducible refine Su.x_iteF ?_ | with_reducible refine Su.x_iteT ?_ | with_reducible refine Su.x_iteNT ?_ | with_reducible refine Su.x_iteNF ?_ | with_reducible refine Su.x_eqI ?_ | with_reducible refine Su.x_neI ?_ | with_reducible refine Su.x_eqS ?_ | with_reducible refine Su.x_neS ?_ | with_reducible refine Su.x_eqB ?_ | with_reducible refine Su.x_neB ?_
  | with_reducible refine Su.x_test ?_ | with_reducible refine Su.x_tB ?_ | with_reducible refine Su.x_isB ?_ | with_reducible refine Su.x_isB' ?_ | with_reducible refine Su.x_not ?_ | with_reducible refine Su.x_and ?_ | with_reducible refine Su.x_or ?_
  | with_reducible refine Su.x_andV ?_ | with_reducible refine Su.x_orV ?_ | with_reducible refine Su.x_notV ?_ | with_reducible refine Su.x_chain ?_ | with_reducible refine Su.x_nil ?_ | with_reducible refine Su.x_cons ?_ | with_reducible refine Su.x_cb ?_ | with_reducible refine Su.x_call ?_
  | with_reducible refine Su.x_un ?_ | with_reducible refine Su.x_rU ?_ | with_reducible refine Su.x_abs ?_ | with_reducible refine Su.x_max2 ?_ | with_reducible refine Su.x_min2 ?_ | with_reducible refine Su.x_int1 ?_ | with_reducible refine Su.x_intB ?_
  | with_reducible refine Su.x_lst ?_ | with_reducible refine Su.x_tup ?_ | with_reducible refine Su.x_bmL ?_ | with_reducible refine Su.x_next ?_ | with_reducible refine Su.x_for ?_ | with_reducible refine Su.x_iList ?_ | with_reducible refine Su.x_iRng1 ?_ | with_reducible refine Su.x_iRng2 ?_ | with_reducible refine Su.x_whileN ?_ | with_reducible refine Su.x_iEnum ?_ | with_reducible refine Su.x_iZip ?_ | with_reducible refine Su.x_iZipA ?_ | with_reducible refine Su.x_iTup ?_ | with_reducible refine Su.x_gcons ?_ | with_reducible refine Su.x_gnil ?_ | with_reducible refine Su.x_gsub ?_ | with_reducible refine Su.x_yes ?_ | with_reducible refine Su.x_lc ?_ | with_reducible refine Su.x_sl ?_ | with_reducible refine Su.x_nopart ?_ | with_reducible refine Su.x_part ?_ | with_reducible refine Su.x_isI ?_ | with_reducible refine Su.x_lstRg ?_ | with_reducible refine Su.x_rg1 ?_ | with_reducible refine Su.x_augS ?_ | with_reducible refine Su.x_ipI ?_ | ((with_reducible show L2.tAug _ _ _ _ _ _); refine Su.x_aug rfl ?_) | with_reducible refine Su.x_callS ?_ | with_reducible refine Su.x_tryAs ?_)
local macro_rules | `(tactic| walk_at "xs") => `(tactic| repeat walk_at "x")
local macro_rules | `(tactic| walk_at "if") => `(tactic| first | with_reducible refine Su.x_iteD (fun c => ?_) (fun c => ?_) | with_reducible refine Su.x_iteN (fun c => ?_) (fun c => ?_) | with_reducible refine Su.x_ite (fun c => ?_) (fun c => ?_))
/-! _law_tried -/
def GoodAsk (ws : List (Int × Int)) (which num : Int) (row : List Int) : Prop := which = 0 ∨ (which = 1 ∧ 0 ≤ num ∧ num < ((allO ws).length : Nat)) ∨ (which ≠ 0 ∧ which ≠ 1 ∧ KeepsP ws row)
def Tried (ws : List (Int × Int)) (which num : Int) (row : List Int) (bs : List Bool) : Prop :=
  (8 < ws.length ∧ bs = [true, false, true]) ∨ (ws.length ≤ 8 ∧ ((GoodAsk ws which num row ∧ bs = []) ∨ (¬ GoodAsk ws which num row ∧ bs = [false, true, true])))
def sp_law_tried (K : PySem.W.Frag) : Sp := fun vs H Q _ => ∃ (which num : Int) (v : V) (ws : List (Int × Int)) (a : Addr) (row : List Int), vs = [.int which, v, .int num, .ref a] ∧ Dp K H v (dWin ws) ∧ SqL K H a (row.map V.int) ∧ Xf K ["TooMany", "BadNumber"] ∧
  ∀ (p : Addr) (bs : List Bool) (H' : Hp), H p = none → Same H H' → H' p = some (.lst (bs.map V.bl)) → Tried ws which num row bs → Q (.ref p) H'
abbrev N_law_tried : List Str := ["_law_which", "_law_windows", "_law_number", "_law_row_here", "_law_marks", "e"]
def t_law_tried (K : PySem.W.Frag) : TS :=
 (tSeq (tAsg (tLst tNil) (gName 4))
 (C8.tCut (tTryAs K (.ref (He.ga K "SusuError")) 5 (fun a cls d => (tAsg (tLst (tCons (tCB (rIsX K a cls d) (tCons (tVar 5) (tCons (tC (.ref (He.ga K "TooMany"))) tNil))) (tCons (tCB (rIsX K a cls d) (tCons (tVar 5) (tCons (tC (.ref (He.ga K "BadNumber"))) tNil))) (tCons (tCB (rIsX K a cls d) (tCons (tVar 5) (tCons (tC (.ty "ValueError")) tNil))) tNil)))) (gName 4))) (fun _ _ _ _ => False) (fun W => (tIfS (tTest (tOp rEq (tVar 0) (tC (.int 0))))
 (tDrop (tCallS (sp_count_orders K) (WE W) (tCons (tVar 1) tNil)))
 (tIfS (tTest (tOp rEq (tVar 0) (tC (.int 1))))
 (tDrop (tCallS (sp_order_by_number K) (WE W) (tCons (tVar 1) (tCons (tVar 2) tNil))))
 (tDrop (tCallS (sp_number_of_order K) (WE W) (tCons (tVar 1) (tCons (tVar 3) tNil))))))))
 (tRet (tVar 4))))

theorem len_law_tried {K : PySem.W.Frag} : ∀ vs H Q E, sp_law_tried K vs H Q E → vs.length = ["a", "b", "c", "d"].length := by
  rintro vs H Q E ⟨_, _, _, _, _, _, rfl, _⟩; rfl
theorem pure_law_tried {K : PySem.W.Frag} {vs : List V} {H : Hp} {Q : VK} {E : XK} (h : sp_law_tried K vs H Q E) : t_law_tried K { nx := fun _ H' => Q .non H', rt := Q } (start N_law_tried vs) H := by
  obtain ⟨which, num, v, ws, a, row, rfl, hw, hS, xf, k⟩ := h
  unfold t_law_tried
  walk_at "xs"
  refine al_lst fun M H1 nM s1 hM => ?_
  walk_at "xs"
  have hw1 := dp_same s1 hw
  have hS1 := s1.seq hS
  have n8 : 8 < ws.length ∨ ws.length ≤ 8 := by omega
  refine x_cut (fun σ H' => ∃ (M : Addr) (bs : List Bool) (u : Option V), σ = [some (.int which), some v, some (.int num), some (.ref a), some (.ref M), u] ∧ H M = none ∧ Same H H' ∧ H' M = some (.lst (bs.map V.bl)) ∧ Tried ws which num row bs) ?_ ?_
  · walk_at "xs"
    walk_at "if"
    · rename_i c
      walk_at "xs"
      refine ⟨v, ws, rfl, hw1, fun l8 => ?_, fun l8 H2 s2 => ?_⟩
      · refine x_caught (xf.m _ (by simp)) fun e he => ?_
        walk_at "xs"
        refine x_isX (xf.c _ (by simp)) (fun u h => h) (xf.k _ (by simp) _ (by simp)) ?_
        walk_at "xs"
        refine x_isX (xf.c _ (by simp)) (fun u h => h) (xf.k _ (by simp) _ (by simp)) ?_
        walk_at "xs"
        refine x_isX (xf.c _ (by simp)) (fun u h => h) (xf.v _ (by simp)) ?_
        walk_at "xs"
        refine al_lst fun M2 H6 nM2 s6 hM2 => ?_
        walk_at "xs"
        exact ⟨M2, [true, false, true], _, rfl, s1.free nM2, s1.trans s6, hM2, .inl ⟨l8, rfl⟩⟩
      · walk_at "xs"
        exact ⟨M, [], _, rfl, nM, s1.trans s2, s2 _ _ hM, .inr ⟨l8, .inl ⟨.inl c, rfl⟩⟩⟩
    · rename_i c
      walk_at "xs"
      walk_at "if"
      · rename_i c1
        walk_at "xs"
        refine ⟨v, ws, num, rfl, hw1, fun l8 => ?_, fun l8 z H2 s2 => ?_, fun l8 n p r H2 e1 e2 np s2 hp => ?_⟩
        · refine x_caught (xf.m _ (by simp)) fun e he => ?_
          walk_at "xs"
          refine x_isX (xf.c _ (by simp)) (fun u h => h) (xf.k _ (by simp) _ (by simp)) ?_
          walk_at "xs"
          refine x_isX (xf.c _ (by simp)) (fun u h => h) (xf.k _ (by simp) _ (by simp)) ?_
          walk_at "xs"
          refine x_isX (xf.c _ (by simp)) (fun u h => h) (xf.v _ (by simp)) ?_
          walk_at "xs"
          refine al_lst fun M2 H6 nM2 s6 hM2 => ?_
          walk_at "xs"
          exact ⟨M2, [true, false, true], _, rfl, s1.free nM2, s1.trans s6, hM2, .inl ⟨l8, rfl⟩⟩
        · refine x_caught (xf.m _ (by simp)) fun e he => ?_
          walk_at "xs"
          refine x_isX (xf.c _ (by simp)) (fun u h => h) (xf.k _ (by simp) _ (by simp)) ?_
          walk_at "xs"
          refine x_isX (xf.c _ (by simp)) (fun u h => h) (xf.k _ (by simp) _ (by simp)) ?_
          walk_at "xs"
          refine x_isX (xf.c _ (by simp)) (fun u h => h) (xf.v _ (by simp)) ?_
          walk_at "xs"
          refine al_lst fun M2 H6 nM2 s6 hM2 => ?_
          walk_at "xs"
          exact ⟨M2, [false, true, true], _, rfl, (s1.trans s2).free nM2, (s1.trans s2).trans s6, hM2, .inr ⟨l8, .inr ⟨fun g => z (g.elim (fun g => absurd g c) fun g => g.elim (fun g => g.2) fun g => absurd c1 g.2.1), rfl⟩⟩⟩
        · walk_at "xs"
          refine ⟨M, [], _, rfl, nM, s1.trans s2, s2 _ _ hM, .inr ⟨l8, .inl ⟨.inr (.inl ⟨c1, by omega, ?_⟩), rfl⟩⟩⟩
          have := (List.getElem?_eq_some_iff.mp e2).1
          omega
      · rename_i c1
        walk_at "xs"
        refine ⟨v, ws, a, row, rfl, hw1, hS1, fun l8 => ?_, fun l8 z H2 s2 => ?_, fun l8 n r H2 e1 e2 s2 => ?_⟩
        · refine x_caught (xf.m _ (by simp)) fun e he => ?_
          walk_at "xs"
          refine x_isX (xf.c _ (by simp)) (fun u h => h) (xf.k _ (by simp) _ (by simp)) ?_
          walk_at "xs"
          refine x_isX (xf.c _ (by simp)) (fun u h => h) (xf.k _ (by simp) _ (by simp)) ?_
          walk_at "xs"
          refine x_isX (xf.c _ (by simp)) (fun u h => h) (xf.v _ (by simp)) ?_
          walk_at "xs"
          refine al_lst fun M2 H6 nM2 s6 hM2 => ?_
          walk_at "xs"
          exact ⟨M2, [true, false, true], _, rfl, s1.free nM2, s1.trans s6, hM2, .inl ⟨l8, rfl⟩⟩
        · refine x_caught (xf.m _ (by simp)) fun e he => ?_
          walk_at "xs"
          refine x_isX (xf.c _ (by simp)) (fun u h => h) (xf.k _ (by simp) _ (by simp)) ?_
          walk_at "xs"
          refine x_isX (xf.c _ (by simp)) (fun u h => h) (xf.k _ (by simp) _ (by simp)) ?_
          walk_at "xs"
          refine x_isX (xf.c _ (by simp)) (fun u h => h) (xf.v _ (by simp)) ?_
          walk_at "xs"
          refine al_lst fun M2 H6 nM2 s6 hM2 => ?_
          walk_at "xs"
          exact ⟨M2, [false, true, true], _, rfl, (s1.trans s2).free nM2, (s1.trans s2).trans s6, hM2, .inr ⟨l8, .inr ⟨fun g => z (g.elim (fun g => absurd g c) fun g => g.elim (fun g => absurd g.1 c1) fun g => g.2.2), rfl⟩⟩⟩
        · walk_at "xs"
          exact ⟨M, [], _, rfl, nM, s1.trans s2, s2 _ _ hM, .inr ⟨l8, .inl ⟨.inr (.inr ⟨c, c1, r, e1, mem_allO.mp (List.mem_of_getElem? e2)⟩), rfl⟩⟩⟩
  · rintro _ H2 ⟨M2, bs, u, rfl, nM2, s2, hM2, ht⟩
    walk_at "xs"
    exact k M2 bs H2 nM2 s2 hM2 ht

end Su
namespace Su
open PySem L2
local macro_rules | `(tactic| walk_at "side") => `(tactic| first | assumption | (show (0 : Int) < _; omega) | (show (0 : Int) ≤ _; omega) | (show (0 : Int) < _; split <;> omega) | (show _ ∨ _; omega) | (show _ ∧ _; omega) | exact ⟨by decide, by decide, by decide⟩ | exact ⟨by first | assumption | omega, by first | assumption | omega⟩)
local macro_rules | `(tactic| walk_at "x") => `(tactic| first | with_reducible refine Su.x_ret ?_ | ((with_reducible show L2.tVar _ _ _ _); refine Su.x_var rfl ?_) | with_reducible refine Su.x_c ?_ | with_reducible refine Su.x_isi_int_int ?_ | with_reducible refine Su.x_isi_int_bool ?_ | with_reducible refine Su.x_iteT ?_ | with_reducible refine Su.x_isB ?_ | with_reducible refine Su.x_isB' ?_ | with_reducible refine Su.x_andV ?_ | with_reducible refine Su.x_notV ?_ | with_reducible refine Su.x_nil ?_ | with_reducible refine Su.x_cons ?_ | with_reducible refine Su.x_cb ?_)
local macro_rules | `(tactic| walk_at "xs") => `(tactic| repeat walk_at "x")
local macro_rules | `(tactic| walk_at "if") => `(tactic| first | with_reducible refine Su.x_iteD (fun c => ?_) (fun c => ?_) | with_reducible refine Su.x_iteN (fun c => ?_) (fun c => ?_) | with_reducible refine Su.x_ite (fun c => ?_) (fun c => ?_))

/-! _law_whole of an int -/
def sp_law_whole (K : PySem.W.Frag) : Sp := fun vs H Q _ => ∃ n : Int, vs = [.int n] ∧ Q (.bl true) H
abbrev N_law_whole : List Str := ["_law_told"]
def t_law_whole (K : PySem.W.Frag) : TS :=
 (tRet (tAndV (tCB (rIsi K) (tCons (tVar 0) (tCons (tC (.ty "int")) tNil))) (tNotV (tCB (rIsi K) (tCons (tVar 0) (tCons (tC (.ty "bool")) tNil))))))

theorem len_law_whole {K : PySem.W.Frag} : ∀ vs H Q E, sp_law_whole K vs H Q E → vs.length = ["a"].length := by
  rintro vs H Q E ⟨_, rfl, _⟩; rfl
theorem pure_law_whole {K : PySem.W.Frag} {vs : List V} {H : Hp} {Q : VK} {E : XK} (h : sp_law_whole K vs H Q E) : t_law_whole K { nx := fun _ H' => Q .non H', rt := Q } (start N_law_whole vs) H := by
  obtain ⟨n, rfl, k⟩ := h
  unfold t_law_whole
  walk_at "xs"
  exact k

end Su
namespace Su
open PySem L2
local macro_rules | `(tactic| walk_at "side") => `(tactic| first | assumption | (show (0 : Int) < _; omega) | (show (0 : Int) ≤ _; omega) | (show (0 : Int) < _; split <;> omega) | (show _ ∨ _; omega) | (show _ ∧ _; omega) | exact ⟨by decide, by decide, by decide⟩ | exact ⟨by first | assumption | omega, by first | assumption | omega⟩)
local macro_rules | `(tactic| walk_at "x") => `(tactic| first
  | with_reducible refine Su.x_seq ?_ | with_reducible refine Su.x_asg ?_ | with_reducible refine Su.x_gname ?_ | with_reducible refine Su.x_drop ?_ | with_reducible refine Su.x_ret ?_ | with_reducible refine Su.x_ifS ?_
  | ((with_reducible show L2.tVar _ _ _ _); refine Su.x_var rfl ?_) | with_reducible refine Su.x_c ?_ | with_reducible refine Su.x_op ?_ | with_reducible refine Su.x_rI0 ?_ | ((with_reducible refine Su.x_rI ?_ ?_); focus walk_at "side")
  | ((with_reducible show L2.rIxL _ (L2.V.ref _) (L2.V.int _) _ _); refine Su.x_ixI (by assumption) (by first | decide | omega) (by omega) ?_) | with_reducible refine Su.x_isi_int_int ?_ | with_reducible refine Su.x_isi_int_bool ?_ | with_reducible refine Su.x_isi_int_str ?_ | with_reducible refine Su.x_isi_int_list ?_ | with_reducible refine Su.x_isi_int_tuple ?_ | with_reducible refine Su.x_isi_bool_int ?_ | with_reducible refine Su.x_isi_bool_bool ?_ | with_reducible refine Su.x_isi_bool_str ?_ | with_reducible refine Su.x_isi_bool_list ?_ | with_reducible refine Su.x_isi_bool_tuple ?_ | with_reducible refine Su.x_isi_str_int ?_ | with_reducible refine Su.x_isi_str_bool ?_ | with_reducible refine Su.x_isi_str_str ?_ | with_reducible refine Su.x_isi_str_list ?_ | with_reducible refine Su.x_isi_str_tuple ?_ | with_reducible refine Su.x_isi_NoneType_int ?_ | with_reducible refine Su.x_isi_NoneType_bool ?_ | with_reducible refine Su.x_isi_NoneType_str ?_ | with_reducible refine Su.x_isi_NoneType_list ?_ | with_reducible refine Su.x_isi_NoneType_tuple ?_ | with_reducible refine Su.x_rGt ?_ | with_reducible refine Su.x_rGe ?_ | with_reducible refine Su.x_iteF ?_ | with_reducible refine Su.x_iteT ?_ | with_reducible refine Su.x_iteNT ?_ | with_reducible refine Su.x_iteNF ?_ | with_reducible refine Su.x_eqI ?_ | with_reducible refine Su.x_neI ?_ | with_reducible refine Su.x_eqS ?_ | with_reducible refine Su.x_neS ?_ | with_reducible refine Su.x_eqB ?_ | with_reducible refine Su.x_neB ?_
  | with_reducible refine Su.x_test ?_ | with_reducible refine Su.x_tB ?_ | with_reducible refine Su.x_isB ?_ | with_reducible refine Su.x_isB' ?_ | with_reducible refine Su.x_not ?_ | with_reducible refine Su.x_and ?_ | with_reducible refine Su.x_or ?_
  | with_reducible refine Su.x_andV ?_ | with_reducible refine Su.x_orV ?_ | with_reducible refine Su.x_notV ?_ | with_reducible refine Su.x_chain ?_ | with_reducible refine Su.x_nil ?_ | with_reducible refine Su.x_cons ?_ | with_reducible refine Su.x_cb ?_ | with_reducible refine Su.x_call ?_
  | with_reducible refine Su.x_un ?_ | with_reducible refine Su.x_rU ?_ | with_reducible refine Su.x_abs ?_ | with_reducible refine Su.x_max2 ?_ | with_reducible refine Su.x_min2 ?_ | with_reducible refine Su.x_int1 ?_ | with_reducible refine Su.x_intB ?_
  | with_reducible refine Su.x_lst ?_ | with_reducible refine Su.x_tup ?_ | with_reducible refine Su.x_bmL ?_ | with_reducible refine Su.x_next ?_ | with_reducible refine Su.x_for ?_ | with_reducible refine Su.x_iList ?_ | with_reducible refine Su.x_iRng1 ?_ | with_reducible refine Su.x_iRng2 ?_ | with_reducible refine Su.x_whileN ?_ | with_reducible refine Su.x_iEnum ?_ | with_reducible refine Su.x_iZip ?_ | with_reducible refine Su.x_iZipA ?_ | with_reducible refine Su.x_iTup ?_ | with_reducible refine Su.x_gcons ?_ | with_reducible refine Su.x_gnil ?_ | with_reducible refine Su.x_gsub ?_ | with_reducible refine Su.x_yes ?_ | with_reducible refine Su.x_lc ?_ | with_reducible refine Su.x_sl ?_ | with_reducible refine Su.x_nopart ?_ | with_reducible refine Su.x_part ?_ | with_reducible refine Su.x_isI ?_ | with_reducible refine Su.x_lstRg ?_ | with_reducible refine Su.x_rg1 ?_ | with_reducible refine Su.x_augS ?_ | with_reducible refine Su.x_ipI ?_ | ((with_reducible show L2.tAug _ _ _ _ _ _); refine Su.x_aug rfl ?_) | with_reducible refine Su.x_callS ?_ | with_reducible refine Su.x_tryAs ?_)
local macro_rules | `(tactic| walk_at "xs") => `(tactic| repeat walk_at "x")
local macro_rules | `(tactic| walk_at "if") => `(tactic| first | with_reducible refine Su.x_iteD (fun c => ?_) (fun c => ?_) | with_reducible refine Su.x_iteN (fun c => ?_) (fun c => ?_) | with_reducible refine Su.x_ite (fun c => ?_) (fun c => ?_))
/-! _law_wide -/
def sp_law_wide (K : PySem.W.Frag) : Sp := fun vs H Q _ => ∃ (a : Addr) (rows : List Int) (n : Nat), vs = [.ref a, .int n] ∧ SqL K H a (rows.map V.int) ∧ 0 < n ∧ n ≤ 1000 ∧ 2 * n ≤ rows.length ∧ (∀ x ∈ rows, -(10 ^ 18) < x ∧ x < 10 ^ 18) ∧
  ∀ (p : Addr) (ws : List (Int × Int)) (H' : Hp), H p = none → Same H H' → WinAt K H' p ws → ws.length = n → WinOk n ws → Q (.ref p) H'
abbrev N_law_wide : List Str := ["_law_some", "_law_size", "_law_rows", "_law_at", "_law_first", "_law_last"]
def t_law_wide (K : PySem.W.Frag) : TS :=
 (tSeq (tAsg (tLst tNil) (gName 2))
 (tSeq (tFor (iRng1 (tCons (tVar 1) tNil)) (gName 3)
 (tSeq (tAsg (tOp rAdd (tC (.int 1)) (tOp rMul (tOp rMod (tOp (rIxL K) (tVar 0) (tOp rMul (tC (.int 2)) (tVar 3))) (tVar 1)) (tOp rMod (tOp rDiv (tOp (rIxL K) (tVar 0) (tOp rMul (tC (.int 2)) (tVar 3))) (tC (.int 7))) (tC (.int 2))))) (gName 4))
 (tSeq (tAsg (tOp rSub (tVar 1) (tOp rMul (tOp rMod (tOp (rIxL K) (tVar 0) (tOp rAdd (tOp rMul (tC (.int 2)) (tVar 3)) (tC (.int 1)))) (tVar 1)) (tOp rMod (tOp rDiv (tOp (rIxL K) (tVar 0) (tOp rAdd (tOp rMul (tC (.int 2)) (tVar 3)) (tC (.int 1)))) (tC (.int 5))) (tC (.int 2))))) (gName 5))
 (tDrop (tBM K "list" rAppend (tVar 2) (tCons (tTup (tCons (tVar 4) (tCons (tVar 5) tNil))) tNil))))))
 (tRet (tVar 2))))

theorem len_law_wide {K : PySem.W.Frag} : ∀ vs H Q E, sp_law_wide K vs H Q E → vs.length = ["a", "b"].length := by
  rintro vs H Q E ⟨_, _, _, rfl, _⟩; rfl
theorem half_mul {a b n : Int} (h : 0 ≤ a ∧ a < n) (hb : 0 ≤ b ∧ b < 2) : 0 ≤ a * b ∧ a * b < n := by
  rcases (show b = 0 ∨ b = 1 by omega) with rfl | rfl
  · rw [Int.mul_zero]; omega
  · rw [Int.mul_one]; exact h
theorem pure_law_wide {K : PySem.W.Frag} {vs : List V} {H : Hp} {Q : VK} {E : XK} (h : sp_law_wide K vs H Q E) : t_law_wide K { nx := fun _ H' => Q .non H', rt := Q } (start N_law_wide vs) H := by
  obtain ⟨a, rows, n, rfl, hS, n0, n1, hl, hb, k⟩ := h
  unfold t_law_wide
  walk_at "xs"
  refine al_lst fun p H1 np s1 hp => ?_
  walk_at "xs"
  refine ⟨n, rfl, by omega, by omega, for_by turnsR (fun i σ H' => ∃ (ws : List (Int × Int)) (u v w : Option V), σ = [some (.ref a), some (.int n), some (.ref p), u, v, w] ∧ Same H H' ∧ WinAt K H' p ws ∧ ws.length = i ∧ WinOk n ws)
    ⟨[], none, none, none, rfl, s1, ⟨[], hp, .nil⟩, rfl, fun _ h => nomatch h⟩ (fun _ _ _ _ _ => trivial) ?_ ?_⟩
  · rintro i y σ H2 _ hi ⟨ws, u, v, w, rfl, s2, w2, wl, ok⟩ ⟨rfl, rfl⟩
    have hi' : i < n := by omega
    have hS2 := s2.seq hS
    walk_at "xs"
    refine x_ixL hS2 (at_getI (by omega) (by omega)) ?_
    have g1 := getD_all hb (by omega) (2 * (0 + (i : Int))).toNat
    generalize rows.getD (2 * (0 + (i : Int))).toNat 0 = r1 at g1 ⊢
    have b1 := b_mod r1 n (by omega)
    walk_at "xs"
    refine x_ixL hS2 (at_getI (by omega) (by omega)) ?_
    generalize rows.getD (2 * (0 + (i : Int))).toNat 0 = r1' at ⊢
    have b1' := b_mod (r1' / 7) 2 (by omega)
    have c1 := half_mul b1 b1'
    walk_at "xs"
    refine x_ixL hS2 (at_getI (by omega) (by omega)) ?_
    generalize rows.getD (2 * (0 + (i : Int)) + 1).toNat 0 = r2 at ⊢
    have b2 := b_mod r2 n (by omega)
    walk_at "xs"
    refine x_ixL hS2 (at_getI (by omega) (by omega)) ?_
    generalize rows.getD (2 * (0 + (i : Int)) + 1).toNat 0 = r2' at ⊢
    have b2' := b_mod (r2' / 5) 2 (by omega)
    have c2 := half_mul b2 b2'
    walk_at "xs"
    obtain ⟨xs, hxs, _⟩ := w2.lst
    refine ⟨tyL (SqL.of hxs), ?_⟩
    walk_at "xs"
    refine al_tup fun t H3 nt s3 ht => ?_
    walk_at "xs"
    refine x_winpush w2 s3 nt ht (by omega) fun H4 k4 w4 => ?_
    refine ⟨_, _, _, _, rfl, keep_same (s2.trans s3) np k4, w4, by rw [List.length_append, wl]; rfl, ?_⟩
    intro w hw
    rcases List.mem_append.mp hw with h | h
    · exact ok w h
    · cases List.mem_singleton.mp h
      exact ⟨by show (1 : Int) ≤ 1 + _; omega, by show 1 + _ ≤ (n : Int); omega, by show (1 : Int) ≤ n - _; omega, by show (n : Int) - _ ≤ n; omega⟩
  · rintro σ H2 ⟨ws, u, v, w, rfl, s2, w2, wl, ok⟩
    walk_at "xs"
    exact k p ws H2 np s2 w2 (by omega) (by rw [show ((n : Int)).toNat = n by omega] at wl; exact ok)

end Su
namespace Su
open PySem L2
local macro_rules | `(tactic| walk_at "side") => `(tactic| first | assumption | (show (0 : Int) < _; omega) | (show (0 : Int) ≤ _; omega) | (show (0 : Int) < _; split <;> omega) | (show _ ∨ _; omega) | (show _ ∧ _; omega) | exact ⟨by decide, by decide, by decide⟩ | exact ⟨by first | assumption | omega, by first | assumption | omega⟩)
local macro_rules | `(tactic| walk_at "x") => `(tactic| first
  | with_reducible refine Su.x_seq ?_ | with_reducible refine Su.x_asg ?_ | with_reducible refine Su.x_gname ?_ | with_reducible refine Su.x_drop ?_ | with_reducible refine Su.x_ret ?_ | with_reducible refine Su.x_ifS ?_
  | ((with_reducible show L2.tVar _ _ _ _); refine Su.x_var rfl ?_) | with_reducible refine Su.x_c ?_ | with_reducible refine Su.x_op ?_ | with_reducible refine Su.x_rI0 ?_ | ((with_reducible refine Su.x_rI ?_ ?_); focus walk_at "side")
  | ((with_reducible show L2.rIxL _ (L2.V.ref _) (L2.V.int _) _ _); refine Su.x_ixI (by assumption) (by first | decide | omega) (by omega) ?_) | with_reducible refine Su.x_isi_int_int ?_ | with_reducible refine Su.x_isi_int_bool ?_ | with_reducible refine Su.x_isi_int_str ?_ | with_reducible refine Su.x_isi_int_list ?_ | with_reducible refine Su.x_isi_int_tuple ?_ | with_reducible refine Su.x_isi_bool_int ?_ | with_reducible refine Su.x_isi_bool_bool ?_ | with_reducible refine Su.x_isi_bool_str ?_ | with_reducible refine Su.x_isi_bool_list ?_ | with_reducible refine Su.x_isi_bool_tuple ?_ | with_reducible refine Su.x_isi_str_int ?_ | with_reducible refine Su.x_isi_str_bool ?_ | with_reducible refine Su.x_isi_str_str ?_ | with_reducible refine Su.x_isi_str_list ?_ | with_reducible refine Su.x_isi_str_tuple ?_ | with_reducible refine Su.x_isi_NoneType_int ?_ | with_reducible refine Su.x_isi_NoneType_bool ?_ | with_reducible refine Su.x_isi_NoneType_str ?_ | with_reducible refine Su.x_isi_NoneType_list ?_ | with_reducible refine Su.x_isi_NoneType_tuple ?_ | with_reducible refine Su.x_rGt ?_ | with_reducible refine Su.x_rGe ?_ | with_reducible refine Su.x_iteF ?_ | with_reducible refine Su.x_iteT ?_ | with_reducible refine Su.x_iteNT ?_ | with_reducible refine Su.x_iteNF ?_ | with_reducible refine Su.x_eqI ?_ | with_reducible refine Su.x_neI ?_ | with_reducible refine Su.x_eqS ?_ | with_reducible refine Su.x_neS ?_ | with_reducible refine Su.x_eqB ?_ | with_reducible refine Su.x_neB ?_
  | with_reducible refine Su.x_test ?_ | with_reducible refine Su.x_tB ?_ | with_reducible refine Su.x_isB ?_ | with_reducible refine Su.x_isB' ?_ | with_reducible refine Su.x_not ?_ | with_reducible refine Su.x_and ?_ | with_reducible refine Su.x_or ?_
  | with_reducible refine Su.x_andV ?_ | with_reducible refine Su.x_orV ?_ | with_reducible refine Su.x_notV ?_ | with_reducible refine Su.x_chain ?_ | with_reducible refine Su.x_nil ?_ | with_reducible refine Su.x_cons ?_ | with_reducible refine Su.x_cb ?_ | with_reducible refine Su.x_call ?_
  | with_reducible refine Su.x_un ?_ | with_reducible refine Su.x_rU ?_ | with_reducible refine Su.x_abs ?_ | with_reducible refine Su.x_max2 ?_ | with_reducible refine Su.x_min2 ?_ | with_reducible refine Su.x_int1 ?_ | with_reducible refine Su.x_intB ?_
  | with_reducible refine Su.x_lst ?_ | with_reducible refine Su.x_tup ?_ | with_reducible refine Su.x_bmL ?_ | with_reducible refine Su.x_next ?_ | with_reducible refine Su.x_for ?_ | with_reducible refine Su.x_iList ?_ | with_reducible refine Su.x_iRng1 ?_ | with_reducible refine Su.x_iRng2 ?_ | with_reducible refine Su.x_whileN ?_ | with_reducible refine Su.x_iEnum ?_ | with_reducible refine Su.x_iZip ?_ | with_reducible refine Su.x_iZipA ?_ | with_reducible refine Su.x_iTup ?_ | with_reducible refine Su.x_gcons ?_ | with_reducible refine Su.x_gnil ?_ | with_reducible refine Su.x_gsub ?_ | with_reducible refine Su.x_yes ?_ | with_reducible refine Su.x_lc ?_ | with_reducible refine Su.x_sl ?_ | with_reducible refine Su.x_nopart ?_ | with_reducible refine Su.x_part ?_ | with_reducible refine Su.x_isI ?_ | with_reducible refine Su.x_lstRg ?_ | with_reducible refine Su.x_rg1 ?_ | with_reducible refine Su.x_augS ?_ | with_reducible refine Su.x_ipI ?_ | ((with_reducible show L2.tAug _ _ _ _ _ _); refine Su.x_aug rfl ?_) | with_reducible refine Su.x_callS ?_ | with_reducible refine Su.x_tryAs ?_)
local macro_rules | `(tactic| walk_at "xs") => `(tactic| repeat walk_at "x")
local macro_rules | `(tactic| walk_at "if") => `(tactic| first | with_reducible refine Su.x_iteD (fun c => ?_) (fun c => ?_) | with_reducible refine Su.x_iteN (fun c => ?_) (fun c => ?_) | with_reducible refine Su.x_ite (fun c => ?_) (fun c => ?_))
def sp_law (K : PySem.W.Frag) : Sp := fun vs H Q _ => ∃ (a : Addr) (ns : List Int), vs = [.ref a] ∧ SqL K H a (ns.map V.int) ∧ ns.length ≤ 63 ∧ Xf K ["TooMany", "BadNumber"] ∧ ∀ H', Q (.bl true) H'
abbrev N_law : List Str := ["_law_script", "_law_some", "_law_size", "_law_windows", "_law_row_here", "_law_number", "_law_due", "_law_first", "_law_second", "_law_many", "_law_given"]
def t_law (K : PySem.W.Frag) : TS :=
 (tSeq (tAsg (tCall (sp_law_draws K) [] E0 (tCons (tVar 0) (tCons (tC (.int 32)) tNil))) (gName 1))
 (tSeq (tAsg (tOp rMod (tOp (rIxL K) (tVar 1) (tC (.int 0))) (tC (.int 13))) (gName 2))
 (tSeq (tAsg (tLst tNil) (gName 3))
 (C8.tCut (tIfS (tTest (tOp rGt (tVar 2) (tC (.int 0))))
 (tAsg (tCall (sp_law_wide K) [] E0 (tCons (tSl (rSlL K) (tVar 1) (tPart (tC (.int 6))) tNoPart) (tCons (tVar 2) tNil))) (gName 3))
 tNext)
 (tSeq (tAsg (tCall (sp_law_row K) [] E0 (tCons (tVar 2) (tCons (tOp rMod (tOp (rIxL K) (tVar 1) (tC (.int 1))) (tC (.int 6))) (tCons (tOp (rIxL K) (tVar 1) (tC (.int 2))) (tCons (tOp (rIxL K) (tVar 1) (tC (.int 3))) tNil))))) (gName 4))
 (tSeq (tIfS (tTest (tOp rGt (tVar 2) (tC (.int 8))))
 (tSeq (tAsg (tOp rSub (tOp rMod (tOp (rIxL K) (tVar 1) (tC (.int 4))) (tC (.int 5))) (tC (.int 1))) (gName 5))
 (tSeq (tAsg (tLst (tCons (tC (.bl true)) (tCons (tC (.bl false)) (tCons (tC (.bl true)) tNil)))) (gName 6))
 (tSeq (tAsg (tOp (rEqD K) (tCall (sp_law_tried K) [] E0 (tCons (tC (.int 0)) (tCons (tCB (rListOf K) (tCons (tVar 3) tNil)) (tCons (tVar 5) (tCons (tVar 4) tNil))))) (tVar 6)) (gName 7))
 (tSeq (tAsg (tOp (rEqD K) (tCall (sp_law_tried K) [] E0 (tCons (tC (.int 1)) (tCons (tCB (rListOf K) (tCons (tVar 3) tNil)) (tCons (tVar 5) (tCons (tVar 4) tNil))))) (tVar 6)) (gName 8))
 (tRet (tAndV (tVar 7) (tAndV (tVar 8) (tOp (rEqD K) (tCall (sp_law_tried K) [] E0 (tCons (tC (.int 2)) (tCons (tCB (rListOf K) (tCons (tVar 3) tNil)) (tCons (tVar 5) (tCons (tVar 4) tNil))))) (tVar 6)))))))))
 tNext)
 (tSeq (tAsg (tCall (sp_count_orders K) [] E0 (tCons (tCB (rListOf K) (tCons (tVar 3) tNil)) tNil)) (gName 9))
 (tSeq (tIfS (tOr (tNot (tB (tCall (sp_law_whole K) [] E0 (tCons (tVar 9) tNil)))) (tTest (tOp rLt (tVar 9) (tC (.int 0)))))
 (tRet (tC (.bl false)))
 tNext)
 (tSeq (tAsg (tOp rSub (tOp rMod (tOp (rIxL K) (tVar 1) (tC (.int 4))) (tOp rAdd (tVar 9) (tC (.int 7)))) (tC (.int 3))) (gName 5))
 (C8.tCut (tIfS (tTest (tOp rGt (tOp rMod (tOp (rIxL K) (tVar 1) (tC (.int 5))) (tC (.int 3))) (tC (.int 0))))
 (tAsg (tOp (rIxL K) (tLst (tCons (tUn rNeg (tC (.int 1))) (tCons (tVar 9) (tCons (tOp rAdd (tVar 9) (tC (.int 1))) (tCons (tC (.int 0)) tNil))))) (tOp rMod (tOp (rIxL K) (tVar 1) (tC (.int 4))) (tC (.int 4)))) (gName 5))
 tNext)
 (tSeq (tAsg (tLst tNil) (gName 6))
 (C8.tCut (tIfS (tNot (tTest (tChain rLe rLt (tC (.int 0)) (tVar 5) (tVar 9))))
 (tAsg (tLst (tCons (tC (.bl false)) (tCons (tC (.bl true)) (tCons (tC (.bl true)) tNil)))) (gName 6))
 tNext)
 (tSeq (tIfS (tTest (tOp (rNeD K) (tCall (sp_law_tried K) [] E0 (tCons (tC (.int 1)) (tCons (tCB (rListOf K) (tCons (tVar 3) tNil)) (tCons (tVar 5) (tCons (tVar 4) tNil))))) (tVar 6)))
 (tRet (tC (.bl false)))
 tNext)
 (tSeq (tAsg (tLst (tCons (tC (.bl false)) (tCons (tC (.bl true)) (tCons (tC (.bl true)) tNil)))) (gName 6))
 (C8.tCut (tIfS (tB (tCall (sp_law_keeps K) [] E0 (tCons (tVar 3) (tCons (tVar 4) tNil))))
 (tAsg (tLst tNil) (gName 6))
 tNext)
 (tSeq (tAsg (tCB (rListOf K) (tCons (tVar 4) tNil)) (gName 10))
 (tRet (tAndV (tOp (rEqD K) (tCall (sp_law_tried K) [] E0 (tCons (tC (.int 2)) (tCons (tCB (rListOf K) (tCons (tVar 3) tNil)) (tCons (tVar 5) (tCons (tVar 10) tNil))))) (tVar 6)) (tOp (rEqD K) (tVar 10) (tVar 4))))))))))))))))))))

abbrev dB (bs : List Bool) : PyData := .list (bs.map .bool)
theorem dp_bls {K : PySem.W.Frag} {H : Hp} {a : Addr} {bs : List Bool} (h : H a = some (.lst (bs.map V.bl))) : Dp K H (.ref a) (dB bs) := .lst (SqL.of h) (bls_dpAll bs)
theorem len_law {K : PySem.W.Frag} : ∀ vs H Q E, sp_law K vs H Q E → vs.length = ["_law_script"].length := by
  rintro vs H Q E ⟨s, n, rfl, _⟩; rfl
theorem pure_law {K : PySem.W.Frag} {vs : List V} {H : Hp} {Q : VK} {E : XK} (h : sp_law K vs H Q E) : t_law K { nx := fun _ H' => Q .non H', rt := Q } (start N_law vs) H := by
  obtain ⟨a, ns, rfl, hS, hl, xf, k⟩ := h
  unfold t_law
  walk_at "xs"
  refine ⟨a, ns, 32, rfl, hS, hl, by decide, fun p rows H1 np s1 hp hm hm2 hb => ?_⟩
  walk_at "xs"
  have m0 := b_mod (rows.getD (Int.toNat 0) 0) 13 (by decide)
  obtain ⟨n, hn⟩ : ∃ n : Nat, rows.getD (Int.toNat 0) 0 % 13 = n := ⟨(rows.getD (Int.toNat 0) 0 % 13).toNat, by omega⟩
  have hn12 : n ≤ 12 := by omega
  rw [hn]
  clear hn m0
  refine al_lst fun pw0 H2 npw0 s2 hpw0 => ?_
  have hp2 := s2 _ _ hp
  walk_at "xs"
  refine x_cut (fun σ H' => ∃ (pw : Addr) (ws : List (Int × Int)), σ = [some (.ref a), some (.ref p), some (.int n), some (.ref pw), none, none, none, none, none, none, none] ∧ Same H2 H' ∧ WinAt K H' pw ws ∧ ws.length = n) ?_ ?_
  · walk_at "xs"
    walk_at "if"
    · walk_at "xs"
      refine al_from (i := 6) (SqL.of hp2) rfl fun ps H3 nps s3 hps => ?_
      walk_at "xs"
      refine ⟨ps, rows.drop 6, n, rfl, SqL.of hps, by omega, by omega, by rw [List.length_drop]; omega, fun x hx => hb x (List.mem_of_mem_drop hx), fun pw ws H4 npw s4 w4 wl _ => ?_⟩
      walk_at "xs"
      exact ⟨pw, ws, rfl, s3.trans s4, w4, wl⟩
    · exact ⟨pw0, [], rfl, Same.refl _, ⟨[], hpw0, .nil⟩, by show 0 = n; omega⟩
  clear npw0 hpw0 pw0
  rintro _ H3 ⟨pw, ws, rfl, s3, w3, wl⟩
  have hp3 := s3 _ _ hp2
  have dw := w3.dp
  obtain ⟨xs, hxs, hd⟩ := w3
  have cp : ∀ {H8 H9 : Hp} {ph : Addr}, Same H3 H8 → Same H8 H9 → H9 ph = some (.lst xs) → Dp K H9 (.ref ph) (dWin ws) := fun s s' h => .lst (SqL.of h) (dpAll_same ((del_same.trans s).trans s') hd)
  walk_at "xs"
  generalize rows.getD (Int.toNat 1) 0 % 6 = y1
  generalize rows.getD (Int.toNat 2) 0 = y2
  generalize rows.getD (Int.toNat 3) 0 = y3
  refine ⟨n, y1, y2, y3, rfl, by omega, fun q row H4 nq s4 hq rl => ?_⟩
  have hp4 := s4 _ _ hp3
  walk_at "xs"
  walk_at "if"
  · rename_i c
    have l8 : 8 < ws.length := by omega
    walk_at "xs"
    generalize rows.getD (Int.toNat 4) 0 % 5 - 1 = num
    refine al_lst fun pd H5 npd s5 hpd => ?_
    walk_at "xs"
    have one : ∀ {H8 H9 : Hp} {p1 : Addr} {bs : List Bool} {which : Int}, Tried ws which num row bs → Same H5 H9 → H9 p1 = some (.lst (bs.map V.bl)) → rEqD K (.ref p1) (.ref pd) H9 = fun Q => rEqD K (.ref p1) (.ref pd) H9 Q := fun _ _ _ => rfl
    clear one
    have s35 := s4.trans s5
    refine al_list (SqL.of (s35 _ _ hxs)) fun c1 H6 nc1 s6 hc1 => ?_
    walk_at "xs"
    refine ⟨0, num, _, ws, q, row, rfl, cp s35 s6 hc1, SqL.of ((s5.trans s6) _ _ hq), xf, fun p1 b1 H7 np1 s7 hp1 t1 => ?_⟩
    have e1 : b1 = [true, false, true] := t1.elim (·.2) fun z => by omega
    subst e1
    have s57 := s6.trans s7
    walk_at "xs"
    refine ⟨dB [true, false, true], dB [true, false, true], dp_bls hp1, dp_bls (s57 _ _ hpd), by rfl, by rfl, ?_⟩
    rw [show PyData.eqv (dB [true, false, true]) (dB [true, false, true]) = true by rfl]
    walk_at "xs"
    refine al_list (SqL.of ((s35.trans s57) _ _ hxs)) fun c2 H8 nc2 s8 hc2 => ?_
    walk_at "xs"
    refine ⟨1, num, _, ws, q, row, rfl, cp (s35.trans s57) s8 hc2, SqL.of (((s5.trans s57).trans s8) _ _ hq), xf, fun p2 b2 H9 np2 s9 hp2' t2 => ?_⟩
    have e2 : b2 = [true, false, true] := t2.elim (·.2) fun z => by omega
    subst e2
    have s59 := (s57.trans s8).trans s9
    walk_at "xs"
    refine ⟨dB [true, false, true], dB [true, false, true], dp_bls hp2', dp_bls (s59 _ _ hpd), by rfl, by rfl, ?_⟩
    rw [show PyData.eqv (dB [true, false, true]) (dB [true, false, true]) = true by rfl]
    walk_at "xs"
    refine al_list (SqL.of ((s35.trans s59) _ _ hxs)) fun c3 H10 nc3 s10 hc3 => ?_
    walk_at "xs"
    refine ⟨2, num, _, ws, q, row, rfl, cp (s35.trans s59) s10 hc3, SqL.of (((s5.trans s59).trans s10) _ _ hq), xf, fun p3 b3 H11 np3 s11 hp3' t3 => ?_⟩
    have e3 : b3 = [true, false, true] := t3.elim (·.2) fun z => by omega
    subst e3
    walk_at "xs"
    refine ⟨dB [true, false, true], dB [true, false, true], dp_bls hp3', dp_bls (((s59.trans s10).trans s11) _ _ hpd), by rfl, by rfl, ?_⟩
    rw [show PyData.eqv (dB [true, false, true]) (dB [true, false, true]) = true by rfl]
    exact k _
  rename_i c
  have l8 : ws.length ≤ 8 := by omega
  walk_at "xs"
  refine al_list (SqL.of (s4 _ _ hxs)) fun c0 H5 nc0 s5 hc0 => ?_
  walk_at "xs"
  refine ⟨_, ws, rfl, cp s4 s5 hc0, fun z => absurd z (by omega), fun _ H6 s6 => ?_⟩
  have hp6 := s6 _ _ (s5 _ _ hp4)
  obtain ⟨m, hmm⟩ : ∃ m, m = (allO ws).length := ⟨_, rfl⟩
  rw [← hmm]
  walk_at "xs"
  refine ⟨_, rfl, ?_⟩
  walk_at "xs"
  refine x_iteD (fun c => absurd c (by omega)) fun _ => ?_
  have s36 := (s4.trans s5).trans s6
  have s46 := s5.trans s6
  walk_at "xs"
  generalize rows.getD (Int.toNat 4) 0 % ((m : Int) + 7) - 3 = num0
  refine x_cut (fun σ H' => ∃ num : Int, σ = [some (.ref a), some (.ref p), some (.int n), some (.ref pw), some (.ref q), some (.int num), none, none, none, some (.int m), none] ∧ Same H6 H') ?_ ?_
  · walk_at "xs"
    walk_at "if"
    · walk_at "xs"
      refine al_lst fun pl H7 npl s7 hpl => ?_
      have hp7 := s7 _ _ hp6
      walk_at "xs"
      have q3 := b_mod (rows.getD (Int.toNat 4) 0) 4 (by decide)
      refine x_ixL (SqL.of (show H7 pl = some (.lst (([-1, (m : Int), (m : Int) + 1, 0] : List Int).map V.int)) from hpl)) (at_getI q3.1 q3.2) ?_
      walk_at "xs"
      exact ⟨_, rfl, s7⟩
    · exact ⟨_, rfl, Same.refl _⟩
  clear num0
  rintro _ H7 ⟨num, rfl, s7⟩
  walk_at "xs"
  refine al_lst fun pd H8 npd s8 hpd => ?_
  walk_at "xs"
  refine x_cut (fun σ H' => ∃ (pd : Addr) (bs : List Bool), σ = [some (.ref a), some (.ref p), some (.int n), some (.ref pw), some (.ref q), some (.int num), some (.ref pd), none, none, some (.int m), none] ∧ Same H7 H' ∧ H' pd = some (.lst (bs.map V.bl)) ∧ ((0 ≤ num ∧ num < m ∧ bs = []) ∨ (¬ (0 ≤ num ∧ num < m) ∧ bs = [false, true, true]))) ?_ ?_
  · walk_at "xs"
    have bad : ∀ H', Same H8 H' → ¬ (0 ≤ num ∧ num < m) → True := fun _ _ _ => trivial
    clear bad
    walk_at "if"
    · rename_i c1
      walk_at "xs"
      walk_at "if"
      · rename_i c2
        walk_at "xs"
        refine al_lst fun pe H9 npe s9 hpe => ?_
        walk_at "xs"
        exact ⟨pe, [false, true, true], rfl, s8.trans s9, hpe, .inr ⟨fun z => c2 z.2, rfl⟩⟩
      · rename_i c2
        exact ⟨pd, [], rfl, s8, hpd, .inl ⟨c1, by omega, rfl⟩⟩
    · rename_i c1
      walk_at "xs"
      refine al_lst fun pe H9 npe s9 hpe => ?_
      walk_at "xs"
      exact ⟨pe, [false, true, true], rfl, s8.trans s9, hpe, .inr ⟨fun z => c1 z.1, rfl⟩⟩
  clear hpd npd s8 pd H8
  rintro _ H8 ⟨pd, bs, rfl, s8, hpd, hbs⟩
  have s38 := (s36.trans s7).trans s8
  have s48 := (s46.trans s7).trans s8
  walk_at "xs"
  refine al_list (SqL.of (s38 _ _ hxs)) fun c1 H9 nc1 s9 hc1 => ?_
  walk_at "xs"
  refine ⟨1, num, _, ws, q, row, rfl, cp s38 s9 hc1, SqL.of ((s48.trans s9) _ _ hq), xf, fun p1 b1 H10 np1 s10 hp1 t1 => ?_⟩
  have e1 : b1 = bs := by
    rw [hmm] at hbs
    rcases t1 with z | ⟨_, ⟨g, e⟩ | ⟨g, e⟩⟩
    · omega
    · rcases hbs with ⟨u1, u2, u3⟩ | ⟨u1, u3⟩
      · rw [e, u3]
      · rcases g with g | g | g
        · cases g
        · exact absurd g.2 u1
        · exact absurd rfl g.2.1
    · rcases hbs with ⟨u1, u2, u3⟩ | ⟨u1, u3⟩
      · exact absurd (.inr (.inl ⟨rfl, u1, u2⟩)) g
      · rw [e, u3]
  subst e1
  have hpd10 := (s9.trans s10) _ _ hpd
  walk_at "xs"
  have sh : SeqAt.shaped (dB b1) = true ∧ PyData.eqv (dB b1) (dB b1) = true := by
    rcases hbs with ⟨_, _, rfl⟩ | ⟨_, rfl⟩ <;> exact ⟨rfl, rfl⟩
  refine ⟨dB b1, dB b1, dp_bls hp1, dp_bls hpd10, sh.1, sh.1, ?_⟩
  rw [sh.2]
  walk_at "xs"
  have s310 := (s38.trans s9).trans s10
  have s410 := (s48.trans s9).trans s10
  refine al_lst fun pf H11 npf s11 hpf => ?_
  walk_at "xs"
  refine x_cut (fun σ H' => ∃ (pd : Addr) (bs : List Bool), σ = [some (.ref a), some (.ref p), some (.int n), some (.ref pw), some (.ref q), some (.int num), some (.ref pd), none, none, some (.int m), none] ∧ Same H10 H' ∧ H' pd = some (.lst (bs.map V.bl)) ∧ ((KeepsP ws row ∧ bs = []) ∨ (¬ KeepsP ws row ∧ bs = [false, true, true]))) ?_ ?_
  · walk_at "xs"
    refine ⟨_, ws, q, row, rfl, dp_same (s310.trans s11) dw, SqL.of ((s410.trans s11) _ _ hq), by omega, fun b H12 s12 hb => ?_⟩
    walk_at "xs"
    cases b with
    | true =>
      walk_at "xs"
      refine al_lst fun pe H13 npe s13 hpe => ?_
      walk_at "xs"
      exact ⟨pe, [], rfl, (s11.trans s12).trans s13, hpe, .inl ⟨hb.mp rfl, rfl⟩⟩
    | false =>
      walk_at "xs"
      exact ⟨pf, [false, true, true], rfl, s11.trans s12, s12 _ _ hpf, .inr ⟨fun z => Bool.noConfusion (hb.mpr z), rfl⟩⟩
  rintro _ H12 ⟨pd2, b2, rfl, s12, hpd2, hbs2⟩
  have s312 := s310.trans s12
  have s412 := s410.trans s12
  walk_at "xs"
  refine al_list (SqL.of (s412 _ _ hq)) fun pg H13 npg s13 hpg => ?_
  walk_at "xs"
  refine al_list (SqL.of ((s312.trans s13) _ _ hxs)) fun c4 H14 nc4 s14 hc4 => ?_
  walk_at "xs"
  refine ⟨2, num, _, ws, pg, row, rfl, cp (s312.trans s13) s14 hc4, SqL.of (s14 _ _ hpg), xf, fun p3 b3 H15 np3 s15 hp3' t3 => ?_⟩
  have e3 : b3 = b2 := by
    rcases t3 with z | ⟨_, ⟨g, e⟩ | ⟨g, e⟩⟩
    · omega
    · rcases hbs2 with ⟨u1, u3⟩ | ⟨u1, u3⟩
      · rw [e, u3]
      · rcases g with g | g | g
        · cases g
        · cases g.1
        · exact absurd g.2.2 u1
    · rcases hbs2 with ⟨u1, u3⟩ | ⟨u1, u3⟩
      · exact absurd (.inr (.inr ⟨by decide, by decide, u1⟩)) g
      · rw [e, u3]
  subst e3
  have sh2 : SeqAt.shaped (dB b3) = true ∧ PyData.eqv (dB b3) (dB b3) = true := by
    rcases hbs2 with ⟨_, rfl⟩ | ⟨_, rfl⟩ <;> exact ⟨rfl, rfl⟩
  have s1215 := (s13.trans s14).trans s15
  walk_at "xs"
  refine ⟨dB b3, dB b3, dp_bls hp3', dp_bls (s1215 _ _ hpd2), sh2.1, sh2.1, ?_⟩
  rw [sh2.2]
  walk_at "xs"
  refine ⟨dInts row, dInts row, dp_ints (SqL.of ((s14.trans s15) _ _ hpg)), dp_ints (SqL.of ((s412.trans s1215) _ _ hq)), shaped_ints _, shaped_ints _, ?_⟩
  rw [eqv_ints, decide_eq_true rfl]
  exact k _

end Su
namespace Su
open PySem L2
structure Fx (K : PySem.W.Frag) (mg : Str → Option Value) : Prop where
  n_ValueError : mg "ValueError" = none
  n_abs : mg "abs" = none
  n_bool : mg "bool" = none
  n_enumerate : mg "enumerate" = none
  n_int : mg "int" = none
  n_isinstance : mg "isinstance" = none
  n_len : mg "len" = none
  n_list : mg "list" = none
  n_range : mg "range" = none
  n_sorted : mg "sorted" = none
  c_MOST : ∃ u, mg "MOST" = some u ∧ RelV (.int 8) u
  g_BadNumber : mg "BadNumber" = some (.ref (He.ga K "BadNumber"))
  k_BadNumber : ∃ u, mg "BadNumber" = some u ∧ RelV (.ref (He.ga K "BadNumber")) u
  g_SusuError : mg "SusuError" = some (.ref (He.ga K "SusuError"))
  k_SusuError : ∃ u, mg "SusuError" = some u ∧ RelV (.ref (He.ga K "SusuError")) u
  g_TooMany : mg "TooMany" = some (.ref (He.ga K "TooMany"))
  k_TooMany : ∃ u, mg "TooMany" = some u ∧ RelV (.ref (He.ga K "TooMany")) u
  x_BadNumber : Xc K mg "BadNumber"
  x_TooMany : Xc K mg "TooMany"
  g_law_draws : mg "_law_draws" = some (.ref (He.fAd K ("_law_draws", none)))
  F_law_draws : ∃ fd, FunD K "_law_draws" "_law_draws" (defArgs s_law_draws) (defBody s_law_draws) (defScope s_law_draws) [] [] (He.fAd K ("_law_draws", none)) fd
  g_law_keeps : mg "_law_keeps" = some (.ref (He.fAd K ("_law_keeps", none)))
  F_law_keeps : ∃ fd, FunD K "_law_keeps" "_law_keeps" (defArgs s_law_keeps) (defBody s_law_keeps) (defScope s_law_keeps) [] [] (He.fAd K ("_law_keeps", none)) fd
  g_law_row : mg "_law_row" = some (.ref (He.fAd K ("_law_row", none)))
  F_law_row : ∃ fd, FunD K "_law_row" "_law_row" (defArgs s_law_row) (defBody s_law_row) (defScope s_law_row) [] [] (He.fAd K ("_law_row", none)) fd
  g_bits : mg "bits" = some (.ref (He.fAd K ("bits", none)))
  F_bits : ∃ fd, FunD K "bits" "bits" (defArgs s_bits) (defBody s_bits) (defScope s_bits) [] [] (He.fAd K ("bits", none)) fd
  g_has_bit : mg "has_bit" = some (.ref (He.fAd K ("has_bit", none)))
  F_has_bit : ∃ fd, FunD K "has_bit" "has_bit" (defArgs s_has_bit) (defBody s_has_bit) (defScope s_has_bit) [] [] (He.fAd K ("has_bit", none)) fd
  g_with_bit : mg "with_bit" = some (.ref (He.fAd K ("with_bit", none)))
  F_with_bit : ∃ fd, FunD K "with_bit" "with_bit" (defArgs s_with_bit) (defBody s_with_bit) (defScope s_with_bit) [] [] (He.fAd K ("with_bit", none)) fd
  g_ways_on : mg "ways_on" = some (.ref (He.fAd K ("ways_on", none)))
  F_ways_on : ∃ fd, FunD K "ways_on" "ways_on" (defArgs s_ways_on) (defBody s_ways_on) (defScope s_ways_on) [] [] (He.fAd K ("ways_on", none)) fd
  g_count_orders : mg "count_orders" = some (.ref (He.fAd K ("count_orders", none)))
  F_count_orders : ∃ fd, FunD K "count_orders" "count_orders" (defArgs s_count_orders) (defBody s_count_orders) (defScope s_count_orders) [] [] (He.fAd K ("count_orders", none)) fd
  g_is_order : mg "is_order" = some (.ref (He.fAd K ("is_order", none)))
  F_is_order : ∃ fd, FunD K "is_order" "is_order" (defArgs s_is_order) (defBody s_is_order) (defScope s_is_order) [] [] (He.fAd K ("is_order", none)) fd
  g_number_of_order : mg "number_of_order" = some (.ref (He.fAd K ("number_of_order", none)))
  F_number_of_order : ∃ fd, FunD K "number_of_order" "number_of_order" (defArgs s_number_of_order) (defBody s_number_of_order) (defScope s_number_of_order) [] [] (He.fAd K ("number_of_order", none)) fd
  g_order_by_number : mg "order_by_number" = some (.ref (He.fAd K ("order_by_number", none)))
  F_order_by_number : ∃ fd, FunD K "order_by_number" "order_by_number" (defArgs s_order_by_number) (defBody s_order_by_number) (defScope s_order_by_number) [] [] (He.fAd K ("order_by_number", none)) fd
  g_law_tried : mg "_law_tried" = some (.ref (He.fAd K ("_law_tried", none)))
  F_law_tried : ∃ fd, FunD K "_law_tried" "_law_tried" (defArgs s_law_tried) (defBody s_law_tried) (defScope s_law_tried) [] [] (He.fAd K ("_law_tried", none)) fd
  g_law_whole : mg "_law_whole" = some (.ref (He.fAd K ("_law_whole", none)))
  F_law_whole : ∃ fd, FunD K "_law_whole" "_law_whole" (defArgs s_law_whole) (defBody s_law_whole) (defScope s_law_whole) [] [] (He.fAd K ("_law_whole", none)) fd
  g_law_wide : mg "_law_wide" = some (.ref (He.fAd K ("_law_wide", none)))
  F_law_wide : ∃ fd, FunD K "_law_wide" "_law_wide" (defArgs s_law_wide) (defBody s_law_wide) (defScope s_law_wide) [] [] (He.fAd K ("_law_wide", none)) fd
  g_law : mg "law" = some (.ref (He.fAd K ("law", none)))
  F_law : ∃ fd, FunD K "law" "law" (defArgs s_law) (defBody s_law) (defScope s_law) [] [] (He.fAd K ("law", none)) fd
section
variable {P : Program} {w : World} {K : PySem.W.Frag} {mg : Str → Option Value} {base : Heap}
theorem sc_law_draws : FnScope N_law_draws ["_law_script", "_law_many"] (defScope s_law_draws) := ⟨rfl, rfl, rfl, by decide +kernel, rfl, by decide +kernel, by decide +kernel⟩
theorem ok_law_draws (T : Fx K mg) : Cl P w K mg base CX0 1 "_law_draws" (sp_law_draws K) := by
  obtain ⟨fd, F⟩ := T.F_law_draws
  have sc := sc_law_draws
  refine ⟨_, fd, ["_law_script", "_law_many"], T.g_law_draws, F.kp, F.bindsN fun _ _ _ _ _ _ us hl => match us, hl with | [_, _], _ => rfl, ?_⟩
  refine F.ok sc (len_law_draws) (fun cdv A outer s H vs Q E hr h => ⟨t_law_draws K, PSs.nox ?_, pure_law_draws h⟩)
  exact (pss_cons (ps_set (i := 2) sc.nd rfl (Or.inl rfl) (pe_lst pa_nil))
 (pss_cons (ps_set (i := 3) sc.nd rfl (Or.inl rfl) pe_int)
 (pss_cons (ps_for PassesOwn.never rfl (pi_list (pv 0)) (pg_name (i := 4) sc.nd rfl (Or.inl rfl))
 (pss_cons (ps_set (i := 3) sc.nd rfl (Or.inl rfl) (pe_op op_mod (pe_op op_add (pe_op op_mul (pv 3) pe_int) (pv 4)) pe_int))
 (pss_cons (ps_set (i := 5) sc.nd rfl (Or.inl rfl) (pe_callB call_abs (by rfl) T.n_abs b_abs (pa_cons (pv 4) pa_nil)))
 (C8.pss_cut (ps_if (pt_cmpR op_lt (pv 5) (pe_op op_pow pe_int pe_int) (nomark _))
 (pss_cons (ps_expr (pe_bm PySem.F.plainAttrs_list PySem.F.slot_list_append PySem.F.type_list_append mt_append (pv 2) (pa_cons (pv 4) pa_nil)))
 (pss_one (ps_set (i := 5) sc.nd rfl (Or.inl rfl) pe_int)))
 pss_nil)
 (pss_one (ps_while PassesOwn.never (PW.pt (pw_and (pt_cmpR op_gt (pv 5) pe_int (nomark _)) (pw_and1 (pt_cmpR op_lt (pe_callB call_len_seq (by rfl) T.n_len b_len (pa_cons (pv 2) pa_nil)) (pv 1) (nomark _)))))
 (pss_cons (ps_expr (pe_bm PySem.F.plainAttrs_list PySem.F.slot_list_append PySem.F.type_list_append mt_append (pv 2) (pa_cons (pe_op op_mod (pv 5) pe_int) pa_nil)))
 (pss_one (ps_set (i := 5) sc.nd rfl (Or.inl rfl) (pe_op op_fdiv (pv 5) pe_int))))))))))
 (pss_cons (ps_while PassesOwn.never (pt_cmpR op_lt (pe_callB call_len_seq (by rfl) T.n_len b_len (pa_cons (pv 2) pa_nil)) (pv 1) (nomark _))
 (pss_cons (ps_set (i := 3) sc.nd rfl (Or.inl rfl) (pe_op op_mod (pe_op op_add (pe_op op_mul (pv 3) pe_int) pe_int) pe_int))
 (pss_one (ps_expr (pe_bm PySem.F.plainAttrs_list PySem.F.slot_list_append PySem.F.type_list_append mt_append (pv 2) (pa_cons (pe_op op_mod (pe_op op_mul (pv 3) (pv 3)) pe_int) pa_nil))))))
 (pss_one (ps_ret (pv 2)))))))
theorem sc_law_keeps : FnScope N_law_keeps ["_law_windows", "_law_row_here"] (defScope s_law_keeps) := ⟨rfl, rfl, rfl, by decide +kernel, rfl, by decide +kernel, by decide +kernel⟩
theorem ok_law_keeps (T : Fx K mg) : Cl P w K mg base CX0 1 "_law_keeps" (sp_law_keeps K) := by
  obtain ⟨fd, F⟩ := T.F_law_keeps
  have sc := sc_law_keeps
  refine ⟨_, fd, ["_law_windows", "_law_row_here"], T.g_law_keeps, F.kp, F.bindsN fun _ _ _ _ _ _ us hl => match us, hl with | [_, _], _ => rfl, ?_⟩
  refine F.ok sc (len_law_keeps) (fun cdv A outer s H vs Q E hr h => ⟨t_law_keeps K, PSs.nox ?_, pure_law_keeps h⟩)
  exact (pss_cons (ps_if (PW.pt (pw_or (pt_cmpR op_ne (pe_callB call_len_seq (by rfl) T.n_len b_len (pa_cons (pv 1) pa_nil)) (pe_callB call_len_seq (by rfl) T.n_len b_len (pa_cons (pv 0) pa_nil)) (nomark _)) (pw_or1 (pt_cmpR (op_neD hr.units) (pe_callB cr_sortedI (by rfl) T.n_sorted b_sorted (pa_cons (pv 1) pa_nil)) (pe_listRg rfl (by rfl) T.n_list (prg_1 (by rfl) T.n_range (pe_callB call_len_seq (by rfl) T.n_len b_len (pa_cons (pv 0) pa_nil)))) (nomark _)))))
 (pss_one (ps_ret pe_bl))
 pss_nil)
 (pss_cons (ps_for PassesOwn.never rfl (pi_enum (by rfl) T.n_enumerate (pa_cons (pv 1) pa_nil)) (pg_tup rfl (pgs_cons (pg_name (i := 2) sc.nd rfl (Or.inl rfl)) (pgs_cons (pg_name (i := 3) sc.nd rfl (Or.inl rfl)) pgs_nil)))
 (pss_one (ps_if (pt_not (pt_chain op_le op_le (pe_ix ix_tup (pe_ix ix_list (pv 0) (pv 3) (fun _ _ => rfl)) pe_int (fun _ _ => rfl)) (pe_op op_add (pv 2) pe_int) (pe_ix ix_tup (pe_ix ix_list (pv 0) (pv 3) (fun _ _ => rfl)) pe_int (fun _ _ => rfl))))
 (pss_one (ps_ret pe_bl))
 pss_nil)))
 (pss_one (ps_ret pe_bl))))
theorem sc_law_row : FnScope N_law_row ["_law_size", "_law_way", "_law_at", "_law_other"] (defScope s_law_row) := ⟨rfl, rfl, rfl, by decide +kernel, rfl, by decide +kernel, by decide +kernel⟩
theorem ok_law_row (T : Fx K mg) : Cl P w K mg base CX0 1 "_law_row" (sp_law_row K) := by
  obtain ⟨fd, F⟩ := T.F_law_row
  have sc := sc_law_row
  refine ⟨_, fd, ["_law_size", "_law_way", "_law_at", "_law_other"], T.g_law_row, F.kp, F.bindsN fun _ _ _ _ _ _ us hl => match us, hl with | [_, _, _, _], _ => rfl, ?_⟩
  refine F.ok sc (len_law_row) (fun cdv A outer s H vs Q E hr h => ⟨t_law_row K, PSs.nox ?_, pure_law_row h⟩)
  exact (pss_cons (ps_set (i := 4) sc.nd rfl (Or.inl rfl) (pe_listRg rfl (by rfl) T.n_list (prg_1 (by rfl) T.n_range (pv 0))))
 (C8.pss_cut (ps_if (PW.pt (pw_and (pt_cmpR op_gt (pv 0) pe_int (nomark _)) (pw_and1 (pt_cmpR op_eq (pv 1) pe_int (nomark _)))))
 (pss_one (ps_asg (pe_ix ix_list (pe_lst (pa_cons (pe_un un_neg pe_int) (pa_cons (pv 0) (pa_cons (pe_op op_add (pv 0) pe_int) pa_nil)))) (pe_op op_mod (pv 3) pe_int) (fun _ _ => rfl)) (pg_sub (pv 4) (pe_op op_mod (pv 2) (pv 0)) set_list)))
 pss_nil)
 (C8.pss_cut (ps_if (PW.pt (pw_and (pt_cmpR op_gt (pv 0) pe_int (nomark _)) (pw_and1 (pt_cmpR op_eq (pv 1) pe_int (nomark _)))))
 (pss_one (ps_asg (pe_op op_mod (pv 3) (pv 0)) (pg_sub (pv 4) (pe_op op_mod (pv 2) (pv 0)) set_list)))
 pss_nil)
 (C8.pss_cut (ps_if (PW.pt (pw_and (pt_cmpR op_gt (pv 0) pe_int (nomark _)) (pw_and1 (pt_cmpR op_eq (pv 1) pe_int (nomark _)))))
 (pss_one (ps_set (i := 4) sc.nd rfl (Or.inl rfl) (pe_op op_cat (pe_slice sl_list (pv 4) po_none (po_some (pe_op op_mod (pv 2) (pv 0)))) (pe_slice sl_list (pv 4) (po_some (pe_op op_add (pe_op op_mod (pv 2) (pv 0)) pe_int)) po_none))))
 pss_nil)
 (C8.pss_cut (ps_if (pt_cmpR op_eq (pv 1) pe_int (nomark _))
 (pss_one (ps_expr (pe_bm PySem.F.plainAttrs_list PySem.F.slot_list_append PySem.F.type_list_append mt_append (pv 4) (pa_cons (pe_op op_mod (pv 3) (pe_op op_add (pv 0) pe_int)) pa_nil))))
 pss_nil)
 (C8.pss_cut (ps_if (PW.pt (pw_and (pt_cmpR op_gt (pv 0) pe_int (nomark _)) (pw_and1 (pt_cmpR op_eq (pv 1) pe_int (nomark _)))))
 (pss_cons (ps_asg (pe_op op_mod (pv 3) (pv 0)) (pg_sub (pv 4) (pe_op op_mod (pv 2) (pv 0)) set_list))
 (pss_one (ps_asg (pe_op op_mod (pv 2) (pv 0)) (pg_sub (pv 4) (pe_op op_mod (pv 3) (pv 0)) set_list))))
 pss_nil)
 (pss_one (ps_ret (pv 4)))))))))
theorem sc_bits : FnScope N_bits ["mask"] (defScope s_bits) := ⟨rfl, rfl, rfl, by decide +kernel, rfl, by decide +kernel, by decide +kernel⟩
theorem ok_bits (T : Fx K mg) : Cl P w K mg base CX0 1 "bits" (sp_bits K) := by
  obtain ⟨fd, F⟩ := T.F_bits
  have sc := sc_bits
  refine ⟨_, fd, ["mask"], T.g_bits, F.kp, F.bindsN fun _ _ _ _ _ _ us hl => match us, hl with | [_], _ => rfl, ?_⟩
  refine F.ok sc (len_bits) (fun cdv A outer s H vs Q E hr h => ⟨t_bits K, PSs.nox ?_, pure_bits h⟩)
  exact (pss_cons (ps_set (i := 1) sc.nd rfl (Or.inl rfl) pe_int)
 (pss_cons (ps_while PassesOwn.never (pt_cmpR op_gt (pv 0) pe_int (nomark _))
 (pss_cons (ps_aug (i := 1) sc.nd rfl (Or.inl rfl) (pe_op op_mod (pv 0) pe_int) ip_add)
 (pss_one (ps_set (i := 0) sc.nd rfl (Or.inl rfl) (pe_op op_fdiv (pv 0) pe_int)))))
 (pss_one (ps_ret (pv 1)))))
theorem sc_has_bit : FnScope N_has_bit ["mask", "at"] (defScope s_has_bit) := ⟨rfl, rfl, rfl, by decide +kernel, rfl, by decide +kernel, by decide +kernel⟩
theorem ok_has_bit (T : Fx K mg) : Cl P w K mg base CX0 1 "has_bit" (sp_has_bit K) := by
  obtain ⟨fd, F⟩ := T.F_has_bit
  have sc := sc_has_bit
  refine ⟨_, fd, ["mask", "at"], T.g_has_bit, F.kp, F.bindsN fun _ _ _ _ _ _ us hl => match us, hl with | [_, _], _ => rfl, ?_⟩
  refine F.ok sc (len_has_bit) (fun cdv A outer s H vs Q E hr h => ⟨t_has_bit K, PSs.nox ?_, pure_has_bit h⟩)
  exact (pss_one (ps_ret (pe_cmpR op_eq (pe_op op_mod (pe_op op_shr (pv 0) (pv 1)) pe_int) pe_int (nomark _))))
theorem sc_with_bit : FnScope N_with_bit ["mask", "at"] (defScope s_with_bit) := ⟨rfl, rfl, rfl, by decide +kernel, rfl, by decide +kernel, by decide +kernel⟩
theorem ok_with_bit (T : Fx K mg) : Cl P w K mg base CX0 1 "with_bit" (sp_with_bit K) := by
  obtain ⟨fd, F⟩ := T.F_with_bit
  have sc := sc_with_bit
  refine ⟨_, fd, ["mask", "at"], T.g_with_bit, F.kp, F.bindsN fun _ _ _ _ _ _ us hl => match us, hl with | [_, _], _ => rfl, ?_⟩
  refine F.ok sc (len_with_bit) (fun cdv A outer s H vs Q E hr h => ⟨t_with_bit K, PSs.nox ?_, pure_with_bit h⟩)
  exact (pss_one (ps_ret (pe_op op_add (pv 0) (pe_op op_shl pe_int (pv 1)))))
theorem sc_ways_on : FnScope N_ways_on ["windows"] (defScope s_ways_on) := ⟨rfl, rfl, rfl, by decide +kernel, rfl, by decide +kernel, by decide +kernel⟩
theorem ok_ways_on (T : Fx K mg) : Cl P w K mg base CX0 2 "ways_on" (sp_ways_on K) := by
  obtain ⟨fd, F⟩ := T.F_ways_on
  have sc := sc_ways_on
  refine ⟨_, fd, ["windows"], T.g_ways_on, F.kp, F.bindsN fun _ _ _ _ _ _ us hl => match us, hl with | [_], _ => rfl, ?_⟩
  refine F.ok sc (len_ways_on) (fun cdv A outer s H vs Q E hr h => ⟨t_ways_on K, PSs.nox ?_, pure_ways_on h⟩)
  exact (pss_cons (ps_set (i := 1) sc.nd rfl (Or.inl rfl) (pe_callB call_len_seq (by rfl) T.n_len b_len (pa_cons (pv 0) pa_nil)))
 (pss_cons (ps_set (i := 2) sc.nd rfl (Or.inl rfl) pe_int)
 (pss_cons (ps_for PassesOwn.never rfl (pi_range1 (by rfl) T.n_range (pa_cons (pv 1) pa_nil)) (pg_name (i := 3) sc.nd rfl (Or.inl rfl))
 (pss_one (ps_set (i := 2) sc.nd rfl (Or.inl rfl) (pe_op op_mul (pv 2) pe_int))))
 (pss_cons (ps_set (i := 4) sc.nd rfl (Or.inl rfl) (pe_op op_rep (pe_lst (pa_cons pe_int pa_nil)) (pv 2)))
 (pss_cons (ps_asg pe_int (pg_sub (pv 4) (pe_op op_sub (pv 2) pe_int) set_list))
 (pss_cons (ps_for PassesOwn.never rfl (pi_range2 (by rfl) T.n_range (pa_cons pe_int (pa_cons (pe_op op_add (pv 2) pe_int) pa_nil))) (pg_name (i := 5) sc.nd rfl (Or.inl rfl))
 (pss_cons (ps_set (i := 6) sc.nd rfl (Or.inl rfl) (pe_op op_sub (pv 2) (pv 5)))
 (pss_cons (ps_set (i := 7) sc.nd rfl (Or.inl rfl) (pe_op op_add (pe_cl (ok_bits T) hr (by decide) (by rfl) pass0 (pa_cons (pv 6) pa_nil)) pe_int))
 (pss_cons (ps_set (i := 8) sc.nd rfl (Or.inl rfl) pe_int)
 (pss_cons (ps_for PassesOwn.never rfl (pi_enum (by rfl) T.n_enumerate (pa_cons (pv 0) pa_nil)) (pg_tup rfl (pgs_cons (pg_name (i := 9) sc.nd rfl (Or.inl rfl)) (pgs_cons (pg_tup rfl (pgs_cons (pg_name (i := 10) sc.nd rfl (Or.inl rfl)) (pgs_cons (pg_name (i := 11) sc.nd rfl (Or.inl rfl)) pgs_nil))) pgs_nil)))
 (pss_one (ps_if (PW.pt (pw_and (pt_not (pt_val (pe_cl (ok_has_bit T) hr (by decide) (by rfl) pass0 (pa_cons (pv 6) (pa_cons (pv 9) pa_nil))))) (pw_and1 (pt_chain op_le op_le (pv 10) (pv 7) (pv 11)))))
 (pss_one (ps_aug (i := 8) sc.nd rfl (Or.inl rfl) (pe_ix ix_list (pv 4) (pe_cl (ok_with_bit T) hr (by decide) (by rfl) pass0 (pa_cons (pv 6) (pa_cons (pv 9) pa_nil))) (fun _ _ => rfl)) ip_add))
 pss_nil)))
 (pss_one (ps_asg (pv 8) (pg_sub (pv 4) (pv 6) set_list))))))))
 (pss_one (ps_ret (pv 4)))))))))
theorem sc_count_orders : FnScope N_count_orders ["windows"] (defScope s_count_orders) := ⟨rfl, rfl, rfl, by decide +kernel, rfl, by decide +kernel, by decide +kernel⟩
theorem ok_count_orders (T : Fx K mg) : Cl P w K mg base (L2.CX P w) 3 "count_orders" (sp_count_orders K) := by
  obtain ⟨fd, F⟩ := T.F_count_orders
  have sc := sc_count_orders
  refine ⟨_, fd, ["windows"], T.g_count_orders, F.kp, F.bindsN fun _ _ _ _ _ _ us hl => match us, hl with | [_], _ => rfl, ?_⟩
  refine F.ok sc (len_count_orders) (fun cdv A outer s H vs Q E hr h => ⟨t_count_orders K E, ?_, pure_count_orders h⟩)
  exact (pss_cons (ps_if (pt_cmpR op_gt (pe_callB call_len_seq (by rfl) T.n_len b_len (pa_cons (pv 0) pa_nil)) (pe_gc (by rfl) T.c_MOST) (nomark _))
 (pss_one (ps_raise0 rfl (takes_of rfl rfl rfl rfl) T.x_TooMany (by rfl)))
 pss_nil)
 (pss_one (ps_ret (pe_ix ix_list (pe_cl (ok_ways_on T) hr (by decide) (by rfl) pass0 (pa_cons (pv 0) pa_nil)) pe_int (fun _ _ => rfl)))))
theorem sc_is_order : FnScope N_is_order ["windows", "row"] (defScope s_is_order) := ⟨rfl, rfl, rfl, by decide +kernel, rfl, by decide +kernel, by decide +kernel⟩
theorem ok_is_order (T : Fx K mg) : Cl P w K mg base CX0 1 "is_order" (sp_is_order K) := by
  obtain ⟨fd, F⟩ := T.F_is_order
  have sc := sc_is_order
  refine ⟨_, fd, ["windows", "row"], T.g_is_order, F.kp, F.bindsN fun _ _ _ _ _ _ us hl => match us, hl with | [_, _], _ => rfl, ?_⟩
  refine F.ok sc (len_is_order) (fun cdv A outer s H vs Q E hr h => ⟨t_is_order K, PSs.nox ?_, pure_is_order h⟩)
  exact (pss_cons (ps_if (pt_cmpR op_ne (pe_callB call_len_seq (by rfl) T.n_len b_len (pa_cons (pv 1) pa_nil)) (pe_callB call_len_seq (by rfl) T.n_len b_len (pa_cons (pv 0) pa_nil)) (nomark _))
 (pss_one (ps_ret pe_bl))
 pss_nil)
 (pss_cons (ps_set (i := 2) sc.nd rfl (Or.inl rfl) (pe_lst pa_nil))
 (pss_cons (ps_for PassesOwn.never rfl (pi_enum1 (by rfl) T.n_enumerate (pv 1)) (pg_tup rfl (pgs_cons (pg_name (i := 3) sc.nd rfl (Or.inl rfl)) (pgs_cons (pg_name (i := 4) sc.nd rfl (Or.inl rfl)) pgs_nil)))
 (pss_cons (ps_if (PW.pt (pw_or (pt_not (pt_chain op_le op_lt pe_int (pv 4) (pe_callB call_len_seq (by rfl) T.n_len b_len (pa_cons (pv 0) pa_nil)))) (pw_or1 (pt_cmpR op_in_seq (pv 4) (pv 2) rfl))))
 (pss_one (ps_ret pe_bl))
 pss_nil)
 (pss_cons (ps_if (pt_not (pt_chain op_le op_le (pe_ix ix_tup (pe_ix ix_list (pv 0) (pv 4) (fun _ _ => rfl)) pe_int (fun _ _ => rfl)) (pv 3) (pe_ix ix_tup (pe_ix ix_list (pv 0) (pv 4) (fun _ _ => rfl)) pe_int (fun _ _ => rfl))))
 (pss_one (ps_ret pe_bl))
 pss_nil)
 (pss_one (ps_expr (pe_bm PySem.F.plainAttrs_list PySem.F.slot_list_append PySem.F.type_list_append mt_append (pv 2) (pa_cons (pv 4) pa_nil)))))))
 (pss_one (ps_ret pe_bl)))))
theorem sc_number_of_order : FnScope N_number_of_order ["windows", "row"] (defScope s_number_of_order) := ⟨rfl, rfl, rfl, by decide +kernel, rfl, by decide +kernel, by decide +kernel⟩
theorem ok_number_of_order (T : Fx K mg) : Cl P w K mg base (L2.CX P w) 3 "number_of_order" (sp_number_of_order K) := by
  obtain ⟨fd, F⟩ := T.F_number_of_order
  have sc := sc_number_of_order
  refine ⟨_, fd, ["windows", "row"], T.g_number_of_order, F.kp, F.bindsN fun _ _ _ _ _ _ us hl => match us, hl with | [_, _], _ => rfl, ?_⟩
  refine F.ok sc (len_number_of_order) (fun cdv A outer s H vs Q E hr h => ⟨t_number_of_order K E, ?_, pure_number_of_order h⟩)
  exact (pss_cons (ps_if (pt_cmpR op_gt (pe_callB call_len_seq (by rfl) T.n_len b_len (pa_cons (pv 0) pa_nil)) (pe_gc (by rfl) T.c_MOST) (nomark _))
 (pss_one (ps_raise0 rfl (takes_of rfl rfl rfl rfl) T.x_TooMany (by rfl)))
 pss_nil)
 (pss_cons (ps_if (pt_not (pt_val (pe_cl (ok_is_order T) hr (by decide) (by rfl) pass0 (pa_cons (pv 0) (pa_cons (pv 1) pa_nil)))))
 (pss_one (ps_raise0 rfl (takes_of rfl rfl rfl rfl) T.x_BadNumber (by rfl)))
 pss_nil)
 (pss_cons (ps_set (i := 2) sc.nd rfl (Or.inl rfl) (pe_cl (ok_ways_on T) hr (by decide) (by rfl) pass0 (pa_cons (pv 0) pa_nil)))
 (pss_cons (ps_set (i := 3) sc.nd rfl (Or.inl rfl) pe_int)
 (pss_cons (ps_set (i := 4) sc.nd rfl (Or.inl rfl) pe_int)
 (pss_cons (ps_for (passes_of rfl) rfl (pi_enum1 (by rfl) T.n_enumerate (pv 1)) (pg_tup rfl (pgs_cons (pg_name (i := 5) sc.nd rfl (Or.inl rfl)) (pgs_cons (pg_name (i := 6) sc.nd rfl (Or.inl rfl)) pgs_nil)))
 (pss_cons (ps_for (passes_of rfl) rfl (pi_range1 (by rfl) T.n_range (pa_cons (pv 6) pa_nil)) (pg_name (i := 7) sc.nd rfl (Or.inl rfl))
 (pss_one (ps_if (PW.pt (pw_and (pt_not (pt_val (pe_cl (ok_has_bit T) hr (by decide) (by rfl) pass0 (pa_cons (pv 4) (pa_cons (pv 7) pa_nil))))) (pw_and1 (pt_chain op_le op_le (pe_ix ix_tup (pe_ix ix_list (pv 0) (pv 7) (fun _ _ => rfl)) pe_int (fun _ _ => rfl)) (pv 5) (pe_ix ix_tup (pe_ix ix_list (pv 0) (pv 7) (fun _ _ => rfl)) pe_int (fun _ _ => rfl))))))
 (pss_one (ps_aug (i := 3) sc.nd rfl (Or.inl rfl) (pe_ix ix_list (pv 2) (pe_cl (ok_with_bit T) hr (by decide) (by rfl) pass0 (pa_cons (pv 4) (pa_cons (pv 7) pa_nil))) (fun _ _ => rfl)) ip_add))
 pss_nil)))
 (pss_one (ps_set (i := 4) sc.nd rfl (Or.inl rfl) (pe_cl (ok_with_bit T) hr (by decide) (by rfl) pass0 (pa_cons (pv 4) (pa_cons (pv 6) pa_nil)))))))
 (pss_one (ps_ret (pv 3)))))))))
theorem sc_order_by_number : FnScope N_order_by_number ["windows", "number"] (defScope s_order_by_number) := ⟨rfl, rfl, rfl, by decide +kernel, rfl, by decide +kernel, by decide +kernel⟩
theorem ok_order_by_number (T : Fx K mg) : Cl P w K mg base (L2.CX P w) 3 "order_by_number" (sp_order_by_number K) := by
  obtain ⟨fd, F⟩ := T.F_order_by_number
  have sc := sc_order_by_number
  refine ⟨_, fd, ["windows", "number"], T.g_order_by_number, F.kp, F.bindsN fun _ _ _ _ _ _ us hl => match us, hl with | [_, _], _ => rfl, ?_⟩
  refine F.ok sc (len_order_by_number) (fun cdv A outer s H vs Q E hr h => ⟨t_order_by_number K E, ?_, pure_order_by_number h⟩)
  exact (pss_cons (ps_if (pt_cmpR op_gt (pe_callB call_len_seq (by rfl) T.n_len b_len (pa_cons (pv 0) pa_nil)) (pe_gc (by rfl) T.c_MOST) (nomark _))
 (pss_one (ps_raise0 rfl (takes_of rfl rfl rfl rfl) T.x_TooMany (by rfl)))
 pss_nil)
 (pss_cons (ps_set (i := 2) sc.nd rfl (Or.inl rfl) (pe_cl (ok_ways_on T) hr (by decide) (by rfl) pass0 (pa_cons (pv 0) pa_nil)))
 (pss_cons (ps_if (pt_not (pt_chain op_le op_lt pe_int (pv 1) (pe_ix ix_list (pv 2) pe_int (fun _ _ => rfl))))
 (pss_one (ps_raise0 rfl (takes_of rfl rfl rfl rfl) T.x_BadNumber (by rfl)))
 pss_nil)
 (pss_cons (ps_set (i := 3) sc.nd rfl (Or.inl rfl) (pe_lst pa_nil))
 (pss_cons (ps_set (i := 4) sc.nd rfl (Or.inl rfl) pe_int)
 (pss_cons (ps_for (passes_of rfl) rfl (pi_range2 (by rfl) T.n_range (pa_cons pe_int (pa_cons (pe_op op_add (pe_callB call_len_seq (by rfl) T.n_len b_len (pa_cons (pv 0) pa_nil)) pe_int) pa_nil))) (pg_name (i := 5) sc.nd rfl (Or.inl rfl))
 (pss_cons (ps_set (i := 6) sc.nd rfl (Or.inl rfl) (pe_un un_neg pe_int))
 (pss_cons (ps_for (passes_of rfl) rfl (pi_enum (by rfl) T.n_enumerate (pa_cons (pv 0) pa_nil)) (pg_tup rfl (pgs_cons (pg_name (i := 7) sc.nd rfl (Or.inl rfl)) (pgs_cons (pg_tup rfl (pgs_cons (pg_name (i := 8) sc.nd rfl (Or.inl rfl)) (pgs_cons (pg_name (i := 9) sc.nd rfl (Or.inl rfl)) pgs_nil))) pgs_nil)))
 (pss_one (ps_if (PW.pt (pw_and (pt_cmpR op_eq (pv 6) (pe_un un_neg pe_int) (nomark _)) (pw_and (pt_not (pt_val (pe_cl (ok_has_bit T) hr (by decide) (by rfl) pass0 (pa_cons (pv 4) (pa_cons (pv 7) pa_nil))))) (pw_and1 (pt_chain op_le op_le (pv 8) (pv 5) (pv 9))))))
 (pss_one (ps_if (pt_cmpR op_lt (pv 1) (pe_ix ix_list (pv 2) (pe_cl (ok_with_bit T) hr (by decide) (by rfl) pass0 (pa_cons (pv 4) (pa_cons (pv 7) pa_nil))) (fun _ _ => rfl)) (nomark _))
 (pss_one (ps_set (i := 6) sc.nd rfl (Or.inl rfl) (pv 7)))
 (pss_one (ps_aug (i := 1) sc.nd rfl (Or.inl rfl) (pe_ix ix_list (pv 2) (pe_cl (ok_with_bit T) hr (by decide) (by rfl) pass0 (pa_cons (pv 4) (pa_cons (pv 7) pa_nil))) (fun _ _ => rfl)) ip_sub))))
 pss_nil)))
 (pss_cons (ps_expr (pe_bm PySem.F.plainAttrs_list PySem.F.slot_list_append PySem.F.type_list_append mt_append (pv 3) (pa_cons (pv 6) pa_nil)))
 (pss_one (ps_set (i := 4) sc.nd rfl (Or.inl rfl) (pe_cl (ok_with_bit T) hr (by decide) (by rfl) pass0 (pa_cons (pv 4) (pa_cons (pv 6) pa_nil)))))))))
 (pss_one (ps_ret (pv 3)))))))))
theorem sc_law_tried : FnScope N_law_tried ["_law_which", "_law_windows", "_law_number", "_law_row_here"] (defScope s_law_tried) := ⟨rfl, rfl, rfl, by decide +kernel, rfl, by decide +kernel, by decide +kernel⟩
theorem ok_law_tried (T : Fx K mg) : Cl P w K mg base CX0 4 "_law_tried" (sp_law_tried K) := by
  obtain ⟨fd, F⟩ := T.F_law_tried
  have sc := sc_law_tried
  refine ⟨_, fd, ["_law_which", "_law_windows", "_law_number", "_law_row_here"], T.g_law_tried, F.kp, F.bindsN fun _ _ _ _ _ _ us hl => match us, hl with | [_, _, _, _], _ => rfl, ?_⟩
  refine F.ok sc (len_law_tried) (fun cdv A outer s H vs Q E hr h => ⟨t_law_tried K, PSs.nox ?_, pure_law_tried h⟩)
  exact (pss_cons (ps_set (i := 4) sc.nd rfl (Or.inl rfl) (pe_lst pa_nil))
 (C8.pss_cut (ps_try_as (i := 5) (tb := fun W => (tIfS (tTest (tOp rEq (tVar 0) (tC (.int 0))))
 (tDrop (tCallS (sp_count_orders K) (WE W) (tCons (tVar 1) tNil)))
 (tIfS (tTest (tOp rEq (tVar 0) (tC (.int 1))))
 (tDrop (tCallS (sp_order_by_number K) (WE W) (tCons (tVar 1) (tCons (tVar 2) tNil))))
 (tDrop (tCallS (sp_number_of_order K) (WE W) (tCons (tVar 1) (tCons (tVar 3) tNil))))))) (ts := fun a cls d => (tAsg (tLst (tCons (tCB (rIsX K a cls d) (tCons (tVar 5) (tCons (tC (.ref (He.ga K "TooMany"))) tNil))) (tCons (tCB (rIsX K a cls d) (tCons (tVar 5) (tCons (tC (.ref (He.ga K "BadNumber"))) tNil))) (tCons (tCB (rIsX K a cls d) (tCons (tVar 5) (tCons (tC (.ty "ValueError")) tNil))) tNil)))) (gName 4))) (Wout := (fun _ _ _ _ => False)) rfl rfl sc.nd rfl rfl ⟨rfl, by decide, Or.inl T.g_SusuError⟩ takes0
 (fun W pn xe tk po => (pss_one (ps_if (pt_cmpR op_eq (pv 0) pe_int (nomark _))
 (pss_one (ps_expr (pe_clS (ok_count_orders T) hr (by decide) (by rfl) (fun σ => passAt tk σ) (pa_cons (pv 1) pa_nil))))
 (pss_one (ps_if (pt_cmpR op_eq (pv 0) pe_int (nomark _))
 (pss_one (ps_expr (pe_clS (ok_order_by_number T) hr (by decide) (by rfl) (fun σ => passAt tk σ) (pa_cons (pv 1) (pa_cons (pv 2) pa_nil)))))
 (pss_one (ps_expr (pe_clS (ok_number_of_order T) hr (by decide) (by rfl) (fun σ => passAt tk σ) (pa_cons (pv 1) (pa_cons (pv 3) pa_nil))))))))))
 (fun a oe cls d pn hz hf => (pss_one (ps_set (i := 4) sc.nd rfl (Or.inl rfl) (pe_lst (pa_cons (pe_callB (call_isX hz hf) (by rfl) T.n_isinstance b_isinstance (pa_cons (pv 5) (pa_cons (pe_gc (by rfl) T.k_TooMany) pa_nil))) (pa_cons (pe_callB (call_isX hz hf) (by rfl) T.n_isinstance b_isinstance (pa_cons (pv 5) (pa_cons (pe_gc (by rfl) T.k_BadNumber) pa_nil))) (pa_cons (pe_callB (call_isX hz hf) (by rfl) T.n_isinstance b_isinstance (pa_cons (pv 5) (pa_cons (pe_bltn (v := .ty "ValueError") (by rfl) T.n_ValueError b_ValueError rfl) pa_nil))) pa_nil))))))))
 (pss_one (ps_ret (pv 4)))))
theorem sc_law_whole : FnScope N_law_whole ["_law_told"] (defScope s_law_whole) := ⟨rfl, rfl, rfl, by decide +kernel, rfl, by decide +kernel, by decide +kernel⟩
theorem ok_law_whole (T : Fx K mg) : Cl P w K mg base CX0 1 "_law_whole" (sp_law_whole K) := by
  obtain ⟨fd, F⟩ := T.F_law_whole
  have sc := sc_law_whole
  refine ⟨_, fd, ["_law_told"], T.g_law_whole, F.kp, F.bindsN fun _ _ _ _ _ _ us hl => match us, hl with | [_], _ => rfl, ?_⟩
  refine F.ok sc (len_law_whole) (fun cdv A outer s H vs Q E hr h => ⟨t_law_whole K, PSs.nox ?_, pure_law_whole h⟩)
  exact (pss_one (ps_ret (pe_and (pe_callB call_isi (by rfl) T.n_isinstance b_isinstance (pa_cons (pv 0) (pa_cons (pe_bltn (v := .ty "int") (by rfl) T.n_int b_int rfl) pa_nil))) (pe_one (pe_not (pe_callB call_isi (by rfl) T.n_isinstance b_isinstance (pa_cons (pv 0) (pa_cons (pe_bltn (v := .ty "bool") (by rfl) T.n_bool b_bool rfl) pa_nil))))))))
theorem sc_law_wide : FnScope N_law_wide ["_law_some", "_law_size"] (defScope s_law_wide) := ⟨rfl, rfl, rfl, by decide +kernel, rfl, by decide +kernel, by decide +kernel⟩
theorem ok_law_wide (T : Fx K mg) : Cl P w K mg base CX0 1 "_law_wide" (sp_law_wide K) := by
  obtain ⟨fd, F⟩ := T.F_law_wide
  have sc := sc_law_wide
  refine ⟨_, fd, ["_law_some", "_law_size"], T.g_law_wide, F.kp, F.bindsN fun _ _ _ _ _ _ us hl => match us, hl with | [_, _], _ => rfl, ?_⟩
  refine F.ok sc (len_law_wide) (fun cdv A outer s H vs Q E hr h => ⟨t_law_wide K, PSs.nox ?_, pure_law_wide h⟩)
  exact (pss_cons (ps_set (i := 2) sc.nd rfl (Or.inl rfl) (pe_lst pa_nil))
 (pss_cons (ps_for PassesOwn.never rfl (pi_range1 (by rfl) T.n_range (pa_cons (pv 1) pa_nil)) (pg_name (i := 3) sc.nd rfl (Or.inl rfl))
 (pss_cons (ps_set (i := 4) sc.nd rfl (Or.inl rfl) (pe_op op_add pe_int (pe_op op_mul (pe_op op_mod (pe_ix ix_list (pv 0) (pe_op op_mul pe_int (pv 3)) (fun _ _ => rfl)) (pv 1)) (pe_op op_mod (pe_op op_fdiv (pe_ix ix_list (pv 0) (pe_op op_mul pe_int (pv 3)) (fun _ _ => rfl)) pe_int) pe_int))))
 (pss_cons (ps_set (i := 5) sc.nd rfl (Or.inl rfl) (pe_op op_sub (pv 1) (pe_op op_mul (pe_op op_mod (pe_ix ix_list (pv 0) (pe_op op_add (pe_op op_mul pe_int (pv 3)) pe_int) (fun _ _ => rfl)) (pv 1)) (pe_op op_mod (pe_op op_fdiv (pe_ix ix_list (pv 0) (pe_op op_add (pe_op op_mul pe_int (pv 3)) pe_int) (fun _ _ => rfl)) pe_int) pe_int))))
 (pss_one (ps_expr (pe_bm PySem.F.plainAttrs_list PySem.F.slot_list_append PySem.F.type_list_append mt_append (pv 2) (pa_cons (pe_tup (pa_cons (pv 4) (pa_cons (pv 5) pa_nil))) pa_nil)))))))
 (pss_one (ps_ret (pv 2)))))
theorem sc_law : FnScope N_law ["_law_script"] (defScope s_law) := ⟨rfl, rfl, rfl, by decide +kernel, rfl, by decide +kernel, by decide +kernel⟩
theorem ok_law_at {fd : FuncData} (T : Fx K mg) (F : FunD K "law" "law" (defArgs s_law) (defBody s_law) (defScope s_law) [] [] (He.fAd K ("law", none)) fd) : FnOk P w K mg base CX0 5 (He.fAd K ("law", none)) fd ["_law_script"] (sp_law K) := by
  have sc := sc_law
  refine F.ok sc (len_law) (fun cdv A outer s H vs Q E hr h => ⟨t_law K, PSs.nox ?_, pure_law h⟩)
  exact (pss_cons (ps_set (i := 1) sc.nd rfl (Or.inl rfl) (pe_cl (ok_law_draws T) hr (by decide) (by rfl) pass0 (pa_cons (pv 0) (pa_cons pe_int pa_nil))))
 (pss_cons (ps_set (i := 2) sc.nd rfl (Or.inl rfl) (pe_op op_mod (pe_ix ix_list (pv 1) pe_int (fun _ _ => rfl)) pe_int))
 (pss_cons (ps_set (i := 3) sc.nd rfl (Or.inl rfl) (pe_lst pa_nil))
 (C8.pss_cut (ps_if (pt_cmpR op_gt (pv 2) pe_int (nomark _))
 (pss_one (ps_set (i := 3) sc.nd rfl (Or.inl rfl) (pe_cl (ok_law_wide T) hr (by decide) (by rfl) pass0 (pa_cons (pe_slice sl_list (pv 1) (po_some pe_int) po_none) (pa_cons (pv 2) pa_nil)))))
 pss_nil)
 (pss_cons (ps_set (i := 4) sc.nd rfl (Or.inl rfl) (pe_cl (ok_law_row T) hr (by decide) (by rfl) pass0 (pa_cons (pv 2) (pa_cons (pe_op op_mod (pe_ix ix_list (pv 1) pe_int (fun _ _ => rfl)) pe_int) (pa_cons (pe_ix ix_list (pv 1) pe_int (fun _ _ => rfl)) (pa_cons (pe_ix ix_list (pv 1) pe_int (fun _ _ => rfl)) pa_nil))))))
 (pss_cons (ps_if (pt_cmpR op_gt (pv 2) pe_int (nomark _))
 (pss_cons (ps_set (i := 5) sc.nd rfl (Or.inl rfl) (pe_op op_sub (pe_op op_mod (pe_ix ix_list (pv 1) pe_int (fun _ _ => rfl)) pe_int) pe_int))
 (pss_cons (ps_set (i := 6) sc.nd rfl (Or.inl rfl) (pe_lst (pa_cons pe_bl (pa_cons pe_bl (pa_cons pe_bl pa_nil)))))
 (pss_cons (ps_set (i := 7) sc.nd rfl (Or.inl rfl) (pe_cmpR (op_eqD hr.units) (pe_cl (ok_law_tried T) hr (by decide) (by rfl) pass0 (pa_cons pe_int (pa_cons (pe_callTy call_list_of (by rfl) T.n_list b_list (pa_cons (pv 3) pa_nil)) (pa_cons (pv 5) (pa_cons (pv 4) pa_nil))))) (pv 6) (nomark _)))
 (pss_cons (ps_set (i := 8) sc.nd rfl (Or.inl rfl) (pe_cmpR (op_eqD hr.units) (pe_cl (ok_law_tried T) hr (by decide) (by rfl) pass0 (pa_cons pe_int (pa_cons (pe_callTy call_list_of (by rfl) T.n_list b_list (pa_cons (pv 3) pa_nil)) (pa_cons (pv 5) (pa_cons (pv 4) pa_nil))))) (pv 6) (nomark _)))
 (pss_one (ps_ret (pe_and (pv 7) (pe_and (pv 8) (pe_one (pe_cmpR (op_eqD hr.units) (pe_cl (ok_law_tried T) hr (by decide) (by rfl) pass0 (pa_cons pe_int (pa_cons (pe_callTy call_list_of (by rfl) T.n_list b_list (pa_cons (pv 3) pa_nil)) (pa_cons (pv 5) (pa_cons (pv 4) pa_nil))))) (pv 6) (nomark _)))))))))))
 pss_nil)
 (pss_cons (ps_set (i := 9) sc.nd rfl (Or.inl rfl) (pe_cl (ok_count_orders T) hr (by decide) (by rfl) passL (pa_cons (pe_callTy call_list_of (by rfl) T.n_list b_list (pa_cons (pv 3) pa_nil)) pa_nil)))
 (pss_cons (ps_if (PW.pt (pw_or (pt_not (pt_val (pe_cl (ok_law_whole T) hr (by decide) (by rfl) pass0 (pa_cons (pv 9) pa_nil)))) (pw_or1 (pt_cmpR op_lt (pv 9) pe_int (nomark _)))))
 (pss_one (ps_ret pe_bl))
 pss_nil)
 (pss_cons (ps_set (i := 5) sc.nd rfl (Or.inl rfl) (pe_op op_sub (pe_op op_mod (pe_ix ix_list (pv 1) pe_int (fun _ _ => rfl)) (pe_op op_add (pv 9) pe_int)) pe_int))
 (C8.pss_cut (ps_if (pt_cmpR op_gt (pe_op op_mod (pe_ix ix_list (pv 1) pe_int (fun _ _ => rfl)) pe_int) pe_int (nomark _))
 (pss_one (ps_set (i := 5) sc.nd rfl (Or.inl rfl) (pe_ix ix_list (pe_lst (pa_cons (pe_un un_neg pe_int) (pa_cons (pv 9) (pa_cons (pe_op op_add (pv 9) pe_int) (pa_cons pe_int pa_nil))))) (pe_op op_mod (pe_ix ix_list (pv 1) pe_int (fun _ _ => rfl)) pe_int) (fun _ _ => rfl))))
 pss_nil)
 (pss_cons (ps_set (i := 6) sc.nd rfl (Or.inl rfl) (pe_lst pa_nil))
 (C8.pss_cut (ps_if (pt_not (pt_chain op_le op_lt pe_int (pv 5) (pv 9)))
 (pss_one (ps_set (i := 6) sc.nd rfl (Or.inl rfl) (pe_lst (pa_cons pe_bl (pa_cons pe_bl (pa_cons pe_bl pa_nil))))))
 pss_nil)
 (pss_cons (ps_if (pt_cmpR (op_neD hr.units) (pe_cl (ok_law_tried T) hr (by decide) (by rfl) pass0 (pa_cons pe_int (pa_cons (pe_callTy call_list_of (by rfl) T.n_list b_list (pa_cons (pv 3) pa_nil)) (pa_cons (pv 5) (pa_cons (pv 4) pa_nil))))) (pv 6) (nomark _))
 (pss_one (ps_ret pe_bl))
 pss_nil)
 (pss_cons (ps_set (i := 6) sc.nd rfl (Or.inl rfl) (pe_lst (pa_cons pe_bl (pa_cons pe_bl (pa_cons pe_bl pa_nil)))))
 (C8.pss_cut (ps_if (pt_val (pe_cl (ok_law_keeps T) hr (by decide) (by rfl) pass0 (pa_cons (pv 3) (pa_cons (pv 4) pa_nil))))
 (pss_one (ps_set (i := 6) sc.nd rfl (Or.inl rfl) (pe_lst pa_nil)))
 pss_nil)
 (pss_cons (ps_set (i := 10) sc.nd rfl (Or.inl rfl) (pe_callTy call_list_of (by rfl) T.n_list b_list (pa_cons (pv 4) pa_nil)))
 (pss_one (ps_ret (pe_and (pe_cmpR (op_eqD hr.units) (pe_cl (ok_law_tried T) hr (by decide) (by rfl) pass0 (pa_cons pe_int (pa_cons (pe_callTy call_list_of (by rfl) T.n_list b_list (pa_cons (pv 3) pa_nil)) (pa_cons (pv 5) (pa_cons (pv 10) pa_nil))))) (pv 6) (nomark _)) (pe_one (pe_cmpR (op_eqD hr.units) (pv 10) (pv 4) (nomark _))))))))))))))))))))))

end
theorem facts {K : PySem.W.Frag} {h : Heap} {mg : Str → Option Value} (X : K.In h) (G : h.Ns mainGlobals mg) (c : He.SaysD fas fns K) : Fx K mg where
  n_ValueError := He.free_ok X G (c.fact 15 rfl)
  n_abs := He.free_ok X G (c.fact 16 rfl)
  n_bool := He.free_ok X G (c.fact 17 rfl)
  n_enumerate := He.free_ok X G (c.fact 18 rfl)
  n_int := He.free_ok X G (c.fact 19 rfl)
  n_isinstance := He.free_ok X G (c.fact 20 rfl)
  n_len := He.free_ok X G (c.fact 21 rfl)
  n_list := He.free_ok X G (c.fact 22 rfl)
  n_range := He.free_ok X G (c.fact 23 rfl)
  n_sorted := He.free_ok X G (c.fact 24 rfl)
  c_MOST := (He.int_ok X G (c.fact 25 rfl)).elim fun t e => ⟨_, e, ⟨t, rfl⟩⟩
  g_BadNumber := He.glo_ok X G (c.fact 26 rfl)
  k_BadNumber := ⟨_, He.glo_ok X G (c.fact 26 rfl), rfl⟩
  g_SusuError := He.glo_ok X G (c.fact 27 rfl)
  k_SusuError := ⟨_, He.glo_ok X G (c.fact 27 rfl), rfl⟩
  g_TooMany := He.glo_ok X G (c.fact 28 rfl)
  k_TooMany := ⟨_, He.glo_ok X G (c.fact 28 rfl), rfl⟩
  x_BadNumber := let z := He.exc_ok (c.fact 29 rfl); ⟨z.1, He.glo_ok X G (c.fact 26 rfl), z.2.1, z.2.2.1, z.2.2.2⟩
  x_TooMany := let z := He.exc_ok (c.fact 30 rfl); ⟨z.1, He.glo_ok X G (c.fact 28 rfl), z.2.1, z.2.2.1, z.2.2.2⟩
  g_law_draws := He.glo_ok X G (c.fact 0 rfl)
  F_law_draws := c.def_ 0 (d := dd_law_draws) rfl
  g_law_keeps := He.glo_ok X G (c.fact 1 rfl)
  F_law_keeps := c.def_ 1 (d := dd_law_keeps) rfl
  g_law_row := He.glo_ok X G (c.fact 2 rfl)
  F_law_row := c.def_ 2 (d := dd_law_row) rfl
  g_bits := He.glo_ok X G (c.fact 3 rfl)
  F_bits := c.def_ 3 (d := dd_bits) rfl
  g_has_bit := He.glo_ok X G (c.fact 4 rfl)
  F_has_bit := c.def_ 4 (d := dd_has_bit) rfl
  g_with_bit := He.glo_ok X G (c.fact 5 rfl)
  F_with_bit := c.def_ 5 (d := dd_with_bit) rfl
  g_ways_on := He.glo_ok X G (c.fact 6 rfl)
  F_ways_on := c.def_ 6 (d := dd_ways_on) rfl
  g_count_orders := He.glo_ok X G (c.fact 7 rfl)
  F_count_orders := c.def_ 7 (d := dd_count_orders) rfl
  g_is_order := He.glo_ok X G (c.fact 8 rfl)
  F_is_order := c.def_ 8 (d := dd_is_order) rfl
  g_number_of_order := He.glo_ok X G (c.fact 9 rfl)
  F_number_of_order := c.def_ 9 (d := dd_number_of_order) rfl
  g_order_by_number := He.glo_ok X G (c.fact 10 rfl)
  F_order_by_number := c.def_ 10 (d := dd_order_by_number) rfl
  g_law_tried := He.glo_ok X G (c.fact 11 rfl)
  F_law_tried := c.def_ 11 (d := dd_law_tried) rfl
  g_law_whole := He.glo_ok X G (c.fact 12 rfl)
  F_law_whole := c.def_ 12 (d := dd_law_whole) rfl
  g_law_wide := He.glo_ok X G (c.fact 13 rfl)
  F_law_wide := c.def_ 13 (d := dd_law_wide) rfl
  g_law := He.glo_ok X G (c.fact 14 rfl)
  F_law := c.def_ 14 (d := dd_law) rfl
theorem fin {P : Program} {w : World} {K : PySem.W.Frag} {h : Heap} {mg : Str → Option Value} {fa : Addr} (X : K.In h) (G : h.Ns mainGlobals mg) (hmg : mg ("law" : Str) = some (.ref fa)) (c : He.SaysD fas fns K) (xf : Xf K ["TooMany", "BadNumber"]) :
    ∃ (K : PySem.W.Frag) (fd : FuncData) (sp : Sp), K.In h ∧ (∀ (s : Shared) (u : Value), BindsTo s fd ⟨[u], []⟩ [("_law_script", u)]) ∧
        (∀ (H : Hp) (a : Addr) (ns : List Int), ns.length ≤ 63 → Only H → SqL K H a (ns.map V.int) → sp [.ref a] H (fun v _ => v = .bl true) fun _ _ _ => False) ∧
        ∀ base : Heap, K.In base → base.Ns mainGlobals mg → FnOk P w K mg base CX0 5 fa fd ["_law_script"] sp := by
  have T := facts X G c
  obtain ⟨fd, F⟩ := T.F_law
  have e := hmg.symm.trans T.g_law
  cases e
  have b := FunD.bindsA (ps := ["_law_script"]) F fun _ _ _ _ _ _ us hl => match us, hl with | [_], _ => rfl
  refine ⟨K, fd, sp_law K, X, fun s v => b s [v] rfl, fun H a ns hl _ hS => ⟨a, ns, rfl, hS, hl, xf, fun _ => rfl⟩, fun base _ _ => ?_⟩
  exact ok_law_at T F
end Su
open PySem PySem.W PySem.Calls PyProof.Rows
theorem PySem.Challenge.cw_susu_k12_orders_refused_holds : PySem.Challenge.rw_susu_k12_orders_refused.Holds := by
  w_on; o_law
  refine HandSHeadRun.head_any (r := OpenLaw.row PySem.Challenge.rw_susu_k12_orders_refused) (q := view (OpenLaw.row PySem.Challenge.rw_susu_k12_orders_refused).prog [22]) (H := Su.hk) (ob := Su.ob) (M := 4000) (loose := Su.loose) (d := HandSHeadRun.topDef (OpenLaw.row PySem.Challenge.rw_susu_k12_orders_refused).prog 22) (kwd := []) Su.ob_eq
    Su.hd_e Su.hd_f Su.run Su.hd_def Su.hd_p Su.hd_k (by rfl) (by first | assumption | decide +kernel) Su.hd_ok ⟨rfl, rfl, rfl, rfl, rfl, by decide +kernel⟩ ?hw ?hc
  case hw => w_witness2
  case hc =>
    refine L2.walk_ofE (l := PySem.Challenge.rw_susu_k12_orders_refused) (n := 63) (k := 5) (x := "_law_script") (CX := L2.CX0) rfl (by decide) (by kernel_rfl) ⟨rfl, by decide, by decide⟩ ?F (fun _ _ _ _ z => z)
    intro w mg fa h Y G hmg0
    obtain ⟨K, KX, c⟩ := Y
    have hmg : mg ("law" : PySem.Str) = some (.ref fa) := by
      have e : (HandSHeadRun.topDef (OpenLaw.row PySem.Challenge.rw_susu_k12_orders_refused).prog 22).name = ("law" : PySem.Str) := by kernel_rfl
      rw [← e]
      exact hmg0
    exact Su.fin KX G hmg c.t.d (Su.xf_of c.more)
