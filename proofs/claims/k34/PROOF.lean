import PyProof.Rows.All
import Wide.All
import OpenK.AllK
import Wide.FinOn
import KE.KStateDown
import Lean
import HandS.ForMost
import HandS.Exc
import HandS.TryOnly
import HandS.ExcOwn
import HandS.WordsExc
import HandS.ExcIs
import HandS.More
import HandS.Defaults
import HandS.IsInst
import HandS.Flow
import HandS.Steps
import HandS.Wide
import HandS.Deep
import HandS.Codes
import HandS.Zip
import HandS.Strs
import HandS.Conv
import HandS.SetFor
import HandS.SortInts
import HandS.Head0
import HandS.Head1
import HandS.Head2
import HandS.HeadEnd
import HandS.HeadHook1
import HandS.HeadHook2
import HandS.HeadHook3
import HandS.HeadHook4
import HandS.ExcField
import HandS.ExcInit
import PySem.Challenge.RW_susu_k34_twin_circles
set_option Elab.async false
set_option linter.all false
set_option maxRecDepth 100000
set_option maxHeartbeats 4000000
namespace Su
open PySem L2

abbrev rAdd : R2 := rI0 fun i j => .int (i + j)
abbrev rSub : R2 := rI0 fun i j => .int (i - j)
abbrev rMul : R2 := rI CMul fun i j => .int (i * j)
abbrev rDiv : R2 := rI CDiv fun i j => .int (i / j)
abbrev rDivW : R2 := rI CDivW fun i j => .int (i / j)
abbrev rMod : R2 := rI (fun _ j => 0 < j) fun i j => .int (i % j)
abbrev rPow : R2 := rI CPow fun i j => .int (i ^ j.toNat)
abbrev rOr : R2 := rI0 fun i j => .int (Builtin.bitOr i j)
abbrev rLt : R2 := rI0 fun i j => .bl (decide (i < j))
abbrev rLe : R2 := rI0 fun i j => .bl (decide (i ≤ j))
abbrev rNeg : V → Hp → VK → Prop := rU fun i => .int (-i)
abbrev CR : Type := List V → Hp → VK → Prop
abbrev rLenSeq (K : PySem.W.Frag) : CR := fun xs H Q => ∃ p ys, xs = [.ref p] ∧ (SqL K H p ys ∨ SqT K H p ys) ∧ Q (.int ys.length) H
abbrev rAbs : CR := fun xs H Q => ∃ i, xs = [.int i] ∧ Q (.int (if i < 0 then -i else i)) H
abbrev rMax2 : CR := fun xs H Q => ∃ i j, xs = [.int i, .int j] ∧ Q (.int (if j > i then j else i)) H
abbrev rMin2 : CR := fun xs H Q => ∃ i j, xs = [.int i, .int j] ∧ Q (.int (if j < i then j else i)) H
abbrev rInt1 : CR := fun xs H Q => (∃ i, xs = [.int i] ∧ Q (.int i) H) ∨ ∃ k, xs = [.bl k] ∧ Q (.int (if k then 1 else 0)) H
abbrev rListOf (K : PySem.W.Frag) : CR := fun xs H Q => ∃ p ys, xs = [.ref p] ∧ (SqL K H p ys ∨ SqT K H p ys) ∧ ∀ l, H l = none → Q (.ref l) (upd H l (.lst ys))
abbrev rTupleOf (K : PySem.W.Frag) : CR := fun xs H Q => ∃ p ys, xs = [.ref p] ∧ ((SqL K H p ys ∧ ∀ l, H l = none → Q (.ref l) (upd H l (.tup ys))) ∨ (SqT K H p ys ∧ Q (.ref p) H))
abbrev MR : Type := V → List V → Hp → VK → Prop
abbrev rAppend : MR := fun x vs H Q => ∃ (l : Addr) (xs : List V) (y : V), x = .ref l ∧ vs = [y] ∧ H l = some (.lst xs) ∧ xs.length < sizeLine ∧ Q .non (upd H l (.lst (xs ++ [y])))
abbrev rInsert : MR := fun x vs H Q => ∃ (l : Addr) (xs : List V) (i : Int) (y : V), x = .ref l ∧ vs = [.int i, y] ∧ H l = some (.lst xs) ∧ xs.length < sizeLine ∧ 0 ≤ i ∧ i < 2 ^ 63 ∧ Q .non (upd H l (.lst (xs.take i.toNat ++ [y] ++ xs.drop i.toNat)))

theorem b_len : bootBuiltins "len" = some (.builtin "len") := by decide +kernel
theorem b_abs : bootBuiltins "abs" = some (.builtin "abs") := by decide +kernel
theorem b_max : bootBuiltins "max" = some (.builtin "max") := by decide +kernel
theorem b_min : bootBuiltins "min" = some (.builtin "min") := by decide +kernel
theorem b_all : bootBuiltins "all" = some (.builtin "all") := by decide +kernel
theorem b_isinstance : bootBuiltins "isinstance" = some (.builtin "isinstance") := by decide +kernel
theorem b_int : bootBuiltins "int" = some (.type "int") := by decide +kernel
theorem b_bool : bootBuiltins "bool" = some (.type "bool") := by decide +kernel
theorem b_str : bootBuiltins "str" = some (.type "str") := by decide +kernel
theorem b_list : bootBuiltins "list" = some (.type "list") := by decide +kernel
theorem b_tuple : bootBuiltins "tuple" = some (.type "tuple") := by decide +kernel
/-- a def of the module that may be called by its name -/
structure Cl (P : Program) (w : World) (K : PySem.W.Frag) (mg : Str → Option Value) (base : Heap) (CX : CXT) (k : Nat) (x : Str) (sp : Sp) : Prop where
  ex : ∃ (f : Addr) (fd : FuncData) (ps : List Str), mg x = some (.ref f) ∧ PySem.W.keepIn K (.ref f) = true ∧ Binds K fd ps [] ∧ FnOk P w K mg base CX k f fd ps sp
section
variable {X : Cx} {CX : CXT} {k j : Nat} {x : Str} {sp : Sp} {E : XK} {e : Expr} {es : List Expr} {t : TA} {p pos : Pos}
theorem pe_cl (c : Cl X.prog X.w X.K X.mg X.base CX k x sp) (hr : Room j X.A) (hk : k ≤ j) (hg : Gl X x) (hx : Passes CX X E) (ha : PA X (e :: es) t)
    (hdb : (x == ("__debug__" : Str)) = false := by decide) (he : starEach (e :: es) X.env = (false, eval e X.env) :: starEach es X.env := by rfl) (hpl : (backTo pos (starEach es X.env)).any (·.1) = false := by rfl) : PE X (.Call (.Name x p) (e :: es) [] pos) (tCall sp [] E t) := by
  obtain ⟨f, fd, ps, h1, h2, h3, h4⟩ := c.ex
  exact pe_call h4 (hr.mono hk) hg h1 h2 h3 .nil hx ha hdb he hpl
theorem pe_gc {v : V} (hg : Gl X x) (h : ∃ u, X.mg x = some u ∧ RelV v u) (hd : (x == ("__debug__" : Str)) = false := by decide) : PE X (.Name x pos) (tC v) := by
  obtain ⟨u, h1, h2⟩ := h
  exact pe_glob hg h1 h2 hd
end

/-! ### the readings, step by step -/
section
variable {K : PySem.W.Frag} {t1 t2 : TS} {te ta tb tc : TE} {tt tu : TT} {a1 a2 : TA} {D : Ends} {σ : St} {H : Hp} {Q : VK} {Qb : Bool → Hp → Prop} {Qa : List V → Hp → Prop} {g : TG} {v w x y : V} {n i : Nat}
theorem x_seq (h : t1 { D with nx := t2 D } σ H) : tSeq t1 t2 D σ H := h
theorem x_next (h : D.nx σ H) : tNext D σ H := h
theorem x_ret (h : te σ H D.rt) : tRet te D σ H := h
theorem x_retN (h : D.rt .non H) : tRetN D σ H := h
theorem x_brk (h : D.bk σ H) : tBreak D σ H := h
theorem x_drop (h : te σ H fun _ H1 => D.nx σ H1) : tDrop te D σ H := h
theorem x_asg (h : te σ H fun x H1 => g x σ H1 D.nx) : tAsg te g D σ H := h
theorem x_gname {Qs : St → Hp → Prop} (h : Qs (σ.set i (some v)) H) : gName i v σ H Qs := h
theorem x_ifS (h : tt σ H fun b H1 => if b = true then t1 D σ H1 else t2 D σ H1) : tIfS tt t1 t2 D σ H := h
theorem x_var (e : σ[i]? = some (some v)) (h : Q v H) : tVar i σ H Q := ⟨v, e, h⟩
theorem x_c (h : Q v H) : tC v σ H Q := h
theorem x_op {r : R2} (h : ta σ H fun x H1 => tb σ H1 fun y H2 => r x y H2 Q) : tOp r ta tb σ H Q := h
theorem x_un {r : V → Hp → VK → Prop} (h : ta σ H fun x H1 => r x H1 Q) : tUn r ta σ H Q := h
theorem x_rU {g : Int → V} {i : Int} (h : Q (g i) H) : rU g (.int i) H Q := ⟨i, rfl, h⟩
theorem x_rI0 {g : Int → Int → V} {i j : Int} (h : Q (g i j) H) : rI0 g (.int i) (.int j) H Q := ⟨i, j, rfl, rfl, h⟩
theorem x_rI {C : Int → Int → Prop} {g : Int → Int → V} {i j : Int} (c : C i j) (h : Q (g i j) H) : rI C g (.int i) (.int j) H Q := ⟨i, j, rfl, rfl, c, h⟩
theorem x_eqI {i j : Int} (h : Q (.bl (decide (i = j))) H) : rEq (.int i) (.int j) H Q := ⟨rfl, by
  have e : decide (V.int i = V.int j) = decide (i = j) := by simp
  rw [e]; exact h⟩
theorem x_neI {i j : Int} (h : Q (.bl (!decide (i = j))) H) : rNe (.int i) (.int j) H Q := ⟨rfl, by
  have e : decide (V.int i = V.int j) = decide (i = j) := by simp
  rw [e]; exact h⟩
theorem x_eqS {i j : Str} (h : Q (.bl (decide (i = j))) H) : rEq (.str i) (.str j) H Q := ⟨rfl, by
  have e : decide (V.str i = V.str j) = decide (i = j) := by simp
  rw [e]; exact h⟩
theorem x_neS {i j : Str} (h : Q (.bl (!decide (i = j))) H) : rNe (.str i) (.str j) H Q := ⟨rfl, by
  have e : decide (V.str i = V.str j) = decide (i = j) := by simp
  rw [e]; exact h⟩
theorem x_eqB {i j : Bool} (h : Q (.bl (decide (i = j))) H) : rEq (.bl i) (.bl j) H Q := ⟨rfl, by
  have e : decide (V.bl i = V.bl j) = decide (i = j) := by simp
  rw [e]; exact h⟩
theorem x_neB {i j : Bool} (h : Q (.bl (!decide (i = j))) H) : rNe (.bl i) (.bl j) H Q := ⟨rfl, by
  have e : decide (V.bl i = V.bl j) = decide (i = j) := by simp
  rw [e]; exact h⟩
theorem x_test (h : te σ H fun x H' => ∃ k, x = .bl k ∧ Qb k H') : tTest te σ H Qb := h
theorem x_tB (h : te σ H fun x H' => ∃ k, x = .bl k ∧ Qb k H') : tB te σ H Qb := h
theorem x_isB {k : Bool} (h : Qb k H) : ∃ k', V.bl k = .bl k' ∧ Qb k' H := ⟨k, rfl, h⟩
theorem x_isB' {k : Bool} {P : Bool → Prop} (h : P k) : ∃ k', V.bl k = .bl k' ∧ P k' := ⟨k, rfl, h⟩
theorem x_not (h : tt σ H fun c H1 => Qb (!c) H1) : tNot tt σ H Qb := h
theorem x_and (h : tt σ H fun c H1 => if c = true then tu σ H1 Qb else Qb false H1) : tAnd tt tu σ H Qb := h
theorem x_or (h : tt σ H fun c H1 => if c = true then Qb true H1 else tu σ H1 Qb) : tOr tt tu σ H Qb := h
theorem x_andV (h : ta σ H fun x H1 => ∃ c, x = .bl c ∧ if c = true then tb σ H1 Q else Q (.bl false) H1) : tAndV ta tb σ H Q := h
theorem x_orV (h : ta σ H fun x H1 => ∃ c, x = .bl c ∧ if c = true then Q (.bl true) H1 else tb σ H1 Q) : tOrV ta tb σ H Q := h
theorem x_notV (h : ta σ H fun x H1 => ∃ c, x = .bl c ∧ Q (.bl (!c)) H1) : tNotV ta σ H Q := h
theorem x_chain {r r' : R2} (h : ta σ H fun x H1 => tb σ H1 fun y H2 => r x y H2 fun z H3 => ∃ k, z = .bl k ∧ (if k = true then tc σ H3 fun w' H4 => r' y w' H4 Q else Q (.bl false) H3)) : tChain r r' ta tb tc σ H Q := h
theorem x_nil (h : Qa [] H) : tNil σ H Qa := h
theorem x_cons (h : ta σ H fun x H1 => a1 σ H1 fun xs H2 => Qa (x :: xs) H2) : tCons ta a1 σ H Qa := h
theorem x_cb {r : CR} (h : a1 σ H fun vs H1 => r vs H1 Q) : tCB r a1 σ H Q := h
theorem x_call {sp : Sp} {E : XK} (h : a1 σ H fun vs H1 => sp (vs ++ []) H1 Q E) : tCall sp [] E a1 σ H Q := h
def AlL (Q : VK) (xs : List V) (H : Hp) : Prop := xs.length ≤ sizeLine ∧ ∀ p, H p = none → Q (.ref p) (upd H p (.lst xs))
def AlT (Q : VK) (xs : List V) (H : Hp) : Prop := xs.length ≤ sizeLine ∧ ∀ p, H p = none → Q (.ref p) (upd H p (.tup xs))
theorem x_lst (h : a1 σ H (AlL Q)) : tLst a1 σ H Q := h
theorem x_tup (h : a1 σ H (AlT Q)) : tTup a1 σ H Q := h
theorem x_abs {i : Int} (h : Q (.int (if i < 0 then -i else i)) H) : rAbs [.int i] H Q := ⟨i, rfl, h⟩
theorem x_max2 {i j : Int} (h : Q (.int (if j > i then j else i)) H) : rMax2 [.int i, .int j] H Q := ⟨i, j, rfl, h⟩
theorem x_min2 {i j : Int} (h : Q (.int (if j < i then j else i)) H) : rMin2 [.int i, .int j] H Q := ⟨i, j, rfl, h⟩
theorem x_int1 {i : Int} (h : Q (.int i) H) : rInt1 [.int i] H Q := .inl ⟨i, rfl, h⟩
theorem x_intB {k : Bool} (h : Q (.int (if k then 1 else 0)) H) : rInt1 [.bl k] H Q := .inr ⟨k, rfl, h⟩
theorem x_lenL {p : Addr} {ys : List V} (e : SqL K H p ys) (h : Q (.int ys.length) H) : rLenSeq K [.ref p] H Q := ⟨p, ys, rfl, .inl e, h⟩
theorem x_lenT {p : Addr} {ys : List V} (e : SqT K H p ys) (h : Q (.int ys.length) H) : rLenSeq K [.ref p] H Q := ⟨p, ys, rfl, .inr e, h⟩
theorem x_ixL {p : Addr} {xs : List V} {i : Int} (e : SqL K H p xs) (z : atI xs i = some v) (h : Q v H) : rIxL K (.ref p) (.int i) H Q := ⟨p, xs, i, v, rfl, rfl, e, z, h⟩
theorem x_ixT {p : Addr} {xs : List V} {i : Int} (e : SqT K H p xs) (z : atI xs i = some v) (h : Q v H) : rIxT K (.ref p) (.int i) H Q := ⟨p, xs, i, v, rfl, rfl, e, z, h⟩
theorem x_append {p : Addr} {xs : List V} (e : H p = some (.lst xs)) (z : xs.length < sizeLine) (h : Q .non (upd H p (.lst (xs ++ [v])))) : rAppend (.ref p) [v] H Q := ⟨p, xs, v, rfl, rfl, e, z, h⟩
theorem x_bmL {r : MR} {to : TE} (h : to σ H fun x H1 => tyV K "list" x H1 ∧ a1 σ H1 fun xs H2 => r x xs H2 Q) : tBM K "list" r to a1 σ H Q := h
theorem tyL {p : Addr} {xs : List V} (e : SqL K H p xs) : tyV K "list" (.ref p) H := .inl ⟨rfl, _, e⟩
theorem SqL.of {p : Addr} {xs : List V} (e : H p = some (.lst xs)) : SqL K H p xs := .inl (.inl e)
theorem SqT.of {p : Addr} {xs : List V} (e : H p = some (.tup xs)) : SqT K H p xs := .inl (.inl e)
theorem x_listOf {p : Addr} {ys : List V} (e : SqL K H p ys) (h : ∀ l, H l = none → Q (.ref l) (upd H l (.lst ys))) : rListOf K [.ref p] H Q := ⟨p, ys, rfl, .inl e, h⟩
theorem x_isi {c : V} {t u : Value} {b : Bool} (h1 : ClsV c u) (h2 : TyX K H x t) (h3 : PySem.W.kitOne K t u = some b) (h : Q (.bl b) H) : rIsi K [x, c] H Q := ⟨x, c, t, u, b, rfl, h1, h2, h3, h⟩
theorem x_ite {b : Bool} {A B : Prop} (h1 : b = true → A) (h2 : b = false → B) : if b = true then A else B := by
  cases b
  · exact (if_neg Bool.false_ne_true).symm ▸ h2 rfl
  · exact (if_pos rfl).symm ▸ h1 rfl
theorem x_iteD {c A B : Prop} {inst : Decidable c} (h1 : c → A) (h2 : ¬ c → B) : if decide c = true then A else B := x_ite (fun e => h1 (of_decide_eq_true e)) (fun e => h2 (of_decide_eq_false e))
theorem x_iteN {c A B : Prop} {inst : Decidable c} (h1 : ¬ c → A) (h2 : c → B) : if (!decide c) = true then A else B := x_ite (fun e => h1 (by simpa using e)) (fun e => h2 (by simpa using e))
theorem x_whileN {tb : TS} {W : Nat → St → Hp → Prop} {m : Nat} (h : tb { D with nx := (fun σ' H' => ∃ m', m' < m ∧ W m' σ' H'), ct := (fun σ' H' => ∃ m', m' < m ∧ W m' σ' H'), bk := D.nx } σ H) :
    ∃ N : St → Hp → Prop, (∀ σ' H', N σ' H' → ∃ m', m' < m ∧ W m' σ' H') ∧ tb { D with nx := N, ct := N, bk := D.nx } σ H := ⟨_, fun _ _ h => h, h⟩
theorem x_for {wi : TI} {tb : TS} (h : wi σ H fun J H1 => ∃ W : Nat → Nat → St → Hp → Prop, (∃ m, W 0 m σ H1) ∧ ∀ i m σ H, W i m σ H →
    (J.stop i H ∧ D.nx σ H) ∨ (J.go i H ∧ ∃ N : St → Hp → Prop, (∀ σ' H', N σ' H' → ∃ m', m' < m ∧ W (i + 1) m' σ' H') ∧ ∀ x H', J.yld i H x H' → g x σ H' fun σ2 H2 => tb { D with nx := N, ct := N, bk := D.nx } σ2 H2)) : tFor wi g tb D σ H := h
theorem x_iList {R : It → Hp → Prop} (h : te σ H fun x H1 => ∃ a, x = .ref a ∧ (∃ xs, SqL K H1 a xs) ∧ R (Itl K a) H1) : iList K te σ H R := h
theorem x_iRng1 {R : It → Hp → Prop} (h : a1 σ H fun vs H1 => ∃ j : Int, vs = [.int j] ∧ -(2 ^ 62) ≤ j ∧ j < 2 ^ 62 ∧ R (Itr 0 j.toNat) H1) : iRng1 a1 σ H R := h
theorem x_iRng2 {R : It → Hp → Prop} (h : a1 σ H fun vs H1 => ∃ i j : Int, vs = [.int i, .int j] ∧ (-(2 ^ 62) ≤ i ∧ i < 2 ^ 62 ∧ -(2 ^ 62) ≤ j ∧ j < 2 ^ 62) ∧ R (Itr i (j - i).toNat) H1) : iRng2 a1 σ H R := h
theorem x_rGt {i j : Int} (h : Q (.bl (decide (j < i))) H) : rGt (.int i) (.int j) H Q := ⟨i, j, rfl, rfl, h⟩
theorem x_rGe {i j : Int} (h : Q (.bl (decide (j ≤ i))) H) : rGe (.int i) (.int j) H Q := ⟨i, j, rfl, rfl, h⟩
theorem x_iteF {A B : Prop} (h : B) : if false = true then A else B := iteF h
theorem x_iteT {A B : Prop} (h : A) : if true = true then A else B := iteT h
theorem x_iteNT {A B : Prop} (h : B) : if (!true) = true then A else B := iteF h
theorem x_iteNF {A B : Prop} (h : A) : if (!false) = true then A else B := iteT h
theorem small {n : Nat} (h : n ≤ 100000) : n < sizeLine := Nat.lt_of_le_of_lt h (by rw [sizeLine_eq]; decide)
theorem at_get {α : Type} {xs : List α} {i : Int} {d : α} (h0 : 0 ≤ i) (h1 : i < xs.length) : atI xs i = some (xs.getD i.toNat d) := by
  have h2 : i.toNat < xs.length := by omega
  unfold atI ixN
  rw [if_pos h0, if_pos h1]
  show xs[i.toNat]? = _
  rw [List.getElem?_eq_getElem h2, List.getD_eq_getElem?_getD, List.getElem?_eq_getElem h2]
  rfl
theorem at_getI {xs : List Int} {i : Int} (h0 : 0 ≤ i) (h1 : i < xs.length) : atI (xs.map V.int) i = some (.int (xs.getD i.toNat 0)) := by
  have h2 : i.toNat < xs.length := by omega
  rw [at_get (d := .int 0) h0 (by rw [List.length_map]; exact h1), List.getD_eq_getElem?_getD, List.getD_eq_getElem?_getD, List.getElem?_map, List.getElem?_eq_getElem h2]
  rfl
theorem x_ixI {p : Addr} {xs : List Int} {i : Int} (e : H p = some (.lst (xs.map V.int))) (h0 : 0 ≤ i) (h1 : i < xs.length) (h : Q (.int (xs.getD i.toNat 0)) H) : rIxL K (.ref p) (.int i) H Q := x_ixL (SqL.of e) (at_getI h0 h1) h
theorem x_cut {t u : TS} (M : St → Hp → Prop) (h : t { D with nx := M } σ H) (k : ∀ σ' H', M σ' H' → u D σ' H') : C8.tCut t u D σ H := ⟨M, h, k⟩
theorem kt_int_int : kitB "int" "int" = some true := by decide +kernel
theorem kt_int_bool : kitB "int" "bool" = some false := by decide +kernel
theorem kt_int_str : kitB "int" "str" = some false := by decide +kernel
theorem kt_int_list : kitB "int" "list" = some false := by decide +kernel
theorem kt_int_tuple : kitB "int" "tuple" = some false := by decide +kernel
theorem kt_bool_int : kitB "bool" "int" = some true := by decide +kernel
theorem kt_bool_bool : kitB "bool" "bool" = some true := by decide +kernel
theorem kt_bool_str : kitB "bool" "str" = some false := by decide +kernel
theorem kt_bool_list : kitB "bool" "list" = some false := by decide +kernel
theorem kt_bool_tuple : kitB "bool" "tuple" = some false := by decide +kernel
theorem kt_str_int : kitB "str" "int" = some false := by decide +kernel
theorem kt_str_bool : kitB "str" "bool" = some false := by decide +kernel
theorem kt_str_str : kitB "str" "str" = some true := by decide +kernel
theorem kt_str_list : kitB "str" "list" = some false := by decide +kernel
theorem kt_str_tuple : kitB "str" "tuple" = some false := by decide +kernel
theorem kt_NoneType_int : kitB "NoneType" "int" = some false := by decide +kernel
theorem kt_NoneType_bool : kitB "NoneType" "bool" = some false := by decide +kernel
theorem kt_NoneType_str : kitB "NoneType" "str" = some false := by decide +kernel
theorem kt_NoneType_list : kitB "NoneType" "list" = some false := by decide +kernel
theorem kt_NoneType_tuple : kitB "NoneType" "tuple" = some false := by decide +kernel
theorem kt_list_int : kitB "list" "int" = some false := by decide +kernel
theorem kt_list_bool : kitB "list" "bool" = some false := by decide +kernel
theorem kt_list_str : kitB "list" "str" = some false := by decide +kernel
theorem kt_list_list : kitB "list" "list" = some true := by decide +kernel
theorem kt_list_tuple : kitB "list" "tuple" = some false := by decide +kernel
theorem kt_tuple_int : kitB "tuple" "int" = some false := by decide +kernel
theorem kt_tuple_bool : kitB "tuple" "bool" = some false := by decide +kernel
theorem kt_tuple_str : kitB "tuple" "str" = some false := by decide +kernel
theorem kt_tuple_list : kitB "tuple" "list" = some false := by decide +kernel
theorem kt_tuple_tuple : kitB "tuple" "tuple" = some true := by decide +kernel
theorem ty_lst {a : Addr} {xs : List V} (e : SqL K H a xs) : TyX K H (.ref a) (.type "list") := by
  rcases e with (h | ⟨o, h⟩) | ⟨o, n, us, h1, h2, h3, _⟩
  · exact .base (.lst h)
  · exact .base (.frz h)
  · exact .kList h1 h2
theorem ty_tup {a : Addr} {xs : List V} (e : SqT K H a xs) : TyX K H (.ref a) (.type "tuple") := by
  rcases e with (h | ⟨o, h⟩) | ⟨o, n, us, h1, h2, h3, _⟩
  · exact .base (.tup h)
  · exact .fTuple h
  · exact .kTuple h1 h2
theorem x_isi_int_int {i : Int} (q : Q (.bl true) H) : rIsi K [(.int i), .ty "int"] H Q := x_isi (.ty _) (.base (.int _)) (kit_ty kt_int_int) q
theorem x_isi_int_bool {i : Int} (q : Q (.bl false) H) : rIsi K [(.int i), .ty "bool"] H Q := x_isi (.ty _) (.base (.int _)) (kit_ty kt_int_bool) q
theorem x_isi_int_str {i : Int} (q : Q (.bl false) H) : rIsi K [(.int i), .ty "str"] H Q := x_isi (.ty _) (.base (.int _)) (kit_ty kt_int_str) q
theorem x_isi_int_list {i : Int} (q : Q (.bl false) H) : rIsi K [(.int i), .ty "list"] H Q := x_isi (.ty _) (.base (.int _)) (kit_ty kt_int_list) q
theorem x_isi_int_tuple {i : Int} (q : Q (.bl false) H) : rIsi K [(.int i), .ty "tuple"] H Q := x_isi (.ty _) (.base (.int _)) (kit_ty kt_int_tuple) q
theorem x_isi_bool_int {i : Bool} (q : Q (.bl true) H) : rIsi K [(.bl i), .ty "int"] H Q := x_isi (.ty _) (.base (.bl _)) (kit_ty kt_bool_int) q
theorem x_isi_bool_bool {i : Bool} (q : Q (.bl true) H) : rIsi K [(.bl i), .ty "bool"] H Q := x_isi (.ty _) (.base (.bl _)) (kit_ty kt_bool_bool) q
theorem x_isi_bool_str {i : Bool} (q : Q (.bl false) H) : rIsi K [(.bl i), .ty "str"] H Q := x_isi (.ty _) (.base (.bl _)) (kit_ty kt_bool_str) q
theorem x_isi_bool_list {i : Bool} (q : Q (.bl false) H) : rIsi K [(.bl i), .ty "list"] H Q := x_isi (.ty _) (.base (.bl _)) (kit_ty kt_bool_list) q
theorem x_isi_bool_tuple {i : Bool} (q : Q (.bl false) H) : rIsi K [(.bl i), .ty "tuple"] H Q := x_isi (.ty _) (.base (.bl _)) (kit_ty kt_bool_tuple) q
theorem x_isi_str_int {i : Str} (q : Q (.bl false) H) : rIsi K [(.str i), .ty "int"] H Q := x_isi (.ty _) (.base (.str _)) (kit_ty kt_str_int) q
theorem x_isi_str_bool {i : Str} (q : Q (.bl false) H) : rIsi K [(.str i), .ty "bool"] H Q := x_isi (.ty _) (.base (.str _)) (kit_ty kt_str_bool) q
theorem x_isi_str_str {i : Str} (q : Q (.bl true) H) : rIsi K [(.str i), .ty "str"] H Q := x_isi (.ty _) (.base (.str _)) (kit_ty kt_str_str) q
theorem x_isi_str_list {i : Str} (q : Q (.bl false) H) : rIsi K [(.str i), .ty "list"] H Q := x_isi (.ty _) (.base (.str _)) (kit_ty kt_str_list) q
theorem x_isi_str_tuple {i : Str} (q : Q (.bl false) H) : rIsi K [(.str i), .ty "tuple"] H Q := x_isi (.ty _) (.base (.str _)) (kit_ty kt_str_tuple) q
theorem x_isi_NoneType_int (q : Q (.bl false) H) : rIsi K [.non, .ty "int"] H Q := x_isi (.ty _) (.base .non) (kit_ty kt_NoneType_int) q
theorem x_isi_NoneType_bool (q : Q (.bl false) H) : rIsi K [.non, .ty "bool"] H Q := x_isi (.ty _) (.base .non) (kit_ty kt_NoneType_bool) q
theorem x_isi_NoneType_str (q : Q (.bl false) H) : rIsi K [.non, .ty "str"] H Q := x_isi (.ty _) (.base .non) (kit_ty kt_NoneType_str) q
theorem x_isi_NoneType_list (q : Q (.bl false) H) : rIsi K [.non, .ty "list"] H Q := x_isi (.ty _) (.base .non) (kit_ty kt_NoneType_list) q
theorem x_isi_NoneType_tuple (q : Q (.bl false) H) : rIsi K [.non, .ty "tuple"] H Q := x_isi (.ty _) (.base .non) (kit_ty kt_NoneType_tuple) q
theorem isi_list_int {a : Addr} {xs : List V} (e : SqL K H a xs) (q : Q (.bl false) H) : rIsi K [.ref a, .ty "int"] H Q := x_isi (.ty _) (ty_lst e) (kit_ty kt_list_int) q
theorem isi_list_bool {a : Addr} {xs : List V} (e : SqL K H a xs) (q : Q (.bl false) H) : rIsi K [.ref a, .ty "bool"] H Q := x_isi (.ty _) (ty_lst e) (kit_ty kt_list_bool) q
theorem isi_list_str {a : Addr} {xs : List V} (e : SqL K H a xs) (q : Q (.bl false) H) : rIsi K [.ref a, .ty "str"] H Q := x_isi (.ty _) (ty_lst e) (kit_ty kt_list_str) q
theorem isi_list_list {a : Addr} {xs : List V} (e : SqL K H a xs) (q : Q (.bl true) H) : rIsi K [.ref a, .ty "list"] H Q := x_isi (.ty _) (ty_lst e) (kit_ty kt_list_list) q
theorem isi_list_tuple {a : Addr} {xs : List V} (e : SqL K H a xs) (q : Q (.bl false) H) : rIsi K [.ref a, .ty "tuple"] H Q := x_isi (.ty _) (ty_lst e) (kit_ty kt_list_tuple) q
theorem isi_tuple_int {a : Addr} {xs : List V} (e : SqT K H a xs) (q : Q (.bl false) H) : rIsi K [.ref a, .ty "int"] H Q := x_isi (.ty _) (ty_tup e) (kit_ty kt_tuple_int) q
theorem isi_tuple_bool {a : Addr} {xs : List V} (e : SqT K H a xs) (q : Q (.bl false) H) : rIsi K [.ref a, .ty "bool"] H Q := x_isi (.ty _) (ty_tup e) (kit_ty kt_tuple_bool) q
theorem isi_tuple_str {a : Addr} {xs : List V} (e : SqT K H a xs) (q : Q (.bl false) H) : rIsi K [.ref a, .ty "str"] H Q := x_isi (.ty _) (ty_tup e) (kit_ty kt_tuple_str) q
theorem isi_tuple_list {a : Addr} {xs : List V} (e : SqT K H a xs) (q : Q (.bl false) H) : rIsi K [.ref a, .ty "list"] H Q := x_isi (.ty _) (ty_tup e) (kit_ty kt_tuple_list) q
theorem isi_tuple_tuple {a : Addr} {xs : List V} (e : SqT K H a xs) (q : Q (.bl true) H) : rIsi K [.ref a, .ty "tuple"] H Q := x_isi (.ty _) (ty_tup e) (kit_ty kt_tuple_tuple) q
theorem upd_new {a p : Addr} {o o' : HO} (h : H a = some o) (n : H p = none) : upd H p o' a = some o := by rw [upd_ne (ne_of_none h n)]; exact h
theorem same_upd {H0 H1 : Hp} {p : Addr} {o : HO} (h : Same H0 H1) (n : H0 p = none) : Same H0 (upd H1 p o) := fun b q e => by rw [upd_ne (ne_of_none e n)]; exact h b q e
theorem same_new {H0 H1 : Hp} {p : Addr} {o : HO} (h : Same H0 H1) (n : H1 p = none) : Same H0 (L2.upd H1 p o) := same_upd h (h.free n)
theorem al_lst {xs : List V} (h : ∀ p H', H p = none → Same H H' → H' p = some (.lst xs) → Q (.ref p) H') (h0 : Nat.ble xs.length 100000 = true := by rfl) : AlL Q xs H := ⟨Nat.le_of_lt (small (Nat.le_of_ble_eq_true h0)), fun p n => h p _ n (same_new (Same.refl H) n) upd_same⟩
theorem al_tup {xs : List V} (h : ∀ p H', H p = none → Same H H' → H' p = some (.tup xs) → Q (.ref p) H') (h0 : Nat.ble xs.length 100000 = true := by rfl) : AlT Q xs H := ⟨Nat.le_of_lt (small (Nat.le_of_ble_eq_true h0)), fun p n => h p _ n (same_new (Same.refl H) n) upd_same⟩
theorem al_list {p : Addr} {ys : List V} (e : SqL K H p ys) (h : ∀ p H', H p = none → Same H H' → H' p = some (.lst ys) → Q (.ref p) H') : rListOf K [.ref p] H Q := x_listOf e fun p n => h p _ n (same_new (Same.refl H) n) upd_same
theorem getD_all {P : Int → Prop} {xs : List Int} (h : ∀ x ∈ xs, P x) (h0 : P 0) (i : Nat) : P (xs.getD i 0) := by
  rw [List.getD_eq_getElem?_getD]
  cases e : xs[i]? with
  | none => exact h0
  | some v => exact h v (List.mem_of_getElem? e)
end
/-! ### turns of a walk -/
structure Turns (J : It) (n : Nat) (ok : Hp → Prop) (item : Nat → V → Hp → Hp → Prop) : Prop where
  go : ∀ i H, i < n → ok H → J.go i H
  yld : ∀ i H x H', i < n → ok H → J.yld i H x H' → item i x H H'
  stop : ∀ H, ok H → J.stop n H
section
variable {K : PySem.W.Frag} {J : It} {n : Nat} {ok : Hp → Prop} {item : Nat → V → Hp → Hp → Prop} {g : TG} {tb : TS} {D : Ends} {σ : St} {H : Hp}
theorem for_by (T : Turns J n ok item) (Pv : Nat → St → Hp → Prop) (h0 : Pv 0 σ H) (hok : ∀ i σ H, i ≤ n → Pv i σ H → ok H)
    (hs : ∀ i x σ H H', i < n → Pv i σ H → item i x H H' → g x σ H' fun σ2 H2 => tb { D with nx := Pv (i + 1), ct := Pv (i + 1), bk := D.nx } σ2 H2) (hd : ∀ σ H, Pv n σ H → D.nx σ H) :
    ∃ W : Nat → Nat → St → Hp → Prop, (∃ m, W 0 m σ H) ∧ ∀ i m σ H, W i m σ H →
      (J.stop i H ∧ D.nx σ H) ∨ (J.go i H ∧ ∃ N : St → Hp → Prop, (∀ σ' H', N σ' H' → ∃ m', m' < m ∧ W (i + 1) m' σ' H') ∧ ∀ v H', J.yld i H v H' → g v σ H' fun σ2 H2 => tb { D with nx := N, ct := N, bk := D.nx } σ2 H2) := by
  refine ⟨fun i m σ H => m = n - i ∧ i ≤ n ∧ Pv i σ H, ⟨n, rfl, Nat.zero_le _, h0⟩, ?_⟩
  rintro i m σ H ⟨rfl, hi, p⟩
  have q := hok i σ H hi p
  by_cases hlt : i < n
  · exact .inr ⟨T.go i H hlt q, Pv (i + 1), fun σ' H' p' => ⟨n - (i + 1), by omega, rfl, hlt, p'⟩, fun v H' y => hs i v σ H H' hlt p (T.yld i H v H' hlt q y)⟩
  · have e : i = n := by omega
    subst e
    exact .inl ⟨T.stop H q, hd σ H p⟩
variable {tt : TT} {te : TE} {vs : List Nat} {H1 : Hp} {A : Addr} {Qd : Hp → Prop}
theorem lc_by (T : Turns J n ok item) (Pv : Nat → Hp → Prop) (h0 : Pv 0 (upd H1 A (.lst []))) (hok : ∀ i H, i ≤ n → Pv i H → ok H)
    (hs : ∀ i x H H', i < n → Pv i H → item i x H H' → g x (wipe σ vs) H' fun σ2 H2 => wipe σ2 vs = wipe σ vs ∧ tt σ2 H2 fun b H3 =>
      if b = true then te σ2 H3 fun y H4 => ∃ acc, H4 A = some (.lst acc) ∧ acc.length < sizeLine ∧ Pv (i + 1) (upd H4 A (.lst (acc ++ [y]))) else Pv (i + 1) H3) (hd : ∀ H, Pv n H → Qd H) :
    ∃ W : Nat → Nat → Hp → Prop, (∃ m, W 0 m (upd H1 A (.lst []))) ∧ ∀ i m H, W i m H →
      (J.stop i H ∧ Qd H) ∨ (J.go i H ∧ ∃ Nx : Hp → Prop, (∀ H', Nx H' → ∃ m', m' < m ∧ W (i + 1) m' H') ∧ ∀ x H', J.yld i H x H' → g x (wipe σ vs) H' fun σ2 H2 => wipe σ2 vs = wipe σ vs ∧ tt σ2 H2 fun b H3 =>
        if b = true then te σ2 H3 fun y H4 => ∃ acc, H4 A = some (.lst acc) ∧ acc.length < sizeLine ∧ Nx (upd H4 A (.lst (acc ++ [y]))) else Nx H3) := by
  refine ⟨fun i m H => m = n - i ∧ i ≤ n ∧ Pv i H, ⟨n, rfl, Nat.zero_le _, h0⟩, ?_⟩
  rintro i m H ⟨rfl, hi, p⟩
  have q := hok i H hi p
  by_cases hlt : i < n
  · exact .inr ⟨T.go i H hlt q, Pv (i + 1), fun H' p' => ⟨n - (i + 1), by omega, rfl, hlt, p'⟩, fun v H' y => hs i v H H' hlt p (T.yld i H v H' hlt q y)⟩
  · have e : i = n := by omega
    subst e
    exact .inl ⟨T.stop H q, hd H p⟩
theorem turnsL {a : Addr} {xs : List V} : Turns (Itl K a) xs.length (fun H => SqL K H a xs) (fun i x H H' => H = H' ∧ xs[i]? = some x) where
  go := fun i H hi q => ⟨xs, xs[i], q, List.getElem?_eq_getElem hi⟩
  yld := fun i H x H' _ q y => ⟨y.1.symm, y.2 xs q⟩
  stop := fun H q => ⟨xs, q, Nat.le_refl _⟩
theorem turnsR {lo : Int} {n : Nat} : Turns (Itr lo n) n (fun _ => True) (fun i x H H' => H = H' ∧ x = .int (lo + i)) where
  go := fun i H hi _ => hi
  yld := fun i H x H' _ _ y => ⟨y.1.symm, y.2⟩
  stop := fun H _ => Nat.le_refl _
/-- a new pair stands at T -/
def Pair (x y : V) (v : V) (H H' : Hp) : Prop := ∃ T, v = .ref T ∧ H T = none ∧ Same H H' ∧ H' T = some (.tup [x, y]) ∧ ∀ b, b ≠ T → H' b = H b
theorem pair_mk {x y : V} {T : Addr} (h : H T = none) : Pair x y (.ref T) H (upd H T (.tup [x, y])) := ⟨T, rfl, h, same_new (Same.refl H) h, upd_same, fun b hb => upd_ne hb⟩
theorem turnsE {a : Addr} {xs : List V} : Turns (Ite K a) xs.length (fun H => SqL K H a xs) (fun i v H H' => ∃ x, xs[i]? = some x ∧ Pair (.int (i : Nat)) x v H H') where
  go := fun i H hi q => ⟨xs, xs[i], q, List.getElem?_eq_getElem hi⟩
  yld := fun i H v H' _ q y => by
    obtain ⟨T, x, rfl, hT, rfl, f⟩ := y
    exact ⟨x, f xs q, pair_mk hT⟩
  stop := fun H q => ⟨xs, q, Nat.le_refl _⟩
theorem turnsZ {a b : Addr} {xs ys : List V} (hl : xs.length = ys.length) : Turns (Itz K a b) xs.length (fun H => SqL K H a xs ∧ SqL K H b ys) (fun i v H H' => ∃ x y, xs[i]? = some x ∧ ys[i]? = some y ∧ Pair x y v H H') where
  go := fun i H hi q => ⟨xs, ys, xs[i], ys[i]'(by omega), q.1, q.2, List.getElem?_eq_getElem hi, List.getElem?_eq_getElem (by omega)⟩
  yld := fun i H v H' _ q y => by
    obtain ⟨T, x, y, rfl, hT, rfl, f1, f2⟩ := y
    exact ⟨x, y, f1 xs q.1, f2 ys q.2, pair_mk hT⟩
  stop := fun H q => ⟨xs, ys, q.1, q.2, .inl (Nat.le_refl _)⟩
theorem turnsZT {a b : Addr} {xs ys : List V} (hl : xs.length = ys.length) : Turns (RZ.ItzT K a b) xs.length (fun H => SqT K H a xs ∧ SqT K H b ys) (fun i v H H' => ∃ x y, xs[i]? = some x ∧ ys[i]? = some y ∧ Pair x y v H H') where
  go := fun i H hi q => ⟨xs, ys, xs[i], ys[i]'(by omega), q.1, q.2, List.getElem?_eq_getElem hi, List.getElem?_eq_getElem (by omega)⟩
  yld := fun i H v H' _ q y => by
    obtain ⟨T, x, y, rfl, hT, rfl, f1, f2⟩ := y
    exact ⟨x, y, f1 xs q.1, f2 ys q.2, pair_mk hT⟩
  stop := fun H q => ⟨xs, ys, q.1, q.2, .inl (Nat.le_refl _)⟩

/-! ### a comprehension of flat values -/
structure LcF (H1 : Hp) (A : Addr) (f : Nat → Option V) (i : Nat) (H : Hp) : Prop where
  s : Same H1 H
  o : H A = some (.lst ((List.range i).filterMap f))
theorem lcF_len (f : Nat → Option V) (i : Nat) : ((List.range i).filterMap f).length ≤ i := by
  have := List.length_filterMap_le f (List.range i)
  rwa [List.length_range] at this
theorem LcF.keep {f : Nat → Option V} {i : Nat} {Hc H4 : Hp} {y : V} (h : LcF H1 A f i Hc) (n : H1 A = none) (s : Same Hc H4) (hf : f i = some y) (hi : i ≤ 100000) :
    ∃ acc, H4 A = some (.lst acc) ∧ acc.length < sizeLine ∧ LcF H1 A f (i + 1) (upd H4 A (.lst (acc ++ [y]))) := by
  refine ⟨_, s _ _ h.o, small (Nat.le_trans (lcF_len f i) hi), same_upd (h.s.trans s) n, ?_⟩
  rw [upd_same, List.range_succ, List.filterMap_append]
  simp [hf]
theorem LcF.skip {f : Nat → Option V} {i : Nat} {Hc H4 : Hp} (h : LcF H1 A f i Hc) (s : Same Hc H4) (hf : f i = none) : LcF H1 A f (i + 1) H4 := by
  refine ⟨h.s.trans s, ?_⟩
  rw [List.range_succ, List.filterMap_append]
  simp [hf]
  exact s _ _ h.o
theorem lc_flat (f : Nat → Option V) (T : Turns J n ok item) (hok : ∀ H', Same H1 H' → ok H') (hn : H1 A = none)
    (hs : ∀ i x Hc H', i < n → LcF H1 A f i Hc → item i x Hc H' → g x (wipe σ vs) H' fun σ2 H2 => wipe σ2 vs = wipe σ vs ∧ tt σ2 H2 fun b H3 =>
      if b = true then te σ2 H3 fun y H4 => ∃ acc, H4 A = some (.lst acc) ∧ acc.length < sizeLine ∧ LcF H1 A f (i + 1) (upd H4 A (.lst (acc ++ [y]))) else LcF H1 A f (i + 1) H3)
    (hd : ∀ H, Same H1 H → H A = some (.lst ((List.range n).filterMap f)) → Qd H) :
    ∃ W : Nat → Nat → Hp → Prop, (∃ m, W 0 m (upd H1 A (.lst []))) ∧ ∀ i m H, W i m H →
      (J.stop i H ∧ Qd H) ∨ (J.go i H ∧ ∃ Nx : Hp → Prop, (∀ H', Nx H' → ∃ m', m' < m ∧ W (i + 1) m' H') ∧ ∀ x H', J.yld i H x H' → g x (wipe σ vs) H' fun σ2 H2 => wipe σ2 vs = wipe σ vs ∧ tt σ2 H2 fun b H3 =>
        if b = true then te σ2 H3 fun y H4 => ∃ acc, H4 A = some (.lst acc) ∧ acc.length < sizeLine ∧ Nx (upd H4 A (.lst (acc ++ [y]))) else Nx H3) :=
  lc_by T (LcF H1 A f) ⟨same_new (Same.refl H1) hn, upd_same⟩ (fun i H _ p => hok H p.s) hs (fun H p => hd H p.s p.o)
end

/-! ### data -/
section
variable {K : PySem.W.Frag} {H H' : Hp}
theorem seqT_same {a : Addr} {xs : List V} (e : Same H H') (h : SqT K H a xs) : SqT K H' a xs := by
  rcases h with (h | ⟨o, h⟩) | h
  · exact .inl (.inl (e _ _ h))
  · exact .inl (.inr ⟨o, e _ _ h⟩)
  · exact .inr h
mutual
theorem dp_same (e : Same H H') : ∀ {v : V} {d : PyData}, Dp K H v d → Dp K H' v d
  | _, _, .non => .non
  | _, _, .bl b => .bl b
  | _, _, .int i => .int i
  | _, _, .str x => .str x
  | _, _, .lst h a => .lst (e.seq h) (dpAll_same e a)
  | _, _, .tup h a => .tup (seqT_same e h) (dpAll_same e a)
theorem dpAll_same (e : Same H H') : ∀ {vs : List V} {ds : List PyData}, DpAll K H vs ds → DpAll K H' vs ds
  | _, _, .nil => .nil
  | _, _, .cons a b => .cons (dp_same e a) (dpAll_same e b)
end
theorem dpAll_len : ∀ {vs : List V} {ds : List PyData}, DpAll K H vs ds → vs.length = ds.length
  | _, _, .nil => rfl
  | _, _, .cons _ b => congrArg Nat.succ (dpAll_len b)
theorem dpAll_get : ∀ {vs : List V} {ds : List PyData} {i : Nat} {v : V}, DpAll K H vs ds → vs[i]? = some v → ∃ d, ds[i]? = some d ∧ Dp K H v d
  | _, _, i, _, .nil, e => by simp at e
  | _, _, 0, _, .cons a _, e => by simp at e; subst e; exact ⟨_, rfl, a⟩
  | _, _, i + 1, _, .cons _ b, e => by
    obtain ⟨d, h1, h2⟩ := dpAll_get (i := i) b (by simpa using e)
    exact ⟨d, by simpa using h1, h2⟩
theorem dpAll_snoc : ∀ {vs : List V} {ds : List PyData} {v : V} {d : PyData}, DpAll K H vs ds → Dp K H v d → DpAll K H (vs ++ [v]) (ds ++ [d])
  | _, _, _, _, .nil, h => .cons h .nil
  | _, _, _, _, .cons a b, h => .cons a (dpAll_snoc b h)
theorem dp_int {v : V} {i : Int} (h : Dp K H v (.int i)) : v = .int i := by cases h; rfl
theorem dp_lst {v : V} {ds : List PyData} (h : Dp K H v (.list ds)) : ∃ a xs, v = .ref a ∧ SqL K H a xs ∧ DpAll K H xs ds := by cases h with | lst a b => exact ⟨_, _, rfl, a, b⟩
theorem dp_tup {v : V} {ds : List PyData} (h : Dp K H v (.tuple ds)) : ∃ a xs, v = .ref a ∧ SqT K H a xs ∧ DpAll K H xs ds := by cases h with | tup a b => exact ⟨_, _, rfl, a, b⟩
theorem ints_dpAll : ∀ (ns : List Int), DpAll K H (ns.map V.int) (ns.map .int)
  | [] => .nil
  | n :: ns => .cons (.int n) (ints_dpAll ns)
theorem dp_pair {v : V} {i j : Int} (h : Dp K H v (.tuple [.int i, .int j])) : ∃ a, v = .ref a ∧ SqT K H a [.int i, .int j] := by
  obtain ⟨a, xs, rfl, h1, h2⟩ := dp_tup h
  cases h2 with
  | cons p h3 => cases h3 with
    | cons q h4 =>
      cases h4
      cases dp_int p; cases dp_int q
      exact ⟨a, rfl, h1⟩
theorem pair_dp {a : Addr} {i j : Int} (h : SqT K H a [.int i, .int j]) : Dp K H (.ref a) (.tuple [.int i, .int j]) := .tup h (.cons (.int i) (.cons (.int j) .nil))
/-- the heap without what stands at A -/
def del (H : Hp) (A : Addr) : Hp := fun b => if b = A then none else H b
theorem del_same {A : Addr} : Same (del H A) H := fun b o e => by
  unfold del at e
  by_cases c : b = A
  · rw [if_pos c] at e; cases e
  · rw [if_neg c] at e; exact e
theorem del_at {A b : Addr} {o : HO} (h : H b = some o) (n : b ≠ A) : del H A b = some o := by unfold del; rw [if_neg n]; exact h
theorem del_upd {A : Addr} {o : HO} : del (upd H A o) A = del H A := by
  funext b
  unfold del
  by_cases c : b = A
  · rw [if_pos c, if_pos c]
  · rw [if_neg c, if_neg c, upd_ne c]
theorem del_mono {A : Addr} (e : Same H H') : Same (del H A) (del H' A) := fun b o h => by
  unfold del at h ⊢
  by_cases c : b = A
  · rw [if_pos c] at h; cases h
  · rw [if_neg c] at h ⊢; exact e b o h
end

/-! ### a comprehension of data -/
structure LcD (K : PySem.W.Frag) (H1 : Hp) (A : Addr) (f : Nat → Option PyData) (i : Nat) (H : Hp) : Prop where
  s : Same H1 H
  ex : ∃ acc, H A = some (.lst acc) ∧ DpAll K (del H A) acc ((List.range i).filterMap f)
section
variable {K : PySem.W.Frag} {J : It} {n : Nat} {ok : Hp → Prop} {item : Nat → V → Hp → Hp → Prop} {g : TG} {σ : St} {tt : TT} {te : TE} {vs : List Nat} {H1 : Hp} {A : Addr} {Qd : Hp → Prop}
theorem lcD_len (f : Nat → Option PyData) (i : Nat) : ((List.range i).filterMap f).length ≤ i := by
  have := List.length_filterMap_le f (List.range i)
  rwa [List.length_range] at this
theorem LcD.keep {f : Nat → Option PyData} {i : Nat} {Hc H4 : Hp} {y : V} {d : PyData} (h : LcD K H1 A f i Hc) (n : H1 A = none) (s : Same Hc H4) (hf : f i = some d) (hy : Dp K (del H4 A) y d) (hi : i ≤ 100000) :
    ∃ acc, H4 A = some (.lst acc) ∧ acc.length < sizeLine ∧ LcD K H1 A f (i + 1) (upd H4 A (.lst (acc ++ [y]))) := by
  obtain ⟨acc, ho, ha⟩ := h.ex
  refine ⟨acc, s _ _ ho, small (by rw [dpAll_len ha]; exact Nat.le_trans (lcD_len f i) hi), same_upd (h.s.trans s) n, acc ++ [y], upd_same, ?_⟩
  rw [del_upd, List.range_succ, List.filterMap_append]
  have e : List.filterMap f [i] = [d] := by simp [hf]
  rw [e]
  exact dpAll_snoc (dpAll_same (del_mono s) ha) hy
theorem LcD.skip {f : Nat → Option PyData} {i : Nat} {Hc H4 : Hp} (h : LcD K H1 A f i Hc) (s : Same Hc H4) (hf : f i = none) : LcD K H1 A f (i + 1) H4 := by
  obtain ⟨acc, ho, ha⟩ := h.ex
  refine ⟨h.s.trans s, acc, s _ _ ho, ?_⟩
  rw [List.range_succ, List.filterMap_append]
  have e : List.filterMap f [i] = [] := by simp [hf]
  rw [e, List.append_nil]
  exact dpAll_same (del_mono s) ha
theorem lc_data (f : Nat → Option PyData) (T : Turns J n ok item) (hok : ∀ H', Same H1 H' → ok H') (hn : H1 A = none)
    (hs : ∀ i x Hc H', i < n → LcD K H1 A f i Hc → item i x Hc H' → g x (wipe σ vs) H' fun σ2 H2 => wipe σ2 vs = wipe σ vs ∧ tt σ2 H2 fun b H3 =>
      if b = true then te σ2 H3 fun y H4 => ∃ acc, H4 A = some (.lst acc) ∧ acc.length < sizeLine ∧ LcD K H1 A f (i + 1) (upd H4 A (.lst (acc ++ [y]))) else LcD K H1 A f (i + 1) H3)
    (hd : ∀ H acc, Same H1 H → H A = some (.lst acc) → DpAll K (del H A) acc ((List.range n).filterMap f) → Qd H) :
    ∃ W : Nat → Nat → Hp → Prop, (∃ m, W 0 m (upd H1 A (.lst []))) ∧ ∀ i m H, W i m H →
      (J.stop i H ∧ Qd H) ∨ (J.go i H ∧ ∃ Nx : Hp → Prop, (∀ H', Nx H' → ∃ m', m' < m ∧ W (i + 1) m' H') ∧ ∀ x H', J.yld i H x H' → g x (wipe σ vs) H' fun σ2 H2 => wipe σ2 vs = wipe σ vs ∧ tt σ2 H2 fun b H3 =>
        if b = true then te σ2 H3 fun y H4 => ∃ acc, H4 A = some (.lst acc) ∧ acc.length < sizeLine ∧ Nx (upd H4 A (.lst (acc ++ [y]))) else Nx H3) :=
  lc_by T (LcD K H1 A f) ⟨same_new (Same.refl H1) hn, [], upd_same, .nil⟩ (fun i H _ p => hok H p.s) hs (fun H p => p.ex.elim fun acc e => hd H acc p.s e.1 e.2)
end

/-! ### further steps -/
section
variable {K : PySem.W.Frag} {te : TE} {a1 : TA} {σ : St} {H : Hp} {R : It → Hp → Prop} {Qs : St → Hp → Prop} {g : TG} {u : TGs} {v : V} {r xs : List V} {n : Nat} {a : Addr}
theorem x_iEnum (h : a1 σ H fun vs H1 => ∃ a xs, vs = [.ref a] ∧ SqL K H1 a xs ∧ R (Ite K a) H1) : iEnum K a1 σ H R := h
theorem x_iZip (h : a1 σ H fun vs H1 => ∃ a b xs ys, vs = [.ref a, .ref b] ∧ SqL K H1 a xs ∧ SqL K H1 b ys ∧ R (Itz K a b) H1) : iZip K a1 σ H R := h
theorem x_iZipA (h : a1 σ H fun vs H1 => ∃ a b xs ys, vs = [.ref a, .ref b] ∧ ((SqL K H1 a xs ∧ SqL K H1 b ys ∧ R (Itz K a b) H1) ∨ (SqT K H1 a xs ∧ SqT K H1 b ys ∧ R (RZ.ItzT K a b) H1))) : RZ.iZipA K a1 σ H R := h
theorem x_iTup (h : te σ H fun x H1 => ∃ a, x = .ref a ∧ (∃ xs, SqT K H1 a xs) ∧ R (Itt K a) H1) : iTup K te σ H R := h
theorem x_gtup (e : SqT K H a xs) (l : xs.length = n) (h : u xs σ H Qs) : gTup K n u (.ref a) σ H Qs := ⟨a, xs, rfl, e, l, h⟩
theorem x_gcons (h : g v σ H fun σ' H' => u r σ' H' Qs) : gCons g u (v :: r) σ H Qs := ⟨v, r, rfl, h⟩
theorem x_gnil (h : Qs σ H) : gNil [] σ H Qs := ⟨rfl, h⟩
theorem x_gsub {to ti : TE} {t : TSet} (h : to σ H fun o H1 => ti σ H1 fun i H2 => t o i v H2 fun H3 => Qs σ H3) : gSub to ti t v σ H Qs := h
theorem x_setL {p : Addr} {xs : List V} {k : Int} {Qh : Hp → Prop} (e : H p = some (.lst xs)) (h0 : 0 ≤ k) (h1 : k < xs.length) (h : Qh (upd H p (.lst (xs.set k.toNat v)))) : rSetL (.ref p) (.int k) v H Qh := by
  refine ⟨p, xs, k, k.toNat, rfl, rfl, e, ?_, h⟩
  unfold ixN
  rw [if_pos h0, if_pos h1]
theorem x_insert {p : Addr} {xs : List V} {k : Int} {Q : VK} (e : H p = some (.lst xs)) (z : xs.length < sizeLine) (h0 : 0 ≤ k) (h1 : k < 2 ^ 63) (h : Q .non (upd H p (.lst (xs.take k.toNat ++ [v] ++ xs.drop k.toNat)))) : rInsert (.ref p) [.int k, v] H Q := ⟨p, xs, k, v, rfl, rfl, e, z, h0, h1, h⟩
theorem x_yes {Qb : Bool → Hp → Prop} (h : Qb true H) : tYes σ H Qb := h
theorem x_lc {wi : TI} {tt : TT} {te : TE} {vs : List Nat} {Q : VK} (h : wi σ H fun J H1 => ∀ D, H1 D = none → ∃ W : Nat → Nat → Hp → Prop, (∃ m, W 0 m (upd H1 D (.lst []))) ∧ ∀ i m H, W i m H →
  (J.stop i H ∧ Q (.ref D) H) ∨ (J.go i H ∧ ∃ Nx : Hp → Prop, (∀ H', Nx H' → ∃ m', m' < m ∧ W (i + 1) m' H') ∧ ∀ x H', J.yld i H x H' → g x (wipe σ vs) H' fun σ2 H2 => wipe σ2 vs = wipe σ vs ∧ tt σ2 H2 fun b H3 =>
    if b = true then te σ2 H3 fun y H4 => ∃ acc, H4 D = some (.lst acc) ∧ acc.length < sizeLine ∧ Nx (upd H4 D (.lst (acc ++ [y]))) else Nx H3)) : tLc wi g tt te vs σ H Q := h
theorem x_wipe {P : Prop} {σ' : St} (e : σ' = σ) (h : P) : σ' = σ ∧ P := ⟨e, h⟩
end
/-! ### slices, defs that are not called, windows -/
section
variable {K : PySem.W.Frag} {te : TE} {tl th : TO} {σ : St} {H : Hp} {Q : VK} {v : V}
theorem x_sl {r : V → Option Int → Option Int → Hp → VK → Prop} (h : te σ H fun x H1 => tl σ H1 fun l H2 => th σ H2 fun u H3 => r x l u H3 Q) : tSl r te tl th σ H Q := h
theorem x_nopart {Qo : Option Int → Hp → Prop} (h : Qo none H) : tNoPart σ H Qo := h
theorem x_part {Qo : Option Int → Hp → Prop} (h : te σ H fun x H1 => ∃ i, x = .int i ∧ Qo (some i) H1) : tPart te σ H Qo := h
theorem x_isI {i : Int} {P : Int → Prop} (h : P i) : ∃ j, V.int i = .int j ∧ P j := ⟨i, rfl, h⟩
theorem al_slL {a : Addr} {xs : List V} {lo hi : Option Int} (e : SqL K H a xs) (h : ∀ p H', H p = none → Same H H' → H' p = some (.lst (cutV xs lo hi)) → Q (.ref p) H') : rSlL K (.ref a) lo hi H Q := ⟨a, xs, rfl, e, fun p n => h p _ n (same_new (Same.refl H) n) upd_same⟩
theorem cutV_from {xs : List V} {i : Nat} : cutV xs (some (i : Int)) none = xs.drop i := by
  unfold cutV HT.sIx
  have h : ¬ ((i : Int) < 0) := by omega
  simp only [if_neg h, Int.toNat_natCast]
  by_cases c : i ≤ xs.length
  · rw [Nat.min_eq_left c, List.take_of_length_le]
    rw [List.length_drop]; exact Nat.le_refl _
  · have c' : xs.length ≤ i := by omega
    rw [Nat.min_eq_right c', List.drop_of_length_le c', List.drop_of_length_le (Nat.le_refl _)]
    simp
theorem al_from {a : Addr} {xs : List Int} {i : Nat} {j : Int} (e : SqL K H a (xs.map V.int)) (hj : j = i) (h : ∀ p H', H p = none → Same H H' → H' p = some (.lst ((xs.drop i).map V.int)) → Q (.ref p) H') : rSlL K (.ref a) (some j) none H Q :=
  al_slL e fun p H' n s o => h p H' n s (by subst hj; rw [cutV_from] at o; rw [List.map_drop]; exact o)
end
theorem fn_false {P : Program} {w : World} {K : PySem.W.Frag} {mg : Str → Option Value} {base : Heap} {CX : CXT} {k : Nat} {f : Addr} {fd : FuncData} {ps : List Str} : FnOk P w K mg base CX k f fd ps (fun _ _ _ _ => False) := by
  exact ⟨fun _ _ _ _ h => h.elim, fun _ _ _ _ _ _ _ _ _ _ _ _ _ h => h.elim⟩
/-- a list of windows, as data -/
def dPair (w : Int × Int) : PyData := .tuple [.int w.1, .int w.2]
def dWin (ws : List (Int × Int)) : PyData := .list (ws.map dPair)
section
variable {K : PySem.W.Frag} {H H' : Hp}
theorem win_at {v : V} {ws : List (Int × Int)} (h : Dp K H v (dWin ws)) : ∃ (a : Addr) (xs : List V), v = V.ref a ∧ SqL K H a xs ∧ xs.length = ws.length ∧ ∀ (i : Nat) (x : V), xs[i]? = some x → ∃ (w : Int × Int) (t : Addr), ws[i]? = some w ∧ x = V.ref t ∧ SqT K H t [.int w.1, .int w.2] := by
  obtain ⟨a, xs, rfl, h1, h2⟩ := dp_lst h
  refine ⟨a, xs, rfl, h1, by rw [dpAll_len h2, List.length_map], fun i x e => ?_⟩
  obtain ⟨d, e1, e2⟩ := dpAll_get h2 e
  rw [List.getElem?_map] at e1
  cases hw : ws[i]? with
  | none => rw [hw] at e1; cases e1
  | some w =>
    rw [hw] at e1
    cases e1
    obtain ⟨t, rfl, ht⟩ := dp_pair e2
    exact ⟨w, t, rfl, rfl, ht⟩
end
/-! ### list(range(..)), sorted, lists of ints as data -/
section
variable {K : PySem.W.Frag} {te ta : TE} {σ : St} {H : Hp} {Q : VK} {v : V}
def AlRg (Q : VK) (a b : Int) (H : Hp) : Prop := RgOk a b ∧ ∀ q, H q = none → Q (.ref q) (upd H q (.lst (rgV a b)))
theorem x_lstRg {tr : St → Hp → (Int → Int → Hp → Prop) → Prop} (h : tr σ H (AlRg Q)) : tLstRg tr σ H Q := h
theorem x_rg1 {R : Int → Int → Hp → Prop} (h : ta σ H fun x H1 => ∃ n, x = .int n ∧ R 0 n H1) : tRg1 ta σ H R := h
end
def dInts (l : List Int) : PyData := .list (l.map .int)
theorem dp_ints {K : PySem.W.Frag} {H : Hp} {a : Addr} {ns : List Int} (h : SqL K H a (ns.map V.int)) : Dp K H (.ref a) (dInts ns) := .lst h (ints_dpAll ns)
/-! own exceptions made without arguments, raised and caught -/
section
variable {X : Cx} {x : Str} {p pos pos' : Pos}
/-- what the top says of an own exception class without __init__ -/
structure Xc (K : PySem.W.Frag) (mg : Str → Option Value) (x : Str) : Prop where
  q : PySem.W.excIn K (He.ga K x) He.veBase "ValueError.__new__" = true
  g : mg x = some (.ref (He.ga K x))
  k : PySem.W.keepIn K (.ref (He.ga K x)) = true
  s : PySem.W.subIn K (.ref (He.ga K x)) (.type "BaseException") = some true
  t : PySem.W.typeIn K (.ref (He.ga K x)) = some (.type "type")
theorem Xc.val {K : PySem.W.Frag} {mg : Str → Option Value} (h : Xc K mg x) : ∃ u, mg x = some u ∧ RelV (.ref (He.ga K x)) u := ⟨_, h.g, rfl⟩
theorem pmk_own0 (T : Xc X.K X.mg x) (hg : Gl X x) (hdb : (x == ("__debug__" : Str)) = false := by decide) : PMk X (.Call (.Name x p) [] [] pos) (fun _ H Q => Q (.ref (He.ga X.K x)) none H) := by
  intro pins s σ H Q I h
  refine wpAny_Call_Name_kw (ld_glob I hg T.g ?_ hdb)
  refine PySem.W.callWith_K0 I.kIn T.k ?_
  show wpAny _ _ (call (.ref (He.ga X.K x)) []) _ _ _
  obtain ⟨bm, N, nm, qn, bs, hdct, sn, sub, ab, col, dd, k0, k1, k2, k3, k5, mN, hC, hN, hni, T'⟩ := exc_obj I.kIn T.q
  refine PySem.wpAny_call_exc_subT PySem.F.excBase_ValueError T' hC hN hni (fun h' e hm => ?_) (Nat.zero_le _)
  exact mk_of I hm (raises_own T.s T.t) h (I.hok.gone hm.new)
abbrev wE (E : XK) : WX := fun cls d _ H => E cls d H
def tRaise (C : Addr) (W : WX) : TS := fun _ σ H => W (.ref C) none σ H
theorem ps_raise0 {W : WX} (hc : X.calm = true) (tk : Takes X W) (T : Xc X.K X.mg x) (hg : Gl X x) (hdb : (x == ("__debug__" : Str)) = false := by decide) :
    PS X (.Raise (some (.Call (.Name x p) [] [] pos)) none pos') (tRaise (He.ga X.K x) W) := ps_raise hc tk (pmk_own0 T hg hdb)
theorem pass_tk {E : XK} (tk : Takes X (wE E)) : Passes (L2.CX X.prog X.w) X E := fun pins σ H s e s' I c => passAt tk σ pins H s e s' I c
def tTryAs (K : PySem.W.Frag) (c : Value) (i : Nat) (ts : Addr → Value → Option Addr → TS) (Wout : WX) (tb : WX → TS) : TS := fun D σ H => tb (wAs K c i ts Wout D) D σ H
end
section
variable {X : Cx} {CX : CXT} {k j : Nat} {sp : Sp} {E : St → XK} {x : Str} {p pos : Pos} {e : Expr} {es : List Expr} {t : TA}
theorem x_callS {σ : St} {H : Hp} {Q : VK} (h : t σ H fun vs H1 => sp vs H1 Q (E σ)) : tCallS sp E t σ H Q := h
theorem x_tryAs {K : PySem.W.Frag} {c : Value} {i : Nat} {ts : Addr → Value → Option Addr → TS} {Wout : WX} {tb : WX → TS} {D : Ends} {σ : St} {H : Hp} (h : tb (wAs K c i ts Wout D) D σ H) : tTryAs K c i ts Wout tb D σ H := h
end
/-- what is asked of the own exception classes cs (all under SusuError alone) -/
def excCB (K : PySem.W.Frag) (D : Addr) : Bool :=
  decide (PySem.W.findIn K (.ref D) "__getattribute__" = some (some (.builtin "BaseException.__getattribute__"))) && (decide (PySem.W.findIn K (.ref D) "__getattr__" = some none) &&
  (decide (PySem.W.subIn K (.ref D) (.type "BaseException") = some true) && (PySem.W.hasDictIn K D && (decide (PySem.W.findIn K (.ref D) "__class__" = some (some (.builtin "object.__class__"))) &&
  (decide (PySem.W.specialIn K (.builtin "object.__class__") "__get__" = some (some (.builtin "getset_descriptor.__get__"))) && (decide (PySem.W.takesIn K (.builtin "object.__class__") = some true) && decide (PySem.W.mroIn K D (.type "object") = some true)))))))
def xfB (K : PySem.W.Frag) (cs : List Str) : Bool := cs.all fun x => excCB K (He.ga K x) && (decide (PySem.W.exmOne K (.ref (He.ga K x)) (.ref (He.ga K "SusuError")) = some true) && (decide (PySem.W.kitOne K (.ref (He.ga K x)) (.type "ValueError") = some true) &&
  cs.all fun y => decide (PySem.W.kitOne K (.ref (He.ga K x)) (.ref (He.ga K y)) = some (x == y))))
/-- o[i] of a list, for o[i] op= e -/
theorem get_list {X : Cx} : PGet X (rIxL X.K) := by
  intro pins s σ H o i ov iv Q I ro ri h
  obtain ⟨p, xs, k, z, rfl, rfl, hq, he, q⟩ := h
  cases ro
  obtain ⟨t, rfl⟩ := ri
  obtain ⟨its, r, pl, hz⟩ := I.list hq
  obtain ⟨j, h1, h2, h3, h4, h5⟩ := atI_get he
  obtain ⟨w, ew, rw'⟩ := r.get h2
  have hl := r.length
  have hn := line63
  have fin : EP X pins σ Q w s := ⟨z, H, I, rw', q⟩
  by_cases h0 : 0 ≤ k
  · have hj : k.toNat = j := by
      rw [PySem.seqIndex_of h0 h5] at h1
      exact Option.some.inj h1
    exact PySem.wpAny_getItem_list pl.isList h0 (by omega) (by rw [hj]; simpa using ew) fin
  · have hj : (k + (its.toArray.size : Int)).toNat = j := by
      rw [PySem.seqIndex_neg (by omega) h4] at h1
      rw [List.size_toArray, ← hl]
      exact Option.some.inj h1
    exact PySem.wpAny_getItem_list_neg pl.isList (by omega) (by rw [List.size_toArray] <;> omega) (by omega) (by rw [hj]; simpa using ew) fin
theorem x_augS {to ti te : TE} {tget : V → V → Hp → VK → Prop} {tip : TIp} {tset : TSet} {D : Ends} {σ : St} {H : Hp} (h : to σ H fun o H1 => ti σ H1 fun i H2 => tget o i H2 fun x H3 => te σ H3 fun y H4 => tip x y H4 fun z H5 => tset o i z H5 fun H6 => D.nx σ H6) : tAugS to ti te tget tip tset D σ H := h
theorem x_aug {te : TE} {ti : TIp} {D : Ends} {σ : St} {H : Hp} {i : Nat} {v : V} (e : σ[i]? = some (some v)) (h : te σ H fun y H1 => ti v y H1 fun z H2 => D.nx (σ.set i (some z)) H2) : tAug i te ti D σ H := ⟨v, e, h⟩
theorem x_ipI {f : Int → Int → Int} {i j : Int} {H : Hp} {Q : VK} (h : Q (.int (f i j)) H) : ipI f (.int i) (.int j) H Q := ⟨i, j, rfl, rfl, h⟩
end Su
namespace Su
open PySem L2
local macro_rules | `(tactic| walk_at "side") => `(tactic| first | assumption | (show (0 : Int) < _; omega) | (show (0 : Int) ≤ _; omega) | (show (0 : Int) < _; split <;> omega) | (show _ ∨ _; omega) | (show _ ∧ _; omega) | exact ⟨by decide, by decide, by decide⟩ | exact ⟨by first | assumption | omega, by first | assumption | omega⟩)
local macro_rules | `(tactic| walk_at "xs") => `(tactic| repeat walk_at "x")
local macro_rules | `(tactic| walk_at "if") => `(tactic| first | with_reducible refine Su.x_iteD (fun c => ?_) (fun c => ?_) | with_reducible refine Su.x_iteN (fun c => ?_) (fun c => ?_) | with_reducible refine Su.x_ite (fun c => ?_) (fun c => ?_))

/-! what K says of NoOrder -/
abbrev nxC (K : PySem.W.Frag) : Addr := He.ga K "NoOrder"
structure NxC (K : PySem.W.Frag) : Prop where
  x : OexC K (nxC K)
  i : PySem.W.findIn K (.ref (nxC K)) "__init__" = some (some (.ref (He.fAd K ("NoOrder", some "__init__"))))
  t : PySem.W.typeIn K (.ref (He.fAd K ("NoOrder", some "__init__"))) = some (.type "function")
  f1 : PySem.W.findIn K (.ref (nxC K)) "early" = some none
  f2 : PySem.W.findIn K (.ref (nxC K)) "late" = some none
  f3 : PySem.W.findIn K (.ref (nxC K)) "crowd" = some none
  fx : XfC K (nxC K)
def nxCls (K : PySem.W.Frag) : Bool := match K.lookup (nxC K) with
  | some ⟨.type "type", _, .cls cd, sl⟩ => (match cd.mro, sl.toList with
    | .ref C' :: bm, [_, _, _, _, some (.builtin n), _] => C' == nxC K && (n == "ValueError.__new__" && (!cd.hasDel && (cd.hasDict && PySem.HandSPX.refsVE bm)))
    | _, _ => false)
  | _ => false
def nxB (K : PySem.W.Frag) : Bool := nxCls K && (decide (PySem.W.findIn K (.ref (nxC K)) "__setattr__" = some (some (.builtin "object.__setattr__"))) && (decide (PySem.W.typeIn K (.ref (nxC K)) = some (.type "type")) && (PySem.W.keepIn K (.ref (nxC K)) &&
  (decide (PySem.W.findIn K (.ref (nxC K)) "__init__" = some (some (.ref (He.fAd K ("NoOrder", some "__init__"))))) && (decide (PySem.W.typeIn K (.ref (He.fAd K ("NoOrder", some "__init__"))) = some (.type "function")) && (decide (PySem.W.findIn K (.ref (nxC K)) "early" = some none) &&
  (decide (PySem.W.findIn K (.ref (nxC K)) "late" = some none) && (decide (PySem.W.findIn K (.ref (nxC K)) "crowd" = some none) && L2.xfB K (nxC K)))))))))
theorem nxCls_ok {K : PySem.W.Frag} (h : nxCls K = true) : ∃ nm q N bs bm sn sub ab col dd k0 k1 k2 k3 k5, K.lookup (nxC K) = some (excClassObj nm q (nxC K) N bs bm true sn sub ab col dd k0 k1 k2 k3 k5 "ValueError.__new__") ∧ PySem.HandSPX.refsVE bm = true := by
  unfold nxCls at h
  split at h
  · rename_i dd cd sl ho
    split at h
    · rename_i C' bm k0 k1 k2 k3 n k5 hm hs
      simp only [Bool.and_eq_true, beq_iff_eq, Bool.not_eq_true'] at h
      obtain ⟨h1, h2, h3, h4, h5⟩ := h
      subst h1 h2
      obtain ⟨nm, bs, mro, ns, qn, hd, sn, sb, ab, col, del⟩ := cd
      dsimp only at hm h3 h4
      subst hm h3 h4
      refine ⟨nm, qn, ns, bs, bm, sn, sb, ab, col, dd, k0, k1, k2, k3, k5, ?_, h5⟩
      rw [ho]
      have : sl = #[k0, k1, k2, k3, some (.builtin "ValueError.__new__"), k5] := by
        apply Array.toList_inj.mp
        rw [hs]
      rw [this]
    · cases h
  · cases h
theorem nx_of {K : PySem.W.Frag} (h : nxB K = true) : NxC K := by
  unfold nxB at h
  simp only [Bool.and_eq_true, decide_eq_true_eq] at h
  obtain ⟨h1, h2, h3, h4, h5, h6, h7, h8, h9, h10⟩ := h
  have fx := L2.xfB_ok h10
  exact ⟨⟨nxCls_ok h1, h2, fx.exC, h3, h4⟩, h5, h6, h7, h8, h9, fx⟩
end Su
namespace Su
open PySem L2
local macro_rules | `(tactic| walk_at "side") => `(tactic| first | assumption | (show (0 : Int) < _; omega) | (show (0 : Int) ≤ _; omega) | (show (0 : Int) < _; split <;> omega) | (show _ ∨ _; omega) | (show _ ∧ _; omega) | exact ⟨by decide, by decide, by decide⟩ | exact ⟨by first | assumption | omega, by first | assumption | omega⟩)
local macro_rules | `(tactic| walk_at "xs") => `(tactic| repeat walk_at "x")
local macro_rules | `(tactic| walk_at "if") => `(tactic| first | with_reducible refine Su.x_iteD (fun c => ?_) (fun c => ?_) | with_reducible refine Su.x_iteN (fun c => ?_) (fun c => ?_) | with_reducible refine Su.x_ite (fun c => ?_) (fun c => ?_))

/-! a hook over all objects that stand when the program has run -/
def obsY (N : Nat) (fa1 fa2 : List He.Fa) (fn : List He.DefD) (ex : PySem.W.Frag → Bool) (g : Addr → Option Obj) : Bool × He.AlD × Bool :=
  ((fa1.all fun f => f.ok (He.frT g (List.range N))), He.obsD fa2 fn (He.frT g (List.range N)), ex (He.frT g (List.range N)))
theorem says_two {fa1 fa2 : List He.Fa} {fn : List He.DefD} {K : PySem.W.Frag} (h1 : (fa1.all fun f => f.ok K) = true) (h2 : He.obsD fa2 fn K = He.valD fn) : He.SaysD (fa1 ++ fa2) fn K := by
  have e1 : (fa2.all (fun f => f.ok K) && fn.all fun d => d.ok K) = true := congrArg (fun z : He.AlD => z.1) h2
  have e2 : (fn.map fun d => He.fnW K d.at_) = fn.map He.DefD.val := congrArg (fun z : He.AlD => z.2) h2
  show He.obsD (fa1 ++ fa2) fn K = He.valD fn
  unfold He.obsD He.valD
  rw [List.all_append, h1, Bool.true_and, e1, e2]
def hookY (N : Nat) (fa1 fa2 : List He.Fa) (fn : List He.DefD) (ex : PySem.W.Frag → Bool) : PySem.W.Hook where
  α := Bool × He.AlD × Bool
  obs := fun s => obsY N fa1 fa2 fn ex s.heap.get?
  val := fun _ => (true, He.valD fn, true)
  says := fun _ h => ∃ K : PySem.W.Frag, K.In h ∧ (He.SaysD (fa1 ++ fa2) fn K ∧ ex K = true)
  of := fun _ _ e => ⟨_, He.frT_in, says_two (congrArg (fun z : Bool × He.AlD × Bool => z.1) e) (congrArg (fun z : Bool × He.AlD × Bool => z.2.1) e), congrArg (fun z : Bool × He.AlD × Bool => z.2.2) e⟩
  keeps := fun _ _ _ ⟨K, hK, c⟩ k => ⟨K, PySem.W.Frag.In.keeps hK k, c⟩
theorem obsY_eq {N : Nat} {fa1 fa2 : List He.Fa} {fn : List He.DefD} {ex : PySem.W.Frag → Bool} {g : Addr → Option Obj} {s : Shared} (h : ∀ a, g a = s.heap.get? a) : obsY N fa1 fa2 fn ex g = (hookY N fa1 fa2 fn ex).obs s := by
  have e : g = s.heap.get? := funext h
  rw [e]; rfl
theorem opt5 {α β γ δ ε ζ : Type} {o : Option α} {f : α → β} {g : α → γ} {h : α → δ × ε × ζ} {a : β} {b : γ} {c1 : δ} {c2 : ε} {c3 : ζ} (h1 : o.map f = some a) (h2 : o.map g = some b) (h3 : o.map (fun s => (h s).1) = some c1) (h4 : o.map (fun s => (h s).2.1) = some c2) (h5 : o.map (fun s => (h s).2.2) = some c3) : o.map (fun s => (f s, g s, h s)) = some (a, b, c1, c2, c3) := by
  cases o with
  | none => cases h1
  | some x =>
    cases h1; cases h2
    have e3 : (h x).1 = c1 := Option.some.inj h3
    have e4 : (h x).2.1 = c2 := Option.some.inj h4
    have e5 : (h x).2.2 = c3 := Option.some.inj h5
    show some (f x, g x, h x) = _
    rw [show h x = ((h x).1, (h x).2.1, (h x).2.2) from rfl, e3, e4, e5]
/-! a try that catches one own class by that class itself -/
section
variable {K : PySem.W.Frag} {c cls : Value} {ts : Addr → Value → Option Addr → TS} {Wout : WX} {tb : WX → TS} {D : Ends} {σ : St} {H : Hp} {d : Option Addr}
end

end Su
namespace Su
open PySem L2
def top (i : Nat) : Stmt := PySem.Challenge.pw_susu_k34_twin_circles.main.body.getD i (.Pass ⟨0, 0, 0, 0⟩)
abbrev s_NoOrder_init : Stmt := inClass (top 8) 0
abbrev s_check_opening : Stmt := top 19
abbrev s_first_covered : Stmt := top 10
abbrev s_within : Stmt := top 11
abbrev s_bar_of : Stmt := top 13
abbrev s_next_window : Stmt := top 12
abbrev s_order_or_bar : Stmt := top 14
abbrev s_Circle_init : Stmt := inClass (top 20) 0
abbrev s_Circle_ended : Stmt := inClass (top 20) 2
abbrev s_Circle_check_round : Stmt := inClass (top 20) 12
abbrev s_Circle_collect : Stmt := inClass (top 20) 15
abbrev s_Circle_covered_at : Stmt := inClass (top 20) 11
abbrev s_Circle_winner : Stmt := inClass (top 20) 16
abbrev s_Circle_draw : Stmt := inClass (top 20) 17
abbrev s_Circle_put_out : Stmt := inClass (top 20) 14
abbrev s_Circle_close : Stmt := inClass (top 20) 13
abbrev s_Circle_refunds : Stmt := inClass (top 20) 20
abbrev s_Circle_twin : Stmt := inClass (top 20) 21
abbrev s_Circle_box : Stmt := inClass (top 20) 5
abbrev s_Circle_check_seat : Stmt := inClass (top 20) 6
abbrev s_Circle_expected : Stmt := inClass (top 20) 9
abbrev s_Circle_flow : Stmt := inClass (top 20) 10
abbrev s_Circle_owed : Stmt := inClass (top 20) 8
abbrev s_Circle_queue : Stmt := inClass (top 20) 3
abbrev s_Circle_rests : Stmt := inClass (top 20) 4
abbrev s_Circle_seat : Stmt := inClass (top 20) 7
abbrev s_Circle_turn : Stmt := inClass (top 20) 1
abbrev s_law_same : Stmt := top 23
abbrev s_law_alike : Stmt := top 34
abbrev s_law_copy : Stmt := top 35
abbrev s_Circle_lay : Stmt := inClass (top 20) 18
abbrev s_Circle_swap : Stmt := inClass (top 20) 19
abbrev s_law_early : Stmt := top 26
abbrev s_law_people : Stmt := top 32
abbrev s_law_winner : Stmt := top 31
abbrev s_law_round : Stmt := top 33
abbrev s_law_done : Stmt := top 36
abbrev s_law_draws : Stmt := top 22
abbrev s_law_told_order : Stmt := top 25
abbrev s_law_new : Stmt := top 30
abbrev s_law_perm : Stmt := top 24
abbrev s_law_opening : Stmt := top 29
abbrev s_law_bits : Stmt := top 27
abbrev s_law_paid : Stmt := top 28
abbrev s_law : Stmt := top 37
def dd_NoOrder_init : He.DefD := ⟨("NoOrder", some "__init__"), "__init__", "NoOrder.__init__", defArgs s_NoOrder_init, defBody s_NoOrder_init, defScope s_NoOrder_init, [], []⟩
def dd_check_opening : He.DefD := ⟨("check_opening", none), "check_opening", "check_opening", defArgs s_check_opening, defBody s_check_opening, defScope s_check_opening, [], []⟩
def dd_first_covered : He.DefD := ⟨("first_covered", none), "first_covered", "first_covered", defArgs s_first_covered, defBody s_first_covered, defScope s_first_covered, [], []⟩
def dd_within : He.DefD := ⟨("within", none), "within", "within", defArgs s_within, defBody s_within, defScope s_within, [], []⟩
def dd_bar_of : He.DefD := ⟨("bar_of", none), "bar_of", "bar_of", defArgs s_bar_of, defBody s_bar_of, defScope s_bar_of, [], []⟩
def dd_next_window : He.DefD := ⟨("next_window", none), "next_window", "next_window", defArgs s_next_window, defBody s_next_window, defScope s_next_window, [], []⟩
def dd_order_or_bar : He.DefD := ⟨("order_or_bar", none), "order_or_bar", "order_or_bar", defArgs s_order_or_bar, defBody s_order_or_bar, defScope s_order_or_bar, [], []⟩
def dd_Circle_init : He.DefD := ⟨("Circle", some "__init__"), "__init__", "Circle.__init__", defArgs s_Circle_init, defBody s_Circle_init, defScope s_Circle_init, [.bl false], []⟩
def dd_Circle_ended : He.DefD := ⟨("Circle", some "ended"), "ended", "Circle.ended", defArgs s_Circle_ended, defBody s_Circle_ended, defScope s_Circle_ended, [], []⟩
def dd_Circle_check_round : He.DefD := ⟨("Circle", some "check_round"), "check_round", "Circle.check_round", defArgs s_Circle_check_round, defBody s_Circle_check_round, defScope s_Circle_check_round, [], []⟩
def dd_Circle_collect : He.DefD := ⟨("Circle", some "collect"), "collect", "Circle.collect", defArgs s_Circle_collect, defBody s_Circle_collect, defScope s_Circle_collect, [], []⟩
def dd_Circle_covered_at : He.DefD := ⟨("Circle", some "covered_at"), "covered_at", "Circle.covered_at", defArgs s_Circle_covered_at, defBody s_Circle_covered_at, defScope s_Circle_covered_at, [], []⟩
def dd_Circle_winner : He.DefD := ⟨("Circle", some "winner"), "winner", "Circle.winner", defArgs s_Circle_winner, defBody s_Circle_winner, defScope s_Circle_winner, [], []⟩
def dd_Circle_draw : He.DefD := ⟨("Circle", some "draw"), "draw", "Circle.draw", defArgs s_Circle_draw, defBody s_Circle_draw, defScope s_Circle_draw, [], []⟩
def dd_Circle_put_out : He.DefD := ⟨("Circle", some "put_out"), "put_out", "Circle.put_out", defArgs s_Circle_put_out, defBody s_Circle_put_out, defScope s_Circle_put_out, [], []⟩
def dd_Circle_close : He.DefD := ⟨("Circle", some "close"), "close", "Circle.close", defArgs s_Circle_close, defBody s_Circle_close, defScope s_Circle_close, [], []⟩
def dd_Circle_refunds : He.DefD := ⟨("Circle", some "refunds"), "refunds", "Circle.refunds", defArgs s_Circle_refunds, defBody s_Circle_refunds, defScope s_Circle_refunds, [], []⟩
def dd_Circle_twin : He.DefD := ⟨("Circle", some "twin"), "twin", "Circle.twin", defArgs s_Circle_twin, defBody s_Circle_twin, defScope s_Circle_twin, [], []⟩
def dd_Circle_box : He.DefD := ⟨("Circle", some "box"), "box", "Circle.box", defArgs s_Circle_box, defBody s_Circle_box, defScope s_Circle_box, [], []⟩
def dd_Circle_check_seat : He.DefD := ⟨("Circle", some "check_seat"), "check_seat", "Circle.check_seat", defArgs s_Circle_check_seat, defBody s_Circle_check_seat, defScope s_Circle_check_seat, [], []⟩
def dd_Circle_expected : He.DefD := ⟨("Circle", some "expected"), "expected", "Circle.expected", defArgs s_Circle_expected, defBody s_Circle_expected, defScope s_Circle_expected, [], []⟩
def dd_Circle_flow : He.DefD := ⟨("Circle", some "flow"), "flow", "Circle.flow", defArgs s_Circle_flow, defBody s_Circle_flow, defScope s_Circle_flow, [], []⟩
def dd_Circle_owed : He.DefD := ⟨("Circle", some "owed"), "owed", "Circle.owed", defArgs s_Circle_owed, defBody s_Circle_owed, defScope s_Circle_owed, [], []⟩
def dd_Circle_queue : He.DefD := ⟨("Circle", some "queue"), "queue", "Circle.queue", defArgs s_Circle_queue, defBody s_Circle_queue, defScope s_Circle_queue, [], []⟩
def dd_Circle_rests : He.DefD := ⟨("Circle", some "rests"), "rests", "Circle.rests", defArgs s_Circle_rests, defBody s_Circle_rests, defScope s_Circle_rests, [], []⟩
def dd_Circle_seat : He.DefD := ⟨("Circle", some "seat"), "seat", "Circle.seat", defArgs s_Circle_seat, defBody s_Circle_seat, defScope s_Circle_seat, [], []⟩
def dd_Circle_turn : He.DefD := ⟨("Circle", some "turn"), "turn", "Circle.turn", defArgs s_Circle_turn, defBody s_Circle_turn, defScope s_Circle_turn, [], []⟩
def dd_law_same : He.DefD := ⟨("_law_same", none), "_law_same", "_law_same", defArgs s_law_same, defBody s_law_same, defScope s_law_same, [], []⟩
def dd_law_alike : He.DefD := ⟨("_law_alike", none), "_law_alike", "_law_alike", defArgs s_law_alike, defBody s_law_alike, defScope s_law_alike, [], []⟩
def dd_law_copy : He.DefD := ⟨("_law_copy", none), "_law_copy", "_law_copy", defArgs s_law_copy, defBody s_law_copy, defScope s_law_copy, [], []⟩
def dd_Circle_lay : He.DefD := ⟨("Circle", some "lay"), "lay", "Circle.lay", defArgs s_Circle_lay, defBody s_Circle_lay, defScope s_Circle_lay, [], []⟩
def dd_Circle_swap : He.DefD := ⟨("Circle", some "swap"), "swap", "Circle.swap", defArgs s_Circle_swap, defBody s_Circle_swap, defScope s_Circle_swap, [], []⟩
def dd_law_early : He.DefD := ⟨("_law_early", none), "_law_early", "_law_early", defArgs s_law_early, defBody s_law_early, defScope s_law_early, [], []⟩
def dd_law_people : He.DefD := ⟨("_law_people", none), "_law_people", "_law_people", defArgs s_law_people, defBody s_law_people, defScope s_law_people, [], []⟩
def dd_law_winner : He.DefD := ⟨("_law_winner", none), "_law_winner", "_law_winner", defArgs s_law_winner, defBody s_law_winner, defScope s_law_winner, [], []⟩
def dd_law_round : He.DefD := ⟨("_law_round", none), "_law_round", "_law_round", defArgs s_law_round, defBody s_law_round, defScope s_law_round, [], []⟩
def dd_law_done : He.DefD := ⟨("_law_done", none), "_law_done", "_law_done", defArgs s_law_done, defBody s_law_done, defScope s_law_done, [], []⟩
def dd_law_draws : He.DefD := ⟨("_law_draws", none), "_law_draws", "_law_draws", defArgs s_law_draws, defBody s_law_draws, defScope s_law_draws, [], []⟩
def dd_law_told_order : He.DefD := ⟨("_law_told_order", none), "_law_told_order", "_law_told_order", defArgs s_law_told_order, defBody s_law_told_order, defScope s_law_told_order, [], []⟩
def dd_law_new : He.DefD := ⟨("_law_new", none), "_law_new", "_law_new", defArgs s_law_new, defBody s_law_new, defScope s_law_new, [], []⟩
def dd_law_perm : He.DefD := ⟨("_law_perm", none), "_law_perm", "_law_perm", defArgs s_law_perm, defBody s_law_perm, defScope s_law_perm, [], []⟩
def dd_law_opening : He.DefD := ⟨("_law_opening", none), "_law_opening", "_law_opening", defArgs s_law_opening, defBody s_law_opening, defScope s_law_opening, [], []⟩
def dd_law_bits : He.DefD := ⟨("_law_bits", none), "_law_bits", "_law_bits", defArgs s_law_bits, defBody s_law_bits, defScope s_law_bits, [], []⟩
def dd_law_paid : He.DefD := ⟨("_law_paid", none), "_law_paid", "_law_paid", defArgs s_law_paid, defBody s_law_paid, defScope s_law_paid, [], []⟩
def dd_law : He.DefD := ⟨("law", none), "law", "law", defArgs s_law, defBody s_law, defScope s_law, [], []⟩
def fns : List He.DefD := dd_NoOrder_init :: dd_check_opening :: dd_first_covered :: dd_within :: dd_bar_of :: dd_next_window :: dd_order_or_bar :: dd_Circle_init :: dd_Circle_ended :: dd_Circle_check_round :: dd_Circle_collect :: dd_Circle_covered_at :: dd_Circle_winner :: dd_Circle_draw :: dd_Circle_put_out :: dd_Circle_close :: dd_Circle_refunds :: dd_Circle_twin :: dd_Circle_box :: dd_Circle_check_seat :: dd_Circle_expected :: dd_Circle_flow :: dd_Circle_owed :: dd_Circle_queue :: dd_Circle_rests :: dd_Circle_seat :: dd_Circle_turn :: dd_law_same :: dd_law_alike :: dd_law_copy :: dd_Circle_lay :: dd_Circle_swap :: dd_law_early :: dd_law_people :: dd_law_winner :: dd_law_round :: dd_law_done :: dd_law_draws :: dd_law_told_order :: dd_law_new :: dd_law_perm :: dd_law_opening :: dd_law_bits :: dd_law_paid :: dd_law :: []
abbrev R : PySem.W.OpenRow := PySem.W.OpenLaw.row PySem.Challenge.rw_susu_k34_twin_circles
def fas1 : List He.Fa := .glo "check_opening" :: .glo "first_covered" :: .glo "within" :: .glo "bar_of" :: .glo "next_window" :: .glo "order_or_bar" :: .glo "_law_same" :: .glo "_law_alike" :: .glo "_law_copy" :: .glo "_law_early" :: .glo "_law_people" :: .glo "_law_winner" :: .glo "_law_round" :: .glo "_law_done" :: .glo "_law_draws" :: .glo "_law_told_order" :: .glo "_law_new" :: .glo "_law_perm" :: .glo "_law_opening" :: .glo "_law_bits" :: .glo "_law_paid" :: .glo "law" :: .free "abs" :: .free "all" :: .free "bool" :: .free "enumerate" :: .free "int" :: .free "isinstance" :: .free "len" :: .free "list" :: .free "max" :: .free "min" :: .free "range" :: .free "str" :: .free "tuple" :: .free "zip" :: .cls "Circle" :: .noat "Circle" "stake" :: .noat "Circle" "size" :: .noat "Circle" "bidding" :: .noat "Circle" "now" :: .noat "Circle" "line" :: .noat "Circle" "due" :: .noat "Circle" "chest" :: .noat "Circle" "state" :: []
def fas2 : List He.Fa := .noat "Circle" "when" :: .noat "Circle" "pledged" :: .noat "Circle" "given" :: .noat "Circle" "drawn" :: .noat "Circle" "shared" :: .noat "Circle" "missed" :: .noat "Circle" "flows" :: .mkr "Circle" :: .glo "Circle" :: .meth "Circle" "ended" :: .meth "Circle" "check_round" :: .meth "Circle" "collect" :: .meth "Circle" "covered_at" :: .meth "Circle" "winner" :: .meth "Circle" "draw" :: .meth "Circle" "put_out" :: .meth "Circle" "close" :: .meth "Circle" "refunds" :: .meth "Circle" "twin" :: .meth "Circle" "box" :: .meth "Circle" "check_seat" :: .meth "Circle" "expected" :: .meth "Circle" "flow" :: .meth "Circle" "owed" :: .meth "Circle" "queue" :: .meth "Circle" "rests" :: .meth "Circle" "seat" :: .meth "Circle" "turn" :: .meth "Circle" "lay" :: .meth "Circle" "swap" :: .int "MOST_COINS" 1000000000 :: .int "MOST_SEATS" 20 :: .int "MOST_STAKE" 1000000 :: .glo "BadNumber" :: .glo "Ended" :: .glo "NoOrder" :: .glo "NoSeat" :: .glo "NotEnded" :: .glo "NotWaiting" :: .glo "Uncovered" :: .exc "BadNumber" :: .exc "Ended" :: .exc "NoSeat" :: .exc "NotEnded" :: .exc "NotWaiting" :: .exc "Uncovered" :: []
abbrev fas : List He.Fa := fas1 ++ fas2
abbrev hx (K : PySem.W.Frag) : Bool := nxB K
abbrev hk : PySem.W.Hook := hookY 1500 fas1 fas2 fns hx
def ob (s : PySem.W.SharedT) : Bool × He.AlD × Bool := obsY 1500 fas1 fas2 fns hx (HandSHeadRun.getT s)
theorem ob_eq (s : PySem.W.SharedT) : ob s = hk.obs s.abs := obsY_eq (HandSHeadRun.getT_eq s)
def loose : List PySem.Str := "SusuError" :: "BadNumber" :: "NoSeat" :: "Ended" :: "NotEnded" :: "NotWaiting" :: "Uncovered" :: "NoOrder" :: "first_covered" :: "within" :: "next_window" :: "bar_of" :: "order_or_bar" :: "MOST_STAKE" :: "MOST_COINS" :: "MOST_SEATS" :: "check_opening" :: "Circle" :: "_law_draws" :: "_law_same" :: "_law_perm" :: "_law_told_order" :: "_law_early" :: "_law_bits" :: "_law_paid" :: "_law_opening" :: "_law_new" :: "_law_winner" :: "_law_people" :: "_law_round" :: "_law_alike" :: "_law_copy" :: "_law_done" :: []
open PySem.W PySem.Calls PyProof.Rows in
theorem runA (w : World) : ∀ os : OsState, (HandSHeadRun.endF (HandSHeadRun.stepQ (HandSHeadRun.denQ HandSHeadRun.tabQ) R.prog w) 9000 R.prog w os).map (fun s => HandSHeadRun.looksF R.prog (boot_heap w.params) s.abs) = some true := by
  intro os
  kernel_rfl
open PySem.W PySem.Calls PyProof.Rows in
theorem runB (w : World) : ∀ os : OsState, (HandSHeadRun.endF (HandSHeadRun.stepQ (HandSHeadRun.denQ HandSHeadRun.tabQ) R.prog w) 9000 R.prog w os).map (fun s => HandSHeadRun.seenQ (view R.prog [37]) loose (importedModules R.prog.main.body) (fun s => xlAt (view R.prog [37]) [] s && recOk R.toRowW.records s) s.abs) = some (openGood (view R.prog [37]) loose) := by
  intro os
  kernel_rfl
open PySem.W PySem.Calls PyProof.Rows in
theorem runC (w : World) : ∀ os : OsState, (HandSHeadRun.endF (HandSHeadRun.stepQ (HandSHeadRun.denQ HandSHeadRun.tabQ) R.prog w) 9000 R.prog w os).map (fun s => (ob s).1) = some true := by
  intro os
  kernel_rfl
open PySem.W PySem.Calls PyProof.Rows in
theorem runD (w : World) : ∀ os : OsState, (HandSHeadRun.endF (HandSHeadRun.stepQ (HandSHeadRun.denQ HandSHeadRun.tabQ) R.prog w) 9000 R.prog w os).map (fun s => (ob s).2.1) = some (He.valD fns) := by
  intro os
  kernel_rfl
open PySem.W PySem.Calls PyProof.Rows in
theorem runE (w : World) : ∀ os : OsState, (HandSHeadRun.endF (HandSHeadRun.stepQ (HandSHeadRun.denQ HandSHeadRun.tabQ) R.prog w) 9000 R.prog w os).map (fun s => (ob s).2.2) = some true := by
  intro os
  kernel_rfl
theorem run (w : World) : HandSHeadRun.RunEq R (PySem.W.view R.prog [37]) hk ob 9000 loose w := fun os => opt5 (runA w os) (runB w os) (runC w os) (runD w os) (runE w os)
open PySem PySem.W PySem.Calls PyProof.Rows in
theorem hd_e : opening R.prog = plainProg R.prog.main.scope.names := by kernel_rfl
open PySem PySem.W PySem.Calls PyProof.Rows in
theorem hd_f : ∀ s, fenceModules? R.prog s = some s := fun s => by kernel_rfl
open PySem PySem.W PySem.Calls PyProof.Rows in
theorem hd_def : defOf (PySem.W.view R.prog [37]) R.name = some (HandSHeadRun.topDef R.prog 37, []) := by kernel_rfl
open PySem PySem.W PySem.Calls PyProof.Rows in
theorem hd_p : R.prog.theDef R.name = some ((HandSHeadRun.topDef R.prog 37).params, (HandSHeadRun.topDef R.prog 37).body, (HandSHeadRun.topDef R.prog 37).scope) := by kernel_rfl
open PySem PySem.W PySem.Calls PyProof.Rows in
theorem hd_k : kwWritten? (HandSHeadRun.topDef R.prog 37).params.kwonlyargs (HandSHeadRun.topDef R.prog 37).params.kw_defaults = some [] := by kernel_rfl
open PySem PySem.W PySem.Calls PyProof.Rows in
theorem hd_ok : (chainsOk (PySem.W.view R.prog [37]) && opensWell R.prog && (frees R.toRowW && R.within.isEmpty)) = true := by decide +kernel
def FinS : Prop := ∀ {P : Program} {w : World} {K : PySem.W.Frag} {h : Heap} {mg : Str → Option Value} {fa : Addr} (X : K.In h) (G : h.Ns mainGlobals mg) (hmg : mg ("law" : Str) = some (.ref fa)) (c : He.SaysD fas fns K) (nx : NxC K),
    ∃ (K : PySem.W.Frag) (fd : FuncData) (sp : Sp), K.In h ∧ (∀ (s : Shared) (u : Value), BindsTo s fd ⟨[u], []⟩ [("_law_script", u)]) ∧
        (∀ (H : Hp) (a : Addr) (ns : List Int), ns.length ≤ 63 → Only H → SqL K H a (ns.map V.int) → sp [.ref a] H (fun v _ => v = .bl true) fun _ _ _ => False) ∧
        ∀ base : Heap, K.In base → base.Ns mainGlobals mg → FnOk P w K mg base CX0 10 fa fd ["_law_script"] sp
end Su
section
open PySem PySem.W PySem.Calls PyProof.Rows
theorem Su.early (fin : Su.FinS) : PySem.Challenge.rw_susu_k34_twin_circles.Holds := by
  w_on; o_law
  refine HandSHeadRun.head_any (r := OpenLaw.row PySem.Challenge.rw_susu_k34_twin_circles) (q := view (OpenLaw.row PySem.Challenge.rw_susu_k34_twin_circles).prog [37]) (H := Su.hk) (ob := Su.ob) (M := 9000) (loose := Su.loose) (d := HandSHeadRun.topDef (OpenLaw.row PySem.Challenge.rw_susu_k34_twin_circles).prog 37) (kwd := []) Su.ob_eq
    Su.hd_e Su.hd_f Su.run Su.hd_def Su.hd_p Su.hd_k (by rfl) (by first | assumption | decide +kernel) Su.hd_ok ⟨rfl, rfl, rfl, rfl, rfl, by decide +kernel⟩ ?hw ?hc
  case hw => w_witness2
  case hc =>
    refine L2.walk_ofE (l := PySem.Challenge.rw_susu_k34_twin_circles) (n := 63) (k := 10) (x := "_law_script") (CX := L2.CX0) rfl (by decide) (by kernel_rfl) ⟨rfl, by decide, by decide⟩ ?F (fun _ _ _ _ z => z)
    intro w mg fa h Y G hmg0
    obtain ⟨K, KX, c⟩ := Y
    have hmg : mg ("law" : PySem.Str) = some (.ref fa) := by
      have e : (HandSHeadRun.topDef (OpenLaw.row PySem.Challenge.rw_susu_k34_twin_circles).prog 37).name = ("law" : PySem.Str) := by kernel_rfl
      rw [← e]
      exact hmg0
    exact fin KX G hmg c.1 (Su.nx_of c.2)
end
namespace Su
end Su
namespace Su
open PySem L2
local macro_rules | `(tactic| walk_at "side") => `(tactic| first | assumption | (show (0 : Int) < _; omega) | (show (0 : Int) ≤ _; omega) | (show (0 : Int) < _; split <;> omega) | (show _ ∨ _; omega) | (show _ ∧ _; omega) | exact ⟨by decide, by decide, by decide⟩ | exact ⟨by first | assumption | omega, by first | assumption | omega⟩)
local macro_rules | `(tactic| walk_at "x") => `(tactic| first | with_reducible refine Su.x_seq ?_ | with_reducible refine Su.x_asg ?_ | with_reducible refine Su.x_gname ?_ | with_reducible refine Su.x_drop ?_ | with_reducible refine Su.x_ret ?_ | with_reducible refine Su.x_ifS ?_ | ((with_reducible show L2.tVar _ _ _ _); refine Su.x_var rfl ?_) | with_reducible refine Su.x_op ?_ | with_reducible refine Su.x_rI0 ?_ | with_reducible refine Su.x_rGe ?_ | with_reducible refine Su.x_iteF ?_ | with_reducible refine Su.x_test ?_ | with_reducible refine Su.x_isB' ?_ | with_reducible refine Su.x_and ?_ | with_reducible refine Su.x_nil ?_ | with_reducible refine Su.x_cons ?_ | with_reducible refine Su.x_lst ?_ | with_reducible refine Su.x_bmL ?_ | with_reducible refine Su.x_next ?_ | with_reducible refine Su.x_for ?_ | with_reducible refine Su.x_iEnum ?_ | with_reducible refine Su.x_gcons ?_ | with_reducible refine Su.x_gnil ?_)
local macro_rules | `(tactic| walk_at "xs") => `(tactic| repeat walk_at "x")
local macro_rules | `(tactic| walk_at "if") => `(tactic| first | with_reducible refine Su.x_iteD (fun c => ?_) (fun c => ?_) | with_reducible refine Su.x_iteN (fun c => ?_) (fun c => ?_) | with_reducible refine Su.x_ite (fun c => ?_) (fun c => ?_))

/-! within -/
def inAB (ws : List (Int × Int)) (a b : Int) (i : Nat) : Bool := decide (a ≤ (ws.getD i (0, 0)).1 ∧ (ws.getD i (0, 0)).2 ≤ b)
def wInN (ws : List (Int × Int)) (a b : Int) (n : Nat) : List Nat := (List.range n).filter (inAB ws a b)
def wIn (ws : List (Int × Int)) (a b : Int) : List Nat := wInN ws a b ws.length
theorem wInN_succ (ws : List (Int × Int)) (a b : Int) (n : Nat) : wInN ws a b (n + 1) = wInN ws a b n ++ (if inAB ws a b n then [n] else []) := by
  unfold wInN
  rw [List.range_succ, List.filter_append]
  congr 1
  cases h : inAB ws a b n <;> simp [h]
theorem wInN_len (ws : List (Int × Int)) (a b : Int) (n : Nat) : (wInN ws a b n).length ≤ n := by
  have := List.length_filter_le (inAB ws a b) (List.range n)
  rwa [List.length_range] at this
def nI (l : List Nat) : List V := l.map fun (i : Nat) => V.int (i : Int)
def sp_within (K : PySem.W.Frag) : Sp := fun vs H Q _ => ∃ (v : V) (ws : List (Int × Int)) (a b : Int), vs = [v, .int a, .int b] ∧ Dp K H v (dWin ws) ∧ ws.length ≤ 1000 ∧
  ∀ (p : Addr) (H' : Hp), H p = none → Same H H' → H' p = some (.lst (nI (wIn ws a b))) → Q (.ref p) H'
abbrev N_within : List Str := ["windows", "a", "b", "crowd", "at", "first", "last"]
def t_within (K : PySem.W.Frag) : TS :=
 (tSeq (tAsg (tLst tNil) (gName 3))
 (tSeq (tFor (iEnum K (tCons (tVar 0) tNil)) (gTup K 2 (gCons (gName 4) (gCons (gTup K 2 (gCons (gName 5) (gCons (gName 6) gNil))) gNil)))
 (tIfS (tAnd (tTest (tOp rGe (tVar 5) (tVar 1))) (tTest (tOp rLe (tVar 6) (tVar 2))))
 (tDrop (tBM K "list" rAppend (tVar 3) (tCons (tVar 4) tNil)))
 tNext))
 (tRet (tVar 3))))

theorem len_within {K : PySem.W.Frag} : ∀ vs H Q E, sp_within K vs H Q E → vs.length = ["windows", "a", "b"].length := by
  rintro vs H Q E ⟨_, _, _, _, rfl, _⟩; rfl
theorem pure_within {K : PySem.W.Frag} {vs : List V} {H : Hp} {Q : VK} {E : XK} (h : sp_within K vs H Q E) : t_within K { nx := fun _ H' => Q .non H', rt := Q } (start N_within vs) H := by
  obtain ⟨v, ws, a, b, rfl, hw, hl, k⟩ := h
  obtain ⟨q, xs, rfl, hq, hx, hat⟩ := win_at hw
  unfold t_within
  walk_at "xs"
  refine al_lst fun p H1 np s1 hp => ?_
  walk_at "xs"
  refine ⟨q, xs, rfl, s1.seq hq, for_by turnsE (fun i σ H' => ∃ (u v w : Option V), σ = [some (.ref q), some (.int a), some (.int b), some (.ref p), u, v, w] ∧ Same H H' ∧ H' p = some (.lst (nI (wInN ws a b i))))
    ⟨none, none, none, rfl, s1, hp⟩ (fun i σ H' _ ⟨_, _, _, _, s, _⟩ => s.seq hq) ?_ ?_⟩
  · rintro i y σ H2 H3 hi ⟨u, v, w, rfl, s2, hp2⟩ ⟨x, hx, T, rfl, nT, s3, hT, _⟩
    obtain ⟨wi, t, ew, rfl, ht⟩ := hat i x hx
    have hd : ws.getD i (0, 0) = wi := by rw [List.getD_eq_getElem?_getD, ew]; rfl
    refine x_gtup (SqT.of hT) rfl ?_
    walk_at "xs"
    refine x_gtup (seqT_same (s2.trans s3) ht) rfl ?_
    walk_at "xs"
    have hp3 := s3 _ _ hp2
    walk_at "if"
    · walk_at "xs"
      walk_at "if"
      · walk_at "xs"
        refine ⟨tyL (SqL.of hp3), ?_⟩
        walk_at "xs"
        refine x_append hp3 (small ?_) ?_
        · unfold nI; rw [List.length_map]; have := wInN_len ws a b i; omega
        · refine ⟨_, _, _, rfl, same_upd (s2.trans s3) np, ?_⟩
          have e : inAB ws a b i = true := by unfold inAB; rw [hd]; simp; omega
          rw [upd_same, wInN_succ, if_pos e]
          unfold nI
          rw [List.map_append]; rfl
      · refine ⟨_, _, _, rfl, s2.trans s3, ?_⟩
        have e : inAB ws a b i = false := by unfold inAB; rw [hd]; simp; omega
        rw [wInN_succ, e]; simpa using hp3
    · walk_at "xs"
      refine ⟨_, _, _, rfl, s2.trans s3, ?_⟩
      have e : inAB ws a b i = false := by unfold inAB; rw [hd]; simp; omega
      rw [wInN_succ, e]; simpa using hp3
  · rintro σ H2 ⟨u, v, w, rfl, s2, hp2⟩
    walk_at "xs"
    rw [hx] at hp2
    exact k p H2 np s2 hp2

end Su
namespace Su
open PySem L2
local macro_rules | `(tactic| walk_at "side") => `(tactic| first | assumption | (show (0 : Int) < _; omega) | (show (0 : Int) ≤ _; omega) | (show (0 : Int) < _; split <;> omega) | (show _ ∨ _; omega) | (show _ ∧ _; omega) | exact ⟨by decide, by decide, by decide⟩ | exact ⟨by first | assumption | omega, by first | assumption | omega⟩)
local macro_rules | `(tactic| walk_at "x") => `(tactic| first | with_reducible refine Su.x_seq ?_ | with_reducible refine Su.x_asg ?_ | with_reducible refine Su.x_gname ?_ | with_reducible refine Su.x_drop ?_ | with_reducible refine Su.x_ret ?_ | with_reducible refine Su.x_ifS ?_ | ((with_reducible show L2.tVar _ _ _ _); refine Su.x_var rfl ?_) | with_reducible refine Su.x_c ?_ | with_reducible refine Su.x_op ?_ | with_reducible refine Su.x_rI0 ?_ | ((with_reducible refine Su.x_rI ?_ ?_); focus walk_at "side") | with_reducible refine Su.x_rGt ?_ | with_reducible refine Su.x_iteF ?_ | with_reducible refine Su.x_test ?_ | with_reducible refine Su.x_isB' ?_ | with_reducible refine Su.x_and ?_ | with_reducible refine Su.x_nil ?_ | with_reducible refine Su.x_cons ?_ | with_reducible refine Su.x_cb ?_ | with_reducible refine Su.x_min2 ?_ | with_reducible refine Su.x_lst ?_ | with_reducible refine Su.x_tup ?_ | with_reducible refine Su.x_bmL ?_ | with_reducible refine Su.x_next ?_ | with_reducible refine Su.x_for ?_ | with_reducible refine Su.x_iRng1 ?_)
local macro_rules | `(tactic| walk_at "xs") => `(tactic| repeat walk_at "x")
local macro_rules | `(tactic| walk_at "if") => `(tactic| first | with_reducible refine Su.x_iteD (fun c => ?_) (fun c => ?_) | with_reducible refine Su.x_iteN (fun c => ?_) (fun c => ?_) | with_reducible refine Su.x_ite (fun c => ?_) (fun c => ?_))

/-! _law_windows -/
/-- each first and last from 1 to the number -/
def WinOk (n : Nat) (ws : List (Int × Int)) : Prop := ∀ w ∈ ws, 1 ≤ w.1 ∧ w.1 ≤ n ∧ 1 ≤ w.2 ∧ w.2 ≤ n
end Su
namespace Su
open PySem L2
local macro_rules | `(tactic| walk_at "side") => `(tactic| first | assumption | (show (0 : Int) < _; omega) | (show (0 : Int) ≤ _; omega) | (show (0 : Int) < _; split <;> omega) | (show _ ∨ _; omega) | (show _ ∧ _; omega) | exact ⟨by decide, by decide, by decide⟩ | exact ⟨by first | assumption | omega, by first | assumption | omega⟩)
local macro_rules | `(tactic| walk_at "xs") => `(tactic| repeat walk_at "x")
local macro_rules | `(tactic| walk_at "if") => `(tactic| first | with_reducible refine Su.x_iteD (fun c => ?_) (fun c => ?_) | with_reducible refine Su.x_iteN (fun c => ?_) (fun c => ?_) | with_reducible refine Su.x_ite (fun c => ?_) (fun c => ?_))

/-! windows, orders, bars: the mathematics -/
theorem nodup_sub : ∀ {l m : List Nat}, l.Nodup → (∀ x ∈ l, x ∈ m) → l.length ≤ m.length
  | [], _, _, _ => Nat.zero_le _
  | x :: l, m, h, s => by
    have hx := s x (List.mem_cons_self ..)
    have h1 : x ∉ l := (List.nodup_cons.mp h).1
    have h2 := nodup_sub (l := l) (m := m.erase x) (List.nodup_cons.mp h).2 fun y hy => by
      have : y ≠ x := fun e => h1 (e ▸ hy)
      exact (List.mem_erase_of_ne this).mpr (s y (List.mem_cons_of_mem _ hy))
    rw [List.length_erase_of_mem hx] at h2
    have : 0 < m.length := List.length_pos_of_mem hx
    simp only [List.length_cons]
    omega
theorem nodup_all {row : List Nat} {n : Nat} (h : row.Nodup) (hl : row.length = n) (hb : ∀ x ∈ row, x < n) {c : Nat} (hc : c < n) : c ∈ row := by
  by_cases e : c ∈ row
  · exact e
  · exfalso
    have h1 : (c :: row).Nodup := List.nodup_cons.mpr ⟨e, h⟩
    have h2 := nodup_sub (m := List.range n) h1 fun x hx => by
      rcases List.mem_cons.mp hx with r | r
      · exact r ▸ List.mem_range.mpr hc
      · exact List.mem_range.mpr (hb x r)
    simp only [List.length_cons, List.length_range] at h2
    omega
def w1 (ws : List (Int × Int)) (i : Nat) : Int := (ws.getD i (0, 0)).1
def w2 (ws : List (Int × Int)) (i : Nat) : Int := (ws.getD i (0, 0)).2
theorem win_ok {n : Nat} {ws : List (Int × Int)} (h : WinOk n ws) {i : Nat} (hi : i < ws.length) : 1 ≤ w1 ws i ∧ w1 ws i ≤ n ∧ 1 ≤ w2 ws i ∧ w2 ws i ≤ n := by
  have e : ws.getD i (0, 0) = ws[i] := by rw [List.getD_eq_getElem?_getD, List.getElem?_eq_getElem hi]; rfl
  unfold w1 w2
  rw [e]
  exact h _ (List.getElem_mem hi)
/-- an order of the windows -/
structure IsOrder (ws : List (Int × Int)) (row : List Nat) : Prop where
  len : row.length = ws.length
  nd : row.Nodup
  lt : ∀ x ∈ row, x < ws.length
  fit : ∀ k (h : k < row.length), w1 ws row[k] ≤ (k : Int) + 1 ∧ (k : Int) + 1 ≤ w2 ws row[k]
/-- a bar -/
structure IsBar (ws : List (Int × Int)) (a b : Int) (crowd : List Nat) : Prop where
  a1 : 1 ≤ a ∧ a ≤ ws.length
  b1 : 1 ≤ b ∧ b ≤ ws.length
  inc : crowd.Pairwise (· < ·)
  mem : ∀ c ∈ crowd, c < ws.length ∧ a ≤ w1 ws c ∧ w2 ws c ≤ b
  many : max 0 (b - a + 1) < (crowd.length : Int)
theorem inc_nodup {l : List Nat} (h : l.Pairwise (· < ·)) : l.Nodup := h.imp fun h => Nat.ne_of_lt h
theorem idx_at {row : List Nat} {c : Nat} (h : c ∈ row) : ∃ k, ∃ hk : k < row.length, row[k] = c ∧ row.idxOf c = k := by
  have h1 := List.idxOf_lt_length_of_mem h
  exact ⟨_, h1, List.getElem_idxOf h1, rfl⟩
theorem no_both {ws : List (Int × Int)} {row crowd : List Nat} {a b : Int} (o : IsOrder ws row) (r : IsBar ws a b crowd) : False := by
  have hp : ∀ c ∈ crowd, a ≤ (row.idxOf c : Int) + 1 ∧ (row.idxOf c : Int) + 1 ≤ b := fun c hc => by
    obtain ⟨h1, h2, h3⟩ := r.mem c hc
    obtain ⟨k, hk, e, e2⟩ := idx_at (nodup_all o.nd o.len o.lt h1)
    have f := o.fit k hk
    rw [e] at f
    rw [e2]
    omega
  have nd : (crowd.map fun c => row.idxOf c).Nodup := by
    rw [List.nodup_iff_pairwise_ne, List.pairwise_map]
    have := List.nodup_iff_pairwise_ne.mp (inc_nodup r.inc)
    exact this.imp_of_mem fun {x y} hx hy hne he => by
      obtain ⟨k, hk, e, e2⟩ := idx_at (nodup_all o.nd o.len o.lt (r.mem x hx).1)
      obtain ⟨l, hl, f, f2⟩ := idx_at (nodup_all o.nd o.len o.lt (r.mem y hy).1)
      have : k = l := by rw [← e2, ← f2]; exact he
      subst this
      exact hne (e ▸ f)
  have hlen := nodup_sub (m := List.range' (a - 1).toNat (b - a + 1).toNat) nd fun x hx => by
    obtain ⟨c, hc, rfl⟩ := List.mem_map.mp hx
    have := hp c hc
    have a1 := r.a1
    rw [List.mem_range'_1]
    omega
  rw [List.length_map, List.length_range'] at hlen
  have := r.many
  omega
/-! ### the greedy way -/
def rdy (ws : List (Int × Int)) (row : List Nat) (t : Int) (i : Nat) : Bool := decide (w1 ws i ≤ t) && !decide (i ∈ row)
def pick (ws : List (Int × Int)) (i : Nat) : Option Nat → Option Nat
  | none => some i
  | some b => if w2 ws i < w2 ws b then some i else some b
def nextN (ws : List (Int × Int)) (row : List Nat) (t : Int) : Nat → Option Nat
  | 0 => none
  | i + 1 => if rdy ws row t i = true then pick ws i (nextN ws row t i) else nextN ws row t i
theorem nextN_none {ws : List (Int × Int)} {row : List Nat} {t : Int} : ∀ {n : Nat}, nextN ws row t n = none → ∀ i, i < n → rdy ws row t i = false
  | 0, _, i, hi => absurd hi (Nat.not_lt_zero _)
  | n + 1, h, i, hi => by
    unfold nextN at h
    by_cases c : rdy ws row t n = true
    · rw [if_pos c] at h
      cases e : nextN ws row t n with
      | none => rw [e] at h; cases h
      | some b =>
        rw [e] at h
        unfold pick at h
        simp only at h
        split at h <;> cases h
    · rw [if_neg c] at h
      by_cases q : i < n
      · exact nextN_none h i q
      · have : i = n := by omega
        rw [this]
        simpa using c
theorem nextN_some {ws : List (Int × Int)} {row : List Nat} {t : Int} : ∀ {n c : Nat}, nextN ws row t n = some c → c < n ∧ rdy ws row t c = true ∧ ∀ i, i < n → rdy ws row t i = true → w2 ws c ≤ w2 ws i ∧ (w2 ws i = w2 ws c → c ≤ i)
  | 0, _, h => by cases h
  | n + 1, c, h => by
    unfold nextN at h
    by_cases q : rdy ws row t n = true
    · rw [if_pos q] at h
      cases e : nextN ws row t n with
      | none =>
        rw [e] at h
        cases h
        refine ⟨Nat.lt_succ_self _, q, fun i hi r => ?_⟩
        by_cases z : i < n
        · rw [nextN_none e i z] at r; cases r
        · have : i = n := by omega
          subst this; exact ⟨Int.le_refl _, fun _ => Nat.le_refl _⟩
      | some b =>
        rw [e] at h
        obtain ⟨b1, b2, b3⟩ := nextN_some e
        unfold pick at h
        simp only at h
        by_cases l : w2 ws n < w2 ws b
        · rw [if_pos l] at h
          cases h
          refine ⟨Nat.lt_succ_self _, q, fun i hi r => ?_⟩
          by_cases z : i < n
          · have := (b3 i z r).1
            exact ⟨by omega, fun e => by omega⟩
          · have : i = n := by omega
            subst this; exact ⟨Int.le_refl _, fun _ => Nat.le_refl _⟩
        · rw [if_neg l] at h
          cases h
          refine ⟨by omega, b2, fun i hi r => ?_⟩
          by_cases z : i < n
          · exact b3 i z r
          · have : i = n := by omega
            subst this; exact ⟨by omega, fun _ => by omega⟩
    · rw [if_neg q] at h
      obtain ⟨b1, b2, b3⟩ := nextN_some h
      refine ⟨by omega, b2, fun i hi r => ?_⟩
      by_cases z : i < n
      · exact b3 i z r
      · have : i = n := by omega
        rw [this] at r; exact absurd r q
inductive Paper where
  | order (row : List Nat)
  | bar (a b : Int) (crowd : List Nat)
/-- how far a bar goes down: from e to the least round such that all windows from there to late lie by late -/
def downTo (ws : List (Int × Int)) (row : List Nat) (late : Int) : Nat → Nat
  | 0 => 0
  | j + 1 => if w2 ws (row.getD j 0) ≤ late then downTo ws row late j else j + 1
def barOf (ws : List (Int × Int)) (row : List Nat) (late : Int) : Paper := .bar (downTo ws row late late.toNat + 1) late (wIn ws (downTo ws row late late.toNat + 1) late)
def ordB (ws : List (Int × Int)) : Nat → List Nat → Paper
  | 0, row => .order row
  | k + 1, row => match nextN ws row ((row.length : Int) + 1) ws.length with
    | none => .bar ((row.length : Int) + 2) ws.length (wIn ws ((row.length : Int) + 2) ws.length)
    | some c => if w2 ws c < (row.length : Int) + 1 then barOf ws row (w2 ws c) else ordB ws k (row ++ [c])
def paperOf (ws : List (Int × Int)) : Paper := ordB ws ws.length []
/-- what the greedy row keeps -/
structure Greedy (ws : List (Int × Int)) (row : List Nat) : Prop where
  nd : row.Nodup
  lt : ∀ x ∈ row, x < ws.length
  fit : ∀ k (h : k < row.length), w1 ws row[k] ≤ (k : Int) + 1 ∧ (k : Int) + 1 ≤ w2 ws row[k]
  least : ∀ k (h : k < row.length) i, i < ws.length → i ∉ row.take k → w1 ws i ≤ (k : Int) + 1 → w2 ws row[k] ≤ w2 ws i
theorem greedy_nil {ws : List (Int × Int)} : Greedy ws [] := ⟨List.nodup_nil, (fun _ h => nomatch h), fun _ h => absurd h (Nat.not_lt_zero _), fun _ h => absurd h (Nat.not_lt_zero _)⟩
theorem greedy_snoc {ws : List (Int × Int)} {row : List Nat} {c : Nat} (g : Greedy ws row) (h : nextN ws row ((row.length : Int) + 1) ws.length = some c) (hl : ¬ w2 ws c < (row.length : Int) + 1) : Greedy ws (row ++ [c]) := by
  obtain ⟨c1, c2, c3⟩ := nextN_some h
  unfold rdy at c2
  simp only [Bool.and_eq_true, decide_eq_true_eq, Bool.not_eq_true', decide_eq_false_iff_not] at c2
  have at_ : ∀ k (h : k < (row ++ [c]).length), (∃ h' : k < row.length, (row ++ [c])[k] = row[k]) ∨ (k = row.length ∧ (row ++ [c])[k] = c) := fun k h => by
    by_cases q : k < row.length
    · exact .inl ⟨q, List.getElem_append_left q⟩
    · have : k = row.length := by simp at h; omega
      subst this
      exact .inr ⟨rfl, by simp⟩
  refine ⟨?_, ?_, ?_, ?_⟩
  · rw [List.nodup_append]
    refine ⟨g.nd, by simp, fun a ha b hb e => ?_⟩
    rw [List.mem_singleton] at hb
    exact c2.2 (hb ▸ e ▸ ha)
  · intro x hx
    rcases List.mem_append.mp hx with r | r
    · exact g.lt x r
    · rw [List.mem_singleton] at r; exact r ▸ c1
  · intro k hk
    rcases at_ k hk with ⟨h', e⟩ | ⟨e1, e⟩
    · rw [e]; exact g.fit k h'
    · rw [e, e1]; exact ⟨c2.1, by omega⟩
  · intro k hk i hi hn hf
    rcases at_ k hk with ⟨h', e⟩ | ⟨e1, e⟩
    · rw [e]
      refine g.least k h' i hi ?_ hf
      rw [List.take_append_of_le_length (by omega)] at hn
      exact hn
    · rw [e]
      subst e1
      rw [List.take_left'] at hn
      · refine (c3 i hi ?_).1
        unfold rdy
        simp only [Bool.and_eq_true, decide_eq_true_eq, Bool.not_eq_true', decide_eq_false_iff_not]
        exact ⟨hf, hn⟩
      · rfl
theorem filter_len (p : Nat → Bool) : ∀ l : List Nat, (l.filter p).length + (l.filter (fun x => !p x)).length = l.length
  | [] => rfl
  | x :: l => by
    have := filter_len p l
    cases h : p x <;> simp [List.filter_cons, h] <;> omega
theorem wIn_inc (ws : List (Int × Int)) (a b : Int) : (wIn ws a b).Pairwise (· < ·) := by
  unfold wIn wInN
  exact List.Pairwise.filter _ List.pairwise_lt_range
theorem wIn_mem {ws : List (Int × Int)} {a b : Int} {c : Nat} : c ∈ wIn ws a b ↔ c < ws.length ∧ a ≤ w1 ws c ∧ w2 ws c ≤ b := by
  unfold wIn wInN inAB w1 w2
  rw [List.mem_filter, List.mem_range, decide_eq_true_eq]
theorem downTo_le (ws : List (Int × Int)) (row : List Nat) (late : Int) : ∀ j, downTo ws row late j ≤ j
  | 0 => Nat.le_refl _
  | j + 1 => by
    unfold downTo
    split
    · exact Nat.le_succ_of_le (downTo_le ws row late j)
    · exact Nat.le_refl _
theorem downTo_in (ws : List (Int × Int)) (row : List Nat) (late : Int) : ∀ j k, downTo ws row late j ≤ k → k < j → w2 ws (row.getD k 0) ≤ late
  | 0, k, _, h => absurd h (Nat.not_lt_zero _)
  | j + 1, k, h1, h2 => by
    unfold downTo at h1
    by_cases c : w2 ws (row.getD j 0) ≤ late
    · rw [if_pos c] at h1
      by_cases q : k < j
      · exact downTo_in ws row late j k h1 q
      · have : k = j := by omega
        rw [this]; exact c
    · rw [if_neg c] at h1; omega
theorem downTo_stop (ws : List (Int × Int)) (row : List Nat) (late : Int) : ∀ j, downTo ws row late j = 0 ∨ ∃ k, downTo ws row late j = k + 1 ∧ late < w2 ws (row.getD k 0)
  | 0 => .inl rfl
  | j + 1 => by
    unfold downTo
    by_cases c : w2 ws (row.getD j 0) ≤ late
    · rw [if_pos c]; exact downTo_stop ws row late j
    · rw [if_neg c]; exact .inr ⟨j, rfl, by omega⟩
theorem bar_none {ws : List (Int × Int)} {row : List Nat} (ok : WinOk ws.length ws) (g : Greedy ws row) (hl : row.length < ws.length) (h : nextN ws row ((row.length : Int) + 1) ws.length = none) :
    IsBar ws ((row.length : Int) + 2) ws.length (wIn ws ((row.length : Int) + 2) ws.length) := by
  have hn := nextN_none h
  have out : ∀ i, i < ws.length → i ∉ row → (row.length : Int) + 2 ≤ w1 ws i := fun i hi hr => by
    have := hn i hi
    unfold rdy at this
    simp only [hr, decide_false, Bool.not_false, Bool.and_true, decide_eq_false_iff_not] at this
    omega
  have cnt : ws.length ≤ ((List.range ws.length).filter fun x => !decide (x ∈ row)).length + row.length := by
    have h1 := filter_len (fun x => decide (x ∈ row)) (List.range ws.length)
    have h2 : ((List.range ws.length).filter fun x => decide (x ∈ row)).length ≤ row.length := nodup_sub (List.Pairwise.filter _ List.nodup_range) fun x hx => by
      have := (List.mem_filter.mp hx).2
      simpa using this
    rw [List.length_range] at h1
    omega
  have sub : ((List.range ws.length).filter fun x => !decide (x ∈ row)).length ≤ (wIn ws ((row.length : Int) + 2) ws.length).length := nodup_sub (List.Pairwise.filter _ List.nodup_range) fun x hx => by
    obtain ⟨h1, h2⟩ := List.mem_filter.mp hx
    have h1 := List.mem_range.mp h1
    have h2 : x ∉ row := by simpa using h2
    exact wIn_mem.mpr ⟨h1, out x h1 h2, (win_ok ok h1).2.2.2⟩
  have ex : ∃ i, i < ws.length ∧ i ∉ row := by
    have : 0 < ((List.range ws.length).filter fun x => !decide (x ∈ row)).length := by omega
    obtain ⟨i, hi⟩ := List.exists_mem_of_length_pos this
    obtain ⟨h1, h2⟩ := List.mem_filter.mp hi
    exact ⟨i, List.mem_range.mp h1, by simpa using h2⟩
  obtain ⟨i, hi, hir⟩ := ex
  have o1 := out i hi hir
  have o2 := (win_ok ok hi).2.1
  exact ⟨⟨by omega, by omega⟩, ⟨by omega, by omega⟩, wIn_inc .., fun c hc => wIn_mem.mp hc, by omega⟩
theorem bar_late {ws : List (Int × Int)} {row : List Nat} {c : Nat} (ok : WinOk ws.length ws) (g : Greedy ws row) (hl : row.length < ws.length) (h : nextN ws row ((row.length : Int) + 1) ws.length = some c) (hc : w2 ws c < (row.length : Int) + 1) :
    IsBar ws (downTo ws row (w2 ws c) (w2 ws c).toNat + 1) (w2 ws c) (wIn ws (downTo ws row (w2 ws c) (w2 ws c).toNat + 1) (w2 ws c)) := by
  obtain ⟨c1, c2, c3⟩ := nextN_some h
  unfold rdy at c2
  simp only [Bool.and_eq_true, decide_eq_true_eq, Bool.not_eq_true', decide_eq_false_iff_not] at c2
  have okc := win_ok ok c1
  generalize hL : w2 ws c = L at *
  generalize he : downTo ws row L L.toNat = e
  have e1 : e ≤ L.toNat := he ▸ downTo_le ws row L L.toNat
  have e2 : ∀ k, e ≤ k → k < L.toNat → w2 ws (row.getD k 0) ≤ L := fun k a b => downTo_in ws row L L.toNat k (he ▸ a) b
  have e3 := downTo_stop ws row L L.toNat
  rw [he] at e3
  have gd : ∀ k (hk : k < row.length), row.getD k 0 = row[k] := fun k hk => by rw [List.getD_eq_getElem?_getD, List.getElem?_eq_getElem hk]; rfl
  -- a window that was not placed by round e, of a last by L, opens behind e
  have open_ : ∀ i, i < ws.length → i ∉ row.take (e - 1) → w2 ws i ≤ L → (e : Int) + 1 ≤ w1 ws i := fun i hi hr h2 => by
    have o1 := (win_ok ok hi).1
    rcases e3 with z | ⟨k, z, q⟩
    · omega
    · have hk : k < row.length := by omega
      rw [gd k hk] at q
      by_cases w : w1 ws i ≤ (k : Int) + 1
      · have := g.least k hk i hi (by rw [z] at hr; exact hr) w
        omega
      · omega
  have nd : (c :: (row.take L.toNat).drop e).Nodup := by
    rw [List.nodup_cons]
    exact ⟨fun hm => c2.2 (List.mem_of_mem_take (List.mem_of_mem_drop hm)), List.Nodup.sublist ((List.drop_sublist _ _).trans (List.take_sublist _ _)) g.nd⟩
  have sub := nodup_sub (m := wIn ws ((e : Int) + 1) L) nd fun x hx => by
    rcases List.mem_cons.mp hx with r | r
    · subst r
      exact wIn_mem.mpr ⟨c1, open_ x c1 (fun hm => c2.2 (List.mem_of_mem_take hm)) (by omega), by omega⟩
    · obtain ⟨k, hk, hx2⟩ := List.getElem_of_mem r
      rw [List.getElem_drop, List.getElem_take] at hx2
      have hk' : k < L.toNat - e := by
        rw [List.length_drop, List.length_take] at hk; omega
      have hlt : e + k < row.length := by omega
      have xl : x < ws.length := g.lt x (hx2 ▸ List.getElem_mem _)
      have wx : w2 ws x ≤ L := by
        have := e2 (e + k) (by omega) (by omega)
        rw [gd _ hlt, hx2] at this
        exact this
      refine wIn_mem.mpr ⟨xl, open_ x xl (fun hm => ?_) wx, wx⟩
      obtain ⟨j, hj, hxj⟩ := List.getElem_of_mem hm
      rw [List.getElem_take] at hxj
      have hj' : j < e - 1 := by rw [List.length_take] at hj; omega
      have := (List.nodup_iff_pairwise_ne.mp g.nd)
      rw [List.pairwise_iff_getElem] at this
      exact this j (e + k) (by omega) hlt (by omega) (hxj.trans hx2.symm)
  have ln : (c :: (row.take L.toNat).drop e).length = L.toNat - e + 1 := by
    clear e3 sub
    rw [List.length_cons, List.length_drop, List.length_take]; omega
  rw [ln] at sub
  clear e3
  exact ⟨⟨by omega, by omega⟩, ⟨by omega, by omega⟩, wIn_inc .., fun c hc => wIn_mem.mp hc, by omega⟩
def Good (ws : List (Int × Int)) : Paper → Prop
  | .order row => IsOrder ws row
  | .bar a b crowd => IsBar ws a b crowd
theorem ordB_good {ws : List (Int × Int)} (ok : WinOk ws.length ws) : ∀ k row, Greedy ws row → row.length + k = ws.length → Good ws (ordB ws k row)
  | 0, row, g, h => ⟨h, g.nd, g.lt, g.fit⟩
  | k + 1, row, g, h => by
    unfold ordB
    cases e : nextN ws row ((row.length : Int) + 1) ws.length with
    | none => exact bar_none ok g (by omega) e
    | some c =>
      show Good ws (if w2 ws c < (row.length : Int) + 1 then barOf ws row (w2 ws c) else ordB ws k (row ++ [c]))
      by_cases q : w2 ws c < (row.length : Int) + 1
      · rw [if_pos q]; exact bar_late ok g (by omega) e q
      · rw [if_neg q]; exact ordB_good ok k (row ++ [c]) (greedy_snoc g e q) (by rw [List.length_append]; simp; omega)
theorem paper_good {ws : List (Int × Int)} (ok : WinOk ws.length ws) : Good ws (paperOf ws) := ordB_good ok ws.length [] greedy_nil (by simp)

end Su
namespace Su
open PySem L2
local macro_rules | `(tactic| walk_at "side") => `(tactic| first | assumption | (show (0 : Int) < _; omega) | (show (0 : Int) ≤ _; omega) | (show (0 : Int) < _; split <;> omega) | (show _ ∨ _; omega) | (show _ ∧ _; omega) | exact ⟨by decide, by decide, by decide⟩ | exact ⟨by first | assumption | omega, by first | assumption | omega⟩)
local macro_rules | `(tactic| walk_at "x") => `(tactic| first | with_reducible refine Su.x_seq ?_ | with_reducible refine Su.x_gname ?_ | with_reducible refine Su.x_ret ?_ | with_reducible refine Su.x_ifS ?_ | ((with_reducible show L2.tVar _ _ _ _); refine Su.x_var rfl ?_) | with_reducible refine Su.x_c ?_ | with_reducible refine Su.x_op ?_ | with_reducible refine Su.x_iteT ?_ | with_reducible refine Su.x_eqI ?_ | with_reducible refine Su.x_eqB ?_ | with_reducible refine Su.x_neB ?_ | with_reducible refine Su.x_test ?_ | with_reducible refine Su.x_tB ?_ | with_reducible refine Su.x_isB' ?_ | with_reducible refine Su.x_not ?_ | with_reducible refine Su.x_and ?_ | with_reducible refine Su.x_or ?_ | with_reducible refine Su.x_andV ?_ | with_reducible refine Su.x_nil ?_ | with_reducible refine Su.x_cons ?_ | with_reducible refine Su.x_cb ?_ | with_reducible refine Su.x_call ?_ | with_reducible refine Su.x_next ?_ | with_reducible refine Su.x_iZipA ?_ | with_reducible refine Su.x_gcons ?_ | with_reducible refine Su.x_gnil ?_ | with_reducible refine Su.x_yes ?_ | with_reducible refine Su.x_lc ?_)
local macro_rules | `(tactic| walk_at "xs") => `(tactic| repeat walk_at "x")
local macro_rules | `(tactic| walk_at "if") => `(tactic| first | with_reducible refine Su.x_iteD (fun c => ?_) (fun c => ?_) | with_reducible refine Su.x_iteN (fun c => ?_) (fun c => ?_) | with_reducible refine Su.x_ite (fun c => ?_) (fun c => ?_))

/-! _law_same: two data alike -/
mutual
def sameD : PyData → PyData → Bool
  | .none, .none => true
  | .bool a, .bool b => a == b
  | .int i, .int j => i == j
  | .str x, .str y => x == y
  | .list xs, .list ys => sameL xs ys
  | .tuple xs, .tuple ys => sameL xs ys
  | _, _ => false
def sameL : List PyData → List PyData → Bool
  | [], [] => true
  | x :: xs, y :: ys => sameD x y && sameL xs ys
  | _, _ => false
end
mutual
def okD : PyData → Bool
  | .none => true
  | .bool _ => true
  | .int _ => true
  | .str x => PyData.strOk x
  | .list xs => decide (xs.length ≤ 1000) && okL xs
  | .tuple xs => decide (xs.length ≤ 1000) && okL xs
  | .dict _ => false
def okL : List PyData → Bool
  | [] => true
  | x :: xs => okD x && okL xs
end
mutual
theorem sameD_refl : ∀ d : PyData, okD d = true → sameD d d = true
  | .none, _ => rfl
  | .bool b, _ => by simp [sameD]
  | .int b, _ => by simp [sameD]
  | .str b, _ => by simp [sameD]
  | .list xs, h => by
    simp only [okD, Bool.and_eq_true] at h
    simp only [sameD]; exact sameL_refl xs h.2
  | .tuple xs, h => by
    simp only [okD, Bool.and_eq_true] at h
    simp only [sameD]; exact sameL_refl xs h.2
  | .dict _, h => by simp [okD] at h
theorem sameL_refl : ∀ ds : List PyData, okL ds = true → sameL ds ds = true
  | [], _ => rfl
  | d :: ds, h => by
    simp only [okL, Bool.and_eq_true] at h
    simp only [sameL, sameD_refl d h.1, sameL_refl ds h.2, Bool.and_self]
end
theorem okL_get : ∀ {ds : List PyData} {i : Nat} {d : PyData}, okL ds = true → ds[i]? = some d → okD d = true
  | [], _, _, _, e => by simp at e
  | d :: ds, 0, _, h, e => by
    simp at e; subst e
    simp only [okL, Bool.and_eq_true] at h; exact h.1
  | d :: ds, i + 1, _, h, e => by
    simp only [okL, Bool.and_eq_true] at h
    exact okL_get (i := i) h.2 (by simpa using e)
theorem depth_get : ∀ {ds : List PyData} {i : Nat} {d : PyData}, ds[i]? = some d → d.depth ≤ PyData.depthAll ds
  | [], _, _, e => by simp at e
  | d :: ds, 0, _, e => by
    simp at e; subst e
    exact Nat.le_max_left _ _
  | d :: ds, i + 1, _, e => Nat.le_trans (depth_get (ds := ds) (i := i) (by simpa using e)) (Nat.le_max_right _ _)
theorem sameL_all : ∀ (ds es : List PyData), ds.length = es.length → (List.range ds.length).all (fun i => sameD (ds.getD i .none) (es.getD i .none)) = sameL ds es
  | [], [], _ => rfl
  | d :: ds, e :: es, h => by
    have ih := sameL_all ds es (Nat.succ.inj h)
    rw [List.length_cons, List.range_succ_eq_map, List.all_cons, List.all_map]
    show (sameD d e && _) = (sameD d e && sameL ds es)
    rw [← ih]
    rfl
  | [], _ :: _, h | _ :: _, [], h => by cases h
theorem sameL_len : ∀ (ds es : List PyData), ds.length ≠ es.length → sameL ds es = false
  | [], [], h => absurd rfl h
  | d :: ds, e :: es, h => by
    simp only [sameL]
    rw [sameL_len ds es (fun z => h (congrArg Nat.succ z)), Bool.and_false]
  | [], _ :: _, _ | _ :: _, [], _ => rfl
def isDB : PyData → Bool | .bool _ => true | _ => false
def isDI : PyData → Bool | .bool _ => true | .int _ => true | _ => false
def isDS : PyData → Bool | .str _ => true | _ => false
def isDL : PyData → Bool | .list _ => true | _ => false
def isDT : PyData → Bool | .tuple _ => true | _ => false
section
variable {K : PySem.W.Frag} {H : Hp} {Q : VK} {x : V} {d : PyData}
theorem isiD_bool (h : Dp K H x d) (q : Q (.bl (isDB d)) H) : rIsi K [x, .ty "bool"] H Q := by
  cases h with
  | non => exact x_isi_NoneType_bool q
  | bl b => exact x_isi_bool_bool q
  | int i => exact x_isi_int_bool q
  | str i => exact x_isi_str_bool q
  | lst a b => exact isi_list_bool a q
  | tup a b => exact isi_tuple_bool a q
theorem isiD_int (h : Dp K H x d) (q : Q (.bl (isDI d)) H) : rIsi K [x, .ty "int"] H Q := by
  cases h with
  | non => exact x_isi_NoneType_int q
  | bl b => exact x_isi_bool_int q
  | int i => exact x_isi_int_int q
  | str i => exact x_isi_str_int q
  | lst a b => exact isi_list_int a q
  | tup a b => exact isi_tuple_int a q
theorem isiD_str (h : Dp K H x d) (q : Q (.bl (isDS d)) H) : rIsi K [x, .ty "str"] H Q := by
  cases h with
  | non => exact x_isi_NoneType_str q
  | bl b => exact x_isi_bool_str q
  | int i => exact x_isi_int_str q
  | str i => exact x_isi_str_str q
  | lst a b => exact isi_list_str a q
  | tup a b => exact isi_tuple_str a q
theorem isiD_list (h : Dp K H x d) (q : Q (.bl (isDL d)) H) : rIsi K [x, .ty "list"] H Q := by
  cases h with
  | non => exact x_isi_NoneType_list q
  | bl b => exact x_isi_bool_list q
  | int i => exact x_isi_int_list q
  | str i => exact x_isi_str_list q
  | lst a b => exact isi_list_list a q
  | tup a b => exact isi_tuple_list a q
theorem isiD_tuple (h : Dp K H x d) (q : Q (.bl (isDT d)) H) : rIsi K [x, .ty "tuple"] H Q := by
  cases h with
  | non => exact x_isi_NoneType_tuple q
  | bl b => exact x_isi_bool_tuple q
  | int i => exact x_isi_int_tuple q
  | str i => exact x_isi_str_tuple q
  | lst a b => exact isi_list_tuple a q
  | tup a b => exact isi_tuple_tuple a q
end
def spn_law_same (K : PySem.W.Frag) (n : Nat) : Sp := fun vs H Q _ => ∃ (x y : V) (d e : PyData), vs = [x, y] ∧ Dp K H x d ∧ Dp K H y e ∧ okD d = true ∧ okD e = true ∧ e.depth ≤ n ∧ ∀ H', Same H H' → Q (.bl (sameD d e)) H'
abbrev sp_law_same (K : PySem.W.Frag) : Sp := spn_law_same K 7
abbrev N_law_same : List Str := ["_law_told", "_law_due", "_law_one", "_law_other"]
def t_law_same (K : PySem.W.Frag) (spR : Sp) : TS :=
 (tSeq (tIfS (tOr (tTest (tOp rNe (tCB (rIsi K) (tCons (tVar 0) (tCons (tC (.ty "bool")) tNil))) (tCB (rIsi K) (tCons (tVar 1) (tCons (tC (.ty "bool")) tNil))))) (tTest (tOp rNe (tCB (rIsi K) (tCons (tVar 0) (tCons (tC (.ty "int")) tNil))) (tCB (rIsi K) (tCons (tVar 1) (tCons (tC (.ty "int")) tNil))))))
 (tRet (tC (.bl false)))
 tNext)
 (tSeq (tIfS (tOr (tTest (tOp rNe (tCB (rIsi K) (tCons (tVar 0) (tCons (tC (.ty "list")) tNil))) (tCB (rIsi K) (tCons (tVar 1) (tCons (tC (.ty "list")) tNil))))) (tTest (tOp rNe (tCB (rIsi K) (tCons (tVar 0) (tCons (tC (.ty "tuple")) tNil))) (tCB (rIsi K) (tCons (tVar 1) (tCons (tC (.ty "tuple")) tNil))))))
 (tRet (tC (.bl false)))
 tNext)
 (tSeq (tIfS (tAnd (tNot (tB (tCB (rIsi K) (tCons (tVar 1) (tCons (tC (.ty "list")) tNil))))) (tNot (tB (tCB (rIsi K) (tCons (tVar 1) (tCons (tC (.ty "tuple")) tNil))))))
 (tRet (tAndV (tOp rEq (tCB (rIsi K) (tCons (tVar 0) (tCons (tC (.ty "str")) tNil))) (tCB (rIsi K) (tCons (tVar 1) (tCons (tC (.ty "str")) tNil)))) (tOp (rEqD K) (tVar 0) (tVar 1))))
 tNext)
 (tRet (tAndV (tOp rEq (tCB (rLenSeq K) (tCons (tVar 0) tNil)) (tCB (rLenSeq K) (tCons (tVar 1) tNil))) (tCB (rAll K) (tCons (tLc (RZ.iZipA K (tCons (tVar 0) (tCons (tVar 1) tNil))) (gTup K 2 (gCons (gName 2) (gCons (gName 3) gNil))) tYes (tCall spR [] E0 (tCons (tVar 2) (tCons (tVar 3) tNil))) [2, 3]) tNil)))))))

theorem len_law_same {K : PySem.W.Frag} {n : Nat} : ∀ vs H Q E, spn_law_same K n vs H Q E → vs.length = ["a", "b"].length := by
  rintro vs H Q E ⟨_, _, _, _, rfl, _⟩; rfl
theorem shaped_flat {d : PyData} (h : okD d = true) (h1 : isDL d = false) (h2 : isDT d = false) : SeqAt.shaped d = true := by
  cases d with
  | none | bool _ | int _ => rfl
  | str x => unfold SeqAt.shaped; rw [show PyData.canLay0 (.str x) = true from h]; rfl
  | list _ => cases h1
  | tuple _ => cases h2
  | dict _ => cases h
theorem pure_gen_same {K : PySem.W.Frag} {spR : Sp} {vs : List V} {H : Hp} {Q : VK} {x y : V} {d e : PyData} (ev : vs = [x, y]) (hx : Dp K H x d) (hy : Dp K H y e) (od : okD d = true) (oe : okD e = true) (k : ∀ H', Same H H' → Q (.bl (sameD d e)) H')
    (hR : ∀ (x y : V) (d' e' : PyData) (H : Hp) (Q : VK) (E : XK), Dp K H x d' → Dp K H y e' → okD d' = true → okD e' = true → e'.depth < e.depth → (∀ H', Same H H' → Q (.bl (sameD d' e')) H') → spR [x, y] H Q E) :
    t_law_same K spR { nx := fun _ H' => Q .non H', rt := Q } (start N_law_same vs) H := by
  subst ev
  have F : sameD d e = false → Q (.bl false) H := fun z => z ▸ k H (Same.refl H)
  unfold t_law_same
  walk_at "xs"
  refine isiD_bool hx ?_
  walk_at "xs"
  refine isiD_bool hy ?_
  walk_at "xs"
  walk_at "if"
  · rename_i c
    walk_at "xs"
    exact F (by cases d <;> cases e <;> simp_all [sameD, isDB])
  rename_i c1
  walk_at "xs"
  refine isiD_int hx ?_
  walk_at "xs"
  refine isiD_int hy ?_
  walk_at "xs"
  walk_at "if"
  · rename_i c
    walk_at "xs"
    exact F (by cases d <;> cases e <;> simp_all [sameD, isDI])
  rename_i c2
  walk_at "xs"
  refine isiD_list hx ?_
  walk_at "xs"
  refine isiD_list hy ?_
  walk_at "xs"
  walk_at "if"
  · rename_i c
    walk_at "xs"
    exact F (by cases d <;> cases e <;> simp_all [sameD, isDL])
  rename_i c3
  walk_at "xs"
  refine isiD_tuple hx ?_
  walk_at "xs"
  refine isiD_tuple hy ?_
  walk_at "xs"
  walk_at "if"
  · rename_i c
    walk_at "xs"
    exact F (by cases d <;> cases e <;> simp_all [sameD, isDT])
  rename_i c4
  walk_at "xs"
  refine isiD_list hy ?_
  walk_at "xs"
  -- both sequences: the end
  have seq : ∀ {a b : Addr} {xs ys : List V} {ds es : List PyData}, x = .ref a → y = .ref b → (SqL K H a xs ∧ SqL K H b ys ∨ SqT K H a xs ∧ SqT K H b ys) → DpAll K H xs ds → DpAll K H ys es → okL ds = true → okL es = true → es.length ≤ 1000 → PyData.depthAll es < e.depth → sameD d e = sameL ds es →
      (tRet (tAndV (tOp rEq (tCB (rLenSeq K) (tCons (tVar 0) tNil)) (tCB (rLenSeq K) (tCons (tVar 1) tNil))) (tCB (rAll K) (tCons (tLc (RZ.iZipA K (tCons (tVar 0) (tCons (tVar 1) tNil))) (gTup K 2 (gCons (gName 2) (gCons (gName 3) gNil))) tYes (tCall spR [] E0 (tCons (tVar 2) (tCons (tVar 3) tNil))) [2, 3]) tNil)))) { nx := fun _ H' => Q .non H', rt := Q } (start N_law_same [x, y]) H := by
    intro a b xs ys ds es ea eb hs ha hb oa ob hl hdep hsm
    subst ea; subst eb
    walk_at "xs"
    have l1 := dpAll_len ha
    have l2 := dpAll_len hb
    have hlen1 : ∀ (Q : VK), Q (.int xs.length) H → rLenSeq K [.ref a] H Q := fun Q q => hs.elim (fun h => x_lenL h.1 q) (fun h => x_lenT h.1 q)
    have hlen2 : ∀ (Q : VK), Q (.int ys.length) H → rLenSeq K [.ref b] H Q := fun Q q => hs.elim (fun h => x_lenL h.2 q) (fun h => x_lenT h.2 q)
    refine hlen1 _ ?_
    walk_at "xs"
    refine hlen2 _ ?_
    walk_at "xs"
    walk_at "if"
    · rename_i c
      have c' : xs.length = ys.length := by omega
      walk_at "xs"
      have body : ∀ (i : Nat) (v : V) (Hc H' : Hp) (A : Addr), H A = none → i < xs.length → LcF H A (fun i => some (V.bl (sameD (ds.getD i .none) (es.getD i .none)))) i Hc → (∃ x y, xs[i]? = some x ∧ ys[i]? = some y ∧ Pair x y v Hc H') →
          (gTup K 2 (gCons (gName 2) (gCons (gName 3) gNil))) v (wipe (start N_law_same [.ref a, .ref b]) [2, 3]) H' fun σ2 H2 => wipe σ2 [2, 3] = wipe (start N_law_same [.ref a, .ref b]) [2, 3] ∧ tYes σ2 H2 fun b H3 =>
            if b = true then (tCall spR [] E0 (tCons (tVar 2) (tCons (tVar 3) tNil))) σ2 H3 fun y H4 => ∃ acc, H4 A = some (.lst acc) ∧ acc.length < sizeLine ∧ LcF H A (fun i => some (V.bl (sameD (ds.getD i .none) (es.getD i .none)))) (i + 1) (upd H4 A (.lst (acc ++ [y]))) else LcF H A (fun i => some (V.bl (sameD (ds.getD i .none) (es.getD i .none)))) (i + 1) H3 := by
        intro i v Hc H' A hA hi lc hit
        obtain ⟨x', y', ex, ey, T, rfl, nT, sT, hT, _⟩ := hit
        obtain ⟨d', ed, hd'⟩ := dpAll_get ha ex
        obtain ⟨e', ee, he'⟩ := dpAll_get hb ey
        have gd : ds.getD i .none = d' := by rw [List.getD_eq_getElem?_getD, ed]; rfl
        have ge : es.getD i .none = e' := by rw [List.getD_eq_getElem?_getD, ee]; rfl
        have ss := lc.s.trans sT
        refine x_gtup (SqT.of hT) rfl ?_
        walk_at "xs"
        refine x_wipe rfl ?_
        walk_at "xs"
        refine hR x' y' d' e' H' _ _ (dp_same ss hd') (dp_same ss he') (okL_get oa ed) (okL_get ob ee) (Nat.lt_of_le_of_lt (depth_get ee) hdep) fun H4 s4 => ?_
        exact lc.keep hA (sT.trans s4) (by rw [gd, ge]) (by omega)
      have fin : ∀ (H' : Hp) (A : Addr), Same H H' → H' A = some (.lst ((List.range xs.length).filterMap (fun i => some (V.bl (sameD (ds.getD i .none) (es.getD i .none)))))) → rAll K [.ref A] H' Q := by
        intro H' A s o
        refine ⟨A, (List.range ds.length).map (fun i => sameD (ds.getD i .none) (es.getD i .none)), rfl, SqL.of ?_, ?_⟩
        · rw [o, l1, List.map_map, List.filterMap_eq_map']
          rfl
        · rw [List.all_map]
          have e1 : (List.range ds.length).all (id ∘ fun i => sameD (ds.getD i .none) (es.getD i .none)) = sameD d e := by
            rw [hsm, ← sameL_all ds es (by omega)]; rfl
          rw [e1]
          exact k H' s
      refine ⟨a, b, xs, ys, rfl, ?_⟩
      rcases hs with hs | hs
      · refine .inl ⟨hs.1, hs.2, fun A hA => ?_⟩
        refine lc_flat (fun i => some (V.bl (sameD (ds.getD i .none) (es.getD i .none)))) (turnsZ c') (fun H' s => ⟨s.seq hs.1, s.seq hs.2⟩) hA (fun i v Hc H' hi lc hit => body i v Hc H' A hA hi lc hit) (fun H' s o => ?_)
        walk_at "xs"
        exact fin H' A s o
      · refine .inr ⟨hs.1, hs.2, fun A hA => ?_⟩
        refine lc_flat (fun i => some (V.bl (sameD (ds.getD i .none) (es.getD i .none)))) (turnsZT c') (fun H' s => ⟨seqT_same s hs.1, seqT_same s hs.2⟩) hA (fun i v Hc H' hi lc hit => body i v Hc H' A hA hi lc hit) (fun H' s o => ?_)
        walk_at "xs"
        exact fin H' A s o
    · rename_i c
      have c' : ds.length ≠ es.length := by omega
      exact F (by rw [hsm]; exact sameL_len ds es c')
  walk_at "if"
  · rename_i c5
    have c5' : isDL e = false := by simpa using c5
    walk_at "xs"
    refine isiD_tuple hy ?_
    walk_at "xs"
    walk_at "if"
    · rename_i c6
      have c6' : isDT e = false := by simpa using c6
      have d1 : isDL d = false := by simpa [c5'] using c3
      have d2 : isDT d = false := by simpa [c6'] using c4
      walk_at "xs"
      refine isiD_str hx ?_
      walk_at "xs"
      refine isiD_str hy ?_
      walk_at "xs"
      walk_at "if"
      · rename_i c7
        walk_at "xs"
        refine ⟨d, e, hx, hy, shaped_flat od d1 d2, shaped_flat oe c5' c6', ?_⟩
        have q : PyData.eqv d e = sameD d e := by cases d <;> cases e <;> simp_all [sameD, isDB, isDI, isDS, isDL, isDT, PyData.eqv, okD]
        rw [q]; exact k H (Same.refl H)
      · rename_i c7
        exact F (by cases d <;> cases e <;> simp_all [sameD, isDS])
    · rename_i c6
      have c6' : isDT e = true := by simpa using c6
      have d2 : isDT d = true := by simpa [c6'] using c4
      cases e with
      | tuple es =>
        cases d with
        | tuple ds =>
          obtain ⟨a, xs, ea, ha, hxs⟩ := dp_tup hx
          obtain ⟨b, ys, eb, hb, hys⟩ := dp_tup hy
          simp only [okD, Bool.and_eq_true, decide_eq_true_eq] at od oe
          exact seq ea eb (.inr ⟨ha, hb⟩) hxs hys od.2 oe.2 oe.1 (Nat.lt_succ_self _) rfl
        | _ => cases d2
      | _ => cases c6'
  · rename_i c5
    have c5' : isDL e = true := by simpa using c5
    have d2 : isDL d = true := by simpa [c5'] using c3
    refine x_iteF ?_
    cases e with
    | list es =>
      cases d with
      | list ds =>
        obtain ⟨a, xs, ea, ha, hxs⟩ := dp_lst hx
        obtain ⟨b, ys, eb, hb, hys⟩ := dp_lst hy
        simp only [okD, Bool.and_eq_true, decide_eq_true_eq] at od oe
        exact seq ea eb (.inl ⟨ha, hb⟩) hxs hys od.2 oe.2 oe.1 (Nat.lt_succ_self _) rfl
      | _ => cases d2
    | _ => cases c5'
theorem pure0_law_same {K : PySem.W.Frag} {vs : List V} {H : Hp} {Q : VK} {E : XK} (h : spn_law_same K 0 vs H Q E) : t_law_same K (fun _ _ _ _ => False) { nx := fun _ H' => Q .non H', rt := Q } (start N_law_same vs) H := by
  obtain ⟨x, y, d, e, ev, hx, hy, od, oe, hd, k⟩ := h
  exact pure_gen_same ev hx hy od oe k fun _ _ _ _ _ _ _ _ _ _ _ z => absurd z (by omega)
theorem pureS_law_same {K : PySem.W.Frag} {n : Nat} {vs : List V} {H : Hp} {Q : VK} {E : XK} (h : spn_law_same K (n + 1) vs H Q E) : t_law_same K (spn_law_same K n) { nx := fun _ H' => Q .non H', rt := Q } (start N_law_same vs) H := by
  obtain ⟨x, y, d, e, ev, hx, hy, od, oe, hd, k⟩ := h
  exact pure_gen_same ev hx hy od oe k fun x y d' e' H Q E h1 h2 o1 o2 z q => ⟨x, y, d', e', rfl, h1, h2, o1, o2, by omega, q⟩

end Su
namespace Su
open PySem L2
local macro_rules | `(tactic| walk_at "side") => `(tactic| first | assumption | (show (0 : Int) < _; omega) | (show (0 : Int) ≤ _; omega) | (show (0 : Int) < _; split <;> omega) | (show _ ∨ _; omega) | (show _ ∧ _; omega) | exact ⟨by decide, by decide, by decide⟩ | exact ⟨by first | assumption | omega, by first | assumption | omega⟩)
local macro_rules | `(tactic| walk_at "xs") => `(tactic| repeat walk_at "x")
local macro_rules | `(tactic| walk_at "if") => `(tactic| first | with_reducible refine Su.x_iteD (fun c => ?_) (fun c => ?_) | with_reducible refine Su.x_iteN (fun c => ?_) (fun c => ?_) | with_reducible refine Su.x_ite (fun c => ?_) (fun c => ?_))

/-! windows by index, lists of numbers as data -/
section
variable {K : PySem.W.Frag} {H : Hp} {Q : VK} {a t p : Addr} {i : Int} {v w : V} {r : List V}
theorem x_winix {ws : List (Int × Int)} (h : Dp K H (.ref a) (dWin ws)) (h0 : 0 ≤ i) (h1 : i < ws.length) (k : ∀ t, SqT K H t [.int (ws.getD i.toNat (0, 0)).1, .int (ws.getD i.toNat (0, 0)).2] → Q (.ref t) H) : rIxL K (.ref a) (.int i) H Q := by
  obtain ⟨q, xs, e, hq, hx, hat⟩ := win_at h
  cases e
  have h2 : i.toNat < xs.length := by omega
  obtain ⟨w, t, ew, et, ht⟩ := hat i.toNat _ (List.getElem?_eq_getElem h2)
  have hd : ws.getD i.toNat (0, 0) = w := by rw [List.getD_eq_getElem?_getD, ew]; rfl
  refine x_ixL (v := .ref t) hq ?_ (k t (by rw [hd]; exact ht))
  rw [at_get (d := .non) h0 (by omega), List.getD_eq_getElem?_getD, List.getElem?_eq_getElem h2, et]
  rfl
theorem x_ix0 (e : SqT K H t (v :: r)) (h : Q v H) : rIxT K (.ref t) (.int 0) H Q := x_ixT e (by
  unfold atI ixN
  rw [if_pos (by decide), if_pos (by simp)]
  rfl) h
theorem x_ix1 (e : SqT K H t (w :: v :: r)) (h : Q v H) : rIxT K (.ref t) (.int 1) H Q := x_ixT e (by
  unfold atI ixN
  rw [if_pos (by decide), if_pos (by simp; omega)]
  rfl) h
end
end Su
namespace Su
open PySem L2
local macro_rules | `(tactic| walk_at "side") => `(tactic| first | assumption | (show (0 : Int) < _; omega) | (show (0 : Int) ≤ _; omega) | (show (0 : Int) < _; split <;> omega) | (show _ ∨ _; omega) | (show _ ∧ _; omega) | exact ⟨by decide, by decide, by decide⟩ | exact ⟨by first | assumption | omega, by first | assumption | omega⟩)
local macro_rules | `(tactic| walk_at "xs") => `(tactic| repeat walk_at "x")
local macro_rules | `(tactic| walk_at "if") => `(tactic| first | with_reducible refine Su.x_iteD (fun c => ?_) (fun c => ?_) | with_reducible refine Su.x_iteN (fun c => ?_) (fun c => ?_) | with_reducible refine Su.x_ite (fun c => ?_) (fun c => ?_))

/-! what walks over windows share -/
def optI : Option Nat → Int
  | none => -1
  | some c => (c : Int)
theorem inV_nat (i : Nat) : ∀ row : List Nat, inV (.int (i : Int)) (nI row) = decide (i ∈ row)
  | [] => rfl
  | x :: row => by
    show (eqV (.int (x : Int)) (.int (i : Int)) || inV (.int (i : Int)) (nI row)) = _
    rw [inV_nat i row]
    by_cases c : i = x
    · subst c
      simp [eqV]
    · have : ¬ (x : Int) = (i : Int) := by omega
      simp [eqV, this, c]
theorem flat_nat : ∀ row : List Nat, (nI row).all flatV = true
  | [] => rfl
  | x :: row => by
    show (flatV (.int (x : Int)) && (nI row).all flatV) = true
    rw [flat_nat row]; rfl
section
variable {K : PySem.W.Frag} {H : Hp} {Q : VK} {p : Addr} {i : Nat} {row : List Nat}
theorem x_notInN (e : SqL K H p (nI row)) (h : Q (.bl (!decide (i ∈ row))) H) : rIn K true (.int (i : Int)) (.ref p) H Q := ⟨p, nI row, rfl, .inl e, rfl, flat_nat row, by rw [if_pos rfl, inV_nat]; exact h⟩
theorem x_inN (e : SqL K H p (nI row)) (h : Q (.bl (decide (i ∈ row))) H) : rIn K false (.int (i : Int)) (.ref p) H Q := ⟨p, nI row, rfl, .inl e, rfl, flat_nat row, by rw [if_neg Bool.false_ne_true, inV_nat]; exact h⟩
theorem at_getN {xs : List Nat} {i : Int} (h0 : 0 ≤ i) (h1 : i < xs.length) : atI (nI xs) i = some (.int (xs.getD i.toNat 0 : Nat)) := by
  have h2 : i.toNat < xs.length := by omega
  unfold nI
  rw [at_get (d := .int 0) h0 (by rw [List.length_map]; exact h1), List.getD_eq_getElem?_getD, List.getD_eq_getElem?_getD, List.getElem?_map, List.getElem?_eq_getElem h2]
  rfl
theorem nI_len (l : List Nat) : (nI l).length = l.length := List.length_map ..
theorem nI_snoc (l : List Nat) (x : Nat) : nI (l ++ [x]) = nI l ++ [.int (x : Int)] := by unfold nI; rw [List.map_append]; rfl
end
/-- a paper that was told at v: its tuple and its list are new -/
def PaperAt (H0 H : Hp) (v : V) : Paper → Prop
  | .order row => ∃ t p, v = .ref t ∧ H0 t = none ∧ H0 p = none ∧ H t = some (.tup [.str "order", .ref p]) ∧ H p = some (.lst (nI row))
  | .bar a b crowd => ∃ t p, v = .ref t ∧ H0 t = none ∧ H0 p = none ∧ H t = some (.tup [.str "bar", .int a, .int b, .ref p]) ∧ H p = some (.lst (nI crowd))

end Su
namespace Su
open PySem L2
local macro_rules | `(tactic| walk_at "side") => `(tactic| first | assumption | (show (0 : Int) < _; omega) | (show (0 : Int) ≤ _; omega) | (show (0 : Int) < _; split <;> omega) | (show _ ∨ _; omega) | (show _ ∧ _; omega) | exact ⟨by decide, by decide, by decide⟩ | exact ⟨by first | assumption | omega, by first | assumption | omega⟩)
local macro_rules | `(tactic| walk_at "xs") => `(tactic| repeat walk_at "x")
local macro_rules | `(tactic| walk_at "if") => `(tactic| first | with_reducible refine Su.x_iteD (fun c => ?_) (fun c => ?_) | with_reducible refine Su.x_iteN (fun c => ?_) (fun c => ?_) | with_reducible refine Su.x_ite (fun c => ?_) (fun c => ?_))

/-! texts by their signs -/
section
variable {K : PySem.W.Frag} {σ : St} {H : Hp} {Q : VK} {to te : TE} {p : Addr}
theorem x_m1 {r : V → List V → Hp → VK → Prop} (h : to σ H fun x H1 => (∃ a, x = .str a) ∧ te σ H1 fun y H2 => r x [y] H2 Q) : tM1 r to te σ H Q := h
theorem x_strE {a : Str} {P : Prop} (h : P) : (∃ b, V.str a = .str b) ∧ P := ⟨⟨a, rfl⟩, h⟩
end
/-- 1 to 12 small letters -/
structure NameOk (w : List Nat) : Prop where
  lo : 1 ≤ w.length
  hi : w.length ≤ 12
  ok : ∀ c ∈ w, 97 ≤ c ∧ c ≤ 122
end Su
namespace Su
open PySem L2
local macro_rules | `(tactic| walk_at "side") => `(tactic| first | assumption | (show (0 : Int) < _; omega) | (show (0 : Int) ≤ _; omega) | (show (0 : Int) < _; split <;> omega) | (show _ ∨ _; omega) | (show _ ∧ _; omega) | exact ⟨by decide, by decide, by decide⟩ | exact ⟨by first | assumption | omega, by first | assumption | omega⟩)
local macro_rules | `(tactic| walk_at "xs") => `(tactic| repeat walk_at "x")
local macro_rules | `(tactic| walk_at "if") => `(tactic| first | with_reducible refine Su.x_iteD (fun c => ?_) (fun c => ?_) | with_reducible refine Su.x_iteN (fun c => ?_) (fun c => ?_) | with_reducible refine Su.x_ite (fun c => ?_) (fun c => ?_))

/-! lists by names -/
section
variable {α β : Type}
end
/-! lists that grow strictly -/
/-! nets of debts -/
end Su
namespace Su
open PySem L2
local macro_rules | `(tactic| walk_at "side") => `(tactic| first | assumption | (show (0 : Int) < _; omega) | (show (0 : Int) ≤ _; omega) | (show (0 : Int) < _; split <;> omega) | (show _ ∨ _; omega) | (show _ ∧ _; omega) | exact ⟨by decide, by decide, by decide⟩ | exact ⟨by first | assumption | omega, by first | assumption | omega⟩)
local macro_rules | `(tactic| walk_at "xs") => `(tactic| repeat walk_at "x")
local macro_rules | `(tactic| walk_at "if") => `(tactic| first | with_reducible refine Su.x_iteD (fun c => ?_) (fun c => ?_) | with_reducible refine Su.x_iteN (fun c => ?_) (fun c => ?_) | with_reducible refine Su.x_ite (fun c => ?_) (fun c => ?_))

/-! dicts by names; the heap without some places -/
section
variable {K : PySem.W.Frag} {σ : St} {H H' : Hp} {Q : VK} {D : Ends} {td ty tv tx : TE} {a : Addr}
def AlD (Q : VK) (H : Hp) : Prop := ∀ p, H p = none → Q (.ref p) (upd H p (.dK []))
theorem x_dnew (h : AlD Q H) : tDNewK σ H Q := h
theorem x_dput (h : tv σ H fun v H1 => td σ H1 fun x H2 => ty σ H2 fun y H3 => ∃ a H4, x = .ref a ∧ DPut H3 a y v H4 ∧ D.nx σ H4) : sDPut td ty tv D σ H := h
theorem x_dgetE (h : td σ H fun x H1 => ty σ H1 fun y H2 => ∃ a v, x = .ref a ∧ DGet H2 a y (some v) ∧ Q v H2) : tDGet td ty σ H Q := h
theorem x_dget2 (h : td σ H fun x H1 => ∃ a, x = .ref a ∧ IsD H1 a ∧ ty σ H1 fun y H2 => tx σ H2 fun z H3 => ∃ o, DGet H3 a y o ∧ Q (o.getD z) H3) : tDGet2 td ty tx σ H Q := h
theorem x_din (h : ty σ H fun y H1 => td σ H1 fun x H2 => ∃ a o, x = .ref a ∧ DGet H2 a y o ∧ Q (.bl o.isSome) H2) : tDIn ty td σ H Q := h
theorem x_dnin (h : ty σ H fun y H1 => td σ H1 fun x H2 => ∃ a o, x = .ref a ∧ DGet H2 a y o ∧ Q (.bl (!o.isSome)) H2) : tDNotIn ty td σ H Q := h
end
/-! the heap without some places -/
def hide (A : List Addr) (H : Hp) : Hp := fun b => if b ∈ A then none else H b
section
variable {H H' : Hp} {A : List Addr} {a b : Addr} {o : HO}
theorem hide_in (h : a ∈ A) : hide A H a = none := by unfold hide; rw [if_pos h]
theorem hide_out (h : a ∉ A) : hide A H a = H a := by unfold hide; rw [if_neg h]
theorem hide_same : Same (hide A H) H := fun b o e => by
  by_cases c : b ∈ A
  · rw [hide_in c] at e; cases e
  · rw [hide_out c] at e; exact e
theorem hide_upd (h : a ∈ A) : hide A (upd H a o) = hide A H := by
  funext b
  by_cases c : b ∈ A
  · rw [hide_in c, hide_in c]
  · rw [hide_out c, hide_out c, upd_ne (fun (e : b = a) => c (by rw [e]; exact h))]
theorem hide_mono (e : Same H H') : Same (hide A H) (hide A H') := fun b o h => by
  by_cases c : b ∈ A
  · rw [hide_in c] at h; cases h
  · rw [hide_out c] at h ⊢; exact e b o h
theorem same_hide (e : Same H H') (n : ∀ a ∈ A, H a = none) : Same H (hide A H') := fun b o h => by
  have c : b ∉ A := fun c => by rw [n b c] at h; cases h
  rw [hide_out c]; exact e b o h
end
/-- the list at p holds these data, none of which leans on what stands in A -/
def LsAt (K : PySem.W.Frag) (A : List Addr) (H : Hp) (p : Addr) (ds : List PyData) : Prop := ∃ xs, H p = some (.lst xs) ∧ DpAll K (hide A H) xs ds
theorem LsAt.dp {K : PySem.W.Frag} {A : List Addr} {H : Hp} {p : Addr} {ds : List PyData} (h : LsAt K A H p ds) : Dp K H (.ref p) (.list ds) := by
  obtain ⟨xs, h1, h2⟩ := h
  exact .lst (SqL.of h1) (dpAll_same hide_same h2)
/-! nets and transfers as data -/
section
variable {K : PySem.W.Frag} {H : Hp} {v : V}
end
theorem range_getN {α β : Type} (g : α → β) (l : List α) : ∀ n, n ≤ l.length → (List.range n).filterMap (fun i => (l[i]?).map g) = (l.take n).map g
  | 0, _ => by simp
  | n + 1, h => by
    rw [List.range_succ, List.filterMap_append, range_getN g l n (by omega), List.take_succ, List.map_append, List.getElem?_eq_getElem (show n < l.length by omega)]
    simp [List.getElem?_eq_getElem (show n < l.length by omega)]
theorem range_get {α β : Type} (g : α → β) (l : List α) : (List.range l.length).filterMap (fun i => (l[i]?).map g) = l.map g := by
  rw [range_getN g l _ (Nat.le_refl _), List.take_length]
theorem set_mapI (l : List Int) (t : Nat) (x : Int) : (l.map V.int).set ((t : Int)).toNat (.int x) = (l.set t x).map V.int := by rw [List.map_set, Int.toNat_natCast]
theorem at_zero {x : V} {xs : List V} : atI (x :: xs) 0 = some x := by
  rw [at_get (d := .non) (by omega) (by simp)]; rfl

end Su
namespace Su
open PySem L2
local macro_rules | `(tactic| walk_at "side") => `(tactic| first | assumption | (show (0 : Int) < _; omega) | (show (0 : Int) ≤ _; omega) | (show (0 : Int) < _; split <;> omega) | (show _ ∨ _; omega) | (show _ ∧ _; omega) | exact ⟨by decide, by decide, by decide⟩ | exact ⟨by first | assumption | omega, by first | assumption | omega⟩)
local macro_rules | `(tactic| walk_at "xs") => `(tactic| repeat walk_at "x")
local macro_rules | `(tactic| walk_at "if") => `(tactic| first | with_reducible refine Su.x_iteD (fun c => ?_) (fun c => ?_) | with_reducible refine Su.x_iteN (fun c => ?_) (fun c => ?_) | with_reducible refine Su.x_ite (fun c => ?_) (fun c => ?_))

/-! transfers: the plain law -/
end Su
namespace Su
open PySem L2
local macro_rules | `(tactic| walk_at "side") => `(tactic| first | assumption | (show (0 : Int) < _; omega) | (show (0 : Int) ≤ _; omega) | (show (0 : Int) < _; split <;> omega) | (show _ ∨ _; omega) | (show _ ∧ _; omega) | exact ⟨by decide, by decide, by decide⟩ | exact ⟨by first | assumption | omega, by first | assumption | omega⟩)
local macro_rules | `(tactic| walk_at "xs") => `(tactic| repeat walk_at "x")
local macro_rules | `(tactic| walk_at "if") => `(tactic| first | with_reducible refine Su.x_iteD (fun c => ?_) (fun c => ?_) | with_reducible refine Su.x_iteN (fun c => ?_) (fun c => ?_) | with_reducible refine Su.x_ite (fun c => ?_) (fun c => ?_))

/-! good data: may be compared, are like themselves -/
mutual
theorem okD_lay : ∀ d : PyData, okD d = true → PyData.canLay0 d = true
  | .none, _ => rfl
  | .bool _, _ => rfl
  | .int _, _ => rfl
  | .str _, h => h
  | .list xs, h => by
    simp only [okD, Bool.and_eq_true] at h
    show PyData.canLayAll0 xs = true
    exact okL_lay xs h.2
  | .tuple xs, h => by
    simp only [okD, Bool.and_eq_true] at h
    show PyData.canLayAll0 xs = true
    exact okL_lay xs h.2
  | .dict _, h => by simp [okD] at h
theorem okL_lay : ∀ ds : List PyData, okL ds = true → PyData.canLayAll0 ds = true
  | [], _ => rfl
  | d :: ds, h => by
    simp only [okL, Bool.and_eq_true] at h
    show (PyData.canLay0 d && PyData.canLayAll0 ds) = true
    rw [okD_lay d h.1, okL_lay ds h.2]; rfl
end
structure GoodD (n : Nat) (d : PyData) : Prop where
  ok : okD d = true
  dep : d.depth ≤ n
theorem okL_all {ds : List PyData} (h : ∀ d ∈ ds, okD d = true) : okL ds = true := by
  induction ds with
  | nil => rfl
  | cons d ds ih =>
    simp only [okL, Bool.and_eq_true]
    exact ⟨h d List.mem_cons_self, ih fun x hx => h x (List.mem_cons_of_mem _ hx)⟩
theorem dep_all {ds : List PyData} {n : Nat} (h : ∀ d ∈ ds, d.depth ≤ n) : PyData.depthAll ds ≤ n := by
  induction ds with
  | nil => exact Nat.zero_le _
  | cons d ds ih =>
    show max d.depth (PyData.depthAll ds) ≤ n
    exact Nat.max_le.mpr ⟨h d List.mem_cons_self, ih fun x hx => h x (List.mem_cons_of_mem _ hx)⟩
theorem GoodD.lst {ds : List PyData} {n : Nat} (hl : ds.length ≤ 1000) (h : ∀ d ∈ ds, GoodD n d) : GoodD (n + 1) (.list ds) := by
  refine ⟨?_, ?_⟩
  · simp only [okD, Bool.and_eq_true, decide_eq_true_eq]
    exact ⟨hl, okL_all fun d hd => (h d hd).ok⟩
  · show PyData.depthAll ds + 1 ≤ n + 1
    have := dep_all fun d hd => (h d hd).dep
    omega
theorem GoodD.tup {ds : List PyData} {n : Nat} (hl : ds.length ≤ 1000) (h : ∀ d ∈ ds, GoodD n d) : GoodD (n + 1) (.tuple ds) := by
  refine ⟨?_, ?_⟩
  · simp only [okD, Bool.and_eq_true, decide_eq_true_eq]
    exact ⟨hl, okL_all fun d hd => (h d hd).ok⟩
  · show PyData.depthAll ds + 1 ≤ n + 1
    have := dep_all fun d hd => (h d hd).dep
    omega
theorem GoodD.int (n : Nat) (i : Int) : GoodD n (.int i) := ⟨rfl, Nat.zero_le _⟩
theorem GoodD.bool (n : Nat) (i : Bool) : GoodD n (.bool i) := ⟨rfl, Nat.zero_le _⟩
theorem GoodD.non (n : Nat) : GoodD n .none := ⟨rfl, Nat.zero_le _⟩
theorem strOk_of {w : List Nat} (h : ∀ c ∈ w, c < 256) : PyData.strOk (SX.S w) = true := by
  unfold PyData.strOk
  rw [← Array.all_toList, List.all_eq_true]
  intro c hc
  have := h c hc
  simp; omega
theorem GoodD.str (n : Nat) {w : List Nat} (h : ∀ c ∈ w, c < 256) : GoodD n (.str (SX.S w)) := ⟨strOk_of h, Nat.zero_le _⟩
theorem NameOk.low {w : List Nat} (h : NameOk w) : ∀ c ∈ w, c < 256 := fun c hc => by have := h.ok c hc; omega
theorem GoodD.shaped {n : Nat} {d : PyData} (h : GoodD n d) (hn : n ≤ 64) : SeqAt.shaped d = true := by
  unfold SeqAt.shaped
  rw [okD_lay d h.ok, decide_eq_true (Nat.le_trans h.dep hn)]; rfl
section
variable {K : PySem.W.Frag} {H : Hp} {Q : VK} {x y : V} {d : PyData} {n : Nat}
theorem x_sameSelf {E : XK} (g : GoodD n d) (hn : n ≤ 7) (hx : Dp K H x d) (hy : Dp K H y d) (h : ∀ H', Same H H' → Q (.bl true) H') : sp_law_same K [x, y] H Q E :=
  ⟨x, y, d, d, rfl, hx, hy, g.ok, g.ok, Nat.le_trans g.dep hn, fun H' s => by rw [sameD_refl d g.ok]; exact h H' s⟩
end
theorem good_map {α : Type} {n : Nat} {f : α → PyData} {l : List α} (hl : l.length ≤ 1000) (h : ∀ x ∈ l, GoodD n (f x)) : GoodD (n + 1) (.list (l.map f)) := .lst (by rw [List.length_map]; exact hl) fun d hd => by
  obtain ⟨x, hx, rfl⟩ := List.mem_map.mp hd
  exact h x hx
/-! numbers of the places where something holds -/
theorem at_upd {H : Hp} {a p : Addr} {o o' : HO} (h : H a = some o) (n : p ≠ a) : upd H p o' a = some o := by rw [upd_ne (fun e => n e.symm)]; exact h

end Su
namespace Su
open PySem L2
local macro_rules | `(tactic| walk_at "side") => `(tactic| first | assumption | (show (0 : Int) < _; omega) | (show (0 : Int) ≤ _; omega) | (show (0 : Int) < _; split <;> omega) | (show _ ∨ _; omega) | (show _ ∧ _; omega) | exact ⟨by decide, by decide, by decide⟩ | exact ⟨by first | assumption | omega, by first | assumption | omega⟩)
local macro_rules | `(tactic| walk_at "xs") => `(tactic| repeat walk_at "x")
local macro_rules | `(tactic| walk_at "if") => `(tactic| first | with_reducible refine Su.x_iteD (fun c => ?_) (fun c => ?_) | with_reducible refine Su.x_iteN (fun c => ?_) (fun c => ?_) | with_reducible refine Su.x_ite (fun c => ?_) (fun c => ?_))

/-! facts of an earlier heap, found by search -/
section
variable {K : PySem.W.Frag} {H H' : Hp} {a : Addr} {o : HO} {xs : List V} {v : V} {d : PyData} {vs : List V} {ds : List PyData}
theorem f_at (s : Same H H') (h : H a = some o) : H' a = some o := s _ _ h
theorem f_sqL (h : H a = some (.lst xs)) : SqL K H a xs := SqL.of h
theorem f_sqT (h : H a = some (.tup xs)) : SqT K H a xs := SqT.of h
theorem f_sqLs (s : Same H H') (h : SqL K H a xs) : SqL K H' a xs := s.seq h
theorem f_sqTs (s : Same H H') (h : SqT K H a xs) : SqT K H' a xs := seqT_same s h
theorem f_dp (s : Same H H') (h : Dp K H v d) : Dp K H' v d := dp_same s h
theorem f_dpA (s : Same H H') (h : DpAll K H vs ds) : DpAll K H' vs ds := dpAll_same s h
theorem f_tr {H1 H2 H3 : Hp} (s : Same H2 H3) (t : Same H1 H2) : Same H1 H3 := t.trans s
theorem f_free (s : Same H H') (n : H' a = none) : H a = none := s.free n
end

end Su
namespace Su
open PySem L2
local macro_rules | `(tactic| walk_at "side") => `(tactic| first | assumption | (show (0 : Int) < _; omega) | (show (0 : Int) ≤ _; omega) | (show (0 : Int) < _; split <;> omega) | (show _ ∨ _; omega) | (show _ ∧ _; omega) | exact ⟨by decide, by decide, by decide⟩ | exact ⟨by first | assumption | omega, by first | assumption | omega⟩)
local macro_rules | `(tactic| walk_at "xs") => `(tactic| repeat walk_at "x")
local macro_rules | `(tactic| walk_at "if") => `(tactic| first | with_reducible refine Su.x_iteD (fun c => ?_) (fun c => ?_) | with_reducible refine Su.x_iteN (fun c => ?_) (fun c => ?_) | with_reducible refine Su.x_ite (fun c => ?_) (fun c => ?_))

/-! classes: methods and makers that may be called -/
structure ClM (P : Program) (w : World) (K : PySem.W.Frag) (mg : Str → Option Value) (base : Heap) (CX : CXT) (k : Nat) (C : Addr) (m : Str) (sp : Sp) : Prop where
  cl : Cls K C
  ex : ∃ (f : Addr) (fd : FuncData) (ps : List Str), Meth K C m f ∧ Binds K fd ps [] ∧ FnOk P w K mg base CX k f fd ps sp
structure ClK (P : Program) (w : World) (K : PySem.W.Frag) (mg : Str → Option Value) (base : Heap) (CX : CXT) (k : Nat) (x : Str) (C : Addr) (sp : Sp) (dvs : List V) : Prop where
  ex : ∃ (f : Addr) (fd : FuncData) (ps : List Str) (ds : List Value), Mk K C f ∧ mg x = some (.ref C) ∧ Binds K fd ps ds ∧ Vals dvs ds ∧ FnOk P w K mg base CX k f fd ps sp
section
variable {X : Cx} {CX : CXT} {k j : Nat} {C : Addr} {m x : Str} {sp : Sp} {dvs : List V} {E : XK} {EW : St → XK} {p pos apos : Pos} {e o : Expr} {es : List Expr} {ta : TE} {t : TA}
theorem pe_cm {pl : Sem Bool} (c : ClM X.prog X.w X.K X.mg X.base CX k C m sp) (hr : Room j X.A) (hk : k ≤ j) (hx : Passes CX X E) (he : PE X o ta) (ha : PA X (e :: es) t)
    (hst : starEach (e :: es) X.env = (false, eval e X.env) :: starEach es X.env := by rfl) (hpl : (backTo pos (starEach es X.env)).any (·.1) = false := by rfl)
    (ht : eval (.Call (.Attribute o m apos) (e :: es) [] pos) X.env = (do
      let ov ← eval o X.env
      standAt apos.atName
      let (f, first) ← holding [ov] (getMethod ov m pl)
      callWith pos f first (backTo pos (starEach (e :: es) X.env)) (backToKw pos (keywordEach [] X.env))) := by rfl) :
    PE X (.Call (.Attribute o m apos) (e :: es) [] pos) (tMeth C m sp [] E ta t) := by
  obtain ⟨cl, f, fd, ps, h1, h2, h3⟩ := c
  exact pe_meth he cl h1 h3 (hr.mono hk) h2 .nil hx ha hst hpl ht
theorem pe_cm0 {pl : Sem Bool} (c : ClM X.prog X.w X.K X.mg X.base CX k C m sp) (hr : Room j X.A) (hk : k ≤ j) (hx : Passes CX X E) (he : PE X o ta)
    (ht : eval (.Call (.Attribute o m apos) [] [] pos) X.env = (do
      let ov ← eval o X.env
      standAt apos.atName
      let (f, first) ← holding [ov] (getMethod ov m pl)
      callWith pos f first (backTo pos (starEach [] X.env)) (backToKw pos (keywordEach [] X.env))) := by rfl) :
    PE X (.Call (.Attribute o m apos) [] [] pos) (tMeth C m sp [] E ta tNil) := by
  obtain ⟨cl, f, fd, ps, h1, h2, h3⟩ := c
  exact pe_meth0 he cl h1 h3 (hr.mono hk) h2 .nil hx ht
theorem pe_ck (c : ClK X.prog X.w X.K X.mg X.base CX k x C sp dvs) (hr : Room j X.A) (hk : k + 1 ≤ j) (hg : Gl X x) (hx : Passes CX X E) (ha : PA X (e :: es) t)
    (hdb : (x == ("__debug__" : Str)) = false := by decide) (he : starEach (e :: es) X.env = (false, eval e X.env) :: starEach es X.env := by rfl) (hpl : (backTo pos (starEach es X.env)).any (·.1) = false := by rfl) :
    PE X (.Call (.Name x p) (e :: es) [] pos) (tMake C sp dvs E t) := by
  obtain ⟨f, fd, ps, ds, h1, h2, h3, h4, h5⟩ := c.ex
  exact pe_make h1 h5 (hr.mono hk) hg h2 h3 h4 hx ha hdb he hpl
def tMethW (C : Addr) (m : Str) (sp : Sp) (E : St → XK) (ta : TE) (t : TA) : TE := fun σ H Q => ta σ H fun x H1 => ∃ a dx fs, x = .ref a ∧ H1 a = some (.ins C dx fs) ∧ fs.lookup m = none ∧ t σ H1 fun vs H2 => sp (x :: vs) H2 Q (E σ)
def tMakeW (C : Addr) (sp : Sp) (dvs : List V) (E : St → XK) (t : TA) : TE := fun σ H Q => t σ H fun vs H1 => ∀ x dx, H1 x = none → H1 dx = none → dx ≠ x →
  sp (.ref x :: (vs ++ dvs)) (upd (upd H1 dx (.own x)) x (.ins C dx [])) (fun v H2 => v = .non ∧ Q (.ref x) H2) (E σ)
end
/-! ### what a class has not -/
def NoAll (K : PySem.W.Frag) (C : Addr) : List Str → Prop
  | [] => True
  | f :: r => NoAttr K C f ∧ NoAll K C r
theorem NoAll.get {K : PySem.W.Frag} {C : Addr} {f : Str} : ∀ {fs : List Str}, NoAll K C fs → f ∈ fs → NoAttr K C f
  | [], _, h => nomatch h
  | g :: r, n, h => by
    rcases List.mem_cons.mp h with e | h
    · rw [e]; exact n.1
    · exact n.2.get h
structure ClsT (K : PySem.W.Frag) (x : Str) (fs : List Str) : Prop where
  cl : Cls K (He.ga K x)
  no : NoAll K (He.ga K x) fs
/-! ### readings -/
section
variable {K : PySem.W.Frag} {σ : St} {H : Hp} {Q : VK} {D : Ends} {ta tv : TE} {f m : Str} {C a : Addr} {sp : Sp} {dvs : List V} {E : XK} {EW : St → XK} {t : TA}
theorem x_fld (h : ta σ H fun x H1 => ∃ a C dx fs v, x = .ref a ∧ H1 a = some (.ins C dx fs) ∧ Cls K C ∧ NoAttr K C f ∧ fs.lookup f = some v ∧ Q v H1) : tFld K ta f σ H Q := h
theorem x_sfld (h : tv σ H fun y H1 => ta σ H1 fun x H2 => ∃ a C dx fs, x = .ref a ∧ H2 a = some (.ins C dx fs) ∧ Cls K C ∧ NoAttr K C f ∧ fs.length < 1000 ∧ D.nx σ (upd H2 a (.ins C dx (putF f y fs)))) : sFld K ta tv f D σ H := h
theorem x_sfldAug {rd : V → V → Hp → VK → Prop} (h : ta σ H fun x H1 => ∃ a C dx fs v, x = .ref a ∧ H1 a = some (.ins C dx fs) ∧ Cls K C ∧ NoAttr K C f ∧ fs.lookup f = some v ∧
  tv σ H1 fun y H2 => rd v y H2 fun z H3 => ∃ dx' fs', H3 a = some (.ins C dx' fs') ∧ fs'.length < 1000 ∧ D.nx σ (upd H3 a (.ins C dx' (putF f z fs')))) : sFldAug K ta tv rd f D σ H := h
theorem x_meth (h : ta σ H fun x H1 => ∃ a dx fs, x = .ref a ∧ H1 a = some (.ins C dx fs) ∧ fs.lookup m = none ∧ t σ H1 fun vs H2 => sp (x :: (vs ++ dvs)) H2 Q E) : tMeth C m sp dvs E ta t σ H Q := h
theorem x_methW (h : ta σ H fun x H1 => ∃ a dx fs, x = .ref a ∧ H1 a = some (.ins C dx fs) ∧ fs.lookup m = none ∧ t σ H1 fun vs H2 => sp (x :: vs) H2 Q (EW σ)) : tMethW C m sp EW ta t σ H Q := h
theorem x_make (h : t σ H fun vs H1 => ∀ x dx, H1 x = none → H1 dx = none → dx ≠ x → sp (.ref x :: (vs ++ dvs)) (upd (upd H1 dx (.own x)) x (.ins C dx [])) (fun v H2 => v = .non ∧ Q (.ref x) H2) E) : tMake C sp dvs E t σ H Q := h
theorem x_makeW (h : t σ H fun vs H1 => ∀ x dx, H1 x = none → H1 dx = none → dx ≠ x → sp (.ref x :: (vs ++ dvs)) (upd (upd H1 dx (.own x)) x (.ins C dx [])) (fun v H2 => v = .non ∧ Q (.ref x) H2) (EW σ)) : tMakeW C sp dvs EW t σ H Q := h
end
/-! ### frames: all but what stands in A is as it was -/
def Off (A : List Addr) (H H' : Hp) : Prop := ∀ b o, b ∉ A → H b = some o → H' b = some o
section
variable {A B : List Addr} {H H1 H2 : Hp} {x : Addr} {o : HO}
theorem Off.refl : Off A H H := fun _ _ _ h => h
theorem Off.of (s : Same H H1) : Off A H H1 := fun b o _ h => s b o h
theorem Off.trans (h : Off A H H1) (k : Off A H1 H2) : Off A H H2 := fun b o n e => k b o n (h b o n e)
theorem Off.mono (h : Off A H H1) (k : ∀ a ∈ A, a ∈ B) : Off B H H1 := fun b o n e => h b o (fun z => n (k b z)) e
theorem Off.upd (h : Off A H H1) (k : x ∈ A) : Off A H (L2.upd H1 x o) := fun b u n e => by rw [upd_ne (fun (z : b = x) => n (by rw [z]; exact k))]; exact h b u n e
theorem Off.hide (h : Off A H H1) : Same (hide A H) (Su.hide A H1) := fun b u e => by
  by_cases c : b ∈ A
  · rw [hide_in c] at e; cases e
  · rw [hide_out c] at e ⊢; exact h b u c e
theorem Off.same (h : Off A H H1) (n : ∀ a ∈ A, H a = none) : Same H H1 := fun b u e => h b u (fun c => by rw [n b c] at e; cases e) e
end
/-! ### cells -/
def Cells (H : Hp) (l : List (Addr × HO)) : Prop := ∀ p ∈ l, H p.1 = some p.2
section
variable {H H1 : Hp} {l m : List (Addr × HO)} {x : Addr} {o : HO}
theorem Cells.nil : Cells H [] := fun _ h => nomatch h
theorem Cells.cons (h : H x = some o) (k : Cells H l) : Cells H ((x, o) :: l) := fun p hp => by
  rcases List.mem_cons.mp hp with rfl | hp
  · exact h
  · exact k p hp
theorem Cells.app (h : Cells H l) (k : Cells H m) : Cells H (l ++ m) := fun p hp => (List.mem_append.mp hp).elim (h p) (k p)
theorem Cells.at_ (h : Cells H l) {j : Nat} (e : l[j]? = some (x, o)) : H x = some o := h (x, o) (List.mem_of_getElem? e)
theorem Cells.same (h : Cells H l) (s : Same H H1) : Cells H1 l := fun p hp => s _ _ (h p hp)
theorem Cells.off {A : List Addr} (h : Cells H l) (s : Off A H H1) (n : ∀ p ∈ l, p.1 ∉ A) : Cells H1 l := fun p hp => s _ _ (n p hp) (h p hp)
theorem Cells.upd (h : Cells H l) (n : x ∉ l.map (·.1)) : Cells (upd H x o) l := fun p hp => by
  rw [upd_ne (fun e => n (List.mem_map.mpr ⟨p, hp, e⟩))]; exact h p hp
theorem Cells.set (h : Cells H l) (nd : (l.map (·.1)).Nodup) {j : Nat} {u : HO} (e : l[j]? = some (x, u)) : Cells (L2.upd H x o) (l.set j (x, o)) := fun p hp => by
  have hj := (List.getElem?_eq_some_iff.mp e).1
  obtain ⟨i, hi, rfl⟩ := List.getElem_of_mem hp
  rw [List.length_set] at hi
  by_cases c : j = i
  · subst c
    rw [List.getElem_set_self]; exact upd_same
  · rw [List.getElem_set_ne c]
    have ne : (l[i]).1 ≠ x := fun z => c (by
      have h1 : (l.map (·.1))[i]'(by rw [List.length_map]; exact hi) = x := by rw [List.getElem_map]; exact z
      have h2 : (l.map (·.1))[j]'(by rw [List.length_map]; exact hj) = x := by
        rw [List.getElem_map, (List.getElem?_eq_some_iff.mp e).2]
      exact (List.getElem_inj nd).mp (h2.trans h1.symm))
    rw [upd_ne ne]
    exact h _ (List.getElem_mem _)
theorem Cells.fresh (h : Cells H l) (n : H x = none) : x ∉ l.map (·.1) := fun c => by
  obtain ⟨p, hp, rfl⟩ := List.mem_map.mp c
  rw [h p hp] at n; cases n
end

end Su
namespace Su
open PySem L2
local macro_rules | `(tactic| walk_at "side") => `(tactic| first | assumption | (show (0 : Int) < _; omega) | (show (0 : Int) ≤ _; omega) | (show (0 : Int) < _; split <;> omega) | (show _ ∨ _; omega) | (show _ ∧ _; omega) | exact ⟨by decide, by decide, by decide⟩ | exact ⟨by first | assumption | omega, by first | assumption | omega⟩)
local macro_rules | `(tactic| walk_at "xs") => `(tactic| repeat walk_at "x")
local macro_rules | `(tactic| walk_at "if") => `(tactic| first | with_reducible refine Su.x_iteD (fun c => ?_) (fun c => ?_) | with_reducible refine Su.x_iteN (fun c => ?_) (fun c => ?_) | with_reducible refine Su.x_ite (fun c => ?_) (fun c => ?_))

/-! NoOrder: an exception with an __init__ of its own -/
/-- the class, called by its name -/
structure ClX (P : Program) (w : World) (K : PySem.W.Frag) (mg : Str → Option Value) (base : Heap) (CX : CXT) (k : Nat) (sp : Sp) : Prop where
  ex : ∃ fd ps, NxC K ∧ mg "NoOrder" = some (.ref (nxC K)) ∧ Binds K fd ps [] ∧ FnOk P w K mg base CX k (He.fAd K ("NoOrder", some "__init__")) fd ps sp
def tRaiseN (K : PySem.W.Frag) (sp : Sp) (ta : TA) (W : WX) : TS := fun _ σ H => NxC K → tMkO (nxC K) sp [] ta σ H fun cls d H' => W cls d σ H'
section
variable {X : Cx} {CX : CXT} {k j : Nat} {sp : Sp} {e : Expr} {es : List Expr} {t : TA} {p pos pos' : Pos} {W : WX}
theorem ps_raiseN (hc : X.calm = true) (tk : Takes X W) (c : ClX X.prog X.w X.K X.mg X.base CX k sp) (hr : Room j X.A) (hk : k + 1 ≤ j) (hg : Gl X "NoOrder") (hx : Passes CX X (fun _ _ _ => False)) (ha : PA X (e :: es) t)
    (he : starEach (e :: es) X.env = (false, eval e X.env) :: starEach es X.env := by rfl) (hpl : (backTo pos (starEach es X.env)).any (·.1) = false := by rfl) : PS X (.Raise (some (.Call (.Name "NoOrder" p) (e :: es) [] pos)) none pos') (tRaiseN X.K sp t W) := by
  obtain ⟨fd, ps, nx, hm, hb, F⟩ := c.ex
  have m := ps_raise (pos := pos') (e := .Call (.Name "NoOrder" p) (e :: es) [] pos) hc tk (pmk_oex nx.x nx.i nx.t F (hr.mono hk) hb .nil hx hg hm ha (by decide) he hpl)
  exact ⟨fun pins s σ H D I h => m.run pins s σ H D I (h nx)⟩
end
/-- what stands there behind the raise -/
structure NoOrd (H H' : Hp) (d : Addr) (e l : Int) (cr : List Nat) : Prop where
  s : Same H H'
  n : H d = none
  ex : ∃ (fs : List (Str × V)) (p : Addr), H' d = some (.xd fs) ∧ fs.lookup ("early" : Str) = some (.int e) ∧ fs.lookup ("late" : Str) = some (.int l) ∧ fs.lookup ("crowd" : Str) = some (.ref p) ∧ H' p = some (.lst (nI cr)) ∧ H p = none ∧ p ≠ d
theorem NoOrd.low {H H1 H' : Hp} {d : Addr} {e l : Int} {cr : List Nat} (h : NoOrd H1 H' d e l cr) (s : Same H H1) : NoOrd H H' d e l cr := by
  obtain ⟨fs, p, a1, a2, a3, a4, a5, a6, a7⟩ := h.ex
  exact ⟨s.trans h.s, s.free h.n, fs, p, a1, a2, a3, a4, a5, s.free a6, a7⟩

end Su
namespace Su
open PySem L2
local macro_rules | `(tactic| walk_at "side") => `(tactic| first | assumption | (show (0 : Int) < _; omega) | (show (0 : Int) ≤ _; omega) | (show (0 : Int) < _; split <;> omega) | (show _ ∨ _; omega) | (show _ ∧ _; omega) | exact ⟨by decide, by decide, by decide⟩ | exact ⟨by first | assumption | omega, by first | assumption | omega⟩)
local macro_rules | `(tactic| walk_at "x") => `(tactic| first | with_reducible refine Su.x_seq ?_ | ((with_reducible show L2.tVar _ _ _ _); refine Su.x_var rfl ?_) | with_reducible refine Su.x_nil ?_ | with_reducible refine Su.x_cons ?_ | with_reducible refine Su.x_cb ?_)
local macro_rules | `(tactic| walk_at "xs") => `(tactic| repeat walk_at "x")
local macro_rules | `(tactic| walk_at "if") => `(tactic| first | with_reducible refine Su.x_iteD (fun c => ?_) (fun c => ?_) | with_reducible refine Su.x_iteN (fun c => ?_) (fun c => ?_) | with_reducible refine Su.x_ite (fun c => ?_) (fun c => ?_))

/-- self.early, self.late, self.crowd -/
def sp_NoOrder_init (K : PySem.W.Frag) : Sp := fun vs H Q _ => ∃ (a : Addr) (e l : Int) (q : Addr) (cr : List Nat), vs = [.ref a, .int e, .int l, .ref q] ∧ NxC K ∧ H a = some (exo a (nxC K) none) ∧ SqL K (Su.del H a) q (nI cr) ∧
  ∀ (d p : Addr) (fs : List (Str × V)) (H' : Hp), H d = none → H p = none → d ≠ a → p ≠ a → p ≠ d → (∀ y u, y ≠ a → H y = some u → H' y = some u) → H' a = some (exo a (nxC K) (some d)) → H' d = some (exd d fs) → H' p = some (.lst (nI cr)) → fs.lookup ("early" : Str) = some (.int e) → fs.lookup ("late" : Str) = some (.int l) → fs.lookup ("crowd" : Str) = some (.ref p) → Q .non H'
theorem x_ost {K : PySem.W.Frag} {f : Str} {to te : TE} {D : Ends} {σ : St} {H : Hp} (h : te σ H fun y H1 => to σ H1 fun x H2 => ∃ a C : Addr, x = .ref a ∧ OexC K C ∧ PySem.W.findIn K (.ref C) f = some none ∧
  ((H2 a = some (exo a C none) ∧ ∀ dx, H2 dx = none → dx ≠ a → D.nx σ (upd (upd H2 dx (exd dx [(f, y)])) a (exo a C (some dx)))) ∨
    ∃ (dx : Addr) (fs : List (Str × V)), H2 a = some (exo a C (some dx)) ∧ H2 dx = some (exd dx fs) ∧ fs.length ≤ 900 ∧ D.nx σ (upd H2 dx (exd dx ((f, y) :: fs))))) : tOst K f to te D σ H := h
theorem x_raiseN {K : PySem.W.Frag} {sp : Sp} {ta : TA} {W : WX} {D : Ends} {σ : St} {H : Hp} (h : NxC K → ta σ H fun vs H1 => vs.length ≤ 1000 ∧ ∀ a, H1 a = none → sp (.ref a :: (vs ++ [])) (upd H1 a (exo a (nxC K) none))
  (fun v H2 => v = .non ∧ ∃ (d : Addr) (fs : List (Str × V)), H2 a = some (exo a (nxC K) (some d)) ∧ H2 d = some (exd d fs) ∧ H1 d = none ∧ W (.ref (nxC K)) (some d) σ (upd (L2.del H2 a) d (.xd fs))) (fun _ _ _ => False)) : tRaiseN K sp ta W D σ H := h
/-- the exception is made -/
theorem no_made {K : PySem.W.Frag} {H : Hp} {e l : Int} {q : Addr} {cr : List Nat} {Q : Option Addr → Hp → Prop} (nx : NxC K) (hq : SqL K H q (nI cr)) (k : ∀ d H', NoOrd H H' d e l cr → Q (some d) H') :
    ([.int e, .int l, .ref q] : List V).length ≤ 1000 ∧ ∀ a, H a = none → sp_NoOrder_init K (.ref a :: ([.int e, .int l, .ref q] ++ [])) (upd H a (exo a (nxC K) none))
      (fun v H2 => v = .non ∧ ∃ (d : Addr) (fs : List (Str × V)), H2 a = some (exo a (nxC K) (some d)) ∧ H2 d = some (exd d fs) ∧ H d = none ∧ Q (some d) (upd (L2.del H2 a) d (.xd fs))) (fun _ _ _ => False) := by
  refine ⟨by show 3 ≤ 1000; decide, fun a na => ⟨a, e, l, q, cr, rfl, nx, upd_same, Same.seq (fun y u hy => ?_) hq, fun d p fs H' nd np da pa pd keep ha hd hp f1 f2 f3 => ?_⟩⟩
  · rw [del_upd]
    unfold Su.del
    rw [if_neg (fun z => by rw [z, na] at hy; cases hy)]; exact hy
  have nd0 : H d = none := by rw [upd_ne da] at nd; exact nd
  have np0 : H p = none := by rw [upd_ne pa] at np; exact np
  refine ⟨rfl, d, fs, ha, hd, nd0, k d _ ⟨fun y u hy => ?_, nd0, fs, p, upd_same, f1, f2, f3, ?_, np0, pd⟩⟩
  · have ya : y ≠ a := fun z => by rw [z, na] at hy; cases hy
    rw [upd_ne (fun z => by rw [z, nd0] at hy; cases hy), L2.del_ne ya]
    exact keep y u ya (by rw [upd_ne ya]; exact hy)
  · rw [upd_ne pd, L2.del_ne pa]; exact hp
abbrev N_NoOrder_init : List Str := ["self", "early", "late", "crowd"]
def t_NoOrder_init (K : PySem.W.Frag) : TS :=
 (tSeq (tOst K "early" (tVar 0) (tVar 1))
 (tSeq (tOst K "late" (tVar 0) (tVar 2))
 (tOst K "crowd" (tVar 0) (tCB (rListOf K) (tCons (tVar 3) tNil)))))

theorem len_NoOrder_init {K : PySem.W.Frag} : ∀ vs H Q E, sp_NoOrder_init K vs H Q E → vs.length = ["a", "b", "c", "d"].length := by
  rintro vs H Q E ⟨_, _, _, _, _, rfl, _⟩; rfl
theorem pure_NoOrder_init {K : PySem.W.Frag} {vs : List V} {H : Hp} {Q : VK} {E : XK} (h : sp_NoOrder_init K vs H Q E) : t_NoOrder_init K { nx := fun _ H' => Q .non H', rt := Q } (start N_NoOrder_init vs) H := by
  obtain ⟨a, e, l, q, cr, rfl, nx, ha, hq, k⟩ := h
  unfold t_NoOrder_init
  walk_at "xs"
  refine x_ost ?_
  walk_at "xs"
  refine ⟨a, nxC K, rfl, nx.x, nx.f1, .inl ⟨ha, fun d nd da => ?_⟩⟩
  have h1a : upd (upd H d (exd d [(("early" : Str), V.int e)])) a (exo a (nxC K) (some d)) a = some (exo a (nxC K) (some d)) := upd_same
  have h1d : upd (upd H d (exd d [(("early" : Str), V.int e)])) a (exo a (nxC K) (some d)) d = some (exd d [(("early" : Str), V.int e)]) := by rw [upd_ne da, upd_same]
  have h1 : ∀ y u, y ≠ a → H y = some u → upd (upd H d (exd d [(("early" : Str), V.int e)])) a (exo a (nxC K) (some d)) y = some u := fun y u ya hy => by
    rw [upd_ne ya, upd_ne (fun z => by rw [z, nd] at hy; cases hy)]; exact hy
  generalize upd (upd H d (exd d [(("early" : Str), V.int e)])) a (exo a (nxC K) (some d)) = H1 at h1a h1d h1
  walk_at "xs"
  refine x_ost ?_
  walk_at "xs"
  refine ⟨a, nxC K, rfl, nx.x, nx.f2, .inr ⟨d, _, h1a, h1d, by show 1 ≤ 900; decide, ?_⟩⟩
  have h2a : upd H1 d (exd d [(("late" : Str), V.int l), (("early" : Str), V.int e)]) a = some (exo a (nxC K) (some d)) := by rw [upd_ne da.symm]; exact h1a
  have h2d : upd H1 d (exd d [(("late" : Str), V.int l), (("early" : Str), V.int e)]) d = some (exd d [(("late" : Str), V.int l), (("early" : Str), V.int e)]) := upd_same
  have h2 : ∀ y u, y ≠ a → H y = some u → upd H1 d (exd d [(("late" : Str), V.int l), (("early" : Str), V.int e)]) y = some u := fun y u ya hy => by
    rw [upd_ne (fun z => by rw [z, nd] at hy; cases hy)]; exact h1 y u ya hy
  generalize upd H1 d (exd d [(("late" : Str), V.int l), (("early" : Str), V.int e)]) = H2 at h2a h2d h2
  have s2 : Same (Su.del H a) H2 := fun y u ey => by
    have ya : y ≠ a := fun z => by
      unfold Su.del at ey
      rw [if_pos z] at ey; cases ey
    exact h2 y u ya (Su.del_same _ _ ey)
  walk_at "xs"
  dsimp only
  refine x_ost ?_
  walk_at "xs"
  refine al_list (s2.seq hq) fun p H3 np s3 hp => ?_
  walk_at "xs"
  have pa : p ≠ a := fun z => by rw [z, h2a] at np; cases np
  have pd : p ≠ d := fun z => by rw [z, h2d] at np; cases np
  have np0 : H p = none := by
    cases c : H p with
    | none => rfl
    | some u => rw [h2 p u pa c] at np; cases np
  refine ⟨a, nxC K, rfl, nx.x, nx.f3, .inr ⟨d, _, s3 _ _ h2a, s3 _ _ h2d, by show 2 ≤ 900; decide, ?_⟩⟩
  refine k d p _ _ nd np0 da pa pd (fun y u ya hy => ?_) (by rw [upd_ne da.symm]; exact s3 _ _ h2a) upd_same (by rw [upd_ne pd]; exact hp) rfl rfl rfl
  rw [upd_ne (fun z => by rw [z, nd] at hy; cases hy)]
  exact s3 _ _ (h2 y u ya hy)

end Su
namespace Su
open PySem L2
local macro_rules | `(tactic| walk_at "side") => `(tactic| first | assumption | (show (0 : Int) < _; omega) | (show (0 : Int) ≤ _; omega) | (show (0 : Int) < _; split <;> omega) | (show _ ∨ _; omega) | (show _ ∧ _; omega) | exact ⟨by decide, by decide, by decide⟩ | exact ⟨by first | assumption | omega, by first | assumption | omega⟩)
local macro_rules | `(tactic| walk_at "x") => `(tactic| first | with_reducible refine Su.x_seq ?_ | with_reducible refine Su.x_asg ?_ | with_reducible refine Su.x_gname ?_ | with_reducible refine Su.x_ret ?_ | with_reducible refine Su.x_ifS ?_ | ((with_reducible show L2.tVar _ _ _ _); refine Su.x_var rfl ?_) | with_reducible refine Su.x_c ?_ | with_reducible refine Su.x_op ?_ | with_reducible refine Su.x_rI0 ?_ | with_reducible refine Su.x_iteF ?_ | with_reducible refine Su.x_iteT ?_ | with_reducible refine Su.x_eqI ?_ | with_reducible refine Su.x_test ?_ | with_reducible refine Su.x_isB' ?_ | with_reducible refine Su.x_and ?_ | with_reducible refine Su.x_or ?_ | with_reducible refine Su.x_nil ?_ | with_reducible refine Su.x_cons ?_ | with_reducible refine Su.x_un ?_ | with_reducible refine Su.x_rU ?_ | with_reducible refine Su.x_next ?_ | with_reducible refine Su.x_for ?_ | with_reducible refine Su.x_iEnum ?_ | with_reducible refine Su.x_gcons ?_ | with_reducible refine Su.x_gnil ?_)
local macro_rules | `(tactic| walk_at "xs") => `(tactic| repeat walk_at "x")
local macro_rules | `(tactic| walk_at "if") => `(tactic| first | with_reducible refine Su.x_iteD (fun c => ?_) (fun c => ?_) | with_reducible refine Su.x_iteN (fun c => ?_) (fun c => ?_) | with_reducible refine Su.x_ite (fun c => ?_) (fun c => ?_))

/-! next_window -/
def sp_next_window (K : PySem.W.Frag) : Sp := fun vs H Q _ => ∃ (v : V) (ws : List (Int × Int)) (p : Addr) (row : List Nat) (t : Int), vs = [v, .ref p, .int t] ∧ Dp K H v (dWin ws) ∧ SqL K H p (nI row) ∧
  ∀ H', Same H H' → Q (.int (optI (nextN ws row t ws.length))) H'
abbrev N_next_window : List Str := ["windows", "row", "turn", "best", "at", "first", "last"]
def t_next_window (K : PySem.W.Frag) : TS :=
 (tSeq (tAsg (tUn rNeg (tC (.int 1))) (gName 3))
 (tSeq (tFor (iEnum K (tCons (tVar 0) tNil)) (gTup K 2 (gCons (gName 4) (gCons (gTup K 2 (gCons (gName 5) (gCons (gName 6) gNil))) gNil)))
 (tIfS (tAnd (tTest (tOp rLe (tVar 5) (tVar 2))) (tTest (tOp (rIn K true) (tVar 4) (tVar 1))))
 (tIfS (tOr (tTest (tOp rEq (tVar 3) (tUn rNeg (tC (.int 1))))) (tTest (tOp rLt (tVar 6) (tOp (rIxT K) (tOp (rIxL K) (tVar 0) (tVar 3)) (tC (.int 1))))))
 (tAsg (tVar 4) (gName 3))
 tNext)
 tNext))
 (tRet (tVar 3))))

theorem len_next_window {K : PySem.W.Frag} : ∀ vs H Q E, sp_next_window K vs H Q E → vs.length = ["a", "b", "c"].length := by
  rintro vs H Q E ⟨_, _, _, _, _, rfl, _⟩; rfl
theorem pure_next_window {K : PySem.W.Frag} {vs : List V} {H : Hp} {Q : VK} {E : XK} (h : sp_next_window K vs H Q E) : t_next_window K { nx := fun _ H' => Q .non H', rt := Q } (start N_next_window vs) H := by
  obtain ⟨v, ws, p, row, t, rfl, hw, hp, k⟩ := h
  obtain ⟨q, xs, rfl, hq, hx, hat⟩ := win_at hw
  unfold t_next_window
  walk_at "xs"
  refine ⟨q, xs, rfl, hq, for_by turnsE (fun i σ H' => ∃ (u v w : Option V), σ = [some (.ref q), some (.ref p), some (.int t), some (.int (optI (nextN ws row t i))), u, v, w] ∧ Same H H')
    ⟨none, none, none, rfl, Same.refl H⟩ (fun i σ H' _ ⟨_, _, _, _, s⟩ => s.seq hq) ?_ ?_⟩
  · rintro i y σ H2 H3 hi ⟨u, v, w, rfl, s2⟩ ⟨x, hx', T, rfl, nT, s3, hT, _⟩
    obtain ⟨wi, t1, ew, rfl, ht⟩ := hat i x hx'
    have hd : ws.getD i (0, 0) = wi := by rw [List.getD_eq_getElem?_getD, ew]; rfl
    have h1 : w1 ws i = wi.1 := by unfold w1; rw [hd]
    have h2 : w2 ws i = wi.2 := by unfold w2; rw [hd]
    have s4 := s2.trans s3
    refine x_gtup (SqT.of hT) rfl ?_
    walk_at "xs"
    refine x_gtup (seqT_same s4 ht) rfl ?_
    walk_at "xs"
    have en : nextN ws row t (i + 1) = if rdy ws row t i = true then pick ws i (nextN ws row t i) else nextN ws row t i := rfl
    walk_at "if"
    · rename_i c1
      walk_at "xs"
      refine x_notInN (s4.seq hp) ?_
      walk_at "xs"
      walk_at "if"
      · rename_i c2
        have r : rdy ws row t i = true := by unfold rdy; rw [h1]; simp [c1, c2]
        rw [if_pos r] at en
        walk_at "xs"
        cases e : nextN ws row t i with
        | none =>
          rw [e] at en
          walk_at "xs"
          walk_at "if"
          · walk_at "xs"
            exact ⟨_, _, _, by rw [en]; rfl, s4⟩
          · rename_i c3; exact absurd rfl c3
        | some b =>
          rw [e] at en
          have hb := (nextN_some e).1
          walk_at "if"
          · rename_i c3
            have : (b : Int) = -1 := c3
            omega
          · walk_at "xs"
            refine x_winix (dp_same s4 hw) (by show (0 : Int) ≤ (b : Int); omega) (by show (b : Int) < _; omega) fun t2 ht2 => ?_
            walk_at "xs"
            refine x_ix1 ht2 ?_
            walk_at "xs"
            have eb : (ws.getD (optI (some b)).toNat (0, 0)).2 = w2 ws b := rfl
            rw [eb, ← h2]
            walk_at "if"
            · rename_i c4
              walk_at "xs"
              exact ⟨_, _, _, by rw [en]; unfold pick; simp only; rw [if_pos c4]; rfl, s4⟩
            · rename_i c4
              walk_at "xs"
              exact ⟨_, _, _, by rw [en]; unfold pick; simp only; rw [if_neg c4]; rfl, s4⟩
      · rename_i c2
        have r : rdy ws row t i = false := by unfold rdy; simp [c2]
        rw [r, if_neg Bool.false_ne_true] at en
        walk_at "xs"
        exact ⟨_, _, _, by rw [en]; rfl, s4⟩
    · rename_i c1
      have r : rdy ws row t i = false := by unfold rdy; rw [h1]; simp [c1]
      rw [r, if_neg Bool.false_ne_true] at en
      walk_at "xs"
      exact ⟨_, _, _, by rw [en]; rfl, s4⟩
  · rintro σ H2 ⟨u, v, w, rfl, s2⟩
    walk_at "xs"
    rw [hx]
    exact k H2 s2

end Su
namespace Su
open PySem L2
local macro_rules | `(tactic| walk_at "side") => `(tactic| first | assumption | (show (0 : Int) < _; omega) | (show (0 : Int) ≤ _; omega) | (show (0 : Int) < _; split <;> omega) | (show _ ∨ _; omega) | (show _ ∧ _; omega) | exact ⟨by decide, by decide, by decide⟩ | exact ⟨by first | assumption | omega, by first | assumption | omega⟩)
local macro_rules | `(tactic| walk_at "x") => `(tactic| first | with_reducible refine Su.x_seq ?_ | with_reducible refine Su.x_asg ?_ | with_reducible refine Su.x_gname ?_ | with_reducible refine Su.x_ret ?_ | ((with_reducible show L2.tVar _ _ _ _); refine Su.x_var rfl ?_) | with_reducible refine Su.x_c ?_ | with_reducible refine Su.x_op ?_ | with_reducible refine Su.x_rI0 ?_ | with_reducible refine Su.x_rGt ?_ | with_reducible refine Su.x_test ?_ | with_reducible refine Su.x_isB' ?_ | with_reducible refine Su.x_and ?_ | with_reducible refine Su.x_nil ?_ | with_reducible refine Su.x_cons ?_ | with_reducible refine Su.x_call ?_ | with_reducible refine Su.x_tup ?_ | with_reducible refine Su.x_whileN ?_ | with_reducible refine Su.x_ipI ?_ | ((with_reducible show L2.tAug _ _ _ _ _ _); refine Su.x_aug rfl ?_))
local macro_rules | `(tactic| walk_at "xs") => `(tactic| repeat walk_at "x")
local macro_rules | `(tactic| walk_at "if") => `(tactic| first | with_reducible refine Su.x_iteD (fun c => ?_) (fun c => ?_) | with_reducible refine Su.x_iteN (fun c => ?_) (fun c => ?_) | with_reducible refine Su.x_ite (fun c => ?_) (fun c => ?_))

/-! bar_of -/
def sp_bar_of (K : PySem.W.Frag) : Sp := fun vs H Q _ => ∃ (v : V) (ws : List (Int × Int)) (p : Addr) (row : List Nat) (late : Int), vs = [v, .ref p, .int late] ∧ Dp K H v (dWin ws) ∧ SqL K H p (nI row) ∧ ws.length ≤ 1000 ∧ 0 ≤ late ∧ late ≤ row.length ∧ (∀ x ∈ row, x < ws.length) ∧
  ∀ v' H', Same H H' → PaperAt H H' v' (barOf ws row late) → Q v' H'
abbrev N_bar_of : List Str := ["windows", "row", "late", "early"]
def t_bar_of (K : PySem.W.Frag) : TS :=
 (tSeq (tAsg (tOp rAdd (tVar 2) (tC (.int 1))) (gName 3))
 (tSeq (tWhile (tAnd (tTest (tOp rGt (tVar 3) (tC (.int 1)))) (tTest (tOp rLe (tOp (rIxT K) (tOp (rIxL K) (tVar 0) (tOp (rIxL K) (tVar 1) (tOp rSub (tVar 3) (tC (.int 2))))) (tC (.int 1))) (tVar 2))))
 (tAug 3 (tC (.int 1)) (ipI fun i j => i - j)))
 (tRet (tTup (tCons (tC (.str "bar")) (tCons (tVar 3) (tCons (tVar 2) (tCons (tCall (sp_within K) [] E0 (tCons (tVar 0) (tCons (tVar 3) (tCons (tVar 2) tNil)))) tNil))))))))

theorem len_bar_of {K : PySem.W.Frag} : ∀ vs H Q E, sp_bar_of K vs H Q E → vs.length = ["a", "b", "c"].length := by
  rintro vs H Q E ⟨_, _, _, _, _, rfl, _⟩; rfl
theorem pure_bar_of {K : PySem.W.Frag} {vs : List V} {H : Hp} {Q : VK} {E : XK} (h : sp_bar_of K vs H Q E) : t_bar_of K { nx := fun _ H' => Q .non H', rt := Q } (start N_bar_of vs) H := by
  obtain ⟨v, ws, p, row, late, rfl, hw, hp, hl, l0, l1, hr, k⟩ := h
  obtain ⟨q, xs, rfl, hq, hx, hat⟩ := win_at hw
  unfold t_bar_of
  walk_at "xs"
  have fin : ∀ j : Nat, downTo ws row late j = downTo ws row late late.toNat → downTo ws row late j = j →
      (tRet (tTup (tCons (tC (.str "bar")) (tCons (tVar 3) (tCons (tVar 2) (tCons (tCall (sp_within K) [] E0 (tCons (tVar 0) (tCons (tVar 3) (tCons (tVar 2) tNil)))) tNil)))))) { nx := fun _ H' => Q .non H', rt := Q } [some (.ref q), some (.ref p), some (.int late), some (.int ((j : Int) + 1))] H := by
    intro j e1 e2
    walk_at "xs"
    refine ⟨_, ws, (j : Int) + 1, late, rfl, hw, hl, fun c H1 nc s1 hc => ?_⟩
    walk_at "xs"
    refine al_tup fun t H2 nt s2 ht => ?_
    have e3 : downTo ws row late late.toNat = j := by rw [← e1, e2]
    refine k _ H2 (s1.trans s2) ?_
    unfold barOf
    rw [e3]
    exact ⟨t, c, rfl, s1.free nt, nc, ht, s2 _ _ hc⟩
  refine ⟨fun m σ H' => ∃ j : Nat, σ = [some (.ref q), some (.ref p), some (.int late), some (.int ((j : Int) + 1))] ∧ H = H' ∧ j ≤ late.toNat ∧ downTo ws row late j = downTo ws row late late.toNat ∧ j = m, ⟨_, late.toNat, by rw [Int.toNat_of_nonneg l0]; rfl, rfl, Nat.le_refl _, rfl, rfl⟩, ?_⟩
  rintro m σ H2 ⟨j, rfl, rfl, hj, hd, rfl⟩
  walk_at "xs"
  walk_at "if"
  · rename_i c1
    obtain ⟨j', rfl⟩ : ∃ j', j = j' + 1 := ⟨j - 1, by omega⟩
    walk_at "xs"
    refine x_ixL hp (at_getN (by omega) (by omega)) ?_
    have e0 : (((j' + 1 : Nat) : Int) + 1 - 2).toNat = j' := by omega
    rw [e0]
    have hjl : j' < row.length := by omega
    have hg : row.getD j' 0 < ws.length := by
      rw [List.getD_eq_getElem?_getD, List.getElem?_eq_getElem hjl]
      exact hr _ (List.getElem_mem _)
    refine x_winix hw (by omega) (by omega) fun t2 ht2 => ?_
    walk_at "xs"
    refine x_ix1 ht2 ?_
    walk_at "xs"
    have eb : (ws.getD ((row.getD j' 0 : Nat) : Int).toNat (0, 0)).2 = w2 ws (row.getD j' 0) := rfl
    rw [eb]
    have ed : downTo ws row late (j' + 1) = if w2 ws (row.getD j' 0) ≤ late then downTo ws row late j' else j' + 1 := rfl
    walk_at "if"
    · rename_i c2
      walk_at "xs"
      rw [if_pos c2] at ed
      exact ⟨_, Nat.lt_succ_self _, j', by show [_, _, _, some (V.int ((((j' + 1 : Nat) : Int) + 1) - 1))] = _; rw [show (((j' + 1 : Nat) : Int) + 1) - 1 = (j' : Int) + 1 by omega], rfl, by omega, by rw [← hd, ed], rfl⟩
    · rename_i c2
      rw [if_neg c2] at ed
      exact fin (j' + 1) hd ed
  · rename_i c1
    have : j = 0 := by omega
    subst this
    refine x_iteF ?_
    exact fin 0 hd rfl

end Su
namespace Su
open PySem L2
local macro_rules | `(tactic| walk_at "side") => `(tactic| first | assumption | (show (0 : Int) < _; omega) | (show (0 : Int) ≤ _; omega) | (show (0 : Int) < _; split <;> omega) | (show _ ∨ _; omega) | (show _ ∧ _; omega) | exact ⟨by decide, by decide, by decide⟩ | exact ⟨by first | assumption | omega, by first | assumption | omega⟩)
local macro_rules | `(tactic| walk_at "x") => `(tactic| first | with_reducible refine Su.x_seq ?_ | with_reducible refine Su.x_asg ?_ | with_reducible refine Su.x_gname ?_ | with_reducible refine Su.x_drop ?_ | with_reducible refine Su.x_ret ?_ | with_reducible refine Su.x_ifS ?_ | ((with_reducible show L2.tVar _ _ _ _); refine Su.x_var rfl ?_) | with_reducible refine Su.x_c ?_ | with_reducible refine Su.x_op ?_ | with_reducible refine Su.x_rI0 ?_ | with_reducible refine Su.x_eqI ?_ | with_reducible refine Su.x_test ?_ | with_reducible refine Su.x_isB' ?_ | with_reducible refine Su.x_nil ?_ | with_reducible refine Su.x_cons ?_ | with_reducible refine Su.x_cb ?_ | with_reducible refine Su.x_call ?_ | with_reducible refine Su.x_un ?_ | with_reducible refine Su.x_rU ?_ | with_reducible refine Su.x_lst ?_ | with_reducible refine Su.x_tup ?_ | with_reducible refine Su.x_bmL ?_ | with_reducible refine Su.x_next ?_ | with_reducible refine Su.x_for ?_ | with_reducible refine Su.x_iRng2 ?_)
local macro_rules | `(tactic| walk_at "xs") => `(tactic| repeat walk_at "x")
local macro_rules | `(tactic| walk_at "if") => `(tactic| first | with_reducible refine Su.x_iteD (fun c => ?_) (fun c => ?_) | with_reducible refine Su.x_iteN (fun c => ?_) (fun c => ?_) | with_reducible refine Su.x_ite (fun c => ?_) (fun c => ?_))

/-! order_or_bar -/
def sp_order_or_bar (K : PySem.W.Frag) : Sp := fun vs H Q _ => ∃ (v : V) (ws : List (Int × Int)), vs = [v] ∧ Dp K H v (dWin ws) ∧ ws.length ≤ 1000 ∧ WinOk ws.length ws ∧
  ∀ v' H', Same H H' → PaperAt H H' v' (paperOf ws) → Q v' H'
abbrev N_order_or_bar : List Str := ["windows", "row", "size", "turn", "at"]
def t_order_or_bar (K : PySem.W.Frag) : TS :=
 (tSeq (tAsg (tLst tNil) (gName 1))
 (tSeq (tAsg (tCB (rLenSeq K) (tCons (tVar 0) tNil)) (gName 2))
 (tSeq (tFor (iRng2 (tCons (tC (.int 1)) (tCons (tOp rAdd (tVar 2) (tC (.int 1))) tNil))) (gName 3)
 (tSeq (tAsg (tCall (sp_next_window K) [] E0 (tCons (tVar 0) (tCons (tVar 1) (tCons (tVar 3) tNil)))) (gName 4))
 (tSeq (tIfS (tTest (tOp rEq (tVar 4) (tUn rNeg (tC (.int 1)))))
 (tRet (tTup (tCons (tC (.str "bar")) (tCons (tOp rAdd (tVar 3) (tC (.int 1))) (tCons (tVar 2) (tCons (tCall (sp_within K) [] E0 (tCons (tVar 0) (tCons (tOp rAdd (tVar 3) (tC (.int 1))) (tCons (tVar 2) tNil)))) tNil))))))
 tNext)
 (tSeq (tIfS (tTest (tOp rLt (tOp (rIxT K) (tOp (rIxL K) (tVar 0) (tVar 4)) (tC (.int 1))) (tVar 3)))
 (tRet (tCall (sp_bar_of K) [] E0 (tCons (tVar 0) (tCons (tVar 1) (tCons (tOp (rIxT K) (tOp (rIxL K) (tVar 0) (tVar 4)) (tC (.int 1))) tNil)))))
 tNext)
 (tDrop (tBM K "list" rAppend (tVar 1) (tCons (tVar 4) tNil)))))))
 (tRet (tTup (tCons (tC (.str "order")) (tCons (tVar 1) tNil)))))))

theorem len_order_or_bar {K : PySem.W.Frag} : ∀ vs H Q E, sp_order_or_bar K vs H Q E → vs.length = ["a"].length := by
  rintro vs H Q E ⟨_, _, rfl, _⟩; rfl
theorem pure_order_or_bar {K : PySem.W.Frag} {vs : List V} {H : Hp} {Q : VK} {E : XK} (h : sp_order_or_bar K vs H Q E) : t_order_or_bar K { nx := fun _ H' => Q .non H', rt := Q } (start N_order_or_bar vs) H := by
  obtain ⟨v, ws, rfl, hw, hl, ok, k⟩ := h
  obtain ⟨q, xs, rfl, hq, hx, hat⟩ := win_at hw
  unfold t_order_or_bar
  walk_at "xs"
  refine al_lst fun p H1 np s1 hp => ?_
  walk_at "xs"
  refine x_lenL (s1.seq hq) ?_
  rw [hx]
  walk_at "xs"
  have en : ((ws.length : Int) + 1 - 1).toNat = ws.length := by omega
  refine ⟨1, (ws.length : Int) + 1, rfl, ⟨by decide, by decide, by omega, by omega⟩, ?_⟩
  rw [en]
  refine for_by turnsR (fun i σ H' => ∃ (row : List Nat) (u v : Option V), σ = [some (.ref q), some (.ref p), some (.int ws.length), u, v] ∧ Same H H' ∧ H' p = some (.lst (nI row)) ∧ row.length = i ∧ Greedy ws row ∧ ordB ws (ws.length - i) row = paperOf ws)
    ⟨[], none, none, rfl, s1, hp, rfl, greedy_nil, rfl⟩ (fun _ _ _ _ _ => trivial) ?_ ?_
  · rintro i y σ H2 _ hi ⟨row, u, v, rfl, s2, hp2, hr, g, hB⟩ ⟨rfl, rfl⟩
    obtain ⟨m, hm⟩ : ∃ m, ws.length - i = m + 1 := ⟨ws.length - i - 1, by omega⟩
    rw [hm] at hB
    have hB' : (match nextN ws row ((row.length : Int) + 1) ws.length with
      | none => .bar ((row.length : Int) + 2) ws.length (wIn ws ((row.length : Int) + 2) ws.length)
      | some c => if w2 ws c < (row.length : Int) + 1 then barOf ws row (w2 ws c) else ordB ws m (row ++ [c])) = paperOf ws := hB
    have et : (1 : Int) + (i : Int) = (row.length : Int) + 1 := by omega
    walk_at "xs"
    refine ⟨_, ws, p, row, _, rfl, dp_same s2 hw, SqL.of hp2, fun H3 s3 => ?_⟩
    rw [et]
    have hp3 := s3 _ _ hp2
    have s23 := s2.trans s3
    walk_at "xs"
    cases e : nextN ws row ((row.length : Int) + 1) ws.length with
    | none =>
      rw [e] at hB'
      walk_at "if"
      · walk_at "xs"
        refine ⟨_, ws, (row.length : Int) + 1 + 1, ws.length, rfl, dp_same s23 hw, hl, fun c H4 nc s4 hc => ?_⟩
        walk_at "xs"
        refine al_tup fun t H5 nt s5 ht => ?_
        refine k _ H5 ((s23.trans s4).trans s5) ?_
        rw [← hB']
        rw [show (row.length : Int) + 1 + 1 = (row.length : Int) + 2 by omega] at hc ht
        exact ⟨t, c, rfl, (s23.trans s4).free nt, s23.free nc, ht, s5 _ _ hc⟩
      · rename_i c; exact absurd rfl c
    | some c =>
      rw [e] at hB'
      have hB' : (if w2 ws c < (row.length : Int) + 1 then barOf ws row (w2 ws c) else ordB ws m (row ++ [c])) = paperOf ws := hB'
      obtain ⟨c1, c2, c3⟩ := nextN_some e
      walk_at "if"
      · rename_i z
        have : (c : Int) = -1 := z
        omega
      walk_at "xs"
      refine x_winix (dp_same s23 hw) (by show (0 : Int) ≤ (c : Int); omega) (by show (c : Int) < _; omega) fun t2 ht2 => ?_
      walk_at "xs"
      refine x_ix1 ht2 ?_
      walk_at "xs"
      have eb : (ws.getD (optI (some c)).toNat (0, 0)).2 = w2 ws c := rfl
      rw [eb]
      walk_at "if"
      · rename_i z
        rw [if_pos z] at hB'
        have wk := win_ok ok c1
        walk_at "xs"
        refine x_winix (dp_same s23 hw) (by show (0 : Int) ≤ (c : Int); omega) (by show (c : Int) < _; omega) fun t3 ht3 => ?_
        walk_at "xs"
        refine x_ix1 ht3 ?_
        walk_at "xs"
        refine ⟨_, ws, p, row, w2 ws c, rfl, dp_same s23 hw, SqL.of hp3, hl, by omega, by omega, g.lt, fun v' H4 s4 hP => ?_⟩
        refine k v' H4 (s23.trans s4) ?_
        rw [← hB']
        revert hP
        unfold barOf PaperAt
        rintro ⟨t, p', h1, h2, h3, h4⟩
        exact ⟨t, p', h1, s23.free h2, s23.free h3, h4⟩
      · rename_i z
        rw [if_neg z] at hB'
        walk_at "xs"
        refine ⟨tyL (SqL.of hp3), ?_⟩
        walk_at "xs"
        refine x_append hp3 (small (by rw [nI_len]; omega)) ?_
        refine ⟨row ++ [c], _, _, rfl, same_upd s23 np, ?_, by rw [List.length_append]; simp; exact hr, greedy_snoc g e z, ?_⟩
        · rw [upd_same, nI_snoc]; rfl
        · rw [show ws.length - (i + 1) = m by omega]; exact hB'
  · rintro σ H2 ⟨row, u, v, rfl, s2, hp2, hr, g, hB⟩
    rw [Nat.sub_self] at hB
    walk_at "xs"
    refine al_tup fun t H3 nt s3 ht => ?_
    refine k _ H3 (s2.trans s3) ?_
    rw [← hB]
    exact ⟨t, p, rfl, s2.free nt, np, ht, s3 _ _ hp2⟩

end Su
namespace Su
open PySem L2
local macro_rules | `(tactic| walk_at "side") => `(tactic| first | assumption | (show (0 : Int) < _; omega) | (show (0 : Int) ≤ _; omega) | (show (0 : Int) < _; split <;> omega) | (show _ ∨ _; omega) | (show _ ∧ _; omega) | exact ⟨by decide, by decide, by decide⟩ | exact ⟨by first | assumption | omega, by first | assumption | omega⟩)
local macro_rules | `(tactic| walk_at "x") => `(tactic| first | with_reducible refine Su.x_seq ?_ | with_reducible refine Su.x_asg ?_ | with_reducible refine Su.x_gname ?_ | with_reducible refine Su.x_ret ?_ | with_reducible refine Su.x_ifS ?_ | ((with_reducible show L2.tVar _ _ _ _); refine Su.x_var rfl ?_) | with_reducible refine Su.x_c ?_ | with_reducible refine Su.x_op ?_ | with_reducible refine Su.x_rI0 ?_ | ((with_reducible refine Su.x_rI ?_ ?_); focus walk_at "side") | with_reducible refine Su.x_test ?_ | with_reducible refine Su.x_isB' ?_ | with_reducible refine Su.x_next ?_)
local macro_rules | `(tactic| walk_at "xs") => `(tactic| repeat walk_at "x")
local macro_rules | `(tactic| walk_at "if") => `(tactic| first | with_reducible refine Su.x_iteD (fun c => ?_) (fun c => ?_) | with_reducible refine Su.x_iteN (fun c => ?_) (fun c => ?_) | with_reducible refine Su.x_ite (fun c => ?_) (fun c => ?_))

/-! first_covered -/
def firstCov (s n p : Int) : Int := if n - p / s < 1 then 1 else n - p / s
def sp_first_covered (K : PySem.W.Frag) : Sp := fun vs H Q _ => ∃ s n p : Int, vs = [.int s, .int n, .int p] ∧ 0 < s ∧ s.natAbs.log2 < 9000 ∧ Q (.int (firstCov s n p)) H
abbrev N_first_covered : List Str := ["stake", "seats", "pledge", "early"]
def t_first_covered (K : PySem.W.Frag) : TS :=
 (tSeq (tAsg (tOp rSub (tVar 1) (tOp rDivW (tVar 2) (tVar 0))) (gName 3))
 (tSeq (tIfS (tTest (tOp rLt (tVar 3) (tC (.int 1))))
 (tRet (tC (.int 1)))
 tNext)
 (tRet (tVar 3))))

theorem len_first_covered {K : PySem.W.Frag} : ∀ vs H Q E, sp_first_covered K vs H Q E → vs.length = ["stake", "seats", "pledge"].length := by
  rintro vs H Q E ⟨s, n, p, rfl, _⟩; rfl
theorem pure_first_covered {K : PySem.W.Frag} {vs : List V} {H : Hp} {Q : VK} {E : XK} (h : sp_first_covered K vs H Q E) : t_first_covered K { nx := fun _ H' => Q .non H', rt := Q } (start N_first_covered vs) H := by
  obtain ⟨s, n, p, rfl, hs, hl, k⟩ := h
  unfold t_first_covered
  walk_at "xs"
  walk_at "if"
  · walk_at "xs"
    have e : firstCov s n p = 1 := if_pos (by assumption)
    rw [← e]; exact k
  · walk_at "xs"
    have e : firstCov s n p = n - p / s := if_neg (by assumption)
    rw [e] at k; exact k

end Su
namespace Su
open PySem L2
local macro_rules | `(tactic| walk_at "side") => `(tactic| first | assumption | (show (0 : Int) < _; omega) | (show (0 : Int) ≤ _; omega) | (show (0 : Int) < _; split <;> omega) | (show _ ∨ _; omega) | (show _ ∧ _; omega) | exact ⟨by decide, by decide, by decide⟩ | exact ⟨by first | assumption | omega, by first | assumption | omega⟩)
local macro_rules | `(tactic| walk_at "xs") => `(tactic| repeat walk_at "x")
local macro_rules | `(tactic| walk_at "if") => `(tactic| first | with_reducible refine Su.x_iteD (fun c => ?_) (fun c => ?_) | with_reducible refine Su.x_iteN (fun c => ?_) (fun c => ?_) | with_reducible refine Su.x_ite (fun c => ?_) (fun c => ?_))

/-! a list of windows that is changed by place -/
def WinAt (K : PySem.W.Frag) (H : Hp) (p : Addr) (ws : List (Int × Int)) : Prop := ∃ xs, H p = some (.lst xs) ∧ DpAll K (del H p) xs (ws.map dPair)
section
variable {K : PySem.W.Frag} {H H' : Hp} {p t : Addr} {ws : List (Int × Int)}
theorem WinAt.dp (h : WinAt K H p ws) : Dp K H (.ref p) (dWin ws) := by
  obtain ⟨xs, h1, h2⟩ := h
  exact .lst (SqL.of h1) (dpAll_same del_same h2)
theorem WinAt.same (h : WinAt K H p ws) (s : Same H H') : WinAt K H' p ws := by
  obtain ⟨xs, h1, h2⟩ := h
  exact ⟨xs, s _ _ h1, dpAll_same (del_mono s) h2⟩
theorem WinAt.lst (h : WinAt K H p ws) : ∃ xs, H p = some (.lst xs) ∧ xs.length = ws.length := by
  obtain ⟨xs, h1, h2⟩ := h
  exact ⟨xs, h1, by rw [dpAll_len h2, List.length_map]⟩
theorem rep_flat {v : V} : ∀ n, (List.replicate n [v]).flatten = List.replicate n v
  | 0 => rfl
  | n + 1 => by rw [List.replicate_succ, List.flatten_cons, rep_flat n, List.replicate_succ]; rfl
theorem al_rep {l : Addr} {v : V} {n : Nat} {Q : VK} (h : H l = some (.lst [v])) (hn : n ≤ 100000) (q : ∀ p H', H p = none → Same H H' → H' p = some (.lst (List.replicate n v)) → (∀ b, b ≠ p → H' b = H b) → Q (.ref p) H') : rRep (.ref l) (.int n) H Q := by
  refine ⟨l, n, [v], rfl, rfl, h, by omega, by omega, Nat.le_of_lt (small (by simp; omega)), fun p np => ?_⟩
  refine q p _ np (same_new (Same.refl H) np) ?_ fun b hb => upd_ne hb
  rw [upd_same, Int.toNat_natCast, rep_flat]
end
end Su
namespace Su
open PySem L2
local macro_rules | `(tactic| walk_at "side") => `(tactic| first | assumption | (show (0 : Int) < _; omega) | (show (0 : Int) ≤ _; omega) | (show (0 : Int) < _; split <;> omega) | (show _ ∨ _; omega) | (show _ ∧ _; omega) | exact ⟨by decide, by decide, by decide⟩ | exact ⟨by first | assumption | omega, by first | assumption | omega⟩)
local macro_rules | `(tactic| walk_at "xs") => `(tactic| repeat walk_at "x")
local macro_rules | `(tactic| walk_at "if") => `(tactic| first | with_reducible refine Su.x_iteD (fun c => ?_) (fun c => ?_) | with_reducible refine Su.x_iteN (fun c => ?_) (fun c => ?_) | with_reducible refine Su.x_ite (fun c => ?_) (fun c => ?_))

/-! a circle: its mirror, and how it stands in the heap -/
inductive Seat where
  | waits | drew | fell
  deriving DecidableEq
def Seat.s : Seat → Str
  | .waits => "waits"
  | .drew => "drew"
  | .fell => "fell"
theorem Seat.s_inj {a b : Seat} (h : a.s = b.s) : a = b := by
  cases a <;> cases b <;> first | rfl | exact absurd h (by decide +kernel)
theorem seat_waits (a : Seat) : (a.s = ("waits" : Str)) ↔ a = .waits := ⟨fun h => Seat.s_inj (b := .waits) h, fun h => by rw [h]; rfl⟩
theorem seat_drew (a : Seat) : (a.s = ("drew" : Str)) ↔ a = .drew := ⟨fun h => Seat.s_inj (b := .drew) h, fun h => by rw [h]; rfl⟩
theorem seat_fell (a : Seat) : (a.s = ("fell" : Str)) ↔ a = .fell := ⟨fun h => Seat.s_inj (b := .fell) h, fun h => by rw [h]; rfl⟩
structure SeatR where
  st : Seat := .waits
  wh : Int := 0
  pl : Int := 0
  gv : Int := 0
  dr : Int := 0
  sh : Int := 0
  ms : Int := 0
  fl : List Int := []
instance : Inhabited SeatR := ⟨{}⟩
structure CS where
  stake : Int
  bidding : Bool
  now : Nat
  line : List Nat
  due : Nat
  chest : Int
  seats : List SeatR
abbrev CS.size (st : CS) : Nat := st.seats.length
abbrev CS.get (st : CS) (i : Nat) : SeatR := st.seats.getD i {}
abbrev CS.mod (st : CS) (i : Nat) (f : SeatR → SeatR) : CS := { st with seats := st.seats.modify i f }
def cirNames : List Str := ["stake", "size", "bidding", "now", "line", "due", "chest", "state", "when", "pledged", "given", "drawn", "shared", "missed", "flows"]
def cirFs (a : Nat → Addr) (st : CS) : List (Str × V) := [("stake", .int st.stake), ("size", .int st.size), ("bidding", .bl st.bidding), ("now", .int st.now), ("line", .ref (a 2)), ("due", .int st.due), ("chest", .int st.chest), ("state", .ref (a 3)), ("when", .ref (a 4)),
  ("pledged", .ref (a 5)), ("given", .ref (a 6)), ("drawn", .ref (a 7)), ("shared", .ref (a 8)), ("missed", .ref (a 9)), ("flows", .ref (a 10))]
abbrev intsO (l : List Int) : HO := .lst (l.map V.int)
def cirCell (K : PySem.W.Frag) (a : Nat → Addr) (st : CS) : Nat → HO
  | 0 => .ins (He.ga K "Circle") (a 1) (cirFs a st)
  | 1 => .own (a 0)
  | 2 => .lst (nI st.line)
  | 3 => .lst (st.seats.map fun r => .str r.st.s)
  | 4 => .lst (st.seats.map fun r => .int r.wh)
  | 5 => .lst (st.seats.map fun r => .int r.pl)
  | 6 => .lst (st.seats.map fun r => .int r.gv)
  | 7 => .lst (st.seats.map fun r => .int r.dr)
  | 8 => .lst (st.seats.map fun r => .int r.sh)
  | 9 => .lst (st.seats.map fun r => .int r.ms)
  | 10 => .lst ((List.range st.size).map fun i => .ref (a (11 + i)))
  | n + 11 => intsO (st.get n).fl
def cirFoot (a : Nat → Addr) (n : Nat) : List Addr := (List.range (11 + n)).map a
structure CirAt (K : PySem.W.Frag) (H : Hp) (a : Nat → Addr) (st : CS) : Prop where
  t : ClsT K "Circle" cirNames
  inj : ∀ i j, i < 11 + st.size → j < 11 + st.size → a i = a j → i = j
  at_ : ∀ j, j < 11 + st.size → H (a j) = some (cirCell K a st j)
section
variable {K : PySem.W.Frag} {H H' : Hp} {a : Nat → Addr} {st st' : CS} {Q : VK} {D : Ends} {σ : St}
theorem mem_foot {n j : Nat} (h : j < 11 + n) : a j ∈ cirFoot a n := List.mem_map.mpr ⟨j, List.mem_range.mpr h, rfl⟩
theorem CirAt.same (h : CirAt K H a st) (s : Same H H') : CirAt K H' a st := ⟨h.t, h.inj, fun j hj => s _ _ (h.at_ j hj)⟩
theorem CirAt.off (h : CirAt K H a st) {A : List Addr} (s : Off A H H') (n : ∀ b ∈ cirFoot a st.size, b ∉ A) : CirAt K H' a st := ⟨h.t, h.inj, fun j hj => s _ _ (n _ (mem_foot hj)) (h.at_ j hj)⟩
theorem CirAt.upd_out (h : CirAt K H a st) {x : Addr} {o : HO} (n : x ∉ cirFoot a st.size) : CirAt K (upd H x o) a st := ⟨h.t, h.inj, fun j hj => by
  rw [upd_ne (fun e => n (by rw [← e]; exact mem_foot hj))]; exact h.at_ j hj⟩
theorem CirAt.fresh (h : CirAt K H a st) {x : Addr} (n : H x = none) : x ∉ cirFoot a st.size := fun c => by
  obtain ⟨j, hj, rfl⟩ := List.mem_map.mp c
  rw [h.at_ j (List.mem_range.mp hj)] at n; cases n
/-- one cell is changed -/
theorem CirAt.put (h : CirAt K H a st) {k : Nat} (hk : k < 11 + st.size) (hs : st'.size = st.size) (hc : ∀ j, j ≠ k → j < 11 + st.size → cirCell K a st' j = cirCell K a st j) : CirAt K (upd H (a k) (cirCell K a st' k)) a st' := by
  refine ⟨h.t, fun i j hi hj => h.inj i j (by rw [← hs]; exact hi) (by rw [← hs]; exact hj), fun j hj => ?_⟩
  rw [hs] at hj
  by_cases c : j = k
  · subst c; exact upd_same
  · rw [upd_ne (fun e => c (h.inj j k hj hk e)), hc j c hj]; exact h.at_ j hj
/-! fields -/
theorem c_fld {f : Str} {v : V} {P : V → Prop} (h : CirAt K H a st) (m : f ∈ cirNames) (l : (cirFs a st).lookup f = some v) (q : P v) : ∃ a' C dx fs v', V.ref (a 0) = .ref a' ∧ H a' = some (.ins C dx fs) ∧ Cls K C ∧ NoAttr K C f ∧ fs.lookup f = some v' ∧ P v' :=
  ⟨a 0, _, _, _, v, rfl, h.at_ 0 (by omega), h.t.cl, h.t.no.get m, l, q⟩
theorem c_meth {m : Str} {P : Prop} (h : CirAt K H a st) (l : (cirFs a st).lookup m = none) (q : P) : ∃ a' dx fs, V.ref (a 0) = .ref a' ∧ H a' = some (.ins (He.ga K "Circle") dx fs) ∧ fs.lookup m = none ∧ P := ⟨a 0, _, _, rfl, h.at_ 0 (by omega), l, q⟩
theorem c_stake {P : V → Prop} (h : CirAt K H a st) (q : P (.int st.stake)) : ∃ a' C dx fs v', V.ref (a 0) = .ref a' ∧ H a' = some (.ins C dx fs) ∧ Cls K C ∧ NoAttr K C ("stake" : Str) ∧ fs.lookup ("stake" : Str) = some v' ∧ P v' := c_fld h (by decide +kernel) rfl q
theorem c_size {P : V → Prop} (h : CirAt K H a st) (q : P (.int st.size)) : ∃ a' C dx fs v', V.ref (a 0) = .ref a' ∧ H a' = some (.ins C dx fs) ∧ Cls K C ∧ NoAttr K C ("size" : Str) ∧ fs.lookup ("size" : Str) = some v' ∧ P v' := c_fld h (by decide +kernel) rfl q
theorem c_bidding {P : V → Prop} (h : CirAt K H a st) (q : P (.bl st.bidding)) : ∃ a' C dx fs v', V.ref (a 0) = .ref a' ∧ H a' = some (.ins C dx fs) ∧ Cls K C ∧ NoAttr K C ("bidding" : Str) ∧ fs.lookup ("bidding" : Str) = some v' ∧ P v' := c_fld h (by decide +kernel) rfl q
theorem c_now {P : V → Prop} (h : CirAt K H a st) (q : P (.int st.now)) : ∃ a' C dx fs v', V.ref (a 0) = .ref a' ∧ H a' = some (.ins C dx fs) ∧ Cls K C ∧ NoAttr K C ("now" : Str) ∧ fs.lookup ("now" : Str) = some v' ∧ P v' := c_fld h (by decide +kernel) rfl q
theorem c_line {P : V → Prop} (h : CirAt K H a st) (q : P (.ref (a 2))) : ∃ a' C dx fs v', V.ref (a 0) = .ref a' ∧ H a' = some (.ins C dx fs) ∧ Cls K C ∧ NoAttr K C ("line" : Str) ∧ fs.lookup ("line" : Str) = some v' ∧ P v' := c_fld h (by decide +kernel) rfl q
theorem c_due {P : V → Prop} (h : CirAt K H a st) (q : P (.int st.due)) : ∃ a' C dx fs v', V.ref (a 0) = .ref a' ∧ H a' = some (.ins C dx fs) ∧ Cls K C ∧ NoAttr K C ("due" : Str) ∧ fs.lookup ("due" : Str) = some v' ∧ P v' := c_fld h (by decide +kernel) rfl q
theorem c_chest {P : V → Prop} (h : CirAt K H a st) (q : P (.int st.chest)) : ∃ a' C dx fs v', V.ref (a 0) = .ref a' ∧ H a' = some (.ins C dx fs) ∧ Cls K C ∧ NoAttr K C ("chest" : Str) ∧ fs.lookup ("chest" : Str) = some v' ∧ P v' := c_fld h (by decide +kernel) rfl q
theorem c_state {P : V → Prop} (h : CirAt K H a st) (q : P (.ref (a 3))) : ∃ a' C dx fs v', V.ref (a 0) = .ref a' ∧ H a' = some (.ins C dx fs) ∧ Cls K C ∧ NoAttr K C ("state" : Str) ∧ fs.lookup ("state" : Str) = some v' ∧ P v' := c_fld h (by decide +kernel) rfl q
theorem c_when {P : V → Prop} (h : CirAt K H a st) (q : P (.ref (a 4))) : ∃ a' C dx fs v', V.ref (a 0) = .ref a' ∧ H a' = some (.ins C dx fs) ∧ Cls K C ∧ NoAttr K C ("when" : Str) ∧ fs.lookup ("when" : Str) = some v' ∧ P v' := c_fld h (by decide +kernel) rfl q
theorem c_pledged {P : V → Prop} (h : CirAt K H a st) (q : P (.ref (a 5))) : ∃ a' C dx fs v', V.ref (a 0) = .ref a' ∧ H a' = some (.ins C dx fs) ∧ Cls K C ∧ NoAttr K C ("pledged" : Str) ∧ fs.lookup ("pledged" : Str) = some v' ∧ P v' := c_fld h (by decide +kernel) rfl q
theorem c_given {P : V → Prop} (h : CirAt K H a st) (q : P (.ref (a 6))) : ∃ a' C dx fs v', V.ref (a 0) = .ref a' ∧ H a' = some (.ins C dx fs) ∧ Cls K C ∧ NoAttr K C ("given" : Str) ∧ fs.lookup ("given" : Str) = some v' ∧ P v' := c_fld h (by decide +kernel) rfl q
theorem c_drawn {P : V → Prop} (h : CirAt K H a st) (q : P (.ref (a 7))) : ∃ a' C dx fs v', V.ref (a 0) = .ref a' ∧ H a' = some (.ins C dx fs) ∧ Cls K C ∧ NoAttr K C ("drawn" : Str) ∧ fs.lookup ("drawn" : Str) = some v' ∧ P v' := c_fld h (by decide +kernel) rfl q
theorem c_shared {P : V → Prop} (h : CirAt K H a st) (q : P (.ref (a 8))) : ∃ a' C dx fs v', V.ref (a 0) = .ref a' ∧ H a' = some (.ins C dx fs) ∧ Cls K C ∧ NoAttr K C ("shared" : Str) ∧ fs.lookup ("shared" : Str) = some v' ∧ P v' := c_fld h (by decide +kernel) rfl q
theorem c_missed {P : V → Prop} (h : CirAt K H a st) (q : P (.ref (a 9))) : ∃ a' C dx fs v', V.ref (a 0) = .ref a' ∧ H a' = some (.ins C dx fs) ∧ Cls K C ∧ NoAttr K C ("missed" : Str) ∧ fs.lookup ("missed" : Str) = some v' ∧ P v' := c_fld h (by decide +kernel) rfl q
theorem c_flows {P : V → Prop} (h : CirAt K H a st) (q : P (.ref (a 10))) : ∃ a' C dx fs v', V.ref (a 0) = .ref a' ∧ H a' = some (.ins C dx fs) ∧ Cls K C ∧ NoAttr K C ("flows" : Str) ∧ fs.lookup ("flows" : Str) = some v' ∧ P v' := c_fld h (by decide +kernel) rfl q
/-! items of the lists -/
theorem at_map {α : Type} {g : α → V} {l : List α} {i : Nat} {d : α} {j : Int} (hj : j = i) (hi : i < l.length) : atI (l.map g) j = some (g (l.getD i d)) := by
  subst hj
  rw [at_get (d := g d) (by omega) (by rw [List.length_map]; omega), List.getD_eq_getElem?_getD, List.getD_eq_getElem?_getD, List.getElem?_map, show ((i : Int)).toNat = i by omega, List.getElem?_eq_getElem hi]; rfl
theorem i_state (h : CirAt K H a st) {i : Nat} {j : Int} (hj : j = i) (hi : i < st.size) (q : Q (.str (st.get i).st.s) H) : rIxL K (.ref (a 3)) (.int j) H Q := x_ixL (SqL.of (h.at_ 3 (by omega))) (at_map (g := fun r : SeatR => .str r.st.s) hj hi) q
theorem i_when (h : CirAt K H a st) {i : Nat} {j : Int} (hj : j = i) (hi : i < st.size) (q : Q (.int (st.get i).wh) H) : rIxL K (.ref (a 4)) (.int j) H Q := x_ixL (SqL.of (h.at_ 4 (by omega))) (at_map (g := fun r : SeatR => .int r.wh) hj hi) q
theorem i_pledged (h : CirAt K H a st) {i : Nat} {j : Int} (hj : j = i) (hi : i < st.size) (q : Q (.int (st.get i).pl) H) : rIxL K (.ref (a 5)) (.int j) H Q := x_ixL (SqL.of (h.at_ 5 (by omega))) (at_map (g := fun r : SeatR => .int r.pl) hj hi) q
theorem i_given (h : CirAt K H a st) {i : Nat} {j : Int} (hj : j = i) (hi : i < st.size) (q : Q (.int (st.get i).gv) H) : rIxL K (.ref (a 6)) (.int j) H Q := x_ixL (SqL.of (h.at_ 6 (by omega))) (at_map (g := fun r : SeatR => .int r.gv) hj hi) q
theorem i_drawn (h : CirAt K H a st) {i : Nat} {j : Int} (hj : j = i) (hi : i < st.size) (q : Q (.int (st.get i).dr) H) : rIxL K (.ref (a 7)) (.int j) H Q := x_ixL (SqL.of (h.at_ 7 (by omega))) (at_map (g := fun r : SeatR => .int r.dr) hj hi) q
theorem i_shared (h : CirAt K H a st) {i : Nat} {j : Int} (hj : j = i) (hi : i < st.size) (q : Q (.int (st.get i).sh) H) : rIxL K (.ref (a 8)) (.int j) H Q := x_ixL (SqL.of (h.at_ 8 (by omega))) (at_map (g := fun r : SeatR => .int r.sh) hj hi) q
theorem i_missed (h : CirAt K H a st) {i : Nat} {j : Int} (hj : j = i) (hi : i < st.size) (q : Q (.int (st.get i).ms) H) : rIxL K (.ref (a 9)) (.int j) H Q := x_ixL (SqL.of (h.at_ 9 (by omega))) (at_map (g := fun r : SeatR => .int r.ms) hj hi) q
theorem i_flows (h : CirAt K H a st) {i : Nat} {j : Int} (hj : j = i) (hi : i < st.size) (q : Q (.ref (a (11 + i))) H) : rIxL K (.ref (a 10)) (.int j) H Q := by
  refine x_ixL (SqL.of (h.at_ 10 (by omega))) (at_map (d := 0) (g := fun i => .ref (a (11 + i))) hj (by rw [List.length_range]; exact hi)) ?_
  rw [List.getD_eq_getElem?_getD, List.getElem?_range hi]; exact q
theorem i_flow (h : CirAt K H a st) {i : Nat} (hi : i < st.size) : H (a (11 + i)) = some (intsO (st.get i).fl) := by
  have := h.at_ (11 + i) (by omega)
  rw [Nat.add_comm 11 i] at this ⊢
  exact this
end
/-! the line as a list of whole numbers -/
section
variable {K : PySem.W.Frag} {H : Hp} {Q : VK} {p : Addr} {l : List Nat} {k : Nat} {j : Int}
theorem nI_asI (l : List Nat) : nI l = (l.map fun (n : Nat) => (n : Int)).map V.int := by unfold nI; rw [List.map_map]; rfl
theorem idxOf_at (h : k ∈ l) : l[l.idxOf k]? = some k := by
  have hl := List.idxOf_lt_length_iff.mpr h
  rw [List.getElem?_eq_getElem hl, List.getElem_idxOf hl]
theorem idxOf_lt {m : Nat} (h : m < l.idxOf k) : l[m]? ≠ some k := fun e => by
  have hm := (List.getElem?_eq_some_iff.mp e)
  have := List.not_of_lt_findIdx (p := (· == k)) (xs := l) (i := m) h
  rw [hm.2] at this
  simp at this
theorem x_remN (hj : j = k) (e : H p = some (.lst (nI l))) (hk : k ∈ l) (q : Q .non (upd H p (.lst (nI (l.erase k))))) : rRemI (.ref p) [.int j] H Q := by
  subst hj
  refine ⟨p, l.map fun (n : Nat) => (n : Int), k, l.idxOf k, rfl, rfl, by rw [← nI_asI]; exact e, by rw [List.getElem?_map, idxOf_at hk]; rfl, fun m hm z => ?_, ?_⟩
  · rw [List.getElem?_map] at z
    obtain ⟨n, h1, h2⟩ := Option.map_eq_some_iff.mp z
    have : n = k := by omega
    exact idxOf_lt hm (by rw [h1, this])
  · have : ((l.map fun (n : Nat) => (n : Int)).eraseIdx (l.idxOf k)).map V.int = nI (l.erase k) := by
      rw [List.erase_eq_eraseIdx_of_idxOf rfl, nI_asI]
      congr 1
      generalize l.idxOf k = n
      clear e hk q
      induction l generalizing n with
      | nil => simp
      | cons x l ih => cases n with
        | zero => simp
        | succ n => simp [ih]
    rw [this]; exact q
theorem x_indexN (hj : j = k) (e : SqL K H p (nI l)) (hk : k ∈ l) (q : Q (.int (l.idxOf k : Nat)) H) : rIndex K (.ref p) [.int j] H Q := by
  subst hj
  refine ⟨p, nI l, .int k, l.idxOf k, .int k, rfl, rfl, e, rfl, flat_nat l, ?_, by simp [eqV], fun m z hm hz => ?_, q⟩
  · unfold nI; rw [List.getElem?_map, idxOf_at hk]; rfl
  · unfold nI at hz
    rw [List.getElem?_map] at hz
    obtain ⟨n, h1, rfl⟩ := Option.map_eq_some_iff.mp hz
    have : n ≠ k := fun z => idxOf_lt hm (by rw [h1, z])
    simp only [eqV, beq_eq_false_iff_ne, ne_eq]; omega
end
/-! changes of one cell -/
theorem map_mod_id {α β : Type} {g : α → β} {f : α → α} (h : ∀ r, g (f r) = g r) (l : List α) (i : Nat) : (l.modify i f).map g = l.map g := by
  apply List.ext_getElem?
  intro n
  rw [List.getElem?_map, List.getElem?_map, List.getElem?_modify]
  cases l[n]? with
  | none => rfl
  | some r =>
    show some (g (if i = n then f r else r)) = some (g r)
    split
    · rw [h]
    · rfl
theorem map_mod {α β : Type} {g : α → β} {f : α → α} {d : α} {v : β} (l : List α) (i : Nat) (hi : i < l.length) (h : v = g (f (l.getD i d))) : (l.map g).set i v = (l.modify i f).map g := by
  apply List.ext_getElem?
  intro n
  rw [List.getElem?_map, List.getElem?_modify, List.getElem?_set, List.getElem?_map, List.length_map]
  by_cases c : i = n
  · subst c
    rw [if_pos rfl, if_pos hi, h, List.getD_eq_getElem?_getD, List.getElem?_eq_getElem hi]
    show _ = some (g (if i = i then _ else _))
    rw [if_pos rfl]; rfl
  · rw [if_neg c]
    cases l[n]? with
    | none => rfl
    | some r => show some (g r) = some (g (if i = n then f r else r)); rw [if_neg c]
theorem getD_mod {l : List SeatR} {f : SeatR → SeatR} {i j : Nat} (hi : i < l.length) : (l.modify i f).getD j {} = if i = j then f (l.getD j {}) else l.getD j {} := by
  rw [List.getD_eq_getElem?_getD, List.getD_eq_getElem?_getD, List.getElem?_modify]
  by_cases c : i = j
  · subst c; rw [if_pos rfl, List.getElem?_eq_getElem hi]; simp
  · rw [if_neg c]
    cases l[j]? with
    | none => rfl
    | some r => simp [c]
section
variable {K : PySem.W.Frag} {H : Hp} {a : Nat → Addr} {st : CS} {i : Nat}
theorem CirAt.set_mod (h : CirAt K H a st) {k : Nat} {f : SeatR → SeatR} (hk : k < 11 + st.size)
    (hc : ∀ j, j ≠ k → j < 11 + st.size → cirCell K a (st.mod i f) j = cirCell K a st j) : CirAt K (upd H (a k) (cirCell K a (st.mod i f) k)) a (st.mod i f) := h.put hk (by simp [CS.size, CS.mod]) hc
theorem cell0_mod {f : SeatR → SeatR} : cirFs a (st.mod i f) = cirFs a st := by simp [cirFs, CS.size, CS.mod]
theorem cell10_mod {f : SeatR → SeatR} : cirCell K a (st.mod i f) 10 = cirCell K a st 10 := by simp [cirCell, CS.size, CS.mod]
theorem cellF_mod {f : SeatR → SeatR} {j : Nat} (hi : i < st.size) (h : i ≠ j ∨ ∀ r, (f r).fl = r.fl) : cirCell K a (st.mod i f) (j + 11) = cirCell K a st (j + 11) := by
  show intsO ((st.seats.modify i f).getD j {}).fl = intsO (st.seats.getD j {}).fl
  rw [getD_mod hi]
  rcases h with h | h
  · rw [if_neg h]
  · split
    · rw [h]
    · rfl
/-- a seat's text or number is set -/
theorem CirAt.set_st (h : CirAt K H a st) (hi : i < st.size) {x : Seat} {j : Int} (hj : j = i) : CirAt K (upd H (a 3) (.lst ((st.seats.map fun r => V.str r.st.s).set j.toNat (.str x.s)))) a (st.mod i fun r => { r with st := x }) := by
  subst hj
  rw [Int.toNat_natCast, map_mod (g := fun r : SeatR => V.str r.st.s) (f := fun r => { r with st := x }) (d := {}) st.seats i hi rfl]
  refine h.set_mod (k := 3) (by omega) fun j hj hl => ?_
  match j, hj with
  | 0, _ => show HO.ins _ _ _ = _; rw [cell0_mod]; rfl
  | 1, _ => rfl
  | 2, _ => rfl
  | 4, _ | 5, _ | 6, _ | 7, _ | 8, _ | 9, _ => exact congrArg HO.lst (map_mod_id (by intro r; rfl) _ _)
  | 10, _ => exact cell10_mod
  | j + 11, _ => exact cellF_mod hi (.inr fun _ => rfl)
theorem CirAt.set_wh (h : CirAt K H a st) (hi : i < st.size) {x : Int} {j : Int} (hj : j = i) : CirAt K (upd H (a 4) (.lst ((st.seats.map fun r => V.int r.wh).set j.toNat (.int x)))) a (st.mod i fun r => { r with wh := x }) := by
  subst hj
  rw [Int.toNat_natCast, map_mod (g := fun r : SeatR => V.int r.wh) (f := fun r => { r with wh := x }) (d := {}) st.seats i hi rfl]
  refine h.set_mod (k := 4) (by omega) fun j hj hl => ?_
  match j, hj with
  | 0, _ => show HO.ins _ _ _ = _; rw [cell0_mod]; rfl
  | 1, _ => rfl
  | 2, _ => rfl
  | 3, _ | 5, _ | 6, _ | 7, _ | 8, _ | 9, _ => exact congrArg HO.lst (map_mod_id (by intro r; rfl) _ _)
  | 10, _ => exact cell10_mod
  | j + 11, _ => exact cellF_mod hi (.inr fun _ => rfl)
theorem CirAt.set_pl (h : CirAt K H a st) (hi : i < st.size) {x : Int} {j : Int} (hj : j = i) : CirAt K (upd H (a 5) (.lst ((st.seats.map fun r => V.int r.pl).set j.toNat (.int x)))) a (st.mod i fun r => { r with pl := x }) := by
  subst hj
  rw [Int.toNat_natCast, map_mod (g := fun r : SeatR => V.int r.pl) (f := fun r => { r with pl := x }) (d := {}) st.seats i hi rfl]
  refine h.set_mod (k := 5) (by omega) fun j hj hl => ?_
  match j, hj with
  | 0, _ => show HO.ins _ _ _ = _; rw [cell0_mod]; rfl
  | 1, _ => rfl
  | 2, _ => rfl
  | 3, _ | 4, _ | 6, _ | 7, _ | 8, _ | 9, _ => exact congrArg HO.lst (map_mod_id (by intro r; rfl) _ _)
  | 10, _ => exact cell10_mod
  | j + 11, _ => exact cellF_mod hi (.inr fun _ => rfl)
theorem CirAt.set_gv (h : CirAt K H a st) (hi : i < st.size) {x : Int} {j : Int} (hj : j = i) : CirAt K (upd H (a 6) (.lst ((st.seats.map fun r => V.int r.gv).set j.toNat (.int x)))) a (st.mod i fun r => { r with gv := x }) := by
  subst hj
  rw [Int.toNat_natCast, map_mod (g := fun r : SeatR => V.int r.gv) (f := fun r => { r with gv := x }) (d := {}) st.seats i hi rfl]
  refine h.set_mod (k := 6) (by omega) fun j hj hl => ?_
  match j, hj with
  | 0, _ => show HO.ins _ _ _ = _; rw [cell0_mod]; rfl
  | 1, _ => rfl
  | 2, _ => rfl
  | 3, _ | 4, _ | 5, _ | 7, _ | 8, _ | 9, _ => exact congrArg HO.lst (map_mod_id (by intro r; rfl) _ _)
  | 10, _ => exact cell10_mod
  | j + 11, _ => exact cellF_mod hi (.inr fun _ => rfl)
theorem CirAt.set_dr (h : CirAt K H a st) (hi : i < st.size) {x : Int} {j : Int} (hj : j = i) : CirAt K (upd H (a 7) (.lst ((st.seats.map fun r => V.int r.dr).set j.toNat (.int x)))) a (st.mod i fun r => { r with dr := x }) := by
  subst hj
  rw [Int.toNat_natCast, map_mod (g := fun r : SeatR => V.int r.dr) (f := fun r => { r with dr := x }) (d := {}) st.seats i hi rfl]
  refine h.set_mod (k := 7) (by omega) fun j hj hl => ?_
  match j, hj with
  | 0, _ => show HO.ins _ _ _ = _; rw [cell0_mod]; rfl
  | 1, _ => rfl
  | 2, _ => rfl
  | 3, _ | 4, _ | 5, _ | 6, _ | 8, _ | 9, _ => exact congrArg HO.lst (map_mod_id (by intro r; rfl) _ _)
  | 10, _ => exact cell10_mod
  | j + 11, _ => exact cellF_mod hi (.inr fun _ => rfl)
theorem CirAt.set_sh (h : CirAt K H a st) (hi : i < st.size) {x : Int} {j : Int} (hj : j = i) : CirAt K (upd H (a 8) (.lst ((st.seats.map fun r => V.int r.sh).set j.toNat (.int x)))) a (st.mod i fun r => { r with sh := x }) := by
  subst hj
  rw [Int.toNat_natCast, map_mod (g := fun r : SeatR => V.int r.sh) (f := fun r => { r with sh := x }) (d := {}) st.seats i hi rfl]
  refine h.set_mod (k := 8) (by omega) fun j hj hl => ?_
  match j, hj with
  | 0, _ => show HO.ins _ _ _ = _; rw [cell0_mod]; rfl
  | 1, _ => rfl
  | 2, _ => rfl
  | 3, _ | 4, _ | 5, _ | 6, _ | 7, _ | 9, _ => exact congrArg HO.lst (map_mod_id (by intro r; rfl) _ _)
  | 10, _ => exact cell10_mod
  | j + 11, _ => exact cellF_mod hi (.inr fun _ => rfl)
theorem CirAt.set_ms (h : CirAt K H a st) (hi : i < st.size) {x : Int} {j : Int} (hj : j = i) : CirAt K (upd H (a 9) (.lst ((st.seats.map fun r => V.int r.ms).set j.toNat (.int x)))) a (st.mod i fun r => { r with ms := x }) := by
  subst hj
  rw [Int.toNat_natCast, map_mod (g := fun r : SeatR => V.int r.ms) (f := fun r => { r with ms := x }) (d := {}) st.seats i hi rfl]
  refine h.set_mod (k := 9) (by omega) fun j hj hl => ?_
  match j, hj with
  | 0, _ => show HO.ins _ _ _ = _; rw [cell0_mod]; rfl
  | 1, _ => rfl
  | 2, _ => rfl
  | 3, _ | 4, _ | 5, _ | 6, _ | 7, _ | 8, _ => exact congrArg HO.lst (map_mod_id (by intro r; rfl) _ _)
  | 10, _ => exact cell10_mod
  | j + 11, _ => exact cellF_mod hi (.inr fun _ => rfl)
theorem CirAt.set_fl (h : CirAt K H a st) (hi : i < st.size) {x : List Int} : CirAt K (upd H (a (11 + i)) (intsO x)) a (st.mod i fun r => { r with fl := x }) := by
  have e : cirCell K a (st.mod i fun r => { r with fl := x }) (11 + i) = intsO x := by
    rw [Nat.add_comm 11 i]
    show intsO ((st.seats.modify i _).getD i {}).fl = _
    rw [getD_mod hi, if_pos rfl]
  rw [← e]
  refine h.set_mod (k := 11 + i) (by omega) fun j hj hl => ?_
  match j, hj with
  | 0, _ => show HO.ins _ _ _ = _; rw [cell0_mod]; rfl
  | 1, _ => rfl
  | 2, _ => rfl
  | 3, _ | 4, _ | 5, _ | 6, _ | 7, _ | 8, _ | 9, _ => exact congrArg HO.lst (map_mod_id (by intro r; rfl) _ _)
  | 10, _ => exact cell10_mod
  | j + 11, hj => exact cellF_mod hi (.inl fun e => hj (by omega))
theorem CirAt.set_line (h : CirAt K H a st) {x : List Nat} : CirAt K (upd H (a 2) (.lst (nI x))) a { st with line := x } :=
  h.put (st' := { st with line := x }) (k := 2) (by omega) rfl fun j hj hl => match j, hj with
    | 0, _ | 1, _ | 3, _ | 4, _ | 5, _ | 6, _ | 7, _ | 8, _ | 9, _ | 10, _ => rfl
    | j + 11, _ => rfl
theorem CirAt.set_f0 (h : CirAt K H a st) {st' : CS} (hs : st'.seats = st.seats) (hl : st'.line = st.line) : CirAt K (upd H (a 0) (.ins (He.ga K "Circle") (a 1) (cirFs a st'))) a st' :=
  h.put (st' := st') (k := 0) (by omega) (by rw [CS.size, hs]) fun j hj _ => match j, hj with
    | 1, _ => rfl
    | 2, _ => by show HO.lst (nI st'.line) = _; rw [hl]; rfl
    | 3, _ | 4, _ | 5, _ | 6, _ | 7, _ | 8, _ | 9, _ => by show HO.lst (st'.seats.map _) = _; rw [hs]; rfl
    | 10, _ => by show HO.lst ((List.range st'.seats.length).map _) = _; rw [hs]; rfl
    | j + 11, _ => by show intsO (st'.seats.getD j {}).fl = _; rw [hs]; rfl
theorem CirAt.set_now (h : CirAt K H a st) {x : Nat} {y : Int} (hy : y = x) : CirAt K (upd H (a 0) (.ins (He.ga K "Circle") (a 1) (putF "now" (.int y) (cirFs a st)))) a { st with now := x } := by
  subst hy; exact h.set_f0 (st' := { st with now := x }) rfl rfl
theorem CirAt.set_due (h : CirAt K H a st) {x : Nat} {y : Int} (hy : y = x) : CirAt K (upd H (a 0) (.ins (He.ga K "Circle") (a 1) (putF "due" (.int y) (cirFs a st)))) a { st with due := x } := by
  subst hy; exact h.set_f0 (st' := { st with due := x }) rfl rfl
theorem CirAt.set_chest (h : CirAt K H a st) {x : Int} : CirAt K (upd H (a 0) (.ins (He.ga K "Circle") (a 1) (putF "chest" (.int x) (cirFs a st)))) a { st with chest := x } := h.set_f0 (st' := { st with chest := x }) rfl rfl
end

end Su
namespace Su
open PySem L2
local macro_rules | `(tactic| walk_at "side") => `(tactic| first | assumption | (show (0 : Int) < _; omega) | (show (0 : Int) ≤ _; omega) | (show (0 : Int) < _; split <;> omega) | (show _ ∨ _; omega) | (show _ ∧ _; omega) | exact ⟨by decide, by decide, by decide⟩ | exact ⟨by first | assumption | omega, by first | assumption | omega⟩)
local macro_rules | `(tactic| walk_at "x") => `(tactic| first | with_reducible refine Su.x_seq ?_ | with_reducible refine Su.x_asg ?_ | with_reducible refine Su.x_gname ?_ | with_reducible refine Su.x_ifS ?_ | ((with_reducible show L2.tVar _ _ _ _); refine Su.x_var rfl ?_) | with_reducible refine Su.x_c ?_ | with_reducible refine Su.x_op ?_ | with_reducible refine Su.x_rI0 ?_ | with_reducible refine Su.x_iteT ?_ | with_reducible refine Su.x_iteNF ?_ | with_reducible refine Su.x_neI ?_ | with_reducible refine Su.x_test ?_ | with_reducible refine Su.x_isB' ?_ | with_reducible refine Su.x_not ?_ | with_reducible refine Su.x_or ?_ | with_reducible refine Su.x_chain ?_ | with_reducible refine Su.x_nil ?_ | with_reducible refine Su.x_cons ?_ | with_reducible refine Su.x_cb ?_ | with_reducible refine Su.x_for ?_ | with_reducible refine Su.x_iList ?_)
local macro_rules | `(tactic| walk_at "xs") => `(tactic| repeat walk_at "x")
local macro_rules | `(tactic| walk_at "if") => `(tactic| first | with_reducible refine Su.x_iteD (fun c => ?_) (fun c => ?_) | with_reducible refine Su.x_iteN (fun c => ?_) (fun c => ?_) | with_reducible refine Su.x_ite (fun c => ?_) (fun c => ?_))
local macro_rules | `(tactic| walk_at "at") => `(tactic| first | assumption | (refine Su.f_at (by assumption) ?_; walk_at "at"))
local macro_rules | `(tactic| walk_at "sm") => `(tactic| first | assumption | exact L2.Same.refl _ | (refine Su.f_tr (by assumption) ?_; walk_at "sm"))
local macro_rules | `(tactic| walk_at "hp") => `(tactic| first | assumption | ((with_reducible refine Su.f_sqL ?_); walk_at "at") | ((with_reducible refine Su.f_sqT ?_); walk_at "at") | ((with_reducible show L2.Same _ _); walk_at "sm") | ((with_reducible show _ = none); refine Su.f_free ?_ (by assumption); walk_at "sm") | ((with_reducible show _ = some _); walk_at "at") | (refine Su.f_dp (by assumption) ?_; walk_at "hp") | (refine Su.f_dpA (by assumption) ?_; walk_at "hp") | (refine Su.f_sqLs (by assumption) ?_; walk_at "hp") | (refine Su.f_sqTs (by assumption) ?_; walk_at "hp"))
local macro_rules | `(tactic| walk_at "me") => `(tactic| first | refine Su.c_meth (by assumption) rfl ?_ | refine Su.so_meth (by assumption) rfl ?_)

structure OpenOk (s : Int) (pl ws : List Int) : Prop where
  s1 : 1 ≤ s
  s2 : s ≤ 1000000
  n1 : 2 ≤ pl.length
  n2 : pl.length ≤ 20
  nw : ws.length = pl.length
  p : ∀ x ∈ pl, 0 ≤ x ∧ x ≤ 1000000000
  w : ∀ x ∈ ws, 1 ≤ x ∧ x ≤ (pl.length : Int)
def sp_check_opening (K : PySem.W.Frag) : Sp := fun vs H Q E => ∃ (s : Int) (p w : Addr) (pl ws : List Int), vs = [.int s, .ref p, .ref w] ∧ SqL K H p (pl.map V.int) ∧ SqL K H w (ws.map V.int) ∧ (OpenOk s pl ws → Q .non H) ∧ (¬ OpenOk s pl ws → E (.ref (He.ga K "BadNumber")) none H)
abbrev N_check_opening : List Str := ["stake", "pledges", "wishes", "size", "coins", "wish"]
def t_check_opening (K : PySem.W.Frag) (E : XK) : TS :=
 (tSeq (tAsg (tCB (rLenSeq K) (tCons (tVar 1) tNil)) (gName 3))
 (tSeq (tIfS (tOr (tNot (tTest (tChain rLe rLe (tC (.int 1)) (tVar 0) (tC (.int 1000000))))) (tOr (tNot (tTest (tChain rLe rLe (tC (.int 2)) (tVar 3) (tC (.int 20))))) (tTest (tOp rNe (tCB (rLenSeq K) (tCons (tVar 2) tNil)) (tVar 3)))))
 (tRaise (He.ga K "BadNumber") (wE E))
 tNext)
 (tSeq (tFor (iList K (tVar 1)) (gName 4)
 (tIfS (tNot (tTest (tChain rLe rLe (tC (.int 0)) (tVar 4) (tC (.int 1000000000)))))
 (tRaise (He.ga K "BadNumber") (wE E))
 tNext))
 (tFor (iList K (tVar 2)) (gName 5)
 (tIfS (tNot (tTest (tChain rLe rLe (tC (.int 1)) (tVar 5) (tVar 3))))
 (tRaise (He.ga K "BadNumber") (wE E))
 tNext)))))

theorem len_check_opening {K : PySem.W.Frag} : ∀ vs H Q E, sp_check_opening K vs H Q E → vs.length = ["a", "b", "c"].length := by
  rintro vs H Q E ⟨_, _, _, _, _, rfl, _⟩; rfl
theorem pure_check_opening {K : PySem.W.Frag} {vs : List V} {H : Hp} {Q : VK} {E : XK} (h : sp_check_opening K vs H Q E) : t_check_opening K E { nx := fun _ H' => Q .non H', rt := Q } (start N_check_opening vs) H := by
  obtain ⟨s, p, w, pl, ws, rfl, hp, hw, k1, k2⟩ := h
  unfold t_check_opening
  walk_at "xs"
  refine x_lenL hp ?_
  rw [List.length_map]
  walk_at "xs"
  have bad : ∀ z : ¬ OpenOk s pl ws, E (.ref (He.ga K "BadNumber")) none H := k2
  have next : 1 ≤ s → s ≤ 1000000 → 2 ≤ pl.length → pl.length ≤ 20 → ws.length = pl.length → (tSeq (tFor (iList K (tVar 1)) (gName 4)
      (tIfS (tNot (tTest (tChain rLe rLe (tC (.int 0)) (tVar 4) (tC (.int 1000000000)))))
      (tRaise (He.ga K "BadNumber") (wE E))
      tNext))
      (tFor (iList K (tVar 2)) (gName 5)
      (tIfS (tNot (tTest (tChain rLe rLe (tC (.int 1)) (tVar 5) (tVar 3))))
      (tRaise (He.ga K "BadNumber") (wE E))
      tNext))) { nx := fun _ H' => Q .non H', rt := Q } [some (.int s), some (.ref p), some (.ref w), some (.int pl.length), none, none] H := by
    intro s1 s2 n1 n2 nw
    walk_at "xs"
    refine ⟨p, rfl, ⟨_, hp⟩, for_by (turnsL (xs := pl.map V.int)) (fun i σ H' => ∃ u, σ = [some (.int s), some (.ref p), some (.ref w), some (.int pl.length), u, none] ∧ H = H' ∧ ∀ x ∈ pl.take i, 0 ≤ x ∧ x ≤ 1000000000) ⟨none, rfl, rfl, fun x hx => by simp at hx⟩ (fun i σ H' _ q => by obtain ⟨_, _, rfl, _⟩ := q; exact hp) ?_ ?_⟩
    · rintro i x σ _ _ hi ⟨u, rfl, rfl, hx⟩ ⟨rfl, hxi⟩
      rw [List.length_map] at hi
      rw [List.getElem?_map, List.getElem?_eq_getElem hi] at hxi
      cases hxi
      walk_at "xs"
      walk_at "if"
      · rename_i c3
        walk_at "xs"
        walk_at "if"
        · rename_i c4
          exact bad fun z => c4 (z.p _ (List.getElem_mem _)).2
        · rename_i c4
          refine ⟨_, rfl, rfl, fun x hx2 => ?_⟩
          rw [List.take_succ, List.getElem?_eq_getElem hi] at hx2
          rcases List.mem_append.mp hx2 with h | h
          · exact hx x h
          · simp at h; rw [h]; exact ⟨c3, by simpa using c4⟩
      · rename_i c3
        walk_at "xs"
        exact bad fun z => c3 (z.p _ (List.getElem_mem _)).1
    · rintro σ _ ⟨u, rfl, rfl, hpl⟩
      rw [List.length_map, List.take_length] at hpl
      walk_at "xs"
      refine ⟨w, rfl, ⟨_, hw⟩, for_by (turnsL (xs := ws.map V.int)) (fun i σ H' => ∃ v, σ = [some (.int s), some (.ref p), some (.ref w), some (.int pl.length), u, v] ∧ H = H' ∧ ∀ x ∈ ws.take i, 1 ≤ x ∧ x ≤ (pl.length : Int)) ⟨none, rfl, rfl, fun x hx => by simp at hx⟩ (fun i σ H' _ q => by obtain ⟨_, _, rfl, _⟩ := q; exact hw) ?_ ?_⟩
      · rintro i x σ _ _ hi ⟨v, rfl, rfl, hx⟩ ⟨rfl, hxi⟩
        rw [List.length_map] at hi
        rw [List.getElem?_map, List.getElem?_eq_getElem hi] at hxi
        cases hxi
        walk_at "xs"
        walk_at "if"
        · rename_i c3
          walk_at "xs"
          walk_at "if"
          · rename_i c4
            exact bad fun z => c4 (z.w _ (List.getElem_mem _)).2
          · rename_i c4
            refine ⟨_, rfl, rfl, fun x hx2 => ?_⟩
            rw [List.take_succ, List.getElem?_eq_getElem hi] at hx2
            rcases List.mem_append.mp hx2 with h | h
            · exact hx x h
            · simp at h; rw [h]; exact ⟨c3, by simpa using c4⟩
        · rename_i c3
          walk_at "xs"
          exact bad fun z => c3 (z.w _ (List.getElem_mem _)).1
      · rintro σ _ ⟨v, rfl, rfl, hws⟩
        rw [List.length_map, List.take_length] at hws
        exact k1 ⟨s1, s2, n1, n2, nw, hpl, hws⟩
  walk_at "if"
  · rename_i c1
    walk_at "xs"
    walk_at "if"
    · rename_i c2
      walk_at "xs"
      exact bad fun z => c2 z.s2
    · rename_i c2
      walk_at "xs"
      walk_at "if"
      · rename_i c3
        walk_at "xs"
        walk_at "if"
        · rename_i c4
          walk_at "xs"
          exact bad fun z => c4 (by have := z.n2; omega)
        · rename_i c4
          walk_at "xs"
          refine x_lenL hw ?_
          rw [List.length_map]
          walk_at "xs"
          walk_at "if"
          · rename_i c5
            exact bad fun z => c5 (by have := z.nw; omega)
          · rename_i c5
            exact next c1 (by simpa using c2) (by omega) (by have : (pl.length : Int) ≤ 20 := by simpa using c4
                                                             omega) (by omega)
      · rename_i c3
        walk_at "xs"
        exact bad fun z => c3 (by have := z.n1; omega)
  · rename_i c1
    walk_at "xs"
    exact bad fun z => c1 z.s1

end Su
namespace Su
open PySem L2
local macro_rules | `(tactic| walk_at "side") => `(tactic| first | assumption | (show (0 : Int) < _; omega) | (show (0 : Int) ≤ _; omega) | (show (0 : Int) < _; split <;> omega) | (show _ ∨ _; omega) | (show _ ∧ _; omega) | exact ⟨by decide, by decide, by decide⟩ | exact ⟨by first | assumption | omega, by first | assumption | omega⟩)
local macro_rules | `(tactic| walk_at "x") => `(tactic| first | with_reducible refine Su.x_ret ?_ | ((with_reducible show L2.tVar _ _ _ _); refine Su.x_var rfl ?_) | with_reducible refine Su.x_op ?_ | with_reducible refine Su.x_rI0 ?_ | with_reducible refine Su.x_cons ?_ | with_reducible refine Su.x_call ?_)
local macro_rules | `(tactic| walk_at "xs") => `(tactic| repeat walk_at "x")
local macro_rules | `(tactic| walk_at "if") => `(tactic| first | with_reducible refine Su.x_iteD (fun c => ?_) (fun c => ?_) | with_reducible refine Su.x_iteN (fun c => ?_) (fun c => ?_) | with_reducible refine Su.x_ite (fun c => ?_) (fun c => ?_))
local macro_rules | `(tactic| walk_at "at") => `(tactic| first | assumption | (refine Su.f_at (by assumption) ?_; walk_at "at"))
local macro_rules | `(tactic| walk_at "sm") => `(tactic| first | assumption | exact L2.Same.refl _ | (refine Su.f_tr (by assumption) ?_; walk_at "sm"))
local macro_rules | `(tactic| walk_at "hp") => `(tactic| first | assumption | ((with_reducible refine Su.f_sqL ?_); walk_at "at") | ((with_reducible refine Su.f_sqT ?_); walk_at "at") | ((with_reducible show L2.Same _ _); walk_at "sm") | ((with_reducible show _ = none); refine Su.f_free ?_ (by assumption); walk_at "sm") | ((with_reducible show _ = some _); walk_at "at") | (refine Su.f_dp (by assumption) ?_; walk_at "hp") | (refine Su.f_dpA (by assumption) ?_; walk_at "hp") | (refine Su.f_sqLs (by assumption) ?_; walk_at "hp") | (refine Su.f_sqTs (by assumption) ?_; walk_at "hp"))
local macro_rules | `(tactic| walk_at "x") => `(tactic| first | with_reducible refine Su.x_fld ?_ | with_reducible refine Su.c_stake (by assumption) ?_ | with_reducible refine Su.c_size (by assumption) ?_ | with_reducible refine Su.c_pledged (by assumption) ?_)
local macro_rules | `(tactic| walk_at "me") => `(tactic| first | refine Su.c_meth (by assumption) rfl ?_ | refine Su.so_meth (by assumption) rfl ?_)

theorem log_small {s : Int} (h0 : 0 < s) (h1 : s ≤ 1000000) : s.natAbs.log2 < 9000 := by
  have : s.natAbs.log2 ≤ s.natAbs := Nat.log2_le_self _
  have h : s.natAbs < 2 ^ 20 := by omega
  have := (Nat.log2_lt (show s.natAbs ≠ 0 by omega)).mpr h
  omega
def sp_Circle_covered_at (K : PySem.W.Frag) : Sp := fun vs H Q E => ∃ (a : Nat → Addr) (st : CS) (n : Nat) (r : Int), vs = [.ref (a 0), .int n, .int r] ∧ CirAt K H a st ∧ n < st.size ∧ 0 < st.stake ∧ st.stake ≤ 1000000 ∧ Q (.bl (decide (firstCov st.stake st.size (st.get n).pl ≤ r))) H
abbrev N_Circle_covered_at : List Str := ["self", "at", "round_of"]
def t_Circle_covered_at (K : PySem.W.Frag) : TS :=
 (tRet (tOp rLe (tCall (sp_first_covered K) [] E0 (tCons (tFld K (tVar 0) "stake") (tCons (tFld K (tVar 0) "size") (tCons (tOp (rIxL K) (tFld K (tVar 0) "pledged") (tVar 1)) tNil)))) (tVar 2)))

theorem len_Circle_covered_at {K : PySem.W.Frag} : ∀ vs H Q E, sp_Circle_covered_at K vs H Q E → vs.length = ["a", "b", "c"].length := by
  rintro vs H Q E ⟨_, _, _, _, rfl, _⟩; rfl
theorem pure_Circle_covered_at {K : PySem.W.Frag} {vs : List V} {H : Hp} {Q : VK} {E : XK} (h : sp_Circle_covered_at K vs H Q E) : t_Circle_covered_at K { nx := fun _ H' => Q .non H', rt := Q } (start N_Circle_covered_at vs) H := by
  obtain ⟨a, st, n, r, rfl, hc, hn, s0, s1, k⟩ := h
  unfold t_Circle_covered_at
  walk_at "xs"
  refine i_pledged hc rfl hn ?_
  refine ⟨st.stake, st.size, (st.get n).pl, rfl, s0, log_small s0 s1, ?_⟩
  walk_at "xs"
  exact k

end Su
namespace Su
open PySem L2
local macro_rules | `(tactic| walk_at "side") => `(tactic| first | assumption | (show (0 : Int) < _; omega) | (show (0 : Int) ≤ _; omega) | (show (0 : Int) < _; split <;> omega) | (show _ ∨ _; omega) | (show _ ∧ _; omega) | exact ⟨by decide, by decide, by decide⟩ | exact ⟨by first | assumption | omega, by first | assumption | omega⟩)
local macro_rules | `(tactic| walk_at "xs") => `(tactic| repeat walk_at "x")
local macro_rules | `(tactic| walk_at "if") => `(tactic| first | with_reducible refine Su.x_iteD (fun c => ?_) (fun c => ?_) | with_reducible refine Su.x_iteN (fun c => ?_) (fun c => ?_) | with_reducible refine Su.x_ite (fun c => ?_) (fun c => ?_))

/-! changes of seats, put together -/
theorem mod_mod (l : List SeatR) (i : Nat) (f g : SeatR → SeatR) : (l.modify i f).modify i g = l.modify i fun r => g (f r) := by
  apply List.ext_getElem?
  intro n
  rw [List.getElem?_modify, List.getElem?_modify, List.getElem?_modify]
  cases l[n]? with
  | none => rfl
  | some r =>
    by_cases c : i = n
    · subst c; simp
    · simp [c]
theorem mod_eq {l : List SeatR} {i : Nat} {f g : SeatR → SeatR} (h : f (l.getD i {}) = g (l.getD i {})) : l.modify i f = l.modify i g := by
  apply List.ext_getElem?
  intro n
  rw [List.getElem?_modify, List.getElem?_modify]
  cases e : l[n]? with
  | none => rfl
  | some r =>
    by_cases c : i = n
    · subst c
      rw [List.getD_eq_getElem?_getD, e] at h
      simp only [Option.getD_some] at h
      simp [h]
    · simp [c]
def upto (F : Nat → SeatR → SeatR) (k : Nat) (l : List SeatR) : List SeatR := l.mapIdx fun i r => if i < k then F i r else r
theorem upto_zero (F : Nat → SeatR → SeatR) (l : List SeatR) : upto F 0 l = l := by
  unfold upto
  apply List.ext_getElem?
  intro n
  rw [List.getElem?_mapIdx]
  cases l[n]? <;> simp
theorem upto_len (F : Nat → SeatR → SeatR) (k : Nat) (l : List SeatR) : (upto F k l).length = l.length := by simp [upto]
theorem upto_get {F : Nat → SeatR → SeatR} {k j : Nat} {l : List SeatR} (h : k ≤ j) : (upto F k l).getD j {} = l.getD j {} := by
  unfold upto
  rw [List.getD_eq_getElem?_getD, List.getD_eq_getElem?_getD, List.getElem?_mapIdx]
  cases l[j]? with
  | none => rfl
  | some r => simp; intro z; omega
theorem upto_step {F : Nat → SeatR → SeatR} {k : Nat} {l : List SeatR} {f : SeatR → SeatR} (h : f (l.getD k {}) = F k (l.getD k {})) : (upto F k l).modify k f = upto F (k + 1) l := by
  apply List.ext_getElem?
  intro n
  unfold upto
  rw [List.getElem?_modify, List.getElem?_mapIdx, List.getElem?_mapIdx]
  cases e : l[n]? with
  | none => rfl
  | some r =>
    by_cases c : k = n
    · subst c
      rw [List.getD_eq_getElem?_getD, e] at h
      simp only [Option.getD_some] at h
      simp [h]
    · have : (n < k) ↔ (n < k + 1) := by omega
      simp [c, this]
theorem upto_skip {F : Nat → SeatR → SeatR} {k : Nat} {l : List SeatR} (h : l.getD k {} = F k (l.getD k {})) : upto F k l = upto F (k + 1) l := by
  rw [← upto_step (f := fun r => r) h]
  apply List.ext_getElem?
  intro n
  rw [List.getElem?_modify]
  cases (upto F k l)[n]? <;> simp
theorem upto_all {F : Nat → SeatR → SeatR} {l : List SeatR} : upto F l.length l = l.mapIdx F := by
  unfold upto
  apply List.ext_getElem?
  intro n
  rw [List.getElem?_mapIdx, List.getElem?_mapIdx]
  cases e : l[n]? with
  | none => rfl
  | some r =>
    have := (List.getElem?_eq_some_iff.mp e).1
    simp [this]
/-- the last number of a list, grown by x -/
def addLast (l : List Int) (x : Int) : List Int := l.set (l.length - 1) (l.getD (l.length - 1) 0 + x)
section
variable {K : PySem.W.Frag} {H : Hp} {Q : VK} {p : Addr} {l : List Int} {x : Int}
theorem x_ixLast (e : H p = some (intsO l)) (hl : l ≠ []) (q : Q (.int (l.getD (l.length - 1) 0)) H) : rIxL K (.ref p) (.int (-1)) H Q := by
  have hp : 0 < l.length := List.length_pos_iff.mpr hl
  refine x_ixL (SqL.of e) ?_ q
  unfold atI ixN
  rw [if_neg (by omega), List.length_map, if_pos (by omega)]
  show (l.map V.int)[_]? = _
  rw [show ((-1 : Int) + (l.length : Int)).toNat = l.length - 1 by omega, List.getElem?_map, List.getD_eq_getElem?_getD, List.getElem?_eq_getElem (show l.length - 1 < l.length by omega)]
  rfl
theorem x_setLast {Qh : Hp → Prop} (e : H p = some (intsO l)) (hl : l ≠ []) (q : Qh (upd H p (intsO (addLast l x)))) : rSetL (.ref p) (.int (-1)) (.int (l.getD (l.length - 1) 0 + x)) H Qh := by
  have hp : 0 < l.length := List.length_pos_iff.mpr hl
  refine ⟨p, l.map V.int, -1, l.length - 1, rfl, rfl, e, ?_, ?_⟩
  · unfold ixN
    rw [if_neg (by omega), List.length_map, if_pos (by omega), show ((-1 : Int) + (l.length : Int)).toNat = l.length - 1 by omega]
  · have : (l.map V.int).set (l.length - 1) (.int (l.getD (l.length - 1) 0 + x)) = (addLast l x).map V.int := by unfold addLast; rw [List.map_set]
    rw [this]; exact q
end
/-! writes -/
section
variable {K : PySem.W.Frag} {H : Hp} {Q : VK} {Qh : Hp → Prop} {a : Nat → Addr} {st : CS} {i n : Nat} {j x : Int}
theorem size_mod (f : SeatR → SeatR) : (st.mod i f).size = st.size := by simp [CS.size, CS.mod]
theorem w_st {z : Seat} {s : Str} (h : CirAt K H a st) (hn : st.size = n) (hj : j = i) (hi : i < n) (hs : s = z.s) (q : ∀ H' st', Off (cirFoot a n) H H' → CirAt K H' a st' → st'.size = n → st' = (st.mod i fun r => { r with st := z }) → Qh H') : rSetL (.ref (a 3)) (.int j) (.str s) H Qh := by
  subst hs; subst hn
  exact x_setL (h.at_ 3 (by omega)) (by omega) (by rw [List.length_map]; show j < (st.size : Int); omega) (q _ _ (Off.refl.upd (mem_foot (by omega))) (h.set_st hi hj) (size_mod _) rfl)
theorem w_wh (h : CirAt K H a st) (hn : st.size = n) (hj : j = i) (hi : i < n) (q : ∀ H' st', Off (cirFoot a n) H H' → CirAt K H' a st' → st'.size = n → st' = (st.mod i fun r => { r with wh := x }) → Qh H') : rSetL (.ref (a 4)) (.int j) (.int x) H Qh := by
  subst hn
  exact x_setL (h.at_ 4 (by omega)) (by omega) (by rw [List.length_map]; show j < (st.size : Int); omega) (q _ _ (Off.refl.upd (mem_foot (by omega))) (h.set_wh hi hj) (size_mod _) rfl)
theorem w_pl (h : CirAt K H a st) (hn : st.size = n) (hj : j = i) (hi : i < n) (q : ∀ H' st', Off (cirFoot a n) H H' → CirAt K H' a st' → st'.size = n → st' = (st.mod i fun r => { r with pl := x }) → Qh H') : rSetL (.ref (a 5)) (.int j) (.int x) H Qh := by
  subst hn
  exact x_setL (h.at_ 5 (by omega)) (by omega) (by rw [List.length_map]; show j < (st.size : Int); omega) (q _ _ (Off.refl.upd (mem_foot (by omega))) (h.set_pl hi hj) (size_mod _) rfl)
theorem w_gv (h : CirAt K H a st) (hn : st.size = n) (hj : j = i) (hi : i < n) (q : ∀ H' st', Off (cirFoot a n) H H' → CirAt K H' a st' → st'.size = n → st' = (st.mod i fun r => { r with gv := x }) → Qh H') : rSetL (.ref (a 6)) (.int j) (.int x) H Qh := by
  subst hn
  exact x_setL (h.at_ 6 (by omega)) (by omega) (by rw [List.length_map]; show j < (st.size : Int); omega) (q _ _ (Off.refl.upd (mem_foot (by omega))) (h.set_gv hi hj) (size_mod _) rfl)
theorem w_dr (h : CirAt K H a st) (hn : st.size = n) (hj : j = i) (hi : i < n) (q : ∀ H' st', Off (cirFoot a n) H H' → CirAt K H' a st' → st'.size = n → st' = (st.mod i fun r => { r with dr := x }) → Qh H') : rSetL (.ref (a 7)) (.int j) (.int x) H Qh := by
  subst hn
  exact x_setL (h.at_ 7 (by omega)) (by omega) (by rw [List.length_map]; show j < (st.size : Int); omega) (q _ _ (Off.refl.upd (mem_foot (by omega))) (h.set_dr hi hj) (size_mod _) rfl)
theorem w_sh (h : CirAt K H a st) (hn : st.size = n) (hj : j = i) (hi : i < n) (q : ∀ H' st', Off (cirFoot a n) H H' → CirAt K H' a st' → st'.size = n → st' = (st.mod i fun r => { r with sh := x }) → Qh H') : rSetL (.ref (a 8)) (.int j) (.int x) H Qh := by
  subst hn
  exact x_setL (h.at_ 8 (by omega)) (by omega) (by rw [List.length_map]; show j < (st.size : Int); omega) (q _ _ (Off.refl.upd (mem_foot (by omega))) (h.set_sh hi hj) (size_mod _) rfl)
theorem w_ms (h : CirAt K H a st) (hn : st.size = n) (hj : j = i) (hi : i < n) (q : ∀ H' st', Off (cirFoot a n) H H' → CirAt K H' a st' → st'.size = n → st' = (st.mod i fun r => { r with ms := x }) → Qh H') : rSetL (.ref (a 9)) (.int j) (.int x) H Qh := by
  subst hn
  exact x_setL (h.at_ 9 (by omega)) (by omega) (by rw [List.length_map]; show j < (st.size : Int); omega) (q _ _ (Off.refl.upd (mem_foot (by omega))) (h.set_ms hi hj) (size_mod _) rfl)
theorem w_fl (h : CirAt K H a st) (hn : st.size = n) (hi : i < n) (hf : (st.get i).fl.length ≤ 100000) (q : ∀ H' st', Off (cirFoot a n) H H' → CirAt K H' a st' → st'.size = n → st' = (st.mod i fun r => { r with fl := r.fl ++ [x] }) → Q .non H') : rAppend (.ref (a (11 + i))) [.int x] H Q := by
  subst hn
  refine x_append (i_flow h hi) (small (by rw [List.length_map]; exact hf)) ?_
  have c := h.set_fl (x := (st.get i).fl ++ [x]) hi
  have e : (st.mod i fun r => { r with fl := r.fl ++ [x] }) = (st.mod i fun r => { r with fl := (st.get i).fl ++ [x] }) := by
    unfold CS.mod; rw [mod_eq (f := fun r => { r with fl := r.fl ++ [x] }) (g := fun r => { r with fl := (st.get i).fl ++ [x] }) (l := st.seats) (i := i) rfl]
  have e2 : (st.get i).fl.map V.int ++ [.int x] = ((st.get i).fl ++ [x]).map V.int := by rw [List.map_append]; rfl
  rw [e2]
  refine q _ _ (Off.refl.upd (mem_foot (by omega))) ?_ (size_mod _) rfl
  rw [e]; exact c
theorem w_last {v : V} (h : CirAt K H a st) (hn : st.size = n) (hi : i < n) (hf : (st.get i).fl ≠ []) (hv : v = .int ((st.get i).fl.getD ((st.get i).fl.length - 1) 0 + x)) (q : ∀ H' st', Off (cirFoot a n) H H' → CirAt K H' a st' → st'.size = n → st' = (st.mod i fun r => { r with fl := addLast r.fl x }) → Qh H') : rSetL (.ref (a (11 + i))) (.int (-1)) v H Qh := by
  subst hn; subst hv
  refine x_setLast (i_flow h hi) hf ?_
  have c := h.set_fl (x := addLast (st.get i).fl x) hi
  have e : (st.mod i fun r => { r with fl := addLast r.fl x }) = (st.mod i fun r => { r with fl := addLast (st.get i).fl x }) := by
    unfold CS.mod; rw [mod_eq (f := fun r => { r with fl := addLast r.fl x }) (g := fun r => { r with fl := addLast (st.get i).fl x }) (l := st.seats) (i := i) rfl]
  refine q _ _ (Off.refl.upd (mem_foot (by omega))) ?_ (size_mod _) rfl
  rw [e]; exact c
theorem w_rem (h : CirAt K H a st) (hn : st.size = n) (hj : j = i) (hi : i ∈ st.line) (q : ∀ H' st', Off (cirFoot a n) H H' → CirAt K H' a st' → st'.size = n → st' = { st with line := st.line.erase i } → Q .non H') : rRemI (.ref (a 2)) [.int j] H Q := by
  subst hn
  exact x_remN hj (h.at_ 2 (by omega)) hi (q _ _ (Off.refl.upd (mem_foot (by omega))) h.set_line rfl rfl)
/-- self.f += e -/
theorem w_due {y : Int} {z : Nat} (h : CirAt K H a st) (hn : st.size = n) (hy : y = z) (q : ∀ H' st', Off (cirFoot a n) H H' → CirAt K H' a st' → st'.size = n → st' = { st with due := z } → Qh H') : ∃ dx' fs', H (a 0) = some (.ins (He.ga K "Circle") dx' fs') ∧ fs'.length < 1000 ∧ Qh (upd H (a 0) (.ins (He.ga K "Circle") dx' (putF ("due" : Str) (.int y) fs'))) := by
  subst hn
  exact ⟨_, _, h.at_ 0 (by omega), by show 15 < 1000; decide, q _ _ (Off.refl.upd (mem_foot (by omega))) (h.set_due hy) rfl rfl⟩
theorem w_now {y : Int} {z : Nat} (h : CirAt K H a st) (hn : st.size = n) (hy : y = z) (q : ∀ H' st', Off (cirFoot a n) H H' → CirAt K H' a st' → st'.size = n → st' = { st with now := z } → Qh H') : ∃ dx' fs', H (a 0) = some (.ins (He.ga K "Circle") dx' fs') ∧ fs'.length < 1000 ∧ Qh (upd H (a 0) (.ins (He.ga K "Circle") dx' (putF ("now" : Str) (.int y) fs'))) := by
  subst hn
  exact ⟨_, _, h.at_ 0 (by omega), by show 15 < 1000; decide, q _ _ (Off.refl.upd (mem_foot (by omega))) (h.set_now hy) rfl rfl⟩
theorem w_chest {y : Int} (h : CirAt K H a st) (hn : st.size = n) (q : ∀ H' st', Off (cirFoot a n) H H' → CirAt K H' a st' → st'.size = n → st' = { st with chest := y } → Qh H') : ∃ dx' fs', H (a 0) = some (.ins (He.ga K "Circle") dx' fs') ∧ fs'.length < 1000 ∧ Qh (upd H (a 0) (.ins (He.ga K "Circle") dx' (putF ("chest" : Str) (.int y) fs'))) := by
  subst hn
  exact ⟨_, _, h.at_ 0 (by omega), by show 15 < 1000; decide, q _ _ (Off.refl.upd (mem_foot (by omega))) h.set_chest rfl rfl⟩
/-- self.f += e: the field is read -/
theorem c_aug {f : Str} {v : V} {P : Addr → Addr → V → Prop} (h : CirAt K H a st) (m : f ∈ cirNames) (l : (cirFs a st).lookup f = some v) (q : P (a 0) (He.ga K "Circle") v) : ∃ a' C dx fs v', V.ref (a 0) = .ref a' ∧ H a' = some (.ins C dx fs) ∧ Cls K C ∧ NoAttr K C f ∧ fs.lookup f = some v' ∧ P a' C v' :=
  ⟨a 0, _, _, _, v, rfl, h.at_ 0 (by omega), h.t.cl, h.t.no.get m, l, q⟩
theorem x_rAddL {x y : Int} {H : Hp} {Q : VK} (h : Q (.int (x + y)) H) : L2.rAdd (.int x) (.int y) H Q := ⟨x, y, rfl, rfl, h⟩
theorem x_rSubL {x y : Int} {H : Hp} {Q : VK} (h : Q (.int (x - y)) H) : L2.rSub (.int x) (.int y) H Q := ⟨x, y, rfl, rfl, h⟩
end

end Su
namespace Su
open PySem L2
local macro_rules | `(tactic| walk_at "side") => `(tactic| first | assumption | (show (0 : Int) < _; omega) | (show (0 : Int) ≤ _; omega) | (show (0 : Int) < _; split <;> omega) | (show _ ∨ _; omega) | (show _ ∧ _; omega) | exact ⟨by decide, by decide, by decide⟩ | exact ⟨by first | assumption | omega, by first | assumption | omega⟩)
local macro_rules | `(tactic| walk_at "x") => `(tactic| first | with_reducible refine Su.x_seq ?_ | with_reducible refine Su.x_asg ?_ | with_reducible refine Su.x_gname ?_ | with_reducible refine Su.x_ret ?_ | with_reducible refine Su.x_ifS ?_ | ((with_reducible show L2.tVar _ _ _ _); refine Su.x_var rfl ?_) | with_reducible refine Su.x_c ?_ | with_reducible refine Su.x_op ?_ | with_reducible refine Su.x_rGt ?_ | with_reducible refine Su.x_rGe ?_ | with_reducible refine Su.x_iteF ?_ | with_reducible refine Su.x_iteT ?_ | with_reducible refine Su.x_eqI ?_ | with_reducible refine Su.x_test ?_ | with_reducible refine Su.x_tB ?_ | with_reducible refine Su.x_isB' ?_ | with_reducible refine Su.x_and ?_ | with_reducible refine Su.x_or ?_ | with_reducible refine Su.x_nil ?_ | with_reducible refine Su.x_cons ?_ | with_reducible refine Su.x_un ?_ | with_reducible refine Su.x_rU ?_ | with_reducible refine Su.x_tup ?_ | with_reducible refine Su.x_next ?_ | with_reducible refine Su.x_for ?_ | with_reducible refine Su.x_iList ?_)
local macro_rules | `(tactic| walk_at "xs") => `(tactic| repeat walk_at "x")
local macro_rules | `(tactic| walk_at "if") => `(tactic| first | with_reducible refine Su.x_iteD (fun c => ?_) (fun c => ?_) | with_reducible refine Su.x_iteN (fun c => ?_) (fun c => ?_) | with_reducible refine Su.x_ite (fun c => ?_) (fun c => ?_))
local macro_rules | `(tactic| walk_at "at") => `(tactic| first | assumption | (refine Su.f_at (by assumption) ?_; walk_at "at"))
local macro_rules | `(tactic| walk_at "sm") => `(tactic| first | assumption | exact L2.Same.refl _ | (refine Su.f_tr (by assumption) ?_; walk_at "sm"))
local macro_rules | `(tactic| walk_at "hp") => `(tactic| first | assumption | ((with_reducible refine Su.f_sqL ?_); walk_at "at") | ((with_reducible refine Su.f_sqT ?_); walk_at "at") | ((with_reducible show L2.Same _ _); walk_at "sm") | ((with_reducible show _ = none); refine Su.f_free ?_ (by assumption); walk_at "sm") | ((with_reducible show _ = some _); walk_at "at") | (refine Su.f_dp (by assumption) ?_; walk_at "hp") | (refine Su.f_dpA (by assumption) ?_; walk_at "hp") | (refine Su.f_sqLs (by assumption) ?_; walk_at "hp") | (refine Su.f_sqTs (by assumption) ?_; walk_at "hp"))
local macro_rules | `(tactic| walk_at "x") => `(tactic| first | with_reducible refine Su.x_fld ?_ | with_reducible refine Su.x_meth ?_ | with_reducible refine Su.c_bidding (by assumption) ?_ | with_reducible refine Su.c_now (by assumption) ?_ | with_reducible refine Su.c_line (by assumption) ?_)
local macro_rules | `(tactic| walk_at "me") => `(tactic| first | refine Su.c_meth (by assumption) rfl ?_ | refine Su.so_meth (by assumption) rfl ?_)

def winStep (st : CS) (bids : List Int) (best : Option Nat) (n : Nat) : Option Nat :=
  if st.bidding = true ∧ 1 ≤ bids.getD n 0 ∧ firstCov st.stake st.size (st.get n).pl ≤ st.now then
    (match best with
    | none => some n
    | some b => if bids.getD b 0 < bids.getD n 0 then some n else some b)
  else best
def winFold (st : CS) (bids : List Int) (l : List Nat) : Option Nat := l.foldl (winStep st bids) none
def winnerS (st : CS) (bids : List Int) : Nat × Int := match winFold st bids st.line with
  | none => (st.line.headD 0, 0)
  | some w => (w, bids.getD w 0)
def sp_Circle_winner (K : PySem.W.Frag) : Sp := fun vs H Q E => ∃ (a : Nat → Addr) (st : CS) (b : Addr) (bids : List Int), vs = [.ref (a 0), .ref b] ∧ CirAt K H a st ∧ SqL K H b (bids.map V.int) ∧ bids.length = st.size ∧ (∀ i ∈ st.line, i < st.size) ∧ st.line ≠ [] ∧ 0 < st.stake ∧ st.stake ≤ 1000000 ∧ ∀ p H', H p = none → Same H H' → H' p = some (.tup [.int (winnerS st bids).1, .int (winnerS st bids).2]) → Q (.ref p) H'
abbrev N_Circle_winner : List Str := ["self", "bids", "best", "at"]
def t_Circle_winner (K : PySem.W.Frag) : TS :=
 (tSeq (tAsg (tUn rNeg (tC (.int 1))) (gName 2))
 (tSeq (tFor (iList K (tFld K (tVar 0) "line")) (gName 3)
 (tIfS (tAnd (tB (tFld K (tVar 0) "bidding")) (tAnd (tTest (tOp rGe (tOp (rIxL K) (tVar 1) (tVar 3)) (tC (.int 1)))) (tB (tMeth (He.ga K "Circle") "covered_at" (sp_Circle_covered_at K) [] E0 (tVar 0) (tCons (tVar 3) (tCons (tFld K (tVar 0) "now") tNil))))))
 (tIfS (tOr (tTest (tOp rEq (tVar 2) (tUn rNeg (tC (.int 1))))) (tTest (tOp rGt (tOp (rIxL K) (tVar 1) (tVar 3)) (tOp (rIxL K) (tVar 1) (tVar 2)))))
 (tAsg (tVar 3) (gName 2))
 tNext)
 tNext))
 (tSeq (tIfS (tTest (tOp rEq (tVar 2) (tUn rNeg (tC (.int 1)))))
 (tRet (tTup (tCons (tOp (rIxL K) (tFld K (tVar 0) "line") (tC (.int 0))) (tCons (tC (.int 0)) tNil))))
 tNext)
 (tRet (tTup (tCons (tVar 2) (tCons (tOp (rIxL K) (tVar 1) (tVar 2)) tNil)))))))

theorem len_Circle_winner {K : PySem.W.Frag} : ∀ vs H Q E, sp_Circle_winner K vs H Q E → vs.length = ["a", "b"].length := by
  rintro vs H Q E ⟨_, _, _, _, rfl, _⟩; rfl
theorem pure_Circle_winner {K : PySem.W.Frag} {vs : List V} {H : Hp} {Q : VK} {E : XK} (h : sp_Circle_winner K vs H Q E) : t_Circle_winner K { nx := fun _ H' => Q .non H', rt := Q } (start N_Circle_winner vs) H := by
  obtain ⟨a, st, b, bids, rfl, hc, hb, hl, hln, hne, s0, s1, k⟩ := h
  unfold t_Circle_winner
  walk_at "xs"
  refine ⟨a 2, rfl, ⟨_, SqL.of (hc.at_ 2 (by omega))⟩, for_by (turnsL (xs := nI st.line)) (fun i σ H' => ∃ (u : Option V), σ = [some (.ref (a 0)), some (.ref b), some (.int (optI (winFold st bids (st.line.take i)))), u] ∧ H = H' ∧ ∀ w, winFold st bids (st.line.take i) = some w → w < st.size)
    ⟨none, rfl, rfl, fun w z => by simp [winFold] at z⟩ (fun i σ H' _ p => by obtain ⟨_, _, rfl, _⟩ := p; exact SqL.of (hc.at_ 2 (by omega))) ?_ ?_⟩
  · rintro i x σ _ _ hi ⟨u, rfl, rfl, hw⟩ ⟨rfl, hx⟩
    rw [nI_len] at hi
    unfold nI at hx
    rw [List.getElem?_map, List.getElem?_eq_getElem hi] at hx
    cases hx
    have hn : st.line[i] < st.size := hln _ (List.getElem_mem _)
    have tk : st.line.take (i + 1) = st.line.take i ++ [st.line[i]] := by rw [List.take_succ, List.getElem?_eq_getElem hi]; rfl
    have wf : winFold st bids (st.line.take (i + 1)) = winStep st bids (winFold st bids (st.line.take i)) st.line[i] := by unfold winFold; rw [tk, List.foldl_append]; rfl
    generalize winFold st bids (st.line.take i) = best at hw wf ⊢
    rw [wf]
    generalize st.line[i] = n at hn ⊢
    have bi : ∀ {Q : VK} {m : Nat}, m < st.size → Q (.int (bids.getD m 0)) H → rIxL K (.ref b) (.int (m : Int)) H Q := fun {Q m} hm q => by
      refine x_ixL hb (at_getI (by omega) (by omega)) ?_
      rw [show ((m : Int)).toNat = m by omega]; exact q
    have skip : ¬ (st.bidding = true ∧ 1 ≤ bids.getD n 0 ∧ firstCov st.stake st.size (st.get n).pl ≤ st.now) → ∃ u, [some (V.ref (a 0)), some (V.ref b), some (V.int (optI best)), some (V.int (n : Int))] = [some (V.ref (a 0)), some (V.ref b), some (V.int (optI (winStep st bids best n))), u] ∧ H = H ∧ ∀ w, winStep st bids best n = some w → w < st.size := fun z => by
      have e : winStep st bids best n = best := by unfold winStep; rw [if_neg z]
      rw [e]; exact ⟨_, rfl, rfl, hw⟩
    walk_at "xs"
    walk_at "if"
    · rename_i cb
      walk_at "xs"
      refine bi hn ?_
      walk_at "xs"
      walk_at "if"
      · rename_i c1
        walk_at "xs"
        walk_at "me"
        walk_at "xs"
        refine ⟨a, st, n, st.now, rfl, hc, hn, s0, s1, ?_⟩
        walk_at "xs"
        walk_at "if"
        · rename_i cc
          have yes : st.bidding = true ∧ 1 ≤ bids.getD n 0 ∧ firstCov st.stake st.size (st.get n).pl ≤ st.now := ⟨cb, c1, cc⟩
          clear skip wf
          walk_at "xs"
          cases best with
          | none =>
            rw [show winStep st bids none n = some n by unfold winStep; rw [if_pos yes]]
            refine x_iteD (fun _ => ?_) fun c => absurd rfl c
            walk_at "xs"
            exact ⟨_, rfl, rfl, fun w z => by cases z; exact hn⟩
          | some w =>
            have hw' := hw w rfl
            rw [show winStep st bids (some w) n = if bids.getD w 0 < bids.getD n 0 then some n else some w by unfold winStep; rw [if_pos yes]]
            refine x_iteD (fun c => absurd c (by show ¬ ((w : Int) = -1); omega)) fun _ => ?_
            walk_at "xs"
            refine bi hn ?_
            walk_at "xs"
            refine bi hw' ?_
            walk_at "xs"
            walk_at "if"
            · rename_i c
              rw [if_pos c]
              walk_at "xs"
              exact ⟨_, rfl, rfl, fun w z => by cases z; exact hn⟩
            · rename_i c
              rw [if_neg c]
              exact ⟨_, rfl, rfl, fun w z => by cases z; exact hw'⟩
        · rename_i cc
          exact skip fun z => cc z.2.2
      · rename_i c1
        walk_at "xs"
        exact skip fun z => c1 z.2.1
    · rename_i cb
      walk_at "xs"
      exact skip fun z => by rw [z.1] at cb; cases cb
  · rintro σ _ ⟨u, rfl, rfl, hw⟩
    rw [nI_len, List.take_length] at hw ⊢
    have k' := k
    unfold winnerS at k'
    walk_at "xs"
    cases e : winFold st bids st.line with
    | none =>
      rw [e] at k'
      refine x_iteD (fun _ => ?_) fun c => absurd rfl c
      obtain ⟨n, l, el⟩ : ∃ n l, st.line = n :: l := by
        cases hh : st.line with
        | nil => exact absurd hh hne
        | cons n l => exact ⟨n, l, rfl⟩
      walk_at "xs"
      refine x_ixL (v := .int (n : Int)) (SqL.of (hc.at_ 2 (by omega))) ?_ ?_
      · rw [el]; exact at_zero
      walk_at "xs"
      rw [el] at k'
      exact al_tup k'
    | some w =>
      rw [e] at k'
      have hw' := hw w e
      refine x_iteD (fun c => absurd c (by show ¬ ((w : Int) = -1); omega)) fun _ => ?_
      walk_at "xs"
      refine x_ixL hb (at_getI (by show (0 : Int) ≤ (w : Int); omega) (by show (w : Int) < _; omega)) ?_
      rw [show ((optI (some w))).toNat = w by show ((w : Int)).toNat = w; omega]
      exact al_tup k'

end Su
namespace Su
open PySem L2
local macro_rules | `(tactic| walk_at "side") => `(tactic| first | assumption | (show (0 : Int) < _; omega) | (show (0 : Int) ≤ _; omega) | (show (0 : Int) < _; split <;> omega) | (show _ ∨ _; omega) | (show _ ∧ _; omega) | exact ⟨by decide, by decide, by decide⟩ | exact ⟨by first | assumption | omega, by first | assumption | omega⟩)
local macro_rules | `(tactic| walk_at "x") => `(tactic| first | with_reducible refine Su.x_seq ?_ | with_reducible refine Su.x_asg ?_ | with_reducible refine Su.x_gname ?_ | with_reducible refine Su.x_drop ?_ | with_reducible refine Su.x_ret ?_ | with_reducible refine Su.x_ifS ?_ | ((with_reducible show L2.tVar _ _ _ _); refine Su.x_var rfl ?_) | with_reducible refine Su.x_c ?_ | with_reducible refine Su.x_op ?_ | with_reducible refine Su.x_rI0 ?_ | ((with_reducible refine Su.x_rI ?_ ?_); focus walk_at "side") | with_reducible refine Su.x_rGt ?_ | with_reducible refine Su.x_iteF ?_ | with_reducible refine Su.x_neI ?_ | with_reducible refine Su.x_neS ?_ | with_reducible refine Su.x_test ?_ | with_reducible refine Su.x_isB' ?_ | with_reducible refine Su.x_and ?_ | with_reducible refine Su.x_nil ?_ | with_reducible refine Su.x_cons ?_ | with_reducible refine Su.x_cb ?_ | with_reducible refine Su.x_un ?_ | with_reducible refine Su.x_rU ?_ | with_reducible refine Su.x_tup ?_ | with_reducible refine Su.x_bmL ?_ | with_reducible refine Su.x_for ?_ | with_reducible refine Su.x_iList ?_ | with_reducible refine Su.x_iRng1 ?_ | with_reducible refine Su.x_gcons ?_ | with_reducible refine Su.x_gnil ?_ | with_reducible refine Su.x_gsub ?_ | with_reducible refine Su.x_lc ?_ | with_reducible refine Su.x_augS ?_ | with_reducible refine Su.x_ipI ?_)
local macro_rules | `(tactic| walk_at "xs") => `(tactic| repeat walk_at "x")
local macro_rules | `(tactic| walk_at "if") => `(tactic| first | with_reducible refine Su.x_iteD (fun c => ?_) (fun c => ?_) | with_reducible refine Su.x_iteN (fun c => ?_) (fun c => ?_) | with_reducible refine Su.x_ite (fun c => ?_) (fun c => ?_))
local macro_rules | `(tactic| walk_at "at") => `(tactic| first | assumption | (refine Su.f_at (by assumption) ?_; walk_at "at"))
local macro_rules | `(tactic| walk_at "sm") => `(tactic| first | assumption | exact L2.Same.refl _ | (refine Su.f_tr (by assumption) ?_; walk_at "sm"))
local macro_rules | `(tactic| walk_at "hp") => `(tactic| first | assumption | ((with_reducible refine Su.f_sqL ?_); walk_at "at") | ((with_reducible refine Su.f_sqT ?_); walk_at "at") | ((with_reducible show L2.Same _ _); walk_at "sm") | ((with_reducible show _ = none); refine Su.f_free ?_ (by assumption); walk_at "sm") | ((with_reducible show _ = some _); walk_at "at") | (refine Su.f_dp (by assumption) ?_; walk_at "hp") | (refine Su.f_dpA (by assumption) ?_; walk_at "hp") | (refine Su.f_sqLs (by assumption) ?_; walk_at "hp") | (refine Su.f_sqTs (by assumption) ?_; walk_at "hp"))
local macro_rules | `(tactic| walk_at "x") => `(tactic| first | with_reducible refine Su.x_fld ?_ | with_reducible refine Su.x_meth ?_ | with_reducible refine Su.c_stake (by assumption) ?_ | with_reducible refine Su.c_size (by assumption) ?_ | with_reducible refine Su.c_now (by assumption) ?_ | with_reducible refine Su.c_line (by assumption) ?_ | with_reducible refine Su.c_state (by assumption) ?_ | with_reducible refine Su.c_when (by assumption) ?_ | with_reducible refine Su.c_drawn (by assumption) ?_ | with_reducible refine Su.c_shared (by assumption) ?_ | with_reducible refine Su.c_flows (by assumption) ?_)
local macro_rules | `(tactic| walk_at "me") => `(tactic| first | refine Su.c_meth (by assumption) rfl ?_ | refine Su.so_meth (by assumption) rfl ?_)

def othersS (st : CS) (here : Nat) : List Nat := (List.range st.size).filter fun i => decide (i ≠ here) && decide ((st.get i).st ≠ .fell)
def shareS (st : CS) (here : Nat) (bid : Int) : Int := if 0 < (othersS st here).length then bid / ((othersS st here).length : Int) else 0
def gotS (st : CS) (here : Nat) (share : Int) : Int := st.stake * (st.size : Int) - share * ((othersS st here).length : Int)
def giveSeat (share : Int) (r : SeatR) : SeatR := { r with sh := r.sh + share, fl := addLast r.fl share }
def drawSeat (here now : Nat) (share got : Int) (i : Nat) (r : SeatR) : SeatR :=
  if i = here then { r with st := .drew, wh := now, dr := got, fl := addLast r.fl got } else if r.st ≠ .fell then giveSeat share r else r
def shareB (st : CS) (bids : List Int) : Int := shareS st (winnerS st bids).1 (winnerS st bids).2
def gotB (st : CS) (bids : List Int) : Int := gotS st (winnerS st bids).1 (shareS st (winnerS st bids).1 (winnerS st bids).2)
def drawS (st : CS) (bids : List Int) : CS := { st with line := st.line.erase (winnerS st bids).1, seats := st.seats.mapIdx (drawSeat (winnerS st bids).1 st.now (shareS st (winnerS st bids).1 (winnerS st bids).2) (gotS st (winnerS st bids).1 (shareS st (winnerS st bids).1 (winnerS st bids).2))) }
theorem winFold_in {st : CS} {bids : List Int} : ∀ {l : List Nat} {b : Option Nat} {w : Nat}, l.foldl (winStep st bids) b = some w → b = some w ∨ w ∈ l
  | [], b, w, h => .inl h
  | n :: l, b, w, h => by
    rw [List.foldl_cons] at h
    rcases winFold_in h with z | z
    · unfold winStep at z
      split at z
      · cases b with
        | none => cases z; exact .inr List.mem_cons_self
        | some b' =>
          simp only at z
          split at z
          · cases z; exact .inr List.mem_cons_self
          · exact .inl z
      · exact .inl z
    · exact .inr (List.mem_cons_of_mem _ z)
theorem winner_in {st : CS} {bids : List Int} (h : st.line ≠ []) : (winnerS st bids).1 ∈ st.line := by
  unfold winnerS
  cases e : winFold st bids st.line with
  | none =>
    cases hl : st.line with
    | nil => exact absurd hl h
    | cons n l => exact List.mem_cons_self
  | some w =>
    rcases winFold_in e with z | z
    · cases z
    · exact z
/-- the seats of T changed -/
def onIn (T : List Nat) (G : SeatR → SeatR) (l : List SeatR) : List SeatR := l.mapIdx fun i r => if i ∈ T then G r else r
theorem onIn_nil (G : SeatR → SeatR) (l : List SeatR) : onIn [] G l = l := by
  unfold onIn
  apply List.ext_getElem?
  intro n
  rw [List.getElem?_mapIdx]
  cases l[n]? <;> simp
theorem onIn_len (T : List Nat) (G : SeatR → SeatR) (l : List SeatR) : (onIn T G l).length = l.length := by simp [onIn]
theorem onIn_get {T : List Nat} {G : SeatR → SeatR} {l : List SeatR} {n : Nat} (h : n ∉ T) : (onIn T G l).getD n {} = l.getD n {} := by
  unfold onIn
  rw [List.getD_eq_getElem?_getD, List.getD_eq_getElem?_getD, List.getElem?_mapIdx]
  cases l[n]? with
  | none => rfl
  | some r => simp [h]
theorem onIn_step {T : List Nat} {G f : SeatR → SeatR} {l : List SeatR} {n : Nat} (h : n ∉ T) (e : f (l.getD n {}) = G (l.getD n {})) : (onIn T G l).modify n f = onIn (T ++ [n]) G l := by
  apply List.ext_getElem?
  intro m
  unfold onIn
  rw [List.getElem?_modify, List.getElem?_mapIdx, List.getElem?_mapIdx]
  cases en : l[m]? with
  | none => rfl
  | some r =>
    by_cases c : n = m
    · subst c
      rw [List.getD_eq_getElem?_getD, en] at e
      simp only [Option.getD_some] at e
      simp [h, e]
    · have : ¬ m = n := fun z => c z.symm
      simp [c, this]
def sp_Circle_draw (K : PySem.W.Frag) : Sp := fun vs H Q E => ∃ (a : Nat → Addr) (st : CS) (b : Addr) (bids : List Int), vs = [.ref (a 0), .ref b] ∧ CirAt K H a st ∧ SqL K H b (bids.map V.int) ∧ bids.length = st.size ∧ (∀ i ∈ st.line, i < st.size ∧ (st.get i).st = .waits) ∧ st.line ≠ [] ∧ 0 < st.stake ∧ st.stake ≤ 1000000 ∧ st.size ≤ 1000 ∧ (∀ i, i < st.size → (st.get i).st ≠ .fell → (st.get i).fl ≠ []) ∧ ∀ p H', H p = none → Off (cirFoot a st.size) H H' → CirAt K H' a (drawS st bids) → H' p = some (.tup [.int (winnerS st bids).1, .int (gotB st bids), .int (shareB st bids)]) → Q (.ref p) H'
abbrev N_Circle_draw : List Str := ["self", "bids", "here", "bid", "others", "share", "at", "got"]
def t_Circle_draw (K : PySem.W.Frag) : TS :=
 (tSeq (tAsg (tMeth (He.ga K "Circle") "winner" (sp_Circle_winner K) [] E0 (tVar 0) (tCons (tVar 1) tNil)) (gTup K 2 (gCons (gName 2) (gCons (gName 3) gNil))))
 (tSeq (tAsg (tLc (iRng1 (tCons (tFld K (tVar 0) "size") tNil)) (gName 6) (tAnd (tTest (tOp rNe (tVar 6) (tVar 2))) (tTest (tOp rNe (tOp (rIxL K) (tFld K (tVar 0) "state") (tVar 6)) (tC (.str "fell"))))) (tVar 6) [6]) (gName 4))
 (tSeq (tAsg (tC (.int 0)) (gName 5))
 (C8.tCut (tIfS (tTest (tOp rGt (tCB (rLenSeq K) (tCons (tVar 4) tNil)) (tC (.int 0))))
 (tAsg (tOp rDivW (tVar 3) (tCB (rLenSeq K) (tCons (tVar 4) tNil))) (gName 5))
 tNext)
 (tSeq (tFor (iList K (tVar 4)) (gName 6)
 (tSeq (tAugS (tFld K (tVar 0) "shared") (tVar 6) (tVar 5) (rIxL K) (ipI fun i j => i + j) rSetL)
 (tAugS (tOp (rIxL K) (tFld K (tVar 0) "flows") (tVar 6)) (tUn rNeg (tC (.int 1))) (tVar 5) (rIxL K) (ipI fun i j => i + j) rSetL)))
 (tSeq (tAsg (tOp rSub (tOp rMul (tFld K (tVar 0) "stake") (tFld K (tVar 0) "size")) (tOp rMul (tVar 5) (tCB (rLenSeq K) (tCons (tVar 4) tNil)))) (gName 7))
 (tSeq (tAsg (tC (.str "drew")) (gSub (tFld K (tVar 0) "state") (tVar 2) rSetL))
 (tSeq (tAsg (tFld K (tVar 0) "now") (gSub (tFld K (tVar 0) "when") (tVar 2) rSetL))
 (tSeq (tDrop (tBM K "list" rRemI (tFld K (tVar 0) "line") (tCons (tVar 2) tNil)))
 (tSeq (tAsg (tVar 7) (gSub (tFld K (tVar 0) "drawn") (tVar 2) rSetL))
 (tSeq (tAugS (tOp (rIxL K) (tFld K (tVar 0) "flows") (tVar 2)) (tUn rNeg (tC (.int 1))) (tVar 7) (rIxL K) (ipI fun i j => i + j) rSetL)
 (tRet (tTup (tCons (tVar 2) (tCons (tVar 7) (tCons (tVar 5) tNil))))))))))))))))

theorem len_Circle_draw {K : PySem.W.Frag} : ∀ vs H Q E, sp_Circle_draw K vs H Q E → vs.length = ["a", "b"].length := by
  rintro vs H Q E ⟨_, _, _, _, rfl, _⟩; rfl
theorem pure_Circle_draw {K : PySem.W.Frag} {vs : List V} {H : Hp} {Q : VK} {E : XK} (h : sp_Circle_draw K vs H Q E) : t_Circle_draw K { nx := fun _ H' => Q .non H', rt := Q } (start N_Circle_draw vs) H := by
  obtain ⟨a, st, b, bids, rfl, hc, hb, hl, hln, hne, s0, s1, hz, hf, k⟩ := h
  unfold t_Circle_draw
  walk_at "xs"
  walk_at "me"
  walk_at "xs"
  refine ⟨a, st, b, bids, rfl, hc, hb, hl, fun i hi => (hln i hi).1, hne, s0, s1, fun w H1 nw s1' hw => ?_⟩
  have hh := winner_in (bids := bids) hne
  have c1 := hc.same s1'
  unfold drawS gotB shareB at k
  generalize (winnerS st bids).1 = here at hw hh k
  generalize (winnerS st bids).2 = bid at hw k
  obtain ⟨hn, hwt⟩ := hln here hh
  refine x_gtup (SqT.of hw) rfl ?_
  walk_at "xs"
  refine ⟨st.size, rfl, by omega, by omega, fun O nO => ?_⟩
  refine lc_flat (fun i => if (decide (i ≠ here) && decide ((st.get i).st ≠ .fell)) = true then some (V.int (i : Int)) else none) turnsR (fun _ _ => trivial) nO ?_ ?_
  · rintro j v Hc _ hj lc ⟨rfl, rfl⟩
    have hj' : j < st.size := by omega
    have cc := c1.same lc.s
    walk_at "xs"
    refine x_wipe rfl ?_
    rw [show (0 : Int) + (j : Int) = j by omega]
    walk_at "xs"
    walk_at "if"
    · rename_i e1
      walk_at "xs"
      refine i_state cc rfl hj' ?_
      walk_at "xs"
      walk_at "if"
      · rename_i e2
        rw [seat_fell] at e2
        walk_at "xs"
        exact lc.keep nO (Same.refl _) (if_pos (by rw [decide_eq_true (show j ≠ here by omega), decide_eq_true e2]; rfl)) (by omega)
      · rename_i e2
        rw [seat_fell] at e2
        exact lc.skip (Same.refl _) (if_neg (by rw [decide_eq_false (p := (st.get j).st ≠ .fell) (fun z => z e2), Bool.and_false]; decide))
    · rename_i e1
      walk_at "xs"
      exact lc.skip (Same.refl _) (if_neg (by have : j = here := by omega
                                              simp [this]))
  intro H2 s2 hO
  rw [show ((st.size : Nat) : Int).toNat = st.size by omega] at hO
  have eO : (List.range st.size).filterMap (fun i => if (decide (i ≠ here) && decide ((st.get i).st ≠ .fell)) = true then some (V.int (i : Int)) else none) = nI (othersS st here) := by
    unfold nI othersS
    rw [← List.filterMap_eq_map', List.filterMap_filter]
  rw [eO] at hO
  have mO : ∀ i, i ∈ othersS st here ↔ i < st.size ∧ i ≠ here ∧ (st.get i).st ≠ .fell := fun i => by
    unfold othersS; simp [List.mem_filter]
  have ndO : (othersS st here).Nodup := List.nodup_range.filter _
  have lO : (othersS st here).length ≤ 1000 := by
    unfold othersS
    refine Nat.le_trans (List.length_filter_le _ _) ?_
    rw [List.length_range]; exact hz
  have c2 := c1.same s2
  have nOF : O ∉ cirFoot a st.size := c1.fresh nO
  have wF : w ∉ cirFoot a st.size := hc.fresh nw
  walk_at "xs"
  refine x_cut (fun σ H' => σ = [some (.ref (a 0)), some (.ref b), some (.int here), some (.int bid), some (.ref O), some (.int (shareS st here bid)), none, none] ∧ H2 = H') ?_ ?_
  · walk_at "xs"
    refine x_lenL (SqL.of hO) ?_
    rw [nI_len]
    walk_at "xs"
    unfold shareS
    walk_at "if"
    · rename_i e
      have e' : 0 < (othersS st here).length := by omega
      rw [if_pos e']
      walk_at "xs"
      refine x_lenL (SqL.of hO) ?_
      rw [nI_len]
      refine x_rI (C := CDivW) ⟨by omega, ?_⟩ ⟨rfl, rfl⟩
      have := (Nat.log2_lt (n := ((othersS st here).length : Int).natAbs) (k := 20) (by omega)).mpr (by omega)
      omega
    · rename_i e
      rw [if_neg (by omega)]
      exact ⟨rfl, rfl⟩
  rintro _ _ ⟨rfl, rfl⟩
  generalize shareS st here bid = share at k ⊢
  walk_at "xs"
  refine ⟨O, rfl, ⟨_, SqL.of hO⟩, for_by (turnsL (xs := nI (othersS st here))) (fun j σ H' => ∃ (u : Option V) (s : CS), σ = [some (.ref (a 0)), some (.ref b), some (.int here), some (.int bid), some (.ref O), some (.int share), u, none] ∧ Off (cirFoot a st.size) H2 H' ∧ CirAt K H' a s ∧ s = { st with seats := onIn ((othersS st here).take j) (giveSeat share) st.seats })
    ⟨none, st, rfl, Off.refl, c2, by rw [List.take_zero, onIn_nil]⟩ (fun j σ H' _ p => by obtain ⟨_, _, _, o, _⟩ := p; exact SqL.of (o _ _ nOF hO)) ?_ ?_⟩
  · rintro j x σ H3 _ hj ⟨u, s, rfl, o3, c3, es⟩ ⟨rfl, hx⟩
    rw [nI_len] at hj
    unfold nI at hx
    rw [List.getElem?_map, List.getElem?_eq_getElem hj] at hx
    cases hx
    have tk : (othersS st here).take (j + 1) = (othersS st here).take j ++ [(othersS st here)[j]] := by rw [List.take_succ, List.getElem?_eq_getElem hj]; rfl
    have hm := (mO _).mp (List.getElem_mem hj)
    have nin : (othersS st here)[j] ∉ (othersS st here).take j := fun z => by
      obtain ⟨i, hi, e⟩ := List.mem_take_iff_getElem.mp z
      have := (List.getElem_inj ndO).mp e
      omega
    rw [tk]
    generalize (othersS st here)[j] = n at hm nin
    have z3 : s.size = st.size := by rw [es]; exact onIn_len _ _ _
    have g3 : s.get n = st.get n := by rw [es]; exact onIn_get nin
    walk_at "xs"
    refine i_shared c3 rfl (by omega) ?_
    rw [g3]
    walk_at "xs"
    refine w_sh c3 z3 rfl hm.1 fun H4 s4 o4 c4 z4 e4 => ?_
    walk_at "xs"
    refine i_flows c4 rfl (by omega) ?_
    have f4 : (s4.get n).fl = (st.get n).fl := by
      rw [e4, ← g3]
      show ((s.seats.modify n _).getD n {}).fl = _
      rw [getD_mod (by show n < s.size; omega), if_pos rfl]
    walk_at "xs"
    refine x_ixLast (i_flow c4 (by omega)) (by rw [f4]; exact hf n hm.1 hm.2.2) ?_
    walk_at "xs"
    refine w_last (x := share) c4 z4 hm.1 (by rw [f4]; exact hf n hm.1 hm.2.2) rfl fun H5 s5 o5 c5 z5 e5 => ?_
    refine ⟨_, s5, rfl, (o3.trans o4).trans o5, c5, ?_⟩
    rw [e5, e4, es]
    unfold CS.mod
    simp only [mod_mod]
    rw [onIn_step nin]
    rfl
  rintro σ H3 ⟨u, s, rfl, o3, c3, es⟩
  rw [nI_len, List.take_length] at es
  have z3 : s.size = st.size := by rw [es]; exact onIn_len _ _ _
  have hO3 := o3 _ _ nOF hO
  have t3 : s.stake = st.stake := by rw [es]
  have w3 : s.now = st.now := by rw [es]
  have l3 : s.line = st.line := by rw [es]
  have g3 : s.get here = st.get here := by rw [es]; exact onIn_get fun z => ((mO here).mp z).2.1 rfl
  walk_at "xs"
  refine x_lenL (SqL.of hO3) ?_
  rw [nI_len]
  walk_at "xs"
  rw [t3, z3]
  have eg : st.stake * (st.size : Int) - share * ((othersS st here).length : Int) = gotS st here share := rfl
  rw [eg]
  generalize gotS st here share = got at k ⊢
  refine w_st (z := .drew) c3 z3 rfl hn rfl fun H4 s4 o4 c4 z4 e4 => ?_
  walk_at "xs"
  refine w_wh c4 z4 rfl hn fun H5 s5 o5 c5 z5 e5 => ?_
  walk_at "xs"
  refine ⟨tyL (SqL.of (c5.at_ 2 (by omega))), ?_⟩
  walk_at "xs"
  refine w_rem c5 z5 rfl (by rw [e5, e4]; show here ∈ s.line; rw [l3]; exact hh) fun H6 s6 o6 c6 z6 e6 => ?_
  walk_at "xs"
  refine w_dr c6 z6 rfl hn fun H7 s7 o7 c7 z7 e7 => ?_
  walk_at "xs"
  refine i_flows c7 rfl (by omega) ?_
  have f7 : (s7.get here).fl = (st.get here).fl := by
    rw [e7, e6, e5, e4, ← g3]
    show ((((s.seats.modify here _).modify here _).modify here _).getD here {}).fl = _
    rw [mod_mod, mod_mod, getD_mod (by show here < s.size; omega), if_pos rfl]
  have nf : (s7.get here).fl ≠ [] := by rw [f7]; exact hf here hn (by rw [hwt]; decide)
  walk_at "xs"
  refine x_ixLast (i_flow c7 (by omega)) nf ?_
  walk_at "xs"
  refine w_last (x := got) c7 z7 hn nf rfl fun H8 s8 o8 c8 z8 e8 => ?_
  walk_at "xs"
  refine al_tup fun T H9 nT s9 hT => ?_
  have o28 := ((o3.trans (o4.trans o5)).trans (o6.trans o7)).trans o8
  have o08 : Off (cirFoot a st.size) H H8 := ((Off.of s1').trans (Off.of s2)).trans o28
  have nT0 : H T = none := by
    cases e : H T with
    | none => rfl
    | some o =>
      by_cases c : T ∈ cirFoot a st.size
      · have := c8.fresh nT
        rw [z8] at this
        exact absurd c this
      · rw [o08 T o c e] at nT; cases nT
  refine k T H9 nT0 (o08.trans (Off.of s9)) ?_ hT
  have e : ({ st with line := st.line.erase here, seats := st.seats.mapIdx (drawSeat here st.now share got) } : CS) = s8 := by
    rw [e8, e7, e6, e5, e4, es]
    unfold CS.mod
    simp only [mod_mod]
    congr 1
    apply List.ext_getElem?
    intro n
    rw [List.getElem?_modify]
    unfold onIn
    rw [List.getElem?_mapIdx, List.getElem?_mapIdx]
    cases en : st.seats[n]? with
    | none => rfl
    | some r =>
      have hnn := (List.getElem?_eq_some_iff.mp en).1
      have gr : st.get n = r := by unfold CS.get; rw [List.getD_eq_getElem?_getD, en]; rfl
      by_cases c : here = n
      · subst c
        have : here ∉ othersS st here := fun z => ((mO here).mp z).2.1 rfl
        simp [drawSeat, this]
      · have c' : ¬ n = here := fun z => c z.symm
        by_cases d : r.st = .fell
        · have : n ∉ othersS st here := fun z => ((mO n).mp z).2.2 (by rw [gr]; exact d)
          simp [drawSeat, c, c', d, this]
        · have : n ∈ othersS st here := (mO n).mpr ⟨hnn, c', by rw [gr]; exact d⟩
          simp [drawSeat, c, c', d, this, giveSeat]
  rw [e]; exact c8.same s9

end Su
namespace Su
open PySem L2
local macro_rules | `(tactic| walk_at "side") => `(tactic| first | assumption | (show (0 : Int) < _; omega) | (show (0 : Int) ≤ _; omega) | (show (0 : Int) < _; split <;> omega) | (show _ ∨ _; omega) | (show _ ∧ _; omega) | exact ⟨by decide, by decide, by decide⟩ | exact ⟨by first | assumption | omega, by first | assumption | omega⟩)
local macro_rules | `(tactic| walk_at "x") => `(tactic| first | with_reducible refine Su.x_seq ?_ | with_reducible refine Su.x_asg ?_ | with_reducible refine Su.x_gname ?_ | with_reducible refine Su.x_drop ?_ | with_reducible refine Su.x_ret ?_ | with_reducible refine Su.x_ifS ?_ | ((with_reducible show L2.tVar _ _ _ _); refine Su.x_var rfl ?_) | with_reducible refine Su.x_c ?_ | with_reducible refine Su.x_op ?_ | with_reducible refine Su.x_rI0 ?_ | with_reducible refine Su.x_neS ?_ | with_reducible refine Su.x_test ?_ | with_reducible refine Su.x_isB' ?_ | with_reducible refine Su.x_nil ?_ | with_reducible refine Su.x_cons ?_ | with_reducible refine Su.x_un ?_ | with_reducible refine Su.x_rU ?_ | with_reducible refine Su.x_bmL ?_ | with_reducible refine Su.x_for ?_ | with_reducible refine Su.x_iRng1 ?_ | with_reducible refine Su.x_augS ?_ | with_reducible refine Su.x_ipI ?_ | ((with_reducible show L2.tAug _ _ _ _ _ _); refine Su.x_aug rfl ?_))
local macro_rules | `(tactic| walk_at "xs") => `(tactic| repeat walk_at "x")
local macro_rules | `(tactic| walk_at "if") => `(tactic| first | with_reducible refine Su.x_iteD (fun c => ?_) (fun c => ?_) | with_reducible refine Su.x_iteN (fun c => ?_) (fun c => ?_) | with_reducible refine Su.x_ite (fun c => ?_) (fun c => ?_))
local macro_rules | `(tactic| walk_at "at") => `(tactic| first | assumption | (refine Su.f_at (by assumption) ?_; walk_at "at"))
local macro_rules | `(tactic| walk_at "sm") => `(tactic| first | assumption | exact L2.Same.refl _ | (refine Su.f_tr (by assumption) ?_; walk_at "sm"))
local macro_rules | `(tactic| walk_at "hp") => `(tactic| first | assumption | ((with_reducible refine Su.f_sqL ?_); walk_at "at") | ((with_reducible refine Su.f_sqT ?_); walk_at "at") | ((with_reducible show L2.Same _ _); walk_at "sm") | ((with_reducible show _ = none); refine Su.f_free ?_ (by assumption); walk_at "sm") | ((with_reducible show _ = some _); walk_at "at") | (refine Su.f_dp (by assumption) ?_; walk_at "hp") | (refine Su.f_dpA (by assumption) ?_; walk_at "hp") | (refine Su.f_sqLs (by assumption) ?_; walk_at "hp") | (refine Su.f_sqTs (by assumption) ?_; walk_at "hp"))
local macro_rules | `(tactic| walk_at "x") => `(tactic| first | with_reducible refine Su.x_fld ?_ | with_reducible refine Su.c_stake (by assumption) ?_ | with_reducible refine Su.c_size (by assumption) ?_ | with_reducible refine Su.c_now (by assumption) ?_ | with_reducible refine Su.c_state (by assumption) ?_ | with_reducible refine Su.c_when (by assumption) ?_ | with_reducible refine Su.c_pledged (by assumption) ?_ | with_reducible refine Su.c_given (by assumption) ?_ | with_reducible refine Su.c_missed (by assumption) ?_ | with_reducible refine Su.c_flows (by assumption) ?_)
local macro_rules | `(tactic| walk_at "me") => `(tactic| first | refine Su.c_meth (by assumption) rfl ?_ | refine Su.so_meth (by assumption) rfl ?_)

def collectSeat (stake : Int) (now : Nat) (helped : List Nat) (i : Nat) (r : SeatR) : SeatR :=
  if r.st ≠ .fell then { r with gv := r.gv + stake, fl := r.fl ++ [-stake], pl := if i ∈ helped then r.pl - stake else r.pl, ms := if i ∈ helped then r.ms + 1 else r.ms }
  else if r.wh < now then { r with fl := r.fl ++ [0] } else r
def collectS (st : CS) (helped : List Nat) : CS := { st with seats := st.seats.mapIdx (collectSeat st.stake st.now helped) }
def coinsS (st : CS) (k : Nat) : Int := ((st.seats.take k).map fun r => if r.st = .fell then 0 else st.stake).sum
def sp_Circle_collect (K : PySem.W.Frag) : Sp := fun vs H Q E => ∃ (a : Nat → Addr) (st : CS) (p : Addr) (helped : List Nat), vs = [.ref (a 0), .ref p] ∧ CirAt K H a st ∧ SqL K (hide (cirFoot a st.size) H) p (nI helped) ∧ st.size ≤ 1000 ∧ (∀ i, (st.get i).fl.length ≤ 1000) ∧ ∀ H', Off (cirFoot a st.size) H H' → CirAt K H' a (collectS st helped) → Q (.int (coinsS st st.size)) H'
abbrev N_Circle_collect : List Str := ["self", "helped", "coins", "at"]
def t_Circle_collect (K : PySem.W.Frag) : TS :=
 (tSeq (tAsg (tC (.int 0)) (gName 2))
 (tSeq (tFor (iRng1 (tCons (tFld K (tVar 0) "size") tNil)) (gName 3)
 (tIfS (tTest (tOp rNe (tOp (rIxL K) (tFld K (tVar 0) "state") (tVar 3)) (tC (.str "fell"))))
 (tSeq (tAug 2 (tFld K (tVar 0) "stake") (ipI fun i j => i + j))
 (tSeq (tAugS (tFld K (tVar 0) "given") (tVar 3) (tFld K (tVar 0) "stake") (rIxL K) (ipI fun i j => i + j) rSetL)
 (tSeq (tDrop (tBM K "list" rAppend (tOp (rIxL K) (tFld K (tVar 0) "flows") (tVar 3)) (tCons (tUn rNeg (tFld K (tVar 0) "stake")) tNil)))
 (tIfS (tTest (tOp (rIn K false) (tVar 3) (tVar 1)))
 (tSeq (tAugS (tFld K (tVar 0) "pledged") (tVar 3) (tFld K (tVar 0) "stake") (rIxL K) (ipI fun i j => i - j) rSetL)
 (tAugS (tFld K (tVar 0) "missed") (tVar 3) (tC (.int 1)) (rIxL K) (ipI fun i j => i + j) rSetL))
 tNext))))
 (tIfS (tTest (tOp rLt (tOp (rIxL K) (tFld K (tVar 0) "when") (tVar 3)) (tFld K (tVar 0) "now")))
 (tDrop (tBM K "list" rAppend (tOp (rIxL K) (tFld K (tVar 0) "flows") (tVar 3)) (tCons (tC (.int 0)) tNil)))
 tNext)))
 (tRet (tVar 2))))

theorem len_Circle_collect {K : PySem.W.Frag} : ∀ vs H Q E, sp_Circle_collect K vs H Q E → vs.length = ["a", "b"].length := by
  rintro vs H Q E ⟨_, _, _, _, rfl, _⟩; rfl
theorem pure_Circle_collect {K : PySem.W.Frag} {vs : List V} {H : Hp} {Q : VK} {E : XK} (h : sp_Circle_collect K vs H Q E) : t_Circle_collect K { nx := fun _ H' => Q .non H', rt := Q } (start N_Circle_collect vs) H := by
  obtain ⟨a, st, p, helped, rfl, hc, hp, hz, hf, k⟩ := h
  unfold t_Circle_collect
  walk_at "xs"
  refine ⟨st.size, rfl, by omega, by omega, for_by turnsR (fun i σ H' => ∃ (u : Option V) (s : CS), σ = [some (.ref (a 0)), some (.ref p), some (.int (coinsS st i)), u] ∧ Off (cirFoot a st.size) H H' ∧ CirAt K H' a s ∧ s = { st with seats := upto (collectSeat st.stake st.now helped) i st.seats })
    ⟨none, st, rfl, Off.refl, hc, by rw [upto_zero]⟩ (fun _ _ _ _ _ => trivial) ?_ ?_⟩
  · rintro i y σ H1 _ hi ⟨u, s, rfl, o1, c1, es⟩ ⟨rfl, rfl⟩
    have hi' : i < st.size := by omega
    have z1 : s.size = st.size := by rw [es]; exact upto_len _ _ _
    have gi : s.get i = st.get i := by rw [es]; exact upto_get (Nat.le_refl _)
    have e0 : (0 : Int) + (i : Int) = (i : Int) := by omega
    have hst : s.stake = st.stake := by rw [es]
    have hnow : s.now = st.now := by rw [es]
    have co : coinsS st (i + 1) = coinsS st i + if (st.get i).st = .fell then 0 else st.stake := by
      unfold coinsS
      rw [List.take_succ, List.getElem?_eq_getElem hi', List.map_append, List.sum_append]
      have : st.get i = st.seats[i] := by unfold CS.get; rw [List.getD_eq_getElem?_getD, List.getElem?_eq_getElem hi']; rfl
      rw [this]; simp
    rw [e0]
    walk_at "xs"
    refine i_state c1 rfl (by omega) ?_
    rw [gi]
    walk_at "xs"
    walk_at "if"
    · rename_i c
      rw [seat_fell] at c
      rw [if_neg c] at co
      walk_at "xs"
      rw [hst]
      refine i_given c1 rfl (by omega) ?_
      rw [gi]
      walk_at "xs"
      rw [hst]
      refine w_gv c1 z1 rfl hi' fun H2 s2 o2 c2 z2 e2 => ?_
      have t2 : s2.stake = st.stake := by rw [e2]; exact hst
      walk_at "xs"
      refine i_flows c2 rfl (by omega) ?_
      refine ⟨tyL (SqL.of (i_flow c2 (by omega))), ?_⟩
      have g2 : (s2.get i).fl = (st.get i).fl ∧ (s2.get i).pl = (st.get i).pl ∧ (s2.get i).ms = (st.get i).ms := by
        rw [e2, ← gi]
        show ((s.seats.modify i _).getD i {}).fl = _ ∧ ((s.seats.modify i _).getD i {}).pl = _ ∧ ((s.seats.modify i _).getD i {}).ms = _
        rw [getD_mod (by show i < s.size; omega), if_pos rfl]
        exact ⟨rfl, rfl, rfl⟩
      walk_at "xs"
      rw [t2]
      refine w_fl c2 z2 hi' (by rw [g2.1]; have := hf i; omega) fun H3 s3 o3 c3 z3 e3 => ?_
      have t3 : s3.stake = st.stake := by rw [e3]; exact t2
      have g3 : (s3.get i).pl = (st.get i).pl ∧ (s3.get i).ms = (st.get i).ms := by
        rw [← g2.2.1, ← g2.2.2, e3]
        show ((s2.seats.modify i _).getD i {}).pl = _ ∧ ((s2.seats.modify i _).getD i {}).ms = _
        rw [getD_mod (by show i < s2.size; omega), if_pos rfl]
        exact ⟨rfl, rfl⟩
      have o13 := (o1.trans o2).trans o3
      walk_at "xs"
      refine x_inN (hide_same.seq (o13.hide.seq hp)) ?_
      walk_at "xs"
      walk_at "if"
      · rename_i ch
        walk_at "xs"
        refine i_pledged c3 rfl (by omega) ?_
        rw [g3.1]
        walk_at "xs"
        rw [t3]
        refine w_pl c3 z3 rfl hi' fun H4 s4 o4 c4 z4 e4 => ?_
        have g4 : (s4.get i).ms = (st.get i).ms := by
          rw [← g3.2, e4]
          show ((s3.seats.modify i _).getD i {}).ms = _
          rw [getD_mod (by show i < s3.size; omega), if_pos rfl]
        walk_at "xs"
        refine i_missed c4 rfl (by omega) ?_
        rw [g4]
        walk_at "xs"
        refine w_ms c4 z4 rfl hi' fun H5 s5 o5 c5 z5 e5 => ?_
        refine ⟨_, s5, by rw [co]; rfl, (o13.trans o4).trans o5, c5, ?_⟩
        rw [e5, e4, e3, e2, es]
        unfold CS.mod
        simp only [mod_mod]
        rw [upto_step]
        show _ = collectSeat st.stake st.now helped i (st.get i)
        unfold collectSeat
        rw [if_pos c, if_pos ch, if_pos ch]
      · rename_i ch
        refine ⟨_, s3, by rw [co]; rfl, o13, c3, ?_⟩
        rw [e3, e2, es]
        unfold CS.mod
        simp only [mod_mod]
        rw [upto_step]
        show _ = collectSeat st.stake st.now helped i (st.get i)
        unfold collectSeat
        rw [if_pos c, if_neg ch, if_neg ch]
    · rename_i c
      have c : (st.get i).st = .fell := (seat_fell _).mp c
      rw [if_pos c, Int.add_zero] at co
      walk_at "xs"
      refine i_when c1 rfl (by omega) ?_
      rw [gi]
      walk_at "xs"
      rw [hnow]
      walk_at "if"
      · rename_i cw
        walk_at "xs"
        refine i_flows c1 rfl (by omega) ?_
        refine ⟨tyL (SqL.of (i_flow c1 (by omega))), ?_⟩
        walk_at "xs"
        refine w_fl c1 z1 hi' (by rw [gi]; have := hf i; omega) fun H3 s3 o3 c3 z3 e3 => ?_
        refine ⟨_, s3, by rw [co]; rfl, o1.trans o3, c3, ?_⟩
        rw [e3, es]
        unfold CS.mod
        simp only
        rw [upto_step]
        show _ = collectSeat st.stake st.now helped i (st.get i)
        unfold collectSeat
        rw [if_neg (fun z => z c), if_pos cw]
      · rename_i cw
        refine ⟨_, s, by rw [co]; rfl, o1, c1, ?_⟩
        rw [es, upto_skip]
        show st.get i = collectSeat st.stake st.now helped i (st.get i)
        unfold collectSeat
        rw [if_neg (fun z => z c), if_neg cw]
  · rintro σ H1 ⟨u, s, rfl, o1, c1, es⟩
    walk_at "xs"
    rw [show ((st.size : Nat) : Int).toNat = st.size by omega] at es ⊢
    refine k H1 o1 ?_
    unfold collectS
    rw [← upto_all, ← es]
    exact c1

end Su
namespace Su
open PySem L2
local macro_rules | `(tactic| walk_at "side") => `(tactic| first | assumption | (show (0 : Int) < _; omega) | (show (0 : Int) ≤ _; omega) | (show (0 : Int) < _; split <;> omega) | (show _ ∨ _; omega) | (show _ ∧ _; omega) | exact ⟨by decide, by decide, by decide⟩ | exact ⟨by first | assumption | omega, by first | assumption | omega⟩)
local macro_rules | `(tactic| walk_at "x") => `(tactic| first | with_reducible refine Su.x_seq ?_ | with_reducible refine Su.x_asg ?_ | with_reducible refine Su.x_drop ?_ | ((with_reducible show L2.tVar _ _ _ _); refine Su.x_var rfl ?_) | with_reducible refine Su.x_c ?_ | with_reducible refine Su.x_op ?_ | with_reducible refine Su.x_nil ?_ | with_reducible refine Su.x_cons ?_ | with_reducible refine Su.x_bmL ?_ | with_reducible refine Su.x_gsub ?_)
local macro_rules | `(tactic| walk_at "xs") => `(tactic| repeat walk_at "x")
local macro_rules | `(tactic| walk_at "if") => `(tactic| first | with_reducible refine Su.x_iteD (fun c => ?_) (fun c => ?_) | with_reducible refine Su.x_iteN (fun c => ?_) (fun c => ?_) | with_reducible refine Su.x_ite (fun c => ?_) (fun c => ?_))
local macro_rules | `(tactic| walk_at "at") => `(tactic| first | assumption | (refine Su.f_at (by assumption) ?_; walk_at "at"))
local macro_rules | `(tactic| walk_at "sm") => `(tactic| first | assumption | exact L2.Same.refl _ | (refine Su.f_tr (by assumption) ?_; walk_at "sm"))
local macro_rules | `(tactic| walk_at "hp") => `(tactic| first | assumption | ((with_reducible refine Su.f_sqL ?_); walk_at "at") | ((with_reducible refine Su.f_sqT ?_); walk_at "at") | ((with_reducible show L2.Same _ _); walk_at "sm") | ((with_reducible show _ = none); refine Su.f_free ?_ (by assumption); walk_at "sm") | ((with_reducible show _ = some _); walk_at "at") | (refine Su.f_dp (by assumption) ?_; walk_at "hp") | (refine Su.f_dpA (by assumption) ?_; walk_at "hp") | (refine Su.f_sqLs (by assumption) ?_; walk_at "hp") | (refine Su.f_sqTs (by assumption) ?_; walk_at "hp"))
local macro_rules | `(tactic| walk_at "x") => `(tactic| first | with_reducible refine Su.x_fld ?_ | with_reducible refine Su.x_sfldAug ?_ | with_reducible refine Su.c_now (by assumption) ?_ | with_reducible refine Su.c_line (by assumption) ?_ | with_reducible refine Su.c_state (by assumption) ?_ | with_reducible refine Su.c_when (by assumption) ?_ | with_reducible refine Su.c_flows (by assumption) ?_)
local macro_rules | `(tactic| walk_at "me") => `(tactic| first | refine Su.c_meth (by assumption) rfl ?_ | refine Su.so_meth (by assumption) rfl ?_)

def putOut (st : CS) (n : Nat) : CS := { st with line := st.line.erase n, due := st.due + 1, seats := st.seats.modify n fun r => { r with st := .fell, wh := st.now, fl := r.fl ++ [0] } }
def sp_Circle_put_out (K : PySem.W.Frag) : Sp := fun vs H Q E => ∃ (a : Nat → Addr) (st : CS) (n : Nat), vs = [.ref (a 0), .int n] ∧ CirAt K H a st ∧ n < st.size ∧ n ∈ st.line ∧ (st.get n).fl.length ≤ 1000 ∧ ∀ H', Off (cirFoot a st.size) H H' → CirAt K H' a (putOut st n) → Q .non H'
abbrev N_Circle_put_out : List Str := ["self", "at"]
def t_Circle_put_out (K : PySem.W.Frag) : TS :=
 (tSeq (tAsg (tC (.str "fell")) (gSub (tFld K (tVar 0) "state") (tVar 1) rSetL))
 (tSeq (tAsg (tFld K (tVar 0) "now") (gSub (tFld K (tVar 0) "when") (tVar 1) rSetL))
 (tSeq (tDrop (tBM K "list" rRemI (tFld K (tVar 0) "line") (tCons (tVar 1) tNil)))
 (tSeq (sFldAug K (tVar 0) (tC (.int 1)) L2.rAdd "due")
 (tDrop (tBM K "list" rAppend (tOp (rIxL K) (tFld K (tVar 0) "flows") (tVar 1)) (tCons (tC (.int 0)) tNil)))))))

theorem len_Circle_put_out {K : PySem.W.Frag} : ∀ vs H Q E, sp_Circle_put_out K vs H Q E → vs.length = ["a", "b"].length := by
  rintro vs H Q E ⟨_, _, _, rfl, _⟩; rfl
theorem pure_Circle_put_out {K : PySem.W.Frag} {vs : List V} {H : Hp} {Q : VK} {E : XK} (h : sp_Circle_put_out K vs H Q E) : t_Circle_put_out K { nx := fun _ H' => Q .non H', rt := Q } (start N_Circle_put_out vs) H := by
  obtain ⟨a, st, n, rfl, hc, hn, hm, hf, k⟩ := h
  unfold t_Circle_put_out
  walk_at "xs"
  refine w_st (z := .fell) hc rfl rfl hn rfl fun H1 s1 o1 c1 z1 e1 => ?_
  walk_at "xs"
  refine w_wh c1 z1 rfl hn fun H2 s2 o2 c2 z2 e2 => ?_
  walk_at "xs"
  refine ⟨tyL (SqL.of (c2.at_ 2 (by omega))), ?_⟩
  walk_at "xs"
  refine w_rem c2 z2 rfl (by rw [e2, e1]; exact hm) fun H3 s3 o3 c3 z3 e3 => ?_
  walk_at "xs"
  refine c_aug c3 (v := .int s3.due) (by decide +kernel) rfl ?_
  walk_at "xs"
  refine x_rAddL ?_
  refine w_due c3 (n := st.size) (z := s3.due + 1) z3 (by omega) fun H4 s4 o4 c4 z4 e4 => ?_
  walk_at "xs"
  refine i_flows c4 rfl (by omega) ?_
  have g : (s4.get n).fl = (st.get n).fl := by
    rw [e4, e3, e2, e1]
    show (((st.seats.modify n _).modify n _).getD n {}).fl = _
    rw [mod_mod, getD_mod hn, if_pos rfl]
  refine ⟨tyL (SqL.of (i_flow c4 (by omega))), ?_⟩
  walk_at "xs"
  refine w_fl c4 z4 hn (by rw [g]; omega) fun H5 s5 o5 c5 z5 e5 => ?_
  refine k H5 (((o1.trans o2).trans o3).trans (o4.trans o5)) ?_
  have e : putOut st n = s5 := by
    rw [e5, e4, e3, e2, e1]
    unfold putOut CS.mod
    simp only [mod_mod]
  rw [e]; exact c5

end Su
namespace Su
open PySem L2
local macro_rules | `(tactic| walk_at "side") => `(tactic| first | assumption | (show (0 : Int) < _; omega) | (show (0 : Int) ≤ _; omega) | (show (0 : Int) < _; split <;> omega) | (show _ ∨ _; omega) | (show _ ∧ _; omega) | exact ⟨by decide, by decide, by decide⟩ | exact ⟨by first | assumption | omega, by first | assumption | omega⟩)
local macro_rules | `(tactic| walk_at "x") => `(tactic| first | with_reducible refine Su.x_ret ?_ | ((with_reducible show L2.tVar _ _ _ _); refine Su.x_var rfl ?_) | with_reducible refine Su.x_op ?_ | with_reducible refine Su.x_rGt ?_)
local macro_rules | `(tactic| walk_at "xs") => `(tactic| repeat walk_at "x")
local macro_rules | `(tactic| walk_at "if") => `(tactic| first | with_reducible refine Su.x_iteD (fun c => ?_) (fun c => ?_) | with_reducible refine Su.x_iteN (fun c => ?_) (fun c => ?_) | with_reducible refine Su.x_ite (fun c => ?_) (fun c => ?_))
local macro_rules | `(tactic| walk_at "at") => `(tactic| first | assumption | (refine Su.f_at (by assumption) ?_; walk_at "at"))
local macro_rules | `(tactic| walk_at "sm") => `(tactic| first | assumption | exact L2.Same.refl _ | (refine Su.f_tr (by assumption) ?_; walk_at "sm"))
local macro_rules | `(tactic| walk_at "hp") => `(tactic| first | assumption | ((with_reducible refine Su.f_sqL ?_); walk_at "at") | ((with_reducible refine Su.f_sqT ?_); walk_at "at") | ((with_reducible show L2.Same _ _); walk_at "sm") | ((with_reducible show _ = none); refine Su.f_free ?_ (by assumption); walk_at "sm") | ((with_reducible show _ = some _); walk_at "at") | (refine Su.f_dp (by assumption) ?_; walk_at "hp") | (refine Su.f_dpA (by assumption) ?_; walk_at "hp") | (refine Su.f_sqLs (by assumption) ?_; walk_at "hp") | (refine Su.f_sqTs (by assumption) ?_; walk_at "hp"))
local macro_rules | `(tactic| walk_at "x") => `(tactic| first | with_reducible refine Su.x_fld ?_ | with_reducible refine Su.c_size (by assumption) ?_ | with_reducible refine Su.c_now (by assumption) ?_)
local macro_rules | `(tactic| walk_at "me") => `(tactic| first | refine Su.c_meth (by assumption) rfl ?_ | refine Su.so_meth (by assumption) rfl ?_)

def sp_Circle_ended (K : PySem.W.Frag) : Sp := fun vs H Q E => ∃ (a : Nat → Addr) (st : CS), vs = [.ref (a 0)] ∧ CirAt K H a st ∧ Q (.bl (decide (st.size < st.now))) H
abbrev N_Circle_ended : List Str := ["self"]
def t_Circle_ended (K : PySem.W.Frag) : TS :=
 (tRet (tOp rGt (tFld K (tVar 0) "now") (tFld K (tVar 0) "size")))

theorem len_Circle_ended {K : PySem.W.Frag} : ∀ vs H Q E, sp_Circle_ended K vs H Q E → vs.length = ["a"].length := by
  rintro vs H Q E ⟨_, _, rfl, _⟩; rfl
theorem pure_Circle_ended {K : PySem.W.Frag} {vs : List V} {H : Hp} {Q : VK} {E : XK} (h : sp_Circle_ended K vs H Q E) : t_Circle_ended K { nx := fun _ H' => Q .non H', rt := Q } (start N_Circle_ended vs) H := by
  obtain ⟨a, st, rfl, hc, k⟩ := h
  unfold t_Circle_ended
  walk_at "xs"
  have e : decide ((st.size : Int) < (st.now : Int)) = decide (st.size < st.now) := by
    by_cases c : st.size < st.now
    · rw [decide_eq_true c, decide_eq_true (by omega)]
    · rw [decide_eq_false c, decide_eq_false (by omega)]
  rw [e]
  exact k

end Su
namespace Su
open PySem L2
local macro_rules | `(tactic| walk_at "side") => `(tactic| first | assumption | (show (0 : Int) < _; omega) | (show (0 : Int) ≤ _; omega) | (show (0 : Int) < _; split <;> omega) | (show _ ∨ _; omega) | (show _ ∧ _; omega) | exact ⟨by decide, by decide, by decide⟩ | exact ⟨by first | assumption | omega, by first | assumption | omega⟩)
local macro_rules | `(tactic| walk_at "x") => `(tactic| first | with_reducible refine Su.x_seq ?_ | with_reducible refine Su.x_gname ?_ | with_reducible refine Su.x_ifS ?_ | ((with_reducible show L2.tVar _ _ _ _); refine Su.x_var rfl ?_) | with_reducible refine Su.x_c ?_ | with_reducible refine Su.x_op ?_ | with_reducible refine Su.x_rI0 ?_ | ((with_reducible refine Su.x_rI ?_ ?_); focus walk_at "side") | with_reducible refine Su.x_iteT ?_ | with_reducible refine Su.x_iteNF ?_ | with_reducible refine Su.x_neI ?_ | with_reducible refine Su.x_test ?_ | with_reducible refine Su.x_tB ?_ | with_reducible refine Su.x_isB' ?_ | with_reducible refine Su.x_not ?_ | with_reducible refine Su.x_or ?_ | with_reducible refine Su.x_chain ?_ | with_reducible refine Su.x_nil ?_ | with_reducible refine Su.x_cons ?_ | with_reducible refine Su.x_cb ?_ | with_reducible refine Su.x_next ?_ | with_reducible refine Su.x_for ?_ | with_reducible refine Su.x_iList ?_)
local macro_rules | `(tactic| walk_at "xs") => `(tactic| repeat walk_at "x")
local macro_rules | `(tactic| walk_at "if") => `(tactic| first | with_reducible refine Su.x_iteD (fun c => ?_) (fun c => ?_) | with_reducible refine Su.x_iteN (fun c => ?_) (fun c => ?_) | with_reducible refine Su.x_ite (fun c => ?_) (fun c => ?_))
local macro_rules | `(tactic| walk_at "at") => `(tactic| first | assumption | (refine Su.f_at (by assumption) ?_; walk_at "at"))
local macro_rules | `(tactic| walk_at "sm") => `(tactic| first | assumption | exact L2.Same.refl _ | (refine Su.f_tr (by assumption) ?_; walk_at "sm"))
local macro_rules | `(tactic| walk_at "hp") => `(tactic| first | assumption | ((with_reducible refine Su.f_sqL ?_); walk_at "at") | ((with_reducible refine Su.f_sqT ?_); walk_at "at") | ((with_reducible show L2.Same _ _); walk_at "sm") | ((with_reducible show _ = none); refine Su.f_free ?_ (by assumption); walk_at "sm") | ((with_reducible show _ = some _); walk_at "at") | (refine Su.f_dp (by assumption) ?_; walk_at "hp") | (refine Su.f_dpA (by assumption) ?_; walk_at "hp") | (refine Su.f_sqLs (by assumption) ?_; walk_at "hp") | (refine Su.f_sqTs (by assumption) ?_; walk_at "hp"))
local macro_rules | `(tactic| walk_at "x") => `(tactic| first | with_reducible refine Su.x_fld ?_ | with_reducible refine Su.x_meth ?_ | with_reducible refine Su.c_stake (by assumption) ?_ | with_reducible refine Su.c_size (by assumption) ?_)
local macro_rules | `(tactic| walk_at "me") => `(tactic| first | refine Su.c_meth (by assumption) rfl ?_ | refine Su.so_meth (by assumption) rfl ?_)

def RoundOk (st : CS) (n : Nat) (bids : List Int) : Prop := n = st.size ∧ bids.length = st.size ∧ ∀ x ∈ bids, 0 ≤ x ∧ x ≤ st.stake * st.size
def sp_Circle_check_round (K : PySem.W.Frag) : Sp := fun vs H Q E => ∃ (a : Nat → Addr) (st : CS) (p b : Addr) (paid : List V) (bids : List Int), vs = [.ref (a 0), .ref p, .ref b] ∧ CirAt K H a st ∧ SqL K H p paid ∧ SqL K H b (bids.map V.int) ∧ 0 < st.stake ∧ st.stake ≤ 1000000 ∧ (st.size < st.now → E (.ref (He.ga K "Ended")) none H) ∧ (¬ st.size < st.now → ¬ RoundOk st paid.length bids → E (.ref (He.ga K "BadNumber")) none H) ∧ (¬ st.size < st.now → RoundOk st paid.length bids → Q .non H)
abbrev N_Circle_check_round : List Str := ["self", "paid", "bids", "coins"]
def t_Circle_check_round (K : PySem.W.Frag) (E : XK) : TS :=
 (tSeq (tIfS (tB (tMeth (He.ga K "Circle") "ended" (sp_Circle_ended K) [] E0 (tVar 0) tNil))
 (tRaise (He.ga K "Ended") (wE E))
 tNext)
 (tSeq (tIfS (tOr (tTest (tOp rNe (tCB (rLenSeq K) (tCons (tVar 1) tNil)) (tFld K (tVar 0) "size"))) (tTest (tOp rNe (tCB (rLenSeq K) (tCons (tVar 2) tNil)) (tFld K (tVar 0) "size"))))
 (tRaise (He.ga K "BadNumber") (wE E))
 tNext)
 (tFor (iList K (tVar 2)) (gName 3)
 (tIfS (tNot (tTest (tChain rLe rLe (tC (.int 0)) (tVar 3) (tOp rMul (tFld K (tVar 0) "stake") (tFld K (tVar 0) "size")))))
 (tRaise (He.ga K "BadNumber") (wE E))
 tNext))))

theorem len_Circle_check_round {K : PySem.W.Frag} : ∀ vs H Q E, sp_Circle_check_round K vs H Q E → vs.length = ["a", "b", "c"].length := by
  rintro vs H Q E ⟨_, _, _, _, _, _, rfl, _⟩; rfl
theorem pure_Circle_check_round {K : PySem.W.Frag} {vs : List V} {H : Hp} {Q : VK} {E : XK} (h : sp_Circle_check_round K vs H Q E) : t_Circle_check_round K E { nx := fun _ H' => Q .non H', rt := Q } (start N_Circle_check_round vs) H := by
  obtain ⟨a, st, p, b, paid, bids, rfl, hc, hp, hb, s0, s1, k1, k2, k3⟩ := h
  unfold t_Circle_check_round
  walk_at "xs"
  walk_at "me"
  walk_at "xs"
  refine ⟨a, st, rfl, hc, ?_⟩
  walk_at "xs"
  walk_at "if"
  · rename_i c
    exact k1 c
  rename_i c
  have k2 := k2 c
  have k3 := k3 c
  walk_at "xs"
  refine x_lenL hp ?_
  walk_at "xs"
  walk_at "if"
  · rename_i c1
    walk_at "xs"
    exact k2 fun z => c1 (by rw [z.1])
  rename_i c1
  walk_at "xs"
  refine x_lenL hb ?_
  rw [List.length_map]
  walk_at "xs"
  walk_at "if"
  · rename_i c2
    exact k2 fun z => c2 (by rw [z.2.1])
  rename_i c2
  walk_at "xs"
  refine ⟨b, rfl, ⟨_, hb⟩, for_by (turnsL (xs := bids.map V.int)) (fun i σ H' => ∃ u, σ = [some (.ref (a 0)), some (.ref p), some (.ref b), u] ∧ H = H' ∧ ∀ x ∈ bids.take i, 0 ≤ x ∧ x ≤ st.stake * st.size) ⟨none, rfl, rfl, fun x hx => by simp at hx⟩ (fun i σ H' _ q => by obtain ⟨_, _, rfl, _⟩ := q; exact hb) ?_ ?_⟩
  · rintro i x σ _ _ hi ⟨u, rfl, rfl, hx⟩ ⟨rfl, hxi⟩
    rw [List.length_map] at hi
    rw [List.getElem?_map, List.getElem?_eq_getElem hi] at hxi
    cases hxi
    walk_at "xs"
    have bad : ¬ (0 ≤ bids[i] ∧ bids[i] ≤ st.stake * (st.size : Int)) → E (.ref (He.ga K "BadNumber")) none H := fun z => k2 fun q => z (q.2.2 _ (List.getElem_mem _))
    walk_at "if"
    · rename_i c3
      walk_at "xs"
      walk_at "if"
      · rename_i c4
        exact bad fun z => c4 z.2
      · rename_i c4
        refine ⟨_, rfl, rfl, fun x hx2 => ?_⟩
        rw [List.take_succ, List.getElem?_eq_getElem hi] at hx2
        rcases List.mem_append.mp hx2 with h | h
        · exact hx x h
        · simp at h; rw [h]; exact ⟨c3, by simpa using c4⟩
    · rename_i c3
      walk_at "xs"
      exact bad fun z => c3 z.1
  · rintro σ _ ⟨u, rfl, rfl, hx⟩
    rw [List.length_map, List.take_length] at hx
    exact k3 ⟨by omega, by omega, hx⟩

end Su
namespace Su
open PySem L2
local macro_rules | `(tactic| walk_at "side") => `(tactic| first | assumption | (show (0 : Int) < _; omega) | (show (0 : Int) ≤ _; omega) | (show (0 : Int) < _; split <;> omega) | (show _ ∨ _; omega) | (show _ ∧ _; omega) | exact ⟨by decide, by decide, by decide⟩ | exact ⟨by first | assumption | omega, by first | assumption | omega⟩)
local macro_rules | `(tactic| walk_at "x") => `(tactic| first | with_reducible refine Su.x_seq ?_ | with_reducible refine Su.x_asg ?_ | with_reducible refine Su.x_gname ?_ | with_reducible refine Su.x_drop ?_ | with_reducible refine Su.x_ret ?_ | with_reducible refine Su.x_ifS ?_ | ((with_reducible show L2.tVar _ _ _ _); refine Su.x_var rfl ?_) | with_reducible refine Su.x_c ?_ | with_reducible refine Su.x_op ?_ | with_reducible refine Su.x_rI0 ?_ | ((with_reducible refine Su.x_rI ?_ ?_); focus walk_at "side") | with_reducible refine Su.x_rGt ?_ | with_reducible refine Su.x_iteF ?_ | with_reducible refine Su.x_iteNT ?_ | with_reducible refine Su.x_iteNF ?_ | with_reducible refine Su.x_eqS ?_ | with_reducible refine Su.x_test ?_ | with_reducible refine Su.x_tB ?_ | with_reducible refine Su.x_isB' ?_ | with_reducible refine Su.x_not ?_ | with_reducible refine Su.x_and ?_ | with_reducible refine Su.x_nil ?_ | with_reducible refine Su.x_cons ?_ | with_reducible refine Su.x_cb ?_ | with_reducible refine Su.x_un ?_ | with_reducible refine Su.x_rU ?_ | with_reducible refine Su.x_tup ?_ | with_reducible refine Su.x_for ?_ | with_reducible refine Su.x_iList ?_ | with_reducible refine Su.x_iRng1 ?_ | with_reducible refine Su.x_gcons ?_ | with_reducible refine Su.x_gnil ?_ | with_reducible refine Su.x_lc ?_)
local macro_rules | `(tactic| walk_at "xs") => `(tactic| repeat walk_at "x")
local macro_rules | `(tactic| walk_at "if") => `(tactic| first | with_reducible refine Su.x_iteD (fun c => ?_) (fun c => ?_) | with_reducible refine Su.x_iteN (fun c => ?_) (fun c => ?_) | with_reducible refine Su.x_ite (fun c => ?_) (fun c => ?_))
local macro_rules | `(tactic| walk_at "at") => `(tactic| first | assumption | (refine Su.f_at (by assumption) ?_; walk_at "at"))
local macro_rules | `(tactic| walk_at "sm") => `(tactic| first | assumption | exact L2.Same.refl _ | (refine Su.f_tr (by assumption) ?_; walk_at "sm"))
local macro_rules | `(tactic| walk_at "hp") => `(tactic| first | assumption | ((with_reducible refine Su.f_sqL ?_); walk_at "at") | ((with_reducible refine Su.f_sqT ?_); walk_at "at") | ((with_reducible show L2.Same _ _); walk_at "sm") | ((with_reducible show _ = none); refine Su.f_free ?_ (by assumption); walk_at "sm") | ((with_reducible show _ = some _); walk_at "at") | (refine Su.f_dp (by assumption) ?_; walk_at "hp") | (refine Su.f_dpA (by assumption) ?_; walk_at "hp") | (refine Su.f_sqLs (by assumption) ?_; walk_at "hp") | (refine Su.f_sqTs (by assumption) ?_; walk_at "hp"))
local macro_rules | `(tactic| walk_at "x") => `(tactic| first | with_reducible refine Su.x_fld ?_ | with_reducible refine Su.x_sfldAug ?_ | with_reducible refine Su.x_meth ?_ | with_reducible refine Su.c_stake (by assumption) ?_ | with_reducible refine Su.c_size (by assumption) ?_ | with_reducible refine Su.c_now (by assumption) ?_ | with_reducible refine Su.c_due (by assumption) ?_ | with_reducible refine Su.c_state (by assumption) ?_)
local macro_rules | `(tactic| walk_at "me") => `(tactic| first | refine Su.c_meth (by assumption) rfl ?_ | refine Su.so_meth (by assumption) rfl ?_)

structure Rep where
  turn : Nat
  draw : Bool
  at_ : Int
  coins : Int
  share : Int
  fallen : List Nat
  helped : List Nat
def Rep.word (r : Rep) : Str := if r.draw then "draw" else "box"
structure RepAt (H : Hp) (r t1 t2 : Addr) (x : Rep) : Prop where
  r : H r = some (.tup [.int x.turn, .str x.word, .int x.at_, .int x.coins, .int x.share, .ref t1, .ref t2])
  f : H t1 = some (.lst (nI x.fallen))
  h : H t2 = some (.lst (nI x.helped))
  ne : t1 ≠ t2
structure WF (st : CS) : Prop where
  s1 : 1 ≤ st.stake
  s2 : st.stake ≤ 1000000
  n1 : 2 ≤ st.size
  n2 : st.size ≤ 20
  nd : st.line.Nodup
  mem : ∀ i, i ∈ st.line ↔ (i < st.size ∧ (st.get i).st = .waits)
  cnt : st.line.length + st.due + st.now = st.size + 1
  now1 : 1 ≤ st.now
  fl : ∀ i, i < st.size → (st.get i).fl.length + 1 = st.now
  wh : ∀ i, i < st.size → (st.get i).st = .fell → (st.get i).wh < st.now
def fallenS (st : CS) (paid : List Bool) : List Nat := (List.range st.size).filter fun i => decide ((st.get i).st = .waits) && !(paid.getD i false)
def helpedS (st : CS) (paid : List Bool) : List Nat := (List.range st.size).filter fun i => decide ((st.get i).st = .drew) && !(paid.getD i false)
def outS (st : CS) (paid : List Bool) : CS := (fallenS st paid).foldl putOut st
def payS (st : CS) (paid : List Bool) : CS := collectS (outS st paid) (helpedS st paid)
def payCoins (st : CS) (paid : List Bool) : Int := coinsS (outS st paid) st.size
def closeS (st : CS) (paid : List Bool) (bids : List Int) : CS :=
  if 0 < (payS st paid).due then { payS st paid with due := (payS st paid).due - 1, chest := st.chest + payCoins st paid, now := st.now + 1 }
  else { drawS (payS st paid) bids with chest := st.chest + (payCoins st paid - st.stake * (st.size : Int)), now := st.now + 1 }
def repS (st : CS) (paid : List Bool) (bids : List Int) : Rep :=
  if 0 < (payS st paid).due then ⟨st.now, false, -1, payCoins st paid, 0, fallenS st paid, helpedS st paid⟩
  else ⟨st.now, true, (winnerS (payS st paid) bids).1, gotB (payS st paid) bids, shareB (payS st paid) bids, fallenS st paid, helpedS st paid⟩
/-! put out, one by one -/
def putSeat (now : Nat) (r : SeatR) : SeatR := { r with st := .fell, wh := now, fl := r.fl ++ [0] }
theorem outs_eq {st : CS} : ∀ {l T : List Nat} {s : CS}, (T ++ l).Nodup → s = { st with line := T.foldl List.erase st.line, due := st.due + T.length, seats := onIn T (putSeat st.now) st.seats } →
    l.foldl putOut s = { st with line := (T ++ l).foldl List.erase st.line, due := st.due + (T ++ l).length, seats := onIn (T ++ l) (putSeat st.now) st.seats }
  | [], T, s, _, e => by rw [List.append_nil]; exact e
  | n :: l, T, s, nd, e => by
    have nin : n ∉ T := fun z => (List.nodup_append.mp nd).2.2 n z n List.mem_cons_self rfl
    rw [List.foldl_cons]
    have := outs_eq (st := st) (l := l) (T := T ++ [n]) (s := putOut s n) (by rw [List.append_assoc]; exact nd) (by
      rw [e]
      unfold putOut
      simp only [List.foldl_append, List.foldl_cons, List.foldl_nil, List.length_append, List.length_singleton, Nat.add_assoc]
      congr 1
      exact onIn_step nin rfl)
    rw [this, List.append_assoc]; rfl
theorem outs_nil {st : CS} {l : List Nat} (nd : l.Nodup) : l.foldl putOut st = { st with line := l.foldl List.erase st.line, due := st.due + l.length, seats := onIn l (putSeat st.now) st.seats } :=
  outs_eq (T := []) nd (by rw [onIn_nil]; rfl)
theorem mem_erases {n : Nat} : ∀ {l m : List Nat}, m.Nodup → (n ∈ l.foldl List.erase m ↔ n ∈ m ∧ n ∉ l) ∧ (l.foldl List.erase m).Nodup
  | [], m, h => ⟨by simp, h⟩
  | x :: l, m, h => by
    rw [List.foldl_cons]
    have := mem_erases (n := n) (l := l) (m := m.erase x) (h.erase x)
    refine ⟨?_, this.2⟩
    rw [this.1, h.mem_erase_iff]
    simp only [List.mem_cons, not_or]
    exact ⟨fun z => ⟨z.1.2, z.1.1, z.2⟩, fun z => ⟨⟨z.2.1, z.1⟩, z.2.2⟩⟩
theorem len_erases : ∀ {l m : List Nat}, l.Nodup → m.Nodup → (∀ x ∈ l, x ∈ m) → (l.foldl List.erase m).length + l.length = m.length
  | [], m, _, _, _ => rfl
  | x :: l, m, hl, hm, h => by
    rw [List.foldl_cons]
    have hl' := List.nodup_cons.mp hl
    have := len_erases (l := l) (m := m.erase x) hl'.2 (hm.erase x) fun y hy => (List.mem_erase_of_ne (fun (e : y = x) => hl'.1 (e ▸ hy))).mpr (h y (List.mem_cons_of_mem _ hy))
    have hx := h x List.mem_cons_self
    rw [List.length_erase_of_mem hx] at this
    have := List.length_pos_of_mem hx
    rw [List.length_cons]; omega
section
variable {st : CS} {paid : List Bool}
theorem fallen_nd : (fallenS st paid).Nodup := List.nodup_range.filter _
theorem mem_fallen {i : Nat} : i ∈ fallenS st paid ↔ i < st.size ∧ (st.get i).st = .waits ∧ paid.getD i false = false := by
  unfold fallenS; rw [List.mem_filter, List.mem_range, Bool.and_eq_true, decide_eq_true_eq, Bool.not_eq_true']
theorem mem_helped {i : Nat} : i ∈ helpedS st paid ↔ i < st.size ∧ (st.get i).st = .drew ∧ paid.getD i false = false := by
  unfold helpedS; rw [List.mem_filter, List.mem_range, Bool.and_eq_true, decide_eq_true_eq, Bool.not_eq_true']
theorem outS_eq : outS st paid = { st with line := (fallenS st paid).foldl List.erase st.line, due := st.due + (fallenS st paid).length, seats := onIn (fallenS st paid) (putSeat st.now) st.seats } := outs_nil fallen_nd
theorem outS_size : (outS st paid).size = st.size := by rw [outS_eq]; exact onIn_len _ _ _
theorem get_onIn {T : List Nat} {G : SeatR → SeatR} {l : List SeatR} {i : Nat} (h : i < l.length) : (onIn T G l).getD i {} = if i ∈ T then G (l.getD i {}) else l.getD i {} := by
  unfold onIn
  rw [List.getD_eq_getElem?_getD, List.getD_eq_getElem?_getD, List.getElem?_mapIdx, List.getElem?_eq_getElem h]; rfl
theorem outS_get {i : Nat} (h : i < st.size) : (outS st paid).get i = if i ∈ fallenS st paid then putSeat st.now (st.get i) else st.get i := by
  rw [outS_eq]; exact get_onIn h
theorem get_mapIdx {F : Nat → SeatR → SeatR} {l : List SeatR} {i : Nat} (h : i < l.length) : (l.mapIdx F).getD i {} = F i (l.getD i {}) := by
  rw [List.getD_eq_getElem?_getD, List.getD_eq_getElem?_getD, List.getElem?_mapIdx, List.getElem?_eq_getElem h]; rfl
end
def sp_Circle_close (K : PySem.W.Frag) : Sp := fun vs H Q E => ∃ (a : Nat → Addr) (st : CS) (p b : Addr) (paid : List Bool) (bids : List Int), vs = [.ref (a 0), .ref p, .ref b] ∧ CirAt K H a st ∧ WF st ∧ SqL K (hide (cirFoot a st.size) H) p (paid.map V.bl) ∧ SqL K (hide (cirFoot a st.size) H) b (bids.map V.int) ∧ (st.size < st.now → E (.ref (He.ga K "Ended")) none H) ∧ (¬ st.size < st.now → ¬ RoundOk st paid.length bids → E (.ref (He.ga K "BadNumber")) none H) ∧ (¬ st.size < st.now → RoundOk st paid.length bids → ∀ r t1 t2 H', H r = none → H t1 = none → H t2 = none → Off (cirFoot a st.size) H H' → CirAt K H' a (closeS st paid bids) → RepAt H' r t1 t2 (repS st paid bids) → Q (.ref r) H')
theorem payS_size {st : CS} {paid : List Bool} : (payS st paid).size = st.size := by
  unfold payS collectS
  show (List.mapIdx _ _).length = _
  rw [List.length_mapIdx]; exact outS_size
theorem payS_get {st : CS} {paid : List Bool} {i : Nat} (h : i < st.size) : (payS st paid).get i = collectSeat st.stake st.now (helpedS st paid) i ((outS st paid).get i) := by
  unfold payS collectS
  show (List.mapIdx _ _).getD i ({} : SeatR) = _
  rw [get_mapIdx (by show i < (outS st paid).size; rw [outS_size]; exact h), outS_eq]
theorem collect_st (s : Int) (n : Nat) (h : List Nat) (i : Nat) (r : SeatR) : (collectSeat s n h i r).st = r.st := by
  unfold collectSeat; split
  · rfl
  · split <;> rfl
theorem payS_st {st : CS} {paid : List Bool} {i : Nat} (h : i < st.size) : ((payS st paid).get i).st = if i ∈ fallenS st paid then .fell else (st.get i).st := by
  rw [payS_get h, collect_st, outS_get h]
  split <;> rfl
theorem payS_stake {st : CS} {paid : List Bool} : (payS st paid).stake = st.stake := by unfold payS collectS; rw [outS_eq]
theorem payS_now {st : CS} {paid : List Bool} : (payS st paid).now = st.now := by unfold payS collectS; rw [outS_eq]
theorem payS_chest {st : CS} {paid : List Bool} : (payS st paid).chest = st.chest := by unfold payS collectS; rw [outS_eq]
theorem payS_line {st : CS} {paid : List Bool} : (payS st paid).line = (fallenS st paid).foldl List.erase st.line := by unfold payS collectS; rw [outS_eq]
theorem payS_due {st : CS} {paid : List Bool} : (payS st paid).due = st.due + (fallenS st paid).length := by unfold payS collectS; rw [outS_eq]
structure PayOk (st : CS) (s : CS) : Prop where
  size : s.size = st.size
  nd : s.line.Nodup
  mem : ∀ i, i ∈ s.line ↔ (i < st.size ∧ (s.get i).st = .waits)
  cnt : s.line.length + s.due + st.now = st.size + 1
  fl : ∀ i, i < st.size → (s.get i).fl.length = st.now
theorem pay_ok {st : CS} {paid : List Bool} (wf : WF st) : PayOk st (payS st paid) := by
  have hf : ∀ x ∈ fallenS st paid, x ∈ st.line := fun x hx => by
    have := mem_fallen.mp hx
    exact (wf.mem x).mpr ⟨this.1, this.2.1⟩
  refine ⟨payS_size, ?_, fun i => ?_, ?_, fun i hi => ?_⟩
  · rw [payS_line]; exact (mem_erases (n := 0) wf.nd).2
  · rw [payS_line, (mem_erases wf.nd).1, wf.mem]
    constructor
    · rintro ⟨⟨h1, h2⟩, h3⟩
      exact ⟨h1, by rw [payS_st h1, if_neg h3]; exact h2⟩
    · rintro ⟨h1, h2⟩
      rw [payS_st h1] at h2
      by_cases c : i ∈ fallenS st paid
      · rw [if_pos c] at h2; cases h2
      · rw [if_neg c] at h2; exact ⟨⟨h1, h2⟩, c⟩
  · have h1 := len_erases (l := fallenS st paid) fallen_nd wf.nd hf
    have h2 := wf.cnt
    rw [payS_line, payS_due]; omega
  · have h1 := wf.fl i hi
    have h0 := wf.now1
    rw [payS_get hi, outS_get hi]
    by_cases c : i ∈ fallenS st paid
    · rw [if_pos c]
      unfold collectSeat putSeat
      simp only [ne_eq, not_true_eq_false, if_false, Int.lt_irrefl]
      rw [List.length_append, List.length_singleton]; omega
    · rw [if_neg c]
      unfold collectSeat
      split
      · simp only [List.length_append, List.length_singleton]; omega
      · rename_i h2
        have h3 := wf.wh i hi (Classical.not_not.mp h2)
        rw [if_pos h3]
        simp only [List.length_append, List.length_singleton]; omega
abbrev N_Circle_close : List Str := ["self", "paid", "bids", "turn", "fallen", "helped", "at", "coins", "report", "got", "share"]
def t_Circle_close (K : PySem.W.Frag) (E : XK) : TS :=
 (tSeq (tDrop (tMeth (He.ga K "Circle") "check_round" (sp_Circle_check_round K) [] E (tVar 0) (tCons (tVar 1) (tCons (tVar 2) tNil))))
 (tSeq (tAsg (tFld K (tVar 0) "now") (gName 3))
 (tSeq (tAsg (tLc (iRng1 (tCons (tFld K (tVar 0) "size") tNil)) (gName 6) (tAnd (tTest (tOp rEq (tOp (rIxL K) (tFld K (tVar 0) "state") (tVar 6)) (tC (.str "waits")))) (tNot (tB (tOp (rIxL K) (tVar 1) (tVar 6))))) (tVar 6) [6]) (gName 4))
 (tSeq (tAsg (tLc (iRng1 (tCons (tFld K (tVar 0) "size") tNil)) (gName 6) (tAnd (tTest (tOp rEq (tOp (rIxL K) (tFld K (tVar 0) "state") (tVar 6)) (tC (.str "drew")))) (tNot (tB (tOp (rIxL K) (tVar 1) (tVar 6))))) (tVar 6) [6]) (gName 5))
 (tSeq (tFor (iList K (tVar 4)) (gName 6)
 (tDrop (tMeth (He.ga K "Circle") "put_out" (sp_Circle_put_out K) [] E0 (tVar 0) (tCons (tVar 6) tNil))))
 (tSeq (tAsg (tMeth (He.ga K "Circle") "collect" (sp_Circle_collect K) [] E0 (tVar 0) (tCons (tVar 5) tNil)) (gName 7))
 (C8.tCut (tIfS (tTest (tOp rGt (tFld K (tVar 0) "due") (tC (.int 0))))
 (tSeq (sFldAug K (tVar 0) (tC (.int 1)) L2.rSub "due")
 (tSeq (sFldAug K (tVar 0) (tVar 7) L2.rAdd "chest")
 (tAsg (tTup (tCons (tVar 3) (tCons (tC (.str "box")) (tCons (tUn rNeg (tC (.int 1))) (tCons (tVar 7) (tCons (tC (.int 0)) (tCons (tCB (rListOf K) (tCons (tVar 4) tNil)) (tCons (tCB (rListOf K) (tCons (tVar 5) tNil)) tNil)))))))) (gName 8))))
 (tSeq (tAsg (tMeth (He.ga K "Circle") "draw" (sp_Circle_draw K) [] E0 (tVar 0) (tCons (tVar 2) tNil)) (gTup K 3 (gCons (gName 6) (gCons (gName 9) (gCons (gName 10) gNil)))))
 (tSeq (sFldAug K (tVar 0) (tOp rSub (tVar 7) (tOp rMul (tFld K (tVar 0) "stake") (tFld K (tVar 0) "size"))) L2.rAdd "chest")
 (tAsg (tTup (tCons (tVar 3) (tCons (tC (.str "draw")) (tCons (tVar 6) (tCons (tVar 9) (tCons (tVar 10) (tCons (tCB (rListOf K) (tCons (tVar 4) tNil)) (tCons (tCB (rListOf K) (tCons (tVar 5) tNil)) tNil)))))))) (gName 8)))))
 (tSeq (sFldAug K (tVar 0) (tC (.int 1)) L2.rAdd "now")
 (tRet (tVar 8))))))))))

theorem len_Circle_close {K : PySem.W.Frag} : ∀ vs H Q E, sp_Circle_close K vs H Q E → vs.length = ["a", "b", "c"].length := by
  rintro vs H Q E ⟨_, _, _, _, _, _, rfl, _⟩; rfl
theorem pure_Circle_close {K : PySem.W.Frag} {vs : List V} {H : Hp} {Q : VK} {E : XK} (h : sp_Circle_close K vs H Q E) : t_Circle_close K E { nx := fun _ H' => Q .non H', rt := Q } (start N_Circle_close vs) H := by
  obtain ⟨a, st, p, b, paid, bids, rfl, hc, wf, hp, hb, k1, k2, k3⟩ := h
  unfold t_Circle_close
  have s0 := wf.s1
  have s1 := wf.s2
  have n2 := wf.n2
  walk_at "xs"
  walk_at "me"
  walk_at "xs"
  refine ⟨a, st, p, b, paid.map V.bl, bids, rfl, hc, hide_same.seq hp, hide_same.seq hb, by omega, s1, k1, fun z1 z2 => k2 z1 (by rw [List.length_map] at z2; exact z2), fun ne ok => ?_⟩
  rw [List.length_map] at ok
  have k := k3 ne ok
  clear k1 k2 k3
  have pl : paid.length = st.size := ok.1
  have bl : bids.length = st.size := ok.2.1
  walk_at "xs"
  refine ⟨st.size, rfl, by omega, by omega, fun F nF => ?_⟩
  refine lc_flat (fun i => if (decide ((st.get i).st = .waits) && !(paid.getD i false)) = true then some (V.int (i : Int)) else none) turnsR (fun _ _ => trivial) nF ?_ ?_
  · rintro j v Hc _ hj lc ⟨rfl, rfl⟩
    have hj' : j < st.size := by omega
    have cc := hc.same lc.s
    walk_at "xs"
    refine x_wipe rfl ?_
    rw [show (0 : Int) + (j : Int) = j by omega]
    walk_at "xs"
    refine i_state cc rfl hj' ?_
    walk_at "xs"
    walk_at "if"
    · rename_i e1
      rw [seat_waits] at e1
      walk_at "xs"
      refine x_ixL (lc.s.seq (hide_same.seq hp)) (at_map (g := V.bl) (d := false) rfl (by omega)) ?_
      walk_at "xs"
      cases e2 : paid.getD j false
      · walk_at "xs"
        exact lc.keep nF (Same.refl _) (if_pos (by rw [decide_eq_true e1, e2]; rfl)) (by omega)
      · walk_at "xs"
        exact lc.skip (Same.refl _) (if_neg (by rw [e2]; simp))
    · rename_i e1
      rw [seat_waits] at e1
      walk_at "xs"
      exact lc.skip (Same.refl _) (if_neg (by rw [decide_eq_false e1]; simp))
  intro H1 sF hF
  rw [show ((st.size : Nat) : Int).toNat = st.size by omega] at hF
  have eF : (List.range st.size).filterMap (fun i => if (decide ((st.get i).st = .waits) && !(paid.getD i false)) = true then some (V.int (i : Int)) else none) = nI (fallenS st paid) := by
    unfold nI fallenS
    rw [← List.filterMap_eq_map', List.filterMap_filter]
  rw [eF] at hF
  have c1 := hc.same sF
  walk_at "xs"
  refine ⟨st.size, rfl, by omega, by omega, fun P nP => ?_⟩
  refine lc_flat (fun i => if (decide ((st.get i).st = .drew) && !(paid.getD i false)) = true then some (V.int (i : Int)) else none) turnsR (fun _ _ => trivial) nP ?_ ?_
  · rintro j v Hc _ hj lc ⟨rfl, rfl⟩
    have hj' : j < st.size := by omega
    have cc := c1.same lc.s
    walk_at "xs"
    refine x_wipe rfl ?_
    rw [show (0 : Int) + (j : Int) = j by omega]
    walk_at "xs"
    refine i_state cc rfl hj' ?_
    walk_at "xs"
    walk_at "if"
    · rename_i e1
      rw [seat_drew] at e1
      walk_at "xs"
      refine x_ixL (lc.s.seq (sF.seq (hide_same.seq hp))) (at_map (g := V.bl) (d := false) rfl (by omega)) ?_
      walk_at "xs"
      cases e2 : paid.getD j false
      · walk_at "xs"
        exact lc.keep nP (Same.refl _) (if_pos (by rw [decide_eq_true e1, e2]; rfl)) (by omega)
      · walk_at "xs"
        exact lc.skip (Same.refl _) (if_neg (by rw [e2]; simp))
    · rename_i e1
      rw [seat_drew] at e1
      walk_at "xs"
      exact lc.skip (Same.refl _) (if_neg (by rw [decide_eq_false e1]; simp))
  intro H2 sP hP
  rw [show ((st.size : Nat) : Int).toNat = st.size by omega] at hP
  have eP : (List.range st.size).filterMap (fun i => if (decide ((st.get i).st = .drew) && !(paid.getD i false)) = true then some (V.int (i : Int)) else none) = nI (helpedS st paid) := by
    unfold nI helpedS
    rw [← List.filterMap_eq_map', List.filterMap_filter]
  rw [eP] at hP
  have c2 := c1.same sP
  have hF2 := sP _ _ hF
  have nFF : F ∉ cirFoot a st.size := hc.fresh nF
  have nPF : P ∉ cirFoot a st.size := c1.fresh nP
  have o02 : Off (cirFoot a st.size) H H2 := (Off.of sF).trans (Off.of sP)
  walk_at "xs"
  refine ⟨F, rfl, ⟨_, SqL.of hF2⟩, for_by (turnsL (xs := nI (fallenS st paid))) (fun j σ H' => ∃ (u : Option V) (s : CS), σ = [some (.ref (a 0)), some (.ref p), some (.ref b), some (.int st.now), some (.ref F), some (.ref P), u, none, none, none, none] ∧ Off (cirFoot a st.size) H2 H' ∧ CirAt K H' a s ∧ s = ((fallenS st paid).take j).foldl putOut st)
    ⟨none, st, rfl, Off.refl, c2, rfl⟩ (fun j σ H' _ q => by obtain ⟨_, _, _, o, _⟩ := q; exact SqL.of (o _ _ nFF hF2)) ?_ ?_⟩
  · rintro j x σ H3 _ hj ⟨u, s, rfl, o3, c3, es⟩ ⟨rfl, hx⟩
    rw [nI_len] at hj
    unfold nI at hx
    rw [List.getElem?_map, List.getElem?_eq_getElem hj] at hx
    cases hx
    have nd := fallen_nd (st := st) (paid := paid)
    have tk : (fallenS st paid).take (j + 1) = (fallenS st paid).take j ++ [(fallenS st paid)[j]] := by rw [List.take_succ, List.getElem?_eq_getElem hj]; rfl
    have hm := mem_fallen.mp (List.getElem_mem hj)
    have nin : (fallenS st paid)[j] ∉ (fallenS st paid).take j := fun z => by
      obtain ⟨i, hi, e⟩ := List.mem_take_iff_getElem.mp z
      have := (List.getElem_inj nd).mp e
      omega
    have ndt : ((fallenS st paid).take j).Nodup := (List.take_sublist _ _).nodup nd
    rw [tk]
    generalize (fallenS st paid)[j] = n at hm nin
    rw [outs_nil ndt] at es
    have z3 : s.size = st.size := by rw [es]; exact onIn_len _ _ _
    have g3 : s.get n = st.get n := by rw [es]; exact onIn_get nin
    walk_at "xs"
    walk_at "me"
    walk_at "xs"
    refine ⟨a, s, n, rfl, c3, by rw [z3]; exact hm.1, ?_, ?_, fun H4 o4 c4 => ?_⟩
    · rw [es]
      exact (mem_erases wf.nd).1.mpr ⟨(wf.mem n).mpr ⟨hm.1, hm.2.1⟩, nin⟩
    · rw [g3]
      have h1 := wf.fl n hm.1
      have h2 := wf.cnt
      omega
    · rw [z3] at o4
      refine ⟨_, _, rfl, o3.trans o4, c4, ?_⟩
      rw [List.foldl_append, outs_nil ndt, ← es]
      rfl
  rintro σ H3 ⟨u, s, rfl, o3, c3, es⟩
  rw [nI_len, List.take_length] at es
  have es : s = outS st paid := es
  subst es
  have z3 : (outS st paid).size = st.size := outS_size
  have hP3 := o3 _ _ nPF hP
  have hF3 := o3 _ _ nFF hF2
  walk_at "xs"
  walk_at "me"
  walk_at "xs"
  refine ⟨a, outS st paid, P, helpedS st paid, rfl, c3, SqL.of (by rw [z3, hide_out nPF]; exact hP3), by rw [z3]; omega, fun i => ?_, fun H4 o4 c4 => ?_⟩
  · by_cases hi : i < st.size
    · rw [outS_get hi]
      have h1 := wf.fl i hi
      have h2 := wf.cnt
      split
      · show ((st.get i).fl ++ [0]).length ≤ 1000
        rw [List.length_append, List.length_singleton]; omega
      · omega
    · have : (outS st paid).get i = {} := by
        unfold CS.get
        rw [List.getD_eq_getElem?_getD, List.getElem?_eq_none (by show (outS st paid).size ≤ i; rw [z3]; omega)]; rfl
      rw [this]; decide
  rw [z3] at o4 ⊢
  have c4 : CirAt K H4 a (payS st paid) := c4
  have ec : coinsS (outS st paid) st.size = payCoins st paid := rfl
  rw [ec]
  have po := pay_ok (paid := paid) wf
  have o04 := (o02.trans o3).trans o4
  have hF4 := o4 _ _ nFF hF3
  have hP4 := o4 _ _ nPF hP3
  have k' := k
  unfold closeS repS at k'
  have e1 : (payS st paid).stake = st.stake := payS_stake
  have e2 : (payS st paid).now = st.now := payS_now
  have e3 : (payS st paid).chest = st.chest := payS_chest
  have z4 : (payS st paid).size = st.size := po.size
  generalize payS st paid = s at c4 po k' e1 e2 e3 z4
  generalize payCoins st paid = coins at k' ⊢
  generalize fallenS st paid = fl at k' hF4 ⊢
  generalize helpedS st paid = hl at k' hP4 ⊢
  clear hF3 hP3 hF2 hF hP eF eP ec
  have free : ∀ {H' : Hp} {s' : CS} {x : Addr}, Off (cirFoot a st.size) H H' → CirAt K H' a s' → s'.size = st.size → H' x = none → H x = none := fun {H' s' x} o c z n => by
    cases e : H x with
    | none => rfl
    | some o' =>
      by_cases h : x ∈ cirFoot a st.size
      · have := c.fresh n
        rw [z] at this
        exact absurd h this
      · rw [o x o' h e] at n; cases n
  walk_at "xs"
  refine x_cut (fun σ H' => ∃ (r t1 t2 : Addr) (u6 u9 u10 : Option V) (s' : CS) (x : Rep), σ = [some (.ref (a 0)), some (.ref p), some (.ref b), some (.int st.now), some (.ref F), some (.ref P), u6, some (.int coins), some (.ref r), u9, u10] ∧ H r = none ∧ H t1 = none ∧ H t2 = none ∧ Off (cirFoot a st.size) H H' ∧ CirAt K H' a s' ∧ s'.size = st.size ∧ RepAt H' r t1 t2 x ∧ s'.now = st.now ∧ (∀ H'', Off (cirFoot a st.size) H H'' → CirAt K H'' a { s' with now := st.now + 1 } → RepAt H'' r t1 t2 x → Q (.ref r) H'')) ?_ ?_
  · walk_at "xs"
    walk_at "if"
    · rename_i cd
      have cd' : 0 < s.due := by omega
      rw [if_pos cd', if_pos cd'] at k'
      walk_at "xs"
      refine c_aug c4 (v := .int s.due) (by decide +kernel) rfl ?_
      walk_at "xs"
      refine x_rSubL ?_
      refine w_due c4 (z := s.due - 1) z4 (by omega) fun H5 s5 o5 c5 z5 e5 => ?_
      walk_at "xs"
      refine c_aug c5 (v := .int s5.chest) (by decide +kernel) rfl ?_
      walk_at "xs"
      refine x_rAddL ?_
      refine w_chest c5 z5 fun H6 s6 o6 c6 z6 e6 => ?_
      have o06 := (o04.trans o5).trans o6
      have hF6 := o6 _ _ nFF (o5 _ _ nFF hF4)
      have hP6 := o6 _ _ nPF (o5 _ _ nPF hP4)
      walk_at "xs"
      refine al_list (SqL.of hF6) fun t1 H7 n1 q7 h7 => ?_
      walk_at "xs"
      refine al_list (SqL.of (q7 _ _ hP6)) fun t2 H8 n2 q8 h8 => ?_
      walk_at "xs"
      refine al_tup fun r H9 nr q9 h9 => ?_
      have c7 := c6.same q7
      have c8 := c7.same q8
      have o07 := o06.trans (Off.of q7)
      have o08 := o07.trans (Off.of q8)
      have f1 := free o06 c6 z6 n1
      have f2 := free o07 c7 z6 n2
      have f3 := free o08 c8 z6 nr
      refine ⟨r, t1, t2, _, _, _, s6, ⟨st.now, false, -1, coins, 0, fl, hl⟩, rfl, f3, f1, f2, o08.trans (Off.of q9), c8.same q9, z6, ⟨h9, q9 _ _ (q8 _ _ h7), q9 _ _ h8, ne_of_none h7 n2⟩, by rw [e6, e5]; exact e2, fun H'' oo cc rr => k' r t1 t2 H'' f3 f1 f2 oo ?_ rr⟩
      have : ({ s6 with now := st.now + 1 } : CS) = { s with due := s.due - 1, chest := st.chest + coins, now := st.now + 1 } := by
        rw [e6, e5]
        simp only [e3]
      rw [← this]; exact cc
    · rename_i cd
      have cd' : ¬ 0 < s.due := by omega
      rw [if_neg cd', if_neg cd'] at k'
      have lne : s.line ≠ [] := fun z => by
        have := po.cnt
        rw [z] at this
        simp at this
        omega
      walk_at "xs"
      walk_at "me"
      walk_at "xs"
      refine ⟨a, s, b, bids, rfl, c4, hide_same.seq (o04.hide.seq hb), by omega, fun i hi => ?_, lne, by omega, by omega, by omega, fun i hi _ => ?_, fun w H5 nw o5 c5 hw => ?_⟩
      · have := (po.mem i).mp hi
        rw [z4]; exact this
      · have := po.fl i (by omega)
        intro z
        rw [z] at this
        have := wf.now1
        simp at *
        omega
      rw [z4] at o5
      have z5 : (drawS s bids).size = st.size := by
        unfold drawS
        show (List.mapIdx _ _).length = _
        rw [List.length_mapIdx]; exact z4
      have ch5 : (drawS s bids).chest = st.chest := e3
      have st5 : (drawS s bids).stake = st.stake := e1
      have nw5 : (drawS s bids).now = st.now := e2
      generalize drawS s bids = s5 at c5 z5 ch5 st5 nw5 k'
      refine x_gtup (SqT.of hw) rfl ?_
      generalize (winnerS s bids).1 = here at k' ⊢
      generalize gotB s bids = got at k' ⊢
      generalize shareB s bids = share at k' ⊢
      walk_at "xs"
      refine c_aug c5 (v := .int s5.chest) (by decide +kernel) rfl ?_
      walk_at "xs"
      refine x_rAddL ?_
      refine w_chest c5 z5 fun H6 s6 o6 c6 z6 e6 => ?_
      have o06 := (o04.trans o5).trans o6
      have hF6 := o6 _ _ nFF (o5 _ _ nFF hF4)
      have hP6 := o6 _ _ nPF (o5 _ _ nPF hP4)
      walk_at "xs"
      refine al_list (SqL.of hF6) fun t1 H7 n1 q7 h7 => ?_
      walk_at "xs"
      refine al_list (SqL.of (q7 _ _ hP6)) fun t2 H8 n2 q8 h8 => ?_
      walk_at "xs"
      refine al_tup fun r H9 nr q9 h9 => ?_
      have c7 := c6.same q7
      have c8 := c7.same q8
      have o07 := o06.trans (Off.of q7)
      have o08 := o07.trans (Off.of q8)
      have f1 := free o06 c6 z6 n1
      have f2 := free o07 c7 z6 n2
      have f3 := free o08 c8 z6 nr
      refine ⟨r, t1, t2, _, _, _, s6, ⟨st.now, true, here, got, share, fl, hl⟩, rfl, f3, f1, f2, o08.trans (Off.of q9), c8.same q9, z6, ⟨h9, q9 _ _ (q8 _ _ h7), q9 _ _ h8, ne_of_none h7 n2⟩, by rw [e6]; exact nw5, fun H'' oo cc rr => k' r t1 t2 H'' f3 f1 f2 oo ?_ rr⟩
      have : ({ s6 with now := st.now + 1 } : CS) = { s5 with chest := st.chest + (coins - st.stake * (st.size : Int)), now := st.now + 1 } := by
        rw [e6, ← st5, ← z5, ← ch5]
      rw [← this]; exact cc
  rintro _ H5 ⟨r, t1, t2, u6, u9, u10, s', x, rfl, nr, n1, n2', o5, c5, z5, rep, nw, fin⟩
  walk_at "xs"
  refine c_aug c5 (v := .int s'.now) (by decide +kernel) rfl ?_
  walk_at "xs"
  refine x_rAddL ?_
  refine w_now c5 (z := st.now + 1) z5 (by omega) fun H6 s6 o6 c6 z6 e6 => ?_
  walk_at "xs"
  have out : ∀ {y : Addr}, H y = none → y ∉ cirFoot a st.size := fun {y} n => hc.fresh n
  refine fin H6 (o5.trans o6) (by rw [← e6]; exact c6) ⟨o6 _ _ (out nr) rep.r, o6 _ _ (out n1) rep.f, o6 _ _ (out n2') rep.h, rep.ne⟩

end Su
namespace Su
open PySem L2
local macro_rules | `(tactic| walk_at "side") => `(tactic| first | assumption | (show (0 : Int) < _; omega) | (show (0 : Int) ≤ _; omega) | (show (0 : Int) < _; split <;> omega) | (show _ ∨ _; omega) | (show _ ∧ _; omega) | exact ⟨by decide, by decide, by decide⟩ | exact ⟨by first | assumption | omega, by first | assumption | omega⟩)
local macro_rules | `(tactic| walk_at "x") => `(tactic| first | with_reducible refine Su.x_seq ?_ | with_reducible refine Su.x_asg ?_ | with_reducible refine Su.x_gname ?_ | with_reducible refine Su.x_drop ?_ | with_reducible refine Su.x_ret ?_ | ((with_reducible show L2.tVar _ _ _ _); refine Su.x_var rfl ?_) | with_reducible refine Su.x_c ?_ | with_reducible refine Su.x_op ?_ | with_reducible refine Su.x_rI0 ?_ | ((with_reducible refine Su.x_rI ?_ ?_); focus walk_at "side") | with_reducible refine Su.x_nil ?_ | with_reducible refine Su.x_cons ?_ | with_reducible refine Su.x_lst ?_ | with_reducible refine Su.x_bmL ?_ | with_reducible refine Su.x_for ?_ | with_reducible refine Su.x_iRng1 ?_)
local macro_rules | `(tactic| walk_at "xs") => `(tactic| repeat walk_at "x")
local macro_rules | `(tactic| walk_at "if") => `(tactic| first | with_reducible refine Su.x_iteD (fun c => ?_) (fun c => ?_) | with_reducible refine Su.x_iteN (fun c => ?_) (fun c => ?_) | with_reducible refine Su.x_ite (fun c => ?_) (fun c => ?_))

/-! _law_perm: a drawn order -/
theorem ins_perm {l : List Nat} {x k : Nat} : (l.take k ++ [x] ++ l.drop k).Perm (l ++ [x]) := by
  have h : (l.take k ++ [x] ++ l.drop k).Perm (l.take k ++ (l.drop k ++ [x])) := by
    rw [List.append_assoc]
    exact List.Perm.append_left _ (List.perm_append_comm)
  rw [← List.append_assoc, List.take_append_drop] at h
  exact h
theorem nI_ins {l : List Nat} {x k : Nat} : (nI l).take k ++ [V.int (x : Int)] ++ (nI l).drop k = nI (l.take k ++ [x] ++ l.drop k) := by
  unfold nI
  rw [List.map_append, List.map_append, List.map_take, List.map_drop]
  rfl
def sp_law_perm (K : PySem.W.Frag) : Sp := fun vs H Q _ => ∃ (a : Addr) (rows : List Int) (n : Nat), vs = [.ref a, .int n] ∧ SqL K H a (rows.map V.int) ∧ n ≤ 1000 ∧ n ≤ rows.length ∧
  ∀ (p : Addr) (row : List Nat) (H' : Hp), H p = none → Same H H' → H' p = some (.lst (nI row)) → row.Perm (List.range n) → Q (.ref p) H'
abbrev N_law_perm : List Str := ["_law_some", "_law_size", "_law_row", "_law_at"]
def t_law_perm (K : PySem.W.Frag) : TS :=
 (tSeq (tAsg (tLst tNil) (gName 2))
 (tSeq (tFor (iRng1 (tCons (tVar 1) tNil)) (gName 3)
 (tDrop (tBM K "list" rInsert (tVar 2) (tCons (tOp rMod (tOp (rIxL K) (tVar 0) (tVar 3)) (tOp rAdd (tVar 3) (tC (.int 1)))) (tCons (tVar 3) tNil)))))
 (tRet (tVar 2))))

theorem len_law_perm {K : PySem.W.Frag} : ∀ vs H Q E, sp_law_perm K vs H Q E → vs.length = ["a", "b"].length := by
  rintro vs H Q E ⟨_, _, _, rfl, _⟩; rfl
theorem pure_law_perm {K : PySem.W.Frag} {vs : List V} {H : Hp} {Q : VK} {E : XK} (h : sp_law_perm K vs H Q E) : t_law_perm K { nx := fun _ H' => Q .non H', rt := Q } (start N_law_perm vs) H := by
  obtain ⟨a, rows, n, rfl, hS, n1, hl, k⟩ := h
  unfold t_law_perm
  walk_at "xs"
  refine al_lst fun p H1 np s1 hp => ?_
  walk_at "xs"
  refine ⟨n, rfl, by omega, by omega, for_by turnsR (fun i σ H' => ∃ (row : List Nat) (u : Option V), σ = [some (.ref a), some (.int n), some (.ref p), u] ∧ Same H H' ∧ H' p = some (.lst (nI row)) ∧ row.Perm (List.range i))
    ⟨[], none, rfl, s1, hp, .nil⟩ (fun _ _ _ _ _ => trivial) ?_ ?_⟩
  · rintro i y σ H2 _ hi ⟨row, u, rfl, s2, hp2, pm⟩ ⟨rfl, rfl⟩
    have hi' : i < n := hi
    have hlen : row.length = i := by rw [pm.length_eq, List.length_range]
    rw [show (0 : Int) + (i : Int) = (i : Int) by omega]
    walk_at "xs"
    refine ⟨tyL (SqL.of hp2), ?_⟩
    walk_at "xs"
    refine x_ixL (s2.seq hS) (at_getI (by omega) (by omega)) ?_
    generalize rows.getD (i : Int).toNat 0 = r
    have b1 := Int.emod_nonneg r (show (i : Int) + 1 ≠ 0 by omega)
    have b2 := Int.emod_lt_of_pos r (show (0 : Int) < (i : Int) + 1 by omega)
    walk_at "xs"
    refine x_insert hp2 (small (by rw [nI_len]; omega)) b1 (by omega) ?_
    refine ⟨row.take (r % ((i : Int) + 1)).toNat ++ [i] ++ row.drop (r % ((i : Int) + 1)).toNat, _, rfl, same_upd s2 np, by rw [upd_same, nI_ins], ?_⟩
    rw [List.range_succ]
    exact ins_perm.trans (pm.append_right _)
  · rintro σ H2 ⟨row, u, rfl, s2, hp2, pm⟩
    walk_at "xs"
    exact k p row H2 np s2 hp2 pm

end Su
namespace Su
open PySem L2
local macro_rules | `(tactic| walk_at "side") => `(tactic| first | assumption | (show (0 : Int) < _; omega) | (show (0 : Int) ≤ _; omega) | (show (0 : Int) < _; split <;> omega) | (show _ ∨ _; omega) | (show _ ∧ _; omega) | exact ⟨by decide, by decide, by decide⟩ | exact ⟨by first | assumption | omega, by first | assumption | omega⟩)
local macro_rules | `(tactic| walk_at "x") => `(tactic| first | with_reducible refine Su.x_seq ?_ | with_reducible refine Su.x_gname ?_ | with_reducible refine Su.x_ret ?_ | with_reducible refine Su.x_ifS ?_ | ((with_reducible show L2.tVar _ _ _ _); refine Su.x_var rfl ?_) | with_reducible refine Su.x_c ?_ | with_reducible refine Su.x_op ?_ | with_reducible refine Su.x_rI0 ?_ | with_reducible refine Su.x_iteT ?_ | with_reducible refine Su.x_iteNF ?_ | with_reducible refine Su.x_neI ?_ | with_reducible refine Su.x_test ?_ | with_reducible refine Su.x_isB' ?_ | with_reducible refine Su.x_not ?_ | with_reducible refine Su.x_or ?_ | with_reducible refine Su.x_chain ?_ | with_reducible refine Su.x_nil ?_ | with_reducible refine Su.x_cons ?_ | with_reducible refine Su.x_cb ?_ | with_reducible refine Su.x_next ?_ | with_reducible refine Su.x_for ?_ | with_reducible refine Su.x_iEnum ?_ | with_reducible refine Su.x_gcons ?_ | with_reducible refine Su.x_gnil ?_ | with_reducible refine Su.x_isI ?_ | with_reducible refine Su.x_lstRg ?_ | with_reducible refine Su.x_rg1 ?_)
local macro_rules | `(tactic| walk_at "xs") => `(tactic| repeat walk_at "x")
local macro_rules | `(tactic| walk_at "if") => `(tactic| first | with_reducible refine Su.x_iteD (fun c => ?_) (fun c => ?_) | with_reducible refine Su.x_iteN (fun c => ?_) (fun c => ?_) | with_reducible refine Su.x_ite (fun c => ?_) (fun c => ?_))

/-! _law_keeps: is a row of numbers an order of the windows -/
theorem order_of_perm {ws : List (Int × Int)} {r : List Nat} (pm : r.Perm (List.range ws.length)) (fit : ∀ k (h : k < r.length), w1 ws r[k] ≤ (k : Int) + 1 ∧ (k : Int) + 1 ≤ w2 ws r[k]) : IsOrder ws r :=
  ⟨by rw [pm.length_eq, List.length_range], pm.nodup_iff.mpr List.nodup_range, fun x hx => List.mem_range.mp (pm.mem_iff.mp hx), fit⟩
theorem perm_of_order {ws : List (Int × Int)} {r : List Nat} (o : IsOrder ws r) : r.Perm (List.range ws.length) := by
  rw [List.perm_ext_iff_of_nodup o.nd List.nodup_range]
  intro a
  rw [List.mem_range]
  exact ⟨o.lt a, fun h => nodup_all o.nd o.len o.lt h⟩
end Su
namespace Su
open PySem L2
local macro_rules | `(tactic| walk_at "side") => `(tactic| first | assumption | (show (0 : Int) < _; omega) | (show (0 : Int) ≤ _; omega) | (show (0 : Int) < _; split <;> omega) | (show _ ∨ _; omega) | (show _ ∧ _; omega) | exact ⟨by decide, by decide, by decide⟩ | exact ⟨by first | assumption | omega, by first | assumption | omega⟩)
local macro_rules | `(tactic| walk_at "xs") => `(tactic| repeat walk_at "x")
local macro_rules | `(tactic| walk_at "if") => `(tactic| first | with_reducible refine Su.x_iteD (fun c => ?_) (fun c => ?_) | with_reducible refine Su.x_iteN (fun c => ?_) (fun c => ?_) | with_reducible refine Su.x_ite (fun c => ?_) (fun c => ?_))

/-! papers as data -/
end Su
namespace Su
open PySem L2
local macro_rules | `(tactic| walk_at "side") => `(tactic| first | assumption | (show (0 : Int) < _; omega) | (show (0 : Int) ≤ _; omega) | (show (0 : Int) < _; split <;> omega) | (show _ ∨ _; omega) | (show _ ∧ _; omega) | exact ⟨by decide, by decide, by decide⟩ | exact ⟨by first | assumption | omega, by first | assumption | omega⟩)
local macro_rules | `(tactic| walk_at "xs") => `(tactic| repeat walk_at "x")
local macro_rules | `(tactic| walk_at "if") => `(tactic| first | with_reducible refine Su.x_iteD (fun c => ?_) (fun c => ?_) | with_reducible refine Su.x_iteN (fun c => ?_) (fun c => ?_) | with_reducible refine Su.x_ite (fun c => ?_) (fun c => ?_))

/-! windows around a drawn order -/
def Planted (ws : List (Int × Int)) (row : List Nat) (i : Nat) : Prop := ∀ j (h : j < row.length), j < i → w1 ws row[j] ≤ (j : Int) + 1 ∧ (j : Int) + 1 ≤ w2 ws row[j]
theorem nodup_ne {row : List Nat} (nd : row.Nodup) {i j : Nat} (hi : i < row.length) (hj : j < row.length) (h : i ≠ j) : row[i] ≠ row[j] := by
  have p := List.nodup_iff_pairwise_ne.mp nd
  rw [List.pairwise_iff_getElem] at p
  rcases Nat.lt_or_gt_of_ne h with q | q
  · exact p i j hi hj q
  · exact (p j i hj hi q).symm
theorem planted_order {ws : List (Int × Int)} {row : List Nat} (pm : row.Perm (List.range ws.length)) (p : Planted ws row row.length) : IsOrder ws row := order_of_perm pm fun k h => p k h h
theorem planted_told {ws : List (Int × Int)} {row : List Nat} (ok : WinOk ws.length ws) (o : IsOrder ws row) : ∃ r, paperOf ws = .order r ∧ IsOrder ws r := by
  have g := paper_good ok
  cases e : paperOf ws with
  | order r => rw [e] at g; exact ⟨r, rfl, g⟩
  | bar a b c => rw [e] at g; exact (no_both o g).elim

end Su
namespace Su
open PySem L2
local macro_rules | `(tactic| walk_at "side") => `(tactic| first | assumption | (show (0 : Int) < _; omega) | (show (0 : Int) ≤ _; omega) | (show (0 : Int) < _; split <;> omega) | (show _ ∨ _; omega) | (show _ ∧ _; omega) | exact ⟨by decide, by decide, by decide⟩ | exact ⟨by first | assumption | omega, by first | assumption | omega⟩)
local macro_rules | `(tactic| walk_at "xs") => `(tactic| repeat walk_at "x")
local macro_rules | `(tactic| walk_at "if") => `(tactic| first | with_reducible refine Su.x_iteD (fun c => ?_) (fun c => ?_) | with_reducible refine Su.x_iteN (fun c => ?_) (fun c => ?_) | with_reducible refine Su.x_ite (fun c => ?_) (fun c => ?_))

/-! a comprehension of new empty lists -/
structure Empties (H1 : Hp) (A : Addr) (i : Nat) (H : Hp) : Prop where
  s : Same H1 H
  ex : ∃ fr : List Addr, H A = some (.lst (fr.map V.ref)) ∧ fr.length = i ∧ fr.Nodup ∧ ∀ q ∈ fr, H1 q = none ∧ q ≠ A ∧ H q = some (.lst [])
theorem Empties.step {H1 H H' : Hp} {A p : Addr} {i : Nat} (h : Empties H1 A i H) (nA : H1 A = none) (np : H p = none) (s : Same H H') (e : H' p = some (.lst [])) (hi : i ≤ 100000) : ∃ acc, H' A = some (.lst acc) ∧ acc.length < sizeLine ∧ Empties H1 A (i + 1) (upd H' A (.lst (acc ++ [.ref p]))) := by
  obtain ⟨fr, h1, h2, h3, h4⟩ := h.ex
  have npA : p ≠ A := fun z => by subst z; rw [h1] at np; cases np
  refine ⟨fr.map V.ref, s _ _ h1, small (by rw [List.length_map]; omega), same_upd (h.s.trans s) nA, fr ++ [p], by rw [upd_same, List.map_append]; rfl, by rw [List.length_append, h2]; rfl, ?_, fun q hq => ?_⟩
  · rw [List.nodup_append]
    refine ⟨h3, by simp, fun x hx y hy exy => ?_⟩
    rw [List.mem_singleton] at hy
    subst hy; subst exy
    rw [(h4 x hx).2.2] at np; cases np
  · rcases List.mem_append.mp hq with hq | hq
    · have := h4 q hq
      exact ⟨this.1, this.2.1, by rw [upd_ne this.2.1]; exact s _ _ this.2.2⟩
    · cases List.mem_singleton.mp hq
      exact ⟨h.s.free np, npA, by rw [upd_ne npA]; exact e⟩
/-! an object that is being made -/
theorem putF_new {f : Str} {v : V} : ∀ {fs : List (Str × V)}, f ∉ fs.map (·.1) → putF f v fs = fs ++ [(f, v)]
  | [], _ => rfl
  | (g, x) :: r, h => by
    simp only [List.map_cons, List.mem_cons, not_or] at h
    show (if g = f then (g, v) :: r else (g, x) :: putF f v r) = _
    rw [if_neg (fun e => h.1 e.symm), putF_new h.2]; rfl
structure Bld (K : PySem.W.Frag) (cn : Str) (names : List Str) (H0 H : Hp) (x dx : Addr) (ks : List Str) (fs : List (Str × V)) (cs : List (Addr × HO)) : Prop where
  t : ClsT K cn names
  hx : H x = some (.ins (He.ga K cn) dx fs)
  hd : H dx = some (.own x)
  ndx : dx ≠ x
  off : Off [x] H0 H
  hc : Cells H cs
  nx : ∀ p ∈ cs, p.1 ≠ x ∧ p.1 ≠ dx ∧ H0 p.1 = none
  nd : (cs.map (·.1)).Nodup
  hk : fs.map (·.1) = ks
  sm : ∀ b, b ≠ x → H0 b ≠ none → H b = H0 b
section
variable {K : PySem.W.Frag} {cn : Str} {names : List Str} {H0 H H' : Hp} {x dx p : Addr} {ks : List Str} {fs : List (Str × V)} {cs : List (Addr × HO)} {f : Str} {v : V} {o : HO}
theorem Bld.same (B : Bld K cn names H0 H x dx ks fs cs) (s : Same H H') : Bld K cn names H0 H' x dx ks fs cs :=
  ⟨B.t, s _ _ B.hx, s _ _ B.hd, B.ndx, B.off.trans (Off.of s), B.hc.same s, B.nx, B.nd, B.hk, fun b hb h0 => by
    cases e : H0 b with
    | none => exact absurd e h0
    | some o => exact s b o (B.off b o (by simpa using hb) e)⟩
theorem Bld.free (B : Bld K cn names H0 H x dx ks fs cs) (n : H p = none) : H0 p = none ∧ p ≠ x ∧ p ≠ dx ∧ p ∉ cs.map (·.1) := by
  have n1 : p ≠ x := fun e => by subst e; rw [B.hx] at n; cases n
  refine ⟨?_, n1, (fun e => by subst e; rw [B.hd] at n; cases n), B.hc.fresh n⟩
  cases e : H0 p with
  | none => rfl
  | some o => rw [B.off p o (by simpa using n1) e] at n; cases n
theorem Bld.new (B : Bld K cn names H0 H x dx ks fs cs) (n : H p = none) (s : Same H H') (e : H' p = some o) : Bld K cn names H0 H' x dx ks fs (cs ++ [(p, o)]) := by
  have B' := B.same s
  obtain ⟨h1, h2, h3, h4⟩ := B.free n
  refine ⟨B.t, B'.hx, B'.hd, B.ndx, B'.off, B'.hc.app (Cells.cons e Cells.nil), fun q hq => ?_, ?_, B.hk, B'.sm⟩
  · rcases List.mem_append.mp hq with hq | hq
    · exact B.nx q hq
    · cases List.mem_singleton.mp hq; exact ⟨h2, h3, h1⟩
  · rw [List.map_append, List.nodup_append]
    exact ⟨B.nd, by simp, fun a ha b hb eab => h4 (by simp at hb; subst hb; subst eab; exact ha)⟩
/-- a list of new lists -/
theorem Bld.fam {A : Addr} {fr : List Addr} (B : Bld K cn names H0 H x dx ks fs cs) (n : H A = none) (s : Same H H') (e : H' A = some o) (nd : fr.Nodup) (h : ∀ q ∈ fr, H q = none ∧ q ≠ A ∧ H' q = some (.lst [])) :
    Bld K cn names H0 H' x dx ks fs (cs ++ [(A, o)] ++ fr.map fun q => (q, .lst [])) ∧ fr.Nodup := by
  refine ⟨?_, nd⟩
  have B1 := B.new n s e
  have fr' : ∀ q ∈ fr, H0 q = none ∧ q ≠ x ∧ q ≠ dx ∧ q ∉ cs.map (·.1) := fun q hq => B.free (h q hq).1
  refine ⟨B.t, B1.hx, B1.hd, B.ndx, B1.off, B1.hc.app fun q hq => ?_, fun q hq => ?_, ?_, B.hk, B1.sm⟩
  · obtain ⟨z, hz, rfl⟩ := List.mem_map.mp hq
    exact (h z hz).2.2
  · rcases List.mem_append.mp hq with hq | hq
    · exact B1.nx q hq
    · obtain ⟨z, hz, rfl⟩ := List.mem_map.mp hq
      have := fr' z hz
      exact ⟨this.2.1, this.2.2.1, this.1⟩
  · rw [List.map_append, List.nodup_append]
    refine ⟨B1.nd, ?_, fun a ha b hb e => ?_⟩
    · rw [List.map_map]
      show (fr.map id).Nodup
      rw [List.map_id]; exact nd
    · rw [List.map_map] at hb
      have hb : b ∈ fr.map id := hb
      rw [List.map_id] at hb
      subst e
      rw [List.map_append] at ha
      rcases List.mem_append.mp ha with ha | ha
      · exact (fr' a hb).2.2.2 ha
      · simp at ha; exact (h a hb).2.1 ha
theorem Bld.set {Qh : Hp → Prop} (B : Bld K cn names H0 H x dx ks fs cs) (hf : f ∉ ks) (m : f ∈ names) (hl : ks.length < 1000) (q : ∀ H', Bld K cn names H0 H' x dx (ks ++ [f]) (fs ++ [(f, v)]) cs → (∀ b, b ≠ x → H' b = H b) → Qh H') :
    ∃ a C dx fs, V.ref x = .ref a ∧ H a = some (.ins C dx fs) ∧ Cls K C ∧ NoAttr K C f ∧ fs.length < 1000 ∧ Qh (upd H a (.ins C dx (putF f v fs))) := by
  have hl' : fs.length < 1000 := by rw [← List.length_map (f := (·.1)), B.hk]; exact hl
  refine ⟨x, _, dx, fs, rfl, B.hx, B.t.cl, B.t.no.get m, hl', q _ ?_ fun b hb => upd_ne hb⟩
  rw [putF_new (by rw [B.hk]; exact hf)]
  refine ⟨B.t, upd_same, by rw [upd_ne B.ndx]; exact B.hd, B.ndx, B.off.upd (by simp), B.hc.upd fun z => ?_, B.nx, B.nd, by rw [List.map_append, B.hk]; rfl, fun b hb h0 => by rw [upd_ne hb]; exact B.sm b hb h0⟩
  obtain ⟨q, hq, e⟩ := List.mem_map.mp z
  exact (B.nx q hq).1 e
end

end Su
namespace Su
open PySem L2
local macro_rules | `(tactic| walk_at "side") => `(tactic| first | assumption | (show (0 : Int) < _; omega) | (show (0 : Int) ≤ _; omega) | (show (0 : Int) < _; split <;> omega) | (show _ ∨ _; omega) | (show _ ∧ _; omega) | exact ⟨by decide, by decide, by decide⟩ | exact ⟨by first | assumption | omega, by first | assumption | omega⟩)
local macro_rules | `(tactic| walk_at "x") => `(tactic| first | with_reducible refine Su.x_seq ?_ | with_reducible refine Su.x_asg ?_ | with_reducible refine Su.x_gname ?_ | with_reducible refine Su.x_drop ?_ | with_reducible refine Su.x_ifS ?_ | ((with_reducible show L2.tVar _ _ _ _); refine Su.x_var rfl ?_) | with_reducible refine Su.x_c ?_ | with_reducible refine Su.x_op ?_ | with_reducible refine Su.x_iteT ?_ | with_reducible refine Su.x_eqS ?_ | with_reducible refine Su.x_test ?_ | with_reducible refine Su.x_isB' ?_ | with_reducible refine Su.x_nil ?_ | with_reducible refine Su.x_cons ?_ | with_reducible refine Su.x_cb ?_ | with_reducible refine Su.x_call ?_ | with_reducible refine Su.x_lst ?_ | with_reducible refine Su.x_tup ?_ | with_reducible refine Su.x_next ?_ | with_reducible refine Su.x_iRng1 ?_ | with_reducible refine Su.x_iZip ?_ | with_reducible refine Su.x_gcons ?_ | with_reducible refine Su.x_gnil ?_ | with_reducible refine Su.x_yes ?_ | with_reducible refine Su.x_lc ?_)
local macro_rules | `(tactic| walk_at "xs") => `(tactic| repeat walk_at "x")
local macro_rules | `(tactic| walk_at "if") => `(tactic| first | with_reducible refine Su.x_iteD (fun c => ?_) (fun c => ?_) | with_reducible refine Su.x_iteN (fun c => ?_) (fun c => ?_) | with_reducible refine Su.x_ite (fun c => ?_) (fun c => ?_))
local macro_rules | `(tactic| walk_at "at") => `(tactic| first | assumption | (refine Su.f_at (by assumption) ?_; walk_at "at"))
local macro_rules | `(tactic| walk_at "sm") => `(tactic| first | assumption | exact L2.Same.refl _ | (refine Su.f_tr (by assumption) ?_; walk_at "sm"))
local macro_rules | `(tactic| walk_at "hp") => `(tactic| first | assumption | ((with_reducible refine Su.f_sqL ?_); walk_at "at") | ((with_reducible refine Su.f_sqT ?_); walk_at "at") | ((with_reducible show L2.Same _ _); walk_at "sm") | ((with_reducible show _ = none); refine Su.f_free ?_ (by assumption); walk_at "sm") | ((with_reducible show _ = some _); walk_at "at") | (refine Su.f_dp (by assumption) ?_; walk_at "hp") | (refine Su.f_dpA (by assumption) ?_; walk_at "hp") | (refine Su.f_sqLs (by assumption) ?_; walk_at "hp") | (refine Su.f_sqTs (by assumption) ?_; walk_at "hp"))
local macro_rules | `(tactic| walk_at "x") => `(tactic| first | with_reducible refine Su.x_sfld ?_)
local macro_rules | `(tactic| walk_at "me") => `(tactic| first | refine Su.c_meth (by assumption) rfl ?_ | refine Su.so_meth (by assumption) rfl ?_)

def openWin (s : Int) (pl ws : List Int) : List (Int × Int) := List.zipWith (fun p w => (firstCov s pl.length p, w)) pl ws
def openS (s : Int) (b : Bool) (pl : List Int) (row : List Nat) : CS := { stake := s, bidding := b, now := 1, line := row, due := 0, chest := 0, seats := pl.map fun p => { pl := p } }
theorem openWin_at {s : Int} {pl ws : List Int} (i : Nat) (h1 : i < pl.length) (h2 : i < ws.length) : (openWin s pl ws)[i]? = some (firstCov s pl.length pl[i], ws[i]) := by
  unfold openWin
  rw [List.getElem?_zipWith, List.getElem?_eq_getElem h1, List.getElem?_eq_getElem h2]
theorem firstCov_in {s n p : Int} (hs : 0 < s) (hn : 1 ≤ n) (hp : 0 ≤ p) : 1 ≤ firstCov s n p ∧ firstCov s n p ≤ n := by
  unfold firstCov
  have := Int.ediv_nonneg hp (Int.le_of_lt hs)
  split <;> omega
theorem openWin_ok {s : Int} {pl ws : List Int} (ok : OpenOk s pl ws) : WinOk (openWin s pl ws).length (openWin s pl ws) := by
  have n1 := ok.n1
  have nw := ok.nw
  have l : (openWin s pl ws).length = pl.length := by unfold openWin; rw [List.length_zipWith]; omega
  rw [l]
  intro x hx
  obtain ⟨i, hi, e⟩ := List.getElem_of_mem hx
  have e' : (openWin s pl ws)[i]? = some x := by rw [List.getElem?_eq_getElem hi, e]
  rw [l] at hi
  rw [openWin_at i hi (by omega)] at e'
  cases e'
  have h1 := firstCov_in (s := s) (n := pl.length) (p := pl[i]) (by have := ok.s1; omega) (by omega) (ok.p _ (List.getElem_mem _)).1
  have h2 := ok.w ws[i] (List.getElem_mem _)
  exact ⟨h1.1, h1.2, h2.1, h2.2⟩
def sp_Circle_init (K : PySem.W.Frag) : Sp := fun vs H Q E => ∃ (x dx : Addr) (s : Int) (p w : Addr) (pl ws : List Int) (b : Bool), vs = [.ref x, .int s, .ref p, .ref w, .bl b] ∧ ClsT K "Circle" cirNames ∧ H x = some (.ins (He.ga K "Circle") dx []) ∧ H dx = some (.own x) ∧ dx ≠ x ∧ SqL K (hide [x] H) p (pl.map V.int) ∧ SqL K (hide [x] H) w (ws.map V.int) ∧ (¬ OpenOk s pl ws → E (.ref (He.ga K "BadNumber")) none H) ∧ (OpenOk s pl ws → (∀ e l cr, paperOf (openWin s pl ws) = .bar e l cr → ∀ d H', NoOrd H H' d e l cr → E (.ref (He.ga K "NoOrder")) (some d) H') ∧ ∀ row, paperOf (openWin s pl ws) = .order row → ∀ a H', a 0 = x → a 1 = dx → (∀ j, 2 ≤ j → j < 11 + pl.length → H (a j) = none) → Off [x] H H' → CirAt K H' a (openS s b pl row) → Q .non H')
abbrev N_Circle_init : List Str := ["self", "stake", "pledges", "wishes", "bidding", "size", "windows", "paper", "coins", "wish", "at"]
def t_Circle_init (K : PySem.W.Frag) (E : XK) : TS :=
 (tSeq (tDrop (tCall (sp_check_opening K) [] E (tCons (tVar 1) (tCons (tVar 2) (tCons (tVar 3) tNil)))))
 (tSeq (tAsg (tCB (rLenSeq K) (tCons (tVar 2) tNil)) (gName 5))
 (tSeq (tAsg (tLc (iZip K (tCons (tVar 2) (tCons (tVar 3) tNil))) (gTup K 2 (gCons (gName 8) (gCons (gName 9) gNil))) tYes (tTup (tCons (tCall (sp_first_covered K) [] E0 (tCons (tVar 1) (tCons (tVar 5) (tCons (tVar 8) tNil)))) (tCons (tVar 9) tNil))) [8, 9]) (gName 6))
 (tSeq (tAsg (tCall (sp_order_or_bar K) [] E0 (tCons (tVar 6) tNil)) (gName 7))
 (tSeq (tIfS (tTest (tOp rEq (tOp (rIxT K) (tVar 7) (tC (.int 0))) (tC (.str "bar"))))
 (tRaiseN K (sp_NoOrder_init K) (tCons (tOp (rIxT K) (tVar 7) (tC (.int 1))) (tCons (tOp (rIxT K) (tVar 7) (tC (.int 2))) (tCons (tOp (rIxT K) (tVar 7) (tC (.int 3))) tNil))) (wE E))
 tNext)
 (tSeq (sFld K (tVar 0) (tVar 1) "stake")
 (tSeq (sFld K (tVar 0) (tVar 5) "size")
 (tSeq (sFld K (tVar 0) (tVar 4) "bidding")
 (tSeq (sFld K (tVar 0) (tC (.int 1)) "now")
 (tSeq (sFld K (tVar 0) (tCB (rListOf K) (tCons (tOp (rIxT K) (tVar 7) (tC (.int 1))) tNil)) "line")
 (tSeq (sFld K (tVar 0) (tC (.int 0)) "due")
 (tSeq (sFld K (tVar 0) (tC (.int 0)) "chest")
 (tSeq (sFld K (tVar 0) (tOp rRep (tLst (tCons (tC (.str "waits")) tNil)) (tVar 5)) "state")
 (tSeq (sFld K (tVar 0) (tOp rRep (tLst (tCons (tC (.int 0)) tNil)) (tVar 5)) "when")
 (tSeq (sFld K (tVar 0) (tCB (rListOf K) (tCons (tVar 2) tNil)) "pledged")
 (tSeq (sFld K (tVar 0) (tOp rRep (tLst (tCons (tC (.int 0)) tNil)) (tVar 5)) "given")
 (tSeq (sFld K (tVar 0) (tOp rRep (tLst (tCons (tC (.int 0)) tNil)) (tVar 5)) "drawn")
 (tSeq (sFld K (tVar 0) (tOp rRep (tLst (tCons (tC (.int 0)) tNil)) (tVar 5)) "shared")
 (tSeq (sFld K (tVar 0) (tOp rRep (tLst (tCons (tC (.int 0)) tNil)) (tVar 5)) "missed")
 (sFld K (tVar 0) (tLc (iRng1 (tCons (tVar 5) tNil)) (gName 10) tYes (tLst tNil) [10]) "flows"))))))))))))))))))))

theorem len_Circle_init {K : PySem.W.Frag} : ∀ vs H Q E, sp_Circle_init K vs H Q E → vs.length = ["a", "b", "c", "d", "e"].length := by
  rintro vs H Q E ⟨_, _, _, _, _, _, _, _, rfl, _⟩; rfl
theorem pure_Circle_init {K : PySem.W.Frag} {vs : List V} {H : Hp} {Q : VK} {E : XK} (h : sp_Circle_init K vs H Q E) : t_Circle_init K E { nx := fun _ H' => Q .non H', rt := Q } (start N_Circle_init vs) H := by
  obtain ⟨x, dx, s, p, w, pl, ws, b, rfl, t, hx, hdx, nxd, hp, hw, k1, k2⟩ := h
  unfold t_Circle_init
  walk_at "xs"
  refine ⟨s, p, w, pl, ws, rfl, hide_same.seq hp, hide_same.seq hw, fun ok => ?_, k1⟩
  obtain ⟨kb, kr⟩ := k2 ok
  clear k1 k2
  have n1 := ok.n1
  have n2 := ok.n2
  have nw := ok.nw
  walk_at "xs"
  refine x_lenL (hide_same.seq hp) ?_
  rw [List.length_map]
  walk_at "xs"
  refine ⟨p, w, _, _, rfl, hide_same.seq hp, hide_same.seq hw, fun A nA => ?_⟩
  have nAx : A ≠ x := fun e => by subst e; rw [hx] at nA; cases nA
  have ow := openWin_at (s := s) (pl := pl) (ws := ws)
  refine lc_data (K := K) (fun i => ((openWin s pl ws)[i]?).map dPair) (turnsZ (K := K) (a := p) (b := w) (xs := pl.map V.int) (ys := ws.map V.int) (by rw [List.length_map, List.length_map, nw])) (fun H' q => ⟨q.seq (hide_same.seq hp), q.seq (hide_same.seq hw)⟩) nA ?_ ?_
  · rintro i v Hc Hd hi lc ⟨y, z, hy, hz, T, rfl, nT, sT, hT, _⟩
    rw [List.length_map] at hi
    rw [List.getElem?_map, List.getElem?_eq_getElem hi] at hy
    rw [List.getElem?_map, List.getElem?_eq_getElem (by omega)] at hz
    cases hy; cases hz
    refine x_gtup (SqT.of hT) rfl ?_
    walk_at "xs"
    refine x_wipe rfl ?_
    walk_at "xs"
    refine ⟨s, pl.length, pl[i], rfl, by have := ok.s1; omega, log_small (by have := ok.s1; omega) ok.s2, ?_⟩
    walk_at "xs"
    refine al_tup fun U H4 nU s4 hU => ?_
    have neA : U ≠ A := fun e => by subst e; obtain ⟨acc, hA, _⟩ := lc.ex; rw [sT _ _ hA] at nU; cases nU
    refine lc.keep nA (sT.trans s4) (d := dPair (firstCov s pl.length pl[i], ws[i])) ?_ (pair_dp (SqT.of (del_at hU neA))) (by omega)
    rw [ow i hi (by omega)]; rfl
  intro H1 acc s1 hA hD
  have owl : (openWin s pl ws).length = pl.length := by unfold openWin; rw [List.length_zipWith]; omega
  have e1 : (List.range (pl.map V.int).length).filterMap (fun i => ((openWin s pl ws)[i]?).map dPair) = (openWin s pl ws).map dPair := by
    rw [List.length_map, ← owl]; exact range_get dPair (openWin s pl ws)
  rw [e1] at hD
  have dA : Dp K H1 (.ref A) (dWin (openWin s pl ws)) := .lst (SqL.of hA) (dpAll_same del_same hD)
  walk_at "xs"
  refine ⟨_, openWin s pl ws, rfl, dA, by omega, openWin_ok ok, fun v H2 s2 pa => ?_⟩
  have hx0 := hx
  cases er : paperOf (openWin s pl ws) with
  | bar e l cr =>
    rw [er] at pa
    obtain ⟨T, L, rfl, nT, nL, hT, hL⟩ := pa
    walk_at "xs"
    refine x_ixT (SqT.of hT) (v := .str "bar") (by rfl) ?_
    walk_at "xs"
    refine x_iteD (fun _ => ?_) fun c => absurd (by decide +kernel) c
    refine x_raiseN fun nx => ?_
    walk_at "xs"
    refine x_ixT (SqT.of hT) (v := .int e) (by rfl) ?_
    walk_at "xs"
    refine x_ixT (SqT.of hT) (v := .int l) (by rfl) ?_
    walk_at "xs"
    refine x_ixT (SqT.of hT) (v := .ref L) (by rfl) ?_
    walk_at "xs"
    exact no_made (Q := fun d H' => E (.ref (nxC K)) d H') nx (SqL.of hL) fun d H' no => kb e l cr er d H' (no.low (s1.trans s2))
  | order row =>
  have k := kr row er
  clear kb kr
  rw [er] at pa
  obtain ⟨T, L, rfl, nT, nL, hT, hL⟩ := pa
  have hx2 := s2 _ _ (s1 _ _ hx)
  have hdx2 := s2 _ _ (s1 _ _ hdx)
  have nTx : T ≠ x := fun e => by subst e; rw [s1 _ _ hx] at nT; cases nT
  have hp2 : SqL K (hide [x] H2) p (pl.map V.int) := (hide_mono (s1.trans s2)).seq hp
  have o2 : Off [x] H H2 := Off.of (s1.trans s2)
  walk_at "xs"
  refine x_ixT (SqT.of hT) (v := .str "order") (by rfl) ?_
  walk_at "xs"
  refine x_iteD (fun c => absurd c (by decide +kernel)) fun _ => ?_
  walk_at "xs"
  have B0 : Bld K "Circle" cirNames H H2 x dx [] [] [] := ⟨t, hx2, hdx2, nxd, o2, Cells.nil, fun _ h => (nomatch h), List.nodup_nil, rfl, fun b hb h0 => by
    cases e : H b with
    | none => exact absurd e h0
    | some o => exact s2 _ _ (s1 _ _ e)⟩
  refine B0.set (by decide +kernel) (by decide +kernel) (by decide) fun H3 B1 f3 => ?_
  walk_at "xs"
  refine B1.set (by decide +kernel) (by decide +kernel) (by decide) fun H4 B2 f4 => ?_
  walk_at "xs"
  refine B2.set (by decide +kernel) (by decide +kernel) (by decide) fun H5 B3 f5 => ?_
  walk_at "xs"
  refine B3.set (by decide +kernel) (by decide +kernel) (by decide) fun H6 B4 f6 => ?_
  have hT6 : H6 T = some (.tup [.str "order", .ref L]) := by rw [f6 T nTx, f5 T nTx, f4 T nTx, f3 T nTx]; exact hT
  have nLx : L ≠ x := fun e => by subst e; rw [s1 _ _ hx] at nL; cases nL
  have hL6 : H6 L = some (.lst (nI row)) := by rw [f6 L nLx, f5 L nLx, f4 L nLx, f3 L nLx]; exact hL
  have hp6 : SqL K (hide [x] H6) p (pl.map V.int) := by
    have : hide [x] H6 = hide [x] H2 := by
      funext c
      by_cases z : c ∈ [x]
      · rw [hide_in z, hide_in z]
      · have z' : c ≠ x := by simpa using z
        rw [hide_out z, hide_out z, f6 c z', f5 c z', f4 c z', f3 c z']
    rw [this]; exact hp2
  walk_at "xs"
  refine x_ixT (SqT.of hT6) (v := .ref L) (by rfl) ?_
  walk_at "xs"
  refine al_list (SqL.of hL6) fun l2 H7 nl2 q7 hl2 => ?_
  have B4 := B4.new nl2 q7 hl2
  walk_at "xs"
  refine B4.set (by decide +kernel) (by decide +kernel) (by decide) fun H8 B5 f8 => ?_
  walk_at "xs"
  refine B5.set (by decide +kernel) (by decide +kernel) (by decide) fun H9 B6 f9 => ?_
  walk_at "xs"
  refine B6.set (by decide +kernel) (by decide +kernel) (by decide) fun H10 B7 f10 => ?_
  have hp10 : SqL K (hide [x] H10) p (pl.map V.int) := by
    have : hide [x] H10 = hide [x] H7 := by
      funext c
      by_cases z : c ∈ [x]
      · rw [hide_in z, hide_in z]
      · have z' : c ≠ x := by simpa using z
        rw [hide_out z, hide_out z, f10 c z', f9 c z', f8 c z']
    rw [this]; exact (hide_mono q7).seq hp6
  walk_at "xs"
  refine al_lst fun m1 H11 nm1 q11 hm1 => ?_
  walk_at "xs"
  refine al_rep hm1 (by omega) fun l3 H12 nl3 q12 hl3 _ => ?_
  have B7 := (B7.same q11).new nl3 q12 hl3
  walk_at "xs"
  refine B7.set (by decide +kernel) (by decide +kernel) (by decide) fun H13 B8 f13 => ?_
  walk_at "xs"
  refine al_lst fun m2 H14 nm2 q14 hm2 => ?_
  walk_at "xs"
  refine al_rep hm2 (by omega) fun l4 H15 nl4 q15 hl4 _ => ?_
  have B8 := (B8.same q14).new nl4 q15 hl4
  walk_at "xs"
  refine B8.set (by decide +kernel) (by decide +kernel) (by decide) fun H16 B9 f16 => ?_
  have hp16 : SqL K H16 p (pl.map V.int) := by
    have e13 : hide [x] H13 = hide [x] H12 := by
      funext c
      by_cases z : c ∈ [x]
      · rw [hide_in z, hide_in z]
      · rw [hide_out z, hide_out z, f13 c (by simpa using z)]
    have e16 : hide [x] H16 = hide [x] H15 := by
      funext c
      by_cases z : c ∈ [x]
      · rw [hide_in z, hide_in z]
      · rw [hide_out z, hide_out z, f16 c (by simpa using z)]
    have h12 := (hide_mono (q11.trans q12)).seq hp10
    rw [← e13] at h12
    have h15 := (hide_mono (q14.trans q15)).seq h12
    rw [← e16] at h15
    exact hide_same.seq h15
  walk_at "xs"
  refine al_list hp16 fun l5 H17 nl5 q17 hl5 => ?_
  have B9 := B9.new nl5 q17 hl5
  walk_at "xs"
  refine B9.set (by decide +kernel) (by decide +kernel) (by decide) fun H18 B10 f18 => ?_
  walk_at "xs"
  refine al_lst fun m3 H19 nm3 q19 hm3 => ?_
  walk_at "xs"
  refine al_rep hm3 (by omega) fun l6 H20 nl6 q20 hl6 _ => ?_
  have B10 := (B10.same q19).new nl6 q20 hl6
  walk_at "xs"
  refine B10.set (by decide +kernel) (by decide +kernel) (by decide) fun H21 B11 f21 => ?_
  walk_at "xs"
  refine al_lst fun m4 H22 nm4 q22 hm4 => ?_
  walk_at "xs"
  refine al_rep hm4 (by omega) fun l7 H23 nl7 q23 hl7 _ => ?_
  have B11 := (B11.same q22).new nl7 q23 hl7
  walk_at "xs"
  refine B11.set (by decide +kernel) (by decide +kernel) (by decide) fun H24 B12 f24 => ?_
  walk_at "xs"
  refine al_lst fun m5 H25 nm5 q25 hm5 => ?_
  walk_at "xs"
  refine al_rep hm5 (by omega) fun l8 H26 nl8 q26 hl8 _ => ?_
  have B12 := (B12.same q25).new nl8 q26 hl8
  walk_at "xs"
  refine B12.set (by decide +kernel) (by decide +kernel) (by decide) fun H27 B13 f27 => ?_
  walk_at "xs"
  refine al_lst fun m6 H28 nm6 q28 hm6 => ?_
  walk_at "xs"
  refine al_rep hm6 (by omega) fun l9 H29 nl9 q29 hl9 _ => ?_
  have B13 := (B13.same q28).new nl9 q29 hl9
  walk_at "xs"
  refine B13.set (by decide +kernel) (by decide +kernel) (by decide) fun H30 B14 f30 => ?_
  walk_at "xs"
  refine ⟨pl.length, rfl, by omega, by omega, fun l10 nl10 => ?_⟩
  refine lc_by turnsR (Empties H30 l10) ⟨same_new (Same.refl _) nl10, [], upd_same, rfl, List.nodup_nil, fun _ h => (nomatch h)⟩ (fun _ _ _ _ => trivial) ?_ ?_
  · rintro i v Hc _ hi em ⟨rfl, rfl⟩
    walk_at "xs"
    refine x_wipe rfl ?_
    walk_at "xs"
    refine al_lst fun q Hd nq sd hq => ?_
    exact em.step nl10 nq sd hq (by omega)
  intro H31 em
  rw [show ((pl.length : Nat) : Int).toNat = pl.length by omega] at em
  obtain ⟨fr, e1, e2, e3, e4⟩ := em.ex
  obtain ⟨B15, ndf⟩ := Bld.fam B14 nl10 em.s e1 e3 e4
  walk_at "xs"
  refine B15.set (by decide +kernel) (by decide +kernel) (by decide) fun H32 B f32 => ?_
  obtain ⟨Ls, hLs⟩ : ∃ Ls, Ls = [x, dx, l2, l3, l4, l5, l6, l7, l8, l9, l10] ++ fr := ⟨_, rfl⟩
  have zs : (openS s b pl row).size = pl.length := by simp [openS, CS.size]
  have hcs := B.hc
  have hnx := B.nx
  have hnd := B.nd
  have ecs : (([] ++ [(l2, HO.lst (nI row))] ++ [(l3, HO.lst (List.replicate pl.length (.str "waits")))] ++ [(l4, HO.lst (List.replicate pl.length (.int 0)))] ++ [(l5, HO.lst (pl.map V.int))] ++ [(l6, HO.lst (List.replicate pl.length (.int 0)))] ++ [(l7, HO.lst (List.replicate pl.length (.int 0)))] ++ [(l8, HO.lst (List.replicate pl.length (.int 0)))] ++ [(l9, HO.lst (List.replicate pl.length (.int 0)))] ++ [(l10, HO.lst (fr.map V.ref))] ++ fr.map fun q => (q, HO.lst [])).map (fun q : Addr × HO => q.1)) = [l2, l3, l4, l5, l6, l7, l8, l9, l10] ++ fr := by
    simp [Function.comp_def]
  rw [ecs] at hnd
  have ndL : Ls.Nodup := by
    rw [hLs]
    have mem : ∀ y ∈ [l2, l3, l4, l5, l6, l7, l8, l9, l10] ++ fr, y ≠ x ∧ y ≠ dx := fun y hy => by
      rw [← ecs] at hy
      obtain ⟨q, hq, rfl⟩ := List.mem_map.mp hy
      exact ⟨(hnx q hq).1, (hnx q hq).2.1⟩
    show (x :: dx :: ([l2, l3, l4, l5, l6, l7, l8, l9, l10] ++ fr)).Nodup
    rw [List.nodup_cons, List.nodup_cons]
    refine ⟨fun z => ?_, fun z => (mem dx z).2 rfl, hnd⟩
    rcases List.mem_cons.mp z with z | z
    · exact nxd z.symm
    · exact (mem x z).1 rfl
  have Ll : Ls.length = 11 + pl.length := by rw [hLs, List.length_append, e2]; rfl
  have atf : ∀ i, Ls.getD (11 + i) 0 = fr.getD i 0 := fun i => by
    rw [hLs, List.getD_eq_getElem?_getD, List.getD_eq_getElem?_getD, List.getElem?_append_right (by show 11 ≤ 11 + i; omega)]
    show (fr[11 + i - 11]?).getD 0 = _
    rw [Nat.add_sub_cancel_left]
  refine k (fun j => Ls.getD j 0) H32 (by rw [hLs]; rfl) (by rw [hLs]; rfl) (fun j h2 hj => ?_) B.off ⟨t, fun i j hi hj e => ?_, fun j hj => ?_⟩
  · have hm : Ls.getD j 0 ∈ [l2, l3, l4, l5, l6, l7, l8, l9, l10] ++ fr := by
      rw [hLs]
      obtain ⟨i, rfl⟩ : ∃ i, j = i + 2 := ⟨j - 2, by omega⟩
      show ([l2, l3, l4, l5, l6, l7, l8, l9, l10] ++ fr).getD i 0 ∈ _
      have hil : i < ([l2, l3, l4, l5, l6, l7, l8, l9, l10] ++ fr).length := by rw [List.length_append, e2]; show i < 9 + _; omega
      rw [List.getD_eq_getElem?_getD, List.getElem?_eq_getElem hil]
      exact List.getElem_mem _
    rw [← ecs] at hm
    obtain ⟨q, hq, e⟩ := List.mem_map.mp hm
    show H (Ls.getD j 0) = none
    rw [← e]; exact (hnx q hq).2.2
  · rw [zs] at hi hj
    have e : Ls.getD i 0 = Ls.getD j 0 := e
    rw [List.getD_eq_getElem?_getD, List.getD_eq_getElem?_getD, List.getElem?_eq_getElem (by omega), List.getElem?_eq_getElem (by omega)] at e
    exact (List.getElem_inj ndL).mp e
  · rw [zs] at hj
    have cell : ∀ {y : Addr} {o : HO}, (y, o) ∈ ([] ++ [(l2, HO.lst (nI row))] ++ [(l3, HO.lst (List.replicate pl.length (.str "waits")))] ++ [(l4, HO.lst (List.replicate pl.length (.int 0)))] ++ [(l5, HO.lst (pl.map V.int))] ++ [(l6, HO.lst (List.replicate pl.length (.int 0)))] ++ [(l7, HO.lst (List.replicate pl.length (.int 0)))] ++ [(l8, HO.lst (List.replicate pl.length (.int 0)))] ++ [(l9, HO.lst (List.replicate pl.length (.int 0)))] ++ [(l10, HO.lst (fr.map V.ref))] ++ fr.map fun q => (q, HO.lst [])) → H32 y = some o := fun {y o} h => hcs (y, o) h
    have rep : ∀ g : SeatR → V, ∀ v : V, (∀ p, g { pl := p } = v) → (openS s b pl row).seats.map g = List.replicate pl.length v := fun g v h => by
      show (pl.map _).map g = _
      rw [List.map_map, List.eq_replicate_iff]
      refine ⟨by simp, fun z hz => ?_⟩
      obtain ⟨q, _, rfl⟩ := List.mem_map.mp hz
      exact h q
    match j, hj with
    | 0, _ =>
      show H32 (Ls.getD 0 0) = _
      rw [show Ls.getD 0 0 = x by rw [hLs]; rfl, B.hx]
      show _ = some (HO.ins _ (Ls.getD 1 0) (cirFs (fun j => Ls.getD j 0) (openS s b pl row)))
      rw [show Ls.getD 1 0 = dx by rw [hLs]; rfl]
      unfold cirFs
      rw [zs, hLs]
      rfl
    | 1, _ =>
      show H32 (Ls.getD 1 0) = some (.own (Ls.getD 0 0))
      rw [show Ls.getD 1 0 = dx by rw [hLs]; rfl, show Ls.getD 0 0 = x by rw [hLs]; rfl]
      exact B.hd
    | 2, _ => show H32 (Ls.getD 2 0) = some (.lst (nI row)); rw [show Ls.getD 2 0 = l2 by rw [hLs]; rfl]; exact cell (by simp)
    | 3, _ =>
      show H32 (Ls.getD 3 0) = some (.lst ((openS s b pl row).seats.map _))
      rw [show Ls.getD 3 0 = l3 by rw [hLs]; rfl, rep _ (.str "waits") fun _ => rfl]; exact cell (by simp)
    | 4, _ =>
      show H32 (Ls.getD 4 0) = some (.lst ((openS s b pl row).seats.map _))
      rw [show Ls.getD 4 0 = l4 by rw [hLs]; rfl, rep _ (.int 0) fun _ => rfl]; exact cell (by simp)
    | 5, _ =>
      show H32 (Ls.getD 5 0) = some (.lst ((pl.map _).map _))
      rw [show Ls.getD 5 0 = l5 by rw [hLs]; rfl, List.map_map]; exact cell (by simp)
    | 6, _ =>
      show H32 (Ls.getD 6 0) = some (.lst ((openS s b pl row).seats.map _))
      rw [show Ls.getD 6 0 = l6 by rw [hLs]; rfl, rep _ (.int 0) fun _ => rfl]; exact cell (by simp)
    | 7, _ =>
      show H32 (Ls.getD 7 0) = some (.lst ((openS s b pl row).seats.map _))
      rw [show Ls.getD 7 0 = l7 by rw [hLs]; rfl, rep _ (.int 0) fun _ => rfl]; exact cell (by simp)
    | 8, _ =>
      show H32 (Ls.getD 8 0) = some (.lst ((openS s b pl row).seats.map _))
      rw [show Ls.getD 8 0 = l8 by rw [hLs]; rfl, rep _ (.int 0) fun _ => rfl]; exact cell (by simp)
    | 9, _ =>
      show H32 (Ls.getD 9 0) = some (.lst ((openS s b pl row).seats.map _))
      rw [show Ls.getD 9 0 = l9 by rw [hLs]; rfl, rep _ (.int 0) fun _ => rfl]; exact cell (by simp)
    | 10, _ =>
      show H32 (Ls.getD 10 0) = some (.lst ((List.range (openS s b pl row).size).map fun i => .ref (Ls.getD (11 + i) 0)))
      have e : (List.range (openS s b pl row).size).map (fun i => V.ref (Ls.getD (11 + i) 0)) = fr.map V.ref := by
        rw [zs, ← e2]
        apply List.ext_getElem?
        intro n
        rw [List.getElem?_map, List.getElem?_map]
        by_cases hn : n < fr.length
        · rw [List.getElem?_range hn, List.getElem?_eq_getElem hn]
          show some (V.ref (Ls.getD (11 + n) 0)) = _
          rw [atf, List.getD_eq_getElem?_getD, List.getElem?_eq_getElem hn]; rfl
        · rw [List.getElem?_eq_none (by rw [List.length_range]; omega), List.getElem?_eq_none (by omega)]; rfl
      rw [e, show Ls.getD 10 0 = l10 by rw [hLs]; rfl]; exact cell (by simp)
    | n + 11, hj =>
      show H32 (Ls.getD (n + 11) 0) = some (intsO ((openS s b pl row).get n).fl)
      have hn : n < fr.length := by omega
      rw [Nat.add_comm n 11, atf, List.getD_eq_getElem?_getD, List.getElem?_eq_getElem hn]
      have : ((openS s b pl row).get n).fl = [] := by
        show ((pl.map fun p => ({ pl := p } : SeatR)).getD n {}).fl = []
        rw [List.getD_eq_getElem?_getD, List.getElem?_map]
        cases pl[n]? <;> rfl
      rw [this]
      exact cell (List.mem_append_right _ (List.mem_map.mpr ⟨fr[n], List.getElem_mem _, rfl⟩))

end Su
namespace Su
open PySem L2
local macro_rules | `(tactic| walk_at "side") => `(tactic| first | assumption | (show (0 : Int) < _; omega) | (show (0 : Int) ≤ _; omega) | (show (0 : Int) < _; split <;> omega) | (show _ ∨ _; omega) | (show _ ∧ _; omega) | exact ⟨by decide, by decide, by decide⟩ | exact ⟨by first | assumption | omega, by first | assumption | omega⟩)
local macro_rules | `(tactic| walk_at "x") => `(tactic| first | with_reducible refine Su.x_seq ?_ | with_reducible refine Su.x_asg ?_ | with_reducible refine Su.x_gname ?_ | with_reducible refine Su.x_drop ?_ | with_reducible refine Su.x_ret ?_ | with_reducible refine Su.x_ifS ?_ | ((with_reducible show L2.tVar _ _ _ _); refine Su.x_var rfl ?_) | with_reducible refine Su.x_c ?_ | with_reducible refine Su.x_op ?_ | with_reducible refine Su.x_eqS ?_ | with_reducible refine Su.x_test ?_ | with_reducible refine Su.x_tB ?_ | with_reducible refine Su.x_isB' ?_ | with_reducible refine Su.x_not ?_ | with_reducible refine Su.x_nil ?_ | with_reducible refine Su.x_cons ?_ | with_reducible refine Su.x_lst ?_ | with_reducible refine Su.x_bmL ?_ | with_reducible refine Su.x_next ?_ | with_reducible refine Su.x_for ?_ | with_reducible refine Su.x_iRng1 ?_ | with_reducible refine Su.x_ipI ?_ | ((with_reducible show L2.tAug _ _ _ _ _ _); refine Su.x_aug rfl ?_))
local macro_rules | `(tactic| walk_at "xs") => `(tactic| repeat walk_at "x")
local macro_rules | `(tactic| walk_at "if") => `(tactic| first | with_reducible refine Su.x_iteD (fun c => ?_) (fun c => ?_) | with_reducible refine Su.x_iteN (fun c => ?_) (fun c => ?_) | with_reducible refine Su.x_ite (fun c => ?_) (fun c => ?_))
local macro_rules | `(tactic| walk_at "at") => `(tactic| first | assumption | (refine Su.f_at (by assumption) ?_; walk_at "at"))
local macro_rules | `(tactic| walk_at "sm") => `(tactic| first | assumption | exact L2.Same.refl _ | (refine Su.f_tr (by assumption) ?_; walk_at "sm"))
local macro_rules | `(tactic| walk_at "hp") => `(tactic| first | assumption | ((with_reducible refine Su.f_sqL ?_); walk_at "at") | ((with_reducible refine Su.f_sqT ?_); walk_at "at") | ((with_reducible show L2.Same _ _); walk_at "sm") | ((with_reducible show _ = none); refine Su.f_free ?_ (by assumption); walk_at "sm") | ((with_reducible show _ = some _); walk_at "at") | (refine Su.f_dp (by assumption) ?_; walk_at "hp") | (refine Su.f_dpA (by assumption) ?_; walk_at "hp") | (refine Su.f_sqLs (by assumption) ?_; walk_at "hp") | (refine Su.f_sqTs (by assumption) ?_; walk_at "hp"))
local macro_rules | `(tactic| walk_at "x") => `(tactic| first | with_reducible refine Su.x_fld ?_ | with_reducible refine Su.x_meth ?_ | with_reducible refine Su.c_size (by assumption) ?_ | with_reducible refine Su.c_state (by assumption) ?_ | with_reducible refine Su.c_pledged (by assumption) ?_ | with_reducible refine Su.c_given (by assumption) ?_)
local macro_rules | `(tactic| walk_at "me") => `(tactic| first | refine Su.c_meth (by assumption) rfl ?_ | refine Su.so_meth (by assumption) rfl ?_)

def backSeat (r : SeatR) : Int := r.pl + if r.st = .fell then r.gv else 0
def backS (st : CS) : List Int := st.seats.map backSeat
def sp_Circle_refunds (K : PySem.W.Frag) : Sp := fun vs H Q E => ∃ (a : Nat → Addr) (st : CS), vs = [.ref (a 0)] ∧ CirAt K H a st ∧ st.size ≤ 1000 ∧ (¬ st.size < st.now → E (.ref (He.ga K "NotEnded")) none H) ∧ (st.size < st.now → ∀ p H', H p = none → Same H H' → H' p = some (intsO (backS st)) → Q (.ref p) H')
abbrev N_Circle_refunds : List Str := ["self", "back", "at", "coins"]
def t_Circle_refunds (K : PySem.W.Frag) (E : XK) : TS :=
 (tSeq (tIfS (tNot (tB (tMeth (He.ga K "Circle") "ended" (sp_Circle_ended K) [] E0 (tVar 0) tNil)))
 (tRaise (He.ga K "NotEnded") (wE E))
 tNext)
 (tSeq (tAsg (tLst tNil) (gName 1))
 (tSeq (tFor (iRng1 (tCons (tFld K (tVar 0) "size") tNil)) (gName 2)
 (tSeq (tAsg (tOp (rIxL K) (tFld K (tVar 0) "pledged") (tVar 2)) (gName 3))
 (C8.tCut (tIfS (tTest (tOp rEq (tOp (rIxL K) (tFld K (tVar 0) "state") (tVar 2)) (tC (.str "fell"))))
 (tAug 3 (tOp (rIxL K) (tFld K (tVar 0) "given") (tVar 2)) (ipI fun i j => i + j))
 tNext)
 (tDrop (tBM K "list" rAppend (tVar 1) (tCons (tVar 3) tNil))))))
 (tRet (tVar 1)))))

theorem len_Circle_refunds {K : PySem.W.Frag} : ∀ vs H Q E, sp_Circle_refunds K vs H Q E → vs.length = ["a"].length := by
  rintro vs H Q E ⟨_, _, rfl, _⟩; rfl
theorem pure_Circle_refunds {K : PySem.W.Frag} {vs : List V} {H : Hp} {Q : VK} {E : XK} (h : sp_Circle_refunds K vs H Q E) : t_Circle_refunds K E { nx := fun _ H' => Q .non H', rt := Q } (start N_Circle_refunds vs) H := by
  obtain ⟨a, st, rfl, hc, hz, k1, k2⟩ := h
  unfold t_Circle_refunds
  walk_at "xs"
  walk_at "me"
  walk_at "xs"
  refine ⟨a, st, rfl, hc, ?_⟩
  walk_at "xs"
  walk_at "if"
  · rename_i c
    exact k1 c
  rename_i c
  have k := k2 c
  walk_at "xs"
  refine al_lst fun B H1 nB s1 hB => ?_
  have c1 := hc.same s1
  have nBF : B ∉ cirFoot a st.size := hc.fresh nB
  walk_at "xs"
  refine ⟨st.size, rfl, by omega, by omega, for_by turnsR (fun i σ H' => ∃ (u v : Option V), σ = [some (.ref (a 0)), some (.ref B), u, v] ∧ Same H H' ∧ CirAt K H' a st ∧ H' B = some (intsO ((st.seats.take i).map backSeat))) ⟨none, none, rfl, s1, c1, hB⟩ (fun _ _ _ _ _ => trivial) ?_ ?_⟩
  · rintro i y σ H2 _ hi ⟨u, v, rfl, s2, c2, hB2⟩ ⟨rfl, rfl⟩
    have hi' : i < st.size := by omega
    rw [show (0 : Int) + (i : Int) = i by omega]
    have tk : (st.seats.take (i + 1)).map backSeat = (st.seats.take i).map backSeat ++ [backSeat (st.get i)] := by
      have : st.get i = st.seats[i] := by unfold CS.get; rw [List.getD_eq_getElem?_getD, List.getElem?_eq_getElem hi']; rfl
      rw [this, List.take_succ, List.getElem?_eq_getElem hi', List.map_append]; rfl
    walk_at "xs"
    refine i_pledged c2 rfl hi' ?_
    walk_at "xs"
    refine x_cut (fun σ H' => σ = [some (.ref (a 0)), some (.ref B), some (.int i), some (.int (backSeat (st.get i)))] ∧ H2 = H') ?_ ?_
    · walk_at "xs"
      refine i_state c2 rfl hi' ?_
      walk_at "xs"
      unfold backSeat
      walk_at "if"
      · rename_i e
        rw [seat_fell] at e
        rw [if_pos e]
        walk_at "xs"
        refine i_given c2 rfl hi' ?_
        walk_at "xs"
        exact ⟨rfl, rfl⟩
      · rename_i e
        rw [seat_fell] at e
        rw [if_neg e, Int.add_zero]
        exact ⟨rfl, rfl⟩
    rintro _ _ ⟨rfl, rfl⟩
    walk_at "xs"
    refine ⟨tyL (SqL.of hB2), ?_⟩
    walk_at "xs"
    refine x_append hB2 (small (by rw [List.length_map, List.length_map, List.length_take]; omega)) ?_
    refine ⟨_, _, rfl, same_upd s2 nB, c2.upd_out nBF, ?_⟩
    rw [upd_same, tk]
    simp [intsO]
  · rintro σ H2 ⟨u, v, rfl, s2, c2, hB2⟩
    rw [show ((st.size : Nat) : Int).toNat = st.seats.length by show ((st.size : Nat) : Int).toNat = st.size; omega, List.take_length] at hB2
    walk_at "xs"
    exact k B H2 nB s2 hB2

end Su
namespace Su
open PySem L2
local macro_rules | `(tactic| walk_at "side") => `(tactic| first | assumption | (show (0 : Int) < _; omega) | (show (0 : Int) ≤ _; omega) | (show (0 : Int) < _; split <;> omega) | (show _ ∨ _; omega) | (show _ ∧ _; omega) | exact ⟨by decide, by decide, by decide⟩ | exact ⟨by first | assumption | omega, by first | assumption | omega⟩)
local macro_rules | `(tactic| walk_at "xs") => `(tactic| repeat walk_at "x")
local macro_rules | `(tactic| walk_at "if") => `(tactic| first | with_reducible refine Su.x_iteD (fun c => ?_) (fun c => ?_) | with_reducible refine Su.x_iteN (fun c => ?_) (fun c => ?_) | with_reducible refine Su.x_ite (fun c => ?_) (fun c => ?_))

/-! the loop of windows around a planted order: one turn -/
theorem b_mod (r d : Int) (h : 0 < d) : 0 ≤ r % d ∧ r % d < d := ⟨Int.emod_nonneg r (by omega), Int.emod_lt_of_pos r h⟩
end Su
namespace Su
open PySem L2
local macro_rules | `(tactic| walk_at "side") => `(tactic| first | assumption | (show (0 : Int) < _; omega) | (show (0 : Int) ≤ _; omega) | (show (0 : Int) < _; split <;> omega) | (show _ ∨ _; omega) | (show _ ∧ _; omega) | exact ⟨by decide, by decide, by decide⟩ | exact ⟨by first | assumption | omega, by first | assumption | omega⟩)
local macro_rules | `(tactic| walk_at "x") => `(tactic| first
  | with_reducible refine Su.x_seq ?_ | with_reducible refine Su.x_asg ?_ | with_reducible refine Su.x_gname ?_ | with_reducible refine Su.x_drop ?_ | with_reducible refine Su.x_ret ?_ | with_reducible refine Su.x_ifS ?_
  | ((with_reducible show L2.tVar _ _ _ _); refine Su.x_var rfl ?_) | with_reducible refine Su.x_c ?_ | with_reducible refine Su.x_op ?_ | with_reducible refine Su.x_rI0 ?_ | ((with_reducible refine Su.x_rI ?_ ?_); focus walk_at "side")
  | ((with_reducible show L2.rIxL _ (L2.V.ref _) (L2.V.int _) _ _); refine Su.x_ixI (by assumption) (by first | decide | omega) (by omega) ?_) | with_reducible refine Su.x_isi_int_int ?_ | with_reducible refine Su.x_isi_int_bool ?_ | with_reducible refine Su.x_isi_int_str ?_ | with_reducible refine Su.x_isi_int_list ?_ | with_reducible refine Su.x_isi_int_tuple ?_ | with_reducible refine Su.x_isi_bool_int ?_ | with_reducible refine Su.x_isi_bool_bool ?_ | with_reducible refine Su.x_isi_bool_str ?_ | with_reducible refine Su.x_isi_bool_list ?_ | with_reducible refine Su.x_isi_bool_tuple ?_ | with_reducible refine Su.x_isi_str_int ?_ | with_reducible refine Su.x_isi_str_bool ?_ | with_reducible refine Su.x_isi_str_str ?_ | with_reducible refine Su.x_isi_str_list ?_ | with_reducible refine Su.x_isi_str_tuple ?_ | with_reducible refine Su.x_isi_NoneType_int ?_ | with_reducible refine Su.x_isi_NoneType_bool ?_ | with_reducible refine Su.x_isi_NoneType_str ?_ | with_reducible refine Su.x_isi_NoneType_list ?_ | with_reducible refine Su.x_isi_NoneType_tuple ?_ | with_reducible refine Su.x_rGt ?_ | with_reducible refine Su.x_rGe ?_ | with_reducible refine Su.x_iteF ?_ | with_reducible refine Su.x_iteT ?_ | with_reducible refine Su.x_iteNT ?_ | with_reducible refine Su.x_iteNF ?_ | with_reducible refine Su.x_eqI ?_ | with_reducible refine Su.x_neI ?_ | with_reducible refine Su.x_eqS ?_ | with_reducible refine Su.x_neS ?_ | with_reducible refine Su.x_eqB ?_ | with_reducible refine Su.x_neB ?_
  | with_reducible refine Su.x_test ?_ | with_reducible refine Su.x_tB ?_ | with_reducible refine Su.x_isB ?_ | with_reducible refine Su.x_isB' ?_ | with_reducible refine Su.x_not ?_ | with_reducible refine Su.x_and ?_ | with_reducible refine Su.x_or ?_
  | with_reducible refine Su.x_andV ?_ | with_reducible refine Su.x_orV ?_ | with_reducible refine Su.x_notV ?_ | with_reducible refine Su.x_chain ?_ | with_reducible refine Su.x_nil ?_ | with_reducible refine Su.x_cons ?_ | with_reducible refine Su.x_cb ?_ | with_reducible refine Su.x_call ?_
  | with_reducible refine Su.x_un ?_ | with_reducible refine Su.x_rU ?_ | with_reducible refine Su.x_abs ?_ | with_reducible refine Su.x_max2 ?_ | with_reducible refine Su.x_min2 ?_ | with_reducible refine Su.x_int1 ?_ | with_reducible refine Su.x_intB ?_
  | with_reducible refine Su.x_lst ?_ | with_reducible refine Su.x_tup ?_ | with_reducible refine Su.x_bmL ?_ | with_reducible refine Su.x_next ?_ | with_reducible refine Su.x_for ?_ | with_reducible refine Su.x_iList ?_ | with_reducible refine Su.x_iRng1 ?_ | with_reducible refine Su.x_iRng2 ?_ | with_reducible refine Su.x_whileN ?_ | with_reducible refine Su.x_iEnum ?_ | with_reducible refine Su.x_iZip ?_ | with_reducible refine Su.x_iZipA ?_ | with_reducible refine Su.x_iTup ?_ | with_reducible refine Su.x_gcons ?_ | with_reducible refine Su.x_gnil ?_ | with_reducible refine Su.x_gsub ?_ | with_reducible refine Su.x_yes ?_ | with_reducible refine Su.x_lc ?_ | with_reducible refine Su.x_sl ?_ | with_reducible refine Su.x_nopart ?_ | with_reducible refine Su.x_part ?_ | with_reducible refine Su.x_isI ?_ | with_reducible refine Su.x_lstRg ?_ | with_reducible refine Su.x_rg1 ?_ | with_reducible refine Su.x_augS ?_ | with_reducible refine Su.x_ipI ?_ | ((with_reducible show L2.tAug _ _ _ _ _ _); refine Su.x_aug rfl ?_) | with_reducible refine Su.x_callS ?_ | with_reducible refine Su.x_tryAs ?_)
local macro_rules | `(tactic| walk_at "xs") => `(tactic| repeat walk_at "x")
local macro_rules | `(tactic| walk_at "if") => `(tactic| first | with_reducible refine Su.x_iteD (fun c => ?_) (fun c => ?_) | with_reducible refine Su.x_iteN (fun c => ?_) (fun c => ?_) | with_reducible refine Su.x_ite (fun c => ?_) (fun c => ?_))
local macro_rules | `(tactic| walk_at "at") => `(tactic| first | assumption | (refine Su.f_at (by assumption) ?_; walk_at "at"))
local macro_rules | `(tactic| walk_at "sm") => `(tactic| first | assumption | exact L2.Same.refl _ | (refine Su.f_tr (by assumption) ?_; walk_at "sm"))
local macro_rules | `(tactic| walk_at "hp") => `(tactic| first | assumption | ((with_reducible refine Su.f_sqL ?_); walk_at "at") | ((with_reducible refine Su.f_sqT ?_); walk_at "at") | ((with_reducible show L2.Same _ _); walk_at "sm") | ((with_reducible show _ = none); refine Su.f_free ?_ (by assumption); walk_at "sm") | ((with_reducible show _ = some _); walk_at "at") | (refine Su.f_dp (by assumption) ?_; walk_at "hp") | (refine Su.f_dpA (by assumption) ?_; walk_at "hp") | (refine Su.f_sqLs (by assumption) ?_; walk_at "hp") | (refine Su.f_sqTs (by assumption) ?_; walk_at "hp"))
/-! _law_opening -/
/-- an opening that has an order -/
structure OpenHas (s : Int) (n : Nat) (pl ws : List Int) : Prop where
  ok : OpenOk s pl ws
  len : pl.length = n
  ord : ∃ row, IsOrder (openWin s pl ws) row
/-- .. and whose pledges are small -/
structure OpenAt (s : Int) (n : Nat) (pl ws : List Int) : Prop extends OpenHas s n pl ws where
  pb : ∀ x ∈ pl, x ≤ s * ((n : Int) + 3)
def sp_law_opening (K : PySem.W.Frag) : Sp := fun vs H Q _ => ∃ (a : Addr) (rows : List Int) (n : Nat) (s : Int), vs = [.ref a, .int n, .int s] ∧ SqL K H a (rows.map V.int) ∧ 2 ≤ n ∧ n ≤ 20 ∧ 3 * n ≤ rows.length ∧ 1 ≤ s ∧ s ≤ 1000000 ∧
  ∀ (t p w : Addr) (pl ws : List Int) (H' : Hp), H t = none → H p = none → H w = none → (p ≠ w ∧ ∀ x ∈ pl, x ≤ 100000000) → Same H H' → H' t = some (.tup [.ref p, .ref w]) → H' p = some (intsO pl) → H' w = some (intsO ws) → OpenAt s n pl ws → Q (.ref t) H'
abbrev N_law_opening : List Str := ["_law_some", "_law_size", "_law_stake", "_law_pledges", "_law_wishes", "_law_at", "_law_number", "_law_rest"]
def t_law_opening (K : PySem.W.Frag) : TS :=
 (tSeq (tAsg (tOp rRep (tLst (tCons (tC (.int 0)) tNil)) (tVar 1)) (gName 3))
 (tSeq (tAsg (tOp rRep (tLst (tCons (tVar 1) tNil)) (tVar 1)) (gName 4))
 (tSeq (tFor (iEnum K (tCons (tCall (sp_law_perm K) [] E0 (tCons (tVar 0) (tCons (tVar 1) tNil))) tNil)) (gTup K 2 (gCons (gName 5) (gCons (gName 6) gNil)))
 (tSeq (tAsg (tOp rMul (tOp rMod (tOp rDiv (tOp (rIxL K) (tVar 0) (tOp rAdd (tVar 1) (tVar 5))) (tC (.int 3))) (tOp rAdd (tOp rMul (tC (.int 2)) (tVar 2)) (tC (.int 1)))) (tOp rMod (tOp (rIxL K) (tVar 0) (tOp rAdd (tVar 1) (tVar 5))) (tC (.int 3)))) (gName 7))
 (tSeq (tAsg (tCB rMax2 (tCons (tC (.int 0)) (tCons (tOp rAdd (tOp rMul (tVar 2) (tOp rSub (tOp rSub (tVar 1) (tC (.int 1))) (tVar 5))) (tOp rMul (tVar 7) (tOp rMod (tOp rDiv (tOp (rIxL K) (tVar 0) (tOp rAdd (tVar 1) (tVar 5))) (tC (.int 2))) (tC (.int 2))))) tNil))) (gSub (tVar 3) (tVar 6) rSetL))
 (tAsg (tOp rAdd (tOp rAdd (tVar 5) (tC (.int 1))) (tOp rMod (tOp (rIxL K) (tVar 0) (tOp rAdd (tOp rMul (tC (.int 2)) (tVar 1)) (tVar 5))) (tOp rSub (tVar 1) (tVar 5)))) (gSub (tVar 4) (tVar 6) rSetL)))))
 (tRet (tTup (tCons (tVar 3) (tCons (tVar 4) tNil)))))))

theorem len_law_opening {K : PySem.W.Frag} : ∀ vs H Q E, sp_law_opening K vs H Q E → vs.length = ["a", "b", "c"].length := by
  rintro vs H Q E ⟨_, _, _, _, rfl, _⟩; rfl
structure OpIn (s : Int) (n : Nat) (row : List Nat) (pl ws : List Int) (i : Nat) : Prop where
  l1 : pl.length = n
  l2 : ws.length = n
  p : ∀ x ∈ pl, 0 ≤ x ∧ x ≤ s * ((n : Int) + 3)
  w : ∀ x ∈ ws, 1 ≤ x ∧ x ≤ (n : Int)
  at_ : ∀ j (h : j < row.length), j < i → s * ((n : Int) - 1 - j) ≤ pl.getD row[j] 0 ∧ (j : Int) + 1 ≤ ws.getD row[j] 0
theorem mem_setI {l : List Int} {k : Nat} {v : Int} {P : Int → Prop} (h : ∀ x ∈ l, P x) (hv : P v) : ∀ x ∈ l.set k v, P x := fun x hx => by
  rcases List.mem_or_eq_of_mem_set hx with z | z
  · exact h x z
  · rw [z]; exact hv
theorem getD_setI {l : List Int} {i j : Nat} {a : Int} (h : i < l.length) : (l.set i a).getD j 0 = if i = j then a else l.getD j 0 := by
  rw [List.getD_eq_getElem?_getD, List.getD_eq_getElem?_getD, List.getElem?_set]
  by_cases c : i = j
  · subst c; simp [h]
  · simp [c]
theorem OpIn.step {s : Int} {n : Nat} {row : List Nat} {pl ws : List Int} {i : Nat} (h : OpIn s n row pl ws i) (nd : row.Nodup) (hi : i < row.length) (lt : row[i] < n) {x y : Int} (h1 : 0 ≤ x ∧ x ≤ s * ((n : Int) + 3)) (h2 : s * ((n : Int) - 1 - i) ≤ x) (h3 : (i : Int) + 1 ≤ y ∧ y ≤ (n : Int)) : OpIn s n row (pl.set row[i] x) (ws.set row[i] y) (i + 1) := by
  refine ⟨by rw [List.length_set]; exact h.l1, by rw [List.length_set]; exact h.l2, mem_setI h.p h1, mem_setI h.w ⟨by omega, h3.2⟩, fun j hj hji => ?_⟩
  rw [getD_setI (by rw [h.l1]; exact lt), getD_setI (by rw [h.l2]; exact lt)]
  by_cases c : i = j
  · subst c; rw [if_pos rfl, if_pos rfl]; exact ⟨h2, h3.1⟩
  · have : row[i] ≠ row[j] := nodup_ne nd hi hj c
    rw [if_neg this, if_neg this]; exact h.at_ j hj (by omega)
theorem pb_le {s : Int} {n : Nat} (n2 : n ≤ 20) (s1 : 1 ≤ s) (s2 : s ≤ 1000000) : s * ((n : Int) + 3) ≤ 100000000 := by
  have a := Int.mul_le_mul_of_nonneg_left (show (n : Int) + 3 ≤ 23 by omega) (show 0 ≤ s by omega)
  omega
theorem OpIn.done {s : Int} {n : Nat} {row : List Nat} {pl ws : List Int} (h : OpIn s n row pl ws n) (n1 : 2 ≤ n) (n2 : n ≤ 20) (s1 : 1 ≤ s) (s2 : s ≤ 1000000) (pm : row.Perm (List.range n)) : OpenAt s n pl ws := by
  have pb := pb_le n2 s1 s2
  have ok : OpenOk s pl ws := ⟨s1, s2, by rw [h.l1]; exact n1, by rw [h.l1]; exact n2, by rw [h.l1, h.l2], fun x hx => ⟨(h.p x hx).1, by have := (h.p x hx).2; omega⟩, by rw [h.l1]; exact h.w⟩
  have owl : (openWin s pl ws).length = n := by unfold openWin; rw [List.length_zipWith, h.l1, h.l2]; omega
  have rl : row.length = n := by rw [pm.length_eq, List.length_range]
  refine ⟨⟨ok, h.l1, ⟨row, planted_order (by rw [owl]; exact pm) fun j hj _ => ?_⟩⟩, fun x hx => (h.p x hx).2⟩
  have lt : row[j] < n := List.mem_range.mp (pm.mem_iff.mp (List.getElem_mem hj))
  have a := h.at_ j hj (by omega)
  have e := openWin_at (s := s) (pl := pl) (ws := ws) row[j] (by rw [h.l1]; exact lt) (by rw [h.l2]; exact lt)
  have e1 : pl.getD row[j] 0 = pl[row[j]]'(by rw [h.l1]; exact lt) := by rw [List.getD_eq_getElem?_getD, List.getElem?_eq_getElem (by rw [h.l1]; exact lt)]; rfl
  have e2 : ws.getD row[j] 0 = ws[row[j]]'(by rw [h.l2]; exact lt) := by rw [List.getD_eq_getElem?_getD, List.getElem?_eq_getElem (by rw [h.l2]; exact lt)]; rfl
  unfold w1 w2
  rw [List.getD_eq_getElem?_getD, e]
  simp only [Option.getD_some]
  rw [← e1, ← e2, h.l1]
  refine ⟨?_, a.2⟩
  have : (n : Int) - 1 - j ≤ pl.getD row[j] 0 / s := by
    rw [Int.le_ediv_iff_mul_le (by omega), Int.mul_comm]; exact a.1
  unfold firstCov
  split <;> omega
theorem pure_law_opening {K : PySem.W.Frag} {vs : List V} {H : Hp} {Q : VK} {E : XK} (h : sp_law_opening K vs H Q E) : t_law_opening K { nx := fun _ H' => Q .non H', rt := Q } (start N_law_opening vs) H := by
  obtain ⟨a, rows, n, s, rfl, hS, n1, n2, hr, s1, s2, k⟩ := h
  unfold t_law_opening
  walk_at "xs"
  refine al_lst fun m1 H1 nm1 q1 hm1 => ?_
  walk_at "xs"
  refine al_rep hm1 (by omega) fun p H2 np q2 hp _ => ?_
  walk_at "xs"
  refine al_lst fun m2 H3 nm2 q3 hm2 => ?_
  walk_at "xs"
  refine al_rep hm2 (by omega) fun w H4 nw q4 hw _ => ?_
  have hp4 := q4 _ _ (q3 _ _ hp)
  have neq : p ≠ w := ne_of_none (q3 _ _ hp) nw
  have s4 := ((q1.trans q2).trans q3).trans q4
  have np0 := q1.free np
  have nw0 := ((q1.trans q2).trans q3).free nw
  walk_at "xs"
  refine ⟨a, rows, n, rfl, s4.seq hS, by omega, by omega, fun r row H5 nr s5 hrow pm => ?_⟩
  have nd : row.Nodup := pm.nodup_iff.mpr List.nodup_range
  have rl : row.length = n := by rw [pm.length_eq, List.length_range]
  have hp5 := s5 _ _ hp4
  have hw5 := s5 _ _ hw
  have nrp : r ≠ p := fun e => by subst e; rw [hp4] at nr; cases nr
  have nrw : r ≠ w := fun e => by subst e; rw [hw] at nr; cases nr
  refine ⟨r, nI row, rfl, SqL.of hrow, for_by (turnsE (xs := nI row)) (fun i σ H' => ∃ (u1 u2 u3 : Option V) (pl ws : List Int), σ = [some (.ref a), some (.int n), some (.int s), some (.ref p), some (.ref w), u1, u2, u3] ∧ Same H H' ∧ H' r = some (.lst (nI row)) ∧ H' p = some (intsO pl) ∧ H' w = some (intsO ws) ∧ OpIn s n row pl ws i)
    ⟨none, none, none, List.replicate n 0, List.replicate n n, rfl, s4.trans s5, hrow, by rw [hp5, intsO, List.map_replicate], by rw [hw5, intsO, List.map_replicate], by simp, by simp, fun x hx => by rw [(List.mem_replicate.mp hx).2]; exact ⟨Int.le_refl _, Int.mul_nonneg (by omega) (by omega)⟩, fun x hx => by rw [(List.mem_replicate.mp hx).2]; omega, fun j hj z => absurd z (by omega)⟩
    (fun i σ H' _ q => by obtain ⟨_, _, _, _, _, _, _, h, _⟩ := q; exact SqL.of h) ?_ ?_⟩
  · rintro i v σ H6 H7 hi ⟨u1, u2, u3, pl, ws, rfl, s6, hr6, hp6, hw6, inv⟩ ⟨x, hx, T, rfl, nT, s7, hT, _⟩
    rw [nI_len] at hi
    unfold nI at hx
    rw [List.getElem?_map, List.getElem?_eq_getElem hi] at hx
    cases hx
    have lt : row[i] < n := List.mem_range.mp (pm.mem_iff.mp (List.getElem_mem hi))
    refine x_gtup (SqT.of hT) rfl ?_
    have hS7 : SqL K H7 a (rows.map V.int) := (s6.trans s7).seq hS
    have hr7 := s7 _ _ hr6
    have hp7 := s7 _ _ hp6
    have hw7 := s7 _ _ hw6
    have l1 := inv.l1
    have l2 := inv.l2
    walk_at "xs"
    refine x_ixL hS7 (at_getI (by omega) (by omega)) ?_
    generalize hg : rows.getD ((n : Int) + (i : Int)).toNat 0 = g
    have m1 := b_mod (g / 3) (2 * s + 1) (by omega)
    have m2 := b_mod g 3 (by decide)
    have m3 := b_mod (g / 2) 2 (by decide)
    walk_at "xs"
    refine x_ixL hS7 (at_getI (by omega) (by omega)) ?_
    rw [hg]
    walk_at "xs"
    refine x_ixL hS7 (at_getI (by omega) (by omega)) ?_
    rw [hg]
    walk_at "xs"
    have b1 : 0 ≤ g / 3 % (2 * s + 1) * (g % 3) ∧ g / 3 % (2 * s + 1) * (g % 3) ≤ 4 * s := by
      refine ⟨Int.mul_nonneg m1.1 m2.1, ?_⟩
      have := Int.mul_le_mul (show g / 3 % (2 * s + 1) ≤ 2 * s by omega) (show g % 3 ≤ 2 by omega) m2.1 (by omega)
      omega
    generalize g / 3 % (2 * s + 1) * (g % 3) = rest at b1 ⊢
    have b2 : 0 ≤ rest * (g / 2 % 2) ∧ rest * (g / 2 % 2) ≤ 4 * s := by
      have : g / 2 % 2 = 0 ∨ g / 2 % 2 = 1 := by omega
      rcases this with z | z <;> rw [z] <;> omega
    generalize rest * (g / 2 % 2) = add at b2 ⊢
    have b3 : 0 ≤ s * ((n : Int) - 1 - i) ∧ s * ((n : Int) - 1 - i) + 4 * s ≤ s * ((n : Int) + 3) := by
      refine ⟨Int.mul_nonneg (by omega) (by omega), ?_⟩
      have := Int.mul_le_mul_of_nonneg_left (show (n : Int) - 1 - i + 4 ≤ (n : Int) + 3 by omega) (show 0 ≤ s by omega)
      rw [Int.mul_add] at this
      omega
    obtain ⟨y, hy, b4⟩ : ∃ y, (if s * ((n : Int) - 1 - i) + add > 0 then s * ((n : Int) - 1 - i) + add else 0) = y ∧ 0 ≤ y ∧ y ≤ s * ((n : Int) + 3) ∧ s * ((n : Int) - 1 - i) ≤ y := by
      refine ⟨_, rfl, ?_⟩
      split <;> omega
    rw [hy]
    refine x_setL hp7 (by omega) (by rw [List.length_map]; omega) ?_
    rw [set_mapI]
    have hS8 : SqL K (upd H7 p (intsO (pl.set row[i] y))) a (rows.map V.int) := (same_upd (s6.trans s7) np0).seq hS
    have hw8 := at_upd (o' := intsO (pl.set row[i] y)) hw7 neq
    have hr8 := at_upd (o' := intsO (pl.set row[i] y)) hr7 (fun e => nrp e.symm)
    have hp8 : upd H7 p (intsO (pl.set row[i] y)) p = some (intsO (pl.set row[i] y)) := upd_same
    have s8 := same_upd (o := intsO (pl.set row[i] y)) (s6.trans s7) np0
    generalize upd H7 p (intsO (pl.set row[i] y)) = H8 at hS8 hw8 hr8 hp8 s8 ⊢
    walk_at "xs"
    refine x_ixL hS8 (at_getI (by omega) (by omega)) ?_
    generalize rows.getD (2 * (n : Int) + (i : Int)).toNat 0 = z
    have m4 := b_mod z ((n : Int) - i) (by omega)
    walk_at "xs"
    refine x_setL hw8 (by omega) (by rw [List.length_map]; omega) ?_
    rw [set_mapI]
    exact ⟨_, _, _, _, _, rfl, same_upd s8 nw0, at_upd hr8 (fun e => nrw e.symm), at_upd hp8 (fun e => neq e.symm), upd_same, inv.step nd hi lt ⟨b4.1, b4.2.1⟩ b4.2.2 ⟨by omega, by omega⟩⟩
  · rintro σ H6 ⟨u1, u2, u3, pl, ws, rfl, s6, hr6, hp6, hw6, inv⟩
    rw [nI_len, rl] at inv
    walk_at "xs"
    refine al_tup fun t H7 nt s7 ht => ?_
    exact k t p w pl ws H7 (s6.free nt) np0 nw0 ⟨neq, fun x hx => Int.le_trans (inv.p x hx).2 (pb_le n2 s1 s2)⟩ (s6.trans s7) ht (s7 _ _ hp6) (s7 _ _ hw6) (inv.done n1 n2 s1 s2 pm)

end Su
namespace Su
open PySem L2
local macro_rules | `(tactic| walk_at "side") => `(tactic| first | assumption | (show (0 : Int) < _; omega) | (show (0 : Int) ≤ _; omega) | (show (0 : Int) < _; split <;> omega) | (show _ ∨ _; omega) | (show _ ∧ _; omega) | exact ⟨by decide, by decide, by decide⟩ | exact ⟨by first | assumption | omega, by first | assumption | omega⟩)
local macro_rules | `(tactic| walk_at "x") => `(tactic| first | with_reducible refine Su.x_ifS ?_ | ((with_reducible show L2.tVar _ _ _ _); refine Su.x_var rfl ?_) | with_reducible refine Su.x_c ?_ | with_reducible refine Su.x_rI0 ?_ | with_reducible refine Su.x_iteNF ?_ | with_reducible refine Su.x_test ?_ | with_reducible refine Su.x_isB' ?_ | with_reducible refine Su.x_not ?_ | with_reducible refine Su.x_chain ?_ | with_reducible refine Su.x_next ?_)
local macro_rules | `(tactic| walk_at "xs") => `(tactic| repeat walk_at "x")
local macro_rules | `(tactic| walk_at "if") => `(tactic| first | with_reducible refine Su.x_iteD (fun c => ?_) (fun c => ?_) | with_reducible refine Su.x_iteN (fun c => ?_) (fun c => ?_) | with_reducible refine Su.x_ite (fun c => ?_) (fun c => ?_))
local macro_rules | `(tactic| walk_at "at") => `(tactic| first | assumption | (refine Su.f_at (by assumption) ?_; walk_at "at"))
local macro_rules | `(tactic| walk_at "sm") => `(tactic| first | assumption | exact L2.Same.refl _ | (refine Su.f_tr (by assumption) ?_; walk_at "sm"))
local macro_rules | `(tactic| walk_at "hp") => `(tactic| first | assumption | ((with_reducible refine Su.f_sqL ?_); walk_at "at") | ((with_reducible refine Su.f_sqT ?_); walk_at "at") | ((with_reducible show L2.Same _ _); walk_at "sm") | ((with_reducible show _ = none); refine Su.f_free ?_ (by assumption); walk_at "sm") | ((with_reducible show _ = some _); walk_at "at") | (refine Su.f_dp (by assumption) ?_; walk_at "hp") | (refine Su.f_dpA (by assumption) ?_; walk_at "hp") | (refine Su.f_sqLs (by assumption) ?_; walk_at "hp") | (refine Su.f_sqTs (by assumption) ?_; walk_at "hp"))
local macro_rules | `(tactic| walk_at "x") => `(tactic| first | with_reducible refine Su.x_fld ?_ | with_reducible refine Su.c_size (by assumption) ?_)
local macro_rules | `(tactic| walk_at "me") => `(tactic| first | refine Su.c_meth (by assumption) rfl ?_ | refine Su.so_meth (by assumption) rfl ?_)

def sp_Circle_check_seat (K : PySem.W.Frag) : Sp := fun vs H Q E => ∃ (a : Nat → Addr) (st : CS) (i : Int), vs = [.ref (a 0), .int i] ∧ CirAt K H a st ∧ (0 ≤ i → i < st.size → Q .non H) ∧ (¬ (0 ≤ i ∧ i < st.size) → E (.ref (He.ga K "NoSeat")) none H)
abbrev N_Circle_check_seat : List Str := ["self", "at"]
def t_Circle_check_seat (K : PySem.W.Frag) (E : XK) : TS :=
 (tIfS (tNot (tTest (tChain rLe rLt (tC (.int 0)) (tVar 1) (tFld K (tVar 0) "size"))))
 (tRaise (He.ga K "NoSeat") (wE E))
 tNext)

theorem len_Circle_check_seat {K : PySem.W.Frag} : ∀ vs H Q E, sp_Circle_check_seat K vs H Q E → vs.length = ["a", "b"].length := by
  rintro vs H Q E ⟨_, _, _, rfl, _⟩; rfl
theorem pure_Circle_check_seat {K : PySem.W.Frag} {vs : List V} {H : Hp} {Q : VK} {E : XK} (h : sp_Circle_check_seat K vs H Q E) : t_Circle_check_seat K E { nx := fun _ H' => Q .non H', rt := Q } (start N_Circle_check_seat vs) H := by
  obtain ⟨a, st, i, rfl, hc, k1, k2⟩ := h
  unfold t_Circle_check_seat
  walk_at "xs"
  walk_at "if"
  · rename_i c1
    walk_at "xs"
    walk_at "if"
    · rename_i c2
      exact k2 fun z => c2 z.2
    · rename_i c2
      walk_at "xs"
      exact k1 c1 (by simpa using c2)
  · rename_i c1
    walk_at "xs"
    exact k2 fun z => c1 z.1

end Su
namespace Su
open PySem L2
local macro_rules | `(tactic| walk_at "side") => `(tactic| first | assumption | (show (0 : Int) < _; omega) | (show (0 : Int) ≤ _; omega) | (show (0 : Int) < _; split <;> omega) | (show _ ∨ _; omega) | (show _ ∧ _; omega) | exact ⟨by decide, by decide, by decide⟩ | exact ⟨by first | assumption | omega, by first | assumption | omega⟩)
local macro_rules | `(tactic| walk_at "x") => `(tactic| first | with_reducible refine Su.x_seq ?_ | with_reducible refine Su.x_drop ?_ | with_reducible refine Su.x_ret ?_ | with_reducible refine Su.x_ifS ?_ | ((with_reducible show L2.tVar _ _ _ _); refine Su.x_var rfl ?_) | with_reducible refine Su.x_c ?_ | with_reducible refine Su.x_op ?_ | with_reducible refine Su.x_rI0 ?_ | with_reducible refine Su.x_eqS ?_ | with_reducible refine Su.x_test ?_ | with_reducible refine Su.x_isB' ?_ | with_reducible refine Su.x_nil ?_ | with_reducible refine Su.x_cons ?_ | with_reducible refine Su.x_bmL ?_ | with_reducible refine Su.x_next ?_)
local macro_rules | `(tactic| walk_at "xs") => `(tactic| repeat walk_at "x")
local macro_rules | `(tactic| walk_at "if") => `(tactic| first | with_reducible refine Su.x_iteD (fun c => ?_) (fun c => ?_) | with_reducible refine Su.x_iteN (fun c => ?_) (fun c => ?_) | with_reducible refine Su.x_ite (fun c => ?_) (fun c => ?_))
local macro_rules | `(tactic| walk_at "at") => `(tactic| first | assumption | (refine Su.f_at (by assumption) ?_; walk_at "at"))
local macro_rules | `(tactic| walk_at "sm") => `(tactic| first | assumption | exact L2.Same.refl _ | (refine Su.f_tr (by assumption) ?_; walk_at "sm"))
local macro_rules | `(tactic| walk_at "hp") => `(tactic| first | assumption | ((with_reducible refine Su.f_sqL ?_); walk_at "at") | ((with_reducible refine Su.f_sqT ?_); walk_at "at") | ((with_reducible show L2.Same _ _); walk_at "sm") | ((with_reducible show _ = none); refine Su.f_free ?_ (by assumption); walk_at "sm") | ((with_reducible show _ = some _); walk_at "at") | (refine Su.f_dp (by assumption) ?_; walk_at "hp") | (refine Su.f_dpA (by assumption) ?_; walk_at "hp") | (refine Su.f_sqLs (by assumption) ?_; walk_at "hp") | (refine Su.f_sqTs (by assumption) ?_; walk_at "hp"))
local macro_rules | `(tactic| walk_at "x") => `(tactic| first | with_reducible refine Su.x_fld ?_ | with_reducible refine Su.x_meth ?_ | with_reducible refine Su.c_now (by assumption) ?_ | with_reducible refine Su.c_line (by assumption) ?_ | with_reducible refine Su.c_due (by assumption) ?_ | with_reducible refine Su.c_state (by assumption) ?_ | with_reducible refine Su.c_when (by assumption) ?_)
local macro_rules | `(tactic| walk_at "me") => `(tactic| first | refine Su.c_meth (by assumption) rfl ?_ | refine Su.so_meth (by assumption) rfl ?_)

def expS (st : CS) (n : Nat) : Int := if (st.get n).st = .waits then (st.now : Int) + (st.due : Int) + (st.line.idxOf n : Nat) else if (st.get n).st = .drew then (st.get n).wh else 0
def sp_Circle_expected (K : PySem.W.Frag) : Sp := fun vs H Q E => ∃ (a : Nat → Addr) (st : CS) (i : Int), vs = [.ref (a 0), .int i] ∧ CirAt K H a st ∧ (¬ (0 ≤ i ∧ i < st.size) → E (.ref (He.ga K "NoSeat")) none H) ∧ ∀ n : Nat, i = n → n < st.size → ((st.get n).st = .waits → n ∈ st.line) ∧ Q (.int (expS st n)) H
abbrev N_Circle_expected : List Str := ["self", "at"]
def t_Circle_expected (K : PySem.W.Frag) (E : XK) : TS :=
 (tSeq (tDrop (tMeth (He.ga K "Circle") "check_seat" (sp_Circle_check_seat K) [] E (tVar 0) (tCons (tVar 1) tNil)))
 (tSeq (tIfS (tTest (tOp rEq (tOp (rIxL K) (tFld K (tVar 0) "state") (tVar 1)) (tC (.str "waits"))))
 (tRet (tOp rAdd (tOp rAdd (tFld K (tVar 0) "now") (tFld K (tVar 0) "due")) (tBM K "list" (rIndex K) (tFld K (tVar 0) "line") (tCons (tVar 1) tNil))))
 tNext)
 (tSeq (tIfS (tTest (tOp rEq (tOp (rIxL K) (tFld K (tVar 0) "state") (tVar 1)) (tC (.str "drew"))))
 (tRet (tOp (rIxL K) (tFld K (tVar 0) "when") (tVar 1)))
 tNext)
 (tRet (tC (.int 0))))))

theorem len_Circle_expected {K : PySem.W.Frag} : ∀ vs H Q E, sp_Circle_expected K vs H Q E → vs.length = ["a", "b"].length := by
  rintro vs H Q E ⟨_, _, _, rfl, _⟩; rfl
theorem pure_Circle_expected {K : PySem.W.Frag} {vs : List V} {H : Hp} {Q : VK} {E : XK} (h : sp_Circle_expected K vs H Q E) : t_Circle_expected K E { nx := fun _ H' => Q .non H', rt := Q } (start N_Circle_expected vs) H := by
  obtain ⟨a, st, i, rfl, hc, k2, k1⟩ := h
  unfold t_Circle_expected
  walk_at "xs"
  walk_at "me"
  walk_at "xs"
  refine ⟨a, st, i, rfl, hc, fun h0 h1 => ?_, k2⟩
  obtain ⟨n, rfl⟩ : ∃ n : Nat, i = n := ⟨i.toNat, by omega⟩
  have hn : n < st.size := by omega
  obtain ⟨wl, q⟩ := k1 n rfl hn
  unfold expS at q
  walk_at "xs"
  refine i_state hc rfl hn ?_
  walk_at "xs"
  walk_at "if"
  · rename_i c
    rw [seat_waits] at c
    rw [if_pos c] at q
    walk_at "xs"
    refine ⟨tyL (SqL.of (hc.at_ 2 (by omega))), ?_⟩
    walk_at "xs"
    refine x_indexN rfl (SqL.of (hc.at_ 2 (by omega))) (wl c) ?_
    walk_at "xs"
    exact q
  · rename_i c
    rw [seat_waits] at c
    rw [if_neg c] at q
    walk_at "xs"
    refine i_state hc rfl hn ?_
    walk_at "xs"
    walk_at "if"
    · rename_i c
      rw [seat_drew] at c
      rw [if_pos c] at q
      walk_at "xs"
      exact i_when hc rfl hn q
    · rename_i c
      rw [seat_drew] at c
      rw [if_neg c] at q
      walk_at "xs"
      exact q

end Su
namespace Su
open PySem L2
local macro_rules | `(tactic| walk_at "side") => `(tactic| first | assumption | (show (0 : Int) < _; omega) | (show (0 : Int) ≤ _; omega) | (show (0 : Int) < _; split <;> omega) | (show _ ∨ _; omega) | (show _ ∧ _; omega) | exact ⟨by decide, by decide, by decide⟩ | exact ⟨by first | assumption | omega, by first | assumption | omega⟩)
local macro_rules | `(tactic| walk_at "x") => `(tactic| first | with_reducible refine Su.x_seq ?_ | with_reducible refine Su.x_drop ?_ | with_reducible refine Su.x_ret ?_ | with_reducible refine Su.x_ifS ?_ | ((with_reducible show L2.tVar _ _ _ _); refine Su.x_var rfl ?_) | with_reducible refine Su.x_c ?_ | with_reducible refine Su.x_op ?_ | with_reducible refine Su.x_rI0 ?_ | ((with_reducible refine Su.x_rI ?_ ?_); focus walk_at "side") | with_reducible refine Su.x_eqS ?_ | with_reducible refine Su.x_test ?_ | with_reducible refine Su.x_isB' ?_ | with_reducible refine Su.x_nil ?_ | with_reducible refine Su.x_cons ?_ | with_reducible refine Su.x_next ?_)
local macro_rules | `(tactic| walk_at "xs") => `(tactic| repeat walk_at "x")
local macro_rules | `(tactic| walk_at "if") => `(tactic| first | with_reducible refine Su.x_iteD (fun c => ?_) (fun c => ?_) | with_reducible refine Su.x_iteN (fun c => ?_) (fun c => ?_) | with_reducible refine Su.x_ite (fun c => ?_) (fun c => ?_))
local macro_rules | `(tactic| walk_at "at") => `(tactic| first | assumption | (refine Su.f_at (by assumption) ?_; walk_at "at"))
local macro_rules | `(tactic| walk_at "sm") => `(tactic| first | assumption | exact L2.Same.refl _ | (refine Su.f_tr (by assumption) ?_; walk_at "sm"))
local macro_rules | `(tactic| walk_at "hp") => `(tactic| first | assumption | ((with_reducible refine Su.f_sqL ?_); walk_at "at") | ((with_reducible refine Su.f_sqT ?_); walk_at "at") | ((with_reducible show L2.Same _ _); walk_at "sm") | ((with_reducible show _ = none); refine Su.f_free ?_ (by assumption); walk_at "sm") | ((with_reducible show _ = some _); walk_at "at") | (refine Su.f_dp (by assumption) ?_; walk_at "hp") | (refine Su.f_dpA (by assumption) ?_; walk_at "hp") | (refine Su.f_sqLs (by assumption) ?_; walk_at "hp") | (refine Su.f_sqTs (by assumption) ?_; walk_at "hp"))
local macro_rules | `(tactic| walk_at "x") => `(tactic| first | with_reducible refine Su.x_fld ?_ | with_reducible refine Su.x_meth ?_ | with_reducible refine Su.c_stake (by assumption) ?_ | with_reducible refine Su.c_size (by assumption) ?_ | with_reducible refine Su.c_now (by assumption) ?_ | with_reducible refine Su.c_state (by assumption) ?_)
local macro_rules | `(tactic| walk_at "me") => `(tactic| first | refine Su.c_meth (by assumption) rfl ?_ | refine Su.so_meth (by assumption) rfl ?_)

def owedS (st : CS) (n : Nat) : Int := if (st.get n).st = .fell then 0 else st.stake * ((st.size : Int) + 1 - (st.now : Int))
def sp_Circle_owed (K : PySem.W.Frag) : Sp := fun vs H Q E => ∃ (a : Nat → Addr) (st : CS) (i : Int), vs = [.ref (a 0), .int i] ∧ CirAt K H a st ∧ (¬ (0 ≤ i ∧ i < st.size) → E (.ref (He.ga K "NoSeat")) none H) ∧ -(2 ^ 64) < st.stake ∧ st.stake < 2 ^ 64 ∧ ∀ n : Nat, i = n → n < st.size → Q (.int (owedS st n)) H
abbrev N_Circle_owed : List Str := ["self", "at"]
def t_Circle_owed (K : PySem.W.Frag) (E : XK) : TS :=
 (tSeq (tDrop (tMeth (He.ga K "Circle") "check_seat" (sp_Circle_check_seat K) [] E (tVar 0) (tCons (tVar 1) tNil)))
 (tSeq (tIfS (tTest (tOp rEq (tOp (rIxL K) (tFld K (tVar 0) "state") (tVar 1)) (tC (.str "fell"))))
 (tRet (tC (.int 0)))
 tNext)
 (tRet (tOp rMul (tFld K (tVar 0) "stake") (tOp rSub (tOp rAdd (tFld K (tVar 0) "size") (tC (.int 1))) (tFld K (tVar 0) "now"))))))

theorem len_Circle_owed {K : PySem.W.Frag} : ∀ vs H Q E, sp_Circle_owed K vs H Q E → vs.length = ["a", "b"].length := by
  rintro vs H Q E ⟨_, _, _, rfl, _⟩; rfl
theorem pure_Circle_owed {K : PySem.W.Frag} {vs : List V} {H : Hp} {Q : VK} {E : XK} (h : sp_Circle_owed K vs H Q E) : t_Circle_owed K E { nx := fun _ H' => Q .non H', rt := Q } (start N_Circle_owed vs) H := by
  obtain ⟨a, st, i, rfl, hc, k2, b1, b2, k1⟩ := h
  unfold t_Circle_owed
  walk_at "xs"
  walk_at "me"
  walk_at "xs"
  refine ⟨a, st, i, rfl, hc, fun h0 h1 => ?_, k2⟩
  obtain ⟨n, rfl⟩ : ∃ n : Nat, i = n := ⟨i.toNat, by omega⟩
  have hn : n < st.size := by omega
  have q := k1 n rfl hn
  unfold owedS at q
  walk_at "xs"
  refine i_state hc rfl hn ?_
  walk_at "xs"
  walk_at "if"
  · rename_i c
    rw [seat_fell] at c
    rw [if_pos c] at q
    walk_at "xs"
    exact q
  · rename_i c
    rw [seat_fell] at c
    rw [if_neg c] at q
    walk_at "xs"
    exact q

end Su
namespace Su
open PySem L2
local macro_rules | `(tactic| walk_at "side") => `(tactic| first | assumption | (show (0 : Int) < _; omega) | (show (0 : Int) ≤ _; omega) | (show (0 : Int) < _; split <;> omega) | (show _ ∨ _; omega) | (show _ ∧ _; omega) | exact ⟨by decide, by decide, by decide⟩ | exact ⟨by first | assumption | omega, by first | assumption | omega⟩)
local macro_rules | `(tactic| walk_at "xs") => `(tactic| repeat walk_at "x")
local macro_rules | `(tactic| walk_at "if") => `(tactic| first | with_reducible refine Su.x_iteD (fun c => ?_) (fun c => ?_) | with_reducible refine Su.x_iteN (fun c => ?_) (fun c => ?_) | with_reducible refine Su.x_ite (fun c => ?_) (fun c => ?_))

/-! circles stay well formed -/
theorem addLast_len (l : List Int) (x : Int) : (addLast l x).length = l.length := by unfold addLast; rw [List.length_set]
theorem drawS_get {st : CS} {bids : List Int} {i : Nat} (h : i < st.size) : (drawS st bids).get i = drawSeat (winnerS st bids).1 st.now (shareB st bids) (gotB st bids) i (st.get i) := by
  unfold drawS shareB gotB
  exact get_mapIdx h
theorem drawS_size {st : CS} {bids : List Int} : (drawS st bids).size = st.size := by
  unfold drawS
  show (List.mapIdx _ _).length = _
  rw [List.length_mapIdx]
section
variable {st : CS} {paid : List Bool} {bids : List Int}
theorem closeS_box (h : 0 < (payS st paid).due) : closeS st paid bids = { payS st paid with due := (payS st paid).due - 1, chest := st.chest + payCoins st paid, now := st.now + 1 } := by unfold closeS; rw [if_pos h]
theorem closeS_draw (h : ¬ 0 < (payS st paid).due) : closeS st paid bids = { drawS (payS st paid) bids with chest := st.chest + (payCoins st paid - st.stake * (st.size : Int)), now := st.now + 1 } := by unfold closeS; rw [if_neg h]
theorem closeS_size : (closeS st paid bids).size = st.size := by
  by_cases h : 0 < (payS st paid).due
  · rw [closeS_box h]; exact payS_size
  · rw [closeS_draw h]; exact drawS_size.trans payS_size
theorem closeS_now : (closeS st paid bids).now = st.now + 1 := by unfold closeS; split <;> rfl
theorem closeS_stake : (closeS st paid bids).stake = st.stake := by
  unfold closeS; split
  · exact payS_stake
  · exact payS_stake
theorem payS_bidding : (payS st paid).bidding = st.bidding := by unfold payS collectS; rw [outS_eq]
theorem pay_wh (wf : WF st) {i : Nat} (hi : i < st.size) (h : ((payS st paid).get i).st = .fell) : ((payS st paid).get i).wh < st.now + 1 := by
  rw [payS_get hi] at h ⊢
  rw [collect_st] at h
  have e : ∀ r : SeatR, (collectSeat st.stake st.now (helpedS st paid) i r).wh = r.wh := fun r => by
    unfold collectSeat; split
    · rfl
    · split <;> rfl
  rw [e]
  rw [outS_get hi] at h ⊢
  by_cases c : i ∈ fallenS st paid
  · rw [if_pos c]; show (st.now : Int) < _; omega
  · rw [if_neg c] at h ⊢
    have := wf.wh i hi h
    omega
theorem line_ne (wf : WF st) (hn : ¬ st.size < st.now) (h : ¬ 0 < (payS st paid).due) : (payS st paid).line ≠ [] := fun z => by
  have := (pay_ok (paid := paid) wf).cnt
  rw [z] at this
  simp at this
  omega
theorem wf_close (wf : WF st) (hn : ¬ st.size < st.now) : WF (closeS st paid bids) := by
  have po := pay_ok (paid := paid) wf
  by_cases h : 0 < (payS st paid).due
  · rw [closeS_box h]
    refine ⟨by show 1 ≤ (payS st paid).stake; rw [payS_stake]; exact wf.s1, by show (payS st paid).stake ≤ _; rw [payS_stake]; exact wf.s2, by show 2 ≤ (payS st paid).size; rw [po.size]; exact wf.n1, by show (payS st paid).size ≤ 20; rw [po.size]; exact wf.n2, po.nd, fun i => ?_, ?_, ?_, fun i hi => ?_, fun i hi hf => ?_⟩
    · show i ∈ (payS st paid).line ↔ (i < (payS st paid).size ∧ _)
      rw [po.size]; exact po.mem i
    · show (payS st paid).line.length + ((payS st paid).due - 1) + (st.now + 1) = (payS st paid).size + 1
      have := po.cnt
      rw [po.size]; omega
    · show 1 ≤ st.now + 1; omega
    · have hi : i < (payS st paid).size := hi
      rw [po.size] at hi
      show ((payS st paid).get i).fl.length + 1 = st.now + 1
      rw [po.fl i hi]
    · have hi : i < (payS st paid).size := hi
      rw [po.size] at hi
      have := pay_wh wf hi hf
      show ((payS st paid).get i).wh < ((st.now + 1 : Nat) : Int)
      omega
  · rw [closeS_draw h]
    have lne := line_ne wf hn h
    have win := winner_in (bids := bids) lne
    have zd : (drawS (payS st paid) bids).size = st.size := drawS_size.trans po.size
    have hw := (po.mem _).mp win
    have gd : ∀ i, i < st.size → (drawS (payS st paid) bids).get i = drawSeat (winnerS (payS st paid) bids).1 (payS st paid).now (shareB (payS st paid) bids) (gotB (payS st paid) bids) i ((payS st paid).get i) := fun i hi => drawS_get (by rw [po.size]; exact hi)
    have eline : (drawS (payS st paid) bids).line = (payS st paid).line.erase (winnerS (payS st paid) bids).1 := rfl
    refine ⟨by show 1 ≤ (payS st paid).stake; rw [payS_stake]; exact wf.s1, by show (payS st paid).stake ≤ _; rw [payS_stake]; exact wf.s2, by show 2 ≤ (drawS (payS st paid) bids).size; rw [zd]; exact wf.n1, by show (drawS (payS st paid) bids).size ≤ 20; rw [zd]; exact wf.n2, po.nd.erase _, fun i => ?_, ?_, ?_, fun i hi => ?_, fun i hi hf => ?_⟩
    · show i ∈ (payS st paid).line.erase _ ↔ (i < (drawS (payS st paid) bids).size ∧ ((drawS (payS st paid) bids).get i).st = .waits)
      rw [zd, po.nd.mem_erase_iff, po.mem]
      constructor
      · rintro ⟨h1, h2, h3⟩
        refine ⟨h2, ?_⟩
        rw [gd i h2]
        unfold drawSeat
        rw [if_neg h1, if_pos (by rw [h3]; decide)]; exact h3
      · rintro ⟨h1, h2⟩
        rw [gd i h1] at h2
        unfold drawSeat at h2
        by_cases c : i = (winnerS (payS st paid) bids).1
        · rw [if_pos c] at h2; cases h2
        · rw [if_neg c] at h2
          refine ⟨c, h1, ?_⟩
          split at h2
          · exact h2
          · exact h2
    · show ((payS st paid).line.erase _).length + (payS st paid).due + (st.now + 1) = (drawS (payS st paid) bids).size + 1
      have := po.cnt
      have l1 := List.length_pos_of_mem win
      rw [List.length_erase_of_mem win, zd]; omega
    · show 1 ≤ st.now + 1; omega
    · have hi : i < (drawS (payS st paid) bids).size := hi
      rw [zd] at hi
      show ((drawS (payS st paid) bids).get i).fl.length + 1 = st.now + 1
      rw [gd i hi]
      have := po.fl i hi
      unfold drawSeat
      split
      · show (addLast _ _).length + 1 = _; rw [addLast_len]; omega
      · split
        · show (addLast _ _).length + 1 = _; rw [addLast_len]; omega
        · omega
    · have hi : i < (drawS (payS st paid) bids).size := hi
      rw [zd] at hi
      have hf : ((drawS (payS st paid) bids).get i).st = .fell := hf
      show ((drawS (payS st paid) bids).get i).wh < ((st.now + 1 : Nat) : Int)
      rw [gd i hi] at hf ⊢
      unfold drawSeat at hf ⊢
      by_cases c : i = (winnerS (payS st paid) bids).1
      · rw [if_pos c] at hf; cases hf
      · rw [if_neg c] at hf ⊢
        split at hf
        · rename_i z; exact absurd hf z
        · rename_i z
          rw [if_neg z]
          have := pay_wh wf hi hf
          omega
end
theorem openS_get {s : Int} {b : Bool} {pl : List Int} {row : List Nat} {i : Nat} (h : i < pl.length) : (openS s b pl row).get i = { pl := pl.getD i 0 } := by
  show (pl.map fun p => ({ pl := p } : SeatR)).getD i {} = _
  rw [List.getD_eq_getElem?_getD, List.getElem?_map, List.getD_eq_getElem?_getD, List.getElem?_eq_getElem h]; rfl
theorem openS_size {s : Int} {b : Bool} {pl : List Int} {row : List Nat} : (openS s b pl row).size = pl.length := by simp [openS, CS.size]
theorem mem_order {ws : List (Int × Int)} {row : List Nat} (o : IsOrder ws row) (i : Nat) : i ∈ row ↔ i < ws.length := (perm_of_order o).mem_iff.trans List.mem_range
theorem wf_open {s : Int} {b : Bool} {pl ws : List Int} {row : List Nat} (ok : OpenOk s pl ws) (o : IsOrder (openWin s pl ws) row) : WF (openS s b pl row) := by
  have owl : (openWin s pl ws).length = pl.length := by unfold openWin; rw [List.length_zipWith, ok.nw]; omega
  refine ⟨ok.s1, ok.s2, by rw [openS_size]; exact ok.n1, by rw [openS_size]; exact ok.n2, o.nd, fun i => ?_, ?_, Nat.le_refl _, fun i hi => ?_, fun i hi hf => ?_⟩
  · show i ∈ row ↔ _
    rw [mem_order o, owl, openS_size]
    exact ⟨fun h => ⟨h, by rw [openS_get h]⟩, fun h => h.1⟩
  · show row.length + 0 + 1 = _
    rw [o.len, owl, openS_size]
  · rw [openS_size] at hi
    rw [openS_get hi]; rfl
  · rw [openS_size] at hi
    rw [openS_get hi] at hf; cases hf
end Su
namespace Su
open PySem L2
local macro_rules | `(tactic| walk_at "side") => `(tactic| first | assumption | (show (0 : Int) < _; omega) | (show (0 : Int) ≤ _; omega) | (show (0 : Int) < _; split <;> omega) | (show _ ∨ _; omega) | (show _ ∧ _; omega) | exact ⟨by decide, by decide, by decide⟩ | exact ⟨by first | assumption | omega, by first | assumption | omega⟩)
local macro_rules | `(tactic| walk_at "x") => `(tactic| first | with_reducible refine Su.x_ret ?_ | ((with_reducible show L2.tVar _ _ _ _); refine Su.x_var rfl ?_) | with_reducible refine Su.x_nil ?_ | with_reducible refine Su.x_cons ?_ | with_reducible refine Su.x_cb ?_)
local macro_rules | `(tactic| walk_at "xs") => `(tactic| repeat walk_at "x")
local macro_rules | `(tactic| walk_at "if") => `(tactic| first | with_reducible refine Su.x_iteD (fun c => ?_) (fun c => ?_) | with_reducible refine Su.x_iteN (fun c => ?_) (fun c => ?_) | with_reducible refine Su.x_ite (fun c => ?_) (fun c => ?_))
local macro_rules | `(tactic| walk_at "at") => `(tactic| first | assumption | (refine Su.f_at (by assumption) ?_; walk_at "at"))
local macro_rules | `(tactic| walk_at "sm") => `(tactic| first | assumption | exact L2.Same.refl _ | (refine Su.f_tr (by assumption) ?_; walk_at "sm"))
local macro_rules | `(tactic| walk_at "hp") => `(tactic| first | assumption | ((with_reducible refine Su.f_sqL ?_); walk_at "at") | ((with_reducible refine Su.f_sqT ?_); walk_at "at") | ((with_reducible show L2.Same _ _); walk_at "sm") | ((with_reducible show _ = none); refine Su.f_free ?_ (by assumption); walk_at "sm") | ((with_reducible show _ = some _); walk_at "at") | (refine Su.f_dp (by assumption) ?_; walk_at "hp") | (refine Su.f_dpA (by assumption) ?_; walk_at "hp") | (refine Su.f_sqLs (by assumption) ?_; walk_at "hp") | (refine Su.f_sqTs (by assumption) ?_; walk_at "hp"))
local macro_rules | `(tactic| walk_at "x") => `(tactic| first | with_reducible refine Su.x_fld ?_ | with_reducible refine Su.c_line (by assumption) ?_)
local macro_rules | `(tactic| walk_at "me") => `(tactic| first | refine Su.c_meth (by assumption) rfl ?_ | refine Su.so_meth (by assumption) rfl ?_)

def sp_Circle_queue (K : PySem.W.Frag) : Sp := fun vs H Q E => ∃ (a : Nat → Addr) (st : CS), vs = [.ref (a 0)] ∧ CirAt K H a st ∧ ∀ p H', H p = none → Same H H' → H' p = some (.lst (nI st.line)) → Q (.ref p) H'
abbrev N_Circle_queue : List Str := ["self"]
def t_Circle_queue (K : PySem.W.Frag) : TS :=
 (tRet (tCB (rListOf K) (tCons (tFld K (tVar 0) "line") tNil)))

theorem len_Circle_queue {K : PySem.W.Frag} : ∀ vs H Q E, sp_Circle_queue K vs H Q E → vs.length = ["a"].length := by
  rintro vs H Q E ⟨_, _, rfl, _⟩; rfl
theorem pure_Circle_queue {K : PySem.W.Frag} {vs : List V} {H : Hp} {Q : VK} {E : XK} (h : sp_Circle_queue K vs H Q E) : t_Circle_queue K { nx := fun _ H' => Q .non H', rt := Q } (start N_Circle_queue vs) H := by
  obtain ⟨a, st, rfl, hc, k⟩ := h
  unfold t_Circle_queue
  walk_at "xs"
  exact al_list (SqL.of (hc.at_ 2 (by omega))) k

end Su
namespace Su
open PySem L2
local macro_rules | `(tactic| walk_at "side") => `(tactic| first | assumption | (show (0 : Int) < _; omega) | (show (0 : Int) ≤ _; omega) | (show (0 : Int) < _; split <;> omega) | (show _ ∨ _; omega) | (show _ ∧ _; omega) | exact ⟨by decide, by decide, by decide⟩ | exact ⟨by first | assumption | omega, by first | assumption | omega⟩)
local macro_rules | `(tactic| walk_at "x") => `(tactic| first | with_reducible refine Su.x_ret ?_ | ((with_reducible show L2.tVar _ _ _ _); refine Su.x_var rfl ?_))
local macro_rules | `(tactic| walk_at "xs") => `(tactic| repeat walk_at "x")
local macro_rules | `(tactic| walk_at "if") => `(tactic| first | with_reducible refine Su.x_iteD (fun c => ?_) (fun c => ?_) | with_reducible refine Su.x_iteN (fun c => ?_) (fun c => ?_) | with_reducible refine Su.x_ite (fun c => ?_) (fun c => ?_))
local macro_rules | `(tactic| walk_at "at") => `(tactic| first | assumption | (refine Su.f_at (by assumption) ?_; walk_at "at"))
local macro_rules | `(tactic| walk_at "sm") => `(tactic| first | assumption | exact L2.Same.refl _ | (refine Su.f_tr (by assumption) ?_; walk_at "sm"))
local macro_rules | `(tactic| walk_at "hp") => `(tactic| first | assumption | ((with_reducible refine Su.f_sqL ?_); walk_at "at") | ((with_reducible refine Su.f_sqT ?_); walk_at "at") | ((with_reducible show L2.Same _ _); walk_at "sm") | ((with_reducible show _ = none); refine Su.f_free ?_ (by assumption); walk_at "sm") | ((with_reducible show _ = some _); walk_at "at") | (refine Su.f_dp (by assumption) ?_; walk_at "hp") | (refine Su.f_dpA (by assumption) ?_; walk_at "hp") | (refine Su.f_sqLs (by assumption) ?_; walk_at "hp") | (refine Su.f_sqTs (by assumption) ?_; walk_at "hp"))
local macro_rules | `(tactic| walk_at "x") => `(tactic| first | with_reducible refine Su.x_fld ?_ | with_reducible refine Su.c_chest (by assumption) ?_)
local macro_rules | `(tactic| walk_at "me") => `(tactic| first | refine Su.c_meth (by assumption) rfl ?_ | refine Su.so_meth (by assumption) rfl ?_)

def sp_Circle_box (K : PySem.W.Frag) : Sp := fun vs H Q E => ∃ (a : Nat → Addr) (st : CS), vs = [.ref (a 0)] ∧ CirAt K H a st ∧ Q (.int st.chest) H
abbrev N_Circle_box : List Str := ["self"]
def t_Circle_box (K : PySem.W.Frag) : TS :=
 (tRet (tFld K (tVar 0) "chest"))

theorem len_Circle_box {K : PySem.W.Frag} : ∀ vs H Q E, sp_Circle_box K vs H Q E → vs.length = ["a"].length := by
  rintro vs H Q E ⟨_, _, rfl, _⟩; rfl
theorem pure_Circle_box {K : PySem.W.Frag} {vs : List V} {H : Hp} {Q : VK} {E : XK} (h : sp_Circle_box K vs H Q E) : t_Circle_box K { nx := fun _ H' => Q .non H', rt := Q } (start N_Circle_box vs) H := by
  obtain ⟨a, st, rfl, hc, k⟩ := h
  unfold t_Circle_box
  walk_at "xs"
  exact k

end Su
namespace Su
open PySem L2
local macro_rules | `(tactic| walk_at "side") => `(tactic| first | assumption | (show (0 : Int) < _; omega) | (show (0 : Int) ≤ _; omega) | (show (0 : Int) < _; split <;> omega) | (show _ ∨ _; omega) | (show _ ∧ _; omega) | exact ⟨by decide, by decide, by decide⟩ | exact ⟨by first | assumption | omega, by first | assumption | omega⟩)
local macro_rules | `(tactic| walk_at "x") => `(tactic| first | with_reducible refine Su.x_ret ?_ | ((with_reducible show L2.tVar _ _ _ _); refine Su.x_var rfl ?_))
local macro_rules | `(tactic| walk_at "xs") => `(tactic| repeat walk_at "x")
local macro_rules | `(tactic| walk_at "if") => `(tactic| first | with_reducible refine Su.x_iteD (fun c => ?_) (fun c => ?_) | with_reducible refine Su.x_iteN (fun c => ?_) (fun c => ?_) | with_reducible refine Su.x_ite (fun c => ?_) (fun c => ?_))
local macro_rules | `(tactic| walk_at "at") => `(tactic| first | assumption | (refine Su.f_at (by assumption) ?_; walk_at "at"))
local macro_rules | `(tactic| walk_at "sm") => `(tactic| first | assumption | exact L2.Same.refl _ | (refine Su.f_tr (by assumption) ?_; walk_at "sm"))
local macro_rules | `(tactic| walk_at "hp") => `(tactic| first | assumption | ((with_reducible refine Su.f_sqL ?_); walk_at "at") | ((with_reducible refine Su.f_sqT ?_); walk_at "at") | ((with_reducible show L2.Same _ _); walk_at "sm") | ((with_reducible show _ = none); refine Su.f_free ?_ (by assumption); walk_at "sm") | ((with_reducible show _ = some _); walk_at "at") | (refine Su.f_dp (by assumption) ?_; walk_at "hp") | (refine Su.f_dpA (by assumption) ?_; walk_at "hp") | (refine Su.f_sqLs (by assumption) ?_; walk_at "hp") | (refine Su.f_sqTs (by assumption) ?_; walk_at "hp"))
local macro_rules | `(tactic| walk_at "x") => `(tactic| first | with_reducible refine Su.x_fld ?_ | with_reducible refine Su.c_now (by assumption) ?_)
local macro_rules | `(tactic| walk_at "me") => `(tactic| first | refine Su.c_meth (by assumption) rfl ?_ | refine Su.so_meth (by assumption) rfl ?_)

def sp_Circle_turn (K : PySem.W.Frag) : Sp := fun vs H Q E => ∃ (a : Nat → Addr) (st : CS), vs = [.ref (a 0)] ∧ CirAt K H a st ∧ Q (.int st.now) H
abbrev N_Circle_turn : List Str := ["self"]
def t_Circle_turn (K : PySem.W.Frag) : TS :=
 (tRet (tFld K (tVar 0) "now"))

theorem len_Circle_turn {K : PySem.W.Frag} : ∀ vs H Q E, sp_Circle_turn K vs H Q E → vs.length = ["a"].length := by
  rintro vs H Q E ⟨_, _, rfl, _⟩; rfl
theorem pure_Circle_turn {K : PySem.W.Frag} {vs : List V} {H : Hp} {Q : VK} {E : XK} (h : sp_Circle_turn K vs H Q E) : t_Circle_turn K { nx := fun _ H' => Q .non H', rt := Q } (start N_Circle_turn vs) H := by
  obtain ⟨a, st, rfl, hc, k⟩ := h
  unfold t_Circle_turn
  walk_at "xs"
  exact k

end Su
namespace Su
open PySem L2
local macro_rules | `(tactic| walk_at "side") => `(tactic| first | assumption | (show (0 : Int) < _; omega) | (show (0 : Int) ≤ _; omega) | (show (0 : Int) < _; split <;> omega) | (show _ ∨ _; omega) | (show _ ∧ _; omega) | exact ⟨by decide, by decide, by decide⟩ | exact ⟨by first | assumption | omega, by first | assumption | omega⟩)
local macro_rules | `(tactic| walk_at "x") => `(tactic| first | with_reducible refine Su.x_ret ?_ | ((with_reducible show L2.tVar _ _ _ _); refine Su.x_var rfl ?_))
local macro_rules | `(tactic| walk_at "xs") => `(tactic| repeat walk_at "x")
local macro_rules | `(tactic| walk_at "if") => `(tactic| first | with_reducible refine Su.x_iteD (fun c => ?_) (fun c => ?_) | with_reducible refine Su.x_iteN (fun c => ?_) (fun c => ?_) | with_reducible refine Su.x_ite (fun c => ?_) (fun c => ?_))
local macro_rules | `(tactic| walk_at "at") => `(tactic| first | assumption | (refine Su.f_at (by assumption) ?_; walk_at "at"))
local macro_rules | `(tactic| walk_at "sm") => `(tactic| first | assumption | exact L2.Same.refl _ | (refine Su.f_tr (by assumption) ?_; walk_at "sm"))
local macro_rules | `(tactic| walk_at "hp") => `(tactic| first | assumption | ((with_reducible refine Su.f_sqL ?_); walk_at "at") | ((with_reducible refine Su.f_sqT ?_); walk_at "at") | ((with_reducible show L2.Same _ _); walk_at "sm") | ((with_reducible show _ = none); refine Su.f_free ?_ (by assumption); walk_at "sm") | ((with_reducible show _ = some _); walk_at "at") | (refine Su.f_dp (by assumption) ?_; walk_at "hp") | (refine Su.f_dpA (by assumption) ?_; walk_at "hp") | (refine Su.f_sqLs (by assumption) ?_; walk_at "hp") | (refine Su.f_sqTs (by assumption) ?_; walk_at "hp"))
local macro_rules | `(tactic| walk_at "x") => `(tactic| first | with_reducible refine Su.x_fld ?_ | with_reducible refine Su.c_due (by assumption) ?_)
local macro_rules | `(tactic| walk_at "me") => `(tactic| first | refine Su.c_meth (by assumption) rfl ?_ | refine Su.so_meth (by assumption) rfl ?_)

def sp_Circle_rests (K : PySem.W.Frag) : Sp := fun vs H Q E => ∃ (a : Nat → Addr) (st : CS), vs = [.ref (a 0)] ∧ CirAt K H a st ∧ Q (.int st.due) H
abbrev N_Circle_rests : List Str := ["self"]
def t_Circle_rests (K : PySem.W.Frag) : TS :=
 (tRet (tFld K (tVar 0) "due"))

theorem len_Circle_rests {K : PySem.W.Frag} : ∀ vs H Q E, sp_Circle_rests K vs H Q E → vs.length = ["a"].length := by
  rintro vs H Q E ⟨_, _, rfl, _⟩; rfl
theorem pure_Circle_rests {K : PySem.W.Frag} {vs : List V} {H : Hp} {Q : VK} {E : XK} (h : sp_Circle_rests K vs H Q E) : t_Circle_rests K { nx := fun _ H' => Q .non H', rt := Q } (start N_Circle_rests vs) H := by
  obtain ⟨a, st, rfl, hc, k⟩ := h
  unfold t_Circle_rests
  walk_at "xs"
  exact k

end Su
namespace Su
open PySem L2
local macro_rules | `(tactic| walk_at "side") => `(tactic| first | assumption | (show (0 : Int) < _; omega) | (show (0 : Int) ≤ _; omega) | (show (0 : Int) < _; split <;> omega) | (show _ ∨ _; omega) | (show _ ∧ _; omega) | exact ⟨by decide, by decide, by decide⟩ | exact ⟨by first | assumption | omega, by first | assumption | omega⟩)
local macro_rules | `(tactic| walk_at "x") => `(tactic| first | with_reducible refine Su.x_seq ?_ | with_reducible refine Su.x_drop ?_ | with_reducible refine Su.x_ret ?_ | ((with_reducible show L2.tVar _ _ _ _); refine Su.x_var rfl ?_) | with_reducible refine Su.x_op ?_ | with_reducible refine Su.x_nil ?_ | with_reducible refine Su.x_cons ?_ | with_reducible refine Su.x_tup ?_)
local macro_rules | `(tactic| walk_at "xs") => `(tactic| repeat walk_at "x")
local macro_rules | `(tactic| walk_at "if") => `(tactic| first | with_reducible refine Su.x_iteD (fun c => ?_) (fun c => ?_) | with_reducible refine Su.x_iteN (fun c => ?_) (fun c => ?_) | with_reducible refine Su.x_ite (fun c => ?_) (fun c => ?_))
local macro_rules | `(tactic| walk_at "at") => `(tactic| first | assumption | (refine Su.f_at (by assumption) ?_; walk_at "at"))
local macro_rules | `(tactic| walk_at "sm") => `(tactic| first | assumption | exact L2.Same.refl _ | (refine Su.f_tr (by assumption) ?_; walk_at "sm"))
local macro_rules | `(tactic| walk_at "hp") => `(tactic| first | assumption | ((with_reducible refine Su.f_sqL ?_); walk_at "at") | ((with_reducible refine Su.f_sqT ?_); walk_at "at") | ((with_reducible show L2.Same _ _); walk_at "sm") | ((with_reducible show _ = none); refine Su.f_free ?_ (by assumption); walk_at "sm") | ((with_reducible show _ = some _); walk_at "at") | (refine Su.f_dp (by assumption) ?_; walk_at "hp") | (refine Su.f_dpA (by assumption) ?_; walk_at "hp") | (refine Su.f_sqLs (by assumption) ?_; walk_at "hp") | (refine Su.f_sqTs (by assumption) ?_; walk_at "hp"))
local macro_rules | `(tactic| walk_at "x") => `(tactic| first | with_reducible refine Su.x_fld ?_ | with_reducible refine Su.x_meth ?_ | with_reducible refine Su.c_state (by assumption) ?_ | with_reducible refine Su.c_when (by assumption) ?_ | with_reducible refine Su.c_pledged (by assumption) ?_ | with_reducible refine Su.c_given (by assumption) ?_ | with_reducible refine Su.c_drawn (by assumption) ?_ | with_reducible refine Su.c_shared (by assumption) ?_ | with_reducible refine Su.c_missed (by assumption) ?_)
local macro_rules | `(tactic| walk_at "me") => `(tactic| first | refine Su.c_meth (by assumption) rfl ?_ | refine Su.so_meth (by assumption) rfl ?_)

def seatV (r : SeatR) : List V := [.str r.st.s, .int r.wh, .int r.pl, .int r.gv, .int r.dr, .int r.sh, .int r.ms]
def sp_Circle_seat (K : PySem.W.Frag) : Sp := fun vs H Q E => ∃ (a : Nat → Addr) (st : CS) (i : Int), vs = [.ref (a 0), .int i] ∧ CirAt K H a st ∧ (¬ (0 ≤ i ∧ i < st.size) → E (.ref (He.ga K "NoSeat")) none H) ∧ ∀ n : Nat, i = n → n < st.size → ∀ p H', H p = none → Same H H' → H' p = some (.tup (seatV (st.get n))) → Q (.ref p) H'
abbrev N_Circle_seat : List Str := ["self", "at"]
def t_Circle_seat (K : PySem.W.Frag) (E : XK) : TS :=
 (tSeq (tDrop (tMeth (He.ga K "Circle") "check_seat" (sp_Circle_check_seat K) [] E (tVar 0) (tCons (tVar 1) tNil)))
 (tRet (tTup (tCons (tOp (rIxL K) (tFld K (tVar 0) "state") (tVar 1)) (tCons (tOp (rIxL K) (tFld K (tVar 0) "when") (tVar 1)) (tCons (tOp (rIxL K) (tFld K (tVar 0) "pledged") (tVar 1)) (tCons (tOp (rIxL K) (tFld K (tVar 0) "given") (tVar 1)) (tCons (tOp (rIxL K) (tFld K (tVar 0) "drawn") (tVar 1)) (tCons (tOp (rIxL K) (tFld K (tVar 0) "shared") (tVar 1)) (tCons (tOp (rIxL K) (tFld K (tVar 0) "missed") (tVar 1)) tNil))))))))))

theorem len_Circle_seat {K : PySem.W.Frag} : ∀ vs H Q E, sp_Circle_seat K vs H Q E → vs.length = ["a", "b"].length := by
  rintro vs H Q E ⟨_, _, _, rfl, _⟩; rfl
theorem pure_Circle_seat {K : PySem.W.Frag} {vs : List V} {H : Hp} {Q : VK} {E : XK} (h : sp_Circle_seat K vs H Q E) : t_Circle_seat K E { nx := fun _ H' => Q .non H', rt := Q } (start N_Circle_seat vs) H := by
  obtain ⟨a, st, i, rfl, hc, k2, k1⟩ := h
  unfold t_Circle_seat
  walk_at "xs"
  walk_at "me"
  walk_at "xs"
  refine ⟨a, st, i, rfl, hc, fun h0 h1 => ?_, k2⟩
  obtain ⟨n, rfl⟩ : ∃ n : Nat, i = n := ⟨i.toNat, by omega⟩
  have hn : n < st.size := by omega
  walk_at "xs"
  refine i_state hc rfl hn ?_
  walk_at "xs"
  refine i_when hc rfl hn ?_
  walk_at "xs"
  refine i_pledged hc rfl hn ?_
  walk_at "xs"
  refine i_given hc rfl hn ?_
  walk_at "xs"
  refine i_drawn hc rfl hn ?_
  walk_at "xs"
  refine i_shared hc rfl hn ?_
  walk_at "xs"
  refine i_missed hc rfl hn ?_
  walk_at "xs"
  exact al_tup (k1 n rfl hn)

end Su
namespace Su
open PySem L2
local macro_rules | `(tactic| walk_at "side") => `(tactic| first | assumption | (show (0 : Int) < _; omega) | (show (0 : Int) ≤ _; omega) | (show (0 : Int) < _; split <;> omega) | (show _ ∨ _; omega) | (show _ ∧ _; omega) | exact ⟨by decide, by decide, by decide⟩ | exact ⟨by first | assumption | omega, by first | assumption | omega⟩)
local macro_rules | `(tactic| walk_at "x") => `(tactic| first | with_reducible refine Su.x_seq ?_ | with_reducible refine Su.x_drop ?_ | with_reducible refine Su.x_ret ?_ | ((with_reducible show L2.tVar _ _ _ _); refine Su.x_var rfl ?_) | with_reducible refine Su.x_op ?_ | with_reducible refine Su.x_nil ?_ | with_reducible refine Su.x_cons ?_ | with_reducible refine Su.x_cb ?_)
local macro_rules | `(tactic| walk_at "xs") => `(tactic| repeat walk_at "x")
local macro_rules | `(tactic| walk_at "if") => `(tactic| first | with_reducible refine Su.x_iteD (fun c => ?_) (fun c => ?_) | with_reducible refine Su.x_iteN (fun c => ?_) (fun c => ?_) | with_reducible refine Su.x_ite (fun c => ?_) (fun c => ?_))
local macro_rules | `(tactic| walk_at "at") => `(tactic| first | assumption | (refine Su.f_at (by assumption) ?_; walk_at "at"))
local macro_rules | `(tactic| walk_at "sm") => `(tactic| first | assumption | exact L2.Same.refl _ | (refine Su.f_tr (by assumption) ?_; walk_at "sm"))
local macro_rules | `(tactic| walk_at "hp") => `(tactic| first | assumption | ((with_reducible refine Su.f_sqL ?_); walk_at "at") | ((with_reducible refine Su.f_sqT ?_); walk_at "at") | ((with_reducible show L2.Same _ _); walk_at "sm") | ((with_reducible show _ = none); refine Su.f_free ?_ (by assumption); walk_at "sm") | ((with_reducible show _ = some _); walk_at "at") | (refine Su.f_dp (by assumption) ?_; walk_at "hp") | (refine Su.f_dpA (by assumption) ?_; walk_at "hp") | (refine Su.f_sqLs (by assumption) ?_; walk_at "hp") | (refine Su.f_sqTs (by assumption) ?_; walk_at "hp"))
local macro_rules | `(tactic| walk_at "x") => `(tactic| first | with_reducible refine Su.x_fld ?_ | with_reducible refine Su.x_meth ?_ | with_reducible refine Su.c_flows (by assumption) ?_)
local macro_rules | `(tactic| walk_at "me") => `(tactic| first | refine Su.c_meth (by assumption) rfl ?_ | refine Su.so_meth (by assumption) rfl ?_)

def sp_Circle_flow (K : PySem.W.Frag) : Sp := fun vs H Q E => ∃ (a : Nat → Addr) (st : CS) (i : Int), vs = [.ref (a 0), .int i] ∧ CirAt K H a st ∧ (¬ (0 ≤ i ∧ i < st.size) → E (.ref (He.ga K "NoSeat")) none H) ∧ ∀ n : Nat, i = n → n < st.size → ∀ p H', H p = none → Same H H' → H' p = some (intsO (st.get n).fl) → Q (.ref p) H'
abbrev N_Circle_flow : List Str := ["self", "at"]
def t_Circle_flow (K : PySem.W.Frag) (E : XK) : TS :=
 (tSeq (tDrop (tMeth (He.ga K "Circle") "check_seat" (sp_Circle_check_seat K) [] E (tVar 0) (tCons (tVar 1) tNil)))
 (tRet (tCB (rListOf K) (tCons (tOp (rIxL K) (tFld K (tVar 0) "flows") (tVar 1)) tNil))))

theorem len_Circle_flow {K : PySem.W.Frag} : ∀ vs H Q E, sp_Circle_flow K vs H Q E → vs.length = ["a", "b"].length := by
  rintro vs H Q E ⟨_, _, _, rfl, _⟩; rfl
theorem pure_Circle_flow {K : PySem.W.Frag} {vs : List V} {H : Hp} {Q : VK} {E : XK} (h : sp_Circle_flow K vs H Q E) : t_Circle_flow K E { nx := fun _ H' => Q .non H', rt := Q } (start N_Circle_flow vs) H := by
  obtain ⟨a, st, i, rfl, hc, k2, k1⟩ := h
  unfold t_Circle_flow
  walk_at "xs"
  walk_at "me"
  walk_at "xs"
  refine ⟨a, st, i, rfl, hc, fun h0 h1 => ?_, k2⟩
  obtain ⟨n, rfl⟩ : ∃ n : Nat, i = n := ⟨i.toNat, by omega⟩
  have hn : n < st.size := by omega
  walk_at "xs"
  refine i_flows hc rfl hn ?_
  exact al_list (SqL.of (i_flow hc hn)) (k1 n rfl hn)

end Su
namespace Su
open PySem L2
local macro_rules | `(tactic| walk_at "side") => `(tactic| first | assumption | (show (0 : Int) < _; omega) | (show (0 : Int) ≤ _; omega) | (show (0 : Int) < _; split <;> omega) | (show _ ∨ _; omega) | (show _ ∧ _; omega) | exact ⟨by decide, by decide, by decide⟩ | exact ⟨by first | assumption | omega, by first | assumption | omega⟩)
local macro_rules | `(tactic| walk_at "x") => `(tactic| first
  | with_reducible refine Su.x_seq ?_ | with_reducible refine Su.x_asg ?_ | with_reducible refine Su.x_gname ?_ | with_reducible refine Su.x_drop ?_ | with_reducible refine Su.x_ret ?_ | with_reducible refine Su.x_ifS ?_
  | ((with_reducible show L2.tVar _ _ _ _); refine Su.x_var rfl ?_) | with_reducible refine Su.x_c ?_ | with_reducible refine Su.x_op ?_ | with_reducible refine Su.x_rI0 ?_ | ((with_reducible refine Su.x_rI ?_ ?_); focus walk_at "side")
  | ((with_reducible show L2.rIxL _ (L2.V.ref _) (L2.V.int _) _ _); refine Su.x_ixI (by assumption) (by first | decide | omega) (by omega) ?_) | with_reducible refine Su.x_isi_int_int ?_ | with_reducible refine Su.x_isi_int_bool ?_ | with_reducible refine Su.x_isi_int_str ?_ | with_reducible refine Su.x_isi_int_list ?_ | with_reducible refine Su.x_isi_int_tuple ?_ | with_reducible refine Su.x_isi_bool_int ?_ | with_reducible refine Su.x_isi_bool_bool ?_ | with_reducible refine Su.x_isi_bool_str ?_ | with_reducible refine Su.x_isi_bool_list ?_ | with_reducible refine Su.x_isi_bool_tuple ?_ | with_reducible refine Su.x_isi_str_int ?_ | with_reducible refine Su.x_isi_str_bool ?_ | with_reducible refine Su.x_isi_str_str ?_ | with_reducible refine Su.x_isi_str_list ?_ | with_reducible refine Su.x_isi_str_tuple ?_ | with_reducible refine Su.x_isi_NoneType_int ?_ | with_reducible refine Su.x_isi_NoneType_bool ?_ | with_reducible refine Su.x_isi_NoneType_str ?_ | with_reducible refine Su.x_isi_NoneType_list ?_ | with_reducible refine Su.x_isi_NoneType_tuple ?_ | with_reducible refine Su.x_rGt ?_ | with_reducible refine Su.x_rGe ?_ | with_reducible refine Su.x_iteF ?_ | with_reducible refine Su.x_iteT ?_ | with_reducible refine Su.x_iteNT ?_ | with_reducible refine Su.x_iteNF ?_ | with_reducible refine Su.x_eqI ?_ | with_reducible refine Su.x_neI ?_ | with_reducible refine Su.x_eqS ?_ | with_reducible refine Su.x_neS ?_ | with_reducible refine Su.x_eqB ?_ | with_reducible refine Su.x_neB ?_
  | with_reducible refine Su.x_test ?_ | with_reducible refine Su.x_tB ?_ | with_reducible refine Su.x_isB ?_ | with_reducible refine Su.x_isB' ?_ | with_reducible refine Su.x_not ?_ | with_reducible refine Su.x_and ?_ | with_reducible refine Su.x_or ?_
  | with_reducible refine Su.x_andV ?_ | with_reducible refine Su.x_orV ?_ | with_reducible refine Su.x_notV ?_ | with_reducible refine Su.x_chain ?_ | with_reducible refine Su.x_nil ?_ | with_reducible refine Su.x_cons ?_ | with_reducible refine Su.x_cb ?_ | with_reducible refine Su.x_call ?_
  | with_reducible refine Su.x_un ?_ | with_reducible refine Su.x_rU ?_ | with_reducible refine Su.x_abs ?_ | with_reducible refine Su.x_max2 ?_ | with_reducible refine Su.x_min2 ?_ | with_reducible refine Su.x_int1 ?_ | with_reducible refine Su.x_intB ?_
  | with_reducible refine Su.x_lst ?_ | with_reducible refine Su.x_tup ?_ | with_reducible refine Su.x_bmL ?_ | with_reducible refine Su.x_next ?_ | with_reducible refine Su.x_for ?_ | with_reducible refine Su.x_iList ?_ | with_reducible refine Su.x_iRng1 ?_ | with_reducible refine Su.x_iRng2 ?_ | with_reducible refine Su.x_whileN ?_ | with_reducible refine Su.x_iEnum ?_ | with_reducible refine Su.x_iZip ?_ | with_reducible refine Su.x_iZipA ?_ | with_reducible refine Su.x_iTup ?_ | with_reducible refine Su.x_gcons ?_ | with_reducible refine Su.x_gnil ?_ | with_reducible refine Su.x_gsub ?_ | with_reducible refine Su.x_yes ?_ | with_reducible refine Su.x_lc ?_ | with_reducible refine Su.x_sl ?_ | with_reducible refine Su.x_nopart ?_ | with_reducible refine Su.x_part ?_ | with_reducible refine Su.x_isI ?_ | with_reducible refine Su.x_lstRg ?_ | with_reducible refine Su.x_rg1 ?_ | with_reducible refine Su.x_augS ?_ | with_reducible refine Su.x_ipI ?_ | ((with_reducible show L2.tAug _ _ _ _ _ _); refine Su.x_aug rfl ?_) | with_reducible refine Su.x_callS ?_ | with_reducible refine Su.x_tryAs ?_)
local macro_rules | `(tactic| walk_at "xs") => `(tactic| repeat walk_at "x")
local macro_rules | `(tactic| walk_at "if") => `(tactic| first | with_reducible refine Su.x_iteD (fun c => ?_) (fun c => ?_) | with_reducible refine Su.x_iteN (fun c => ?_) (fun c => ?_) | with_reducible refine Su.x_ite (fun c => ?_) (fun c => ?_))
/-! what laws about circles share -/
theorem make_circleH {K : PySem.W.Frag} {H : Hp} {Q : Addr → Hp → Prop} {E : XK} (t : ClsT K "Circle" cirNames) {s : Int} {n : Nat} {p w : Addr} {pl ws : List Int} {b : Bool} (hp : SqL K H p (pl.map V.int)) (hw : SqL K H w (ws.map V.int)) (o : OpenHas s n pl ws)
    (q : ∀ a row H', Same H H' → (∀ x ∈ cirFoot a n, H x = none) → CirAt K H' a (openS s b pl row) → IsOrder (openWin s pl ws) row → paperOf (openWin s pl ws) = .order row → Q (a 0) H') :
    ∀ x dx, H x = none → H dx = none → dx ≠ x → sp_Circle_init K (.ref x :: ([.int s, .ref p, .ref w, .bl b] ++ [])) (upd (upd H dx (.own x)) x (.ins (He.ga K "Circle") dx [])) (fun v H2 => v = .non ∧ Q x H2) E := by
  intro x dx nx ndx ne
  have s1 : Same H (hide [x] (upd (upd H dx (.own x)) x (.ins (He.ga K "Circle") dx []))) := same_hide (same_upd (same_upd (Same.refl H) ndx) nx) fun a ha => by
    cases List.mem_singleton.mp ha; exact nx
  obtain ⟨row0, o0⟩ := o.ord
  obtain ⟨row, e, io⟩ := planted_told (openWin_ok o.ok) o0
  refine ⟨x, dx, s, p, w, pl, ws, b, rfl, t, upd_same, by rw [upd_ne ne, upd_same], ne, s1.seq hp, s1.seq hw, fun z => absurd o.ok z, fun _ => ⟨(fun _ _ _ z => by rw [e] at z; cases z), fun row' e' a H' a0 a1 fr off c => ⟨rfl, ?_⟩⟩⟩
  have er := e.symm.trans e'
  cases er
  have nf : ∀ y ∈ cirFoot a n, H y = none := fun y hy => by
    obtain ⟨j, hj, rfl⟩ := List.mem_map.mp hy
    rw [List.mem_range] at hj
    match j, hj with
    | 0, _ => rw [a0]; exact nx
    | 1, _ => rw [a1]; exact ndx
    | j + 2, hj =>
      have := fr (j + 2) (by omega) (by rw [o.len]; exact hj)
      by_cases c1 : a (j + 2) = x
      · rw [c1]; exact nx
      · rw [upd_ne c1] at this
        by_cases c2 : a (j + 2) = dx
        · rw [c2]; exact ndx
        · rw [upd_ne c2] at this; exact this
  have := q a row H' (fun y u hy => off y u (fun z => by cases List.mem_singleton.mp z; rw [nx] at hy; cases hy) (by
    rw [upd_ne (ne_of_none hy nx), upd_ne (ne_of_none hy ndx)]; exact hy)) nf c io e
  rw [a0] at this
  exact this
theorem make_circle {K : PySem.W.Frag} {H : Hp} {Q : Addr → Hp → Prop} {E : XK} (t : ClsT K "Circle" cirNames) {s : Int} {n : Nat} {p w : Addr} {pl ws : List Int} {b : Bool} (hp : SqL K H p (pl.map V.int)) (hw : SqL K H w (ws.map V.int)) (o : OpenAt s n pl ws)
    (q : ∀ a row H', Same H H' → (∀ x ∈ cirFoot a n, H x = none) → CirAt K H' a (openS s b pl row) → IsOrder (openWin s pl ws) row → paperOf (openWin s pl ws) = .order row → Q (a 0) H') :
    ∀ x dx, H x = none → H dx = none → dx ≠ x → sp_Circle_init K (.ref x :: ([.int s, .ref p, .ref w, .bl b] ++ [])) (upd (upd H dx (.own x)) x (.ins (He.ga K "Circle") dx [])) (fun v H2 => v = .non ∧ Q x H2) E := make_circleH t hp hw o.toOpenHas q
/-- data -/
def dN (l : List Nat) : PyData := dInts (l.map fun (n : Nat) => (n : Int))
def dRep (r : Rep) : PyData := .tuple [.int r.turn, .str r.word, .int r.at_, .int r.coins, .int r.share, dN r.fallen, dN r.helped]
section
variable {K : PySem.W.Frag} {H : Hp} {p : Addr}
theorem dp_nI {l : List Nat} (h : H p = some (.lst (nI l))) : Dp K H (.ref p) (dN l) := dp_ints (SqL.of (by rw [← nI_asI]; exact h))
theorem dp_rep {r t1 t2 : Addr} {x : Rep} (h : RepAt H r t1 t2 x) : Dp K H (.ref r) (dRep x) :=
  .tup (SqT.of h.r) (.cons (.int _) (.cons (.str _) (.cons (.int _) (.cons (.int _) (.cons (.int _) (.cons (dp_nI h.f) (.cons (dp_nI h.h) .nil)))))))
end
theorem good_ints {l : List Int} (h : l.length ≤ 1000) : GoodD 1 (dInts l) := good_map h fun _ _ => .int _ _
theorem good_dN {l : List Nat} (h : l.length ≤ 1000) : GoodD 1 (dN l) := good_ints (by rw [List.length_map]; exact h)
theorem good_s (n : Nat) (s : Seat) : GoodD n (.str s.s) := by cases s <;> exact ⟨by decide +kernel, Nat.zero_le _⟩
theorem good_rep {r : Rep} (h1 : r.fallen.length ≤ 1000) (h2 : r.helped.length ≤ 1000) : GoodD 2 (dRep r) := .tup (by simp) fun d hd => by
  simp only [List.mem_cons, List.not_mem_nil, or_false] at hd
  rcases hd with rfl | rfl | rfl | rfl | rfl | rfl | rfl
  · exact .int _ _
  · unfold Rep.word; split <;> exact ⟨by decide +kernel, Nat.zero_le _⟩
  · exact .int _ _
  · exact .int _ _
  · exact .int _ _
  · exact good_dN h1
  · exact good_dN h2
theorem GoodD.up {n m : Nat} {d : PyData} (h : GoodD n d) (e : n ≤ m) : GoodD m d := ⟨h.ok, Nat.le_trans h.dep e⟩
end Su
namespace Su
open PySem L2
local macro_rules | `(tactic| walk_at "side") => `(tactic| first | assumption | (show (0 : Int) < _; omega) | (show (0 : Int) ≤ _; omega) | (show (0 : Int) < _; split <;> omega) | (show _ ∨ _; omega) | (show _ ∧ _; omega) | exact ⟨by decide, by decide, by decide⟩ | exact ⟨by first | assumption | omega, by first | assumption | omega⟩)
local macro_rules | `(tactic| walk_at "xs") => `(tactic| repeat walk_at "x")
local macro_rules | `(tactic| walk_at "if") => `(tactic| first | with_reducible refine Su.x_iteD (fun c => ?_) (fun c => ?_) | with_reducible refine Su.x_iteN (fun c => ?_) (fun c => ?_) | with_reducible refine Su.x_ite (fun c => ?_) (fun c => ?_))

/-! o[a:c] = a list -/
def gSlI (to : TE) (tl th : TO) : TG := fun v σ H Q => to σ H fun o H1 => tl σ H1 fun l H2 => th σ H2 fun u H3 => ∃ (p b : Addr) (xs ys : List V) (a c : Int), o = .ref p ∧ v = .ref b ∧ l = some a ∧ u = some c ∧ H3 p = some (.lst xs) ∧ H3 b = some (.lst ys) ∧ p ≠ b ∧ 0 ≤ a ∧ a ≤ c ∧ c ≤ xs.length ∧ xs.length + ys.length ≤ sizeLine ∧
  Q σ (upd H3 p (.lst (xs.take a.toNat ++ ys ++ xs.drop c.toNat)))
theorem pg_slI {X : Cx} {o : Expr} {lo hi : Option Expr} {to : TE} {tl th : TO} {p2 pos : Pos} (ho : PE X o to) (hl : PO X lo tl) (hu : PO X hi th)
    (ha : ∀ v, assign (.Subscript o (.Slice lo hi none p2) pos) X.env v = (do
      let ov ← holding [v] (eval o X.env)
      let iv ← holding [v, ov] (eval (.Slice lo hi none p2) X.env)
      standAt pos
      holding [v, ov, iv] (setItem ov iv v)
      release [iv, v, ov] []) := by intro _; rfl) : PG X (.Subscript o (.Slice lo hi none p2) pos) (gSlI to tl th) := by
  refine ⟨fun pins s σ H v u Q I r h => ?_⟩
  rw [ha]
  refine wpAny_bind (wpAny_holding (thn (ho.run pins s σ H _ I h) fun ov s1 ⟨x, H1, I1, r1, q1⟩ => ?_))
  refine wpAny_bind (wpAny_holding (wpAny_Slice (thn (hl.run pins s1 σ H1 _ I1 q1) fun vl s2 ⟨l, H2, I2, pl, q2⟩ => thn (hu.run pins s2 σ H2 _ I2 q2) fun vu s3 ⟨u', H3, I3, pu, q3⟩ => ?_)))
  rw [evalPart_none]
  refine wpAny_pure ?_
  obtain ⟨p, b, xs, ys, a, c, rfl, rfl, rfl, rfl, h1, h2, h3, h4, h5, h6, h7, q⟩ := q3
  have I4 : L2.Inv X pins σ H3 { s3 with heap := s3.heap.push { cls := .type "slice", data := .fields #[vl, vu, .none] } } := I3.kept (t' := s3.toks) fun b ob q => Heap.get?_push_of_some _ q
  obtain rfl : ov = Value.ref p := r1
  obtain rfl : u = Value.ref b := r
  cases pl with
  | int _ t1 =>
    cases pu with
    | int _ t2 =>
      refine wpAny_bind (wpAny_standAt (wpAny_bind (wpAny_holding ?_)))
      exact set_slice I4 h1 h2 h3 (Heap.IsSliceOf.new ..) ⟨_, rfl⟩ ⟨_, rfl⟩ h4 h5 h6 h7 fun s5 I5 => wpAny_release ⟨σ, _, I5, q⟩
theorem x_gslI {to : TE} {tl th : TO} {v : V} {σ : St} {H : Hp} {Q : St → Hp → Prop} (h : to σ H fun o H1 => tl σ H1 fun l H2 => th σ H2 fun u H3 => ∃ (p b : Addr) (xs ys : List V) (a c : Int), o = .ref p ∧ v = .ref b ∧ l = some a ∧ u = some c ∧ H3 p = some (.lst xs) ∧ H3 b = some (.lst ys) ∧ p ≠ b ∧ 0 ≤ a ∧ a ≤ c ∧ c ≤ xs.length ∧ xs.length + ys.length ≤ sizeLine ∧
  Q σ (upd H3 p (.lst (xs.take a.toNat ++ ys ++ xs.drop c.toNat)))) : gSlI to tl th v σ H Q := h

end Su
namespace Su
open PySem L2
local macro_rules | `(tactic| walk_at "side") => `(tactic| first | assumption | (show (0 : Int) < _; omega) | (show (0 : Int) ≤ _; omega) | (show (0 : Int) < _; split <;> omega) | (show _ ∨ _; omega) | (show _ ∧ _; omega) | exact ⟨by decide, by decide, by decide⟩ | exact ⟨by first | assumption | omega, by first | assumption | omega⟩)
local macro_rules | `(tactic| walk_at "xs") => `(tactic| repeat walk_at "x")
local macro_rules | `(tactic| walk_at "if") => `(tactic| first | with_reducible refine Su.x_iteD (fun c => ?_) (fun c => ?_) | with_reducible refine Su.x_iteN (fun c => ?_) (fun c => ?_) | with_reducible refine Su.x_ite (fun c => ?_) (fun c => ?_))

/-! the state of a circle as a law keeps it: lists in a list -/
def stCell (b : Nat → Addr) (st : CS) : Nat → HO
  | 0 => .lst [.int st.stake, .int st.size, .bl st.bidding, .int st.now, .ref (b 1), .int st.due, .int st.chest, .ref (b 2), .ref (b 3)]
  | 1 => .lst (nI st.line)
  | 2 => .lst ((List.range st.size).map fun i => .ref (b (4 + 2 * i)))
  | 3 => .lst ((List.range st.size).map fun i => .ref (b (5 + 2 * i)))
  | n + 4 => if n % 2 = 0 then .lst (seatV (st.get (n / 2))) else intsO (st.get (n / 2)).fl
def stFoot (b : Nat → Addr) (n : Nat) : List Addr := (List.range (4 + 2 * n)).map b
structure StAt (H : Hp) (b : Nat → Addr) (st : CS) : Prop where
  inj : ∀ i j, i < 4 + 2 * st.size → j < 4 + 2 * st.size → b i = b j → i = j
  at_ : ∀ j, j < 4 + 2 * st.size → H (b j) = some (stCell b st j)
theorem cell_seat (b : Nat → Addr) (st : CS) (i : Nat) : stCell b st (4 + 2 * i) = .lst (seatV (st.get i)) := by
  rw [Nat.add_comm 4]
  show (if 2 * i % 2 = 0 then _ else _) = _
  rw [if_pos (by omega), show 2 * i / 2 = i by omega]
theorem cell_flow (b : Nat → Addr) (st : CS) (i : Nat) : stCell b st (5 + 2 * i) = intsO (st.get i).fl := by
  rw [show 5 + 2 * i = (2 * i + 1) + 4 by omega]
  show (if (2 * i + 1) % 2 = 0 then _ else _) = _
  rw [if_neg (by omega), show (2 * i + 1) / 2 = i by omega]
section
variable {K : PySem.W.Frag} {H H' : Hp} {b : Nat → Addr} {st st' : CS} {Q : VK} {Qh : Hp → Prop} {i n : Nat} {j x : Int}
theorem mem_sfoot {n j : Nat} (h : j < 4 + 2 * n) : b j ∈ stFoot b n := List.mem_map.mpr ⟨j, List.mem_range.mpr h, rfl⟩
theorem StAt.same (h : StAt H b st) (s : Same H H') : StAt H' b st := ⟨h.inj, fun j hj => s _ _ (h.at_ j hj)⟩
theorem StAt.off (h : StAt H b st) {A : List Addr} (s : Off A H H') (n : ∀ y ∈ stFoot b st.size, y ∉ A) : StAt H' b st := ⟨h.inj, fun j hj => s _ _ (n _ (mem_sfoot hj)) (h.at_ j hj)⟩
theorem StAt.upd_out (h : StAt H b st) {x : Addr} {o : HO} (n : x ∉ stFoot b st.size) : StAt (upd H x o) b st := ⟨h.inj, fun j hj => by
  rw [upd_ne (fun e => n (by rw [← e]; exact mem_sfoot hj))]; exact h.at_ j hj⟩
theorem StAt.fresh (h : StAt H b st) {x : Addr} (n : H x = none) : x ∉ stFoot b st.size := fun c => by
  obtain ⟨j, hj, rfl⟩ := List.mem_map.mp c
  rw [h.at_ j (List.mem_range.mp hj)] at n; cases n
theorem StAt.put (h : StAt H b st) {k : Nat} (hk : k < 4 + 2 * st.size) (hs : st'.size = st.size) (hc : ∀ j, j ≠ k → j < 4 + 2 * st.size → stCell b st' j = stCell b st j) : StAt (upd H (b k) (stCell b st' k)) b st' := by
  refine ⟨fun i j hi hj => h.inj i j (by rw [← hs]; exact hi) (by rw [← hs]; exact hj), fun j hj => ?_⟩
  rw [hs] at hj
  by_cases c : j = k
  · subst c; exact upd_same
  · rw [upd_ne (fun e => c (h.inj j k hj hk e)), hc j c hj]; exact h.at_ j hj
/-! reading -/
theorem s_0 (h : StAt H b st) (q : Q (.int st.stake) H) : rIxL K (.ref (b 0)) (.int 0) H Q := x_ixL (SqL.of (h.at_ 0 (by omega))) (by rfl) q
theorem s_1 (h : StAt H b st) (q : Q (.int st.size) H) : rIxL K (.ref (b 0)) (.int 1) H Q := x_ixL (SqL.of (h.at_ 0 (by omega))) (by rfl) q
theorem s_2 (h : StAt H b st) (q : Q (.bl st.bidding) H) : rIxL K (.ref (b 0)) (.int 2) H Q := x_ixL (SqL.of (h.at_ 0 (by omega))) (by rfl) q
theorem s_3 (h : StAt H b st) (q : Q (.int st.now) H) : rIxL K (.ref (b 0)) (.int 3) H Q := x_ixL (SqL.of (h.at_ 0 (by omega))) (by rfl) q
theorem s_4 (h : StAt H b st) (q : Q (.ref (b 1)) H) : rIxL K (.ref (b 0)) (.int 4) H Q := x_ixL (SqL.of (h.at_ 0 (by omega))) (by rfl) q
theorem s_5 (h : StAt H b st) (q : Q (.int st.due) H) : rIxL K (.ref (b 0)) (.int 5) H Q := x_ixL (SqL.of (h.at_ 0 (by omega))) (by rfl) q
theorem s_6 (h : StAt H b st) (q : Q (.int st.chest) H) : rIxL K (.ref (b 0)) (.int 6) H Q := x_ixL (SqL.of (h.at_ 0 (by omega))) (by rfl) q
theorem s_7 (h : StAt H b st) (q : Q (.ref (b 2)) H) : rIxL K (.ref (b 0)) (.int 7) H Q := x_ixL (SqL.of (h.at_ 0 (by omega))) (by rfl) q
theorem s_8 (h : StAt H b st) (q : Q (.ref (b 3)) H) : rIxL K (.ref (b 0)) (.int 8) H Q := x_ixL (SqL.of (h.at_ 0 (by omega))) (by rfl) q
theorem s_seats (h : StAt H b st) (hj : j = i) (hi : i < st.size) (q : Q (.ref (b (4 + 2 * i))) H) : rIxL K (.ref (b 2)) (.int j) H Q := by
  refine x_ixL (SqL.of (h.at_ 2 (by omega))) (at_map (d := 0) (g := fun i => .ref (b (4 + 2 * i))) hj (by rw [List.length_range]; exact hi)) ?_
  rw [List.getD_eq_getElem?_getD, List.getElem?_range hi]; exact q
theorem s_flows (h : StAt H b st) (hj : j = i) (hi : i < st.size) (q : Q (.ref (b (5 + 2 * i))) H) : rIxL K (.ref (b 3)) (.int j) H Q := by
  refine x_ixL (SqL.of (h.at_ 3 (by omega))) (at_map (d := 0) (g := fun i => .ref (b (5 + 2 * i))) hj (by rw [List.length_range]; exact hi)) ?_
  rw [List.getD_eq_getElem?_getD, List.getElem?_range hi]; exact q
theorem s_seat (h : StAt H b st) (hi : i < st.size) : H (b (4 + 2 * i)) = some (.lst (seatV (st.get i))) := by
  have := h.at_ (4 + 2 * i) (by omega)
  rwa [cell_seat] at this
theorem s_flow (h : StAt H b st) (hi : i < st.size) : H (b (5 + 2 * i)) = some (intsO (st.get i).fl) := by
  have := h.at_ (5 + 2 * i) (by omega)
  rwa [cell_flow] at this
/-! writing -/
theorem StAt.mod_seat (h : StAt H b st) (hi : i < st.size) {f : SeatR → SeatR} (hf : ∀ r, (f r).fl = r.fl) : StAt (upd H (b (4 + 2 * i)) (.lst (seatV (f (st.get i))))) b (st.mod i f) := by
  have e : stCell b (st.mod i f) (4 + 2 * i) = .lst (seatV (f (st.get i))) := by
    rw [cell_seat]
    show HO.lst (seatV ((st.seats.modify i f).getD i {})) = _
    rw [getD_mod hi, if_pos rfl]
  rw [← e]
  refine h.put (st' := st.mod i f) (by omega) (size_mod _) fun j hj hl => ?_
  match j, hj with
  | 0, _ => show HO.lst [_, .int (st.mod i f).size, _, _, _, _, _, _, _] = _; rw [size_mod]; rfl
  | 1, _ => rfl
  | 2, _ => show HO.lst ((List.range (st.mod i f).size).map _) = _; rw [size_mod]; rfl
  | 3, _ => show HO.lst ((List.range (st.mod i f).size).map _) = _; rw [size_mod]; rfl
  | j + 4, hj =>
    have g : (st.mod i f).get (j / 2) = if i = j / 2 then f (st.get (j / 2)) else st.get (j / 2) := getD_mod hi
    show (if j % 2 = 0 then HO.lst (seatV ((st.mod i f).get (j / 2))) else intsO ((st.mod i f).get (j / 2)).fl) = if j % 2 = 0 then HO.lst (seatV (st.get (j / 2))) else intsO (st.get (j / 2)).fl
    rw [g]
    by_cases c : i = j / 2
    · have : ¬ j % 2 = 0 := fun z => hj (by omega)
      rw [if_neg this, if_neg this, if_pos c, hf]
    · rw [if_neg c]
theorem StAt.mod_fl (h : StAt H b st) (hi : i < st.size) {l : List Int} : StAt (upd H (b (5 + 2 * i)) (intsO l)) b (st.mod i fun r => { r with fl := l }) := by
  have e : stCell b (st.mod i fun r => { r with fl := l }) (5 + 2 * i) = intsO l := by
    rw [cell_flow]
    show intsO ((st.seats.modify i _).getD i {}).fl = _
    rw [getD_mod hi, if_pos rfl]
  rw [← e]
  refine h.put (st' := st.mod i fun r => { r with fl := l }) (by omega) (size_mod _) fun j hj hl => ?_
  match j, hj with
  | 0, _ => show HO.lst [_, .int (st.mod i fun r => { r with fl := l }).size, _, _, _, _, _, _, _] = _; rw [size_mod]; rfl
  | 1, _ => rfl
  | 2, _ => show HO.lst ((List.range (st.mod i fun r => { r with fl := l }).size).map _) = _; rw [size_mod]; rfl
  | 3, _ => show HO.lst ((List.range (st.mod i fun r => { r with fl := l }).size).map _) = _; rw [size_mod]; rfl
  | j + 4, hj =>
    have g : (st.mod i fun r => { r with fl := l }).get (j / 2) = if i = j / 2 then { st.get (j / 2) with fl := l } else st.get (j / 2) := getD_mod hi
    show (if j % 2 = 0 then HO.lst (seatV ((st.mod i fun r => { r with fl := l }).get (j / 2))) else intsO ((st.mod i fun r => { r with fl := l }).get (j / 2)).fl) = if j % 2 = 0 then HO.lst (seatV (st.get (j / 2))) else intsO (st.get (j / 2)).fl
    rw [g]
    by_cases c : i = j / 2
    · have : j % 2 = 0 := by
        have : j ≠ 2 * i + 1 := fun z => hj (by omega)
        omega
      rw [if_pos this, if_pos this, if_pos c]; rfl
    · rw [if_neg c]
theorem StAt.set_line (h : StAt H b st) {l : List Nat} : StAt (upd H (b 1) (.lst (nI l))) b { st with line := l } :=
  h.put (st' := { st with line := l }) (k := 1) (by omega) rfl fun j hj _ => match j, hj with
    | 0, _ | 2, _ | 3, _ => rfl
    | j + 4, _ => rfl
theorem StAt.set_0 (h : StAt H b st) {st' : CS} (hs : st'.seats = st.seats) (hl : st'.line = st.line) : StAt (upd H (b 0) (stCell b st' 0)) b st' :=
  h.put (st' := st') (k := 0) (by omega) (by rw [CS.size, hs]) fun j hj _ => match j, hj with
    | 1, _ => by show HO.lst (nI st'.line) = _; rw [hl]; rfl
    | 2, _ => by show HO.lst ((List.range st'.seats.length).map _) = _; rw [hs]; rfl
    | 3, _ => by show HO.lst ((List.range st'.seats.length).map _) = _; rw [hs]; rfl
    | j + 4, _ => by
      show (if j % 2 = 0 then HO.lst (seatV (st'.seats.getD (j / 2) {})) else intsO (st'.seats.getD (j / 2) {}).fl) = _
      rw [hs]; rfl
/-- a seat's part k is set -/
theorem v_seat {v : V} {k : Nat} {f : SeatR → SeatR} (h : StAt H b st) (hn : st.size = n) (hi : i < n) (hk : k < 7) (hf : ∀ r, (f r).fl = r.fl) (hv : (seatV (st.get i)).set k v = seatV (f (st.get i))) (q : ∀ H' st', Off (stFoot b n) H H' → StAt H' b st' → st'.size = n → st' = st.mod i f → Qh H') : rSetL (.ref (b (4 + 2 * i))) (.int (k : Int)) v H Qh := by
  subst hn
  refine x_setL (s_seat h hi) (by omega) (by show (k : Int) < 7; omega) ?_
  rw [Int.toNat_natCast, hv]
  exact q _ _ (Off.refl.upd (mem_sfoot (by omega))) (h.mod_seat hi hf) (size_mod _) rfl
theorem v_fl (h : StAt H b st) (hn : st.size = n) (hi : i < n) (hl : (st.get i).fl.length ≤ 100000) (q : ∀ H' st', Off (stFoot b n) H H' → StAt H' b st' → st'.size = n → (st' = st.mod i fun r => { r with fl := r.fl ++ [x] }) → Q .non H') : rAppend (.ref (b (5 + 2 * i))) [.int x] H Q := by
  subst hn
  refine x_append (s_flow h hi) (small (by rw [List.length_map]; exact hl)) ?_
  have c := h.mod_fl (l := (st.get i).fl ++ [x]) hi
  have e : (st.mod i fun r => { r with fl := r.fl ++ [x] }) = (st.mod i fun r => { r with fl := (st.get i).fl ++ [x] }) := by
    unfold CS.mod; rw [mod_eq (f := fun r => { r with fl := r.fl ++ [x] }) (g := fun r => { r with fl := (st.get i).fl ++ [x] }) (l := st.seats) (i := i) rfl]
  have e2 : (st.get i).fl.map V.int ++ [.int x] = ((st.get i).fl ++ [x]).map V.int := by rw [List.map_append]; rfl
  rw [e2]
  refine q _ _ (Off.refl.upd (mem_sfoot (by omega))) ?_ (size_mod _) rfl
  rw [e]; exact c
theorem v_last {v : V} (h : StAt H b st) (hn : st.size = n) (hi : i < n) (hf : (st.get i).fl ≠ []) (hv : v = .int ((st.get i).fl.getD ((st.get i).fl.length - 1) 0 + x)) (q : ∀ H' st', Off (stFoot b n) H H' → StAt H' b st' → st'.size = n → (st' = st.mod i fun r => { r with fl := addLast r.fl x }) → Qh H') : rSetL (.ref (b (5 + 2 * i))) (.int (-1)) v H Qh := by
  subst hn; subst hv
  refine x_setLast (s_flow h hi) hf ?_
  have c := h.mod_fl (l := addLast (st.get i).fl x) hi
  have e : (st.mod i fun r => { r with fl := addLast r.fl x }) = (st.mod i fun r => { r with fl := addLast (st.get i).fl x }) := by
    unfold CS.mod; rw [mod_eq (f := fun r => { r with fl := addLast r.fl x }) (g := fun r => { r with fl := addLast (st.get i).fl x }) (l := st.seats) (i := i) rfl]
  refine q _ _ (Off.refl.upd (mem_sfoot (by omega))) ?_ (size_mod _) rfl
  rw [e]; exact c
theorem v_rem (h : StAt H b st) (hn : st.size = n) (hj : j = i) (hi : i ∈ st.line) (q : ∀ H' st', Off (stFoot b n) H H' → StAt H' b st' → st'.size = n → st' = { st with line := st.line.erase i } → Q .non H') : rRemI (.ref (b 1)) [.int j] H Q := by
  subst hn
  exact x_remN hj (h.at_ 1 (by omega)) hi (q _ _ (Off.refl.upd (mem_sfoot (by omega))) h.set_line rfl rfl)
theorem v_0 {v : V} {k : Nat} {st' : CS} (h : StAt H b st) (hn : st.size = n) (hk : k < 9) (hs : st'.seats = st.seats) (hl : st'.line = st.line)
    (hv : ([.int st.stake, .int st.size, .bl st.bidding, .int st.now, .ref (b 1), .int st.due, .int st.chest, .ref (b 2), .ref (b 3)] : List V).set k v = [.int st'.stake, .int st'.size, .bl st'.bidding, .int st'.now, .ref (b 1), .int st'.due, .int st'.chest, .ref (b 2), .ref (b 3)])
    (q : ∀ H', Off (stFoot b n) H H' → StAt H' b st' → st'.size = n → Qh H') : rSetL (.ref (b 0)) (.int (k : Int)) v H Qh := by
  subst hn
  refine x_setL (h.at_ 0 (by omega)) (by omega) (by show (k : Int) < 9; omega) ?_
  rw [Int.toNat_natCast, hv]
  exact q _ (Off.refl.upd (mem_sfoot (by omega))) (h.set_0 hs hl) (by rw [CS.size, hs])
end

end Su
namespace Su
open PySem L2
local macro_rules | `(tactic| walk_at "side") => `(tactic| first | assumption | (show (0 : Int) < _; omega) | (show (0 : Int) ≤ _; omega) | (show (0 : Int) < _; split <;> omega) | (show _ ∨ _; omega) | (show _ ∧ _; omega) | exact ⟨by decide, by decide, by decide⟩ | exact ⟨by first | assumption | omega, by first | assumption | omega⟩)
local macro_rules | `(tactic| walk_at "x") => `(tactic| first
  | with_reducible refine Su.x_seq ?_ | with_reducible refine Su.x_asg ?_ | with_reducible refine Su.x_gname ?_ | with_reducible refine Su.x_drop ?_ | with_reducible refine Su.x_ret ?_ | with_reducible refine Su.x_ifS ?_
  | ((with_reducible show L2.tVar _ _ _ _); refine Su.x_var rfl ?_) | with_reducible refine Su.x_c ?_ | with_reducible refine Su.x_op ?_ | with_reducible refine Su.x_rI0 ?_ | ((with_reducible refine Su.x_rI ?_ ?_); focus walk_at "side")
  | ((with_reducible show L2.rIxL _ (L2.V.ref _) (L2.V.int _) _ _); refine Su.x_ixI (by assumption) (by first | decide | omega) (by omega) ?_) | with_reducible refine Su.x_isi_int_int ?_ | with_reducible refine Su.x_isi_int_bool ?_ | with_reducible refine Su.x_isi_int_str ?_ | with_reducible refine Su.x_isi_int_list ?_ | with_reducible refine Su.x_isi_int_tuple ?_ | with_reducible refine Su.x_isi_bool_int ?_ | with_reducible refine Su.x_isi_bool_bool ?_ | with_reducible refine Su.x_isi_bool_str ?_ | with_reducible refine Su.x_isi_bool_list ?_ | with_reducible refine Su.x_isi_bool_tuple ?_ | with_reducible refine Su.x_isi_str_int ?_ | with_reducible refine Su.x_isi_str_bool ?_ | with_reducible refine Su.x_isi_str_str ?_ | with_reducible refine Su.x_isi_str_list ?_ | with_reducible refine Su.x_isi_str_tuple ?_ | with_reducible refine Su.x_isi_NoneType_int ?_ | with_reducible refine Su.x_isi_NoneType_bool ?_ | with_reducible refine Su.x_isi_NoneType_str ?_ | with_reducible refine Su.x_isi_NoneType_list ?_ | with_reducible refine Su.x_isi_NoneType_tuple ?_ | with_reducible refine Su.x_rGt ?_ | with_reducible refine Su.x_rGe ?_ | with_reducible refine Su.x_iteF ?_ | with_reducible refine Su.x_iteT ?_ | with_reducible refine Su.x_iteNT ?_ | with_reducible refine Su.x_iteNF ?_ | with_reducible refine Su.x_eqI ?_ | with_reducible refine Su.x_neI ?_ | with_reducible refine Su.x_eqS ?_ | with_reducible refine Su.x_neS ?_ | with_reducible refine Su.x_eqB ?_ | with_reducible refine Su.x_neB ?_
  | with_reducible refine Su.x_test ?_ | with_reducible refine Su.x_tB ?_ | with_reducible refine Su.x_isB ?_ | with_reducible refine Su.x_isB' ?_ | with_reducible refine Su.x_not ?_ | with_reducible refine Su.x_and ?_ | with_reducible refine Su.x_or ?_
  | with_reducible refine Su.x_andV ?_ | with_reducible refine Su.x_orV ?_ | with_reducible refine Su.x_notV ?_ | with_reducible refine Su.x_chain ?_ | with_reducible refine Su.x_nil ?_ | with_reducible refine Su.x_cons ?_ | with_reducible refine Su.x_cb ?_ | with_reducible refine Su.x_call ?_
  | with_reducible refine Su.x_un ?_ | with_reducible refine Su.x_rU ?_ | with_reducible refine Su.x_abs ?_ | with_reducible refine Su.x_max2 ?_ | with_reducible refine Su.x_min2 ?_ | with_reducible refine Su.x_int1 ?_ | with_reducible refine Su.x_intB ?_
  | with_reducible refine Su.x_lst ?_ | with_reducible refine Su.x_tup ?_ | with_reducible refine Su.x_bmL ?_ | with_reducible refine Su.x_next ?_ | with_reducible refine Su.x_for ?_ | with_reducible refine Su.x_iList ?_ | with_reducible refine Su.x_iRng1 ?_ | with_reducible refine Su.x_iRng2 ?_ | with_reducible refine Su.x_whileN ?_ | with_reducible refine Su.x_iEnum ?_ | with_reducible refine Su.x_iZip ?_ | with_reducible refine Su.x_iZipA ?_ | with_reducible refine Su.x_iTup ?_ | with_reducible refine Su.x_gcons ?_ | with_reducible refine Su.x_gnil ?_ | with_reducible refine Su.x_gsub ?_ | with_reducible refine Su.x_yes ?_ | with_reducible refine Su.x_lc ?_ | with_reducible refine Su.x_sl ?_ | with_reducible refine Su.x_nopart ?_ | with_reducible refine Su.x_part ?_ | with_reducible refine Su.x_isI ?_ | with_reducible refine Su.x_lstRg ?_ | with_reducible refine Su.x_rg1 ?_ | with_reducible refine Su.x_augS ?_ | with_reducible refine Su.x_ipI ?_ | ((with_reducible show L2.tAug _ _ _ _ _ _); refine Su.x_aug rfl ?_) | with_reducible refine Su.x_callS ?_ | with_reducible refine Su.x_tryAs ?_)
local macro_rules | `(tactic| walk_at "xs") => `(tactic| repeat walk_at "x")
local macro_rules | `(tactic| walk_at "if") => `(tactic| first | with_reducible refine Su.x_iteD (fun c => ?_) (fun c => ?_) | with_reducible refine Su.x_iteN (fun c => ?_) (fun c => ?_) | with_reducible refine Su.x_ite (fun c => ?_) (fun c => ?_))
instance {s : Int} {n : Nat} {pl ws : List Int} : Coe (OpenAt s n pl ws) (OpenHas s n pl ws) := ⟨fun h => h.toOpenHas⟩
/-- a comprehension of new lists -/
structure Fam (H1 : Hp) (A : Addr) (g : Nat → HO) (i : Nat) (H : Hp) : Prop where
  s : Same H1 H
  ex : ∃ fr : List Addr, H A = some (.lst (fr.map V.ref)) ∧ fr.length = i ∧ fr.Nodup ∧ ∀ j (h : j < fr.length), H1 fr[j] = none ∧ fr[j] ≠ A ∧ H fr[j] = some (g j)
theorem Fam.start {H1 : Hp} {A : Addr} {g : Nat → HO} (n : H1 A = none) : Fam H1 A g 0 (upd H1 A (.lst [])) := ⟨same_new (Same.refl _) n, [], upd_same, rfl, List.nodup_nil, fun j h => absurd h (Nat.not_lt_zero _)⟩
theorem Fam.step {H1 H H' : Hp} {A p : Addr} {g : Nat → HO} {i : Nat} (h : Fam H1 A g i H) (nA : H1 A = none) (np : H p = none) (s : Same H H') (e : H' p = some (g i)) (hi : i ≤ 100000) : ∃ acc, H' A = some (.lst acc) ∧ acc.length < sizeLine ∧ Fam H1 A g (i + 1) (upd H' A (.lst (acc ++ [.ref p]))) := by
  obtain ⟨fr, h1, h2, h3, h4⟩ := h.ex
  have npA : p ≠ A := fun z => by subst z; rw [h1] at np; cases np
  refine ⟨fr.map V.ref, s _ _ h1, small (by rw [List.length_map]; omega), same_upd (h.s.trans s) nA, fr ++ [p], by rw [upd_same, List.map_append]; rfl, by rw [List.length_append, h2]; rfl, ?_, fun j hj => ?_⟩
  · rw [List.nodup_append]
    refine ⟨h3, by simp, fun x hx y hy exy => ?_⟩
    rw [List.mem_singleton] at hy
    subst hy; subst exy
    obtain ⟨j, hj, rfl⟩ := List.getElem_of_mem hx
    rw [(h4 j hj).2.2] at np; cases np
  · by_cases c : j < fr.length
    · have := h4 j c
      rw [List.getElem_append_left c]
      exact ⟨this.1, this.2.1, by rw [upd_ne this.2.1]; exact s _ _ this.2.2⟩
    · have ej : j = fr.length := by rw [List.length_append] at hj; simp at hj; omega
      subst ej
      rw [List.getElem_append_right (Nat.le_refl _)]
      simp only [Nat.sub_self, List.getElem_cons_zero]
      refine ⟨h.s.free np, npA, ?_⟩
      rw [upd_ne npA, h2]; exact e

end Su
namespace Su
open PySem L2
local macro_rules | `(tactic| walk_at "side") => `(tactic| first | assumption | (show (0 : Int) < _; omega) | (show (0 : Int) ≤ _; omega) | (show (0 : Int) < _; split <;> omega) | (show _ ∨ _; omega) | (show _ ∧ _; omega) | exact ⟨by decide, by decide, by decide⟩ | exact ⟨by first | assumption | omega, by first | assumption | omega⟩)
local macro_rules | `(tactic| walk_at "x") => `(tactic| first
  | with_reducible refine Su.x_seq ?_ | with_reducible refine Su.x_asg ?_ | with_reducible refine Su.x_gname ?_ | with_reducible refine Su.x_drop ?_ | with_reducible refine Su.x_ret ?_ | with_reducible refine Su.x_ifS ?_
  | ((with_reducible show L2.tVar _ _ _ _); refine Su.x_var rfl ?_) | with_reducible refine Su.x_c ?_ | with_reducible refine Su.x_op ?_ | with_reducible refine Su.x_rI0 ?_ | ((with_reducible refine Su.x_rI ?_ ?_); focus walk_at "side")
  | ((with_reducible show L2.rIxL _ (L2.V.ref _) (L2.V.int _) _ _); refine Su.x_ixI (by assumption) (by first | decide | omega) (by omega) ?_) | with_reducible refine Su.x_isi_int_int ?_ | with_reducible refine Su.x_isi_int_bool ?_ | with_reducible refine Su.x_isi_int_str ?_ | with_reducible refine Su.x_isi_int_list ?_ | with_reducible refine Su.x_isi_int_tuple ?_ | with_reducible refine Su.x_isi_bool_int ?_ | with_reducible refine Su.x_isi_bool_bool ?_ | with_reducible refine Su.x_isi_bool_str ?_ | with_reducible refine Su.x_isi_bool_list ?_ | with_reducible refine Su.x_isi_bool_tuple ?_ | with_reducible refine Su.x_isi_str_int ?_ | with_reducible refine Su.x_isi_str_bool ?_ | with_reducible refine Su.x_isi_str_str ?_ | with_reducible refine Su.x_isi_str_list ?_ | with_reducible refine Su.x_isi_str_tuple ?_ | with_reducible refine Su.x_isi_NoneType_int ?_ | with_reducible refine Su.x_isi_NoneType_bool ?_ | with_reducible refine Su.x_isi_NoneType_str ?_ | with_reducible refine Su.x_isi_NoneType_list ?_ | with_reducible refine Su.x_isi_NoneType_tuple ?_ | with_reducible refine Su.x_rGt ?_ | with_reducible refine Su.x_rGe ?_ | with_reducible refine Su.x_iteF ?_ | with_reducible refine Su.x_iteT ?_ | with_reducible refine Su.x_iteNT ?_ | with_reducible refine Su.x_iteNF ?_ | with_reducible refine Su.x_eqI ?_ | with_reducible refine Su.x_neI ?_ | with_reducible refine Su.x_eqS ?_ | with_reducible refine Su.x_neS ?_ | with_reducible refine Su.x_eqB ?_ | with_reducible refine Su.x_neB ?_
  | with_reducible refine Su.x_test ?_ | with_reducible refine Su.x_tB ?_ | with_reducible refine Su.x_isB ?_ | with_reducible refine Su.x_isB' ?_ | with_reducible refine Su.x_not ?_ | with_reducible refine Su.x_and ?_ | with_reducible refine Su.x_or ?_
  | with_reducible refine Su.x_andV ?_ | with_reducible refine Su.x_orV ?_ | with_reducible refine Su.x_notV ?_ | with_reducible refine Su.x_chain ?_ | with_reducible refine Su.x_nil ?_ | with_reducible refine Su.x_cons ?_ | with_reducible refine Su.x_cb ?_ | with_reducible refine Su.x_call ?_
  | with_reducible refine Su.x_un ?_ | with_reducible refine Su.x_rU ?_ | with_reducible refine Su.x_abs ?_ | with_reducible refine Su.x_max2 ?_ | with_reducible refine Su.x_min2 ?_ | with_reducible refine Su.x_int1 ?_ | with_reducible refine Su.x_intB ?_
  | with_reducible refine Su.x_lst ?_ | with_reducible refine Su.x_tup ?_ | with_reducible refine Su.x_bmL ?_ | with_reducible refine Su.x_next ?_ | with_reducible refine Su.x_for ?_ | with_reducible refine Su.x_iList ?_ | with_reducible refine Su.x_iRng1 ?_ | with_reducible refine Su.x_iRng2 ?_ | with_reducible refine Su.x_whileN ?_ | with_reducible refine Su.x_iEnum ?_ | with_reducible refine Su.x_iZip ?_ | with_reducible refine Su.x_iZipA ?_ | with_reducible refine Su.x_iTup ?_ | with_reducible refine Su.x_gcons ?_ | with_reducible refine Su.x_gnil ?_ | with_reducible refine Su.x_gsub ?_ | with_reducible refine Su.x_yes ?_ | with_reducible refine Su.x_lc ?_ | with_reducible refine Su.x_sl ?_ | with_reducible refine Su.x_nopart ?_ | with_reducible refine Su.x_part ?_ | with_reducible refine Su.x_isI ?_ | with_reducible refine Su.x_lstRg ?_ | with_reducible refine Su.x_rg1 ?_ | with_reducible refine Su.x_augS ?_ | with_reducible refine Su.x_ipI ?_ | ((with_reducible show L2.tAug _ _ _ _ _ _); refine Su.x_aug rfl ?_) | with_reducible refine Su.x_callS ?_ | with_reducible refine Su.x_tryAs ?_)
local macro_rules | `(tactic| walk_at "xs") => `(tactic| repeat walk_at "x")
local macro_rules | `(tactic| walk_at "if") => `(tactic| first | with_reducible refine Su.x_iteD (fun c => ?_) (fun c => ?_) | with_reducible refine Su.x_iteN (fun c => ?_) (fun c => ?_) | with_reducible refine Su.x_ite (fun c => ?_) (fun c => ?_))
/-! an object whose fields are set anew -/
section
variable {K : PySem.W.Frag} {cn : Str} {names : List Str} {H0 H H' : Hp} {x dx p : Addr} {ks : List Str} {fs : List (Str × V)} {cs : List (Addr × HO)} {f : Str} {v : V} {o : HO}
theorem putF_keys : ∀ {fs : List (Str × V)}, f ∈ fs.map (·.1) → (putF f v fs).map (·.1) = fs.map (·.1)
  | [], h => nomatch h
  | (g, y) :: r, h => by
    show ((if g = f then (g, v) :: r else (g, y) :: putF f v r).map (·.1)) = _
    by_cases c : g = f
    · rw [if_pos c]; rfl
    · rw [if_neg c]
      simp only [List.map_cons, List.mem_cons] at h ⊢
      rcases h with h | h
      · exact absurd h.symm c
      · rw [putF_keys h]
theorem Bld.reset {Qh : Hp → Prop} (B : Bld K cn names H0 H x dx ks fs cs) (hf : f ∈ ks) (m : f ∈ names) (hl : ks.length < 1000) (q : ∀ H', Bld K cn names H0 H' x dx ks (putF f v fs) cs → (∀ b, b ≠ x → H' b = H b) → Qh H') :
    ∃ a C dx fs, V.ref x = .ref a ∧ H a = some (.ins C dx fs) ∧ Cls K C ∧ NoAttr K C f ∧ fs.length < 1000 ∧ Qh (upd H a (.ins C dx (putF f v fs))) := by
  have hl' : fs.length < 1000 := by rw [← List.length_map (f := (·.1)), B.hk]; exact hl
  refine ⟨x, _, dx, fs, rfl, B.hx, B.t.cl, B.t.no.get m, hl', q _ ?_ fun b hb => upd_ne hb⟩
  refine ⟨B.t, upd_same, by rw [upd_ne B.ndx]; exact B.hd, B.ndx, B.off.upd (by simp), B.hc.upd fun z => ?_, B.nx, B.nd, by rw [putF_keys (by rw [B.hk]; exact hf), B.hk], fun b hb h0 => by rw [upd_ne hb]; exact B.sm b hb h0⟩
  obtain ⟨q, hq, e⟩ := List.mem_map.mp z
  exact (B.nx q hq).1 e
/-- a list of new lists -/
theorem Bld.famG {A : Addr} {g : Nat → HO} {n : Nat} (B : Bld K cn names H0 H x dx ks fs cs) (nA : H A = none) (F : Fam H A g n H') :
    ∃ fr : List Addr, fr.length = n ∧ H' A = some (.lst (fr.map V.ref)) ∧ Bld K cn names H0 H' x dx ks fs (cs ++ [(A, .lst (fr.map V.ref))] ++ (List.range n).map fun j => (fr.getD j 0, g j)) := by
  obtain ⟨fr, h1, h2, h3, h4⟩ := F.ex
  subst h2
  refine ⟨fr, rfl, h1, ?_⟩
  have gd : ∀ j (h : j < fr.length), fr.getD j 0 = fr[j] := fun j h => by rw [List.getD_eq_getElem?_getD, List.getElem?_eq_getElem h]; rfl
  have B1 := B.new nA F.s h1
  have fr' : ∀ j (h : j < fr.length), H0 fr[j] = none ∧ fr[j] ≠ x ∧ fr[j] ≠ dx ∧ fr[j] ∉ cs.map (·.1) := fun j h => B.free (h4 j h).1
  have ek : ((List.range fr.length).map fun j => (fr.getD j 0, g j)).map (·.1) = fr := by
    rw [List.map_map]
    apply List.ext_getElem
    · simp
    · intro k hk1 hk2
      simp only [List.getElem_map, List.getElem_range, Function.comp_apply]
      exact gd k hk2
  refine ⟨B.t, B1.hx, B1.hd, B.ndx, B1.off, B1.hc.app fun q hq => ?_, fun q hq => ?_, ?_, B.hk, B1.sm⟩
  · obtain ⟨j, hj, rfl⟩ := List.mem_map.mp hq
    have hj := List.mem_range.mp hj
    show H' (fr.getD j 0) = some (g j)
    rw [gd j hj]; exact (h4 j hj).2.2
  · rcases List.mem_append.mp hq with hq | hq
    · exact B1.nx q hq
    · obtain ⟨j, hj, rfl⟩ := List.mem_map.mp hq
      have hj := List.mem_range.mp hj
      have := fr' j hj
      show fr.getD j 0 ≠ x ∧ fr.getD j 0 ≠ dx ∧ H0 (fr.getD j 0) = none
      rw [gd j hj]
      exact ⟨this.2.1, this.2.2.1, this.1⟩
  · rw [List.map_append, ek, List.nodup_append]
    refine ⟨B1.nd, h3, fun a ha b hb e => ?_⟩
    subst e
    obtain ⟨j, hj, rfl⟩ := List.getElem_of_mem hb
    rw [List.map_append] at ha
    rcases List.mem_append.mp ha with ha | ha
    · exact (fr' j hj).2.2.2 ha
    · simp at ha; exact (h4 j hj).2.1 ha
end
/-- the pledges that a twin opens with -/
theorem open_full {s : Int} {n : Nat} (s1 : 1 ≤ s) (s2 : s ≤ 1000000) (n1 : 2 ≤ n) (n2 : n ≤ 20) : OpenHas s n (List.replicate n 1000000000) (List.replicate n (n : Int)) := by
  have l1 : (List.replicate n (1000000000 : Int)).length = n := by simp
  have cov : firstCov s n 1000000000 = 1 := by
    unfold firstCov
    have : 1000 ≤ 1000000000 / s := (Int.le_ediv_iff_mul_le (by omega)).mpr (by omega)
    rw [if_pos (by omega)]
  refine ⟨⟨s1, s2, by omega, by omega, by simp, fun x hx => ?_, fun x hx => ?_⟩, l1, List.range n, ?_⟩
  · rw [List.eq_of_mem_replicate hx]; decide
  · rw [List.eq_of_mem_replicate hx, l1]; omega
  · have wl : (openWin s (List.replicate n 1000000000) (List.replicate n (n : Int))).length = n := by unfold openWin; rw [List.length_zipWith]; simp
    have wat : ∀ k, k < n → (openWin s (List.replicate n 1000000000) (List.replicate n (n : Int)))[k]? = some (1, (n : Int)) := fun k hk => by
      rw [openWin_at k (by simpa using hk) (by simpa using hk)]
      simp only [List.getElem_replicate, List.length_replicate, cov]
    refine ⟨by rw [wl]; simp, List.nodup_range, fun x hx => by rw [wl]; exact List.mem_range.mp hx, fun k hk => ?_⟩
    have hk' : k < n := by simpa using hk
    rw [List.getElem_range]
    unfold w1 w2
    rw [List.getD_eq_getElem?_getD, wat k hk']
    show (1 : Int) ≤ _ ∧ _ ≤ (n : Int)
    omega

end Su
namespace Su
open PySem L2
local macro_rules | `(tactic| walk_at "side") => `(tactic| first | assumption | (show (0 : Int) < _; omega) | (show (0 : Int) ≤ _; omega) | (show (0 : Int) < _; split <;> omega) | (show _ ∨ _; omega) | (show _ ∧ _; omega) | exact ⟨by decide, by decide, by decide⟩ | exact ⟨by first | assumption | omega, by first | assumption | omega⟩)
local macro_rules | `(tactic| walk_at "x") => `(tactic| first
  | with_reducible refine Su.x_seq ?_ | with_reducible refine Su.x_asg ?_ | with_reducible refine Su.x_gname ?_ | with_reducible refine Su.x_drop ?_ | with_reducible refine Su.x_ret ?_ | with_reducible refine Su.x_ifS ?_
  | ((with_reducible show L2.tVar _ _ _ _); refine Su.x_var rfl ?_) | with_reducible refine Su.x_c ?_ | with_reducible refine Su.x_op ?_ | with_reducible refine Su.x_rI0 ?_ | ((with_reducible refine Su.x_rI ?_ ?_); focus walk_at "side")
  | ((with_reducible show L2.rIxL _ (L2.V.ref _) (L2.V.int _) _ _); refine Su.x_ixI (by assumption) (by first | decide | omega) (by omega) ?_) | with_reducible refine Su.x_isi_int_int ?_ | with_reducible refine Su.x_isi_int_bool ?_ | with_reducible refine Su.x_isi_int_str ?_ | with_reducible refine Su.x_isi_int_list ?_ | with_reducible refine Su.x_isi_int_tuple ?_ | with_reducible refine Su.x_isi_bool_int ?_ | with_reducible refine Su.x_isi_bool_bool ?_ | with_reducible refine Su.x_isi_bool_str ?_ | with_reducible refine Su.x_isi_bool_list ?_ | with_reducible refine Su.x_isi_bool_tuple ?_ | with_reducible refine Su.x_isi_str_int ?_ | with_reducible refine Su.x_isi_str_bool ?_ | with_reducible refine Su.x_isi_str_str ?_ | with_reducible refine Su.x_isi_str_list ?_ | with_reducible refine Su.x_isi_str_tuple ?_ | with_reducible refine Su.x_isi_NoneType_int ?_ | with_reducible refine Su.x_isi_NoneType_bool ?_ | with_reducible refine Su.x_isi_NoneType_str ?_ | with_reducible refine Su.x_isi_NoneType_list ?_ | with_reducible refine Su.x_isi_NoneType_tuple ?_ | with_reducible refine Su.x_rGt ?_ | with_reducible refine Su.x_rGe ?_ | with_reducible refine Su.x_iteF ?_ | with_reducible refine Su.x_iteT ?_ | with_reducible refine Su.x_iteNT ?_ | with_reducible refine Su.x_iteNF ?_ | with_reducible refine Su.x_eqI ?_ | with_reducible refine Su.x_neI ?_ | with_reducible refine Su.x_eqS ?_ | with_reducible refine Su.x_neS ?_ | with_reducible refine Su.x_eqB ?_ | with_reducible refine Su.x_neB ?_
  | with_reducible refine Su.x_test ?_ | with_reducible refine Su.x_tB ?_ | with_reducible refine Su.x_isB ?_ | with_reducible refine Su.x_isB' ?_ | with_reducible refine Su.x_not ?_ | with_reducible refine Su.x_and ?_ | with_reducible refine Su.x_or ?_
  | with_reducible refine Su.x_andV ?_ | with_reducible refine Su.x_orV ?_ | with_reducible refine Su.x_notV ?_ | with_reducible refine Su.x_chain ?_ | with_reducible refine Su.x_nil ?_ | with_reducible refine Su.x_cons ?_ | with_reducible refine Su.x_cb ?_ | with_reducible refine Su.x_call ?_
  | with_reducible refine Su.x_un ?_ | with_reducible refine Su.x_rU ?_ | with_reducible refine Su.x_abs ?_ | with_reducible refine Su.x_max2 ?_ | with_reducible refine Su.x_min2 ?_ | with_reducible refine Su.x_int1 ?_ | with_reducible refine Su.x_intB ?_
  | with_reducible refine Su.x_lst ?_ | with_reducible refine Su.x_tup ?_ | with_reducible refine Su.x_bmL ?_ | with_reducible refine Su.x_next ?_ | with_reducible refine Su.x_for ?_ | with_reducible refine Su.x_iList ?_ | with_reducible refine Su.x_iRng1 ?_ | with_reducible refine Su.x_iRng2 ?_ | with_reducible refine Su.x_whileN ?_ | with_reducible refine Su.x_iEnum ?_ | with_reducible refine Su.x_iZip ?_ | with_reducible refine Su.x_iZipA ?_ | with_reducible refine Su.x_iTup ?_ | with_reducible refine Su.x_gcons ?_ | with_reducible refine Su.x_gnil ?_ | with_reducible refine Su.x_gsub ?_ | with_reducible refine Su.x_yes ?_ | with_reducible refine Su.x_lc ?_ | with_reducible refine Su.x_sl ?_ | with_reducible refine Su.x_nopart ?_ | with_reducible refine Su.x_part ?_ | with_reducible refine Su.x_isI ?_ | with_reducible refine Su.x_lstRg ?_ | with_reducible refine Su.x_rg1 ?_ | with_reducible refine Su.x_augS ?_ | with_reducible refine Su.x_ipI ?_ | ((with_reducible show L2.tAug _ _ _ _ _ _); refine Su.x_aug rfl ?_) | with_reducible refine Su.x_callS ?_ | with_reducible refine Su.x_tryAs ?_)
local macro_rules | `(tactic| walk_at "xs") => `(tactic| repeat walk_at "x")
local macro_rules | `(tactic| walk_at "if") => `(tactic| first | with_reducible refine Su.x_iteD (fun c => ?_) (fun c => ?_) | with_reducible refine Su.x_iteN (fun c => ?_) (fun c => ?_) | with_reducible refine Su.x_ite (fun c => ?_) (fun c => ?_))
local macro_rules | `(tactic| walk_at "at") => `(tactic| first | assumption | (refine Su.f_at (by assumption) ?_; walk_at "at"))
local macro_rules | `(tactic| walk_at "sm") => `(tactic| first | assumption | exact L2.Same.refl _ | (refine Su.f_tr (by assumption) ?_; walk_at "sm"))
local macro_rules | `(tactic| walk_at "hp") => `(tactic| first | assumption | ((with_reducible refine Su.f_sqL ?_); walk_at "at") | ((with_reducible refine Su.f_sqT ?_); walk_at "at") | ((with_reducible show L2.Same _ _); walk_at "sm") | ((with_reducible show _ = none); refine Su.f_free ?_ (by assumption); walk_at "sm") | ((with_reducible show _ = some _); walk_at "at") | (refine Su.f_dp (by assumption) ?_; walk_at "hp") | (refine Su.f_dpA (by assumption) ?_; walk_at "hp") | (refine Su.f_sqLs (by assumption) ?_; walk_at "hp") | (refine Su.f_sqTs (by assumption) ?_; walk_at "hp"))
local macro_rules | `(tactic| walk_at "x") => `(tactic| first | with_reducible refine Su.x_fld ?_ | with_reducible refine Su.x_sfld ?_ | with_reducible refine Su.x_sfldAug ?_ | with_reducible refine Su.x_meth ?_ | with_reducible refine Su.x_methW ?_ | with_reducible refine Su.x_make ?_ | with_reducible refine Su.x_makeW ?_ | with_reducible refine Su.c_stake (by assumption) ?_ | with_reducible refine Su.c_size (by assumption) ?_ | with_reducible refine Su.c_bidding (by assumption) ?_ | with_reducible refine Su.c_now (by assumption) ?_ | with_reducible refine Su.c_line (by assumption) ?_ | with_reducible refine Su.c_due (by assumption) ?_ | with_reducible refine Su.c_chest (by assumption) ?_ | with_reducible refine Su.c_state (by assumption) ?_ | with_reducible refine Su.c_when (by assumption) ?_ | with_reducible refine Su.c_pledged (by assumption) ?_ | with_reducible refine Su.c_given (by assumption) ?_ | with_reducible refine Su.c_drawn (by assumption) ?_ | with_reducible refine Su.c_shared (by assumption) ?_ | with_reducible refine Su.c_missed (by assumption) ?_ | with_reducible refine Su.c_flows (by assumption) ?_)
local macro_rules | `(tactic| walk_at "me") => `(tactic| first | refine Su.c_meth (by assumption) rfl ?_ | refine Su.so_meth (by assumption) rfl ?_)
def sp_Circle_twin (K : PySem.W.Frag) : Sp := fun vs H Q E => ∃ (a : Nat → Addr) (st : CS), vs = [.ref (a 0)] ∧ CirAt K H a st ∧ WF st ∧ ∀ (a' : Nat → Addr) (H' : Hp), Same H H' → (∀ x ∈ cirFoot a' st.size, H x = none) → CirAt K H' a' st → Q (.ref (a' 0)) H'
abbrev N_Circle_twin : List Str := ["self", "other", "row"]
def t_Circle_twin (K : PySem.W.Frag) (E : XK) : TS :=
 (tSeq (tAsg (tMake (He.ga K "Circle") (sp_Circle_init K) [] E (tCons (tFld K (tVar 0) "stake") (tCons (tOp rRep (tLst (tCons (tC (.int 1000000000)) tNil)) (tFld K (tVar 0) "size")) (tCons (tOp rRep (tLst (tCons (tFld K (tVar 0) "size") tNil)) (tFld K (tVar 0) "size")) (tCons (tFld K (tVar 0) "bidding") tNil))))) (gName 1))
 (tSeq (sFld K (tVar 1) (tFld K (tVar 0) "now") "now")
 (tSeq (sFld K (tVar 1) (tCB (rListOf K) (tCons (tFld K (tVar 0) "line") tNil)) "line")
 (tSeq (sFld K (tVar 1) (tFld K (tVar 0) "due") "due")
 (tSeq (sFld K (tVar 1) (tFld K (tVar 0) "chest") "chest")
 (tSeq (sFld K (tVar 1) (tCB (rListOf K) (tCons (tFld K (tVar 0) "state") tNil)) "state")
 (tSeq (sFld K (tVar 1) (tCB (rListOf K) (tCons (tFld K (tVar 0) "when") tNil)) "when")
 (tSeq (sFld K (tVar 1) (tCB (rListOf K) (tCons (tFld K (tVar 0) "pledged") tNil)) "pledged")
 (tSeq (sFld K (tVar 1) (tCB (rListOf K) (tCons (tFld K (tVar 0) "given") tNil)) "given")
 (tSeq (sFld K (tVar 1) (tCB (rListOf K) (tCons (tFld K (tVar 0) "drawn") tNil)) "drawn")
 (tSeq (sFld K (tVar 1) (tCB (rListOf K) (tCons (tFld K (tVar 0) "shared") tNil)) "shared")
 (tSeq (sFld K (tVar 1) (tCB (rListOf K) (tCons (tFld K (tVar 0) "missed") tNil)) "missed")
 (tSeq (sFld K (tVar 1) (tLc (iList K (tFld K (tVar 0) "flows")) (gName 2) tYes (tCB (rListOf K) (tCons (tVar 2) tNil)) [2]) "flows")
 (tRet (tVar 1)))))))))))))))

theorem len_Circle_twin {K : PySem.W.Frag} : ∀ vs H Q E, sp_Circle_twin K vs H Q E → vs.length = ["a"].length := by
  rintro vs H Q E ⟨_, _, rfl, _⟩; rfl
theorem pure_Circle_twin {K : PySem.W.Frag} {vs : List V} {H : Hp} {Q : VK} {E : XK} (h : sp_Circle_twin K vs H Q E) : t_Circle_twin K E { nx := fun _ H' => Q .non H', rt := Q } (start N_Circle_twin vs) H := by
  obtain ⟨a, st, rfl, hc, wf, k⟩ := h
  unfold t_Circle_twin
  have w1 := wf.n1
  have w2 := wf.n2
  walk_at "xs"
  refine al_lst fun m1 H1 nm1 q1 hm1 => ?_
  have c1 := hc.same q1
  walk_at "xs"
  refine al_rep hm1 (by omega) fun P H2 nP q2 hP _ => ?_
  have c2 := c1.same q2
  walk_at "xs"
  refine al_lst fun m2 H3 nm2 q3 hm2 => ?_
  have c3 := c2.same q3
  walk_at "xs"
  refine al_rep hm2 (by omega) fun W H4 nW q4 hW _ => ?_
  have c4 := c3.same q4
  walk_at "xs"
  have oa := open_full wf.s1 wf.s2 wf.n1 wf.n2
  refine make_circleH (b := st.bidding) hc.t (SqL.of (by rw [List.map_replicate]; exact q4 _ _ (q3 _ _ hP))) (SqL.of (by rw [List.map_replicate]; exact hW)) oa fun o row G q5 fo co io er => ?_
  have q04 := ((q1.trans q2).trans q3).trans q4
  have zo : (openS st.stake st.bidding (List.replicate st.size 1000000000) row).size = st.size := by rw [openS_size]; simp
  have nx0 : ∀ y ∈ cirFoot a st.size, y ∉ [o 0] := fun y hy z => by
    have e : y = o 0 := by simpa using z
    subst e
    obtain ⟨j, hj, ej⟩ := List.mem_map.mp hy
    have := c4.at_ j (List.mem_range.mp hj)
    rw [ej, fo _ (mem_foot (by omega))] at this; cases this
  have B : Bld K "Circle" cirNames H4 G (o 0) (o 1) cirNames (cirFs o (openS st.stake st.bidding (List.replicate st.size 1000000000) row)) [] := by
    refine ⟨hc.t, co.at_ 0 (by omega), co.at_ 1 (by omega), fun e => ?_, Off.of q5, Cells.nil, fun _ h => (nomatch h), List.nodup_nil, rfl, fun b hb h0 => ?_⟩
    · have := co.inj 1 0 (by omega) (by omega) e; omega
    · cases e : H4 b with
      | none => exact absurd e h0
      | some u => exact q5 _ _ e
  have c := c4.off B.off nx0
  generalize hfs : cirFs o (openS st.stake st.bidding (List.replicate st.size 1000000000) row) = fs0 at B
  walk_at "xs"
  refine B.reset (by decide +kernel) (by decide +kernel) (by decide) fun Gb Bb _ => ?_
  have c := c4.off Bb.off nx0
  have B := Bb
  clear Bb
  walk_at "xs"
  refine al_list (SqL.of (c.at_ 2 (by omega))) fun l2 Ga nl2 qa hl2 => ?_
  have B := B.new nl2 qa hl2
  have c := c.same qa
  walk_at "xs"
  refine B.reset (by decide +kernel) (by decide +kernel) (by decide) fun Gb Bb _ => ?_
  have c := c4.off Bb.off nx0
  have B := Bb
  clear Bb
  walk_at "xs"
  refine B.reset (by decide +kernel) (by decide +kernel) (by decide) fun Gb Bb _ => ?_
  have c := c4.off Bb.off nx0
  have B := Bb
  clear Bb
  walk_at "xs"
  refine B.reset (by decide +kernel) (by decide +kernel) (by decide) fun Gb Bb _ => ?_
  have c := c4.off Bb.off nx0
  have B := Bb
  clear Bb
  walk_at "xs"
  refine al_list (SqL.of (c.at_ 3 (by omega))) fun l3 Ga nl3 qa hl3 => ?_
  have B := B.new nl3 qa hl3
  have c := c.same qa
  walk_at "xs"
  refine B.reset (by decide +kernel) (by decide +kernel) (by decide) fun Gb Bb _ => ?_
  have c := c4.off Bb.off nx0
  have B := Bb
  clear Bb
  walk_at "xs"
  refine al_list (SqL.of (c.at_ 4 (by omega))) fun l4 Ga nl4 qa hl4 => ?_
  have B := B.new nl4 qa hl4
  have c := c.same qa
  walk_at "xs"
  refine B.reset (by decide +kernel) (by decide +kernel) (by decide) fun Gb Bb _ => ?_
  have c := c4.off Bb.off nx0
  have B := Bb
  clear Bb
  walk_at "xs"
  refine al_list (SqL.of (c.at_ 5 (by omega))) fun l5 Ga nl5 qa hl5 => ?_
  have B := B.new nl5 qa hl5
  have c := c.same qa
  walk_at "xs"
  refine B.reset (by decide +kernel) (by decide +kernel) (by decide) fun Gb Bb _ => ?_
  have c := c4.off Bb.off nx0
  have B := Bb
  clear Bb
  walk_at "xs"
  refine al_list (SqL.of (c.at_ 6 (by omega))) fun l6 Ga nl6 qa hl6 => ?_
  have B := B.new nl6 qa hl6
  have c := c.same qa
  walk_at "xs"
  refine B.reset (by decide +kernel) (by decide +kernel) (by decide) fun Gb Bb _ => ?_
  have c := c4.off Bb.off nx0
  have B := Bb
  clear Bb
  walk_at "xs"
  refine al_list (SqL.of (c.at_ 7 (by omega))) fun l7 Ga nl7 qa hl7 => ?_
  have B := B.new nl7 qa hl7
  have c := c.same qa
  walk_at "xs"
  refine B.reset (by decide +kernel) (by decide +kernel) (by decide) fun Gb Bb _ => ?_
  have c := c4.off Bb.off nx0
  have B := Bb
  clear Bb
  walk_at "xs"
  refine al_list (SqL.of (c.at_ 8 (by omega))) fun l8 Ga nl8 qa hl8 => ?_
  have B := B.new nl8 qa hl8
  have c := c.same qa
  walk_at "xs"
  refine B.reset (by decide +kernel) (by decide +kernel) (by decide) fun Gb Bb _ => ?_
  have c := c4.off Bb.off nx0
  have B := Bb
  clear Bb
  walk_at "xs"
  refine al_list (SqL.of (c.at_ 9 (by omega))) fun l9 Ga nl9 qa hl9 => ?_
  have B := B.new nl9 qa hl9
  have c := c.same qa
  walk_at "xs"
  refine B.reset (by decide +kernel) (by decide +kernel) (by decide) fun Gb Bb _ => ?_
  have c := c4.off Bb.off nx0
  have B := Bb
  clear Bb
  walk_at "xs"
  have h10 := c.at_ 10 (by omega)
  refine ⟨a 10, rfl, ⟨_, SqL.of h10⟩, fun l10 nl10 => ?_⟩
  refine lc_by (turnsL (K := K) (a := a 10) (xs := (List.range st.size).map fun i => V.ref (a (11 + i)))) (Fam _ l10 (fun j => intsO (st.get j).fl)) (Fam.start nl10) (fun i H' _ F => SqL.of (F.s _ _ h10)) ?_ ?_
  · rintro i v Hc _ hi F ⟨rfl, hv⟩
    rw [List.length_map, List.length_range] at hi
    rw [List.getElem?_map, List.getElem?_range hi] at hv
    cases hv
    have ci := (c.same F.s).at_ (11 + i) (by omega)
    rw [Nat.add_comm 11 i] at ci
    walk_at "xs"
    refine x_wipe rfl ?_
    walk_at "xs"
    refine al_list (SqL.of (by rw [Nat.add_comm 11 i]; exact ci)) fun q Hd nq sd hq => ?_
    exact F.step nl10 nq sd hq (by omega)
  intro H31 F
  rw [List.length_map, List.length_range] at F
  obtain ⟨fr, e2, e1, B15⟩ := B.famG nl10 F
  walk_at "xs"
  refine B15.reset (by decide +kernel) (by decide +kernel) (by decide) fun H32 Bz _ => ?_
  walk_at "xs"
  clear B c
  have n00 : H4 (o 0) = none := fo _ (mem_foot (by omega))
  have n01 : H4 (o 1) = none := fo _ (mem_foot (by omega))
  have s32 : Same H4 H32 := fun b u e => Bz.off b u (by simp; exact ne_of_none e n00) e
  obtain ⟨Ls, hLs⟩ : ∃ Ls, Ls = [o 0, o 1, l2, l3, l4, l5, l6, l7, l8, l9, l10] ++ fr := ⟨_, rfl⟩
  have hcs := Bz.hc
  have hnx := Bz.nx
  have hnd := Bz.nd
  have gd : ∀ j (h : j < fr.length), fr.getD j 0 = fr[j] := fun j h => by rw [List.getD_eq_getElem?_getD, List.getElem?_eq_getElem h]; rfl
  have ek : ((List.range st.size).map fun j => (fr.getD j 0, intsO (st.get j).fl)).map (·.1) = fr := by
    rw [List.map_map]
    apply List.ext_getElem
    · simp [e2]
    · intro k hk1 hk2
      simp only [List.getElem_map, List.getElem_range, Function.comp_apply]
      exact gd k hk2
  generalize hcells : (([] ++ [(l2, HO.lst (nI st.line))] ++ [(l3, _)] ++ [(l4, _)] ++ [(l5, _)] ++ [(l6, _)] ++ [(l7, _)] ++ [(l8, _)] ++ [(l9, _)] ++ [(l10, HO.lst (fr.map V.ref))] ++ ((List.range st.size).map fun j => (fr.getD j 0, intsO (st.get j).fl))) : List (Addr × HO)) = cells at hcs hnx hnd
  have ecs : cells.map (·.1) = [l2, l3, l4, l5, l6, l7, l8, l9, l10] ++ fr := by
    rw [← hcells, List.map_append, ek]; rfl
  rw [ecs] at hnd
  have ndL : Ls.Nodup := by
    rw [hLs]
    have mem : ∀ y ∈ [l2, l3, l4, l5, l6, l7, l8, l9, l10] ++ fr, y ≠ o 0 ∧ y ≠ o 1 := fun y hy => by
      rw [← ecs] at hy
      obtain ⟨q, hq, rfl⟩ := List.mem_map.mp hy
      exact ⟨(hnx q hq).1, (hnx q hq).2.1⟩
    show (o 0 :: o 1 :: ([l2, l3, l4, l5, l6, l7, l8, l9, l10] ++ fr)).Nodup
    rw [List.nodup_cons, List.nodup_cons]
    refine ⟨fun z => ?_, fun z => (mem _ z).2 rfl, hnd⟩
    rcases List.mem_cons.mp z with z | z
    · exact Bz.ndx z.symm
    · exact (mem _ z).1 rfl
  have Ll : Ls.length = 11 + st.size := by rw [hLs, List.length_append, e2]; rfl
  have atf : ∀ i, Ls.getD (11 + i) 0 = fr.getD i 0 := fun i => by
    rw [hLs, List.getD_eq_getElem?_getD, List.getD_eq_getElem?_getD, List.getElem?_append_right (by show 11 ≤ 11 + i; omega)]
    show (fr[11 + i - 11]?).getD 0 = _
    rw [Nat.add_sub_cancel_left]
  have k0 : Ls.getD 0 0 = o 0 := by rw [hLs]; rfl
  rw [← k0]
  refine k (fun j => Ls.getD j 0) H32 (q04.trans s32) (fun y hy => ?_) ⟨hc.t, fun i j hi hj e => ?_, fun j hj => ?_⟩
  · obtain ⟨j, hj, rfl⟩ := List.mem_map.mp hy
    rw [List.mem_range] at hj
    apply q04.free
    have hm : Ls.getD j 0 ∈ Ls := by
      rw [List.getD_eq_getElem?_getD, List.getElem?_eq_getElem (by omega)]
      exact List.getElem_mem _
    have hm : Ls.getD j 0 ∈ o 0 :: o 1 :: ([l2, l3, l4, l5, l6, l7, l8, l9, l10] ++ fr) := by rw [hLs] at hm ⊢; exact hm
    show H4 (Ls.getD j 0) = none
    generalize Ls.getD j 0 = y at hm ⊢
    rcases List.mem_cons.mp hm with rfl | hm
    · exact n00
    rcases List.mem_cons.mp hm with rfl | hm
    · exact n01
    rw [← ecs] at hm
    obtain ⟨q, hq, rfl⟩ := List.mem_map.mp hm
    exact (hnx q hq).2.2
  · have e : Ls.getD i 0 = Ls.getD j 0 := e
    rw [List.getD_eq_getElem?_getD, List.getD_eq_getElem?_getD, List.getElem?_eq_getElem (by omega), List.getElem?_eq_getElem (by omega)] at e
    exact (List.getElem_inj ndL).mp e
  · have cell : ∀ {y : Addr} {u : HO}, (y, u) ∈ cells → H32 y = some u := fun {y u} h => hcs _ h
    match j, hj with
    | 0, _ =>
      show H32 (Ls.getD 0 0) = _
      rw [k0, Bz.hx]
      show _ = some (HO.ins _ (Ls.getD 1 0) (cirFs (fun j => Ls.getD j 0) st))
      rw [show Ls.getD 1 0 = o 1 by rw [hLs]; rfl, ← hfs]
      unfold cirFs
      rw [zo, hLs]
      rfl
    | 1, _ =>
      show H32 (Ls.getD 1 0) = some (.own (Ls.getD 0 0))
      rw [show Ls.getD 1 0 = o 1 by rw [hLs]; rfl, k0]
      exact Bz.hd
    | 2, _ => show H32 (Ls.getD 2 0) = _; rw [show Ls.getD 2 0 = l2 by rw [hLs]; rfl]; exact cell (by rw [← hcells]; simp [cirCell])
    | 3, _ => show H32 (Ls.getD 3 0) = _; rw [show Ls.getD 3 0 = l3 by rw [hLs]; rfl]; exact cell (by rw [← hcells]; simp [cirCell])
    | 4, _ => show H32 (Ls.getD 4 0) = _; rw [show Ls.getD 4 0 = l4 by rw [hLs]; rfl]; exact cell (by rw [← hcells]; simp [cirCell])
    | 5, _ => show H32 (Ls.getD 5 0) = _; rw [show Ls.getD 5 0 = l5 by rw [hLs]; rfl]; exact cell (by rw [← hcells]; simp [cirCell])
    | 6, _ => show H32 (Ls.getD 6 0) = _; rw [show Ls.getD 6 0 = l6 by rw [hLs]; rfl]; exact cell (by rw [← hcells]; simp [cirCell])
    | 7, _ => show H32 (Ls.getD 7 0) = _; rw [show Ls.getD 7 0 = l7 by rw [hLs]; rfl]; exact cell (by rw [← hcells]; simp [cirCell])
    | 8, _ => show H32 (Ls.getD 8 0) = _; rw [show Ls.getD 8 0 = l8 by rw [hLs]; rfl]; exact cell (by rw [← hcells]; simp [cirCell])
    | 9, _ => show H32 (Ls.getD 9 0) = _; rw [show Ls.getD 9 0 = l9 by rw [hLs]; rfl]; exact cell (by rw [← hcells]; simp [cirCell])
    | 10, _ =>
      show H32 (Ls.getD 10 0) = some (.lst ((List.range st.size).map fun i => .ref (Ls.getD (11 + i) 0)))
      have e : (List.range st.size).map (fun i => V.ref (Ls.getD (11 + i) 0)) = fr.map V.ref := by
        rw [← e2]
        apply List.ext_getElem
        · simp
        · intro n h1 h2
          have hn : n < fr.length := by simpa using h2
          simp only [List.getElem_map, List.getElem_range]
          rw [atf, gd n hn]
      rw [e, show Ls.getD 10 0 = l10 by rw [hLs]; rfl]
      exact cell (by rw [← hcells]; simp)
    | n + 11, hj =>
      show H32 (Ls.getD (n + 11) 0) = some (intsO (st.get n).fl)
      rw [Nat.add_comm n 11, atf]
      refine cell ?_
      rw [← hcells]
      exact List.mem_append_right _ (List.mem_map.mpr ⟨n, List.mem_range.mpr (by omega), rfl⟩)

end Su
namespace Su
open PySem L2
local macro_rules | `(tactic| walk_at "side") => `(tactic| first | assumption | (show (0 : Int) < _; omega) | (show (0 : Int) ≤ _; omega) | (show (0 : Int) < _; split <;> omega) | (show _ ∨ _; omega) | (show _ ∧ _; omega) | exact ⟨by decide, by decide, by decide⟩ | exact ⟨by first | assumption | omega, by first | assumption | omega⟩)
local macro_rules | `(tactic| walk_at "x") => `(tactic| first | with_reducible refine Su.x_seq ?_ | with_reducible refine Su.x_asg ?_ | with_reducible refine Su.x_gname ?_ | with_reducible refine Su.x_ret ?_ | with_reducible refine Su.x_ifS ?_ | ((with_reducible show L2.tVar _ _ _ _); refine Su.x_var rfl ?_) | with_reducible refine Su.x_c ?_ | with_reducible refine Su.x_op ?_ | with_reducible refine Su.x_rI0 ?_ | ((with_reducible refine Su.x_rI ?_ ?_); focus walk_at "side") | with_reducible refine Su.x_rGt ?_ | with_reducible refine Su.x_iteNT ?_ | with_reducible refine Su.x_eqS ?_ | with_reducible refine Su.x_neS ?_ | with_reducible refine Su.x_test ?_ | with_reducible refine Su.x_tB ?_ | with_reducible refine Su.x_isB' ?_ | with_reducible refine Su.x_not ?_ | with_reducible refine Su.x_or ?_ | with_reducible refine Su.x_nil ?_ | with_reducible refine Su.x_cons ?_ | with_reducible refine Su.x_cb ?_ | with_reducible refine Su.x_call ?_ | with_reducible refine Su.x_intB ?_ | with_reducible refine Su.x_lst ?_ | with_reducible refine Su.x_bmL ?_ | with_reducible refine Su.x_next ?_ | with_reducible refine Su.x_for ?_ | with_reducible refine Su.x_iRng1 ?_)
local macro_rules | `(tactic| walk_at "xs") => `(tactic| repeat walk_at "x")
local macro_rules | `(tactic| walk_at "if") => `(tactic| first | with_reducible refine Su.x_iteD (fun c => ?_) (fun c => ?_) | with_reducible refine Su.x_iteN (fun c => ?_) (fun c => ?_) | with_reducible refine Su.x_ite (fun c => ?_) (fun c => ?_))
local macro_rules | `(tactic| walk_at "x") => `(tactic| first | with_reducible refine Su.x_dgetE ?_)
local macro_rules | `(tactic| walk_at "at") => `(tactic| first | assumption | (refine Su.f_at (by assumption) ?_; walk_at "at"))
local macro_rules | `(tactic| walk_at "sm") => `(tactic| first | assumption | exact L2.Same.refl _ | (refine Su.f_tr (by assumption) ?_; walk_at "sm"))
local macro_rules | `(tactic| walk_at "hp") => `(tactic| first | assumption | ((with_reducible refine Su.f_sqL ?_); walk_at "at") | ((with_reducible refine Su.f_sqT ?_); walk_at "at") | ((with_reducible show L2.Same _ _); walk_at "sm") | ((with_reducible show _ = none); refine Su.f_free ?_ (by assumption); walk_at "sm") | ((with_reducible show _ = some _); walk_at "at") | (refine Su.f_dp (by assumption) ?_; walk_at "hp") | (refine Su.f_dpA (by assumption) ?_; walk_at "hp") | (refine Su.f_sqLs (by assumption) ?_; walk_at "hp") | (refine Su.f_sqTs (by assumption) ?_; walk_at "hp"))
local macro_rules | `(tactic| walk_at "x") => `(tactic| first | with_reducible refine Su.x_meth ?_)
local macro_rules | `(tactic| walk_at "me") => `(tactic| first | refine Su.c_meth (by assumption) rfl ?_ | refine Su.so_meth (by assumption) rfl ?_)
local macro_rules | `(tactic| walk_at "x") => `(tactic| first | with_reducible refine Su.s_0 (by assumption) ?_ | with_reducible refine Su.s_1 (by assumption) ?_ | with_reducible refine Su.s_3 (by assumption) ?_ | with_reducible refine Su.s_4 (by assumption) ?_ | with_reducible refine Su.s_5 (by assumption) ?_ | with_reducible refine Su.s_6 (by assumption) ?_ | with_reducible refine Su.s_7 (by assumption) ?_ | with_reducible refine Su.s_8 (by assumption) ?_)

/-! _law_alike -/
def sp_law_alike (K : PySem.W.Frag) : Sp := fun vs H Q _ => ∃ (a b : Nat → Addr) (st : CS), vs = [.ref (a 0), .ref (b 0)] ∧ CirAt K H a st ∧ StAt H b st ∧ WF st ∧ (∀ i, i < st.size → (st.get i).fl.length ≤ 1000) ∧ ∀ H', Same H H' → Q (.bl true) H'
def dSeat (r : SeatR) : PyData := .tuple [.str r.st.s, .int r.wh, .int r.pl, .int r.gv, .int r.dr, .int r.sh, .int r.ms]
theorem good_seat (r : SeatR) : GoodD 1 (dSeat r) := .tup (by simp) fun d hd => by
  simp only [List.mem_cons, List.not_mem_nil, or_false] at hd
  rcases hd with rfl | rfl | rfl | rfl | rfl | rfl | rfl
  · exact good_s _ _
  all_goals exact .int _ _
theorem dp_seat {K : PySem.W.Frag} {H : Hp} {p : Addr} {r : SeatR} (h : H p = some (.tup (seatV r))) : Dp K H (.ref p) (dSeat r) :=
  .tup (SqT.of h) (.cons (.str _) (.cons (.int _) (.cons (.int _) (.cons (.int _) (.cons (.int _) (.cons (.int _) (.cons (.int _) .nil)))))))
def dHead (st : CS) : PyData := .list [.int st.now, .bool (decide (st.size < st.now)), dN st.line, .int st.due, .int st.chest]
theorem x_disp {trs : List (TE × TE)} {σ : St} {H : Hp} {Q : VK} (h : ∀ p, H p = none → tPairs trs σ (upd H p (.dK [])) fun ps H2 => H2 p = some (.dK []) ∧ ∃ kvs : List (Key × V), ps = kvs.map (fun kv => (kV kv.1, kv.2)) ∧ kvs.length ≤ 15 ∧ Q (.ref p) (upd H2 p (.dK (mergeK [] kvs)))) : tDisp trs σ H Q := h
theorem x_pc {tk tv : TE} {r : List (TE × TE)} {σ : St} {H : Hp} {Q : List (V × V) → Hp → Prop} (h : tk σ H fun x H1 => tv σ H1 fun y H2 => tPairs r σ H2 fun ps H3 => Q ((x, y) :: ps) H3) : tPairs ((tk, tv) :: r) σ H Q := h
theorem x_pn {σ : St} {H : Hp} {Q : List (V × V) → Hp → Prop} (h : Q [] H) : tPairs [] σ H Q := h
def comesS (r : SeatR) : Int := if r.st = .drew then r.wh else 0
theorem comes_val (r : SeatR) : valV (mergeK [] [((Sum.inr "waits" : Key), V.int 0), (Sum.inr "drew", .int r.wh), (Sum.inr "fell", .int 0)]) (Sum.inr r.st.s) = some (.int (comesS r)) := by
  unfold comesS
  cases e : r.st
  · rfl
  · rw [if_pos rfl]; rfl
  · rfl
abbrev N_law_alike : List Str := ["_law_circle", "_law_state", "_law_told", "_law_at", "_law_seat", "_law_owed", "_law_comes"]
def t_law_alike (K : PySem.W.Frag) : TS :=
 (tSeq (tAsg (tLst (tCons (tMeth (He.ga K "Circle") "turn" (sp_Circle_turn K) [] E0 (tVar 0) tNil) (tCons (tMeth (He.ga K "Circle") "ended" (sp_Circle_ended K) [] E0 (tVar 0) tNil) (tCons (tMeth (He.ga K "Circle") "queue" (sp_Circle_queue K) [] E0 (tVar 0) tNil) (tCons (tMeth (He.ga K "Circle") "rests" (sp_Circle_rests K) [] E0 (tVar 0) tNil) (tCons (tMeth (He.ga K "Circle") "box" (sp_Circle_box K) [] E0 (tVar 0) tNil) tNil)))))) (gName 2))
 (tSeq (tIfS (tNot (tB (tCall (sp_law_same K) [] E0 (tCons (tVar 2) (tCons (tLst (tCons (tOp (rIxL K) (tVar 1) (tC (.int 3))) (tCons (tOp rGt (tOp (rIxL K) (tVar 1) (tC (.int 3))) (tOp (rIxL K) (tVar 1) (tC (.int 1)))) (tCons (tOp (rIxL K) (tVar 1) (tC (.int 4))) (tCons (tOp (rIxL K) (tVar 1) (tC (.int 5))) (tCons (tOp (rIxL K) (tVar 1) (tC (.int 6))) tNil)))))) tNil)))))
 (tRet (tC (.bl false)))
 tNext)
 (tSeq (tFor (iRng1 (tCons (tOp (rIxL K) (tVar 1) (tC (.int 1))) tNil)) (gName 3)
 (tSeq (tAsg (tOp (rIxL K) (tOp (rIxL K) (tVar 1) (tC (.int 7))) (tVar 3)) (gName 4))
 (tSeq (tAsg (tOp rMul (tOp rMul (tOp (rIxL K) (tVar 1) (tC (.int 0))) (tOp rSub (tOp rAdd (tOp (rIxL K) (tVar 1) (tC (.int 1))) (tC (.int 1))) (tOp (rIxL K) (tVar 1) (tC (.int 3))))) (tCB rInt1 (tCons (tOp rNe (tOp (rIxL K) (tVar 4) (tC (.int 0))) (tC (.str "fell"))) tNil))) (gName 5))
 (tSeq (tAsg (tDGet (tDisp [((tC (.str "waits")), (tC (.int 0))), ((tC (.str "drew")), (tOp (rIxL K) (tVar 4) (tC (.int 1)))), ((tC (.str "fell")), (tC (.int 0)))]) (tOp (rIxL K) (tVar 4) (tC (.int 0)))) (gName 6))
 (C8.tCut (tIfS (tTest (tOp rEq (tOp (rIxL K) (tVar 4) (tC (.int 0))) (tC (.str "waits"))))
 (tAsg (tOp rAdd (tOp rAdd (tOp (rIxL K) (tVar 1) (tC (.int 3))) (tOp (rIxL K) (tVar 1) (tC (.int 5)))) (tBM K "list" (rIndex K) (tOp (rIxL K) (tVar 1) (tC (.int 4))) (tCons (tVar 3) tNil))) (gName 6))
 tNext)
 (tSeq (tIfS (tNot (tB (tCall (sp_law_same K) [] E0 (tCons (tLst (tCons (tMeth (He.ga K "Circle") "owed" (sp_Circle_owed K) [] E0 (tVar 0) (tCons (tVar 3) tNil)) (tCons (tMeth (He.ga K "Circle") "expected" (sp_Circle_expected K) [] E0 (tVar 0) (tCons (tVar 3) tNil)) tNil))) (tCons (tLst (tCons (tVar 5) (tCons (tVar 6) tNil))) tNil)))))
 (tRet (tC (.bl false)))
 tNext)
 (tIfS (tOr (tNot (tB (tCall (sp_law_same K) [] E0 (tCons (tMeth (He.ga K "Circle") "seat" (sp_Circle_seat K) [] E0 (tVar 0) (tCons (tVar 3) tNil)) (tCons (tCB (rTupleOf K) (tCons (tVar 4) tNil)) tNil))))) (tNot (tB (tCall (sp_law_same K) [] E0 (tCons (tMeth (He.ga K "Circle") "flow" (sp_Circle_flow K) [] E0 (tVar 0) (tCons (tVar 3) tNil)) (tCons (tOp (rIxL K) (tOp (rIxL K) (tVar 1) (tC (.int 8))) (tVar 3)) tNil))))))
 (tRet (tC (.bl false)))
 tNext)))))))
 (tRet (tC (.bl true))))))

theorem len_law_alike {K : PySem.W.Frag} : ∀ vs H Q E, sp_law_alike K vs H Q E → vs.length = ["a", "b"].length := by
  rintro vs H Q E ⟨_, _, _, rfl, _⟩; rfl
theorem pure_law_alike {K : PySem.W.Frag} {vs : List V} {H : Hp} {Q : VK} {E : XK} (h : sp_law_alike K vs H Q E) : t_law_alike K { nx := fun _ H' => Q .non H', rt := Q } (start N_law_alike vs) H := by
  obtain ⟨a, b, st, rfl, ca, cb, wf, hfl, k⟩ := h
  unfold t_law_alike
  have n2 := wf.n2
  have s1 := wf.s1
  have s2 := wf.s2
  have ln : st.line.length ≤ 1000 := by have := wf.cnt; omega
  have gh : GoodD 2 (dHead st) := .lst (by simp) fun d hd => by
    simp only [List.mem_cons, List.not_mem_nil, or_false] at hd
    rcases hd with rfl | rfl | rfl | rfl | rfl
    · exact .int _ _
    · exact .bool _ _
    · exact good_dN ln
    · exact .int _ _
    · exact .int _ _
  walk_at "xs"
  walk_at "me"
  walk_at "xs"
  refine ⟨a, st, rfl, ca, ?_⟩
  walk_at "xs"
  walk_at "me"
  walk_at "xs"
  refine ⟨a, st, rfl, ca, ?_⟩
  walk_at "xs"
  walk_at "me"
  walk_at "xs"
  refine ⟨a, st, rfl, ca, fun L H1 nL q1 hL => ?_⟩
  have ca1 := ca.same q1
  have cb1 := cb.same q1
  walk_at "xs"
  walk_at "me"
  walk_at "xs"
  refine ⟨a, st, rfl, ca1, ?_⟩
  walk_at "xs"
  walk_at "me"
  walk_at "xs"
  refine ⟨a, st, rfl, ca1, ?_⟩
  walk_at "xs"
  refine al_lst fun T H2 nT q2 hT => ?_
  have cb2 := cb1.same q2
  walk_at "xs"
  refine al_lst fun U H3 nU q3 hU => ?_
  have cb3 := cb2.same q3
  have hl3 : H3 (b 1) = some (.lst (nI st.line)) := cb3.at_ 1 (by omega)
  walk_at "xs"
  have ed : decide ((st.size : Int) < (st.now : Int)) = decide (st.size < st.now) := by
    by_cases c : st.size < st.now
    · rw [decide_eq_true c, decide_eq_true (by omega)]
    · rw [decide_eq_false c, decide_eq_false (by omega)]
  rw [ed] at hU
  refine x_sameSelf gh (by decide) (.lst (SqL.of (q3 _ _ hT)) (.cons (.int _) (.cons (.bl _) (.cons (dp_nI (q3 _ _ (q2 _ _ hL))) (.cons (.int _) (.cons (.int _) .nil)))))) (.lst (SqL.of hU) (.cons (.int _) (.cons (.bl _) (.cons (dp_nI hl3) (.cons (.int _) (.cons (.int _) .nil)))))) fun H4 q4 => ?_
  have q04 := ((q1.trans q2).trans q3).trans q4
  have cb4 := cb3.same q4
  walk_at "xs"
  refine ⟨st.size, rfl, by omega, by omega, for_by turnsR (fun i σ H' => ∃ (u3 u4 u5 u6 : Option V), σ = [some (.ref (a 0)), some (.ref (b 0)), some (.ref T), u3, u4, u5, u6] ∧ Same H H') ⟨none, none, none, none, rfl, q04⟩ (fun _ _ _ _ _ => trivial) ?_ ?_⟩
  · rintro i y σ H5 _ hi ⟨u3, u4, u5, u6, rfl, q5⟩ ⟨rfl, rfl⟩
    have hi' : i < st.size := by omega
    rw [show (0 : Int) + (i : Int) = i by omega]
    have ca5 := ca.same q5
    have cb5 := cb.same q5
    have hs5 := s_seat cb5 hi'
    have wl : (st.get i).st = .waits → i ∈ st.line := fun z => (wf.mem i).mpr ⟨hi', z⟩
    walk_at "xs"
    refine s_seats cb5 rfl hi' ?_
    walk_at "xs"
    refine x_ixL (v := .str (st.get i).st.s) (SqL.of hs5) (by rfl) ?_
    walk_at "xs"
    first | refine x_rI (C := CMul) (.inr (by split <;> decide)) ?_ | skip
    have eo : st.stake * ((st.size : Int) + 1 - (st.now : Int)) * (if (!decide ((st.get i).st.s = ("fell" : Str))) = true then 1 else 0) = owedS st i := by
      unfold owedS
      by_cases c : (st.get i).st = .fell
      · rw [decide_eq_true ((seat_fell _).mpr c), if_pos c]; simp
      · rw [decide_eq_false (fun z => c ((seat_fell _).mp z)), if_neg c]; simp
    rw [eo]
    walk_at "xs"
    refine x_disp fun D nD => ?_
    have h1 : upd H5 D (.dK []) (b (4 + 2 * i)) = some (.lst (seatV (st.get i))) := upd_new hs5 nD
    have q6 : Same H (upd H5 D (.dK (mergeK [] [(Sum.inr "waits", V.int 0), (Sum.inr "drew", .int (st.get i).wh), (Sum.inr "fell", .int 0)]))) := same_new q5 nD
    refine x_pc ?_
    walk_at "xs"
    refine x_pc ?_
    walk_at "xs"
    refine x_ixL (v := .int (st.get i).wh) (SqL.of h1) (by rfl) ?_
    refine x_pc ?_
    walk_at "xs"
    refine x_pn ?_
    refine ⟨upd_same, [(Sum.inr "waits", V.int 0), (Sum.inr "drew", .int (st.get i).wh), (Sum.inr "fell", .int 0)], rfl, by show 3 ≤ 15; decide, ?_⟩
    rw [upd_upd]
    have hD : upd H5 D (.dK (mergeK [] [(Sum.inr "waits", V.int 0), (Sum.inr "drew", .int (st.get i).wh), (Sum.inr "fell", .int 0)])) D = some (.dK (mergeK [] [(Sum.inr "waits", V.int 0), (Sum.inr "drew", .int (st.get i).wh), (Sum.inr "fell", .int 0)])) := upd_same
    generalize upd H5 D (.dK (mergeK [] [(Sum.inr "waits", V.int 0), (Sum.inr "drew", .int (st.get i).wh), (Sum.inr "fell", .int 0)])) = H6 at q6 hD ⊢
    have ca6 := ca.same q6
    have cb6 := cb.same q6
    have hs6 := s_seat cb6 hi'
    walk_at "xs"
    refine x_ixL (v := .str (st.get i).st.s) (SqL.of hs6) (by rfl) ?_
    refine ⟨D, .int (comesS (st.get i)), rfl, ?_, ?_⟩
    · have := DGet.k (k := Sum.inr (st.get i).st.s) hD
      rw [comes_val] at this
      exact this
    walk_at "xs"
    refine x_cut (fun σ H' => σ = [some (.ref (a 0)), some (.ref (b 0)), some (.ref T), some (.int i), some (.ref (b (4 + 2 * i))), some (.int (owedS st i)), some (.int (expS st i))] ∧ H6 = H') ?_ ?_
    · walk_at "xs"
      refine x_ixL (v := .str (st.get i).st.s) (SqL.of hs6) (by rfl) ?_
      walk_at "xs"
      unfold expS comesS
      walk_at "if"
      · rename_i c
        rw [seat_waits] at c
        rw [if_pos c]
        walk_at "xs"
        refine ⟨tyL (SqL.of (cb6.at_ 1 (by omega))), ?_⟩
        walk_at "xs"
        refine x_indexN rfl (SqL.of (cb6.at_ 1 (by omega))) (wl c) ?_
        walk_at "xs"
        exact ⟨rfl, rfl⟩
      · rename_i c
        rw [seat_waits] at c
        rw [if_neg c]
        exact ⟨rfl, rfl⟩
    rintro _ _ ⟨rfl, rfl⟩
    walk_at "xs"
    walk_at "me"
    walk_at "xs"
    refine ⟨a, st, i, rfl, ca6, fun z => absurd ⟨by omega, by omega⟩ z, by omega, by omega, fun m hm _ => ?_⟩
    obtain rfl : i = m := by omega
    walk_at "xs"
    walk_at "me"
    walk_at "xs"
    refine ⟨a, st, i, rfl, ca6, fun z => absurd ⟨by omega, by omega⟩ z, fun m hm _ => ?_⟩
    obtain rfl : i = m := by omega
    refine ⟨wl, ?_⟩
    walk_at "xs"
    refine al_lst fun x1 H7 nx1 q7 hx1 => ?_
    walk_at "xs"
    refine al_lst fun x2 H8 nx2 q8 hx2 => ?_
    walk_at "xs"
    refine x_sameSelf (d := .list [.int (owedS st i), .int (expS st i)]) (n := 1) (.lst (by simp) fun d hd => ?_) (by decide) (.lst (SqL.of (q8 _ _ hx1)) (.cons (.int _) (.cons (.int _) .nil))) (.lst (SqL.of hx2) (.cons (.int _) (.cons (.int _) .nil))) fun H9 q9 => ?_
    · simp only [List.mem_cons, List.not_mem_nil, or_false] at hd
      rcases hd with rfl | rfl <;> exact .int _ _
    have q09 := ((q6.trans q7).trans q8).trans q9
    have ca9 := ca.same q09
    have cb9 := cb.same q09
    walk_at "xs"
    walk_at "me"
    walk_at "xs"
    refine ⟨a, st, i, rfl, ca9, fun z => absurd ⟨by omega, by omega⟩ z, fun m hm _ x3 H10 nx3 q10 hx3 => ?_⟩
    obtain rfl : i = m := by omega
    have hs10 := q10 _ _ (s_seat cb9 hi')
    walk_at "xs"
    refine ⟨_, _, rfl, .inl ⟨SqL.of hs10, fun x4 nx4 => ?_⟩⟩
    have q11 : Same H10 (upd H10 x4 (.tup (seatV (st.get i)))) := same_new (Same.refl _) nx4
    have hx4 : upd H10 x4 (.tup (seatV (st.get i))) x4 = some (.tup (seatV (st.get i))) := upd_same
    generalize upd H10 x4 (.tup (seatV (st.get i))) = H11 at q11 hx4 ⊢
    walk_at "xs"
    refine x_sameSelf (good_seat (st.get i)) (by decide) (dp_seat (q11 _ _ hx3)) (dp_seat hx4) fun H12 q12 => ?_
    have q012 := ((q09.trans q10).trans q11).trans q12
    have ca12 := ca.same q012
    have cb12 := cb.same q012
    walk_at "xs"
    walk_at "me"
    walk_at "xs"
    refine ⟨a, st, i, rfl, ca12, fun z => absurd ⟨by omega, by omega⟩ z, fun m hm _ x5 H13 nx5 q13 hx5 => ?_⟩
    obtain rfl : i = m := by omega
    have cb13 := cb12.same q13
    walk_at "xs"
    refine s_flows cb13 rfl hi' ?_
    walk_at "xs"
    refine x_sameSelf (good_ints (hfl i hi')) (by decide) (dp_ints (SqL.of hx5)) (dp_ints (SqL.of (s_flow cb13 hi'))) fun H14 q14 => ?_
    walk_at "xs"
    exact ⟨_, _, _, _, rfl, (q012.trans q13).trans q14⟩
  · rintro σ H5 ⟨u3, u4, u5, u6, rfl, q5⟩
    walk_at "xs"
    exact k _ q5

end Su
namespace Su
open PySem L2
local macro_rules | `(tactic| walk_at "side") => `(tactic| first | assumption | (show (0 : Int) < _; omega) | (show (0 : Int) ≤ _; omega) | (show (0 : Int) < _; split <;> omega) | (show _ ∨ _; omega) | (show _ ∧ _; omega) | exact ⟨by decide, by decide, by decide⟩ | exact ⟨by first | assumption | omega, by first | assumption | omega⟩)
local macro_rules | `(tactic| walk_at "x") => `(tactic| first
  | with_reducible refine Su.x_seq ?_ | with_reducible refine Su.x_asg ?_ | with_reducible refine Su.x_gname ?_ | with_reducible refine Su.x_drop ?_ | with_reducible refine Su.x_ret ?_ | with_reducible refine Su.x_ifS ?_
  | ((with_reducible show L2.tVar _ _ _ _); refine Su.x_var rfl ?_) | with_reducible refine Su.x_c ?_ | with_reducible refine Su.x_op ?_ | with_reducible refine Su.x_rI0 ?_ | ((with_reducible refine Su.x_rI ?_ ?_); focus walk_at "side")
  | ((with_reducible show L2.rIxL _ (L2.V.ref _) (L2.V.int _) _ _); refine Su.x_ixI (by assumption) (by first | decide | omega) (by omega) ?_) | with_reducible refine Su.x_isi_int_int ?_ | with_reducible refine Su.x_isi_int_bool ?_ | with_reducible refine Su.x_isi_int_str ?_ | with_reducible refine Su.x_isi_int_list ?_ | with_reducible refine Su.x_isi_int_tuple ?_ | with_reducible refine Su.x_isi_bool_int ?_ | with_reducible refine Su.x_isi_bool_bool ?_ | with_reducible refine Su.x_isi_bool_str ?_ | with_reducible refine Su.x_isi_bool_list ?_ | with_reducible refine Su.x_isi_bool_tuple ?_ | with_reducible refine Su.x_isi_str_int ?_ | with_reducible refine Su.x_isi_str_bool ?_ | with_reducible refine Su.x_isi_str_str ?_ | with_reducible refine Su.x_isi_str_list ?_ | with_reducible refine Su.x_isi_str_tuple ?_ | with_reducible refine Su.x_isi_NoneType_int ?_ | with_reducible refine Su.x_isi_NoneType_bool ?_ | with_reducible refine Su.x_isi_NoneType_str ?_ | with_reducible refine Su.x_isi_NoneType_list ?_ | with_reducible refine Su.x_isi_NoneType_tuple ?_ | with_reducible refine Su.x_rGt ?_ | with_reducible refine Su.x_rGe ?_ | with_reducible refine Su.x_iteF ?_ | with_reducible refine Su.x_iteT ?_ | with_reducible refine Su.x_iteNT ?_ | with_reducible refine Su.x_iteNF ?_ | with_reducible refine Su.x_eqI ?_ | with_reducible refine Su.x_neI ?_ | with_reducible refine Su.x_eqS ?_ | with_reducible refine Su.x_neS ?_ | with_reducible refine Su.x_eqB ?_ | with_reducible refine Su.x_neB ?_
  | with_reducible refine Su.x_test ?_ | with_reducible refine Su.x_tB ?_ | with_reducible refine Su.x_isB ?_ | with_reducible refine Su.x_isB' ?_ | with_reducible refine Su.x_not ?_ | with_reducible refine Su.x_and ?_ | with_reducible refine Su.x_or ?_
  | with_reducible refine Su.x_andV ?_ | with_reducible refine Su.x_orV ?_ | with_reducible refine Su.x_notV ?_ | with_reducible refine Su.x_chain ?_ | with_reducible refine Su.x_nil ?_ | with_reducible refine Su.x_cons ?_ | with_reducible refine Su.x_cb ?_ | with_reducible refine Su.x_call ?_
  | with_reducible refine Su.x_un ?_ | with_reducible refine Su.x_rU ?_ | with_reducible refine Su.x_abs ?_ | with_reducible refine Su.x_max2 ?_ | with_reducible refine Su.x_min2 ?_ | with_reducible refine Su.x_int1 ?_ | with_reducible refine Su.x_intB ?_
  | with_reducible refine Su.x_lst ?_ | with_reducible refine Su.x_tup ?_ | with_reducible refine Su.x_bmL ?_ | with_reducible refine Su.x_next ?_ | with_reducible refine Su.x_for ?_ | with_reducible refine Su.x_iList ?_ | with_reducible refine Su.x_iRng1 ?_ | with_reducible refine Su.x_iRng2 ?_ | with_reducible refine Su.x_whileN ?_ | with_reducible refine Su.x_iEnum ?_ | with_reducible refine Su.x_iZip ?_ | with_reducible refine Su.x_iZipA ?_ | with_reducible refine Su.x_iTup ?_ | with_reducible refine Su.x_gcons ?_ | with_reducible refine Su.x_gnil ?_ | with_reducible refine Su.x_gsub ?_ | with_reducible refine Su.x_yes ?_ | with_reducible refine Su.x_lc ?_ | with_reducible refine Su.x_sl ?_ | with_reducible refine Su.x_nopart ?_ | with_reducible refine Su.x_part ?_ | with_reducible refine Su.x_isI ?_ | with_reducible refine Su.x_lstRg ?_ | with_reducible refine Su.x_rg1 ?_ | with_reducible refine Su.x_augS ?_ | with_reducible refine Su.x_ipI ?_ | ((with_reducible show L2.tAug _ _ _ _ _ _); refine Su.x_aug rfl ?_) | with_reducible refine Su.x_callS ?_ | with_reducible refine Su.x_tryAs ?_)
local macro_rules | `(tactic| walk_at "xs") => `(tactic| repeat walk_at "x")
local macro_rules | `(tactic| walk_at "if") => `(tactic| first | with_reducible refine Su.x_iteD (fun c => ?_) (fun c => ?_) | with_reducible refine Su.x_iteN (fun c => ?_) (fun c => ?_) | with_reducible refine Su.x_ite (fun c => ?_) (fun c => ?_))
/-! a law's state made of its lists -/
def stIx (n j : Nat) : Nat := if j < 4 then j else if j % 2 = 0 then 4 + (j - 4) / 2 else 4 + n + (j - 4) / 2
theorem stIx_inj {n i j : Nat} (hi : i < 4 + 2 * n) (hj : j < 4 + 2 * n) (h : stIx n i = stIx n j) : i = j := by
  unfold stIx at h
  split at h <;> split at h <;> (try split at h) <;> (try split at h) <;> omega
theorem stIx_lt {n j : Nat} (hj : j < 4 + 2 * n) : stIx n j < 4 + 2 * n := by
  unfold stIx
  split
  · omega
  · split <;> omega
theorem st_make {H : Hp} {X L S W : Addr} {sf ff : List Addr} {st : CS} (hX : H X = some (.lst [.int st.stake, .int st.size, .bl st.bidding, .int st.now, .ref L, .int st.due, .int st.chest, .ref S, .ref W])) (hL : H L = some (.lst (nI st.line))) (hS : H S = some (.lst (sf.map V.ref))) (hW : H W = some (.lst (ff.map V.ref)))
    (ls : sf.length = st.size) (lf : ff.length = st.size) (hs : ∀ j (h : j < sf.length), H sf[j] = some (.lst (seatV (st.get j)))) (hf : ∀ j (h : j < ff.length), H ff[j] = some (intsO (st.get j).fl)) (nd : (X :: L :: S :: W :: (sf ++ ff)).Nodup) :
    ∃ b : Nat → Addr, b 0 = X ∧ StAt H b st ∧ ∀ x ∈ stFoot b st.size, x ∈ X :: L :: S :: W :: (sf ++ ff) := by
  obtain ⟨Ls, hLs⟩ : ∃ Ls, Ls = X :: L :: S :: W :: (sf ++ ff) := ⟨_, rfl⟩
  have Ll : Ls.length = 4 + 2 * st.size := by rw [hLs]; simp [ls, lf]; omega
  rw [← hLs] at nd
  have gs : ∀ i, i < st.size → Ls.getD (4 + i) 0 = sf.getD i 0 := fun i hi => by
    rw [hLs, Nat.add_comm]
    show (sf ++ ff).getD i 0 = _
    rw [List.getD_eq_getElem?_getD, List.getElem?_append_left (by omega), List.getD_eq_getElem?_getD]
  have gf : ∀ i, Ls.getD (4 + st.size + i) 0 = ff.getD i 0 := fun i => by
    rw [hLs, show 4 + st.size + i = (st.size + i) + 4 by omega]
    show (sf ++ ff).getD (st.size + i) 0 = _
    rw [List.getD_eq_getElem?_getD, List.getElem?_append_right (by omega), List.getD_eq_getElem?_getD, ls, Nat.add_sub_cancel_left]
  have bs : ∀ m, m % 2 = 0 → m / 2 < st.size → Ls.getD (stIx st.size (m + 4)) 0 = sf.getD (m / 2) 0 := fun m h hm => by
    unfold stIx
    rw [if_neg (by omega), if_pos (by omega), Nat.add_sub_cancel]; exact gs _ hm
  have bf : ∀ m, ¬ m % 2 = 0 → Ls.getD (stIx st.size (m + 4)) 0 = ff.getD (m / 2) 0 := fun m h => by
    unfold stIx
    rw [if_neg (by omega), if_neg (by omega), Nat.add_sub_cancel]; exact gf _
  have gd : ∀ (l : List Addr) j (h : j < l.length), l.getD j 0 = l[j] := fun l j h => by rw [List.getD_eq_getElem?_getD, List.getElem?_eq_getElem h]; rfl
  refine ⟨fun j => Ls.getD (stIx st.size j) 0, by rw [hLs]; rfl, ⟨fun i j hi hj e => ?_, fun j hj => ?_⟩, fun x hx => ?_⟩
  · have e : Ls.getD (stIx st.size i) 0 = Ls.getD (stIx st.size j) 0 := e
    have l1 := stIx_lt hi
    have l2 := stIx_lt hj
    rw [gd _ _ (by omega), gd _ _ (by omega)] at e
    exact stIx_inj hi hj ((List.getElem_inj nd).mp e)
  · match j, hj with
    | 0, _ =>
      show H (Ls.getD 0 0) = some (.lst [_, _, _, _, .ref (Ls.getD 1 0), _, _, .ref (Ls.getD 2 0), .ref (Ls.getD 3 0)])
      rw [hLs]; exact hX
    | 1, _ => show H (Ls.getD 1 0) = some (.lst (nI st.line)); rw [hLs]; exact hL
    | 2, _ =>
      show H (Ls.getD 2 0) = some (.lst ((List.range st.size).map fun i => .ref (Ls.getD (stIx st.size (4 + 2 * i)) 0)))
      have e : (List.range st.size).map (fun i => V.ref (Ls.getD (stIx st.size (4 + 2 * i)) 0)) = sf.map V.ref := by
        apply List.ext_getElem
        · simp [ls]
        · intro k h1 h2
          have hk : k < sf.length := by simpa using h2
          simp only [List.getElem_map, List.getElem_range]
          rw [Nat.add_comm 4, bs (2 * k) (by omega) (by omega), show 2 * k / 2 = k by omega, gd _ _ hk]
      rw [e, hLs]; exact hS
    | 3, _ =>
      show H (Ls.getD 3 0) = some (.lst ((List.range st.size).map fun i => .ref (Ls.getD (stIx st.size (5 + 2 * i)) 0)))
      have e : (List.range st.size).map (fun i => V.ref (Ls.getD (stIx st.size (5 + 2 * i)) 0)) = ff.map V.ref := by
        apply List.ext_getElem
        · simp [lf]
        · intro k h1 h2
          have hk : k < ff.length := by simpa using h2
          simp only [List.getElem_map, List.getElem_range]
          rw [show 5 + 2 * k = (2 * k + 1) + 4 by omega, bf (2 * k + 1) (by omega), show (2 * k + 1) / 2 = k by omega, gd _ _ hk]
      rw [e, hLs]; exact hW
    | m + 4, hj =>
      show H (Ls.getD (stIx st.size (m + 4)) 0) = some (if m % 2 = 0 then .lst (seatV (st.get (m / 2))) else intsO (st.get (m / 2)).fl)
      by_cases h : m % 2 = 0
      · rw [if_pos h, bs m h (by omega), gd _ _ (by omega)]; exact hs _ _
      · rw [if_neg h, bf m h, gd _ _ (by omega)]; exact hf _ _
  · obtain ⟨j, hj, rfl⟩ := List.mem_map.mp hx
    have := stIx_lt (List.mem_range.mp hj)
    rw [← hLs]
    show Ls.getD _ 0 ∈ Ls
    rw [gd _ _ (by omega)]
    exact List.getElem_mem _

end Su
namespace Su
open PySem L2
local macro_rules | `(tactic| walk_at "side") => `(tactic| first | assumption | (show (0 : Int) < _; omega) | (show (0 : Int) ≤ _; omega) | (show (0 : Int) < _; split <;> omega) | (show _ ∨ _; omega) | (show _ ∧ _; omega) | exact ⟨by decide, by decide, by decide⟩ | exact ⟨by first | assumption | omega, by first | assumption | omega⟩)
local macro_rules | `(tactic| walk_at "x") => `(tactic| first
  | with_reducible refine Su.x_seq ?_ | with_reducible refine Su.x_asg ?_ | with_reducible refine Su.x_gname ?_ | with_reducible refine Su.x_drop ?_ | with_reducible refine Su.x_ret ?_ | with_reducible refine Su.x_ifS ?_
  | ((with_reducible show L2.tVar _ _ _ _); refine Su.x_var rfl ?_) | with_reducible refine Su.x_c ?_ | with_reducible refine Su.x_op ?_ | with_reducible refine Su.x_rI0 ?_ | ((with_reducible refine Su.x_rI ?_ ?_); focus walk_at "side")
  | ((with_reducible show L2.rIxL _ (L2.V.ref _) (L2.V.int _) _ _); refine Su.x_ixI (by assumption) (by first | decide | omega) (by omega) ?_) | with_reducible refine Su.x_isi_int_int ?_ | with_reducible refine Su.x_isi_int_bool ?_ | with_reducible refine Su.x_isi_int_str ?_ | with_reducible refine Su.x_isi_int_list ?_ | with_reducible refine Su.x_isi_int_tuple ?_ | with_reducible refine Su.x_isi_bool_int ?_ | with_reducible refine Su.x_isi_bool_bool ?_ | with_reducible refine Su.x_isi_bool_str ?_ | with_reducible refine Su.x_isi_bool_list ?_ | with_reducible refine Su.x_isi_bool_tuple ?_ | with_reducible refine Su.x_isi_str_int ?_ | with_reducible refine Su.x_isi_str_bool ?_ | with_reducible refine Su.x_isi_str_str ?_ | with_reducible refine Su.x_isi_str_list ?_ | with_reducible refine Su.x_isi_str_tuple ?_ | with_reducible refine Su.x_isi_NoneType_int ?_ | with_reducible refine Su.x_isi_NoneType_bool ?_ | with_reducible refine Su.x_isi_NoneType_str ?_ | with_reducible refine Su.x_isi_NoneType_list ?_ | with_reducible refine Su.x_isi_NoneType_tuple ?_ | with_reducible refine Su.x_rGt ?_ | with_reducible refine Su.x_rGe ?_ | with_reducible refine Su.x_iteF ?_ | with_reducible refine Su.x_iteT ?_ | with_reducible refine Su.x_iteNT ?_ | with_reducible refine Su.x_iteNF ?_ | with_reducible refine Su.x_eqI ?_ | with_reducible refine Su.x_neI ?_ | with_reducible refine Su.x_eqS ?_ | with_reducible refine Su.x_neS ?_ | with_reducible refine Su.x_eqB ?_ | with_reducible refine Su.x_neB ?_
  | with_reducible refine Su.x_test ?_ | with_reducible refine Su.x_tB ?_ | with_reducible refine Su.x_isB ?_ | with_reducible refine Su.x_isB' ?_ | with_reducible refine Su.x_not ?_ | with_reducible refine Su.x_and ?_ | with_reducible refine Su.x_or ?_
  | with_reducible refine Su.x_andV ?_ | with_reducible refine Su.x_orV ?_ | with_reducible refine Su.x_notV ?_ | with_reducible refine Su.x_chain ?_ | with_reducible refine Su.x_nil ?_ | with_reducible refine Su.x_cons ?_ | with_reducible refine Su.x_cb ?_ | with_reducible refine Su.x_call ?_
  | with_reducible refine Su.x_un ?_ | with_reducible refine Su.x_rU ?_ | with_reducible refine Su.x_abs ?_ | with_reducible refine Su.x_max2 ?_ | with_reducible refine Su.x_min2 ?_ | with_reducible refine Su.x_int1 ?_ | with_reducible refine Su.x_intB ?_
  | with_reducible refine Su.x_lst ?_ | with_reducible refine Su.x_tup ?_ | with_reducible refine Su.x_bmL ?_ | with_reducible refine Su.x_next ?_ | with_reducible refine Su.x_for ?_ | with_reducible refine Su.x_iList ?_ | with_reducible refine Su.x_iRng1 ?_ | with_reducible refine Su.x_iRng2 ?_ | with_reducible refine Su.x_whileN ?_ | with_reducible refine Su.x_iEnum ?_ | with_reducible refine Su.x_iZip ?_ | with_reducible refine Su.x_iZipA ?_ | with_reducible refine Su.x_iTup ?_ | with_reducible refine Su.x_gcons ?_ | with_reducible refine Su.x_gnil ?_ | with_reducible refine Su.x_gsub ?_ | with_reducible refine Su.x_yes ?_ | with_reducible refine Su.x_lc ?_ | with_reducible refine Su.x_sl ?_ | with_reducible refine Su.x_nopart ?_ | with_reducible refine Su.x_part ?_ | with_reducible refine Su.x_isI ?_ | with_reducible refine Su.x_lstRg ?_ | with_reducible refine Su.x_rg1 ?_ | with_reducible refine Su.x_augS ?_ | with_reducible refine Su.x_ipI ?_ | ((with_reducible show L2.tAug _ _ _ _ _ _); refine Su.x_aug rfl ?_) | with_reducible refine Su.x_callS ?_ | with_reducible refine Su.x_tryAs ?_)
local macro_rules | `(tactic| walk_at "xs") => `(tactic| repeat walk_at "x")
local macro_rules | `(tactic| walk_at "if") => `(tactic| first | with_reducible refine Su.x_iteD (fun c => ?_) (fun c => ?_) | with_reducible refine Su.x_iteN (fun c => ?_) (fun c => ?_) | with_reducible refine Su.x_ite (fun c => ?_) (fun c => ?_))
local macro_rules | `(tactic| walk_at "at") => `(tactic| first | assumption | (refine Su.f_at (by assumption) ?_; walk_at "at"))
local macro_rules | `(tactic| walk_at "sm") => `(tactic| first | assumption | exact L2.Same.refl _ | (refine Su.f_tr (by assumption) ?_; walk_at "sm"))
local macro_rules | `(tactic| walk_at "hp") => `(tactic| first | assumption | ((with_reducible refine Su.f_sqL ?_); walk_at "at") | ((with_reducible refine Su.f_sqT ?_); walk_at "at") | ((with_reducible show L2.Same _ _); walk_at "sm") | ((with_reducible show _ = none); refine Su.f_free ?_ (by assumption); walk_at "sm") | ((with_reducible show _ = some _); walk_at "at") | (refine Su.f_dp (by assumption) ?_; walk_at "hp") | (refine Su.f_dpA (by assumption) ?_; walk_at "hp") | (refine Su.f_sqLs (by assumption) ?_; walk_at "hp") | (refine Su.f_sqTs (by assumption) ?_; walk_at "hp"))
local macro_rules | `(tactic| walk_at "x") => `(tactic| first | with_reducible refine Su.s_0 (by assumption) ?_ | with_reducible refine Su.s_1 (by assumption) ?_ | with_reducible refine Su.s_2 (by assumption) ?_ | with_reducible refine Su.s_3 (by assumption) ?_ | with_reducible refine Su.s_4 (by assumption) ?_ | with_reducible refine Su.s_5 (by assumption) ?_ | with_reducible refine Su.s_6 (by assumption) ?_ | with_reducible refine Su.s_7 (by assumption) ?_ | with_reducible refine Su.s_8 (by assumption) ?_)
theorem al_cat {H : Hp} {Q : VK} {l b : Addr} {xs zs : List V} (h1 : H l = some (.lst xs)) (h2 : H b = some (.lst zs)) (hn : xs.length + zs.length ≤ 100000) (h : ∀ p H', H p = none → Same H H' → H' p = some (.lst (xs ++ zs)) → Q (.ref p) H') : rCat (.ref l) (.ref b) H Q := ⟨l, b, xs, zs, rfl, rfl, h1, h2, Nat.le_of_lt (small hn), fun p n => h p _ n (same_new (Same.refl H) n) upd_same⟩
def sp_law_copy (K : PySem.W.Frag) : Sp := fun vs H Q _ => ∃ (b : Nat → Addr) (st : CS), vs = [.ref (b 0)] ∧ StAt H b st ∧ st.size ≤ 1000 ∧ ∀ (b' : Nat → Addr) (H' : Hp), Same H H' → (∀ x ∈ stFoot b' st.size, H x = none) → StAt H' b' st → Q (.ref (b' 0)) H'
abbrev N_law_copy : List Str := ["_law_state", "_law_seats", "_law_flows", "_law_seat", "_law_flow"]
def t_law_copy (K : PySem.W.Frag) : TS :=
 (tSeq (tAsg (tLc (iList K (tOp (rIxL K) (tVar 0) (tC (.int 7)))) (gName 3) tYes (tCB (rListOf K) (tCons (tVar 3) tNil)) [3]) (gName 1))
 (tSeq (tAsg (tLc (iList K (tOp (rIxL K) (tVar 0) (tC (.int 8)))) (gName 4) tYes (tCB (rListOf K) (tCons (tVar 4) tNil)) [4]) (gName 2))
 (tRet (tOp rCat (tOp rCat (tOp rCat (tSl (rSlL K) (tVar 0) tNoPart (tPart (tC (.int 4)))) (tLst (tCons (tCB (rListOf K) (tCons (tOp (rIxL K) (tVar 0) (tC (.int 4))) tNil)) tNil))) (tSl (rSlL K) (tVar 0) (tPart (tC (.int 5))) (tPart (tC (.int 7))))) (tLst (tCons (tVar 1) (tCons (tVar 2) tNil)))))))

theorem len_law_copy {K : PySem.W.Frag} : ∀ vs H Q E, sp_law_copy K vs H Q E → vs.length = ["a"].length := by
  rintro vs H Q E ⟨_, _, rfl, _⟩; rfl
theorem pure_law_copy {K : PySem.W.Frag} {vs : List V} {H : Hp} {Q : VK} {E : XK} (h : sp_law_copy K vs H Q E) : t_law_copy K { nx := fun _ H' => Q .non H', rt := Q } (start N_law_copy vs) H := by
  obtain ⟨b, st, rfl, hc, hz, k⟩ := h
  unfold t_law_copy
  walk_at "xs"
  have h2 : H (b 2) = some (.lst ((List.range st.size).map fun i => V.ref (b (4 + 2 * i)))) := hc.at_ 2 (by omega)
  have h3 : H (b 3) = some (.lst ((List.range st.size).map fun i => V.ref (b (5 + 2 * i)))) := hc.at_ 3 (by omega)
  refine ⟨b 2, rfl, ⟨_, SqL.of h2⟩, fun S nS => ?_⟩
  refine lc_by (turnsL (K := K) (a := b 2) (xs := (List.range st.size).map fun i => V.ref (b (4 + 2 * i)))) (Fam H S fun j => .lst (seatV (st.get j))) (Fam.start nS) (fun i H' _ f => SqL.of (f.s _ _ h2)) ?_ ?_
  · rintro i v Hc _ hi fm ⟨rfl, hv⟩
    rw [List.length_map, List.length_range] at hi
    rw [List.getElem?_map, List.getElem?_range hi] at hv
    cases hv
    walk_at "xs"
    refine x_wipe rfl ?_
    walk_at "xs"
    refine al_list (SqL.of (s_seat (hc.same fm.s) hi)) fun q Hd nq sd hq => ?_
    exact fm.step nS nq sd hq (by omega)
  intro H3 fS
  rw [List.length_map, List.length_range] at fS
  obtain ⟨sf, hS, sl, snd, sat⟩ := fS.ex
  have q3 := fS.s
  have c3 := hc.same q3
  walk_at "xs"
  refine ⟨b 3, rfl, ⟨_, SqL.of (q3 _ _ h3)⟩, fun W nW => ?_⟩
  refine lc_by (turnsL (K := K) (a := b 3) (xs := (List.range st.size).map fun i => V.ref (b (5 + 2 * i)))) (Fam H3 W fun j => intsO (st.get j).fl) (Fam.start nW) (fun i H' _ f => SqL.of (f.s _ _ (q3 _ _ h3))) ?_ ?_
  · rintro i v Hc _ hi fm ⟨rfl, hv⟩
    rw [List.length_map, List.length_range] at hi
    rw [List.getElem?_map, List.getElem?_range hi] at hv
    cases hv
    walk_at "xs"
    refine x_wipe rfl ?_
    walk_at "xs"
    refine al_list (SqL.of (s_flow (c3.same fm.s) hi)) fun q Hd nq sd hq => ?_
    exact fm.step nW nq sd hq (by omega)
  intro H4 fW
  rw [List.length_map, List.length_range] at fW
  obtain ⟨ff, hW, fl, fnd, fat⟩ := fW.ex
  have q4 := fW.s
  have c4 := c3.same q4
  walk_at "xs"
  refine al_slL (SqL.of (c4.at_ 0 (by omega))) fun s1 H5 ns1 q5 hs1 => ?_
  have c5 := c4.same q5
  walk_at "xs"
  refine al_list (SqL.of (c5.at_ 1 (by omega))) fun L H6 nL q6 hL => ?_
  have c6 := c5.same q6
  walk_at "xs"
  refine al_lst fun s2 H7 ns2 q7 hs2 => ?_
  have c7 := c6.same q7
  walk_at "xs"
  have hs1 : H5 s1 = some (.lst [.int st.stake, .int st.size, .bl st.bidding, .int st.now]) := hs1
  refine al_cat (q7 _ _ (q6 _ _ hs1)) hs2 (by simp) fun t1 H8 nt1 q8 ht1 => ?_
  have c8 := c7.same q8
  walk_at "xs"
  refine al_slL (SqL.of (c8.at_ 0 (by omega))) fun s3 H9 ns3 q9 hs3 => ?_
  have hs3 : H9 s3 = some (.lst [.int st.due, .int st.chest]) := hs3
  walk_at "xs"
  refine al_cat (q9 _ _ ht1) hs3 (by simp) fun t2 H10 nt2 q10 ht2 => ?_
  walk_at "xs"
  refine al_lst fun s4 H11 ns4 q11 hs4 => ?_
  walk_at "xs"
  refine al_cat (q11 _ _ ht2) hs4 (by simp) fun X H12 nX q12 hX => ?_
  have q612 := ((((q7.trans q8).trans q9).trans q10).trans q11).trans q12
  have q412 := (q5.trans q6).trans q612
  have qtop : Same H6 H11 := (((q7.trans q8).trans q9).trans q10).trans q11
  have nX6 : H6 X = none := qtop.free nX
  have s4 : ∀ y ∈ sf, ∃ o, H4 y = some o := fun y hy => by
    obtain ⟨j, hj, rfl⟩ := List.getElem_of_mem hy
    exact ⟨_, q4 _ _ (sat j hj).2.2⟩
  have f4 : ∀ y ∈ ff, ∃ o, H4 y = some o := fun y hy => by
    obtain ⟨j, hj, rfl⟩ := List.getElem_of_mem hy
    exact ⟨_, (fat j hj).2.2⟩
  have n4 : ∀ {y : Addr}, (∃ o, H4 y = some o) → y ≠ L ∧ y ≠ X := fun {y} ⟨o, h⟩ => ⟨ne_of_none (q5 _ _ h) nL, ne_of_none (q6 _ _ (q5 _ _ h)) nX6⟩
  have LX : L ≠ X := ne_of_none hL nX6
  have mem4 : ∀ y ∈ S :: W :: (sf ++ ff), ∃ o, H4 y = some o := fun y hy => by
    rcases List.mem_cons.mp hy with rfl | hy
    · exact ⟨_, q4 _ _ hS⟩
    rcases List.mem_cons.mp hy with rfl | hy
    · exact ⟨_, hW⟩
    rcases List.mem_append.mp hy with hy | hy
    · exact s4 y hy
    · exact f4 y hy
  have nd : (X :: L :: S :: W :: (sf ++ ff)).Nodup := by
    rw [List.nodup_cons, List.nodup_cons, List.nodup_cons, List.nodup_cons, List.nodup_append]
    refine ⟨fun z => ?_, fun z => (n4 (mem4 _ z)).1 rfl, fun z => ?_, fun z => ?_, snd, fnd, fun y hy z hz e => ?_⟩
    · rcases List.mem_cons.mp z with z | z
      · exact LX z.symm
      · exact (n4 (mem4 _ z)).2 rfl
    · rcases List.mem_cons.mp z with z | z
      · exact ne_of_none hS nW z
      rcases List.mem_append.mp z with z | z
      · obtain ⟨j, hj, e⟩ := List.getElem_of_mem z
        exact (sat j hj).2.1 e
      · obtain ⟨j, hj, e⟩ := List.getElem_of_mem z
        exact ne_of_none hS (fat j hj).1 e.symm
    · rcases List.mem_append.mp z with z | z
      · obtain ⟨j, hj, e⟩ := List.getElem_of_mem z
        exact ne_of_none (sat j hj).2.2 nW e
      · obtain ⟨j, hj, e⟩ := List.getElem_of_mem z
        exact (fat j hj).2.1 e
    · obtain ⟨j, hj, rfl⟩ := List.getElem_of_mem hy
      obtain ⟨i, hi, rfl⟩ := List.getElem_of_mem hz
      exact ne_of_none (sat j hj).2.2 (fat i hi).1 e
  obtain ⟨b', b0, sb, fb⟩ := st_make (st := st) (X := X) (L := L) (S := S) (W := W) (sf := sf) (ff := ff) hX (q612 _ _ hL) (q412 _ _ (q4 _ _ hS)) (q412 _ _ hW) sl fl (fun j h => q412 _ _ (q4 _ _ (sat j h).2.2)) (fun j h => q412 _ _ (fat j h).2.2) nd
  walk_at "xs"
  rw [← b0]
  refine k b' H12 ((q3.trans q4).trans q412) (fun x hx => ?_) sb
  have hx := fb x hx
  have q06 : Same H H4 := q3.trans q4
  rcases List.mem_cons.mp hx with rfl | hx
  · exact q06.free ((q5.trans q6).free nX6)
  rcases List.mem_cons.mp hx with rfl | hx
  · exact q06.free (q5.free nL)
  rcases List.mem_cons.mp hx with rfl | hx
  · exact nS
  rcases List.mem_cons.mp hx with rfl | hx
  · exact q3.free nW
  rcases List.mem_append.mp hx with hx | hx
  · obtain ⟨j, hj, rfl⟩ := List.getElem_of_mem hx
    exact (sat j hj).1
  · obtain ⟨j, hj, rfl⟩ := List.getElem_of_mem hx
    exact q3.free (fat j hj).1

end Su
namespace Su
open PySem L2
local macro_rules | `(tactic| walk_at "side") => `(tactic| first | assumption | (show (0 : Int) < _; omega) | (show (0 : Int) ≤ _; omega) | (show (0 : Int) < _; split <;> omega) | (show _ ∨ _; omega) | (show _ ∧ _; omega) | exact ⟨by decide, by decide, by decide⟩ | exact ⟨by first | assumption | omega, by first | assumption | omega⟩)
local macro_rules | `(tactic| walk_at "x") => `(tactic| first | with_reducible refine Su.x_seq ?_ | with_reducible refine Su.x_drop ?_ | with_reducible refine Su.x_ifS ?_ | ((with_reducible show L2.tVar _ _ _ _); refine Su.x_var rfl ?_) | with_reducible refine Su.x_c ?_ | with_reducible refine Su.x_rI0 ?_ | with_reducible refine Su.x_iteNF ?_ | with_reducible refine Su.x_test ?_ | with_reducible refine Su.x_tB ?_ | with_reducible refine Su.x_isB' ?_ | with_reducible refine Su.x_not ?_ | with_reducible refine Su.x_chain ?_ | with_reducible refine Su.x_nil ?_ | with_reducible refine Su.x_cons ?_ | with_reducible refine Su.x_next ?_ | with_reducible refine Su.x_augS ?_ | with_reducible refine Su.x_ipI ?_)
local macro_rules | `(tactic| walk_at "xs") => `(tactic| repeat walk_at "x")
local macro_rules | `(tactic| walk_at "if") => `(tactic| first | with_reducible refine Su.x_iteD (fun c => ?_) (fun c => ?_) | with_reducible refine Su.x_iteN (fun c => ?_) (fun c => ?_) | with_reducible refine Su.x_ite (fun c => ?_) (fun c => ?_))
local macro_rules | `(tactic| walk_at "at") => `(tactic| first | assumption | (refine Su.f_at (by assumption) ?_; walk_at "at"))
local macro_rules | `(tactic| walk_at "sm") => `(tactic| first | assumption | exact L2.Same.refl _ | (refine Su.f_tr (by assumption) ?_; walk_at "sm"))
local macro_rules | `(tactic| walk_at "hp") => `(tactic| first | assumption | ((with_reducible refine Su.f_sqL ?_); walk_at "at") | ((with_reducible refine Su.f_sqT ?_); walk_at "at") | ((with_reducible show L2.Same _ _); walk_at "sm") | ((with_reducible show _ = none); refine Su.f_free ?_ (by assumption); walk_at "sm") | ((with_reducible show _ = some _); walk_at "at") | (refine Su.f_dp (by assumption) ?_; walk_at "hp") | (refine Su.f_dpA (by assumption) ?_; walk_at "hp") | (refine Su.f_sqLs (by assumption) ?_; walk_at "hp") | (refine Su.f_sqTs (by assumption) ?_; walk_at "hp"))
local macro_rules | `(tactic| walk_at "x") => `(tactic| first | with_reducible refine Su.x_fld ?_ | with_reducible refine Su.x_meth ?_ | with_reducible refine Su.c_pledged (by assumption) ?_)
local macro_rules | `(tactic| walk_at "me") => `(tactic| first | refine Su.c_meth (by assumption) rfl ?_ | refine Su.so_meth (by assumption) rfl ?_)

def layS (st : CS) (n : Nat) (c : Int) : CS := st.mod n fun r => { r with pl := r.pl + c }
def sp_Circle_lay (K : PySem.W.Frag) : Sp := fun vs H Q E => ∃ (a : Nat → Addr) (st : CS) (i c : Int), vs = [.ref (a 0), .int i, .int c] ∧ CirAt K H a st ∧ (¬ (0 ≤ i ∧ i < st.size) → E (.ref (He.ga K "NoSeat")) none H) ∧ (0 ≤ i → i < st.size → st.size < st.now → E (.ref (He.ga K "Ended")) none H) ∧ (0 ≤ i → i < st.size → ¬ st.size < st.now → ¬ (1 ≤ c ∧ c ≤ 1000000000) → E (.ref (He.ga K "BadNumber")) none H) ∧ (0 ≤ i → i < st.size → ¬ st.size < st.now → 1 ≤ c → c ≤ 1000000000 → ∀ H', Off (cirFoot a st.size) H H' → CirAt K H' a (layS st i.toNat c) → Q .non H')
abbrev N_Circle_lay : List Str := ["self", "at", "coins"]
def t_Circle_lay (K : PySem.W.Frag) (E : XK) : TS :=
 (tSeq (tDrop (tMeth (He.ga K "Circle") "check_seat" (sp_Circle_check_seat K) [] E (tVar 0) (tCons (tVar 1) tNil)))
 (tSeq (tIfS (tB (tMeth (He.ga K "Circle") "ended" (sp_Circle_ended K) [] E0 (tVar 0) tNil))
 (tRaise (He.ga K "Ended") (wE E))
 tNext)
 (tSeq (tIfS (tNot (tTest (tChain rLe rLe (tC (.int 1)) (tVar 2) (tC (.int 1000000000)))))
 (tRaise (He.ga K "BadNumber") (wE E))
 tNext)
 (tAugS (tFld K (tVar 0) "pledged") (tVar 1) (tVar 2) (rIxL K) (ipI fun i j => i + j) rSetL))))

theorem len_Circle_lay {K : PySem.W.Frag} : ∀ vs H Q E, sp_Circle_lay K vs H Q E → vs.length = ["a", "b", "c"].length := by
  rintro vs H Q E ⟨_, _, _, _, rfl, _⟩; rfl
theorem pure_Circle_lay {K : PySem.W.Frag} {vs : List V} {H : Hp} {Q : VK} {E : XK} (h : sp_Circle_lay K vs H Q E) : t_Circle_lay K E { nx := fun _ H' => Q .non H', rt := Q } (start N_Circle_lay vs) H := by
  obtain ⟨a, st, i, c, rfl, hc, k1, k2, k3, k4⟩ := h
  unfold t_Circle_lay
  walk_at "xs"
  walk_at "me"
  walk_at "xs"
  refine ⟨a, st, i, rfl, hc, fun h0 h1 => ?_, k1⟩
  obtain ⟨n, rfl⟩ : ∃ n : Nat, i = n := ⟨i.toNat, by omega⟩
  have hn : n < st.size := by omega
  walk_at "xs"
  walk_at "me"
  walk_at "xs"
  refine ⟨a, st, rfl, hc, ?_⟩
  walk_at "xs"
  walk_at "if"
  · rename_i e
    exact k2 h0 h1 e
  rename_i e
  have k3 := k3 h0 h1 e
  have k4 := k4 h0 h1 e
  rw [show ((n : Int)).toNat = n by omega] at k4
  have go : 1 ≤ c → c ≤ 1000000000 → (tAugS (tFld K (tVar 0) "pledged") (tVar 1) (tVar 2) (rIxL K) (ipI fun i j => i + j) rSetL) { nx := fun _ H' => Q .non H', rt := Q } [some (.ref (a 0)), some (.int n), some (.int c)] H := by
    intro e1 e2
    walk_at "xs"
    refine i_pledged hc rfl hn ?_
    walk_at "xs"
    refine w_pl hc rfl rfl hn fun H1 s1 o1 c1 z1 es => ?_
    refine k4 e1 e2 H1 o1 ?_
    have : layS st n c = s1 := by
      rw [es]
      unfold layS CS.mod
      congr 1
      exact mod_eq rfl
    rw [this]; exact c1
  walk_at "xs"
  walk_at "if"
  · rename_i e1
    walk_at "xs"
    walk_at "if"
    · rename_i e2
      exact k3 fun z => e2 z.2
    · rename_i e2
      exact go e1 (by simpa using e2)
  · rename_i e1
    walk_at "xs"
    exact k3 fun z => e1 z.1

end Su
namespace Su
open PySem L2
local macro_rules | `(tactic| walk_at "side") => `(tactic| first | assumption | (show (0 : Int) < _; omega) | (show (0 : Int) ≤ _; omega) | (show (0 : Int) < _; split <;> omega) | (show _ ∨ _; omega) | (show _ ∧ _; omega) | exact ⟨by decide, by decide, by decide⟩ | exact ⟨by first | assumption | omega, by first | assumption | omega⟩)
local macro_rules | `(tactic| walk_at "x") => `(tactic| first | with_reducible refine Su.x_seq ?_ | with_reducible refine Su.x_asg ?_ | with_reducible refine Su.x_gname ?_ | with_reducible refine Su.x_drop ?_ | with_reducible refine Su.x_ifS ?_ | ((with_reducible show L2.tVar _ _ _ _); refine Su.x_var rfl ?_) | with_reducible refine Su.x_c ?_ | with_reducible refine Su.x_op ?_ | with_reducible refine Su.x_iteT ?_ | with_reducible refine Su.x_neS ?_ | with_reducible refine Su.x_test ?_ | with_reducible refine Su.x_tB ?_ | with_reducible refine Su.x_isB' ?_ | with_reducible refine Su.x_not ?_ | with_reducible refine Su.x_or ?_ | with_reducible refine Su.x_nil ?_ | with_reducible refine Su.x_cons ?_ | with_reducible refine Su.x_bmL ?_ | with_reducible refine Su.x_next ?_ | with_reducible refine Su.x_gsub ?_)
local macro_rules | `(tactic| walk_at "xs") => `(tactic| repeat walk_at "x")
local macro_rules | `(tactic| walk_at "if") => `(tactic| first | with_reducible refine Su.x_iteD (fun c => ?_) (fun c => ?_) | with_reducible refine Su.x_iteN (fun c => ?_) (fun c => ?_) | with_reducible refine Su.x_ite (fun c => ?_) (fun c => ?_))
local macro_rules | `(tactic| walk_at "at") => `(tactic| first | assumption | (refine Su.f_at (by assumption) ?_; walk_at "at"))
local macro_rules | `(tactic| walk_at "sm") => `(tactic| first | assumption | exact L2.Same.refl _ | (refine Su.f_tr (by assumption) ?_; walk_at "sm"))
local macro_rules | `(tactic| walk_at "hp") => `(tactic| first | assumption | ((with_reducible refine Su.f_sqL ?_); walk_at "at") | ((with_reducible refine Su.f_sqT ?_); walk_at "at") | ((with_reducible show L2.Same _ _); walk_at "sm") | ((with_reducible show _ = none); refine Su.f_free ?_ (by assumption); walk_at "sm") | ((with_reducible show _ = some _); walk_at "at") | (refine Su.f_dp (by assumption) ?_; walk_at "hp") | (refine Su.f_dpA (by assumption) ?_; walk_at "hp") | (refine Su.f_sqLs (by assumption) ?_; walk_at "hp") | (refine Su.f_sqTs (by assumption) ?_; walk_at "hp"))
local macro_rules | `(tactic| walk_at "x") => `(tactic| first | with_reducible refine Su.x_fld ?_ | with_reducible refine Su.x_meth ?_ | with_reducible refine Su.c_line (by assumption) ?_ | with_reducible refine Su.c_state (by assumption) ?_)
local macro_rules | `(tactic| walk_at "me") => `(tactic| first | refine Su.c_meth (by assumption) rfl ?_ | refine Su.so_meth (by assumption) rfl ?_)

def SwapOk (st : CS) (n m : Nat) : Prop := firstCov st.stake st.size (st.get n).pl ≤ expS st m ∧ firstCov st.stake st.size (st.get m).pl ≤ expS st n
def swapS (st : CS) (n m : Nat) : CS := { st with line := (st.line.set (st.line.idxOf n) m).set (st.line.idxOf m) n }
def sp_Circle_swap (K : PySem.W.Frag) : Sp := fun vs H Q E => ∃ (a : Nat → Addr) (st : CS) (i j : Int), vs = [.ref (a 0), .int i, .int j] ∧ CirAt K H a st ∧ 0 < st.stake ∧ st.stake ≤ 1000000 ∧ (∀ n, n < st.size → (st.get n).st = .waits → n ∈ st.line) ∧ (¬ ((0 ≤ i ∧ i < st.size) ∧ 0 ≤ j ∧ j < st.size) → E (.ref (He.ga K "NoSeat")) none H) ∧ (∀ n m : Nat, i = n → j = m → n < st.size → m < st.size → (st.size < st.now → E (.ref (He.ga K "Ended")) none H) ∧ (¬ st.size < st.now → ((st.get n).st ≠ .waits ∨ (st.get m).st ≠ .waits) → E (.ref (He.ga K "NotWaiting")) none H) ∧ (¬ st.size < st.now → (st.get n).st = .waits → (st.get m).st = .waits → ¬ SwapOk st n m → E (.ref (He.ga K "Uncovered")) none H) ∧ (¬ st.size < st.now → (st.get n).st = .waits → (st.get m).st = .waits → SwapOk st n m → ∀ H', Off (cirFoot a st.size) H H' → CirAt K H' a (swapS st n m) → Q .non H'))
abbrev N_Circle_swap : List Str := ["self", "at", "other", "here", "there"]
def t_Circle_swap (K : PySem.W.Frag) (E : XK) : TS :=
 (tSeq (tDrop (tMeth (He.ga K "Circle") "check_seat" (sp_Circle_check_seat K) [] E (tVar 0) (tCons (tVar 1) tNil)))
 (tSeq (tDrop (tMeth (He.ga K "Circle") "check_seat" (sp_Circle_check_seat K) [] E (tVar 0) (tCons (tVar 2) tNil)))
 (tSeq (tIfS (tB (tMeth (He.ga K "Circle") "ended" (sp_Circle_ended K) [] E0 (tVar 0) tNil))
 (tRaise (He.ga K "Ended") (wE E))
 tNext)
 (tSeq (tIfS (tOr (tTest (tOp rNe (tOp (rIxL K) (tFld K (tVar 0) "state") (tVar 1)) (tC (.str "waits")))) (tTest (tOp rNe (tOp (rIxL K) (tFld K (tVar 0) "state") (tVar 2)) (tC (.str "waits")))))
 (tRaise (He.ga K "NotWaiting") (wE E))
 tNext)
 (tSeq (tIfS (tOr (tNot (tB (tMeth (He.ga K "Circle") "covered_at" (sp_Circle_covered_at K) [] E0 (tVar 0) (tCons (tVar 1) (tCons (tMeth (He.ga K "Circle") "expected" (sp_Circle_expected K) [] E (tVar 0) (tCons (tVar 2) tNil)) tNil))))) (tNot (tB (tMeth (He.ga K "Circle") "covered_at" (sp_Circle_covered_at K) [] E0 (tVar 0) (tCons (tVar 2) (tCons (tMeth (He.ga K "Circle") "expected" (sp_Circle_expected K) [] E (tVar 0) (tCons (tVar 1) tNil)) tNil))))))
 (tRaise (He.ga K "Uncovered") (wE E))
 tNext)
 (tSeq (tAsg (tBM K "list" (rIndex K) (tFld K (tVar 0) "line") (tCons (tVar 1) tNil)) (gName 3))
 (tSeq (tAsg (tBM K "list" (rIndex K) (tFld K (tVar 0) "line") (tCons (tVar 2) tNil)) (gName 4))
 (tSeq (tAsg (tVar 2) (gSub (tFld K (tVar 0) "line") (tVar 3) rSetL))
 (tAsg (tVar 1) (gSub (tFld K (tVar 0) "line") (tVar 4) rSetL))))))))))

theorem len_Circle_swap {K : PySem.W.Frag} : ∀ vs H Q E, sp_Circle_swap K vs H Q E → vs.length = ["a", "b", "c"].length := by
  rintro vs H Q E ⟨_, _, _, _, rfl, _⟩; rfl
theorem pure_Circle_swap {K : PySem.W.Frag} {vs : List V} {H : Hp} {Q : VK} {E : XK} (h : sp_Circle_swap K vs H Q E) : t_Circle_swap K E { nx := fun _ H' => Q .non H', rt := Q } (start N_Circle_swap vs) H := by
  obtain ⟨a, st, i, j, rfl, hc, s0, s1, wl, k1, k2⟩ := h
  unfold t_Circle_swap
  walk_at "xs"
  walk_at "me"
  walk_at "xs"
  refine ⟨a, st, i, rfl, hc, fun h0 h1 => ?_, fun z => k1 fun q => z q.1⟩
  walk_at "xs"
  walk_at "me"
  walk_at "xs"
  refine ⟨a, st, j, rfl, hc, fun h2 h3 => ?_, fun z => k1 fun q => z q.2⟩
  obtain ⟨n, rfl⟩ : ∃ n : Nat, i = n := ⟨i.toNat, by omega⟩
  obtain ⟨m, rfl⟩ : ∃ m : Nat, j = m := ⟨j.toNat, by omega⟩
  have hn : n < st.size := by omega
  have hm : m < st.size := by omega
  obtain ⟨k2, k3, k4, k5⟩ := k2 n m rfl rfl hn hm
  walk_at "xs"
  walk_at "me"
  walk_at "xs"
  refine ⟨a, st, rfl, hc, ?_⟩
  walk_at "xs"
  walk_at "if"
  · rename_i e
    exact k2 e
  rename_i e
  have k3 := k3 e
  have k4 := k4 e
  have k5 := k5 e
  walk_at "xs"
  refine i_state hc rfl hn ?_
  walk_at "xs"
  walk_at "if"
  · rename_i e1
    rw [seat_waits] at e1
    walk_at "xs"
    exact k3 (.inl e1)
  rename_i e1
  have e1 : (st.get n).st = .waits := (seat_waits _).mp e1
  walk_at "xs"
  refine i_state hc rfl hm ?_
  walk_at "xs"
  walk_at "if"
  · rename_i e2
    rw [seat_waits] at e2
    exact k3 (.inr e2)
  rename_i e2
  have e2 : (st.get m).st = .waits := (seat_waits _).mp e2
  have k4 := k4 e1 e2
  have k5 := k5 e1 e2
  have ln := wl n hn e1
  have lm := wl m hm e2
  walk_at "xs"
  walk_at "me"
  walk_at "xs"
  walk_at "me"
  walk_at "xs"
  refine ⟨a, st, m, rfl, hc, fun z => absurd ⟨by omega, by omega⟩ z, fun q hq _ => ?_⟩
  obtain rfl : m = q := by omega
  refine ⟨fun _ => lm, ?_⟩
  walk_at "xs"
  refine ⟨a, st, n, _, rfl, hc, hn, s0, s1, ?_⟩
  walk_at "xs"
  walk_at "if"
  · rename_i e3
    walk_at "xs"
    exact k4 fun q => e3 q.1
  rename_i e3
  have e3 : firstCov st.stake st.size (st.get n).pl ≤ expS st m := e3
  walk_at "xs"
  walk_at "me"
  walk_at "xs"
  walk_at "me"
  walk_at "xs"
  refine ⟨a, st, n, rfl, hc, fun z => absurd ⟨by omega, by omega⟩ z, fun q hq _ => ?_⟩
  obtain rfl : n = q := by omega
  refine ⟨fun _ => ln, ?_⟩
  walk_at "xs"
  refine ⟨a, st, m, _, rfl, hc, hm, s0, s1, ?_⟩
  walk_at "xs"
  walk_at "if"
  · rename_i e4
    exact k4 fun q => e4 q.2
  rename_i e4
  have e4 : firstCov st.stake st.size (st.get m).pl ≤ expS st n := e4
  have k5 := k5 ⟨e3, e4⟩
  walk_at "xs"
  refine ⟨tyL (SqL.of (hc.at_ 2 (by omega))), ?_⟩
  walk_at "xs"
  refine x_indexN rfl (SqL.of (hc.at_ 2 (by omega))) ln ?_
  walk_at "xs"
  refine ⟨tyL (SqL.of (hc.at_ 2 (by omega))), ?_⟩
  walk_at "xs"
  refine x_indexN rfl (SqL.of (hc.at_ 2 (by omega))) lm ?_
  walk_at "xs"
  have l1 := List.idxOf_lt_length_iff.mpr ln
  have l2 := List.idxOf_lt_length_iff.mpr lm
  have w : ∀ {H : Hp} {st : CS} {i v : Nat} {Qh : Hp → Prop}, CirAt K H a st → i < st.line.length → (∀ H', Off (cirFoot a st.size) H H' → CirAt K H' a { st with line := st.line.set i v } → Qh H') → rSetL (.ref (a 2)) (.int (i : Int)) (.int (v : Int)) H Qh := fun {H st i v Qh} c hi q => by
    refine x_setL (c.at_ 2 (by omega)) (by omega) (by rw [nI_len]; omega) ?_
    have : (nI st.line).set ((i : Int)).toNat (.int (v : Int)) = nI (st.line.set i v) := by unfold nI; rw [List.map_set, Int.toNat_natCast]
    rw [this]
    exact q _ (Off.refl.upd (mem_foot (by omega))) c.set_line
  refine w hc l1 fun H1 o1 c1 => ?_
  walk_at "xs"
  refine w c1 (by show _ < (st.line.set _ _).length; rw [List.length_set]; exact l2) fun H2 o2 c2 => ?_
  exact k5 H2 (o1.trans o2) c2

end Su
namespace Su
open PySem L2
local macro_rules | `(tactic| walk_at "side") => `(tactic| first | assumption | (show (0 : Int) < _; omega) | (show (0 : Int) ≤ _; omega) | (show (0 : Int) < _; split <;> omega) | (show _ ∨ _; omega) | (show _ ∧ _; omega) | exact ⟨by decide, by decide, by decide⟩ | exact ⟨by first | assumption | omega, by first | assumption | omega⟩)
local macro_rules | `(tactic| walk_at "x") => `(tactic| first | with_reducible refine Su.x_ret ?_ | ((with_reducible show L2.tVar _ _ _ _); refine Su.x_var rfl ?_) | with_reducible refine Su.x_c ?_ | with_reducible refine Su.x_op ?_ | with_reducible refine Su.x_rI0 ?_ | with_reducible refine Su.x_nil ?_ | with_reducible refine Su.x_cons ?_ | with_reducible refine Su.x_cb ?_ | with_reducible refine Su.x_max2 ?_)
local macro_rules | `(tactic| walk_at "xs") => `(tactic| repeat walk_at "x")
local macro_rules | `(tactic| walk_at "if") => `(tactic| first | with_reducible refine Su.x_iteD (fun c => ?_) (fun c => ?_) | with_reducible refine Su.x_iteN (fun c => ?_) (fun c => ?_) | with_reducible refine Su.x_ite (fun c => ?_) (fun c => ?_))

/-! _law_early -/
def sp_law_early (K : PySem.W.Frag) : Sp := fun vs H Q _ => ∃ s n p : Int, vs = [.int s, .int n, .int p] ∧ 0 < s ∧ s ≤ 1000000 ∧ Q (.int (firstCov s n p)) H
abbrev N_law_early : List Str := ["_law_stake", "_law_size", "_law_pledge"]
def t_law_early (K : PySem.W.Frag) : TS :=
 (tRet (tCB rMax2 (tCons (tC (.int 1)) (tCons (tOp rSub (tVar 1) (tOp rDivW (tVar 2) (tVar 0))) tNil))))

theorem len_law_early {K : PySem.W.Frag} : ∀ vs H Q E, sp_law_early K vs H Q E → vs.length = ["a", "b", "c"].length := by
  rintro vs H Q E ⟨_, _, _, rfl, _⟩; rfl
theorem pure_law_early {K : PySem.W.Frag} {vs : List V} {H : Hp} {Q : VK} {E : XK} (h : sp_law_early K vs H Q E) : t_law_early K { nx := fun _ H' => Q .non H', rt := Q } (start N_law_early vs) H := by
  obtain ⟨s, n, p, rfl, h0, h1, k⟩ := h
  unfold t_law_early
  walk_at "xs"
  refine x_rI (C := CDivW) ⟨h0, log_small h0 h1⟩ ?_
  walk_at "xs"
  have e : (if n - p / s > 1 then n - p / s else 1) = firstCov s n p := by
    unfold firstCov
    split <;> split <;> omega
  rw [e]; exact k

end Su
namespace Su
open PySem L2
local macro_rules | `(tactic| walk_at "side") => `(tactic| first | assumption | (show (0 : Int) < _; omega) | (show (0 : Int) ≤ _; omega) | (show (0 : Int) < _; split <;> omega) | (show _ ∨ _; omega) | (show _ ∧ _; omega) | exact ⟨by decide, by decide, by decide⟩ | exact ⟨by first | assumption | omega, by first | assumption | omega⟩)
local macro_rules | `(tactic| walk_at "x") => `(tactic| first | with_reducible refine Su.x_seq ?_ | with_reducible refine Su.x_asg ?_ | with_reducible refine Su.x_gname ?_ | with_reducible refine Su.x_drop ?_ | with_reducible refine Su.x_ret ?_ | with_reducible refine Su.x_ifS ?_ | ((with_reducible show L2.tVar _ _ _ _); refine Su.x_var rfl ?_) | with_reducible refine Su.x_c ?_ | with_reducible refine Su.x_op ?_ | with_reducible refine Su.x_iteNT ?_ | with_reducible refine Su.x_iteNF ?_ | with_reducible refine Su.x_eqS ?_ | with_reducible refine Su.x_neS ?_ | with_reducible refine Su.x_test ?_ | with_reducible refine Su.x_tB ?_ | with_reducible refine Su.x_isB' ?_ | with_reducible refine Su.x_not ?_ | with_reducible refine Su.x_and ?_ | with_reducible refine Su.x_nil ?_ | with_reducible refine Su.x_cons ?_ | with_reducible refine Su.x_cb ?_ | with_reducible refine Su.x_un ?_ | with_reducible refine Su.x_rU ?_ | with_reducible refine Su.x_lst ?_ | with_reducible refine Su.x_tup ?_ | with_reducible refine Su.x_bmL ?_ | with_reducible refine Su.x_next ?_ | with_reducible refine Su.x_for ?_ | with_reducible refine Su.x_iEnum ?_ | with_reducible refine Su.x_gcons ?_ | with_reducible refine Su.x_gnil ?_ | with_reducible refine Su.x_gsub ?_ | with_reducible refine Su.x_augS ?_ | with_reducible refine Su.x_ipI ?_)
local macro_rules | `(tactic| walk_at "xs") => `(tactic| repeat walk_at "x")
local macro_rules | `(tactic| walk_at "if") => `(tactic| first | with_reducible refine Su.x_iteD (fun c => ?_) (fun c => ?_) | with_reducible refine Su.x_iteN (fun c => ?_) (fun c => ?_) | with_reducible refine Su.x_ite (fun c => ?_) (fun c => ?_))
local macro_rules | `(tactic| walk_at "x") => `(tactic| first | with_reducible refine Su.s_0 (by assumption) ?_ | with_reducible refine Su.s_3 (by assumption) ?_ | with_reducible refine Su.s_4 (by assumption) ?_ | with_reducible refine Su.s_5 (by assumption) ?_ | with_reducible refine Su.s_7 (by assumption) ?_ | with_reducible refine Su.s_8 (by assumption) ?_)

/-! _law_people -/
def sp_law_people (K : PySem.W.Frag) : Sp := fun vs H Q _ => ∃ (b : Nat → Addr) (st : CS) (p : Addr) (paid : List Bool), vs = [.ref (b 0), .ref p] ∧ StAt H b st ∧ WF st ∧ SqL K (hide (stFoot b st.size) H) p (paid.map V.bl) ∧ paid.length = st.size ∧ ∀ t f h H', H t = none → H f = none → H h = none → f ≠ h → Off (stFoot b st.size) H H' → StAt H' b (payS st paid) → H' t = some (.tup [.ref f, .ref h]) → H' f = some (.lst (nI (fallenS st paid))) → H' h = some (.lst (nI (helpedS st paid))) → Q (.ref t) H'
/-- what a seat becomes -/
def pplSeat (stake : Int) (now : Nat) (paid : List Bool) (i : Nat) (r : SeatR) : SeatR :=
  if r.st = .waits ∧ paid.getD i false = false then { r with st := .fell, wh := now, fl := r.fl ++ [0] }
  else if r.st ≠ .fell then { r with gv := r.gv + stake, fl := r.fl ++ [-stake], pl := if paid.getD i false = false then r.pl - stake else r.pl, ms := if paid.getD i false = false then r.ms + 1 else r.ms }
  else { r with fl := r.fl ++ [0] }
theorem ppl_pay {st : CS} {paid : List Bool} (wf : WF st) : (payS st paid).seats = st.seats.mapIdx (pplSeat st.stake st.now paid) := by
  apply List.ext_getElem?
  intro n
  rw [List.getElem?_mapIdx]
  by_cases hn : n < st.size
  · have hn' : n < st.seats.length := hn
    have hp : n < (payS st paid).seats.length := by show n < (payS st paid).size; rw [payS_size]; exact hn
    rw [List.getElem?_eq_getElem hp, List.getElem?_eq_getElem hn']
    have e1 : (payS st paid).seats[n] = (payS st paid).get n := by unfold CS.get; rw [List.getD_eq_getElem?_getD, List.getElem?_eq_getElem hp]; rfl
    have e2 : st.seats[n] = st.get n := by unfold CS.get; rw [List.getD_eq_getElem?_getD, List.getElem?_eq_getElem hn']; rfl
    rw [e1, payS_get hn, outS_get hn, e2]
    show some _ = some (pplSeat st.stake st.now paid n (st.get n))
    congr 1
    unfold pplSeat
    by_cases c : n ∈ fallenS st paid
    · have m := mem_fallen.mp c
      rw [if_pos c, if_pos ⟨m.2.1, m.2.2⟩]
      unfold collectSeat putSeat
      simp
    · rw [if_neg c]
      have m : ¬ ((st.get n).st = .waits ∧ paid.getD n false = false) := fun z => c (mem_fallen.mpr ⟨hn, z.1, z.2⟩)
      rw [if_neg m]
      unfold collectSeat
      by_cases d : (st.get n).st = .fell
      · rw [if_neg (show ¬ (st.get n).st ≠ .fell from fun z => z d), if_neg (show ¬ (st.get n).st ≠ .fell from fun z => z d), if_pos (wf.wh n hn d)]
      · rw [if_pos d, if_pos d]
        have hh : (n ∈ helpedS st paid) ↔ paid.getD n false = false := by
          rw [mem_helped]
          refine ⟨fun z => z.2.2, fun z => ⟨hn, ?_, z⟩⟩
          cases e : (st.get n).st with
          | waits => exact absurd ⟨e, z⟩ m
          | drew => rfl
          | fell => exact absurd e d
        simp only [hh]
  · rw [List.getElem?_eq_none (by show (payS st paid).size ≤ n; rw [payS_size]; omega), List.getElem?_eq_none (by show st.size ≤ n; omega)]; rfl
theorem up_len (p : Nat → Bool) (k : Nat) : ((List.range k).filter p).length ≤ k := by
  have := List.length_filter_le p (List.range k)
  rwa [List.length_range] at this
abbrev N_law_people : List Str := ["_law_state", "_law_paid_here", "_law_fallen", "_law_helped", "_law_at", "_law_seat", "_law_flow"]
def t_law_people (K : PySem.W.Frag) : TS :=
 (tSeq (tAsg (tLst tNil) (gName 2))
 (tSeq (tAsg (tLst tNil) (gName 3))
 (tSeq (tFor (iEnum K (tCons (tOp (rIxL K) (tVar 0) (tC (.int 7))) tNil)) (gTup K 2 (gCons (gName 4) (gCons (gName 5) gNil)))
 (tSeq (tAsg (tC (.int 0)) (gName 6))
 (C8.tCut (tIfS (tAnd (tTest (tOp rEq (tOp (rIxL K) (tVar 5) (tC (.int 0))) (tC (.str "waits")))) (tNot (tB (tOp (rIxL K) (tVar 1) (tVar 4)))))
 (tSeq (tDrop (tBM K "list" rAppend (tVar 2) (tCons (tVar 4) tNil)))
 (tSeq (tAsg (tC (.str "fell")) (gSub (tVar 5) (tC (.int 0)) rSetL))
 (tSeq (tAsg (tOp (rIxL K) (tVar 0) (tC (.int 3))) (gSub (tVar 5) (tC (.int 1)) rSetL))
 (tDrop (tBM K "list" rRemI (tOp (rIxL K) (tVar 0) (tC (.int 4))) (tCons (tVar 4) tNil))))))
 (tIfS (tTest (tOp rNe (tOp (rIxL K) (tVar 5) (tC (.int 0))) (tC (.str "fell"))))
 (tSeq (tAsg (tUn rNeg (tOp (rIxL K) (tVar 0) (tC (.int 0)))) (gName 6))
 (tSeq (tAugS (tVar 5) (tC (.int 3)) (tOp (rIxL K) (tVar 0) (tC (.int 0))) (rIxL K) (ipI fun i j => i + j) rSetL)
 (tIfS (tNot (tB (tOp (rIxL K) (tVar 1) (tVar 4))))
 (tSeq (tDrop (tBM K "list" rAppend (tVar 3) (tCons (tVar 4) tNil)))
 (tSeq (tAugS (tVar 5) (tC (.int 2)) (tOp (rIxL K) (tVar 0) (tC (.int 0))) (rIxL K) (ipI fun i j => i - j) rSetL)
 (tAugS (tVar 5) (tC (.int 6)) (tC (.int 1)) (rIxL K) (ipI fun i j => i + j) rSetL)))
 tNext)))
 tNext))
 (tDrop (tBM K "list" rAppend (tOp (rIxL K) (tOp (rIxL K) (tVar 0) (tC (.int 8))) (tVar 4)) (tCons (tVar 6) tNil))))))
 (tSeq (tAugS (tVar 0) (tC (.int 5)) (tCB (rLenSeq K) (tCons (tVar 2) tNil)) (rIxL K) (ipI fun i j => i + j) rSetL)
 (tRet (tTup (tCons (tVar 2) (tCons (tVar 3) tNil))))))))

theorem len_law_people {K : PySem.W.Frag} : ∀ vs H Q E, sp_law_people K vs H Q E → vs.length = ["a", "b"].length := by
  rintro vs H Q E ⟨_, _, _, _, rfl, _⟩; rfl
def flUp (st : CS) (paid : List Bool) (k : Nat) : List Nat := (List.range k).filter fun i => decide ((st.get i).st = .waits) && !(paid.getD i false)
def hpUp (st : CS) (paid : List Bool) (k : Nat) : List Nat := (List.range k).filter fun i => decide ((st.get i).st = .drew) && !(paid.getD i false)
theorem flUp_succ (st : CS) (paid : List Bool) (k : Nat) : flUp st paid (k + 1) = if (st.get k).st = .waits ∧ paid.getD k false = false then flUp st paid k ++ [k] else flUp st paid k := by
  unfold flUp
  rw [List.range_succ, List.filter_append]
  by_cases c : (st.get k).st = .waits ∧ paid.getD k false = false
  · rw [if_pos c]; congr 1; rw [List.filter_cons, if_pos (by rw [decide_eq_true c.1, c.2]; rfl)]; rfl
  · rw [if_neg c, List.filter_cons, if_neg (fun z => c (by simpa using z))]; simp
theorem hpUp_succ (st : CS) (paid : List Bool) (k : Nat) : hpUp st paid (k + 1) = if (st.get k).st = .drew ∧ paid.getD k false = false then hpUp st paid k ++ [k] else hpUp st paid k := by
  unfold hpUp
  rw [List.range_succ, List.filter_append]
  by_cases c : (st.get k).st = .drew ∧ paid.getD k false = false
  · rw [if_pos c]; congr 1; rw [List.filter_cons, if_pos (by rw [decide_eq_true c.1, c.2]; rfl)]; rfl
  · rw [if_neg c, List.filter_cons, if_neg (fun z => c (by simpa using z))]; simp
theorem pure_law_people {K : PySem.W.Frag} {vs : List V} {H : Hp} {Q : VK} {E : XK} (h : sp_law_people K vs H Q E) : t_law_people K { nx := fun _ H' => Q .non H', rt := Q } (start N_law_people vs) H := by
  obtain ⟨b, st, p, paid, rfl, hc, wf, hp, pl, k⟩ := h
  unfold t_law_people
  have n2 := wf.n2
  walk_at "xs"
  refine al_lst fun F H1 nF q1 hF => ?_
  walk_at "xs"
  refine al_lst fun P H2 nP q2 hP => ?_
  have c2 := (hc.same q1).same q2
  have hF2 := q2 _ _ hF
  have nFP : F ≠ P := ne_of_none hF nP
  have fF : F ∉ stFoot b st.size := hc.fresh nF
  have fP : P ∉ stFoot b st.size := (hc.same q1).fresh nP
  have nP0 := q1.free nP
  obtain ⟨A, hA⟩ : ∃ A, A = F :: P :: stFoot b st.size := ⟨_, rfl⟩
  have inA : ∀ y ∈ stFoot b st.size, y ∈ A := fun y hy => by rw [hA]; exact List.mem_cons_of_mem _ (List.mem_cons_of_mem _ hy)
  have FA : F ∈ A := by rw [hA]; exact List.mem_cons_self
  have PA' : P ∈ A := by rw [hA]; exact List.mem_cons_of_mem _ List.mem_cons_self
  have hp2 : SqL K (hide A H2) p (paid.map V.bl) := by
    refine Same.seq (fun y o e => ?_) hp
    have y1 : y ∉ stFoot b st.size := fun z => by rw [hide_in z] at e; cases e
    rw [hide_out y1] at e
    rw [hide_out (by
      rw [hA]
      simp only [List.mem_cons, not_or]
      exact ⟨ne_of_none e nF, ne_of_none (q1 _ _ e) nP, y1⟩)]
    exact q2 _ _ (q1 _ _ e)
  walk_at "xs"
  refine ⟨b 2, _, rfl, SqL.of (c2.at_ 2 (by omega)), for_by (turnsE (xs := (List.range st.size).map fun i => V.ref (b (4 + 2 * i)))) (fun i σ H' => ∃ (u4 u5 u6 : Option V) (s : CS), σ = [some (.ref (b 0)), some (.ref p), some (.ref F), some (.ref P), u4, u5, u6] ∧ Off A H2 H' ∧ StAt H' b s ∧ H' F = some (.lst (nI (flUp st paid i))) ∧ H' P = some (.lst (nI (hpUp st paid i))) ∧ s = { st with line := (flUp st paid i).foldl List.erase st.line, seats := upto (pplSeat st.stake st.now paid) i st.seats })
    ⟨none, none, none, st, rfl, Off.refl, c2, hF2, hP, by rw [upto_zero]; rfl⟩ (fun i σ H' _ z => by obtain ⟨_, _, _, s, _, _, c, _, _, es⟩ := z; have e := c.at_ 2 (by omega); rw [show stCell b s 2 = .lst ((List.range st.size).map fun i => V.ref (b (4 + 2 * i))) by (show HO.lst ((List.range s.size).map _) = _; rw [es]; show HO.lst ((List.range (upto _ _ _).length).map _) = _; rw [upto_len])] at e; exact SqL.of e) ?_ ?_⟩
  · rintro i v σ H3 H4 hi ⟨u4, u5, u6, s, rfl, o3, c3, hF3, hP3, es⟩ ⟨x, hx, T, rfl, nT, q4, hT, _⟩
    rw [List.length_map, List.length_range] at hi
    rw [List.getElem?_map, List.getElem?_range hi] at hx
    cases hx
    refine x_gtup (SqT.of hT) rfl ?_
    have c4 := c3.same q4
    have hF4 := q4 _ _ hF3
    have hP4 := q4 _ _ hP3
    have z4 : s.size = st.size := by rw [es]; exact upto_len _ _ _
    have gi : s.get i = st.get i := by rw [es]; exact upto_get (Nat.le_refl _)
    have hst : s.stake = st.stake := by rw [es]
    have hnow : s.now = st.now := by rw [es]
    have o4 : Off A H2 H4 := o3.trans (Off.of q4)
    have pi : ∀ {Q : VK} {H' : Hp}, Off A H2 H' → Q (.bl (paid.getD i false)) H' → rIxL K (.ref p) (.int (i : Int)) H' Q := fun {Q H'} o q => x_ixL (hide_same.seq (o.hide.seq hp2)) (at_map (g := V.bl) (d := false) rfl (by omega)) q
    have s0 : ∀ {H' : Hp} {s' : CS} {Q : VK}, StAt H' b s' → s'.size = st.size → Q (.str (s'.get i).st.s) H' → rIxL K (.ref (b (4 + 2 * i))) (.int 0) H' Q := fun {H' s' Q} c z q => x_ixL (SqL.of (s_seat c (by omega))) (by rfl) q
    have fs := flUp_succ st paid i
    have hs := hpUp_succ st paid i
    have el : ∀ {r : SeatR} {s' : CS} {f : SeatR → SeatR}, True := fun {_ _ _} => trivial
    clear el
    have ui : (upto (pplSeat st.stake st.now paid) i st.seats).getD i {} = st.get i := upto_get (Nat.le_refl _)
    walk_at "xs"
    obtain ⟨J, hJ⟩ : ∃ J : St → Hp → Prop, J = fun σ H' => ∃ (fv : Int) (s' : CS) (f : SeatR → SeatR), σ = [some (.ref (b 0)), some (.ref p), some (.ref F), some (.ref P), some (.int i), some (.ref (b (4 + 2 * i))), some (.int fv)] ∧ Off A H2 H' ∧ StAt H' b s' ∧ s'.size = st.size ∧ H' F = some (.lst (nI (flUp st paid (i + 1)))) ∧ H' P = some (.lst (nI (hpUp st paid (i + 1)))) ∧ (f (st.get i)).fl = (st.get i).fl ∧ s' = { st with line := (flUp st paid (i + 1)).foldl List.erase st.line, seats := (upto (pplSeat st.stake st.now paid) i st.seats).modify i f } ∧ { f (st.get i) with fl := (f (st.get i)).fl ++ [fv] } = pplSeat st.stake st.now paid i (st.get i) := ⟨_, rfl⟩
    refine x_cut J ?_ ?_
    · have other : ∀ D : Ends, D.nx = J → ¬ ((st.get i).st = .waits ∧ paid.getD i false = false) → (tIfS (tTest (tOp rNe (tOp (rIxL K) (tVar 5) (tC (.int 0))) (tC (.str "fell"))))
          (tSeq (tAsg (tUn rNeg (tOp (rIxL K) (tVar 0) (tC (.int 0)))) (gName 6))
          (tSeq (tAugS (tVar 5) (tC (.int 3)) (tOp (rIxL K) (tVar 0) (tC (.int 0))) (rIxL K) (ipI fun i j => i + j) rSetL)
          (tIfS (tNot (tB (tOp (rIxL K) (tVar 1) (tVar 4))))
          (tSeq (tDrop (tBM K "list" rAppend (tVar 3) (tCons (tVar 4) tNil)))
          (tSeq (tAugS (tVar 5) (tC (.int 2)) (tOp (rIxL K) (tVar 0) (tC (.int 0))) (rIxL K) (ipI fun i j => i - j) rSetL)
          (tAugS (tVar 5) (tC (.int 6)) (tC (.int 1)) (rIxL K) (ipI fun i j => i + j) rSetL)))
          tNext)))
          tNext) D [some (.ref (b 0)), some (.ref p), some (.ref F), some (.ref P), some (.int i), some (.ref (b (4 + 2 * i))), some (.int 0)] H4 := by
        intro D hD no
        rw [if_neg no] at fs
        rw [fs] at hJ
        walk_at "xs"
        refine s0 c4 z4 ?_
        rw [gi]
        walk_at "xs"
        walk_at "if"
        · rename_i c
          rw [seat_fell] at c
          have c : (st.get i).st ≠ .fell := c
          walk_at "xs"
          rw [hst]
          refine x_ixL (v := .int (st.get i).gv) (SqL.of (s_seat c4 (by omega))) (by rw [gi]; rfl) ?_
          walk_at "xs"
          rw [hst]
          refine v_seat (k := 3) (f := fun r => { r with gv := (st.get i).gv + st.stake }) c4 z4 hi (by decide) (fun _ => rfl) (by rw [gi]; rfl) fun H5 s5 o5 c5 z5 e5 => ?_
          have o5' := o5.mono inA
          have hF5 := o5 _ _ fF hF4
          have hP5 := o5 _ _ fP hP4
          have t5 : s5.stake = st.stake := by rw [e5]; exact hst
          have g5 : s5.get i = { st.get i with gv := (st.get i).gv + st.stake } := by
            rw [e5]
            show (s.seats.modify i _).getD i {} = _
            rw [getD_mod (by show i < s.size; omega), if_pos rfl]
            rw [show s.seats.getD i {} = st.get i from gi]
          have e5' : s5 = { st with line := (flUp st paid i).foldl List.erase st.line, seats := (upto (pplSeat st.stake st.now paid) i st.seats).modify i fun r => { r with gv := (st.get i).gv + st.stake } } := by rw [e5, es]
          walk_at "xs"
          refine pi (o4.trans o5') ?_
          walk_at "xs"
          cases cp : paid.getD i false with
          | false =>
            have dr : (st.get i).st = .drew := by
              cases e : (st.get i).st with
              | waits => exact absurd ⟨e, cp⟩ no
              | drew => rfl
              | fell => exact absurd e c
            rw [if_pos ⟨dr, cp⟩] at hs
            walk_at "xs"
            refine ⟨tyL (SqL.of hP5), ?_⟩
            walk_at "xs"
            refine x_append hP5 (small (by rw [nI_len]; have := up_len (fun i => decide ((st.get i).st = .drew) && !(paid.getD i false)) i; unfold hpUp; omega)) ?_
            rw [← nI_snoc]
            have c6 := c5.upd_out (x := P) (o := .lst (nI (hpUp st paid i ++ [i]))) (by rw [z5]; exact fP)
            have o6 : Off A H2 (upd H5 P (.lst (nI (hpUp st paid i ++ [i])))) := (o4.trans o5').upd PA'
            have hF6 := at_upd (o' := .lst (nI (hpUp st paid i ++ [i]))) hF5 (fun e => nFP e.symm)
            have hP6 : upd H5 P (.lst (nI (hpUp st paid i ++ [i]))) P = some (.lst (nI (hpUp st paid i ++ [i]))) := upd_same
            generalize upd H5 P (.lst (nI (hpUp st paid i ++ [i]))) = H6 at c6 o6 hF6 hP6 ⊢
            walk_at "xs"
            refine x_ixL (v := .int (st.get i).pl) (SqL.of (s_seat c6 (by omega))) (by rw [g5]; rfl) ?_
            walk_at "xs"
            rw [t5]
            refine v_seat (k := 2) (f := fun r => { r with pl := (st.get i).pl - st.stake }) c6 z5 hi (by decide) (fun _ => rfl) (by rw [g5]; rfl) fun H7 s7 o7 c7 z7 e7 => ?_
            have g7 : s7.get i = { st.get i with gv := (st.get i).gv + st.stake, pl := (st.get i).pl - st.stake } := by
              rw [e7]
              show (s5.seats.modify i _).getD i {} = _
              rw [getD_mod (by show i < s5.size; omega), if_pos rfl]
              rw [show s5.seats.getD i {} = { st.get i with gv := (st.get i).gv + st.stake } from g5]
            walk_at "xs"
            refine x_ixL (v := .int (st.get i).ms) (SqL.of (s_seat c7 (by omega))) (by rw [g7]; rfl) ?_
            walk_at "xs"
            refine v_seat (k := 6) (f := fun r => { r with ms := (st.get i).ms + 1 }) c7 z7 hi (by decide) (fun _ => rfl) (by rw [g7]; rfl) fun H8 s8 o8 c8 z8 e8 => ?_
            rw [hD, hJ]
            refine ⟨-st.stake, s8, fun r => { r with gv := (st.get i).gv + st.stake, pl := (st.get i).pl - st.stake, ms := (st.get i).ms + 1 }, rfl, (o6.trans (o7.mono inA)).trans (o8.mono inA), c8, z8, o8 _ _ fF (o7 _ _ fF hF6), ?_, rfl, ?_, ?_⟩
            · rw [hs]; exact o8 _ _ fP (o7 _ _ fP hP6)
            · rw [e8, e7, e5']
              unfold CS.mod
              simp only [mod_mod]
            · unfold pplSeat
              rw [if_neg no, if_pos c, if_pos cp, if_pos cp]
          | true =>
            have nh : ¬ ((st.get i).st = .drew ∧ paid.getD i false = false) := fun z => by rw [cp] at z; cases z.2
            rw [if_neg nh] at hs
            walk_at "xs"
            rw [hD, hJ]
            refine ⟨-st.stake, s5, fun r => { r with gv := (st.get i).gv + st.stake }, rfl, o4.trans o5', c5, z5, hF5, by rw [hs]; exact hP5, rfl, e5', ?_⟩
            unfold pplSeat
            rw [if_neg no, if_pos c, if_neg (by rw [cp]; decide), if_neg (by rw [cp]; decide)]
        · rename_i c
          have c : (st.get i).st = .fell := (seat_fell _).mp c
          have nh : ¬ ((st.get i).st = .drew ∧ paid.getD i false = false) := fun z => by rw [c] at z; cases z.1
          rw [if_neg nh] at hs
          refine x_next ?_
          rw [hD, hJ]
          refine ⟨0, s, fun r => r, rfl, o4, c4, z4, hF4, by rw [hs]; exact hP4, rfl, ?_, ?_⟩
          · rw [es]
            congr 1
            apply List.ext_getElem?
            intro n
            rw [List.getElem?_modify]
            cases (upto (pplSeat st.stake st.now paid) i st.seats)[n]? <;> simp
          · unfold pplSeat
            rw [if_neg no, if_neg (show ¬ (st.get i).st ≠ .fell from fun z => z c)]
      walk_at "xs"
      refine s0 c4 z4 ?_
      rw [gi]
      walk_at "xs"
      walk_at "if"
      · rename_i c
        have c : (st.get i).st = .waits := (seat_waits _).mp c
        walk_at "xs"
        refine pi o4 ?_
        walk_at "xs"
        cases cp : paid.getD i false with
        | false =>
          rw [if_pos ⟨c, cp⟩] at fs
          have nh : ¬ ((st.get i).st = .drew ∧ paid.getD i false = false) := fun z => by rw [c] at z; cases z.1
          rw [if_neg nh] at hs
          walk_at "xs"
          refine ⟨tyL (SqL.of hF4), ?_⟩
          walk_at "xs"
          refine x_append hF4 (small (by rw [nI_len]; have := up_len (fun i => decide ((st.get i).st = .waits) && !(paid.getD i false)) i; unfold flUp; omega)) ?_
          rw [← nI_snoc]
          have c6 := c4.upd_out (x := F) (o := .lst (nI (flUp st paid i ++ [i]))) (by rw [z4]; exact fF)
          have o6 : Off A H2 (upd H4 F (.lst (nI (flUp st paid i ++ [i])))) := o4.upd FA
          have hP6 := at_upd (o' := .lst (nI (flUp st paid i ++ [i]))) hP4 nFP
          have hF6 : upd H4 F (.lst (nI (flUp st paid i ++ [i]))) F = some (.lst (nI (flUp st paid i ++ [i]))) := upd_same
          generalize upd H4 F (.lst (nI (flUp st paid i ++ [i]))) = H6 at c6 o6 hF6 hP6 ⊢
          walk_at "xs"
          refine v_seat (k := 0) (f := fun r => { r with st := .fell }) c6 z4 hi (by decide) (fun _ => rfl) (by rw [gi]; rfl) fun H7 s7 o7 c7 z7 e7 => ?_
          have n7 : s7.now = st.now := by rw [e7]; exact hnow
          have g7 : s7.get i = { st.get i with st := .fell } := by
            rw [e7]
            show (s.seats.modify i _).getD i {} = _
            rw [getD_mod (by show i < s.size; omega), if_pos rfl]
            rw [show s.seats.getD i {} = st.get i from gi]
          walk_at "xs"
          rw [n7]
          refine v_seat (k := 1) (f := fun r => { r with wh := (st.now : Int) }) c7 z7 hi (by decide) (fun _ => rfl) (by rw [g7]; rfl) fun H8 s8 o8 c8 z8 e8 => ?_
          have l8 : s8.line = (flUp st paid i).foldl List.erase st.line := by rw [e8, e7, es]
          walk_at "xs"
          refine ⟨tyL (SqL.of (c8.at_ 1 (by omega))), ?_⟩
          walk_at "xs"
          have nin : i ∉ flUp st paid i := fun z => by
            unfold flUp at z
            have := List.mem_range.mp (List.mem_filter.mp z).1
            omega
          refine v_rem c8 z8 rfl (by rw [l8]; exact (mem_erases wf.nd).1.mpr ⟨(wf.mem i).mpr ⟨hi, c⟩, nin⟩) fun H9 s9 o9 c9 z9 e9 => ?_
          rw [hJ]
          refine ⟨0, s9, fun r => { r with st := .fell, wh := st.now }, rfl, ((o6.trans (o7.mono inA)).trans (o8.mono inA)).trans (o9.mono inA), c9, z9, ?_, ?_, rfl, ?_, ?_⟩
          · rw [fs]; exact o9 _ _ fF (o8 _ _ fF (o7 _ _ fF hF6))
          · rw [hs]; exact o9 _ _ fP (o8 _ _ fP (o7 _ _ fP hP6))
          · rw [e9, e8, e7, es, fs, List.foldl_append]
            unfold CS.mod
            simp only [mod_mod]
            rfl
          · unfold pplSeat
            rw [if_pos ⟨c, cp⟩]
        | true =>
          (repeat first | with_reducible refine x_iteNT ?_ | with_reducible refine x_iteNF ?_ | with_reducible refine x_iteT ?_ | with_reducible refine x_iteF ?_)
          exact other _ (by rfl) fun z => by rw [cp] at z; cases z.2
      · rename_i c
        have c : ¬ (st.get i).st = .waits := fun z => c ((seat_waits _).mpr z)
        (repeat first | with_reducible refine x_iteNT ?_ | with_reducible refine x_iteNF ?_ | with_reducible refine x_iteT ?_ | with_reducible refine x_iteF ?_)
        exact other _ (by rfl) fun z => c z.1
    rw [hJ]
    rintro _ H5 ⟨fv, s', f, rfl, o5, c5, z5, hF5, hP5, ff, e5, fin⟩
    have g5 : s'.get i = f (st.get i) := by
      rw [e5]
      show ((upto _ _ _).modify i _).getD i {} = _
      rw [getD_mod (by rw [upto_len]; exact hi), if_pos rfl, ui]
    walk_at "xs"
    refine s_flows c5 rfl (by omega) ?_
    refine ⟨tyL (SqL.of (s_flow c5 (by omega))), ?_⟩
    walk_at "xs"
    refine v_fl c5 z5 hi (by rw [g5, ff]; have h1 := wf.fl i hi; have h2 := wf.cnt; omega) fun H6 s6 o6 c6 z6 e6 => ?_
    refine ⟨_, _, _, s6, rfl, o5.trans (o6.mono inA), c6, o6 _ _ fF hF5, o6 _ _ fP hP5, ?_⟩
    rw [e6, e5]
    unfold CS.mod
    simp only [mod_mod]
    congr 1
    rw [upto_step]
    exact fin
  · rintro σ H3 ⟨u4, u5, u6, s, rfl, o3, c3, hF3, hP3, es⟩
    rw [List.length_map, List.length_range] at hF3 hP3 es
    have z3 : s.size = st.size := by rw [es]; exact upto_len _ _ _
    have d3 : s.due = st.due := by rw [es]
    have fe : flUp st paid st.size = fallenS st paid := rfl
    have he : hpUp st paid st.size = helpedS st paid := rfl
    rw [fe] at hF3 es
    rw [he] at hP3
    walk_at "xs"
    refine x_lenL (SqL.of hF3) ?_
    rw [nI_len]
    walk_at "xs"
    have ep : payS st paid = { s with due := st.due + (fallenS st paid).length } := by
      have h1 := ppl_pay (paid := paid) wf
      have h2 := payS_line (st := st) (paid := paid)
      have h3 := payS_due (st := st) (paid := paid)
      have h4 := payS_stake (st := st) (paid := paid)
      have h5 := payS_now (st := st) (paid := paid)
      have h6 := payS_chest (st := st) (paid := paid)
      have h7 := payS_bidding (st := st) (paid := paid)
      rw [es]
      generalize payS st paid = q at h1 h2 h3 h4 h5 h6 h7
      cases q
      simp only at h1 h2 h3 h4 h5 h6 h7
      subst h1 h2 h3 h4 h5 h6 h7
      rw [← upto_all]
    refine v_0 (k := 5) (st' := payS st paid) c3 z3 (by decide) (by rw [ep]) (by rw [ep]) (by rw [ep, d3]; show _ = [_, _, _, _, _, V.int ((st.due + (fallenS st paid).length : Nat) : Int), _, _, _]; rw [show ((st.due + (fallenS st paid).length : Nat) : Int) = (st.due : Int) + ((fallenS st paid).length : Int) by omega]; rfl) fun H4 o4 c4 z4 => ?_
    walk_at "xs"
    refine al_tup fun T H5 nT q5 hT => ?_
    have o24 : Off A H2 H4 := o3.trans (o4.mono inA)
    have o04 : Off (stFoot b st.size) H H4 := fun y o hy e => by
      have yF := ne_of_none e nF
      have yP := ne_of_none (q1 _ _ e) nP
      exact o24 y o (by rw [hA]; simp only [List.mem_cons, not_or]; exact ⟨yF, yP, hy⟩) (q2 _ _ (q1 _ _ e))
    have nT0 : H T = none := by
      cases e : H T with
      | none => rfl
      | some o =>
        by_cases h : T ∈ stFoot b st.size
        · have := c4.fresh nT
          rw [payS_size] at this
          exact absurd h this
        · rw [o04 T o h e] at nT; cases nT
    exact k T F P H5 nT0 nF nP0 nFP (o04.trans (Off.of q5)) (c4.same q5) hT (q5 _ _ (o4 _ _ fF hF3)) (q5 _ _ (o4 _ _ fP hP3))

end Su
namespace Su
open PySem L2
local macro_rules | `(tactic| walk_at "side") => `(tactic| first | assumption | (show (0 : Int) < _; omega) | (show (0 : Int) ≤ _; omega) | (show (0 : Int) < _; split <;> omega) | (show _ ∨ _; omega) | (show _ ∧ _; omega) | exact ⟨by decide, by decide, by decide⟩ | exact ⟨by first | assumption | omega, by first | assumption | omega⟩)
local macro_rules | `(tactic| walk_at "x") => `(tactic| first | with_reducible refine Su.x_seq ?_ | with_reducible refine Su.x_asg ?_ | with_reducible refine Su.x_gname ?_ | with_reducible refine Su.x_ret ?_ | with_reducible refine Su.x_ifS ?_ | ((with_reducible show L2.tVar _ _ _ _); refine Su.x_var rfl ?_) | with_reducible refine Su.x_c ?_ | with_reducible refine Su.x_op ?_ | with_reducible refine Su.x_rI0 ?_ | with_reducible refine Su.x_rGt ?_ | with_reducible refine Su.x_iteF ?_ | with_reducible refine Su.x_test ?_ | with_reducible refine Su.x_tB ?_ | with_reducible refine Su.x_isB' ?_ | with_reducible refine Su.x_and ?_ | with_reducible refine Su.x_nil ?_ | with_reducible refine Su.x_cons ?_ | with_reducible refine Su.x_call ?_ | with_reducible refine Su.x_tup ?_ | with_reducible refine Su.x_next ?_ | with_reducible refine Su.x_for ?_ | with_reducible refine Su.x_iList ?_)
local macro_rules | `(tactic| walk_at "xs") => `(tactic| repeat walk_at "x")
local macro_rules | `(tactic| walk_at "if") => `(tactic| first | with_reducible refine Su.x_iteD (fun c => ?_) (fun c => ?_) | with_reducible refine Su.x_iteN (fun c => ?_) (fun c => ?_) | with_reducible refine Su.x_ite (fun c => ?_) (fun c => ?_))
local macro_rules | `(tactic| walk_at "x") => `(tactic| first | with_reducible refine Su.s_0 (by assumption) ?_ | with_reducible refine Su.s_1 (by assumption) ?_ | with_reducible refine Su.s_2 (by assumption) ?_ | with_reducible refine Su.s_3 (by assumption) ?_ | with_reducible refine Su.s_4 (by assumption) ?_ | with_reducible refine Su.s_7 (by assumption) ?_)

/-! _law_winner -/
def sp_law_winner (K : PySem.W.Frag) : Sp := fun vs H Q _ => ∃ (b : Nat → Addr) (st : CS) (p : Addr) (bids : List Int), vs = [.ref (b 0), .ref p] ∧ StAt H b st ∧ SqL K H p (bids.map V.int) ∧ bids.length = st.size ∧ (∀ i ∈ st.line, i < st.size) ∧ st.line ≠ [] ∧ 0 < st.stake ∧ st.stake ≤ 1000000 ∧ ∀ t H', H t = none → Same H H' → H' t = some (.tup [.int (winnerS st bids).1, .int (winnerS st bids).2]) → Q (.ref t) H'
def wonL (st : CS) (bids : List Int) (o : Option Nat) : Nat × Int := match o with
  | none => (st.line.headD 0, 0)
  | some w => (w, bids.getD w 0)
abbrev N_law_winner : List Str := ["_law_state", "_law_bids", "_law_best", "_law_most", "_law_at", "_law_early_here"]
def t_law_winner (K : PySem.W.Frag) : TS :=
 (tSeq (tAsg (tOp (rIxL K) (tOp (rIxL K) (tVar 0) (tC (.int 4))) (tC (.int 0))) (gName 2))
 (tSeq (tAsg (tC (.int 0)) (gName 3))
 (tSeq (tFor (iList K (tOp (rIxL K) (tVar 0) (tC (.int 4)))) (gName 4)
 (tSeq (tAsg (tCall (sp_law_early K) [] E0 (tCons (tOp (rIxL K) (tVar 0) (tC (.int 0))) (tCons (tOp (rIxL K) (tVar 0) (tC (.int 1))) (tCons (tOp (rIxL K) (tOp (rIxL K) (tOp (rIxL K) (tVar 0) (tC (.int 7))) (tVar 4)) (tC (.int 2))) tNil)))) (gName 5))
 (tIfS (tAnd (tB (tOp (rIxL K) (tVar 0) (tC (.int 2)))) (tAnd (tTest (tOp rGt (tOp (rIxL K) (tVar 1) (tVar 4)) (tVar 3))) (tTest (tOp rLe (tVar 5) (tOp (rIxL K) (tVar 0) (tC (.int 3)))))))
 (tSeq (tAsg (tVar 4) (gName 2))
 (tAsg (tOp (rIxL K) (tVar 1) (tVar 4)) (gName 3)))
 tNext)))
 (tRet (tTup (tCons (tVar 2) (tCons (tVar 3) tNil)))))))

theorem len_law_winner {K : PySem.W.Frag} : ∀ vs H Q E, sp_law_winner K vs H Q E → vs.length = ["a", "b"].length := by
  rintro vs H Q E ⟨_, _, _, _, rfl, _⟩; rfl
theorem pure_law_winner {K : PySem.W.Frag} {vs : List V} {H : Hp} {Q : VK} {E : XK} (h : sp_law_winner K vs H Q E) : t_law_winner K { nx := fun _ H' => Q .non H', rt := Q } (start N_law_winner vs) H := by
  obtain ⟨b, st, p, bids, rfl, hc, hb, hl, hln, hne, s0, s1, k⟩ := h
  unfold t_law_winner
  obtain ⟨h0, l0, el⟩ : ∃ n l, st.line = n :: l := by
    cases hh : st.line with
    | nil => exact absurd hh hne
    | cons n l => exact ⟨n, l, rfl⟩
  walk_at "xs"
  refine x_ixL (v := .int (h0 : Int)) (SqL.of (hc.at_ 1 (by omega))) (by show atI (nI st.line) 0 = _; rw [el]; exact at_zero) ?_
  walk_at "xs"
  refine ⟨b 1, rfl, ⟨_, SqL.of (hc.at_ 1 (by omega))⟩, for_by (turnsL (xs := nI st.line)) (fun i σ H' => ∃ (u v : Option V), σ = [some (.ref (b 0)), some (.ref p), some (.int (wonL st bids (winFold st bids (st.line.take i))).1), some (.int (wonL st bids (winFold st bids (st.line.take i))).2), u, v] ∧ H = H' ∧ ∀ w, winFold st bids (st.line.take i) = some w → 1 ≤ bids.getD w 0)
    ⟨none, none, by (rw [show winFold st bids (st.line.take 0) = none from rfl]; unfold wonL; rw [el]; rfl), rfl, fun w z => by simp [winFold] at z⟩ (fun i σ H' _ q => by obtain ⟨_, _, _, rfl, _⟩ := q; exact SqL.of (hc.at_ 1 (by omega))) ?_ ?_⟩
  · rintro i x σ _ _ hi ⟨u, v, rfl, rfl, hw⟩ ⟨rfl, hx⟩
    rw [nI_len] at hi
    unfold nI at hx
    rw [List.getElem?_map, List.getElem?_eq_getElem hi] at hx
    cases hx
    have hn : st.line[i] < st.size := hln _ (List.getElem_mem _)
    have tk : st.line.take (i + 1) = st.line.take i ++ [st.line[i]] := by rw [List.take_succ, List.getElem?_eq_getElem hi]; rfl
    have wf : winFold st bids (st.line.take (i + 1)) = winStep st bids (winFold st bids (st.line.take i)) st.line[i] := by unfold winFold; rw [tk, List.foldl_append]; rfl
    generalize winFold st bids (st.line.take i) = best at hw wf ⊢
    rw [wf]
    generalize st.line[i] = n at hn ⊢
    have bi : ∀ {Q : VK}, Q (.int (bids.getD n 0)) H → rIxL K (.ref p) (.int (n : Int)) H Q := fun {Q} q => by
      refine x_ixL hb (at_getI (by omega) (by omega)) ?_
      rw [show ((n : Int)).toNat = n by omega]; exact q
    walk_at "xs"
    refine s_seats hc rfl hn ?_
    walk_at "xs"
    refine x_ixL (v := .int (st.get n).pl) (SqL.of (s_seat hc hn)) (by rfl) ?_
    refine ⟨st.stake, st.size, (st.get n).pl, rfl, s0, s1, ?_⟩
    have most0 : 0 ≤ (wonL st bids best).2 := by
      cases best with
      | none => exact Int.le_refl _
      | some w => have := hw w rfl; show 0 ≤ bids.getD w 0; omega
    have skip : ∀ z : V, ¬ (st.bidding = true ∧ (wonL st bids best).2 < bids.getD n 0 ∧ firstCov st.stake st.size (st.get n).pl ≤ st.now) → ∃ u v, [some (V.ref (b 0)), some (V.ref p), some (V.int (wonL st bids best).1), some (V.int (wonL st bids best).2), some (V.int (n : Int)), some z] = [some (V.ref (b 0)), some (V.ref p), some (V.int (wonL st bids (winStep st bids best n)).1), some (V.int (wonL st bids (winStep st bids best n)).2), u, v] ∧ H = H ∧ ∀ w, winStep st bids best n = some w → 1 ≤ bids.getD w 0 := fun zz z => by
      have e : winStep st bids best n = best := by
        unfold winStep
        by_cases c : st.bidding = true ∧ 1 ≤ bids.getD n 0 ∧ firstCov st.stake st.size (st.get n).pl ≤ st.now
        · rw [if_pos c]
          cases best with
          | none => exact absurd ⟨c.1, by show (0 : Int) < _; omega, c.2.2⟩ z
          | some w =>
            simp only
            rw [if_neg (show ¬ bids.getD w 0 < bids.getD n 0 from fun q => z ⟨c.1, q, c.2.2⟩)]
        · rw [if_neg c]
      rw [e]; exact ⟨_, _, rfl, rfl, hw⟩
    walk_at "xs"
    walk_at "if"
    · rename_i cb
      walk_at "xs"
      refine bi ?_
      walk_at "xs"
      walk_at "if"
      · rename_i c1
        walk_at "xs"
        walk_at "if"
        · rename_i cc
          walk_at "xs"
          refine bi ?_
          have e : winStep st bids best n = some n := by
            unfold winStep
            rw [if_pos ⟨cb, by omega, cc⟩]
            cases best with
            | none => rfl
            | some w =>
              simp only
              rw [if_pos (show bids.getD w 0 < bids.getD n 0 from c1)]
          walk_at "xs"
          rw [e]
          exact ⟨_, _, rfl, rfl, fun w z => by cases z; omega⟩
        · rename_i cc
          exact skip _ fun z => cc z.2.2
      · rename_i c1
        walk_at "xs"
        exact skip _ fun z => c1 z.2.1
    · rename_i cb
      walk_at "xs"
      exact skip _ fun z => by rw [z.1] at cb; cases cb
  · rintro σ _ ⟨u, v, rfl, rfl, hw⟩
    rw [nI_len, List.take_length]
    walk_at "xs"
    exact al_tup k

end Su
namespace Su
open PySem L2
local macro_rules | `(tactic| walk_at "side") => `(tactic| first | assumption | (show (0 : Int) < _; omega) | (show (0 : Int) ≤ _; omega) | (show (0 : Int) < _; split <;> omega) | (show _ ∨ _; omega) | (show _ ∧ _; omega) | exact ⟨by decide, by decide, by decide⟩ | exact ⟨by first | assumption | omega, by first | assumption | omega⟩)
local macro_rules | `(tactic| walk_at "x") => `(tactic| first | with_reducible refine Su.x_seq ?_ | with_reducible refine Su.x_asg ?_ | with_reducible refine Su.x_gname ?_ | with_reducible refine Su.x_drop ?_ | with_reducible refine Su.x_ret ?_ | with_reducible refine Su.x_ifS ?_ | ((with_reducible show L2.tVar _ _ _ _); refine Su.x_var rfl ?_) | with_reducible refine Su.x_c ?_ | with_reducible refine Su.x_op ?_ | with_reducible refine Su.x_rI0 ?_ | ((with_reducible refine Su.x_rI ?_ ?_); focus walk_at "side") | with_reducible refine Su.x_rGt ?_ | with_reducible refine Su.x_neI ?_ | with_reducible refine Su.x_neS ?_ | with_reducible refine Su.x_test ?_ | with_reducible refine Su.x_isB' ?_ | with_reducible refine Su.x_nil ?_ | with_reducible refine Su.x_cons ?_ | with_reducible refine Su.x_cb ?_ | with_reducible refine Su.x_call ?_ | with_reducible refine Su.x_un ?_ | with_reducible refine Su.x_rU ?_ | with_reducible refine Su.x_max2 ?_ | with_reducible refine Su.x_intB ?_ | with_reducible refine Su.x_lst ?_ | with_reducible refine Su.x_tup ?_ | with_reducible refine Su.x_bmL ?_ | with_reducible refine Su.x_next ?_ | with_reducible refine Su.x_for ?_ | with_reducible refine Su.x_iList ?_ | with_reducible refine Su.x_iRng1 ?_ | with_reducible refine Su.x_gcons ?_ | with_reducible refine Su.x_gnil ?_ | with_reducible refine Su.x_gsub ?_ | with_reducible refine Su.x_lc ?_ | with_reducible refine Su.x_part ?_ | with_reducible refine Su.x_isI ?_ | with_reducible refine Su.x_augS ?_ | with_reducible refine Su.x_ipI ?_)
local macro_rules | `(tactic| walk_at "xs") => `(tactic| repeat walk_at "x")
local macro_rules | `(tactic| walk_at "if") => `(tactic| first | with_reducible refine Su.x_iteD (fun c => ?_) (fun c => ?_) | with_reducible refine Su.x_iteN (fun c => ?_) (fun c => ?_) | with_reducible refine Su.x_ite (fun c => ?_) (fun c => ?_))
local macro_rules | `(tactic| walk_at "x") => `(tactic| first | with_reducible refine Su.s_0 (by assumption) ?_ | with_reducible refine Su.s_1 (by assumption) ?_ | with_reducible refine Su.s_3 (by assumption) ?_ | with_reducible refine Su.s_4 (by assumption) ?_ | with_reducible refine Su.s_5 (by assumption) ?_ | with_reducible refine Su.s_6 (by assumption) ?_ | with_reducible refine Su.s_7 (by assumption) ?_ | with_reducible refine Su.s_8 (by assumption) ?_)

/-! _law_round -/
def sp_law_round (K : PySem.W.Frag) : Sp := fun vs H Q _ => ∃ (b : Nat → Addr) (st : CS) (p c : Addr) (paid : List Bool) (bids : List Int), vs = [.ref (b 0), .ref p, .ref c] ∧ StAt H b st ∧ WF st ∧ ¬ st.size < st.now ∧ SqL K (hide (stFoot b st.size) H) p (paid.map V.bl) ∧ SqL K (hide (stFoot b st.size) H) c (bids.map V.int) ∧ paid.length = st.size ∧ bids.length = st.size ∧
  ∀ r t1 t2 H', H r = none → H t1 = none → H t2 = none → Off (stFoot b st.size) H H' → StAt H' b (closeS st paid bids) → RepAt H' r t1 t2 (repS st paid bids) → Q (.ref r) H'
def leftS (st : CS) : List Nat := (List.range st.size).filter fun i => decide ((st.get i).st ≠ .fell)
theorem left_others {st : CS} {here : Nat} (hn : here < st.size) (hs : (st.get here).st ≠ .fell) : (othersS st here).length + 1 = (leftS st).length := by
  have e : othersS st here = (leftS st).erase here := by
    have nd : ((List.range st.size).filter fun i => decide ((st.get i).st ≠ .fell)).Nodup := List.nodup_range.filter _
    unfold othersS leftS
    rw [List.Nodup.erase_eq_filter nd, List.filter_filter]
    apply List.filter_congr
    intro i _
    by_cases c : i = here
    · subst c; simp
    · simp [c]
  have hm : here ∈ leftS st := List.mem_filter.mpr ⟨List.mem_range.mpr hn, by simpa using hs⟩
  rw [e, List.length_erase_of_mem hm]
  have := List.length_pos_of_mem hm
  omega
theorem addLast_zero {l : List Int} (h : l ≠ []) : addLast l 0 = l := by
  unfold addLast
  rw [Int.add_zero]
  have hp : l.length - 1 < l.length := by have := List.length_pos_iff.mpr h; omega
  rw [List.getD_eq_getElem?_getD, List.getElem?_eq_getElem hp]
  exact List.set_getElem_self hp
theorem coins_left (st : CS) : ∀ k, k ≤ st.size → coinsS st k = st.stake * (((List.range k).filter fun i => decide ((st.get i).st ≠ .fell)).length : Int)
  | 0, _ => by unfold coinsS; simp
  | k + 1, hk => by
    have ih := coins_left st k (by omega)
    have hk' : k < st.seats.length := by show k < st.size; omega
    have e : st.get k = st.seats[k] := by unfold CS.get; rw [List.getD_eq_getElem?_getD, List.getElem?_eq_getElem hk']; rfl
    unfold coinsS at ih ⊢
    rw [List.take_succ, List.getElem?_eq_getElem hk', List.map_append, List.sum_append, ih, List.range_succ, List.filter_append, List.length_append]
    by_cases c : (st.get k).st = .fell
    · rw [List.filter_cons, if_neg (by rw [decide_eq_false (p := (st.get k).st ≠ .fell) (fun z => z c)]; decide)]
      rw [e] at c
      simp [c]
    · rw [List.filter_cons, if_pos (decide_eq_true (p := (st.get k).st ≠ .fell) c)]
      rw [e] at c
      simp [c]
      rw [Int.mul_add]; omega
theorem pay_left {st : CS} {paid : List Bool} : payCoins st paid = st.stake * ((leftS (payS st paid)).length : Int) := by
  unfold payCoins
  have h := coins_left (outS st paid) st.size (by rw [outS_size]; exact Nat.le_refl _)
  rw [h, show (outS st paid).stake = st.stake by rw [outS_eq]]
  congr 2
  unfold leftS
  rw [payS_size]
  congr 1
  apply List.filter_congr
  intro i hi
  rw [List.mem_range] at hi
  rw [payS_get hi, collect_st]
/-- the seats that are left get their share; the drawer none -/
def leftSeat (here : Nat) (share : Int) (i : Nat) (r : SeatR) : SeatR := { r with sh := r.sh + share * (if i ≠ here then 1 else 0), fl := addLast r.fl (share * (if i ≠ here then 1 else 0)) }
abbrev N_law_round : List Str := ["_law_state", "_law_paid_here", "_law_bids", "_law_fallen", "_law_helped", "_law_left", "_law_coins", "_law_turn", "_law_here", "_law_bid", "_law_share", "_law_got", "_law_at"]
def t_law_round (K : PySem.W.Frag) : TS :=
 (tSeq (tAsg (tCall (sp_law_people K) [] E0 (tCons (tVar 0) (tCons (tVar 1) tNil))) (gTup K 2 (gCons (gName 3) (gCons (gName 4) gNil))))
 (tSeq (tAsg (tLc (iRng1 (tCons (tOp (rIxL K) (tVar 0) (tC (.int 1))) tNil)) (gName 12) (tTest (tOp rNe (tOp (rIxL K) (tOp (rIxL K) (tOp (rIxL K) (tVar 0) (tC (.int 7))) (tVar 12)) (tC (.int 0))) (tC (.str "fell")))) (tVar 12) [12]) (gName 5))
 (tSeq (tAsg (tOp rMul (tOp (rIxL K) (tVar 0) (tC (.int 0))) (tCB (rLenSeq K) (tCons (tVar 5) tNil))) (gName 6))
 (tSeq (tAsg (tOp (rIxL K) (tVar 0) (tC (.int 3))) (gName 7))
 (tSeq (tIfS (tTest (tOp rGt (tOp (rIxL K) (tVar 0) (tC (.int 5))) (tC (.int 0))))
 (tSeq (tAugS (tVar 0) (tC (.int 3)) (tC (.int 1)) (rIxL K) (ipI fun i j => i + j) rSetL)
 (tSeq (tAugS (tVar 0) (tC (.int 5)) (tC (.int 1)) (rIxL K) (ipI fun i j => i - j) rSetL)
 (tSeq (tAugS (tVar 0) (tC (.int 6)) (tVar 6) (rIxL K) (ipI fun i j => i + j) rSetL)
 (tRet (tTup (tCons (tVar 7) (tCons (tC (.str "box")) (tCons (tUn rNeg (tC (.int 1))) (tCons (tVar 6) (tCons (tC (.int 0)) (tCons (tVar 3) (tCons (tVar 4) tNil))))))))))))
 tNext)
 (tSeq (tAsg (tCall (sp_law_winner K) [] E0 (tCons (tVar 0) (tCons (tVar 2) tNil))) (gTup K 2 (gCons (gName 8) (gCons (gName 9) gNil))))
 (tSeq (tAsg (tOp rMul (tOp rDivW (tVar 9) (tCB rMax2 (tCons (tC (.int 1)) (tCons (tOp rSub (tCB (rLenSeq K) (tCons (tVar 5) tNil)) (tC (.int 1))) tNil)))) (tCB rInt1 (tCons (tOp rGt (tCB (rLenSeq K) (tCons (tVar 5) tNil)) (tC (.int 1))) tNil))) (gName 10))
 (tSeq (tAsg (tOp rSub (tOp rMul (tOp (rIxL K) (tVar 0) (tC (.int 0))) (tOp (rIxL K) (tVar 0) (tC (.int 1)))) (tOp rMul (tVar 10) (tOp rSub (tCB (rLenSeq K) (tCons (tVar 5) tNil)) (tC (.int 1))))) (gName 11))
 (tSeq (tFor (iList K (tVar 5)) (gName 12)
 (tSeq (tAugS (tOp (rIxL K) (tOp (rIxL K) (tVar 0) (tC (.int 7))) (tVar 12)) (tC (.int 5)) (tOp rMul (tVar 10) (tCB rInt1 (tCons (tOp rNe (tVar 12) (tVar 8)) tNil))) (rIxL K) (ipI fun i j => i + j) rSetL)
 (tAugS (tOp (rIxL K) (tOp (rIxL K) (tVar 0) (tC (.int 8))) (tVar 12)) (tUn rNeg (tC (.int 1))) (tOp rMul (tVar 10) (tCB rInt1 (tCons (tOp rNe (tVar 12) (tVar 8)) tNil))) (rIxL K) (ipI fun i j => i + j) rSetL)))
 (tSeq (tAugS (tVar 0) (tC (.int 3)) (tC (.int 1)) (rIxL K) (ipI fun i j => i + j) rSetL)
 (tSeq (tDrop (tBM K "list" rRemI (tOp (rIxL K) (tVar 0) (tC (.int 4))) (tCons (tVar 8) tNil)))
 (tSeq (tAugS (tVar 0) (tC (.int 6)) (tOp rSub (tVar 6) (tOp rMul (tOp (rIxL K) (tVar 0) (tC (.int 0))) (tOp (rIxL K) (tVar 0) (tC (.int 1))))) (rIxL K) (ipI fun i j => i + j) rSetL)
 (tSeq (tAsg (tLst (tCons (tC (.str "drew")) (tCons (tVar 7) tNil))) (gSlI (tOp (rIxL K) (tOp (rIxL K) (tVar 0) (tC (.int 7))) (tVar 8)) (tPart (tC (.int 0))) (tPart (tC (.int 2)))))
 (tSeq (tAsg (tVar 11) (gSub (tOp (rIxL K) (tOp (rIxL K) (tVar 0) (tC (.int 7))) (tVar 8)) (tC (.int 4)) rSetL))
 (tSeq (tAugS (tOp (rIxL K) (tOp (rIxL K) (tVar 0) (tC (.int 8))) (tVar 8)) (tUn rNeg (tC (.int 1))) (tVar 11) (rIxL K) (ipI fun i j => i + j) rSetL)
 (tRet (tTup (tCons (tVar 7) (tCons (tC (.str "draw")) (tCons (tVar 8) (tCons (tVar 11) (tCons (tVar 10) (tCons (tVar 3) (tCons (tVar 4) tNil))))))))))))))))))))))))

theorem len_law_round {K : PySem.W.Frag} : ∀ vs H Q E, sp_law_round K vs H Q E → vs.length = ["a", "b", "c"].length := by
  rintro vs H Q E ⟨_, _, _, _, _, _, rfl, _⟩; rfl
def onInI (T : List Nat) (G : Nat → SeatR → SeatR) (l : List SeatR) : List SeatR := l.mapIdx fun i r => if i ∈ T then G i r else r
theorem onInI_nil (G : Nat → SeatR → SeatR) (l : List SeatR) : onInI [] G l = l := by
  unfold onInI
  apply List.ext_getElem?
  intro n
  rw [List.getElem?_mapIdx]
  cases l[n]? <;> simp
theorem onInI_len (T : List Nat) (G : Nat → SeatR → SeatR) (l : List SeatR) : (onInI T G l).length = l.length := by simp [onInI]
theorem onInI_get {T : List Nat} {G : Nat → SeatR → SeatR} {l : List SeatR} {n : Nat} (h : n ∉ T) : (onInI T G l).getD n {} = l.getD n {} := by
  unfold onInI
  rw [List.getD_eq_getElem?_getD, List.getD_eq_getElem?_getD, List.getElem?_mapIdx]
  cases l[n]? with
  | none => rfl
  | some r => simp [h]
theorem onInI_step {T : List Nat} {G : Nat → SeatR → SeatR} {f : SeatR → SeatR} {l : List SeatR} {n : Nat} (h : n ∉ T) (e : f (l.getD n {}) = G n (l.getD n {})) : (onInI T G l).modify n f = onInI (T ++ [n]) G l := by
  apply List.ext_getElem?
  intro m
  unfold onInI
  rw [List.getElem?_modify, List.getElem?_mapIdx, List.getElem?_mapIdx]
  cases en : l[m]? with
  | none => rfl
  | some r =>
    by_cases c : n = m
    · subst c
      rw [List.getD_eq_getElem?_getD, en] at e
      simp only [Option.getD_some] at e
      simp [h, e]
    · have : ¬ m = n := fun z => c z.symm
      simp [c, this]
theorem pure_law_round {K : PySem.W.Frag} {vs : List V} {H : Hp} {Q : VK} {E : XK} (h : sp_law_round K vs H Q E) : t_law_round K { nx := fun _ H' => Q .non H', rt := Q } (start N_law_round vs) H := by
  obtain ⟨b, st, p, c, paid, bids, rfl, hc, wf, nend, hp, hb, pl, bl, k⟩ := h
  unfold t_law_round
  have n2 := wf.n2
  have s1 := wf.s1
  have s2 := wf.s2
  walk_at "xs"
  refine ⟨b, st, p, paid, rfl, hc, wf, hp, pl, fun t F P H1 nt nF nP nFP o1 c1 ht hF hP => ?_⟩
  refine x_gtup (SqT.of ht) rfl ?_
  have po := pay_ok (paid := paid) wf
  have ec := pay_left (st := st) (paid := paid)
  have e1 : (payS st paid).stake = st.stake := payS_stake
  have e2 : (payS st paid).now = st.now := payS_now
  have e3 : (payS st paid).chest = st.chest := payS_chest
  have z1 : (payS st paid).size = st.size := po.size
  have k' := k
  unfold closeS repS at k'
  have lne := line_ne (paid := paid) wf nend
  generalize payS st paid = s at c1 po k' e1 e2 e3 z1 ec lne
  have fF : F ∉ stFoot b st.size := hc.fresh nF
  have fP : P ∉ stFoot b st.size := hc.fresh nP
  have hb1 : SqL K (hide (stFoot b st.size) H1) c (bids.map V.int) := o1.hide.seq hb
  walk_at "xs"
  refine ⟨s.size, rfl, by omega, by omega, fun L nL => ?_⟩
  refine lc_flat (fun i => if decide ((s.get i).st ≠ .fell) = true then some (V.int (i : Int)) else none) turnsR (fun _ _ => trivial) nL ?_ ?_
  · rintro j v Hc _ hj lc ⟨rfl, rfl⟩
    have hj' : j < s.size := by omega
    have cc := c1.same lc.s
    walk_at "xs"
    refine x_wipe rfl ?_
    rw [show (0 : Int) + (j : Int) = j by omega]
    walk_at "xs"
    refine s_seats cc rfl hj' ?_
    walk_at "xs"
    refine x_ixL (v := .str (s.get j).st.s) (SqL.of (s_seat cc hj')) (by rfl) ?_
    walk_at "xs"
    walk_at "if"
    · rename_i e
      rw [seat_fell] at e
      walk_at "xs"
      exact lc.keep nL (Same.refl _) (if_pos (decide_eq_true e)) (by omega)
    · rename_i e
      have e : (s.get j).st = .fell := (seat_fell _).mp e
      exact lc.skip (Same.refl _) (if_neg (by rw [decide_eq_false (p := (s.get j).st ≠ .fell) (fun z => z e)]; decide))
  intro H2 q2 hL
  rw [show ((s.size : Nat) : Int).toNat = s.size by omega] at hL
  have eL : (List.range s.size).filterMap (fun i => if decide ((s.get i).st ≠ .fell) = true then some (V.int (i : Int)) else none) = nI (leftS s) := by
    unfold nI leftS
    rw [← List.filterMap_eq_map', List.filterMap_filter]
  rw [eL] at hL
  have c2 := c1.same q2
  have hF2 := q2 _ _ hF
  have hP2 := q2 _ _ hP
  have o2 : Off (stFoot b st.size) H H2 := o1.trans (Off.of q2)
  have fL : L ∉ stFoot b st.size := by have := c1.fresh nL; rwa [z1] at this
  have lL : (leftS s).length ≤ s.size := by unfold leftS; exact up_len _ _
  walk_at "xs"
  refine x_lenL (SqL.of hL) ?_
  rw [nI_len, e1]
  walk_at "xs"
  rw [← ec, e2]
  generalize hco : payCoins st paid = coins at k' ec ⊢
  have free : ∀ {H' : Hp} {s' : CS} {x : Addr}, Off (stFoot b st.size) H H' → StAt H' b s' → s'.size = st.size → H' x = none → H x = none := fun {H' s' x} o c z n => by
    cases e : H x with
    | none => rfl
    | some o' =>
      by_cases h : x ∈ stFoot b st.size
      · have := c.fresh n
        rw [z] at this
        exact absurd h this
      · rw [o x o' h e] at n; cases n
  walk_at "if"
  · rename_i cd
    have cd' : 0 < s.due := by omega
    rw [if_pos cd', if_pos cd'] at k'
    walk_at "xs"
    refine v_0 (k := 3) (st' := { s with now := st.now + 1 }) c2 z1 (by decide) rfl rfl (by show _ = [_, _, _, V.int ((st.now + 1 : Nat) : Int), _, _, _, _, _]; rw [e2, show ((st.now + 1 : Nat) : Int) = (st.now : Int) + 1 by omega]; rfl) fun H3 o3 c3 z3 => ?_
    walk_at "xs"
    refine v_0 (k := 5) (st' := { s with now := st.now + 1, due := s.due - 1 }) c3 z3 (by decide) rfl rfl (by show _ = [_, _, _, _, _, V.int ((s.due - 1 : Nat) : Int), _, _, _]; rw [show ((s.due - 1 : Nat) : Int) = (s.due : Int) - 1 by omega]; rfl) fun H4 o4 c4 z4 => ?_
    walk_at "xs"
    refine v_0 (k := 6) (st' := { s with now := st.now + 1, due := s.due - 1, chest := st.chest + coins }) c4 z4 (by decide) rfl rfl (by show List.set [_, _, _, _, _, _, V.int s.chest, _, _] 6 _ = _; rw [e3]; rfl) fun H5 o5 c5 z5 => ?_
    walk_at "xs"
    refine al_tup fun r H6 nr q6 hr => ?_
    have o5' := ((o2.trans o3).trans o4).trans o5
    exact k' r F P H6 (free o5' c5 z5 nr) nF nP (o5'.trans (Off.of q6)) (c5.same q6) ⟨hr, q6 _ _ (o5 _ _ fF (o4 _ _ fF (o3 _ _ fF hF2))), q6 _ _ (o5 _ _ fP (o4 _ _ fP (o3 _ _ fP hP2))), nFP⟩
  rename_i cd
  have cd' : ¬ 0 < s.due := by omega
  rw [if_neg cd', if_neg cd'] at k'
  have lne := lne cd'
  have hb2 : SqL K H2 c (bids.map V.int) := q2.seq (hide_same.seq hb1)
  walk_at "xs"
  refine ⟨b, s, c, bids, rfl, c2, hb2, by omega, fun i hi => by rw [z1]; exact ((po.mem i).mp hi).1, lne, by omega, by omega, fun w H3 nw q3 hw => ?_⟩
  have win := winner_in (bids := bids) lne
  have hwm := (po.mem _).mp win
  unfold drawS gotB shareB at k'
  generalize (winnerS s bids).1 = here at hw win hwm k'
  generalize (winnerS s bids).2 = bid at hw k'
  obtain ⟨hn, hwt⟩ := hwm
  have lo := left_others (st := s) (here := here) (by omega) (by rw [hwt]; decide)
  refine x_gtup (SqT.of hw) rfl ?_
  have c3 := c2.same q3
  have hL3 := q3 _ _ hL
  have hF3 := q3 _ _ hF2
  have hP3 := q3 _ _ hP2
  have o3 := o2.trans (Off.of q3)
  walk_at "xs"
  refine x_lenL (SqL.of hL3) ?_
  rw [nI_len]
  walk_at "xs"
  refine x_rI (C := CDivW) ⟨by split <;> omega, ?_⟩ ?_
  · have : ∀ z : Int, 0 < z → z ≤ 1000 → z.natAbs.log2 < 9000 := fun z z1 z2 => log_small z1 (by omega)
    split
    · exact this _ (by omega) (by omega)
    · exact this _ (by omega) (by omega)
  walk_at "xs"
  refine x_lenL (SqL.of hL3) ?_
  rw [nI_len]
  walk_at "xs"
  first | refine x_rI (C := CMul) (.inr (by split <;> decide)) ?_ | skip
  have esh : bid / (if ((leftS s).length : Int) - 1 > 1 then ((leftS s).length : Int) - 1 else 1) * (if decide (1 < ((leftS s).length : Int)) = true then 1 else 0) = shareS s here bid := by
    unfold shareS
    by_cases h1 : 0 < (othersS s here).length
    · rw [if_pos h1, decide_eq_true (by omega : 1 < ((leftS s).length : Int)), if_pos rfl, Int.mul_one]
      congr 1
      split <;> omega
    · rw [if_neg h1, decide_eq_false (by omega : ¬ 1 < ((leftS s).length : Int))]
      simp
  rw [esh]
  generalize shareS s here bid = share at k' ⊢
  walk_at "xs"
  refine x_lenL (SqL.of hL3) ?_
  rw [nI_len]
  walk_at "xs"
  first | refine x_rI (C := CMul) (.inr ⟨by omega, by omega⟩) ?_ | skip
  walk_at "xs"
  have egot : s.stake * (s.size : Int) - share * (((leftS s).length : Int) - 1) = gotS s here share := by
    unfold gotS
    congr 2
    omega
  rw [egot]
  generalize gotS s here share = got at k' ⊢
  have mL : ∀ i, i ∈ leftS s ↔ i < s.size ∧ (s.get i).st ≠ .fell := fun i => by unfold leftS; simp [List.mem_filter]
  have ndL : (leftS s).Nodup := List.nodup_range.filter _
  have hfl : ∀ i, i < s.size → (s.get i).fl ≠ [] := fun i hi z => by
    have := po.fl i (by omega)
    rw [z] at this
    have := wf.now1
    simp at *
    omega
  refine ⟨L, rfl, ⟨_, SqL.of hL3⟩, for_by (turnsL (xs := nI (leftS s))) (fun j σ H' => ∃ (u : Option V) (s' : CS), σ = [some (.ref (b 0)), some (.ref p), some (.ref c), some (.ref F), some (.ref P), some (.ref L), some (.int coins), some (.int st.now), some (.int here), some (.int bid), some (.int share), some (.int got), u] ∧ Off (stFoot b st.size) H3 H' ∧ StAt H' b s' ∧ s' = { s with seats := onInI ((leftS s).take j) (leftSeat here share) s.seats })
    ⟨_, s, rfl, Off.refl, c3, by rw [List.take_zero, onInI_nil]⟩ (fun j σ H' _ z => by obtain ⟨_, _, _, o, _⟩ := z; exact SqL.of (o _ _ fL hL3)) ?_ ?_⟩
  · rintro j x σ H4 _ hj ⟨u, s', rfl, o4, c4, es⟩ ⟨rfl, hx⟩
    rw [nI_len] at hj
    unfold nI at hx
    rw [List.getElem?_map, List.getElem?_eq_getElem hj] at hx
    cases hx
    have tk : (leftS s).take (j + 1) = (leftS s).take j ++ [(leftS s)[j]] := by rw [List.take_succ, List.getElem?_eq_getElem hj]; rfl
    have hm := (mL _).mp (List.getElem_mem hj)
    have nin : (leftS s)[j] ∉ (leftS s).take j := fun z => by
      obtain ⟨i, hi, e⟩ := List.mem_take_iff_getElem.mp z
      have := (List.getElem_inj ndL).mp e
      omega
    rw [tk]
    generalize (leftS s)[j] = n at hm nin
    have z4 : s'.size = st.size := by rw [es]; exact (onInI_len _ _ _).trans z1
    have g4 : s'.get n = s.get n := by rw [es]; exact onInI_get nin
    have ei : (if (!decide ((n : Int) = (here : Int))) = true then (1 : Int) else 0) = if n ≠ here then 1 else 0 := by
      by_cases q : n = here
      · subst q; simp
      · have : ¬ (n : Int) = (here : Int) := by omega
        simp [q, this]
    walk_at "xs"
    refine s_seats c4 rfl (by omega) ?_
    walk_at "xs"
    refine x_ixL (v := .int (s.get n).sh) (SqL.of (s_seat c4 (by omega))) (by rw [g4]; rfl) ?_
    walk_at "xs"
    first | refine x_rI (C := CMul) (.inr (by split <;> decide)) ?_ | skip
    rw [ei]
    walk_at "xs"
    refine v_seat (k := 5) (f := fun r => { r with sh := (s.get n).sh + share * (if n ≠ here then 1 else 0) }) c4 z4 (by omega) (by decide) (fun _ => rfl) (by rw [g4]; rfl) fun H5 s5 o5 c5 z5 e5 => ?_
    have f5 : (s5.get n).fl = (s.get n).fl := by
      rw [e5]
      show ((s'.seats.modify n _).getD n {}).fl = _
      rw [getD_mod (by show n < s'.size; omega), if_pos rfl, show s'.seats.getD n {} = s.get n from g4]
    walk_at "xs"
    refine s_flows c5 rfl (by omega) ?_
    walk_at "xs"
    refine x_ixLast (s_flow c5 (by omega)) (by rw [f5]; exact hfl n hm.1) ?_
    walk_at "xs"
    first | refine x_rI (C := CMul) (.inr (by split <;> decide)) ?_ | skip
    rw [ei]
    walk_at "xs"
    refine v_last (x := share * (if n ≠ here then 1 else 0)) c5 z5 (by omega) (by rw [f5]; exact hfl n hm.1) rfl fun H6 s6 o6 c6 z6 e6 => ?_
    refine ⟨_, s6, rfl, (o4.trans o5).trans o6, c6, ?_⟩
    rw [e6, e5, es]
    unfold CS.mod
    simp only [mod_mod]
    rw [onInI_step nin]
    rfl
  rintro σ H4 ⟨u, s', rfl, o4, c4, es⟩
  rw [nI_len, List.take_length] at es
  have z4 : s'.size = st.size := by rw [es]; exact (onInI_len _ _ _).trans z1
  have t4 : s'.stake = st.stake := by rw [es]; exact e1
  have w4 : s'.now = st.now := by rw [es]; exact e2
  have l4 : s'.line = s.line := by rw [es]
  have ch4 : s'.chest = st.chest := by rw [es]; exact e3
  have hnl : here ∈ leftS s := (mL here).mpr ⟨by omega, by rw [hwt]; decide⟩
  have g4 : s'.get here = leftSeat here share here (s.get here) := by
    rw [es]
    show (onInI _ _ _).getD here {} = _
    unfold onInI
    rw [List.getD_eq_getElem?_getD, List.getElem?_mapIdx, List.getElem?_eq_getElem (by show here < s.size; omega)]
    show (if here ∈ leftS s then _ else _) = _
    rw [if_pos hnl]
    congr 1
    unfold CS.get
    rw [List.getD_eq_getElem?_getD, List.getElem?_eq_getElem (by show here < s.size; omega)]; rfl
  have g4' : s'.get here = s.get here := by
    rw [g4]
    unfold leftSeat
    rw [if_neg (fun z => z rfl), Int.mul_zero, Int.add_zero, addLast_zero (hfl here (by omega))]
  walk_at "xs"
  refine v_0 (k := 3) (st' := { s' with now := st.now + 1 }) c4 z4 (by decide) rfl rfl (by show _ = [_, _, _, V.int ((st.now + 1 : Nat) : Int), _, _, _, _, _]; rw [w4, show ((st.now + 1 : Nat) : Int) = (st.now : Int) + 1 by omega]; rfl) fun H5 o5 c5 z5 => ?_
  walk_at "xs"
  refine ⟨tyL (SqL.of (c5.at_ 1 (by omega))), ?_⟩
  walk_at "xs"
  refine v_rem c5 z5 rfl (by show here ∈ s'.line; rw [l4]; exact win) fun H6 s6 o6 c6 z6 e6 => ?_
  have t6 : s6.stake = st.stake := by rw [e6]; exact t4
  have ch6 : s6.chest = st.chest := by rw [e6]; exact ch4
  walk_at "xs"
  rw [t6, z6]
  refine v_0 (k := 6) (st' := { s6 with chest := st.chest + (coins - st.stake * (st.size : Int)) }) c6 z6 (by decide) rfl rfl (by show List.set [_, _, _, _, _, _, V.int s6.chest, _, _] 6 _ = _; rw [ch6]; rfl) fun H7 o7 c7 z7 => ?_
  have g7 : CS.get { s6 with chest := st.chest + (coins - st.stake * (st.size : Int)) } here = s.get here := by
    rw [e6]; exact g4'
  walk_at "xs"
  refine al_lst fun D H8 nD q8 hD => ?_
  have c8 := c7.same q8
  walk_at "xs"
  refine x_gslI ?_
  walk_at "xs"
  refine s_seats c8 rfl (by rw [z7]; exact hn) ?_
  walk_at "xs"
  have h8 := s_seat c8 (i := here) (by rw [z7]; exact hn)
  rw [g7] at h8
  have neD : b (4 + 2 * here) ≠ D := fun z => by rw [← z, s_seat c7 (by rw [z7]; exact hn)] at nD; cases nD
  refine ⟨b (4 + 2 * here), D, _, _, 0, 2, rfl, rfl, rfl, rfl, h8, hD, neD, by decide, by decide, by show (2 : Int) ≤ 7; decide, by rw [sizeLine_eq]; show 7 + 2 ≤ _; decide, ?_⟩
  have c9 := c8.mod_seat (i := here) (f := fun r => { r with st := .drew, wh := st.now }) (by rw [z7]; exact hn) fun _ => rfl
  have e9 : (seatV (s.get here)).take (Int.toNat 0) ++ [V.str "drew", .int st.now] ++ (seatV (s.get here)).drop (Int.toNat 2) = seatV { s.get here with st := .drew, wh := st.now } := rfl
  rw [g7] at c9
  rw [e9]
  have o9 : Off (stFoot b st.size) H8 (upd H8 (b (4 + 2 * here)) (.lst (seatV { s.get here with st := .drew, wh := st.now }))) := Off.refl.upd (mem_sfoot (by omega))
  generalize upd H8 (b (4 + 2 * here)) (.lst (seatV { s.get here with st := .drew, wh := st.now })) = H9 at c9 o9 ⊢
  obtain ⟨s9, hs9⟩ : ∃ s9, s9 = ({ s6 with chest := st.chest + (coins - st.stake * (st.size : Int)) } : CS).mod here fun r => { r with st := .drew, wh := st.now } := ⟨_, rfl⟩
  rw [← hs9] at c9
  have z9 : s9.size = st.size := by rw [hs9, size_mod]; exact z7
  have g9 : s9.get here = { s.get here with st := .drew, wh := st.now } := by
    rw [hs9]
    show (s6.seats.modify here _).getD here {} = _
    rw [getD_mod (by show here < s6.size; omega), if_pos rfl, show s6.seats.getD here {} = s.get here from g7]
  walk_at "xs"
  refine s_seats c9 rfl (by omega) ?_
  walk_at "xs"
  refine v_seat (k := 4) (f := fun r => { r with dr := got }) c9 z9 hn (by decide) (fun _ => rfl) (by rw [g9]; rfl) fun H10 s10 o10 c10 z10 e10 => ?_
  have f10 : (s10.get here).fl = (s.get here).fl := by
    rw [e10]
    show ((s9.seats.modify here _).getD here {}).fl = _
    rw [getD_mod (by show here < s9.size; omega), if_pos rfl, show s9.seats.getD here {} = _ from g9]
  walk_at "xs"
  refine s_flows c10 rfl (by omega) ?_
  walk_at "xs"
  refine x_ixLast (s_flow c10 (by omega)) (by rw [f10]; exact hfl here (by omega)) ?_
  walk_at "xs"
  refine v_last (x := got) c10 z10 hn (by rw [f10]; exact hfl here (by omega)) rfl fun H11 s11 o11 c11 z11 e11 => ?_
  walk_at "xs"
  refine al_tup fun r H12 nr q12 hr => ?_
  have o37 := ((o4.trans o5).trans o6).trans o7
  have o811 := (o9.trans o10).trans o11
  have o11' : Off (stFoot b st.size) H H11 := ((o3.trans o37).trans (Off.of q8)).trans o811
  have keep : ∀ {x : Addr} {o : HO}, x ∉ stFoot b st.size → H3 x = some o → H12 x = some o := fun {x o} hx h => q12 _ _ (o811 _ _ hx (q8 _ _ (o37 _ _ hx h)))
  refine k' r F P H12 (free o11' c11 z11 nr) nF nP (o11'.trans (Off.of q12)) ?_ ⟨hr, keep fF hF3, keep fP hP3, nFP⟩
  have e : ({ s with line := s.line.erase here, seats := s.seats.mapIdx (drawSeat here s.now share got), chest := st.chest + (coins - st.stake * (st.size : Int)), now := st.now + 1 } : CS) = s11 := by
    rw [e11, e10, hs9, e6, es]
    unfold CS.mod
    simp only [mod_mod]
    congr 1
    apply List.ext_getElem?
    intro n
    rw [List.getElem?_modify]
    unfold onInI
    rw [List.getElem?_mapIdx, List.getElem?_mapIdx]
    cases en : s.seats[n]? with
    | none => rfl
    | some r =>
      have hnn := (List.getElem?_eq_some_iff.mp en).1
      have gr : s.get n = r := by unfold CS.get; rw [List.getD_eq_getElem?_getD, en]; rfl
      by_cases q : here = n
      · subst q
        have az : addLast r.fl 0 = r.fl := by rw [← gr]; exact addLast_zero (hfl here (by omega))
        simp [drawSeat, hnl, leftSeat, az, e2]
      · have q' : ¬ n = here := fun z => q z.symm
        by_cases d : r.st = .fell
        · have : n ∉ leftS s := fun z => ((mL n).mp z).2 (by rw [gr]; exact d)
          simp [drawSeat, q, q', d, this]
        · have : n ∈ leftS s := (mL n).mpr ⟨hnn, by rw [gr]; exact d⟩
          simp [drawSeat, q, q', d, this, giveSeat, leftSeat]
  rw [e]; exact c11.same q12

end Su
namespace Su
open PySem L2
local macro_rules | `(tactic| walk_at "side") => `(tactic| first | assumption | (show (0 : Int) < _; omega) | (show (0 : Int) ≤ _; omega) | (show (0 : Int) < _; split <;> omega) | (show _ ∨ _; omega) | (show _ ∧ _; omega) | exact ⟨by decide, by decide, by decide⟩ | exact ⟨by first | assumption | omega, by first | assumption | omega⟩)
local macro_rules | `(tactic| walk_at "x") => `(tactic| first
  | with_reducible refine Su.x_seq ?_ | with_reducible refine Su.x_asg ?_ | with_reducible refine Su.x_gname ?_ | with_reducible refine Su.x_drop ?_ | with_reducible refine Su.x_ret ?_ | with_reducible refine Su.x_ifS ?_
  | ((with_reducible show L2.tVar _ _ _ _); refine Su.x_var rfl ?_) | with_reducible refine Su.x_c ?_ | with_reducible refine Su.x_op ?_ | with_reducible refine Su.x_rI0 ?_ | ((with_reducible refine Su.x_rI ?_ ?_); focus walk_at "side")
  | ((with_reducible show L2.rIxL _ (L2.V.ref _) (L2.V.int _) _ _); refine Su.x_ixI (by assumption) (by first | decide | omega) (by omega) ?_) | with_reducible refine Su.x_isi_int_int ?_ | with_reducible refine Su.x_isi_int_bool ?_ | with_reducible refine Su.x_isi_int_str ?_ | with_reducible refine Su.x_isi_int_list ?_ | with_reducible refine Su.x_isi_int_tuple ?_ | with_reducible refine Su.x_isi_bool_int ?_ | with_reducible refine Su.x_isi_bool_bool ?_ | with_reducible refine Su.x_isi_bool_str ?_ | with_reducible refine Su.x_isi_bool_list ?_ | with_reducible refine Su.x_isi_bool_tuple ?_ | with_reducible refine Su.x_isi_str_int ?_ | with_reducible refine Su.x_isi_str_bool ?_ | with_reducible refine Su.x_isi_str_str ?_ | with_reducible refine Su.x_isi_str_list ?_ | with_reducible refine Su.x_isi_str_tuple ?_ | with_reducible refine Su.x_isi_NoneType_int ?_ | with_reducible refine Su.x_isi_NoneType_bool ?_ | with_reducible refine Su.x_isi_NoneType_str ?_ | with_reducible refine Su.x_isi_NoneType_list ?_ | with_reducible refine Su.x_isi_NoneType_tuple ?_ | with_reducible refine Su.x_rGt ?_ | with_reducible refine Su.x_rGe ?_ | with_reducible refine Su.x_iteF ?_ | with_reducible refine Su.x_iteT ?_ | with_reducible refine Su.x_iteNT ?_ | with_reducible refine Su.x_iteNF ?_ | with_reducible refine Su.x_eqI ?_ | with_reducible refine Su.x_neI ?_ | with_reducible refine Su.x_eqS ?_ | with_reducible refine Su.x_neS ?_ | with_reducible refine Su.x_eqB ?_ | with_reducible refine Su.x_neB ?_
  | with_reducible refine Su.x_test ?_ | with_reducible refine Su.x_tB ?_ | with_reducible refine Su.x_isB ?_ | with_reducible refine Su.x_isB' ?_ | with_reducible refine Su.x_not ?_ | with_reducible refine Su.x_and ?_ | with_reducible refine Su.x_or ?_
  | with_reducible refine Su.x_andV ?_ | with_reducible refine Su.x_orV ?_ | with_reducible refine Su.x_notV ?_ | with_reducible refine Su.x_chain ?_ | with_reducible refine Su.x_nil ?_ | with_reducible refine Su.x_cons ?_ | with_reducible refine Su.x_cb ?_ | with_reducible refine Su.x_call ?_
  | with_reducible refine Su.x_un ?_ | with_reducible refine Su.x_rU ?_ | with_reducible refine Su.x_abs ?_ | with_reducible refine Su.x_max2 ?_ | with_reducible refine Su.x_min2 ?_ | with_reducible refine Su.x_int1 ?_ | with_reducible refine Su.x_intB ?_
  | with_reducible refine Su.x_lst ?_ | with_reducible refine Su.x_tup ?_ | with_reducible refine Su.x_bmL ?_ | with_reducible refine Su.x_next ?_ | with_reducible refine Su.x_for ?_ | with_reducible refine Su.x_iList ?_ | with_reducible refine Su.x_iRng1 ?_ | with_reducible refine Su.x_iRng2 ?_ | with_reducible refine Su.x_whileN ?_ | with_reducible refine Su.x_iEnum ?_ | with_reducible refine Su.x_iZip ?_ | with_reducible refine Su.x_iZipA ?_ | with_reducible refine Su.x_iTup ?_ | with_reducible refine Su.x_gcons ?_ | with_reducible refine Su.x_gnil ?_ | with_reducible refine Su.x_gsub ?_ | with_reducible refine Su.x_yes ?_ | with_reducible refine Su.x_lc ?_ | with_reducible refine Su.x_sl ?_ | with_reducible refine Su.x_nopart ?_ | with_reducible refine Su.x_part ?_ | with_reducible refine Su.x_isI ?_ | with_reducible refine Su.x_lstRg ?_ | with_reducible refine Su.x_rg1 ?_ | with_reducible refine Su.x_augS ?_ | with_reducible refine Su.x_ipI ?_ | ((with_reducible show L2.tAug _ _ _ _ _ _); refine Su.x_aug rfl ?_) | with_reducible refine Su.x_callS ?_ | with_reducible refine Su.x_tryAs ?_)
local macro_rules | `(tactic| walk_at "xs") => `(tactic| repeat walk_at "x")
local macro_rules | `(tactic| walk_at "if") => `(tactic| first | with_reducible refine Su.x_iteD (fun c => ?_) (fun c => ?_) | with_reducible refine Su.x_iteN (fun c => ?_) (fun c => ?_) | with_reducible refine Su.x_ite (fun c => ?_) (fun c => ?_))
/-! a circle and a law's state of it, side by side -/
structure Both (K : PySem.W.Frag) (G : Hp) (a b : Nat → Addr) (n : Nat) (H : Hp) (st : CS) : Prop where
  g : Same G (hide (cirFoot a n ++ stFoot b n) H)
  ca : CirAt K H a st
  cb : StAt H b st
  z : st.size = n
  wf : WF st
  dj : ∀ y ∈ stFoot b n, y ∉ cirFoot a n
section
variable {K : PySem.W.Frag} {G H H' : Hp} {a b : Nat → Addr} {n : Nat} {st st' : CS}
theorem Both.same (h : Both K G a b n H st) (s : Same H H') : Both K G a b n H' st := ⟨h.g.trans (hide_mono s), h.ca.same s, h.cb.same s, h.z, h.wf, h.dj⟩
theorem Both.at_ (h : Both K G a b n H st) {p : Addr} {o : HO} (e : G p = some o) : H p = some o := hide_same _ _ (h.g _ _ e)
theorem Both.new (h : Both K G a b n H st) {p : Addr} (e : H p = none) : G p = none := by
  cases c : G p with
  | none => rfl
  | some o => rw [h.at_ c] at e; cases e
/-- a list of its own is changed -/
theorem Both.upd (h : Both K G a b n H st) {p : Addr} {o : HO} (h1 : p ∉ cirFoot a n) (h2 : p ∉ stFoot b n) (h3 : G p = none) : Both K G a b n (L2.upd H p o) st := by
  refine ⟨fun y u e => ?_, h.ca.upd_out (by rw [h.z]; exact h1), h.cb.upd_out (by rw [h.z]; exact h2), h.z, h.wf, h.dj⟩
  have := h.g y u e
  have hy : y ∉ cirFoot a n ++ stFoot b n := fun z => by rw [hide_in z] at this; cases this
  rw [hide_out hy] at this ⊢
  rw [upd_ne (ne_of_none e h3)]; exact this
theorem both_startH {H0 H1 H2 : Hp} {s : Int} {bd : Bool} {pl ws : List Int} {row : List Nat} (oa : OpenHas s n pl ws) (io : IsOrder (openWin s pl ws) row) (q1 : Same H0 H1) (fa : ∀ x ∈ cirFoot a n, H0 x = none) (ca : CirAt K H1 a (openS s bd pl row)) (q2 : Same H1 H2) (fb : ∀ x ∈ stFoot b n, H1 x = none) (cb : StAt H2 b (openS s bd pl row)) : Both K H0 a b n H2 (openS s bd pl row) := by
  have z : (openS s bd pl row).size = n := by rw [openS_size, oa.len]
  refine ⟨fun y o e => ?_, ca.same q2, cb, z, wf_open oa.ok io, fun y hy hz => ?_⟩
  · rw [hide_out (fun z => ?_)]
    · exact q2 _ _ (q1 _ _ e)
    · rcases List.mem_append.mp z with h | h
      · rw [fa y h] at e; cases e
      · rw [q1.free (fb y h)] at e; cases e
  · obtain ⟨j, hj, rfl⟩ := List.mem_map.mp hz
    have := ca.at_ j (by rw [z]; exact List.mem_range.mp hj)
    rw [fb _ hy] at this; cases this
theorem both_start {H0 H1 H2 : Hp} {s : Int} {bd : Bool} {pl ws : List Int} {row : List Nat} (oa : OpenAt s n pl ws) (io : IsOrder (openWin s pl ws) row) (q1 : Same H0 H1) (fa : ∀ x ∈ cirFoot a n, H0 x = none) (ca : CirAt K H1 a (openS s bd pl row)) (q2 : Same H1 H2) (fb : ∀ x ∈ stFoot b n, H1 x = none) (cb : StAt H2 b (openS s bd pl row)) : Both K H0 a b n H2 (openS s bd pl row) := both_startH oa.toOpenHas io q1 fa ca q2 fb cb
end
theorem fl_len {st : CS} (wf : WF st) (h : st.now ≤ st.size + 1) : ∀ i, i < st.size → (st.get i).fl.length ≤ 1000 := fun i hi => by
  have := wf.fl i hi
  have := wf.n2
  omega
theorem now_le {st : CS} (wf : WF st) : st.now ≤ st.size + 1 := by have := wf.cnt; omega
theorem fallen_len {st : CS} {paid : List Bool} (wf : WF st) : (fallenS st paid).length ≤ 1000 := by
  have h := wf.n2
  have := up_len (fun i => decide ((st.get i).st = .waits) && !(paid.getD i false)) st.size
  unfold fallenS
  omega
theorem helped_len {st : CS} {paid : List Bool} (wf : WF st) : (helpedS st paid).length ≤ 1000 := by
  have h := wf.n2
  have := up_len (fun i => decide ((st.get i).st = .drew) && !(paid.getD i false)) st.size
  unfold helpedS
  omega
theorem good_repS {st : CS} {paid : List Bool} {bids : List Int} (wf : WF st) : GoodD 2 (dRep (repS st paid bids)) := by
  refine good_rep ?_ ?_
  · unfold repS; split <;> exact fallen_len wf
  · unfold repS; split <;> exact helped_len wf

end Su
namespace Su
open PySem L2
local macro_rules | `(tactic| walk_at "side") => `(tactic| first | assumption | (show (0 : Int) < _; omega) | (show (0 : Int) ≤ _; omega) | (show (0 : Int) < _; split <;> omega) | (show _ ∨ _; omega) | (show _ ∧ _; omega) | exact ⟨by decide, by decide, by decide⟩ | exact ⟨by first | assumption | omega, by first | assumption | omega⟩)
local macro_rules | `(tactic| walk_at "xs") => `(tactic| repeat walk_at "x")
local macro_rules | `(tactic| walk_at "if") => `(tactic| first | with_reducible refine Su.x_iteD (fun c => ?_) (fun c => ?_) | with_reducible refine Su.x_iteN (fun c => ?_) (fun c => ?_) | with_reducible refine Su.x_ite (fun c => ?_) (fun c => ?_))

/-! places exchanged, pledges laid -/
instance decSwap (st : CS) (n m : Nat) : Decidable (SwapOk st n m) := by unfold SwapOk; infer_instance
/-- an exchange of two places -/
theorem sw_at {l : List Nat} {p q n m k : Nat} (hk : k < ((l.set p m).set q n).length) : ((l.set p m).set q n)[k] = if q = k then n else if p = k then m else l[k]'(by simpa using hk) := by
  rw [List.getElem_set]
  split
  · rfl
  · rw [List.getElem_set]
def sw2 (p q k : Nat) : Nat := if q = k then p else if p = k then q else k
theorem sw2_lt {p q k z : Nat} (hp : p < z) (hq : q < z) (hk : k < z) : sw2 p q k < z := by
  unfold sw2
  split
  · exact hp
  · split
    · exact hq
    · exact hk
theorem sw2_sw2 {p q k : Nat} : sw2 p q (sw2 p q k) = k := by
  unfold sw2
  by_cases c1 : q = k
  · subst c1
    rw [if_pos rfl]
    by_cases c2 : q = p
    · rw [if_pos c2, c2]
    · rw [if_neg c2, if_pos rfl]
  · rw [if_neg c1]
    by_cases c2 : p = k
    · subst c2
      rw [if_pos rfl, if_pos rfl]
    · rw [if_neg c2, if_neg c1, if_neg c2]
theorem sw2_inj {p q i j : Nat} (h : sw2 p q i = sw2 p q j) : i = j := by
  rw [← @sw2_sw2 p q i, h, sw2_sw2]
theorem nd_inj {l : List Nat} (h : l.Nodup) {i j : Nat} (hi : i < l.length) (hj : j < l.length) (e : l[i] = l[j]) : i = j := by
  rw [List.Nodup, List.pairwise_iff_getElem] at h
  rcases Nat.lt_trichotomy i j with c | c | c
  · exact absurd e (h i j hi hj c)
  · exact c
  · exact absurd e.symm (h j i hj hi c)
theorem sw_eq {l : List Nat} {p q n m k : Nat} (hp : p < l.length) (hq : q < l.length) (ep : l[p] = n) (eq : l[q] = m) (hk : k < ((l.set p m).set q n).length) : ((l.set p m).set q n)[k] = l[sw2 p q k]'(sw2_lt hp hq (by simpa using hk)) := by
  rw [sw_at]
  by_cases c1 : q = k
  · have : sw2 p q k = p := by unfold sw2; rw [if_pos c1]
    simp only [if_pos c1, this, ep]
  · by_cases c2 : p = k
    · have : sw2 p q k = q := by unfold sw2; rw [if_neg c1, if_pos c2]
      simp only [if_neg c1, if_pos c2, this, eq]
    · have : sw2 p q k = k := by unfold sw2; rw [if_neg c1, if_neg c2]
      simp only [if_neg c1, if_neg c2, this]
theorem sw_nd {l : List Nat} (nd : l.Nodup) {p q n m : Nat} (hp : p < l.length) (hq : q < l.length) (ep : l[p] = n) (eq : l[q] = m) : ((l.set p m).set q n).Nodup := by
  rw [List.Nodup, List.pairwise_iff_getElem]
  intro i j hi hj hij e
  rw [sw_eq hp hq ep eq, sw_eq hp hq ep eq] at e
  have := sw2_inj (nd_inj nd _ _ e)
  omega
theorem sw_mem {l : List Nat} {p q n m x : Nat} (hp : p < l.length) (hq : q < l.length) (ep : l[p] = n) (eq : l[q] = m) : x ∈ (l.set p m).set q n ↔ x ∈ l := by
  constructor
  · intro h
    obtain ⟨k, hk, rfl⟩ := List.getElem_of_mem h
    rw [sw_eq hp hq ep eq]
    exact List.getElem_mem _
  · intro h
    obtain ⟨k, hk, rfl⟩ := List.getElem_of_mem h
    have hl : sw2 p q k < ((l.set p m).set q n).length := by simpa using sw2_lt hp hq hk
    have := sw_eq hp hq ep eq hl
    simp only [sw2_sw2] at this
    rw [← this]
    exact List.getElem_mem _
theorem wf_swap {st : CS} (wf : WF st) {n m : Nat} (hn : n ∈ st.line) (hm : m ∈ st.line) : WF (swapS st n m) := by
  obtain ⟨hp, ep⟩ : ∃ hp : st.line.idxOf n < st.line.length, st.line[st.line.idxOf n] = n := ⟨List.idxOf_lt_length_of_mem hn, List.getElem_idxOf _⟩
  obtain ⟨hq, eq⟩ : ∃ hp : st.line.idxOf m < st.line.length, st.line[st.line.idxOf m] = m := ⟨List.idxOf_lt_length_of_mem hm, List.getElem_idxOf _⟩
  exact ⟨wf.s1, wf.s2, wf.n1, wf.n2, sw_nd wf.nd hp hq ep eq, fun i => (sw_mem hp hq ep eq).trans (wf.mem i), by show ((st.line.set _ _).set _ _).length + _ + _ = _; rw [List.length_set, List.length_set]; exact wf.cnt, wf.now1, wf.fl, wf.wh⟩
theorem wf_mod {st : CS} (wf : WF st) {i : Nat} (hi : i < st.size) {f : SeatR → SeatR} (h1 : ∀ r, (f r).st = r.st) (h2 : ∀ r, (f r).fl = r.fl) (h3 : ∀ r, (f r).wh = r.wh) : WF (st.mod i f) := by
  have z : (st.mod i f).size = st.size := size_mod f
  have g : ∀ j, (st.mod i f).get j = if i = j then f (st.get j) else st.get j := fun j => getD_mod hi
  have g1 : ∀ j, ((st.mod i f).get j).st = (st.get j).st := fun j => by rw [g]; split <;> simp only [h1]
  have g2 : ∀ j, ((st.mod i f).get j).fl = (st.get j).fl := fun j => by rw [g]; split <;> simp only [h2]
  have g3 : ∀ j, ((st.mod i f).get j).wh = (st.get j).wh := fun j => by rw [g]; split <;> simp only [h3]
  refine ⟨wf.s1, wf.s2, by rw [z]; exact wf.n1, by rw [z]; exact wf.n2, wf.nd, fun j => by rw [z, g1]; exact wf.mem j, by rw [z]; exact wf.cnt, wf.now1, fun j hj => ?_, fun j hj e => ?_⟩
  · rw [z] at hj; rw [g2]; exact wf.fl j hj
  · rw [z] at hj; rw [g1] at e; rw [g3]; exact wf.wh j hj e
end Su
namespace Su
open PySem L2
local macro_rules | `(tactic| walk_at "side") => `(tactic| first | assumption | (show (0 : Int) < _; omega) | (show (0 : Int) ≤ _; omega) | (show (0 : Int) < _; split <;> omega) | (show _ ∨ _; omega) | (show _ ∧ _; omega) | exact ⟨by decide, by decide, by decide⟩ | exact ⟨by first | assumption | omega, by first | assumption | omega⟩)
local macro_rules | `(tactic| walk_at "xs") => `(tactic| repeat walk_at "x")
local macro_rules | `(tactic| walk_at "if") => `(tactic| first | with_reducible refine Su.x_iteD (fun c => ?_) (fun c => ?_) | with_reducible refine Su.x_iteN (fun c => ?_) (fun c => ?_) | with_reducible refine Su.x_ite (fun c => ?_) (fun c => ?_))

/-! a pledge laid, or refused -/
end Su
namespace Su
open PySem L2
local macro_rules | `(tactic| walk_at "side") => `(tactic| first | assumption | (show (0 : Int) < _; omega) | (show (0 : Int) ≤ _; omega) | (show (0 : Int) < _; split <;> omega) | (show _ ∨ _; omega) | (show _ ∧ _; omega) | exact ⟨by decide, by decide, by decide⟩ | exact ⟨by first | assumption | omega, by first | assumption | omega⟩)
local macro_rules | `(tactic| walk_at "xs") => `(tactic| repeat walk_at "x")
local macro_rules | `(tactic| walk_at "if") => `(tactic| first | with_reducible refine Su.x_iteD (fun c => ?_) (fun c => ?_) | with_reducible refine Su.x_iteN (fun c => ?_) (fun c => ?_) | with_reducible refine Su.x_ite (fun c => ?_) (fun c => ?_))

/-! a round, seat by seat; and what stays true behind every round -/
def tot : Nat → (Nat → Int) → Int
  | 0, _ => 0
  | n + 1, f => tot n f + f n
theorem addLast_snoc (l : List Int) (x y : Int) : addLast (l ++ [x]) y = l ++ [x + y] := by
  unfold addLast
  have h : (l ++ [x]).length - 1 = l.length := by simp
  rw [h, List.set_append_right _ _ (Nat.le_refl _), List.getD_eq_getElem?_getD, List.getElem?_append_right (Nat.le_refl _)]
  simp
/-- how a round ends -/
structure Rnd where
  win : Option Nat
  share : Int
  got : Int
def rndS (st : CS) (paid : List Bool) (bids : List Int) : Rnd := if 0 < (payS st paid).due then ⟨none, 0, 0⟩ else ⟨some (winnerS (payS st paid) bids).1, shareB (payS st paid) bids, gotB (payS st paid) bids⟩
def newSeat (s : Int) (now : Nat) (p : Bool) (x : Rnd) (i : Nat) (r : SeatR) : SeatR :=
  if r.st = .fell then { r with fl := r.fl ++ [0] }
  else if r.st = .waits ∧ p = false then { r with st := .fell, wh := now, fl := r.fl ++ [0] }
  else if x.win = some i then { r with st := .drew, wh := now, gv := r.gv + s, dr := x.got, fl := r.fl ++ [-s + x.got] }
  else { r with pl := if p = false then r.pl - s else r.pl, gv := r.gv + s, sh := r.sh + x.share, ms := if p = false then r.ms + 1 else r.ms, fl := r.fl ++ [-s + x.share] }
section
variable {st : CS} {paid : List Bool} {bids : List Int} {i : Nat}
theorem rndS_box (h : 0 < (payS st paid).due) : rndS st paid bids = ⟨none, 0, 0⟩ := if_pos h
theorem rndS_draw (h : ¬ 0 < (payS st paid).due) : rndS st paid bids = ⟨some (winnerS (payS st paid) bids).1, shareB (payS st paid) bids, gotB (payS st paid) bids⟩ := if_neg h
theorem wn_ok (wf : WF st) (hn : ¬ st.size < st.now) (h : ¬ 0 < (payS st paid).due) : (winnerS (payS st paid) bids).1 < st.size ∧ (st.get (winnerS (payS st paid) bids).1).st = .waits ∧ paid.getD (winnerS (payS st paid) bids).1 false = true ∧ (winnerS (payS st paid) bids).1 ∈ (payS st paid).line := by
  have po := pay_ok (paid := paid) wf
  have win := winner_in (bids := bids) (line_ne wf hn h)
  have hw := (po.mem _).mp win
  have e := hw.2
  rw [payS_st hw.1] at e
  by_cases c : (winnerS (payS st paid) bids).1 ∈ fallenS st paid
  · rw [if_pos c] at e; cases e
  · rw [if_neg c] at e
    refine ⟨hw.1, e, ?_, win⟩
    cases z : paid.getD (winnerS (payS st paid) bids).1 false with
    | true => rfl
    | false => exact absurd (mem_fallen.mpr ⟨hw.1, e, z⟩) c
theorem pay_get (wf : WF st) (hi : i < st.size) : (payS st paid).get i = if (st.get i).st = .fell then { st.get i with fl := (st.get i).fl ++ [0] } else if (st.get i).st = .waits ∧ paid.getD i false = false then { st.get i with st := .fell, wh := st.now, fl := (st.get i).fl ++ [0] }
    else { st.get i with pl := if paid.getD i false = false then (st.get i).pl - st.stake else (st.get i).pl, gv := (st.get i).gv + st.stake, ms := if paid.getD i false = false then (st.get i).ms + 1 else (st.get i).ms, fl := (st.get i).fl ++ [-st.stake] } := by
  rw [payS_get hi, outS_get hi]
  by_cases c : (st.get i).st = .fell
  · have nf : i ∉ fallenS st paid := fun z => by have := (mem_fallen.mp z).2.1; rw [c] at this; cases this
    rw [if_neg nf, if_pos c]
    unfold collectSeat
    rw [if_neg (by rw [c]; simp), if_pos (wf.wh i hi c)]
  · rw [if_neg c]
    by_cases c2 : (st.get i).st = .waits ∧ paid.getD i false = false
    · have mf : i ∈ fallenS st paid := mem_fallen.mpr ⟨hi, c2.1, c2.2⟩
      rw [if_pos mf, if_pos c2]
      unfold collectSeat putSeat
      rw [if_neg (by simp)]
      rw [if_neg (by show ¬ ((st.now : Int) < (st.now : Int)); omega)]
    · have nf : i ∉ fallenS st paid := fun z => c2 (mem_fallen.mp z).2
      rw [if_neg nf, if_neg c2]
      unfold collectSeat
      rw [if_pos c]
      have hh : i ∈ helpedS st paid ↔ paid.getD i false = false := by
        rw [mem_helped]
        refine ⟨fun z => z.2.2, fun z => ⟨hi, ?_, z⟩⟩
        cases e : (st.get i).st with
        | waits => exact absurd ⟨e, z⟩ c2
        | drew => rfl
        | fell => exact absurd e c
      by_cases c3 : paid.getD i false = false
      · rw [if_pos (hh.mpr c3), if_pos c3, if_pos (hh.mpr c3), if_pos c3]
      · rw [if_neg (fun z => c3 (hh.mp z)), if_neg c3, if_neg (fun z => c3 (hh.mp z)), if_neg c3]
theorem close_get (wf : WF st) (hn : ¬ st.size < st.now) (hi : i < st.size) : (closeS st paid bids).get i = newSeat st.stake st.now (paid.getD i false) (rndS st paid bids) i (st.get i) := by
  have pg := pay_get (paid := paid) wf hi
  by_cases h : 0 < (payS st paid).due
  · rw [closeS_box h, rndS_box h]
    show (payS st paid).get i = _
    rw [pg]
    unfold newSeat
    split
    · rfl
    · split
      · rfl
      · rw [if_neg (c := (none : Option Nat) = some i) (by intro z; cases z)]
        simp only [Int.add_zero]
  · rw [closeS_draw h, rndS_draw h]
    show (drawS (payS st paid) bids).get i = _
    rw [drawS_get (by rw [payS_size]; exact hi), pg]
    have w := wn_ok (bids := bids) wf hn h
    unfold newSeat drawSeat
    rw [payS_now]
    by_cases ci : i = (winnerS (payS st paid) bids).1
    · have e1 : (st.get i).st = .waits := by rw [ci]; exact w.2.1
      have e2 : paid.getD i false = true := by rw [ci]; exact w.2.2.1
      have g1 : ¬ (st.get i).st = .fell := by rw [e1]; decide
      have g2 : ¬ ((st.get i).st = .waits ∧ paid.getD i false = false) := by rw [e2]; intro z; cases z.2
      have g3 : ¬ (paid.getD i false = false) := by rw [e2]; decide
      have g4 : some (winnerS (payS st paid) bids).1 = some i := by rw [ci]
      rw [if_pos ci, if_neg g1, if_neg g2, if_neg g3, if_neg g3, if_neg g1, if_neg g2, if_pos g4]
      simp only [addLast_snoc]
    · rw [if_neg ci]
      have cw : ¬ (some (winnerS (payS st paid) bids).1 = some i) := fun z => ci (Option.some.inj z).symm
      by_cases c : (st.get i).st = .fell
      · rw [if_pos c, if_pos c, if_neg (by show ¬ ((st.get i).st ≠ .fell); rw [c]; simp)]
      · rw [if_neg c, if_neg c]
        by_cases c2 : (st.get i).st = .waits ∧ paid.getD i false = false
        · rw [if_pos c2, if_pos c2, if_neg (by simp)]
        · rw [if_neg c2, if_neg c2, if_pos (by show (st.get i).st ≠ .fell; exact c), if_neg cw]
          unfold giveSeat
          simp only [addLast_snoc]
/-- 1 for a seat that fell -/
def fellI (st : CS) (i : Nat) : Int := if (st.get i).st = .fell then 1 else 0
theorem new_st {s : Int} {now : Nat} {p : Bool} {x : Rnd} {r : SeatR} : (newSeat s now p x i r).st = if r.st = .fell ∨ (r.st = .waits ∧ p = false) then .fell else if x.win = some i then .drew else r.st := by
  unfold newSeat
  by_cases c : r.st = .fell
  · rw [if_pos c, if_pos (.inl c)]; exact c
  · rw [if_neg c]
    by_cases c2 : r.st = .waits ∧ p = false
    · rw [if_pos c2, if_pos (.inr c2)]
    · rw [if_neg c2, if_neg (c := r.st = .fell ∨ _) (fun z => z.elim c c2)]
      by_cases c3 : x.win = some i
      · rw [if_pos c3, if_pos c3]
      · rw [if_neg c3, if_neg c3]
end

end Su
namespace Su
open PySem L2
local macro_rules | `(tactic| walk_at "side") => `(tactic| first | assumption | (show (0 : Int) < _; omega) | (show (0 : Int) ≤ _; omega) | (show (0 : Int) < _; split <;> omega) | (show _ ∨ _; omega) | (show _ ∧ _; omega) | exact ⟨by decide, by decide, by decide⟩ | exact ⟨by first | assumption | omega, by first | assumption | omega⟩)
local macro_rules | `(tactic| walk_at "xs") => `(tactic| repeat walk_at "x")
local macro_rules | `(tactic| walk_at "if") => `(tactic| first | with_reducible refine Su.x_iteD (fun c => ?_) (fun c => ?_) | with_reducible refine Su.x_iteN (fun c => ?_) (fun c => ?_) | with_reducible refine Su.x_ite (fun c => ?_) (fun c => ?_))

/-! what stays true behind every round of a circle -/
def fellT (st : CS) (i : Nat) : Int := if (st.get i).st = .fell then (st.now : Int) - (st.get i).wh else 0
structure SeatOk (s : Int) (n now : Nat) (p0 : Int) (r : SeatR) : Prop where
  w : r.st = .waits → r.gv = s * ((now : Int) - 1) ∧ r.dr = 0 ∧ r.ms = 0
  d : r.st = .drew → r.gv = s * ((now : Int) - 1) ∧ 1 ≤ r.wh ∧ r.wh < now ∧ s * ((n : Int) + 1 - now) ≤ r.pl
  f : r.st = .fell → r.gv = s * (r.wh - 1) ∧ r.dr = 0 ∧ 1 ≤ r.wh ∧ r.wh < now
  p : r.pl = p0 - s * r.ms
  p0 : 0 ≤ r.pl
  m0 : 0 ≤ r.ms
  fl : r.fl.sum = r.dr + r.sh - r.gv
structure Inv (s : Int) (n : Nat) (pl : List Int) (st : CS) : Prop where
  wf : WF st
  size : st.size = n
  stake : st.stake = s
  seat : ∀ i, i < n → SeatOk s n st.now (pl.getD i 0) (st.get i)
  cov : ∀ i ∈ st.line, s * ((n : Int) - ((st.now : Int) + st.due + st.line.idxOf i)) ≤ (st.get i).pl
  c1 : st.chest = tot n fun i => (st.get i).gv - (st.get i).dr - (st.get i).sh
  c2 : st.chest = s * ((n : Int) * (tot n (fellI st) - st.due) - tot n (fellT st))
  c0 : 0 ≤ st.chest
section
variable {st : CS} {paid : List Bool} {bids : List Int} {i n : Nat} {s : Int} {pl : List Int}
end

end Su
namespace Su
open PySem L2
local macro_rules | `(tactic| walk_at "side") => `(tactic| first | assumption | (show (0 : Int) < _; omega) | (show (0 : Int) ≤ _; omega) | (show (0 : Int) < _; split <;> omega) | (show _ ∨ _; omega) | (show _ ∧ _; omega) | exact ⟨by decide, by decide, by decide⟩ | exact ⟨by first | assumption | omega, by first | assumption | omega⟩)
local macro_rules | `(tactic| walk_at "x") => `(tactic| first
  | with_reducible refine Su.x_seq ?_ | with_reducible refine Su.x_asg ?_ | with_reducible refine Su.x_gname ?_ | with_reducible refine Su.x_drop ?_ | with_reducible refine Su.x_ret ?_ | with_reducible refine Su.x_ifS ?_
  | ((with_reducible show L2.tVar _ _ _ _); refine Su.x_var rfl ?_) | with_reducible refine Su.x_c ?_ | with_reducible refine Su.x_op ?_ | with_reducible refine Su.x_rI0 ?_ | ((with_reducible refine Su.x_rI ?_ ?_); focus walk_at "side")
  | ((with_reducible show L2.rIxL _ (L2.V.ref _) (L2.V.int _) _ _); refine Su.x_ixI (by assumption) (by first | decide | omega) (by omega) ?_) | with_reducible refine Su.x_isi_int_int ?_ | with_reducible refine Su.x_isi_int_bool ?_ | with_reducible refine Su.x_isi_int_str ?_ | with_reducible refine Su.x_isi_int_list ?_ | with_reducible refine Su.x_isi_int_tuple ?_ | with_reducible refine Su.x_isi_bool_int ?_ | with_reducible refine Su.x_isi_bool_bool ?_ | with_reducible refine Su.x_isi_bool_str ?_ | with_reducible refine Su.x_isi_bool_list ?_ | with_reducible refine Su.x_isi_bool_tuple ?_ | with_reducible refine Su.x_isi_str_int ?_ | with_reducible refine Su.x_isi_str_bool ?_ | with_reducible refine Su.x_isi_str_str ?_ | with_reducible refine Su.x_isi_str_list ?_ | with_reducible refine Su.x_isi_str_tuple ?_ | with_reducible refine Su.x_isi_NoneType_int ?_ | with_reducible refine Su.x_isi_NoneType_bool ?_ | with_reducible refine Su.x_isi_NoneType_str ?_ | with_reducible refine Su.x_isi_NoneType_list ?_ | with_reducible refine Su.x_isi_NoneType_tuple ?_ | with_reducible refine Su.x_rGt ?_ | with_reducible refine Su.x_rGe ?_ | with_reducible refine Su.x_iteF ?_ | with_reducible refine Su.x_iteT ?_ | with_reducible refine Su.x_iteNT ?_ | with_reducible refine Su.x_iteNF ?_ | with_reducible refine Su.x_eqI ?_ | with_reducible refine Su.x_neI ?_ | with_reducible refine Su.x_eqS ?_ | with_reducible refine Su.x_neS ?_ | with_reducible refine Su.x_eqB ?_ | with_reducible refine Su.x_neB ?_
  | with_reducible refine Su.x_test ?_ | with_reducible refine Su.x_tB ?_ | with_reducible refine Su.x_isB ?_ | with_reducible refine Su.x_isB' ?_ | with_reducible refine Su.x_not ?_ | with_reducible refine Su.x_and ?_ | with_reducible refine Su.x_or ?_
  | with_reducible refine Su.x_andV ?_ | with_reducible refine Su.x_orV ?_ | with_reducible refine Su.x_notV ?_ | with_reducible refine Su.x_chain ?_ | with_reducible refine Su.x_nil ?_ | with_reducible refine Su.x_cons ?_ | with_reducible refine Su.x_cb ?_ | with_reducible refine Su.x_call ?_
  | with_reducible refine Su.x_un ?_ | with_reducible refine Su.x_rU ?_ | with_reducible refine Su.x_abs ?_ | with_reducible refine Su.x_max2 ?_ | with_reducible refine Su.x_min2 ?_ | with_reducible refine Su.x_int1 ?_ | with_reducible refine Su.x_intB ?_
  | with_reducible refine Su.x_lst ?_ | with_reducible refine Su.x_tup ?_ | with_reducible refine Su.x_bmL ?_ | with_reducible refine Su.x_next ?_ | with_reducible refine Su.x_for ?_ | with_reducible refine Su.x_iList ?_ | with_reducible refine Su.x_iRng1 ?_ | with_reducible refine Su.x_iRng2 ?_ | with_reducible refine Su.x_whileN ?_ | with_reducible refine Su.x_iEnum ?_ | with_reducible refine Su.x_iZip ?_ | with_reducible refine Su.x_iZipA ?_ | with_reducible refine Su.x_iTup ?_ | with_reducible refine Su.x_gcons ?_ | with_reducible refine Su.x_gnil ?_ | with_reducible refine Su.x_gsub ?_ | with_reducible refine Su.x_yes ?_ | with_reducible refine Su.x_lc ?_ | with_reducible refine Su.x_sl ?_ | with_reducible refine Su.x_nopart ?_ | with_reducible refine Su.x_part ?_ | with_reducible refine Su.x_isI ?_ | with_reducible refine Su.x_lstRg ?_ | with_reducible refine Su.x_rg1 ?_ | with_reducible refine Su.x_augS ?_ | with_reducible refine Su.x_ipI ?_ | ((with_reducible show L2.tAug _ _ _ _ _ _); refine Su.x_aug rfl ?_) | with_reducible refine Su.x_callS ?_ | with_reducible refine Su.x_tryAs ?_)
local macro_rules | `(tactic| walk_at "xs") => `(tactic| repeat walk_at "x")
local macro_rules | `(tactic| walk_at "if") => `(tactic| first | with_reducible refine Su.x_iteD (fun c => ?_) (fun c => ?_) | with_reducible refine Su.x_iteN (fun c => ?_) (fun c => ?_) | with_reducible refine Su.x_ite (fun c => ?_) (fun c => ?_))
local macro_rules | `(tactic| walk_at "x") => `(tactic| first | with_reducible refine Su.x_m1 ?_ | with_reducible refine Su.x_strE ?_ | with_reducible refine Su.x_m0 ?_ | with_reducible refine Su.x_dnew ?_ | with_reducible refine Su.x_dput ?_ | with_reducible refine Su.x_dgetE ?_ | with_reducible refine Su.x_dget2 ?_ | with_reducible refine Su.x_daug ?_ | with_reducible refine Su.x_din ?_ | with_reducible refine Su.x_dnin ?_ | with_reducible refine Su.x_brk ?_ | with_reducible refine Su.x_retN ?_)
local macro_rules | `(tactic| walk_at "at") => `(tactic| first | assumption | (refine Su.f_at (by assumption) ?_; walk_at "at"))
local macro_rules | `(tactic| walk_at "sm") => `(tactic| first | assumption | exact L2.Same.refl _ | (refine Su.f_tr (by assumption) ?_; walk_at "sm"))
local macro_rules | `(tactic| walk_at "hp") => `(tactic| first | assumption | ((with_reducible refine Su.f_sqL ?_); walk_at "at") | ((with_reducible refine Su.f_sqT ?_); walk_at "at") | ((with_reducible show L2.Same _ _); walk_at "sm") | ((with_reducible show _ = none); refine Su.f_free ?_ (by assumption); walk_at "sm") | ((with_reducible show _ = some _); walk_at "at") | (refine Su.f_dp (by assumption) ?_; walk_at "hp") | (refine Su.f_dpA (by assumption) ?_; walk_at "hp") | (refine Su.f_sqLs (by assumption) ?_; walk_at "hp") | (refine Su.f_sqTs (by assumption) ?_; walk_at "hp"))
local macro_rules | `(tactic| walk_at "x") => `(tactic| first | with_reducible refine Su.x_fld ?_ | with_reducible refine Su.x_sfld ?_ | with_reducible refine Su.x_sfldAug ?_ | with_reducible refine Su.x_meth ?_ | with_reducible refine Su.x_methW ?_ | with_reducible refine Su.x_make ?_ | with_reducible refine Su.x_makeW ?_ | with_reducible refine Su.c_stake (by assumption) ?_ | with_reducible refine Su.c_size (by assumption) ?_ | with_reducible refine Su.c_bidding (by assumption) ?_ | with_reducible refine Su.c_now (by assumption) ?_ | with_reducible refine Su.c_line (by assumption) ?_ | with_reducible refine Su.c_due (by assumption) ?_ | with_reducible refine Su.c_chest (by assumption) ?_ | with_reducible refine Su.c_state (by assumption) ?_ | with_reducible refine Su.c_when (by assumption) ?_ | with_reducible refine Su.c_pledged (by assumption) ?_ | with_reducible refine Su.c_given (by assumption) ?_ | with_reducible refine Su.c_drawn (by assumption) ?_ | with_reducible refine Su.c_shared (by assumption) ?_ | with_reducible refine Su.c_missed (by assumption) ?_ | with_reducible refine Su.c_flows (by assumption) ?_)
local macro_rules | `(tactic| walk_at "me") => `(tactic| first | refine Su.c_meth (by assumption) rfl ?_ | refine Su.so_meth (by assumption) rfl ?_)
local macro_rules | `(tactic| walk_at "x") => `(tactic| first | with_reducible refine Su.s_0 (by assumption) ?_ | with_reducible refine Su.s_1 (by assumption) ?_ | with_reducible refine Su.s_2 (by assumption) ?_ | with_reducible refine Su.s_3 (by assumption) ?_ | with_reducible refine Su.s_4 (by assumption) ?_ | with_reducible refine Su.s_5 (by assumption) ?_ | with_reducible refine Su.s_6 (by assumption) ?_ | with_reducible refine Su.s_7 (by assumption) ?_ | with_reducible refine Su.s_8 (by assumption) ?_)
/-! a round by hand: the last one lays, places are exchanged, the round is closed -/
def NN (st : CS) : Prop := ∀ i, i < st.size → (st.get i).st = .waits → 0 ≤ (st.get i).pl
theorem nn_close {st : CS} {paid : List Bool} {bids : List Int} (wf : WF st) (hn : ¬ st.size < st.now) (h : NN st) : NN (closeS st paid bids) := fun i hi hw => by
  rw [closeS_size] at hi
  rw [close_get wf hn hi] at hw ⊢
  rw [new_st] at hw
  have := h i hi
  generalize st.get i = r at hw this ⊢
  unfold newSeat
  by_cases c : r.st = .fell
  · rw [if_pos (.inl c)] at hw; cases hw
  · by_cases c2 : r.st = .waits ∧ paid.getD i false = false
    · rw [if_pos (.inr c2)] at hw; cases hw
    · rw [if_neg (fun z => z.elim c c2)] at hw
      by_cases c3 : (rndS st paid bids).win = some i
      · rw [if_pos c3] at hw; cases hw
      · rw [if_neg c3] at hw
        rw [if_neg c, if_neg c2, if_neg c3]
        have p : ¬ paid.getD i false = false := fun z => c2 ⟨hw, z⟩
        show 0 ≤ if paid.getD i false = false then _ else r.pl
        rw [if_neg p]; exact this hw
theorem hide_app {A B : List Addr} {H : Hp} : Same (hide (A ++ B) H) (hide A H) := fun y u e => by
  have hy : y ∉ A ++ B := fun z => by rw [hide_in z] at e; cases e
  rw [hide_out hy] at e
  rw [hide_out (fun z => hy (List.mem_append_left _ z))]; exact e
theorem hide_app' {A B : List Addr} {H : Hp} : Same (hide (A ++ B) H) (hide B H) := fun y u e => by
  have hy : y ∉ A ++ B := fun z => by rw [hide_in z] at e; cases e
  rw [hide_out hy] at e
  rw [hide_out (fun z => hy (List.mem_append_right _ z))]; exact e
theorem swap_self {st : CS} {x : Nat} (hx : x ∈ st.line) : swapS st x x = st := by
  unfold swapS
  have hp := List.idxOf_lt_length_of_mem hx
  have e : st.line.set (st.line.idxOf x) x = st.line := by
    have h2 : st.line[st.line.idxOf x] = x := List.getElem_idxOf hp
    conv => lhs; rw [show st.line.set (st.line.idxOf x) x = st.line.set (st.line.idxOf x) st.line[st.line.idxOf x] by rw [h2]]
    exact List.set_getElem_self hp
  rw [e, e]
theorem idx_get {l : List Nat} (nd : l.Nodup) {k : Nat} (hk : k < l.length) : l.idxOf l[k] = k := by
  have h := List.idxOf_lt_length_of_mem (List.getElem_mem hk)
  exact nd_inj nd h hk (List.getElem_idxOf h)
section
variable {K : PySem.W.Frag} {H : Hp} {Q : VK} {p : Addr} {l : List Nat}
theorem x_lastN (e : H p = some (.lst (nI l))) (hl : 0 < l.length) (q : Q (.int (l[l.length - 1] : Nat)) H) : rIxL K (.ref p) (.int (-1)) H Q := by
  refine x_ixL (SqL.of e) ?_ q
  unfold atI ixN
  rw [if_neg (by omega), nI_len, if_pos (by omega)]
  show (nI l)[_]? = _
  unfold nI
  rw [show ((-1 : Int) + (l.length : Int)).toNat = l.length - 1 by omega, List.getElem?_map, List.getElem?_eq_getElem (show l.length - 1 < l.length by omega)]; rfl
theorem x_headN (e : H p = some (.lst (nI l))) (hl : 0 < l.length) (q : Q (.int (l[0] : Nat)) H) : rIxL K (.ref p) (.int 0) H Q := by
  refine x_ixL (v := .int (l[0] : Nat)) (SqL.of e) ?_ q
  cases l with
  | nil => simp at hl
  | cons a l => exact at_zero
end
/-- one pair is alike -/
structure Duo (K : PySem.W.Frag) (H : Hp) (a b : Nat → Addr) (n : Nat) (s : Int) (st : CS) : Prop where
  ca : CirAt K H a st
  cb : StAt H b st
  z : st.size = n
  wf : WF st
  nn : NN st
  st_ : st.stake = s
def sp_law_done (K : PySem.W.Frag) : Sp := fun vs H Q _ => ∃ (a b : Nat → Addr) (st : CS) (n : Nat) (s : Int) (p c : Addr) (paid : List Bool) (bids : List Int), vs = [.ref (a 0), .ref (b 0), .ref p, .ref c] ∧ Duo K H a b n s st ∧ (∀ y ∈ stFoot b n, y ∉ cirFoot a n) ∧ SqL K (hide (cirFoot a n ++ stFoot b n) H) p (paid.map V.bl) ∧ SqL K (hide (cirFoot a n ++ stFoot b n) H) c (bids.map V.int) ∧ paid.length = n ∧ bids.length = n ∧ (∀ x ∈ bids, 0 ≤ x ∧ x ≤ s * (n : Int)) ∧
  ∀ (H' : Hp) (st' : CS), Off (cirFoot a n ++ stFoot b n) H H' → Duo K H' a b n s st' → st'.now = (if n < st.now then st.now else st.now + 1) → Q (.bl true) H'
abbrev N_law_done : List Str := ["_law_circle", "_law_state", "_law_paid_here", "_law_bids", "_law_at", "_law_early_here"]
def t_law_done (K : PySem.W.Frag) : TS :=
 (tSeq (tIfS (tTest (tOp rGt (tOp (rIxL K) (tVar 1) (tC (.int 3))) (tOp (rIxL K) (tVar 1) (tC (.int 1)))))
 (tRet (tC (.bl true)))
 tNext)
 (C8.tCut (tIfS (tTest (tOp rGt (tCB (rLenSeq K) (tCons (tOp (rIxL K) (tVar 1) (tC (.int 4))) tNil)) (tC (.int 0))))
 (tSeq (tAsg (tOp (rIxL K) (tOp (rIxL K) (tVar 1) (tC (.int 4))) (tUn rNeg (tC (.int 1)))) (gName 4))
 (tSeq (tDrop (tMeth (He.ga K "Circle") "lay" (sp_Circle_lay K) [] E0 (tVar 0) (tCons (tVar 4) (tCons (tOp rMul (tOp (rIxL K) (tVar 1) (tC (.int 0))) (tOp (rIxL K) (tVar 1) (tC (.int 1)))) tNil))))
 (tSeq (tAugS (tOp (rIxL K) (tOp (rIxL K) (tVar 1) (tC (.int 7))) (tVar 4)) (tC (.int 2)) (tOp rMul (tOp (rIxL K) (tVar 1) (tC (.int 0))) (tOp (rIxL K) (tVar 1) (tC (.int 1)))) (rIxL K) (ipI fun i j => i + j) rSetL)
 (tSeq (tAsg (tCall (sp_law_early K) [] E0 (tCons (tOp (rIxL K) (tVar 1) (tC (.int 0))) (tCons (tOp (rIxL K) (tVar 1) (tC (.int 1))) (tCons (tOp (rIxL K) (tOp (rIxL K) (tOp (rIxL K) (tVar 1) (tC (.int 7))) (tOp (rIxL K) (tOp (rIxL K) (tVar 1) (tC (.int 4))) (tC (.int 0)))) (tC (.int 2))) tNil)))) (gName 5))
 (tSeq (tDrop (tMeth (He.ga K "Circle") "swap" (sp_Circle_swap K) [] E0 (tVar 0) (tCons (tVar 4) (tCons (tVar 4) tNil))))
 (tIfS (tTest (tOp rLe (tVar 5) (tOp rSub (tOp rAdd (tOp rAdd (tOp (rIxL K) (tVar 1) (tC (.int 3))) (tOp (rIxL K) (tVar 1) (tC (.int 5)))) (tCB (rLenSeq K) (tCons (tOp (rIxL K) (tVar 1) (tC (.int 4))) tNil))) (tC (.int 1)))))
 (tSeq (tDrop (tMeth (He.ga K "Circle") "swap" (sp_Circle_swap K) [] E0 (tVar 0) (tCons (tVar 4) (tCons (tOp (rIxL K) (tOp (rIxL K) (tVar 1) (tC (.int 4))) (tC (.int 0))) tNil))))
 (tSeq (tAsg (tOp (rIxL K) (tOp (rIxL K) (tVar 1) (tC (.int 4))) (tC (.int 0))) (gSub (tOp (rIxL K) (tVar 1) (tC (.int 4))) (tUn rNeg (tC (.int 1))) rSetL))
 (tAsg (tVar 4) (gSub (tOp (rIxL K) (tVar 1) (tC (.int 4))) (tC (.int 0)) rSetL))))
 tNext))))))
 tNext)
 (tRet (tCall (sp_law_same K) [] E0 (tCons (tMeth (He.ga K "Circle") "close" (sp_Circle_close K) [] E0 (tVar 0) (tCons (tVar 2) (tCons (tVar 3) tNil))) (tCons (tCall (sp_law_round K) [] E0 (tCons (tVar 1) (tCons (tVar 2) (tCons (tVar 3) tNil)))) tNil))))))

theorem len_law_done {K : PySem.W.Frag} : ∀ vs H Q E, sp_law_done K vs H Q E → vs.length = ["a", "b", "c", "d"].length := by
  rintro vs H Q E ⟨_, _, _, _, _, _, _, _, _, rfl, _⟩; rfl
theorem pure_law_done {K : PySem.W.Frag} {vs : List V} {H : Hp} {Q : VK} {E : XK} (h : sp_law_done K vs H Q E) : t_law_done K { nx := fun _ H' => Q .non H', rt := Q } (start N_law_done vs) H := by
  obtain ⟨a, b, st, n, s, p, c, paid, bids, rfl, D0, dj, hp, hc, pl, bl, bok, k⟩ := h
  have wf := D0.wf
  have z := D0.z
  have zs := D0.st_
  have n1 := wf.n1
  have n2 := wf.n2
  have s1 := wf.s1
  have s2 := wf.s2
  have ca := D0.ca
  have cb := D0.cb
  have mA : ∀ {X Y : Hp}, Off (cirFoot a n) X Y → Off (cirFoot a n ++ stFoot b n) X Y := fun o => o.mono fun y hy => List.mem_append_left _ hy
  have mB : ∀ {X Y : Hp}, Off (stFoot b n) X Y → Off (cirFoot a n ++ stFoot b n) X Y := fun o => o.mono fun y hy => List.mem_append_right _ hy
  unfold t_law_done
  walk_at "xs"
  walk_at "if"
  · rename_i c1
    walk_at "xs"
    exact k H st Off.refl D0 (by rw [if_pos (by omega)])
  rename_i c1
  have nn : ¬ st.size < st.now := by omega
  walk_at "xs"
  refine x_cut (fun σ H' => ∃ (u4 u5 : Option V) (st2 : CS), σ = [some (.ref (a 0)), some (.ref (b 0)), some (.ref p), some (.ref c), u4, u5] ∧ Off (cirFoot a n ++ stFoot b n) H H' ∧ Duo K H' a b n s st2 ∧ st2.now = st.now) ?_ ?_
  · have hln : H (b 1) = some (.lst (nI st.line)) := cb.at_ 1 (by omega)
    walk_at "xs"
    refine x_lenL (SqL.of hln) ?_
    rw [nI_len]
    walk_at "xs"
    walk_at "if"
    · rename_i c2
      have hl : 0 < st.line.length := by omega
      have xm : st.line[st.line.length - 1] ∈ st.line := List.getElem_mem _
      have hm0 : st.line[0] ∈ st.line := List.getElem_mem _
      have xw := (wf.mem _).mp xm
      have hw0 := (wf.mem _).mp hm0
      have ix := idx_get wf.nd (show st.line.length - 1 < st.line.length by omega)
      have i0 := idx_get wf.nd hl
      walk_at "xs"
      refine x_lastN hln hl ?_
      generalize hx : st.line[st.line.length - 1] = x at xm xw ix
      generalize hh : st.line[0] = h0 at hm0 hw0 i0
      have cm : 1 ≤ st.stake * (st.size : Int) ∧ st.stake * (st.size : Int) ≤ 1000000000 := by
        have a1 := Int.mul_le_mul_of_nonneg_left (show (1 : Int) ≤ st.size by omega) (show 0 ≤ st.stake by omega)
        have a2 := Int.mul_le_mul (show st.stake ≤ 1000000 by omega) (show (st.size : Int) ≤ 20 by omega) (by omega) (by omega)
        omega
      walk_at "xs"
      walk_at "me"
      walk_at "xs"
      refine ⟨a, st, (x : Int), _, rfl, ca, fun q => absurd ⟨by omega, by omega⟩ q, fun _ _ q => absurd q nn, fun _ _ _ q => absurd cm q, fun _ _ _ _ _ H1 o1 ca1 => ?_⟩
      rw [z] at o1
      rw [Int.toNat_natCast] at ca1
      have cb1 : StAt H1 b st := cb.off o1 (by rw [z]; exact dj)
      walk_at "xs"
      refine s_seats cb1 rfl xw.1 ?_
      walk_at "xs"
      refine x_ixL (v := .int (st.get x).pl) (SqL.of (s_seat cb1 xw.1)) (by rfl) ?_
      walk_at "xs"
      refine v_seat (k := 2) (f := fun r => { r with pl := r.pl + st.stake * (st.size : Int) }) cb1 z (by omega) (by decide) (fun _ => rfl) (by rfl) fun H2 st1 o2 cb2 z1 e1 => ?_
      have e1 : st1 = layS st x (st.stake * (st.size : Int)) := e1
      rw [← e1] at ca1
      have ca2 : CirAt K H2 a st1 := ca1.off o2 (by rw [z1]; exact fun y hy hz => dj y hz hy)
      have wf1 : WF st1 := by rw [e1]; exact wf_mod wf xw.1 (fun _ => rfl) (fun _ => rfl) (fun _ => rfl)
      have g1 : ∀ j, st1.get j = if x = j then { st.get j with pl := (st.get j).pl + st.stake * (st.size : Int) } else st.get j := fun j => by rw [e1]; exact getD_mod xw.1
      have nn1 : NN st1 := fun i hi hw => by
        rw [g1] at hw ⊢
        rw [z1, ← z] at hi
        split at hw
        · rename_i q
          rw [if_pos q]
          have := D0.nn i hi hw
          show 0 ≤ (st.get i).pl + _
          omega
        · rename_i q
          rw [if_neg q]; exact D0.nn i hi hw
      have l1 : st1.line = st.line := by rw [e1]; rfl
      have w1 : st1.now = st.now := by rw [e1]; rfl
      have d1 : st1.due = st.due := by rw [e1]; rfl
      have k1 : st1.stake = st.stake := by rw [e1]; rfl
      have sz1 : st1.size = st.size := by omega
      have xw1 : (st1.get x).st = .waits := by rw [g1, if_pos rfl]; exact xw.2
      have hw1 : (st1.get h0).st = .waits := by rw [g1]; split; exact hw0.2; exact hw0.2
      have xf : firstCov st1.stake st1.size (st1.get x).pl = 1 := by
        rw [g1, if_pos rfl, k1, sz1]
        have p0 := D0.nn x xw.1 xw.2
        have : (st.size : Int) ≤ ((st.get x).pl + st.stake * (st.size : Int)) / st.stake := by
          rw [Int.le_ediv_iff_mul_le (by omega), Int.mul_comm]; omega
        unfold firstCov
        show (if (st.size : Int) - ((st.get x).pl + st.stake * (st.size : Int)) / st.stake < 1 then 1 else _) = _
        rw [if_pos (by omega)]
      have exx : expS st1 x = (st.now : Int) + st.due + ((st.line.length - 1 : Nat) : Int) := by unfold expS; rw [if_pos xw1, w1, d1, l1, ix]
      have ex0 : expS st1 h0 = (st.now : Int) + st.due + ((0 : Nat) : Int) := by unfold expS; rw [if_pos hw1, w1, d1, l1, i0]
      have now1 := wf.now1
      have o02 : Off (cirFoot a n ++ stFoot b n) H H2 := (mA o1).trans (mB o2)
      have hln2 : H2 (b 1) = some (.lst (nI st.line)) := by rw [← l1]; exact cb2.at_ 1 (by omega)
      have xm1 : x ∈ st1.line := by rw [l1]; exact xm
      have hm1 : h0 ∈ st1.line := by rw [l1]; exact hm0
      walk_at "xs"
      refine x_headN hln2 hl ?_
      rw [hh]
      walk_at "xs"
      refine s_seats cb2 rfl (by omega) ?_
      walk_at "xs"
      refine x_ixL (v := .int (st1.get h0).pl) (SqL.of (s_seat cb2 (by omega))) (by rfl) ?_
      walk_at "xs"
      refine ⟨st1.stake, st1.size, (st1.get h0).pl, rfl, by omega, by omega, ?_⟩
      walk_at "xs"
      walk_at "me"
      walk_at "xs"
      refine ⟨a, st1, x, x, rfl, ca2, by omega, by omega, fun m hm hw => (wf1.mem m).mpr ⟨hm, hw⟩, fun q => absurd ⟨⟨by omega, by omega⟩, by omega, by omega⟩ q, fun m1 m2 em1 em2 _ _ => ?_⟩
      obtain rfl : x = m1 := by omega
      obtain rfl : x = m2 := by omega
      refine ⟨fun q => absurd q (by omega), fun _ q => absurd q (fun q => q.elim (fun q => q xw1) fun q => q xw1), fun _ _ _ q => absurd ⟨by rw [xf, exx]; omega, by rw [xf, exx]; omega⟩ q, fun _ _ _ _ H3 o3 ca3 => ?_⟩
      rw [z1] at o3
      rw [swap_self xm1] at ca3
      have cb3 : StAt H3 b st1 := cb2.off o3 (by rw [z1]; exact dj)
      have o03 := o02.trans (mA o3)
      have hln3 : H3 (b 1) = some (.lst (nI st.line)) := by rw [← l1]; exact cb3.at_ 1 (by omega)
      walk_at "xs"
      refine x_lenL (SqL.of hln3) ?_
      rw [nI_len]
      walk_at "xs"
      walk_at "if"
      · rename_i c3
        walk_at "xs"
        walk_at "me"
        walk_at "xs"
        refine x_headN hln3 hl ?_
        rw [hh]
        walk_at "xs"
        refine ⟨a, st1, x, h0, rfl, ca3, by omega, by omega, fun m hm hw => (wf1.mem m).mpr ⟨hm, hw⟩, fun q => absurd ⟨⟨by omega, by omega⟩, by omega, by omega⟩ q, fun m1 m2 em1 em2 _ _ => ?_⟩
        obtain rfl : x = m1 := by omega
        obtain rfl : h0 = m2 := by omega
        refine ⟨fun q => absurd q (by omega), fun _ q => absurd q (fun q => q.elim (fun q => q xw1) fun q => q hw1), fun _ _ _ q => absurd ⟨by rw [xf, ex0]; omega, by rw [exx]; omega⟩ q, fun _ _ _ _ H4 o4 ca4 => ?_⟩
        rw [z1] at o4
        have cb4 : StAt H4 b st1 := cb3.off o4 (by rw [z1]; exact dj)
        have hln4 : H4 (b 1) = some (.lst (nI st.line)) := by rw [← l1]; exact cb4.at_ 1 (by omega)
        walk_at "xs"
        refine x_headN hln4 hl ?_
        rw [hh]
        walk_at "xs"
        refine ⟨b 1, nI st.line, -1, st.line.length - 1, rfl, rfl, hln4, by unfold ixN; rw [if_neg (by omega), nI_len, if_pos (by omega), show ((-1 : Int) + (st.line.length : Int)).toNat = st.line.length - 1 by omega], ?_⟩
        have es : (nI st.line).set (st.line.length - 1) (.int (h0 : Int)) = nI (st.line.set (st.line.length - 1) h0) := by unfold nI; rw [List.map_set]
        rw [es]
        have cb5 := cb4.set_line (l := st.line.set (st.line.length - 1) h0)
        have o5 : Off (stFoot b n) H4 (upd H4 (b 1) (.lst (nI (st.line.set (st.line.length - 1) h0)))) := Off.refl.upd (mem_sfoot (by omega))
        have hln5 : upd H4 (b 1) (.lst (nI (st.line.set (st.line.length - 1) h0))) (b 1) = some (.lst (nI (st.line.set (st.line.length - 1) h0))) := upd_same
        generalize upd H4 (b 1) (.lst (nI (st.line.set (st.line.length - 1) h0))) = H5 at cb5 o5 hln5 ⊢
        walk_at "xs"
        refine x_setL hln5 (by decide) (by rw [nI_len, List.length_set]; omega) ?_
        have es2 : (nI (st.line.set (st.line.length - 1) h0)).set (Int.toNat 0) (.int (x : Int)) = nI ((st.line.set (st.line.length - 1) h0).set 0 x) := by unfold nI; rw [List.map_set, List.map_set, List.map_set]; rfl
        rw [es2]
        have cb6 := cb5.set_line (l := (st.line.set (st.line.length - 1) h0).set 0 x)
        have o6 : Off (stFoot b n) H5 (upd H5 (b 1) (.lst (nI ((st.line.set (st.line.length - 1) h0).set 0 x)))) := Off.refl.upd (mem_sfoot (by omega))
        generalize upd H5 (b 1) (.lst (nI ((st.line.set (st.line.length - 1) h0).set 0 x))) = H6 at cb6 o6 ⊢
        have esw : swapS st1 x h0 = { st1 with line := (st.line.set (st.line.length - 1) h0).set 0 x } := by unfold swapS; rw [l1, ix, i0]
        have cb6 : StAt H6 b (swapS st1 x h0) := by rw [esw]; exact cb6
        have ca6 : CirAt K H6 a (swapS st1 x h0) := (ca4.off o5 (by show ∀ y ∈ cirFoot a st1.size, y ∉ _; rw [z1]; exact fun y hy hz => dj y hz hy)).off o6 (by show ∀ y ∈ cirFoot a st1.size, y ∉ _; rw [z1]; exact fun y hy hz => dj y hz hy)
        exact ⟨_, _, swapS st1 x h0, rfl, ((o03.trans (mA o4)).trans (mB o5)).trans (mB o6), ⟨ca6, cb6, z1, wf_swap wf1 xm1 hm1, nn1, by show st1.stake = s; omega⟩, w1⟩
      · walk_at "xs"
        exact ⟨_, _, st1, rfl, o03, ⟨ca3, cb3, z1, wf1, nn1, by omega⟩, w1⟩
    · walk_at "xs"
      exact ⟨_, _, st, rfl, Off.refl, D0, rfl⟩
  · rintro σ H1 ⟨u4, u5, st2, rfl, o1, D1, hn⟩
    have z2 := D1.z
    have ca2 := D1.ca
    have nn2 : ¬ st2.size < st2.now := by omega
    have hp1 := o1.hide.seq hp
    have hc1 := o1.hide.seq hc
    have k2 := D1.st_
    walk_at "xs"
    walk_at "me"
    walk_at "xs"
    have rok : RoundOk st2 paid.length bids := ⟨by omega, by omega, fun x hx => by rw [k2, z2]; exact bok x hx⟩
    refine ⟨a, st2, p, c, paid, bids, rfl, ca2, D1.wf, by rw [z2]; exact hide_app.seq hp1, by rw [z2]; exact hide_app.seq hc1, fun q => absurd q nn2, fun _ q => absurd rok q, fun _ _ r t1 t2 H3 nr n1' n2' o3 c3 rep => ?_⟩
    rw [z2] at o3
    have cb3 : StAt H3 b st2 := D1.cb.off o3 (by rw [z2]; exact dj)
    have hp3 := (mA o3).hide.seq hp1
    have hc3 := (mA o3).hide.seq hc1
    walk_at "xs"
    refine ⟨b, st2, p, c, paid, bids, rfl, cb3, D1.wf, nn2, by rw [z2]; exact hide_app'.seq hp3, by rw [z2]; exact hide_app'.seq hc3, by omega, by omega, fun r2 t3 t4 H4 nr2 n3 n4 o4 c4 rep2 => ?_⟩
    rw [z2] at o4
    have zc : (closeS st2 paid bids).size = n := closeS_size.trans z2
    have ca4 : CirAt K H4 a (closeS st2 paid bids) := c3.off o4 (by rw [zc]; exact fun y hy hz => dj y hz hy)
    have out : ∀ {y : Addr}, H1 y = none → y ∉ stFoot b n := fun {y} e => by have := D1.cb.fresh e; rwa [z2] at this
    have rep' : RepAt H4 r t1 t2 (repS st2 paid bids) := ⟨o4 _ _ (out nr) rep.r, o4 _ _ (out n1') rep.f, o4 _ _ (out n2') rep.h, rep.ne⟩
    walk_at "xs"
    refine x_sameSelf (E := E0) (good_repS D1.wf) (by decide) (dp_rep rep') (dp_rep rep2) fun H5 q5 => ?_
    refine k H5 _ (((o1.trans (mA o3)).trans (mB o4)).trans (Off.of q5)) ⟨ca4.same q5, c4.same q5, zc, wf_close D1.wf nn2, nn_close D1.wf nn2 D1.nn, closeS_stake.trans k2⟩ ?_
    rw [closeS_now, hn, if_neg (by omega)]

end Su
namespace Su
open PySem L2
local macro_rules | `(tactic| walk_at "side") => `(tactic| first | assumption | (show (0 : Int) < _; omega) | (show (0 : Int) ≤ _; omega) | (show (0 : Int) < _; split <;> omega) | (show _ ∨ _; omega) | (show _ ∧ _; omega) | exact ⟨by decide, by decide, by decide⟩ | exact ⟨by first | assumption | omega, by first | assumption | omega⟩)
local macro_rules | `(tactic| walk_at "x") => `(tactic| first | with_reducible refine Su.x_seq ?_ | with_reducible refine Su.x_asg ?_ | with_reducible refine Su.x_gname ?_ | with_reducible refine Su.x_drop ?_ | with_reducible refine Su.x_ret ?_ | with_reducible refine Su.x_ifS ?_ | ((with_reducible show L2.tVar _ _ _ _); refine Su.x_var rfl ?_) | with_reducible refine Su.x_c ?_ | with_reducible refine Su.x_op ?_ | with_reducible refine Su.x_rI0 ?_ | ((with_reducible refine Su.x_rI ?_ ?_); focus walk_at "side") | with_reducible refine Su.x_rGt ?_ | with_reducible refine Su.x_test ?_ | with_reducible refine Su.x_isB' ?_ | with_reducible refine Su.x_and ?_ | with_reducible refine Su.x_nil ?_ | with_reducible refine Su.x_cons ?_ | with_reducible refine Su.x_cb ?_ | with_reducible refine Su.x_abs ?_ | with_reducible refine Su.x_lst ?_ | with_reducible refine Su.x_bmL ?_ | with_reducible refine Su.x_for ?_ | with_reducible refine Su.x_iList ?_ | with_reducible refine Su.x_whileN ?_)
local macro_rules | `(tactic| walk_at "xs") => `(tactic| repeat walk_at "x")
local macro_rules | `(tactic| walk_at "if") => `(tactic| first | with_reducible refine Su.x_iteD (fun c => ?_) (fun c => ?_) | with_reducible refine Su.x_iteN (fun c => ?_) (fun c => ?_) | with_reducible refine Su.x_ite (fun c => ?_) (fun c => ?_))

/-! _law_draws -/
def sp_law_draws (K : PySem.W.Frag) : Sp := fun vs H Q _ => ∃ (a : Addr) (ns : List Int) (many : Nat), vs = [.ref a, .int many] ∧ SqL K H a (ns.map V.int) ∧ ns.length ≤ 63 ∧ many ≤ 1000 ∧
  ∀ (p : Addr) (rows : List Int) (H' : Hp), H p = none → Same H H' → H' p = some (.lst (rows.map V.int)) → many ≤ rows.length → rows.length ≤ 2000 → (∀ x ∈ rows, -(10 ^ 18) < x ∧ x < 10 ^ 18) → Q (.ref p) H'
abbrev N_law_draws : List Str := ["_law_script", "_law_many", "_law_rows", "_law_mix", "_law_cell", "_law_rest"]
def t_law_draws (K : PySem.W.Frag) : TS :=
 (tSeq (tAsg (tLst tNil) (gName 2))
 (tSeq (tAsg (tC (.int 1)) (gName 3))
 (tSeq (tFor (iList K (tVar 0)) (gName 4)
 (tSeq (tAsg (tOp rMod (tOp rAdd (tOp rMul (tVar 3) (tC (.int 31))) (tVar 4)) (tC (.int 2147483647))) (gName 3))
 (tSeq (tAsg (tCB rAbs (tCons (tVar 4) tNil)) (gName 5))
 (C8.tCut (tIfS (tTest (tOp rLt (tVar 5) (tOp rPow (tC (.int 10)) (tC (.int 18)))))
 (tSeq (tDrop (tBM K "list" rAppend (tVar 2) (tCons (tVar 4) tNil)))
 (tAsg (tC (.int 0)) (gName 5)))
 tNext)
 (tWhile (tAnd (tTest (tOp rGt (tVar 5) (tC (.int 0)))) (tTest (tOp rLt (tCB (rLenSeq K) (tCons (tVar 2) tNil)) (tVar 1))))
 (tSeq (tDrop (tBM K "list" rAppend (tVar 2) (tCons (tOp rMod (tVar 5) (tC (.int 1000003))) tNil)))
 (tAsg (tOp rDiv (tVar 5) (tC (.int 1000003))) (gName 5))))))))
 (tSeq (tWhile (tTest (tOp rLt (tCB (rLenSeq K) (tCons (tVar 2) tNil)) (tVar 1)))
 (tSeq (tAsg (tOp rMod (tOp rAdd (tOp rMul (tVar 3) (tC (.int 48271))) (tC (.int 11))) (tC (.int 2147483647))) (gName 3))
 (tDrop (tBM K "list" rAppend (tVar 2) (tCons (tOp rMod (tOp rMul (tVar 3) (tVar 3)) (tC (.int 999983))) tNil)))))
 (tRet (tVar 2))))))

theorem len_law_draws {K : PySem.W.Frag} : ∀ vs H Q E, sp_law_draws K vs H Q E → vs.length = ["_law_script", "_law_many"].length := by
  rintro vs H Q E ⟨s, n, p, rfl, _⟩; rfl
structure DrawSt (H : Hp) (p : Addr) (rows : List Int) (H' : Hp) : Prop where
  s : Same H H'
  o : H' p = some (.lst (rows.map V.int))
  b : ∀ x ∈ rows, -(10 ^ 18) < x ∧ x < 10 ^ 18
theorem DrawSt.push {H : Hp} {p : Addr} {rows : List Int} {H' : Hp} (h : DrawSt H p rows H') (np : H p = none) {x : Int} (hx : -(10 ^ 18) < x ∧ x < 10 ^ 18) : DrawSt H p (rows ++ [x]) (upd H' p (.lst (rows.map V.int ++ [.int x]))) where
  s := fun b o e => by rw [upd_ne (ne_of_none e np)]; exact h.s b o e
  o := by rw [upd_same, List.map_append]; rfl
  b := fun y hy => by
    rcases List.mem_append.mp hy with q | q
    · exact h.b y q
    · cases List.mem_singleton.mp q; exact hx
theorem pure_law_draws {K : PySem.W.Frag} {vs : List V} {H : Hp} {Q : VK} {E : XK} (h : sp_law_draws K vs H Q E) : t_law_draws K { nx := fun _ H' => Q .non H', rt := Q } (start N_law_draws vs) H := by
  obtain ⟨a, ns, many, rfl, hS, hl, hm, k⟩ := h
  unfold t_law_draws
  walk_at "xs"
  refine ⟨by decide, fun p np => ?_⟩
  walk_at "xs"
  refine ⟨a, rfl, ⟨_, Same.seq (H := H) (fun b o e => by rw [upd_ne (ne_of_none e np)]; exact e) hS⟩, for_list (K := K) (a := a) (xs := ns.map V.int) (fun i σ H' => ∃ (rows : List Int) (mix : Int) (u v : Option V),
      σ = [some (.ref a), some (.int many), some (.ref p), some (.int mix), u, v] ∧ DrawSt H p rows H' ∧ rows.length ≤ i + many ∧ 0 ≤ mix ∧ mix < 2147483647)
    ⟨[], 1, none, none, rfl, ⟨fun b o e => by rw [upd_ne (ne_of_none e np)]; exact e, upd_same, fun _ h => nomatch h⟩, by simp, by decide, by decide⟩ (fun i σ H' _ ⟨_, _, _, _, _, d, _⟩ => d.s.seq hS) ?_ ?_⟩
  · rintro i y σ H1 hi ⟨rows, mix, u, v, rfl, d, hr, m0, m1⟩
    obtain ⟨z, rfl⟩ : ∃ z, y = V.int z := by
      rw [List.getElem?_map] at hi
      cases e : ns[i]? with
      | none => rw [e] at hi; cases hi
      | some z => rw [e] at hi; exact ⟨z, (Option.some.inj hi).symm⟩
    have hil : i < ns.length := by
      have := (List.getElem?_eq_some_iff.mp hi).1
      rwa [List.length_map] at this
    have hq : (0 : Int) ≤ (mix * 31 + z) % 2147483647 ∧ (mix * 31 + z) % 2147483647 < 2147483647 := ⟨Int.emod_nonneg _ (by decide), Int.emod_lt_of_pos _ (by decide)⟩
    -- the while, from any state
    have loop : ∀ (D : Ends) (rows : List Int) (rest : Int) (u : Option V) (H2 : Hp), DrawSt H p rows H2 → 0 ≤ rest → rows.length ≤ i + 1 + many → 
        (∀ rows' rest' H3, DrawSt H p rows' H3 → rows'.length ≤ i + 1 + many → D.nx [some (.ref a), some (.int many), some (.ref p), some (.int ((mix * 31 + z) % 2147483647)), u, some (.int rest')] H3) →
        tWhile (tAnd (tTest (tOp rGt (tVar 5) (tC (V.int 0)))) (tTest (tOp rLt (tCB (rLenSeq K) (tCons (tVar 2) tNil)) (tVar 1))))
            (tSeq (tDrop (tBM K "list" rAppend (tVar 2) (tCons (tOp rMod (tVar 5) (tC (V.int 1000003))) tNil)))
              (tAsg (tOp rDiv (tVar 5) (tC (V.int 1000003))) (gName 5))) D [some (.ref a), some (.int many), some (.ref p), some (.int ((mix * 31 + z) % 2147483647)), u, some (.int rest)] H2 := by
      intro D rows rest u H2 d h0 hr kk
      refine ⟨fun m σ H2 => ∃ rows rest, σ = [some (.ref a), some (.int many), some (.ref p), some (.int ((mix * 31 + z) % 2147483647)), u, some (.int rest)] ∧ DrawSt H p rows H2 ∧ 0 ≤ rest ∧ rows.length ≤ i + 1 + many ∧ m = rest.toNat, ⟨_, rows, rest, rfl, d, h0, hr, rfl⟩, ?_⟩
      rintro m σ H2 ⟨rows, rest, rfl, d, h0, hr, rfl⟩
      walk_at "xs"
      walk_at "if"
      · walk_at "xs"
        refine x_lenL (SqL.of d.o) ?_
        walk_at "xs"
        walk_at "if"
        · rename_i c1 c2
          have c2' : rows.length < many := by rw [List.length_map] at c2; exact Int.ofNat_lt.mp c2
          walk_at "xs"
          refine ⟨tyL (SqL.of d.o), ?_⟩
          walk_at "xs"
          refine x_append d.o (small (by rw [List.length_map]; omega)) ?_
          have b0 := Int.emod_nonneg rest (show (1000003 : Int) ≠ 0 by decide)
          have b1 := Int.emod_lt_of_pos rest (show (0 : Int) < 1000003 by decide)
          walk_at "xs"
          exact ⟨_, by show (rest / 1000003).toNat < rest.toNat; omega, rows ++ [rest % 1000003], rest / 1000003, rfl, d.push np ⟨by omega, by omega⟩, by omega, by rw [List.length_append]; simp; omega, rfl⟩
        · exact kk rows rest H2 d hr
      · exact kk rows rest H2 d hr
    walk_at "xs"
    refine x_cut (fun σ H2 => ∃ (rows : List Int) (rest : Int), σ = [some (.ref a), some (.int many), some (.ref p), some (.int ((mix * 31 + z) % 2147483647)), some (.int z), some (.int rest)] ∧ DrawSt H p rows H2 ∧ 0 ≤ rest ∧ rows.length ≤ i + 1 + many) ?_ ?_
    · walk_at "xs"
      walk_at "if"
      · rename_i c1
        walk_at "xs"
        refine ⟨tyL (SqL.of d.o), ?_⟩
        walk_at "xs"
        have hz : -(10 ^ 18) < z ∧ z < 10 ^ 18 := by
          by_cases z0 : z < 0
          · rw [if_pos z0] at c1; exact ⟨by have : -z < 10 ^ 18 := c1; omega, by omega⟩
          · rw [if_neg z0] at c1; exact ⟨by omega, c1⟩
        refine x_append d.o (small (by rw [List.length_map]; omega)) ?_
        walk_at "xs"
        exact ⟨rows ++ [z], 0, rfl, d.push np hz, by decide, by rw [List.length_append]; simp; omega⟩
      · refine ⟨rows, _, rfl, d, ?_, by omega⟩
        by_cases z0 : z < 0
        · rw [if_pos z0]; omega
        · rw [if_neg z0]; omega
    rintro _ _ ⟨rows, rest, rfl, d, h0, hr⟩
    refine loop _ rows rest _ _ d h0 hr fun rows' rest' H3 d3 h3 => ?_
    exact ⟨rows', _, _, _, rfl, d3, h3, hq.1, hq.2⟩
  · rintro σ H1 ⟨rows, mix, u, v, rfl, d, hr, m0, m1⟩
    rw [List.length_map] at hr
    walk_at "xs"
    refine ⟨fun m σ H2 => ∃ (rows : List Int) (mix : Int), σ = [some (.ref a), some (.int many), some (.ref p), some (.int mix), u, v] ∧ DrawSt H p rows H2 ∧ rows.length ≤ 63 + many ∧ 0 ≤ mix ∧ mix < 2147483647 ∧ m = many - rows.length, ⟨_, rows, mix, rfl, d, by omega, m0, m1, rfl⟩, ?_⟩
    rintro m σ H2 ⟨rows, mix, rfl, d, hr, m0, m1, rfl⟩
    walk_at "xs"
    refine x_lenL (SqL.of d.o) ?_
    walk_at "xs"
    walk_at "if"
    · rename_i c2
      have c2' : rows.length < many := by rw [List.length_map] at c2; exact Int.ofNat_lt.mp c2
      have hq : (0 : Int) ≤ (mix * 48271 + 11) % 2147483647 ∧ (mix * 48271 + 11) % 2147483647 < 2147483647 := ⟨Int.emod_nonneg _ (by decide), Int.emod_lt_of_pos _ (by decide)⟩
      walk_at "xs"
      refine ⟨tyL (SqL.of d.o), ?_⟩
      walk_at "xs"
      refine x_append d.o (small (by rw [List.length_map]; omega)) ?_
      have b0 := Int.emod_nonneg ((mix * 48271 + 11) % 2147483647 * ((mix * 48271 + 11) % 2147483647)) (show (999983 : Int) ≠ 0 by decide)
      have b1 := Int.emod_lt_of_pos ((mix * 48271 + 11) % 2147483647 * ((mix * 48271 + 11) % 2147483647)) (show (0 : Int) < 999983 by decide)
      exact ⟨_, by show many - (rows.length + 1) < many - rows.length; omega, rows ++ [_], _, rfl, d.push np ⟨by omega, by omega⟩, by rw [List.length_append]; simp; omega, hq.1, hq.2, by rw [List.length_append]; rfl⟩
    · rename_i c2
      have c2' : many ≤ rows.length := by
        rw [List.length_map] at c2
        omega
      walk_at "xs"
      exact k p rows H2 np d.s d.o c2' (by omega) d.b

end Su
namespace Su
open PySem L2
local macro_rules | `(tactic| walk_at "side") => `(tactic| first | assumption | (show (0 : Int) < _; omega) | (show (0 : Int) ≤ _; omega) | (show (0 : Int) < _; split <;> omega) | (show _ ∨ _; omega) | (show _ ∧ _; omega) | exact ⟨by decide, by decide, by decide⟩ | exact ⟨by first | assumption | omega, by first | assumption | omega⟩)
local macro_rules | `(tactic| walk_at "x") => `(tactic| first | with_reducible refine Su.x_seq ?_ | with_reducible refine Su.x_asg ?_ | with_reducible refine Su.x_gname ?_ | with_reducible refine Su.x_drop ?_ | with_reducible refine Su.x_ret ?_ | with_reducible refine Su.x_ifS ?_ | ((with_reducible show L2.tVar _ _ _ _); refine Su.x_var rfl ?_) | with_reducible refine Su.x_c ?_ | with_reducible refine Su.x_op ?_ | with_reducible refine Su.x_rI0 ?_ | with_reducible refine Su.x_iteF ?_ | with_reducible refine Su.x_iteT ?_ | with_reducible refine Su.x_eqI ?_ | with_reducible refine Su.x_test ?_ | with_reducible refine Su.x_isB' ?_ | with_reducible refine Su.x_and ?_ | with_reducible refine Su.x_nil ?_ | with_reducible refine Su.x_cons ?_ | with_reducible refine Su.x_cb ?_ | with_reducible refine Su.x_lst ?_ | with_reducible refine Su.x_bmL ?_ | with_reducible refine Su.x_next ?_ | with_reducible refine Su.x_for ?_ | with_reducible refine Su.x_iList ?_ | with_reducible refine Su.x_iRng1 ?_ | with_reducible refine Su.x_iRng2 ?_ | with_reducible refine Su.x_yes ?_ | with_reducible refine Su.x_lc ?_)
local macro_rules | `(tactic| walk_at "xs") => `(tactic| repeat walk_at "x")
local macro_rules | `(tactic| walk_at "if") => `(tactic| first | with_reducible refine Su.x_iteD (fun c => ?_) (fun c => ?_) | with_reducible refine Su.x_iteN (fun c => ?_) (fun c => ?_) | with_reducible refine Su.x_ite (fun c => ?_) (fun c => ?_))

/-! _law_told_order: the greedy row by comprehensions -/
theorem filterMap_rdy (p : Nat → Bool) : ∀ n, (List.range n).filterMap (fun i => if p i = true then some (V.int (i : Int)) else none) = nI ((List.range n).filter p)
  | 0 => rfl
  | n + 1 => by
    rw [List.range_succ, List.filterMap_append, List.filter_append, filterMap_rdy p n]
    unfold nI
    rw [List.map_append]
    congr 1
    cases h : p n <;> simp [h]
theorem range_getD {α : Type} (g : Nat → Option α) : ∀ l : List Nat, (List.range l.length).filterMap (fun i => g (l.getD i 0)) = l.filterMap g
  | [] => rfl
  | x :: l => by
    rw [List.length_cons, List.range_succ_eq_map, List.filterMap_cons, List.filterMap_map]
    have ih := range_getD g l
    have e : (fun i => g ((x :: l).getD i 0)) ∘ Nat.succ = fun i => g (l.getD i 0) := rfl
    rw [e, ih, List.filterMap_cons]
    rfl
theorem getD_nI {l : List Nat} {i : Nat} {x : V} (h : (nI l)[i]? = some x) : i < l.length ∧ x = .int (l.getD i 0 : Nat) := by
  unfold nI at h
  rw [List.getElem?_map] at h
  cases e : l[i]? with
  | none => rw [e] at h; cases h
  | some z =>
    rw [e] at h
    cases h
    exact ⟨(List.getElem?_eq_some_iff.mp e).1, by rw [List.getD_eq_getElem?_getD, e]; rfl⟩
def readyOf (ws : List (Int × Int)) (row : List Nat) (t : Int) : List Nat := (List.range ws.length).filter (rdy ws row t)
theorem ready_mem {ws : List (Int × Int)} {row : List Nat} {t : Int} {i : Nat} : i ∈ readyOf ws row t ↔ i < ws.length ∧ rdy ws row t i = true := by
  unfold readyOf; rw [List.mem_filter, List.mem_range]
theorem ready_none {ws : List (Int × Int)} {row : List Nat} {t : Int} (h : readyOf ws row t = []) : nextN ws row t ws.length = none := by
  cases e : nextN ws row t ws.length with
  | none => rfl
  | some c =>
    obtain ⟨c1, c2, _⟩ := nextN_some e
    have : c ∈ readyOf ws row t := ready_mem.mpr ⟨c1, c2⟩
    rw [h] at this; cases this
theorem ready_some {ws : List (Int × Int)} {row : List Nat} {t : Int} {m : Int} (hm : ∃ i ∈ readyOf ws row t, w2 ws i = m) (hl : ∀ i ∈ readyOf ws row t, m ≤ w2 ws i) :
    ∃ c r, nextN ws row t ws.length = some c ∧ w2 ws c = m ∧ (readyOf ws row t).filter (fun i => decide (w2 ws i = m)) = c :: r := by
  obtain ⟨i0, h0, e0⟩ := hm
  cases e : nextN ws row t ws.length with
  | none =>
    have := nextN_none e i0 (ready_mem.mp h0).1
    rw [(ready_mem.mp h0).2] at this; cases this
  | some c =>
    obtain ⟨c1, c2, c3⟩ := nextN_some e
    have cm : c ∈ readyOf ws row t := ready_mem.mpr ⟨c1, c2⟩
    have ec : w2 ws c = m := by
      have h1 := hl c cm
      have h2 := (c3 i0 (ready_mem.mp h0).1 (ready_mem.mp h0).2).1
      omega
    have inc : ((readyOf ws row t).filter (fun i => decide (w2 ws i = m))).Pairwise (· < ·) := List.Pairwise.filter _ (by unfold readyOf; exact List.Pairwise.filter _ List.pairwise_lt_range)
    have cf : c ∈ (readyOf ws row t).filter (fun i => decide (w2 ws i = m)) := List.mem_filter.mpr ⟨cm, by simp [ec]⟩
    cases hf : (readyOf ws row t).filter (fun i => decide (w2 ws i = m)) with
    | nil => rw [hf] at cf; cases cf
    | cons d r =>
      refine ⟨c, r, rfl, ec, ?_⟩
      rw [hf] at inc cf
      have dm : d ∈ (readyOf ws row t).filter (fun i => decide (w2 ws i = m)) := by rw [hf]; exact List.mem_cons_self ..
      obtain ⟨d1, d2⟩ := List.mem_filter.mp dm
      have d2 : w2 ws d = m := by simpa using d2
      have h1 := (c3 d (ready_mem.mp d1).1 (ready_mem.mp d1).2).2 (by omega)
      rcases List.mem_cons.mp cf with z | z
      · rw [z]
      · have := (List.pairwise_cons.mp inc).1 c z
        omega
def sp_law_told_order (K : PySem.W.Frag) : Sp := fun vs H Q _ => ∃ (v : V) (ws : List (Int × Int)), vs = [v] ∧ Dp K H v (dWin ws) ∧ ws.length ≤ 1000 ∧
  (∀ row p H', paperOf ws = .order row → H p = none → Same H H' → H' p = some (.lst (nI row)) → Q (.ref p) H') ∧
  (∀ a b c H', paperOf ws = .bar a b c → Same H H' → Q .non H')
abbrev N_law_told_order : List Str := ["_law_windows", "_law_row", "_law_turn", "_law_ready", "_law_least", "_law_chosen", "_law_at"]
def t_law_told_order (K : PySem.W.Frag) : TS :=
 (tSeq (tAsg (tLst tNil) (gName 1))
 (tSeq (tFor (iRng2 (tCons (tC (.int 1)) (tCons (tOp rAdd (tCB (rLenSeq K) (tCons (tVar 0) tNil)) (tC (.int 1))) tNil))) (gName 2)
 (tSeq (tAsg (tLc (iRng1 (tCons (tCB (rLenSeq K) (tCons (tVar 0) tNil)) tNil)) (gName 6) (tAnd (tTest (tOp (rIn K true) (tVar 6) (tVar 1))) (tTest (tOp rLe (tOp (rIxT K) (tOp (rIxL K) (tVar 0) (tVar 6)) (tC (.int 0))) (tVar 2)))) (tVar 6) [6]) (gName 3))
 (tSeq (tIfS (tTest (tOp rEq (tCB (rLenSeq K) (tCons (tVar 3) tNil)) (tC (.int 0))))
 (tRet (tC .non))
 tNext)
 (tSeq (tAsg (tCB (rMin K) (tCons (tLc (iList K (tVar 3)) (gName 6) tYes (tOp (rIxT K) (tOp (rIxL K) (tVar 0) (tVar 6)) (tC (.int 1))) [6]) tNil)) (gName 4))
 (tSeq (tAsg (tOp (rIxL K) (tLc (iList K (tVar 3)) (gName 6) (tTest (tOp rEq (tOp (rIxT K) (tOp (rIxL K) (tVar 0) (tVar 6)) (tC (.int 1))) (tVar 4))) (tVar 6) [6]) (tC (.int 0))) (gName 5))
 (tSeq (tIfS (tTest (tOp rLt (tVar 4) (tVar 2)))
 (tRet (tC .non))
 tNext)
 (tDrop (tBM K "list" rAppend (tVar 1) (tCons (tVar 5) tNil)))))))))
 (tRet (tVar 1))))

theorem len_law_told_order {K : PySem.W.Frag} : ∀ vs H Q E, sp_law_told_order K vs H Q E → vs.length = ["a"].length := by
  rintro vs H Q E ⟨_, _, rfl, _⟩; rfl
theorem pure_law_told_order {K : PySem.W.Frag} {vs : List V} {H : Hp} {Q : VK} {E : XK} (h : sp_law_told_order K vs H Q E) : t_law_told_order K { nx := fun _ H' => Q .non H', rt := Q } (start N_law_told_order vs) H := by
  obtain ⟨v, ws, rfl, hw, hl, k1, k2⟩ := h
  obtain ⟨q, xs, rfl, hq, hx, hat⟩ := win_at hw
  unfold t_law_told_order
  walk_at "xs"
  refine al_lst fun p H1 np s1 hp => ?_
  walk_at "xs"
  refine x_lenL (s1.seq hq) ?_
  rw [hx]
  walk_at "xs"
  have en : ((ws.length : Int) + 1 - 1).toNat = ws.length := by omega
  refine ⟨1, (ws.length : Int) + 1, rfl, ⟨by decide, by decide, by omega, by omega⟩, ?_⟩
  rw [en]
  refine for_by turnsR (fun i σ H' => ∃ (row : List Nat) (u1 u2 u3 u4 u5 : Option V), σ = [some (.ref q), some (.ref p), u1, u2, u3, u4, u5] ∧ Same H H' ∧ H' p = some (.lst (nI row)) ∧ row.length = i ∧ ordB ws (ws.length - i) row = paperOf ws)
    ⟨[], none, none, none, none, none, rfl, s1, hp, rfl, rfl⟩ (fun _ _ _ _ _ => trivial) ?_ ?_
  · rintro i y σ H2 _ hi ⟨row, u1, u2, u3, u4, u5, rfl, s2, hp2, hr, hB⟩ ⟨rfl, rfl⟩
    obtain ⟨m, hm⟩ : ∃ m, ws.length - i = m + 1 := ⟨ws.length - i - 1, by omega⟩
    rw [hm] at hB
    have hB' : (match nextN ws row ((row.length : Int) + 1) ws.length with
      | none => .bar ((row.length : Int) + 2) ws.length (wIn ws ((row.length : Int) + 2) ws.length)
      | some c => if w2 ws c < (row.length : Int) + 1 then barOf ws row (w2 ws c) else ordB ws m (row ++ [c])) = paperOf ws := hB
    have et : (1 : Int) + (i : Int) = (row.length : Int) + 1 := by omega
    rw [et]
    walk_at "xs"
    -- the ready ones
    refine x_lenL (s2.seq hq) ?_
    rw [hx]
    walk_at "xs"
    refine ⟨ws.length, rfl, by omega, by omega, fun A nA => ?_⟩
    refine lc_flat (fun i => if rdy ws row ((row.length : Int) + 1) i = true then some (V.int (i : Int)) else none) turnsR (fun _ _ => trivial) nA ?_ ?_
    · rintro j x Hc _ hj lc ⟨rfl, rfl⟩
      have hj' : j < ws.length := hj
      have sc := s2.trans lc.s
      rw [show (0 : Int) + (j : Int) = (j : Int) by omega]
      walk_at "xs"
      refine x_wipe rfl ?_
      walk_at "xs"
      refine x_notInN (SqL.of (lc.s _ _ hp2)) ?_
      walk_at "xs"
      walk_at "if"
      · rename_i c1
        walk_at "xs"
        refine x_winix (dp_same sc hw) (by omega) (by omega) fun t2 ht2 => ?_
        walk_at "xs"
        refine x_ix0 ht2 ?_
        walk_at "xs"
        have eb : (ws.getD ((j : Int)).toNat (0, 0)).1 = w1 ws j := rfl
        rw [eb]
        walk_at "if"
        · rename_i c2
          have r : rdy ws row ((row.length : Int) + 1) j = true := by unfold rdy; simp [c1, c2]
          walk_at "xs"
          exact lc.keep nA (Same.refl _) (if_pos r) (by omega)
        · rename_i c2
          have r : rdy ws row ((row.length : Int) + 1) j = false := by unfold rdy; simp [c2]
          exact lc.skip (Same.refl _) (by rw [r]; rfl)
      · rename_i c1
        have r : rdy ws row ((row.length : Int) + 1) j = false := by unfold rdy; simp [c1]
        walk_at "xs"
        exact lc.skip (Same.refl _) (by rw [r]; rfl)
    · intro H3 s3 hA
      rw [filterMap_rdy] at hA
      have hA : H3 A = some (.lst (nI (readyOf ws row ((row.length : Int) + 1)))) := hA
      have rl : (readyOf ws row ((row.length : Int) + 1)).length ≤ 1000 := by
        have := List.length_filter_le (rdy ws row ((row.length : Int) + 1)) (List.range ws.length)
        rw [List.length_range] at this
        unfold readyOf; omega
      generalize hRd : readyOf ws row ((row.length : Int) + 1) = rd at hA rl
      have s23 := s2.trans s3
      have hmem : ∀ z ∈ rd, z < ws.length := fun z hz => (ready_mem.mp (by rw [hRd]; exact hz)).1
      walk_at "xs"
      refine x_lenL (SqL.of hA) ?_
      rw [nI_len]
      walk_at "xs"
      walk_at "if"
      · rename_i c
        have : rd = [] := List.eq_nil_of_length_eq_zero (by omega)
        rw [this] at hRd
        rw [ready_none hRd] at hB'
        walk_at "xs"
        exact k2 _ _ _ _ hB'.symm s23
      rename_i cne
      walk_at "xs"
      -- the least last
      refine ⟨A, rfl, ⟨_, SqL.of hA⟩, fun B nB => ?_⟩
      refine lc_flat (fun j => (fun z => some (V.int (w2 ws z))) (rd.getD j 0)) (turnsL (K := K) (a := A) (xs := nI rd)) (fun H' s => s.seq (SqL.of hA)) nB ?_ ?_
      · rintro j x Hc _ hj lc ⟨rfl, hx'⟩
        obtain ⟨jl, rfl⟩ := getD_nI hx'
        have zl : rd.getD j 0 < ws.length := by
          rw [List.getD_eq_getElem?_getD, List.getElem?_eq_getElem jl]
          exact hmem _ (List.getElem_mem jl)
        walk_at "xs"
        refine x_wipe rfl ?_
        walk_at "xs"
        refine x_winix (dp_same (s23.trans lc.s) hw) (by omega) (by omega) fun t2 ht2 => ?_
        walk_at "xs"
        refine x_ix1 ht2 ?_
        exact lc.keep nB (Same.refl _) rfl (by omega)
      intro H4 s4 hB4
      rw [nI_len] at hB4
      have hB4 : H4 B = some (.lst (rd.filterMap fun z => some (V.int (w2 ws z)))) := hB4.trans (congrArg (fun l => some (HO.lst l)) (range_getD (fun z => some (V.int (w2 ws z))) rd))
      have hB4 : H4 B = some (.lst ((rd.map (w2 ws)).map V.int)) := by rw [hB4, List.map_map, List.filterMap_eq_map']; rfl
      walk_at "xs"
      refine ⟨B, rd.map (w2 ws), rfl, SqL.of hB4, by rw [List.length_map]; omega, fun mn hmn hle => ?_⟩
      have hm1 : ∃ i ∈ readyOf ws row ((row.length : Int) + 1), w2 ws i = mn := by rw [hRd]; exact List.mem_map.mp hmn
      have hm2 : ∀ i ∈ readyOf ws row ((row.length : Int) + 1), mn ≤ w2 ws i := by rw [hRd]; exact fun i hi => hle _ (List.mem_map.mpr ⟨i, hi, rfl⟩)
      obtain ⟨c, r, hc, ec, hf⟩ := ready_some hm1 hm2
      rw [hRd] at hf
      have s24 := s23.trans s4
      have hA4 := s4 _ _ hA
      walk_at "xs"
      -- the chosen one
      refine ⟨A, rfl, ⟨_, SqL.of hA4⟩, fun C nC => ?_⟩
      refine lc_flat (fun j => (fun z => if decide (w2 ws z = mn) = true then some (V.int (z : Int)) else none) (rd.getD j 0)) (turnsL (K := K) (a := A) (xs := nI rd)) (fun H' s => s.seq (SqL.of hA4)) nC ?_ ?_
      · rintro j x Hc _ hj lc ⟨rfl, hx'⟩
        obtain ⟨jl, rfl⟩ := getD_nI hx'
        have zl : rd.getD j 0 < ws.length := by
          rw [List.getD_eq_getElem?_getD, List.getElem?_eq_getElem jl]
          exact hmem _ (List.getElem_mem jl)
        walk_at "xs"
        refine x_wipe rfl ?_
        walk_at "xs"
        refine x_winix (dp_same (s24.trans lc.s) hw) (by omega) (by omega) fun t2 ht2 => ?_
        walk_at "xs"
        refine x_ix1 ht2 ?_
        walk_at "xs"
        have eb : (ws.getD ((rd.getD j 0 : Nat) : Int).toNat (0, 0)).2 = w2 ws (rd.getD j 0) := rfl
        rw [eb]
        walk_at "if"
        · rename_i c2
          walk_at "xs"
          exact lc.keep nC (Same.refl _) (if_pos (decide_eq_true c2)) (by omega)
        · rename_i c2
          exact lc.skip (Same.refl _) (if_neg (by simpa using c2))
      intro H5 s5 hC5
      rw [nI_len] at hC5
      have hC5 : H5 C = some (.lst (rd.filterMap fun z => if decide (w2 ws z = mn) = true then some (V.int (z : Int)) else none)) := hC5.trans (congrArg (fun l => some (HO.lst l)) (range_getD (fun z => if decide (w2 ws z = mn) = true then some (V.int (z : Int)) else none) rd))
      have fe : ∀ l : List Nat, l.filterMap (fun z => if decide (w2 ws z = mn) = true then some (V.int (z : Int)) else none) = nI (l.filter (fun i => decide (w2 ws i = mn))) := by
        intro l
        induction l with
        | nil => rfl
        | cons z l ih =>
          rw [List.filterMap_cons, List.filter_cons, ih]
          cases hz : decide (w2 ws z = mn) <;> rfl
      rw [fe, hf] at hC5
      walk_at "xs"
      refine x_ixL (SqL.of hC5) (at_getN (by decide) (by simp)) ?_
      have e0 : (((c :: r).getD (Int.toNat 0) 0 : Nat) : Int) = (c : Int) := rfl
      rw [e0]
      have s25 := s24.trans s5
      walk_at "xs"
      rw [hc] at hB'
      have hB' : (if w2 ws c < (row.length : Int) + 1 then barOf ws row (w2 ws c) else ordB ws m (row ++ [c])) = paperOf ws := hB'
      walk_at "if"
      · rename_i z
        rw [if_pos (by omega)] at hB'
        walk_at "xs"
        exact k2 _ _ _ _ hB'.symm s25
      · rename_i z
        rw [if_neg (by omega)] at hB'
        have hp5 := s5 _ _ (s4 _ _ (s3 _ _ hp2))
        walk_at "xs"
        refine ⟨tyL (SqL.of hp5), ?_⟩
        walk_at "xs"
        refine x_append hp5 (small (by rw [nI_len]; omega)) ?_
        refine ⟨row ++ [c], _, _, _, _, _, rfl, same_upd s25 np, ?_, by rw [List.length_append]; simp; exact hr, ?_⟩
        · rw [upd_same, nI_snoc]
        · rw [show ws.length - (i + 1) = m by omega]; exact hB'
  · rintro σ H2 ⟨row, u1, u2, u3, u4, u5, rfl, s2, hp2, hr, hB⟩
    rw [Nat.sub_self] at hB
    walk_at "xs"
    exact k1 row p H2 hB.symm np s2 hp2

end Su
namespace Su
open PySem L2
local macro_rules | `(tactic| walk_at "side") => `(tactic| first | assumption | (show (0 : Int) < _; omega) | (show (0 : Int) ≤ _; omega) | (show (0 : Int) < _; split <;> omega) | (show _ ∨ _; omega) | (show _ ∧ _; omega) | exact ⟨by decide, by decide, by decide⟩ | exact ⟨by first | assumption | omega, by first | assumption | omega⟩)
local macro_rules | `(tactic| walk_at "x") => `(tactic| first | with_reducible refine Su.x_seq ?_ | with_reducible refine Su.x_asg ?_ | with_reducible refine Su.x_gname ?_ | with_reducible refine Su.x_drop ?_ | with_reducible refine Su.x_ret ?_ | ((with_reducible show L2.tVar _ _ _ _); refine Su.x_var rfl ?_) | with_reducible refine Su.x_c ?_ | with_reducible refine Su.x_iteT ?_ | with_reducible refine Su.x_nil ?_ | with_reducible refine Su.x_cons ?_ | with_reducible refine Su.x_cb ?_ | with_reducible refine Su.x_call ?_ | with_reducible refine Su.x_lst ?_ | with_reducible refine Su.x_tup ?_ | with_reducible refine Su.x_bmL ?_ | with_reducible refine Su.x_for ?_ | with_reducible refine Su.x_iList ?_ | with_reducible refine Su.x_iZip ?_ | with_reducible refine Su.x_gcons ?_ | with_reducible refine Su.x_gnil ?_ | with_reducible refine Su.x_yes ?_ | with_reducible refine Su.x_lc ?_)
local macro_rules | `(tactic| walk_at "xs") => `(tactic| repeat walk_at "x")
local macro_rules | `(tactic| walk_at "if") => `(tactic| first | with_reducible refine Su.x_iteD (fun c => ?_) (fun c => ?_) | with_reducible refine Su.x_iteN (fun c => ?_) (fun c => ?_) | with_reducible refine Su.x_ite (fun c => ?_) (fun c => ?_))

/-! _law_new -/
def sp_law_new (K : PySem.W.Frag) : Sp := fun vs H Q _ => ∃ (s : Int) (n : Nat) (p w : Addr) (pl ws : List Int) (bd : Bool), vs = [.int s, .ref p, .ref w, .bl bd] ∧ SqL K H p (pl.map V.int) ∧ SqL K H w (ws.map V.int) ∧ OpenHas s n pl ws ∧
  ∀ (b : Nat → Addr) (row : List Nat) (H' : Hp), Same H H' → (∀ x ∈ stFoot b n, H x = none) → StAt H' b (openS s bd pl row) → paperOf (openWin s pl ws) = .order row → Q (.ref (b 0)) H'
abbrev N_law_new : List Str := ["_law_stake", "_law_pledges", "_law_wishes", "_law_bidding", "_law_size", "_law_windows", "_law_pledge", "_law_wish", "_law_seats", "_law_flows"]
def t_law_new (K : PySem.W.Frag) : TS :=
 (tSeq (tAsg (tCB (rLenSeq K) (tCons (tVar 1) tNil)) (gName 4))
 (tSeq (tAsg (tLst tNil) (gName 5))
 (tSeq (tFor (iZip K (tCons (tVar 1) (tCons (tVar 2) tNil))) (gTup K 2 (gCons (gName 6) (gCons (gName 7) gNil)))
 (tDrop (tBM K "list" rAppend (tVar 5) (tCons (tTup (tCons (tCall (sp_law_early K) [] E0 (tCons (tVar 0) (tCons (tVar 4) (tCons (tVar 6) tNil)))) (tCons (tVar 7) tNil))) tNil))))
 (tSeq (tAsg (tLc (iList K (tVar 1)) (gName 6) tYes (tLst (tCons (tC (.str "waits")) (tCons (tC (.int 0)) (tCons (tVar 6) (tCons (tC (.int 0)) (tCons (tC (.int 0)) (tCons (tC (.int 0)) (tCons (tC (.int 0)) tNil)))))))) [6]) (gName 8))
 (tSeq (tAsg (tLc (iList K (tVar 1)) (gName 6) tYes (tLst tNil) [6]) (gName 9))
 (tRet (tLst (tCons (tVar 0) (tCons (tVar 4) (tCons (tVar 3) (tCons (tC (.int 1)) (tCons (tCall (sp_law_told_order K) [] E0 (tCons (tVar 5) tNil)) (tCons (tC (.int 0)) (tCons (tC (.int 0)) (tCons (tVar 8) (tCons (tVar 9) tNil))))))))))))))))

theorem len_law_new {K : PySem.W.Frag} : ∀ vs H Q E, sp_law_new K vs H Q E → vs.length = ["a", "b", "c", "d"].length := by
  rintro vs H Q E ⟨_, _, _, _, _, _, _, rfl, _⟩; rfl
theorem pure_law_new {K : PySem.W.Frag} {vs : List V} {H : Hp} {Q : VK} {E : XK} (h : sp_law_new K vs H Q E) : t_law_new K { nx := fun _ H' => Q .non H', rt := Q } (start N_law_new vs) H := by
  obtain ⟨s, n, p, w, pl, ws, bd, rfl, hp, hw, oa, k⟩ := h
  unfold t_law_new
  have ok := oa.ok
  have hpl := oa.len
  have n2 := ok.n2
  have nw := ok.nw
  have s1 := ok.s1
  have s2 := ok.s2
  walk_at "xs"
  refine x_lenL hp ?_
  rw [List.length_map, hpl]
  walk_at "xs"
  refine al_lst fun A H1 nA q1 hA => ?_
  walk_at "xs"
  have owl : (openWin s pl ws).length = n := by unfold openWin; rw [List.length_zipWith, nw, hpl]; omega
  refine ⟨p, w, _, _, rfl, q1.seq hp, q1.seq hw, for_by (turnsZ (K := K) (a := p) (b := w) (xs := pl.map V.int) (ys := ws.map V.int) (by rw [List.length_map, List.length_map, nw])) (fun i σ H' => ∃ (u1 u2 : Option V), σ = [some (.int s), some (.ref p), some (.ref w), some (.bl bd), some (.int n), some (.ref A), u1, u2, none, none] ∧ Same H H' ∧ LsAt K [A] H' A (((openWin s pl ws).take i).map dPair))
    ⟨none, none, rfl, q1, ⟨[], hA, .nil⟩⟩ (fun i σ H' _ z => by obtain ⟨_, _, _, q, _⟩ := z; exact ⟨q.seq hp, q.seq hw⟩) ?_ ?_⟩
  · rintro i v σ H2 H3 hi ⟨u1, u2, rfl, q2, ⟨xs, hx2, hd2⟩⟩ ⟨y, z, hy, hz, T, rfl, nT, q3, hT, _⟩
    rw [List.length_map] at hi
    rw [List.getElem?_map, List.getElem?_eq_getElem hi] at hy
    rw [List.getElem?_map, List.getElem?_eq_getElem (by omega)] at hz
    cases hy; cases hz
    have xl : xs.length ≤ 1000 := by rw [dpAll_len hd2, List.length_map, List.length_take]; omega
    have tk : ((openWin s pl ws).take (i + 1)).map dPair = ((openWin s pl ws).take i).map dPair ++ [dPair (firstCov s pl.length pl[i], ws[i])] := by
      rw [List.take_succ, openWin_at i hi (by omega), List.map_append]; rfl
    have hx3 := q3 _ _ hx2
    refine x_gtup (SqT.of hT) rfl ?_
    walk_at "xs"
    refine ⟨tyL (SqL.of hx3), ?_⟩
    walk_at "xs"
    refine ⟨s, n, pl[i], rfl, by omega, s2, ?_⟩
    walk_at "xs"
    refine al_tup fun U H4 nU q4 hU => ?_
    have hx4 := q4 _ _ hx3
    walk_at "xs"
    refine x_append hx4 (small (by omega)) ?_
    have neA : U ≠ A := fun e => by subst e; rw [hx3] at nU; cases nU
    refine ⟨_, _, rfl, same_upd ((q2.trans q3).trans q4) nA, ⟨_, upd_same, ?_⟩⟩
    rw [hide_upd (by simp), tk]
    refine dpAll_snoc (dpAll_same (hide_mono (q3.trans q4)) hd2) (pair_dp (SqT.of ?_))
    rw [hide_out (by simpa using neA), hU, hpl]
  rintro σ H2 ⟨u1, u2, rfl, q2, hx2⟩
  rw [List.length_map, hpl, ← owl, List.take_length] at hx2
  have dA := hx2.dp
  walk_at "xs"
  refine ⟨p, rfl, ⟨_, q2.seq hp⟩, fun S nS => ?_⟩
  refine lc_by (turnsL (xs := pl.map V.int)) (Fam H2 S fun i => .lst (seatV { pl := pl.getD i 0 })) (Fam.start nS) (fun i H' _ f => f.s.seq (q2.seq hp)) ?_ ?_
  · rintro i v Hc _ hi fm ⟨rfl, hv⟩
    rw [List.length_map] at hi
    rw [List.getElem?_map, List.getElem?_eq_getElem hi] at hv
    cases hv
    walk_at "xs"
    refine x_wipe rfl ?_
    walk_at "xs"
    refine al_lst fun q Hd nq sd hq => ?_
    refine fm.step nS nq sd ?_ (by omega)
    rw [hq, List.getD_eq_getElem?_getD, List.getElem?_eq_getElem hi]; rfl
  intro H3 fS
  rw [List.length_map] at fS
  obtain ⟨sf, hS, sl, snd, sat⟩ := fS.ex
  have q3 := fS.s
  walk_at "xs"
  refine ⟨p, rfl, ⟨_, (q2.trans q3).seq hp⟩, fun W nW => ?_⟩
  refine lc_by (turnsL (xs := pl.map V.int)) (Fam H3 W fun _ => .lst []) (Fam.start nW) (fun i H' _ f => f.s.seq ((q2.trans q3).seq hp)) ?_ ?_
  · rintro i v Hc _ hi fm ⟨rfl, hv⟩
    rw [List.length_map] at hi
    rw [List.getElem?_map, List.getElem?_eq_getElem hi] at hv
    cases hv
    walk_at "xs"
    refine x_wipe rfl ?_
    walk_at "xs"
    refine al_lst fun q Hd nq sd hq => ?_
    exact fm.step nW nq sd hq (by omega)
  intro H4 fW
  rw [List.length_map] at fW
  obtain ⟨ff, hW, fl, fnd, fat⟩ := fW.ex
  have q4 := fW.s
  walk_at "xs"
  refine ⟨_, openWin s pl ws, rfl, dp_same (q3.trans q4) dA, by omega, fun row L H5 er nL q5 hL => ?_, fun a b c H5 er _ => ?_⟩
  rotate_left
  · obtain ⟨r0, o0⟩ := oa.ord
    obtain ⟨r, e, _⟩ := planted_told (openWin_ok ok) o0
    rw [e] at er; cases er
  walk_at "xs"
  refine al_lst fun X H6 nX q6 hX => ?_
  have hS4 := q4 _ _ hS
  have sm : ∀ y ∈ sf, ∃ j, ∃ h : j < sf.length, sf[j] = y := fun y hy => by
    obtain ⟨j, hj, e⟩ := List.getElem_of_mem hy
    exact ⟨j, hj, e⟩
  -- where each stands
  have at5 : ∀ {y : Addr} {o : HO}, H4 y = some o → H5 y = some o := fun {y o} h => q5 _ _ h
  have s4 : ∀ y ∈ sf, ∃ o, H4 y = some o := fun y hy => by
    obtain ⟨j, hj, rfl⟩ := List.getElem_of_mem hy
    exact ⟨_, q4 _ _ (sat j hj).2.2⟩
  have f4 : ∀ y ∈ ff, ∃ o, H4 y = some o := fun y hy => by
    obtain ⟨j, hj, rfl⟩ := List.getElem_of_mem hy
    exact ⟨_, (fat j hj).2.2⟩
  have nXs : ∀ y, (∃ o, H5 y = some o) → y ≠ X := fun y ⟨o, h⟩ => ne_of_none h nX
  have nLs : ∀ y, (∃ o, H4 y = some o) → y ≠ L := fun y ⟨o, h⟩ => ne_of_none h nL
  have nSs : ∀ y ∈ sf, y ≠ S := fun y hy => by
    obtain ⟨j, hj, rfl⟩ := List.getElem_of_mem hy
    exact (sat j hj).2.1
  have nSf : ∀ y ∈ ff, y ≠ S := fun y hy => by
    obtain ⟨j, hj, rfl⟩ := List.getElem_of_mem hy
    exact (ne_of_none hS (fat j hj).1).symm
  have nWs : ∀ y ∈ sf, y ≠ W := fun y hy => by
    obtain ⟨j, hj, rfl⟩ := List.getElem_of_mem hy
    exact ne_of_none (sat j hj).2.2 nW
  have nWf : ∀ y ∈ ff, y ≠ W := fun y hy => by
    obtain ⟨j, hj, rfl⟩ := List.getElem_of_mem hy
    exact (fat j hj).2.1
  have nSW : S ≠ W := ne_of_none hS nW
  have dsj : ∀ y ∈ sf, ∀ z ∈ ff, y ≠ z := fun y hy z hz => by
    obtain ⟨j, hj, rfl⟩ := List.getElem_of_mem hy
    obtain ⟨i, hi, rfl⟩ := List.getElem_of_mem hz
    exact ne_of_none (sat j hj).2.2 (fat i hi).1
  obtain ⟨b, hb⟩ : ∃ b : Nat → Addr, b = fun j => match j with
    | 0 => X
    | 1 => L
    | 2 => S
    | 3 => W
    | m + 4 => if m % 2 = 0 then sf.getD (m / 2) 0 else ff.getD (m / 2) 0 := ⟨_, rfl⟩
  have b0 : b 0 = X := by rw [hb]
  have b1 : b 1 = L := by rw [hb]
  have b2 : b 2 = S := by rw [hb]
  have b3 : b 3 = W := by rw [hb]
  have b4 : ∀ m, b (m + 4) = if m % 2 = 0 then sf.getD (m / 2) 0 else ff.getD (m / 2) 0 := fun m => by rw [hb]
  have bE : ∀ m, m / 2 < n → m % 2 = 0 → b (m + 4) ∈ sf := fun m hm h => by
    rw [b4, if_pos h, List.getD_eq_getElem?_getD, List.getElem?_eq_getElem (by omega)]; exact List.getElem_mem _
  have bO : ∀ m, m / 2 < n → ¬ m % 2 = 0 → b (m + 4) ∈ ff := fun m hm h => by
    rw [b4, if_neg h, List.getD_eq_getElem?_getD, List.getElem?_eq_getElem (by omega)]; exact List.getElem_mem _
  have zs : (openS s bd pl row).size = n := by rw [openS_size, hpl]
  have lt : ∀ i j, i < j → j < 4 + 2 * n → b i ≠ b j := fun i j hij hj => by
    have bj : ∀ m, m + 4 = j → (b j ∈ sf ∨ b j ∈ ff) := fun m e => by
      subst e
      by_cases h : m % 2 = 0
      · exact .inl (bE m (by omega) h)
      · exact .inr (bO m (by omega) h)
    have bj4 : 4 ≤ j → (b j ∈ sf ∨ b j ∈ ff) := fun h => bj (j - 4) (by omega)
    match i, hij with
    | 0, hij =>
      rw [b0]
      refine (nXs _ ?_).symm
      match j, hij, hj with
      | 1, _, _ => rw [b1]; exact ⟨_, hL⟩
      | 2, _, _ => rw [b2]; exact ⟨_, at5 hS4⟩
      | 3, _, _ => rw [b3]; exact ⟨_, at5 hW⟩
      | j + 4, _, _ =>
        rcases bj4 (by omega) with h | h
        · obtain ⟨o, h⟩ := s4 _ h; exact ⟨o, at5 h⟩
        · obtain ⟨o, h⟩ := f4 _ h; exact ⟨o, at5 h⟩
    | 1, hij =>
      rw [b1]
      refine (nLs _ ?_).symm
      match j, hij, hj with
      | 2, _, _ => rw [b2]; exact ⟨_, hS4⟩
      | 3, _, _ => rw [b3]; exact ⟨_, hW⟩
      | j + 4, _, _ =>
        rcases bj4 (by omega) with h | h
        · exact s4 _ h
        · exact f4 _ h
    | 2, hij =>
      rw [b2]
      match j, hij, hj with
      | 3, _, _ => rw [b3]; exact nSW
      | j + 4, _, _ =>
        rcases bj4 (by omega) with h | h
        · exact (nSs _ h).symm
        · exact (nSf _ h).symm
    | 3, hij =>
      rw [b3]
      rcases bj4 (by omega) with h | h
      · exact (nWs _ h).symm
      · exact (nWf _ h).symm
    | i + 4, hij =>
      obtain ⟨m, rfl⟩ : ∃ m, j = m + 4 := ⟨j - 4, by omega⟩
      by_cases h1 : i % 2 = 0
      · by_cases h2 : m % 2 = 0
        · rw [b4, b4, if_pos h1, if_pos h2, List.getD_eq_getElem?_getD, List.getD_eq_getElem?_getD, List.getElem?_eq_getElem (by omega), List.getElem?_eq_getElem (by omega)]
          intro e
          have := (List.getElem_inj snd).mp e
          omega
        · exact dsj _ (bE i (by omega) h1) _ (bO m (by omega) h2)
      · by_cases h2 : m % 2 = 0
        · exact (dsj _ (bE m (by omega) h2) _ (bO i (by omega) h1)).symm
        · rw [b4, b4, if_neg h1, if_neg h2, List.getD_eq_getElem?_getD, List.getD_eq_getElem?_getD, List.getElem?_eq_getElem (by omega), List.getElem?_eq_getElem (by omega)]
          intro e
          have := (List.getElem_inj fnd).mp e
          omega
  have q26 := (q3.trans q4).trans (q5.trans q6)
  rw [← b0]
  refine k b row H6 (q2.trans q26) (fun x hx => ?_) ⟨fun i j hi hj e => ?_, fun j hj => ?_⟩ er
  · obtain ⟨j, hj, rfl⟩ := List.mem_map.mp hx
    rw [List.mem_range] at hj
    have q24 := q2.trans (q3.trans q4)
    match j, hj with
    | 0, _ => rw [b0]; exact (q24.trans q5).free nX
    | 1, _ => rw [b1]; exact q24.free nL
    | 2, _ => rw [b2]; exact q2.free nS
    | 3, _ => rw [b3]; exact (q2.trans q3).free nW
    | m + 4, hj =>
      by_cases h : m % 2 = 0
      · obtain ⟨i, hi, e⟩ := List.getElem_of_mem (bE m (by omega) h)
        rw [← e]; exact q2.free (sat i hi).1
      · obtain ⟨i, hi, e⟩ := List.getElem_of_mem (bO m (by omega) h)
        rw [← e]; exact (q2.trans q3).free (fat i hi).1
  · rw [zs] at hi hj
    rcases Nat.lt_trichotomy i j with h | h | h
    · exact absurd e (lt i j h hj)
    · exact h
    · exact absurd e.symm (lt j i h hi)
  · rw [zs] at hj
    match j, hj with
    | 0, _ =>
      show H6 (b 0) = some (.lst [_, .int (openS s bd pl row).size, _, _, _, _, _, _, _])
      rw [zs, b0, b1, b2, b3]; exact hX
    | 1, _ => rw [b1]; exact q6 _ _ hL
    | 2, _ =>
      show H6 (b 2) = some (.lst ((List.range (openS s bd pl row).size).map fun i => .ref (b (4 + 2 * i))))
      have e : (List.range (openS s bd pl row).size).map (fun i => V.ref (b (4 + 2 * i))) = sf.map V.ref := by
        rw [zs]
        apply List.ext_getElem?
        intro m
        rw [List.getElem?_map, List.getElem?_map]
        by_cases hm : m < n
        · rw [List.getElem?_range hm, List.getElem?_eq_getElem (by omega)]
          show some (V.ref (b (4 + 2 * m))) = _
          rw [Nat.add_comm 4, b4, if_pos (by omega), show 2 * m / 2 = m by omega, List.getD_eq_getElem?_getD, List.getElem?_eq_getElem (by omega)]; rfl
        · rw [List.getElem?_eq_none (by rw [List.length_range]; omega), List.getElem?_eq_none (by omega)]; rfl
      rw [e, b2]; exact q6 _ _ (at5 hS4)
    | 3, _ =>
      show H6 (b 3) = some (.lst ((List.range (openS s bd pl row).size).map fun i => .ref (b (5 + 2 * i))))
      have e : (List.range (openS s bd pl row).size).map (fun i => V.ref (b (5 + 2 * i))) = ff.map V.ref := by
        rw [zs]
        apply List.ext_getElem?
        intro m
        rw [List.getElem?_map, List.getElem?_map]
        by_cases hm : m < n
        · rw [List.getElem?_range hm, List.getElem?_eq_getElem (by omega)]
          show some (V.ref (b (5 + 2 * m))) = _
          rw [show 5 + 2 * m = (2 * m + 1) + 4 by omega, b4, if_neg (by omega), show (2 * m + 1) / 2 = m by omega, List.getD_eq_getElem?_getD, List.getElem?_eq_getElem (by omega)]; rfl
        · rw [List.getElem?_eq_none (by rw [List.length_range]; omega), List.getElem?_eq_none (by omega)]; rfl
      rw [e, b3]; exact q6 _ _ (at5 hW)
    | m + 4, hj =>
      show H6 (b (m + 4)) = some (if m % 2 = 0 then HO.lst (seatV ((openS s bd pl row).get (m / 2))) else intsO ((openS s bd pl row).get (m / 2)).fl)
      rw [openS_get (by omega), b4]
      by_cases h : m % 2 = 0
      · rw [if_pos h, if_pos h, List.getD_eq_getElem?_getD, List.getElem?_eq_getElem (show m / 2 < sf.length by omega)]
        exact q6 _ _ (at5 (q4 _ _ (sat (m / 2) (by omega)).2.2))
      · rw [if_neg h, if_neg h, List.getD_eq_getElem?_getD, List.getElem?_eq_getElem (show m / 2 < ff.length by omega)]
        exact q6 _ _ (at5 (fat (m / 2) (by omega)).2.2)

end Su
namespace Su
open PySem L2
local macro_rules | `(tactic| walk_at "side") => `(tactic| first | assumption | (show (0 : Int) < _; omega) | (show (0 : Int) ≤ _; omega) | (show (0 : Int) < _; split <;> omega) | (show _ ∨ _; omega) | (show _ ∧ _; omega) | exact ⟨by decide, by decide, by decide⟩ | exact ⟨by first | assumption | omega, by first | assumption | omega⟩)
local macro_rules | `(tactic| walk_at "x") => `(tactic| first
  | with_reducible refine Su.x_seq ?_ | with_reducible refine Su.x_asg ?_ | with_reducible refine Su.x_gname ?_ | with_reducible refine Su.x_drop ?_ | with_reducible refine Su.x_ret ?_ | with_reducible refine Su.x_ifS ?_
  | ((with_reducible show L2.tVar _ _ _ _); refine Su.x_var rfl ?_) | with_reducible refine Su.x_c ?_ | with_reducible refine Su.x_op ?_ | with_reducible refine Su.x_rI0 ?_ | ((with_reducible refine Su.x_rI ?_ ?_); focus walk_at "side")
  | ((with_reducible show L2.rIxL _ (L2.V.ref _) (L2.V.int _) _ _); refine Su.x_ixI (by assumption) (by first | decide | omega) (by omega) ?_) | with_reducible refine Su.x_isi_int_int ?_ | with_reducible refine Su.x_isi_int_bool ?_ | with_reducible refine Su.x_isi_int_str ?_ | with_reducible refine Su.x_isi_int_list ?_ | with_reducible refine Su.x_isi_int_tuple ?_ | with_reducible refine Su.x_isi_bool_int ?_ | with_reducible refine Su.x_isi_bool_bool ?_ | with_reducible refine Su.x_isi_bool_str ?_ | with_reducible refine Su.x_isi_bool_list ?_ | with_reducible refine Su.x_isi_bool_tuple ?_ | with_reducible refine Su.x_isi_str_int ?_ | with_reducible refine Su.x_isi_str_bool ?_ | with_reducible refine Su.x_isi_str_str ?_ | with_reducible refine Su.x_isi_str_list ?_ | with_reducible refine Su.x_isi_str_tuple ?_ | with_reducible refine Su.x_isi_NoneType_int ?_ | with_reducible refine Su.x_isi_NoneType_bool ?_ | with_reducible refine Su.x_isi_NoneType_str ?_ | with_reducible refine Su.x_isi_NoneType_list ?_ | with_reducible refine Su.x_isi_NoneType_tuple ?_ | with_reducible refine Su.x_rGt ?_ | with_reducible refine Su.x_rGe ?_ | with_reducible refine Su.x_iteF ?_ | with_reducible refine Su.x_iteT ?_ | with_reducible refine Su.x_iteNT ?_ | with_reducible refine Su.x_iteNF ?_ | with_reducible refine Su.x_eqI ?_ | with_reducible refine Su.x_neI ?_ | with_reducible refine Su.x_eqS ?_ | with_reducible refine Su.x_neS ?_ | with_reducible refine Su.x_eqB ?_ | with_reducible refine Su.x_neB ?_
  | with_reducible refine Su.x_test ?_ | with_reducible refine Su.x_tB ?_ | with_reducible refine Su.x_isB ?_ | with_reducible refine Su.x_isB' ?_ | with_reducible refine Su.x_not ?_ | with_reducible refine Su.x_and ?_ | with_reducible refine Su.x_or ?_
  | with_reducible refine Su.x_andV ?_ | with_reducible refine Su.x_orV ?_ | with_reducible refine Su.x_notV ?_ | with_reducible refine Su.x_chain ?_ | with_reducible refine Su.x_nil ?_ | with_reducible refine Su.x_cons ?_ | with_reducible refine Su.x_cb ?_ | with_reducible refine Su.x_call ?_
  | with_reducible refine Su.x_un ?_ | with_reducible refine Su.x_rU ?_ | with_reducible refine Su.x_abs ?_ | with_reducible refine Su.x_max2 ?_ | with_reducible refine Su.x_min2 ?_ | with_reducible refine Su.x_int1 ?_ | with_reducible refine Su.x_intB ?_
  | with_reducible refine Su.x_lst ?_ | with_reducible refine Su.x_tup ?_ | with_reducible refine Su.x_bmL ?_ | with_reducible refine Su.x_next ?_ | with_reducible refine Su.x_for ?_ | with_reducible refine Su.x_iList ?_ | with_reducible refine Su.x_iRng1 ?_ | with_reducible refine Su.x_iRng2 ?_ | with_reducible refine Su.x_whileN ?_ | with_reducible refine Su.x_iEnum ?_ | with_reducible refine Su.x_iZip ?_ | with_reducible refine Su.x_iZipA ?_ | with_reducible refine Su.x_iTup ?_ | with_reducible refine Su.x_gcons ?_ | with_reducible refine Su.x_gnil ?_ | with_reducible refine Su.x_gsub ?_ | with_reducible refine Su.x_yes ?_ | with_reducible refine Su.x_lc ?_ | with_reducible refine Su.x_sl ?_ | with_reducible refine Su.x_nopart ?_ | with_reducible refine Su.x_part ?_ | with_reducible refine Su.x_isI ?_ | with_reducible refine Su.x_lstRg ?_ | with_reducible refine Su.x_rg1 ?_ | with_reducible refine Su.x_augS ?_ | with_reducible refine Su.x_ipI ?_ | ((with_reducible show L2.tAug _ _ _ _ _ _); refine Su.x_aug rfl ?_) | with_reducible refine Su.x_callS ?_ | with_reducible refine Su.x_tryAs ?_)
local macro_rules | `(tactic| walk_at "xs") => `(tactic| repeat walk_at "x")
local macro_rules | `(tactic| walk_at "if") => `(tactic| first | with_reducible refine Su.x_iteD (fun c => ?_) (fun c => ?_) | with_reducible refine Su.x_iteN (fun c => ?_) (fun c => ?_) | with_reducible refine Su.x_ite (fun c => ?_) (fun c => ?_))
/-! _law_bits -/
def sp_law_bits (K : PySem.W.Frag) : Sp := fun vs H Q _ => ∃ (m : Int) (n : Nat), vs = [.int m, .int n] ∧ n ≤ 1000 ∧ ∀ (p : Addr) (bs : List Bool) (H' : Hp), H p = none → Same H H' → H' p = some (.lst (bs.map V.bl)) → bs.length = n → Q (.ref p) H'
abbrev N_law_bits : List Str := ["_law_number", "_law_size", "_law_row", "_law_at"]
def t_law_bits (K : PySem.W.Frag) : TS :=
 (tSeq (tAsg (tLst tNil) (gName 2))
 (tSeq (tFor (iRng1 (tCons (tVar 1) tNil)) (gName 3)
 (tSeq (tDrop (tBM K "list" rAppend (tVar 2) (tCons (tOp rEq (tOp rMod (tVar 0) (tC (.int 2))) (tC (.int 1))) tNil)))
 (tAsg (tOp rDiv (tVar 0) (tC (.int 2))) (gName 0))))
 (tRet (tVar 2))))

theorem len_law_bits {K : PySem.W.Frag} : ∀ vs H Q E, sp_law_bits K vs H Q E → vs.length = ["a", "b"].length := by
  rintro vs H Q E ⟨_, _, rfl, _⟩; rfl
theorem pure_law_bits {K : PySem.W.Frag} {vs : List V} {H : Hp} {Q : VK} {E : XK} (h : sp_law_bits K vs H Q E) : t_law_bits K { nx := fun _ H' => Q .non H', rt := Q } (start N_law_bits vs) H := by
  obtain ⟨m, n, rfl, hn, k⟩ := h
  unfold t_law_bits
  walk_at "xs"
  refine al_lst fun p H1 np s1 hp => ?_
  walk_at "xs"
  refine ⟨n, rfl, by omega, by omega, for_by turnsR (fun i σ H' => ∃ (m : Int) (u : Option V) (bs : List Bool), σ = [some (.int m), some (.int n), some (.ref p), u] ∧ Same H H' ∧ H' p = some (.lst (bs.map V.bl)) ∧ bs.length = i) ⟨m, none, [], rfl, s1, hp, rfl⟩ (fun _ _ _ _ _ => trivial) ?_ ?_⟩
  · rintro i y σ H2 _ hi ⟨m, u, bs, rfl, s2, hp2, bl⟩ ⟨rfl, rfl⟩
    walk_at "xs"
    refine ⟨tyL (SqL.of hp2), ?_⟩
    walk_at "xs"
    refine x_append hp2 (small (by rw [List.length_map]; omega)) ?_
    walk_at "xs"
    exact ⟨_, _, bs ++ [decide (m % 2 = 1)], rfl, same_upd s2 np, by rw [upd_same, List.map_append]; rfl, by rw [List.length_append, bl]; rfl⟩
  · rintro σ H2 ⟨m, u, bs, rfl, s2, hp2, bl⟩
    walk_at "xs"
    exact k p bs H2 np s2 hp2 (by omega)

end Su
namespace Su
open PySem L2
local macro_rules | `(tactic| walk_at "side") => `(tactic| first | assumption | (show (0 : Int) < _; omega) | (show (0 : Int) ≤ _; omega) | (show (0 : Int) < _; split <;> omega) | (show _ ∨ _; omega) | (show _ ∧ _; omega) | exact ⟨by decide, by decide, by decide⟩ | exact ⟨by first | assumption | omega, by first | assumption | omega⟩)
local macro_rules | `(tactic| walk_at "x") => `(tactic| first
  | with_reducible refine Su.x_seq ?_ | with_reducible refine Su.x_asg ?_ | with_reducible refine Su.x_gname ?_ | with_reducible refine Su.x_drop ?_ | with_reducible refine Su.x_ret ?_ | with_reducible refine Su.x_ifS ?_
  | ((with_reducible show L2.tVar _ _ _ _); refine Su.x_var rfl ?_) | with_reducible refine Su.x_c ?_ | with_reducible refine Su.x_op ?_ | with_reducible refine Su.x_rI0 ?_ | ((with_reducible refine Su.x_rI ?_ ?_); focus walk_at "side")
  | ((with_reducible show L2.rIxL _ (L2.V.ref _) (L2.V.int _) _ _); refine Su.x_ixI (by assumption) (by first | decide | omega) (by omega) ?_) | with_reducible refine Su.x_isi_int_int ?_ | with_reducible refine Su.x_isi_int_bool ?_ | with_reducible refine Su.x_isi_int_str ?_ | with_reducible refine Su.x_isi_int_list ?_ | with_reducible refine Su.x_isi_int_tuple ?_ | with_reducible refine Su.x_isi_bool_int ?_ | with_reducible refine Su.x_isi_bool_bool ?_ | with_reducible refine Su.x_isi_bool_str ?_ | with_reducible refine Su.x_isi_bool_list ?_ | with_reducible refine Su.x_isi_bool_tuple ?_ | with_reducible refine Su.x_isi_str_int ?_ | with_reducible refine Su.x_isi_str_bool ?_ | with_reducible refine Su.x_isi_str_str ?_ | with_reducible refine Su.x_isi_str_list ?_ | with_reducible refine Su.x_isi_str_tuple ?_ | with_reducible refine Su.x_isi_NoneType_int ?_ | with_reducible refine Su.x_isi_NoneType_bool ?_ | with_reducible refine Su.x_isi_NoneType_str ?_ | with_reducible refine Su.x_isi_NoneType_list ?_ | with_reducible refine Su.x_isi_NoneType_tuple ?_ | with_reducible refine Su.x_rGt ?_ | with_reducible refine Su.x_rGe ?_ | with_reducible refine Su.x_iteF ?_ | with_reducible refine Su.x_iteT ?_ | with_reducible refine Su.x_iteNT ?_ | with_reducible refine Su.x_iteNF ?_ | with_reducible refine Su.x_eqI ?_ | with_reducible refine Su.x_neI ?_ | with_reducible refine Su.x_eqS ?_ | with_reducible refine Su.x_neS ?_ | with_reducible refine Su.x_eqB ?_ | with_reducible refine Su.x_neB ?_
  | with_reducible refine Su.x_test ?_ | with_reducible refine Su.x_tB ?_ | with_reducible refine Su.x_isB ?_ | with_reducible refine Su.x_isB' ?_ | with_reducible refine Su.x_not ?_ | with_reducible refine Su.x_and ?_ | with_reducible refine Su.x_or ?_
  | with_reducible refine Su.x_andV ?_ | with_reducible refine Su.x_orV ?_ | with_reducible refine Su.x_notV ?_ | with_reducible refine Su.x_chain ?_ | with_reducible refine Su.x_nil ?_ | with_reducible refine Su.x_cons ?_ | with_reducible refine Su.x_cb ?_ | with_reducible refine Su.x_call ?_
  | with_reducible refine Su.x_un ?_ | with_reducible refine Su.x_rU ?_ | with_reducible refine Su.x_abs ?_ | with_reducible refine Su.x_max2 ?_ | with_reducible refine Su.x_min2 ?_ | with_reducible refine Su.x_int1 ?_ | with_reducible refine Su.x_intB ?_
  | with_reducible refine Su.x_lst ?_ | with_reducible refine Su.x_tup ?_ | with_reducible refine Su.x_bmL ?_ | with_reducible refine Su.x_next ?_ | with_reducible refine Su.x_for ?_ | with_reducible refine Su.x_iList ?_ | with_reducible refine Su.x_iRng1 ?_ | with_reducible refine Su.x_iRng2 ?_ | with_reducible refine Su.x_whileN ?_ | with_reducible refine Su.x_iEnum ?_ | with_reducible refine Su.x_iZip ?_ | with_reducible refine Su.x_iZipA ?_ | with_reducible refine Su.x_iTup ?_ | with_reducible refine Su.x_gcons ?_ | with_reducible refine Su.x_gnil ?_ | with_reducible refine Su.x_gsub ?_ | with_reducible refine Su.x_yes ?_ | with_reducible refine Su.x_lc ?_ | with_reducible refine Su.x_sl ?_ | with_reducible refine Su.x_nopart ?_ | with_reducible refine Su.x_part ?_ | with_reducible refine Su.x_isI ?_ | with_reducible refine Su.x_lstRg ?_ | with_reducible refine Su.x_rg1 ?_ | with_reducible refine Su.x_augS ?_ | with_reducible refine Su.x_ipI ?_ | ((with_reducible show L2.tAug _ _ _ _ _ _); refine Su.x_aug rfl ?_) | with_reducible refine Su.x_callS ?_ | with_reducible refine Su.x_tryAs ?_)
local macro_rules | `(tactic| walk_at "xs") => `(tactic| repeat walk_at "x")
local macro_rules | `(tactic| walk_at "if") => `(tactic| first | with_reducible refine Su.x_iteD (fun c => ?_) (fun c => ?_) | with_reducible refine Su.x_iteN (fun c => ?_) (fun c => ?_) | with_reducible refine Su.x_ite (fun c => ?_) (fun c => ?_))
/-! _law_paid -/
def sp_law_paid (K : PySem.W.Frag) : Sp := fun vs H Q _ => ∃ (a : Addr) (rows : List Int) (t n : Nat) (way : Int), vs = [.ref a, .int t, .int n, .int way] ∧ SqL K H a (rows.map V.int) ∧ 1 ≤ t ∧ 2 * t ≤ rows.length ∧ 1 ≤ n ∧ n ≤ 1000 ∧ ∀ (p : Addr) (bs : List Bool) (H' : Hp), H p = none → Same H H' → H' p = some (.lst (bs.map V.bl)) → bs.length = n → Q (.ref p) H'
abbrev N_law_paid : List Str := ["_law_some", "_law_turn", "_law_size", "_law_way", "_law_raw", "_law_other", "_law_row"]
def t_law_paid (K : PySem.W.Frag) : TS :=
 (tSeq (tAsg (tOp (rIxL K) (tVar 0) (tOp rSub (tOp rMul (tC (.int 2)) (tVar 1)) (tC (.int 2)))) (gName 4))
 (tSeq (tAsg (tOp (rIxL K) (tVar 0) (tOp rSub (tOp rMul (tC (.int 2)) (tVar 1)) (tC (.int 1)))) (gName 5))
 (tSeq (tIfS (tTest (tOp rEq (tOp rMod (tVar 3) (tC (.int 4))) (tC (.int 0))))
 (tRet (tCall (sp_law_bits K) [] E0 (tCons (tOp rOr (tVar 4) (tVar 5)) (tCons (tVar 2) tNil))))
 tNext)
 (tSeq (tIfS (tTest (tOp rEq (tOp rMod (tVar 3) (tC (.int 4))) (tC (.int 1))))
 (tRet (tCall (sp_law_bits K) [] E0 (tCons (tVar 4) (tCons (tVar 2) tNil))))
 tNext)
 (tSeq (tAsg (tOp rRep (tLst (tCons (tC (.bl true)) tNil)) (tVar 2)) (gName 6))
 (tSeq (tAsg (tOp rEq (tOp rMod (tVar 5) (tC (.int 3))) (tC (.int 0))) (gSub (tVar 6) (tOp rMod (tVar 4) (tVar 2)) rSetL))
 (C8.tCut (tIfS (tTest (tOp rEq (tOp rMod (tVar 3) (tC (.int 4))) (tC (.int 2))))
 (tAsg (tC (.bl false)) (gSub (tVar 6) (tOp rMod (tVar 5) (tVar 2)) rSetL))
 tNext)
 (tRet (tVar 6)))))))))

theorem len_law_paid {K : PySem.W.Frag} : ∀ vs H Q E, sp_law_paid K vs H Q E → vs.length = ["a", "b", "c", "d"].length := by
  rintro vs H Q E ⟨_, _, _, _, _, rfl, _⟩; rfl
theorem pure_law_paid {K : PySem.W.Frag} {vs : List V} {H : Hp} {Q : VK} {E : XK} (h : sp_law_paid K vs H Q E) : t_law_paid K { nx := fun _ H' => Q .non H', rt := Q } (start N_law_paid vs) H := by
  obtain ⟨a, rows, t, n, way, rfl, hS, t1, t2, n1, n2, k⟩ := h
  unfold t_law_paid
  walk_at "xs"
  refine x_ixL hS (at_getI (by omega) (by omega)) ?_
  walk_at "xs"
  refine x_ixL hS (at_getI (by omega) (by omega)) ?_
  generalize rows.getD (2 * (t : Int) - 2).toNat 0 = raw
  generalize rows.getD (2 * (t : Int) - 1).toNat 0 = oth
  walk_at "xs"
  walk_at "if"
  · walk_at "xs"
    exact ⟨_, n, rfl, n2, k⟩
  walk_at "xs"
  walk_at "if"
  · walk_at "xs"
    exact ⟨_, n, rfl, n2, k⟩
  walk_at "xs"
  refine al_lst fun m1 H1 nm1 q1 hm1 => ?_
  walk_at "xs"
  refine al_rep hm1 (by omega) fun p H2 np q2 hp _ => ?_
  have b1 := b_mod raw (n : Int) (by omega)
  have b2 := b_mod oth (n : Int) (by omega)
  have np0 := q1.free np
  have hp' : H2 p = some (.lst ((List.replicate n true).map V.bl)) := by rw [hp, List.map_replicate]
  walk_at "xs"
  refine x_setL hp' (by omega) (by rw [List.length_map, List.length_replicate]; omega) ?_
  have e1 : ((List.replicate n true).map V.bl).set (raw % (n : Int)).toNat (.bl (decide (oth % 3 = 0))) = ((List.replicate n true).set (raw % (n : Int)).toNat (decide (oth % 3 = 0))).map V.bl := by rw [List.map_set]
  rw [e1]
  generalize hbs : (List.replicate n true).set (raw % (n : Int)).toNat (decide (oth % 3 = 0)) = bs
  have bl : bs.length = n := by rw [← hbs]; simp
  have s3 := same_upd (o := .lst (bs.map V.bl)) (q1.trans q2) np0
  have hp3 : upd H2 p (.lst (bs.map V.bl)) p = some (.lst (bs.map V.bl)) := upd_same
  generalize upd H2 p (.lst (bs.map V.bl)) = H3 at s3 hp3 ⊢
  refine x_cut (fun σ H' => ∃ bs : List Bool, σ = [some (.ref a), some (.int t), some (.int n), some (.int way), some (.int raw), some (.int oth), some (.ref p)] ∧ Same H H' ∧ H' p = some (.lst (bs.map V.bl)) ∧ bs.length = n) ?_ ?_
  · walk_at "xs"
    walk_at "if"
    · walk_at "xs"
      refine x_setL hp3 (by omega) (by rw [List.length_map]; omega) ?_
      exact ⟨bs.set (oth % (n : Int)).toNat false, rfl, same_upd s3 np0, by rw [upd_same, List.map_set], by simp [bl]⟩
    · exact ⟨bs, rfl, s3, hp3, bl⟩
  rintro _ H4 ⟨bs, rfl, s4, hp4, bl⟩
  walk_at "xs"
  exact k p bs H4 np0 s4 hp4 bl

end Su
namespace Su
open PySem L2
local macro_rules | `(tactic| walk_at "side") => `(tactic| first | assumption | (show (0 : Int) < _; omega) | (show (0 : Int) ≤ _; omega) | (show (0 : Int) < _; split <;> omega) | (show _ ∨ _; omega) | (show _ ∧ _; omega) | exact ⟨by decide, by decide, by decide⟩ | exact ⟨by first | assumption | omega, by first | assumption | omega⟩)
local macro_rules | `(tactic| walk_at "x") => `(tactic| first
  | with_reducible refine Su.x_seq ?_ | with_reducible refine Su.x_asg ?_ | with_reducible refine Su.x_gname ?_ | with_reducible refine Su.x_drop ?_ | with_reducible refine Su.x_ret ?_ | with_reducible refine Su.x_ifS ?_
  | ((with_reducible show L2.tVar _ _ _ _); refine Su.x_var rfl ?_) | with_reducible refine Su.x_c ?_ | with_reducible refine Su.x_op ?_ | with_reducible refine Su.x_rI0 ?_ | ((with_reducible refine Su.x_rI ?_ ?_); focus walk_at "side")
  | ((with_reducible show L2.rIxL _ (L2.V.ref _) (L2.V.int _) _ _); refine Su.x_ixI (by assumption) (by first | decide | omega) (by omega) ?_) | with_reducible refine Su.x_isi_int_int ?_ | with_reducible refine Su.x_isi_int_bool ?_ | with_reducible refine Su.x_isi_int_str ?_ | with_reducible refine Su.x_isi_int_list ?_ | with_reducible refine Su.x_isi_int_tuple ?_ | with_reducible refine Su.x_isi_bool_int ?_ | with_reducible refine Su.x_isi_bool_bool ?_ | with_reducible refine Su.x_isi_bool_str ?_ | with_reducible refine Su.x_isi_bool_list ?_ | with_reducible refine Su.x_isi_bool_tuple ?_ | with_reducible refine Su.x_isi_str_int ?_ | with_reducible refine Su.x_isi_str_bool ?_ | with_reducible refine Su.x_isi_str_str ?_ | with_reducible refine Su.x_isi_str_list ?_ | with_reducible refine Su.x_isi_str_tuple ?_ | with_reducible refine Su.x_isi_NoneType_int ?_ | with_reducible refine Su.x_isi_NoneType_bool ?_ | with_reducible refine Su.x_isi_NoneType_str ?_ | with_reducible refine Su.x_isi_NoneType_list ?_ | with_reducible refine Su.x_isi_NoneType_tuple ?_ | with_reducible refine Su.x_rGt ?_ | with_reducible refine Su.x_rGe ?_ | with_reducible refine Su.x_iteF ?_ | with_reducible refine Su.x_iteT ?_ | with_reducible refine Su.x_iteNT ?_ | with_reducible refine Su.x_iteNF ?_ | with_reducible refine Su.x_eqI ?_ | with_reducible refine Su.x_neI ?_ | with_reducible refine Su.x_eqS ?_ | with_reducible refine Su.x_neS ?_ | with_reducible refine Su.x_eqB ?_ | with_reducible refine Su.x_neB ?_
  | with_reducible refine Su.x_test ?_ | with_reducible refine Su.x_tB ?_ | with_reducible refine Su.x_isB ?_ | with_reducible refine Su.x_isB' ?_ | with_reducible refine Su.x_not ?_ | with_reducible refine Su.x_and ?_ | with_reducible refine Su.x_or ?_
  | with_reducible refine Su.x_andV ?_ | with_reducible refine Su.x_orV ?_ | with_reducible refine Su.x_notV ?_ | with_reducible refine Su.x_chain ?_ | with_reducible refine Su.x_nil ?_ | with_reducible refine Su.x_cons ?_ | with_reducible refine Su.x_cb ?_ | with_reducible refine Su.x_call ?_
  | with_reducible refine Su.x_un ?_ | with_reducible refine Su.x_rU ?_ | with_reducible refine Su.x_abs ?_ | with_reducible refine Su.x_max2 ?_ | with_reducible refine Su.x_min2 ?_ | with_reducible refine Su.x_int1 ?_ | with_reducible refine Su.x_intB ?_
  | with_reducible refine Su.x_lst ?_ | with_reducible refine Su.x_tup ?_ | with_reducible refine Su.x_bmL ?_ | with_reducible refine Su.x_next ?_ | with_reducible refine Su.x_for ?_ | with_reducible refine Su.x_iList ?_ | with_reducible refine Su.x_iRng1 ?_ | with_reducible refine Su.x_iRng2 ?_ | with_reducible refine Su.x_whileN ?_ | with_reducible refine Su.x_iEnum ?_ | with_reducible refine Su.x_iZip ?_ | with_reducible refine Su.x_iZipA ?_ | with_reducible refine Su.x_iTup ?_ | with_reducible refine Su.x_gcons ?_ | with_reducible refine Su.x_gnil ?_ | with_reducible refine Su.x_gsub ?_ | with_reducible refine Su.x_yes ?_ | with_reducible refine Su.x_lc ?_ | with_reducible refine Su.x_sl ?_ | with_reducible refine Su.x_nopart ?_ | with_reducible refine Su.x_part ?_ | with_reducible refine Su.x_isI ?_ | with_reducible refine Su.x_lstRg ?_ | with_reducible refine Su.x_rg1 ?_ | with_reducible refine Su.x_augS ?_ | with_reducible refine Su.x_ipI ?_ | ((with_reducible show L2.tAug _ _ _ _ _ _); refine Su.x_aug rfl ?_) | with_reducible refine Su.x_callS ?_ | with_reducible refine Su.x_tryAs ?_)
local macro_rules | `(tactic| walk_at "xs") => `(tactic| repeat walk_at "x")
local macro_rules | `(tactic| walk_at "if") => `(tactic| first | with_reducible refine Su.x_iteD (fun c => ?_) (fun c => ?_) | with_reducible refine Su.x_iteN (fun c => ?_) (fun c => ?_) | with_reducible refine Su.x_ite (fun c => ?_) (fun c => ?_))
local macro_rules | `(tactic| walk_at "x") => `(tactic| first | with_reducible refine Su.x_m1 ?_ | with_reducible refine Su.x_strE ?_ | with_reducible refine Su.x_m0 ?_ | with_reducible refine Su.x_dnew ?_ | with_reducible refine Su.x_dput ?_ | with_reducible refine Su.x_dgetE ?_ | with_reducible refine Su.x_dget2 ?_ | with_reducible refine Su.x_daug ?_ | with_reducible refine Su.x_din ?_ | with_reducible refine Su.x_dnin ?_ | with_reducible refine Su.x_brk ?_ | with_reducible refine Su.x_retN ?_)
local macro_rules | `(tactic| walk_at "at") => `(tactic| first | assumption | (refine Su.f_at (by assumption) ?_; walk_at "at"))
local macro_rules | `(tactic| walk_at "sm") => `(tactic| first | assumption | exact L2.Same.refl _ | (refine Su.f_tr (by assumption) ?_; walk_at "sm"))
local macro_rules | `(tactic| walk_at "hp") => `(tactic| first | assumption | ((with_reducible refine Su.f_sqL ?_); walk_at "at") | ((with_reducible refine Su.f_sqT ?_); walk_at "at") | ((with_reducible show L2.Same _ _); walk_at "sm") | ((with_reducible show _ = none); refine Su.f_free ?_ (by assumption); walk_at "sm") | ((with_reducible show _ = some _); walk_at "at") | (refine Su.f_dp (by assumption) ?_; walk_at "hp") | (refine Su.f_dpA (by assumption) ?_; walk_at "hp") | (refine Su.f_sqLs (by assumption) ?_; walk_at "hp") | (refine Su.f_sqTs (by assumption) ?_; walk_at "hp"))
local macro_rules | `(tactic| walk_at "x") => `(tactic| first | with_reducible refine Su.x_fld ?_ | with_reducible refine Su.x_sfld ?_ | with_reducible refine Su.x_sfldAug ?_ | with_reducible refine Su.x_meth ?_ | with_reducible refine Su.x_methW ?_ | with_reducible refine Su.x_make ?_ | with_reducible refine Su.x_makeW ?_ | with_reducible refine Su.c_stake (by assumption) ?_ | with_reducible refine Su.c_size (by assumption) ?_ | with_reducible refine Su.c_bidding (by assumption) ?_ | with_reducible refine Su.c_now (by assumption) ?_ | with_reducible refine Su.c_line (by assumption) ?_ | with_reducible refine Su.c_due (by assumption) ?_ | with_reducible refine Su.c_chest (by assumption) ?_ | with_reducible refine Su.c_state (by assumption) ?_ | with_reducible refine Su.c_when (by assumption) ?_ | with_reducible refine Su.c_pledged (by assumption) ?_ | with_reducible refine Su.c_given (by assumption) ?_ | with_reducible refine Su.c_drawn (by assumption) ?_ | with_reducible refine Su.c_shared (by assumption) ?_ | with_reducible refine Su.c_missed (by assumption) ?_ | with_reducible refine Su.c_flows (by assumption) ?_)
local macro_rules | `(tactic| walk_at "me") => `(tactic| first | refine Su.c_meth (by assumption) rfl ?_ | refine Su.so_meth (by assumption) rfl ?_)
local macro_rules | `(tactic| walk_at "x") => `(tactic| first | with_reducible refine Su.s_0 (by assumption) ?_ | with_reducible refine Su.s_1 (by assumption) ?_ | with_reducible refine Su.s_2 (by assumption) ?_ | with_reducible refine Su.s_3 (by assumption) ?_ | with_reducible refine Su.s_4 (by assumption) ?_ | with_reducible refine Su.s_5 (by assumption) ?_ | with_reducible refine Su.s_6 (by assumption) ?_ | with_reducible refine Su.s_7 (by assumption) ?_ | with_reducible refine Su.s_8 (by assumption) ?_)
def sp_law (K : PySem.W.Frag) : Sp := fun vs H Q _ => ∃ (a : Addr) (ns : List Int), vs = [.ref a] ∧ SqL K H a (ns.map V.int) ∧ ns.length ≤ 63 ∧ ClsT K "Circle" cirNames ∧ ∀ H', Q (.bl true) H'
section
variable {K : PySem.W.Frag} {G H H' : Hp} {a b : Nat → Addr} {n : Nat} {s : Int} {st : CS}
theorem Duo.same (h : Duo K H a b n s st) (q : Same H H') : Duo K H' a b n s st := ⟨h.ca.same q, h.cb.same q, h.z, h.wf, h.nn, h.st_⟩
theorem Duo.off (h : Duo K H a b n s st) {A : List Addr} (o : Off A H H') (d : ∀ y ∈ cirFoot a n ++ stFoot b n, y ∉ A) : Duo K H' a b n s st :=
  ⟨h.ca.off o (by rw [h.z]; exact fun y hy => d y (List.mem_append_left _ hy)), h.cb.off o (by rw [h.z]; exact fun y hy => d y (List.mem_append_right _ hy)), h.z, h.wf, h.nn, h.st_⟩
theorem Duo.fresh (h : Duo K H a b n s st) {y : Addr} (e : H y = none) : y ∉ cirFoot a n ++ stFoot b n := fun z => by
  rcases List.mem_append.mp z with q | q
  · have := h.ca.fresh e; rw [h.z] at this; exact this q
  · have := h.cb.fresh e; rw [h.z] at this; exact this q
structure RowsAt (s : Int) (n : Nat) (H : Hp) (m : Nat) (w f g : Nat → Addr) (P : Nat → List Bool) (B : Nat → List Int) : Prop where
  w : ∀ k, k < m → H (w k) = some (.tup [.ref (f k), .ref (g k)])
  f : ∀ k, k < m → H (f k) = some (.lst ((P k).map V.bl))
  g : ∀ k, k < m → H (g k) = some (.lst ((B k).map V.int))
  pl : ∀ k, k < m → (P k).length = n
  bl : ∀ k, k < m → (B k).length = n
  ok : ∀ k, k < m → ∀ x ∈ B k, 0 ≤ x ∧ x ≤ s * (n : Int)
theorem RowsAt.same {m : Nat} {w f g : Nat → Addr} {P : Nat → List Bool} {B : Nat → List Int} (h : RowsAt s n H m w f g P B) (q : Same H H') : RowsAt s n H' m w f g P B :=
  ⟨fun k hk => q _ _ (h.w k hk), fun k hk => q _ _ (h.f k hk), fun k hk => q _ _ (h.g k hk), h.pl, h.bl, h.ok⟩
theorem RowsAt.push {m : Nat} {w f g : Nat → Addr} {P : Nat → List Bool} {B : Nat → List Int} (h : RowsAt s n H m w f g P B) {w1 f1 g1 : Addr} {P1 : List Bool} {B1 : List Int} (hw : H w1 = some (.tup [.ref f1, .ref g1])) (hf : H f1 = some (.lst (P1.map V.bl))) (hg : H g1 = some (.lst (B1.map V.int))) (l1 : P1.length = n) (l2 : B1.length = n) (ok : ∀ x ∈ B1, 0 ≤ x ∧ x ≤ s * (n : Int)) :
    RowsAt s n H (m + 1) (fun k => if k = m then w1 else w k) (fun k => if k = m then f1 else f k) (fun k => if k = m then g1 else g k) (fun k => if k = m then P1 else P k) (fun k => if k = m then B1 else B k) := by
  refine ⟨fun k hk => ?_, fun k hk => ?_, fun k hk => ?_, fun k hk => ?_, fun k hk => ?_, fun k hk => ?_⟩
  all_goals by_cases c : k = m
  · simp only [if_pos c]; exact hw
  · simp only [if_neg c]; exact h.w k (by omega)
  · simp only [if_pos c]; exact hf
  · simp only [if_neg c]; exact h.f k (by omega)
  · simp only [if_pos c]; exact hg
  · simp only [if_neg c]; exact h.g k (by omega)
  · simp only [if_pos c]; exact l1
  · simp only [if_neg c]; exact h.pl k (by omega)
  · simp only [if_pos c]; exact l2
  · simp only [if_neg c]; exact h.bl k (by omega)
  · simp only [if_pos c]; exact ok
  · simp only [if_neg c]; exact h.ok k (by omega)
end
theorem refs_more {m : Nat} {r : Nat → Addr} {r1 : Addr} : (List.range m).map (fun k => V.ref (r k)) ++ [.ref r1] = (List.range (m + 1)).map fun k => V.ref (if k = m then r1 else r k) := by
  rw [List.range_succ, List.map_append]
  congr 1
  · apply List.map_congr_left
    intro k hk
    rw [if_neg (by have := List.mem_range.mp hk; omega)]
  · simp
theorem back_eq {r : SeatR} : r.pl + r.gv * (if decide (r.st.s = ("fell" : Str)) = true then 1 else 0) = backSeat r := by
  unfold backSeat
  by_cases c : r.st = .fell
  · rw [decide_eq_true ((seat_fell _).mpr c), if_pos c]; simp
  · rw [decide_eq_false (fun z => c ((seat_fell _).mp z)), if_neg c]; simp
theorem back_list {st : CS} : (List.range st.size).map (fun j => V.int (backSeat (st.get j))) = (backS st).map V.int := by
  unfold backS
  apply List.ext_getElem
  · simp [CS.size]
  · intro k h1 h2
    have hk : k < st.seats.length := by simpa using h1
    simp [CS.get, List.getD_eq_getElem?_getD, List.getElem?_eq_getElem hk]
theorem back_len {st : CS} (wf : WF st) : (backS st).length ≤ 1000 := by unfold backS; rw [List.length_map]; show st.size ≤ 1000; have := wf.n2; omega
abbrev N_law : List Str := ["_law_script", "_law_some", "_law_size", "_law_stake", "_law_bidding", "_law_pledges", "_law_wishes", "_law_circle", "_law_state", "_law_many", "_law_rows", "_law_turn", "_law_bids", "_law_other", "_law_kept", "_law_paid_here", "_law_one", "_law_due", "_law_at", "_law_seat"]
def t_law (K : PySem.W.Frag) : TS :=
 (tSeq (tAsg (tCall (sp_law_draws K) [] E0 (tCons (tVar 0) (tCons (tC (.int 170)) tNil))) (gName 1))
 (tSeq (tAsg (tOp rAdd (tC (.int 2)) (tOp rMod (tOp (rIxL K) (tVar 1) (tC (.int 0))) (tC (.int 11)))) (gName 2))
 (tSeq (tAsg (tOp rAdd (tC (.int 1)) (tOp rMod (tOp (rIxL K) (tVar 1) (tC (.int 1))) (tOp (rIxL K) (tLst (tCons (tC (.int 7)) (tCons (tC (.int 1000000)) tNil))) (tOp rMod (tOp (rIxL K) (tVar 1) (tC (.int 2))) (tC (.int 2)))))) (gName 3))
 (tSeq (tAsg (tOp rEq (tOp rMod (tOp (rIxL K) (tVar 1) (tC (.int 4))) (tC (.int 2))) (tC (.int 1))) (gName 4))
 (tSeq (tAsg (tCall (sp_law_opening K) [] E0 (tCons (tSl (rSlL K) (tVar 1) (tPart (tC (.int 40))) tNoPart) (tCons (tVar 2) (tCons (tVar 3) tNil)))) (gTup K 2 (gCons (gName 5) (gCons (gName 6) gNil))))
 (tSeq (tAsg (tMake (He.ga K "Circle") (sp_Circle_init K) [] E0 (tCons (tVar 3) (tCons (tCB (rListOf K) (tCons (tVar 5) tNil)) (tCons (tVar 6) (tCons (tVar 4) tNil))))) (gName 7))
 (tSeq (tAsg (tCall (sp_law_new K) [] E0 (tCons (tVar 3) (tCons (tVar 5) (tCons (tVar 6) (tCons (tVar 4) tNil))))) (gName 8))
 (tSeq (tAsg (tOp rMod (tOp (rIxL K) (tVar 1) (tC (.int 5))) (tOp rAdd (tVar 2) (tC (.int 1)))) (gName 9))
 (tSeq (tAsg (tLst tNil) (gName 10))
 (tSeq (tFor (iRng2 (tCons (tC (.int 1)) (tCons (tOp rAdd (tOp rMul (tC (.int 2)) (tVar 2)) (tC (.int 2))) tNil))) (gName 11)
 (tSeq (tAsg (tLc (iRng1 (tCons (tVar 2) tNil)) (gName 18) tYes (tOp rMod (tOp (rIxL K) (tVar 1) (tOp rAdd (tOp rAdd (tC (.int 66)) (tOp rMul (tC (.int 8)) (tOp rMod (tVar 11) (tC (.int 12))))) (tVar 18))) (tOp rAdd (tOp rMul (tVar 3) (tVar 2)) (tC (.int 1)))) [18]) (gName 12))
 (tDrop (tBM K "list" rAppend (tVar 10) (tCons (tTup (tCons (tCall (sp_law_paid K) [] E0 (tCons (tSl (rSlL K) (tVar 1) (tPart (tC (.int 6))) tNoPart) (tCons (tVar 11) (tCons (tVar 2) (tCons (tOp rAdd (tOp (rIxL K) (tVar 1) (tC (.int 3))) (tOp rDiv (tVar 11) (tC (.int 9)))) tNil))))) (tCons (tVar 12) tNil))) tNil)))))
 (tSeq (tFor (iRng1 (tCons (tVar 9) tNil)) (gName 11)
 (tIfS (tNot (tB (tCall (sp_law_same K) [] E0 (tCons (tMeth (He.ga K "Circle") "close" (sp_Circle_close K) [] E0 (tVar 7) (tCons (tOp (rIxT K) (tOp (rIxL K) (tVar 10) (tVar 11)) (tC (.int 0))) (tCons (tOp (rIxT K) (tOp (rIxL K) (tVar 10) (tVar 11)) (tC (.int 1))) tNil))) (tCons (tCall (sp_law_round K) [] E0 (tCons (tVar 8) (tCons (tOp (rIxT K) (tOp (rIxL K) (tVar 10) (tVar 11)) (tC (.int 0))) (tCons (tOp (rIxT K) (tOp (rIxL K) (tVar 10) (tVar 11)) (tC (.int 1))) tNil)))) tNil)))))
 (tRet (tC (.bl false)))
 tNext))
 (tSeq (tAsg (tMeth (He.ga K "Circle") "twin" (sp_Circle_twin K) [] E0 (tVar 7) tNil) (gName 13))
 (tSeq (tAsg (tCall (sp_law_copy K) [] E0 (tCons (tVar 8) tNil)) (gName 14))
 (tSeq (tFor (iRng1 (tCons (tOp rSub (tVar 2) (tVar 9)) tNil)) (gName 11)
 (tSeq (tIfS (tOr (tNot (tB (tCall (sp_law_alike K) [] E0 (tCons (tVar 7) (tCons (tVar 8) tNil))))) (tNot (tB (tCall (sp_law_alike K) [] E0 (tCons (tVar 13) (tCons (tVar 14) tNil))))))
 (tRet (tC (.bl false)))
 tNext)
 (tSeq (tAsg (tOp (rIxL K) (tVar 10) (tOp rAdd (tVar 9) (tVar 11))) (gTup K 2 (gCons (gName 15) (gCons (gName 12) gNil))))
 (tSeq (tIfS (tOr (tNot (tB (tCall (sp_law_done K) [] E0 (tCons (tVar 7) (tCons (tVar 8) (tCons (tVar 15) (tCons (tVar 12) tNil))))))) (tNot (tB (tCall (sp_law_alike K) [] E0 (tCons (tVar 13) (tCons (tVar 14) tNil))))))
 (tRet (tC (.bl false)))
 tNext)
 (tSeq (tAsg (tOp (rIxL K) (tVar 10) (tOp rAdd (tVar 2) (tVar 11))) (gTup K 2 (gCons (gName 15) (gCons (gName 12) gNil))))
 (tIfS (tNot (tB (tCall (sp_law_done K) [] E0 (tCons (tVar 13) (tCons (tVar 14) (tCons (tVar 15) (tCons (tVar 12) tNil)))))))
 (tRet (tC (.bl false)))
 tNext))))))
 (tSeq (tIfS (tOr (tNot (tB (tCall (sp_law_alike K) [] E0 (tCons (tVar 7) (tCons (tVar 8) tNil))))) (tOr (tNot (tB (tCall (sp_law_alike K) [] E0 (tCons (tVar 13) (tCons (tVar 14) tNil))))) (tNot (tB (tCall (sp_law_alike K) [] E0 (tCons (tMeth (He.ga K "Circle") "twin" (sp_Circle_twin K) [] E0 (tVar 13) tNil) (tCons (tVar 14) tNil)))))))
 (tRet (tC (.bl false)))
 tNext)
 (tSeq (tFor (iList K (tLst (tCons (tTup (tCons (tVar 7) (tCons (tVar 8) tNil))) (tCons (tTup (tCons (tVar 13) (tCons (tVar 14) tNil))) (tCons (tTup (tCons (tMeth (He.ga K "Circle") "twin" (sp_Circle_twin K) [] E0 (tVar 13) tNil) (tCons (tVar 14) tNil))) tNil))))) (gTup K 2 (gCons (gName 16) (gCons (gName 17) gNil)))
 (tIfS (tNot (tB (tCall (sp_law_same K) [] E0 (tCons (tMeth (He.ga K "Circle") "refunds" (sp_Circle_refunds K) [] E0 (tVar 16) tNil) (tCons (tLc (iList K (tOp (rIxL K) (tVar 17) (tC (.int 7)))) (gName 19) tYes (tOp rAdd (tOp (rIxL K) (tVar 19) (tC (.int 2))) (tOp rMul (tOp (rIxL K) (tVar 19) (tC (.int 3))) (tCB rInt1 (tCons (tOp rEq (tOp (rIxL K) (tVar 19) (tC (.int 0))) (tC (.str "fell"))) tNil)))) [19]) tNil)))))
 (tRet (tC (.bl false)))
 tNext))
 (tRet (tC (.bl true)))))))))))))))))))

theorem len_law {K : PySem.W.Frag} : ∀ vs H Q E, sp_law K vs H Q E → vs.length = ["_law_script"].length := by
  rintro vs H Q E ⟨s, n, rfl, _⟩; rfl
theorem pure_law {K : PySem.W.Frag} {vs : List V} {H : Hp} {Q : VK} {E : XK} (h : sp_law K vs H Q E) : t_law K { nx := fun _ H' => Q .non H', rt := Q } (start N_law vs) H := by
  obtain ⟨sa, sc, rfl, hS, hl, t, k⟩ := h
  unfold t_law
  walk_at "xs"
  refine ⟨sa, sc, 170, rfl, hS, hl, by decide, fun p rows H1 np q1 hp hm hm2 hb => ?_⟩
  walk_at "xs"
  have m0 := b_mod (rows.getD (Int.toNat 0) 0) 11 (by decide)
  obtain ⟨n, hn⟩ : ∃ n : Nat, 2 + rows.getD (Int.toNat 0) 0 % 11 = n := ⟨(2 + rows.getD (Int.toNat 0) 0 % 11).toNat, by omega⟩
  rw [hn]
  have n2 : 2 ≤ n ∧ n ≤ 12 := by omega
  clear hn m0
  refine al_lst fun m1 H2 nm1 q2 hm1 => ?_
  have hp2 := q2 _ _ hp
  walk_at "xs"
  have m1' := b_mod (rows.getD (Int.toNat 2) 0) 2 (by decide)
  obtain ⟨d, hd, d1, d2⟩ : ∃ d : Int, atI ([.int 7, .int 1000000] : List V) (rows.getD (Int.toNat 2) 0 % 2) = some (.int d) ∧ 1 ≤ d ∧ d ≤ 1000000 := by
    rcases (by omega : rows.getD (Int.toNat 2) 0 % 2 = 0 ∨ rows.getD (Int.toNat 2) 0 % 2 = 1) with e | e <;> rw [e]
    · exact ⟨7, rfl, by decide, by decide⟩
    · exact ⟨1000000, rfl, by decide, by decide⟩
  refine x_ixL (SqL.of hm1) hd ?_
  have m2 := b_mod (rows.getD (Int.toNat 1) 0) d (by omega)
  walk_at "xs"
  obtain ⟨s, hs⟩ : ∃ s : Int, 1 + rows.getD (Int.toNat 1) 0 % d = s := ⟨_, rfl⟩
  rw [hs]
  have s2 : 1 ≤ s ∧ s ≤ 1000000 := by omega
  clear hs m2 hd d1 d2 m1'
  obtain ⟨bd, hbd⟩ : ∃ bd, decide (rows.getD (Int.toNat 4) 0 % 2 = 1) = bd := ⟨_, rfl⟩
  rw [hbd]
  clear hbd
  refine al_from (i := 40) (SqL.of hp2) rfl fun q H3 nq q3 hq => ?_
  walk_at "xs"
  refine ⟨q, rows.drop 40, n, s, rfl, SqL.of hq, n2.1, by omega, by rw [List.length_drop]; omega, s2.1, s2.2, fun T P W pl ws H4 nT nP nW neq q4 hT hP hW oa => ?_⟩
  refine x_gtup (SqT.of hT) rfl ?_
  have hp4 : H4 p = some (.lst (rows.map V.int)) := by walk_at "hp"
  have hpl := oa.len
  walk_at "xs"
  refine al_list (SqL.of hP) fun P2 H5 nP2 q5 hP2 => ?_
  have hp5 := q5 _ _ hp4
  walk_at "xs"
  refine make_circle (b := bd) t (SqL.of hP2) (SqL.of (q5 _ _ hW)) oa fun a row H6 q6 fa c6 io er => ?_
  walk_at "xs"
  refine ⟨s, n, P, W, pl, ws, bd, rfl, SqL.of (q6 _ _ (q5 _ _ hP)), SqL.of (q6 _ _ (q5 _ _ hW)), oa, fun b row' H7 q7 fb c7 er' => ?_⟩
  obtain rfl : row = row' := by rw [er] at er'; exact Paper.order.inj er'
  have B7 := both_start oa io q6 fa c6 q7 fb c7
  have dj := B7.dj
  have N0 : NN (openS s bd pl row) := fun i hi _ => by
    rw [openS_size] at hi
    rw [openS_get hi]
    show 0 ≤ pl.getD i 0
    exact getD_all (P := fun y => 0 ≤ y) (fun y hy => (oa.ok.p y hy).1) (Int.le_refl _) i
  have D7 : Duo K H7 a b n s (openS s bd pl row) := ⟨B7.ca, B7.cb, B7.z, B7.wf, N0, rfl⟩
  have hp7 := B7.at_ hp5
  have sp : 0 ≤ s * (n : Int) := Int.mul_nonneg (by omega) (by omega)
  have m9 := b_mod (rows.getD (Int.toNat 5) 0) ((n : Int) + 1) (by omega)
  walk_at "xs"
  obtain ⟨my, hmy⟩ : ∃ my : Nat, rows.getD (Int.toNat 5) 0 % ((n : Int) + 1) = my := ⟨(rows.getD (Int.toNat 5) 0 % ((n : Int) + 1)).toNat, by omega⟩
  rw [hmy]
  have my2 : my ≤ n := by omega
  clear hmy m9
  refine al_lst fun R H8 nR q8 hR => ?_
  walk_at "xs"
  have en : (2 * (n : Int) + 2 - 1).toNat = 2 * n + 1 := by omega
  refine ⟨1, 2 * (n : Int) + 2, rfl, ⟨by decide, by decide, by omega, by omega⟩, ?_⟩
  rw [en]
  refine for_by turnsR (fun i σ H' => ∃ (u11 u12 : Option V) (w f g : Nat → Addr) (Pd : Nat → List Bool) (Bd : Nat → List Int), σ = [some (.ref sa), some (.ref p), some (.int n), some (.int s), some (.bl bd), some (.ref P), some (.ref W), some (.ref (a 0)), some (.ref (b 0)), some (.int my), some (.ref R), u11, u12, none, none, none, none, none, none, none] ∧ Same H7 H' ∧ H' R = some (.lst ((List.range i).map fun k => .ref (w k))) ∧ RowsAt s n H' i w f g Pd Bd ∧ ∀ k, k < i → (H7 (w k) = none ∧ w k ≠ R) ∧ (H7 (f k) = none ∧ f k ≠ R) ∧ (H7 (g k) = none ∧ g k ≠ R))
    ⟨none, none, fun _ => 0, fun _ => 0, fun _ => 0, fun _ => [], fun _ => [], rfl, q8, hR, ⟨fun k hk => absurd hk (by omega), fun k hk => absurd hk (by omega), fun k hk => absurd hk (by omega), fun k hk => absurd hk (by omega), fun k hk => absurd hk (by omega), fun k hk => absurd hk (by omega)⟩, fun k hk => absurd hk (by omega)⟩ (fun _ _ _ _ _ => trivial) ?_ ?_
  · rintro i y σ H9 _ hi ⟨u11, u12, w, f, g, Pd, Bd, rfl, q9, hR9, RS, ne⟩ ⟨rfl, rfl⟩
    have hp9 := q9 _ _ hp7
    have nR7 : H7 R = none := nR
    walk_at "xs"
    refine ⟨n, rfl, by omega, by omega, fun x3 nx3 => ?_⟩
    refine lc_flat (fun j => some (V.int (rows.getD (66 + 8 * ((1 + i) % 12) + j) 0 % (s * (n : Int) + 1)))) turnsR (fun _ _ => trivial) nx3 ?_ ?_
    · rintro j v Hc _ hj lc ⟨rfl, rfl⟩
      have hpc := lc.s _ _ hp9
      walk_at "xs"
      refine x_wipe rfl ?_
      walk_at "xs"
      rw [show ((66 : Int) + 8 * ((1 + (i : Int)) % 12) + (0 + (j : Int))).toNat = 66 + 8 * ((1 + i) % 12) + j by omega]
      exact lc.keep nx3 (Same.refl _) rfl (by omega)
    intro H10 q10 hx3
    rw [show ((n : Nat) : Int).toNat = n by omega, List.filterMap_eq_map'] at hx3
    obtain ⟨bids, hbids⟩ : ∃ bids : List Int, bids = (List.range n).map fun j => rows.getD (66 + 8 * ((1 + i) % 12) + j) 0 % (s * (n : Int) + 1) := ⟨_, rfl⟩
    have hx3' : H10 x3 = some (.lst (bids.map V.int)) := by rw [hx3, hbids, List.map_map]; rfl
    have bl : bids.length = n := by rw [hbids]; simp
    have bok : ∀ x ∈ bids, 0 ≤ x ∧ x ≤ s * (n : Int) := fun x hx => by
      rw [hbids] at hx
      obtain ⟨j, _, rfl⟩ := List.mem_map.mp hx
      have m3 := b_mod (rows.getD (66 + 8 * ((1 + i) % 12) + j) 0) (s * (n : Int) + 1) (by omega)
      omega
    clear hbids hx3
    have hR10 := q10 _ _ hR9
    have hp10 := q10 _ _ hp9
    walk_at "xs"
    refine ⟨tyL (SqL.of hR10), ?_⟩
    walk_at "xs"
    refine al_from (i := 6) (SqL.of hp10) rfl fun x1 H11 nx1 q11 hx1 => ?_
    have hp11 := q11 _ _ hp10
    walk_at "xs"
    rw [show (1 : Int) + (i : Int) = ((i + 1 : Nat) : Int) by omega]
    refine ⟨x1, rows.drop 6, i + 1, n, _, rfl, SqL.of hx1, by omega, by rw [List.length_drop]; omega, by omega, by omega, fun x2 paid H12 nx2 q12 hx2 pdl => ?_⟩
    walk_at "xs"
    refine al_tup fun x4 H13 nx4 q13 hx4 => ?_
    walk_at "xs"
    have q913 := ((q10.trans q11).trans q12).trans q13
    have hR13 := q913 _ _ hR9
    have nx3R : x3 ≠ R := fun z => by rw [z, hR9] at nx3; cases nx3
    have nx2R : x2 ≠ R := fun z => by rw [z, q11 _ _ hR10] at nx2; cases nx2
    have nx4R : x4 ≠ R := fun z => by rw [z, q12 _ _ (q11 _ _ hR10)] at nx4; cases nx4
    have RS13 := (RS.same q913).push hx4 (q13 _ _ hx2) (q13 _ _ (q12 _ _ (q11 _ _ hx3'))) pdl bl bok
    refine x_append hR13 (small (by rw [List.length_map, List.length_range]; omega)) ?_
    have ne' : ∀ k, k < i + 1 → (H7 (if k = i then x4 else w k) = none ∧ (if k = i then x4 else w k) ≠ R) ∧ (H7 (if k = i then x2 else f k) = none ∧ (if k = i then x2 else f k) ≠ R) ∧ (H7 (if k = i then x3 else g k) = none ∧ (if k = i then x3 else g k) ≠ R) := fun k hk => by
      by_cases c : k = i
      · simp only [if_pos c]
        exact ⟨⟨(((q9.trans q10).trans q11).trans q12).free nx4, nx4R⟩, ⟨((q9.trans q10).trans q11).free nx2, nx2R⟩, ⟨q9.free nx3, nx3R⟩⟩
      · simp only [if_neg c]; exact ne k (by omega)
    refine ⟨_, _, _, _, _, _, _, rfl, same_upd (q9.trans q913) nR7, by rw [upd_same, refs_more], ⟨fun k hk => ?_, fun k hk => ?_, fun k hk => ?_, RS13.pl, RS13.bl, RS13.ok⟩, ne'⟩
    · exact at_upd (RS13.w k hk) (ne' k hk).1.2.symm
    · exact at_upd (RS13.f k hk) (ne' k hk).2.1.2.symm
    · exact at_upd (RS13.g k hk) (ne' k hk).2.2.2.symm
  rintro σ H9 ⟨u11, u12, w, f, g, Pd, Bd, rfl, q9, hR9, RS, ne⟩
  have D9 := D7.same q9
  have gG : ∀ {y : Addr} {o : HO}, H7 y = none → H9 y = some o → hide (cirFoot a n ++ stFoot b n) H9 y = some o := fun {y o} e1 e2 => by rw [hide_out (D7.fresh e1)]; exact e2
  have GR := gG nR hR9
  have GS : RowsAt s n (hide (cirFoot a n ++ stFoot b n) H9) (2 * n + 1) w f g Pd Bd := ⟨fun k hk => gG (ne k hk).1.1 (RS.w k hk), fun k hk => gG (ne k hk).2.1.1 (RS.f k hk), fun k hk => gG (ne k hk).2.2.1 (RS.g k hk), RS.pl, RS.bl, RS.ok⟩
  obtain ⟨G, hG⟩ : ∃ G, G = hide (cirFoot a n ++ stFoot b n) H9 := ⟨_, rfl⟩
  have G9 : Same G (hide (cirFoot a n ++ stFoot b n) H9) := hG ▸ Same.refl _
  rw [← hG] at GR GS
  clear hG
  clear ne RS hR9 gG D7 B7
  walk_at "xs"
  refine ⟨my, rfl, by omega, by omega, ?_⟩
  rw [show ((my : Nat) : Int).toNat = my by omega]
  have rowAt : ∀ {H' : Hp} {Q' : VK} {j : Int} {i : Nat}, j = i → i < 2 * n + 1 → H' R = some (.lst ((List.range (2 * n + 1)).map fun k => V.ref (w k))) → Q' (.ref (w i)) H' → rIxL K (.ref R) (.int j) H' Q' := fun {H' Q' j i} hj hi e q => by
    refine x_ixL (v := .ref (w i)) (SqL.of e) ?_ q
    have := at_map (d := 0) (g := fun k => V.ref (w k)) (l := List.range (2 * n + 1)) hj (by rw [List.length_range]; exact hi)
    rw [List.getD_eq_getElem?_getD, List.getElem?_range hi] at this
    exact this
  refine for_by turnsR (fun i σ H' => ∃ (u11 : Option V) (st : CS), σ = [some (.ref sa), some (.ref p), some (.int n), some (.int s), some (.bl bd), some (.ref P), some (.ref W), some (.ref (a 0)), some (.ref (b 0)), some (.int my), some (.ref R), u11, u12, none, none, none, none, none, none, none] ∧ Same G (hide (cirFoot a n ++ stFoot b n) H') ∧ Duo K H' a b n s st ∧ st.now = i + 1)
    ⟨_, _, rfl, G9, D9, rfl⟩ (fun _ _ _ _ _ => trivial) ?_ ?_
  · rintro i y σ H10 _ hi ⟨u11, st, rfl, G10, D, hnow⟩ ⟨rfl, rfl⟩
    have up := hide_same (A := cirFoot a n ++ stFoot b n) (H := H10)
    have hR10 := up _ _ (G10 _ _ GR)
    have RS := GS.same (G10.trans up)
    have z := D.z
    have ca := D.ca
    have st_ := D.st_
    have nn : ¬ st.size < st.now := by omega
    have i2 : i < 2 * n + 1 := by omega
    have GS10 := GS.same G10
    walk_at "xs"
    rw [show (0 : Int) + (i : Int) = i by omega]
    walk_at "me"
    walk_at "xs"
    refine rowAt rfl i2 hR10 ?_
    walk_at "xs"
    refine x_ixT (SqT.of (RS.w i i2)) (v := .ref (f i)) (by rfl) ?_
    walk_at "xs"
    refine rowAt rfl i2 hR10 ?_
    walk_at "xs"
    refine x_ixT (SqT.of (RS.w i i2)) (v := .ref (g i)) (by rfl) ?_
    walk_at "xs"
    have l1 := GS.pl i i2
    have l2 := GS.bl i i2
    have rok : RoundOk st (Pd i).length (Bd i) := ⟨by omega, by omega, fun x hx => by rw [st_, z]; exact GS.ok i i2 x hx⟩
    refine ⟨a, st, f i, g i, Pd i, Bd i, rfl, ca, D.wf, by rw [z]; exact SqL.of (hide_app _ _ (GS10.f i i2)), by rw [z]; exact SqL.of (hide_app _ _ (GS10.g i i2)), fun q => absurd q nn, fun _ q => absurd rok q, fun _ _ r t1 t2 H11 nr n1 n2' o11 c11 rep => ?_⟩
    rw [z] at o11
    have cb11 : StAt H11 b st := D.cb.off o11 (by rw [z]; exact dj)
    have m11 : Off (cirFoot a n ++ stFoot b n) H10 H11 := o11.mono fun y hy => List.mem_append_left _ hy
    have G11 := G10.trans m11.hide
    have up11 := hide_same (A := cirFoot a n ++ stFoot b n) (H := H11)
    have hR11 := up11 _ _ (G11 _ _ GR)
    have RS11 := GS.same (G11.trans up11)
    have GS11 := GS.same G11
    walk_at "xs"
    refine rowAt rfl i2 hR11 ?_
    walk_at "xs"
    refine x_ixT (SqT.of (RS11.w i i2)) (v := .ref (f i)) (by rfl) ?_
    walk_at "xs"
    refine rowAt rfl i2 hR11 ?_
    walk_at "xs"
    refine x_ixT (SqT.of (RS11.w i i2)) (v := .ref (g i)) (by rfl) ?_
    walk_at "xs"
    refine ⟨b, st, f i, g i, Pd i, Bd i, rfl, cb11, D.wf, nn, by rw [z]; exact SqL.of (hide_app' _ _ (GS11.f i i2)), by rw [z]; exact SqL.of (hide_app' _ _ (GS11.g i i2)), by omega, by omega, fun r2 t3 t4 H12 nr2 n3 n4 o12 c12 rep2 => ?_⟩
    rw [z] at o12
    have zc : (closeS st (Pd i) (Bd i)).size = n := closeS_size.trans z
    have ca12 : CirAt K H12 a (closeS st (Pd i) (Bd i)) := c11.off o12 (by rw [zc]; exact fun y hy hz => dj y hz hy)
    have out : ∀ {y : Addr}, H10 y = none → y ∉ stFoot b n := fun {y} e => by have := D.cb.fresh e; rwa [z] at this
    have rep' : RepAt H12 r t1 t2 (repS st (Pd i) (Bd i)) := ⟨o12 _ _ (out nr) rep.r, o12 _ _ (out n1) rep.f, o12 _ _ (out n2') rep.h, rep.ne⟩
    have m12 : Off (cirFoot a n ++ stFoot b n) H11 H12 := o12.mono fun y hy => List.mem_append_right _ hy
    walk_at "xs"
    refine x_sameSelf (good_repS D.wf) (by decide) (dp_rep rep') (dp_rep rep2) fun H13 q13 => ?_
    walk_at "xs"
    exact ⟨_, _, rfl, (G11.trans m12.hide).trans (hide_mono q13), ⟨ca12.same q13, c12.same q13, zc, wf_close D.wf nn, nn_close D.wf nn D.nn, closeS_stake.trans st_⟩, by rw [closeS_now, hnow]⟩
  rintro σ H10 ⟨u11, st, rfl, G10, D, hnow⟩
  have ca := D.ca
  have z := D.z
  walk_at "xs"
  walk_at "me"
  walk_at "xs"
  refine ⟨a, st, rfl, ca, D.wf, fun a2 H11 q11 fa2 ca2 => ?_⟩
  rw [z] at fa2
  have D11 := D.same q11
  walk_at "xs"
  refine ⟨b, st, rfl, D11.cb, by have := D.wf.n2; omega, fun b2 H12 q12 fb2 cb2 => ?_⟩
  rw [z] at fb2
  have D12 := D11.same q12
  have E12 : Duo K H12 a2 b2 n s st := ⟨ca2.same q12, cb2, z, D.wf, D.nn, D.st_⟩
  have dj2 : ∀ y ∈ stFoot b2 n, y ∉ cirFoot a2 n := fun y hy hz => by
    obtain ⟨j, hj, rfl⟩ := List.mem_map.mp hz
    have := ca2.at_ j (by rw [z]; exact List.mem_range.mp hj)
    rw [fb2 _ hy] at this; cases this
  have fr : ∀ y ∈ cirFoot a2 n ++ stFoot b2 n, H10 y = none := fun y hy => by
    rcases List.mem_append.mp hy with q | q
    · exact fa2 y q
    · exact q11.free (fb2 y q)
  have dx : ∀ y ∈ cirFoot a2 n ++ stFoot b2 n, y ∉ cirFoot a n ++ stFoot b n := fun y hy => D.fresh (fr y hy)
  have dx' : ∀ y ∈ cirFoot a n ++ stFoot b n, y ∉ cirFoot a2 n ++ stFoot b2 n := fun y hy hz => dx y hz hy
  have G12 : Same G (hide ((cirFoot a n ++ stFoot b n) ++ (cirFoot a2 n ++ stFoot b2 n)) H12) := fun y o e => by
    have e1 := G10 y o e
    have ny : y ∉ cirFoot a n ++ stFoot b n := fun q => by rw [hide_in q] at e1; cases e1
    rw [hide_out ny] at e1
    rw [hide_out (fun q => ?_)]
    · exact q12 _ _ (q11 _ _ e1)
    · rcases List.mem_append.mp q with q | q
      · exact ny q
      · rw [fr y q] at e1; cases e1
  generalize hF1 : cirFoot a n ++ stFoot b n = F1 at *
  generalize hF2 : cirFoot a2 n ++ stFoot b2 n = F2 at *
  walk_at "xs"
  refine ⟨(n : Int) - my, rfl, by omega, by omega, ?_⟩
  rw [show ((n : Int) - (my : Int)).toNat = n - my by omega]
  refine for_by turnsR (fun i σ H' => ∃ (u11 u12 u15 : Option V) (st st2 : CS), σ = [some (.ref sa), some (.ref p), some (.int n), some (.int s), some (.bl bd), some (.ref P), some (.ref W), some (.ref (a 0)), some (.ref (b 0)), some (.int my), some (.ref R), u11, u12, some (.ref (a2 0)), some (.ref (b2 0)), u15, none, none, none, none] ∧ Same G (hide (F1 ++ F2) H') ∧ Duo K H' a b n s st ∧ Duo K H' a2 b2 n s st2 ∧ st.now = my + 1 + i ∧ st2.now = my + 1 + i)
    ⟨_, _, _, _, _, rfl, G12, D12, E12, hnow, hnow⟩ (fun _ _ _ _ _ => trivial) ?_ ?_
  · rintro i y σ H20 _ hi ⟨u11, u12, u15, st, st2, rfl, G20, D20, E20, nw, nw2⟩ ⟨rfl, rfl⟩
    walk_at "xs"
    refine ⟨a, b, st, rfl, D20.ca, D20.cb, D20.wf, fl_len D20.wf (now_le D20.wf), fun H21 q21 => ?_⟩
    have D21 := D20.same q21
    have E21 := E20.same q21
    walk_at "xs"
    refine ⟨a2, b2, st2, rfl, E21.ca, E21.cb, E21.wf, fl_len E21.wf (now_le E21.wf), fun H22 q22 => ?_⟩
    have D22 := D21.same q22
    have E22 := E21.same q22
    have G22 := G20.trans (hide_mono (q21.trans q22))
    have up22 := hide_same (A := F1 ++ F2) (H := H22)
    have hR22 := up22 _ _ (G22 _ _ GR)
    have RS22 := GS.same (G22.trans up22)
    have GS22 := GS.same G22
    have i2 : my + i < 2 * n + 1 := by omega
    have i3 : n + i < 2 * n + 1 := by omega
    walk_at "xs"
    rw [show (0 : Int) + (i : Int) = i by omega]
    refine rowAt (i := my + i) (by omega) i2 hR22 ?_
    walk_at "xs"
    refine x_gtup (SqT.of (RS22.w _ i2)) rfl ?_
    walk_at "xs"
    refine ⟨a, b, st, n, s, f (my + i), g (my + i), Pd (my + i), Bd (my + i), rfl, D22, dj, by rw [hF1]; exact SqL.of (hide_app _ _ (GS22.f _ i2)), by rw [hF1]; exact SqL.of (hide_app _ _ (GS22.g _ i2)), GS.pl _ i2, GS.bl _ i2, GS.ok _ i2, fun H23 st' o23 D23 nw' => ?_⟩
    rw [hF1] at o23
    rw [if_neg (by omega)] at nw'
    have E23 := E22.off o23 (by rw [hF2]; exact dx)
    have m23 : Off (F1 ++ F2) H22 H23 := o23.mono fun y hy => List.mem_append_left _ hy
    walk_at "xs"
    refine ⟨a2, b2, st2, rfl, E23.ca, E23.cb, E23.wf, fl_len E23.wf (now_le E23.wf), fun H24 q24 => ?_⟩
    have D24 := D23.same q24
    have E24 := E23.same q24
    have G24 := (G22.trans m23.hide).trans (hide_mono q24)
    have up24 := hide_same (A := F1 ++ F2) (H := H24)
    have hR24 := up24 _ _ (G24 _ _ GR)
    have RS24 := GS.same (G24.trans up24)
    have GS24 := GS.same G24
    walk_at "xs"
    refine rowAt (i := n + i) (by omega) i3 hR24 ?_
    walk_at "xs"
    refine x_gtup (SqT.of (RS24.w _ i3)) rfl ?_
    walk_at "xs"
    refine ⟨a2, b2, st2, n, s, f (n + i), g (n + i), Pd (n + i), Bd (n + i), rfl, E24, dj2, by rw [hF2]; exact SqL.of (hide_app' _ _ (GS24.f _ i3)), by rw [hF2]; exact SqL.of (hide_app' _ _ (GS24.g _ i3)), GS.pl _ i3, GS.bl _ i3, GS.ok _ i3, fun H25 st2' o25 E25 nw2' => ?_⟩
    rw [hF2] at o25
    rw [if_neg (by omega)] at nw2'
    have D25 := D24.off o25 (by rw [hF1]; exact dx')
    have m25 : Off (F1 ++ F2) H24 H25 := o25.mono fun y hy => List.mem_append_right _ hy
    walk_at "xs"
    exact ⟨_, _, _, st', st2', rfl, G24.trans m25.hide, D25, E25, by omega, by omega⟩
  rintro σ H20 ⟨u11', u12', u15, st1, st2, rfl, G20, D20, E20, nw, nw2⟩
  have z1 := D20.z
  have z2 := E20.z
  walk_at "xs"
  refine ⟨a, b, st1, rfl, D20.ca, D20.cb, D20.wf, fl_len D20.wf (now_le D20.wf), fun H21 q21 => ?_⟩
  have D21 := D20.same q21
  have E21 := E20.same q21
  walk_at "xs"
  refine ⟨a2, b2, st2, rfl, E21.ca, E21.cb, E21.wf, fl_len E21.wf (now_le E21.wf), fun H22 q22 => ?_⟩
  have D22 := D21.same q22
  have E22 := E21.same q22
  have ea22 := E22.ca
  walk_at "xs"
  walk_at "me"
  walk_at "xs"
  refine ⟨a2, st2, rfl, ea22, E22.wf, fun a3 H23 q23 fa3 ca3 => ?_⟩
  have D23 := D22.same q23
  have E23 := E22.same q23
  walk_at "xs"
  refine ⟨a3, b2, st2, rfl, ca3, E23.cb, E23.wf, fl_len E23.wf (now_le E23.wf), fun H24 q24 => ?_⟩
  have D24 := D23.same q24
  have E24 := E23.same q24
  walk_at "xs"
  refine al_tup fun T1 H25 nT1 q25 hT1 => ?_
  walk_at "xs"
  refine al_tup fun T2 H26 nT2 q26 hT2 => ?_
  have E26 := (E24.same q25).same q26
  have D26 := (D24.same q25).same q26
  have ea26 := E26.ca
  walk_at "xs"
  walk_at "me"
  walk_at "xs"
  refine ⟨a2, st2, rfl, ea26, E26.wf, fun a4 H27 q27 fa4 ca4 => ?_⟩
  walk_at "xs"
  refine al_tup fun T3 H28 nT3 q28 hT3 => ?_
  walk_at "xs"
  refine al_lst fun TL H29 nTL q29 hTL => ?_
  have q2629 := (q27.trans q28).trans q29
  have D29 := D26.same q2629
  have E29 := E26.same q2629
  have ca29 := (ca4.same q28).same q29
  have hT1' := q2629 _ _ (q26 _ _ hT1)
  have hT2' := q2629 _ _ hT2
  have hT3' := q29 _ _ hT3
  walk_at "xs"
  refine ⟨TL, rfl, ⟨_, SqL.of hTL⟩, for_by (turnsL (xs := [.ref T1, .ref T2, .ref T3])) (fun j σ H' => ∃ (u16 u17 u19 : Option V), σ = [some (.ref sa), some (.ref p), some (.int n), some (.int s), some (.bl bd), some (.ref P), some (.ref W), some (.ref (a 0)), some (.ref (b 0)), some (.int my), some (.ref R), u11', u12', some (.ref (a2 0)), some (.ref (b2 0)), u15, u16, u17, none, u19] ∧ Same H29 H')
    ⟨_, _, _, rfl, Same.refl _⟩ (fun j σ H' _ q => by obtain ⟨_, _, _, _, q⟩ := q; exact SqL.of (q _ _ hTL)) ?_ ?_⟩
  · rintro j v σ H41 _ hj ⟨u16, u17, u19, rfl, q41⟩ ⟨rfl, hv⟩
    match j, hj, hv with
    | 0, _, hv =>
      cases hv
      refine x_gtup (SqT.of (q41 _ _ hT1')) rfl ?_
      have ca42 := D29.ca.same q41
      have cb42 := D29.cb.same q41
      have zz : st1.size < st1.now := by omega
      walk_at "xs"
      walk_at "me"
      walk_at "xs"
      refine ⟨a, st1, rfl, ca42, by have := D29.wf.n2; omega, fun q => absurd zz q, fun _ y1 H42 ny1 q42 hy1 => ?_⟩
      have cb43 := cb42.same q42
      walk_at "xs"
      have hb2 : H42 (b 2) = some (.lst ((List.range st1.size).map fun i => V.ref (b (4 + 2 * i)))) := cb43.at_ 2 (by omega)
      refine ⟨b 2, rfl, ⟨_, SqL.of hb2⟩, fun x3 nx3 => ?_⟩
      refine lc_flat (fun j => some (V.int (backSeat (st1.get j)))) (turnsL (K := K) (a := b 2) (xs := (List.range st1.size).map fun i => V.ref (b (4 + 2 * i)))) (fun H' q => SqL.of (q _ _ hb2)) nx3 ?_ ?_
      · rintro j v Hc _ hj lc ⟨rfl, hv⟩
        rw [List.length_map, List.length_range] at hj
        rw [List.getElem?_map, List.getElem?_range hj] at hv
        cases hv
        have hs := s_seat (cb43.same lc.s) hj
        walk_at "xs"
        refine x_wipe rfl ?_
        walk_at "xs"
        refine x_ixL (v := .int (st1.get j).pl) (SqL.of hs) (by rfl) ?_
        walk_at "xs"
        refine x_ixL (v := .int (st1.get j).gv) (SqL.of hs) (by rfl) ?_
        walk_at "xs"
        refine x_ixL (v := .str (st1.get j).st.s) (SqL.of hs) (by rfl) ?_
        walk_at "xs"
        first | refine x_rI (C := CMul) (.inr (by split <;> decide)) ?_ | skip
        walk_at "xs"
        rw [back_eq]
        exact lc.keep nx3 (Same.refl _) rfl (by have := D29.wf.n2; omega)
      intro H43 q43 hx3
      rw [List.length_map, List.length_range, List.filterMap_eq_map', back_list] at hx3
      walk_at "xs"
      refine x_sameSelf (good_ints (l := backS st1) (back_len D29.wf)) (by decide) (dp_ints (SqL.of (q43 _ _ hy1))) (dp_ints (SqL.of hx3)) fun H44 q44 => ?_
      walk_at "xs"
      exact ⟨_, _, _, rfl, ((q41.trans q42).trans q43).trans q44⟩
    | 1, _, hv =>
      cases hv
      refine x_gtup (SqT.of (q41 _ _ hT2')) rfl ?_
      have ca42 := E29.ca.same q41
      have cb42 := E29.cb.same q41
      have zz : st2.size < st2.now := by omega
      walk_at "xs"
      walk_at "me"
      walk_at "xs"
      refine ⟨a2, st2, rfl, ca42, by have := E29.wf.n2; omega, fun q => absurd zz q, fun _ y1 H42 ny1 q42 hy1 => ?_⟩
      have cb43 := cb42.same q42
      walk_at "xs"
      have hb2 : H42 (b2 2) = some (.lst ((List.range st2.size).map fun i => V.ref (b2 (4 + 2 * i)))) := cb43.at_ 2 (by omega)
      refine ⟨b2 2, rfl, ⟨_, SqL.of hb2⟩, fun x3 nx3 => ?_⟩
      refine lc_flat (fun j => some (V.int (backSeat (st2.get j)))) (turnsL (K := K) (a := b2 2) (xs := (List.range st2.size).map fun i => V.ref (b2 (4 + 2 * i)))) (fun H' q => SqL.of (q _ _ hb2)) nx3 ?_ ?_
      · rintro j v Hc _ hj lc ⟨rfl, hv⟩
        rw [List.length_map, List.length_range] at hj
        rw [List.getElem?_map, List.getElem?_range hj] at hv
        cases hv
        have hs := s_seat (cb43.same lc.s) hj
        walk_at "xs"
        refine x_wipe rfl ?_
        walk_at "xs"
        refine x_ixL (v := .int (st2.get j).pl) (SqL.of hs) (by rfl) ?_
        walk_at "xs"
        refine x_ixL (v := .int (st2.get j).gv) (SqL.of hs) (by rfl) ?_
        walk_at "xs"
        refine x_ixL (v := .str (st2.get j).st.s) (SqL.of hs) (by rfl) ?_
        walk_at "xs"
        first | refine x_rI (C := CMul) (.inr (by split <;> decide)) ?_ | skip
        walk_at "xs"
        rw [back_eq]
        exact lc.keep nx3 (Same.refl _) rfl (by have := E29.wf.n2; omega)
      intro H43 q43 hx3
      rw [List.length_map, List.length_range, List.filterMap_eq_map', back_list] at hx3
      walk_at "xs"
      refine x_sameSelf (good_ints (l := backS st2) (back_len E29.wf)) (by decide) (dp_ints (SqL.of (q43 _ _ hy1))) (dp_ints (SqL.of hx3)) fun H44 q44 => ?_
      walk_at "xs"
      exact ⟨_, _, _, rfl, ((q41.trans q42).trans q43).trans q44⟩
    | 2, _, hv =>
      cases hv
      refine x_gtup (SqT.of (q41 _ _ hT3')) rfl ?_
      have ca42 := ca29.same q41
      have cb42 := E29.cb.same q41
      have zz : st2.size < st2.now := by omega
      walk_at "xs"
      walk_at "me"
      walk_at "xs"
      refine ⟨a4, st2, rfl, ca42, by have := E29.wf.n2; omega, fun q => absurd zz q, fun _ y1 H42 ny1 q42 hy1 => ?_⟩
      have cb43 := cb42.same q42
      walk_at "xs"
      have hb2 : H42 (b2 2) = some (.lst ((List.range st2.size).map fun i => V.ref (b2 (4 + 2 * i)))) := cb43.at_ 2 (by omega)
      refine ⟨b2 2, rfl, ⟨_, SqL.of hb2⟩, fun x3 nx3 => ?_⟩
      refine lc_flat (fun j => some (V.int (backSeat (st2.get j)))) (turnsL (K := K) (a := b2 2) (xs := (List.range st2.size).map fun i => V.ref (b2 (4 + 2 * i)))) (fun H' q => SqL.of (q _ _ hb2)) nx3 ?_ ?_
      · rintro j v Hc _ hj lc ⟨rfl, hv⟩
        rw [List.length_map, List.length_range] at hj
        rw [List.getElem?_map, List.getElem?_range hj] at hv
        cases hv
        have hs := s_seat (cb43.same lc.s) hj
        walk_at "xs"
        refine x_wipe rfl ?_
        walk_at "xs"
        refine x_ixL (v := .int (st2.get j).pl) (SqL.of hs) (by rfl) ?_
        walk_at "xs"
        refine x_ixL (v := .int (st2.get j).gv) (SqL.of hs) (by rfl) ?_
        walk_at "xs"
        refine x_ixL (v := .str (st2.get j).st.s) (SqL.of hs) (by rfl) ?_
        walk_at "xs"
        first | refine x_rI (C := CMul) (.inr (by split <;> decide)) ?_ | skip
        walk_at "xs"
        rw [back_eq]
        exact lc.keep nx3 (Same.refl _) rfl (by have := E29.wf.n2; omega)
      intro H43 q43 hx3
      rw [List.length_map, List.length_range, List.filterMap_eq_map', back_list] at hx3
      walk_at "xs"
      refine x_sameSelf (good_ints (l := backS st2) (back_len E29.wf)) (by decide) (dp_ints (SqL.of (q43 _ _ hy1))) (dp_ints (SqL.of hx3)) fun H44 q44 => ?_
      walk_at "xs"
      exact ⟨_, _, _, rfl, ((q41.trans q42).trans q43).trans q44⟩
  · rintro σ H41 ⟨u16, u17, u19, rfl, q41⟩
    walk_at "xs"
    exact k _

end Su
namespace Su
open PySem L2
structure Fx (K : PySem.W.Frag) (mg : Str → Option Value) : Prop where
  n_abs : mg "abs" = none
  n_all : mg "all" = none
  n_bool : mg "bool" = none
  n_enumerate : mg "enumerate" = none
  n_int : mg "int" = none
  n_isinstance : mg "isinstance" = none
  n_len : mg "len" = none
  n_list : mg "list" = none
  n_max : mg "max" = none
  n_min : mg "min" = none
  n_range : mg "range" = none
  n_str : mg "str" = none
  n_tuple : mg "tuple" = none
  n_zip : mg "zip" = none
  c_MOST_COINS : ∃ u, mg "MOST_COINS" = some u ∧ RelV (.int 1000000000) u
  c_MOST_SEATS : ∃ u, mg "MOST_SEATS" = some u ∧ RelV (.int 20) u
  c_MOST_STAKE : ∃ u, mg "MOST_STAKE" = some u ∧ RelV (.int 1000000) u
  g_BadNumber : mg "BadNumber" = some (.ref (He.ga K "BadNumber"))
  k_BadNumber : ∃ u, mg "BadNumber" = some u ∧ RelV (.ref (He.ga K "BadNumber")) u
  g_Ended : mg "Ended" = some (.ref (He.ga K "Ended"))
  k_Ended : ∃ u, mg "Ended" = some u ∧ RelV (.ref (He.ga K "Ended")) u
  g_NoOrder : mg "NoOrder" = some (.ref (He.ga K "NoOrder"))
  k_NoOrder : ∃ u, mg "NoOrder" = some u ∧ RelV (.ref (He.ga K "NoOrder")) u
  g_NoSeat : mg "NoSeat" = some (.ref (He.ga K "NoSeat"))
  k_NoSeat : ∃ u, mg "NoSeat" = some u ∧ RelV (.ref (He.ga K "NoSeat")) u
  g_NotEnded : mg "NotEnded" = some (.ref (He.ga K "NotEnded"))
  k_NotEnded : ∃ u, mg "NotEnded" = some u ∧ RelV (.ref (He.ga K "NotEnded")) u
  g_NotWaiting : mg "NotWaiting" = some (.ref (He.ga K "NotWaiting"))
  k_NotWaiting : ∃ u, mg "NotWaiting" = some u ∧ RelV (.ref (He.ga K "NotWaiting")) u
  g_Uncovered : mg "Uncovered" = some (.ref (He.ga K "Uncovered"))
  k_Uncovered : ∃ u, mg "Uncovered" = some u ∧ RelV (.ref (He.ga K "Uncovered")) u
  x_BadNumber : Xc K mg "BadNumber"
  x_Ended : Xc K mg "Ended"
  x_NoSeat : Xc K mg "NoSeat"
  x_NotEnded : Xc K mg "NotEnded"
  x_NotWaiting : Xc K mg "NotWaiting"
  x_Uncovered : Xc K mg "Uncovered"
  cl_Circle : Cls K (He.ga K "Circle")
  t_Circle : ClsT K "Circle" ["stake", "size", "bidding", "now", "line", "due", "chest", "state", "when", "pledged", "given", "drawn", "shared", "missed", "flows"]
  nx : NxC K
  gk_Circle : mg "Circle" = some (.ref (He.ga K "Circle"))
  mk_Circle : Mk K (He.ga K "Circle") (He.fAd K ("Circle", some "__init__"))
  F_NoOrder_init : ∃ fd, FunD K "__init__" "NoOrder.__init__" (defArgs s_NoOrder_init) (defBody s_NoOrder_init) (defScope s_NoOrder_init) [] [] (He.fAd K ("NoOrder", some "__init__")) fd
  g_check_opening : mg "check_opening" = some (.ref (He.fAd K ("check_opening", none)))
  F_check_opening : ∃ fd, FunD K "check_opening" "check_opening" (defArgs s_check_opening) (defBody s_check_opening) (defScope s_check_opening) [] [] (He.fAd K ("check_opening", none)) fd
  g_first_covered : mg "first_covered" = some (.ref (He.fAd K ("first_covered", none)))
  F_first_covered : ∃ fd, FunD K "first_covered" "first_covered" (defArgs s_first_covered) (defBody s_first_covered) (defScope s_first_covered) [] [] (He.fAd K ("first_covered", none)) fd
  g_within : mg "within" = some (.ref (He.fAd K ("within", none)))
  F_within : ∃ fd, FunD K "within" "within" (defArgs s_within) (defBody s_within) (defScope s_within) [] [] (He.fAd K ("within", none)) fd
  g_bar_of : mg "bar_of" = some (.ref (He.fAd K ("bar_of", none)))
  F_bar_of : ∃ fd, FunD K "bar_of" "bar_of" (defArgs s_bar_of) (defBody s_bar_of) (defScope s_bar_of) [] [] (He.fAd K ("bar_of", none)) fd
  g_next_window : mg "next_window" = some (.ref (He.fAd K ("next_window", none)))
  F_next_window : ∃ fd, FunD K "next_window" "next_window" (defArgs s_next_window) (defBody s_next_window) (defScope s_next_window) [] [] (He.fAd K ("next_window", none)) fd
  g_order_or_bar : mg "order_or_bar" = some (.ref (He.fAd K ("order_or_bar", none)))
  F_order_or_bar : ∃ fd, FunD K "order_or_bar" "order_or_bar" (defArgs s_order_or_bar) (defBody s_order_or_bar) (defScope s_order_or_bar) [] [] (He.fAd K ("order_or_bar", none)) fd
  F_Circle_init : ∃ fd, FunD K "__init__" "Circle.__init__" (defArgs s_Circle_init) (defBody s_Circle_init) (defScope s_Circle_init) [.bl false] [] (He.fAd K ("Circle", some "__init__")) fd
  m_Circle_ended : Meth K (He.ga K "Circle") "ended" (He.fAd K ("Circle", some "ended"))
  F_Circle_ended : ∃ fd, FunD K "ended" "Circle.ended" (defArgs s_Circle_ended) (defBody s_Circle_ended) (defScope s_Circle_ended) [] [] (He.fAd K ("Circle", some "ended")) fd
  m_Circle_check_round : Meth K (He.ga K "Circle") "check_round" (He.fAd K ("Circle", some "check_round"))
  F_Circle_check_round : ∃ fd, FunD K "check_round" "Circle.check_round" (defArgs s_Circle_check_round) (defBody s_Circle_check_round) (defScope s_Circle_check_round) [] [] (He.fAd K ("Circle", some "check_round")) fd
  m_Circle_collect : Meth K (He.ga K "Circle") "collect" (He.fAd K ("Circle", some "collect"))
  F_Circle_collect : ∃ fd, FunD K "collect" "Circle.collect" (defArgs s_Circle_collect) (defBody s_Circle_collect) (defScope s_Circle_collect) [] [] (He.fAd K ("Circle", some "collect")) fd
  m_Circle_covered_at : Meth K (He.ga K "Circle") "covered_at" (He.fAd K ("Circle", some "covered_at"))
  F_Circle_covered_at : ∃ fd, FunD K "covered_at" "Circle.covered_at" (defArgs s_Circle_covered_at) (defBody s_Circle_covered_at) (defScope s_Circle_covered_at) [] [] (He.fAd K ("Circle", some "covered_at")) fd
  m_Circle_winner : Meth K (He.ga K "Circle") "winner" (He.fAd K ("Circle", some "winner"))
  F_Circle_winner : ∃ fd, FunD K "winner" "Circle.winner" (defArgs s_Circle_winner) (defBody s_Circle_winner) (defScope s_Circle_winner) [] [] (He.fAd K ("Circle", some "winner")) fd
  m_Circle_draw : Meth K (He.ga K "Circle") "draw" (He.fAd K ("Circle", some "draw"))
  F_Circle_draw : ∃ fd, FunD K "draw" "Circle.draw" (defArgs s_Circle_draw) (defBody s_Circle_draw) (defScope s_Circle_draw) [] [] (He.fAd K ("Circle", some "draw")) fd
  m_Circle_put_out : Meth K (He.ga K "Circle") "put_out" (He.fAd K ("Circle", some "put_out"))
  F_Circle_put_out : ∃ fd, FunD K "put_out" "Circle.put_out" (defArgs s_Circle_put_out) (defBody s_Circle_put_out) (defScope s_Circle_put_out) [] [] (He.fAd K ("Circle", some "put_out")) fd
  m_Circle_close : Meth K (He.ga K "Circle") "close" (He.fAd K ("Circle", some "close"))
  F_Circle_close : ∃ fd, FunD K "close" "Circle.close" (defArgs s_Circle_close) (defBody s_Circle_close) (defScope s_Circle_close) [] [] (He.fAd K ("Circle", some "close")) fd
  m_Circle_refunds : Meth K (He.ga K "Circle") "refunds" (He.fAd K ("Circle", some "refunds"))
  F_Circle_refunds : ∃ fd, FunD K "refunds" "Circle.refunds" (defArgs s_Circle_refunds) (defBody s_Circle_refunds) (defScope s_Circle_refunds) [] [] (He.fAd K ("Circle", some "refunds")) fd
  m_Circle_twin : Meth K (He.ga K "Circle") "twin" (He.fAd K ("Circle", some "twin"))
  F_Circle_twin : ∃ fd, FunD K "twin" "Circle.twin" (defArgs s_Circle_twin) (defBody s_Circle_twin) (defScope s_Circle_twin) [] [] (He.fAd K ("Circle", some "twin")) fd
  m_Circle_box : Meth K (He.ga K "Circle") "box" (He.fAd K ("Circle", some "box"))
  F_Circle_box : ∃ fd, FunD K "box" "Circle.box" (defArgs s_Circle_box) (defBody s_Circle_box) (defScope s_Circle_box) [] [] (He.fAd K ("Circle", some "box")) fd
  m_Circle_check_seat : Meth K (He.ga K "Circle") "check_seat" (He.fAd K ("Circle", some "check_seat"))
  F_Circle_check_seat : ∃ fd, FunD K "check_seat" "Circle.check_seat" (defArgs s_Circle_check_seat) (defBody s_Circle_check_seat) (defScope s_Circle_check_seat) [] [] (He.fAd K ("Circle", some "check_seat")) fd
  m_Circle_expected : Meth K (He.ga K "Circle") "expected" (He.fAd K ("Circle", some "expected"))
  F_Circle_expected : ∃ fd, FunD K "expected" "Circle.expected" (defArgs s_Circle_expected) (defBody s_Circle_expected) (defScope s_Circle_expected) [] [] (He.fAd K ("Circle", some "expected")) fd
  m_Circle_flow : Meth K (He.ga K "Circle") "flow" (He.fAd K ("Circle", some "flow"))
  F_Circle_flow : ∃ fd, FunD K "flow" "Circle.flow" (defArgs s_Circle_flow) (defBody s_Circle_flow) (defScope s_Circle_flow) [] [] (He.fAd K ("Circle", some "flow")) fd
  m_Circle_owed : Meth K (He.ga K "Circle") "owed" (He.fAd K ("Circle", some "owed"))
  F_Circle_owed : ∃ fd, FunD K "owed" "Circle.owed" (defArgs s_Circle_owed) (defBody s_Circle_owed) (defScope s_Circle_owed) [] [] (He.fAd K ("Circle", some "owed")) fd
  m_Circle_queue : Meth K (He.ga K "Circle") "queue" (He.fAd K ("Circle", some "queue"))
  F_Circle_queue : ∃ fd, FunD K "queue" "Circle.queue" (defArgs s_Circle_queue) (defBody s_Circle_queue) (defScope s_Circle_queue) [] [] (He.fAd K ("Circle", some "queue")) fd
  m_Circle_rests : Meth K (He.ga K "Circle") "rests" (He.fAd K ("Circle", some "rests"))
  F_Circle_rests : ∃ fd, FunD K "rests" "Circle.rests" (defArgs s_Circle_rests) (defBody s_Circle_rests) (defScope s_Circle_rests) [] [] (He.fAd K ("Circle", some "rests")) fd
  m_Circle_seat : Meth K (He.ga K "Circle") "seat" (He.fAd K ("Circle", some "seat"))
  F_Circle_seat : ∃ fd, FunD K "seat" "Circle.seat" (defArgs s_Circle_seat) (defBody s_Circle_seat) (defScope s_Circle_seat) [] [] (He.fAd K ("Circle", some "seat")) fd
  m_Circle_turn : Meth K (He.ga K "Circle") "turn" (He.fAd K ("Circle", some "turn"))
  F_Circle_turn : ∃ fd, FunD K "turn" "Circle.turn" (defArgs s_Circle_turn) (defBody s_Circle_turn) (defScope s_Circle_turn) [] [] (He.fAd K ("Circle", some "turn")) fd
  g_law_same : mg "_law_same" = some (.ref (He.fAd K ("_law_same", none)))
  F_law_same : ∃ fd, FunD K "_law_same" "_law_same" (defArgs s_law_same) (defBody s_law_same) (defScope s_law_same) [] [] (He.fAd K ("_law_same", none)) fd
  g_law_alike : mg "_law_alike" = some (.ref (He.fAd K ("_law_alike", none)))
  F_law_alike : ∃ fd, FunD K "_law_alike" "_law_alike" (defArgs s_law_alike) (defBody s_law_alike) (defScope s_law_alike) [] [] (He.fAd K ("_law_alike", none)) fd
  g_law_copy : mg "_law_copy" = some (.ref (He.fAd K ("_law_copy", none)))
  F_law_copy : ∃ fd, FunD K "_law_copy" "_law_copy" (defArgs s_law_copy) (defBody s_law_copy) (defScope s_law_copy) [] [] (He.fAd K ("_law_copy", none)) fd
  m_Circle_lay : Meth K (He.ga K "Circle") "lay" (He.fAd K ("Circle", some "lay"))
  F_Circle_lay : ∃ fd, FunD K "lay" "Circle.lay" (defArgs s_Circle_lay) (defBody s_Circle_lay) (defScope s_Circle_lay) [] [] (He.fAd K ("Circle", some "lay")) fd
  m_Circle_swap : Meth K (He.ga K "Circle") "swap" (He.fAd K ("Circle", some "swap"))
  F_Circle_swap : ∃ fd, FunD K "swap" "Circle.swap" (defArgs s_Circle_swap) (defBody s_Circle_swap) (defScope s_Circle_swap) [] [] (He.fAd K ("Circle", some "swap")) fd
  g_law_early : mg "_law_early" = some (.ref (He.fAd K ("_law_early", none)))
  F_law_early : ∃ fd, FunD K "_law_early" "_law_early" (defArgs s_law_early) (defBody s_law_early) (defScope s_law_early) [] [] (He.fAd K ("_law_early", none)) fd
  g_law_people : mg "_law_people" = some (.ref (He.fAd K ("_law_people", none)))
  F_law_people : ∃ fd, FunD K "_law_people" "_law_people" (defArgs s_law_people) (defBody s_law_people) (defScope s_law_people) [] [] (He.fAd K ("_law_people", none)) fd
  g_law_winner : mg "_law_winner" = some (.ref (He.fAd K ("_law_winner", none)))
  F_law_winner : ∃ fd, FunD K "_law_winner" "_law_winner" (defArgs s_law_winner) (defBody s_law_winner) (defScope s_law_winner) [] [] (He.fAd K ("_law_winner", none)) fd
  g_law_round : mg "_law_round" = some (.ref (He.fAd K ("_law_round", none)))
  F_law_round : ∃ fd, FunD K "_law_round" "_law_round" (defArgs s_law_round) (defBody s_law_round) (defScope s_law_round) [] [] (He.fAd K ("_law_round", none)) fd
  g_law_done : mg "_law_done" = some (.ref (He.fAd K ("_law_done", none)))
  F_law_done : ∃ fd, FunD K "_law_done" "_law_done" (defArgs s_law_done) (defBody s_law_done) (defScope s_law_done) [] [] (He.fAd K ("_law_done", none)) fd
  g_law_draws : mg "_law_draws" = some (.ref (He.fAd K ("_law_draws", none)))
  F_law_draws : ∃ fd, FunD K "_law_draws" "_law_draws" (defArgs s_law_draws) (defBody s_law_draws) (defScope s_law_draws) [] [] (He.fAd K ("_law_draws", none)) fd
  g_law_told_order : mg "_law_told_order" = some (.ref (He.fAd K ("_law_told_order", none)))
  F_law_told_order : ∃ fd, FunD K "_law_told_order" "_law_told_order" (defArgs s_law_told_order) (defBody s_law_told_order) (defScope s_law_told_order) [] [] (He.fAd K ("_law_told_order", none)) fd
  g_law_new : mg "_law_new" = some (.ref (He.fAd K ("_law_new", none)))
  F_law_new : ∃ fd, FunD K "_law_new" "_law_new" (defArgs s_law_new) (defBody s_law_new) (defScope s_law_new) [] [] (He.fAd K ("_law_new", none)) fd
  g_law_perm : mg "_law_perm" = some (.ref (He.fAd K ("_law_perm", none)))
  F_law_perm : ∃ fd, FunD K "_law_perm" "_law_perm" (defArgs s_law_perm) (defBody s_law_perm) (defScope s_law_perm) [] [] (He.fAd K ("_law_perm", none)) fd
  g_law_opening : mg "_law_opening" = some (.ref (He.fAd K ("_law_opening", none)))
  F_law_opening : ∃ fd, FunD K "_law_opening" "_law_opening" (defArgs s_law_opening) (defBody s_law_opening) (defScope s_law_opening) [] [] (He.fAd K ("_law_opening", none)) fd
  g_law_bits : mg "_law_bits" = some (.ref (He.fAd K ("_law_bits", none)))
  F_law_bits : ∃ fd, FunD K "_law_bits" "_law_bits" (defArgs s_law_bits) (defBody s_law_bits) (defScope s_law_bits) [] [] (He.fAd K ("_law_bits", none)) fd
  g_law_paid : mg "_law_paid" = some (.ref (He.fAd K ("_law_paid", none)))
  F_law_paid : ∃ fd, FunD K "_law_paid" "_law_paid" (defArgs s_law_paid) (defBody s_law_paid) (defScope s_law_paid) [] [] (He.fAd K ("_law_paid", none)) fd
  g_law : mg "law" = some (.ref (He.fAd K ("law", none)))
  F_law : ∃ fd, FunD K "law" "law" (defArgs s_law) (defBody s_law) (defScope s_law) [] [] (He.fAd K ("law", none)) fd
section
variable {P : Program} {w : World} {K : PySem.W.Frag} {mg : Str → Option Value} {base : Heap}
theorem sc_NoOrder_init : FnScope N_NoOrder_init ["self", "early", "late", "crowd"] (defScope s_NoOrder_init) := ⟨rfl, rfl, rfl, by decide +kernel, rfl, by decide +kernel, by decide +kernel⟩
theorem ok_NoOrder_init (T : Fx K mg) : ClX P w K mg base CX0 1 (sp_NoOrder_init K) := by
  obtain ⟨fd, F⟩ := T.F_NoOrder_init
  have sc := sc_NoOrder_init
  refine ⟨fd, ["self", "early", "late", "crowd"], T.nx, T.g_NoOrder, F.bindsN fun _ _ _ _ _ _ us hl => match us, hl with | [_, _, _, _], _ => rfl, ?_⟩
  refine F.ok sc (len_NoOrder_init) (fun cdv A outer s H vs Q E hr h => ⟨t_NoOrder_init K, PSs.nox ?_, pure_NoOrder_init h⟩)
  exact (pss_cons (ps_ost (pv 0) (pv 1))
 (pss_cons (ps_ost (pv 0) (pv 2))
 (pss_one (ps_ost (pv 0) (pe_callTy call_list_of (by rfl) T.n_list b_list (pa_cons (pv 3) pa_nil))))))
theorem sc_check_opening : FnScope N_check_opening ["stake", "pledges", "wishes"] (defScope s_check_opening) := ⟨rfl, rfl, rfl, by decide +kernel, rfl, by decide +kernel, by decide +kernel⟩
theorem ok_check_opening (T : Fx K mg) : Cl P w K mg base (L2.CX P w) 1 "check_opening" (sp_check_opening K) := by
  obtain ⟨fd, F⟩ := T.F_check_opening
  have sc := sc_check_opening
  refine ⟨_, fd, ["stake", "pledges", "wishes"], T.g_check_opening, F.kp, F.bindsN fun _ _ _ _ _ _ us hl => match us, hl with | [_, _, _], _ => rfl, ?_⟩
  refine F.ok sc (len_check_opening) (fun cdv A outer s H vs Q E hr h => ⟨t_check_opening K E, ?_, pure_check_opening h⟩)
  exact (pss_cons (ps_set (i := 3) sc.nd rfl (Or.inl rfl) (pe_callB call_len_seq (by rfl) T.n_len b_len (pa_cons (pv 1) pa_nil)))
 (pss_cons (ps_if (PW.pt (pw_or (pt_not (pt_chain op_le op_le pe_int (pv 0) (pe_gc (by rfl) T.c_MOST_STAKE))) (pw_or (pt_not (pt_chain op_le op_le pe_int (pv 3) (pe_gc (by rfl) T.c_MOST_SEATS))) (pw_or1 (pt_cmpR op_ne (pe_callB call_len_seq (by rfl) T.n_len b_len (pa_cons (pv 2) pa_nil)) (pv 3) (nomark _))))))
 (pss_one (ps_raise0 rfl (takes_of rfl rfl rfl rfl) T.x_BadNumber (by rfl)))
 pss_nil)
 (pss_cons (ps_for (passes_of rfl) rfl (pi_list (pv 1)) (pg_name (i := 4) sc.nd rfl (Or.inl rfl))
 (pss_one (ps_if (pt_not (pt_chain op_le op_le pe_int (pv 4) (pe_gc (by rfl) T.c_MOST_COINS)))
 (pss_one (ps_raise0 rfl (takes_of rfl rfl rfl rfl) T.x_BadNumber (by rfl)))
 pss_nil)))
 (pss_one (ps_for (passes_of rfl) rfl (pi_list (pv 2)) (pg_name (i := 5) sc.nd rfl (Or.inl rfl))
 (pss_one (ps_if (pt_not (pt_chain op_le op_le pe_int (pv 5) (pv 3)))
 (pss_one (ps_raise0 rfl (takes_of rfl rfl rfl rfl) T.x_BadNumber (by rfl)))
 pss_nil)))))))
theorem sc_first_covered : FnScope N_first_covered ["stake", "seats", "pledge"] (defScope s_first_covered) := ⟨rfl, rfl, rfl, by decide +kernel, rfl, by decide +kernel, by decide +kernel⟩
theorem ok_first_covered (T : Fx K mg) : Cl P w K mg base CX0 1 "first_covered" (sp_first_covered K) := by
  obtain ⟨fd, F⟩ := T.F_first_covered
  have sc := sc_first_covered
  refine ⟨_, fd, ["stake", "seats", "pledge"], T.g_first_covered, F.kp, F.bindsN fun _ _ _ _ _ _ us hl => match us, hl with | [_, _, _], _ => rfl, ?_⟩
  refine F.ok sc (len_first_covered) (fun cdv A outer s H vs Q E hr h => ⟨t_first_covered K, PSs.nox ?_, pure_first_covered h⟩)
  exact (pss_cons (ps_set (i := 3) sc.nd rfl (Or.inl rfl) (pe_op op_sub (pv 1) (pe_op op_fdivW (pv 2) (pv 0))))
 (pss_cons (ps_if (pt_cmpR op_lt (pv 3) pe_int (nomark _))
 (pss_one (ps_ret pe_int))
 pss_nil)
 (pss_one (ps_ret (pv 3)))))
theorem sc_within : FnScope N_within ["windows", "a", "b"] (defScope s_within) := ⟨rfl, rfl, rfl, by decide +kernel, rfl, by decide +kernel, by decide +kernel⟩
theorem ok_within (T : Fx K mg) : Cl P w K mg base CX0 1 "within" (sp_within K) := by
  obtain ⟨fd, F⟩ := T.F_within
  have sc := sc_within
  refine ⟨_, fd, ["windows", "a", "b"], T.g_within, F.kp, F.bindsN fun _ _ _ _ _ _ us hl => match us, hl with | [_, _, _], _ => rfl, ?_⟩
  refine F.ok sc (len_within) (fun cdv A outer s H vs Q E hr h => ⟨t_within K, PSs.nox ?_, pure_within h⟩)
  exact (pss_cons (ps_set (i := 3) sc.nd rfl (Or.inl rfl) (pe_lst pa_nil))
 (pss_cons (ps_for PassesOwn.never rfl (pi_enum (by rfl) T.n_enumerate (pa_cons (pv 0) pa_nil)) (pg_tup rfl (pgs_cons (pg_name (i := 4) sc.nd rfl (Or.inl rfl)) (pgs_cons (pg_tup rfl (pgs_cons (pg_name (i := 5) sc.nd rfl (Or.inl rfl)) (pgs_cons (pg_name (i := 6) sc.nd rfl (Or.inl rfl)) pgs_nil))) pgs_nil)))
 (pss_one (ps_if (PW.pt (pw_and (pt_cmpR op_ge (pv 5) (pv 1) (nomark _)) (pw_and1 (pt_cmpR op_le (pv 6) (pv 2) (nomark _)))))
 (pss_one (ps_expr (pe_bm PySem.F.plainAttrs_list PySem.F.slot_list_append PySem.F.type_list_append mt_append (pv 3) (pa_cons (pv 4) pa_nil))))
 pss_nil)))
 (pss_one (ps_ret (pv 3)))))
theorem sc_bar_of : FnScope N_bar_of ["windows", "row", "late"] (defScope s_bar_of) := ⟨rfl, rfl, rfl, by decide +kernel, rfl, by decide +kernel, by decide +kernel⟩
theorem ok_bar_of (T : Fx K mg) : Cl P w K mg base CX0 2 "bar_of" (sp_bar_of K) := by
  obtain ⟨fd, F⟩ := T.F_bar_of
  have sc := sc_bar_of
  refine ⟨_, fd, ["windows", "row", "late"], T.g_bar_of, F.kp, F.bindsN fun _ _ _ _ _ _ us hl => match us, hl with | [_, _, _], _ => rfl, ?_⟩
  refine F.ok sc (len_bar_of) (fun cdv A outer s H vs Q E hr h => ⟨t_bar_of K, PSs.nox ?_, pure_bar_of h⟩)
  exact (pss_cons (ps_set (i := 3) sc.nd rfl (Or.inl rfl) (pe_op op_add (pv 2) pe_int))
 (pss_cons (ps_while PassesOwn.never (PW.pt (pw_and (pt_cmpR op_gt (pv 3) pe_int (nomark _)) (pw_and1 (pt_cmpR op_le (pe_ix ix_tup (pe_ix ix_list (pv 0) (pe_ix ix_list (pv 1) (pe_op op_sub (pv 3) pe_int) (fun _ _ => rfl)) (fun _ _ => rfl)) pe_int (fun _ _ => rfl)) (pv 2) (nomark _)))))
 (pss_one (ps_aug (i := 3) sc.nd rfl (Or.inl rfl) pe_int ip_sub)))
 (pss_one (ps_ret (pe_tup (pa_cons pe_str (pa_cons (pv 3) (pa_cons (pv 2) (pa_cons (pe_cl (ok_within T) hr (by decide) (by rfl) pass0 (pa_cons (pv 0) (pa_cons (pv 3) (pa_cons (pv 2) pa_nil)))) pa_nil)))))))))
theorem sc_next_window : FnScope N_next_window ["windows", "row", "turn"] (defScope s_next_window) := ⟨rfl, rfl, rfl, by decide +kernel, rfl, by decide +kernel, by decide +kernel⟩
theorem ok_next_window (T : Fx K mg) : Cl P w K mg base CX0 1 "next_window" (sp_next_window K) := by
  obtain ⟨fd, F⟩ := T.F_next_window
  have sc := sc_next_window
  refine ⟨_, fd, ["windows", "row", "turn"], T.g_next_window, F.kp, F.bindsN fun _ _ _ _ _ _ us hl => match us, hl with | [_, _, _], _ => rfl, ?_⟩
  refine F.ok sc (len_next_window) (fun cdv A outer s H vs Q E hr h => ⟨t_next_window K, PSs.nox ?_, pure_next_window h⟩)
  exact (pss_cons (ps_set (i := 3) sc.nd rfl (Or.inl rfl) (pe_un un_neg pe_int))
 (pss_cons (ps_for PassesOwn.never rfl (pi_enum (by rfl) T.n_enumerate (pa_cons (pv 0) pa_nil)) (pg_tup rfl (pgs_cons (pg_name (i := 4) sc.nd rfl (Or.inl rfl)) (pgs_cons (pg_tup rfl (pgs_cons (pg_name (i := 5) sc.nd rfl (Or.inl rfl)) (pgs_cons (pg_name (i := 6) sc.nd rfl (Or.inl rfl)) pgs_nil))) pgs_nil)))
 (pss_one (ps_if (PW.pt (pw_and (pt_cmpR op_le (pv 5) (pv 2) (nomark _)) (pw_and1 (pt_cmpR op_notIn_seq (pv 4) (pv 1) rfl))))
 (pss_one (ps_if (PW.pt (pw_or (pt_cmpR op_eq (pv 3) (pe_un un_neg pe_int) (nomark _)) (pw_or1 (pt_cmpR op_lt (pv 6) (pe_ix ix_tup (pe_ix ix_list (pv 0) (pv 3) (fun _ _ => rfl)) pe_int (fun _ _ => rfl)) (nomark _)))))
 (pss_one (ps_set (i := 3) sc.nd rfl (Or.inl rfl) (pv 4)))
 pss_nil))
 pss_nil)))
 (pss_one (ps_ret (pv 3)))))
theorem sc_order_or_bar : FnScope N_order_or_bar ["windows"] (defScope s_order_or_bar) := ⟨rfl, rfl, rfl, by decide +kernel, rfl, by decide +kernel, by decide +kernel⟩
theorem ok_order_or_bar (T : Fx K mg) : Cl P w K mg base CX0 3 "order_or_bar" (sp_order_or_bar K) := by
  obtain ⟨fd, F⟩ := T.F_order_or_bar
  have sc := sc_order_or_bar
  refine ⟨_, fd, ["windows"], T.g_order_or_bar, F.kp, F.bindsN fun _ _ _ _ _ _ us hl => match us, hl with | [_], _ => rfl, ?_⟩
  refine F.ok sc (len_order_or_bar) (fun cdv A outer s H vs Q E hr h => ⟨t_order_or_bar K, PSs.nox ?_, pure_order_or_bar h⟩)
  exact (pss_cons (ps_set (i := 1) sc.nd rfl (Or.inl rfl) (pe_lst pa_nil))
 (pss_cons (ps_set (i := 2) sc.nd rfl (Or.inl rfl) (pe_callB call_len_seq (by rfl) T.n_len b_len (pa_cons (pv 0) pa_nil)))
 (pss_cons (ps_for PassesOwn.never rfl (pi_range2 (by rfl) T.n_range (pa_cons pe_int (pa_cons (pe_op op_add (pv 2) pe_int) pa_nil))) (pg_name (i := 3) sc.nd rfl (Or.inl rfl))
 (pss_cons (ps_set (i := 4) sc.nd rfl (Or.inl rfl) (pe_cl (ok_next_window T) hr (by decide) (by rfl) pass0 (pa_cons (pv 0) (pa_cons (pv 1) (pa_cons (pv 3) pa_nil)))))
 (pss_cons (ps_if (pt_cmpR op_eq (pv 4) (pe_un un_neg pe_int) (nomark _))
 (pss_one (ps_ret (pe_tup (pa_cons pe_str (pa_cons (pe_op op_add (pv 3) pe_int) (pa_cons (pv 2) (pa_cons (pe_cl (ok_within T) hr (by decide) (by rfl) pass0 (pa_cons (pv 0) (pa_cons (pe_op op_add (pv 3) pe_int) (pa_cons (pv 2) pa_nil)))) pa_nil)))))))
 pss_nil)
 (pss_cons (ps_if (pt_cmpR op_lt (pe_ix ix_tup (pe_ix ix_list (pv 0) (pv 4) (fun _ _ => rfl)) pe_int (fun _ _ => rfl)) (pv 3) (nomark _))
 (pss_one (ps_ret (pe_cl (ok_bar_of T) hr (by decide) (by rfl) pass0 (pa_cons (pv 0) (pa_cons (pv 1) (pa_cons (pe_ix ix_tup (pe_ix ix_list (pv 0) (pv 4) (fun _ _ => rfl)) pe_int (fun _ _ => rfl)) pa_nil))))))
 pss_nil)
 (pss_one (ps_expr (pe_bm PySem.F.plainAttrs_list PySem.F.slot_list_append PySem.F.type_list_append mt_append (pv 1) (pa_cons (pv 4) pa_nil))))))))
 (pss_one (ps_ret (pe_tup (pa_cons pe_str (pa_cons (pv 1) pa_nil))))))))
theorem sc_Circle_init : FnScope N_Circle_init ["self", "stake", "pledges", "wishes", "bidding"] (defScope s_Circle_init) := ⟨rfl, rfl, rfl, by decide +kernel, rfl, by decide +kernel, by decide +kernel⟩
theorem ok_Circle_init (T : Fx K mg) : ClK P w K mg base (L2.CX P w) 4 "Circle" (He.ga K "Circle") (sp_Circle_init K) [] := by
  obtain ⟨fd, F⟩ := T.F_Circle_init
  have sc := sc_Circle_init
  obtain ⟨ds, hd, hb⟩ := FunD.binds1 (ps := ["self", "stake", "pledges", "wishes", "bidding"]) F 5 1 (by intro z; cases z) rfl fun _ _ _ _ _ _ _ us its hl h2 => match us, hl, its, h2 with | [_, _, _, _, _], _, [_], _ => ⟨_, rfl, rfl⟩
  refine ⟨_, fd, ["self", "stake", "pledges", "wishes", "bidding"], ds, T.mk_Circle, T.gk_Circle, hb, hd, ?_⟩
  refine F.ok sc (len_Circle_init) (fun cdv A outer s H vs Q E hr h => ⟨t_Circle_init K E, ?_, pure_Circle_init h⟩)
  exact (pss_cons (ps_expr (pe_cl (ok_check_opening T) hr (by decide) (by rfl) (pass_tk (takes_of rfl rfl rfl rfl)) (pa_cons (pv 1) (pa_cons (pv 2) (pa_cons (pv 3) pa_nil)))))
 (pss_cons (ps_set (i := 5) sc.nd rfl (Or.inr rfl) (pe_callB call_len_seq (by rfl) T.n_len b_len (pa_cons (pv 2) pa_nil)))
 (pss_cons (ps_setLc (i := 6) (own := [("coins", 8), ("wish", 9)]) (g := (gTup K 2 (gCons (gName 8) (gCons (gName 9) gNil)))) (tt := tYes) (by rfl) sc.nd rfl rfl (sw_true rfl rfl rfl (by decide +kernel)) (pi_zip (by rfl) T.n_zip (pa_cons (pv 2) (pa_cons (pv 3) pa_nil))) (blkOk_by (own := [("coins", 8), ("wish", 9)]) (N := N_Circle_init) (sc := defScope s_Circle_init) (by decide +kernel)) (fun _ _ _ _ _ => (pg_tup rfl (pgs_cons (pg_name (i := 8) sc.nd rfl (Or.inl rfl)) (pgs_cons (pg_name (i := 9) sc.nd rfl (Or.inl rfl)) pgs_nil)))) (fun _ _ _ _ _ => pts_nil) (fun _ _ _ _ _ => (pe_tup (pa_cons (pe_cl (ok_first_covered T) hr (by decide) (by rfl) pass0 (pa_cons (pv 1) (pa_cons (pv 5) (pa_cons (pv 8) pa_nil)))) (pa_cons (pv 9) pa_nil)))))
 (pss_cons (ps_set (i := 7) sc.nd rfl (Or.inl rfl) (pe_cl (ok_order_or_bar T) hr (by decide) (by rfl) pass0 (pa_cons (pv 6) pa_nil)))
 (pss_cons (ps_if (pt_cmpR op_eq (pe_ix ix_tup (pv 7) pe_int (fun _ _ => rfl)) pe_str (nomark _))
 (pss_one (ps_raiseN rfl (takes_of rfl rfl rfl rfl) (ok_NoOrder_init T) hr (by decide) (by rfl) pass0 (pa_cons (pe_ix ix_tup (pv 7) pe_int (fun _ _ => rfl)) (pa_cons (pe_ix ix_tup (pv 7) pe_int (fun _ _ => rfl)) (pa_cons (pe_ix ix_tup (pv 7) pe_int (fun _ _ => rfl)) pa_nil)))))
 pss_nil)
 (pss_cons (ps_fld (pv 0) (pv 1) rfl)
 (pss_cons (ps_fld (pv 0) (pv 5) rfl)
 (pss_cons (ps_fld (pv 0) (pv 4) rfl)
 (pss_cons (ps_fld (pv 0) pe_int rfl)
 (pss_cons (ps_fld (pv 0) (pe_callTy call_list_of (by rfl) T.n_list b_list (pa_cons (pe_ix ix_tup (pv 7) pe_int (fun _ _ => rfl)) pa_nil)) rfl)
 (pss_cons (ps_fld (pv 0) pe_int rfl)
 (pss_cons (ps_fld (pv 0) pe_int rfl)
 (pss_cons (ps_fld (pv 0) (pe_op op_rep (pe_lst (pa_cons pe_str pa_nil)) (pv 5)) rfl)
 (pss_cons (ps_fld (pv 0) (pe_op op_rep (pe_lst (pa_cons pe_int pa_nil)) (pv 5)) rfl)
 (pss_cons (ps_fld (pv 0) (pe_callTy call_list_of (by rfl) T.n_list b_list (pa_cons (pv 2) pa_nil)) rfl)
 (pss_cons (ps_fld (pv 0) (pe_op op_rep (pe_lst (pa_cons pe_int pa_nil)) (pv 5)) rfl)
 (pss_cons (ps_fld (pv 0) (pe_op op_rep (pe_lst (pa_cons pe_int pa_nil)) (pv 5)) rfl)
 (pss_cons (ps_fld (pv 0) (pe_op op_rep (pe_lst (pa_cons pe_int pa_nil)) (pv 5)) rfl)
 (pss_cons (ps_fld (pv 0) (pe_op op_rep (pe_lst (pa_cons pe_int pa_nil)) (pv 5)) rfl)
 (pss_one (ps_fld (pv 0) (pe_lc (own := [("at", 10)]) (g := (gName 10)) (tt := tYes) (by rfl) sc.nd (pi_range1 (by rfl) T.n_range (pa_cons (pv 5) pa_nil)) (blkOk_by (own := [("at", 10)]) (N := N_Circle_init) (sc := defScope s_Circle_init) (by decide +kernel)) (fun _ _ _ _ _ => (pg_name (i := 10) sc.nd rfl (Or.inl rfl))) (fun _ _ _ _ _ => pts_nil) (fun _ _ _ _ _ => (pe_lst pa_nil))) rfl)))))))))))))))))))))
theorem sc_Circle_ended : FnScope N_Circle_ended ["self"] (defScope s_Circle_ended) := ⟨rfl, rfl, rfl, by decide +kernel, rfl, by decide +kernel, by decide +kernel⟩
theorem ok_Circle_ended (T : Fx K mg) : ClM P w K mg base CX0 1 (He.ga K "Circle") "ended" (sp_Circle_ended K) := by
  obtain ⟨fd, F⟩ := T.F_Circle_ended
  have sc := sc_Circle_ended
  refine ⟨T.cl_Circle, _, fd, ["self"], T.m_Circle_ended, F.bindsN fun _ _ _ _ _ _ us hl => match us, hl with | [_], _ => rfl, ?_⟩
  refine F.ok sc (len_Circle_ended) (fun cdv A outer s H vs Q E hr h => ⟨t_Circle_ended K, PSs.nox ?_, pure_Circle_ended h⟩)
  exact (pss_one (ps_ret (pe_cmpR op_gt (pe_fld (pv 0) rfl) (pe_fld (pv 0) rfl) (nomark _))))
theorem sc_Circle_check_round : FnScope N_Circle_check_round ["self", "paid", "bids"] (defScope s_Circle_check_round) := ⟨rfl, rfl, rfl, by decide +kernel, rfl, by decide +kernel, by decide +kernel⟩
theorem ok_Circle_check_round (T : Fx K mg) : ClM P w K mg base (L2.CX P w) 2 (He.ga K "Circle") "check_round" (sp_Circle_check_round K) := by
  obtain ⟨fd, F⟩ := T.F_Circle_check_round
  have sc := sc_Circle_check_round
  refine ⟨T.cl_Circle, _, fd, ["self", "paid", "bids"], T.m_Circle_check_round, F.bindsN fun _ _ _ _ _ _ us hl => match us, hl with | [_, _, _], _ => rfl, ?_⟩
  refine F.ok sc (len_Circle_check_round) (fun cdv A outer s H vs Q E hr h => ⟨t_Circle_check_round K E, ?_, pure_Circle_check_round h⟩)
  exact (pss_cons (ps_if (pt_val (pe_cm0 (ok_Circle_ended T) hr (by decide) pass0 (pv 0)))
 (pss_one (ps_raise0 rfl (takes_of rfl rfl rfl rfl) T.x_Ended (by rfl)))
 pss_nil)
 (pss_cons (ps_if (PW.pt (pw_or (pt_cmpR op_ne (pe_callB call_len_seq (by rfl) T.n_len b_len (pa_cons (pv 1) pa_nil)) (pe_fld (pv 0) rfl) (nomark _)) (pw_or1 (pt_cmpR op_ne (pe_callB call_len_seq (by rfl) T.n_len b_len (pa_cons (pv 2) pa_nil)) (pe_fld (pv 0) rfl) (nomark _)))))
 (pss_one (ps_raise0 rfl (takes_of rfl rfl rfl rfl) T.x_BadNumber (by rfl)))
 pss_nil)
 (pss_one (ps_for (passes_of rfl) rfl (pi_list (pv 2)) (pg_name (i := 3) sc.nd rfl (Or.inl rfl))
 (pss_one (ps_if (pt_not (pt_chain op_le op_le pe_int (pv 3) (pe_op op_mul (pe_fld (pv 0) rfl) (pe_fld (pv 0) rfl))))
 (pss_one (ps_raise0 rfl (takes_of rfl rfl rfl rfl) T.x_BadNumber (by rfl)))
 pss_nil))))))
theorem sc_Circle_collect : FnScope N_Circle_collect ["self", "helped"] (defScope s_Circle_collect) := ⟨rfl, rfl, rfl, by decide +kernel, rfl, by decide +kernel, by decide +kernel⟩
theorem ok_Circle_collect (T : Fx K mg) : ClM P w K mg base CX0 1 (He.ga K "Circle") "collect" (sp_Circle_collect K) := by
  obtain ⟨fd, F⟩ := T.F_Circle_collect
  have sc := sc_Circle_collect
  refine ⟨T.cl_Circle, _, fd, ["self", "helped"], T.m_Circle_collect, F.bindsN fun _ _ _ _ _ _ us hl => match us, hl with | [_, _], _ => rfl, ?_⟩
  refine F.ok sc (len_Circle_collect) (fun cdv A outer s H vs Q E hr h => ⟨t_Circle_collect K, PSs.nox ?_, pure_Circle_collect h⟩)
  exact (pss_cons (ps_set (i := 2) sc.nd rfl (Or.inl rfl) pe_int)
 (pss_cons (ps_for PassesOwn.never rfl (pi_range1 (by rfl) T.n_range (pa_cons (pe_fld (pv 0) rfl) pa_nil)) (pg_name (i := 3) sc.nd rfl (Or.inl rfl))
 (pss_one (ps_if (pt_cmpR op_ne (pe_ix ix_list (pe_fld (pv 0) rfl) (pv 3) (fun _ _ => rfl)) pe_str (nomark _))
 (pss_cons (ps_aug (i := 2) sc.nd rfl (Or.inl rfl) (pe_fld (pv 0) rfl) ip_add)
 (pss_cons (ps_augS (pe_fld (pv 0) rfl) (pv 3) get_list (pe_fld (pv 0) rfl) ip_add set_list)
 (pss_cons (ps_expr (pe_bm PySem.F.plainAttrs_list PySem.F.slot_list_append PySem.F.type_list_append mt_append (pe_ix ix_list (pe_fld (pv 0) rfl) (pv 3) (fun _ _ => rfl)) (pa_cons (pe_un un_neg (pe_fld (pv 0) rfl)) pa_nil)))
 (pss_one (ps_if (pt_cmpR op_in_seq (pv 3) (pv 1) rfl)
 (pss_cons (ps_augS (pe_fld (pv 0) rfl) (pv 3) get_list (pe_fld (pv 0) rfl) ip_sub set_list)
 (pss_one (ps_augS (pe_fld (pv 0) rfl) (pv 3) get_list pe_int ip_add set_list)))
 pss_nil)))))
 (pss_one (ps_if (pt_cmpR op_lt (pe_ix ix_list (pe_fld (pv 0) rfl) (pv 3) (fun _ _ => rfl)) (pe_fld (pv 0) rfl) (nomark _))
 (pss_one (ps_expr (pe_bm PySem.F.plainAttrs_list PySem.F.slot_list_append PySem.F.type_list_append mt_append (pe_ix ix_list (pe_fld (pv 0) rfl) (pv 3) (fun _ _ => rfl)) (pa_cons pe_int pa_nil))))
 pss_nil)))))
 (pss_one (ps_ret (pv 2)))))
theorem sc_Circle_covered_at : FnScope N_Circle_covered_at ["self", "at", "round_of"] (defScope s_Circle_covered_at) := ⟨rfl, rfl, rfl, by decide +kernel, rfl, by decide +kernel, by decide +kernel⟩
theorem ok_Circle_covered_at (T : Fx K mg) : ClM P w K mg base CX0 2 (He.ga K "Circle") "covered_at" (sp_Circle_covered_at K) := by
  obtain ⟨fd, F⟩ := T.F_Circle_covered_at
  have sc := sc_Circle_covered_at
  refine ⟨T.cl_Circle, _, fd, ["self", "at", "round_of"], T.m_Circle_covered_at, F.bindsN fun _ _ _ _ _ _ us hl => match us, hl with | [_, _, _], _ => rfl, ?_⟩
  refine F.ok sc (len_Circle_covered_at) (fun cdv A outer s H vs Q E hr h => ⟨t_Circle_covered_at K, PSs.nox ?_, pure_Circle_covered_at h⟩)
  exact (pss_one (ps_ret (pe_cmpR op_le (pe_cl (ok_first_covered T) hr (by decide) (by rfl) pass0 (pa_cons (pe_fld (pv 0) rfl) (pa_cons (pe_fld (pv 0) rfl) (pa_cons (pe_ix ix_list (pe_fld (pv 0) rfl) (pv 1) (fun _ _ => rfl)) pa_nil)))) (pv 2) (nomark _))))
theorem sc_Circle_winner : FnScope N_Circle_winner ["self", "bids"] (defScope s_Circle_winner) := ⟨rfl, rfl, rfl, by decide +kernel, rfl, by decide +kernel, by decide +kernel⟩
theorem ok_Circle_winner (T : Fx K mg) : ClM P w K mg base CX0 3 (He.ga K "Circle") "winner" (sp_Circle_winner K) := by
  obtain ⟨fd, F⟩ := T.F_Circle_winner
  have sc := sc_Circle_winner
  refine ⟨T.cl_Circle, _, fd, ["self", "bids"], T.m_Circle_winner, F.bindsN fun _ _ _ _ _ _ us hl => match us, hl with | [_, _], _ => rfl, ?_⟩
  refine F.ok sc (len_Circle_winner) (fun cdv A outer s H vs Q E hr h => ⟨t_Circle_winner K, PSs.nox ?_, pure_Circle_winner h⟩)
  exact (pss_cons (ps_set (i := 2) sc.nd rfl (Or.inl rfl) (pe_un un_neg pe_int))
 (pss_cons (ps_for PassesOwn.never rfl (pi_list (pe_fld (pv 0) rfl)) (pg_name (i := 3) sc.nd rfl (Or.inl rfl))
 (pss_one (ps_if (PW.pt (pw_and (pt_val (pe_fld (pv 0) rfl)) (pw_and (pt_cmpR op_ge (pe_ix ix_list (pv 1) (pv 3) (fun _ _ => rfl)) pe_int (nomark _)) (pw_and1 (pt_val (pe_cm (ok_Circle_covered_at T) hr (by decide) pass0 (pv 0) (pa_cons (pv 3) (pa_cons (pe_fld (pv 0) rfl) pa_nil))))))))
 (pss_one (ps_if (PW.pt (pw_or (pt_cmpR op_eq (pv 2) (pe_un un_neg pe_int) (nomark _)) (pw_or1 (pt_cmpR op_gt (pe_ix ix_list (pv 1) (pv 3) (fun _ _ => rfl)) (pe_ix ix_list (pv 1) (pv 2) (fun _ _ => rfl)) (nomark _)))))
 (pss_one (ps_set (i := 2) sc.nd rfl (Or.inl rfl) (pv 3)))
 pss_nil))
 pss_nil)))
 (pss_cons (ps_if (pt_cmpR op_eq (pv 2) (pe_un un_neg pe_int) (nomark _))
 (pss_one (ps_ret (pe_tup (pa_cons (pe_ix ix_list (pe_fld (pv 0) rfl) pe_int (fun _ _ => rfl)) (pa_cons pe_int pa_nil)))))
 pss_nil)
 (pss_one (ps_ret (pe_tup (pa_cons (pv 2) (pa_cons (pe_ix ix_list (pv 1) (pv 2) (fun _ _ => rfl)) pa_nil))))))))
theorem sc_Circle_draw : FnScope N_Circle_draw ["self", "bids"] (defScope s_Circle_draw) := ⟨rfl, rfl, rfl, by decide +kernel, rfl, by decide +kernel, by decide +kernel⟩
theorem ok_Circle_draw (T : Fx K mg) : ClM P w K mg base CX0 4 (He.ga K "Circle") "draw" (sp_Circle_draw K) := by
  obtain ⟨fd, F⟩ := T.F_Circle_draw
  have sc := sc_Circle_draw
  refine ⟨T.cl_Circle, _, fd, ["self", "bids"], T.m_Circle_draw, F.bindsN fun _ _ _ _ _ _ us hl => match us, hl with | [_, _], _ => rfl, ?_⟩
  refine F.ok sc (len_Circle_draw) (fun cdv A outer s H vs Q E hr h => ⟨t_Circle_draw K, PSs.nox ?_, pure_Circle_draw h⟩)
  exact (pss_cons (ps_asg (pe_cm (ok_Circle_winner T) hr (by decide) pass0 (pv 0) (pa_cons (pv 1) pa_nil)) (pg_tup rfl (pgs_cons (pg_name (i := 2) sc.nd rfl (Or.inr rfl)) (pgs_cons (pg_name (i := 3) sc.nd rfl (Or.inl rfl)) pgs_nil))))
 (pss_cons (ps_setLc (i := 4) (own := [("at", 6)]) (g := (gName 6)) (tt := (tAnd (tTest (tOp rNe (tVar 6) (tVar 2))) (tTest (tOp rNe (tOp (rIxL K) (tFld K (tVar 0) "state") (tVar 6)) (tC (.str "fell")))))) (by rfl) sc.nd rfl rfl (sw_true rfl rfl rfl (by decide +kernel)) (pi_range1 (by rfl) T.n_range (pa_cons (pe_fld (pv 0) rfl) pa_nil)) (blkOk_by (own := [("at", 6)]) (N := N_Circle_draw) (sc := defScope s_Circle_draw) (by decide +kernel)) (fun _ _ _ _ _ => (pg_name (i := 6) sc.nd rfl (Or.inl rfl))) (fun _ _ _ _ _ => (pts_one (PW.pt (pw_and (pt_cmpR op_ne (pv 6) (pv 2) (nomark _)) (pw_and1 (pt_cmpR op_ne (pe_ix ix_list (pe_fld (pv 0) rfl) (pv 6) (fun _ _ => rfl)) pe_str (nomark _))))))) (fun _ _ _ _ _ => (pv 6)))
 (pss_cons (ps_set (i := 5) sc.nd rfl (Or.inl rfl) pe_int)
 (C8.pss_cut (ps_if (pt_cmpR op_gt (pe_callB call_len_seq (by rfl) T.n_len b_len (pa_cons (pv 4) pa_nil)) pe_int (nomark _))
 (pss_one (ps_set (i := 5) sc.nd rfl (Or.inl rfl) (pe_op op_fdivW (pv 3) (pe_callB call_len_seq (by rfl) T.n_len b_len (pa_cons (pv 4) pa_nil)))))
 pss_nil)
 (pss_cons (ps_for PassesOwn.never rfl (pi_list (pv 4)) (pg_name (i := 6) sc.nd rfl (Or.inl rfl))
 (pss_cons (ps_augS (pe_fld (pv 0) rfl) (pv 6) get_list (pv 5) ip_add set_list)
 (pss_one (ps_augS (pe_ix ix_list (pe_fld (pv 0) rfl) (pv 6) (fun _ _ => rfl)) (pe_un un_neg pe_int) get_list (pv 5) ip_add set_list))))
 (pss_cons (ps_set (i := 7) sc.nd rfl (Or.inl rfl) (pe_op op_sub (pe_op op_mul (pe_fld (pv 0) rfl) (pe_fld (pv 0) rfl)) (pe_op op_mul (pv 5) (pe_callB call_len_seq (by rfl) T.n_len b_len (pa_cons (pv 4) pa_nil)))))
 (pss_cons (ps_asg pe_str (pg_sub (pe_fld (pv 0) rfl) (pv 2) set_list))
 (pss_cons (ps_asg (pe_fld (pv 0) rfl) (pg_sub (pe_fld (pv 0) rfl) (pv 2) set_list))
 (pss_cons (ps_expr (pe_bm PySem.F.plainAttrs_list PySem.F.slot_list_remove PySem.F.type_list_remove mt_remove (pe_fld (pv 0) rfl) (pa_cons (pv 2) pa_nil)))
 (pss_cons (ps_asg (pv 7) (pg_sub (pe_fld (pv 0) rfl) (pv 2) set_list))
 (pss_cons (ps_augS (pe_ix ix_list (pe_fld (pv 0) rfl) (pv 2) (fun _ _ => rfl)) (pe_un un_neg pe_int) get_list (pv 7) ip_add set_list)
 (pss_one (ps_ret (pe_tup (pa_cons (pv 2) (pa_cons (pv 7) (pa_cons (pv 5) pa_nil)))))))))))))))))
theorem sc_Circle_put_out : FnScope N_Circle_put_out ["self", "at"] (defScope s_Circle_put_out) := ⟨rfl, rfl, rfl, by decide +kernel, rfl, by decide +kernel, by decide +kernel⟩
theorem ok_Circle_put_out (T : Fx K mg) : ClM P w K mg base CX0 1 (He.ga K "Circle") "put_out" (sp_Circle_put_out K) := by
  obtain ⟨fd, F⟩ := T.F_Circle_put_out
  have sc := sc_Circle_put_out
  refine ⟨T.cl_Circle, _, fd, ["self", "at"], T.m_Circle_put_out, F.bindsN fun _ _ _ _ _ _ us hl => match us, hl with | [_, _], _ => rfl, ?_⟩
  refine F.ok sc (len_Circle_put_out) (fun cdv A outer s H vs Q E hr h => ⟨t_Circle_put_out K, PSs.nox ?_, pure_Circle_put_out h⟩)
  exact (pss_cons (ps_asg pe_str (pg_sub (pe_fld (pv 0) rfl) (pv 1) set_list))
 (pss_cons (ps_asg (pe_fld (pv 0) rfl) (pg_sub (pe_fld (pv 0) rfl) (pv 1) set_list))
 (pss_cons (ps_expr (pe_bm PySem.F.plainAttrs_list PySem.F.slot_list_remove PySem.F.type_list_remove mt_remove (pe_fld (pv 0) rfl) (pa_cons (pv 1) pa_nil)))
 (pss_cons (ps_fldaug (pv 0) pe_int in_add)
 (pss_one (ps_expr (pe_bm PySem.F.plainAttrs_list PySem.F.slot_list_append PySem.F.type_list_append mt_append (pe_ix ix_list (pe_fld (pv 0) rfl) (pv 1) (fun _ _ => rfl)) (pa_cons pe_int pa_nil))))))))
theorem sc_Circle_close : FnScope N_Circle_close ["self", "paid", "bids"] (defScope s_Circle_close) := ⟨rfl, rfl, rfl, by decide +kernel, rfl, by decide +kernel, by decide +kernel⟩
theorem ok_Circle_close (T : Fx K mg) : ClM P w K mg base (L2.CX P w) 5 (He.ga K "Circle") "close" (sp_Circle_close K) := by
  obtain ⟨fd, F⟩ := T.F_Circle_close
  have sc := sc_Circle_close
  refine ⟨T.cl_Circle, _, fd, ["self", "paid", "bids"], T.m_Circle_close, F.bindsN fun _ _ _ _ _ _ us hl => match us, hl with | [_, _, _], _ => rfl, ?_⟩
  refine F.ok sc (len_Circle_close) (fun cdv A outer s H vs Q E hr h => ⟨t_Circle_close K E, ?_, pure_Circle_close h⟩)
  exact (pss_cons (ps_expr (pe_cm (ok_Circle_check_round T) hr (by decide) (pass_tk (takes_of rfl rfl rfl rfl)) (pv 0) (pa_cons (pv 1) (pa_cons (pv 2) pa_nil))))
 (pss_cons (ps_set (i := 3) sc.nd rfl (Or.inl rfl) (pe_fld (pv 0) rfl))
 (pss_cons (ps_setLc (i := 4) (own := [("at", 6)]) (g := (gName 6)) (tt := (tAnd (tTest (tOp rEq (tOp (rIxL K) (tFld K (tVar 0) "state") (tVar 6)) (tC (.str "waits")))) (tNot (tB (tOp (rIxL K) (tVar 1) (tVar 6)))))) (by rfl) sc.nd rfl rfl (sw_true rfl rfl rfl (by decide +kernel)) (pi_range1 (by rfl) T.n_range (pa_cons (pe_fld (pv 0) rfl) pa_nil)) (blkOk_by (own := [("at", 6)]) (N := N_Circle_close) (sc := defScope s_Circle_close) (by decide +kernel)) (fun _ _ _ _ _ => (pg_name (i := 6) sc.nd rfl (Or.inl rfl))) (fun _ _ _ _ _ => (pts_one (PW.pt (pw_and (pt_cmpR op_eq (pe_ix ix_list (pe_fld (pv 0) rfl) (pv 6) (fun _ _ => rfl)) pe_str (nomark _)) (pw_and1 (pt_not (pt_val (pe_ix ix_list (pv 1) (pv 6) (fun _ _ => rfl))))))))) (fun _ _ _ _ _ => (pv 6)))
 (pss_cons (ps_setLc (i := 5) (own := [("at", 6)]) (g := (gName 6)) (tt := (tAnd (tTest (tOp rEq (tOp (rIxL K) (tFld K (tVar 0) "state") (tVar 6)) (tC (.str "drew")))) (tNot (tB (tOp (rIxL K) (tVar 1) (tVar 6)))))) (by rfl) sc.nd rfl rfl (sw_true rfl rfl rfl (by decide +kernel)) (pi_range1 (by rfl) T.n_range (pa_cons (pe_fld (pv 0) rfl) pa_nil)) (blkOk_by (own := [("at", 6)]) (N := N_Circle_close) (sc := defScope s_Circle_close) (by decide +kernel)) (fun _ _ _ _ _ => (pg_name (i := 6) sc.nd rfl (Or.inl rfl))) (fun _ _ _ _ _ => (pts_one (PW.pt (pw_and (pt_cmpR op_eq (pe_ix ix_list (pe_fld (pv 0) rfl) (pv 6) (fun _ _ => rfl)) pe_str (nomark _)) (pw_and1 (pt_not (pt_val (pe_ix ix_list (pv 1) (pv 6) (fun _ _ => rfl))))))))) (fun _ _ _ _ _ => (pv 6)))
 (pss_cons (ps_for (passes_of rfl) rfl (pi_list (pv 4)) (pg_name (i := 6) sc.nd rfl (Or.inl rfl))
 (pss_one (ps_expr (pe_cm (ok_Circle_put_out T) hr (by decide) pass0 (pv 0) (pa_cons (pv 6) pa_nil)))))
 (pss_cons (ps_set (i := 7) sc.nd rfl (Or.inl rfl) (pe_cm (ok_Circle_collect T) hr (by decide) pass0 (pv 0) (pa_cons (pv 5) pa_nil)))
 (C8.pss_cut (ps_if (pt_cmpR op_gt (pe_fld (pv 0) rfl) pe_int (nomark _))
 (pss_cons (ps_fldaug (pv 0) pe_int in_sub)
 (pss_cons (ps_fldaug (pv 0) (pv 7) in_add)
 (pss_one (ps_set (i := 8) sc.nd rfl (Or.inl rfl) (pe_tup (pa_cons (pv 3) (pa_cons pe_str (pa_cons (pe_un un_neg pe_int) (pa_cons (pv 7) (pa_cons pe_int (pa_cons (pe_callTy call_list_of (by rfl) T.n_list b_list (pa_cons (pv 4) pa_nil)) (pa_cons (pe_callTy call_list_of (by rfl) T.n_list b_list (pa_cons (pv 5) pa_nil)) pa_nil))))))))))))
 (pss_cons (ps_asg (pe_cm (ok_Circle_draw T) hr (by decide) pass0 (pv 0) (pa_cons (pv 2) pa_nil)) (pg_tup rfl (pgs_cons (pg_name (i := 6) sc.nd rfl (Or.inl rfl)) (pgs_cons (pg_name (i := 9) sc.nd rfl (Or.inl rfl)) (pgs_cons (pg_name (i := 10) sc.nd rfl (Or.inl rfl)) pgs_nil)))))
 (pss_cons (ps_fldaug (pv 0) (pe_op op_sub (pv 7) (pe_op op_mul (pe_fld (pv 0) rfl) (pe_fld (pv 0) rfl))) in_add)
 (pss_one (ps_set (i := 8) sc.nd rfl (Or.inl rfl) (pe_tup (pa_cons (pv 3) (pa_cons pe_str (pa_cons (pv 6) (pa_cons (pv 9) (pa_cons (pv 10) (pa_cons (pe_callTy call_list_of (by rfl) T.n_list b_list (pa_cons (pv 4) pa_nil)) (pa_cons (pe_callTy call_list_of (by rfl) T.n_list b_list (pa_cons (pv 5) pa_nil)) pa_nil)))))))))))))
 (pss_cons (ps_fldaug (pv 0) pe_int in_add)
 (pss_one (ps_ret (pv 8)))))))))))
theorem sc_Circle_refunds : FnScope N_Circle_refunds ["self"] (defScope s_Circle_refunds) := ⟨rfl, rfl, rfl, by decide +kernel, rfl, by decide +kernel, by decide +kernel⟩
theorem ok_Circle_refunds (T : Fx K mg) : ClM P w K mg base (L2.CX P w) 2 (He.ga K "Circle") "refunds" (sp_Circle_refunds K) := by
  obtain ⟨fd, F⟩ := T.F_Circle_refunds
  have sc := sc_Circle_refunds
  refine ⟨T.cl_Circle, _, fd, ["self"], T.m_Circle_refunds, F.bindsN fun _ _ _ _ _ _ us hl => match us, hl with | [_], _ => rfl, ?_⟩
  refine F.ok sc (len_Circle_refunds) (fun cdv A outer s H vs Q E hr h => ⟨t_Circle_refunds K E, ?_, pure_Circle_refunds h⟩)
  exact (pss_cons (ps_if (pt_not (pt_val (pe_cm0 (ok_Circle_ended T) hr (by decide) pass0 (pv 0))))
 (pss_one (ps_raise0 rfl (takes_of rfl rfl rfl rfl) T.x_NotEnded (by rfl)))
 pss_nil)
 (pss_cons (ps_set (i := 1) sc.nd rfl (Or.inl rfl) (pe_lst pa_nil))
 (pss_cons (ps_for (passes_of rfl) rfl (pi_range1 (by rfl) T.n_range (pa_cons (pe_fld (pv 0) rfl) pa_nil)) (pg_name (i := 2) sc.nd rfl (Or.inl rfl))
 (pss_cons (ps_set (i := 3) sc.nd rfl (Or.inl rfl) (pe_ix ix_list (pe_fld (pv 0) rfl) (pv 2) (fun _ _ => rfl)))
 (C8.pss_cut (ps_if (pt_cmpR op_eq (pe_ix ix_list (pe_fld (pv 0) rfl) (pv 2) (fun _ _ => rfl)) pe_str (nomark _))
 (pss_one (ps_aug (i := 3) sc.nd rfl (Or.inl rfl) (pe_ix ix_list (pe_fld (pv 0) rfl) (pv 2) (fun _ _ => rfl)) ip_add))
 pss_nil)
 (pss_one (ps_expr (pe_bm PySem.F.plainAttrs_list PySem.F.slot_list_append PySem.F.type_list_append mt_append (pv 1) (pa_cons (pv 3) pa_nil)))))))
 (pss_one (ps_ret (pv 1))))))
theorem sc_Circle_twin : FnScope N_Circle_twin ["self"] (defScope s_Circle_twin) := ⟨rfl, rfl, rfl, by decide +kernel, rfl, by decide +kernel, by decide +kernel⟩
theorem ok_Circle_twin (T : Fx K mg) : ClM P w K mg base (L2.CX P w) 6 (He.ga K "Circle") "twin" (sp_Circle_twin K) := by
  obtain ⟨fd, F⟩ := T.F_Circle_twin
  have sc := sc_Circle_twin
  refine ⟨T.cl_Circle, _, fd, ["self"], T.m_Circle_twin, F.bindsN fun _ _ _ _ _ _ us hl => match us, hl with | [_], _ => rfl, ?_⟩
  refine F.ok sc (len_Circle_twin) (fun cdv A outer s H vs Q E hr h => ⟨t_Circle_twin K E, ?_, pure_Circle_twin h⟩)
  exact (pss_cons (ps_set (i := 1) sc.nd rfl (Or.inl rfl) (pe_ck (ok_Circle_init T) hr (by decide) (by rfl) (pass_tk (takes_of rfl rfl rfl rfl)) (pa_cons (pe_fld (pv 0) rfl) (pa_cons (pe_op op_rep (pe_lst (pa_cons (pe_gc (by rfl) T.c_MOST_COINS) pa_nil)) (pe_fld (pv 0) rfl)) (pa_cons (pe_op op_rep (pe_lst (pa_cons (pe_fld (pv 0) rfl) pa_nil)) (pe_fld (pv 0) rfl)) (pa_cons (pe_fld (pv 0) rfl) pa_nil))))))
 (pss_cons (ps_fld (pv 1) (pe_fld (pv 0) rfl) rfl)
 (pss_cons (ps_fld (pv 1) (pe_callTy call_list_of (by rfl) T.n_list b_list (pa_cons (pe_fld (pv 0) rfl) pa_nil)) rfl)
 (pss_cons (ps_fld (pv 1) (pe_fld (pv 0) rfl) rfl)
 (pss_cons (ps_fld (pv 1) (pe_fld (pv 0) rfl) rfl)
 (pss_cons (ps_fld (pv 1) (pe_callTy call_list_of (by rfl) T.n_list b_list (pa_cons (pe_fld (pv 0) rfl) pa_nil)) rfl)
 (pss_cons (ps_fld (pv 1) (pe_callTy call_list_of (by rfl) T.n_list b_list (pa_cons (pe_fld (pv 0) rfl) pa_nil)) rfl)
 (pss_cons (ps_fld (pv 1) (pe_callTy call_list_of (by rfl) T.n_list b_list (pa_cons (pe_fld (pv 0) rfl) pa_nil)) rfl)
 (pss_cons (ps_fld (pv 1) (pe_callTy call_list_of (by rfl) T.n_list b_list (pa_cons (pe_fld (pv 0) rfl) pa_nil)) rfl)
 (pss_cons (ps_fld (pv 1) (pe_callTy call_list_of (by rfl) T.n_list b_list (pa_cons (pe_fld (pv 0) rfl) pa_nil)) rfl)
 (pss_cons (ps_fld (pv 1) (pe_callTy call_list_of (by rfl) T.n_list b_list (pa_cons (pe_fld (pv 0) rfl) pa_nil)) rfl)
 (pss_cons (ps_fld (pv 1) (pe_callTy call_list_of (by rfl) T.n_list b_list (pa_cons (pe_fld (pv 0) rfl) pa_nil)) rfl)
 (pss_cons (ps_fld (pv 1) (pe_lc (own := [("row", 2)]) (g := (gName 2)) (tt := tYes) (by rfl) sc.nd (pi_list (pe_fld (pv 0) rfl)) (blkOk_by (own := [("row", 2)]) (N := N_Circle_twin) (sc := defScope s_Circle_twin) (by decide +kernel)) (fun _ _ _ _ _ => (pg_name (i := 2) sc.nd rfl (Or.inl rfl))) (fun _ _ _ _ _ => pts_nil) (fun _ _ _ _ _ => (pe_callTy call_list_of (by rfl) T.n_list b_list (pa_cons (pv 2) pa_nil)))) rfl)
 (pss_one (ps_ret (pv 1))))))))))))))))
theorem sc_Circle_box : FnScope N_Circle_box ["self"] (defScope s_Circle_box) := ⟨rfl, rfl, rfl, by decide +kernel, rfl, by decide +kernel, by decide +kernel⟩
theorem ok_Circle_box (T : Fx K mg) : ClM P w K mg base CX0 1 (He.ga K "Circle") "box" (sp_Circle_box K) := by
  obtain ⟨fd, F⟩ := T.F_Circle_box
  have sc := sc_Circle_box
  refine ⟨T.cl_Circle, _, fd, ["self"], T.m_Circle_box, F.bindsN fun _ _ _ _ _ _ us hl => match us, hl with | [_], _ => rfl, ?_⟩
  refine F.ok sc (len_Circle_box) (fun cdv A outer s H vs Q E hr h => ⟨t_Circle_box K, PSs.nox ?_, pure_Circle_box h⟩)
  exact (pss_one (ps_ret (pe_fld (pv 0) rfl)))
theorem sc_Circle_check_seat : FnScope N_Circle_check_seat ["self", "at"] (defScope s_Circle_check_seat) := ⟨rfl, rfl, rfl, by decide +kernel, rfl, by decide +kernel, by decide +kernel⟩
theorem ok_Circle_check_seat (T : Fx K mg) : ClM P w K mg base (L2.CX P w) 1 (He.ga K "Circle") "check_seat" (sp_Circle_check_seat K) := by
  obtain ⟨fd, F⟩ := T.F_Circle_check_seat
  have sc := sc_Circle_check_seat
  refine ⟨T.cl_Circle, _, fd, ["self", "at"], T.m_Circle_check_seat, F.bindsN fun _ _ _ _ _ _ us hl => match us, hl with | [_, _], _ => rfl, ?_⟩
  refine F.ok sc (len_Circle_check_seat) (fun cdv A outer s H vs Q E hr h => ⟨t_Circle_check_seat K E, ?_, pure_Circle_check_seat h⟩)
  exact (pss_one (ps_if (pt_not (pt_chain op_le op_lt pe_int (pv 1) (pe_fld (pv 0) rfl)))
 (pss_one (ps_raise0 rfl (takes_of rfl rfl rfl rfl) T.x_NoSeat (by rfl)))
 pss_nil))
theorem sc_Circle_expected : FnScope N_Circle_expected ["self", "at"] (defScope s_Circle_expected) := ⟨rfl, rfl, rfl, by decide +kernel, rfl, by decide +kernel, by decide +kernel⟩
theorem ok_Circle_expected (T : Fx K mg) : ClM P w K mg base (L2.CX P w) 2 (He.ga K "Circle") "expected" (sp_Circle_expected K) := by
  obtain ⟨fd, F⟩ := T.F_Circle_expected
  have sc := sc_Circle_expected
  refine ⟨T.cl_Circle, _, fd, ["self", "at"], T.m_Circle_expected, F.bindsN fun _ _ _ _ _ _ us hl => match us, hl with | [_, _], _ => rfl, ?_⟩
  refine F.ok sc (len_Circle_expected) (fun cdv A outer s H vs Q E hr h => ⟨t_Circle_expected K E, ?_, pure_Circle_expected h⟩)
  exact (pss_cons (ps_expr (pe_cm (ok_Circle_check_seat T) hr (by decide) (pass_tk (takes_of rfl rfl rfl rfl)) (pv 0) (pa_cons (pv 1) pa_nil)))
 (pss_cons (ps_if (pt_cmpR op_eq (pe_ix ix_list (pe_fld (pv 0) rfl) (pv 1) (fun _ _ => rfl)) pe_str (nomark _))
 (pss_one (ps_ret (pe_op op_add (pe_op op_add (pe_fld (pv 0) rfl) (pe_fld (pv 0) rfl)) (pe_bm PySem.F.plainAttrs_list PySem.F.slot_list_index PySem.F.type_list_index mt_index (pe_fld (pv 0) rfl) (pa_cons (pv 1) pa_nil)))))
 pss_nil)
 (pss_cons (ps_if (pt_cmpR op_eq (pe_ix ix_list (pe_fld (pv 0) rfl) (pv 1) (fun _ _ => rfl)) pe_str (nomark _))
 (pss_one (ps_ret (pe_ix ix_list (pe_fld (pv 0) rfl) (pv 1) (fun _ _ => rfl))))
 pss_nil)
 (pss_one (ps_ret pe_int)))))
theorem sc_Circle_flow : FnScope N_Circle_flow ["self", "at"] (defScope s_Circle_flow) := ⟨rfl, rfl, rfl, by decide +kernel, rfl, by decide +kernel, by decide +kernel⟩
theorem ok_Circle_flow (T : Fx K mg) : ClM P w K mg base (L2.CX P w) 2 (He.ga K "Circle") "flow" (sp_Circle_flow K) := by
  obtain ⟨fd, F⟩ := T.F_Circle_flow
  have sc := sc_Circle_flow
  refine ⟨T.cl_Circle, _, fd, ["self", "at"], T.m_Circle_flow, F.bindsN fun _ _ _ _ _ _ us hl => match us, hl with | [_, _], _ => rfl, ?_⟩
  refine F.ok sc (len_Circle_flow) (fun cdv A outer s H vs Q E hr h => ⟨t_Circle_flow K E, ?_, pure_Circle_flow h⟩)
  exact (pss_cons (ps_expr (pe_cm (ok_Circle_check_seat T) hr (by decide) (pass_tk (takes_of rfl rfl rfl rfl)) (pv 0) (pa_cons (pv 1) pa_nil)))
 (pss_one (ps_ret (pe_callTy call_list_of (by rfl) T.n_list b_list (pa_cons (pe_ix ix_list (pe_fld (pv 0) rfl) (pv 1) (fun _ _ => rfl)) pa_nil)))))
theorem sc_Circle_owed : FnScope N_Circle_owed ["self", "at"] (defScope s_Circle_owed) := ⟨rfl, rfl, rfl, by decide +kernel, rfl, by decide +kernel, by decide +kernel⟩
theorem ok_Circle_owed (T : Fx K mg) : ClM P w K mg base (L2.CX P w) 2 (He.ga K "Circle") "owed" (sp_Circle_owed K) := by
  obtain ⟨fd, F⟩ := T.F_Circle_owed
  have sc := sc_Circle_owed
  refine ⟨T.cl_Circle, _, fd, ["self", "at"], T.m_Circle_owed, F.bindsN fun _ _ _ _ _ _ us hl => match us, hl with | [_, _], _ => rfl, ?_⟩
  refine F.ok sc (len_Circle_owed) (fun cdv A outer s H vs Q E hr h => ⟨t_Circle_owed K E, ?_, pure_Circle_owed h⟩)
  exact (pss_cons (ps_expr (pe_cm (ok_Circle_check_seat T) hr (by decide) (pass_tk (takes_of rfl rfl rfl rfl)) (pv 0) (pa_cons (pv 1) pa_nil)))
 (pss_cons (ps_if (pt_cmpR op_eq (pe_ix ix_list (pe_fld (pv 0) rfl) (pv 1) (fun _ _ => rfl)) pe_str (nomark _))
 (pss_one (ps_ret pe_int))
 pss_nil)
 (pss_one (ps_ret (pe_op op_mul (pe_fld (pv 0) rfl) (pe_op op_sub (pe_op op_add (pe_fld (pv 0) rfl) pe_int) (pe_fld (pv 0) rfl)))))))
theorem sc_Circle_queue : FnScope N_Circle_queue ["self"] (defScope s_Circle_queue) := ⟨rfl, rfl, rfl, by decide +kernel, rfl, by decide +kernel, by decide +kernel⟩
theorem ok_Circle_queue (T : Fx K mg) : ClM P w K mg base CX0 1 (He.ga K "Circle") "queue" (sp_Circle_queue K) := by
  obtain ⟨fd, F⟩ := T.F_Circle_queue
  have sc := sc_Circle_queue
  refine ⟨T.cl_Circle, _, fd, ["self"], T.m_Circle_queue, F.bindsN fun _ _ _ _ _ _ us hl => match us, hl with | [_], _ => rfl, ?_⟩
  refine F.ok sc (len_Circle_queue) (fun cdv A outer s H vs Q E hr h => ⟨t_Circle_queue K, PSs.nox ?_, pure_Circle_queue h⟩)
  exact (pss_one (ps_ret (pe_callTy call_list_of (by rfl) T.n_list b_list (pa_cons (pe_fld (pv 0) rfl) pa_nil))))
theorem sc_Circle_rests : FnScope N_Circle_rests ["self"] (defScope s_Circle_rests) := ⟨rfl, rfl, rfl, by decide +kernel, rfl, by decide +kernel, by decide +kernel⟩
theorem ok_Circle_rests (T : Fx K mg) : ClM P w K mg base CX0 1 (He.ga K "Circle") "rests" (sp_Circle_rests K) := by
  obtain ⟨fd, F⟩ := T.F_Circle_rests
  have sc := sc_Circle_rests
  refine ⟨T.cl_Circle, _, fd, ["self"], T.m_Circle_rests, F.bindsN fun _ _ _ _ _ _ us hl => match us, hl with | [_], _ => rfl, ?_⟩
  refine F.ok sc (len_Circle_rests) (fun cdv A outer s H vs Q E hr h => ⟨t_Circle_rests K, PSs.nox ?_, pure_Circle_rests h⟩)
  exact (pss_one (ps_ret (pe_fld (pv 0) rfl)))
theorem sc_Circle_seat : FnScope N_Circle_seat ["self", "at"] (defScope s_Circle_seat) := ⟨rfl, rfl, rfl, by decide +kernel, rfl, by decide +kernel, by decide +kernel⟩
theorem ok_Circle_seat (T : Fx K mg) : ClM P w K mg base (L2.CX P w) 2 (He.ga K "Circle") "seat" (sp_Circle_seat K) := by
  obtain ⟨fd, F⟩ := T.F_Circle_seat
  have sc := sc_Circle_seat
  refine ⟨T.cl_Circle, _, fd, ["self", "at"], T.m_Circle_seat, F.bindsN fun _ _ _ _ _ _ us hl => match us, hl with | [_, _], _ => rfl, ?_⟩
  refine F.ok sc (len_Circle_seat) (fun cdv A outer s H vs Q E hr h => ⟨t_Circle_seat K E, ?_, pure_Circle_seat h⟩)
  exact (pss_cons (ps_expr (pe_cm (ok_Circle_check_seat T) hr (by decide) (pass_tk (takes_of rfl rfl rfl rfl)) (pv 0) (pa_cons (pv 1) pa_nil)))
 (pss_one (ps_ret (pe_tup (pa_cons (pe_ix ix_list (pe_fld (pv 0) rfl) (pv 1) (fun _ _ => rfl)) (pa_cons (pe_ix ix_list (pe_fld (pv 0) rfl) (pv 1) (fun _ _ => rfl)) (pa_cons (pe_ix ix_list (pe_fld (pv 0) rfl) (pv 1) (fun _ _ => rfl)) (pa_cons (pe_ix ix_list (pe_fld (pv 0) rfl) (pv 1) (fun _ _ => rfl)) (pa_cons (pe_ix ix_list (pe_fld (pv 0) rfl) (pv 1) (fun _ _ => rfl)) (pa_cons (pe_ix ix_list (pe_fld (pv 0) rfl) (pv 1) (fun _ _ => rfl)) (pa_cons (pe_ix ix_list (pe_fld (pv 0) rfl) (pv 1) (fun _ _ => rfl)) pa_nil)))))))))))
theorem sc_Circle_turn : FnScope N_Circle_turn ["self"] (defScope s_Circle_turn) := ⟨rfl, rfl, rfl, by decide +kernel, rfl, by decide +kernel, by decide +kernel⟩
theorem ok_Circle_turn (T : Fx K mg) : ClM P w K mg base CX0 1 (He.ga K "Circle") "turn" (sp_Circle_turn K) := by
  obtain ⟨fd, F⟩ := T.F_Circle_turn
  have sc := sc_Circle_turn
  refine ⟨T.cl_Circle, _, fd, ["self"], T.m_Circle_turn, F.bindsN fun _ _ _ _ _ _ us hl => match us, hl with | [_], _ => rfl, ?_⟩
  refine F.ok sc (len_Circle_turn) (fun cdv A outer s H vs Q E hr h => ⟨t_Circle_turn K, PSs.nox ?_, pure_Circle_turn h⟩)
  exact (pss_one (ps_ret (pe_fld (pv 0) rfl)))
theorem sc_law_same : FnScope N_law_same ["_law_told", "_law_due"] (defScope s_law_same) := ⟨rfl, rfl, rfl, by decide +kernel, rfl, by decide +kernel, by decide +kernel⟩
theorem okr_law_same (T : Fx K mg) : ∀ m, Cl P w K mg base CX0 (m + 1) "_law_same" (spn_law_same K m)
  | 0 => by
    have ih : Fx K mg → Cl P w K mg base CX0 0 "_law_same" (fun _ _ _ _ => False) := fun T => T.F_law_same.elim fun fd F => ⟨_, fd, ["_law_told", "_law_due"], T.g_law_same, F.kp, F.bindsN fun _ _ _ _ _ _ us hl => match us, hl with | [_, _], _ => rfl, fn_false⟩
    obtain ⟨fd, F⟩ := T.F_law_same
    have sc := sc_law_same
    refine ⟨_, fd, ["_law_told", "_law_due"], T.g_law_same, F.kp, F.bindsN fun _ _ _ _ _ _ us hl => match us, hl with | [_, _], _ => rfl, ?_⟩
    refine F.ok sc (len_law_same) (fun cdv A outer s H vs Q E hr h => ⟨t_law_same K (fun _ _ _ _ => False), PSs.nox ?_, pure0_law_same h⟩)
    exact (pss_cons (ps_if (PW.pt (pw_or (pt_cmpR op_ne (pe_callB call_isi (by rfl) T.n_isinstance b_isinstance (pa_cons (pv 0) (pa_cons (pe_bltn (v := .ty "bool") (by rfl) T.n_bool b_bool rfl) pa_nil))) (pe_callB call_isi (by rfl) T.n_isinstance b_isinstance (pa_cons (pv 1) (pa_cons (pe_bltn (v := .ty "bool") (by rfl) T.n_bool b_bool rfl) pa_nil))) (nomark _)) (pw_or1 (pt_cmpR op_ne (pe_callB call_isi (by rfl) T.n_isinstance b_isinstance (pa_cons (pv 0) (pa_cons (pe_bltn (v := .ty "int") (by rfl) T.n_int b_int rfl) pa_nil))) (pe_callB call_isi (by rfl) T.n_isinstance b_isinstance (pa_cons (pv 1) (pa_cons (pe_bltn (v := .ty "int") (by rfl) T.n_int b_int rfl) pa_nil))) (nomark _)))))
 (pss_one (ps_ret pe_bl))
 pss_nil)
 (pss_cons (ps_if (PW.pt (pw_or (pt_cmpR op_ne (pe_callB call_isi (by rfl) T.n_isinstance b_isinstance (pa_cons (pv 0) (pa_cons (pe_bltn (v := .ty "list") (by rfl) T.n_list b_list rfl) pa_nil))) (pe_callB call_isi (by rfl) T.n_isinstance b_isinstance (pa_cons (pv 1) (pa_cons (pe_bltn (v := .ty "list") (by rfl) T.n_list b_list rfl) pa_nil))) (nomark _)) (pw_or1 (pt_cmpR op_ne (pe_callB call_isi (by rfl) T.n_isinstance b_isinstance (pa_cons (pv 0) (pa_cons (pe_bltn (v := .ty "tuple") (by rfl) T.n_tuple b_tuple rfl) pa_nil))) (pe_callB call_isi (by rfl) T.n_isinstance b_isinstance (pa_cons (pv 1) (pa_cons (pe_bltn (v := .ty "tuple") (by rfl) T.n_tuple b_tuple rfl) pa_nil))) (nomark _)))))
 (pss_one (ps_ret pe_bl))
 pss_nil)
 (pss_cons (ps_if (PW.pt (pw_and (pt_not (pt_val (pe_callB call_isi (by rfl) T.n_isinstance b_isinstance (pa_cons (pv 1) (pa_cons (pe_bltn (v := .ty "list") (by rfl) T.n_list b_list rfl) pa_nil))))) (pw_and1 (pt_not (pt_val (pe_callB call_isi (by rfl) T.n_isinstance b_isinstance (pa_cons (pv 1) (pa_cons (pe_bltn (v := .ty "tuple") (by rfl) T.n_tuple b_tuple rfl) pa_nil))))))))
 (pss_one (ps_ret (pe_and (pe_cmpR op_eq (pe_callB call_isi (by rfl) T.n_isinstance b_isinstance (pa_cons (pv 0) (pa_cons (pe_bltn (v := .ty "str") (by rfl) T.n_str b_str rfl) pa_nil))) (pe_callB call_isi (by rfl) T.n_isinstance b_isinstance (pa_cons (pv 1) (pa_cons (pe_bltn (v := .ty "str") (by rfl) T.n_str b_str rfl) pa_nil))) (nomark _)) (pe_one (pe_cmpR (op_eqD hr.units) (pv 0) (pv 1) (nomark _))))))
 pss_nil)
 (pss_one (ps_ret (pe_and (pe_cmpR op_eq (pe_callB call_len_seq (by rfl) T.n_len b_len (pa_cons (pv 0) pa_nil)) (pe_callB call_len_seq (by rfl) T.n_len b_len (pa_cons (pv 1) pa_nil)) (nomark _)) (pe_one (pe_callB (cr_all rfl) (by rfl) T.n_all b_all (pa_cons (pe_lc (own := [("_law_one", 2), ("_law_other", 3)]) (g := (gTup K 2 (gCons (gName 2) (gCons (gName 3) gNil)))) (tt := tYes) (by rfl) sc.nd (RZ.pi_zipA (by rfl) T.n_zip (pa_cons (pv 0) (pa_cons (pv 1) pa_nil))) (blkOk_by (own := [("_law_one", 2), ("_law_other", 3)]) (N := N_law_same) (sc := defScope s_law_same) (by decide +kernel)) (fun _ _ _ _ _ => (pg_tup rfl (pgs_cons (pg_name (i := 2) sc.nd rfl (Or.inl rfl)) (pgs_cons (pg_name (i := 3) sc.nd rfl (Or.inl rfl)) pgs_nil)))) (fun _ _ _ _ _ => pts_nil) (fun _ _ _ _ _ => (pe_cl (ih T) hr (by omega) (by rfl) pass0 (pa_cons (pv 2) (pa_cons (pv 3) pa_nil))))) pa_nil)))))))))
  | m + 1 => by
    have ih : Fx K mg → Cl P w K mg base CX0 (m + 1) "_law_same" (spn_law_same K m) := fun T => okr_law_same T m
    obtain ⟨fd, F⟩ := T.F_law_same
    have sc := sc_law_same
    refine ⟨_, fd, ["_law_told", "_law_due"], T.g_law_same, F.kp, F.bindsN fun _ _ _ _ _ _ us hl => match us, hl with | [_, _], _ => rfl, ?_⟩
    refine F.ok sc (len_law_same) (fun cdv A outer s H vs Q E hr h => ⟨t_law_same K (spn_law_same K m), PSs.nox ?_, pureS_law_same h⟩)
    exact (pss_cons (ps_if (PW.pt (pw_or (pt_cmpR op_ne (pe_callB call_isi (by rfl) T.n_isinstance b_isinstance (pa_cons (pv 0) (pa_cons (pe_bltn (v := .ty "bool") (by rfl) T.n_bool b_bool rfl) pa_nil))) (pe_callB call_isi (by rfl) T.n_isinstance b_isinstance (pa_cons (pv 1) (pa_cons (pe_bltn (v := .ty "bool") (by rfl) T.n_bool b_bool rfl) pa_nil))) (nomark _)) (pw_or1 (pt_cmpR op_ne (pe_callB call_isi (by rfl) T.n_isinstance b_isinstance (pa_cons (pv 0) (pa_cons (pe_bltn (v := .ty "int") (by rfl) T.n_int b_int rfl) pa_nil))) (pe_callB call_isi (by rfl) T.n_isinstance b_isinstance (pa_cons (pv 1) (pa_cons (pe_bltn (v := .ty "int") (by rfl) T.n_int b_int rfl) pa_nil))) (nomark _)))))
 (pss_one (ps_ret pe_bl))
 pss_nil)
 (pss_cons (ps_if (PW.pt (pw_or (pt_cmpR op_ne (pe_callB call_isi (by rfl) T.n_isinstance b_isinstance (pa_cons (pv 0) (pa_cons (pe_bltn (v := .ty "list") (by rfl) T.n_list b_list rfl) pa_nil))) (pe_callB call_isi (by rfl) T.n_isinstance b_isinstance (pa_cons (pv 1) (pa_cons (pe_bltn (v := .ty "list") (by rfl) T.n_list b_list rfl) pa_nil))) (nomark _)) (pw_or1 (pt_cmpR op_ne (pe_callB call_isi (by rfl) T.n_isinstance b_isinstance (pa_cons (pv 0) (pa_cons (pe_bltn (v := .ty "tuple") (by rfl) T.n_tuple b_tuple rfl) pa_nil))) (pe_callB call_isi (by rfl) T.n_isinstance b_isinstance (pa_cons (pv 1) (pa_cons (pe_bltn (v := .ty "tuple") (by rfl) T.n_tuple b_tuple rfl) pa_nil))) (nomark _)))))
 (pss_one (ps_ret pe_bl))
 pss_nil)
 (pss_cons (ps_if (PW.pt (pw_and (pt_not (pt_val (pe_callB call_isi (by rfl) T.n_isinstance b_isinstance (pa_cons (pv 1) (pa_cons (pe_bltn (v := .ty "list") (by rfl) T.n_list b_list rfl) pa_nil))))) (pw_and1 (pt_not (pt_val (pe_callB call_isi (by rfl) T.n_isinstance b_isinstance (pa_cons (pv 1) (pa_cons (pe_bltn (v := .ty "tuple") (by rfl) T.n_tuple b_tuple rfl) pa_nil))))))))
 (pss_one (ps_ret (pe_and (pe_cmpR op_eq (pe_callB call_isi (by rfl) T.n_isinstance b_isinstance (pa_cons (pv 0) (pa_cons (pe_bltn (v := .ty "str") (by rfl) T.n_str b_str rfl) pa_nil))) (pe_callB call_isi (by rfl) T.n_isinstance b_isinstance (pa_cons (pv 1) (pa_cons (pe_bltn (v := .ty "str") (by rfl) T.n_str b_str rfl) pa_nil))) (nomark _)) (pe_one (pe_cmpR (op_eqD hr.units) (pv 0) (pv 1) (nomark _))))))
 pss_nil)
 (pss_one (ps_ret (pe_and (pe_cmpR op_eq (pe_callB call_len_seq (by rfl) T.n_len b_len (pa_cons (pv 0) pa_nil)) (pe_callB call_len_seq (by rfl) T.n_len b_len (pa_cons (pv 1) pa_nil)) (nomark _)) (pe_one (pe_callB (cr_all rfl) (by rfl) T.n_all b_all (pa_cons (pe_lc (own := [("_law_one", 2), ("_law_other", 3)]) (g := (gTup K 2 (gCons (gName 2) (gCons (gName 3) gNil)))) (tt := tYes) (by rfl) sc.nd (RZ.pi_zipA (by rfl) T.n_zip (pa_cons (pv 0) (pa_cons (pv 1) pa_nil))) (blkOk_by (own := [("_law_one", 2), ("_law_other", 3)]) (N := N_law_same) (sc := defScope s_law_same) (by decide +kernel)) (fun _ _ _ _ _ => (pg_tup rfl (pgs_cons (pg_name (i := 2) sc.nd rfl (Or.inl rfl)) (pgs_cons (pg_name (i := 3) sc.nd rfl (Or.inl rfl)) pgs_nil)))) (fun _ _ _ _ _ => pts_nil) (fun _ _ _ _ _ => (pe_cl (ih T) hr (by omega) (by rfl) pass0 (pa_cons (pv 2) (pa_cons (pv 3) pa_nil))))) pa_nil)))))))))
theorem ok_law_same (T : Fx K mg) : Cl P w K mg base CX0 8 "_law_same" (sp_law_same K) := okr_law_same T 7
theorem sc_law_alike : FnScope N_law_alike ["_law_circle", "_law_state"] (defScope s_law_alike) := ⟨rfl, rfl, rfl, by decide +kernel, rfl, by decide +kernel, by decide +kernel⟩
theorem ok_law_alike (T : Fx K mg) : Cl P w K mg base CX0 9 "_law_alike" (sp_law_alike K) := by
  obtain ⟨fd, F⟩ := T.F_law_alike
  have sc := sc_law_alike
  refine ⟨_, fd, ["_law_circle", "_law_state"], T.g_law_alike, F.kp, F.bindsN fun _ _ _ _ _ _ us hl => match us, hl with | [_, _], _ => rfl, ?_⟩
  refine F.ok sc (len_law_alike) (fun cdv A outer s H vs Q E hr h => ⟨t_law_alike K, PSs.nox ?_, pure_law_alike h⟩)
  have hu := hu_of hr
  exact (pss_cons (ps_set (i := 2) sc.nd rfl (Or.inl rfl) (pe_lst (pa_cons (pe_cm0 (ok_Circle_turn T) hr (by decide) pass0 (pv 0)) (pa_cons (pe_cm0 (ok_Circle_ended T) hr (by decide) pass0 (pv 0)) (pa_cons (pe_cm0 (ok_Circle_queue T) hr (by decide) pass0 (pv 0)) (pa_cons (pe_cm0 (ok_Circle_rests T) hr (by decide) pass0 (pv 0)) (pa_cons (pe_cm0 (ok_Circle_box T) hr (by decide) pass0 (pv 0)) pa_nil)))))))
 (pss_cons (ps_if (pt_not (pt_val (pe_cl (ok_law_same T) hr (by decide) (by rfl) pass0 (pa_cons (pv 2) (pa_cons (pe_lst (pa_cons (pe_ix ix_list (pv 1) pe_int (fun _ _ => rfl)) (pa_cons (pe_cmpR op_gt (pe_ix ix_list (pv 1) pe_int (fun _ _ => rfl)) (pe_ix ix_list (pv 1) pe_int (fun _ _ => rfl)) (nomark _)) (pa_cons (pe_ix ix_list (pv 1) pe_int (fun _ _ => rfl)) (pa_cons (pe_ix ix_list (pv 1) pe_int (fun _ _ => rfl)) (pa_cons (pe_ix ix_list (pv 1) pe_int (fun _ _ => rfl)) pa_nil)))))) pa_nil)))))
 (pss_one (ps_ret pe_bl))
 pss_nil)
 (pss_cons (ps_for PassesOwn.never rfl (pi_range1 (by rfl) T.n_range (pa_cons (pe_ix ix_list (pv 1) pe_int (fun _ _ => rfl)) pa_nil)) (pg_name (i := 3) sc.nd rfl (Or.inl rfl))
 (pss_cons (ps_set (i := 4) sc.nd rfl (Or.inl rfl) (pe_ix ix_list (pe_ix ix_list (pv 1) pe_int (fun _ _ => rfl)) (pv 3) (fun _ _ => rfl)))
 (pss_cons (ps_set (i := 5) sc.nd rfl (Or.inl rfl) (pe_op op_mul (pe_op op_mul (pe_ix ix_list (pv 1) pe_int (fun _ _ => rfl)) (pe_op op_sub (pe_op op_add (pe_ix ix_list (pv 1) pe_int (fun _ _ => rfl)) pe_int) (pe_ix ix_list (pv 1) pe_int (fun _ _ => rfl)))) (pe_callTy call_int1 (by rfl) T.n_int b_int (pa_cons (pe_cmpR op_ne (pe_ix ix_list (pv 4) pe_int (fun _ _ => rfl)) pe_str (nomark _)) pa_nil))))
 (pss_cons (ps_set (i := 6) sc.nd rfl (Or.inl rfl) (pe_dget hu (pe_disp (pps_cons pe_str pe_int (pps_cons pe_str (pe_ix ix_list (pv 4) pe_int (fun _ _ => rfl)) (pps_cons pe_str pe_int pps_nil))) rfl rfl (by intro h; cases h) (by decide)) (pe_ix ix_list (pv 4) pe_int (fun _ _ => rfl)) (fun _ _ => rfl)))
 (C8.pss_cut (ps_if (pt_cmpR op_eq (pe_ix ix_list (pv 4) pe_int (fun _ _ => rfl)) pe_str (nomark _))
 (pss_one (ps_set (i := 6) sc.nd rfl (Or.inl rfl) (pe_op op_add (pe_op op_add (pe_ix ix_list (pv 1) pe_int (fun _ _ => rfl)) (pe_ix ix_list (pv 1) pe_int (fun _ _ => rfl))) (pe_bm PySem.F.plainAttrs_list PySem.F.slot_list_index PySem.F.type_list_index mt_index (pe_ix ix_list (pv 1) pe_int (fun _ _ => rfl)) (pa_cons (pv 3) pa_nil)))))
 pss_nil)
 (pss_cons (ps_if (pt_not (pt_val (pe_cl (ok_law_same T) hr (by decide) (by rfl) pass0 (pa_cons (pe_lst (pa_cons (pe_cm (ok_Circle_owed T) hr (by decide) passL (pv 0) (pa_cons (pv 3) pa_nil)) (pa_cons (pe_cm (ok_Circle_expected T) hr (by decide) passL (pv 0) (pa_cons (pv 3) pa_nil)) pa_nil))) (pa_cons (pe_lst (pa_cons (pv 5) (pa_cons (pv 6) pa_nil))) pa_nil)))))
 (pss_one (ps_ret pe_bl))
 pss_nil)
 (pss_one (ps_if (PW.pt (pw_or (pt_not (pt_val (pe_cl (ok_law_same T) hr (by decide) (by rfl) pass0 (pa_cons (pe_cm (ok_Circle_seat T) hr (by decide) passL (pv 0) (pa_cons (pv 3) pa_nil)) (pa_cons (pe_callTy call_tuple_of (by rfl) T.n_tuple b_tuple (pa_cons (pv 4) pa_nil)) pa_nil))))) (pw_or1 (pt_not (pt_val (pe_cl (ok_law_same T) hr (by decide) (by rfl) pass0 (pa_cons (pe_cm (ok_Circle_flow T) hr (by decide) passL (pv 0) (pa_cons (pv 3) pa_nil)) (pa_cons (pe_ix ix_list (pe_ix ix_list (pv 1) pe_int (fun _ _ => rfl)) (pv 3) (fun _ _ => rfl)) pa_nil))))))))
 (pss_one (ps_ret pe_bl))
 pss_nil))))))))
 (pss_one (ps_ret pe_bl)))))
theorem sc_law_copy : FnScope N_law_copy ["_law_state"] (defScope s_law_copy) := ⟨rfl, rfl, rfl, by decide +kernel, rfl, by decide +kernel, by decide +kernel⟩
theorem ok_law_copy (T : Fx K mg) : Cl P w K mg base CX0 1 "_law_copy" (sp_law_copy K) := by
  obtain ⟨fd, F⟩ := T.F_law_copy
  have sc := sc_law_copy
  refine ⟨_, fd, ["_law_state"], T.g_law_copy, F.kp, F.bindsN fun _ _ _ _ _ _ us hl => match us, hl with | [_], _ => rfl, ?_⟩
  refine F.ok sc (len_law_copy) (fun cdv A outer s H vs Q E hr h => ⟨t_law_copy K, PSs.nox ?_, pure_law_copy h⟩)
  exact (pss_cons (ps_setLc (i := 1) (own := [("_law_seat", 3)]) (g := (gName 3)) (tt := tYes) (by rfl) sc.nd rfl rfl (sw_true rfl rfl rfl (by decide +kernel)) (pi_list (pe_ix ix_list (pv 0) pe_int (fun _ _ => rfl))) (blkOk_by (own := [("_law_seat", 3)]) (N := N_law_copy) (sc := defScope s_law_copy) (by decide +kernel)) (fun _ _ _ _ _ => (pg_name (i := 3) sc.nd rfl (Or.inl rfl))) (fun _ _ _ _ _ => pts_nil) (fun _ _ _ _ _ => (pe_callTy call_list_of (by rfl) T.n_list b_list (pa_cons (pv 3) pa_nil))))
 (pss_cons (ps_setLc (i := 2) (own := [("_law_flow", 4)]) (g := (gName 4)) (tt := tYes) (by rfl) sc.nd rfl rfl (sw_true rfl rfl rfl (by decide +kernel)) (pi_list (pe_ix ix_list (pv 0) pe_int (fun _ _ => rfl))) (blkOk_by (own := [("_law_flow", 4)]) (N := N_law_copy) (sc := defScope s_law_copy) (by decide +kernel)) (fun _ _ _ _ _ => (pg_name (i := 4) sc.nd rfl (Or.inl rfl))) (fun _ _ _ _ _ => pts_nil) (fun _ _ _ _ _ => (pe_callTy call_list_of (by rfl) T.n_list b_list (pa_cons (pv 4) pa_nil))))
 (pss_one (ps_ret (pe_op op_cat (pe_op op_cat (pe_op op_cat (pe_slice sl_list (pv 0) po_none (po_some pe_int)) (pe_lst (pa_cons (pe_callTy call_list_of (by rfl) T.n_list b_list (pa_cons (pe_ix ix_list (pv 0) pe_int (fun _ _ => rfl)) pa_nil)) pa_nil))) (pe_slice sl_list (pv 0) (po_some pe_int) (po_some pe_int))) (pe_lst (pa_cons (pv 1) (pa_cons (pv 2) pa_nil))))))))
theorem sc_Circle_lay : FnScope N_Circle_lay ["self", "at", "coins"] (defScope s_Circle_lay) := ⟨rfl, rfl, rfl, by decide +kernel, rfl, by decide +kernel, by decide +kernel⟩
theorem ok_Circle_lay (T : Fx K mg) : ClM P w K mg base (L2.CX P w) 2 (He.ga K "Circle") "lay" (sp_Circle_lay K) := by
  obtain ⟨fd, F⟩ := T.F_Circle_lay
  have sc := sc_Circle_lay
  refine ⟨T.cl_Circle, _, fd, ["self", "at", "coins"], T.m_Circle_lay, F.bindsN fun _ _ _ _ _ _ us hl => match us, hl with | [_, _, _], _ => rfl, ?_⟩
  refine F.ok sc (len_Circle_lay) (fun cdv A outer s H vs Q E hr h => ⟨t_Circle_lay K E, ?_, pure_Circle_lay h⟩)
  exact (pss_cons (ps_expr (pe_cm (ok_Circle_check_seat T) hr (by decide) (pass_tk (takes_of rfl rfl rfl rfl)) (pv 0) (pa_cons (pv 1) pa_nil)))
 (pss_cons (ps_if (pt_val (pe_cm0 (ok_Circle_ended T) hr (by decide) pass0 (pv 0)))
 (pss_one (ps_raise0 rfl (takes_of rfl rfl rfl rfl) T.x_Ended (by rfl)))
 pss_nil)
 (pss_cons (ps_if (pt_not (pt_chain op_le op_le pe_int (pv 2) (pe_gc (by rfl) T.c_MOST_COINS)))
 (pss_one (ps_raise0 rfl (takes_of rfl rfl rfl rfl) T.x_BadNumber (by rfl)))
 pss_nil)
 (pss_one (ps_augS (pe_fld (pv 0) rfl) (pv 1) get_list (pv 2) ip_add set_list)))))
theorem sc_Circle_swap : FnScope N_Circle_swap ["self", "at", "other"] (defScope s_Circle_swap) := ⟨rfl, rfl, rfl, by decide +kernel, rfl, by decide +kernel, by decide +kernel⟩
theorem ok_Circle_swap (T : Fx K mg) : ClM P w K mg base (L2.CX P w) 3 (He.ga K "Circle") "swap" (sp_Circle_swap K) := by
  obtain ⟨fd, F⟩ := T.F_Circle_swap
  have sc := sc_Circle_swap
  refine ⟨T.cl_Circle, _, fd, ["self", "at", "other"], T.m_Circle_swap, F.bindsN fun _ _ _ _ _ _ us hl => match us, hl with | [_, _, _], _ => rfl, ?_⟩
  refine F.ok sc (len_Circle_swap) (fun cdv A outer s H vs Q E hr h => ⟨t_Circle_swap K E, ?_, pure_Circle_swap h⟩)
  exact (pss_cons (ps_expr (pe_cm (ok_Circle_check_seat T) hr (by decide) (pass_tk (takes_of rfl rfl rfl rfl)) (pv 0) (pa_cons (pv 1) pa_nil)))
 (pss_cons (ps_expr (pe_cm (ok_Circle_check_seat T) hr (by decide) (pass_tk (takes_of rfl rfl rfl rfl)) (pv 0) (pa_cons (pv 2) pa_nil)))
 (pss_cons (ps_if (pt_val (pe_cm0 (ok_Circle_ended T) hr (by decide) pass0 (pv 0)))
 (pss_one (ps_raise0 rfl (takes_of rfl rfl rfl rfl) T.x_Ended (by rfl)))
 pss_nil)
 (pss_cons (ps_if (PW.pt (pw_or (pt_cmpR op_ne (pe_ix ix_list (pe_fld (pv 0) rfl) (pv 1) (fun _ _ => rfl)) pe_str (nomark _)) (pw_or1 (pt_cmpR op_ne (pe_ix ix_list (pe_fld (pv 0) rfl) (pv 2) (fun _ _ => rfl)) pe_str (nomark _)))))
 (pss_one (ps_raise0 rfl (takes_of rfl rfl rfl rfl) T.x_NotWaiting (by rfl)))
 pss_nil)
 (pss_cons (ps_if (PW.pt (pw_or (pt_not (pt_val (pe_cm (ok_Circle_covered_at T) hr (by decide) pass0 (pv 0) (pa_cons (pv 1) (pa_cons (pe_cm (ok_Circle_expected T) hr (by decide) (pass_tk (takes_of rfl rfl rfl rfl)) (pv 0) (pa_cons (pv 2) pa_nil)) pa_nil))))) (pw_or1 (pt_not (pt_val (pe_cm (ok_Circle_covered_at T) hr (by decide) pass0 (pv 0) (pa_cons (pv 2) (pa_cons (pe_cm (ok_Circle_expected T) hr (by decide) (pass_tk (takes_of rfl rfl rfl rfl)) (pv 0) (pa_cons (pv 1) pa_nil)) pa_nil))))))))
 (pss_one (ps_raise0 rfl (takes_of rfl rfl rfl rfl) T.x_Uncovered (by rfl)))
 pss_nil)
 (pss_cons (ps_set (i := 3) sc.nd rfl (Or.inl rfl) (pe_bm PySem.F.plainAttrs_list PySem.F.slot_list_index PySem.F.type_list_index mt_index (pe_fld (pv 0) rfl) (pa_cons (pv 1) pa_nil)))
 (pss_cons (ps_set (i := 4) sc.nd rfl (Or.inl rfl) (pe_bm PySem.F.plainAttrs_list PySem.F.slot_list_index PySem.F.type_list_index mt_index (pe_fld (pv 0) rfl) (pa_cons (pv 2) pa_nil)))
 (pss_cons (ps_asg (pv 2) (pg_sub (pe_fld (pv 0) rfl) (pv 3) set_list))
 (pss_one (ps_asg (pv 1) (pg_sub (pe_fld (pv 0) rfl) (pv 4) set_list)))))))))))
theorem sc_law_early : FnScope N_law_early ["_law_stake", "_law_size", "_law_pledge"] (defScope s_law_early) := ⟨rfl, rfl, rfl, by decide +kernel, rfl, by decide +kernel, by decide +kernel⟩
theorem ok_law_early (T : Fx K mg) : Cl P w K mg base CX0 1 "_law_early" (sp_law_early K) := by
  obtain ⟨fd, F⟩ := T.F_law_early
  have sc := sc_law_early
  refine ⟨_, fd, ["_law_stake", "_law_size", "_law_pledge"], T.g_law_early, F.kp, F.bindsN fun _ _ _ _ _ _ us hl => match us, hl with | [_, _, _], _ => rfl, ?_⟩
  refine F.ok sc (len_law_early) (fun cdv A outer s H vs Q E hr h => ⟨t_law_early K, PSs.nox ?_, pure_law_early h⟩)
  exact (pss_one (ps_ret (pe_callB (call_max2 rfl) (by rfl) T.n_max b_max (pa_cons pe_int (pa_cons (pe_op op_sub (pv 1) (pe_op op_fdivW (pv 2) (pv 0))) pa_nil)))))
theorem sc_law_people : FnScope N_law_people ["_law_state", "_law_paid_here"] (defScope s_law_people) := ⟨rfl, rfl, rfl, by decide +kernel, rfl, by decide +kernel, by decide +kernel⟩
theorem ok_law_people (T : Fx K mg) : Cl P w K mg base CX0 1 "_law_people" (sp_law_people K) := by
  obtain ⟨fd, F⟩ := T.F_law_people
  have sc := sc_law_people
  refine ⟨_, fd, ["_law_state", "_law_paid_here"], T.g_law_people, F.kp, F.bindsN fun _ _ _ _ _ _ us hl => match us, hl with | [_, _], _ => rfl, ?_⟩
  refine F.ok sc (len_law_people) (fun cdv A outer s H vs Q E hr h => ⟨t_law_people K, PSs.nox ?_, pure_law_people h⟩)
  exact (pss_cons (ps_set (i := 2) sc.nd rfl (Or.inl rfl) (pe_lst pa_nil))
 (pss_cons (ps_set (i := 3) sc.nd rfl (Or.inl rfl) (pe_lst pa_nil))
 (pss_cons (ps_for PassesOwn.never rfl (pi_enum (by rfl) T.n_enumerate (pa_cons (pe_ix ix_list (pv 0) pe_int (fun _ _ => rfl)) pa_nil)) (pg_tup rfl (pgs_cons (pg_name (i := 4) sc.nd rfl (Or.inl rfl)) (pgs_cons (pg_name (i := 5) sc.nd rfl (Or.inl rfl)) pgs_nil)))
 (pss_cons (ps_set (i := 6) sc.nd rfl (Or.inl rfl) pe_int)
 (C8.pss_cut (ps_if (PW.pt (pw_and (pt_cmpR op_eq (pe_ix ix_list (pv 5) pe_int (fun _ _ => rfl)) pe_str (nomark _)) (pw_and1 (pt_not (pt_val (pe_ix ix_list (pv 1) (pv 4) (fun _ _ => rfl)))))))
 (pss_cons (ps_expr (pe_bm PySem.F.plainAttrs_list PySem.F.slot_list_append PySem.F.type_list_append mt_append (pv 2) (pa_cons (pv 4) pa_nil)))
 (pss_cons (ps_asg pe_str (pg_sub (pv 5) pe_int set_list))
 (pss_cons (ps_asg (pe_ix ix_list (pv 0) pe_int (fun _ _ => rfl)) (pg_sub (pv 5) pe_int set_list))
 (pss_one (ps_expr (pe_bm PySem.F.plainAttrs_list PySem.F.slot_list_remove PySem.F.type_list_remove mt_remove (pe_ix ix_list (pv 0) pe_int (fun _ _ => rfl)) (pa_cons (pv 4) pa_nil)))))))
 (pss_one (ps_if (pt_cmpR op_ne (pe_ix ix_list (pv 5) pe_int (fun _ _ => rfl)) pe_str (nomark _))
 (pss_cons (ps_set (i := 6) sc.nd rfl (Or.inl rfl) (pe_un un_neg (pe_ix ix_list (pv 0) pe_int (fun _ _ => rfl))))
 (pss_cons (ps_augS (pv 5) pe_int get_list (pe_ix ix_list (pv 0) pe_int (fun _ _ => rfl)) ip_add set_list)
 (pss_one (ps_if (pt_not (pt_val (pe_ix ix_list (pv 1) (pv 4) (fun _ _ => rfl))))
 (pss_cons (ps_expr (pe_bm PySem.F.plainAttrs_list PySem.F.slot_list_append PySem.F.type_list_append mt_append (pv 3) (pa_cons (pv 4) pa_nil)))
 (pss_cons (ps_augS (pv 5) pe_int get_list (pe_ix ix_list (pv 0) pe_int (fun _ _ => rfl)) ip_sub set_list)
 (pss_one (ps_augS (pv 5) pe_int get_list pe_int ip_add set_list))))
 pss_nil))))
 pss_nil)))
 (pss_one (ps_expr (pe_bm PySem.F.plainAttrs_list PySem.F.slot_list_append PySem.F.type_list_append mt_append (pe_ix ix_list (pe_ix ix_list (pv 0) pe_int (fun _ _ => rfl)) (pv 4) (fun _ _ => rfl)) (pa_cons (pv 6) pa_nil)))))))
 (pss_cons (ps_augS (pv 0) pe_int get_list (pe_callB call_len_seq (by rfl) T.n_len b_len (pa_cons (pv 2) pa_nil)) ip_add set_list)
 (pss_one (ps_ret (pe_tup (pa_cons (pv 2) (pa_cons (pv 3) pa_nil)))))))))
theorem sc_law_winner : FnScope N_law_winner ["_law_state", "_law_bids"] (defScope s_law_winner) := ⟨rfl, rfl, rfl, by decide +kernel, rfl, by decide +kernel, by decide +kernel⟩
theorem ok_law_winner (T : Fx K mg) : Cl P w K mg base CX0 2 "_law_winner" (sp_law_winner K) := by
  obtain ⟨fd, F⟩ := T.F_law_winner
  have sc := sc_law_winner
  refine ⟨_, fd, ["_law_state", "_law_bids"], T.g_law_winner, F.kp, F.bindsN fun _ _ _ _ _ _ us hl => match us, hl with | [_, _], _ => rfl, ?_⟩
  refine F.ok sc (len_law_winner) (fun cdv A outer s H vs Q E hr h => ⟨t_law_winner K, PSs.nox ?_, pure_law_winner h⟩)
  exact (pss_cons (ps_set (i := 2) sc.nd rfl (Or.inl rfl) (pe_ix ix_list (pe_ix ix_list (pv 0) pe_int (fun _ _ => rfl)) pe_int (fun _ _ => rfl)))
 (pss_cons (ps_set (i := 3) sc.nd rfl (Or.inl rfl) pe_int)
 (pss_cons (ps_for PassesOwn.never rfl (pi_list (pe_ix ix_list (pv 0) pe_int (fun _ _ => rfl))) (pg_name (i := 4) sc.nd rfl (Or.inl rfl))
 (pss_cons (ps_set (i := 5) sc.nd rfl (Or.inl rfl) (pe_cl (ok_law_early T) hr (by decide) (by rfl) pass0 (pa_cons (pe_ix ix_list (pv 0) pe_int (fun _ _ => rfl)) (pa_cons (pe_ix ix_list (pv 0) pe_int (fun _ _ => rfl)) (pa_cons (pe_ix ix_list (pe_ix ix_list (pe_ix ix_list (pv 0) pe_int (fun _ _ => rfl)) (pv 4) (fun _ _ => rfl)) pe_int (fun _ _ => rfl)) pa_nil)))))
 (pss_one (ps_if (PW.pt (pw_and (pt_val (pe_ix ix_list (pv 0) pe_int (fun _ _ => rfl))) (pw_and (pt_cmpR op_gt (pe_ix ix_list (pv 1) (pv 4) (fun _ _ => rfl)) (pv 3) (nomark _)) (pw_and1 (pt_cmpR op_le (pv 5) (pe_ix ix_list (pv 0) pe_int (fun _ _ => rfl)) (nomark _))))))
 (pss_cons (ps_set (i := 2) sc.nd rfl (Or.inl rfl) (pv 4))
 (pss_one (ps_set (i := 3) sc.nd rfl (Or.inl rfl) (pe_ix ix_list (pv 1) (pv 4) (fun _ _ => rfl)))))
 pss_nil))))
 (pss_one (ps_ret (pe_tup (pa_cons (pv 2) (pa_cons (pv 3) pa_nil))))))))
theorem sc_law_round : FnScope N_law_round ["_law_state", "_law_paid_here", "_law_bids"] (defScope s_law_round) := ⟨rfl, rfl, rfl, by decide +kernel, rfl, by decide +kernel, by decide +kernel⟩
theorem ok_law_round (T : Fx K mg) : Cl P w K mg base CX0 3 "_law_round" (sp_law_round K) := by
  obtain ⟨fd, F⟩ := T.F_law_round
  have sc := sc_law_round
  refine ⟨_, fd, ["_law_state", "_law_paid_here", "_law_bids"], T.g_law_round, F.kp, F.bindsN fun _ _ _ _ _ _ us hl => match us, hl with | [_, _, _], _ => rfl, ?_⟩
  refine F.ok sc (len_law_round) (fun cdv A outer s H vs Q E hr h => ⟨t_law_round K, PSs.nox ?_, pure_law_round h⟩)
  exact (pss_cons (ps_asg (pe_cl (ok_law_people T) hr (by decide) (by rfl) pass0 (pa_cons (pv 0) (pa_cons (pv 1) pa_nil))) (pg_tup rfl (pgs_cons (pg_name (i := 3) sc.nd rfl (Or.inl rfl)) (pgs_cons (pg_name (i := 4) sc.nd rfl (Or.inl rfl)) pgs_nil))))
 (pss_cons (ps_setLc (i := 5) (own := [("_law_at", 12)]) (g := (gName 12)) (tt := (tTest (tOp rNe (tOp (rIxL K) (tOp (rIxL K) (tOp (rIxL K) (tVar 0) (tC (.int 7))) (tVar 12)) (tC (.int 0))) (tC (.str "fell"))))) (by rfl) sc.nd rfl rfl (sw_true rfl rfl rfl (by decide +kernel)) (pi_range1 (by rfl) T.n_range (pa_cons (pe_ix ix_list (pv 0) pe_int (fun _ _ => rfl)) pa_nil)) (blkOk_by (own := [("_law_at", 12)]) (N := N_law_round) (sc := defScope s_law_round) (by decide +kernel)) (fun _ _ _ _ _ => (pg_name (i := 12) sc.nd rfl (Or.inl rfl))) (fun _ _ _ _ _ => (pts_one (pt_cmpR op_ne (pe_ix ix_list (pe_ix ix_list (pe_ix ix_list (pv 0) pe_int (fun _ _ => rfl)) (pv 12) (fun _ _ => rfl)) pe_int (fun _ _ => rfl)) pe_str (nomark _)))) (fun _ _ _ _ _ => (pv 12)))
 (pss_cons (ps_set (i := 6) sc.nd rfl (Or.inl rfl) (pe_op op_mul (pe_ix ix_list (pv 0) pe_int (fun _ _ => rfl)) (pe_callB call_len_seq (by rfl) T.n_len b_len (pa_cons (pv 5) pa_nil))))
 (pss_cons (ps_set (i := 7) sc.nd rfl (Or.inl rfl) (pe_ix ix_list (pv 0) pe_int (fun _ _ => rfl)))
 (pss_cons (ps_if (pt_cmpR op_gt (pe_ix ix_list (pv 0) pe_int (fun _ _ => rfl)) pe_int (nomark _))
 (pss_cons (ps_augS (pv 0) pe_int get_list pe_int ip_add set_list)
 (pss_cons (ps_augS (pv 0) pe_int get_list pe_int ip_sub set_list)
 (pss_cons (ps_augS (pv 0) pe_int get_list (pv 6) ip_add set_list)
 (pss_one (ps_ret (pe_tup (pa_cons (pv 7) (pa_cons pe_str (pa_cons (pe_un un_neg pe_int) (pa_cons (pv 6) (pa_cons pe_int (pa_cons (pv 3) (pa_cons (pv 4) pa_nil)))))))))))))
 pss_nil)
 (pss_cons (ps_asg (pe_cl (ok_law_winner T) hr (by decide) (by rfl) pass0 (pa_cons (pv 0) (pa_cons (pv 2) pa_nil))) (pg_tup rfl (pgs_cons (pg_name (i := 8) sc.nd rfl (Or.inl rfl)) (pgs_cons (pg_name (i := 9) sc.nd rfl (Or.inl rfl)) pgs_nil))))
 (pss_cons (ps_set (i := 10) sc.nd rfl (Or.inl rfl) (pe_op op_mul (pe_op op_fdivW (pv 9) (pe_callB (call_max2 rfl) (by rfl) T.n_max b_max (pa_cons pe_int (pa_cons (pe_op op_sub (pe_callB call_len_seq (by rfl) T.n_len b_len (pa_cons (pv 5) pa_nil)) pe_int) pa_nil)))) (pe_callTy call_int1 (by rfl) T.n_int b_int (pa_cons (pe_cmpR op_gt (pe_callB call_len_seq (by rfl) T.n_len b_len (pa_cons (pv 5) pa_nil)) pe_int (nomark _)) pa_nil))))
 (pss_cons (ps_set (i := 11) sc.nd rfl (Or.inl rfl) (pe_op op_sub (pe_op op_mul (pe_ix ix_list (pv 0) pe_int (fun _ _ => rfl)) (pe_ix ix_list (pv 0) pe_int (fun _ _ => rfl))) (pe_op op_mul (pv 10) (pe_op op_sub (pe_callB call_len_seq (by rfl) T.n_len b_len (pa_cons (pv 5) pa_nil)) pe_int))))
 (pss_cons (ps_for PassesOwn.never rfl (pi_list (pv 5)) (pg_name (i := 12) sc.nd rfl (Or.inl rfl))
 (pss_cons (ps_augS (pe_ix ix_list (pe_ix ix_list (pv 0) pe_int (fun _ _ => rfl)) (pv 12) (fun _ _ => rfl)) pe_int get_list (pe_op op_mul (pv 10) (pe_callTy call_int1 (by rfl) T.n_int b_int (pa_cons (pe_cmpR op_ne (pv 12) (pv 8) (nomark _)) pa_nil))) ip_add set_list)
 (pss_one (ps_augS (pe_ix ix_list (pe_ix ix_list (pv 0) pe_int (fun _ _ => rfl)) (pv 12) (fun _ _ => rfl)) (pe_un un_neg pe_int) get_list (pe_op op_mul (pv 10) (pe_callTy call_int1 (by rfl) T.n_int b_int (pa_cons (pe_cmpR op_ne (pv 12) (pv 8) (nomark _)) pa_nil))) ip_add set_list))))
 (pss_cons (ps_augS (pv 0) pe_int get_list pe_int ip_add set_list)
 (pss_cons (ps_expr (pe_bm PySem.F.plainAttrs_list PySem.F.slot_list_remove PySem.F.type_list_remove mt_remove (pe_ix ix_list (pv 0) pe_int (fun _ _ => rfl)) (pa_cons (pv 8) pa_nil)))
 (pss_cons (ps_augS (pv 0) pe_int get_list (pe_op op_sub (pv 6) (pe_op op_mul (pe_ix ix_list (pv 0) pe_int (fun _ _ => rfl)) (pe_ix ix_list (pv 0) pe_int (fun _ _ => rfl)))) ip_add set_list)
 (pss_cons (ps_asg (pe_lst (pa_cons pe_str (pa_cons (pv 7) pa_nil))) (pg_slI (pe_ix ix_list (pe_ix ix_list (pv 0) pe_int (fun _ _ => rfl)) (pv 8) (fun _ _ => rfl)) (po_some pe_int) (po_some pe_int)))
 (pss_cons (ps_asg (pv 11) (pg_sub (pe_ix ix_list (pe_ix ix_list (pv 0) pe_int (fun _ _ => rfl)) (pv 8) (fun _ _ => rfl)) pe_int set_list))
 (pss_cons (ps_augS (pe_ix ix_list (pe_ix ix_list (pv 0) pe_int (fun _ _ => rfl)) (pv 8) (fun _ _ => rfl)) (pe_un un_neg pe_int) get_list (pv 11) ip_add set_list)
 (pss_one (ps_ret (pe_tup (pa_cons (pv 7) (pa_cons pe_str (pa_cons (pv 8) (pa_cons (pv 11) (pa_cons (pv 10) (pa_cons (pv 3) (pa_cons (pv 4) pa_nil)))))))))))))))))))))))))
theorem sc_law_done : FnScope N_law_done ["_law_circle", "_law_state", "_law_paid_here", "_law_bids"] (defScope s_law_done) := ⟨rfl, rfl, rfl, by decide +kernel, rfl, by decide +kernel, by decide +kernel⟩
theorem ok_law_done (T : Fx K mg) : Cl P w K mg base CX0 9 "_law_done" (sp_law_done K) := by
  obtain ⟨fd, F⟩ := T.F_law_done
  have sc := sc_law_done
  refine ⟨_, fd, ["_law_circle", "_law_state", "_law_paid_here", "_law_bids"], T.g_law_done, F.kp, F.bindsN fun _ _ _ _ _ _ us hl => match us, hl with | [_, _, _, _], _ => rfl, ?_⟩
  refine F.ok sc (len_law_done) (fun cdv A outer s H vs Q E hr h => ⟨t_law_done K, PSs.nox ?_, pure_law_done h⟩)
  exact (pss_cons (ps_if (pt_cmpR op_gt (pe_ix ix_list (pv 1) pe_int (fun _ _ => rfl)) (pe_ix ix_list (pv 1) pe_int (fun _ _ => rfl)) (nomark _))
 (pss_one (ps_ret pe_bl))
 pss_nil)
 (C8.pss_cut (ps_if (pt_cmpR op_gt (pe_callB call_len_seq (by rfl) T.n_len b_len (pa_cons (pe_ix ix_list (pv 1) pe_int (fun _ _ => rfl)) pa_nil)) pe_int (nomark _))
 (pss_cons (ps_set (i := 4) sc.nd rfl (Or.inl rfl) (pe_ix ix_list (pe_ix ix_list (pv 1) pe_int (fun _ _ => rfl)) (pe_un un_neg pe_int) (fun _ _ => rfl)))
 (pss_cons (ps_expr (pe_cm (ok_Circle_lay T) hr (by decide) passL (pv 0) (pa_cons (pv 4) (pa_cons (pe_op op_mul (pe_ix ix_list (pv 1) pe_int (fun _ _ => rfl)) (pe_ix ix_list (pv 1) pe_int (fun _ _ => rfl))) pa_nil))))
 (pss_cons (ps_augS (pe_ix ix_list (pe_ix ix_list (pv 1) pe_int (fun _ _ => rfl)) (pv 4) (fun _ _ => rfl)) pe_int get_list (pe_op op_mul (pe_ix ix_list (pv 1) pe_int (fun _ _ => rfl)) (pe_ix ix_list (pv 1) pe_int (fun _ _ => rfl))) ip_add set_list)
 (pss_cons (ps_set (i := 5) sc.nd rfl (Or.inl rfl) (pe_cl (ok_law_early T) hr (by decide) (by rfl) pass0 (pa_cons (pe_ix ix_list (pv 1) pe_int (fun _ _ => rfl)) (pa_cons (pe_ix ix_list (pv 1) pe_int (fun _ _ => rfl)) (pa_cons (pe_ix ix_list (pe_ix ix_list (pe_ix ix_list (pv 1) pe_int (fun _ _ => rfl)) (pe_ix ix_list (pe_ix ix_list (pv 1) pe_int (fun _ _ => rfl)) pe_int (fun _ _ => rfl)) (fun _ _ => rfl)) pe_int (fun _ _ => rfl)) pa_nil)))))
 (pss_cons (ps_expr (pe_cm (ok_Circle_swap T) hr (by decide) passL (pv 0) (pa_cons (pv 4) (pa_cons (pv 4) pa_nil))))
 (pss_one (ps_if (pt_cmpR op_le (pv 5) (pe_op op_sub (pe_op op_add (pe_op op_add (pe_ix ix_list (pv 1) pe_int (fun _ _ => rfl)) (pe_ix ix_list (pv 1) pe_int (fun _ _ => rfl))) (pe_callB call_len_seq (by rfl) T.n_len b_len (pa_cons (pe_ix ix_list (pv 1) pe_int (fun _ _ => rfl)) pa_nil))) pe_int) (nomark _))
 (pss_cons (ps_expr (pe_cm (ok_Circle_swap T) hr (by decide) passL (pv 0) (pa_cons (pv 4) (pa_cons (pe_ix ix_list (pe_ix ix_list (pv 1) pe_int (fun _ _ => rfl)) pe_int (fun _ _ => rfl)) pa_nil))))
 (pss_cons (ps_asg (pe_ix ix_list (pe_ix ix_list (pv 1) pe_int (fun _ _ => rfl)) pe_int (fun _ _ => rfl)) (pg_sub (pe_ix ix_list (pv 1) pe_int (fun _ _ => rfl)) (pe_un un_neg pe_int) set_list))
 (pss_one (ps_asg (pv 4) (pg_sub (pe_ix ix_list (pv 1) pe_int (fun _ _ => rfl)) pe_int set_list)))))
 pss_nil)))))))
 pss_nil)
 (pss_one (ps_ret (pe_cl (ok_law_same T) hr (by decide) (by rfl) pass0 (pa_cons (pe_cm (ok_Circle_close T) hr (by decide) passL (pv 0) (pa_cons (pv 2) (pa_cons (pv 3) pa_nil))) (pa_cons (pe_cl (ok_law_round T) hr (by decide) (by rfl) pass0 (pa_cons (pv 1) (pa_cons (pv 2) (pa_cons (pv 3) pa_nil)))) pa_nil)))))))
theorem sc_law_draws : FnScope N_law_draws ["_law_script", "_law_many"] (defScope s_law_draws) := ⟨rfl, rfl, rfl, by decide +kernel, rfl, by decide +kernel, by decide +kernel⟩
theorem ok_law_draws (T : Fx K mg) : Cl P w K mg base CX0 1 "_law_draws" (sp_law_draws K) := by
  obtain ⟨fd, F⟩ := T.F_law_draws
  have sc := sc_law_draws
  refine ⟨_, fd, ["_law_script", "_law_many"], T.g_law_draws, F.kp, F.bindsN fun _ _ _ _ _ _ us hl => match us, hl with | [_, _], _ => rfl, ?_⟩
  refine F.ok sc (len_law_draws) (fun cdv A outer s H vs Q E hr h => ⟨t_law_draws K, PSs.nox ?_, pure_law_draws h⟩)
  exact (pss_cons (ps_set (i := 2) sc.nd rfl (Or.inl rfl) (pe_lst pa_nil))
 (pss_cons (ps_set (i := 3) sc.nd rfl (Or.inl rfl) pe_int)
 (pss_cons (ps_for PassesOwn.never rfl (pi_list (pv 0)) (pg_name (i := 4) sc.nd rfl (Or.inl rfl))
 (pss_cons (ps_set (i := 3) sc.nd rfl (Or.inl rfl) (pe_op op_mod (pe_op op_add (pe_op op_mul (pv 3) pe_int) (pv 4)) pe_int))
 (pss_cons (ps_set (i := 5) sc.nd rfl (Or.inl rfl) (pe_callB call_abs (by rfl) T.n_abs b_abs (pa_cons (pv 4) pa_nil)))
 (C8.pss_cut (ps_if (pt_cmpR op_lt (pv 5) (pe_op op_pow pe_int pe_int) (nomark _))
 (pss_cons (ps_expr (pe_bm PySem.F.plainAttrs_list PySem.F.slot_list_append PySem.F.type_list_append mt_append (pv 2) (pa_cons (pv 4) pa_nil)))
 (pss_one (ps_set (i := 5) sc.nd rfl (Or.inl rfl) pe_int)))
 pss_nil)
 (pss_one (ps_while PassesOwn.never (PW.pt (pw_and (pt_cmpR op_gt (pv 5) pe_int (nomark _)) (pw_and1 (pt_cmpR op_lt (pe_callB call_len_seq (by rfl) T.n_len b_len (pa_cons (pv 2) pa_nil)) (pv 1) (nomark _)))))
 (pss_cons (ps_expr (pe_bm PySem.F.plainAttrs_list PySem.F.slot_list_append PySem.F.type_list_append mt_append (pv 2) (pa_cons (pe_op op_mod (pv 5) pe_int) pa_nil)))
 (pss_one (ps_set (i := 5) sc.nd rfl (Or.inl rfl) (pe_op op_fdiv (pv 5) pe_int))))))))))
 (pss_cons (ps_while PassesOwn.never (pt_cmpR op_lt (pe_callB call_len_seq (by rfl) T.n_len b_len (pa_cons (pv 2) pa_nil)) (pv 1) (nomark _))
 (pss_cons (ps_set (i := 3) sc.nd rfl (Or.inl rfl) (pe_op op_mod (pe_op op_add (pe_op op_mul (pv 3) pe_int) pe_int) pe_int))
 (pss_one (ps_expr (pe_bm PySem.F.plainAttrs_list PySem.F.slot_list_append PySem.F.type_list_append mt_append (pv 2) (pa_cons (pe_op op_mod (pe_op op_mul (pv 3) (pv 3)) pe_int) pa_nil))))))
 (pss_one (ps_ret (pv 2)))))))
theorem sc_law_told_order : FnScope N_law_told_order ["_law_windows"] (defScope s_law_told_order) := ⟨rfl, rfl, rfl, by decide +kernel, rfl, by decide +kernel, by decide +kernel⟩
theorem ok_law_told_order (T : Fx K mg) : Cl P w K mg base CX0 1 "_law_told_order" (sp_law_told_order K) := by
  obtain ⟨fd, F⟩ := T.F_law_told_order
  have sc := sc_law_told_order
  refine ⟨_, fd, ["_law_windows"], T.g_law_told_order, F.kp, F.bindsN fun _ _ _ _ _ _ us hl => match us, hl with | [_], _ => rfl, ?_⟩
  refine F.ok sc (len_law_told_order) (fun cdv A outer s H vs Q E hr h => ⟨t_law_told_order K, PSs.nox ?_, pure_law_told_order h⟩)
  exact (pss_cons (ps_set (i := 1) sc.nd rfl (Or.inr rfl) (pe_lst pa_nil))
 (pss_cons (ps_for PassesOwn.never rfl (pi_range2 (by rfl) T.n_range (pa_cons pe_int (pa_cons (pe_op op_add (pe_callB call_len_seq (by rfl) T.n_len b_len (pa_cons (pv 0) pa_nil)) pe_int) pa_nil))) (pg_name (i := 2) sc.nd rfl (Or.inr rfl))
 (pss_cons (ps_setLc (i := 3) (own := [("_law_at", 6)]) (g := (gName 6)) (tt := (tAnd (tTest (tOp (rIn K true) (tVar 6) (tVar 1))) (tTest (tOp rLe (tOp (rIxT K) (tOp (rIxL K) (tVar 0) (tVar 6)) (tC (.int 0))) (tVar 2))))) (by rfl) sc.nd rfl rfl (sw_true rfl rfl rfl (by decide +kernel)) (pi_range1 (by rfl) T.n_range (pa_cons (pe_callB call_len_seq (by rfl) T.n_len b_len (pa_cons (pv 0) pa_nil)) pa_nil)) (blkOk_by (own := [("_law_at", 6)]) (N := N_law_told_order) (sc := defScope s_law_told_order) (by decide +kernel)) (fun _ _ _ _ _ => (pg_name (i := 6) sc.nd rfl (Or.inl rfl))) (fun _ _ _ _ _ => (pts_one (PW.pt (pw_and (pt_cmpR op_notIn_seq (pv 6) (pv 1) rfl) (pw_and1 (pt_cmpR op_le (pe_ix ix_tup (pe_ix ix_list (pv 0) (pv 6) (fun _ _ => rfl)) pe_int (fun _ _ => rfl)) (pv 2) (nomark _))))))) (fun _ _ _ _ _ => (pv 6)))
 (pss_cons (ps_if (pt_cmpR op_eq (pe_callB call_len_seq (by rfl) T.n_len b_len (pa_cons (pv 3) pa_nil)) pe_int (nomark _))
 (pss_one (ps_ret pe_non))
 pss_nil)
 (pss_cons (ps_set (i := 4) sc.nd rfl (Or.inr rfl) (pe_callB (cr_min rfl) (by rfl) T.n_min b_min (pa_cons (pe_lc (own := [("_law_at", 6)]) (g := (gName 6)) (tt := tYes) (by rfl) sc.nd (pi_list (pv 3)) (blkOk_by (own := [("_law_at", 6)]) (N := N_law_told_order) (sc := defScope s_law_told_order) (by decide +kernel)) (fun _ _ _ _ _ => (pg_name (i := 6) sc.nd rfl (Or.inl rfl))) (fun _ _ _ _ _ => pts_nil) (fun _ _ _ _ _ => (pe_ix ix_tup (pe_ix ix_list (pv 0) (pv 6) (fun _ _ => rfl)) pe_int (fun _ _ => rfl)))) pa_nil)))
 (pss_cons (ps_set (i := 5) sc.nd rfl (Or.inl rfl) (pe_ix ix_list (pe_lc (own := [("_law_at", 6)]) (g := (gName 6)) (tt := (tTest (tOp rEq (tOp (rIxT K) (tOp (rIxL K) (tVar 0) (tVar 6)) (tC (.int 1))) (tVar 4)))) (by rfl) sc.nd (pi_list (pv 3)) (blkOk_by (own := [("_law_at", 6)]) (N := N_law_told_order) (sc := defScope s_law_told_order) (by decide +kernel)) (fun _ _ _ _ _ => (pg_name (i := 6) sc.nd rfl (Or.inl rfl))) (fun _ _ _ _ _ => (pts_one (pt_cmpR op_eq (pe_ix ix_tup (pe_ix ix_list (pv 0) (pv 6) (fun _ _ => rfl)) pe_int (fun _ _ => rfl)) (pv 4) (nomark _)))) (fun _ _ _ _ _ => (pv 6))) pe_int (fun _ _ => rfl)))
 (pss_cons (ps_if (pt_cmpR op_lt (pv 4) (pv 2) (nomark _))
 (pss_one (ps_ret pe_non))
 pss_nil)
 (pss_one (ps_expr (pe_bm PySem.F.plainAttrs_list PySem.F.slot_list_append PySem.F.type_list_append mt_append (pv 1) (pa_cons (pv 5) pa_nil))))))))))
 (pss_one (ps_ret (pv 1)))))
theorem sc_law_new : FnScope N_law_new ["_law_stake", "_law_pledges", "_law_wishes", "_law_bidding"] (defScope s_law_new) := ⟨rfl, rfl, rfl, by decide +kernel, rfl, by decide +kernel, by decide +kernel⟩
theorem ok_law_new (T : Fx K mg) : Cl P w K mg base CX0 2 "_law_new" (sp_law_new K) := by
  obtain ⟨fd, F⟩ := T.F_law_new
  have sc := sc_law_new
  refine ⟨_, fd, ["_law_stake", "_law_pledges", "_law_wishes", "_law_bidding"], T.g_law_new, F.kp, F.bindsN fun _ _ _ _ _ _ us hl => match us, hl with | [_, _, _, _], _ => rfl, ?_⟩
  refine F.ok sc (len_law_new) (fun cdv A outer s H vs Q E hr h => ⟨t_law_new K, PSs.nox ?_, pure_law_new h⟩)
  exact (pss_cons (ps_set (i := 4) sc.nd rfl (Or.inl rfl) (pe_callB call_len_seq (by rfl) T.n_len b_len (pa_cons (pv 1) pa_nil)))
 (pss_cons (ps_set (i := 5) sc.nd rfl (Or.inl rfl) (pe_lst pa_nil))
 (pss_cons (ps_for PassesOwn.never rfl (pi_zip (by rfl) T.n_zip (pa_cons (pv 1) (pa_cons (pv 2) pa_nil))) (pg_tup rfl (pgs_cons (pg_name (i := 6) sc.nd rfl (Or.inl rfl)) (pgs_cons (pg_name (i := 7) sc.nd rfl (Or.inl rfl)) pgs_nil)))
 (pss_one (ps_expr (pe_bm PySem.F.plainAttrs_list PySem.F.slot_list_append PySem.F.type_list_append mt_append (pv 5) (pa_cons (pe_tup (pa_cons (pe_cl (ok_law_early T) hr (by decide) (by rfl) pass0 (pa_cons (pv 0) (pa_cons (pv 4) (pa_cons (pv 6) pa_nil)))) (pa_cons (pv 7) pa_nil))) pa_nil)))))
 (pss_cons (ps_setLc (i := 8) (own := [("_law_pledge", 6)]) (g := (gName 6)) (tt := tYes) (by rfl) sc.nd rfl rfl (sw_true rfl rfl rfl (by decide +kernel)) (pi_list (pv 1)) (blkOk_by (own := [("_law_pledge", 6)]) (N := N_law_new) (sc := defScope s_law_new) (by decide +kernel)) (fun _ _ _ _ _ => (pg_name (i := 6) sc.nd rfl (Or.inl rfl))) (fun _ _ _ _ _ => pts_nil) (fun _ _ _ _ _ => (pe_lst (pa_cons pe_str (pa_cons pe_int (pa_cons (pv 6) (pa_cons pe_int (pa_cons pe_int (pa_cons pe_int (pa_cons pe_int pa_nil))))))))))
 (pss_cons (ps_setLc (i := 9) (own := [("_law_pledge", 6)]) (g := (gName 6)) (tt := tYes) (by rfl) sc.nd rfl rfl (sw_true rfl rfl rfl (by decide +kernel)) (pi_list (pv 1)) (blkOk_by (own := [("_law_pledge", 6)]) (N := N_law_new) (sc := defScope s_law_new) (by decide +kernel)) (fun _ _ _ _ _ => (pg_name (i := 6) sc.nd rfl (Or.inl rfl))) (fun _ _ _ _ _ => pts_nil) (fun _ _ _ _ _ => (pe_lst pa_nil)))
 (pss_one (ps_ret (pe_lst (pa_cons (pv 0) (pa_cons (pv 4) (pa_cons (pv 3) (pa_cons pe_int (pa_cons (pe_cl (ok_law_told_order T) hr (by decide) (by rfl) pass0 (pa_cons (pv 5) pa_nil)) (pa_cons pe_int (pa_cons pe_int (pa_cons (pv 8) (pa_cons (pv 9) pa_nil)))))))))))))))))
theorem sc_law_perm : FnScope N_law_perm ["_law_some", "_law_size"] (defScope s_law_perm) := ⟨rfl, rfl, rfl, by decide +kernel, rfl, by decide +kernel, by decide +kernel⟩
theorem ok_law_perm (T : Fx K mg) : Cl P w K mg base CX0 1 "_law_perm" (sp_law_perm K) := by
  obtain ⟨fd, F⟩ := T.F_law_perm
  have sc := sc_law_perm
  refine ⟨_, fd, ["_law_some", "_law_size"], T.g_law_perm, F.kp, F.bindsN fun _ _ _ _ _ _ us hl => match us, hl with | [_, _], _ => rfl, ?_⟩
  refine F.ok sc (len_law_perm) (fun cdv A outer s H vs Q E hr h => ⟨t_law_perm K, PSs.nox ?_, pure_law_perm h⟩)
  exact (pss_cons (ps_set (i := 2) sc.nd rfl (Or.inl rfl) (pe_lst pa_nil))
 (pss_cons (ps_for PassesOwn.never rfl (pi_range1 (by rfl) T.n_range (pa_cons (pv 1) pa_nil)) (pg_name (i := 3) sc.nd rfl (Or.inl rfl))
 (pss_one (ps_expr (pe_bm PySem.F.plainAttrs_list PySem.F.slot_list_insert PySem.F.type_list_insert mt_insert (pv 2) (pa_cons (pe_op op_mod (pe_ix ix_list (pv 0) (pv 3) (fun _ _ => rfl)) (pe_op op_add (pv 3) pe_int)) (pa_cons (pv 3) pa_nil))))))
 (pss_one (ps_ret (pv 2)))))
theorem sc_law_opening : FnScope N_law_opening ["_law_some", "_law_size", "_law_stake"] (defScope s_law_opening) := ⟨rfl, rfl, rfl, by decide +kernel, rfl, by decide +kernel, by decide +kernel⟩
theorem ok_law_opening (T : Fx K mg) : Cl P w K mg base CX0 2 "_law_opening" (sp_law_opening K) := by
  obtain ⟨fd, F⟩ := T.F_law_opening
  have sc := sc_law_opening
  refine ⟨_, fd, ["_law_some", "_law_size", "_law_stake"], T.g_law_opening, F.kp, F.bindsN fun _ _ _ _ _ _ us hl => match us, hl with | [_, _, _], _ => rfl, ?_⟩
  refine F.ok sc (len_law_opening) (fun cdv A outer s H vs Q E hr h => ⟨t_law_opening K, PSs.nox ?_, pure_law_opening h⟩)
  exact (pss_cons (ps_set (i := 3) sc.nd rfl (Or.inl rfl) (pe_op op_rep (pe_lst (pa_cons pe_int pa_nil)) (pv 1)))
 (pss_cons (ps_set (i := 4) sc.nd rfl (Or.inl rfl) (pe_op op_rep (pe_lst (pa_cons (pv 1) pa_nil)) (pv 1)))
 (pss_cons (ps_for PassesOwn.never rfl (pi_enum (by rfl) T.n_enumerate (pa_cons (pe_cl (ok_law_perm T) hr (by decide) (by rfl) pass0 (pa_cons (pv 0) (pa_cons (pv 1) pa_nil))) pa_nil)) (pg_tup rfl (pgs_cons (pg_name (i := 5) sc.nd rfl (Or.inl rfl)) (pgs_cons (pg_name (i := 6) sc.nd rfl (Or.inl rfl)) pgs_nil)))
 (pss_cons (ps_set (i := 7) sc.nd rfl (Or.inl rfl) (pe_op op_mul (pe_op op_mod (pe_op op_fdiv (pe_ix ix_list (pv 0) (pe_op op_add (pv 1) (pv 5)) (fun _ _ => rfl)) pe_int) (pe_op op_add (pe_op op_mul pe_int (pv 2)) pe_int)) (pe_op op_mod (pe_ix ix_list (pv 0) (pe_op op_add (pv 1) (pv 5)) (fun _ _ => rfl)) pe_int)))
 (pss_cons (ps_asg (pe_callB (call_max2 rfl) (by rfl) T.n_max b_max (pa_cons pe_int (pa_cons (pe_op op_add (pe_op op_mul (pv 2) (pe_op op_sub (pe_op op_sub (pv 1) pe_int) (pv 5))) (pe_op op_mul (pv 7) (pe_op op_mod (pe_op op_fdiv (pe_ix ix_list (pv 0) (pe_op op_add (pv 1) (pv 5)) (fun _ _ => rfl)) pe_int) pe_int))) pa_nil))) (pg_sub (pv 3) (pv 6) set_list))
 (pss_one (ps_asg (pe_op op_add (pe_op op_add (pv 5) pe_int) (pe_op op_mod (pe_ix ix_list (pv 0) (pe_op op_add (pe_op op_mul pe_int (pv 1)) (pv 5)) (fun _ _ => rfl)) (pe_op op_sub (pv 1) (pv 5)))) (pg_sub (pv 4) (pv 6) set_list))))))
 (pss_one (ps_ret (pe_tup (pa_cons (pv 3) (pa_cons (pv 4) pa_nil))))))))
theorem sc_law_bits : FnScope N_law_bits ["_law_number", "_law_size"] (defScope s_law_bits) := ⟨rfl, rfl, rfl, by decide +kernel, rfl, by decide +kernel, by decide +kernel⟩
theorem ok_law_bits (T : Fx K mg) : Cl P w K mg base CX0 1 "_law_bits" (sp_law_bits K) := by
  obtain ⟨fd, F⟩ := T.F_law_bits
  have sc := sc_law_bits
  refine ⟨_, fd, ["_law_number", "_law_size"], T.g_law_bits, F.kp, F.bindsN fun _ _ _ _ _ _ us hl => match us, hl with | [_, _], _ => rfl, ?_⟩
  refine F.ok sc (len_law_bits) (fun cdv A outer s H vs Q E hr h => ⟨t_law_bits K, PSs.nox ?_, pure_law_bits h⟩)
  exact (pss_cons (ps_set (i := 2) sc.nd rfl (Or.inl rfl) (pe_lst pa_nil))
 (pss_cons (ps_for PassesOwn.never rfl (pi_range1 (by rfl) T.n_range (pa_cons (pv 1) pa_nil)) (pg_name (i := 3) sc.nd rfl (Or.inl rfl))
 (pss_cons (ps_expr (pe_bm PySem.F.plainAttrs_list PySem.F.slot_list_append PySem.F.type_list_append mt_append (pv 2) (pa_cons (pe_cmpR op_eq (pe_op op_mod (pv 0) pe_int) pe_int (nomark _)) pa_nil)))
 (pss_one (ps_set (i := 0) sc.nd rfl (Or.inl rfl) (pe_op op_fdiv (pv 0) pe_int)))))
 (pss_one (ps_ret (pv 2)))))
theorem sc_law_paid : FnScope N_law_paid ["_law_some", "_law_turn", "_law_size", "_law_way"] (defScope s_law_paid) := ⟨rfl, rfl, rfl, by decide +kernel, rfl, by decide +kernel, by decide +kernel⟩
theorem ok_law_paid (T : Fx K mg) : Cl P w K mg base CX0 2 "_law_paid" (sp_law_paid K) := by
  obtain ⟨fd, F⟩ := T.F_law_paid
  have sc := sc_law_paid
  refine ⟨_, fd, ["_law_some", "_law_turn", "_law_size", "_law_way"], T.g_law_paid, F.kp, F.bindsN fun _ _ _ _ _ _ us hl => match us, hl with | [_, _, _, _], _ => rfl, ?_⟩
  refine F.ok sc (len_law_paid) (fun cdv A outer s H vs Q E hr h => ⟨t_law_paid K, PSs.nox ?_, pure_law_paid h⟩)
  exact (pss_cons (ps_set (i := 4) sc.nd rfl (Or.inl rfl) (pe_ix ix_list (pv 0) (pe_op op_sub (pe_op op_mul pe_int (pv 1)) pe_int) (fun _ _ => rfl)))
 (pss_cons (ps_set (i := 5) sc.nd rfl (Or.inl rfl) (pe_ix ix_list (pv 0) (pe_op op_sub (pe_op op_mul pe_int (pv 1)) pe_int) (fun _ _ => rfl)))
 (pss_cons (ps_if (pt_cmpR op_eq (pe_op op_mod (pv 3) pe_int) pe_int (nomark _))
 (pss_one (ps_ret (pe_cl (ok_law_bits T) hr (by decide) (by rfl) pass0 (pa_cons (pe_op op_or (pv 4) (pv 5)) (pa_cons (pv 2) pa_nil)))))
 pss_nil)
 (pss_cons (ps_if (pt_cmpR op_eq (pe_op op_mod (pv 3) pe_int) pe_int (nomark _))
 (pss_one (ps_ret (pe_cl (ok_law_bits T) hr (by decide) (by rfl) pass0 (pa_cons (pv 4) (pa_cons (pv 2) pa_nil)))))
 pss_nil)
 (pss_cons (ps_set (i := 6) sc.nd rfl (Or.inl rfl) (pe_op op_rep (pe_lst (pa_cons pe_bl pa_nil)) (pv 2)))
 (pss_cons (ps_asg (pe_cmpR op_eq (pe_op op_mod (pv 5) pe_int) pe_int (nomark _)) (pg_sub (pv 6) (pe_op op_mod (pv 4) (pv 2)) set_list))
 (C8.pss_cut (ps_if (pt_cmpR op_eq (pe_op op_mod (pv 3) pe_int) pe_int (nomark _))
 (pss_one (ps_asg pe_bl (pg_sub (pv 6) (pe_op op_mod (pv 5) (pv 2)) set_list)))
 pss_nil)
 (pss_one (ps_ret (pv 6))))))))))
theorem sc_law : FnScope N_law ["_law_script"] (defScope s_law) := ⟨rfl, rfl, rfl, by decide +kernel, rfl, by decide +kernel, by decide +kernel⟩
theorem ok_law_at {fd : FuncData} (T : Fx K mg) (F : FunD K "law" "law" (defArgs s_law) (defBody s_law) (defScope s_law) [] [] (He.fAd K ("law", none)) fd) : FnOk P w K mg base CX0 10 (He.fAd K ("law", none)) fd ["_law_script"] (sp_law K) := by
  have sc := sc_law
  refine F.ok sc (len_law) (fun cdv A outer s H vs Q E hr h => ⟨t_law K, PSs.nox ?_, pure_law h⟩)
  exact (pss_cons (ps_set (i := 1) sc.nd rfl (Or.inr rfl) (pe_cl (ok_law_draws T) hr (by decide) (by rfl) pass0 (pa_cons (pv 0) (pa_cons pe_int pa_nil))))
 (pss_cons (ps_set (i := 2) sc.nd rfl (Or.inr rfl) (pe_op op_add pe_int (pe_op op_mod (pe_ix ix_list (pv 1) pe_int (fun _ _ => rfl)) pe_int)))
 (pss_cons (ps_set (i := 3) sc.nd rfl (Or.inr rfl) (pe_op op_add pe_int (pe_op op_mod (pe_ix ix_list (pv 1) pe_int (fun _ _ => rfl)) (pe_ix ix_list (pe_lst (pa_cons pe_int (pa_cons pe_int pa_nil))) (pe_op op_mod (pe_ix ix_list (pv 1) pe_int (fun _ _ => rfl)) pe_int) (fun _ _ => rfl)))))
 (pss_cons (ps_set (i := 4) sc.nd rfl (Or.inl rfl) (pe_cmpR op_eq (pe_op op_mod (pe_ix ix_list (pv 1) pe_int (fun _ _ => rfl)) pe_int) pe_int (nomark _)))
 (pss_cons (ps_asg (pe_cl (ok_law_opening T) hr (by decide) (by rfl) pass0 (pa_cons (pe_slice sl_list (pv 1) (po_some pe_int) po_none) (pa_cons (pv 2) (pa_cons (pv 3) pa_nil)))) (pg_tup rfl (pgs_cons (pg_name (i := 5) sc.nd rfl (Or.inl rfl)) (pgs_cons (pg_name (i := 6) sc.nd rfl (Or.inl rfl)) pgs_nil))))
 (pss_cons (ps_set (i := 7) sc.nd rfl (Or.inl rfl) (pe_ck (ok_Circle_init T) hr (by decide) (by rfl) passL (pa_cons (pv 3) (pa_cons (pe_callTy call_list_of (by rfl) T.n_list b_list (pa_cons (pv 5) pa_nil)) (pa_cons (pv 6) (pa_cons (pv 4) pa_nil))))))
 (pss_cons (ps_set (i := 8) sc.nd rfl (Or.inl rfl) (pe_cl (ok_law_new T) hr (by decide) (by rfl) pass0 (pa_cons (pv 3) (pa_cons (pv 5) (pa_cons (pv 6) (pa_cons (pv 4) pa_nil))))))
 (pss_cons (ps_set (i := 9) sc.nd rfl (Or.inl rfl) (pe_op op_mod (pe_ix ix_list (pv 1) pe_int (fun _ _ => rfl)) (pe_op op_add (pv 2) pe_int)))
 (pss_cons (ps_set (i := 10) sc.nd rfl (Or.inl rfl) (pe_lst pa_nil))
 (pss_cons (ps_for PassesOwn.never rfl (pi_range2 (by rfl) T.n_range (pa_cons pe_int (pa_cons (pe_op op_add (pe_op op_mul pe_int (pv 2)) pe_int) pa_nil))) (pg_name (i := 11) sc.nd rfl (Or.inr rfl))
 (pss_cons (ps_setLc (i := 12) (own := [("_law_at", 18)]) (g := (gName 18)) (tt := tYes) (by rfl) sc.nd rfl rfl (sw_true rfl rfl rfl (by decide +kernel)) (pi_range1 (by rfl) T.n_range (pa_cons (pv 2) pa_nil)) (blkOk_by (own := [("_law_at", 18)]) (N := N_law) (sc := defScope s_law) (by decide +kernel)) (fun _ _ _ _ _ => (pg_name (i := 18) sc.nd rfl (Or.inl rfl))) (fun _ _ _ _ _ => pts_nil) (fun _ _ _ _ _ => (pe_op op_mod (pe_ix ix_list (pv 1) (pe_op op_add (pe_op op_add pe_int (pe_op op_mul pe_int (pe_op op_mod (pv 11) pe_int))) (pv 18)) (fun _ _ => rfl)) (pe_op op_add (pe_op op_mul (pv 3) (pv 2)) pe_int))))
 (pss_one (ps_expr (pe_bm PySem.F.plainAttrs_list PySem.F.slot_list_append PySem.F.type_list_append mt_append (pv 10) (pa_cons (pe_tup (pa_cons (pe_cl (ok_law_paid T) hr (by decide) (by rfl) pass0 (pa_cons (pe_slice sl_list (pv 1) (po_some pe_int) po_none) (pa_cons (pv 11) (pa_cons (pv 2) (pa_cons (pe_op op_add (pe_ix ix_list (pv 1) pe_int (fun _ _ => rfl)) (pe_op op_fdiv (pv 11) pe_int)) pa_nil))))) (pa_cons (pv 12) pa_nil))) pa_nil))))))
 (pss_cons (ps_for PassesOwn.never rfl (pi_range1 (by rfl) T.n_range (pa_cons (pv 9) pa_nil)) (pg_name (i := 11) sc.nd rfl (Or.inr rfl))
 (pss_one (ps_if (pt_not (pt_val (pe_cl (ok_law_same T) hr (by decide) (by rfl) pass0 (pa_cons (pe_cm (ok_Circle_close T) hr (by decide) passL (pv 7) (pa_cons (pe_ix ix_tup (pe_ix ix_list (pv 10) (pv 11) (fun _ _ => rfl)) pe_int (fun _ _ => rfl)) (pa_cons (pe_ix ix_tup (pe_ix ix_list (pv 10) (pv 11) (fun _ _ => rfl)) pe_int (fun _ _ => rfl)) pa_nil))) (pa_cons (pe_cl (ok_law_round T) hr (by decide) (by rfl) pass0 (pa_cons (pv 8) (pa_cons (pe_ix ix_tup (pe_ix ix_list (pv 10) (pv 11) (fun _ _ => rfl)) pe_int (fun _ _ => rfl)) (pa_cons (pe_ix ix_tup (pe_ix ix_list (pv 10) (pv 11) (fun _ _ => rfl)) pe_int (fun _ _ => rfl)) pa_nil)))) pa_nil)))))
 (pss_one (ps_ret pe_bl))
 pss_nil)))
 (pss_cons (ps_set (i := 13) sc.nd rfl (Or.inl rfl) (pe_cm0 (ok_Circle_twin T) hr (by decide) passL (pv 7)))
 (pss_cons (ps_set (i := 14) sc.nd rfl (Or.inl rfl) (pe_cl (ok_law_copy T) hr (by decide) (by rfl) pass0 (pa_cons (pv 8) pa_nil)))
 (pss_cons (ps_for PassesOwn.never rfl (pi_range1 (by rfl) T.n_range (pa_cons (pe_op op_sub (pv 2) (pv 9)) pa_nil)) (pg_name (i := 11) sc.nd rfl (Or.inr rfl))
 (pss_cons (ps_if (PW.pt (pw_or (pt_not (pt_val (pe_cl (ok_law_alike T) hr (by decide) (by rfl) pass0 (pa_cons (pv 7) (pa_cons (pv 8) pa_nil))))) (pw_or1 (pt_not (pt_val (pe_cl (ok_law_alike T) hr (by decide) (by rfl) pass0 (pa_cons (pv 13) (pa_cons (pv 14) pa_nil))))))))
 (pss_one (ps_ret pe_bl))
 pss_nil)
 (pss_cons (ps_asg (pe_ix ix_list (pv 10) (pe_op op_add (pv 9) (pv 11)) (fun _ _ => rfl)) (pg_tup rfl (pgs_cons (pg_name (i := 15) sc.nd rfl (Or.inl rfl)) (pgs_cons (pg_name (i := 12) sc.nd rfl (Or.inl rfl)) pgs_nil))))
 (pss_cons (ps_if (PW.pt (pw_or (pt_not (pt_val (pe_cl (ok_law_done T) hr (by decide) (by rfl) pass0 (pa_cons (pv 7) (pa_cons (pv 8) (pa_cons (pv 15) (pa_cons (pv 12) pa_nil))))))) (pw_or1 (pt_not (pt_val (pe_cl (ok_law_alike T) hr (by decide) (by rfl) pass0 (pa_cons (pv 13) (pa_cons (pv 14) pa_nil))))))))
 (pss_one (ps_ret pe_bl))
 pss_nil)
 (pss_cons (ps_asg (pe_ix ix_list (pv 10) (pe_op op_add (pv 2) (pv 11)) (fun _ _ => rfl)) (pg_tup rfl (pgs_cons (pg_name (i := 15) sc.nd rfl (Or.inl rfl)) (pgs_cons (pg_name (i := 12) sc.nd rfl (Or.inl rfl)) pgs_nil))))
 (pss_one (ps_if (pt_not (pt_val (pe_cl (ok_law_done T) hr (by decide) (by rfl) pass0 (pa_cons (pv 13) (pa_cons (pv 14) (pa_cons (pv 15) (pa_cons (pv 12) pa_nil)))))))
 (pss_one (ps_ret pe_bl))
 pss_nil)))))))
 (pss_cons (ps_if (PW.pt (pw_or (pt_not (pt_val (pe_cl (ok_law_alike T) hr (by decide) (by rfl) pass0 (pa_cons (pv 7) (pa_cons (pv 8) pa_nil))))) (pw_or (pt_not (pt_val (pe_cl (ok_law_alike T) hr (by decide) (by rfl) pass0 (pa_cons (pv 13) (pa_cons (pv 14) pa_nil))))) (pw_or1 (pt_not (pt_val (pe_cl (ok_law_alike T) hr (by decide) (by rfl) pass0 (pa_cons (pe_cm0 (ok_Circle_twin T) hr (by decide) passL (pv 13)) (pa_cons (pv 14) pa_nil)))))))))
 (pss_one (ps_ret pe_bl))
 pss_nil)
 (pss_cons (ps_for PassesOwn.never rfl (pi_list (pe_lst (pa_cons (pe_tup (pa_cons (pv 7) (pa_cons (pv 8) pa_nil))) (pa_cons (pe_tup (pa_cons (pv 13) (pa_cons (pv 14) pa_nil))) (pa_cons (pe_tup (pa_cons (pe_cm0 (ok_Circle_twin T) hr (by decide) passL (pv 13)) (pa_cons (pv 14) pa_nil))) pa_nil))))) (pg_tup rfl (pgs_cons (pg_name (i := 16) sc.nd rfl (Or.inl rfl)) (pgs_cons (pg_name (i := 17) sc.nd rfl (Or.inl rfl)) pgs_nil)))
 (pss_one (ps_if (pt_not (pt_val (pe_cl (ok_law_same T) hr (by decide) (by rfl) pass0 (pa_cons (pe_cm0 (ok_Circle_refunds T) hr (by decide) passL (pv 16)) (pa_cons (pe_lc (own := [("_law_seat", 19)]) (g := (gName 19)) (tt := tYes) (by rfl) sc.nd (pi_list (pe_ix ix_list (pv 17) pe_int (fun _ _ => rfl))) (blkOk_by (own := [("_law_seat", 19)]) (N := N_law) (sc := defScope s_law) (by decide +kernel)) (fun _ _ _ _ _ => (pg_name (i := 19) sc.nd rfl (Or.inl rfl))) (fun _ _ _ _ _ => pts_nil) (fun _ _ _ _ _ => (pe_op op_add (pe_ix ix_list (pv 19) pe_int (fun _ _ => rfl)) (pe_op op_mul (pe_ix ix_list (pv 19) pe_int (fun _ _ => rfl)) (pe_callTy call_int1 (by rfl) T.n_int b_int (pa_cons (pe_cmpR op_eq (pe_ix ix_list (pv 19) pe_int (fun _ _ => rfl)) pe_str (nomark _)) pa_nil)))))) pa_nil)))))
 (pss_one (ps_ret pe_bl))
 pss_nil)))
 (pss_one (ps_ret pe_bl))))))))))))))))))

end
theorem facts {K : PySem.W.Frag} {h : Heap} {mg : Str → Option Value} (X : K.In h) (G : h.Ns mainGlobals mg) (c : He.SaysD fas fns K) (nx : NxC K) : Fx K mg where
  nx := nx
  n_abs := He.free_ok X G (c.fact 22 rfl)
  n_all := He.free_ok X G (c.fact 23 rfl)
  n_bool := He.free_ok X G (c.fact 24 rfl)
  n_enumerate := He.free_ok X G (c.fact 25 rfl)
  n_int := He.free_ok X G (c.fact 26 rfl)
  n_isinstance := He.free_ok X G (c.fact 27 rfl)
  n_len := He.free_ok X G (c.fact 28 rfl)
  n_list := He.free_ok X G (c.fact 29 rfl)
  n_max := He.free_ok X G (c.fact 30 rfl)
  n_min := He.free_ok X G (c.fact 31 rfl)
  n_range := He.free_ok X G (c.fact 32 rfl)
  n_str := He.free_ok X G (c.fact 33 rfl)
  n_tuple := He.free_ok X G (c.fact 34 rfl)
  n_zip := He.free_ok X G (c.fact 35 rfl)
  c_MOST_COINS := (He.int_ok X G (c.fact 75 rfl)).elim fun t e => ⟨_, e, ⟨t, rfl⟩⟩
  c_MOST_SEATS := (He.int_ok X G (c.fact 76 rfl)).elim fun t e => ⟨_, e, ⟨t, rfl⟩⟩
  c_MOST_STAKE := (He.int_ok X G (c.fact 77 rfl)).elim fun t e => ⟨_, e, ⟨t, rfl⟩⟩
  g_BadNumber := He.glo_ok X G (c.fact 78 rfl)
  k_BadNumber := ⟨_, He.glo_ok X G (c.fact 78 rfl), rfl⟩
  g_Ended := He.glo_ok X G (c.fact 79 rfl)
  k_Ended := ⟨_, He.glo_ok X G (c.fact 79 rfl), rfl⟩
  g_NoOrder := He.glo_ok X G (c.fact 80 rfl)
  k_NoOrder := ⟨_, He.glo_ok X G (c.fact 80 rfl), rfl⟩
  g_NoSeat := He.glo_ok X G (c.fact 81 rfl)
  k_NoSeat := ⟨_, He.glo_ok X G (c.fact 81 rfl), rfl⟩
  g_NotEnded := He.glo_ok X G (c.fact 82 rfl)
  k_NotEnded := ⟨_, He.glo_ok X G (c.fact 82 rfl), rfl⟩
  g_NotWaiting := He.glo_ok X G (c.fact 83 rfl)
  k_NotWaiting := ⟨_, He.glo_ok X G (c.fact 83 rfl), rfl⟩
  g_Uncovered := He.glo_ok X G (c.fact 84 rfl)
  k_Uncovered := ⟨_, He.glo_ok X G (c.fact 84 rfl), rfl⟩
  x_BadNumber := let z := He.exc_ok (c.fact 85 rfl); ⟨z.1, He.glo_ok X G (c.fact 78 rfl), z.2.1, z.2.2.1, z.2.2.2⟩
  x_Ended := let z := He.exc_ok (c.fact 86 rfl); ⟨z.1, He.glo_ok X G (c.fact 79 rfl), z.2.1, z.2.2.1, z.2.2.2⟩
  x_NoSeat := let z := He.exc_ok (c.fact 87 rfl); ⟨z.1, He.glo_ok X G (c.fact 81 rfl), z.2.1, z.2.2.1, z.2.2.2⟩
  x_NotEnded := let z := He.exc_ok (c.fact 88 rfl); ⟨z.1, He.glo_ok X G (c.fact 82 rfl), z.2.1, z.2.2.1, z.2.2.2⟩
  x_NotWaiting := let z := He.exc_ok (c.fact 89 rfl); ⟨z.1, He.glo_ok X G (c.fact 83 rfl), z.2.1, z.2.2.1, z.2.2.2⟩
  x_Uncovered := let z := He.exc_ok (c.fact 90 rfl); ⟨z.1, He.glo_ok X G (c.fact 84 rfl), z.2.1, z.2.2.1, z.2.2.2⟩
  cl_Circle := He.cls_ok (c.fact 36 rfl)
  t_Circle := ⟨He.cls_ok (c.fact 36 rfl), ⟨He.noat_ok (c.fact 37 rfl), He.noat_ok (c.fact 38 rfl), He.noat_ok (c.fact 39 rfl), He.noat_ok (c.fact 40 rfl), He.noat_ok (c.fact 41 rfl), He.noat_ok (c.fact 42 rfl), He.noat_ok (c.fact 43 rfl), He.noat_ok (c.fact 44 rfl), He.noat_ok (c.fact 45 rfl), He.noat_ok (c.fact 46 rfl), He.noat_ok (c.fact 47 rfl), He.noat_ok (c.fact 48 rfl), He.noat_ok (c.fact 49 rfl), He.noat_ok (c.fact 50 rfl), He.noat_ok (c.fact 51 rfl), trivial⟩⟩
  gk_Circle := He.glo_ok X G (c.fact 53 rfl)
  mk_Circle := He.mkr_ok (c.fact 52 rfl)
  F_NoOrder_init := c.def_ 0 (d := dd_NoOrder_init) rfl
  g_check_opening := He.glo_ok X G (c.fact 0 rfl)
  F_check_opening := c.def_ 1 (d := dd_check_opening) rfl
  g_first_covered := He.glo_ok X G (c.fact 1 rfl)
  F_first_covered := c.def_ 2 (d := dd_first_covered) rfl
  g_within := He.glo_ok X G (c.fact 2 rfl)
  F_within := c.def_ 3 (d := dd_within) rfl
  g_bar_of := He.glo_ok X G (c.fact 3 rfl)
  F_bar_of := c.def_ 4 (d := dd_bar_of) rfl
  g_next_window := He.glo_ok X G (c.fact 4 rfl)
  F_next_window := c.def_ 5 (d := dd_next_window) rfl
  g_order_or_bar := He.glo_ok X G (c.fact 5 rfl)
  F_order_or_bar := c.def_ 6 (d := dd_order_or_bar) rfl
  F_Circle_init := c.def_ 7 (d := dd_Circle_init) rfl
  m_Circle_ended := He.meth_ok (c.fact 54 rfl)
  F_Circle_ended := c.def_ 8 (d := dd_Circle_ended) rfl
  m_Circle_check_round := He.meth_ok (c.fact 55 rfl)
  F_Circle_check_round := c.def_ 9 (d := dd_Circle_check_round) rfl
  m_Circle_collect := He.meth_ok (c.fact 56 rfl)
  F_Circle_collect := c.def_ 10 (d := dd_Circle_collect) rfl
  m_Circle_covered_at := He.meth_ok (c.fact 57 rfl)
  F_Circle_covered_at := c.def_ 11 (d := dd_Circle_covered_at) rfl
  m_Circle_winner := He.meth_ok (c.fact 58 rfl)
  F_Circle_winner := c.def_ 12 (d := dd_Circle_winner) rfl
  m_Circle_draw := He.meth_ok (c.fact 59 rfl)
  F_Circle_draw := c.def_ 13 (d := dd_Circle_draw) rfl
  m_Circle_put_out := He.meth_ok (c.fact 60 rfl)
  F_Circle_put_out := c.def_ 14 (d := dd_Circle_put_out) rfl
  m_Circle_close := He.meth_ok (c.fact 61 rfl)
  F_Circle_close := c.def_ 15 (d := dd_Circle_close) rfl
  m_Circle_refunds := He.meth_ok (c.fact 62 rfl)
  F_Circle_refunds := c.def_ 16 (d := dd_Circle_refunds) rfl
  m_Circle_twin := He.meth_ok (c.fact 63 rfl)
  F_Circle_twin := c.def_ 17 (d := dd_Circle_twin) rfl
  m_Circle_box := He.meth_ok (c.fact 64 rfl)
  F_Circle_box := c.def_ 18 (d := dd_Circle_box) rfl
  m_Circle_check_seat := He.meth_ok (c.fact 65 rfl)
  F_Circle_check_seat := c.def_ 19 (d := dd_Circle_check_seat) rfl
  m_Circle_expected := He.meth_ok (c.fact 66 rfl)
  F_Circle_expected := c.def_ 20 (d := dd_Circle_expected) rfl
  m_Circle_flow := He.meth_ok (c.fact 67 rfl)
  F_Circle_flow := c.def_ 21 (d := dd_Circle_flow) rfl
  m_Circle_owed := He.meth_ok (c.fact 68 rfl)
  F_Circle_owed := c.def_ 22 (d := dd_Circle_owed) rfl
  m_Circle_queue := He.meth_ok (c.fact 69 rfl)
  F_Circle_queue := c.def_ 23 (d := dd_Circle_queue) rfl
  m_Circle_rests := He.meth_ok (c.fact 70 rfl)
  F_Circle_rests := c.def_ 24 (d := dd_Circle_rests) rfl
  m_Circle_seat := He.meth_ok (c.fact 71 rfl)
  F_Circle_seat := c.def_ 25 (d := dd_Circle_seat) rfl
  m_Circle_turn := He.meth_ok (c.fact 72 rfl)
  F_Circle_turn := c.def_ 26 (d := dd_Circle_turn) rfl
  g_law_same := He.glo_ok X G (c.fact 6 rfl)
  F_law_same := c.def_ 27 (d := dd_law_same) rfl
  g_law_alike := He.glo_ok X G (c.fact 7 rfl)
  F_law_alike := c.def_ 28 (d := dd_law_alike) rfl
  g_law_copy := He.glo_ok X G (c.fact 8 rfl)
  F_law_copy := c.def_ 29 (d := dd_law_copy) rfl
  m_Circle_lay := He.meth_ok (c.fact 73 rfl)
  F_Circle_lay := c.def_ 30 (d := dd_Circle_lay) rfl
  m_Circle_swap := He.meth_ok (c.fact 74 rfl)
  F_Circle_swap := c.def_ 31 (d := dd_Circle_swap) rfl
  g_law_early := He.glo_ok X G (c.fact 9 rfl)
  F_law_early := c.def_ 32 (d := dd_law_early) rfl
  g_law_people := He.glo_ok X G (c.fact 10 rfl)
  F_law_people := c.def_ 33 (d := dd_law_people) rfl
  g_law_winner := He.glo_ok X G (c.fact 11 rfl)
  F_law_winner := c.def_ 34 (d := dd_law_winner) rfl
  g_law_round := He.glo_ok X G (c.fact 12 rfl)
  F_law_round := c.def_ 35 (d := dd_law_round) rfl
  g_law_done := He.glo_ok X G (c.fact 13 rfl)
  F_law_done := c.def_ 36 (d := dd_law_done) rfl
  g_law_draws := He.glo_ok X G (c.fact 14 rfl)
  F_law_draws := c.def_ 37 (d := dd_law_draws) rfl
  g_law_told_order := He.glo_ok X G (c.fact 15 rfl)
  F_law_told_order := c.def_ 38 (d := dd_law_told_order) rfl
  g_law_new := He.glo_ok X G (c.fact 16 rfl)
  F_law_new := c.def_ 39 (d := dd_law_new) rfl
  g_law_perm := He.glo_ok X G (c.fact 17 rfl)
  F_law_perm := c.def_ 40 (d := dd_law_perm) rfl
  g_law_opening := He.glo_ok X G (c.fact 18 rfl)
  F_law_opening := c.def_ 41 (d := dd_law_opening) rfl
  g_law_bits := He.glo_ok X G (c.fact 19 rfl)
  F_law_bits := c.def_ 42 (d := dd_law_bits) rfl
  g_law_paid := He.glo_ok X G (c.fact 20 rfl)
  F_law_paid := c.def_ 43 (d := dd_law_paid) rfl
  g_law := He.glo_ok X G (c.fact 21 rfl)
  F_law := c.def_ 44 (d := dd_law) rfl
theorem fin {P : Program} {w : World} {K : PySem.W.Frag} {h : Heap} {mg : Str → Option Value} {fa : Addr} (X : K.In h) (G : h.Ns mainGlobals mg) (hmg : mg ("law" : Str) = some (.ref fa)) (c : He.SaysD fas fns K) (nx : NxC K) :
    ∃ (K : PySem.W.Frag) (fd : FuncData) (sp : Sp), K.In h ∧ (∀ (s : Shared) (u : Value), BindsTo s fd ⟨[u], []⟩ [("_law_script", u)]) ∧
        (∀ (H : Hp) (a : Addr) (ns : List Int), ns.length ≤ 63 → Only H → SqL K H a (ns.map V.int) → sp [.ref a] H (fun v _ => v = .bl true) fun _ _ _ => False) ∧
        ∀ base : Heap, K.In base → base.Ns mainGlobals mg → FnOk P w K mg base CX0 10 fa fd ["_law_script"] sp := by
  have T := facts X G c nx
  obtain ⟨fd, F⟩ := T.F_law
  have e := hmg.symm.trans T.g_law
  cases e
  have b := FunD.bindsA (ps := ["_law_script"]) F fun _ _ _ _ _ _ us hl => match us, hl with | [_], _ => rfl
  refine ⟨K, fd, sp_law K, X, fun s v => b s [v] rfl, fun H a ns hl _ hS => ⟨a, ns, rfl, hS, hl, T.t_Circle, fun _ => rfl⟩, fun base _ _ => ?_⟩
  exact ok_law_at T F
end Su
theorem PySem.Challenge.cw_susu_k34_twin_circles_holds : PySem.Challenge.rw_susu_k34_twin_circles.Holds := by
  exact Su.early Su.fin
