import PyProof.Rows.All
import Wide.All
import OpenK.AllK
import Wide.FinOn
import KE.KStateDown
import Lean
import HandS.ForMost
import HandS.Exc
import HandS.TryOnly
import HandS.ExcOwn
import HandS.WordsExc
import HandS.ExcIs
import HandS.More
import HandS.Defaults
import HandS.IsInst
import HandS.Flow
import HandS.Steps
import HandS.Wide
import HandS.Deep
import HandS.Codes
import HandS.Zip
import HandS.Strs
import HandS.Conv
import HandS.SetFor
import HandS.SortInts
import HandS.Head0
import HandS.Head1
import HandS.Head2
import HandS.HeadEnd
import HandS.HeadHook1
import HandS.HeadHook2
import HandS.HeadHook3
import HandS.HeadHook4
import HandS.RaiseMore
import HandS.Replace
import HandS.ReplaceDef
import HandS.ReplaceLit
import HandS.Style
import KE.GoesComp
import KE.GoesMore
import KE.GoesZip
import PyProof.StrBlock2
import PySem.Challenge.RW_susu_k39_pages
set_option Elab.async false
set_option linter.all false
set_option maxRecDepth 100000
set_option maxHeartbeats 4000000
namespace Su
open PySem L2

abbrev rAdd : R2 := rI0 fun i j => .int (i + j)
abbrev rSub : R2 := rI0 fun i j => .int (i - j)
abbrev rMul : R2 := rI CMul fun i j => .int (i * j)
abbrev rDiv : R2 := rI CDiv fun i j => .int (i / j)
abbrev rMod : R2 := rI (fun _ j => 0 < j) fun i j => .int (i % j)
abbrev rPow : R2 := rI CPow fun i j => .int (i ^ j.toNat)
abbrev rLt : R2 := rI0 fun i j => .bl (decide (i < j))
abbrev rLe : R2 := rI0 fun i j => .bl (decide (i ≤ j))
abbrev rNeg : V → Hp → VK → Prop := rU fun i => .int (-i)
abbrev CR : Type := List V → Hp → VK → Prop
abbrev rLenSeq (K : PySem.W.Frag) : CR := fun xs H Q => ∃ p ys, xs = [.ref p] ∧ (SqL K H p ys ∨ SqT K H p ys) ∧ Q (.int ys.length) H
abbrev rLenStr : CR := fun xs H Q => ∃ z, xs = [.str z] ∧ z.length ≤ sizeLine ∧ Q (.int z.length) H
abbrev rAbs : CR := fun xs H Q => ∃ i, xs = [.int i] ∧ Q (.int (if i < 0 then -i else i)) H
abbrev rMax2 : CR := fun xs H Q => ∃ i j, xs = [.int i, .int j] ∧ Q (.int (if j > i then j else i)) H
abbrev rMin2 : CR := fun xs H Q => ∃ i j, xs = [.int i, .int j] ∧ Q (.int (if j < i then j else i)) H
abbrev rInt1 : CR := fun xs H Q => (∃ i, xs = [.int i] ∧ Q (.int i) H) ∨ ∃ k, xs = [.bl k] ∧ Q (.int (if k then 1 else 0)) H
abbrev rIntStr : CR := fun xs H Q => ∃ a n, xs = [.str a] ∧ PySem.intText? a = some n ∧ a.length ≤ 640 ∧ Q (.int n) H
abbrev rStrInt : CR := fun xs H Q => ∃ i, xs = [.int i] ∧ i.natAbs.log2 < 1920 ∧ Q (.str (toString i)) H
abbrev rListOf (K : PySem.W.Frag) : CR := fun xs H Q => ∃ p ys, xs = [.ref p] ∧ (SqL K H p ys ∨ SqT K H p ys) ∧ ∀ l, H l = none → Q (.ref l) (upd H l (.lst ys))
abbrev rTupleOf (K : PySem.W.Frag) : CR := fun xs H Q => ∃ p ys, xs = [.ref p] ∧ ((SqL K H p ys ∧ ∀ l, H l = none → Q (.ref l) (upd H l (.tup ys))) ∨ (SqT K H p ys ∧ Q (.ref p) H))
abbrev MR : Type := V → List V → Hp → VK → Prop
abbrev rAppend : MR := fun x vs H Q => ∃ (l : Addr) (xs : List V) (y : V), x = .ref l ∧ vs = [y] ∧ H l = some (.lst xs) ∧ xs.length < sizeLine ∧ Q .non (upd H l (.lst (xs ++ [y])))
theorem b_len : bootBuiltins "len" = some (.builtin "len") := by decide +kernel
theorem b_abs : bootBuiltins "abs" = some (.builtin "abs") := by decide +kernel
theorem b_all : bootBuiltins "all" = some (.builtin "all") := by decide +kernel
theorem b_isinstance : bootBuiltins "isinstance" = some (.builtin "isinstance") := by decide +kernel
theorem b_ValueError : bootBuiltins "ValueError" = some (.type "ValueError") := by decide +kernel
theorem b_int : bootBuiltins "int" = some (.type "int") := by decide +kernel
theorem b_bool : bootBuiltins "bool" = some (.type "bool") := by decide +kernel
theorem b_str : bootBuiltins "str" = some (.type "str") := by decide +kernel
theorem b_list : bootBuiltins "list" = some (.type "list") := by decide +kernel
theorem b_tuple : bootBuiltins "tuple" = some (.type "tuple") := by decide +kernel
/-- a def of the module that may be called by its name -/
structure Cl (P : Program) (w : World) (K : PySem.W.Frag) (mg : Str → Option Value) (base : Heap) (CX : CXT) (k : Nat) (x : Str) (sp : Sp) : Prop where
  ex : ∃ (f : Addr) (fd : FuncData) (ps : List Str), mg x = some (.ref f) ∧ PySem.W.keepIn K (.ref f) = true ∧ Binds K fd ps [] ∧ FnOk P w K mg base CX k f fd ps sp
section
variable {X : Cx} {CX : CXT} {k j : Nat} {x : Str} {sp : Sp} {E : XK} {e : Expr} {es : List Expr} {t : TA} {p pos : Pos}
theorem pe_cl (c : Cl X.prog X.w X.K X.mg X.base CX k x sp) (hr : Room j X.A) (hk : k ≤ j) (hg : Gl X x) (hx : Passes CX X E) (ha : PA X (e :: es) t)
    (hdb : (x == ("__debug__" : Str)) = false := by decide) (he : starEach (e :: es) X.env = (false, eval e X.env) :: starEach es X.env := by rfl) (hpl : (backTo pos (starEach es X.env)).any (·.1) = false := by rfl) : PE X (.Call (.Name x p) (e :: es) [] pos) (tCall sp [] E t) := by
  obtain ⟨f, fd, ps, h1, h2, h3, h4⟩ := c.ex
  exact pe_call h4 (hr.mono hk) hg h1 h2 h3 .nil hx ha hdb he hpl
theorem pe_gc {v : V} (hg : Gl X x) (h : ∃ u, X.mg x = some u ∧ RelV v u) (hd : (x == ("__debug__" : Str)) = false := by decide) : PE X (.Name x pos) (tC v) := by
  obtain ⟨u, h1, h2⟩ := h
  exact pe_glob hg h1 h2 hd
end

/-! ### the readings, step by step -/
section
variable {K : PySem.W.Frag} {t1 t2 : TS} {te ta tb tc : TE} {tt tu : TT} {a1 a2 : TA} {D : Ends} {σ : St} {H : Hp} {Q : VK} {Qb : Bool → Hp → Prop} {Qa : List V → Hp → Prop} {g : TG} {v w x y : V} {n i : Nat}
theorem x_seq (h : t1 { D with nx := t2 D } σ H) : tSeq t1 t2 D σ H := h
theorem x_next (h : D.nx σ H) : tNext D σ H := h
theorem x_ret (h : te σ H D.rt) : tRet te D σ H := h
theorem x_retN (h : D.rt .non H) : tRetN D σ H := h
theorem x_brk (h : D.bk σ H) : tBreak D σ H := h
theorem x_drop (h : te σ H fun _ H1 => D.nx σ H1) : tDrop te D σ H := h
theorem x_asg (h : te σ H fun x H1 => g x σ H1 D.nx) : tAsg te g D σ H := h
theorem x_gname {Qs : St → Hp → Prop} (h : Qs (σ.set i (some v)) H) : gName i v σ H Qs := h
theorem x_ifS (h : tt σ H fun b H1 => if b = true then t1 D σ H1 else t2 D σ H1) : tIfS tt t1 t2 D σ H := h
theorem x_var (e : σ[i]? = some (some v)) (h : Q v H) : tVar i σ H Q := ⟨v, e, h⟩
theorem x_c (h : Q v H) : tC v σ H Q := h
theorem x_op {r : R2} (h : ta σ H fun x H1 => tb σ H1 fun y H2 => r x y H2 Q) : tOp r ta tb σ H Q := h
theorem x_un {r : V → Hp → VK → Prop} (h : ta σ H fun x H1 => r x H1 Q) : tUn r ta σ H Q := h
theorem x_rU {g : Int → V} {i : Int} (h : Q (g i) H) : rU g (.int i) H Q := ⟨i, rfl, h⟩
theorem x_rI0 {g : Int → Int → V} {i j : Int} (h : Q (g i j) H) : rI0 g (.int i) (.int j) H Q := ⟨i, j, rfl, rfl, h⟩
theorem x_rI {C : Int → Int → Prop} {g : Int → Int → V} {i j : Int} (c : C i j) (h : Q (g i j) H) : rI C g (.int i) (.int j) H Q := ⟨i, j, rfl, rfl, c, h⟩
theorem x_eqI {i j : Int} (h : Q (.bl (decide (i = j))) H) : rEq (.int i) (.int j) H Q := ⟨rfl, by
  have e : decide (V.int i = V.int j) = decide (i = j) := by simp
  rw [e]; exact h⟩
theorem x_neI {i j : Int} (h : Q (.bl (!decide (i = j))) H) : rNe (.int i) (.int j) H Q := ⟨rfl, by
  have e : decide (V.int i = V.int j) = decide (i = j) := by simp
  rw [e]; exact h⟩
theorem x_eqS {i j : Str} (h : Q (.bl (decide (i = j))) H) : rEq (.str i) (.str j) H Q := ⟨rfl, by
  have e : decide (V.str i = V.str j) = decide (i = j) := by simp
  rw [e]; exact h⟩
theorem x_neS {i j : Str} (h : Q (.bl (!decide (i = j))) H) : rNe (.str i) (.str j) H Q := ⟨rfl, by
  have e : decide (V.str i = V.str j) = decide (i = j) := by simp
  rw [e]; exact h⟩
theorem x_eqB {i j : Bool} (h : Q (.bl (decide (i = j))) H) : rEq (.bl i) (.bl j) H Q := ⟨rfl, by
  have e : decide (V.bl i = V.bl j) = decide (i = j) := by simp
  rw [e]; exact h⟩
theorem x_neB {i j : Bool} (h : Q (.bl (!decide (i = j))) H) : rNe (.bl i) (.bl j) H Q := ⟨rfl, by
  have e : decide (V.bl i = V.bl j) = decide (i = j) := by simp
  rw [e]; exact h⟩
theorem x_test (h : te σ H fun x H' => ∃ k, x = .bl k ∧ Qb k H') : tTest te σ H Qb := h
theorem x_tB (h : te σ H fun x H' => ∃ k, x = .bl k ∧ Qb k H') : tB te σ H Qb := h
theorem x_isB {k : Bool} (h : Qb k H) : ∃ k', V.bl k = .bl k' ∧ Qb k' H := ⟨k, rfl, h⟩
theorem x_isB' {k : Bool} {P : Bool → Prop} (h : P k) : ∃ k', V.bl k = .bl k' ∧ P k' := ⟨k, rfl, h⟩
theorem x_not (h : tt σ H fun c H1 => Qb (!c) H1) : tNot tt σ H Qb := h
theorem x_and (h : tt σ H fun c H1 => if c = true then tu σ H1 Qb else Qb false H1) : tAnd tt tu σ H Qb := h
theorem x_or (h : tt σ H fun c H1 => if c = true then Qb true H1 else tu σ H1 Qb) : tOr tt tu σ H Qb := h
theorem x_andV (h : ta σ H fun x H1 => ∃ c, x = .bl c ∧ if c = true then tb σ H1 Q else Q (.bl false) H1) : tAndV ta tb σ H Q := h
theorem x_orV (h : ta σ H fun x H1 => ∃ c, x = .bl c ∧ if c = true then Q (.bl true) H1 else tb σ H1 Q) : tOrV ta tb σ H Q := h
theorem x_notV (h : ta σ H fun x H1 => ∃ c, x = .bl c ∧ Q (.bl (!c)) H1) : tNotV ta σ H Q := h
theorem x_chain {r r' : R2} (h : ta σ H fun x H1 => tb σ H1 fun y H2 => r x y H2 fun z H3 => ∃ k, z = .bl k ∧ (if k = true then tc σ H3 fun w' H4 => r' y w' H4 Q else Q (.bl false) H3)) : tChain r r' ta tb tc σ H Q := h
theorem x_nil (h : Qa [] H) : tNil σ H Qa := h
theorem x_cons (h : ta σ H fun x H1 => a1 σ H1 fun xs H2 => Qa (x :: xs) H2) : tCons ta a1 σ H Qa := h
theorem x_cb {r : CR} (h : a1 σ H fun vs H1 => r vs H1 Q) : tCB r a1 σ H Q := h
theorem x_call {sp : Sp} {E : XK} (h : a1 σ H fun vs H1 => sp (vs ++ []) H1 Q E) : tCall sp [] E a1 σ H Q := h
def AlL (Q : VK) (xs : List V) (H : Hp) : Prop := xs.length ≤ sizeLine ∧ ∀ p, H p = none → Q (.ref p) (upd H p (.lst xs))
def AlT (Q : VK) (xs : List V) (H : Hp) : Prop := xs.length ≤ sizeLine ∧ ∀ p, H p = none → Q (.ref p) (upd H p (.tup xs))
theorem x_lst (h : a1 σ H (AlL Q)) : tLst a1 σ H Q := h
theorem x_tup (h : a1 σ H (AlT Q)) : tTup a1 σ H Q := h
theorem x_abs {i : Int} (h : Q (.int (if i < 0 then -i else i)) H) : rAbs [.int i] H Q := ⟨i, rfl, h⟩
theorem x_max2 {i j : Int} (h : Q (.int (if j > i then j else i)) H) : rMax2 [.int i, .int j] H Q := ⟨i, j, rfl, h⟩
theorem x_min2 {i j : Int} (h : Q (.int (if j < i then j else i)) H) : rMin2 [.int i, .int j] H Q := ⟨i, j, rfl, h⟩
theorem x_int1 {i : Int} (h : Q (.int i) H) : rInt1 [.int i] H Q := .inl ⟨i, rfl, h⟩
theorem x_intB {k : Bool} (h : Q (.int (if k then 1 else 0)) H) : rInt1 [.bl k] H Q := .inr ⟨k, rfl, h⟩
theorem x_lenL {p : Addr} {ys : List V} (e : SqL K H p ys) (h : Q (.int ys.length) H) : rLenSeq K [.ref p] H Q := ⟨p, ys, rfl, .inl e, h⟩
theorem x_lenT {p : Addr} {ys : List V} (e : SqT K H p ys) (h : Q (.int ys.length) H) : rLenSeq K [.ref p] H Q := ⟨p, ys, rfl, .inr e, h⟩
theorem x_ixL {p : Addr} {xs : List V} {i : Int} (e : SqL K H p xs) (z : atI xs i = some v) (h : Q v H) : rIxL K (.ref p) (.int i) H Q := ⟨p, xs, i, v, rfl, rfl, e, z, h⟩
theorem x_ixT {p : Addr} {xs : List V} {i : Int} (e : SqT K H p xs) (z : atI xs i = some v) (h : Q v H) : rIxT K (.ref p) (.int i) H Q := ⟨p, xs, i, v, rfl, rfl, e, z, h⟩
theorem x_append {p : Addr} {xs : List V} (e : H p = some (.lst xs)) (z : xs.length < sizeLine) (h : Q .non (upd H p (.lst (xs ++ [v])))) : rAppend (.ref p) [v] H Q := ⟨p, xs, v, rfl, rfl, e, z, h⟩
theorem x_bmL {r : MR} {to : TE} (h : to σ H fun x H1 => tyV K "list" x H1 ∧ a1 σ H1 fun xs H2 => r x xs H2 Q) : tBM K "list" r to a1 σ H Q := h
theorem tyL {p : Addr} {xs : List V} (e : SqL K H p xs) : tyV K "list" (.ref p) H := .inl ⟨rfl, _, e⟩
theorem SqL.of {p : Addr} {xs : List V} (e : H p = some (.lst xs)) : SqL K H p xs := .inl (.inl e)
theorem SqT.of {p : Addr} {xs : List V} (e : H p = some (.tup xs)) : SqT K H p xs := .inl (.inl e)
theorem x_listOf {p : Addr} {ys : List V} (e : SqL K H p ys) (h : ∀ l, H l = none → Q (.ref l) (upd H l (.lst ys))) : rListOf K [.ref p] H Q := ⟨p, ys, rfl, .inl e, h⟩
theorem x_isi {c : V} {t u : Value} {b : Bool} (h1 : ClsV c u) (h2 : TyX K H x t) (h3 : PySem.W.kitOne K t u = some b) (h : Q (.bl b) H) : rIsi K [x, c] H Q := ⟨x, c, t, u, b, rfl, h1, h2, h3, h⟩
theorem x_ite {b : Bool} {A B : Prop} (h1 : b = true → A) (h2 : b = false → B) : if b = true then A else B := by
  cases b
  · exact (if_neg Bool.false_ne_true).symm ▸ h2 rfl
  · exact (if_pos rfl).symm ▸ h1 rfl
theorem x_iteD {c A B : Prop} {inst : Decidable c} (h1 : c → A) (h2 : ¬ c → B) : if decide c = true then A else B := x_ite (fun e => h1 (of_decide_eq_true e)) (fun e => h2 (of_decide_eq_false e))
theorem x_iteN {c A B : Prop} {inst : Decidable c} (h1 : ¬ c → A) (h2 : c → B) : if (!decide c) = true then A else B := x_ite (fun e => h1 (by simpa using e)) (fun e => h2 (by simpa using e))
theorem x_whileN {tb : TS} {W : Nat → St → Hp → Prop} {m : Nat} (h : tb { D with nx := (fun σ' H' => ∃ m', m' < m ∧ W m' σ' H'), ct := (fun σ' H' => ∃ m', m' < m ∧ W m' σ' H'), bk := D.nx } σ H) :
    ∃ N : St → Hp → Prop, (∀ σ' H', N σ' H' → ∃ m', m' < m ∧ W m' σ' H') ∧ tb { D with nx := N, ct := N, bk := D.nx } σ H := ⟨_, fun _ _ h => h, h⟩
theorem x_for {wi : TI} {tb : TS} (h : wi σ H fun J H1 => ∃ W : Nat → Nat → St → Hp → Prop, (∃ m, W 0 m σ H1) ∧ ∀ i m σ H, W i m σ H →
    (J.stop i H ∧ D.nx σ H) ∨ (J.go i H ∧ ∃ N : St → Hp → Prop, (∀ σ' H', N σ' H' → ∃ m', m' < m ∧ W (i + 1) m' σ' H') ∧ ∀ x H', J.yld i H x H' → g x σ H' fun σ2 H2 => tb { D with nx := N, ct := N, bk := D.nx } σ2 H2)) : tFor wi g tb D σ H := h
theorem x_iList {R : It → Hp → Prop} (h : te σ H fun x H1 => ∃ a, x = .ref a ∧ (∃ xs, SqL K H1 a xs) ∧ R (Itl K a) H1) : iList K te σ H R := h
theorem x_iRng1 {R : It → Hp → Prop} (h : a1 σ H fun vs H1 => ∃ j : Int, vs = [.int j] ∧ -(2 ^ 62) ≤ j ∧ j < 2 ^ 62 ∧ R (Itr 0 j.toNat) H1) : iRng1 a1 σ H R := h
theorem x_iRng2 {R : It → Hp → Prop} (h : a1 σ H fun vs H1 => ∃ i j : Int, vs = [.int i, .int j] ∧ (-(2 ^ 62) ≤ i ∧ i < 2 ^ 62 ∧ -(2 ^ 62) ≤ j ∧ j < 2 ^ 62) ∧ R (Itr i (j - i).toNat) H1) : iRng2 a1 σ H R := h
theorem x_rGt {i j : Int} (h : Q (.bl (decide (j < i))) H) : rGt (.int i) (.int j) H Q := ⟨i, j, rfl, rfl, h⟩
theorem x_rGe {i j : Int} (h : Q (.bl (decide (j ≤ i))) H) : rGe (.int i) (.int j) H Q := ⟨i, j, rfl, rfl, h⟩
theorem x_iteF {A B : Prop} (h : B) : if false = true then A else B := iteF h
theorem x_iteT {A B : Prop} (h : A) : if true = true then A else B := iteT h
theorem x_iteNT {A B : Prop} (h : B) : if (!true) = true then A else B := iteF h
theorem x_iteNF {A B : Prop} (h : A) : if (!false) = true then A else B := iteT h
theorem small {n : Nat} (h : n ≤ 100000) : n < sizeLine := Nat.lt_of_le_of_lt h (by rw [sizeLine_eq]; decide)
theorem at_get {α : Type} {xs : List α} {i : Int} {d : α} (h0 : 0 ≤ i) (h1 : i < xs.length) : atI xs i = some (xs.getD i.toNat d) := by
  have h2 : i.toNat < xs.length := by omega
  unfold atI ixN
  rw [if_pos h0, if_pos h1]
  show xs[i.toNat]? = _
  rw [List.getElem?_eq_getElem h2, List.getD_eq_getElem?_getD, List.getElem?_eq_getElem h2]
  rfl
theorem at_getI {xs : List Int} {i : Int} (h0 : 0 ≤ i) (h1 : i < xs.length) : atI (xs.map V.int) i = some (.int (xs.getD i.toNat 0)) := by
  have h2 : i.toNat < xs.length := by omega
  rw [at_get (d := .int 0) h0 (by rw [List.length_map]; exact h1), List.getD_eq_getElem?_getD, List.getD_eq_getElem?_getD, List.getElem?_map, List.getElem?_eq_getElem h2]
  rfl
theorem x_ixI {p : Addr} {xs : List Int} {i : Int} (e : H p = some (.lst (xs.map V.int))) (h0 : 0 ≤ i) (h1 : i < xs.length) (h : Q (.int (xs.getD i.toNat 0)) H) : rIxL K (.ref p) (.int i) H Q := x_ixL (SqL.of e) (at_getI h0 h1) h
theorem x_cut {t u : TS} (M : St → Hp → Prop) (h : t { D with nx := M } σ H) (k : ∀ σ' H', M σ' H' → u D σ' H') : C8.tCut t u D σ H := ⟨M, h, k⟩
theorem kt_int_int : kitB "int" "int" = some true := by decide +kernel
theorem kt_int_bool : kitB "int" "bool" = some false := by decide +kernel
theorem kt_int_str : kitB "int" "str" = some false := by decide +kernel
theorem kt_int_list : kitB "int" "list" = some false := by decide +kernel
theorem kt_int_tuple : kitB "int" "tuple" = some false := by decide +kernel
theorem kt_bool_int : kitB "bool" "int" = some true := by decide +kernel
theorem kt_bool_bool : kitB "bool" "bool" = some true := by decide +kernel
theorem kt_bool_str : kitB "bool" "str" = some false := by decide +kernel
theorem kt_bool_list : kitB "bool" "list" = some false := by decide +kernel
theorem kt_bool_tuple : kitB "bool" "tuple" = some false := by decide +kernel
theorem kt_str_int : kitB "str" "int" = some false := by decide +kernel
theorem kt_str_bool : kitB "str" "bool" = some false := by decide +kernel
theorem kt_str_str : kitB "str" "str" = some true := by decide +kernel
theorem kt_str_list : kitB "str" "list" = some false := by decide +kernel
theorem kt_str_tuple : kitB "str" "tuple" = some false := by decide +kernel
theorem kt_NoneType_int : kitB "NoneType" "int" = some false := by decide +kernel
theorem kt_NoneType_bool : kitB "NoneType" "bool" = some false := by decide +kernel
theorem kt_NoneType_str : kitB "NoneType" "str" = some false := by decide +kernel
theorem kt_NoneType_list : kitB "NoneType" "list" = some false := by decide +kernel
theorem kt_NoneType_tuple : kitB "NoneType" "tuple" = some false := by decide +kernel
theorem kt_list_int : kitB "list" "int" = some false := by decide +kernel
theorem kt_list_bool : kitB "list" "bool" = some false := by decide +kernel
theorem kt_list_str : kitB "list" "str" = some false := by decide +kernel
theorem kt_list_list : kitB "list" "list" = some true := by decide +kernel
theorem kt_list_tuple : kitB "list" "tuple" = some false := by decide +kernel
theorem kt_tuple_int : kitB "tuple" "int" = some false := by decide +kernel
theorem kt_tuple_bool : kitB "tuple" "bool" = some false := by decide +kernel
theorem kt_tuple_str : kitB "tuple" "str" = some false := by decide +kernel
theorem kt_tuple_list : kitB "tuple" "list" = some false := by decide +kernel
theorem kt_tuple_tuple : kitB "tuple" "tuple" = some true := by decide +kernel
theorem ty_lst {a : Addr} {xs : List V} (e : SqL K H a xs) : TyX K H (.ref a) (.type "list") := by
  rcases e with (h | ⟨o, h⟩) | ⟨o, n, us, h1, h2, h3, _⟩
  · exact .base (.lst h)
  · exact .base (.frz h)
  · exact .kList h1 h2
theorem ty_tup {a : Addr} {xs : List V} (e : SqT K H a xs) : TyX K H (.ref a) (.type "tuple") := by
  rcases e with (h | ⟨o, h⟩) | ⟨o, n, us, h1, h2, h3, _⟩
  · exact .base (.tup h)
  · exact .fTuple h
  · exact .kTuple h1 h2
theorem x_isi_int_int {i : Int} (q : Q (.bl true) H) : rIsi K [(.int i), .ty "int"] H Q := x_isi (.ty _) (.base (.int _)) (kit_ty kt_int_int) q
theorem x_isi_int_bool {i : Int} (q : Q (.bl false) H) : rIsi K [(.int i), .ty "bool"] H Q := x_isi (.ty _) (.base (.int _)) (kit_ty kt_int_bool) q
theorem x_isi_int_str {i : Int} (q : Q (.bl false) H) : rIsi K [(.int i), .ty "str"] H Q := x_isi (.ty _) (.base (.int _)) (kit_ty kt_int_str) q
theorem x_isi_int_list {i : Int} (q : Q (.bl false) H) : rIsi K [(.int i), .ty "list"] H Q := x_isi (.ty _) (.base (.int _)) (kit_ty kt_int_list) q
theorem x_isi_int_tuple {i : Int} (q : Q (.bl false) H) : rIsi K [(.int i), .ty "tuple"] H Q := x_isi (.ty _) (.base (.int _)) (kit_ty kt_int_tuple) q
theorem x_isi_bool_int {i : Bool} (q : Q (.bl true) H) : rIsi K [(.bl i), .ty "int"] H Q := x_isi (.ty _) (.base (.bl _)) (kit_ty kt_bool_int) q
theorem x_isi_bool_bool {i : Bool} (q : Q (.bl true) H) : rIsi K [(.bl i), .ty "bool"] H Q := x_isi (.ty _) (.base (.bl _)) (kit_ty kt_bool_bool) q
theorem x_isi_bool_str {i : Bool} (q : Q (.bl false) H) : rIsi K [(.bl i), .ty "str"] H Q := x_isi (.ty _) (.base (.bl _)) (kit_ty kt_bool_str) q
theorem x_isi_bool_list {i : Bool} (q : Q (.bl false) H) : rIsi K [(.bl i), .ty "list"] H Q := x_isi (.ty _) (.base (.bl _)) (kit_ty kt_bool_list) q
theorem x_isi_bool_tuple {i : Bool} (q : Q (.bl false) H) : rIsi K [(.bl i), .ty "tuple"] H Q := x_isi (.ty _) (.base (.bl _)) (kit_ty kt_bool_tuple) q
theorem x_isi_str_int {i : Str} (q : Q (.bl false) H) : rIsi K [(.str i), .ty "int"] H Q := x_isi (.ty _) (.base (.str _)) (kit_ty kt_str_int) q
theorem x_isi_str_bool {i : Str} (q : Q (.bl false) H) : rIsi K [(.str i), .ty "bool"] H Q := x_isi (.ty _) (.base (.str _)) (kit_ty kt_str_bool) q
theorem x_isi_str_str {i : Str} (q : Q (.bl true) H) : rIsi K [(.str i), .ty "str"] H Q := x_isi (.ty _) (.base (.str _)) (kit_ty kt_str_str) q
theorem x_isi_str_list {i : Str} (q : Q (.bl false) H) : rIsi K [(.str i), .ty "list"] H Q := x_isi (.ty _) (.base (.str _)) (kit_ty kt_str_list) q
theorem x_isi_str_tuple {i : Str} (q : Q (.bl false) H) : rIsi K [(.str i), .ty "tuple"] H Q := x_isi (.ty _) (.base (.str _)) (kit_ty kt_str_tuple) q
theorem x_isi_NoneType_int (q : Q (.bl false) H) : rIsi K [.non, .ty "int"] H Q := x_isi (.ty _) (.base .non) (kit_ty kt_NoneType_int) q
theorem x_isi_NoneType_bool (q : Q (.bl false) H) : rIsi K [.non, .ty "bool"] H Q := x_isi (.ty _) (.base .non) (kit_ty kt_NoneType_bool) q
theorem x_isi_NoneType_str (q : Q (.bl false) H) : rIsi K [.non, .ty "str"] H Q := x_isi (.ty _) (.base .non) (kit_ty kt_NoneType_str) q
theorem x_isi_NoneType_list (q : Q (.bl false) H) : rIsi K [.non, .ty "list"] H Q := x_isi (.ty _) (.base .non) (kit_ty kt_NoneType_list) q
theorem x_isi_NoneType_tuple (q : Q (.bl false) H) : rIsi K [.non, .ty "tuple"] H Q := x_isi (.ty _) (.base .non) (kit_ty kt_NoneType_tuple) q
theorem isi_list_int {a : Addr} {xs : List V} (e : SqL K H a xs) (q : Q (.bl false) H) : rIsi K [.ref a, .ty "int"] H Q := x_isi (.ty _) (ty_lst e) (kit_ty kt_list_int) q
theorem isi_list_bool {a : Addr} {xs : List V} (e : SqL K H a xs) (q : Q (.bl false) H) : rIsi K [.ref a, .ty "bool"] H Q := x_isi (.ty _) (ty_lst e) (kit_ty kt_list_bool) q
theorem isi_list_str {a : Addr} {xs : List V} (e : SqL K H a xs) (q : Q (.bl false) H) : rIsi K [.ref a, .ty "str"] H Q := x_isi (.ty _) (ty_lst e) (kit_ty kt_list_str) q
theorem isi_list_list {a : Addr} {xs : List V} (e : SqL K H a xs) (q : Q (.bl true) H) : rIsi K [.ref a, .ty "list"] H Q := x_isi (.ty _) (ty_lst e) (kit_ty kt_list_list) q
theorem isi_list_tuple {a : Addr} {xs : List V} (e : SqL K H a xs) (q : Q (.bl false) H) : rIsi K [.ref a, .ty "tuple"] H Q := x_isi (.ty _) (ty_lst e) (kit_ty kt_list_tuple) q
theorem isi_tuple_int {a : Addr} {xs : List V} (e : SqT K H a xs) (q : Q (.bl false) H) : rIsi K [.ref a, .ty "int"] H Q := x_isi (.ty _) (ty_tup e) (kit_ty kt_tuple_int) q
theorem isi_tuple_bool {a : Addr} {xs : List V} (e : SqT K H a xs) (q : Q (.bl false) H) : rIsi K [.ref a, .ty "bool"] H Q := x_isi (.ty _) (ty_tup e) (kit_ty kt_tuple_bool) q
theorem isi_tuple_str {a : Addr} {xs : List V} (e : SqT K H a xs) (q : Q (.bl false) H) : rIsi K [.ref a, .ty "str"] H Q := x_isi (.ty _) (ty_tup e) (kit_ty kt_tuple_str) q
theorem isi_tuple_list {a : Addr} {xs : List V} (e : SqT K H a xs) (q : Q (.bl false) H) : rIsi K [.ref a, .ty "list"] H Q := x_isi (.ty _) (ty_tup e) (kit_ty kt_tuple_list) q
theorem isi_tuple_tuple {a : Addr} {xs : List V} (e : SqT K H a xs) (q : Q (.bl true) H) : rIsi K [.ref a, .ty "tuple"] H Q := x_isi (.ty _) (ty_tup e) (kit_ty kt_tuple_tuple) q
theorem same_upd {H0 H1 : Hp} {p : Addr} {o : HO} (h : Same H0 H1) (n : H0 p = none) : Same H0 (upd H1 p o) := fun b q e => by rw [upd_ne (ne_of_none e n)]; exact h b q e
theorem same_new {H0 H1 : Hp} {p : Addr} {o : HO} (h : Same H0 H1) (n : H1 p = none) : Same H0 (L2.upd H1 p o) := same_upd h (h.free n)
theorem al_lst {xs : List V} (h : ∀ p H', H p = none → Same H H' → H' p = some (.lst xs) → Q (.ref p) H') (h0 : Nat.ble xs.length 100000 = true := by rfl) : AlL Q xs H := ⟨Nat.le_of_lt (small (Nat.le_of_ble_eq_true h0)), fun p n => h p _ n (same_new (Same.refl H) n) upd_same⟩
theorem al_tup {xs : List V} (h : ∀ p H', H p = none → Same H H' → H' p = some (.tup xs) → Q (.ref p) H') (h0 : Nat.ble xs.length 100000 = true := by rfl) : AlT Q xs H := ⟨Nat.le_of_lt (small (Nat.le_of_ble_eq_true h0)), fun p n => h p _ n (same_new (Same.refl H) n) upd_same⟩
theorem al_list {p : Addr} {ys : List V} (e : SqL K H p ys) (h : ∀ p H', H p = none → Same H H' → H' p = some (.lst ys) → Q (.ref p) H') : rListOf K [.ref p] H Q := x_listOf e fun p n => h p _ n (same_new (Same.refl H) n) upd_same
theorem getD_all {P : Int → Prop} {xs : List Int} (h : ∀ x ∈ xs, P x) (h0 : P 0) (i : Nat) : P (xs.getD i 0) := by
  rw [List.getD_eq_getElem?_getD]
  cases e : xs[i]? with
  | none => exact h0
  | some v => exact h v (List.mem_of_getElem? e)
end
/-! ### turns of a walk -/
structure Turns (J : It) (n : Nat) (ok : Hp → Prop) (item : Nat → V → Hp → Hp → Prop) : Prop where
  go : ∀ i H, i < n → ok H → J.go i H
  yld : ∀ i H x H', i < n → ok H → J.yld i H x H' → item i x H H'
  stop : ∀ H, ok H → J.stop n H
section
variable {K : PySem.W.Frag} {J : It} {n : Nat} {ok : Hp → Prop} {item : Nat → V → Hp → Hp → Prop} {g : TG} {tb : TS} {D : Ends} {σ : St} {H : Hp}
theorem for_by (T : Turns J n ok item) (Pv : Nat → St → Hp → Prop) (h0 : Pv 0 σ H) (hok : ∀ i σ H, i ≤ n → Pv i σ H → ok H)
    (hs : ∀ i x σ H H', i < n → Pv i σ H → item i x H H' → g x σ H' fun σ2 H2 => tb { D with nx := Pv (i + 1), ct := Pv (i + 1), bk := D.nx } σ2 H2) (hd : ∀ σ H, Pv n σ H → D.nx σ H) :
    ∃ W : Nat → Nat → St → Hp → Prop, (∃ m, W 0 m σ H) ∧ ∀ i m σ H, W i m σ H →
      (J.stop i H ∧ D.nx σ H) ∨ (J.go i H ∧ ∃ N : St → Hp → Prop, (∀ σ' H', N σ' H' → ∃ m', m' < m ∧ W (i + 1) m' σ' H') ∧ ∀ v H', J.yld i H v H' → g v σ H' fun σ2 H2 => tb { D with nx := N, ct := N, bk := D.nx } σ2 H2) := by
  refine ⟨fun i m σ H => m = n - i ∧ i ≤ n ∧ Pv i σ H, ⟨n, rfl, Nat.zero_le _, h0⟩, ?_⟩
  rintro i m σ H ⟨rfl, hi, p⟩
  have q := hok i σ H hi p
  by_cases hlt : i < n
  · exact .inr ⟨T.go i H hlt q, Pv (i + 1), fun σ' H' p' => ⟨n - (i + 1), by omega, rfl, hlt, p'⟩, fun v H' y => hs i v σ H H' hlt p (T.yld i H v H' hlt q y)⟩
  · have e : i = n := by omega
    subst e
    exact .inl ⟨T.stop H q, hd σ H p⟩
variable {tt : TT} {te : TE} {vs : List Nat} {H1 : Hp} {A : Addr} {Qd : Hp → Prop}
theorem lc_by (T : Turns J n ok item) (Pv : Nat → Hp → Prop) (h0 : Pv 0 (upd H1 A (.lst []))) (hok : ∀ i H, i ≤ n → Pv i H → ok H)
    (hs : ∀ i x H H', i < n → Pv i H → item i x H H' → g x (wipe σ vs) H' fun σ2 H2 => wipe σ2 vs = wipe σ vs ∧ tt σ2 H2 fun b H3 =>
      if b = true then te σ2 H3 fun y H4 => ∃ acc, H4 A = some (.lst acc) ∧ acc.length < sizeLine ∧ Pv (i + 1) (upd H4 A (.lst (acc ++ [y]))) else Pv (i + 1) H3) (hd : ∀ H, Pv n H → Qd H) :
    ∃ W : Nat → Nat → Hp → Prop, (∃ m, W 0 m (upd H1 A (.lst []))) ∧ ∀ i m H, W i m H →
      (J.stop i H ∧ Qd H) ∨ (J.go i H ∧ ∃ Nx : Hp → Prop, (∀ H', Nx H' → ∃ m', m' < m ∧ W (i + 1) m' H') ∧ ∀ x H', J.yld i H x H' → g x (wipe σ vs) H' fun σ2 H2 => wipe σ2 vs = wipe σ vs ∧ tt σ2 H2 fun b H3 =>
        if b = true then te σ2 H3 fun y H4 => ∃ acc, H4 A = some (.lst acc) ∧ acc.length < sizeLine ∧ Nx (upd H4 A (.lst (acc ++ [y]))) else Nx H3) := by
  refine ⟨fun i m H => m = n - i ∧ i ≤ n ∧ Pv i H, ⟨n, rfl, Nat.zero_le _, h0⟩, ?_⟩
  rintro i m H ⟨rfl, hi, p⟩
  have q := hok i H hi p
  by_cases hlt : i < n
  · exact .inr ⟨T.go i H hlt q, Pv (i + 1), fun H' p' => ⟨n - (i + 1), by omega, rfl, hlt, p'⟩, fun v H' y => hs i v H H' hlt p (T.yld i H v H' hlt q y)⟩
  · have e : i = n := by omega
    subst e
    exact .inl ⟨T.stop H q, hd H p⟩
theorem turnsL {a : Addr} {xs : List V} : Turns (Itl K a) xs.length (fun H => SqL K H a xs) (fun i x H H' => H = H' ∧ xs[i]? = some x) where
  go := fun i H hi q => ⟨xs, xs[i], q, List.getElem?_eq_getElem hi⟩
  yld := fun i H x H' _ q y => ⟨y.1.symm, y.2 xs q⟩
  stop := fun H q => ⟨xs, q, Nat.le_refl _⟩
theorem turnsT {a : Addr} {xs : List V} : Turns (Itt K a) xs.length (fun H => SqT K H a xs) (fun i x H H' => H = H' ∧ xs[i]? = some x) where
  go := fun i H hi q => ⟨xs, xs[i], q, List.getElem?_eq_getElem hi⟩
  yld := fun i H x H' _ q y => ⟨y.1.symm, y.2 xs q⟩
  stop := fun H q => ⟨xs, q, Nat.le_refl _⟩
theorem turnsR {lo : Int} {n : Nat} : Turns (Itr lo n) n (fun _ => True) (fun i x H H' => H = H' ∧ x = .int (lo + i)) where
  go := fun i H hi _ => hi
  yld := fun i H x H' _ _ y => ⟨y.1.symm, y.2⟩
  stop := fun H _ => Nat.le_refl _
/-- a new pair stands at T -/
def Pair (x y : V) (v : V) (H H' : Hp) : Prop := ∃ T, v = .ref T ∧ H T = none ∧ Same H H' ∧ H' T = some (.tup [x, y]) ∧ ∀ b, b ≠ T → H' b = H b
theorem pair_mk {x y : V} {T : Addr} (h : H T = none) : Pair x y (.ref T) H (upd H T (.tup [x, y])) := ⟨T, rfl, h, same_new (Same.refl H) h, upd_same, fun b hb => upd_ne hb⟩
theorem turnsZ {a b : Addr} {xs ys : List V} (hl : xs.length = ys.length) : Turns (Itz K a b) xs.length (fun H => SqL K H a xs ∧ SqL K H b ys) (fun i v H H' => ∃ x y, xs[i]? = some x ∧ ys[i]? = some y ∧ Pair x y v H H') where
  go := fun i H hi q => ⟨xs, ys, xs[i], ys[i]'(by omega), q.1, q.2, List.getElem?_eq_getElem hi, List.getElem?_eq_getElem (by omega)⟩
  yld := fun i H v H' _ q y => by
    obtain ⟨T, x, y, rfl, hT, rfl, f1, f2⟩ := y
    exact ⟨x, y, f1 xs q.1, f2 ys q.2, pair_mk hT⟩
  stop := fun H q => ⟨xs, ys, q.1, q.2, .inl (Nat.le_refl _)⟩
theorem turnsZT {a b : Addr} {xs ys : List V} (hl : xs.length = ys.length) : Turns (RZ.ItzT K a b) xs.length (fun H => SqT K H a xs ∧ SqT K H b ys) (fun i v H H' => ∃ x y, xs[i]? = some x ∧ ys[i]? = some y ∧ Pair x y v H H') where
  go := fun i H hi q => ⟨xs, ys, xs[i], ys[i]'(by omega), q.1, q.2, List.getElem?_eq_getElem hi, List.getElem?_eq_getElem (by omega)⟩
  yld := fun i H v H' _ q y => by
    obtain ⟨T, x, y, rfl, hT, rfl, f1, f2⟩ := y
    exact ⟨x, y, f1 xs q.1, f2 ys q.2, pair_mk hT⟩
  stop := fun H q => ⟨xs, ys, q.1, q.2, .inl (Nat.le_refl _)⟩

/-! ### a comprehension of flat values -/
structure LcF (H1 : Hp) (A : Addr) (f : Nat → Option V) (i : Nat) (H : Hp) : Prop where
  s : Same H1 H
  o : H A = some (.lst ((List.range i).filterMap f))
theorem lcF_len (f : Nat → Option V) (i : Nat) : ((List.range i).filterMap f).length ≤ i := by
  have := List.length_filterMap_le f (List.range i)
  rwa [List.length_range] at this
theorem LcF.keep {f : Nat → Option V} {i : Nat} {Hc H4 : Hp} {y : V} (h : LcF H1 A f i Hc) (n : H1 A = none) (s : Same Hc H4) (hf : f i = some y) (hi : i ≤ 100000) :
    ∃ acc, H4 A = some (.lst acc) ∧ acc.length < sizeLine ∧ LcF H1 A f (i + 1) (upd H4 A (.lst (acc ++ [y]))) := by
  refine ⟨_, s _ _ h.o, small (Nat.le_trans (lcF_len f i) hi), same_upd (h.s.trans s) n, ?_⟩
  rw [upd_same, List.range_succ, List.filterMap_append]
  simp [hf]
theorem lc_flat (f : Nat → Option V) (T : Turns J n ok item) (hok : ∀ H', Same H1 H' → ok H') (hn : H1 A = none)
    (hs : ∀ i x Hc H', i < n → LcF H1 A f i Hc → item i x Hc H' → g x (wipe σ vs) H' fun σ2 H2 => wipe σ2 vs = wipe σ vs ∧ tt σ2 H2 fun b H3 =>
      if b = true then te σ2 H3 fun y H4 => ∃ acc, H4 A = some (.lst acc) ∧ acc.length < sizeLine ∧ LcF H1 A f (i + 1) (upd H4 A (.lst (acc ++ [y]))) else LcF H1 A f (i + 1) H3)
    (hd : ∀ H, Same H1 H → H A = some (.lst ((List.range n).filterMap f)) → Qd H) :
    ∃ W : Nat → Nat → Hp → Prop, (∃ m, W 0 m (upd H1 A (.lst []))) ∧ ∀ i m H, W i m H →
      (J.stop i H ∧ Qd H) ∨ (J.go i H ∧ ∃ Nx : Hp → Prop, (∀ H', Nx H' → ∃ m', m' < m ∧ W (i + 1) m' H') ∧ ∀ x H', J.yld i H x H' → g x (wipe σ vs) H' fun σ2 H2 => wipe σ2 vs = wipe σ vs ∧ tt σ2 H2 fun b H3 =>
        if b = true then te σ2 H3 fun y H4 => ∃ acc, H4 A = some (.lst acc) ∧ acc.length < sizeLine ∧ Nx (upd H4 A (.lst (acc ++ [y]))) else Nx H3) :=
  lc_by T (LcF H1 A f) ⟨same_new (Same.refl H1) hn, upd_same⟩ (fun i H _ p => hok H p.s) hs (fun H p => hd H p.s p.o)
end

/-! ### data -/
section
variable {K : PySem.W.Frag} {H H' : Hp}
theorem seqT_same {a : Addr} {xs : List V} (e : Same H H') (h : SqT K H a xs) : SqT K H' a xs := by
  rcases h with (h | ⟨o, h⟩) | h
  · exact .inl (.inl (e _ _ h))
  · exact .inl (.inr ⟨o, e _ _ h⟩)
  · exact .inr h
mutual
theorem dp_same (e : Same H H') : ∀ {v : V} {d : PyData}, Dp K H v d → Dp K H' v d
  | _, _, .non => .non
  | _, _, .bl b => .bl b
  | _, _, .int i => .int i
  | _, _, .str x => .str x
  | _, _, .lst h a => .lst (e.seq h) (dpAll_same e a)
  | _, _, .tup h a => .tup (seqT_same e h) (dpAll_same e a)
theorem dpAll_same (e : Same H H') : ∀ {vs : List V} {ds : List PyData}, DpAll K H vs ds → DpAll K H' vs ds
  | _, _, .nil => .nil
  | _, _, .cons a b => .cons (dp_same e a) (dpAll_same e b)
end
theorem dpAll_len : ∀ {vs : List V} {ds : List PyData}, DpAll K H vs ds → vs.length = ds.length
  | _, _, .nil => rfl
  | _, _, .cons _ b => congrArg Nat.succ (dpAll_len b)
theorem dpAll_get : ∀ {vs : List V} {ds : List PyData} {i : Nat} {v : V}, DpAll K H vs ds → vs[i]? = some v → ∃ d, ds[i]? = some d ∧ Dp K H v d
  | _, _, i, _, .nil, e => by simp at e
  | _, _, 0, _, .cons a _, e => by simp at e; subst e; exact ⟨_, rfl, a⟩
  | _, _, i + 1, _, .cons _ b, e => by
    obtain ⟨d, h1, h2⟩ := dpAll_get (i := i) b (by simpa using e)
    exact ⟨d, by simpa using h1, h2⟩
theorem dpAll_get' : ∀ {vs : List V} {ds : List PyData} {i : Nat} {d : PyData}, DpAll K H vs ds → ds[i]? = some d → ∃ v, vs[i]? = some v ∧ Dp K H v d
  | _, _, i, _, .nil, e => by simp at e
  | _, _, 0, _, .cons a _, e => by simp at e; subst e; exact ⟨_, rfl, a⟩
  | _, _, i + 1, _, .cons _ b, e => by
    obtain ⟨v, h1, h2⟩ := dpAll_get' (i := i) b (by simpa using e)
    exact ⟨v, by simpa using h1, h2⟩
theorem dpAll_snoc : ∀ {vs : List V} {ds : List PyData} {v : V} {d : PyData}, DpAll K H vs ds → Dp K H v d → DpAll K H (vs ++ [v]) (ds ++ [d])
  | _, _, _, _, .nil, h => .cons h .nil
  | _, _, _, _, .cons a b, h => .cons a (dpAll_snoc b h)
theorem dpAll_app : ∀ {vs ws : List V} {ds es : List PyData}, DpAll K H vs ds → DpAll K H ws es → DpAll K H (vs ++ ws) (ds ++ es)
  | _, _, _, _, .nil, h => h
  | _, _, _, _, .cons a b, h => .cons a (dpAll_app b h)
theorem dp_int {v : V} {i : Int} (h : Dp K H v (.int i)) : v = .int i := by cases h; rfl
theorem dp_bl {v : V} {i : Bool} (h : Dp K H v (.bool i)) : v = .bl i := by cases h; rfl
theorem dp_str {v : V} {i : Str} (h : Dp K H v (.str i)) : v = .str i := by cases h; rfl
theorem dp_lst {v : V} {ds : List PyData} (h : Dp K H v (.list ds)) : ∃ a xs, v = .ref a ∧ SqL K H a xs ∧ DpAll K H xs ds := by cases h with | lst a b => exact ⟨_, _, rfl, a, b⟩
theorem dp_tup {v : V} {ds : List PyData} (h : Dp K H v (.tuple ds)) : ∃ a xs, v = .ref a ∧ SqT K H a xs ∧ DpAll K H xs ds := by cases h with | tup a b => exact ⟨_, _, rfl, a, b⟩
theorem bls_dpAll : ∀ (ns : List Bool), DpAll K H (ns.map V.bl) (ns.map .bool)
  | [] => .nil
  | n :: ns => .cons (.bl n) (bls_dpAll ns)
/-- the heap without what stands at A -/
def del (H : Hp) (A : Addr) : Hp := fun b => if b = A then none else H b
theorem del_same {A : Addr} : Same (del H A) H := fun b o e => by
  unfold del at e
  by_cases c : b = A
  · rw [if_pos c] at e; cases e
  · rw [if_neg c] at e; exact e
theorem del_at {A b : Addr} {o : HO} (h : H b = some o) (n : b ≠ A) : del H A b = some o := by unfold del; rw [if_neg n]; exact h
theorem del_upd {A : Addr} {o : HO} : del (upd H A o) A = del H A := by
  funext b
  unfold del
  by_cases c : b = A
  · rw [if_pos c, if_pos c]
  · rw [if_neg c, if_neg c, upd_ne c]
theorem del_mono {A : Addr} (e : Same H H') : Same (del H A) (del H' A) := fun b o h => by
  unfold del at h ⊢
  by_cases c : b = A
  · rw [if_pos c] at h; cases h
  · rw [if_neg c] at h ⊢; exact e b o h
end

/-! ### a comprehension of data -/
structure LcD (K : PySem.W.Frag) (H1 : Hp) (A : Addr) (f : Nat → Option PyData) (i : Nat) (H : Hp) : Prop where
  s : Same H1 H
  ex : ∃ acc, H A = some (.lst acc) ∧ DpAll K (del H A) acc ((List.range i).filterMap f)
section
variable {K : PySem.W.Frag} {J : It} {n : Nat} {ok : Hp → Prop} {item : Nat → V → Hp → Hp → Prop} {g : TG} {σ : St} {tt : TT} {te : TE} {vs : List Nat} {H1 : Hp} {A : Addr} {Qd : Hp → Prop}
theorem lcD_len (f : Nat → Option PyData) (i : Nat) : ((List.range i).filterMap f).length ≤ i := by
  have := List.length_filterMap_le f (List.range i)
  rwa [List.length_range] at this
theorem LcD.keep {f : Nat → Option PyData} {i : Nat} {Hc H4 : Hp} {y : V} {d : PyData} (h : LcD K H1 A f i Hc) (n : H1 A = none) (s : Same Hc H4) (hf : f i = some d) (hy : Dp K (del H4 A) y d) (hi : i ≤ 100000) :
    ∃ acc, H4 A = some (.lst acc) ∧ acc.length < sizeLine ∧ LcD K H1 A f (i + 1) (upd H4 A (.lst (acc ++ [y]))) := by
  obtain ⟨acc, ho, ha⟩ := h.ex
  refine ⟨acc, s _ _ ho, small (by rw [dpAll_len ha]; exact Nat.le_trans (lcD_len f i) hi), same_upd (h.s.trans s) n, acc ++ [y], upd_same, ?_⟩
  rw [del_upd, List.range_succ, List.filterMap_append]
  have e : List.filterMap f [i] = [d] := by simp [hf]
  rw [e]
  exact dpAll_snoc (dpAll_same (del_mono s) ha) hy
theorem lc_data (f : Nat → Option PyData) (T : Turns J n ok item) (hok : ∀ H', Same H1 H' → ok H') (hn : H1 A = none)
    (hs : ∀ i x Hc H', i < n → LcD K H1 A f i Hc → item i x Hc H' → g x (wipe σ vs) H' fun σ2 H2 => wipe σ2 vs = wipe σ vs ∧ tt σ2 H2 fun b H3 =>
      if b = true then te σ2 H3 fun y H4 => ∃ acc, H4 A = some (.lst acc) ∧ acc.length < sizeLine ∧ LcD K H1 A f (i + 1) (upd H4 A (.lst (acc ++ [y]))) else LcD K H1 A f (i + 1) H3)
    (hd : ∀ H acc, Same H1 H → H A = some (.lst acc) → DpAll K (del H A) acc ((List.range n).filterMap f) → Qd H) :
    ∃ W : Nat → Nat → Hp → Prop, (∃ m, W 0 m (upd H1 A (.lst []))) ∧ ∀ i m H, W i m H →
      (J.stop i H ∧ Qd H) ∨ (J.go i H ∧ ∃ Nx : Hp → Prop, (∀ H', Nx H' → ∃ m', m' < m ∧ W (i + 1) m' H') ∧ ∀ x H', J.yld i H x H' → g x (wipe σ vs) H' fun σ2 H2 => wipe σ2 vs = wipe σ vs ∧ tt σ2 H2 fun b H3 =>
        if b = true then te σ2 H3 fun y H4 => ∃ acc, H4 A = some (.lst acc) ∧ acc.length < sizeLine ∧ Nx (upd H4 A (.lst (acc ++ [y]))) else Nx H3) :=
  lc_by T (LcD K H1 A f) ⟨same_new (Same.refl H1) hn, [], upd_same, .nil⟩ (fun i H _ p => hok H p.s) hs (fun H p => p.ex.elim fun acc e => hd H acc p.s e.1 e.2)
end

/-! ### further steps -/
section
variable {K : PySem.W.Frag} {te : TE} {a1 : TA} {σ : St} {H : Hp} {R : It → Hp → Prop} {Qs : St → Hp → Prop} {g : TG} {u : TGs} {v : V} {r xs : List V} {n : Nat} {a : Addr}
theorem x_iEnum (h : a1 σ H fun vs H1 => ∃ a xs, vs = [.ref a] ∧ SqL K H1 a xs ∧ R (Ite K a) H1) : iEnum K a1 σ H R := h
theorem x_iZip (h : a1 σ H fun vs H1 => ∃ a b xs ys, vs = [.ref a, .ref b] ∧ SqL K H1 a xs ∧ SqL K H1 b ys ∧ R (Itz K a b) H1) : iZip K a1 σ H R := h
theorem x_iZipA (h : a1 σ H fun vs H1 => ∃ a b xs ys, vs = [.ref a, .ref b] ∧ ((SqL K H1 a xs ∧ SqL K H1 b ys ∧ R (Itz K a b) H1) ∨ (SqT K H1 a xs ∧ SqT K H1 b ys ∧ R (RZ.ItzT K a b) H1))) : RZ.iZipA K a1 σ H R := h
theorem x_iTup (h : te σ H fun x H1 => ∃ a, x = .ref a ∧ (∃ xs, SqT K H1 a xs) ∧ R (Itt K a) H1) : iTup K te σ H R := h
theorem x_gtup (e : SqT K H a xs) (l : xs.length = n) (h : u xs σ H Qs) : gTup K n u (.ref a) σ H Qs := ⟨a, xs, rfl, e, l, h⟩
theorem x_gcons (h : g v σ H fun σ' H' => u r σ' H' Qs) : gCons g u (v :: r) σ H Qs := ⟨v, r, rfl, h⟩
theorem x_gnil (h : Qs σ H) : gNil [] σ H Qs := ⟨rfl, h⟩
theorem x_gsub {to ti : TE} {t : TSet} (h : to σ H fun o H1 => ti σ H1 fun i H2 => t o i v H2 fun H3 => Qs σ H3) : gSub to ti t v σ H Qs := h
theorem x_setL {p : Addr} {xs : List V} {k : Int} {Qh : Hp → Prop} (e : H p = some (.lst xs)) (h0 : 0 ≤ k) (h1 : k < xs.length) (h : Qh (upd H p (.lst (xs.set k.toNat v)))) : rSetL (.ref p) (.int k) v H Qh := by
  refine ⟨p, xs, k, k.toNat, rfl, rfl, e, ?_, h⟩
  unfold ixN
  rw [if_pos h0, if_pos h1]
theorem x_yes {Qb : Bool → Hp → Prop} (h : Qb true H) : tYes σ H Qb := h
theorem x_lc {wi : TI} {tt : TT} {te : TE} {vs : List Nat} {Q : VK} (h : wi σ H fun J H1 => ∀ D, H1 D = none → ∃ W : Nat → Nat → Hp → Prop, (∃ m, W 0 m (upd H1 D (.lst []))) ∧ ∀ i m H, W i m H →
  (J.stop i H ∧ Q (.ref D) H) ∨ (J.go i H ∧ ∃ Nx : Hp → Prop, (∀ H', Nx H' → ∃ m', m' < m ∧ W (i + 1) m' H') ∧ ∀ x H', J.yld i H x H' → g x (wipe σ vs) H' fun σ2 H2 => wipe σ2 vs = wipe σ vs ∧ tt σ2 H2 fun b H3 =>
    if b = true then te σ2 H3 fun y H4 => ∃ acc, H4 D = some (.lst acc) ∧ acc.length < sizeLine ∧ Nx (upd H4 D (.lst (acc ++ [y]))) else Nx H3)) : tLc wi g tt te vs σ H Q := h
theorem x_wipe {P : Prop} {σ' : St} (e : σ' = σ) (h : P) : σ' = σ ∧ P := ⟨e, h⟩
end
/-! ### slices, defs that are not called, windows -/
section
variable {K : PySem.W.Frag} {te : TE} {tl th : TO} {σ : St} {H : Hp} {Q : VK} {v : V}
theorem x_sl {r : V → Option Int → Option Int → Hp → VK → Prop} (h : te σ H fun x H1 => tl σ H1 fun l H2 => th σ H2 fun u H3 => r x l u H3 Q) : tSl r te tl th σ H Q := h
theorem x_nopart {Qo : Option Int → Hp → Prop} (h : Qo none H) : tNoPart σ H Qo := h
theorem x_part {Qo : Option Int → Hp → Prop} (h : te σ H fun x H1 => ∃ i, x = .int i ∧ Qo (some i) H1) : tPart te σ H Qo := h
theorem x_isI {i : Int} {P : Int → Prop} (h : P i) : ∃ j, V.int i = .int j ∧ P j := ⟨i, rfl, h⟩
theorem al_slL {a : Addr} {xs : List V} {lo hi : Option Int} (e : SqL K H a xs) (h : ∀ p H', H p = none → Same H H' → H' p = some (.lst (cutV xs lo hi)) → Q (.ref p) H') : rSlL K (.ref a) lo hi H Q := ⟨a, xs, rfl, e, fun p n => h p _ n (same_new (Same.refl H) n) upd_same⟩
theorem cutV_from {xs : List V} {i : Nat} : cutV xs (some (i : Int)) none = xs.drop i := by
  unfold cutV HT.sIx
  have h : ¬ ((i : Int) < 0) := by omega
  simp only [if_neg h, Int.toNat_natCast]
  by_cases c : i ≤ xs.length
  · rw [Nat.min_eq_left c, List.take_of_length_le]
    rw [List.length_drop]; exact Nat.le_refl _
  · have c' : xs.length ≤ i := by omega
    rw [Nat.min_eq_right c', List.drop_of_length_le c', List.drop_of_length_le (Nat.le_refl _)]
    simp
theorem al_from {a : Addr} {xs : List Int} {i : Nat} {j : Int} (e : SqL K H a (xs.map V.int)) (hj : j = i) (h : ∀ p H', H p = none → Same H H' → H' p = some (.lst ((xs.drop i).map V.int)) → Q (.ref p) H') : rSlL K (.ref a) (some j) none H Q :=
  al_slL e fun p H' n s o => h p H' n s (by subst hj; rw [cutV_from] at o; rw [List.map_drop]; exact o)
end
theorem fn_false {P : Program} {w : World} {K : PySem.W.Frag} {mg : Str → Option Value} {base : Heap} {CX : CXT} {k : Nat} {f : Addr} {fd : FuncData} {ps : List Str} : FnOk P w K mg base CX k f fd ps (fun _ _ _ _ => False) := by
  exact ⟨fun _ _ _ _ h => h.elim, fun _ _ _ _ _ _ _ _ _ _ _ _ _ h => h.elim⟩
section
variable {K : PySem.W.Frag} {H H' : Hp}
end
/-! ### list(range(..)), sorted, lists of ints as data -/
section
variable {K : PySem.W.Frag} {te ta : TE} {σ : St} {H : Hp} {Q : VK} {v : V}
def AlRg (Q : VK) (a b : Int) (H : Hp) : Prop := RgOk a b ∧ ∀ q, H q = none → Q (.ref q) (upd H q (.lst (rgV a b)))
theorem x_lstRg {tr : St → Hp → (Int → Int → Hp → Prop) → Prop} (h : tr σ H (AlRg Q)) : tLstRg tr σ H Q := h
theorem x_rg1 {R : Int → Int → Hp → Prop} (h : ta σ H fun x H1 => ∃ n, x = .int n ∧ R 0 n H1) : tRg1 ta σ H R := h
end
/-! own exceptions made without arguments, raised and caught -/
section
variable {X : Cx} {x : Str} {p pos pos' : Pos}
/-- what the top says of an own exception class without __init__ -/
structure Xc (K : PySem.W.Frag) (mg : Str → Option Value) (x : Str) : Prop where
  q : PySem.W.excIn K (He.ga K x) He.veBase "ValueError.__new__" = true
  g : mg x = some (.ref (He.ga K x))
  k : PySem.W.keepIn K (.ref (He.ga K x)) = true
  s : PySem.W.subIn K (.ref (He.ga K x)) (.type "BaseException") = some true
  t : PySem.W.typeIn K (.ref (He.ga K x)) = some (.type "type")
theorem Xc.val {K : PySem.W.Frag} {mg : Str → Option Value} (h : Xc K mg x) : ∃ u, mg x = some u ∧ RelV (.ref (He.ga K x)) u := ⟨_, h.g, rfl⟩
theorem pmk_own0 (T : Xc X.K X.mg x) (hg : Gl X x) (hdb : (x == ("__debug__" : Str)) = false := by decide) : PMk X (.Call (.Name x p) [] [] pos) (fun _ H Q => Q (.ref (He.ga X.K x)) none H) := by
  intro pins s σ H Q I h
  refine wpAny_Call_Name_kw (ld_glob I hg T.g ?_ hdb)
  refine PySem.W.callWith_K0 I.kIn T.k ?_
  show wpAny _ _ (call (.ref (He.ga X.K x)) []) _ _ _
  obtain ⟨bm, N, nm, qn, bs, hdct, sn, sub, ab, col, dd, k0, k1, k2, k3, k5, mN, hC, hN, hni, T'⟩ := exc_obj I.kIn T.q
  refine PySem.wpAny_call_exc_subT PySem.F.excBase_ValueError T' hC hN hni (fun h' e hm => ?_) (Nat.zero_le _)
  exact mk_of I hm (raises_own T.s T.t) h (I.hok.gone hm.new)
abbrev wE (E : XK) : WX := fun cls d _ H => E cls d H
def tRaise (C : Addr) (W : WX) : TS := fun _ σ H => W (.ref C) none σ H
theorem ps_raise0 {W : WX} (hc : X.calm = true) (tk : Takes X W) (T : Xc X.K X.mg x) (hg : Gl X x) (hdb : (x == ("__debug__" : Str)) = false := by decide) :
    PS X (.Raise (some (.Call (.Name x p) [] [] pos)) none pos') (tRaise (He.ga X.K x) W) := ps_raise hc tk (pmk_own0 T hg hdb)
theorem pass_tk {E : XK} (tk : Takes X (wE E)) : Passes (L2.CX X.prog X.w) X E := fun pins σ H s e s' I c => passAt tk σ pins H s e s' I c
def tTryAs (K : PySem.W.Frag) (c : Value) (i : Nat) (ts : Addr → Value → Option Addr → TS) (Wout : WX) (tb : WX → TS) : TS := fun D σ H => tb (wAs K c i ts Wout D) D σ H
def rIsX (K : PySem.W.Frag) (a : Addr) (cls : Value) (d : Option Addr) : List V → Hp → VK → Prop := fun xs H Q => ∃ D, cls = .ref D ∧ d = none ∧ ExcC K D ∧ rIsE K D a xs H Q
theorem call_isX {a : Addr} {oe : Obj} {cls : Value} {d : Option Addr} {pn : List (Addr × Obj)} (hz : Zc cls d oe) (hf : ∃ vs, oe.data = .fields vs) : CallR (X.suite a ((a, oe) :: pn)) (.builtin "isinstance") (rIsX X.K a cls d) := by
  intro pins s σ H xs us Q I r h
  obtain ⟨D, rfl, rfl, C, h⟩ := h
  exact call_isE C hz hf pins s σ H xs us Q I r h
end
section
variable {X : Cx} {CX : CXT} {k j : Nat} {sp : Sp} {E : St → XK} {x : Str} {p pos : Pos} {e : Expr} {es : List Expr} {t : TA}
theorem pe_clS (c : Cl X.prog X.w X.K X.mg X.base CX k x sp) (hr : Room j X.A) (hk : k ≤ j) (hg : Gl X x) (hx : ∀ σ, PassesAt CX X σ (E σ)) (ha : PA X (e :: es) t)
    (hdb : (x == ("__debug__" : Str)) = false := by decide) (he : starEach (e :: es) X.env = (false, eval e X.env) :: starEach es X.env := by rfl) (hpl : (backTo pos (starEach es X.env)).any (·.1) = false := by rfl) : PE X (.Call (.Name x p) (e :: es) [] pos) (tCallS sp E t) := by
  obtain ⟨f, fd, ps, h1, h2, h3, h4⟩ := c.ex
  exact pe_callS h4 (hr.mono hk) hg h1 h2 h3 hx ha hdb he hpl
theorem x_callS {σ : St} {H : Hp} {Q : VK} (h : t σ H fun vs H1 => sp vs H1 Q (E σ)) : tCallS sp E t σ H Q := h
theorem x_tryAs {K : PySem.W.Frag} {c : Value} {i : Nat} {ts : Addr → Value → Option Addr → TS} {Wout : WX} {tb : WX → TS} {D : Ends} {σ : St} {H : Hp} (h : tb (wAs K c i ts Wout D) D σ H) : tTryAs K c i ts Wout tb D σ H := h
theorem x_isX {K : PySem.W.Frag} {a D : Addr} {cv : Value} {b : Bool} {c : V} {H : Hp} {Q : VK} (C : ExcC K D) (hc : ∀ u, RelV c u → u = cv) (hk : PySem.W.kitOne K (.ref D) cv = some b) (h : Q (.bl b) H) : rIsX K a (.ref D) none [.ref a, c] H Q := ⟨D, rfl, rfl, C, c, cv, b, rfl, hc, hk, h⟩
/-- the class that is caught -/
theorem x_caught {K : PySem.W.Frag} {c cls : Value} {i : Nat} {ts : Addr → Value → Option Addr → TS} {Wout : WX} {D : Ends} {σ : St} {H : Hp} {d : Option Addr} (m : PySem.W.exmOne K cls c = some true)
    (h : ∀ a, H a = none → ts a cls d { nx := fun σ' H' => D.nx (σ'.set i none) H', rt := D.rt, bk := fun σ' H' => D.bk (σ'.set i none) H', ct := fun σ' H' => D.ct (σ'.set i none) H' } (σ.set i (some (.ref a))) H) : wAs K c i ts Wout D cls d σ H := ⟨true, m, fun _ => h, fun q => Bool.noConfusion q⟩
end
/-- what is asked of the own exception classes cs (all under SusuError alone) -/
def excCB (K : PySem.W.Frag) (D : Addr) : Bool :=
  decide (PySem.W.findIn K (.ref D) "__getattribute__" = some (some (.builtin "BaseException.__getattribute__"))) && (decide (PySem.W.findIn K (.ref D) "__getattr__" = some none) &&
  (decide (PySem.W.subIn K (.ref D) (.type "BaseException") = some true) && (PySem.W.hasDictIn K D && (decide (PySem.W.findIn K (.ref D) "__class__" = some (some (.builtin "object.__class__"))) &&
  (decide (PySem.W.specialIn K (.builtin "object.__class__") "__get__" = some (some (.builtin "getset_descriptor.__get__"))) && (decide (PySem.W.takesIn K (.builtin "object.__class__") = some true) && decide (PySem.W.mroIn K D (.type "object") = some true)))))))
theorem excCB_ok {K : PySem.W.Frag} {D : Addr} (h : excCB K D = true) : ExcC K D := by
  simp only [excCB, Bool.and_eq_true, decide_eq_true_eq] at h
  obtain ⟨h1, h2, h3, h4, h5, h6, h7, h8⟩ := h
  exact ⟨h1, h2, h3, h4, h5, h6, h7, h8⟩
def xfB (K : PySem.W.Frag) (cs : List Str) : Bool := cs.all fun x => excCB K (He.ga K x) && (decide (PySem.W.exmOne K (.ref (He.ga K x)) (.ref (He.ga K "SusuError")) = some true) && (decide (PySem.W.kitOne K (.ref (He.ga K x)) (.type "ValueError") = some true) &&
  cs.all fun y => decide (PySem.W.kitOne K (.ref (He.ga K x)) (.ref (He.ga K y)) = some (x == y))))
structure Xf (K : PySem.W.Frag) (cs : List Str) : Prop where
  c : ∀ x ∈ cs, ExcC K (He.ga K x)
  m : ∀ x ∈ cs, PySem.W.exmOne K (.ref (He.ga K x)) (.ref (He.ga K "SusuError")) = some true
  v : ∀ x ∈ cs, PySem.W.kitOne K (.ref (He.ga K x)) (.type "ValueError") = some true
  k : ∀ x ∈ cs, ∀ y ∈ cs, PySem.W.kitOne K (.ref (He.ga K x)) (.ref (He.ga K y)) = some (x == y)
theorem xf_of {K : PySem.W.Frag} {cs : List Str} (h : xfB K cs = true) : Xf K cs := by
  simp only [xfB, List.all_eq_true, Bool.and_eq_true, decide_eq_true_eq] at h
  exact ⟨fun x hx => excCB_ok (h x hx).1, fun x hx => (h x hx).2.1, fun x hx => (h x hx).2.2.1, fun x hx y hy => (h x hx).2.2.2 y hy⟩
theorem x_augS {to ti te : TE} {tget : V → V → Hp → VK → Prop} {tip : TIp} {tset : TSet} {D : Ends} {σ : St} {H : Hp} (h : to σ H fun o H1 => ti σ H1 fun i H2 => tget o i H2 fun x H3 => te σ H3 fun y H4 => tip x y H4 fun z H5 => tset o i z H5 fun H6 => D.nx σ H6) : tAugS to ti te tget tip tset D σ H := h
theorem x_aug {te : TE} {ti : TIp} {D : Ends} {σ : St} {H : Hp} {i : Nat} {v : V} (e : σ[i]? = some (some v)) (h : te σ H fun y H1 => ti v y H1 fun z H2 => D.nx (σ.set i (some z)) H2) : tAug i te ti D σ H := ⟨v, e, h⟩
theorem x_ipI {f : Int → Int → Int} {i j : Int} {H : Hp} {Q : VK} (h : Q (.int (f i j)) H) : ipI f (.int i) (.int j) H Q := ⟨i, j, rfl, rfl, h⟩
end Su
namespace Su
open PySem L2
local macro_rules | `(tactic| walk_at "side") => `(tactic| first | assumption | (show (0 : Int) < _; omega) | (show (0 : Int) ≤ _; omega) | (show (0 : Int) < _; split <;> omega) | (show _ ∨ _; omega) | (show _ ∧ _; omega) | exact ⟨by decide, by decide, by decide⟩ | exact ⟨by first | assumption | omega, by first | assumption | omega⟩)
local macro_rules | `(tactic| walk_at "xs") => `(tactic| repeat walk_at "x")
local macro_rules | `(tactic| walk_at "if") => `(tactic| first | with_reducible refine Su.x_iteD (fun c => ?_) (fun c => ?_) | with_reducible refine Su.x_iteN (fun c => ?_) (fun c => ?_) | with_reducible refine Su.x_ite (fun c => ?_) (fun c => ?_))

/-! what the head wants ahead of all else: tables of the module -/
def tbsB (K : PySem.W.Frag) (d : Addr) (kvs : List (Str × Str)) : Bool := (match K.lookup d with
  | some ⟨_, _, .dict es _, _⟩ => decide (es.toList.map (fun e => match e.key with | .str x _ => some x | _ => none) = kvs.map fun p => some p.1)
  | _ => false) && kvs.all fun p => match PySem.W.nsIn K d p.1 with
  | some (some (.str y _)) => decide (y = p.2)
  | _ => false
/-- what the table tells of each text -/
structure TbS (K : PySem.W.Frag) (d : Addr) (kvs : List (Str × Str)) : Prop where
  yes : ∀ p ∈ kvs, ∃ t, PySem.W.nsIn K d p.1 = some (some (.str p.2 t))
  no : ∀ z, (∀ p ∈ kvs, p.1 ≠ z) → PySem.W.nsIn K d z = some none
theorem tbs_of {K : PySem.W.Frag} {d : Addr} {kvs : List (Str × Str)} (h : tbsB K d kvs = true) : TbS K d kvs := by
  obtain ⟨h1, h2⟩ := Bool.and_eq_true_iff.mp h
  refine ⟨fun p hp => ?_, fun z hz => ?_⟩
  · have := List.all_eq_true.mp h2 p hp
    split at this
    · rename_i y t e
      have := of_decide_eq_true this
      subst this
      exact ⟨t, e⟩
    · cases this
  · split at h1
    · rename_i oc od es n sl e
      have h3 := of_decide_eq_true h1
      have key : ∀ en ∈ es.toList, ∃ x t, en.key = .str x t ∧ x ≠ z := fun en hen => by
        have m : (match en.key with | .str x _ => some x | _ => none) ∈ kvs.map fun p => some p.1 := by
          rw [← h3]; exact List.mem_map.mpr ⟨en, hen, rfl⟩
        obtain ⟨p, hp, hq⟩ := List.mem_map.mp m
        cases hk : en.key with
        | str x t =>
          rw [hk] at hq
          have : p.1 = x := Option.some.inj hq
          exact ⟨x, t, rfl, fun c => hz p hp (this.trans c)⟩
        | _ => rw [hk] at hq; cases hq
      unfold PySem.W.nsIn
      rw [e]
      have f1 : es.toList.find? (·.key.isStr z) = none := by
        rw [List.find?_eq_none]
        intro en hen
        obtain ⟨x, t, hk, hx⟩ := key en hen
        rw [hk]
        show ¬ (x == z) = true
        simpa using hx
      have f2 : es.toList.any (·.refKey) = false := by
        rw [List.any_eq_false]
        intro en hen
        obtain ⟨x, t, hk, hx⟩ := key en hen
        unfold DictEntry.refKey
        rw [hk]; simp
      show (match es.toList.find? (·.key.isStr z) with
        | some e => some (some e.val)
        | none => if es.toList.any (·.refKey) = true then none else some none) = some none
      rw [f1]
      show (if es.toList.any (·.refKey) = true then none else some none) = some none
      rw [f2]; rfl
    · cases h1
def setFT (w : World) (b : Bool) : World := { w with params := { w.params with followText := fun r => match decide (r = "special-get-raises") with | true => b | false => w.params.followText r } }
theorem setFT_eq {w : World} {b : Bool} (h : w.params.followText "special-get-raises" = b) : setFT w b = w := by
  have f : (fun r => match decide (r = "special-get-raises") with | true => b | false => w.params.followText r) = w.params.followText := by
    funext r
    by_cases c : r = "special-get-raises"
    · rw [decide_eq_true c, c]; exact h.symm
    · rw [decide_eq_false c]
  unfold setFT
  rw [f]
def kEnter : List Nat := [101, 110, 116, 101, 114]
def kPart : List Nat := [112, 97, 114, 116]
def kBring : List Nat := [98, 114, 105, 110, 103]
def kTake : List Nat := [116, 97, 107, 101]
def kFound : List Nat := [102, 111, 117, 110, 100]
def kPay : List Nat := [112, 97, 121]
def kBid : List Nat := [98, 105, 100]
def kLay : List Nat := [108, 97, 121]
def kSwap : List Nat := [115, 119, 97, 112]
def kClose : List Nat := [99, 108, 111, 115, 101]
def kPlain : List Nat := [112, 108, 97, 105, 110]
def kBids : List Nat := [98, 105, 100, 115]
def shL : List (List Nat × List Nat) := [(kEnter, [110]), (kPart, [110]), (kBring, [110, 99]), (kTake, [110, 99]), (kPay, [110, 110]), (kBid, [110, 110, 99]), (kLay, [110, 110, 99]), (kSwap, [110, 110, 110]), (kClose, [110])]
def tb_SHAPES : List (Str × Str) := shL.map fun p => (SX.S p.1, SX.S p.2)

end Su
namespace Su
open PySem L2
def top (i : Nat) : Stmt := PySem.Challenge.pw_susu_k39_pages.main.body.getD i (.Pass ⟨0, 0, 0, 0⟩)
abbrev s_law_is_name : Stmt := top 24
abbrev s_law_is_number : Stmt := top 25
abbrev s_law_shape : Stmt := top 26
abbrev s_law_read : Stmt := top 27
abbrev s_law_all_read : Stmt := top 30
abbrev s_law_names : Stmt := top 21
abbrev s_law_number : Stmt := top 22
abbrev s_law_deed : Stmt := top 23
abbrev s_law_draws : Stmt := top 19
abbrev s_law_line : Stmt := top 28
abbrev s_law_same : Stmt := top 20
abbrev s_law_spoilt : Stmt := top 29
abbrev s_is_name : Stmt := top 9
abbrev s_name_of : Stmt := top 12
abbrev s_is_number : Stmt := top 10
abbrev s_number_in : Stmt := top 13
abbrev s_found_of : Stmt := top 14
abbrev s_deed_of : Stmt := top 15
abbrev s_page_deeds : Stmt := top 17
abbrev s_deed_text : Stmt := top 11
abbrev s_page_text : Stmt := top 16
abbrev s_law : Stmt := top 31
def dd_law_is_name : He.DefD := ⟨("_law_is_name", none), "_law_is_name", "_law_is_name", defArgs s_law_is_name, defBody s_law_is_name, defScope s_law_is_name, [], []⟩
def dd_law_is_number : He.DefD := ⟨("_law_is_number", none), "_law_is_number", "_law_is_number", defArgs s_law_is_number, defBody s_law_is_number, defScope s_law_is_number, [], []⟩
def dd_law_shape : He.DefD := ⟨("_law_shape", none), "_law_shape", "_law_shape", defArgs s_law_shape, defBody s_law_shape, defScope s_law_shape, [], []⟩
def dd_law_read : He.DefD := ⟨("_law_read", none), "_law_read", "_law_read", defArgs s_law_read, defBody s_law_read, defScope s_law_read, [], []⟩
def dd_law_all_read : He.DefD := ⟨("_law_all_read", none), "_law_all_read", "_law_all_read", defArgs s_law_all_read, defBody s_law_all_read, defScope s_law_all_read, [], []⟩
def dd_law_names : He.DefD := ⟨("_law_names", none), "_law_names", "_law_names", defArgs s_law_names, defBody s_law_names, defScope s_law_names, [], []⟩
def dd_law_number : He.DefD := ⟨("_law_number", none), "_law_number", "_law_number", defArgs s_law_number, defBody s_law_number, defScope s_law_number, [], []⟩
def dd_law_deed : He.DefD := ⟨("_law_deed", none), "_law_deed", "_law_deed", defArgs s_law_deed, defBody s_law_deed, defScope s_law_deed, [], []⟩
def dd_law_draws : He.DefD := ⟨("_law_draws", none), "_law_draws", "_law_draws", defArgs s_law_draws, defBody s_law_draws, defScope s_law_draws, [], []⟩
def dd_law_line : He.DefD := ⟨("_law_line", none), "_law_line", "_law_line", defArgs s_law_line, defBody s_law_line, defScope s_law_line, [], []⟩
def dd_law_same : He.DefD := ⟨("_law_same", none), "_law_same", "_law_same", defArgs s_law_same, defBody s_law_same, defScope s_law_same, [], []⟩
def dd_law_spoilt : He.DefD := ⟨("_law_spoilt", none), "_law_spoilt", "_law_spoilt", defArgs s_law_spoilt, defBody s_law_spoilt, defScope s_law_spoilt, [], []⟩
def dd_is_name : He.DefD := ⟨("is_name", none), "is_name", "is_name", defArgs s_is_name, defBody s_is_name, defScope s_is_name, [], []⟩
def dd_name_of : He.DefD := ⟨("name_of", none), "name_of", "name_of", defArgs s_name_of, defBody s_name_of, defScope s_name_of, [], []⟩
def dd_is_number : He.DefD := ⟨("is_number", none), "is_number", "is_number", defArgs s_is_number, defBody s_is_number, defScope s_is_number, [], []⟩
def dd_number_in : He.DefD := ⟨("number_in", none), "number_in", "number_in", defArgs s_number_in, defBody s_number_in, defScope s_number_in, [], []⟩
def dd_found_of : He.DefD := ⟨("found_of", none), "found_of", "found_of", defArgs s_found_of, defBody s_found_of, defScope s_found_of, [], []⟩
def dd_deed_of : He.DefD := ⟨("deed_of", none), "deed_of", "deed_of", defArgs s_deed_of, defBody s_deed_of, defScope s_deed_of, [], []⟩
def dd_page_deeds : He.DefD := ⟨("page_deeds", none), "page_deeds", "page_deeds", defArgs s_page_deeds, defBody s_page_deeds, defScope s_page_deeds, [], []⟩
def dd_deed_text : He.DefD := ⟨("deed_text", none), "deed_text", "deed_text", defArgs s_deed_text, defBody s_deed_text, defScope s_deed_text, [], []⟩
def dd_page_text : He.DefD := ⟨("page_text", none), "page_text", "page_text", defArgs s_page_text, defBody s_page_text, defScope s_page_text, [], []⟩
def dd_law : He.DefD := ⟨("law", none), "law", "law", defArgs s_law, defBody s_law, defScope s_law, [], []⟩
def fns : List He.DefD := dd_law_is_name :: dd_law_is_number :: dd_law_shape :: dd_law_read :: dd_law_all_read :: dd_law_names :: dd_law_number :: dd_law_deed :: dd_law_draws :: dd_law_line :: dd_law_same :: dd_law_spoilt :: dd_is_name :: dd_name_of :: dd_is_number :: dd_number_in :: dd_found_of :: dd_deed_of :: dd_page_deeds :: dd_deed_text :: dd_page_text :: dd_law :: []
abbrev R : PySem.W.OpenRow := PySem.W.OpenLaw.row PySem.Challenge.rw_susu_k39_pages
def fas : List He.Fa := .glo "_law_is_name" :: .glo "_law_is_number" :: .glo "_law_shape" :: .glo "_law_read" :: .glo "_law_all_read" :: .glo "_law_names" :: .glo "_law_number" :: .glo "_law_deed" :: .glo "_law_draws" :: .glo "_law_line" :: .glo "_law_same" :: .glo "_law_spoilt" :: .glo "is_name" :: .glo "name_of" :: .glo "is_number" :: .glo "number_in" :: .glo "found_of" :: .glo "deed_of" :: .glo "page_deeds" :: .glo "deed_text" :: .glo "page_text" :: .glo "law" :: .free "ValueError" :: .free "abs" :: .free "all" :: .free "bool" :: .free "int" :: .free "isinstance" :: .free "len" :: .free "list" :: .free "range" :: .free "str" :: .free "tuple" :: .free "zip" :: .str "FIGURES" "0123456789" :: .str "LETTERS" "abcdefghijklmnopqrstuvwxyz" :: .int "MOST_SIGNS" 12 :: .glo "BadName" :: .glo "NoDeed" :: .glo "SusuError" :: .exc "NoDeed" :: .glo "SHAPES" :: []
def tabs : List He.Tab := [(fun K => He.ga K "SHAPES", ["enter", "part", "bring", "take", "pay", "bid", "lay", "swap", "close"])]
abbrev hx (K : PySem.W.Frag) : Bool := xfB K ["NoDeed", "BadName"] && (tbsB K (He.ga K "SHAPES") tb_SHAPES)
abbrev hk : PySem.W.Hook := He.hookX 5 fas fns tabs [] hx
def ob (s : PySem.W.SharedT) : He.AlX := He.obsX 5 fas fns tabs [] hx (HandSHeadRun.getT s)
theorem ob_eq (s : PySem.W.SharedT) : ob s = hk.obs s.abs := He.obsX_eq (HandSHeadRun.getT_eq s)
def loose : List PySem.Str := "SusuError" :: "BadName" :: "NoDeed" :: "LETTERS" :: "FIGURES" :: "MOST_SIGNS" :: "SHAPES" :: "is_name" :: "is_number" :: "deed_text" :: "name_of" :: "number_in" :: "found_of" :: "deed_of" :: "page_text" :: "page_deeds" :: "_law_draws" :: "_law_same" :: "_law_names" :: "_law_number" :: "_law_deed" :: "_law_is_name" :: "_law_is_number" :: "_law_shape" :: "_law_read" :: "_law_line" :: "_law_spoilt" :: "_law_all_read" :: []
theorem run_f (w : World) : HandSHeadRun.RunEq R (PySem.W.view R.prog [31]) hk ob 4000 loose (setFT w false) := by
  intro os
  kernel_rfl
theorem run_t (w : World) : HandSHeadRun.RunEq R (PySem.W.view R.prog [31]) hk ob 4000 loose (setFT w true) := by
  intro os
  kernel_rfl
theorem run (w : World) : HandSHeadRun.RunEq R (PySem.W.view R.prog [31]) hk ob 4000 loose w := by
  obtain ⟨b, hb⟩ : ∃ b, w.params.followText "special-get-raises" = b := ⟨_, rfl⟩
  rw [← setFT_eq hb]
  cases b
  · exact run_f w
  · exact run_t w
open PySem PySem.W PySem.Calls PyProof.Rows in
theorem hd_e : opening R.prog = plainProg R.prog.main.scope.names := by kernel_rfl
open PySem PySem.W PySem.Calls PyProof.Rows in
theorem hd_f : ∀ s, fenceModules? R.prog s = some s := fun s => by kernel_rfl
open PySem PySem.W PySem.Calls PyProof.Rows in
theorem hd_def : defOf (PySem.W.view R.prog [31]) R.name = some (HandSHeadRun.topDef R.prog 31, []) := by kernel_rfl
open PySem PySem.W PySem.Calls PyProof.Rows in
theorem hd_p : R.prog.theDef R.name = some ((HandSHeadRun.topDef R.prog 31).params, (HandSHeadRun.topDef R.prog 31).body, (HandSHeadRun.topDef R.prog 31).scope) := by kernel_rfl
open PySem PySem.W PySem.Calls PyProof.Rows in
theorem hd_k : kwWritten? (HandSHeadRun.topDef R.prog 31).params.kwonlyargs (HandSHeadRun.topDef R.prog 31).params.kw_defaults = some [] := by kernel_rfl
open PySem PySem.W PySem.Calls PyProof.Rows in
theorem hd_ok : (chainsOk (PySem.W.view R.prog [31]) && opensWell R.prog && (frees R.toRowW && R.within.isEmpty)) = true := by decide +kernel
end Su
namespace Su
open PySem L2
local macro_rules | `(tactic| walk_at "side") => `(tactic| first | assumption | (show (0 : Int) < _; omega) | (show (0 : Int) ≤ _; omega) | (show (0 : Int) < _; split <;> omega) | (show _ ∨ _; omega) | (show _ ∧ _; omega) | exact ⟨by decide, by decide, by decide⟩ | exact ⟨by first | assumption | omega, by first | assumption | omega⟩)
local macro_rules | `(tactic| walk_at "x") => `(tactic| first | with_reducible refine Su.x_seq ?_ | with_reducible refine Su.x_asg ?_ | with_reducible refine Su.x_gname ?_ | with_reducible refine Su.x_drop ?_ | with_reducible refine Su.x_ret ?_ | with_reducible refine Su.x_ifS ?_ | ((with_reducible show L2.tVar _ _ _ _); refine Su.x_var rfl ?_) | with_reducible refine Su.x_op ?_ | with_reducible refine Su.x_rI0 ?_ | with_reducible refine Su.x_rGe ?_ | with_reducible refine Su.x_iteF ?_ | with_reducible refine Su.x_test ?_ | with_reducible refine Su.x_isB' ?_ | with_reducible refine Su.x_and ?_ | with_reducible refine Su.x_nil ?_ | with_reducible refine Su.x_cons ?_ | with_reducible refine Su.x_lst ?_ | with_reducible refine Su.x_bmL ?_ | with_reducible refine Su.x_next ?_ | with_reducible refine Su.x_for ?_ | with_reducible refine Su.x_iEnum ?_ | with_reducible refine Su.x_gcons ?_ | with_reducible refine Su.x_gnil ?_)
local macro_rules | `(tactic| walk_at "xs") => `(tactic| repeat walk_at "x")
local macro_rules | `(tactic| walk_at "if") => `(tactic| first | with_reducible refine Su.x_iteD (fun c => ?_) (fun c => ?_) | with_reducible refine Su.x_iteN (fun c => ?_) (fun c => ?_) | with_reducible refine Su.x_ite (fun c => ?_) (fun c => ?_))

/-! within -/
end Su
namespace Su
open PySem L2
local macro_rules | `(tactic| walk_at "side") => `(tactic| first | assumption | (show (0 : Int) < _; omega) | (show (0 : Int) ≤ _; omega) | (show (0 : Int) < _; split <;> omega) | (show _ ∨ _; omega) | (show _ ∧ _; omega) | exact ⟨by decide, by decide, by decide⟩ | exact ⟨by first | assumption | omega, by first | assumption | omega⟩)
local macro_rules | `(tactic| walk_at "x") => `(tactic| first | with_reducible refine Su.x_seq ?_ | with_reducible refine Su.x_asg ?_ | with_reducible refine Su.x_gname ?_ | with_reducible refine Su.x_drop ?_ | with_reducible refine Su.x_ret ?_ | with_reducible refine Su.x_ifS ?_ | ((with_reducible show L2.tVar _ _ _ _); refine Su.x_var rfl ?_) | with_reducible refine Su.x_c ?_ | with_reducible refine Su.x_op ?_ | with_reducible refine Su.x_rI0 ?_ | ((with_reducible refine Su.x_rI ?_ ?_); focus walk_at "side") | with_reducible refine Su.x_rGt ?_ | with_reducible refine Su.x_iteF ?_ | with_reducible refine Su.x_test ?_ | with_reducible refine Su.x_isB' ?_ | with_reducible refine Su.x_and ?_ | with_reducible refine Su.x_nil ?_ | with_reducible refine Su.x_cons ?_ | with_reducible refine Su.x_cb ?_ | with_reducible refine Su.x_min2 ?_ | with_reducible refine Su.x_lst ?_ | with_reducible refine Su.x_tup ?_ | with_reducible refine Su.x_bmL ?_ | with_reducible refine Su.x_next ?_ | with_reducible refine Su.x_for ?_ | with_reducible refine Su.x_iRng1 ?_)
local macro_rules | `(tactic| walk_at "xs") => `(tactic| repeat walk_at "x")
local macro_rules | `(tactic| walk_at "if") => `(tactic| first | with_reducible refine Su.x_iteD (fun c => ?_) (fun c => ?_) | with_reducible refine Su.x_iteN (fun c => ?_) (fun c => ?_) | with_reducible refine Su.x_ite (fun c => ?_) (fun c => ?_))

/-! _law_windows -/
end Su
namespace Su
open PySem L2
local macro_rules | `(tactic| walk_at "side") => `(tactic| first | assumption | (show (0 : Int) < _; omega) | (show (0 : Int) ≤ _; omega) | (show (0 : Int) < _; split <;> omega) | (show _ ∨ _; omega) | (show _ ∧ _; omega) | exact ⟨by decide, by decide, by decide⟩ | exact ⟨by first | assumption | omega, by first | assumption | omega⟩)
local macro_rules | `(tactic| walk_at "xs") => `(tactic| repeat walk_at "x")
local macro_rules | `(tactic| walk_at "if") => `(tactic| first | with_reducible refine Su.x_iteD (fun c => ?_) (fun c => ?_) | with_reducible refine Su.x_iteN (fun c => ?_) (fun c => ?_) | with_reducible refine Su.x_ite (fun c => ?_) (fun c => ?_))

/-! windows, orders, bars: the mathematics -/
def w1 (ws : List (Int × Int)) (i : Nat) : Int := (ws.getD i (0, 0)).1
def w2 (ws : List (Int × Int)) (i : Nat) : Int := (ws.getD i (0, 0)).2
/-! ### the greedy way -/
end Su
namespace Su
open PySem L2
local macro_rules | `(tactic| walk_at "side") => `(tactic| first | assumption | (show (0 : Int) < _; omega) | (show (0 : Int) ≤ _; omega) | (show (0 : Int) < _; split <;> omega) | (show _ ∨ _; omega) | (show _ ∧ _; omega) | exact ⟨by decide, by decide, by decide⟩ | exact ⟨by first | assumption | omega, by first | assumption | omega⟩)
local macro_rules | `(tactic| walk_at "x") => `(tactic| first | with_reducible refine Su.x_seq ?_ | with_reducible refine Su.x_gname ?_ | with_reducible refine Su.x_ret ?_ | with_reducible refine Su.x_ifS ?_ | ((with_reducible show L2.tVar _ _ _ _); refine Su.x_var rfl ?_) | with_reducible refine Su.x_c ?_ | with_reducible refine Su.x_op ?_ | with_reducible refine Su.x_iteT ?_ | with_reducible refine Su.x_eqI ?_ | with_reducible refine Su.x_eqB ?_ | with_reducible refine Su.x_neB ?_ | with_reducible refine Su.x_test ?_ | with_reducible refine Su.x_tB ?_ | with_reducible refine Su.x_isB' ?_ | with_reducible refine Su.x_not ?_ | with_reducible refine Su.x_and ?_ | with_reducible refine Su.x_or ?_ | with_reducible refine Su.x_andV ?_ | with_reducible refine Su.x_nil ?_ | with_reducible refine Su.x_cons ?_ | with_reducible refine Su.x_cb ?_ | with_reducible refine Su.x_call ?_ | with_reducible refine Su.x_next ?_ | with_reducible refine Su.x_iZipA ?_ | with_reducible refine Su.x_gcons ?_ | with_reducible refine Su.x_gnil ?_ | with_reducible refine Su.x_yes ?_ | with_reducible refine Su.x_lc ?_)
local macro_rules | `(tactic| walk_at "xs") => `(tactic| repeat walk_at "x")
local macro_rules | `(tactic| walk_at "if") => `(tactic| first | with_reducible refine Su.x_iteD (fun c => ?_) (fun c => ?_) | with_reducible refine Su.x_iteN (fun c => ?_) (fun c => ?_) | with_reducible refine Su.x_ite (fun c => ?_) (fun c => ?_))

/-! _law_same: two data alike -/
mutual
def sameD : PyData → PyData → Bool
  | .none, .none => true
  | .bool a, .bool b => a == b
  | .int i, .int j => i == j
  | .str x, .str y => x == y
  | .list xs, .list ys => sameL xs ys
  | .tuple xs, .tuple ys => sameL xs ys
  | _, _ => false
def sameL : List PyData → List PyData → Bool
  | [], [] => true
  | x :: xs, y :: ys => sameD x y && sameL xs ys
  | _, _ => false
end
mutual
def okD : PyData → Bool
  | .none => true
  | .bool _ => true
  | .int _ => true
  | .str x => PyData.strOk x
  | .list xs => decide (xs.length ≤ 1000) && okL xs
  | .tuple xs => decide (xs.length ≤ 1000) && okL xs
  | .dict _ => false
def okL : List PyData → Bool
  | [] => true
  | x :: xs => okD x && okL xs
end
mutual
theorem sameD_refl : ∀ d : PyData, okD d = true → sameD d d = true
  | .none, _ => rfl
  | .bool b, _ => by simp [sameD]
  | .int b, _ => by simp [sameD]
  | .str b, _ => by simp [sameD]
  | .list xs, h => by
    simp only [okD, Bool.and_eq_true] at h
    simp only [sameD]; exact sameL_refl xs h.2
  | .tuple xs, h => by
    simp only [okD, Bool.and_eq_true] at h
    simp only [sameD]; exact sameL_refl xs h.2
  | .dict _, h => by simp [okD] at h
theorem sameL_refl : ∀ ds : List PyData, okL ds = true → sameL ds ds = true
  | [], _ => rfl
  | d :: ds, h => by
    simp only [okL, Bool.and_eq_true] at h
    simp only [sameL, sameD_refl d h.1, sameL_refl ds h.2, Bool.and_self]
end
theorem okL_get : ∀ {ds : List PyData} {i : Nat} {d : PyData}, okL ds = true → ds[i]? = some d → okD d = true
  | [], _, _, _, e => by simp at e
  | d :: ds, 0, _, h, e => by
    simp at e; subst e
    simp only [okL, Bool.and_eq_true] at h; exact h.1
  | d :: ds, i + 1, _, h, e => by
    simp only [okL, Bool.and_eq_true] at h
    exact okL_get (i := i) h.2 (by simpa using e)
theorem depth_get : ∀ {ds : List PyData} {i : Nat} {d : PyData}, ds[i]? = some d → d.depth ≤ PyData.depthAll ds
  | [], _, _, e => by simp at e
  | d :: ds, 0, _, e => by
    simp at e; subst e
    exact Nat.le_max_left _ _
  | d :: ds, i + 1, _, e => Nat.le_trans (depth_get (ds := ds) (i := i) (by simpa using e)) (Nat.le_max_right _ _)
theorem sameL_all : ∀ (ds es : List PyData), ds.length = es.length → (List.range ds.length).all (fun i => sameD (ds.getD i .none) (es.getD i .none)) = sameL ds es
  | [], [], _ => rfl
  | d :: ds, e :: es, h => by
    have ih := sameL_all ds es (Nat.succ.inj h)
    rw [List.length_cons, List.range_succ_eq_map, List.all_cons, List.all_map]
    show (sameD d e && _) = (sameD d e && sameL ds es)
    rw [← ih]
    rfl
  | [], _ :: _, h | _ :: _, [], h => by cases h
theorem sameL_len : ∀ (ds es : List PyData), ds.length ≠ es.length → sameL ds es = false
  | [], [], h => absurd rfl h
  | d :: ds, e :: es, h => by
    simp only [sameL]
    rw [sameL_len ds es (fun z => h (congrArg Nat.succ z)), Bool.and_false]
  | [], _ :: _, _ | _ :: _, [], _ => rfl
def isDB : PyData → Bool | .bool _ => true | _ => false
def isDI : PyData → Bool | .bool _ => true | .int _ => true | _ => false
def isDS : PyData → Bool | .str _ => true | _ => false
def isDL : PyData → Bool | .list _ => true | _ => false
def isDT : PyData → Bool | .tuple _ => true | _ => false
section
variable {K : PySem.W.Frag} {H : Hp} {Q : VK} {x : V} {d : PyData}
theorem isiD_bool (h : Dp K H x d) (q : Q (.bl (isDB d)) H) : rIsi K [x, .ty "bool"] H Q := by
  cases h with
  | non => exact x_isi_NoneType_bool q
  | bl b => exact x_isi_bool_bool q
  | int i => exact x_isi_int_bool q
  | str i => exact x_isi_str_bool q
  | lst a b => exact isi_list_bool a q
  | tup a b => exact isi_tuple_bool a q
theorem isiD_int (h : Dp K H x d) (q : Q (.bl (isDI d)) H) : rIsi K [x, .ty "int"] H Q := by
  cases h with
  | non => exact x_isi_NoneType_int q
  | bl b => exact x_isi_bool_int q
  | int i => exact x_isi_int_int q
  | str i => exact x_isi_str_int q
  | lst a b => exact isi_list_int a q
  | tup a b => exact isi_tuple_int a q
theorem isiD_str (h : Dp K H x d) (q : Q (.bl (isDS d)) H) : rIsi K [x, .ty "str"] H Q := by
  cases h with
  | non => exact x_isi_NoneType_str q
  | bl b => exact x_isi_bool_str q
  | int i => exact x_isi_int_str q
  | str i => exact x_isi_str_str q
  | lst a b => exact isi_list_str a q
  | tup a b => exact isi_tuple_str a q
theorem isiD_list (h : Dp K H x d) (q : Q (.bl (isDL d)) H) : rIsi K [x, .ty "list"] H Q := by
  cases h with
  | non => exact x_isi_NoneType_list q
  | bl b => exact x_isi_bool_list q
  | int i => exact x_isi_int_list q
  | str i => exact x_isi_str_list q
  | lst a b => exact isi_list_list a q
  | tup a b => exact isi_tuple_list a q
theorem isiD_tuple (h : Dp K H x d) (q : Q (.bl (isDT d)) H) : rIsi K [x, .ty "tuple"] H Q := by
  cases h with
  | non => exact x_isi_NoneType_tuple q
  | bl b => exact x_isi_bool_tuple q
  | int i => exact x_isi_int_tuple q
  | str i => exact x_isi_str_tuple q
  | lst a b => exact isi_list_tuple a q
  | tup a b => exact isi_tuple_tuple a q
end
def spn_law_same (K : PySem.W.Frag) (n : Nat) : Sp := fun vs H Q _ => ∃ (x y : V) (d e : PyData), vs = [x, y] ∧ Dp K H x d ∧ Dp K H y e ∧ okD d = true ∧ okD e = true ∧ e.depth ≤ n ∧ ∀ H', Same H H' → Q (.bl (sameD d e)) H'
abbrev sp_law_same (K : PySem.W.Frag) : Sp := spn_law_same K 7
abbrev N_law_same : List Str := ["_law_told", "_law_due", "_law_one", "_law_other"]
def t_law_same (K : PySem.W.Frag) (spR : Sp) : TS :=
 (tSeq (tIfS (tOr (tTest (tOp rNe (tCB (rIsi K) (tCons (tVar 0) (tCons (tC (.ty "bool")) tNil))) (tCB (rIsi K) (tCons (tVar 1) (tCons (tC (.ty "bool")) tNil))))) (tTest (tOp rNe (tCB (rIsi K) (tCons (tVar 0) (tCons (tC (.ty "int")) tNil))) (tCB (rIsi K) (tCons (tVar 1) (tCons (tC (.ty "int")) tNil))))))
 (tRet (tC (.bl false)))
 tNext)
 (tSeq (tIfS (tOr (tTest (tOp rNe (tCB (rIsi K) (tCons (tVar 0) (tCons (tC (.ty "list")) tNil))) (tCB (rIsi K) (tCons (tVar 1) (tCons (tC (.ty "list")) tNil))))) (tTest (tOp rNe (tCB (rIsi K) (tCons (tVar 0) (tCons (tC (.ty "tuple")) tNil))) (tCB (rIsi K) (tCons (tVar 1) (tCons (tC (.ty "tuple")) tNil))))))
 (tRet (tC (.bl false)))
 tNext)
 (tSeq (tIfS (tAnd (tNot (tB (tCB (rIsi K) (tCons (tVar 1) (tCons (tC (.ty "list")) tNil))))) (tNot (tB (tCB (rIsi K) (tCons (tVar 1) (tCons (tC (.ty "tuple")) tNil))))))
 (tRet (tAndV (tOp rEq (tCB (rIsi K) (tCons (tVar 0) (tCons (tC (.ty "str")) tNil))) (tCB (rIsi K) (tCons (tVar 1) (tCons (tC (.ty "str")) tNil)))) (tOp (rEqD K) (tVar 0) (tVar 1))))
 tNext)
 (tRet (tAndV (tOp rEq (tCB (rLenSeq K) (tCons (tVar 0) tNil)) (tCB (rLenSeq K) (tCons (tVar 1) tNil))) (tCB (rAll K) (tCons (tLc (RZ.iZipA K (tCons (tVar 0) (tCons (tVar 1) tNil))) (gTup K 2 (gCons (gName 2) (gCons (gName 3) gNil))) tYes (tCall spR [] E0 (tCons (tVar 2) (tCons (tVar 3) tNil))) [2, 3]) tNil)))))))

theorem len_law_same {K : PySem.W.Frag} {n : Nat} : ∀ vs H Q E, spn_law_same K n vs H Q E → vs.length = ["a", "b"].length := by
  rintro vs H Q E ⟨_, _, _, _, rfl, _⟩; rfl
theorem shaped_flat {d : PyData} (h : okD d = true) (h1 : isDL d = false) (h2 : isDT d = false) : SeqAt.shaped d = true := by
  cases d with
  | none | bool _ | int _ => rfl
  | str x => unfold SeqAt.shaped; rw [show PyData.canLay0 (.str x) = true from h]; rfl
  | list _ => cases h1
  | tuple _ => cases h2
  | dict _ => cases h
theorem pure_gen_same {K : PySem.W.Frag} {spR : Sp} {vs : List V} {H : Hp} {Q : VK} {x y : V} {d e : PyData} (ev : vs = [x, y]) (hx : Dp K H x d) (hy : Dp K H y e) (od : okD d = true) (oe : okD e = true) (k : ∀ H', Same H H' → Q (.bl (sameD d e)) H')
    (hR : ∀ (x y : V) (d' e' : PyData) (H : Hp) (Q : VK) (E : XK), Dp K H x d' → Dp K H y e' → okD d' = true → okD e' = true → e'.depth < e.depth → (∀ H', Same H H' → Q (.bl (sameD d' e')) H') → spR [x, y] H Q E) :
    t_law_same K spR { nx := fun _ H' => Q .non H', rt := Q } (start N_law_same vs) H := by
  subst ev
  have F : sameD d e = false → Q (.bl false) H := fun z => z ▸ k H (Same.refl H)
  unfold t_law_same
  walk_at "xs"
  refine isiD_bool hx ?_
  walk_at "xs"
  refine isiD_bool hy ?_
  walk_at "xs"
  walk_at "if"
  · rename_i c
    walk_at "xs"
    exact F (by cases d <;> cases e <;> simp_all [sameD, isDB])
  rename_i c1
  walk_at "xs"
  refine isiD_int hx ?_
  walk_at "xs"
  refine isiD_int hy ?_
  walk_at "xs"
  walk_at "if"
  · rename_i c
    walk_at "xs"
    exact F (by cases d <;> cases e <;> simp_all [sameD, isDI])
  rename_i c2
  walk_at "xs"
  refine isiD_list hx ?_
  walk_at "xs"
  refine isiD_list hy ?_
  walk_at "xs"
  walk_at "if"
  · rename_i c
    walk_at "xs"
    exact F (by cases d <;> cases e <;> simp_all [sameD, isDL])
  rename_i c3
  walk_at "xs"
  refine isiD_tuple hx ?_
  walk_at "xs"
  refine isiD_tuple hy ?_
  walk_at "xs"
  walk_at "if"
  · rename_i c
    walk_at "xs"
    exact F (by cases d <;> cases e <;> simp_all [sameD, isDT])
  rename_i c4
  walk_at "xs"
  refine isiD_list hy ?_
  walk_at "xs"
  -- both sequences: the end
  have seq : ∀ {a b : Addr} {xs ys : List V} {ds es : List PyData}, x = .ref a → y = .ref b → (SqL K H a xs ∧ SqL K H b ys ∨ SqT K H a xs ∧ SqT K H b ys) → DpAll K H xs ds → DpAll K H ys es → okL ds = true → okL es = true → es.length ≤ 1000 → PyData.depthAll es < e.depth → sameD d e = sameL ds es →
      (tRet (tAndV (tOp rEq (tCB (rLenSeq K) (tCons (tVar 0) tNil)) (tCB (rLenSeq K) (tCons (tVar 1) tNil))) (tCB (rAll K) (tCons (tLc (RZ.iZipA K (tCons (tVar 0) (tCons (tVar 1) tNil))) (gTup K 2 (gCons (gName 2) (gCons (gName 3) gNil))) tYes (tCall spR [] E0 (tCons (tVar 2) (tCons (tVar 3) tNil))) [2, 3]) tNil)))) { nx := fun _ H' => Q .non H', rt := Q } (start N_law_same [x, y]) H := by
    intro a b xs ys ds es ea eb hs ha hb oa ob hl hdep hsm
    subst ea; subst eb
    walk_at "xs"
    have l1 := dpAll_len ha
    have l2 := dpAll_len hb
    have hlen1 : ∀ (Q : VK), Q (.int xs.length) H → rLenSeq K [.ref a] H Q := fun Q q => hs.elim (fun h => x_lenL h.1 q) (fun h => x_lenT h.1 q)
    have hlen2 : ∀ (Q : VK), Q (.int ys.length) H → rLenSeq K [.ref b] H Q := fun Q q => hs.elim (fun h => x_lenL h.2 q) (fun h => x_lenT h.2 q)
    refine hlen1 _ ?_
    walk_at "xs"
    refine hlen2 _ ?_
    walk_at "xs"
    walk_at "if"
    · rename_i c
      have c' : xs.length = ys.length := by omega
      walk_at "xs"
      have body : ∀ (i : Nat) (v : V) (Hc H' : Hp) (A : Addr), H A = none → i < xs.length → LcF H A (fun i => some (V.bl (sameD (ds.getD i .none) (es.getD i .none)))) i Hc → (∃ x y, xs[i]? = some x ∧ ys[i]? = some y ∧ Pair x y v Hc H') →
          (gTup K 2 (gCons (gName 2) (gCons (gName 3) gNil))) v (wipe (start N_law_same [.ref a, .ref b]) [2, 3]) H' fun σ2 H2 => wipe σ2 [2, 3] = wipe (start N_law_same [.ref a, .ref b]) [2, 3] ∧ tYes σ2 H2 fun b H3 =>
            if b = true then (tCall spR [] E0 (tCons (tVar 2) (tCons (tVar 3) tNil))) σ2 H3 fun y H4 => ∃ acc, H4 A = some (.lst acc) ∧ acc.length < sizeLine ∧ LcF H A (fun i => some (V.bl (sameD (ds.getD i .none) (es.getD i .none)))) (i + 1) (upd H4 A (.lst (acc ++ [y]))) else LcF H A (fun i => some (V.bl (sameD (ds.getD i .none) (es.getD i .none)))) (i + 1) H3 := by
        intro i v Hc H' A hA hi lc hit
        obtain ⟨x', y', ex, ey, T, rfl, nT, sT, hT, _⟩ := hit
        obtain ⟨d', ed, hd'⟩ := dpAll_get ha ex
        obtain ⟨e', ee, he'⟩ := dpAll_get hb ey
        have gd : ds.getD i .none = d' := by rw [List.getD_eq_getElem?_getD, ed]; rfl
        have ge : es.getD i .none = e' := by rw [List.getD_eq_getElem?_getD, ee]; rfl
        have ss := lc.s.trans sT
        refine x_gtup (SqT.of hT) rfl ?_
        walk_at "xs"
        refine x_wipe rfl ?_
        walk_at "xs"
        refine hR x' y' d' e' H' _ _ (dp_same ss hd') (dp_same ss he') (okL_get oa ed) (okL_get ob ee) (Nat.lt_of_le_of_lt (depth_get ee) hdep) fun H4 s4 => ?_
        exact lc.keep hA (sT.trans s4) (by rw [gd, ge]) (by omega)
      have fin : ∀ (H' : Hp) (A : Addr), Same H H' → H' A = some (.lst ((List.range xs.length).filterMap (fun i => some (V.bl (sameD (ds.getD i .none) (es.getD i .none)))))) → rAll K [.ref A] H' Q := by
        intro H' A s o
        refine ⟨A, (List.range ds.length).map (fun i => sameD (ds.getD i .none) (es.getD i .none)), rfl, SqL.of ?_, ?_⟩
        · rw [o, l1, List.map_map, List.filterMap_eq_map']
          rfl
        · rw [List.all_map]
          have e1 : (List.range ds.length).all (id ∘ fun i => sameD (ds.getD i .none) (es.getD i .none)) = sameD d e := by
            rw [hsm, ← sameL_all ds es (by omega)]; rfl
          rw [e1]
          exact k H' s
      refine ⟨a, b, xs, ys, rfl, ?_⟩
      rcases hs with hs | hs
      · refine .inl ⟨hs.1, hs.2, fun A hA => ?_⟩
        refine lc_flat (fun i => some (V.bl (sameD (ds.getD i .none) (es.getD i .none)))) (turnsZ c') (fun H' s => ⟨s.seq hs.1, s.seq hs.2⟩) hA (fun i v Hc H' hi lc hit => body i v Hc H' A hA hi lc hit) (fun H' s o => ?_)
        walk_at "xs"
        exact fin H' A s o
      · refine .inr ⟨hs.1, hs.2, fun A hA => ?_⟩
        refine lc_flat (fun i => some (V.bl (sameD (ds.getD i .none) (es.getD i .none)))) (turnsZT c') (fun H' s => ⟨seqT_same s hs.1, seqT_same s hs.2⟩) hA (fun i v Hc H' hi lc hit => body i v Hc H' A hA hi lc hit) (fun H' s o => ?_)
        walk_at "xs"
        exact fin H' A s o
    · rename_i c
      have c' : ds.length ≠ es.length := by omega
      exact F (by rw [hsm]; exact sameL_len ds es c')
  walk_at "if"
  · rename_i c5
    have c5' : isDL e = false := by simpa using c5
    walk_at "xs"
    refine isiD_tuple hy ?_
    walk_at "xs"
    walk_at "if"
    · rename_i c6
      have c6' : isDT e = false := by simpa using c6
      have d1 : isDL d = false := by simpa [c5'] using c3
      have d2 : isDT d = false := by simpa [c6'] using c4
      walk_at "xs"
      refine isiD_str hx ?_
      walk_at "xs"
      refine isiD_str hy ?_
      walk_at "xs"
      walk_at "if"
      · rename_i c7
        walk_at "xs"
        refine ⟨d, e, hx, hy, shaped_flat od d1 d2, shaped_flat oe c5' c6', ?_⟩
        have q : PyData.eqv d e = sameD d e := by cases d <;> cases e <;> simp_all [sameD, isDB, isDI, isDS, isDL, isDT, PyData.eqv, okD]
        rw [q]; exact k H (Same.refl H)
      · rename_i c7
        exact F (by cases d <;> cases e <;> simp_all [sameD, isDS])
    · rename_i c6
      have c6' : isDT e = true := by simpa using c6
      have d2 : isDT d = true := by simpa [c6'] using c4
      cases e with
      | tuple es =>
        cases d with
        | tuple ds =>
          obtain ⟨a, xs, ea, ha, hxs⟩ := dp_tup hx
          obtain ⟨b, ys, eb, hb, hys⟩ := dp_tup hy
          simp only [okD, Bool.and_eq_true, decide_eq_true_eq] at od oe
          exact seq ea eb (.inr ⟨ha, hb⟩) hxs hys od.2 oe.2 oe.1 (Nat.lt_succ_self _) rfl
        | _ => cases d2
      | _ => cases c6'
  · rename_i c5
    have c5' : isDL e = true := by simpa using c5
    have d2 : isDL d = true := by simpa [c5'] using c3
    refine x_iteF ?_
    cases e with
    | list es =>
      cases d with
      | list ds =>
        obtain ⟨a, xs, ea, ha, hxs⟩ := dp_lst hx
        obtain ⟨b, ys, eb, hb, hys⟩ := dp_lst hy
        simp only [okD, Bool.and_eq_true, decide_eq_true_eq] at od oe
        exact seq ea eb (.inl ⟨ha, hb⟩) hxs hys od.2 oe.2 oe.1 (Nat.lt_succ_self _) rfl
      | _ => cases d2
    | _ => cases c5'
theorem pure0_law_same {K : PySem.W.Frag} {vs : List V} {H : Hp} {Q : VK} {E : XK} (h : spn_law_same K 0 vs H Q E) : t_law_same K (fun _ _ _ _ => False) { nx := fun _ H' => Q .non H', rt := Q } (start N_law_same vs) H := by
  obtain ⟨x, y, d, e, ev, hx, hy, od, oe, hd, k⟩ := h
  exact pure_gen_same ev hx hy od oe k fun _ _ _ _ _ _ _ _ _ _ _ z => absurd z (by omega)
theorem pureS_law_same {K : PySem.W.Frag} {n : Nat} {vs : List V} {H : Hp} {Q : VK} {E : XK} (h : spn_law_same K (n + 1) vs H Q E) : t_law_same K (spn_law_same K n) { nx := fun _ H' => Q .non H', rt := Q } (start N_law_same vs) H := by
  obtain ⟨x, y, d, e, ev, hx, hy, od, oe, hd, k⟩ := h
  exact pure_gen_same ev hx hy od oe k fun x y d' e' H Q E h1 h2 o1 o2 z q => ⟨x, y, d', e', rfl, h1, h2, o1, o2, by omega, q⟩

end Su
namespace Su
open PySem L2
local macro_rules | `(tactic| walk_at "side") => `(tactic| first | assumption | (show (0 : Int) < _; omega) | (show (0 : Int) ≤ _; omega) | (show (0 : Int) < _; split <;> omega) | (show _ ∨ _; omega) | (show _ ∧ _; omega) | exact ⟨by decide, by decide, by decide⟩ | exact ⟨by first | assumption | omega, by first | assumption | omega⟩)
local macro_rules | `(tactic| walk_at "xs") => `(tactic| repeat walk_at "x")
local macro_rules | `(tactic| walk_at "if") => `(tactic| first | with_reducible refine Su.x_iteD (fun c => ?_) (fun c => ?_) | with_reducible refine Su.x_iteN (fun c => ?_) (fun c => ?_) | with_reducible refine Su.x_ite (fun c => ?_) (fun c => ?_))

/-! windows by index, lists of numbers as data -/
section
variable {K : PySem.W.Frag} {H : Hp} {Q : VK} {a t p : Addr} {i : Int} {v w : V} {r : List V}
end
end Su
namespace Su
open PySem L2
local macro_rules | `(tactic| walk_at "side") => `(tactic| first | assumption | (show (0 : Int) < _; omega) | (show (0 : Int) ≤ _; omega) | (show (0 : Int) < _; split <;> omega) | (show _ ∨ _; omega) | (show _ ∧ _; omega) | exact ⟨by decide, by decide, by decide⟩ | exact ⟨by first | assumption | omega, by first | assumption | omega⟩)
local macro_rules | `(tactic| walk_at "xs") => `(tactic| repeat walk_at "x")
local macro_rules | `(tactic| walk_at "if") => `(tactic| first | with_reducible refine Su.x_iteD (fun c => ?_) (fun c => ?_) | with_reducible refine Su.x_iteN (fun c => ?_) (fun c => ?_) | with_reducible refine Su.x_ite (fun c => ?_) (fun c => ?_))

/-! what walks over windows share -/
section
variable {K : PySem.W.Frag} {H : Hp} {Q : VK} {p : Addr} {i : Nat} {row : List Nat}
end
end Su
namespace Su
open PySem L2
local macro_rules | `(tactic| walk_at "side") => `(tactic| first | assumption | (show (0 : Int) < _; omega) | (show (0 : Int) ≤ _; omega) | (show (0 : Int) < _; split <;> omega) | (show _ ∨ _; omega) | (show _ ∧ _; omega) | exact ⟨by decide, by decide, by decide⟩ | exact ⟨by first | assumption | omega, by first | assumption | omega⟩)
local macro_rules | `(tactic| walk_at "xs") => `(tactic| repeat walk_at "x")
local macro_rules | `(tactic| walk_at "if") => `(tactic| first | with_reducible refine Su.x_iteD (fun c => ?_) (fun c => ?_) | with_reducible refine Su.x_iteN (fun c => ?_) (fun c => ?_) | with_reducible refine Su.x_ite (fun c => ?_) (fun c => ?_))

/-! texts by their signs -/
abbrev rJoin (K : PySem.W.Frag) : V → List V → Hp → VK → Prop := fun x xs H Q => ∃ a p, ∃ ys : List Str, x = .str a ∧ xs = [.ref p] ∧ (SqL K H p (ys.map V.str) ∨ SqT K H p (ys.map V.str)) ∧
      (ys.map (·.length)).sum + ys.length * a.length ≤ 16777216 ∧ Q (.str (Txt.join a ys)) H
abbrev rSplit : V → List V → Hp → VK → Prop := fun x xs H Q => ∃ a b, x = .str a ∧ xs = [.str b] ∧ (b.length == 0) = false ∧ a.length + 2 ≤ sizeLine ∧ rNewStrs (Txt.split a b) H Q
abbrev rCatS : R2 := fun x y H Q => ∃ i j, x = .str i ∧ y = .str j ∧ i.length + j.length ≤ sizeLine ∧ Q (.str (i ++ j)) H
abbrev vS (w : List Nat) : V := .str (SX.S w)
section
variable {K : PySem.W.Frag} {σ : St} {H : Hp} {Q : VK} {to te : TE} {p : Addr}
theorem x_m1 {r : V → List V → Hp → VK → Prop} (h : to σ H fun x H1 => (∃ a, x = .str a) ∧ te σ H1 fun y H2 => r x [y] H2 Q) : tM1 r to te σ H Q := h
theorem x_strE {a : Str} {P : Prop} (h : P) : (∃ b, V.str a = .str b) ∧ P := ⟨⟨a, rfl⟩, h⟩
theorem inV_str (w : List Nat) : ∀ ws : List (List Nat), inV (vS w) (ws.map vS) = decide (w ∈ ws)
  | [] => rfl
  | x :: ws => by
    show (eqV (vS x) (vS w) || inV (vS w) (ws.map vS)) = _
    rw [inV_str w ws]
    by_cases c : w = x
    · subst c; simp [eqV]
    · have c' : ¬ SX.S x = SX.S w := fun e => c (SX.S_inj e).symm
      have : eqV (vS x) (vS w) = false := by simp [eqV, c']
      rw [this]
      simp [c]
theorem flat_str : ∀ ws : List (List Nat), (ws.map vS).all flatV = true
  | [] => rfl
  | x :: ws => by
    show (flatV (vS x) && (ws.map vS).all flatV) = true
    rw [flat_str ws]; rfl
theorem x_inS {w : List Nat} {ws : List (List Nat)} (e : SqL K H p (ws.map vS)) (h : Q (.bl (decide (w ∈ ws))) H) : rIn K false (vS w) (.ref p) H Q := ⟨p, _, rfl, .inl e, rfl, flat_str ws, by rw [if_neg Bool.false_ne_true, inV_str]; exact h⟩
theorem x_ixS {a : List Nat} {i : Int} {c : Nat} (hl : a.length ≤ 100000) (e : atI a i = some c) (h : Q (vS [c]) H) : rIxS (vS a) (.int i) H Q := ⟨SX.S a, i, c, rfl, rfl, by rw [SX.S_len]; exact Nat.le_of_lt (small hl), e, h⟩
theorem x_slTo {a : List Nat} {i : Int} (hl : a.length ≤ 100000) (h0 : 0 ≤ i) (h : Q (vS (a.take i.toNat)) H) : C8.rSlX (vS a) none (some i) H Q := ⟨SX.S a, rfl, by rw [SX.S_len]; exact Nat.le_of_lt (small hl), by rw [SX.slice_to h0]; exact h⟩
theorem x_slFrom {a : List Nat} {i : Int} (hl : a.length ≤ 100000) (h0 : 0 ≤ i) (h : Q (vS (a.drop i.toNat)) H) : C8.rSlX (vS a) (some i) none H Q := ⟨SX.S a, rfl, by rw [SX.S_len]; exact Nat.le_of_lt (small hl), by rw [SX.slice_from h0]; exact h⟩
theorem x_catS {a b : List Nat} (hl : a.length + b.length ≤ 100000) (h : Q (vS (a ++ b)) H) : rCatS (vS a) (vS b) H Q := ⟨SX.S a, SX.S b, rfl, rfl, by rw [SX.S_len, SX.S_len]; exact Nat.le_of_lt (small hl), by rw [SX.S_cat]; exact h⟩
theorem sum_le {l : List Nat} {m : Nat} (h : ∀ x ∈ l, x ≤ m) : l.sum ≤ l.length * m := by
  induction l with
  | nil => exact Nat.zero_le _
  | cons x l ih =>
    rw [List.sum_cons, List.length_cons, Nat.add_mul, Nat.one_mul]
    have := ih fun y hy => h y (List.mem_cons_of_mem _ hy)
    have := h x List.mem_cons_self
    omega
/-- sep.join of short texts -/
theorem x_join {a : List Nat} {ys : List (List Nat)} {m : Nat} (e : SqL K H p (ys.map vS)) (hm : ∀ y ∈ ys, y.length ≤ m) (hs : ys.length * m + ys.length * a.length ≤ 16777216) (h : Q (vS (TL.joinL a ys)) H) : rJoin K (vS a) [.ref p] H Q := by
  refine ⟨SX.S a, p, ys.map SX.S, rfl, rfl, .inl ?_, ?_, ?_⟩
  · rw [List.map_map]; exact e
  · rw [SX.lens, List.length_map, SX.S_len]
    have := sum_le (l := ys.map (·.length)) (m := m) (fun x hx => by
      obtain ⟨y, hy, rfl⟩ := List.mem_map.mp hx
      exact hm y hy)
    rw [List.length_map] at this
    omega
  · rw [SX.join_S]; exact h
end
theorem joinL_nil : ∀ ys : List (List Nat), TL.joinL [] ys = ys.flatten
  | [] => rfl
  | [x] => by simp [TL.joinL]
  | x :: y :: r => by
    have := joinL_nil (y :: r)
    show x ++ ([] ++ TL.joinL [] (y :: r)) = _
    rw [this]; simp
/-- 1 to 12 small letters -/
structure NameOk (w : List Nat) : Prop where
  lo : 1 ≤ w.length
  hi : w.length ≤ 12
  ok : ∀ c ∈ w, 97 ≤ c ∧ c ≤ 122
def lets : List Nat := (List.range 26).map (97 + ·)
theorem lets_str : ("abcdefghijklmnopqrstuvwxyz" : Str) = SX.S lets := by decide +kernel
theorem lets_at (i : Int) : atI lets (i % 26) = some (97 + (i % 26).toNat) := by
  have h1 := Int.emod_nonneg i (show (26 : Int) ≠ 0 by decide)
  have h2 := Int.emod_lt_of_pos i (show (0 : Int) < 26 by decide)
  rw [at_get (xs := lets) (d := 0) h1 (by show _ < ((26 : Nat) : Int); exact h2), List.getD_eq_getElem?_getD, lets, List.getElem?_map, List.getElem?_range (by omega)]
  rfl
theorem nodup_subG {α : Type} [DecidableEq α] : ∀ {l m : List α}, l.Nodup → (∀ x ∈ l, x ∈ m) → l.length ≤ m.length
  | [], m, _, _ => Nat.zero_le _
  | x :: l, m, h, k => by
    have hx := k x List.mem_cons_self
    have h1 := List.nodup_cons.mp h
    have := nodup_subG (l := l) (m := m.erase x) h1.2 fun y hy => (List.mem_erase_of_ne (fun (e : y = x) => h1.1 (e ▸ hy))).mpr (k y (List.mem_cons_of_mem _ hy))
    rw [List.length_erase_of_mem hx] at this
    have := List.length_pos_of_mem hx
    rw [List.length_cons]; omega

end Su
namespace Su
open PySem L2
local macro_rules | `(tactic| walk_at "side") => `(tactic| first | assumption | (show (0 : Int) < _; omega) | (show (0 : Int) ≤ _; omega) | (show (0 : Int) < _; split <;> omega) | (show _ ∨ _; omega) | (show _ ∧ _; omega) | exact ⟨by decide, by decide, by decide⟩ | exact ⟨by first | assumption | omega, by first | assumption | omega⟩)
local macro_rules | `(tactic| walk_at "xs") => `(tactic| repeat walk_at "x")
local macro_rules | `(tactic| walk_at "if") => `(tactic| first | with_reducible refine Su.x_iteD (fun c => ?_) (fun c => ?_) | with_reducible refine Su.x_iteN (fun c => ?_) (fun c => ?_) | with_reducible refine Su.x_ite (fun c => ?_) (fun c => ?_))

/-! lists by names -/
section
variable {α β : Type}
def lookN (l : List (List Nat × α)) (w : List Nat) : Option α := (l.find? fun p => decide (p.1 = w)).map (·.2)
def putN (l : List (List Nat × α)) (w : List Nat) (a : α) : List (List Nat × α) :=
  if (l.any fun p => decide (p.1 = w)) = true then l.map (fun p => if p.1 = w then (p.1, a) else p) else l ++ [(w, a)]
def mapN (f : α → β) (l : List (List Nat × α)) : List (List Nat × β) := l.map fun p => (p.1, f p.2)
abbrev keysN (l : List (List Nat × α)) : List (List Nat) := l.map (·.1)
theorem lookN_cons (p : List Nat × α) (l : List (List Nat × α)) (w : List Nat) : lookN (p :: l) w = if p.1 = w then some p.2 else lookN l w := by
  unfold lookN
  rw [List.find?_cons]
  by_cases c : p.1 = w <;> simp [c]
theorem lookN_some {l : List (List Nat × α)} {w : List Nat} {a : α} (h : lookN l w = some a) : (w, a) ∈ l := by
  unfold lookN at h
  obtain ⟨p, h1, h2⟩ := Option.map_eq_some_iff.mp h
  have := List.find?_some h1
  have m := List.mem_of_find?_eq_some h1
  obtain ⟨k, v⟩ := p
  simp at this h2
  rw [← this, ← h2]; exact m
theorem lookN_none {l : List (List Nat × α)} {w : List Nat} : lookN l w = none ↔ w ∉ keysN l := by
  induction l with
  | nil => simp [lookN]
  | cons p l ih =>
    rw [lookN_cons]
    by_cases c : p.1 = w
    · simp [c]
    · rw [if_neg c, ih]
      have : ¬ w = p.1 := fun e => c e.symm
      simp [this]
theorem lookN_isSome {l : List (List Nat × α)} {w : List Nat} : (lookN l w).isSome = decide (w ∈ keysN l) := by
  cases h : lookN l w with
  | none => have := lookN_none.mp h; simp only [Option.isSome_none]; exact (decide_eq_false this).symm
  | some a =>
    have : w ∈ keysN l := by
      refine Classical.byContradiction fun c => ?_
      rw [lookN_none.mpr c] at h; cases h
    simp only [Option.isSome_some]; exact (decide_eq_true this).symm
theorem lookN_mapN (f : α → β) (l : List (List Nat × α)) (w : List Nat) : lookN (mapN f l) w = (lookN l w).map f := by
  induction l with
  | nil => rfl
  | cons p l ih =>
    show lookN ((p.1, f p.2) :: mapN f l) w = _
    rw [lookN_cons, lookN_cons, ih]
    by_cases c : p.1 = w <;> simp [c]
end
/-! lists that grow strictly -/
/-! nets of debts -/
end Su
namespace Su
open PySem L2
local macro_rules | `(tactic| walk_at "side") => `(tactic| first | assumption | (show (0 : Int) < _; omega) | (show (0 : Int) ≤ _; omega) | (show (0 : Int) < _; split <;> omega) | (show _ ∨ _; omega) | (show _ ∧ _; omega) | exact ⟨by decide, by decide, by decide⟩ | exact ⟨by first | assumption | omega, by first | assumption | omega⟩)
local macro_rules | `(tactic| walk_at "xs") => `(tactic| repeat walk_at "x")
local macro_rules | `(tactic| walk_at "if") => `(tactic| first | with_reducible refine Su.x_iteD (fun c => ?_) (fun c => ?_) | with_reducible refine Su.x_iteN (fun c => ?_) (fun c => ?_) | with_reducible refine Su.x_ite (fun c => ?_) (fun c => ?_))

/-! dicts by names; the heap without some places -/
def nk (w : List Nat) : Key := .inr (SX.S w)
theorem nk_inj {a b : List Nat} (h : nk a = nk b) : a = b := SX.S_inj (Sum.inr.inj h)
def kvN (l : List (List Nat × V)) : List (Key × V) := l.map fun p => (nk p.1, p.2)
theorem valV_kvN (l : List (List Nat × V)) (w : List Nat) : valV (kvN l) (nk w) = lookN l w := by
  induction l with
  | nil => rfl
  | cons p l ih =>
    rw [lookN_cons]
    by_cases c : p.1 = w
    · rw [if_pos c]
      show valV ((nk p.1, p.2) :: kvN l) (nk w) = _
      rw [valV_pos (by rw [c])]
    · rw [if_neg c, ← ih]
      exact valV_neg (p := (nk p.1, p.2)) fun e => c (nk_inj e)
theorem putK_kvN (l : List (List Nat × V)) (w : List Nat) (v : V) : putK (kvN l) (nk w) v = kvN (putN l w v) := by
  have e : ((kvN l).any fun kv => decide (kv.1 = nk w)) = l.any fun p => decide (p.1 = w) := by
    unfold kvN
    rw [List.any_map]
    congr 1
    funext p
    show decide (nk p.1 = nk w) = decide (p.1 = w)
    by_cases c : p.1 = w
    · rw [c, decide_eq_true rfl, decide_eq_true rfl]
    · rw [decide_eq_false c, decide_eq_false fun e => c (nk_inj e)]
  unfold putK putN
  rw [e]
  split
  · unfold kvN
    rw [List.map_map, List.map_map]
    apply List.map_congr_left
    intro p _
    show (if nk p.1 = nk w then (nk p.1, v) else (nk p.1, p.2)) = _
    by_cases c : p.1 = w
    · simp [c]
    · have : ¬ nk p.1 = nk w := fun e => c (nk_inj e)
      simp [c, this]
  · unfold kvN; simp
theorem kvN_len (l : List (List Nat × V)) : (kvN l).length = l.length := List.length_map ..
section
variable {K : PySem.W.Frag} {σ : St} {H H' : Hp} {Q : VK} {D : Ends} {td ty tv tx : TE} {a : Addr}
def AlD (Q : VK) (H : Hp) : Prop := ∀ p, H p = none → Q (.ref p) (upd H p (.dK []))
theorem x_dnew (h : AlD Q H) : tDNewK σ H Q := h
theorem x_dput (h : tv σ H fun v H1 => td σ H1 fun x H2 => ty σ H2 fun y H3 => ∃ a H4, x = .ref a ∧ DPut H3 a y v H4 ∧ D.nx σ H4) : sDPut td ty tv D σ H := h
theorem x_dgetE (h : td σ H fun x H1 => ty σ H1 fun y H2 => ∃ a v, x = .ref a ∧ DGet H2 a y (some v) ∧ Q v H2) : tDGet td ty σ H Q := h
theorem x_dget2 (h : td σ H fun x H1 => ∃ a, x = .ref a ∧ IsD H1 a ∧ ty σ H1 fun y H2 => tx σ H2 fun z H3 => ∃ o, DGet H3 a y o ∧ Q (o.getD z) H3) : tDGet2 td ty tx σ H Q := h
theorem x_din (h : ty σ H fun y H1 => td σ H1 fun x H2 => ∃ a o, x = .ref a ∧ DGet H2 a y o ∧ Q (.bl o.isSome) H2) : tDIn ty td σ H Q := h
theorem x_dnin (h : ty σ H fun y H1 => td σ H1 fun x H2 => ∃ a o, x = .ref a ∧ DGet H2 a y o ∧ Q (.bl (!o.isSome)) H2) : tDNotIn ty td σ H Q := h
theorem get_N {l : List (List Nat × V)} {w : List Nat} (e : H a = some (.dK (kvN l))) : DGet H a (vS w) (lookN l w) := by
  rw [← valV_kvN]; exact DGet.k (k := nk w) e
theorem put_N {l : List (List Nat × V)} {w : List Nat} {v : V} (e : H a = some (.dK (kvN l))) (hl : l.length ≤ 100000) : DPut H a (vS w) v (upd H a (.dK (kvN (putN l w v)))) := by
  rw [← putK_kvN]; exact DPut.k (k := nk w) e (small (by rw [kvN_len]; exact hl))
end
/-! the heap without some places -/
section
variable {H H' : Hp} {A : List Addr} {a b : Addr} {o : HO}
end
/-! nets and transfers as data -/
section
variable {K : PySem.W.Frag} {H : Hp} {v : V}
end
end Su
namespace Su
open PySem L2
local macro_rules | `(tactic| walk_at "side") => `(tactic| first | assumption | (show (0 : Int) < _; omega) | (show (0 : Int) ≤ _; omega) | (show (0 : Int) < _; split <;> omega) | (show _ ∨ _; omega) | (show _ ∧ _; omega) | exact ⟨by decide, by decide, by decide⟩ | exact ⟨by first | assumption | omega, by first | assumption | omega⟩)
local macro_rules | `(tactic| walk_at "xs") => `(tactic| repeat walk_at "x")
local macro_rules | `(tactic| walk_at "if") => `(tactic| first | with_reducible refine Su.x_iteD (fun c => ?_) (fun c => ?_) | with_reducible refine Su.x_iteN (fun c => ?_) (fun c => ?_) | with_reducible refine Su.x_ite (fun c => ?_) (fun c => ?_))

/-! transfers: the plain law -/
end Su
namespace Su
open PySem L2
local macro_rules | `(tactic| walk_at "side") => `(tactic| first | assumption | (show (0 : Int) < _; omega) | (show (0 : Int) ≤ _; omega) | (show (0 : Int) < _; split <;> omega) | (show _ ∨ _; omega) | (show _ ∧ _; omega) | exact ⟨by decide, by decide, by decide⟩ | exact ⟨by first | assumption | omega, by first | assumption | omega⟩)
local macro_rules | `(tactic| walk_at "xs") => `(tactic| repeat walk_at "x")
local macro_rules | `(tactic| walk_at "if") => `(tactic| first | with_reducible refine Su.x_iteD (fun c => ?_) (fun c => ?_) | with_reducible refine Su.x_iteN (fun c => ?_) (fun c => ?_) | with_reducible refine Su.x_ite (fun c => ?_) (fun c => ?_))

/-! good data: may be compared, are like themselves -/
mutual
theorem okD_lay : ∀ d : PyData, okD d = true → PyData.canLay0 d = true
  | .none, _ => rfl
  | .bool _, _ => rfl
  | .int _, _ => rfl
  | .str _, h => h
  | .list xs, h => by
    simp only [okD, Bool.and_eq_true] at h
    show PyData.canLayAll0 xs = true
    exact okL_lay xs h.2
  | .tuple xs, h => by
    simp only [okD, Bool.and_eq_true] at h
    show PyData.canLayAll0 xs = true
    exact okL_lay xs h.2
  | .dict _, h => by simp [okD] at h
theorem okL_lay : ∀ ds : List PyData, okL ds = true → PyData.canLayAll0 ds = true
  | [], _ => rfl
  | d :: ds, h => by
    simp only [okL, Bool.and_eq_true] at h
    show (PyData.canLay0 d && PyData.canLayAll0 ds) = true
    rw [okD_lay d h.1, okL_lay ds h.2]; rfl
end
mutual
theorem eqv_self : ∀ d : PyData, okD d = true → PyData.eqv d d = true
  | .none, _ => rfl
  | .bool b, _ => by simp [PyData.eqv]
  | .int b, _ => by simp [PyData.eqv]
  | .str b, _ => by simp [PyData.eqv]
  | .list xs, h => by
    simp only [okD, Bool.and_eq_true] at h
    show PyData.eqvAll xs xs = true
    exact eqvAll_self xs h.2
  | .tuple xs, h => by
    simp only [okD, Bool.and_eq_true] at h
    show PyData.eqvAll xs xs = true
    exact eqvAll_self xs h.2
  | .dict _, h => by simp [okD] at h
theorem eqvAll_self : ∀ ds : List PyData, okL ds = true → PyData.eqvAll ds ds = true
  | [], _ => rfl
  | d :: ds, h => by
    simp only [okL, Bool.and_eq_true] at h
    show (PyData.eqv d d && PyData.eqvAll ds ds) = true
    rw [eqv_self d h.1, eqvAll_self ds h.2]; rfl
end
structure GoodD (n : Nat) (d : PyData) : Prop where
  ok : okD d = true
  dep : d.depth ≤ n
theorem okL_all {ds : List PyData} (h : ∀ d ∈ ds, okD d = true) : okL ds = true := by
  induction ds with
  | nil => rfl
  | cons d ds ih =>
    simp only [okL, Bool.and_eq_true]
    exact ⟨h d List.mem_cons_self, ih fun x hx => h x (List.mem_cons_of_mem _ hx)⟩
theorem dep_all {ds : List PyData} {n : Nat} (h : ∀ d ∈ ds, d.depth ≤ n) : PyData.depthAll ds ≤ n := by
  induction ds with
  | nil => exact Nat.zero_le _
  | cons d ds ih =>
    show max d.depth (PyData.depthAll ds) ≤ n
    exact Nat.max_le.mpr ⟨h d List.mem_cons_self, ih fun x hx => h x (List.mem_cons_of_mem _ hx)⟩
theorem GoodD.lst {ds : List PyData} {n : Nat} (hl : ds.length ≤ 1000) (h : ∀ d ∈ ds, GoodD n d) : GoodD (n + 1) (.list ds) := by
  refine ⟨?_, ?_⟩
  · simp only [okD, Bool.and_eq_true, decide_eq_true_eq]
    exact ⟨hl, okL_all fun d hd => (h d hd).ok⟩
  · show PyData.depthAll ds + 1 ≤ n + 1
    have := dep_all fun d hd => (h d hd).dep
    omega
theorem GoodD.tup {ds : List PyData} {n : Nat} (hl : ds.length ≤ 1000) (h : ∀ d ∈ ds, GoodD n d) : GoodD (n + 1) (.tuple ds) := by
  refine ⟨?_, ?_⟩
  · simp only [okD, Bool.and_eq_true, decide_eq_true_eq]
    exact ⟨hl, okL_all fun d hd => (h d hd).ok⟩
  · show PyData.depthAll ds + 1 ≤ n + 1
    have := dep_all fun d hd => (h d hd).dep
    omega
theorem GoodD.int (n : Nat) (i : Int) : GoodD n (.int i) := ⟨rfl, Nat.zero_le _⟩
theorem GoodD.bool (n : Nat) (i : Bool) : GoodD n (.bool i) := ⟨rfl, Nat.zero_le _⟩
theorem GoodD.non (n : Nat) : GoodD n .none := ⟨rfl, Nat.zero_le _⟩
theorem strOk_of {w : List Nat} (h : ∀ c ∈ w, c < 256) : PyData.strOk (SX.S w) = true := by
  unfold PyData.strOk
  rw [← Array.all_toList, List.all_eq_true]
  intro c hc
  have := h c hc
  simp; omega
theorem GoodD.str (n : Nat) {w : List Nat} (h : ∀ c ∈ w, c < 256) : GoodD n (.str (SX.S w)) := ⟨strOk_of h, Nat.zero_le _⟩
theorem NameOk.low {w : List Nat} (h : NameOk w) : ∀ c ∈ w, c < 256 := fun c hc => by have := h.ok c hc; omega
theorem GoodD.shaped {n : Nat} {d : PyData} (h : GoodD n d) (hn : n ≤ 64) : SeqAt.shaped d = true := by
  unfold SeqAt.shaped
  rw [okD_lay d h.ok, decide_eq_true (Nat.le_trans h.dep hn)]; rfl
section
variable {K : PySem.W.Frag} {H : Hp} {Q : VK} {x y : V} {d : PyData} {n : Nat}
theorem x_neSelf (g : GoodD n d) (hn : n ≤ 64) (hx : Dp K H x d) (hy : Dp K H y d) (h : Q (.bl false) H) : rNeD K x y H Q := ⟨d, d, hx, hy, g.shaped hn, g.shaped hn, by rw [eqv_self d g.ok]; exact h⟩
theorem x_sameSelf {E : XK} (g : GoodD n d) (hn : n ≤ 7) (hx : Dp K H x d) (hy : Dp K H y d) (h : ∀ H', Same H H' → Q (.bl true) H') : sp_law_same K [x, y] H Q E :=
  ⟨x, y, d, d, rfl, hx, hy, g.ok, g.ok, Nat.le_trans g.dep hn, fun H' s => by rw [sameD_refl d g.ok]; exact h H' s⟩
end
/-! numbers of the places where something holds -/
theorem at_upd {H : Hp} {a p : Addr} {o o' : HO} (h : H a = some o) (n : p ≠ a) : upd H p o' a = some o := by rw [upd_ne (fun e => n e.symm)]; exact h

end Su
namespace Su
open PySem L2
local macro_rules | `(tactic| walk_at "side") => `(tactic| first | assumption | (show (0 : Int) < _; omega) | (show (0 : Int) ≤ _; omega) | (show (0 : Int) < _; split <;> omega) | (show _ ∨ _; omega) | (show _ ∧ _; omega) | exact ⟨by decide, by decide, by decide⟩ | exact ⟨by first | assumption | omega, by first | assumption | omega⟩)
local macro_rules | `(tactic| walk_at "xs") => `(tactic| repeat walk_at "x")
local macro_rules | `(tactic| walk_at "if") => `(tactic| first | with_reducible refine Su.x_iteD (fun c => ?_) (fun c => ?_) | with_reducible refine Su.x_iteN (fun c => ?_) (fun c => ?_) | with_reducible refine Su.x_ite (fun c => ?_) (fun c => ?_))

/-! a written dict of the module, its keys and values texts -/
abbrev rNotInKD (K : PySem.W.Frag) (d : Addr) : R2 := fun x y H Q => ∃ (z : Str) (r : Option Value), x = .str z ∧ y = .ref d ∧ PySem.W.nsIn K d z = some r ∧ Q (.bl (!r.isSome)) H
abbrev rIxKD (K : PySem.W.Frag) (d : Addr) : R2 := fun x y H Q => ∃ (z : Str) (u0 : Value) (v0 : V), x = .ref d ∧ y = .str z ∧ PySem.W.nsIn K d z = some (some u0) ∧ RelV v0 u0 ∧ Q v0 H
theorem ix_kd {X : Cx} {d : Addr} {es : Array DictEntry} {n : Nat} (D : KDict X.K X.w d es n) : IxR X (rIxKD X.K d) := by
  intro value slice pins s σ H x y v u Q I rx ry h hs
  obtain ⟨z, u0, v0, rfl, rfl, e, r, q⟩ := h
  exact ix_kdict value slice pins s σ H (.ref d) (.str z) v u Q I rx ry ⟨d, z, v0, rfl, rfl, ⟨es, n, u0, D.at_, D.lit, e, r⟩, q⟩ hs
section
variable {K : PySem.W.Frag} {d : Addr} {kvs : List (Str × Str)} {H : Hp} {Q : VK} {z y : Str}
theorem x_notInKD (T : TbS K d kvs) (h : Q (.bl (!decide (∃ p ∈ kvs, p.1 = z))) H) : rNotInKD K d (.str z) (.ref d) H Q := by
  by_cases c : ∃ p ∈ kvs, p.1 = z
  · obtain ⟨p, hp, rfl⟩ := c
    obtain ⟨t, e⟩ := T.yes p hp
    refine ⟨p.1, _, rfl, rfl, e, ?_⟩
    rw [decide_eq_true ⟨p, hp, rfl⟩] at h; exact h
  · refine ⟨z, _, rfl, rfl, T.no z fun p hp e => c ⟨p, hp, e⟩, ?_⟩
    rw [decide_eq_false c] at h; exact h
theorem x_ixKD (T : TbS K d kvs) (hm : (z, y) ∈ kvs) (h : Q (.str y) H) : rIxKD K d (.ref d) (.str z) H Q := by
  obtain ⟨t, e⟩ := T.yes _ hm
  exact ⟨z, _, .str y, rfl, rfl, e, ⟨t, rfl⟩, h⟩
end
/-- str(x), x a whole number or a text -/
abbrev rStrA : CR := fun xs H Q => (∃ i, xs = [.int i] ∧ i.natAbs.log2 < 1920 ∧ Q (.str (toString i)) H) ∨ ∃ a, xs = [.str a] ∧ Q (.str a) H
theorem call_strA {X : Cx} : CallR X (.type "str") rStrA := by
  intro pins s σ H xs us Q I r h
  rcases h with h | h
  · exact call_str_int pins s σ H xs us Q I r h
  · exact SkE.call_str_str pins s σ H xs us Q I r h

end Su
namespace Su
open PySem L2
local macro_rules | `(tactic| walk_at "side") => `(tactic| first | assumption | (show (0 : Int) < _; omega) | (show (0 : Int) ≤ _; omega) | (show (0 : Int) < _; split <;> omega) | (show _ ∨ _; omega) | (show _ ∧ _; omega) | exact ⟨by decide, by decide, by decide⟩ | exact ⟨by first | assumption | omega, by first | assumption | omega⟩)
local macro_rules | `(tactic| walk_at "xs") => `(tactic| repeat walk_at "x")
local macro_rules | `(tactic| walk_at "if") => `(tactic| first | with_reducible refine Su.x_iteD (fun c => ?_) (fun c => ?_) | with_reducible refine Su.x_iteN (fun c => ?_) (fun c => ?_) | with_reducible refine Su.x_ite (fun c => ?_) (fun c => ?_))

/-! zip of a text and a list -/
section
open PySem.Spec PyProof.Rows
def ItzS (K : PySem.W.Frag) (x : Str) (b : Addr) : It :=
  ⟨fun i H => ∃ (ys : List V) (c : Nat) (y : V), SqL K H b ys ∧ x.cps[i]? = some c ∧ ys[i]? = some y,
    fun i H v H' => ∃ (T : Addr) (c : Nat) (y : V), v = .ref T ∧ H T = none ∧ H' = upd H T (.tup [.str ⟨#[c]⟩, y]) ∧ x.cps[i]? = some c ∧ ∀ ys, SqL K H b ys → ys[i]? = some y,
    fun i H => ∃ ys : List V, SqL K H b ys ∧ i ≤ x.cps.size ∧ i ≤ ys.length ∧ (i = x.cps.size ∨ i = ys.length)⟩
/-- what holds of each of five -/
theorem five {q : Addr → Prop} {a1 a2 a3 a4 a5 : Addr} (h1 : q a1) (h2 : q a2) (h3 : q a3) (h4 : q a4) (h5 : q a5) : ∀ c ∈ [a1, a2, a3, a4, a5], q c := by
  simp only [List.forall_mem_cons]
  exact ⟨h1, h2, h3, h4, h5, nofun⟩
theorem turn_zipS {P : Program} {w : World} {K : PySem.W.Frag} {elts : List Expr} {kk : Nat} {tpos : Pos} {x : Str} {t : Tok} {b z TI TO i1 i2 : Addr} (S : ZipSep2 z TI TO i1 i2 [i1] [i2, b]) (hb : b ≠ i2) :
    Turn P w K (.Tuple elts kk tpos) (ItzS K x b) [z, TI, TO, i1, i2] z (fun i h => IsZip h z TI TO .none ∧ IsTupOf2 h TI (.ref i1) (.ref i2) ∧ (∃ x y, IsTupOf2 h TO x y) ∧ h.IsStrIter i1 (strIterType x) x t i ∧ h.IsListIter i2 b i) where
  mem := by simp
  obj := fun i h ⟨o1, o2, ⟨_, _, o3⟩, ⟨o4, e4, _, d4⟩, ⟨o5, e5, _, d5⟩⟩ =>
    five ⟨_, o1, nofun⟩ ⟨_, o2, nofun⟩ ⟨_, o3, nofun⟩ ⟨o4, e4, fun v z => by rw [d4] at z; cases z⟩ ⟨o5, e5, fun v z => by rw [d5] at z; cases z⟩
  keep := fun i h h' st k => by
    obtain ⟨hz, hTI, ⟨x, y, hTO⟩, ⟨o1, e1, r1⟩, h2⟩ := st
    exact ⟨k z (by simp) _ hz, k TI (by simp) _ hTI, ⟨x, y, k TO (by simp) _ hTO⟩, ⟨o1, k i1 (by simp) o1 e1, r1⟩, h2.at fun o q => k i2 (by simp) o q⟩
  item := by
    rintro X rfl rfl rfl hc i pins s σ H E I hf ⟨hz, hTI, ⟨x0, y0, hTO⟩, h1, h2⟩ ⟨ys, c, y, hqy, hx, hy⟩
    obtain ⟨its2, rv2, p2, -⟩ := I.list hqy
    have ⟨u2, hu2, ru2⟩ := rv2.get hy
    have hh : X.A.in1.handled = none := I.ok.hd hc
    have D1 := Draws.text (prog := X.prog) (w := X.w) hh i1 x t
    have D2 := Draws.list (prog := X.prog) (w := X.w) hh i2 b hb its2.toArray
    have hzl := Heap.lt_size hz
    have hi1 : i < x.cps.size := by
      refine Classical.byContradiction fun q => ?_
      rw [Array.getElem?_eq_none (by omega)] at hx; cases hx
    have hi2 : i < its2.toArray.size := by
      refine Classical.byContradiction fun q => ?_
      have : its2.length ≤ i := by simpa using q
      rw [List.getElem?_eq_none this] at hu2; cases hu2
    refine wpAny_pyNext_zipD2_item S D1 D2 hz hTI hTO h1 ⟨h2, p2.isList⟩ hi1 hi2 fun v1 v2 h' tk y1 y2 z' TO' st1' st2' hT hsz hk => ?_
    obtain ⟨c', u, ec, rfl⟩ := y1
    obtain rfl : c = c' := by rw [hx] at ec; exact Option.some.inj ec
    obtain rfl : u2 = v2 := by
      have : its2[i]? = some v2 := by simpa using y2
      rw [hu2] at this; exact Option.some.inj this
    refine ⟨_, rfl, wpAny_letOwnedTupleGo_zip (s := { s with heap := h', toks := tk }) z' fun h'' z'' sb => ?_⟩
    have hT2 : h''.get? s.heap.objs.size = some { cls := .type "tuple", data := .seq #[.str ⟨#[c]⟩ u, u2] } := (sb.2 _ (Nat.ne_of_gt hzl)).trans hT
    have new : ObjOk X.prog X.w (upd H s.heap.objs.size (.tup [.str ⟨#[c]⟩, y])) h'' s.heap.objs.size (.tup [.str ⟨#[c]⟩, y]) :=
      ⟨by show 2 ≤ sizeLine; decide, [.str ⟨#[c]⟩ u, u2], .cons ⟨u, rfl⟩ (.cons ru2 .nil), ⟨_, hT2, rfl, _, rfl⟩⟩
    have I1 : L2.Inv X pins σ (upd H s.heap.objs.size (.tup [.str ⟨#[c]⟩, y])) { s with heap := h'', toks := tk } :=
      I.turnedNew (t' := tk) (ch := [z, TI, TO, i1, i2]) (fun c o hb q => (sb.2 c (fun q' => hb (by simp [q']))).trans (hk c o (fun q' => hb (by simp [q'])) (fun q' => hb (by simp [q'])) (fun q' => hb (by simp [q'])) (fun q' => hb (by simp [q'])) q)) hf (Nat.le_refl _) new
    have zi1 : i1 ≠ z := fun q => S.zf1 (by simp [q])
    have zi2 : i2 ≠ z := fun q => S.zf2 (by simp [q])
    refine ⟨.ref s.heap.objs.size, _, I1, rfl, ⟨_, c, y, rfl, I.hok.fresh (Nat.le_refl _), rfl, hx, fun l hl => by rw [I.list_inj hl hqy]; exact hy⟩, ⟨z'', ?_, ⟨.str ⟨#[c]⟩ u, u2, ?_⟩, ?_, ?_⟩, fun c hcm => ?_⟩
    · exact (sb.2 _ S.TIz).trans (hk _ _ S.TIz S.TITO S.TIi1 S.TIi2 hTI)
    · exact (sb.2 _ S.TOz).trans TO'
    · obtain ⟨o1, e1, r1⟩ := st1'
      exact ⟨o1, (sb.2 _ zi1).trans e1, r1⟩
    · exact st2'.1.at fun o q => (sb.2 _ zi2).trans q
    · have below := five (q := (· < s.heap.objs.size)) hzl (Heap.lt_size hTI) (Heap.lt_size hTO) (h1.elim fun _ r => Heap.lt_size r.1) (h2.elim fun _ r => Heap.lt_size r.1)
      rw [upd_ne (Nat.ne_of_lt (below c hcm))]
      exact (hf c hcm).1
  done := by
    rintro X rfl rfl rfl hc i pins s σ H E I hf ⟨hz, hTI, ⟨x0, y0, hTO⟩, h1, h2⟩ ⟨ys, hqy, l1, l2, hend⟩
    obtain ⟨its2, rv2, p2, -⟩ := I.list hqy
    have hl2 := rv2.length
    have hh : X.A.in1.handled = none := I.ok.hd hc
    have D1 := Draws.text (prog := X.prog) (w := X.w) hh i1 x t
    have D2 := Draws.list (prog := X.prog) (w := X.w) hh i2 b hb its2.toArray
    have hs : its2.toArray.size = ys.length := by simp; omega
    exact wpAny_pyNext_zipD2_end S D1 D2 hz hTI hTO h1 ⟨h2, p2.isList⟩ l1 (by omega) (by omega) fun h' tk hk => ⟨rfl, I.turnedL (t' := tk) (ch := [z, TI, TO, i1, i2]) (fun c o nin => by
      simp only [List.mem_cons, List.not_mem_nil, or_false, not_or] at nin
      exact hk c o nin.1 nin.2.2.1 nin.2.2.2.1 nin.2.2.2.2) hf⟩
  self := fun _ _ _ _ _ st => wpAny_pyIter_zip st.1
def iZipS (K : PySem.W.Frag) (ta : TA) : TI := fun σ H R => ta σ H fun vs H1 => ∃ (x : Str) (b : Addr) (ys : List V), vs = [.str x, .ref b] ∧ SqL K H1 b ys ∧ R (ItzS K x b) H1
theorem zs_apart (n b : Nat) (h : b < n) : ZipSep2 (n + 4) (n + 2) (n + 3) n (n + 1) [n] [n + 1, b] := by
  constructor <;> simp <;> (intro e; have e' : @Eq Nat _ _ := e; omega)
theorem pi_zipS {X : Cx} {e e2 : Expr} {ta : TA} {p pos tpos : Pos} {elts : List Expr} {kk : Nat} (hg : Gl X "zip") (hm : X.mg "zip" = none) (ha : PA X [e, e2] ta)
    (hs : starEach [e, e2] X.env = (false, eval e X.env) :: starEach [e2] X.env := by rfl) (hpl : (backTo pos (starEach [e2] X.env)).any (·.1) = false := by rfl) :
    PI X (.Tuple elts kk tpos) (.Call (.Name "zip" p) [e, e2] [] pos) (iZipS X.K ta) := by
  refine ⟨fun pins s σ H R I h => Call_ (ld_blt I hg hm PyProof.Rows.boot_zip (PyProof.Rows.callWith_type1 (thn (ha.run pos pins s σ H _ I h) fun us s1 z => ?_) hs hpl))⟩
  obtain ⟨vs, H1, I1, r1, x, b, ys, ex, hqy, q⟩ := z
  subst ex
  cases r1 with
  | cons r rr =>
    cases rr with
    | cons r' rr =>
      cases rr
      obtain ⟨t, rfl⟩ := r
      cases r'
      obtain ⟨its2, rv2, p2, -⟩ := I1.list hqy
      have lb := p2.lt
      refine zip_begins2 (begins_text x t) (begins_list b its2.toArray) trivial p2.isList fun h' hz hTI hTO h1 h2 hsz hk => wpAny_pyIter_zip hz ?_
      have I2 : L2.Inv X pins σ H1 { s1 with heap := h' } := I1.kept (t' := s1.toks) hk
      have S := zs_apart s1.heap.objs.size b lb
      refine ⟨s1.heap.objs.size + 4, [s1.heap.objs.size + 4, s1.heap.objs.size + 2, s1.heap.objs.size + 3, s1.heap.objs.size, s1.heap.objs.size + 1], _, _, H1, rfl, I2, turn_zipS (t := t) S (Nat.ne_of_lt (Nat.lt_succ_of_lt lb)), ⟨hz, hTI, ⟨_, _, hTO⟩, ⟨_, h1, rfl, rfl⟩, ⟨_, h2, rfl, rfl⟩⟩, fun c hcm => ?_, q⟩
      have above := five (q := (s1.heap.objs.size ≤ ·)) (Nat.le_add_right _ 4) (Nat.le_add_right _ 2) (Nat.le_add_right _ 3) (Nat.le_refl _) (Nat.le_succ _) c hcm
      exact I1.fpOk above (I1.hok.fresh above)
end
section
variable {K : PySem.W.Frag} {σ : St} {H : Hp} {ta : TA} {R : It → Hp → Prop} {H1 : Hp}
theorem x_iZipS (h : ta σ H fun vs H1 => ∃ (x : Str) (b : Addr) (ys : List V), vs = [.str x, .ref b] ∧ SqL K H1 b ys ∧ R (ItzS K x b) H1) : iZipS K ta σ H R := h
/-- text and list of one length -/
theorem turnsZS {x : List Nat} {b : Addr} {ys : List V} (hl : x.length = ys.length) : Turns (ItzS K (SX.S x) b) x.length (fun H => SqL K H b ys) (fun i v H H' => ∃ c y, x[i]? = some c ∧ ys[i]? = some y ∧ Pair (vS [c]) y v H H') where
  go := fun i H hi q => ⟨ys, x[i], ys[i]'(by omega), q, by show x.toArray[i]? = _; simp [hi], List.getElem?_eq_getElem (by omega)⟩
  yld := fun i H v H' _ q y => by
    obtain ⟨T, c, y, rfl, hT, rfl, f1, f2⟩ := y
    have f1 : x.toArray[i]? = some c := f1
    exact ⟨c, y, by simpa using f1, f2 ys q, pair_mk hT⟩
  stop := fun H q => ⟨ys, q, by show _ ≤ x.toArray.size; simp, by omega, .inl (by show _ = x.toArray.size; simp)⟩
end

end Su
namespace Su
open PySem L2
local macro_rules | `(tactic| walk_at "side") => `(tactic| first | assumption | (show (0 : Int) < _; omega) | (show (0 : Int) ≤ _; omega) | (show (0 : Int) < _; split <;> omega) | (show _ ∨ _; omega) | (show _ ∧ _; omega) | exact ⟨by decide, by decide, by decide⟩ | exact ⟨by first | assumption | omega, by first | assumption | omega⟩)
local macro_rules | `(tactic| walk_at "xs") => `(tactic| repeat walk_at "x")
local macro_rules | `(tactic| walk_at "if") => `(tactic| first | with_reducible refine Su.x_iteD (fun c => ?_) (fun c => ?_) | with_reducible refine Su.x_iteN (fun c => ?_) (fun c => ?_) | with_reducible refine Su.x_ite (fun c => ?_) (fun c => ?_))

/-! deeds as words -/
def letB (c : Nat) : Bool := decide (97 ≤ c) && decide (c ≤ 122)
def figB (c : Nat) : Bool := decide (48 ≤ c) && decide (c ≤ 57)
def nameB (w : List Nat) : Bool := (decide (1 ≤ w.length) && decide (w.length ≤ 12)) && w.all letB
def numB (w : List Nat) : Bool := ((decide (1 ≤ w.length) && decide (w.length ≤ 12)) && w.all figB) && (decide (w = [48]) || !decide (w.head? = some 48))
def numV (w : List Nat) : Int := ((NumText.digitsVal w : Nat) : Int)
def figs : List Nat := (List.range 10).map (48 + ·)
theorem figs_str : ("0123456789" : Str) = SX.S figs := by decide +kernel
theorem mem_lets (c : Nat) : decide (c ∈ lets) = letB c := by
  unfold letB lets
  rw [← Bool.decide_and]
  apply decide_eq_decide.mpr
  rw [List.mem_map]
  exact ⟨fun ⟨i, hi, e⟩ => by have := List.mem_range.mp hi; omega, fun h => ⟨c - 97, List.mem_range.mpr (by omega), by omega⟩⟩
theorem mem_figs (c : Nat) : decide (c ∈ figs) = figB c := by
  unfold figB figs
  rw [← Bool.decide_and]
  apply decide_eq_decide.mpr
  rw [List.mem_map]
  exact ⟨fun ⟨i, hi, e⟩ => by have := List.mem_range.mp hi; omega, fun h => ⟨c - 48, List.mem_range.mpr (by omega), by omega⟩⟩
theorem nameB_ok {w : List Nat} : nameB w = true ↔ NameOk w := by
  unfold nameB
  simp only [Bool.and_eq_true, decide_eq_true_eq, List.all_eq_true]
  constructor
  · rintro ⟨⟨h1, h2⟩, h3⟩
    exact ⟨h1, h2, fun c hc => by have := h3 c hc; unfold letB at this; simpa using this⟩
  · rintro ⟨h1, h2, h3⟩
    exact ⟨⟨h1, h2⟩, fun c hc => by have := h3 c hc; unfold letB; simpa using this⟩
/-! the words of the kinds -/
theorem s_enter : ("enter" : Str) = SX.S kEnter := by decide +kernel
theorem s_part : ("part" : Str) = SX.S kPart := by decide +kernel
theorem s_bring : ("bring" : Str) = SX.S kBring := by decide +kernel
theorem s_take : ("take" : Str) = SX.S kTake := by decide +kernel
theorem s_found : ("found" : Str) = SX.S kFound := by decide +kernel
theorem s_pay : ("pay" : Str) = SX.S kPay := by decide +kernel
theorem s_bid : ("bid" : Str) = SX.S kBid := by decide +kernel
theorem s_lay : ("lay" : Str) = SX.S kLay := by decide +kernel
theorem s_swap : ("swap" : Str) = SX.S kSwap := by decide +kernel
theorem s_close : ("close" : Str) = SX.S kClose := by decide +kernel
theorem s_plain : ("plain" : Str) = SX.S kPlain := by decide +kernel
theorem s_bids : ("bids" : Str) = SX.S kBids := by decide +kernel
theorem s_blank : (" " : Str) = SX.S [32] := by decide +kernel
theorem s_zero : ("0" : Str) = SX.S [48] := by decide +kernel
theorem s_n : ("n" : Str) = SX.S [110] := by decide +kernel
theorem s_c : ("c" : Str) = SX.S [99] := by decide +kernel
theorem shapes_has (w : List Nat) : decide (∃ p ∈ tb_SHAPES, p.1 = SX.S w) = (lookN shL w).isSome := by
  rw [lookN_isSome]
  apply decide_eq_decide.mpr
  unfold tb_SHAPES keysN
  constructor
  · rintro ⟨p, hp, e⟩
    obtain ⟨q, hq, rfl⟩ := List.mem_map.mp hp
    exact List.mem_map.mpr ⟨q, hq, SX.S_inj e⟩
  · intro h
    obtain ⟨q, hq, e⟩ := List.mem_map.mp h
    exact ⟨_, List.mem_map.mpr ⟨q, hq, rfl⟩, by show SX.S q.1 = SX.S w; rw [e]⟩
theorem shapes_at {w s : List Nat} (h : lookN shL w = some s) : (SX.S w, SX.S s) ∈ tb_SHAPES := List.mem_map.mpr ⟨(w, s), lookN_some h, rfl⟩
theorem sh_all {P : List Nat × List Nat → Bool} (h : shL.all P = true) {w s : List Nat} (e : lookN shL w = some s) : P (w, s) = true := List.all_eq_true.mp h _ (lookN_some e)
theorem sh_found {w s : List Nat} (e : lookN shL w = some s) : w ≠ kFound := by
  have := sh_all (P := fun p => decide (p.1 ≠ kFound)) (by decide +kernel) e
  simpa using this
theorem sh_len {w s : List Nat} (e : lookN shL w = some s) : (w.length ≤ 12 ∧ 1 ≤ w.length) ∧ (s.length ≤ 3 ∧ 1 ≤ s.length) := by
  have := sh_all (P := fun p => decide ((p.1.length ≤ 12 ∧ 1 ≤ p.1.length) ∧ (p.2.length ≤ 3 ∧ 1 ≤ p.2.length))) (by decide +kernel) e
  simpa using this
theorem sh_low {w s : List Nat} (e : lookN shL w = some s) : ∀ c ∈ w, 97 ≤ c ∧ c ≤ 122 := by
  have := sh_all (P := fun p => p.1.all letB) (by decide +kernel) e
  intro c hc
  have := List.all_eq_true.mp this c hc
  unfold letB at this
  simpa using this
/-! deeds -/
inductive Part where
  | n (w : List Nat)
  | c (i : Int)
abbrev Seat3 := List Nat × Int × Int
inductive Dd where
  | plain (k : List Nat) (ps : List Part)
  | found (name : List Nat) (stake : Int) (b : Bool) (seats : List Seat3)
def Part.d : Part → PyData
  | .n w => .str (SX.S w)
  | .c i => .int i
def Part.t : Part → List Nat
  | .n w => w
  | .c i => TL.numL i.toNat
def dSeat3 (s : Seat3) : PyData := .tuple [.str (SX.S s.1), .int s.2.1, .int s.2.2]
def Dd.d : Dd → PyData
  | .plain k ps => .tuple ((Part.n k :: ps).map Part.d)
  | .found name stake b seats => .tuple [.str (SX.S kFound), .str (SX.S name), .int stake, .bool b, .tuple (seats.map dSeat3)]
def sw3 (s : Seat3) : List (List Nat) := [s.1, TL.numL s.2.1.toNat, TL.numL s.2.2.toNat]
def Dd.words : Dd → List (List Nat)
  | .plain k ps => (Part.n k :: ps).map Part.t
  | .found name stake b seats => [kFound, name, TL.numL stake.toNat, if b = true then kBids else kPlain] ++ seats.flatMap sw3
def Dd.line (d : Dd) : List Nat := TL.joinL [32] d.words
def NumOk (i : Int) : Prop := 0 ≤ i ∧ i < 1000000000000
structure SeatOk3 (s : Seat3) : Prop where
  n : NameOk s.1
  p : NumOk s.2.1
  w : NumOk s.2.2
def Part.Fits (k : Nat) : Part → Prop
  | .n w => k = 110 ∧ NameOk w
  | .c i => k = 99 ∧ NumOk i
inductive DdOk : Dd → Prop
  | plain {k : List Nat} {ps : List Part} {s : List Nat} (h : lookN shL k = some s) (hl : ps.length = s.length) (hp : ∀ (i : Nat) (p : Part), ps[i]? = some p → p.Fits (s.getD i 0)) : DdOk (.plain k ps)
  | found {name : List Nat} {stake : Int} {b : Bool} {seats : List Seat3} (hn : NameOk name) (hs : NumOk stake) (h1 : 1 ≤ seats.length) (h2 : seats.length ≤ 26) (hp : ∀ s ∈ seats, SeatOk3 s) : DdOk (.found name stake b seats)
theorem Part.Fits.le {k : Nat} {p : Part} (h : p.Fits k) : p.t.length ≤ 12 := by
  cases p with
  | n w => exact h.2.hi
  | c i =>
    obtain ⟨_, h0, h1⟩ := h
    exact TL.numL_len (by decide) (by show i.toNat < 10 ^ 12; omega)
theorem num12 {i : Int} (h : NumOk i) : (TL.numL i.toNat).length ≤ 12 := TL.numL_len (by decide) (by show i.toNat < 10 ^ 12; have := h.1; have := h.2; omega)
theorem numL_head {n : Nat} (h : 0 < n) : (TL.numL n).head? ≠ some 48 := by
  induction n using Nat.strongRecOn with
  | _ n ih =>
    by_cases c : n < 10
    · rw [TL.numL_lt c]
      simp; omega
    · rw [TL.numL_step (by omega)]
      have := ih (n / 10) (by omega) (by omega)
      have ne := TL.numL_ne (n / 10)
      cases e : TL.numL (n / 10) with
      | nil => exact absurd e ne
      | cons a l => rw [e] at this; simpa using this
theorem numL_figs (n : Nat) : (TL.numL n).all figB = true := by
  rw [List.all_eq_true]
  intro c hc
  have := TL.numL_digits n c hc
  unfold figB
  simpa using this
theorem numL_num {n : Nat} (h : n < 1000000000000) : numB (TL.numL n) = true := by
  unfold numB
  have h1 : 1 ≤ (TL.numL n).length := List.length_pos_iff.mpr (TL.numL_ne n)
  have h2 : (TL.numL n).length ≤ 12 := TL.numL_len (by decide) h
  rw [decide_eq_true h1, decide_eq_true h2, numL_figs]
  by_cases c : n = 0
  · subst c; rfl
  · have := numL_head (n := n) (by omega)
    simp [this]
theorem numV_num {i : Int} (h : 0 ≤ i) : numV (TL.numL i.toNat) = i := by
  unfold numV
  rw [TL.numL_val]; omega
theorem part_free {k : Nat} {p : Part} (h : p.Fits k) : 32 ∉ p.t := by
  cases p with
  | n w => exact fun z => by have := h.2.ok _ z; omega
  | c i => exact TL.numL_free (.inl (by decide))
theorem name_free {w : List Nat} (h : NameOk w) : 32 ∉ w := fun z => by have := h.ok _ z; omega
theorem DdOk.words_free {d : Dd} (h : DdOk d) : ∀ w ∈ d.words, 32 ∉ w := by
  cases h with
  | plain h hl hp =>
    intro w hw
    obtain ⟨p, hp', rfl⟩ := List.mem_map.mp hw
    rcases List.mem_cons.mp hp' with rfl | hm
    · exact fun z => by have := sh_low h _ z; omega
    · obtain ⟨i, hi⟩ := List.getElem?_of_mem hm
      exact part_free (hp i p hi)
  | found hn hs h1 h2 hp =>
    intro w hw
    rcases List.mem_append.mp hw with hw | hw
    · simp only [List.mem_cons, List.not_mem_nil, or_false] at hw
      rcases hw with rfl | rfl | rfl | rfl
      · decide
      · exact name_free hn
      · exact TL.numL_free (.inl (by decide))
      · split <;> decide
    · obtain ⟨s, hs', hm⟩ := List.mem_flatMap.mp hw
      have := hp s hs'
      unfold sw3 at hm
      simp only [List.mem_cons, List.not_mem_nil, or_false] at hm
      rcases hm with rfl | rfl | rfl
      · exact name_free this.n
      · exact TL.numL_free (.inl (by decide))
      · exact TL.numL_free (.inl (by decide))
theorem DdOk.words_ne (d : Dd) : d.words ≠ [] := by
  cases d <;> (unfold Dd.words; simp)
theorem DdOk.words_le {d : Dd} (h : DdOk d) : ∀ w ∈ d.words, w.length ≤ 12 := by
  cases h with
  | plain h hl hp =>
    intro w hw
    obtain ⟨p, hp', rfl⟩ := List.mem_map.mp hw
    rcases List.mem_cons.mp hp' with rfl | hm
    · exact (sh_len h).1.1
    · obtain ⟨i, hi⟩ := List.getElem?_of_mem hm
      exact (hp i p hi).le
  | found hn hs h1 h2 hp =>
    intro w hw
    rcases List.mem_append.mp hw with hw | hw
    · simp only [List.mem_cons, List.not_mem_nil, or_false] at hw
      rcases hw with rfl | rfl | rfl | rfl
      · decide
      · exact hn.hi
      · exact num12 hs
      · split <;> decide
    · obtain ⟨s, hs', hm⟩ := List.mem_flatMap.mp hw
      have := hp s hs'
      unfold sw3 at hm
      simp only [List.mem_cons, List.not_mem_nil, or_false] at hm
      rcases hm with rfl | rfl | rfl
      · exact this.n.hi
      · exact num12 this.p
      · exact num12 this.w
theorem flat3_len : ∀ l : List Seat3, (l.flatMap sw3).length = 3 * l.length
  | [] => rfl
  | s :: l => by rw [List.flatMap_cons, List.length_append, flat3_len l, List.length_cons]; show 3 + _ = _; omega
theorem DdOk.words_many {d : Dd} (h : DdOk d) : d.words.length ≤ 82 := by
  cases h with
  | plain h hl hp => unfold Dd.words; rw [List.length_map, List.length_cons]; have := (sh_len h).2; omega
  | found hn hs h1 h2 hp => unfold Dd.words; rw [List.length_append, flat3_len]; simp; omega
theorem join_le {m : Nat} : ∀ ws : List (List Nat), (∀ w ∈ ws, w.length ≤ m) → (TL.joinL [32] ws).length ≤ ws.length * (m + 1)
  | [], _ => Nat.zero_le _
  | [x], h => by have := h x List.mem_cons_self; simp [TL.joinL]; omega
  | x :: y :: r, h => by
    have ih := join_le (y :: r) fun w hw => h w (List.mem_cons_of_mem _ hw)
    have := h x List.mem_cons_self
    show (x ++ ([32] ++ TL.joinL [32] (y :: r))).length ≤ _
    rw [List.length_append, List.length_append, List.length_cons (a := x), Nat.add_mul]
    simp only [List.length_singleton]
    omega
theorem DdOk.line_le {d : Dd} (h : DdOk d) : d.line.length ≤ 1100 := by
  have h1 := join_le d.words h.words_le
  have h2 := h.words_many
  have := Nat.mul_le_mul_right (12 + 1) h2
  unfold Dd.line
  omega
theorem DdOk.split {d : Dd} (h : DdOk d) : TL.spl [32] 0 [] d.line = d.words := SX.spl_join (DdOk.words_ne d) h.words_free
theorem low_of {w : List Nat} (h : ∀ c ∈ w, 48 ≤ c ∧ c ≤ 57) : ∀ c ∈ w, c < 256 := fun c hc => by have := h c hc; omega
theorem join_low : ∀ ws : List (List Nat), (∀ w ∈ ws, ∀ c ∈ w, c < 256) → ∀ c ∈ TL.joinL [32] ws, c < 256
  | [], _, c, hc => nomatch hc
  | [x], h, c, hc => h x List.mem_cons_self c hc
  | x :: y :: r, h, c, hc => by
    have hc : c ∈ x ++ ([32] ++ TL.joinL [32] (y :: r)) := hc
    rcases List.mem_append.mp hc with hc | hc
    · exact h x List.mem_cons_self c hc
    · rcases List.mem_append.mp hc with hc | hc
      · cases List.mem_singleton.mp hc; decide
      · exact join_low (y :: r) (fun w hw => h w (List.mem_cons_of_mem _ hw)) c hc
theorem DdOk.words_low {d : Dd} (h : DdOk d) : ∀ w ∈ d.words, ∀ c ∈ w, c < 256 := by
  cases h with
  | plain h hl hp =>
    intro w hw
    obtain ⟨p, hp', rfl⟩ := List.mem_map.mp hw
    rcases List.mem_cons.mp hp' with rfl | hm
    · exact fun c z => by have := sh_low h _ z; omega
    · obtain ⟨i, hi⟩ := List.getElem?_of_mem hm
      have := hp i p hi
      cases p with
      | n w => exact this.2.low
      | c i => exact low_of fun c hc => TL.numL_digits _ c hc
  | found hn hs h1 h2 hp =>
    intro w hw
    rcases List.mem_append.mp hw with hw | hw
    · simp only [List.mem_cons, List.not_mem_nil, or_false] at hw
      rcases hw with rfl | rfl | rfl | rfl
      · decide
      · exact hn.low
      · exact low_of fun c hc => TL.numL_digits _ c hc
      · split <;> decide
    · obtain ⟨s, hs', hm⟩ := List.mem_flatMap.mp hw
      have := hp s hs'
      unfold sw3 at hm
      simp only [List.mem_cons, List.not_mem_nil, or_false] at hm
      rcases hm with rfl | rfl | rfl
      · exact this.n.low
      · exact low_of fun c hc => TL.numL_digits _ c hc
      · exact low_of fun c hc => TL.numL_digits _ c hc
theorem DdOk.line_low {d : Dd} (h : DdOk d) : ∀ c ∈ d.line, c < 256 := join_low _ h.words_low
theorem DdOk.good {d : Dd} (h : DdOk d) : GoodD 3 d.d := by
  cases h with
  | plain h hl hp =>
    refine .tup (by rw [List.length_map, List.length_cons]; have := (sh_len h).2; omega) fun x hx => ?_
    obtain ⟨p, hp', rfl⟩ := List.mem_map.mp hx
    rcases List.mem_cons.mp hp' with rfl | hm
    · exact .str _ fun c z => by have := sh_low h _ z; omega
    · obtain ⟨i, hi⟩ := List.getElem?_of_mem hm
      have := hp i p hi
      cases p with
      | n w => exact .str _ this.2.low
      | c i => exact .int _ _
  | found hn hs h1 h2 hp =>
    refine .tup (by simp) fun x hx => ?_
    simp only [List.mem_cons, List.not_mem_nil, or_false] at hx
    rcases hx with rfl | rfl | rfl | rfl | rfl
    · exact .str _ (by decide)
    · exact .str _ hn.low
    · exact .int _ _
    · exact .bool _ _
    · refine .tup (by rw [List.length_map]; omega) fun x hx => ?_
      obtain ⟨s, hs', rfl⟩ := List.mem_map.mp hx
      refine .tup (by simp) fun y hy => ?_
      simp only [List.mem_cons, List.not_mem_nil, or_false] at hy
      rcases hy with rfl | rfl | rfl
      · exact .str _ (hp s hs').n.low
      · exact .int _ _
      · exact .int _ _
/-! reading -/
def seatB3 (ws : List (List Nat)) (k : Nat) : Bool := (nameB (ws.getD (4 + 3 * k) []) && numB (ws.getD (4 + 3 * k + 1) [])) && numB (ws.getD (4 + 3 * k + 2) [])
def seatV3 (ws : List (List Nat)) (k : Nat) : Seat3 := (ws.getD (4 + 3 * k) [], numV (ws.getD (4 + 3 * k + 1) []), numV (ws.getD (4 + 3 * k + 2) []))
def readF (ws : List (List Nat)) : Option Dd :=
  if 7 ≤ ws.length ∧ ws.length % 3 = 1 ∧ (ws.getD 3 [] = kPlain ∨ ws.getD 3 [] = kBids) then
    if nameB (ws.getD 1 []) = true ∧ numB (ws.getD 2 []) = true ∧ (List.range ((ws.length - 4) / 3)).all (seatB3 ws) = true then
      some (.found (ws.getD 1 []) (numV (ws.getD 2 [])) (decide (ws.getD 3 [] = kBids)) ((List.range ((ws.length - 4) / 3)).map (seatV3 ws)))
    else none
  else none
def partB (s : List Nat) (ws : List (List Nat)) (i : Nat) : Bool := if s.getD i 0 = 110 then nameB (ws.getD (i + 1) []) else numB (ws.getD (i + 1) [])
def partV (s : List Nat) (ws : List (List Nat)) (i : Nat) : Part := if s.getD i 0 = 110 then .n (ws.getD (i + 1) []) else .c (numV (ws.getD (i + 1) []))
def readP (s : List Nat) (ws : List (List Nat)) : Option Dd :=
  if ws.length = s.length + 1 ∧ (List.range s.length).all (partB s ws) = true then some (.plain (ws.getD 0 []) ((List.range s.length).map (partV s ws))) else none
def readO (ws : List (List Nat)) : Option (List Nat) → Option Dd
  | none => none
  | some s => readP s ws
def readW (ws : List (List Nat)) : Option Dd := if ws.getD 0 [] = kFound then readF ws else readO ws (lookN shL (ws.getD 0 []))
theorem getD_app1 {α : Type} {l m : List α} {i : Nat} {d : α} (h : i < l.length) : (l ++ m).getD i d = l.getD i d := by
  rw [List.getD_eq_getElem?_getD, List.getD_eq_getElem?_getD, List.getElem?_append_left h]
theorem getD_app2 {α : Type} {l m : List α} {i : Nat} {d : α} (h : l.length ≤ i) : (l ++ m).getD i d = m.getD (i - l.length) d := by
  rw [List.getD_eq_getElem?_getD, List.getD_eq_getElem?_getD, List.getElem?_append_right h]
theorem flat3_at : ∀ (l : List Seat3) (k j : Nat), k < l.length → j < 3 → (l.flatMap sw3).getD (3 * k + j) [] = (sw3 (l.getD k ([], 0, 0))).getD j []
  | [], _, _, h, _ => absurd h (Nat.not_lt_zero _)
  | s :: l, 0, j, _, hj => by
    rw [List.flatMap_cons, getD_app1 (by show _ < 3; omega)]
    rw [show 3 * 0 + j = j by omega]; rfl
  | s :: l, k + 1, j, h, hj => by
    rw [List.flatMap_cons, getD_app2 (by show 3 ≤ _; omega)]
    have := flat3_at l k j (Nat.lt_of_succ_lt_succ h) hj
    rw [show 3 * (k + 1) + j - (sw3 s).length = 3 * k + j by show _ - 3 = _; omega, this]; rfl
theorem DdOk.read {d : Dd} (h : DdOk d) : readW d.words = some d := by
  cases h with
  | @plain k ps s h hl hp =>
    have w0 : (Dd.plain k ps).words.getD 0 [] = k := rfl
    have wi : ∀ i p, ps[i]? = some p → (Dd.plain k ps).words.getD (i + 1) [] = p.t := fun i p e => by
      show ((Part.n k :: ps).map Part.t).getD (i + 1) [] = _
      rw [List.map_cons, List.getD_cons_succ, List.getD_eq_getElem?_getD, List.getElem?_map, e]; rfl
    unfold readW
    rw [w0, if_neg (sh_found h), h]
    show readP s (Dd.plain k ps).words = _
    unfold readP
    have c1 : (Dd.plain k ps).words.length = s.length + 1 := by unfold Dd.words; rw [List.length_map, List.length_cons, hl]
    have key : ∀ i, i < s.length → partB s (Dd.plain k ps).words i = true ∧ some (partV s (Dd.plain k ps).words i) = ps[i]? := fun i hi => by
      have hi' : i < ps.length := by omega
      have e : ps[i]? = some ps[i] := List.getElem?_eq_getElem hi'
      have f := hp i _ e
      have w := wi i _ e
      rw [e]
      unfold partB partV
      rw [w]
      cases hq : ps[i] with
      | n w =>
        rw [hq] at f
        obtain ⟨f1, f2⟩ := f
        rw [if_pos f1, if_pos f1]
        exact ⟨nameB_ok.mpr f2, rfl⟩
      | c z =>
        rw [hq] at f
        obtain ⟨f1, f2⟩ := f
        rw [if_neg (by omega), if_neg (by omega)]
        exact ⟨numL_num (by have := f2.1; have := f2.2; omega), by show some (Part.c (numV (TL.numL z.toNat))) = _; rw [numV_num f2.1]⟩
    rw [if_pos ⟨c1, List.all_eq_true.mpr fun i hi => (key i (List.mem_range.mp hi)).1⟩, w0]
    congr 2
    apply List.ext_getElem?
    intro i
    by_cases hi : i < s.length
    · rw [List.getElem?_map, List.getElem?_range hi]
      exact (key i hi).2
    · rw [List.getElem?_eq_none (by rw [List.length_map, List.length_range]; omega), List.getElem?_eq_none (by omega)]
  | @found name stake b seats hn hs h1 h2 hp =>
    have wl : (Dd.found name stake b seats).words.length = 4 + 3 * seats.length := by unfold Dd.words; rw [List.length_append, flat3_len]; rfl
    have w0 : (Dd.found name stake b seats).words.getD 0 [] = kFound := rfl
    have w1 : (Dd.found name stake b seats).words.getD 1 [] = name := rfl
    have w2 : (Dd.found name stake b seats).words.getD 2 [] = TL.numL stake.toNat := rfl
    have w3 : (Dd.found name stake b seats).words.getD 3 [] = if b = true then kBids else kPlain := rfl
    have wk : ∀ k j, k < seats.length → j < 3 → (Dd.found name stake b seats).words.getD (4 + 3 * k + j) [] = (sw3 (seats.getD k ([], 0, 0))).getD j [] := fun k j hk hj => by
      unfold Dd.words
      rw [getD_app2 (by show 4 ≤ _; omega), show 4 + 3 * k + j - [kFound, name, TL.numL stake.toNat, if b = true then kBids else kPlain].length = 3 * k + j by show _ - 4 = _; omega]
      exact flat3_at seats k j hk hj
    unfold readW
    rw [w0, if_pos rfl]
    unfold readF
    rw [w1, w2, w3, wl, show (4 + 3 * seats.length - 4) / 3 = seats.length by omega]
    have ok : ∀ k, k < seats.length → seatB3 (Dd.found name stake b seats).words k = true ∧ seatV3 (Dd.found name stake b seats).words k = seats.getD k ([], 0, 0) := fun k hk => by
      have sk : SeatOk3 (seats.getD k ([], 0, 0)) := by
        rw [List.getD_eq_getElem?_getD, List.getElem?_eq_getElem hk]
        exact hp _ (List.getElem_mem hk)
      unfold seatB3 seatV3
      have e0 := wk k 0 hk (by decide)
      have e1 := wk k 1 hk (by decide)
      have e2 := wk k 2 hk (by decide)
      rw [show 4 + 3 * k + 0 = 4 + 3 * k by omega] at e0
      rw [e0, e1, e2]
      generalize seats.getD k ([], 0, 0) = s at sk
      obtain ⟨n, p, w⟩ := s
      show (nameB n && numB (TL.numL p.toNat) && numB (TL.numL w.toNat)) = true ∧ (n, numV (TL.numL p.toNat), numV (TL.numL w.toNat)) = _
      have q1 : 0 ≤ p := sk.p.1
      have q2 : p < 1000000000000 := sk.p.2
      have q3 : 0 ≤ w := sk.w.1
      have q4 : w < 1000000000000 := sk.w.2
      rw [nameB_ok.mpr sk.n, numL_num (by omega), numL_num (by omega), numV_num q1, numV_num q3]
      exact ⟨rfl, rfl⟩
    rw [if_pos ⟨by omega, by omega, by cases b <;> simp⟩, if_pos ⟨nameB_ok.mpr hn, numL_num (by have := hs.1; have := hs.2; omega), List.all_eq_true.mpr fun k hk => (ok k (List.mem_range.mp hk)).1⟩, numV_num hs.1]
    congr 2
    · cases b
      · exact decide_eq_false (by decide)
      · exact decide_eq_true rfl
    · apply List.ext_getElem
      · simp
      · intro k a1 a2
        rw [List.getElem_map, List.getElem_range, (ok k a2).2, List.getD_eq_getElem?_getD, List.getElem?_eq_getElem a2]; rfl
/-! steps -/
section
variable {K : PySem.W.Frag} {σ : St} {H : Hp} {Q : VK} {te : TE} {p : Addr}
theorem x_lenTx {w : List Nat} (hl : w.length ≤ 100000) (h : Q (.int (w.length : Nat)) H) : rLenStr [vS w] H Q := ⟨SX.S w, rfl, by rw [SX.S_len]; exact Nat.le_of_lt (small hl), by rw [SX.S_len]; exact h⟩
theorem x_iStr {R : It → Hp → Prop} (h : te σ H fun x H1 => ∃ z, x = .str z ∧ R (Its z) H1) : iStr te σ H R := h
theorem turnsS {w : List Nat} : Turns (Its (SX.S w)) w.length (fun _ => True) (fun i x H H' => H = H' ∧ ∃ c, w[i]? = some c ∧ x = vS [c]) where
  go := fun i H hi _ => by show i < w.toArray.size; simpa using hi
  yld := fun i H x H' _ _ y => by
    obtain ⟨e, c, hc, hx⟩ := y
    have hc : w.toArray[i]? = some c := hc
    exact ⟨e.symm, c, by simpa using hc, hx⟩
  stop := fun H _ => by show w.toArray.size ≤ _; simp
theorem x_inSg {c : Nat} {w : List Nat} (h : Q (.bl (decide (c ∈ w))) H) : rInS (vS [c]) (vS w) H Q := ⟨c, SX.S w, rfl, rfl, h⟩
theorem x_notInSg {c : Nat} {w : List Nat} (h : Q (.bl (!decide (c ∈ w))) H) : rNotInS (vS [c]) (vS w) H Q := ⟨c, SX.S w, rfl, rfl, h⟩
theorem dec_S {a b : List Nat} : decide (SX.S a = SX.S b) = decide (a = b) := decide_eq_decide.mpr ⟨SX.S_inj, fun e => by rw [e]⟩
theorem x_intTx {w : List Nat} (hd : w.all figB = true) (h1 : 1 ≤ w.length) (h2 : w.length ≤ 12) (h : Q (.int (numV w)) H) : rIntStr [vS w] H Q := ⟨SX.S w, numV w, rfl, SX.int_S hd (fun z => by rw [z] at h1; simp at h1) (by omega), by rw [SX.S_len]; omega, h⟩
theorem log_12 {n : Nat} (h : n < 1000000000000) : n.log2 < 1920 := by
  by_cases c : n = 0
  · subst c; decide
  · rw [Nat.log2_lt c]
    exact Nat.lt_of_lt_of_le h (Nat.le_trans (show 1000000000000 ≤ 2 ^ 40 by decide) (Nat.pow_le_pow_right (by decide) (by decide)))
theorem x_strInt {i : Int} (hi : NumOk i) (h : Q (vS (TL.numL i.toNat)) H) : rStrInt [.int i] H Q := by
  have h0 := hi.1
  have h1 := hi.2
  refine ⟨i, rfl, log_12 (by omega), ?_⟩
  have : (Str.ofString (toString i)) = SX.S (TL.numL i.toNat) := by
    rw [← SX.num_S, Int.toNat_of_nonneg h0]
  show Q (.str (Str.ofString (toString i))) H
  rw [this]; exact h
theorem x_strAI {i : Int} (hi : NumOk i) (h : Q (vS (TL.numL i.toNat)) H) : rStrA [.int i] H Q := .inl (x_strInt hi h)
theorem x_strAS {w : List Nat} (h : Q (vS w) H) : rStrA [vS w] H Q := .inr ⟨_, rfl, h⟩
theorem al_split {t : List Nat} (hl : t.length ≤ 100000) (h : ∀ p H', H p = none → Same H H' → H' p = some (.lst ((TL.spl [32] 0 [] t).map vS)) → Q (.ref p) H') : rSplit (vS t) [vS [32]] H Q := by
  refine ⟨SX.S t, SX.S [32], rfl, rfl, rfl, by rw [SX.S_len]; rw [sizeLine_eq]; omega, fun p n => h p _ n (same_new (Same.refl H) n) ?_⟩
  rw [upd_same, SX.split_S (by decide) (by decide), List.map_map]; rfl
theorem x_extend {a b : Addr} {xs zs : List V} (e : H a = some (.lst xs)) (e2 : H b = some (.lst zs)) (z : xs.length + zs.length ≤ 100000) (h : Q .non (upd H a (.lst (xs ++ zs)))) : rExtend (.ref a) [.ref b] H Q := ⟨a, b, xs, zs, rfl, rfl, e, e2, Nat.le_of_lt (small z), h⟩
theorem at_W {ws : List (List Nat)} {i : Int} (h0 : 0 ≤ i) (h1 : i < ws.length) : atI (ws.map vS) i = some (vS (ws.getD i.toNat [])) := by
  have h2 : i.toNat < ws.length := by omega
  rw [at_get (d := vS []) h0 (by rw [List.length_map]; exact h1), List.getD_eq_getElem?_getD, List.getD_eq_getElem?_getD, List.getElem?_map, List.getElem?_eq_getElem h2]
  rfl
theorem x_ixW {ws : List (List Nat)} {i : Int} (e : SqL K H p (ws.map vS)) (h0 : 0 ≤ i) (h1 : i < ws.length) (h : Q (vS (ws.getD i.toNat [])) H) : rIxL K (.ref p) (.int i) H Q := x_ixL e (at_W h0 h1) h
end

end Su
namespace Su
open PySem L2
local macro_rules | `(tactic| walk_at "side") => `(tactic| first | assumption | (show (0 : Int) < _; omega) | (show (0 : Int) ≤ _; omega) | (show (0 : Int) < _; split <;> omega) | (show _ ∨ _; omega) | (show _ ∧ _; omega) | exact ⟨by decide, by decide, by decide⟩ | exact ⟨by first | assumption | omega, by first | assumption | omega⟩)
local macro_rules | `(tactic| walk_at "x") => `(tactic| first | with_reducible refine Su.x_gname ?_ | with_reducible refine Su.x_ret ?_ | ((with_reducible show L2.tVar _ _ _ _); refine Su.x_var rfl ?_) | with_reducible refine Su.x_c ?_ | with_reducible refine Su.x_op ?_ | with_reducible refine Su.x_rI0 ?_ | with_reducible refine Su.x_iteF ?_ | with_reducible refine Su.x_iteT ?_ | with_reducible refine Su.x_isB' ?_ | with_reducible refine Su.x_andV ?_ | with_reducible refine Su.x_chain ?_ | with_reducible refine Su.x_nil ?_ | with_reducible refine Su.x_cons ?_ | with_reducible refine Su.x_cb ?_ | with_reducible refine Su.x_yes ?_ | with_reducible refine Su.x_lc ?_)
local macro_rules | `(tactic| walk_at "xs") => `(tactic| repeat walk_at "x")
local macro_rules | `(tactic| walk_at "if") => `(tactic| first | with_reducible refine Su.x_iteD (fun c => ?_) (fun c => ?_) | with_reducible refine Su.x_iteN (fun c => ?_) (fun c => ?_) | with_reducible refine Su.x_ite (fun c => ?_) (fun c => ?_))

/-! _law_is_name -/
def sp_law_is_name (K : PySem.W.Frag) : Sp := fun vs H Q _ => ∃ w : List Nat, vs = [vS w] ∧ w.length ≤ 100000 ∧ ∀ H', Same H H' → Q (.bl (nameB w)) H'
theorem x_all {K : PySem.W.Frag} {H : Hp} {Q : VK} {p : Addr} {l : List Bool} (e : SqL K H p (l.map V.bl)) (h : Q (.bl (l.all id)) H) : rAll K [.ref p] H Q := ⟨p, l, rfl, e, h⟩
theorem all_signs {B : Nat → Bool} {w : List Nat} : ((List.range w.length).filterMap fun i => some (V.bl (B (w.getD i 0)))) = (w.map B).map V.bl := by
  rw [List.filterMap_eq_map', List.map_map]
  apply List.ext_getElem
  · simp
  · intro i h1 h2
    have h3 : i < w.length := by simpa using h2
    simp [List.getD_eq_getElem?_getD, List.getElem?_eq_getElem h3]
theorem all_id {B : Nat → Bool} {w : List Nat} : (w.map B).all id = w.all B := by rw [List.all_map]; rfl
abbrev N_law_is_name : List Str := ["_law_word", "_law_sign"]
def t_law_is_name (K : PySem.W.Frag) : TS :=
 (tRet (tAndV (tChain rLe rLe (tC (.int 1)) (tCB rLenStr (tCons (tVar 0) tNil)) (tC (.int 12))) (tCB (rAll K) (tCons (tLc (iStr (tVar 0)) (gName 1) tYes (tOp rInS (tVar 1) (tC (.str "abcdefghijklmnopqrstuvwxyz"))) [1]) tNil))))

theorem len_law_is_name {K : PySem.W.Frag} : ∀ vs H Q E, sp_law_is_name K vs H Q E → vs.length = ["a"].length := by
  rintro vs H Q E ⟨_, rfl, _⟩; rfl
theorem pure_law_is_name {K : PySem.W.Frag} {vs : List V} {H : Hp} {Q : VK} {E : XK} (h : sp_law_is_name K vs H Q E) : t_law_is_name K { nx := fun _ H' => Q .non H', rt := Q } (start N_law_is_name vs) H := by
  obtain ⟨w, rfl, hl, k⟩ := h
  unfold nameB at k
  unfold t_law_is_name
  rw [lets_str]
  walk_at "xs"
  refine x_lenTx hl ?_
  walk_at "xs"
  walk_at "if"
  · rename_i c1
    walk_at "xs"
    rw [decide_eq_true (by omega : 1 ≤ w.length)] at k
    walk_at "if"
    · rename_i c2
      rw [decide_eq_true (by omega : w.length ≤ 12)] at k
      walk_at "xs"
      refine x_iStr ?_
      walk_at "xs"
      refine ⟨_, rfl, fun A nA => ?_⟩
      refine lc_flat (fun i => some (V.bl (letB (w.getD i 0)))) turnsS (fun _ _ => trivial) nA ?_ ?_
      · rintro i v Hc _ hi lc ⟨rfl, c, hc, rfl⟩
        walk_at "xs"
        refine x_wipe rfl ?_
        walk_at "xs"
        refine x_inSg ?_
        rw [mem_lets]
        exact lc.keep nA (Same.refl _) (by rw [List.getD_eq_getElem?_getD, hc]; rfl) (by omega)
      intro H1 s1 hA
      rw [all_signs] at hA
      walk_at "xs"
      refine x_all (SqL.of hA) ?_
      rw [all_id]
      exact k H1 s1
    · rename_i c2
      rw [decide_eq_false (by omega : ¬ w.length ≤ 12)] at k
      exact k H (Same.refl H)
  · rename_i c1
    rw [decide_eq_false (by omega : ¬ 1 ≤ w.length)] at k
    walk_at "xs"
    exact k H (Same.refl H)

end Su
namespace Su
open PySem L2
local macro_rules | `(tactic| walk_at "side") => `(tactic| first | assumption | (show (0 : Int) < _; omega) | (show (0 : Int) ≤ _; omega) | (show (0 : Int) < _; split <;> omega) | (show _ ∨ _; omega) | (show _ ∧ _; omega) | exact ⟨by decide, by decide, by decide⟩ | exact ⟨by first | assumption | omega, by first | assumption | omega⟩)
local macro_rules | `(tactic| walk_at "x") => `(tactic| first | with_reducible refine Su.x_seq ?_ | with_reducible refine Su.x_gname ?_ | with_reducible refine Su.x_ret ?_ | with_reducible refine Su.x_ifS ?_ | ((with_reducible show L2.tVar _ _ _ _); refine Su.x_var rfl ?_) | with_reducible refine Su.x_c ?_ | with_reducible refine Su.x_op ?_ | with_reducible refine Su.x_rI0 ?_ | with_reducible refine Su.x_iteT ?_ | with_reducible refine Su.x_iteNT ?_ | with_reducible refine Su.x_iteNF ?_ | with_reducible refine Su.x_eqS ?_ | with_reducible refine Su.x_neS ?_ | with_reducible refine Su.x_test ?_ | with_reducible refine Su.x_tB ?_ | with_reducible refine Su.x_isB' ?_ | with_reducible refine Su.x_not ?_ | with_reducible refine Su.x_or ?_ | with_reducible refine Su.x_orV ?_ | with_reducible refine Su.x_chain ?_ | with_reducible refine Su.x_nil ?_ | with_reducible refine Su.x_cons ?_ | with_reducible refine Su.x_cb ?_ | with_reducible refine Su.x_next ?_ | with_reducible refine Su.x_yes ?_ | with_reducible refine Su.x_lc ?_)
local macro_rules | `(tactic| walk_at "xs") => `(tactic| repeat walk_at "x")
local macro_rules | `(tactic| walk_at "if") => `(tactic| first | with_reducible refine Su.x_iteD (fun c => ?_) (fun c => ?_) | with_reducible refine Su.x_iteN (fun c => ?_) (fun c => ?_) | with_reducible refine Su.x_ite (fun c => ?_) (fun c => ?_))

/-! _law_is_number -/
def sp_law_is_number (K : PySem.W.Frag) : Sp := fun vs H Q _ => ∃ w : List Nat, vs = [vS w] ∧ w.length ≤ 100000 ∧ ∀ H', Same H H' → Q (.bl (numB w)) H'
abbrev N_law_is_number : List Str := ["_law_word", "_law_sign"]
def t_law_is_number (K : PySem.W.Frag) : TS :=
 (tSeq (tIfS (tOr (tNot (tTest (tChain rLe rLe (tC (.int 1)) (tCB rLenStr (tCons (tVar 0) tNil)) (tC (.int 12))))) (tNot (tB (tCB (rAll K) (tCons (tLc (iStr (tVar 0)) (gName 1) tYes (tOp rInS (tVar 1) (tC (.str "0123456789"))) [1]) tNil)))))
 (tRet (tC (.bl false)))
 tNext)
 (tRet (tOrV (tOp rEq (tVar 0) (tC (.str "0"))) (tOp rNe (tOp rIxS (tVar 0) (tC (.int 0))) (tC (.str "0"))))))

theorem len_law_is_number {K : PySem.W.Frag} : ∀ vs H Q E, sp_law_is_number K vs H Q E → vs.length = ["a"].length := by
  rintro vs H Q E ⟨_, rfl, _⟩; rfl
theorem pure_law_is_number {K : PySem.W.Frag} {vs : List V} {H : Hp} {Q : VK} {E : XK} (h : sp_law_is_number K vs H Q E) : t_law_is_number K { nx := fun _ H' => Q .non H', rt := Q } (start N_law_is_number vs) H := by
  obtain ⟨w, rfl, hl, k⟩ := h
  unfold numB at k
  unfold t_law_is_number
  rw [figs_str, s_zero]
  walk_at "xs"
  refine x_lenTx hl ?_
  walk_at "xs"
  walk_at "if"
  · rename_i c1
    walk_at "xs"
    rw [decide_eq_true (by omega : 1 ≤ w.length)] at k
    walk_at "if"
    · rename_i c2
      have c2 : ¬ w.length ≤ 12 := by omega
      rw [decide_eq_false c2] at k
      walk_at "xs"
      exact k H (Same.refl H)
    · rename_i c2
      have c2 : w.length ≤ 12 := by omega
      rw [decide_eq_true c2] at k
      walk_at "xs"
      refine x_iStr ?_
      walk_at "xs"
      refine ⟨_, rfl, fun A nA => ?_⟩
      refine lc_flat (fun i => some (V.bl (figB (w.getD i 0)))) turnsS (fun _ _ => trivial) nA ?_ ?_
      · rintro i v Hc _ hi lc ⟨rfl, c, hc, rfl⟩
        walk_at "xs"
        refine x_wipe rfl ?_
        walk_at "xs"
        refine x_inSg ?_
        rw [mem_figs]
        exact lc.keep nA (Same.refl _) (by rw [List.getD_eq_getElem?_getD, hc]; rfl) (by omega)
      intro H1 s1 hA
      rw [all_signs] at hA
      walk_at "xs"
      refine x_all (SqL.of hA) ?_
      rw [all_id]
      cases hf : w.all figB with
      | false =>
        rw [hf] at k
        walk_at "xs"
        exact k H1 s1
      | true =>
        rw [hf] at k
        walk_at "xs"
        rw [dec_S]
        walk_at "if"
        · rename_i c
          rw [decide_eq_true c] at k
          exact k H1 s1
        · rename_i c
          rw [decide_eq_false c] at k
          walk_at "xs"
          have wl : 0 < w.length := by omega
          refine x_ixS hl (c := w.getD 0 0) (at_get (by decide) (by omega)) ?_
          walk_at "xs"
          rw [dec_S, show decide ([w.getD 0 0] = [48]) = decide (w.head? = some 48) by
            cases w with
            | nil => simp at wl
            | cons a l => simp]
          exact k H1 s1
  · rename_i c1
    rw [decide_eq_false (by omega : ¬ 1 ≤ w.length)] at k
    walk_at "xs"
    exact k H (Same.refl H)

end Su
namespace Su
open PySem L2
local macro_rules | `(tactic| walk_at "side") => `(tactic| first | assumption | (show (0 : Int) < _; omega) | (show (0 : Int) ≤ _; omega) | (show (0 : Int) < _; split <;> omega) | (show _ ∨ _; omega) | (show _ ∧ _; omega) | exact ⟨by decide, by decide, by decide⟩ | exact ⟨by first | assumption | omega, by first | assumption | omega⟩)
local macro_rules | `(tactic| walk_at "xs") => `(tactic| repeat walk_at "x")
local macro_rules | `(tactic| walk_at "if") => `(tactic| first | with_reducible refine Su.x_iteD (fun c => ?_) (fun c => ?_) | with_reducible refine Su.x_iteN (fun c => ?_) (fun c => ?_) | with_reducible refine Su.x_ite (fun c => ?_) (fun c => ?_))

/-! a text times a whole number; all of a comprehension over signs -/
abbrev rMulS : R2 := fun x y H Q => ∃ (a : Str) (n : Int), x = .str a ∧ y = .int n ∧ MulOk a n ∧ Q (.str (Txt.mul a n)) H
theorem op_mulS {X : Cx} : OpR X (binaryOp .Mult) rMulS := by
  intro pins s σ H x y v u Q I rx ry h
  obtain ⟨a, n, rfl, rfl, ok, q⟩ := h
  obtain ⟨t, rfl⟩ := rx
  obtain ⟨t', rfl⟩ := ry
  exact PySem.SB.mul ok fun t2 k => ⟨.str (Txt.mul a n), H, I.tok _, ⟨_, rfl⟩, q⟩
theorem foldl_rep {w : List Nat} : ∀ (m : Nat) (acc : Array Nat), ((List.replicate m w.toArray).foldl (· ++ ·) acc) = acc ++ (List.replicate m w).flatten.toArray
  | 0, acc => by simp
  | m + 1, acc => by
    rw [List.replicate_succ, List.foldl_cons, foldl_rep m, List.replicate_succ, List.flatten_cons]
    simp [Array.append_assoc]
theorem x_mulS {w : List Nat} {m : Nat} {H : Hp} {Q : VK} (hl : 1 ≤ w.length) (hw : w.length ≤ 10) (hm : m ≤ 100000) (h : Q (vS (List.replicate m w).flatten) H) : rMulS (vS w) (.int m) H Q := by
  refine ⟨SX.S w, m, rfl, rfl, ⟨?_, fun h1 _ => ?_, fun _ _ => ?_⟩, ?_⟩
  · rw [Bool.or_eq_false_iff]
    exact ⟨decide_eq_false (by omega), decide_eq_false (by omega)⟩
  · rw [SX.S_len]
    have : (2 ^ 63 - 1 : Int) / (m : Int) ≥ 10 := by
      rw [ge_iff_le, Int.le_ediv_iff_mul_le (by omega)]
      omega
    omega
  · unfold Builtin.Str.tooLong
    rw [SX.S_len]
    have e : ((m : Int)).toNat = m := by omega
    rw [e]
    have : w.length * m ≤ 10 * 100000 := Nat.mul_le_mul hw hm
    exact decide_eq_false (by rw [sizeLine_eq]; omega)
  · have : Txt.mul (SX.S w) (m : Int) = SX.S (List.replicate m w).flatten := by
      unfold Txt.mul
      by_cases c : (m : Int) < 1
      · have : m = 0 := by omega
        subst this
        rfl
      · rw [if_neg c]
        have e : ((m : Int)).toNat = m := by omega
        have f := foldl_rep (w := w) m #[]
        simp only [Array.empty_append] at f
        by_cases c1 : m = 1
        · subst c1
          rw [if_pos (by simp)]
          simp
        · rw [if_neg (by
            rw [SX.S_len]
            have a1 : ((m : Int) == 1) = false := by simp; omega
            have a2 : (w.length == 0) = false := by simp; intro z; rw [z] at hl; simp at hl
            rw [a1, a2]; decide), e]
          exact congrArg Str.mk f
    rw [this]; exact h

end Su
namespace Su
open PySem L2
local macro_rules | `(tactic| walk_at "side") => `(tactic| first | assumption | (show (0 : Int) < _; omega) | (show (0 : Int) ≤ _; omega) | (show (0 : Int) < _; split <;> omega) | (show _ ∨ _; omega) | (show _ ∧ _; omega) | exact ⟨by decide, by decide, by decide⟩ | exact ⟨by first | assumption | omega, by first | assumption | omega⟩)
local macro_rules | `(tactic| walk_at "x") => `(tactic| first | with_reducible refine Su.x_seq ?_ | with_reducible refine Su.x_gname ?_ | with_reducible refine Su.x_ret ?_ | with_reducible refine Su.x_ifS ?_ | ((with_reducible show L2.tVar _ _ _ _); refine Su.x_var rfl ?_) | with_reducible refine Su.x_c ?_ | with_reducible refine Su.x_op ?_ | with_reducible refine Su.x_rI0 ?_ | with_reducible refine Su.x_iteNT ?_ | with_reducible refine Su.x_iteNF ?_ | with_reducible refine Su.x_test ?_ | with_reducible refine Su.x_isB' ?_ | with_reducible refine Su.x_not ?_ | with_reducible refine Su.x_chain ?_ | with_reducible refine Su.x_nil ?_ | with_reducible refine Su.x_cons ?_ | with_reducible refine Su.x_cb ?_ | with_reducible refine Su.x_next ?_ | with_reducible refine Su.x_for ?_)
local macro_rules | `(tactic| walk_at "xs") => `(tactic| repeat walk_at "x")
local macro_rules | `(tactic| walk_at "if") => `(tactic| first | with_reducible refine Su.x_iteD (fun c => ?_) (fun c => ?_) | with_reducible refine Su.x_iteN (fun c => ?_) (fun c => ?_) | with_reducible refine Su.x_ite (fun c => ?_) (fun c => ?_))

/-! is_name -/
def sp_is_name (K : PySem.W.Frag) : Sp := fun vs H Q _ => ∃ w : List Nat, vs = [vS w] ∧ w.length ≤ 100000 ∧ Q (.bl (nameB w)) H
abbrev N_is_name : List Str := ["word", "sign"]
def t_is_name (K : PySem.W.Frag) : TS :=
 (tSeq (tIfS (tNot (tTest (tChain rLe rLe (tC (.int 1)) (tCB rLenStr (tCons (tVar 0) tNil)) (tC (.int 12)))))
 (tRet (tC (.bl false)))
 tNext)
 (tSeq (tFor (iStr (tVar 0)) (gName 1)
 (tIfS (tTest (tOp rNotInS (tVar 1) (tC (.str "abcdefghijklmnopqrstuvwxyz"))))
 (tRet (tC (.bl false)))
 tNext))
 (tRet (tC (.bl true)))))

theorem len_is_name {K : PySem.W.Frag} : ∀ vs H Q E, sp_is_name K vs H Q E → vs.length = ["a"].length := by
  rintro vs H Q E ⟨_, rfl, _⟩; rfl
theorem pure_is_name {K : PySem.W.Frag} {vs : List V} {H : Hp} {Q : VK} {E : XK} (h : sp_is_name K vs H Q E) : t_is_name K { nx := fun _ H' => Q .non H', rt := Q } (start N_is_name vs) H := by
  obtain ⟨w, rfl, hl, k⟩ := h
  unfold nameB at k
  unfold t_is_name
  rw [lets_str]
  walk_at "xs"
  refine x_lenTx hl ?_
  walk_at "xs"
  walk_at "if"
  · rename_i c1
    walk_at "xs"
    walk_at "if"
    · rename_i c2
      have c2 : ¬ (w.length : Int) ≤ 12 := by simpa using c2
      rw [decide_eq_false (by omega : ¬ w.length ≤ 12)] at k
      walk_at "xs"
      simpa using k
    · rename_i c2
      have c2 : (w.length : Int) ≤ 12 := by simpa using c2
      rw [decide_eq_true (by omega : 1 ≤ w.length), decide_eq_true (by omega : w.length ≤ 12), Bool.true_and, Bool.true_and] at k
      walk_at "xs"
      refine x_iStr ?_
      walk_at "xs"
      refine ⟨_, rfl, for_by turnsS (fun i σ H' => ∃ u, σ = [some (vS w), u] ∧ H = H' ∧ (w.take i).all letB = true) ⟨_, rfl, rfl, rfl⟩ (fun _ _ _ _ _ => trivial) ?_ ?_⟩
      · rintro i v σ H1 _ hi ⟨u, rfl, rfl, ha⟩ ⟨rfl, c, hc, rfl⟩
        walk_at "xs"
        refine x_notInSg ?_
        rw [mem_lets]
        walk_at "xs"
        have hl : w.take (i + 1) = w.take i ++ [c] := by rw [List.take_add_one, hc]; rfl
        cases hb : letB c with
        | true =>
          walk_at "xs"
          exact ⟨_, rfl, rfl, by rw [hl, List.all_append, ha]; simp [hb]⟩
        | false =>
          walk_at "xs"
          rw [show w.all letB = false by
            rw [List.all_eq_false]
            exact ⟨c, List.mem_of_getElem? hc, by rw [hb]; decide⟩] at k
          exact k
      · rintro σ H1 ⟨u, rfl, rfl, ha⟩
        rw [List.take_length] at ha
        rw [ha] at k
        walk_at "xs"
        exact k
  · rename_i c1
    rw [decide_eq_false (by omega : ¬ 1 ≤ w.length)] at k
    walk_at "xs"
    simpa using k

end Su
namespace Su
open PySem L2
local macro_rules | `(tactic| walk_at "side") => `(tactic| first | assumption | (show (0 : Int) < _; omega) | (show (0 : Int) ≤ _; omega) | (show (0 : Int) < _; split <;> omega) | (show _ ∨ _; omega) | (show _ ∧ _; omega) | exact ⟨by decide, by decide, by decide⟩ | exact ⟨by first | assumption | omega, by first | assumption | omega⟩)
local macro_rules | `(tactic| walk_at "x") => `(tactic| first | with_reducible refine Su.x_seq ?_ | with_reducible refine Su.x_ret ?_ | with_reducible refine Su.x_ifS ?_ | ((with_reducible show L2.tVar _ _ _ _); refine Su.x_var rfl ?_) | with_reducible refine Su.x_iteNT ?_ | with_reducible refine Su.x_iteNF ?_ | with_reducible refine Su.x_tB ?_ | with_reducible refine Su.x_isB' ?_ | with_reducible refine Su.x_not ?_ | with_reducible refine Su.x_nil ?_ | with_reducible refine Su.x_cons ?_ | with_reducible refine Su.x_call ?_ | with_reducible refine Su.x_next ?_)
local macro_rules | `(tactic| walk_at "xs") => `(tactic| repeat walk_at "x")
local macro_rules | `(tactic| walk_at "if") => `(tactic| first | with_reducible refine Su.x_iteD (fun c => ?_) (fun c => ?_) | with_reducible refine Su.x_iteN (fun c => ?_) (fun c => ?_) | with_reducible refine Su.x_ite (fun c => ?_) (fun c => ?_))

/-! name_of -/
def sp_name_of (K : PySem.W.Frag) : Sp := fun vs H Q E => ∃ w : List Nat, vs = [vS w] ∧ w.length ≤ 100000 ∧ (nameB w = true → Q (vS w) H) ∧ (nameB w = false → E (.ref (He.ga K "NoDeed")) none H)
abbrev N_name_of : List Str := ["word"]
def t_name_of (K : PySem.W.Frag) (E : XK) : TS :=
 (tSeq (tIfS (tNot (tB (tCall (sp_is_name K) [] E0 (tCons (tVar 0) tNil))))
 (tRaise (He.ga K "NoDeed") (wE E))
 tNext)
 (tRet (tVar 0)))

theorem len_name_of {K : PySem.W.Frag} : ∀ vs H Q E, sp_name_of K vs H Q E → vs.length = ["a"].length := by
  rintro vs H Q E ⟨_, rfl, _⟩; rfl
theorem pure_name_of {K : PySem.W.Frag} {vs : List V} {H : Hp} {Q : VK} {E : XK} (h : sp_name_of K vs H Q E) : t_name_of K E { nx := fun _ H' => Q .non H', rt := Q } (start N_name_of vs) H := by
  obtain ⟨w, rfl, hl, k1, k2⟩ := h
  unfold t_name_of
  walk_at "xs"
  refine ⟨w, rfl, hl, ?_⟩
  cases hb : nameB w with
  | true =>
    walk_at "xs"
    exact k1 hb
  | false =>
    walk_at "xs"
    exact k2 hb

end Su
namespace Su
open PySem L2
local macro_rules | `(tactic| walk_at "side") => `(tactic| first | assumption | (show (0 : Int) < _; omega) | (show (0 : Int) ≤ _; omega) | (show (0 : Int) < _; split <;> omega) | (show _ ∨ _; omega) | (show _ ∧ _; omega) | exact ⟨by decide, by decide, by decide⟩ | exact ⟨by first | assumption | omega, by first | assumption | omega⟩)
local macro_rules | `(tactic| walk_at "x") => `(tactic| first | with_reducible refine Su.x_seq ?_ | with_reducible refine Su.x_gname ?_ | with_reducible refine Su.x_ret ?_ | with_reducible refine Su.x_ifS ?_ | ((with_reducible show L2.tVar _ _ _ _); refine Su.x_var rfl ?_) | with_reducible refine Su.x_c ?_ | with_reducible refine Su.x_op ?_ | with_reducible refine Su.x_rI0 ?_ | with_reducible refine Su.x_iteNT ?_ | with_reducible refine Su.x_iteNF ?_ | with_reducible refine Su.x_eqS ?_ | with_reducible refine Su.x_neS ?_ | with_reducible refine Su.x_test ?_ | with_reducible refine Su.x_isB' ?_ | with_reducible refine Su.x_not ?_ | with_reducible refine Su.x_orV ?_ | with_reducible refine Su.x_chain ?_ | with_reducible refine Su.x_nil ?_ | with_reducible refine Su.x_cons ?_ | with_reducible refine Su.x_cb ?_ | with_reducible refine Su.x_next ?_ | with_reducible refine Su.x_for ?_)
local macro_rules | `(tactic| walk_at "xs") => `(tactic| repeat walk_at "x")
local macro_rules | `(tactic| walk_at "if") => `(tactic| first | with_reducible refine Su.x_iteD (fun c => ?_) (fun c => ?_) | with_reducible refine Su.x_iteN (fun c => ?_) (fun c => ?_) | with_reducible refine Su.x_ite (fun c => ?_) (fun c => ?_))

/-! is_number -/
def sp_is_number (K : PySem.W.Frag) : Sp := fun vs H Q _ => ∃ w : List Nat, vs = [vS w] ∧ w.length ≤ 100000 ∧ Q (.bl (numB w)) H
abbrev N_is_number : List Str := ["word", "sign"]
def t_is_number (K : PySem.W.Frag) : TS :=
 (tSeq (tIfS (tNot (tTest (tChain rLe rLe (tC (.int 1)) (tCB rLenStr (tCons (tVar 0) tNil)) (tC (.int 12)))))
 (tRet (tC (.bl false)))
 tNext)
 (tSeq (tFor (iStr (tVar 0)) (gName 1)
 (tIfS (tTest (tOp rNotInS (tVar 1) (tC (.str "0123456789"))))
 (tRet (tC (.bl false)))
 tNext))
 (tRet (tOrV (tOp rEq (tVar 0) (tC (.str "0"))) (tOp rNe (tOp rIxS (tVar 0) (tC (.int 0))) (tC (.str "0")))))))

theorem len_is_number {K : PySem.W.Frag} : ∀ vs H Q E, sp_is_number K vs H Q E → vs.length = ["a"].length := by
  rintro vs H Q E ⟨_, rfl, _⟩; rfl
theorem pure_is_number {K : PySem.W.Frag} {vs : List V} {H : Hp} {Q : VK} {E : XK} (h : sp_is_number K vs H Q E) : t_is_number K { nx := fun _ H' => Q .non H', rt := Q } (start N_is_number vs) H := by
  obtain ⟨w, rfl, hl, k⟩ := h
  unfold numB at k
  unfold t_is_number
  rw [figs_str, s_zero]
  walk_at "xs"
  refine x_lenTx hl ?_
  walk_at "xs"
  walk_at "if"
  · rename_i c1
    walk_at "xs"
    walk_at "if"
    · rename_i c2
      have c2 : ¬ (w.length : Int) ≤ 12 := by simpa using c2
      rw [decide_eq_false (by omega : ¬ w.length ≤ 12)] at k
      walk_at "xs"
      simpa using k
    · rename_i c2
      have c2 : (w.length : Int) ≤ 12 := by simpa using c2
      rw [decide_eq_true (by omega : 1 ≤ w.length), decide_eq_true (by omega : w.length ≤ 12), Bool.true_and, Bool.true_and] at k
      walk_at "xs"
      refine x_iStr ?_
      walk_at "xs"
      refine ⟨_, rfl, for_by turnsS (fun i σ H' => ∃ u, σ = [some (vS w), u] ∧ H = H' ∧ (w.take i).all figB = true) ⟨_, rfl, rfl, rfl⟩ (fun _ _ _ _ _ => trivial) ?_ ?_⟩
      · rintro i v σ H1 _ hi ⟨u, rfl, rfl, ha⟩ ⟨rfl, c, hc, rfl⟩
        walk_at "xs"
        refine x_notInSg ?_
        rw [mem_figs]
        walk_at "xs"
        have hl : w.take (i + 1) = w.take i ++ [c] := by rw [List.take_add_one, hc]; rfl
        cases hb : figB c with
        | true =>
          walk_at "xs"
          exact ⟨_, rfl, rfl, by rw [hl, List.all_append, ha]; simp [hb]⟩
        | false =>
          walk_at "xs"
          rw [show w.all figB = false by
            rw [List.all_eq_false]
            exact ⟨c, List.mem_of_getElem? hc, by rw [hb]; decide⟩] at k
          exact k
      · rintro σ H1 ⟨u, rfl, rfl, ha⟩
        rw [List.take_length] at ha
        rw [ha, Bool.true_and] at k
        have wl : 0 < w.length := by omega
        walk_at "xs"
        rw [dec_S]
        walk_at "if"
        · rename_i c
          rw [decide_eq_true c] at k
          exact k
        · rename_i c
          rw [decide_eq_false c, Bool.false_or] at k
          walk_at "xs"
          refine x_ixS hl (c := w.getD 0 0) (at_get (by decide) (by omega)) ?_
          walk_at "xs"
          rw [dec_S, show decide ([w.getD 0 0] = [48]) = decide (w.head? = some 48) by
            cases w with
            | nil => simp at wl
            | cons a l => simp]
          exact k
  · rename_i c1
    rw [decide_eq_false (by omega : ¬ 1 ≤ w.length)] at k
    walk_at "xs"
    simpa using k

end Su
namespace Su
open PySem L2
local macro_rules | `(tactic| walk_at "side") => `(tactic| first | assumption | (show (0 : Int) < _; omega) | (show (0 : Int) ≤ _; omega) | (show (0 : Int) < _; split <;> omega) | (show _ ∨ _; omega) | (show _ ∧ _; omega) | exact ⟨by decide, by decide, by decide⟩ | exact ⟨by first | assumption | omega, by first | assumption | omega⟩)
local macro_rules | `(tactic| walk_at "x") => `(tactic| first | with_reducible refine Su.x_seq ?_ | with_reducible refine Su.x_ret ?_ | with_reducible refine Su.x_ifS ?_ | ((with_reducible show L2.tVar _ _ _ _); refine Su.x_var rfl ?_) | with_reducible refine Su.x_iteNT ?_ | with_reducible refine Su.x_iteNF ?_ | with_reducible refine Su.x_tB ?_ | with_reducible refine Su.x_isB' ?_ | with_reducible refine Su.x_not ?_ | with_reducible refine Su.x_nil ?_ | with_reducible refine Su.x_cons ?_ | with_reducible refine Su.x_cb ?_ | with_reducible refine Su.x_call ?_ | with_reducible refine Su.x_next ?_)
local macro_rules | `(tactic| walk_at "xs") => `(tactic| repeat walk_at "x")
local macro_rules | `(tactic| walk_at "if") => `(tactic| first | with_reducible refine Su.x_iteD (fun c => ?_) (fun c => ?_) | with_reducible refine Su.x_iteN (fun c => ?_) (fun c => ?_) | with_reducible refine Su.x_ite (fun c => ?_) (fun c => ?_))

/-! number_in -/
def sp_number_in (K : PySem.W.Frag) : Sp := fun vs H Q E => ∃ w : List Nat, vs = [vS w] ∧ w.length ≤ 100000 ∧ (numB w = true → Q (.int (numV w)) H) ∧ (numB w = false → E (.ref (He.ga K "NoDeed")) none H)
abbrev N_number_in : List Str := ["word"]
def t_number_in (K : PySem.W.Frag) (E : XK) : TS :=
 (tSeq (tIfS (tNot (tB (tCall (sp_is_number K) [] E0 (tCons (tVar 0) tNil))))
 (tRaise (He.ga K "NoDeed") (wE E))
 tNext)
 (tRet (tCB rIntStr (tCons (tVar 0) tNil))))

theorem len_number_in {K : PySem.W.Frag} : ∀ vs H Q E, sp_number_in K vs H Q E → vs.length = ["a"].length := by
  rintro vs H Q E ⟨_, rfl, _⟩; rfl
theorem pure_number_in {K : PySem.W.Frag} {vs : List V} {H : Hp} {Q : VK} {E : XK} (h : sp_number_in K vs H Q E) : t_number_in K E { nx := fun _ H' => Q .non H', rt := Q } (start N_number_in vs) H := by
  obtain ⟨w, rfl, hl, k1, k2⟩ := h
  unfold t_number_in
  walk_at "xs"
  refine ⟨w, rfl, hl, ?_⟩
  cases hb : numB w with
  | true =>
    walk_at "xs"
    have hc := hb
    unfold numB at hc
    simp only [Bool.and_eq_true, decide_eq_true_eq] at hc
    exact x_intTx hc.1.2 hc.1.1.1 hc.1.1.2 (k1 hb)
  | false =>
    walk_at "xs"
    exact k2 hb

end Su
namespace Su
open PySem L2
local macro_rules | `(tactic| walk_at "side") => `(tactic| first | assumption | (show (0 : Int) < _; omega) | (show (0 : Int) ≤ _; omega) | (show (0 : Int) < _; split <;> omega) | (show _ ∨ _; omega) | (show _ ∧ _; omega) | exact ⟨by decide, by decide, by decide⟩ | exact ⟨by first | assumption | omega, by first | assumption | omega⟩)
local macro_rules | `(tactic| walk_at "xs") => `(tactic| repeat walk_at "x")
local macro_rules | `(tactic| walk_at "if") => `(tactic| first | with_reducible refine Su.x_iteD (fun c => ?_) (fun c => ?_) | with_reducible refine Su.x_iteN (fun c => ?_) (fun c => ?_) | with_reducible refine Su.x_ite (fun c => ?_) (fun c => ?_))

/-! for texts of deeds -/
theorem getW {ws : List (List Nat)} (h : ∀ w ∈ ws, w.length ≤ 100000) (i : Nat) : (ws.getD i []).length ≤ 100000 := by
  rw [List.getD_eq_getElem?_getD]
  cases e : ws[i]? with
  | none => exact Nat.zero_le _
  | some w => exact h w (List.mem_of_getElem? e)
theorem fits_long {i : Int} (h : -1000000 ≤ i) (h2 : i ≤ 1000000) : Builtin.Range.rangeFitsLong i = true := by
  unfold Builtin.Range.rangeFitsLong
  rw [Bool.and_eq_true]
  exact ⟨decide_eq_true (by omega), decide_eq_true (by omega)⟩
theorem rgC3 {n m : Nat} (hn : n = 4 + 3 * m) (hl : n ≤ 100000) : RgC 4 (n : Int) 3 m := by
  have rs : Builtin.Range.rangeSize 4 (n : Int) 3 = m := by
    unfold Builtin.Range.rangeSize
    rw [if_pos (by decide)]
    split <;> omega
  refine ⟨by decide, by decide, ?_, rs⟩
  unfold Builtin.Range.small
  rw [rs]
  rw [if_pos (show (3 : Int) > 0 by decide), fits_long (by decide) (by decide), fits_long (i := (n : Int)) (by omega) (by omega), fits_long (i := 3) (by decide) (by decide), fits_long (i := (m : Int)) (by omega) (by omega), fits_long (i := (n : Int) + (3 - 1)) (by omega) (by omega)]
  simp
theorem x_iRng3 {ta : TA} {σ : St} {H : Hp} {R : It → Hp → Prop} (h : ta σ H fun vs H1 => ∃ (i j c : Int) (n : Nat), vs = [.int i, .int j, .int c] ∧ RgC i j c n ∧ R (Itc i c n) H1) : iRng3 ta σ H R := h
theorem turnsC {lo c : Int} {n : Nat} : Turns (Itc lo c n) n (fun _ => True) (fun i x H H' => H = H' ∧ x = .int (lo + (i : Nat) * c)) where
  go := fun i H hi _ => hi
  yld := fun i H x H' _ _ y => ⟨y.1.symm, y.2⟩
  stop := fun H _ => Nat.le_refl _
theorem x_tupleOfL {K : PySem.W.Frag} {H : Hp} {Q : VK} {p : Addr} {ys : List V} (e : SqL K H p ys) (h : ∀ q H', H q = none → Same H H' → H' q = some (.tup ys) → Q (.ref q) H') : rTupleOf K [.ref p] H Q := ⟨p, ys, rfl, .inl ⟨e, fun l n => h l _ n (same_new (Same.refl H) n) upd_same⟩⟩
theorem x_notInW2 {K : PySem.W.Frag} {H : Hp} {Q : VK} {p : Addr} {w a b : List Nat} (e : SqT K H p [vS a, vS b]) (h : Q (.bl (!decide (w = a ∨ w = b))) H) : rIn K true (vS w) (.ref p) H Q := by
  refine ⟨p, _, rfl, .inr e, rfl, flat_str [a, b], ?_⟩
  rw [if_pos rfl, show [vS a, vS b] = [a, b].map vS from rfl, inV_str]
  have : decide (w ∈ [a, b]) = decide (w = a ∨ w = b) := decide_eq_decide.mpr (by simp)
  rw [this]; exact h

end Su
namespace Su
open PySem L2
local macro_rules | `(tactic| walk_at "side") => `(tactic| first | assumption | (show (0 : Int) < _; omega) | (show (0 : Int) ≤ _; omega) | (show (0 : Int) < _; split <;> omega) | (show _ ∨ _; omega) | (show _ ∧ _; omega) | exact ⟨by decide, by decide, by decide⟩ | exact ⟨by first | assumption | omega, by first | assumption | omega⟩)
local macro_rules | `(tactic| walk_at "x") => `(tactic| first | with_reducible refine Su.x_seq ?_ | with_reducible refine Su.x_asg ?_ | with_reducible refine Su.x_gname ?_ | with_reducible refine Su.x_drop ?_ | with_reducible refine Su.x_ret ?_ | with_reducible refine Su.x_ifS ?_ | ((with_reducible show L2.tVar _ _ _ _); refine Su.x_var rfl ?_) | with_reducible refine Su.x_c ?_ | with_reducible refine Su.x_op ?_ | with_reducible refine Su.x_rI0 ?_ | ((with_reducible refine Su.x_rI ?_ ?_); focus walk_at "side") | with_reducible refine Su.x_iteT ?_ | with_reducible refine Su.x_neI ?_ | with_reducible refine Su.x_eqS ?_ | with_reducible refine Su.x_test ?_ | with_reducible refine Su.x_isB' ?_ | with_reducible refine Su.x_or ?_ | with_reducible refine Su.x_nil ?_ | with_reducible refine Su.x_cons ?_ | with_reducible refine Su.x_cb ?_ | with_reducible refine Su.x_call ?_ | with_reducible refine Su.x_lst ?_ | with_reducible refine Su.x_tup ?_ | with_reducible refine Su.x_bmL ?_ | with_reducible refine Su.x_next ?_ | with_reducible refine Su.x_for ?_)
local macro_rules | `(tactic| walk_at "xs") => `(tactic| repeat walk_at "x")
local macro_rules | `(tactic| walk_at "if") => `(tactic| first | with_reducible refine Su.x_iteD (fun c => ?_) (fun c => ?_) | with_reducible refine Su.x_iteN (fun c => ?_) (fun c => ?_) | with_reducible refine Su.x_ite (fun c => ?_) (fun c => ?_))

/-! found_of -/
def sp_found_of (K : PySem.W.Frag) : Sp := fun vs H Q E => ∃ (p : Addr) (ws : List (List Nat)), vs = [.ref p] ∧ H p = some (.lst (ws.map vS)) ∧ ws.length ≤ 100000 ∧ (∀ w ∈ ws, w.length ≤ 100000) ∧
  (∀ d, readF ws = some d → ∀ x H', Same H H' → Dp K H' x d.d → Q x H') ∧ (readF ws = none → ∀ H', Same H H' → E (.ref (He.ga K "NoDeed")) none H')
abbrev N_found_of : List Str := ["words", "circle", "stake", "seats", "at"]
def t_found_of (K : PySem.W.Frag) (E : XK) : TS :=
 (tSeq (tIfS (tOr (tTest (tOp rLt (tCB (rLenSeq K) (tCons (tVar 0) tNil)) (tC (.int 7)))) (tOr (tTest (tOp rNe (tOp rMod (tCB (rLenSeq K) (tCons (tVar 0) tNil)) (tC (.int 3))) (tC (.int 1)))) (tTest (tOp (rIn K true) (tOp (rIxL K) (tVar 0) (tC (.int 3))) (tTup (tCons (tC (.str "plain")) (tCons (tC (.str "bids")) tNil)))))))
 (tRaise (He.ga K "NoDeed") (wE E))
 tNext)
 (tSeq (tAsg (tCall (sp_name_of K) [] E (tCons (tOp (rIxL K) (tVar 0) (tC (.int 1))) tNil)) (gName 1))
 (tSeq (tAsg (tCall (sp_number_in K) [] E (tCons (tOp (rIxL K) (tVar 0) (tC (.int 2))) tNil)) (gName 2))
 (tSeq (tAsg (tLst tNil) (gName 3))
 (tSeq (tFor (iRng3 (tCons (tC (.int 4)) (tCons (tCB (rLenSeq K) (tCons (tVar 0) tNil)) (tCons (tC (.int 3)) tNil)))) (gName 4)
 (tDrop (tBM K "list" rAppend (tVar 3) (tCons (tTup (tCons (tCall (sp_name_of K) [] E (tCons (tOp (rIxL K) (tVar 0) (tVar 4)) tNil)) (tCons (tCall (sp_number_in K) [] E (tCons (tOp (rIxL K) (tVar 0) (tOp rAdd (tVar 4) (tC (.int 1)))) tNil)) (tCons (tCall (sp_number_in K) [] E (tCons (tOp (rIxL K) (tVar 0) (tOp rAdd (tVar 4) (tC (.int 2)))) tNil)) tNil)))) tNil))))
 (tRet (tTup (tCons (tC (.str "found")) (tCons (tVar 1) (tCons (tVar 2) (tCons (tOp rEq (tOp (rIxL K) (tVar 0) (tC (.int 3))) (tC (.str "bids"))) (tCons (tCB (rTupleOf K) (tCons (tVar 3) tNil)) tNil))))))))))))

theorem len_found_of {K : PySem.W.Frag} : ∀ vs H Q E, sp_found_of K vs H Q E → vs.length = ["a"].length := by
  rintro vs H Q E ⟨_, _, rfl, _⟩; rfl
theorem pure_found_of {K : PySem.W.Frag} {vs : List V} {H : Hp} {Q : VK} {E : XK} (h : sp_found_of K vs H Q E) : t_found_of K E { nx := fun _ H' => Q .non H', rt := Q } (start N_found_of vs) H := by
  obtain ⟨p, ws, rfl, hp, hl, hw, k1, k2⟩ := h
  unfold t_found_of
  rw [s_plain, s_bids, s_found]
  have bad : ¬ (7 ≤ ws.length ∧ ws.length % 3 = 1 ∧ (ws.getD 3 [] = kPlain ∨ ws.getD 3 [] = kBids)) → ∀ H', Same H H' → E (.ref (He.ga K "NoDeed")) none H' := fun c => k2 (by unfold readF; rw [if_neg c])
  have bad2 : (7 ≤ ws.length ∧ ws.length % 3 = 1 ∧ (ws.getD 3 [] = kPlain ∨ ws.getD 3 [] = kBids)) → ¬ (nameB (ws.getD 1 []) = true ∧ numB (ws.getD 2 []) = true ∧ (List.range ((ws.length - 4) / 3)).all (seatB3 ws) = true) → ∀ H', Same H H' → E (.ref (He.ga K "NoDeed")) none H' := fun c c2 => k2 (by unfold readF; rw [if_pos c, if_neg c2])
  have sH : Same H H := Same.refl H
  walk_at "xs"
  refine x_lenL (SqL.of hp) ?_
  rw [List.length_map]
  walk_at "xs"
  walk_at "if"
  · rename_i c1
    walk_at "xs"
    exact bad (fun z => by omega) H sH
  rename_i c1
  walk_at "xs"
  refine x_lenL (SqL.of hp) ?_
  rw [List.length_map]
  walk_at "xs"
  walk_at "if"
  · rename_i c2
    walk_at "xs"
    exact bad (fun z => by omega) H sH
  rename_i c2
  walk_at "xs"
  refine x_ixW (SqL.of hp) (by decide) (by omega) ?_
  walk_at "xs"
  refine al_tup fun q H1 nq s1 hq => ?_
  walk_at "xs"
  have hp1 := s1 _ _ hp
  refine x_notInW2 (SqT.of hq) ?_
  rw [show (Int.toNat 3) = 3 by rfl]
  walk_at "xs"
  walk_at "if"
  · rename_i c3
    exact bad (fun z => c3 z.2.2) H1 s1
  rename_i c3
  have good : 7 ≤ ws.length ∧ ws.length % 3 = 1 ∧ (ws.getD 3 [] = kPlain ∨ ws.getD 3 [] = kBids) := ⟨by omega, by omega, c3⟩
  walk_at "xs"
  refine x_ixW (SqL.of hp1) (by decide) (by omega) ?_
  walk_at "xs"
  refine ⟨_, rfl, getW hw _, fun n1 => ?_, fun n1 => bad2 good (fun z => by rw [show (Int.toNat 1) = 1 by rfl] at n1; rw [n1] at z; cases z.1) H1 s1⟩
  rw [show (Int.toNat 1) = 1 by rfl] at n1 ⊢
  walk_at "xs"
  refine x_ixW (SqL.of hp1) (by decide) (by omega) ?_
  walk_at "xs"
  refine ⟨_, rfl, getW hw _, fun n2 => ?_, fun n2 => bad2 good (fun z => by rw [show (Int.toNat 2) = 2 by rfl] at n2; rw [n2] at z; cases z.2.1) H1 s1⟩
  rw [show (Int.toNat 2) = 2 by rfl] at n2 ⊢
  walk_at "xs"
  refine al_lst fun r H2 nr s2 hr => ?_
  walk_at "xs"
  refine x_iRng3 ?_
  walk_at "xs"
  have hp2 := s2 _ _ hp1
  refine x_lenL (SqL.of hp2) ?_
  rw [List.length_map]
  walk_at "xs"
  obtain ⟨m, hm⟩ : ∃ m, m = (ws.length - 4) / 3 := ⟨_, rfl⟩
  rw [← hm] at bad2
  have hwl : ws.length = 4 + 3 * m := by omega
  refine ⟨4, (ws.length : Int), 3, m, rfl, rgC3 hwl hl, ?_⟩
  have s02 := s1.trans s2
  refine for_by turnsC (fun i σ H' => ∃ (u : Option V) (xs : List V), σ = [some (.ref p), some (vS (ws.getD 1 [])), some (.int (numV (ws.getD 2 []))), some (.ref r), u] ∧ Same H1 H' ∧ H' r = some (.lst xs) ∧ DpAll K (del H' r) xs (((List.range i).map (seatV3 ws)).map dSeat3) ∧ (List.range i).all (seatB3 ws) = true)
    ⟨none, [], rfl, s2, hr, .nil, rfl⟩ (fun _ _ _ _ _ => trivial) ?_ ?_
  · rintro i y σ H3 _ hi ⟨u, xs, rfl, s3, hr3, hx, ha⟩ ⟨rfl, rfl⟩
    have hp3 := s3 _ _ hp1
    have e4 : ((4 : Int) + (i : Nat) * 3).toNat = 4 + 3 * i := by omega
    have stop : seatB3 ws i = false → E (.ref (He.ga K "NoDeed")) none H3 := fun z => bad2 good (fun q => by
      have := List.all_eq_true.mp q.2.2 i (List.mem_range.mpr hi)
      rw [z] at this; cases this) H3 (s1.trans s3)
    unfold seatB3 at stop
    walk_at "xs"
    refine ⟨tyL (SqL.of hr3), ?_⟩
    walk_at "xs"
    refine x_ixW (SqL.of hp3) (by omega) (by omega) ?_
    rw [e4]
    walk_at "xs"
    refine ⟨_, rfl, getW hw _, fun b1 => ?_, fun b1 => stop (by rw [b1]; rfl)⟩
    walk_at "xs"
    refine x_ixW (SqL.of hp3) (by omega) (by omega) ?_
    rw [show ((4 : Int) + (i : Nat) * 3 + 1).toNat = 4 + 3 * i + 1 by omega]
    walk_at "xs"
    refine ⟨_, rfl, getW hw _, fun b2 => ?_, fun b2 => stop (by rw [b1, b2]; rfl)⟩
    walk_at "xs"
    refine x_ixW (SqL.of hp3) (by omega) (by omega) ?_
    rw [show ((4 : Int) + (i : Nat) * 3 + 2).toNat = 4 + 3 * i + 2 by omega]
    walk_at "xs"
    refine ⟨_, rfl, getW hw _, fun b3 => ?_, fun b3 => stop (by rw [b1, b2, b3]; rfl)⟩
    walk_at "xs"
    refine al_tup fun t H4 nt s4 ht => ?_
    walk_at "xs"
    have hr4 := s4 _ _ hr3
    have xl := dpAll_len hx
    rw [List.length_map, List.length_map, List.length_range] at xl
    refine x_append hr4 (small (by omega)) ?_
    have tr : t ≠ r := fun z => by rw [z, hr3] at nt; cases nt
    refine ⟨_, _, rfl, same_upd (s3.trans s4) nr, upd_same, ?_, ?_⟩
    · rw [del_upd, List.range_succ, List.map_append, List.map_append]
      exact dpAll_snoc (dpAll_same (del_mono s4) hx) (.tup (SqT.of (del_at ht tr)) (.cons (.str _) (.cons (.int _) (.cons (.int _) .nil))))
    · rw [List.range_succ, List.all_append, ha]
      show (true && (seatB3 ws i && true)) = true
      unfold seatB3
      rw [b1, b2, b3]; rfl
  · rintro σ H3 ⟨u, xs, rfl, s3, hr3, hx, ha⟩
    have hp3 := s3 _ _ hp1
    walk_at "xs"
    refine x_ixW (SqL.of hp3) (by decide) (by omega) ?_
    walk_at "xs"
    rw [dec_S, show (Int.toNat 3) = 3 by rfl]
    refine x_tupleOfL (SqL.of hr3) fun q4 H4 nq4 s4 hq4 => ?_
    walk_at "xs"
    refine al_tup fun q5 H5 nq5 s5 hq5 => ?_
    walk_at "xs"
    refine k1 _ (by unfold readF; rw [if_pos good, ← hm, if_pos ⟨n1, n2, ha⟩]) _ H5 (((s1.trans s3).trans s4).trans s5) (.tup (SqT.of hq5) (.cons (.str _) (.cons (.str _) (.cons (.int _) (.cons (.bl _) (.cons ?_ .nil))))))
    exact .tup (SqT.of (s5 _ _ hq4)) (dpAll_same ((del_same.trans s4).trans s5) hx)

end Su
namespace Su
open PySem L2
local macro_rules | `(tactic| walk_at "side") => `(tactic| first | assumption | (show (0 : Int) < _; omega) | (show (0 : Int) ≤ _; omega) | (show (0 : Int) < _; split <;> omega) | (show _ ∨ _; omega) | (show _ ∧ _; omega) | exact ⟨by decide, by decide, by decide⟩ | exact ⟨by first | assumption | omega, by first | assumption | omega⟩)
local macro_rules | `(tactic| walk_at "x") => `(tactic| first | with_reducible refine Su.x_seq ?_ | with_reducible refine Su.x_asg ?_ | with_reducible refine Su.x_gname ?_ | with_reducible refine Su.x_drop ?_ | with_reducible refine Su.x_ret ?_ | with_reducible refine Su.x_ifS ?_ | ((with_reducible show L2.tVar _ _ _ _); refine Su.x_var rfl ?_) | with_reducible refine Su.x_c ?_ | with_reducible refine Su.x_op ?_ | with_reducible refine Su.x_rI0 ?_ | with_reducible refine Su.x_neI ?_ | with_reducible refine Su.x_eqS ?_ | with_reducible refine Su.x_test ?_ | with_reducible refine Su.x_isB' ?_ | with_reducible refine Su.x_nil ?_ | with_reducible refine Su.x_cons ?_ | with_reducible refine Su.x_cb ?_ | with_reducible refine Su.x_call ?_ | with_reducible refine Su.x_lst ?_ | with_reducible refine Su.x_bmL ?_ | with_reducible refine Su.x_next ?_ | with_reducible refine Su.x_for ?_ | with_reducible refine Su.x_gcons ?_ | with_reducible refine Su.x_gnil ?_ | with_reducible refine Su.x_sl ?_ | with_reducible refine Su.x_nopart ?_ | with_reducible refine Su.x_part ?_ | with_reducible refine Su.x_isI ?_)
local macro_rules | `(tactic| walk_at "xs") => `(tactic| repeat walk_at "x")
local macro_rules | `(tactic| walk_at "if") => `(tactic| first | with_reducible refine Su.x_iteD (fun c => ?_) (fun c => ?_) | with_reducible refine Su.x_iteN (fun c => ?_) (fun c => ?_) | with_reducible refine Su.x_ite (fun c => ?_) (fun c => ?_))
local macro_rules | `(tactic| walk_at "x") => `(tactic| first | with_reducible refine Su.x_m1 ?_ | with_reducible refine Su.x_strE ?_)

/-! deed_of -/
def sp_deed_of (K : PySem.W.Frag) : Sp := fun vs H Q E => ∃ (t : List Nat), vs = [vS t] ∧ t.length ≤ 50000 ∧ TbS K (He.ga K "SHAPES") tb_SHAPES ∧
  (∀ d, readW (TL.spl [32] 0 [] t) = some d → ∀ x H', Same H H' → Dp K H' x d.d → Q x H') ∧ (readW (TL.spl [32] 0 [] t) = none → ∀ H', Same H H' → E (.ref (He.ga K "NoDeed")) none H')
theorem spl_small {S : List Nat} : ∀ (t : List Nat) (k : Nat) (acc : List Nat), (∀ w ∈ TL.spl S k acc t, w.length ≤ acc.length + t.length) ∧ (TL.spl S k acc t).length ≤ t.length + 1
  | [], k, acc => by rw [TL.spl_nil]; simp
  | c :: r, 0, acc => by
    by_cases h : TL.pre S (c :: r) = true
    · rw [TL.spl_hit h]
      have ih := spl_small (S := S) r (S.length - 1) []
      refine ⟨fun w hw => ?_, by simp only [List.length_cons]; omega⟩
      rcases List.mem_cons.mp hw with rfl | hw
      · omega
      · have := ih.1 w hw
        simp only [List.length_nil, List.length_cons] at this ⊢
        omega
    · rw [TL.spl_miss (by simpa using h)]
      have ih := spl_small (S := S) r 0 (acc ++ [c])
      refine ⟨fun w hw => ?_, by simp only [List.length_cons]; omega⟩
      have := ih.1 w hw
      simp at this ⊢
      omega
  | c :: r, k + 1, acc => by
    have ih := spl_small (S := S) r k acc
    refine ⟨fun w hw => ?_, by
      show (TL.spl S k acc r).length ≤ _
      simp only [List.length_cons]; omega⟩
    have := ih.1 w hw
    simp only [List.length_cons]; omega
theorem spl_pos {S : List Nat} : ∀ (t : List Nat) (k : Nat) (acc : List Nat), 0 < (TL.spl S k acc t).length
  | [], k, acc => by rw [TL.spl_nil]; simp
  | c :: r, 0, acc => by
    by_cases h : TL.pre S (c :: r) = true
    · rw [TL.spl_hit h]; simp
    · rw [TL.spl_miss (by simpa using h)]; exact spl_pos r 0 _
  | c :: r, k + 1, acc => spl_pos r k acc
theorem al_slFrom1 {K : PySem.W.Frag} {H : Hp} {Q : VK} {a : Addr} {ws : List (List Nat)} (e : SqL K H a (ws.map vS)) (h : ∀ p H', H p = none → Same H H' → H' p = some (.lst ((ws.drop 1).map vS)) → Q (.ref p) H') : rSlL K (.ref a) (some 1) none H Q :=
  al_slL e fun p H' n s o => h p H' n s (by rw [show (1 : Int) = ((1 : Nat) : Int) from rfl, cutV_from] at o; rw [List.map_drop]; exact o)
abbrev N_deed_of : List Str := ["text", "words", "shape", "parts", "kind", "word"]
def t_deed_of (K : PySem.W.Frag) (E : XK) : TS :=
 (tSeq (tAsg (tM1 rSplit (tVar 0) (tC (.str " "))) (gName 1))
 (tSeq (tIfS (tTest (tOp rEq (tOp (rIxL K) (tVar 1) (tC (.int 0))) (tC (.str "found"))))
 (tRet (tCall (sp_found_of K) [] E (tCons (tVar 1) tNil)))
 tNext)
 (tSeq (tIfS (tTest (tOp (rNotInKD K (He.ga K "SHAPES")) (tOp (rIxL K) (tVar 1) (tC (.int 0))) (tC (.ref (He.ga K "SHAPES")))))
 (tRaise (He.ga K "NoDeed") (wE E))
 tNext)
 (tSeq (tAsg (tOp (rIxKD K (He.ga K "SHAPES")) (tC (.ref (He.ga K "SHAPES"))) (tOp (rIxL K) (tVar 1) (tC (.int 0)))) (gName 2))
 (tSeq (tIfS (tTest (tOp rNe (tCB (rLenSeq K) (tCons (tVar 1) tNil)) (tOp rAdd (tCB rLenStr (tCons (tVar 2) tNil)) (tC (.int 1)))))
 (tRaise (He.ga K "NoDeed") (wE E))
 tNext)
 (tSeq (tAsg (tLst (tCons (tOp (rIxL K) (tVar 1) (tC (.int 0))) tNil)) (gName 3))
 (tSeq (tFor (iZipS K (tCons (tVar 2) (tCons (tSl (rSlL K) (tVar 1) (tPart (tC (.int 1))) tNoPart) tNil))) (gTup K 2 (gCons (gName 4) (gCons (gName 5) gNil)))
 (tIfS (tTest (tOp rEq (tVar 4) (tC (.str "n"))))
 (tDrop (tBM K "list" rAppend (tVar 3) (tCons (tCall (sp_name_of K) [] E (tCons (tVar 5) tNil)) tNil)))
 (tDrop (tBM K "list" rAppend (tVar 3) (tCons (tCall (sp_number_in K) [] E (tCons (tVar 5) tNil)) tNil)))))
 (tRet (tCB (rTupleOf K) (tCons (tVar 3) tNil))))))))))

theorem len_deed_of {K : PySem.W.Frag} : ∀ vs H Q E, sp_deed_of K vs H Q E → vs.length = ["a"].length := by
  rintro vs H Q E ⟨_, rfl, _⟩; rfl
theorem pure_deed_of {K : PySem.W.Frag} {vs : List V} {H : Hp} {Q : VK} {E : XK} (h : sp_deed_of K vs H Q E) : t_deed_of K E { nx := fun _ H' => Q .non H', rt := Q } (start N_deed_of vs) H := by
  obtain ⟨t, rfl, hl, tb, k1, k2⟩ := h
  unfold t_deed_of
  rw [s_blank, s_found, s_n]
  have sw := spl_small (S := [32]) t 0 []
  have sp := spl_pos (S := [32]) t 0 []
  walk_at "xs"
  refine al_split (by omega) fun p H1 np s1 hp => ?_
  generalize TL.spl [32] 0 [] t = ws at *
  have hwl : ∀ w ∈ ws, w.length ≤ 100000 := fun w hw => by have := sw.1 w hw; simp only [List.length_nil] at this; omega
  have wl : ws.length ≤ 50001 := by have := sw.2; omega
  clear sw
  walk_at "xs"
  refine x_ixW (SqL.of hp) (by decide) (by omega) ?_
  rw [show (Int.toNat 0) = 0 by rfl]
  walk_at "xs"
  rw [dec_S]
  walk_at "if"
  · rename_i c1
    walk_at "xs"
    refine ⟨p, ws, rfl, hp, by omega, hwl, fun d hd x H' s hx => k1 d (by unfold readW; rw [if_pos c1]; exact hd) x H' (s1.trans s) hx, fun hd H' s => k2 (by unfold readW; rw [if_pos c1]; exact hd) H' (s1.trans s)⟩
  rename_i c1
  walk_at "xs"
  refine x_ixW (SqL.of hp) (by decide) (by omega) ?_
  rw [show (Int.toNat 0) = 0 by rfl]
  walk_at "xs"
  refine x_notInKD tb ?_
  rw [shapes_has]
  have rd : readW ws = readO ws (lookN shL (ws.getD 0 [])) := by unfold readW; rw [if_neg c1]
  cases hs : lookN shL (ws.getD 0 []) with
  | none =>
    walk_at "xs"
    refine x_iteT ?_
    exact k2 (by rw [rd, hs]; all_goals rfl) H1 s1
  | some s =>
    rw [hs] at rd
    have rd : readW ws = readP s ws := rd
    have sl := (sh_len hs).2
    walk_at "xs"
    refine x_iteF ?_
    walk_at "xs"
    refine x_ixW (SqL.of hp) (by decide) (by omega) ?_
    rw [show (Int.toNat 0) = 0 by rfl]
    refine x_ixKD tb (shapes_at hs) ?_
    walk_at "xs"
    refine x_lenL (SqL.of hp) ?_
    rw [List.length_map]
    walk_at "xs"
    refine x_lenTx (by omega) ?_
    walk_at "xs"
    walk_at "if"
    · rename_i c2
      exact k2 (by rw [rd]; unfold readP; rw [if_neg (fun z => by omega)]) H1 s1
    rename_i c2
    walk_at "xs"
    refine x_ixW (SqL.of hp) (by decide) (by omega) ?_
    rw [show (Int.toNat 0) = 0 by rfl]
    walk_at "xs"
    refine al_lst fun r H2 nr s2 hr => ?_
    have hp2 := s2 _ _ hp
    walk_at "xs"
    refine x_iZipS ?_
    walk_at "xs"
    refine al_slFrom1 (SqL.of hp2) fun q H3 nq s3 hq => ?_
    walk_at "xs"
    have c3 : ws.length = s.length + 1 := by omega
    have zl : s.length = ((ws.drop 1).map vS).length := by rw [List.length_map, List.length_drop]; omega
    have hr3 := s3 _ _ hr
    refine ⟨SX.S s, q, (ws.drop 1).map vS, rfl, SqL.of hq, ?_⟩
    have stop : ∀ i, i < s.length → partB s ws i = false → ∀ H', Same H H' → E (.ref (He.ga K "NoDeed")) none H' := fun i hi z => k2 (by
      rw [rd]; unfold readP
      rw [if_neg (fun q => by
        have := List.all_eq_true.mp q.2 i (List.mem_range.mpr hi)
        rw [z] at this; cases this)])
    have nr1 : H1 r = none := nr
    refine for_by (turnsZS zl) (fun i σ H' => ∃ (u1 u2 : Option V) (xs : List V), σ = [some (vS t), some (.ref p), some (vS s), some (.ref r), u1, u2] ∧ Same H1 H' ∧ H' q = some (.lst ((ws.drop 1).map vS)) ∧ H' r = some (.lst xs) ∧ DpAll K (del H' r) xs ((Part.n (ws.getD 0 []) :: (List.range i).map (partV s ws)).map Part.d) ∧ (List.range i).all (partB s ws) = true)
      ⟨none, none, _, rfl, s2.trans s3, hq, hr3, .cons (.str _) .nil, rfl⟩ (by rintro i σ H' _ ⟨_, _, _, _, _, e, _⟩; exact SqL.of e) ?_ ?_
    · rintro i y σ H4 H5 hi ⟨u1, u2, xs, rfl, s4, hq4, hr4, hx, ha⟩ ⟨c, w, hc, hw, T, rfl, hT, sT, ht, _⟩
      have e1 : w = vS (ws.getD (i + 1) []) := by
        rw [List.getElem?_map, List.getElem?_drop] at hw
        rw [List.getD_eq_getElem?_getD, show i + 1 = 1 + i by omega]
        cases e : ws[1 + i]? with
        | none => rw [e] at hw; cases hw
        | some z => rw [e] at hw; cases hw; rfl
      have e2 : s.getD i 0 = c := by rw [List.getD_eq_getElem?_getD, hc]; rfl
      subst e1
      have s5 := s4.trans sT
      have hr5 := sT _ _ hr4
      have hq5 := sT _ _ hq4
      have st := stop i hi
      unfold partB at st
      rw [e2] at st
      have lst : DpAll K (del H5 r) xs ((Part.n (ws.getD 0 []) :: (List.range i).map (partV s ws)).map Part.d) := dpAll_same (del_mono sT) hx
      have xl := dpAll_len lst
      rw [List.length_map, List.length_cons, List.length_map, List.length_range] at xl
      have more : ∀ v, Dp K (del H5 r) v (partV s ws i).d → DpAll K (del H5 r) (xs ++ [v]) ((Part.n (ws.getD 0 []) :: (List.range (i + 1)).map (partV s ws)).map Part.d) := fun v hv => by
        have := dpAll_snoc lst hv
        rw [List.range_succ, List.map_append, List.map_cons, List.map_append]
        exact this
      have all1 : partB s ws i = true → (List.range (i + 1)).all (partB s ws) = true := fun z => by
        rw [List.range_succ, List.all_append, ha]; simp [z]
      have pv : partV s ws i = if c = 110 then .n (ws.getD (i + 1) []) else .c (numV (ws.getD (i + 1) [])) := by unfold partV; rw [e2]
      have pb : partB s ws i = if c = 110 then nameB (ws.getD (i + 1) []) else numB (ws.getD (i + 1) []) := by unfold partB; rw [e2]
      have rq : q ≠ r := fun z => by rw [z, hr] at nq; cases nq
      refine x_gtup (SqT.of ht) rfl ?_
      walk_at "xs"
      rw [dec_S]
      walk_at "if"
      · rename_i c4
        have c4 : c = 110 := by simpa using c4
        rw [if_pos c4] at st pv pb
        walk_at "xs"
        refine ⟨tyL (SqL.of hr5), ?_⟩
        walk_at "xs"
        refine ⟨_, rfl, getW hwl _, fun b1 => ?_, fun b1 => st b1 H5 (s1.trans s5)⟩
        walk_at "xs"
        refine x_append hr5 (small (by omega)) ?_
        exact ⟨_, _, _, rfl, same_upd s5 nr1, at_upd hq5 rq.symm, upd_same, by rw [del_upd]; exact more _ (by rw [pv]; exact .str _), all1 (by rw [pb]; exact b1)⟩
      · rename_i c4
        have c4 : ¬ c = 110 := fun z => c4 (by rw [z])
        rw [if_neg c4] at st pv pb
        walk_at "xs"
        refine ⟨tyL (SqL.of hr5), ?_⟩
        walk_at "xs"
        refine ⟨_, rfl, getW hwl _, fun b1 => ?_, fun b1 => st b1 H5 (s1.trans s5)⟩
        walk_at "xs"
        refine x_append hr5 (small (by omega)) ?_
        exact ⟨_, _, _, rfl, same_upd s5 nr1, at_upd hq5 rq.symm, upd_same, by rw [del_upd]; exact more _ (by rw [pv]; exact .int _), all1 (by rw [pb]; exact b1)⟩
    · rintro σ H4 ⟨u1, u2, xs, rfl, s4, hq4, hr4, hx, ha⟩
      walk_at "xs"
      refine x_tupleOfL (SqL.of hr4) fun q4 H5 nq4 s5 hq5 => ?_
      refine k1 (.plain (ws.getD 0 []) ((List.range s.length).map (partV s ws))) (by rw [rd]; unfold readP; rw [if_pos ⟨c3, ha⟩]) _ H5 ((s1.trans s4).trans s5) (.tup (SqT.of hq5) (dpAll_same (del_same.trans s5) hx))

end Su
namespace Su
open PySem L2
local macro_rules | `(tactic| walk_at "side") => `(tactic| first | assumption | (show (0 : Int) < _; omega) | (show (0 : Int) ≤ _; omega) | (show (0 : Int) < _; split <;> omega) | (show _ ∨ _; omega) | (show _ ∧ _; omega) | exact ⟨by decide, by decide, by decide⟩ | exact ⟨by first | assumption | omega, by first | assumption | omega⟩)
local macro_rules | `(tactic| walk_at "x") => `(tactic| first | with_reducible refine Su.x_seq ?_ | with_reducible refine Su.x_asg ?_ | with_reducible refine Su.x_gname ?_ | with_reducible refine Su.x_ret ?_ | with_reducible refine Su.x_ifS ?_ | ((with_reducible show L2.tVar _ _ _ _); refine Su.x_var rfl ?_) | with_reducible refine Su.x_c ?_ | with_reducible refine Su.x_op ?_ | with_reducible refine Su.x_rI0 ?_ | ((with_reducible refine Su.x_rI ?_ ?_); focus walk_at "side") | with_reducible refine Su.x_rGt ?_ | with_reducible refine Su.x_iteF ?_ | with_reducible refine Su.x_eqI ?_ | with_reducible refine Su.x_eqS ?_ | with_reducible refine Su.x_test ?_ | with_reducible refine Su.x_isB' ?_ | with_reducible refine Su.x_and ?_ | with_reducible refine Su.x_nil ?_ | with_reducible refine Su.x_cons ?_ | with_reducible refine Su.x_cb ?_ | with_reducible refine Su.x_tup ?_ | with_reducible refine Su.x_next ?_)
local macro_rules | `(tactic| walk_at "xs") => `(tactic| repeat walk_at "x")
local macro_rules | `(tactic| walk_at "if") => `(tactic| first | with_reducible refine Su.x_iteD (fun c => ?_) (fun c => ?_) | with_reducible refine Su.x_iteN (fun c => ?_) (fun c => ?_) | with_reducible refine Su.x_ite (fun c => ?_) (fun c => ?_))
local macro_rules | `(tactic| walk_at "x") => `(tactic| first | with_reducible refine Su.x_dput ?_ | with_reducible refine Su.x_dget2 ?_)

/-! _law_shape -/
theorem s_nc : ("nc" : Str) = SX.S [110, 99] := by decide +kernel
theorem s_nn : ("nn" : Str) = SX.S [110, 110] := by decide +kernel
theorem s_nnc : ("nnc" : Str) = SX.S [110, 110, 99] := by decide +kernel
theorem s_nnn : ("nnn" : Str) = SX.S [110, 110, 110] := by decide +kernel
theorem s_ncc : ("ncc" : Str) = SX.S [110, 99, 99] := by decide +kernel
theorem s_w : ("w" : Str) = SX.S [119] := by decide +kernel
theorem s_nil : ("" : Str) = SX.S [] := by decide +kernel
def FoundC (ws : List (List Nat)) : Prop := 7 ≤ ws.length ∧ ws.length % 3 = 1 ∧ (ws.getD 3 [] = kPlain ∨ ws.getD 3 [] = kBids)
instance : Decidable (FoundC ws) := by unfold FoundC; exact inferInstance
def shapeF (m : Nat) : List Nat := [110, 99, 119] ++ (List.replicate m [110, 99, 99]).flatten
def shapeW (ws : List (List Nat)) : List Nat := if ws.getD 0 [] = kFound ∧ FoundC ws then shapeF ((ws.length - 4) / 3) else (lookN shL (ws.getD 0 [])).getD []
def sp_law_shape (K : PySem.W.Frag) : Sp := fun vs H Q _ => ∃ (p : Addr) (ws : List (List Nat)), vs = [.ref p] ∧ SqL K H p (ws.map vS) ∧ 1 ≤ ws.length ∧ ws.length ≤ 60000 ∧ ∀ H', Same H H' → Q (vS (shapeW ws)) H'
theorem x_dispS {trs : List (TE × TE)} {σ : St} {H : Hp} {Q : VK} (h : ∀ p, H p = none → tPairs trs σ (upd H p (.dK [])) fun ps H2 => H2 p = some (.dK []) ∧ ∃ kvs : List (Key × V), ps = kvs.map (fun kv => (kV kv.1, kv.2)) ∧ kvs.length ≤ 15 ∧ Q (.ref p) (upd H2 p (.dK (mergeK [] kvs)))) : tDisp trs σ H Q := h
theorem x_pcS {tk tv : TE} {r : List (TE × TE)} {σ : St} {H : Hp} {Q : List (V × V) → Hp → Prop} (h : tk σ H fun x H1 => tv σ H1 fun y H2 => tPairs r σ H2 fun ps H3 => Q ((x, y) :: ps) H3) : tPairs ((tk, tv) :: r) σ H Q := h
theorem x_pnS {σ : St} {H : Hp} {Q : List (V × V) → Hp → Prop} (h : Q [] H) : tPairs [] σ H Q := h
theorem mergeK_kvN : ∀ (l a : List (List Nat × V)), mergeK (kvN a) (kvN l) = kvN (l.foldl (fun acc p => putN acc p.1 p.2) a)
  | [], a => rfl
  | p :: l, a => by
    show mergeK (putK (kvN a) (nk p.1) p.2) (kvN l) = _
    rw [putK_kvN, mergeK_kvN l]; rfl
def sh7 : List (List Nat × V) := [(kEnter, vS [110]), (kPart, vS [110]), (kBring, vS [110, 99]), (kTake, vS [110, 99]), (kPay, vS [110, 110]), (kBid, vS [110, 110, 99]), (kLay, vS [110, 110, 99])]
theorem sh9 : putN (putN (sh7.foldl (fun acc p => putN acc p.1 p.2) []) kSwap (vS [110, 110, 110])) kClose (vS [110]) = mapN vS shL := by rfl
abbrev N_law_shape : List Str := ["_law_words", "_law_shapes"]
def t_law_shape (K : PySem.W.Frag) : TS :=
 (tSeq (tAsg (tDisp [((tC (.str "enter")), (tC (.str "n"))), ((tC (.str "part")), (tC (.str "n"))), ((tC (.str "bring")), (tC (.str "nc"))), ((tC (.str "take")), (tC (.str "nc"))), ((tC (.str "pay")), (tC (.str "nn"))), ((tC (.str "bid")), (tC (.str "nnc"))), ((tC (.str "lay")), (tC (.str "nnc")))]) (gName 1))
 (tSeq (sDPut (tVar 1) (tC (.str "swap")) (tC (.str "nnn")))
 (tSeq (sDPut (tVar 1) (tC (.str "close")) (tC (.str "n")))
 (tSeq (tIfS (tAnd (tTest (tOp rEq (tOp (rIxL K) (tVar 0) (tC (.int 0))) (tC (.str "found")))) (tAnd (tTest (tOp rGt (tCB (rLenSeq K) (tCons (tVar 0) tNil)) (tC (.int 6)))) (tAnd (tTest (tOp rEq (tOp rMod (tCB (rLenSeq K) (tCons (tVar 0) tNil)) (tC (.int 3))) (tC (.int 1)))) (tTest (tOp (rIn K false) (tOp (rIxL K) (tVar 0) (tC (.int 3))) (tTup (tCons (tC (.str "plain")) (tCons (tC (.str "bids")) tNil))))))))
 (tRet (tOp rCatS (tOp rCatS (tC (.str "nc")) (tC (.str "w"))) (tOp rMulS (tC (.str "ncc")) (tOp rDiv (tOp rSub (tCB (rLenSeq K) (tCons (tVar 0) tNil)) (tC (.int 4))) (tC (.int 3))))))
 tNext)
 (tRet (tDGet2 (tVar 1) (tOp (rIxL K) (tVar 0) (tC (.int 0))) (tC (.str ""))))))))

theorem len_law_shape {K : PySem.W.Frag} : ∀ vs H Q E, sp_law_shape K vs H Q E → vs.length = ["a"].length := by
  rintro vs H Q E ⟨_, _, rfl, _⟩; rfl
theorem pure_law_shape {K : PySem.W.Frag} {vs : List V} {H : Hp} {Q : VK} {E : XK} (h : sp_law_shape K vs H Q E) : t_law_shape K { nx := fun _ H' => Q .non H', rt := Q } (start N_law_shape vs) H := by
  obtain ⟨p, ws, rfl, hS, l1, l2, k⟩ := h
  unfold t_law_shape
  rw [s_enter, s_part, s_bring, s_take, s_found, s_pay, s_bid, s_lay, s_swap, s_close, s_plain, s_bids, s_nc, s_nn, s_nnc, s_nnn, s_ncc, s_w, s_n, s_nil]
  walk_at "xs"
  refine x_dispS fun D nD => ?_
  refine x_pcS ?_
  walk_at "xs"
  refine x_pcS ?_
  walk_at "xs"
  refine x_pcS ?_
  walk_at "xs"
  refine x_pcS ?_
  walk_at "xs"
  refine x_pcS ?_
  walk_at "xs"
  refine x_pcS ?_
  walk_at "xs"
  refine x_pcS ?_
  walk_at "xs"
  refine x_pnS ?_
  refine ⟨upd_same, kvN sh7, rfl, by decide, ?_⟩
  rw [upd_upd, show mergeK [] (kvN sh7) = _ from mergeK_kvN sh7 []]
  have s1 : Same H (upd H D (.dK (kvN (sh7.foldl (fun acc p => putN acc p.1 p.2) [])))) := same_new (Same.refl H) nD
  have hD1 : upd H D (.dK (kvN (sh7.foldl (fun acc p => putN acc p.1 p.2) []))) D = some (.dK (kvN (sh7.foldl (fun acc p => putN acc p.1 p.2) []))) := upd_same
  generalize upd H D (.dK (kvN (sh7.foldl (fun acc p => putN acc p.1 p.2) []))) = H1 at s1 hD1
  walk_at "xs"
  refine ⟨D, _, rfl, put_N hD1 (by decide), ?_⟩
  walk_at "xs"
  refine ⟨D, _, rfl, put_N upd_same (by decide), ?_⟩
  rw [upd_upd, sh9]
  have s2 : Same H (upd H1 D (.dK (kvN (mapN vS shL)))) := same_upd s1 nD
  have hD : upd H1 D (.dK (kvN (mapN vS shL))) D = some (.dK (kvN (mapN vS shL))) := upd_same
  generalize upd H1 D (.dK (kvN (mapN vS shL))) = H2 at s2 hD
  have fin : ∀ H3, Same H2 H3 → ¬ (ws.getD 0 [] = kFound ∧ FoundC ws) → ∃ a, V.ref D = .ref a ∧ IsD H3 a ∧ tOp (rIxL K) (tVar 0) (tC (.int 0)) [some (.ref p), some (.ref D)] H3 fun y H2 => tC (.str (SX.S [])) [some (.ref p), some (.ref D)] H2 fun z H3 => ∃ o, DGet H3 a y o ∧ Q (o.getD z) H3 := fun H3 s3 nf => by
    refine ⟨D, rfl, .inl ⟨_, .inl (s3 _ _ hD)⟩, ?_⟩
    walk_at "xs"
    refine x_ixW ((s2.trans s3).seq hS) (by decide) (by omega) ?_
    walk_at "xs"
    refine ⟨_, get_N (s3 _ _ hD), ?_⟩
    rw [lookN_mapN, show (Int.toNat 0) = 0 by rfl]
    have := k H3 (s2.trans s3)
    unfold shapeW at this
    rw [if_neg nf] at this
    cases hl : lookN shL (ws.getD 0 []) with
    | none => rw [hl] at this; exact this
    | some s => rw [hl] at this; exact this
  walk_at "xs"
  refine x_ixW (s2.seq hS) (by decide) (by omega) ?_
  rw [show (Int.toNat 0) = 0 by rfl]
  walk_at "xs"
  rw [dec_S]
  walk_at "if"
  · rename_i c1
    walk_at "xs"
    refine x_lenL (s2.seq hS) ?_
    rw [List.length_map]
    walk_at "xs"
    walk_at "if"
    · rename_i c2
      walk_at "xs"
      refine x_lenL (s2.seq hS) ?_
      rw [List.length_map]
      walk_at "xs"
      walk_at "if"
      · rename_i c3
        walk_at "xs"
        refine x_ixW (s2.seq hS) (by decide) (by omega) ?_
        rw [show (Int.toNat 3) = 3 by rfl]
        walk_at "xs"
        refine al_tup fun t H3 nt s3 ht => ?_
        walk_at "xs"
        have ht' : SqT K H3 t (([kPlain, kBids] : List (List Nat)).map vS) := SqT.of ht
        refine ⟨t, _, rfl, .inr ht', rfl, flat_str _, ?_⟩
        rw [if_neg Bool.false_ne_true, inV_str]
        walk_at "xs"
        walk_at "if"
        · rename_i c4
          have c4 : ws.getD 3 [] = kPlain ∨ ws.getD 3 [] = kBids := by simpa using c4
          walk_at "xs"
          refine x_catS (by decide) ?_
          walk_at "xs"
          refine x_lenL ((s2.trans s3).seq hS) ?_
          rw [List.length_map]
          walk_at "xs"
          obtain ⟨m, hm⟩ : ∃ m : Nat, m = (ws.length - 4) / 3 := ⟨_, rfl⟩
          rw [show ((ws.length : Int) - 4) / 3 = (m : Int) by omega]
          refine x_mulS (by decide) (by decide) (by omega) ?_
          have fl : (List.replicate m [110, 99, 99]).flatten.length = 3 * m := by
            clear hm
            induction m with
            | zero => rfl
            | succ m ih => rw [List.replicate_succ, List.flatten_cons, List.length_append, ih]; show 3 + _ = _; omega
          refine x_catS (by rw [fl]; simp; omega) ?_
          have := k H3 (s2.trans s3)
          unfold shapeW at this
          rw [if_pos ⟨c1, by omega, by omega, c4⟩, ← hm] at this
          exact this
        · rename_i c4
          have c4 : ¬ (ws.getD 3 [] = kPlain ∨ ws.getD 3 [] = kBids) := by simpa using c4
          walk_at "xs"
          exact fin H3 s3 fun z => c4 z.2.2.2
      · rename_i c3
        walk_at "xs"
        exact fin H2 (Same.refl _) fun z => c3 (by have := z.2.2.1; omega)
    · rename_i c2
      walk_at "xs"
      exact fin H2 (Same.refl _) fun z => c2 (by have := z.2.1; omega)
  · rename_i c1
    walk_at "xs"
    exact fin H2 (Same.refl _) fun z => c1 z.1

end Su
namespace Su
open PySem L2
local macro_rules | `(tactic| walk_at "side") => `(tactic| first | assumption | (show (0 : Int) < _; omega) | (show (0 : Int) ≤ _; omega) | (show (0 : Int) < _; split <;> omega) | (show _ ∨ _; omega) | (show _ ∧ _; omega) | exact ⟨by decide, by decide, by decide⟩ | exact ⟨by first | assumption | omega, by first | assumption | omega⟩)
local macro_rules | `(tactic| walk_at "x") => `(tactic| first | with_reducible refine Su.x_seq ?_ | with_reducible refine Su.x_asg ?_ | with_reducible refine Su.x_gname ?_ | with_reducible refine Su.x_drop ?_ | with_reducible refine Su.x_ret ?_ | with_reducible refine Su.x_ifS ?_ | ((with_reducible show L2.tVar _ _ _ _); refine Su.x_var rfl ?_) | with_reducible refine Su.x_c ?_ | with_reducible refine Su.x_op ?_ | with_reducible refine Su.x_rI0 ?_ | with_reducible refine Su.x_iteF ?_ | with_reducible refine Su.x_iteT ?_ | with_reducible refine Su.x_iteNT ?_ | with_reducible refine Su.x_iteNF ?_ | with_reducible refine Su.x_neI ?_ | with_reducible refine Su.x_eqS ?_ | with_reducible refine Su.x_neS ?_ | with_reducible refine Su.x_test ?_ | with_reducible refine Su.x_tB ?_ | with_reducible refine Su.x_isB' ?_ | with_reducible refine Su.x_not ?_ | with_reducible refine Su.x_and ?_ | with_reducible refine Su.x_or ?_ | with_reducible refine Su.x_nil ?_ | with_reducible refine Su.x_cons ?_ | with_reducible refine Su.x_cb ?_ | with_reducible refine Su.x_call ?_ | with_reducible refine Su.x_lst ?_ | with_reducible refine Su.x_tup ?_ | with_reducible refine Su.x_bmL ?_ | with_reducible refine Su.x_next ?_ | with_reducible refine Su.x_for ?_ | with_reducible refine Su.x_gcons ?_ | with_reducible refine Su.x_gnil ?_ | with_reducible refine Su.x_yes ?_ | with_reducible refine Su.x_lc ?_ | with_reducible refine Su.x_sl ?_ | with_reducible refine Su.x_nopart ?_ | with_reducible refine Su.x_part ?_ | with_reducible refine Su.x_isI ?_)
local macro_rules | `(tactic| walk_at "xs") => `(tactic| repeat walk_at "x")
local macro_rules | `(tactic| walk_at "if") => `(tactic| first | with_reducible refine Su.x_iteD (fun c => ?_) (fun c => ?_) | with_reducible refine Su.x_iteN (fun c => ?_) (fun c => ?_) | with_reducible refine Su.x_ite (fun c => ?_) (fun c => ?_))
local macro_rules | `(tactic| walk_at "x") => `(tactic| first | with_reducible refine Su.x_m1 ?_ | with_reducible refine Su.x_strE ?_)

/-! _law_read -/
@[reducible] def Part.v : Part → V
  | .n w => vS w
  | .c i => .int i
theorem Part.dv {K : PySem.W.Frag} {H : Hp} : ∀ p : Part, Dp K H p.v p.d
  | .n w => .str _
  | .c i => .int _
def partB2 (s : List Nat) (ws : List (List Nat)) (i : Nat) : Bool := if s.getD i 0 = 110 then nameB (ws.getD (i + 1) []) else if s.getD i 0 = 99 then numB (ws.getD (i + 1) []) else true
def partV2 (s : List Nat) (ws : List (List Nat)) (i : Nat) : Part := if s.getD i 0 = 99 then .c (numV (ws.getD (i + 1) [])) else .n (ws.getD (i + 1) [])
def partsOf (s : List Nat) (ws : List (List Nat)) (n : Nat) : List Part := Part.n (ws.getD 0 []) :: (List.range n).map (partV2 s ws)
/-- what the law tells of the words -/
def lawR (ws : List (List Nat)) : Option Dd :=
  if shapeW ws ≠ [] ∧ ws.length = (shapeW ws).length + 1 ∧ (List.range (shapeW ws).length).all (partB2 (shapeW ws) ws) = true then
    if ws.getD 0 [] = kFound then some (.found (ws.getD 1 []) (numV (ws.getD 2 [])) (decide (ws.getD 3 [] = kBids)) ((List.range ((ws.length - 4) / 3)).map (seatV3 ws)))
    else some (.plain (ws.getD 0 []) ((List.range (shapeW ws).length).map (partV2 (shapeW ws) ws)))
  else none
theorem sh_kinds {w s : List Nat} (e : lookN shL w = some s) : ∀ c ∈ s, c = 110 ∨ c = 99 := by
  have := sh_all (P := fun p => p.2.all fun c => decide (c = 110 ∨ c = 99)) (by decide +kernel) e
  intro c hc
  have := List.all_eq_true.mp this c hc
  simpa using this
theorem flat_rep_len (m : Nat) : (List.replicate m [110, 99, 99]).flatten.length = 3 * m := by
  induction m with
  | zero => rfl
  | succ m ih => rw [List.replicate_succ, List.flatten_cons, List.length_append, ih]; show 3 + _ = _; omega
theorem flat_rep_at : ∀ (m k j : Nat), k < m → j < 3 → (List.replicate m [110, 99, 99]).flatten.getD (3 * k + j) 0 = ([110, 99, 99] : List Nat).getD j 0
  | 0, _, _, h, _ => absurd h (Nat.not_lt_zero _)
  | m + 1, 0, j, _, hj => by
    rw [List.replicate_succ, List.flatten_cons, getD_app1 (by show _ < 3; omega), show 3 * 0 + j = j by omega]
  | m + 1, k + 1, j, h, hj => by
    rw [List.replicate_succ, List.flatten_cons, getD_app2 (by show 3 ≤ _; omega), show 3 * (k + 1) + j - ([110, 99, 99] : List Nat).length = 3 * k + j by show _ - 3 = _; omega]
    exact flat_rep_at m k j (by omega) hj
theorem shapeF_len (m : Nat) : (shapeF m).length = 3 + 3 * m := by unfold shapeF; rw [List.length_append, flat_rep_len]; rfl
theorem shapeF_at {m k j : Nat} (hk : k < m) (hj : j < 3) : (shapeF m).getD (3 + 3 * k + j) 0 = ([110, 99, 99] : List Nat).getD j 0 := by
  unfold shapeF
  rw [getD_app2 (by show 3 ≤ _; omega), show 3 + 3 * k + j - ([110, 99, 119] : List Nat).length = 3 * k + j by show _ - 3 = _; omega]
  exact flat_rep_at m k j hk hj
theorem lawR_eq (ws : List (List Nat)) : lawR ws = readW ws := by
  unfold lawR readW
  by_cases c : ws.getD 0 [] = kFound
  · simp only [if_pos c]
    by_cases f : FoundC ws
    · have es : shapeW ws = shapeF ((ws.length - 4) / 3) := by unfold shapeW; rw [if_pos ⟨c, f⟩]
      obtain ⟨m, hm⟩ : ∃ m, m = (ws.length - 4) / 3 := ⟨_, rfl⟩
      have f1 := f.1
      have f2 := f.2.1
      have wl : ws.length = 4 + 3 * m := by omega
      rw [es, ← hm, shapeF_len]
      unfold readF
      rw [if_pos (show 7 ≤ ws.length ∧ ws.length % 3 = 1 ∧ (ws.getD 3 [] = kPlain ∨ ws.getD 3 [] = kBids) from f), ← hm]
      have b0 : partB2 (shapeF m) ws 0 = nameB (ws.getD 1 []) := rfl
      have b1 : partB2 (shapeF m) ws 1 = numB (ws.getD 2 []) := rfl
      have b2 : partB2 (shapeF m) ws 2 = true := rfl
      have bk : ∀ k, k < m → seatB3 ws k = ((partB2 (shapeF m) ws (3 + 3 * k) && partB2 (shapeF m) ws (3 + 3 * k + 1)) && partB2 (shapeF m) ws (3 + 3 * k + 2)) := fun k hk => by
        have a0 := shapeF_at hk (show 0 < 3 by decide)
        have a1 := shapeF_at hk (show 1 < 3 by decide)
        have a2 := shapeF_at hk (show 2 < 3 by decide)
        rw [Nat.add_zero] at a0
        unfold partB2 seatB3
        rw [a0, a1, a2, show 3 + 3 * k + 1 = 4 + 3 * k by omega, show 3 + 3 * k + 2 = 4 + 3 * k + 1 by omega]
        rfl
      have all : (List.range (3 + 3 * m)).all (partB2 (shapeF m) ws) = true ↔ nameB (ws.getD 1 []) = true ∧ numB (ws.getD 2 []) = true ∧ (List.range m).all (seatB3 ws) = true := by
        simp only [List.all_eq_true, List.mem_range]
        constructor
        · intro h
          refine ⟨b0 ▸ h 0 (by omega), b1 ▸ h 1 (by omega), fun k hk => ?_⟩
          rw [bk k hk, h _ (by omega), h _ (by omega), h _ (by omega)]; rfl
        · rintro ⟨h0, h1, h2⟩ i hi
          by_cases i3 : i < 3
          · match i, i3 with
            | 0, _ => rw [b0]; exact h0
            | 1, _ => rw [b1]; exact h1
            | 2, _ => exact b2
          · have hk : (i - 3) / 3 < m := by omega
            have := h2 _ hk
            rw [bk _ hk] at this
            simp only [Bool.and_eq_true] at this
            have e : i = 3 + 3 * ((i - 3) / 3) ∨ i = 3 + 3 * ((i - 3) / 3) + 1 ∨ i = 3 + 3 * ((i - 3) / 3) + 2 := by omega
            rcases e with e | e | e <;> rw [e]
            · exact this.1.1
            · exact this.1.2
            · exact this.2
      by_cases a : (List.range (3 + 3 * m)).all (partB2 (shapeF m) ws) = true
      · rw [if_pos (all.mp a), if_pos ⟨fun z => by have := congrArg List.length z; rw [shapeF_len] at this; simp at this, by omega, a⟩]
      · rw [if_neg (fun z => a (all.mpr z)), if_neg (fun z => a z.2.2)]
    · have es : shapeW ws = [] := by
        unfold shapeW
        rw [if_neg (fun z => f z.2), c]
        rfl
      rw [es, if_neg (fun z => z.1 rfl)]
      unfold readF
      rw [if_neg (show ¬ (7 ≤ ws.length ∧ ws.length % 3 = 1 ∧ (ws.getD 3 [] = kPlain ∨ ws.getD 3 [] = kBids)) from f)]
  · simp only [if_neg c]
    have es : shapeW ws = (lookN shL (ws.getD 0 [])).getD [] := by unfold shapeW; rw [if_neg (fun z => c z.1)]
    rw [es]
    cases hs : lookN shL (ws.getD 0 []) with
    | none =>
      rw [if_neg (fun z => z.1 rfl)]
      rfl
    | some s =>
      show _ = readP s ws
      have sl := (sh_len hs).2
      have kd := sh_kinds hs
      have at_ : ∀ i, i < s.length → s.getD i 0 = 110 ∨ s.getD i 0 = 99 := fun i hi => by
        rw [List.getD_eq_getElem?_getD, List.getElem?_eq_getElem hi]
        exact kd _ (List.getElem_mem hi)
      have eb : ∀ i, i < s.length → partB2 s ws i = partB s ws i := fun i hi => by
        unfold partB2 partB
        rcases at_ i hi with e | e <;> rw [e] <;> rfl
      have ev : ∀ i, i < s.length → partV2 s ws i = partV s ws i := fun i hi => by
        unfold partV2 partV
        rcases at_ i hi with e | e <;> rw [e] <;> rfl
      show (if s ≠ [] ∧ ws.length = s.length + 1 ∧ (List.range s.length).all (partB2 s ws) = true then some (.plain (ws.getD 0 []) ((List.range s.length).map (partV2 s ws))) else none) = readP s ws
      unfold readP
      have ea : (List.range s.length).all (partB2 s ws) = (List.range s.length).all (partB s ws) := by
        rw [Bool.eq_iff_iff, List.all_eq_true, List.all_eq_true]
        exact ⟨fun h i hi => by rw [← eb i (List.mem_range.mp hi)]; exact h i hi, fun h i hi => by rw [eb i (List.mem_range.mp hi)]; exact h i hi⟩
      have em : (List.range s.length).map (partV2 s ws) = (List.range s.length).map (partV s ws) := List.map_congr_left fun i hi => ev i (List.mem_range.mp hi)
      rw [ea, em]
      by_cases q : ws.length = s.length + 1 ∧ (List.range s.length).all (partB s ws) = true
      · rw [if_pos q, if_pos ⟨fun z => by rw [z] at sl; simp at sl, q⟩]
      · rw [if_neg q, if_neg (fun z => q z.2)]
def sp_law_read (K : PySem.W.Frag) : Sp := fun vs H Q _ => ∃ (t : List Nat), vs = [vS t] ∧ t.length ≤ 50000 ∧
  (∀ d, readW (TL.spl [32] 0 [] t) = some d → ∀ x H', Same H H' → Dp K H' x d.d → (∃ a, x = .ref a) → Q x H') ∧ (readW (TL.spl [32] 0 [] t) = none → ∀ H', Same H H' → Q .non H')
abbrev N_law_read : List Str := ["_law_line_here", "_law_words", "_law_shape_here", "_law_parts", "_law_kind", "_law_word", "_law_seats", "_law_at"]
def t_law_read (K : PySem.W.Frag) : TS :=
 (tSeq (tAsg (tM1 rSplit (tVar 0) (tC (.str " "))) (gName 1))
 (tSeq (tAsg (tCall (sp_law_shape K) [] E0 (tCons (tVar 1) tNil)) (gName 2))
 (tSeq (tIfS (tOr (tTest (tOp rEq (tVar 2) (tC (.str "")))) (tTest (tOp rNe (tCB (rLenSeq K) (tCons (tVar 1) tNil)) (tOp rAdd (tCB rLenStr (tCons (tVar 2) tNil)) (tC (.int 1))))))
 (tRet (tC .non))
 tNext)
 (tSeq (tAsg (tLst (tCons (tOp (rIxL K) (tVar 1) (tC (.int 0))) tNil)) (gName 3))
 (tSeq (tFor (iZipS K (tCons (tVar 2) (tCons (tSl (rSlL K) (tVar 1) (tPart (tC (.int 1))) tNoPart) tNil))) (gTup K 2 (gCons (gName 4) (gCons (gName 5) gNil)))
 (tSeq (tIfS (tOr (tAnd (tTest (tOp rEq (tVar 4) (tC (.str "n")))) (tNot (tB (tCall (sp_law_is_name K) [] E0 (tCons (tVar 5) tNil))))) (tAnd (tTest (tOp rEq (tVar 4) (tC (.str "c")))) (tNot (tB (tCall (sp_law_is_number K) [] E0 (tCons (tVar 5) tNil))))))
 (tRet (tC .non))
 tNext)
 (tIfS (tTest (tOp rEq (tVar 4) (tC (.str "c"))))
 (tDrop (tBM K "list" rAppend (tVar 3) (tCons (tCB rIntStr (tCons (tVar 5) tNil)) tNil)))
 (tDrop (tBM K "list" rAppend (tVar 3) (tCons (tVar 5) tNil))))))
 (tSeq (tIfS (tTest (tOp rNe (tOp (rIxL K) (tVar 1) (tC (.int 0))) (tC (.str "found"))))
 (tRet (tCB (rTupleOf K) (tCons (tVar 3) tNil)))
 tNext)
 (tSeq (tAsg (tLc (iRng3 (tCons (tC (.int 4)) (tCons (tCB (rLenSeq K) (tCons (tVar 3) tNil)) (tCons (tC (.int 3)) tNil)))) (gName 7) tYes (tTup (tCons (tOp (rIxL K) (tVar 3) (tVar 7)) (tCons (tOp (rIxL K) (tVar 3) (tOp rAdd (tVar 7) (tC (.int 1)))) (tCons (tOp (rIxL K) (tVar 3) (tOp rAdd (tVar 7) (tC (.int 2)))) tNil)))) [7]) (gName 6))
 (tRet (tTup (tCons (tOp (rIxL K) (tVar 3) (tC (.int 0))) (tCons (tOp (rIxL K) (tVar 3) (tC (.int 1))) (tCons (tOp (rIxL K) (tVar 3) (tC (.int 2))) (tCons (tOp rEq (tOp (rIxL K) (tVar 3) (tC (.int 3))) (tC (.str "bids"))) (tCons (tCB (rTupleOf K) (tCons (tVar 6) tNil)) tNil))))))))))))))

theorem len_law_read {K : PySem.W.Frag} : ∀ vs H Q E, sp_law_read K vs H Q E → vs.length = ["a"].length := by
  rintro vs H Q E ⟨_, rfl, _⟩; rfl
theorem pure_law_read {K : PySem.W.Frag} {vs : List V} {H : Hp} {Q : VK} {E : XK} (h : sp_law_read K vs H Q E) : t_law_read K { nx := fun _ H' => Q .non H', rt := Q } (start N_law_read vs) H := by
  obtain ⟨t, rfl, hl, k1, k2⟩ := h
  unfold t_law_read
  rw [s_blank, s_found, s_n, s_c, s_nil, s_bids]
  rw [← lawR_eq] at k1 k2
  have sw := spl_small (S := [32]) t 0 []
  have sp := spl_pos (S := [32]) t 0 []
  walk_at "xs"
  refine al_split (by omega) fun p H1 np s1 hp => ?_
  generalize TL.spl [32] 0 [] t = ws at *
  have hwl : ∀ w ∈ ws, w.length ≤ 100000 := fun w hw => by have := sw.1 w hw; simp only [List.length_nil] at this; omega
  have wl : ws.length ≤ 50001 := by have := sw.2; omega
  clear sw
  walk_at "xs"
  refine ⟨p, ws, rfl, SqL.of hp, by omega, by omega, fun H2 s2 => ?_⟩
  have hp2 := s2 _ _ hp
  have s02 := s1.trans s2
  have hwn : TL.spl [32] 0 [] t = TL.spl [32] 0 [] t := rfl
  clear hwn
  obtain ⟨s, hs⟩ : ∃ s, s = shapeW ws := ⟨_, rfl⟩
  unfold lawR at k1 k2
  rw [← hs] at k1 k2 ⊢
  have sl : s.length ≤ 60000 := by
    rw [hs]; unfold shapeW
    split
    · rw [shapeF_len]; omega
    · cases e : lookN shL (ws.getD 0 []) with
      | none => exact Nat.zero_le _
      | some z => have := (sh_len e).2; show z.length ≤ _; omega
  walk_at "xs"
  rw [dec_S]
  walk_at "if"
  · rename_i c1
    walk_at "xs"
    exact k2 (by rw [if_neg (fun z => z.1 c1)]) H2 s02
  rename_i c1
  walk_at "xs"
  refine x_lenL (SqL.of hp2) ?_
  rw [List.length_map]
  walk_at "xs"
  refine x_lenTx (by omega) ?_
  walk_at "xs"
  walk_at "if"
  · rename_i c2
    walk_at "xs"
    exact k2 (by rw [if_neg (fun z => c2 (by have := z.2.1; omega))]) H2 s02
  rename_i c2
  have c2 : ws.length = s.length + 1 := by omega
  walk_at "xs"
  refine x_ixW (SqL.of hp2) (by decide) (by omega) ?_
  rw [show (Int.toNat 0) = 0 by rfl]
  walk_at "xs"
  refine al_lst fun r H3 nr s3 hr => ?_
  have hp3 := s3 _ _ hp2
  walk_at "xs"
  refine x_iZipS ?_
  walk_at "xs"
  refine al_slFrom1 (SqL.of hp3) fun q H4 nq s4 hq => ?_
  walk_at "xs"
  have zl : s.length = ((ws.drop 1).map vS).length := by rw [List.length_map, List.length_drop]; omega
  have hr4 := s4 _ _ hr
  have hp4 := s4 _ _ hp3
  refine ⟨SX.S s, q, (ws.drop 1).map vS, rfl, SqL.of hq, ?_⟩
  have stop : ∀ i, i < s.length → partB2 s ws i = false → ∀ H', Same H2 H' → Q .non H' := fun i hi z H' e => k2 (by
    rw [if_neg (fun q => by
      have := List.all_eq_true.mp q.2.2 i (List.mem_range.mpr hi)
      rw [z] at this; cases this)]) H' (s02.trans e)
  have nr2 : H2 r = none := nr
  have rq : q ≠ r := fun z => by rw [z, hr] at nq; cases nq
  refine for_by (turnsZS zl) (fun i σ H' => ∃ (u1 u2 u3 : Option V), σ = [some (vS t), some (.ref p), some (vS s), some (.ref r), u1, u2, u3, none] ∧ Same H2 H' ∧ H' q = some (.lst ((ws.drop 1).map vS)) ∧ H' r = some (.lst ((partsOf s ws i).map Part.v)) ∧ (List.range i).all (partB2 s ws) = true)
    ⟨none, none, none, rfl, s3.trans s4, hq, hr4, rfl⟩ (by rintro i σ H' _ ⟨_, _, _, _, _, e, _⟩; exact SqL.of e) ?_ ?_
  · rintro i y σ H5 H6 hi ⟨u1, u2, u3, rfl, s5, hq5, hr5, ha⟩ ⟨c, w, hc, hw, T, rfl, hT, sT, ht, _⟩
    have e1 : w = vS (ws.getD (i + 1) []) := by
      rw [List.getElem?_map, List.getElem?_drop] at hw
      rw [List.getD_eq_getElem?_getD, show i + 1 = 1 + i by omega]
      cases e : ws[1 + i]? with
      | none => rw [e] at hw; cases hw
      | some z => rw [e] at hw; cases hw; rfl
    have e2 : s.getD i 0 = c := by rw [List.getD_eq_getElem?_getD, hc]; rfl
    subst e1
    have s6 := s5.trans sT
    have hr6 := sT _ _ hr5
    have hq6 := sT _ _ hq5
    have st := stop i hi
    have pv : partV2 s ws i = if c = 99 then .c (numV (ws.getD (i + 1) [])) else .n (ws.getD (i + 1) []) := by unfold partV2; rw [e2]
    have pb : partB2 s ws i = if c = 110 then nameB (ws.getD (i + 1) []) else if c = 99 then numB (ws.getD (i + 1) []) else true := by unfold partB2; rw [e2]
    have more : partsOf s ws (i + 1) = partsOf s ws i ++ [partV2 s ws i] := by unfold partsOf; rw [List.range_succ, List.map_append]; rfl
    have pl : ((partsOf s ws i).map Part.v).length = i + 1 := by unfold partsOf; simp
    have gl := getW hwl (i + 1)
    generalize ws.getD (i + 1) [] = w at pv pb gl ht ⊢
    refine x_gtup (SqT.of ht) rfl ?_
    have tail : ∀ bkk H7, Same H6 H7 → partB2 s ws i = true → if decide (([c] : List Nat) = [99]) = true then
        (tDrop (tBM K "list" rAppend (tVar 3) (tCons (tCB rIntStr (tCons (tVar 5) tNil)) tNil)))
        { nx := fun σ H' => ∃ (u1 u2 u3 : Option V), σ = [some (vS t), some (.ref p), some (vS s), some (.ref r), u1, u2, u3, none] ∧ Same H2 H' ∧ H' q = some (.lst ((ws.drop 1).map vS)) ∧ H' r = some (.lst ((partsOf s ws (i + 1)).map Part.v)) ∧ (List.range (i + 1)).all (partB2 s ws) = true, ct := fun σ H' => ∃ (u1 u2 u3 : Option V), σ = [some (vS t), some (.ref p), some (vS s), some (.ref r), u1, u2, u3, none] ∧ Same H2 H' ∧ H' q = some (.lst ((ws.drop 1).map vS)) ∧ H' r = some (.lst ((partsOf s ws (i + 1)).map Part.v)) ∧ (List.range (i + 1)).all (partB2 s ws) = true, rt := Q, bk := bkk } [some (vS t), some (.ref p), some (vS s), some (.ref r), some (vS [c]), some (vS w), u3, none] H7
        else (tDrop (tBM K "list" rAppend (tVar 3) (tCons (tVar 5) tNil)))
        { nx := fun σ H' => ∃ (u1 u2 u3 : Option V), σ = [some (vS t), some (.ref p), some (vS s), some (.ref r), u1, u2, u3, none] ∧ Same H2 H' ∧ H' q = some (.lst ((ws.drop 1).map vS)) ∧ H' r = some (.lst ((partsOf s ws (i + 1)).map Part.v)) ∧ (List.range (i + 1)).all (partB2 s ws) = true, ct := fun σ H' => ∃ (u1 u2 u3 : Option V), σ = [some (vS t), some (.ref p), some (vS s), some (.ref r), u1, u2, u3, none] ∧ Same H2 H' ∧ H' q = some (.lst ((ws.drop 1).map vS)) ∧ H' r = some (.lst ((partsOf s ws (i + 1)).map Part.v)) ∧ (List.range (i + 1)).all (partB2 s ws) = true, rt := Q, bk := bkk } [some (vS t), some (.ref p), some (vS s), some (.ref r), some (vS [c]), some (vS w), u3, none] H7 := fun bkk H7 s7 bt => by
      have all1 : (List.range (i + 1)).all (partB2 s ws) = true := by rw [List.range_succ, List.all_append, ha]; simp [bt]
      have hr7 := s7 _ _ hr6
      have hq7 := s7 _ _ hq6
      walk_at "if"
      · rename_i c5
        have c5 : c = 99 := by simpa using c5
        rw [if_neg (by omega), if_pos c5, bt] at pb
        rw [if_pos c5] at pv
        have hb : numB w = true := pb.symm
        unfold numB at hb
        simp only [Bool.and_eq_true, decide_eq_true_eq] at hb
        walk_at "xs"
        refine ⟨tyL (SqL.of hr7), ?_⟩
        walk_at "xs"
        refine x_intTx hb.1.2 hb.1.1.1 hb.1.1.2 ?_
        walk_at "xs"
        refine x_append hr7 (small (by omega)) ?_
        exact ⟨_, _, _, rfl, same_upd (s6.trans s7) nr2, at_upd hq7 rq.symm, by rw [upd_same, more, List.map_append, pv]; rfl, all1⟩
      · rename_i c5
        have c5 : ¬ c = 99 := fun z => c5 (by rw [z])
        rw [if_neg c5] at pv
        walk_at "xs"
        refine ⟨tyL (SqL.of hr7), ?_⟩
        walk_at "xs"
        refine x_append hr7 (small (by omega)) ?_
        exact ⟨_, _, _, rfl, same_upd (s6.trans s7) nr2, at_upd hq7 rq.symm, by rw [upd_same, more, List.map_append, pv]; rfl, all1⟩
    walk_at "xs"
    rw [dec_S]
    walk_at "if"
    · rename_i c4
      have c4 : c = 110 := by simpa using c4
      rw [if_pos c4] at pb
      walk_at "xs"
      refine ⟨w, rfl, gl, fun H7 s7 => ?_⟩
      cases hb : nameB w with
      | false =>
        walk_at "xs"
        exact st (by rw [pb, hb]) H7 (s6.trans s7)
      | true =>
        walk_at "xs"
        rw [dec_S]
        rw [decide_eq_false (show ¬ ([c] : List Nat) = [99] by rw [c4]; decide)]
        walk_at "xs"
        rw [dec_S]
        exact tail _ H7 s7 (by rw [pb, hb])
    · rename_i c4
      have c4 : ¬ c = 110 := fun z => c4 (by rw [z])
      rw [if_neg c4] at pb
      walk_at "xs"
      rw [dec_S]
      walk_at "if"
      · rename_i c5
        have c5 : c = 99 := by simpa using c5
        rw [if_pos c5] at pb
        walk_at "xs"
        refine ⟨w, rfl, gl, fun H7 s7 => ?_⟩
        cases hb : numB w with
        | false =>
          walk_at "xs"
          exact st (by rw [pb, hb]) H7 (s6.trans s7)
        | true =>
          walk_at "xs"
          rw [dec_S]
          exact tail _ H7 s7 (by rw [pb, hb])
      · rename_i c5
        have c5 : ¬ c = 99 := fun z => c5 (by rw [z])
        rw [if_neg c5] at pb
        walk_at "xs"
        rw [dec_S]
        exact tail _ H6 (Same.refl _) pb
  · rintro σ H5 ⟨u1, u2, u3, rfl, s5, hq5, hr5, ha⟩
    have hp5 := s5 _ _ hp2
    have good : s ≠ [] ∧ ws.length = s.length + 1 ∧ (List.range s.length).all (partB2 s ws) = true := ⟨c1, c2, ha⟩
    rw [if_pos good] at k1 k2
    walk_at "xs"
    refine x_ixW (SqL.of hp5) (by decide) (by omega) ?_
    rw [show (Int.toNat 0) = 0 by rfl]
    walk_at "xs"
    rw [dec_S]
    walk_at "if"
    · rename_i c6
      rw [if_neg c6] at k1
      walk_at "xs"
      refine x_tupleOfL (SqL.of hr5) fun q4 H6 nq4 s6 hq4 => ?_
      refine k1 _ rfl _ H6 ((s02.trans s5).trans s6) (.tup (SqT.of hq4) ?_) ⟨_, rfl⟩
      have : ∀ l : List Part, DpAll K H6 (l.map Part.v) (l.map Part.d) := fun l => by
        induction l with
        | nil => exact .nil
        | cons p l ih => exact .cons (Part.dv p) ih
      exact this _
    · rename_i c6
      rw [if_pos c6] at k1
      have fc : FoundC ws := Classical.byContradiction fun z => c1 (by
        rw [hs]; unfold shapeW
        rw [if_neg (fun y => z y.2), c6]; rfl)
      have es : s = shapeF ((ws.length - 4) / 3) := by rw [hs]; unfold shapeW; rw [if_pos ⟨c6, fc⟩]
      obtain ⟨m, hm⟩ : ∃ m, m = (ws.length - 4) / 3 := ⟨_, rfl⟩
      rw [← hm] at es k1
      have lm : s.length = 3 + 3 * m := by rw [es, shapeF_len]
      have pl : ((partsOf s ws s.length).map Part.v).length = 4 + 3 * m := by unfold partsOf; simp; omega
      have pat : ∀ {H' : Hp} {Q' : VK} {i : Int} {j : Nat}, Same H5 H' → i = (j : Int) → j < 4 + 3 * m → Q' ((partsOf s ws s.length).getD j (.n [])).v H' → rIxL K (.ref r) (.int i) H' Q' := fun {H' Q' i j} e hi hj q => by
        refine x_ixL (SqL.of (e _ _ hr5)) (v := ((partsOf s ws s.length).getD j (.n [])).v) ?_ q
        rw [hi]
        rw [at_get (d := (Part.n []).v) (by omega) (by rw [pl]; omega), List.getD_eq_getElem?_getD, List.getD_eq_getElem?_getD, List.getElem?_map]
        rw [show ((j : Int)).toNat = j by omega]
        cases (partsOf s ws s.length)[j]? <;> rfl
      have p1 : ∀ i, i < s.length → (partsOf s ws s.length).getD (i + 1) (.n []) = partV2 s ws i := fun i hi => by
        unfold partsOf
        rw [List.getD_cons_succ, List.getD_eq_getElem?_getD, List.getElem?_map, List.getElem?_range hi]; rfl
      have x0 : (partsOf s ws s.length).getD 0 (.n []) = .n kFound := by rw [← c6]; rfl
      have x1 : (partsOf s ws s.length).getD 1 (.n []) = .n (ws.getD 1 []) := by rw [p1 0 (by omega), es]; rfl
      have x2 : (partsOf s ws s.length).getD 2 (.n []) = .c (numV (ws.getD 2 [])) := by rw [p1 1 (by omega), es]; rfl
      have x3 : (partsOf s ws s.length).getD 3 (.n []) = .n (ws.getD 3 []) := by rw [p1 2 (by omega), es]; rfl
      have xk : ∀ k, k < m → (partsOf s ws s.length).getD (4 + 3 * k) (.n []) = .n (ws.getD (4 + 3 * k) []) ∧ (partsOf s ws s.length).getD (4 + 3 * k + 1) (.n []) = .c (numV (ws.getD (4 + 3 * k + 1) [])) ∧ (partsOf s ws s.length).getD (4 + 3 * k + 2) (.n []) = .c (numV (ws.getD (4 + 3 * k + 2) [])) := fun k hk => by
        have a0 := shapeF_at hk (show 0 < 3 by decide)
        have a1 := shapeF_at hk (show 1 < 3 by decide)
        have a2 := shapeF_at hk (show 2 < 3 by decide)
        rw [Nat.add_zero] at a0
        rw [show 4 + 3 * k = 3 + 3 * k + 1 by omega, show 3 + 3 * k + 1 + 1 = 3 + 3 * k + 1 + 1 by rfl, show 3 + 3 * k + 1 + 2 = 3 + 3 * k + 2 + 1 by omega, p1 _ (by omega), p1 _ (by omega), p1 _ (by omega)]
        unfold partV2
        rw [es, a0, a1, a2]
        exact ⟨rfl, rfl, rfl⟩
      walk_at "xs"
      refine x_iRng3 ?_
      walk_at "xs"
      refine x_lenL (SqL.of hr5) ?_
      rw [pl]
      walk_at "xs"
      refine ⟨4, ((4 + 3 * m : Nat) : Int), 3, m, rfl, rgC3 rfl (by omega), fun A nA => ?_⟩
      refine lc_data (K := K) (fun k => some (dSeat3 (seatV3 ws k))) turnsC (fun _ _ => trivial) nA ?_ ?_
      · rintro k v Hc _ hk lc ⟨rfl, rfl⟩
        obtain ⟨y0, y1, y2⟩ := xk k hk
        walk_at "xs"
        refine x_wipe rfl ?_
        walk_at "xs"
        refine pat lc.s (j := 4 + 3 * k) (by omega) (by omega) ?_
        rw [y0]
        walk_at "xs"
        refine pat lc.s (j := 4 + 3 * k + 1) (by omega) (by omega) ?_
        rw [y1]
        walk_at "xs"
        refine pat lc.s (j := 4 + 3 * k + 2) (by omega) (by omega) ?_
        rw [y2]
        walk_at "xs"
        refine al_tup fun T H6 nT s6 hT => ?_
        have TA : T ≠ A := fun z => by
          obtain ⟨acc, ho, _⟩ := lc.ex
          rw [z, ho] at nT; cases nT
        exact lc.keep nA s6 rfl (.tup (SqT.of (del_at hT TA)) (.cons (.str _) (.cons (.int _) (.cons (.int _) .nil)))) (by omega)
      intro H6 acc s6 hA hacc
      rw [List.filterMap_eq_map'] at hacc
      walk_at "xs"
      refine pat s6 (j := 0) rfl (by omega) ?_
      rw [x0]
      walk_at "xs"
      refine pat s6 (j := 1) rfl (by omega) ?_
      rw [x1]
      walk_at "xs"
      refine pat s6 (j := 2) rfl (by omega) ?_
      rw [x2]
      walk_at "xs"
      refine pat s6 (j := 3) rfl (by omega) ?_
      rw [x3]
      walk_at "xs"
      rw [dec_S]
      refine x_tupleOfL (SqL.of hA) fun q4 H7 nq4 s7 hq4 => ?_
      walk_at "xs"
      refine al_tup fun q5 H8 nq5 s8 hq5 => ?_
      refine k1 _ rfl _ H8 ((((s02.trans s5).trans s6).trans s7).trans s8) (.tup (SqT.of hq5) (.cons (.str _) (.cons (.str _) (.cons (.int _) (.cons (.bl _) (.cons ?_ .nil)))))) ⟨_, rfl⟩
      rw [List.map_map]
      exact .tup (SqT.of (s8 _ _ hq4)) (dpAll_same ((del_same.trans s7).trans s8) hacc)

end Su
namespace Su
open PySem L2
local macro_rules | `(tactic| walk_at "side") => `(tactic| first | assumption | (show (0 : Int) < _; omega) | (show (0 : Int) ≤ _; omega) | (show (0 : Int) < _; split <;> omega) | (show _ ∨ _; omega) | (show _ ∧ _; omega) | exact ⟨by decide, by decide, by decide⟩ | exact ⟨by first | assumption | omega, by first | assumption | omega⟩)
local macro_rules | `(tactic| walk_at "xs") => `(tactic| repeat walk_at "x")
local macro_rules | `(tactic| walk_at "if") => `(tactic| first | with_reducible refine Su.x_iteD (fun c => ?_) (fun c => ?_) | with_reducible refine Su.x_iteN (fun c => ?_) (fun c => ?_) | with_reducible refine Su.x_ite (fun c => ?_) (fun c => ?_))

/-! facts of an earlier heap, found by search -/
section
variable {K : PySem.W.Frag} {H H' : Hp} {a : Addr} {o : HO} {xs : List V} {v : V} {d : PyData} {vs : List V} {ds : List PyData}
end

end Su
namespace Su
open PySem L2
local macro_rules | `(tactic| walk_at "side") => `(tactic| first | assumption | (show (0 : Int) < _; omega) | (show (0 : Int) ≤ _; omega) | (show (0 : Int) < _; split <;> omega) | (show _ ∨ _; omega) | (show _ ∧ _; omega) | exact ⟨by decide, by decide, by decide⟩ | exact ⟨by first | assumption | omega, by first | assumption | omega⟩)
local macro_rules | `(tactic| walk_at "xs") => `(tactic| repeat walk_at "x")
local macro_rules | `(tactic| walk_at "if") => `(tactic| first | with_reducible refine Su.x_iteD (fun c => ?_) (fun c => ?_) | with_reducible refine Su.x_iteN (fun c => ?_) (fun c => ?_) | with_reducible refine Su.x_ite (fun c => ?_) (fun c => ?_))

/-! classes: methods and makers that may be called -/
section
variable {X : Cx} {CX : CXT} {k j : Nat} {C : Addr} {m x : Str} {sp : Sp} {dvs : List V} {E : XK} {EW : St → XK} {p pos apos : Pos} {e o : Expr} {es : List Expr} {ta : TE} {t : TA}
end
/-! ### what a class has not -/
def NoAll (K : PySem.W.Frag) (C : Addr) : List Str → Prop
  | [] => True
  | f :: r => NoAttr K C f ∧ NoAll K C r
theorem NoAll.get {K : PySem.W.Frag} {C : Addr} {f : Str} : ∀ {fs : List Str}, NoAll K C fs → f ∈ fs → NoAttr K C f
  | [], _, h => nomatch h
  | g :: r, n, h => by
    rcases List.mem_cons.mp h with e | h
    · rw [e]; exact n.1
    · exact n.2.get h
/-! ### readings -/
section
variable {K : PySem.W.Frag} {σ : St} {H : Hp} {Q : VK} {D : Ends} {ta tv : TE} {f m : Str} {C a : Addr} {sp : Sp} {dvs : List V} {E : XK} {EW : St → XK} {t : TA}
end
/-! ### frames: all but what stands in A is as it was -/
def Off (A : List Addr) (H H' : Hp) : Prop := ∀ b o, b ∉ A → H b = some o → H' b = some o
section
variable {A B : List Addr} {H H1 H2 : Hp} {x : Addr} {o : HO}
theorem Off.refl : Off A H H := fun _ _ _ h => h
theorem Off.of (s : Same H H1) : Off A H H1 := fun b o _ h => s b o h
theorem Off.trans (h : Off A H H1) (k : Off A H1 H2) : Off A H H2 := fun b o n e => k b o n (h b o n e)
theorem Off.mono (h : Off A H H1) (k : ∀ a ∈ A, a ∈ B) : Off B H H1 := fun b o n e => h b o (fun z => n (k b z)) e
theorem Off.upd (h : Off A H H1) (k : x ∈ A) : Off A H (L2.upd H1 x o) := fun b u n e => by rw [upd_ne (fun (z : b = x) => n (by rw [z]; exact k))]; exact h b u n e
theorem Off.same (h : Off A H H1) (n : ∀ a ∈ A, H a = none) : Same H H1 := fun b u e => h b u (fun c => by rw [n b c] at e; cases e) e
end
/-! ### cells -/
def Cells (H : Hp) (l : List (Addr × HO)) : Prop := ∀ p ∈ l, H p.1 = some p.2
section
variable {H H1 : Hp} {l m : List (Addr × HO)} {x : Addr} {o : HO}
theorem Cells.nil : Cells H [] := fun _ h => nomatch h
theorem Cells.cons (h : H x = some o) (k : Cells H l) : Cells H ((x, o) :: l) := fun p hp => by
  rcases List.mem_cons.mp hp with rfl | hp
  · exact h
  · exact k p hp
theorem Cells.app (h : Cells H l) (k : Cells H m) : Cells H (l ++ m) := fun p hp => (List.mem_append.mp hp).elim (h p) (k p)
theorem Cells.left (h : Cells H (l ++ m)) : Cells H l := fun p hp => h p (List.mem_append_left _ hp)
theorem Cells.at_ (h : Cells H l) {j : Nat} (e : l[j]? = some (x, o)) : H x = some o := h (x, o) (List.mem_of_getElem? e)
theorem Cells.same (h : Cells H l) (s : Same H H1) : Cells H1 l := fun p hp => s _ _ (h p hp)
theorem Cells.upd (h : Cells H l) (n : x ∉ l.map (·.1)) : Cells (upd H x o) l := fun p hp => by
  rw [upd_ne (fun e => n (List.mem_map.mpr ⟨p, hp, e⟩))]; exact h p hp
theorem Cells.set (h : Cells H l) (nd : (l.map (·.1)).Nodup) {j : Nat} {u : HO} (e : l[j]? = some (x, u)) : Cells (L2.upd H x o) (l.set j (x, o)) := fun p hp => by
  have hj := (List.getElem?_eq_some_iff.mp e).1
  obtain ⟨i, hi, rfl⟩ := List.getElem_of_mem hp
  rw [List.length_set] at hi
  by_cases c : j = i
  · subst c
    rw [List.getElem_set_self]; exact upd_same
  · rw [List.getElem_set_ne c]
    have ne : (l[i]).1 ≠ x := fun z => c (by
      have h1 : (l.map (·.1))[i]'(by rw [List.length_map]; exact hi) = x := by rw [List.getElem_map]; exact z
      have h2 : (l.map (·.1))[j]'(by rw [List.length_map]; exact hj) = x := by
        rw [List.getElem_map, (List.getElem?_eq_some_iff.mp e).2]
      exact (List.getElem_inj nd).mp (h2.trans h1.symm))
    rw [upd_ne ne]
    exact h _ (List.getElem_mem _)
theorem Cells.fresh (h : Cells H l) (n : H x = none) : x ∉ l.map (·.1) := fun c => by
  obtain ⟨p, hp, rfl⟩ := List.mem_map.mp c
  rw [h p hp] at n; cases n
end

end Su
namespace Su
open PySem L2
local macro_rules | `(tactic| walk_at "side") => `(tactic| first | assumption | (show (0 : Int) < _; omega) | (show (0 : Int) ≤ _; omega) | (show (0 : Int) < _; split <;> omega) | (show _ ∨ _; omega) | (show _ ∧ _; omega) | exact ⟨by decide, by decide, by decide⟩ | exact ⟨by first | assumption | omega, by first | assumption | omega⟩)
local macro_rules | `(tactic| walk_at "xs") => `(tactic| repeat walk_at "x")
local macro_rules | `(tactic| walk_at "if") => `(tactic| first | with_reducible refine Su.x_iteD (fun c => ?_) (fun c => ?_) | with_reducible refine Su.x_iteN (fun c => ?_) (fun c => ?_) | with_reducible refine Su.x_ite (fun c => ?_) (fun c => ?_))

/-! what is new in a heap -/
def nw (H H' : Hp) : Hp := fun a => if H a = none then H' a else none
section
variable {K : PySem.W.Frag} {H H1 H' : Hp} {p R : Addr} {o : HO}
end

end Su
namespace Su
open PySem L2
local macro_rules | `(tactic| walk_at "side") => `(tactic| first | assumption | (show (0 : Int) < _; omega) | (show (0 : Int) ≤ _; omega) | (show (0 : Int) < _; split <;> omega) | (show _ ∨ _; omega) | (show _ ∧ _; omega) | exact ⟨by decide, by decide, by decide⟩ | exact ⟨by first | assumption | omega, by first | assumption | omega⟩)
local macro_rules | `(tactic| walk_at "xs") => `(tactic| repeat walk_at "x")
local macro_rules | `(tactic| walk_at "if") => `(tactic| first | with_reducible refine Su.x_iteD (fun c => ?_) (fun c => ?_) | with_reducible refine Su.x_iteN (fun c => ?_) (fun c => ?_) | with_reducible refine Su.x_ite (fun c => ?_) (fun c => ?_))

/-! deeds hold no lists: their data stands where no list stands -/
def noL (Z : Hp) : Hp := fun x => match Z x with
  | some (.lst _) => none
  | o => o
theorem noL_same {Z : Hp} : Same (noL Z) Z := fun x u e => by
  unfold noL at e
  split at e
  · cases e
  · exact e
theorem noL_lst {Z F : Hp} {x : Addr} {l : List V} (s : Same Z F) (e : F x = some (.lst l)) : noL Z x = none := by
  unfold noL
  split
  · rfl
  · rename_i n
    cases c : Z x with
    | none => rfl
    | some u =>
      have := s _ _ c
      rw [e] at this
      cases this
      exact absurd c (n l)
theorem noL_at {Z : Hp} {x : Addr} {u : HO} (e : Z x = some u) (n : ∀ l, u ≠ .lst l) : noL Z x = some u := by
  unfold noL
  split
  · rename_i l z
    rw [e] at z; cases z
    exact absurd rfl (n l)
  · exact e
theorem sqT_noL {K : PySem.W.Frag} {Z : Hp} {p : Addr} {ys : List V} (h : SqT K Z p ys) : SqT K (noL Z) p ys := by
  rcases h with (h | ⟨d, h⟩) | h
  · exact .inl (.inl (noL_at h fun _ z => nomatch z))
  · exact .inl (.inr ⟨d, noL_at h fun _ z => nomatch z⟩)
  · exact .inr h
mutual
def noLst : PyData → Bool
  | .list _ => false
  | .tuple l => noLstL l
  | .dict _ => false
  | _ => true
def noLstL : List PyData → Bool
  | [] => true
  | d :: l => noLst d && noLstL l
end
mutual
theorem dp_noL {K : PySem.W.Frag} {Z : Hp} : ∀ (d : PyData) (v : V), noLst d = true → Dp K Z v d → Dp K (noL Z) v d
  | .none, v, _, h => by cases h; exact .non
  | .bool b, v, _, h => by cases h; exact .bl _
  | .int b, v, _, h => by cases h; exact .int _
  | .str b, v, _, h => by cases h; exact .str _
  | .list l, v, n, h => by cases n
  | .dict l, v, n, h => by cases n
  | .tuple l, v, n, h => by
    cases h with
    | tup s a => exact .tup (sqT_noL s) (dpAll_noL l _ n a)
theorem dpAll_noL {K : PySem.W.Frag} {Z : Hp} : ∀ (ds : List PyData) (vs : List V), noLstL ds = true → DpAll K Z vs ds → DpAll K (noL Z) vs ds
  | [], vs, _, h => by cases h; exact .nil
  | d :: ds, vs, n, h => by
    cases h with
    | cons a b =>
      have n : (noLst d && noLstL ds) = true := n
      rw [Bool.and_eq_true] at n
      exact .cons (dp_noL d _ n.1 a) (dpAll_noL ds _ n.2 b)
end
theorem noLstL_all : ∀ {l : List PyData}, (∀ d ∈ l, noLst d = true) → noLstL l = true
  | [], _ => rfl
  | d :: l, h => by
    show (noLst d && noLstL l) = true
    rw [h d List.mem_cons_self, noLstL_all fun x hx => h x (List.mem_cons_of_mem _ hx)]; rfl
theorem noL_mono {A B : Hp} (s : Same A B) : Same (noL A) (noL B) := fun y u e => by
  have ea := noL_same _ _ e
  refine noL_at (s _ _ ea) fun l z => ?_
  rw [z] at ea
  rw [noL_lst (Same.refl A) ea] at e
  cases e

end Su
namespace Su
open PySem L2
local macro_rules | `(tactic| walk_at "side") => `(tactic| first | assumption | (show (0 : Int) < _; omega) | (show (0 : Int) ≤ _; omega) | (show (0 : Int) < _; split <;> omega) | (show _ ∨ _; omega) | (show _ ∧ _; omega) | exact ⟨by decide, by decide, by decide⟩ | exact ⟨by first | assumption | omega, by first | assumption | omega⟩)
local macro_rules | `(tactic| walk_at "xs") => `(tactic| repeat walk_at "x")
local macro_rules | `(tactic| walk_at "if") => `(tactic| first | with_reducible refine Su.x_iteD (fun c => ?_) (fun c => ?_) | with_reducible refine Su.x_iteN (fun c => ?_) (fun c => ?_) | with_reducible refine Su.x_ite (fun c => ?_) (fun c => ?_))

/-! pages: lines, each with a line feed -/
theorem s_feed : ("\n" : Str) = SX.S [10] := by decide +kernel
/-- sizes of texts that add up -/
structure AddF (f : List Nat → Nat) : Prop where
  nil : f [] = 0
  app : ∀ a b, f (a ++ b) = f a + f b
  one : ∀ x, f [x] ≤ 1
theorem addF_len : AddF List.length := ⟨rfl, fun _ _ => List.length_append, fun _ => Nat.le_refl _⟩
theorem addF_cnt (c : Nat) : AddF (List.count c) := ⟨rfl, fun _ _ => List.count_append .., fun x => by rw [List.count_singleton]; split <;> omega⟩
theorem spl_sum {f : List Nat → Nat} (F : AddF f) (s : Nat) : ∀ (t acc : List Nat), ((TL.spl [s] 0 acc t).map f).sum ≤ f acc + f t
  | [], acc => by rw [TL.spl_nil]; simp
  | c :: r, acc => by
    by_cases hp : TL.pre [s] (c :: r) = true
    · rw [TL.spl_hit hp]
      have ih := spl_sum F s r []
      have e := F.app [c] r
      rw [F.nil] at ih
      show f acc + ((TL.spl [s] 0 [] r).map f).sum ≤ f acc + f ([c] ++ r)
      omega
    · rw [TL.spl_miss (by simpa using hp)]
      have ih := spl_sum F s r (acc ++ [c])
      have e := F.app [c] r
      have e2 := F.app acc [c]
      show _ ≤ f acc + f ([c] ++ r)
      omega
theorem spl_cnt (s : Nat) : ∀ (t acc : List Nat), (TL.spl [s] 0 acc t).length = t.count s + 1
  | [], acc => by rw [TL.spl_nil]; rfl
  | c :: r, acc => by
    by_cases hp : c = s
    · subst hp
      rw [TL.spl_hit (by simp [TL.pre])]
      show (TL.spl [c] 0 [] r).length + 1 = _
      rw [spl_cnt c r, List.count_cons_self]
    · rw [TL.spl_miss (by simp [TL.pre]; exact fun z => hp z), spl_cnt s r, List.count_cons_of_ne hp]
theorem join_sum {f : List Nat → Nat} (F : AddF f) (s : Nat) : ∀ ws : List (List Nat), f (TL.joinL [s] ws) ≤ (ws.map f).sum + ws.length
  | [] => by show f [] ≤ _; rw [F.nil]; omega
  | [x] => by show f x ≤ _; simp
  | x :: y :: r => by
    have ih := join_sum F s (y :: r)
    show f (x ++ ([s] ++ TL.joinL [s] (y :: r))) ≤ _
    rw [F.app, F.app]
    have := F.one s
    simp only [List.map_cons, List.sum_cons, List.length_cons] at ih ⊢
    omega
theorem mem_sum {f : List Nat → Nat} {ws : List (List Nat)} {w : List Nat} (h : w ∈ ws) : f w ≤ (ws.map f).sum := by
  induction ws with
  | nil => cases h
  | cons x ws ih =>
    rw [List.map_cons, List.sum_cons]
    rcases List.mem_cons.mp h with rfl | h
    · omega
    · have := ih h; omega
theorem joinL_snoc (s : Nat) : ∀ (ls : List (List Nat)), TL.joinL [s] (ls ++ [[]]) = (ls.map (· ++ [s])).flatten
  | [] => rfl
  | [x] => by show x ++ ([s] ++ []) = _; simp
  | x :: y :: r => by
    have ih := joinL_snoc s (y :: r)
    show x ++ ([s] ++ TL.joinL [s] (y :: r ++ [[]])) = _
    rw [ih]
    simp
/-- the page of a row of deeds -/
def pageL (ds : List Dd) : List Nat := ((ds.map Dd.line).map (· ++ [10])).flatten
theorem part_feed {k : Nat} {p : Part} (h : p.Fits k) : 10 ∉ p.t := by
  cases p with
  | n w => exact fun z => by have := h.2.ok _ z; omega
  | c i => exact TL.numL_free (.inl (by decide))
theorem name_feed {w : List Nat} (h : NameOk w) : 10 ∉ w := fun z => by have := h.ok _ z; omega
theorem DdOk.words_feed {d : Dd} (h : DdOk d) : ∀ w ∈ d.words, 10 ∉ w := by
  cases h with
  | plain h hl hp =>
    intro w hw
    obtain ⟨p, hp', rfl⟩ := List.mem_map.mp hw
    rcases List.mem_cons.mp hp' with rfl | hm
    · exact fun z => by have := sh_low h _ z; omega
    · obtain ⟨i, hi⟩ := List.getElem?_of_mem hm
      exact part_feed (hp i p hi)
  | found hn hs h1 h2 hp =>
    intro w hw
    rcases List.mem_append.mp hw with hw | hw
    · simp only [List.mem_cons, List.not_mem_nil, or_false] at hw
      rcases hw with rfl | rfl | rfl | rfl
      · decide
      · exact name_feed hn
      · exact TL.numL_free (.inl (by decide))
      · split <;> decide
    · obtain ⟨s, hs', hm⟩ := List.mem_flatMap.mp hw
      have := hp s hs'
      unfold sw3 at hm
      simp only [List.mem_cons, List.not_mem_nil, or_false] at hm
      rcases hm with rfl | rfl | rfl
      · exact name_feed this.n
      · exact TL.numL_free (.inl (by decide))
      · exact TL.numL_free (.inl (by decide))
theorem join_free {c s : Nat} (hc : c ≠ s) : ∀ ws : List (List Nat), (∀ w ∈ ws, c ∉ w) → c ∉ TL.joinL [s] ws
  | [], _ => by simp [TL.joinL]
  | [x], h => h x List.mem_cons_self
  | x :: y :: r, h => by
    have ih := join_free hc (y :: r) fun w hw => h w (List.mem_cons_of_mem _ hw)
    show c ∉ x ++ ([s] ++ TL.joinL [s] (y :: r))
    intro z
    rcases List.mem_append.mp z with z | z
    · exact h x List.mem_cons_self z
    rcases List.mem_append.mp z with z | z
    · exact hc (List.mem_singleton.mp z)
    · exact ih z
theorem DdOk.line_feed {d : Dd} (h : DdOk d) : 10 ∉ d.line := join_free (by decide) _ h.words_feed
theorem page_split {ds : List Dd} (h : ∀ d ∈ ds, DdOk d) : TL.spl [10] 0 [] (pageL ds) = ds.map Dd.line ++ [[]] := by
  unfold pageL
  rw [← joinL_snoc]
  refine SX.spl_join (by simp) fun w hw => ?_
  rcases List.mem_append.mp hw with hw | hw
  · obtain ⟨d, hd, rfl⟩ := List.mem_map.mp hw
    exact (h d hd).line_feed
  · rw [List.mem_singleton.mp hw]; simp
theorem line_blanks {d : Dd} (h : DdOk d) : d.line.count 32 ≤ 81 := by
  have e := spl_cnt 32 d.line []
  have := h.words_many
  rw [h.split] at e
  omega
theorem page_size {ds : List Dd} (h : ∀ d ∈ ds, DdOk d) : (pageL ds).length ≤ 1101 * ds.length ∧ (pageL ds).count 32 ≤ 81 * ds.length ∧ (pageL ds).count 10 = ds.length := by
  induction ds with
  | nil => exact ⟨Nat.le_refl _, Nat.le_refl _, rfl⟩
  | cons d ds ih =>
    obtain ⟨i1, i2, i3⟩ := ih fun x hx => h x (List.mem_cons_of_mem _ hx)
    have ok := h d List.mem_cons_self
    have ll := ok.line_le
    have lb := line_blanks ok
    have e : pageL (d :: ds) = (d.line ++ [10]) ++ pageL ds := rfl
    have c0 : d.line.count 10 = 0 := List.count_eq_zero.mpr ok.line_feed
    rw [e]
    refine ⟨?_, ?_, ?_⟩
    · rw [List.length_append, List.length_append]
      have z1 : (d :: ds).length = ds.length + 1 := rfl
      have z2 : ([10] : List Nat).length = 1 := rfl
      omega
    · rw [List.count_append, List.count_append, List.length_cons, show ([10] : List Nat).count 32 = 0 from rfl]; omega
    · rw [List.count_append, List.count_append, List.length_cons, c0, i3, show ([10] : List Nat).count 10 = 1 from rfl]; omega
/-- a line, read -/
def rdL (t : List Nat) : Option Dd := readW (TL.spl [32] 0 [] t)
theorem rdL_line {d : Dd} (h : DdOk d) : rdL d.line = some d := by unfold rdL; rw [h.split]; exact h.read
theorem noLst_dd (d : Dd) : noLst d.d = true := by
  cases d with
  | plain k ps =>
    refine noLstL_all fun x hx => ?_
    obtain ⟨p, _, rfl⟩ := List.mem_map.mp hx
    cases p <;> rfl
  | found c s bd seats =>
    refine noLstL_all fun x hx => ?_
    simp only [List.mem_cons, List.not_mem_nil, or_false] at hx
    rcases hx with rfl | rfl | rfl | rfl | rfl
    · rfl
    · rfl
    · rfl
    · rfl
    · refine noLstL_all fun y hy => ?_
      obtain ⟨z, _, rfl⟩ := List.mem_map.mp hy
      rfl
section
variable {K : PySem.W.Frag} {H : Hp} {Q : VK} {E : XK}
theorem al_splitN {t : List Nat} (hl : t.length ≤ 100000) (h : ∀ p H', H p = none → Same H H' → H' p = some (.lst ((TL.spl [10] 0 [] t).map vS)) → Q (.ref p) H') : rSplit (vS t) [vS [10]] H Q := by
  refine ⟨SX.S t, SX.S [10], rfl, rfl, rfl, by rw [SX.S_len]; rw [sizeLine_eq]; omega, fun p n => h p _ n (same_new (Same.refl H) n) ?_⟩
  rw [upd_same, SX.split_S (by decide) (by decide), List.map_map]; rfl
theorem at_lastW {ws : List (List Nat)} (h : ws ≠ []) : atI (ws.map vS) (-1) = some (vS (ws.getD (ws.length - 1) [])) := by
  have hp : 0 < ws.length := List.length_pos_iff.mpr h
  unfold atI ixN
  rw [List.length_map, if_neg (by decide), if_pos (by omega), Option.bind_some, List.getElem?_map, show ((-1 : Int) + (ws.length : Int)).toNat = ws.length - 1 by omega, List.getElem?_eq_getElem (by omega), List.getD_eq_getElem?_getD, List.getElem?_eq_getElem (by omega)]
  rfl
theorem cutV_butlast {xs : List V} : cutV xs none (some (-1)) = xs.take (xs.length - 1) := by
  unfold cutV HT.sIx
  simp only [show ((-1 : Int) < 0) = True by simp, if_true, List.drop_zero, Nat.sub_zero]
  congr 1
  omega
theorem al_butlastW {a : Addr} {ws : List (List Nat)} (e : SqL K H a (ws.map vS)) (h : ∀ p H', H p = none → Same H H' → H' p = some (.lst ((ws.take (ws.length - 1)).map vS)) → Q (.ref p) H') : rSlL K (.ref a) none (some (-1)) H Q :=
  al_slL e fun p H' n s o => h p H' n s (by rw [cutV_butlast, List.length_map] at o; rw [List.map_take]; exact o)
end
/-- a list of deeds' data that grows -/
structure LcG (K : PySem.W.Frag) (H1 : Hp) (A : Addr) (ds : List PyData) (H : Hp) : Prop where
  s : Same H1 H
  ex : ∃ acc, H A = some (.lst acc) ∧ DpAll K (noL H) acc ds
theorem LcG.keep {K : PySem.W.Frag} {H1 Hc H4 : Hp} {A : Addr} {ds : List PyData} {y : V} {d : PyData} (h : LcG K H1 A ds Hc) (n : H1 A = none) (s : Same Hc H4) (hy : Dp K H4 y d) (nd : noLst d = true) (hl : ds.length ≤ 100000) :
    ∃ acc, H4 A = some (.lst acc) ∧ acc.length < sizeLine ∧ LcG K H1 A (ds ++ [d]) (upd H4 A (.lst (acc ++ [y]))) := by
  obtain ⟨s1, acc, e, dd⟩ := h
  have m : Same (noL H4) (noL (upd H4 A (.lst (acc ++ [y])))) := fun b u z => by
    have zb := noL_same _ _ z
    have ne : b ≠ A := fun q => by rw [q, noL_lst (Same.refl H4) (s _ _ e)] at z; cases z
    exact noL_at (by rw [upd_ne ne]; exact zb) fun l q => by rw [q] at zb; rw [noL_lst (Same.refl H4) zb] at z; cases z
  refine ⟨acc, s _ _ e, ?_, ⟨same_upd (s1.trans s) n, _, upd_same, ?_⟩⟩
  · have := dpAll_len dd
    exact small (by omega)
  · exact dpAll_same m (dpAll_app (dpAll_same (noL_mono s) dd) (.cons (dp_noL _ _ nd hy) .nil))

end Su
namespace Su
open PySem L2
local macro_rules | `(tactic| walk_at "side") => `(tactic| first | assumption | (show (0 : Int) < _; omega) | (show (0 : Int) ≤ _; omega) | (show (0 : Int) < _; split <;> omega) | (show _ ∨ _; omega) | (show _ ∧ _; omega) | exact ⟨by decide, by decide, by decide⟩ | exact ⟨by first | assumption | omega, by first | assumption | omega⟩)
local macro_rules | `(tactic| walk_at "x") => `(tactic| first | with_reducible refine Su.x_seq ?_ | with_reducible refine Su.x_asg ?_ | with_reducible refine Su.x_gname ?_ | with_reducible refine Su.x_ret ?_ | with_reducible refine Su.x_ifS ?_ | ((with_reducible show L2.tVar _ _ _ _); refine Su.x_var rfl ?_) | with_reducible refine Su.x_c ?_ | with_reducible refine Su.x_op ?_ | with_reducible refine Su.x_iteT ?_ | with_reducible refine Su.x_iteNT ?_ | with_reducible refine Su.x_iteNF ?_ | with_reducible refine Su.x_neS ?_ | with_reducible refine Su.x_test ?_ | with_reducible refine Su.x_tB ?_ | with_reducible refine Su.x_isB' ?_ | with_reducible refine Su.x_not ?_ | with_reducible refine Su.x_nil ?_ | with_reducible refine Su.x_cons ?_ | with_reducible refine Su.x_cb ?_ | with_reducible refine Su.x_call ?_ | with_reducible refine Su.x_un ?_ | with_reducible refine Su.x_rU ?_ | with_reducible refine Su.x_next ?_ | with_reducible refine Su.x_iList ?_ | with_reducible refine Su.x_yes ?_ | with_reducible refine Su.x_lc ?_ | with_reducible refine Su.x_sl ?_ | with_reducible refine Su.x_nopart ?_ | with_reducible refine Su.x_part ?_ | with_reducible refine Su.x_isI ?_)
local macro_rules | `(tactic| walk_at "xs") => `(tactic| repeat walk_at "x")
local macro_rules | `(tactic| walk_at "if") => `(tactic| first | with_reducible refine Su.x_iteD (fun c => ?_) (fun c => ?_) | with_reducible refine Su.x_iteN (fun c => ?_) (fun c => ?_) | with_reducible refine Su.x_ite (fun c => ?_) (fun c => ?_))
local macro_rules | `(tactic| walk_at "x") => `(tactic| first | with_reducible refine Su.x_m1 ?_ | with_reducible refine Su.x_strE ?_)

/-! _law_all_read -/
def rdP (l : List Nat) : PyData := match rdL l with
  | some d => d.d
  | none => .none
def sp_law_all_read (K : PySem.W.Frag) : Sp := fun vs H Q _ => ∃ (t : List Nat) (ws : List (List Nat)), vs = [vS t] ∧ t.length ≤ 50000 ∧ TL.spl [10] 0 [] t = ws ∧
  ((ws.getD (ws.length - 1) [] = [] ∧ ∀ l ∈ ws.take (ws.length - 1), (rdL l).isSome = true) → ∀ (p : Addr) (xs : List V) (H' : Hp), H p = none → Same H H' → H' p = some (.lst xs) → DpAll K (noL H') xs (((ws.take (ws.length - 1)).filterMap rdL).map Dd.d) → Q (.ref p) H') ∧
  (¬ (ws.getD (ws.length - 1) [] = [] ∧ ∀ l ∈ ws.take (ws.length - 1), (rdL l).isSome = true) → ∀ H', Same H H' → Q .non H')
theorem noLst_rdP (l : List Nat) : noLst (rdP l) = true := by
  unfold rdP
  split
  · exact noLst_dd _
  · rfl
theorem rdP_some {ls : List (List Nat)} (h : ∀ l ∈ ls, (rdL l).isSome = true) : ls.map rdP = (ls.filterMap rdL).map Dd.d := by
  induction ls with
  | nil => rfl
  | cons l ls ih =>
    obtain ⟨d, hd⟩ := Option.isSome_iff_exists.mp (h l List.mem_cons_self)
    rw [List.map_cons, ih fun x hx => h x (List.mem_cons_of_mem _ hx), List.filterMap_cons, hd]
    show rdP l :: _ = d.d :: _
    unfold rdP
    rw [hd]
abbrev N_law_all_read : List Str := ["_law_page", "_law_lines", "_law_rows", "_law_line_here", "_law_row"]
def t_law_all_read (K : PySem.W.Frag) : TS :=
 (tSeq (tAsg (tM1 rSplit (tVar 0) (tC (.str "\n"))) (gName 1))
 (tSeq (tIfS (tTest (tOp rNe (tOp (rIxL K) (tVar 1) (tUn rNeg (tC (.int 1)))) (tC (.str ""))))
 (tRet (tC .non))
 tNext)
 (tSeq (tAsg (tLc (iList K (tSl (rSlL K) (tVar 1) tNoPart (tPart (tUn rNeg (tC (.int 1)))))) (gName 3) tYes (tCall (sp_law_read K) [] E0 (tCons (tVar 3) tNil)) [3]) (gName 2))
 (tSeq (tIfS (tNot (tB (tCB (rAll K) (tCons (tLc (iList K (tVar 2)) (gName 4) tYes (tOp rNotN (tVar 4) (tC .non)) [4]) tNil))))
 (tRet (tC .non))
 tNext)
 (tRet (tVar 2))))))

theorem len_law_all_read {K : PySem.W.Frag} : ∀ vs H Q E, sp_law_all_read K vs H Q E → vs.length = ["a"].length := by
  rintro vs H Q E ⟨_, _, rfl, _⟩; rfl
theorem pure_law_all_read {K : PySem.W.Frag} {vs : List V} {H : Hp} {Q : VK} {E : XK} (h : sp_law_all_read K vs H Q E) : t_law_all_read K { nx := fun _ H' => Q .non H', rt := Q } (start N_law_all_read vs) H := by
  obtain ⟨t, ws, rfl, hl, ew, k1, k2⟩ := h
  have sw := spl_small (S := [10]) t 0 []
  have sp := spl_pos (S := [10]) t 0 []
  unfold t_law_all_read
  rw [s_feed, s_nil]
  walk_at "xs"
  refine al_splitN (by omega) fun p H1 np s1 hp => ?_
  rw [ew] at hp sw sp
  have wne : ws ≠ [] := fun z => by rw [z] at sp; exact absurd sp (by decide)
  have wl : ws.length ≤ 50001 := by have := sw.2; omega
  have wm : ∀ l ∈ ws.take (ws.length - 1), l.length ≤ 50000 := fun l h => by have := sw.1 l (List.mem_of_mem_take h); simp only [List.length_nil] at this; omega
  clear sw sp
  walk_at "xs"
  refine x_ixL (SqL.of hp) (at_lastW wne) ?_
  walk_at "xs"
  rw [dec_S]
  by_cases c : ¬ ws.getD (ws.length - 1) [] = []
  · rw [decide_eq_false c]
    walk_at "xs"
    exact k2 (fun z => c z.1) H1 s1
  replace c := Decidable.not_not.mp c
  rw [decide_eq_true c]
  walk_at "xs"
  refine al_butlastW (SqL.of hp) fun B H2 nB s2 hB => ?_
  generalize hls : ws.take (ws.length - 1) = ls at *
  have ll : ls.length ≤ 50001 := by rw [← hls, List.length_take]; omega
  refine ⟨B, rfl, ⟨_, SqL.of hB⟩, fun A nA => ?_⟩
  refine lc_by (turnsL (xs := ls.map vS)) (fun i H' => LcG K H2 A ((ls.take i).map rdP) H') ⟨same_new (Same.refl H2) nA, [], upd_same, .nil⟩ (fun i H' _ lc => SqL.of (lc.s _ _ hB)) ?_ ?_
  · rintro i x Hc _ hi lc ⟨rfl, hx⟩
    rw [List.length_map] at hi
    rw [List.getElem?_map, List.getElem?_eq_getElem hi] at hx
    cases hx
    have tk : ls.take (i + 1) = ls.take i ++ [ls[i]] := by rw [List.take_succ, List.getElem?_eq_getElem hi]; rfl
    have hm := List.getElem_mem hi
    rw [tk]
    generalize ls[i] = l at hm
    have tl : ((ls.take i).map rdP).length ≤ 100000 := by rw [List.length_map, List.length_take]; omega
    walk_at "xs"
    refine x_wipe rfl ?_
    walk_at "xs"
    rw [List.map_append]
    refine ⟨l, rfl, wm l hm, fun d hd y H3 s3 hy _ => ?_, fun hd H3 s3 => ?_⟩
    · exact lc.keep nA s3 (d := rdP l) (by unfold rdP; rw [show rdL l = some d from hd]; exact hy) (noLst_rdP l) tl
    · exact lc.keep nA s3 (d := rdP l) (by unfold rdP; rw [show rdL l = none from hd]; exact .non) (noLst_rdP l) tl
  rintro H3 lc
  rw [List.length_map, List.take_length] at lc
  obtain ⟨acc, e, dd⟩ := lc.ex
  have al : acc.length = ls.length := by rw [dpAll_len dd, List.length_map]
  have s3 : Same H H3 := (s1.trans s2).trans lc.s
  have nA0 := (s1.trans s2).free nA
  clear lc nA
  walk_at "xs"
  refine ⟨A, rfl, ⟨_, SqL.of e⟩, fun C nC => ?_⟩
  refine lc_flat (fun i => some (V.bl (rdL (ls.getD i [])).isSome)) (turnsL (xs := acc)) (fun H' s => SqL.of (s _ _ e)) nC ?_ ?_
  · rintro i x Hc _ hi lc ⟨rfl, hx⟩
    obtain ⟨y, hy, hd⟩ := dpAll_get dd hx
    rw [List.getElem?_map, List.getElem?_eq_getElem (by omega)] at hy
    cases hy
    have eg : ls.getD i [] = ls[i]'(by omega) := by rw [List.getD_eq_getElem?_getD, List.getElem?_eq_getElem (by omega)]; rfl
    have hb : (x = .non ∧ rdL (ls[i]'(by omega)) = none) ∨ ((∃ a, x = .ref a) ∧ (rdL (ls[i]'(by omega))).isSome = true) := by
      unfold rdP at hd
      cases er : rdL (ls[i]'(by omega)) with
      | none => rw [er] at hd; cases hd; exact .inl ⟨rfl, rfl⟩
      | some d =>
        rw [er] at hd
        refine .inr ⟨?_, rfl⟩
        cases d with
        | plain k ps => cases hd with | tup s a => exact ⟨_, rfl⟩
        | found => cases hd with | tup s a => exact ⟨_, rfl⟩
    walk_at "xs"
    refine x_wipe rfl ?_
    walk_at "xs"
    rcases hb with ⟨rfl, hb⟩ | ⟨⟨a, rfl⟩, hb⟩
    · refine ⟨rfl, ?_⟩
      rw [decide_eq_true rfl]
      exact lc.keep nC (Same.refl _) (by show some (V.bl _) = _; rw [eg, hb]; rfl) (by omega)
    · refine ⟨rfl, ?_⟩
      rw [decide_eq_false (show ¬ V.ref a = V.non by simp)]
      exact lc.keep nC (Same.refl _) (by show some (V.bl _) = _; rw [eg, hb]; rfl) (by omega)
  intro H4 s4 hC
  replace hC : H4 C = some (.lst ((ls.map fun l => (rdL l).isSome).map V.bl)) := by
    rw [hC, al, List.filterMap_eq_map', List.map_map]
    congr 2
    refine List.ext_getElem (by simp) fun i h1 h2 => ?_
    have hi : i < ls.length := by simpa using h2
    simp [List.getD_eq_getElem?_getD, List.getElem?_eq_getElem hi]
  walk_at "xs"
  refine x_all (SqL.of hC) ?_
  have eb : ((ls.map fun l => (rdL l).isSome).all id = true) ↔ ∀ l ∈ ls, (rdL l).isSome = true := by
    rw [List.all_eq_true]
    constructor
    · intro h l hl
      exact h _ (List.mem_map.mpr ⟨l, hl, rfl⟩)
    · intro h b hb
      obtain ⟨l, hl, rfl⟩ := List.mem_map.mp hb
      exact h l hl
  by_cases ca : ∀ l ∈ ls, (rdL l).isSome = true
  · rw [eb.mpr ca]
    walk_at "xs"
    refine k1 ⟨c, ca⟩ A acc H4 nA0 (s3.trans s4) (s4 _ _ e) ?_
    rw [← rdP_some ca]
    exact dpAll_same (noL_mono s4) dd
  · rw [Bool.eq_false_iff.mpr fun z => ca (eb.mp z)]
    walk_at "xs"
    exact k2 (fun z => ca z.2) H4 (s3.trans s4)

end Su
namespace Su
open PySem L2
local macro_rules | `(tactic| walk_at "side") => `(tactic| first | assumption | (show (0 : Int) < _; omega) | (show (0 : Int) ≤ _; omega) | (show (0 : Int) < _; split <;> omega) | (show _ ∨ _; omega) | (show _ ∧ _; omega) | exact ⟨by decide, by decide, by decide⟩ | exact ⟨by first | assumption | omega, by first | assumption | omega⟩)
local macro_rules | `(tactic| walk_at "xs") => `(tactic| repeat walk_at "x")
local macro_rules | `(tactic| walk_at "if") => `(tactic| first | with_reducible refine Su.x_iteD (fun c => ?_) (fun c => ?_) | with_reducible refine Su.x_iteN (fun c => ?_) (fun c => ?_) | with_reducible refine Su.x_ite (fun c => ?_) (fun c => ?_))

/-! drawn names: steps of one width, but for one place -/
def Near (w : List Nat) : Prop := ∃ (a t : Int) (p : Nat), 0 ≤ t ∧ t < 4 ∧ ∀ k, k < w.length → k ≠ p → w.getD k 0 = 97 + ((a + (k : Int) * t) % 26).toNat
theorem near_of {w0 w : List Nat} {a t : Int} {p : Nat} (t0 : 0 ≤ t) (t1 : t < 4) (h0 : ∀ k, k < w0.length → w0.getD k 0 = 97 + ((a + (k : Int) * t) % 26).toNat) (hp : p < w0.length) (ln : w.length = w0.length) (pr : w.take p = w0.take p) (po : w.drop (p + 1) = w0.drop (p + 1)) : Near w := by
  refine ⟨a, t, p, t0, t1, fun k hk ne => ?_⟩
  rw [← h0 k (by omega)]
  by_cases c : k < p
  · have e := congrArg (fun l => l.getD k 0) pr
    simp only [List.getD_eq_getElem?_getD, List.getElem?_take] at e ⊢
    simpa [c] using e
  · have e := congrArg (fun l => l.getD (k - (p + 1)) 0) po
    simp only [List.getD_eq_getElem?_getD, List.getElem?_drop] at e ⊢
    rw [show p + 1 + (k - (p + 1)) = k by omega] at e
    exact e
end Su
namespace Su
open PySem L2
local macro_rules | `(tactic| walk_at "side") => `(tactic| first | assumption | (show (0 : Int) < _; omega) | (show (0 : Int) ≤ _; omega) | (show (0 : Int) < _; split <;> omega) | (show _ ∨ _; omega) | (show _ ∧ _; omega) | exact ⟨by decide, by decide, by decide⟩ | exact ⟨by first | assumption | omega, by first | assumption | omega⟩)
local macro_rules | `(tactic| walk_at "x") => `(tactic| first | with_reducible refine Su.x_seq ?_ | with_reducible refine Su.x_asg ?_ | with_reducible refine Su.x_gname ?_ | with_reducible refine Su.x_drop ?_ | with_reducible refine Su.x_ret ?_ | with_reducible refine Su.x_ifS ?_ | ((with_reducible show L2.tVar _ _ _ _); refine Su.x_var rfl ?_) | with_reducible refine Su.x_c ?_ | with_reducible refine Su.x_op ?_ | with_reducible refine Su.x_rI0 ?_ | ((with_reducible refine Su.x_rI ?_ ?_); focus walk_at "side") | with_reducible refine Su.x_iteT ?_ | with_reducible refine Su.x_test ?_ | with_reducible refine Su.x_isB' ?_ | with_reducible refine Su.x_nil ?_ | with_reducible refine Su.x_cons ?_ | with_reducible refine Su.x_lst ?_ | with_reducible refine Su.x_bmL ?_ | with_reducible refine Su.x_for ?_ | with_reducible refine Su.x_iRng1 ?_ | with_reducible refine Su.x_yes ?_ | with_reducible refine Su.x_lc ?_ | with_reducible refine Su.x_sl ?_ | with_reducible refine Su.x_nopart ?_ | with_reducible refine Su.x_part ?_ | with_reducible refine Su.x_isI ?_)
local macro_rules | `(tactic| walk_at "xs") => `(tactic| repeat walk_at "x")
local macro_rules | `(tactic| walk_at "if") => `(tactic| first | with_reducible refine Su.x_iteD (fun c => ?_) (fun c => ?_) | with_reducible refine Su.x_iteN (fun c => ?_) (fun c => ?_) | with_reducible refine Su.x_ite (fun c => ?_) (fun c => ?_))
local macro_rules | `(tactic| walk_at "x") => `(tactic| first | with_reducible refine Su.x_m1 ?_ | with_reducible refine Su.x_strE ?_)

/-! _law_names: names that are all unlike -/
def sp_law_names (K : PySem.W.Frag) : Sp := fun vs H Q _ => ∃ (a : Addr) (rows : List Int) (n : Nat), vs = [.ref a, .int n] ∧ SqL K H a (rows.map V.int) ∧ n ≤ rows.length ∧ n ≤ 24 ∧
  ∀ (p : Addr) (ws : List (List Nat)) (H' : Hp), H p = none → Same H H' → H' p = some (.lst (ws.map vS)) → ws.length = n → ws.Nodup → (∀ w ∈ ws, NameOk w) → (∀ w ∈ ws, Near w) → Q (.ref p) H'
abbrev N_law_names : List Str := ["_law_some", "_law_many", "_law_letters", "_law_rows", "_law_at", "_law_raw", "_law_size", "_law_turn", "_law_word", "_law_place", "_law_step", "_law_sign", "_law_k"]
def t_law_names (K : PySem.W.Frag) : TS :=
 (tSeq (tAsg (tC (.str "abcdefghijklmnopqrstuvwxyz")) (gName 2))
 (tSeq (tAsg (tLst tNil) (gName 3))
 (tSeq (tFor (iRng1 (tCons (tVar 1) tNil)) (gName 4)
 (tSeq (tAsg (tOp (rIxL K) (tVar 0) (tVar 4)) (gName 5))
 (tSeq (tAsg (tOp rAdd (tC (.int 1)) (tOp rMod (tVar 5) (tC (.int 12)))) (gName 6))
 (tSeq (tAsg (tOp rMod (tOp rDiv (tVar 5) (tC (.int 5))) (tC (.int 4))) (gName 7))
 (tSeq (tAsg (tM1 (rJoin K) (tC (.str "")) (tLc (iRng1 (tCons (tVar 6) tNil)) (gName 12) tYes (tOp rIxS (tVar 2) (tOp rMod (tOp rAdd (tOp rDiv (tVar 5) (tC (.int 13))) (tOp rMul (tVar 12) (tVar 7))) (tC (.int 26)))) [12])) (gName 8))
 (tSeq (tAsg (tOp rMod (tOp rDiv (tVar 5) (tC (.int 7))) (tVar 6)) (gName 9))
 (tSeq (tFor (iRng1 (tCons (tC (.int 26)) tNil)) (gName 10)
 (tIfS (tTest (tOp (rIn K false) (tVar 8) (tVar 3)))
 (tSeq (tAsg (tOp rIxS (tVar 2) (tOp rMod (tOp rAdd (tVar 5) (tVar 10)) (tC (.int 26)))) (gName 11))
 (tAsg (tOp rCatS (tOp rCatS (tSl C8.rSlX (tVar 8) tNoPart (tPart (tVar 9))) (tVar 11)) (tSl C8.rSlX (tVar 8) (tPart (tOp rAdd (tVar 9) (tC (.int 1)))) tNoPart)) (gName 8)))
 tNext))
 (tDrop (tBM K "list" rAppend (tVar 3) (tCons (tVar 8) tNil))))))))))
 (tRet (tVar 3)))))

theorem len_law_names {K : PySem.W.Frag} : ∀ vs H Q E, sp_law_names K vs H Q E → vs.length = ["a", "b"].length := by
  rintro vs H Q E ⟨_, _, _, rfl, _⟩; rfl
def cand (pre post : List Nat) (raw : Int) (s : Nat) : List Nat := pre ++ [97 + ((raw + s) % 26).toNat] ++ post
theorem cand_inj {pre post : List Nat} {raw : Int} {s t : Nat} (hs : s < 26) (ht : t < 26) (h : cand pre post raw s = cand pre post raw t) : s = t := by
  unfold cand at h
  rw [List.append_assoc, List.append_assoc] at h
  have := List.append_cancel_left h
  have : 97 + ((raw + s) % 26).toNat = 97 + ((raw + t) % 26).toNat := (List.cons.inj this).1
  omega
structure Wd (pre post : List Nat) (raw : Int) (w0 : List Nat) (ws : List (List Nat)) (j : Nat) (w : List Nat) : Prop where
  ok : NameOk w
  ln : w.length = pre.length + 1 + post.length
  pr : w.take pre.length = pre
  po : w.drop (pre.length + 1) = post
  tr : w ∉ ws ∨ ((∀ i, i + 1 < j → cand pre post raw i ∈ ws) ∧ (0 < j → w = cand pre post raw (j - 1)))
theorem wd_end {pre post : List Nat} {raw : Int} {w0 : List Nat} {ws : List (List Nat)} {w : List Nat} (h : Wd pre post raw w0 ws 26 w) (hl : ws.length < 25) : w ∉ ws := by
  rcases h.tr with h | ⟨h, _⟩
  · exact h
  · have nd : ((List.range 25).map (cand pre post raw)).Nodup := by
      rw [List.nodup_iff_pairwise_ne, List.pairwise_map]
      refine (List.nodup_iff_pairwise_ne.mp List.nodup_range).imp_of_mem fun {x y} hx hy hne he => hne ?_
      rw [List.mem_range] at hx hy
      exact cand_inj (by omega) (by omega) he
    have := nodup_subG nd (m := ws) fun x hx => by
      obtain ⟨i, hi, rfl⟩ := List.mem_map.mp hx
      rw [List.mem_range] at hi
      exact h i (by omega)
    rw [List.length_map, List.length_range] at this
    omega
theorem pure_law_names {K : PySem.W.Frag} {vs : List V} {H : Hp} {Q : VK} {E : XK} (h : sp_law_names K vs H Q E) : t_law_names K { nx := fun _ H' => Q .non H', rt := Q } (start N_law_names vs) H := by
  obtain ⟨a, rows, n, rfl, hS, hn, h24, k⟩ := h
  unfold t_law_names
  walk_at "xs"
  rw [lets_str]
  refine al_lst fun p H1 np s1 hp => ?_
  walk_at "xs"
  refine ⟨n, rfl, by omega, by omega, for_by turnsR (fun i σ H' => ∃ (ws : List (List Nat)) (u1 u2 u3 u4 u5 u6 u7 u8 : Option V), σ = [some (.ref a), some (.int n), some (vS lets), some (.ref p), u1, u2, u3, u4, u5, u6, u7, u8, none] ∧ Same H H' ∧ H' p = some (.lst (ws.map vS)) ∧ ws.length = i ∧ ws.Nodup ∧ ∀ w ∈ ws, NameOk w ∧ Near w)
    ⟨[], none, none, none, none, none, none, none, none, rfl, s1, hp, rfl, List.nodup_nil, fun _ h => nomatch h⟩ (fun _ _ _ _ _ => trivial) ?_ ?_⟩
  · rintro i y σ H2 _ hi ⟨ws, u1, u2, u3, u4, u5, u6, u7, u8, rfl, s2, hp2, wl, nd, ok⟩ ⟨rfl, rfl⟩
    have hi' : i < n := by omega
    walk_at "xs"
    refine x_ixL (s2.seq hS) (at_getI (by omega) (by omega)) ?_
    generalize rows.getD ((0 : Int) + (i : Int)).toNat 0 = raw
    have b1 := Int.emod_nonneg raw (show (12 : Int) ≠ 0 by decide)
    have b2 := Int.emod_lt_of_pos raw (show (0 : Int) < 12 by decide)
    obtain ⟨sz, hsz⟩ : ∃ sz : Nat, 1 + raw % 12 = sz := ⟨(1 + raw % 12).toNat, by omega⟩
    walk_at "xs"
    rw [hsz]
    have t1 := Int.emod_nonneg (raw / 5) (show (4 : Int) ≠ 0 by decide)
    have t2 := Int.emod_lt_of_pos (raw / 5) (show (0 : Int) < 4 by decide)
    generalize raw / 5 % 4 = tn at t1 t2 ⊢
    refine ⟨sz, rfl, by omega, by omega, fun A nA => ?_⟩
    refine lc_flat (fun j => some (vS [97 + ((raw / 13 + (0 + (j : Int)) * tn) % 26).toNat])) turnsR (fun _ _ => trivial) nA ?_ ?_
    · rintro j v Hc _ hj lc ⟨rfl, rfl⟩
      walk_at "xs"
      refine x_wipe rfl ?_
      walk_at "xs"
      refine x_ixS (by decide) (lets_at _) ?_
      exact lc.keep nA (Same.refl _) rfl (by omega)
    intro H3 s3 hA
    rw [show ((sz : Int)).toNat = sz by omega, List.filterMap_eq_map'] at hA
    obtain ⟨w0, hw0⟩ : ∃ w0 : List Nat, w0 = (List.range sz).map fun (j : Nat) => 97 + ((raw / 13 + (0 + (j : Int)) * tn) % 26).toNat := ⟨_, rfl⟩
    have hA' : H3 A = some (.lst ((w0.map fun c => [c]).map vS)) := by
      rw [hA, hw0, List.map_map, List.map_map]; rfl
    have w0l : w0.length = sz := by rw [hw0]; simp
    have w0ok : NameOk w0 := ⟨by omega, by omega, fun c hc => by
      rw [hw0] at hc
      obtain ⟨j, _, rfl⟩ := List.mem_map.mp hc
      generalize raw / 13 + (0 + (j : Int)) * tn = z
      omega⟩
    have w0g : ∀ k, k < w0.length → w0.getD k 0 = 97 + ((raw / 13 + (k : Int) * tn) % 26).toNat := fun k hk => by
      rw [hw0, List.getD_eq_getElem?_getD, List.getElem?_map, List.getElem?_range (by omega)]
      show 97 + ((raw / 13 + (0 + (k : Int)) * tn) % 26).toNat = _
      rw [Int.zero_add]
    clear hw0 hA
    refine x_join (a := []) (m := 1) (SqL.of hA') (fun y hy => ?_) (by rw [List.length_map]; simp; omega) ?_
    · obtain ⟨c, _, rfl⟩ := List.mem_map.mp hy
      exact Nat.le_refl _
    rw [joinL_nil, show (w0.map fun c => [c]).flatten = w0 by rw [← List.flatMap_def, List.flatMap_singleton']]
    have s23 := s2.trans s3
    have hp3 := s3 _ _ hp2
    have p1 := Int.emod_nonneg (raw / 7) (show (sz : Int) ≠ 0 by omega)
    have p2 := Int.emod_lt_of_pos (raw / 7) (show (0 : Int) < (sz : Int) by omega)
    walk_at "xs"
    obtain ⟨pl, hpl⟩ : ∃ pl : Nat, raw / 7 % (sz : Int) = pl := ⟨(raw / 7 % (sz : Int)).toNat, by omega⟩
    rw [hpl]
    have plt : pl < w0.length := by omega
    have prl : (w0.take pl).length = pl := by rw [List.length_take]; omega
    refine ⟨26, rfl, by decide, by decide, for_by turnsR (fun j σ H' => ∃ (w : List Nat) (u7 u8 : Option V), σ = [some (.ref a), some (.int n), some (vS lets), some (.ref p), some (.int (0 + (i : Int))), some (.int raw), some (.int sz), some (.int tn), some (vS w), some (.int pl), u7, u8, none] ∧ H3 = H' ∧ Wd (w0.take pl) (w0.drop (pl + 1)) raw w0 ws j w)
      ⟨w0, u7, u8, rfl, rfl, w0ok, by rw [prl, List.length_drop]; omega, by rw [prl], by rw [prl], .inr ⟨fun i h => absurd h (by omega), fun h => absurd h (by omega)⟩⟩ (fun _ _ _ _ _ => trivial) ?_ ?_⟩
    · rintro j y σ H4 _ hj ⟨w, u7, u8, rfl, rfl, wd⟩ ⟨rfl, rfl⟩
      have wo := wd.ok
      have wh := wo.hi
      have wln := wd.ln
      rw [prl, List.length_drop] at wln
      walk_at "xs"
      refine x_inS (SqL.of hp3) ?_
      walk_at "xs"
      walk_at "if"
      · rename_i c
        walk_at "xs"
        refine x_ixS (by decide) (lets_at _) ?_
        walk_at "xs"
        refine x_slTo (by omega) (by omega) ?_
        walk_at "xs"
        refine x_catS (by rw [List.length_take]; simp; omega) ?_
        walk_at "xs"
        refine x_slFrom (by omega) (by omega) ?_
        walk_at "xs"
        refine x_catS (by rw [List.length_append, List.length_take, List.length_drop]; simp; omega) ?_
        walk_at "xs"
        have e1 := wd.pr
        have e2 := wd.po
        rw [prl] at e1 e2
        rw [show ((pl : Int)).toNat = pl by omega, show ((pl : Int) + 1).toNat = pl + 1 by omega, e1, e2, show (0 : Int) + (j : Int) = (j : Int) by omega]
        refine ⟨cand (w0.take pl) (w0.drop (pl + 1)) raw j, _, _, rfl, rfl, ⟨?_, ?_, ?_⟩, ?_, ?_, ?_, .inr ⟨fun i hi => ?_, fun _ => by rw [Nat.add_sub_cancel]⟩⟩
        · unfold cand; rw [List.length_append, List.length_append]; simp only [List.length_cons, List.length_nil]; omega
        · unfold cand; rw [List.length_append, List.length_append, prl, List.length_drop]; simp; omega
        · intro c hc
          unfold cand at hc
          rcases List.mem_append.mp hc with hc | hc
          · rcases List.mem_append.mp hc with hc | hc
            · exact w0ok.ok c (List.mem_of_mem_take hc)
            · cases List.mem_singleton.mp hc; omega
          · exact w0ok.ok c (List.mem_of_mem_drop hc)
        · unfold cand; rw [List.length_append, List.length_append]; rfl
        · unfold cand; rw [List.append_assoc, List.take_left]
        · unfold cand; rw [List.drop_append_of_le_length (by rw [List.length_append]; simp), List.drop_of_length_le (by rw [List.length_append]; simp)]; rfl
        · rcases wd.tr with h | ⟨h1, h2⟩
          · exact absurd c h
          · by_cases z : i + 1 < j
            · exact h1 i z
            · have : i = j - 1 := by omega
              rw [this, ← h2 (by omega)]; exact c
      · rename_i c
        exact ⟨w, _, _, rfl, rfl, wd.ok, wd.ln, wd.pr, wd.po, .inl c⟩
    · rintro σ H4 ⟨w, u7, u8, rfl, rfl, wd⟩
      have nw := wd_end wd (by omega)
      have near : Near w := by
        have wln := wd.ln
        have e1 := wd.pr
        have e2 := wd.po
        rw [prl, List.length_drop] at wln
        rw [prl] at e1 e2
        exact near_of t1 t2 w0g plt (by omega) e1 e2
      walk_at "xs"
      refine ⟨tyL (SqL.of hp3), ?_⟩
      walk_at "xs"
      refine x_append hp3 (small (by rw [List.length_map]; omega)) ?_
      refine ⟨ws ++ [w], _, _, _, _, _, _, _, _, rfl, same_upd s23 np, by rw [upd_same, List.map_append]; rfl, by rw [List.length_append, wl]; rfl, ?_, fun x hx => ?_⟩
      · rw [List.nodup_append]
        exact ⟨nd, by simp, fun a ha b hb e => nw (by rw [List.mem_singleton] at hb; rw [← hb, ← e]; exact ha)⟩
      · rcases List.mem_append.mp hx with h | h
        · exact ok x h
        · cases List.mem_singleton.mp h; exact ⟨wd.ok, near⟩
  · rintro σ H2 ⟨ws, u1, u2, u3, u4, u5, u6, u7, u8, rfl, s2, hp2, wl, nd, ok⟩
    walk_at "xs"
    exact k p ws H2 np s2 hp2 (by omega) nd (fun w hw => (ok w hw).1) (fun w hw => (ok w hw).2)

end Su
namespace Su
open PySem L2
local macro_rules | `(tactic| walk_at "side") => `(tactic| first | assumption | (show (0 : Int) < _; omega) | (show (0 : Int) ≤ _; omega) | (show (0 : Int) < _; split <;> omega) | (show _ ∨ _; omega) | (show _ ∧ _; omega) | exact ⟨by decide, by decide, by decide⟩ | exact ⟨by first | assumption | omega, by first | assumption | omega⟩)
local macro_rules | `(tactic| walk_at "x") => `(tactic| first | with_reducible refine Su.x_ret ?_ | ((with_reducible show L2.tVar _ _ _ _); refine Su.x_var rfl ?_) | with_reducible refine Su.x_c ?_ | with_reducible refine Su.x_op ?_ | ((with_reducible refine Su.x_rI ?_ ?_); focus walk_at "side") | with_reducible refine Su.x_nil ?_ | with_reducible refine Su.x_cons ?_ | with_reducible refine Su.x_lst ?_)
local macro_rules | `(tactic| walk_at "xs") => `(tactic| repeat walk_at "x")
local macro_rules | `(tactic| walk_at "if") => `(tactic| first | with_reducible refine Su.x_iteD (fun c => ?_) (fun c => ?_) | with_reducible refine Su.x_iteN (fun c => ?_) (fun c => ?_) | with_reducible refine Su.x_ite (fun c => ?_) (fun c => ?_))

/-! _law_number -/
def sp_law_number (K : PySem.W.Frag) : Sp := fun vs H Q _ => ∃ i : Int, vs = [.int i] ∧ ∀ (j : Int) H', NumOk j → Same H H' → Q (.int j) H'
abbrev N_law_number : List Str := ["_law_raw"]
def t_law_number (K : PySem.W.Frag) : TS :=
 (tRet (tOp (rIxL K) (tLst (tCons (tC (.int 0)) (tCons (tC (.int 999999999999)) (tCons (tOp rMod (tVar 0) (tC (.int 10))) (tCons (tOp rMod (tVar 0) (tOp rPow (tC (.int 10)) (tC (.int 12)))) (tCons (tOp rMod (tOp rDiv (tVar 0) (tC (.int 5))) (tC (.int 1000))) tNil)))))) (tOp rMod (tVar 0) (tC (.int 5)))))

theorem len_law_number {K : PySem.W.Frag} : ∀ vs H Q E, sp_law_number K vs H Q E → vs.length = ["a"].length := by
  rintro vs H Q E ⟨_, rfl, _⟩; rfl
theorem pure_law_number {K : PySem.W.Frag} {vs : List V} {H : Hp} {Q : VK} {E : XK} (h : sp_law_number K vs H Q E) : t_law_number K { nx := fun _ H' => Q .non H', rt := Q } (start N_law_number vs) H := by
  obtain ⟨i, rfl, k⟩ := h
  unfold t_law_number
  walk_at "xs"
  refine x_rI (by show (0 : Int) < 10 ^ Int.toNat 12; decide) ?_
  walk_at "xs"
  refine al_lst fun p H1 np s1 hp => ?_
  walk_at "xs"
  have hp' : H1 p = some (.lst (([0, 999999999999, i % 10, i % 10 ^ Int.toNat 12, i / 5 % 1000] : List Int).map V.int)) := hp
  have m5 := Int.emod_nonneg i (show (5 : Int) ≠ 0 by decide)
  have m6 := Int.emod_lt_of_pos i (show (0 : Int) < 5 by decide)
  refine x_ixI hp' m5 (by simp; omega) ?_
  refine k _ H1 ?_ s1
  have e12 : (10 : Int) ^ Int.toNat 12 = 1000000000000 := by decide
  rw [e12]
  refine getD_all (P := NumOk) ?_ ⟨by decide, by decide⟩ _
  intro x hx
  simp only [List.mem_cons, List.not_mem_nil, or_false] at hx
  rcases hx with rfl | rfl | rfl | rfl | rfl
  · exact ⟨by decide, by decide⟩
  · exact ⟨by decide, by decide⟩
  · exact ⟨by omega, by omega⟩
  · exact ⟨by omega, by omega⟩
  · exact ⟨by omega, by omega⟩

end Su
namespace Su
open PySem L2
local macro_rules | `(tactic| walk_at "side") => `(tactic| first | assumption | (show (0 : Int) < _; omega) | (show (0 : Int) ≤ _; omega) | (show (0 : Int) < _; split <;> omega) | (show _ ∨ _; omega) | (show _ ∧ _; omega) | exact ⟨by decide, by decide, by decide⟩ | exact ⟨by first | assumption | omega, by first | assumption | omega⟩)
local macro_rules | `(tactic| walk_at "x") => `(tactic| first | with_reducible refine Su.x_seq ?_ | with_reducible refine Su.x_asg ?_ | with_reducible refine Su.x_gname ?_ | with_reducible refine Su.x_drop ?_ | with_reducible refine Su.x_ret ?_ | with_reducible refine Su.x_ifS ?_ | ((with_reducible show L2.tVar _ _ _ _); refine Su.x_var rfl ?_) | with_reducible refine Su.x_c ?_ | with_reducible refine Su.x_op ?_ | with_reducible refine Su.x_rI0 ?_ | ((with_reducible refine Su.x_rI ?_ ?_); focus walk_at "side") | with_reducible refine Su.x_rGt ?_ | with_reducible refine Su.x_test ?_ | with_reducible refine Su.x_isB' ?_ | with_reducible refine Su.x_and ?_ | with_reducible refine Su.x_nil ?_ | with_reducible refine Su.x_cons ?_ | with_reducible refine Su.x_cb ?_ | with_reducible refine Su.x_abs ?_ | with_reducible refine Su.x_lst ?_ | with_reducible refine Su.x_bmL ?_ | with_reducible refine Su.x_for ?_ | with_reducible refine Su.x_iList ?_ | with_reducible refine Su.x_whileN ?_)
local macro_rules | `(tactic| walk_at "xs") => `(tactic| repeat walk_at "x")
local macro_rules | `(tactic| walk_at "if") => `(tactic| first | with_reducible refine Su.x_iteD (fun c => ?_) (fun c => ?_) | with_reducible refine Su.x_iteN (fun c => ?_) (fun c => ?_) | with_reducible refine Su.x_ite (fun c => ?_) (fun c => ?_))

/-! _law_draws -/
def sp_law_draws (K : PySem.W.Frag) : Sp := fun vs H Q _ => ∃ (a : Addr) (ns : List Int) (many : Nat), vs = [.ref a, .int many] ∧ SqL K H a (ns.map V.int) ∧ ns.length ≤ 63 ∧ many ≤ 1000 ∧
  ∀ (p : Addr) (rows : List Int) (H' : Hp), H p = none → Same H H' → H' p = some (.lst (rows.map V.int)) → many ≤ rows.length → rows.length ≤ 2000 → (∀ x ∈ rows, -(10 ^ 18) < x ∧ x < 10 ^ 18) → Q (.ref p) H'
abbrev N_law_draws : List Str := ["_law_script", "_law_many", "_law_rows", "_law_mix", "_law_cell", "_law_rest"]
def t_law_draws (K : PySem.W.Frag) : TS :=
 (tSeq (tAsg (tLst tNil) (gName 2))
 (tSeq (tAsg (tC (.int 1)) (gName 3))
 (tSeq (tFor (iList K (tVar 0)) (gName 4)
 (tSeq (tAsg (tOp rMod (tOp rAdd (tOp rMul (tVar 3) (tC (.int 31))) (tVar 4)) (tC (.int 2147483647))) (gName 3))
 (tSeq (tAsg (tCB rAbs (tCons (tVar 4) tNil)) (gName 5))
 (C8.tCut (tIfS (tTest (tOp rLt (tVar 5) (tOp rPow (tC (.int 10)) (tC (.int 18)))))
 (tSeq (tDrop (tBM K "list" rAppend (tVar 2) (tCons (tVar 4) tNil)))
 (tAsg (tC (.int 0)) (gName 5)))
 tNext)
 (tWhile (tAnd (tTest (tOp rGt (tVar 5) (tC (.int 0)))) (tTest (tOp rLt (tCB (rLenSeq K) (tCons (tVar 2) tNil)) (tVar 1))))
 (tSeq (tDrop (tBM K "list" rAppend (tVar 2) (tCons (tOp rMod (tVar 5) (tC (.int 1000003))) tNil)))
 (tAsg (tOp rDiv (tVar 5) (tC (.int 1000003))) (gName 5))))))))
 (tSeq (tWhile (tTest (tOp rLt (tCB (rLenSeq K) (tCons (tVar 2) tNil)) (tVar 1)))
 (tSeq (tAsg (tOp rMod (tOp rAdd (tOp rMul (tVar 3) (tC (.int 48271))) (tC (.int 11))) (tC (.int 2147483647))) (gName 3))
 (tDrop (tBM K "list" rAppend (tVar 2) (tCons (tOp rMod (tOp rMul (tVar 3) (tVar 3)) (tC (.int 999983))) tNil)))))
 (tRet (tVar 2))))))

theorem len_law_draws {K : PySem.W.Frag} : ∀ vs H Q E, sp_law_draws K vs H Q E → vs.length = ["_law_script", "_law_many"].length := by
  rintro vs H Q E ⟨s, n, p, rfl, _⟩; rfl
structure DrawSt (H : Hp) (p : Addr) (rows : List Int) (H' : Hp) : Prop where
  s : Same H H'
  o : H' p = some (.lst (rows.map V.int))
  b : ∀ x ∈ rows, -(10 ^ 18) < x ∧ x < 10 ^ 18
theorem DrawSt.push {H : Hp} {p : Addr} {rows : List Int} {H' : Hp} (h : DrawSt H p rows H') (np : H p = none) {x : Int} (hx : -(10 ^ 18) < x ∧ x < 10 ^ 18) : DrawSt H p (rows ++ [x]) (upd H' p (.lst (rows.map V.int ++ [.int x]))) where
  s := fun b o e => by rw [upd_ne (ne_of_none e np)]; exact h.s b o e
  o := by rw [upd_same, List.map_append]; rfl
  b := fun y hy => by
    rcases List.mem_append.mp hy with q | q
    · exact h.b y q
    · cases List.mem_singleton.mp q; exact hx
theorem pure_law_draws {K : PySem.W.Frag} {vs : List V} {H : Hp} {Q : VK} {E : XK} (h : sp_law_draws K vs H Q E) : t_law_draws K { nx := fun _ H' => Q .non H', rt := Q } (start N_law_draws vs) H := by
  obtain ⟨a, ns, many, rfl, hS, hl, hm, k⟩ := h
  unfold t_law_draws
  walk_at "xs"
  refine ⟨by decide, fun p np => ?_⟩
  walk_at "xs"
  refine ⟨a, rfl, ⟨_, Same.seq (H := H) (fun b o e => by rw [upd_ne (ne_of_none e np)]; exact e) hS⟩, for_list (K := K) (a := a) (xs := ns.map V.int) (fun i σ H' => ∃ (rows : List Int) (mix : Int) (u v : Option V),
      σ = [some (.ref a), some (.int many), some (.ref p), some (.int mix), u, v] ∧ DrawSt H p rows H' ∧ rows.length ≤ i + many ∧ 0 ≤ mix ∧ mix < 2147483647)
    ⟨[], 1, none, none, rfl, ⟨fun b o e => by rw [upd_ne (ne_of_none e np)]; exact e, upd_same, fun _ h => nomatch h⟩, by simp, by decide, by decide⟩ (fun i σ H' _ ⟨_, _, _, _, _, d, _⟩ => d.s.seq hS) ?_ ?_⟩
  · rintro i y σ H1 hi ⟨rows, mix, u, v, rfl, d, hr, m0, m1⟩
    obtain ⟨z, rfl⟩ : ∃ z, y = V.int z := by
      rw [List.getElem?_map] at hi
      cases e : ns[i]? with
      | none => rw [e] at hi; cases hi
      | some z => rw [e] at hi; exact ⟨z, (Option.some.inj hi).symm⟩
    have hil : i < ns.length := by
      have := (List.getElem?_eq_some_iff.mp hi).1
      rwa [List.length_map] at this
    have hq : (0 : Int) ≤ (mix * 31 + z) % 2147483647 ∧ (mix * 31 + z) % 2147483647 < 2147483647 := ⟨Int.emod_nonneg _ (by decide), Int.emod_lt_of_pos _ (by decide)⟩
    -- the while, from any state
    have loop : ∀ (D : Ends) (rows : List Int) (rest : Int) (u : Option V) (H2 : Hp), DrawSt H p rows H2 → 0 ≤ rest → rows.length ≤ i + 1 + many → 
        (∀ rows' rest' H3, DrawSt H p rows' H3 → rows'.length ≤ i + 1 + many → D.nx [some (.ref a), some (.int many), some (.ref p), some (.int ((mix * 31 + z) % 2147483647)), u, some (.int rest')] H3) →
        tWhile (tAnd (tTest (tOp rGt (tVar 5) (tC (V.int 0)))) (tTest (tOp rLt (tCB (rLenSeq K) (tCons (tVar 2) tNil)) (tVar 1))))
            (tSeq (tDrop (tBM K "list" rAppend (tVar 2) (tCons (tOp rMod (tVar 5) (tC (V.int 1000003))) tNil)))
              (tAsg (tOp rDiv (tVar 5) (tC (V.int 1000003))) (gName 5))) D [some (.ref a), some (.int many), some (.ref p), some (.int ((mix * 31 + z) % 2147483647)), u, some (.int rest)] H2 := by
      intro D rows rest u H2 d h0 hr kk
      refine ⟨fun m σ H2 => ∃ rows rest, σ = [some (.ref a), some (.int many), some (.ref p), some (.int ((mix * 31 + z) % 2147483647)), u, some (.int rest)] ∧ DrawSt H p rows H2 ∧ 0 ≤ rest ∧ rows.length ≤ i + 1 + many ∧ m = rest.toNat, ⟨_, rows, rest, rfl, d, h0, hr, rfl⟩, ?_⟩
      rintro m σ H2 ⟨rows, rest, rfl, d, h0, hr, rfl⟩
      walk_at "xs"
      walk_at "if"
      · walk_at "xs"
        refine x_lenL (SqL.of d.o) ?_
        walk_at "xs"
        walk_at "if"
        · rename_i c1 c2
          have c2' : rows.length < many := by rw [List.length_map] at c2; exact Int.ofNat_lt.mp c2
          walk_at "xs"
          refine ⟨tyL (SqL.of d.o), ?_⟩
          walk_at "xs"
          refine x_append d.o (small (by rw [List.length_map]; omega)) ?_
          have b0 := Int.emod_nonneg rest (show (1000003 : Int) ≠ 0 by decide)
          have b1 := Int.emod_lt_of_pos rest (show (0 : Int) < 1000003 by decide)
          walk_at "xs"
          exact ⟨_, by show (rest / 1000003).toNat < rest.toNat; omega, rows ++ [rest % 1000003], rest / 1000003, rfl, d.push np ⟨by omega, by omega⟩, by omega, by rw [List.length_append]; simp; omega, rfl⟩
        · exact kk rows rest H2 d hr
      · exact kk rows rest H2 d hr
    walk_at "xs"
    refine x_cut (fun σ H2 => ∃ (rows : List Int) (rest : Int), σ = [some (.ref a), some (.int many), some (.ref p), some (.int ((mix * 31 + z) % 2147483647)), some (.int z), some (.int rest)] ∧ DrawSt H p rows H2 ∧ 0 ≤ rest ∧ rows.length ≤ i + 1 + many) ?_ ?_
    · walk_at "xs"
      walk_at "if"
      · rename_i c1
        walk_at "xs"
        refine ⟨tyL (SqL.of d.o), ?_⟩
        walk_at "xs"
        have hz : -(10 ^ 18) < z ∧ z < 10 ^ 18 := by
          by_cases z0 : z < 0
          · rw [if_pos z0] at c1; exact ⟨by have : -z < 10 ^ 18 := c1; omega, by omega⟩
          · rw [if_neg z0] at c1; exact ⟨by omega, c1⟩
        refine x_append d.o (small (by rw [List.length_map]; omega)) ?_
        walk_at "xs"
        exact ⟨rows ++ [z], 0, rfl, d.push np hz, by decide, by rw [List.length_append]; simp; omega⟩
      · refine ⟨rows, _, rfl, d, ?_, by omega⟩
        by_cases z0 : z < 0
        · rw [if_pos z0]; omega
        · rw [if_neg z0]; omega
    rintro _ _ ⟨rows, rest, rfl, d, h0, hr⟩
    refine loop _ rows rest _ _ d h0 hr fun rows' rest' H3 d3 h3 => ?_
    exact ⟨rows', _, _, _, rfl, d3, h3, hq.1, hq.2⟩
  · rintro σ H1 ⟨rows, mix, u, v, rfl, d, hr, m0, m1⟩
    rw [List.length_map] at hr
    walk_at "xs"
    refine ⟨fun m σ H2 => ∃ (rows : List Int) (mix : Int), σ = [some (.ref a), some (.int many), some (.ref p), some (.int mix), u, v] ∧ DrawSt H p rows H2 ∧ rows.length ≤ 63 + many ∧ 0 ≤ mix ∧ mix < 2147483647 ∧ m = many - rows.length, ⟨_, rows, mix, rfl, d, by omega, m0, m1, rfl⟩, ?_⟩
    rintro m σ H2 ⟨rows, mix, rfl, d, hr, m0, m1, rfl⟩
    walk_at "xs"
    refine x_lenL (SqL.of d.o) ?_
    walk_at "xs"
    walk_at "if"
    · rename_i c2
      have c2' : rows.length < many := by rw [List.length_map] at c2; exact Int.ofNat_lt.mp c2
      have hq : (0 : Int) ≤ (mix * 48271 + 11) % 2147483647 ∧ (mix * 48271 + 11) % 2147483647 < 2147483647 := ⟨Int.emod_nonneg _ (by decide), Int.emod_lt_of_pos _ (by decide)⟩
      walk_at "xs"
      refine ⟨tyL (SqL.of d.o), ?_⟩
      walk_at "xs"
      refine x_append d.o (small (by rw [List.length_map]; omega)) ?_
      have b0 := Int.emod_nonneg ((mix * 48271 + 11) % 2147483647 * ((mix * 48271 + 11) % 2147483647)) (show (999983 : Int) ≠ 0 by decide)
      have b1 := Int.emod_lt_of_pos ((mix * 48271 + 11) % 2147483647 * ((mix * 48271 + 11) % 2147483647)) (show (0 : Int) < 999983 by decide)
      exact ⟨_, by show many - (rows.length + 1) < many - rows.length; omega, rows ++ [_], _, rfl, d.push np ⟨by omega, by omega⟩, by rw [List.length_append]; simp; omega, hq.1, hq.2, by rw [List.length_append]; rfl⟩
    · rename_i c2
      have c2' : many ≤ rows.length := by
        rw [List.length_map] at c2
        omega
      walk_at "xs"
      exact k p rows H2 np d.s d.o c2' (by omega) d.b

end Su
namespace Su
open PySem L2
local macro_rules | `(tactic| walk_at "side") => `(tactic| first | assumption | (show (0 : Int) < _; omega) | (show (0 : Int) ≤ _; omega) | (show (0 : Int) < _; split <;> omega) | (show _ ∨ _; omega) | (show _ ∧ _; omega) | exact ⟨by decide, by decide, by decide⟩ | exact ⟨by first | assumption | omega, by first | assumption | omega⟩)
local macro_rules | `(tactic| walk_at "x") => `(tactic| first | with_reducible refine Su.x_seq ?_ | with_reducible refine Su.x_asg ?_ | with_reducible refine Su.x_gname ?_ | with_reducible refine Su.x_drop ?_ | with_reducible refine Su.x_ret ?_ | with_reducible refine Su.x_ifS ?_ | ((with_reducible show L2.tVar _ _ _ _); refine Su.x_var rfl ?_) | with_reducible refine Su.x_c ?_ | with_reducible refine Su.x_op ?_ | with_reducible refine Su.x_rI0 ?_ | ((with_reducible refine Su.x_rI ?_ ?_); focus walk_at "side") | with_reducible refine Su.x_eqI ?_ | with_reducible refine Su.x_eqS ?_ | with_reducible refine Su.x_test ?_ | with_reducible refine Su.x_isB' ?_ | with_reducible refine Su.x_nil ?_ | with_reducible refine Su.x_cons ?_ | with_reducible refine Su.x_cb ?_ | with_reducible refine Su.x_call ?_ | with_reducible refine Su.x_lst ?_ | with_reducible refine Su.x_tup ?_ | with_reducible refine Su.x_bmL ?_ | with_reducible refine Su.x_next ?_ | with_reducible refine Su.x_for ?_ | with_reducible refine Su.x_iRng1 ?_ | with_reducible refine Su.x_sl ?_ | with_reducible refine Su.x_nopart ?_ | with_reducible refine Su.x_part ?_ | with_reducible refine Su.x_isI ?_)
local macro_rules | `(tactic| walk_at "xs") => `(tactic| repeat walk_at "x")
local macro_rules | `(tactic| walk_at "if") => `(tactic| first | with_reducible refine Su.x_iteD (fun c => ?_) (fun c => ?_) | with_reducible refine Su.x_iteN (fun c => ?_) (fun c => ?_) | with_reducible refine Su.x_ite (fun c => ?_) (fun c => ?_))

/-! _law_deed -/
def sp_law_deed (K : PySem.W.Frag) : Sp := fun vs H Q _ => ∃ (a : Addr) (rows : List Int), vs = [.ref a] ∧ SqL K H a (rows.map V.int) ∧ 66 ≤ rows.length ∧ rows.length ≤ 50000 ∧ (∀ x ∈ rows, -(10 ^ 18) < x ∧ x < 10 ^ 18) ∧
  ∀ (d : Dd) (x : V) (H' : Hp), Same H H' → Dp K H' x d.d → DdOk d → Q x H'
theorem x_inW {K : PySem.W.Frag} {H : Hp} {Q : VK} {p : Addr} {w : List Nat} {l : List (List Nat)} (e : SqT K H p (l.map vS)) (h : Q (.bl (decide (w ∈ l))) H) : rIn K false (vS w) (.ref p) H Q :=
  ⟨p, _, rfl, .inr e, rfl, flat_str l, by rw [if_neg Bool.false_ne_true, inV_str]; exact h⟩
def kinds : List (List Nat) := [kEnter, kPart, kBring, kTake, kFound, kPay, kBid, kLay, kSwap, kClose]
theorem b_modI (x : Int) {m : Int} (h : 0 < m) : 0 ≤ x % m ∧ x % m < m := ⟨Int.emod_nonneg x (by omega), Int.emod_lt_of_pos x h⟩
abbrev N_law_deed : List Str := ["_law_some", "_law_people", "_law_word", "_law_seats", "_law_at"]
def t_law_deed (K : PySem.W.Frag) : TS :=
 (tSeq (tAsg (tCall (sp_law_names K) [] E0 (tCons (tSl (rSlL K) (tVar 0) (tPart (tC (.int 44))) tNoPart) (tCons (tC (.int 21)) tNil))) (gName 1))
 (tSeq (tAsg (tOp (rIxL K) (tLst (tCons (tC (.str "enter")) (tCons (tC (.str "part")) (tCons (tC (.str "bring")) (tCons (tC (.str "take")) (tCons (tC (.str "found")) (tCons (tC (.str "pay")) (tCons (tC (.str "bid")) (tCons (tC (.str "lay")) (tCons (tC (.str "swap")) (tCons (tC (.str "close")) tNil))))))))))) (tOp rMod (tOp (rIxL K) (tVar 0) (tC (.int 0))) (tC (.int 10)))) (gName 2))
 (tSeq (tIfS (tTest (tOp (rIn K false) (tVar 2) (tTup (tCons (tC (.str "enter")) (tCons (tC (.str "part")) (tCons (tC (.str "close")) tNil))))))
 (tRet (tTup (tCons (tVar 2) (tCons (tOp (rIxL K) (tVar 1) (tC (.int 0))) tNil))))
 tNext)
 (tSeq (tIfS (tTest (tOp (rIn K false) (tVar 2) (tTup (tCons (tC (.str "bring")) (tCons (tC (.str "take")) tNil)))))
 (tRet (tTup (tCons (tVar 2) (tCons (tOp (rIxL K) (tVar 1) (tC (.int 0))) (tCons (tCall (sp_law_number K) [] E0 (tCons (tOp (rIxL K) (tVar 0) (tC (.int 2))) tNil)) tNil)))))
 tNext)
 (tSeq (tIfS (tTest (tOp rEq (tVar 2) (tC (.str "pay"))))
 (tRet (tTup (tCons (tVar 2) (tCons (tOp (rIxL K) (tVar 1) (tC (.int 0))) (tCons (tOp (rIxL K) (tVar 1) (tC (.int 1))) tNil)))))
 tNext)
 (tSeq (tIfS (tTest (tOp rEq (tVar 2) (tC (.str "swap"))))
 (tRet (tTup (tCons (tVar 2) (tCons (tOp (rIxL K) (tVar 1) (tC (.int 0))) (tCons (tOp (rIxL K) (tVar 1) (tC (.int 1))) (tCons (tOp (rIxL K) (tVar 1) (tC (.int 2))) tNil))))))
 tNext)
 (tSeq (tIfS (tTest (tOp (rIn K false) (tVar 2) (tTup (tCons (tC (.str "bid")) (tCons (tC (.str "lay")) tNil)))))
 (tRet (tTup (tCons (tVar 2) (tCons (tOp (rIxL K) (tVar 1) (tC (.int 0))) (tCons (tOp (rIxL K) (tVar 1) (tC (.int 1))) (tCons (tCall (sp_law_number K) [] E0 (tCons (tOp (rIxL K) (tVar 0) (tC (.int 2))) tNil)) tNil))))))
 tNext)
 (tSeq (tAsg (tLst tNil) (gName 3))
 (tSeq (tFor (iRng1 (tCons (tOp rAdd (tC (.int 1)) (tOp rMod (tOp (rIxL K) (tVar 0) (tC (.int 1))) (tC (.int 20)))) tNil)) (gName 4)
 (tDrop (tBM K "list" rAppend (tVar 3) (tCons (tTup (tCons (tOp (rIxL K) (tVar 1) (tOp rAdd (tC (.int 1)) (tVar 4))) (tCons (tCall (sp_law_number K) [] E0 (tCons (tOp (rIxL K) (tVar 0) (tOp rAdd (tC (.int 2)) (tOp rMul (tC (.int 2)) (tVar 4)))) tNil)) (tCons (tCall (sp_law_number K) [] E0 (tCons (tOp (rIxL K) (tVar 0) (tOp rAdd (tC (.int 3)) (tOp rMul (tC (.int 2)) (tVar 4)))) tNil)) tNil)))) tNil))))
 (tRet (tTup (tCons (tVar 2) (tCons (tOp (rIxL K) (tVar 1) (tC (.int 0))) (tCons (tCall (sp_law_number K) [] E0 (tCons (tOp (rIxL K) (tVar 0) (tC (.int 42))) tNil)) (tCons (tOp rEq (tOp rMod (tOp (rIxL K) (tVar 0) (tC (.int 43))) (tC (.int 2))) (tC (.int 1))) (tCons (tCB (rTupleOf K) (tCons (tVar 3) tNil)) tNil))))))))))))))))

theorem len_law_deed {K : PySem.W.Frag} : ∀ vs H Q E, sp_law_deed K vs H Q E → vs.length = ["a"].length := by
  rintro vs H Q E ⟨_, _, rfl, _⟩; rfl
theorem pure_law_deed {K : PySem.W.Frag} {vs : List V} {H : Hp} {Q : VK} {E : XK} (h : sp_law_deed K vs H Q E) : t_law_deed K { nx := fun _ H' => Q .non H', rt := Q } (start N_law_deed vs) H := by
  obtain ⟨a, rows, rfl, hS, h66, h5, hb, k⟩ := h
  unfold t_law_deed
  rw [s_enter, s_part, s_bring, s_take, s_found, s_pay, s_bid, s_lay, s_swap, s_close]
  walk_at "xs"
  refine al_from (i := 44) hS rfl fun q H1 nq s1 hq => ?_
  walk_at "xs"
  refine ⟨q, rows.drop 44, 21, rfl, SqL.of hq, by rw [List.length_drop]; omega, by decide, fun p ws H2 np s2 hp wl nd wok _ => ?_⟩
  have nok : ∀ i, i < 21 → NameOk (ws.getD i []) := fun i hi => by
    rw [List.getD_eq_getElem?_getD, List.getElem?_eq_getElem (by omega)]
    exact wok _ (List.getElem_mem _)
  have s02 := s1.trans s2
  walk_at "xs"
  refine al_lst fun ka H3 nka s3 hka => ?_
  walk_at "xs"
  have S3 := (s02.trans s3).seq hS
  refine x_ixL S3 (at_getI (by decide) (by omega)) ?_
  walk_at "xs"
  have m10 := b_modI (rows.getD (Int.toNat 0) 0) (m := 10) (by decide)
  generalize rows.getD (Int.toNat 0) 0 % 10 = z at m10
  have hka' : H3 ka = some (.lst (kinds.map vS)) := hka
  refine x_ixW (SqL.of hka') m10.1 m10.2 ?_
  walk_at "xs"
  have s03 := s02.trans s3
  have hp3 := s3 _ _ hp
  have nx : ∀ {H' : Hp} {Q' : VK} {i : Int}, 0 ≤ i → i < 21 → Same H3 H' → Q' (vS (ws.getD i.toNat [])) H' → rIxL K (.ref p) (.int i) H' Q' := fun h0 h1 e q => x_ixW (SqL.of (e _ _ hp3)) h0 (by omega) q
  have rx : ∀ {H' : Hp} {Q' : VK} {i : Int}, 0 ≤ i → i < 66 → Same H3 H' → Q' (.int (rows.getD i.toNat 0)) H' → rIxL K (.ref a) (.int i) H' Q' := fun h0 h1 e q => x_ixL ((s03.trans e).seq hS) (at_getI h0 (by omega)) q
  refine al_tup fun t1 H4 nt1 s4 ht1 => ?_
  walk_at "xs"
  have ht1' : SqT K H4 t1 (([kEnter, kPart, kClose] : List (List Nat)).map vS) := SqT.of ht1
  refine x_inW ht1' ?_
  walk_at "xs"
  have kk : kinds.getD z.toNat [] ∈ kinds := by
    rw [List.getD_eq_getElem?_getD, List.getElem?_eq_getElem (show z.toNat < kinds.length by show _ < 10; omega)]
    exact List.getElem_mem _
  generalize kinds.getD z.toNat [] = kw at kk
  walk_at "if"
  · rename_i c
    walk_at "xs"
    refine nx (by decide) (by decide) s4 ?_
    walk_at "xs"
    refine al_tup fun t H5 nt s5 ht => ?_
    refine k (.plain kw [.n (ws.getD 0 [])]) _ H5 ((s03.trans s4).trans s5) (.tup (SqT.of ht) (.cons (.str _) (.cons (.str _) .nil))) (.plain (s := [110]) ?_ rfl ?_)
    · simp only [List.mem_cons, List.not_mem_nil, or_false] at c
      rcases c with rfl | rfl | rfl <;> decide +kernel
    · intro i p e
      match i, e with
      | 0, e => cases e; exact ⟨rfl, nok 0 (by decide)⟩
      | i + 1, e => cases e
  rename_i c
  walk_at "xs"
  refine al_tup fun t2 H5 nt2 s5 ht2 => ?_
  have ht2' : SqT K H5 t2 (([kBring, kTake] : List (List Nat)).map vS) := SqT.of ht2
  walk_at "xs"
  refine x_inW ht2' ?_
  walk_at "xs"
  have s35 := s4.trans s5
  walk_at "if"
  · rename_i c
    walk_at "xs"
    refine nx (by decide) (by decide) s35 ?_
    walk_at "xs"
    refine rx (by decide) (by decide) s35 ?_
    walk_at "xs"
    refine ⟨_, rfl, fun j H6 jo s6 => ?_⟩
    walk_at "xs"
    refine al_tup fun t H7 nt s7 ht => ?_
    refine k (.plain kw [.n (ws.getD 0 []), .c j]) _ H7 (((s03.trans s35).trans s6).trans s7) (.tup (SqT.of ht) (.cons (.str _) (.cons (.str _) (.cons (.int _) .nil)))) (.plain (s := [110, 99]) ?_ rfl ?_)
    · simp only [List.mem_cons, List.not_mem_nil, or_false] at c
      rcases c with rfl | rfl <;> decide +kernel
    · intro i p e
      match i, e with
      | 0, e => cases e; exact ⟨rfl, nok 0 (by decide)⟩
      | 1, e => cases e; exact ⟨rfl, jo⟩
      | i + 2, e => cases e
  rename_i c2
  walk_at "xs"
  rw [dec_S]
  walk_at "if"
  · rename_i c
    walk_at "xs"
    refine nx (by decide) (by decide) s35 ?_
    walk_at "xs"
    refine nx (by decide) (by decide) s35 ?_
    walk_at "xs"
    refine al_tup fun t H7 nt s7 ht => ?_
    refine k (.plain kw [.n (ws.getD 0 []), .n (ws.getD 1 [])]) _ H7 ((s03.trans s35).trans s7) (.tup (SqT.of ht) (.cons (.str _) (.cons (.str _) (.cons (.str _) .nil)))) (.plain (s := [110, 110]) ?_ rfl ?_)
    · subst c; decide +kernel
    · intro i p e
      match i, e with
      | 0, e => cases e; exact ⟨rfl, nok 0 (by decide)⟩
      | 1, e => cases e; exact ⟨rfl, nok 1 (by decide)⟩
      | i + 2, e => cases e
  rename_i c3
  walk_at "xs"
  rw [dec_S]
  walk_at "if"
  · rename_i c
    walk_at "xs"
    refine nx (by decide) (by decide) s35 ?_
    walk_at "xs"
    refine nx (by decide) (by decide) s35 ?_
    walk_at "xs"
    refine nx (by decide) (by decide) s35 ?_
    walk_at "xs"
    refine al_tup fun t H7 nt s7 ht => ?_
    refine k (.plain kw [.n (ws.getD 0 []), .n (ws.getD 1 []), .n (ws.getD 2 [])]) _ H7 ((s03.trans s35).trans s7) (.tup (SqT.of ht) (.cons (.str _) (.cons (.str _) (.cons (.str _) (.cons (.str _) .nil))))) (.plain (s := [110, 110, 110]) ?_ rfl ?_)
    · subst c; decide +kernel
    · intro i p e
      match i, e with
      | 0, e => cases e; exact ⟨rfl, nok 0 (by decide)⟩
      | 1, e => cases e; exact ⟨rfl, nok 1 (by decide)⟩
      | 2, e => cases e; exact ⟨rfl, nok 2 (by decide)⟩
      | i + 3, e => cases e
  rename_i c4
  walk_at "xs"
  refine al_tup fun t3 H6 nt3 s6 ht3 => ?_
  have ht3' : SqT K H6 t3 (([kBid, kLay] : List (List Nat)).map vS) := SqT.of ht3
  walk_at "xs"
  refine x_inW ht3' ?_
  walk_at "xs"
  have s36 := s35.trans s6
  walk_at "if"
  · rename_i c
    walk_at "xs"
    refine nx (by decide) (by decide) s36 ?_
    walk_at "xs"
    refine nx (by decide) (by decide) s36 ?_
    walk_at "xs"
    refine rx (by decide) (by decide) s36 ?_
    walk_at "xs"
    refine ⟨_, rfl, fun j H7 jo s7 => ?_⟩
    walk_at "xs"
    refine al_tup fun t H8 nt s8 ht => ?_
    refine k (.plain kw [.n (ws.getD 0 []), .n (ws.getD 1 []), .c j]) _ H8 (((s03.trans s36).trans s7).trans s8) (.tup (SqT.of ht) (.cons (.str _) (.cons (.str _) (.cons (.str _) (.cons (.int _) .nil))))) (.plain (s := [110, 110, 99]) ?_ rfl ?_)
    · simp only [List.mem_cons, List.not_mem_nil, or_false] at c
      rcases c with rfl | rfl <;> decide +kernel
    · intro i p e
      match i, e with
      | 0, e => cases e; exact ⟨rfl, nok 0 (by decide)⟩
      | 1, e => cases e; exact ⟨rfl, nok 1 (by decide)⟩
      | 2, e => cases e; exact ⟨rfl, jo⟩
      | i + 3, e => cases e
  rename_i c5
  have kf : kw = kFound := by
    unfold kinds at kk
    simp only [List.mem_cons, List.not_mem_nil, or_false, not_or] at kk c c2 c5
    rcases kk with h | h | h | h | h | h | h | h | h | h
    · exact absurd h c.1
    · exact absurd h c.2.1
    · exact absurd h c2.1
    · exact absurd h c2.2
    · exact h
    · exact absurd h c3
    · exact absurd h c5.1
    · exact absurd h c5.2
    · exact absurd h c4
    · exact absurd h c.2.2
  clear c c2 c3 c4 c5 kk
  subst kf
  walk_at "xs"
  refine al_lst fun r H7 nr s7 hr => ?_
  walk_at "xs"
  have s37 := s36.trans s7
  refine rx (by decide) (by decide) s37 ?_
  walk_at "xs"
  have mS := b_modI (rows.getD (Int.toNat 1) 0) (m := 20) (by decide)
  obtain ⟨m, hm⟩ : ∃ m : Nat, 1 + rows.getD (Int.toNat 1) 0 % 20 = m := ⟨(1 + rows.getD (Int.toNat 1) 0 % 20).toNat, by omega⟩
  rw [hm]
  refine ⟨m, rfl, by omega, by omega, ?_⟩
  refine for_by turnsR (fun i σ H' => ∃ (u : Option V) (xs : List V) (seats : List Seat3), σ = [some (.ref a), some (.ref p), some (vS kFound), some (.ref r), u] ∧ Same H3 H' ∧ H' r = some (.lst xs) ∧ DpAll K (del H' r) xs (seats.map dSeat3) ∧ seats.length = i ∧ ∀ s ∈ seats, SeatOk3 s)
    ⟨none, [], [], rfl, s37, hr, .nil, rfl, fun _ h => nomatch h⟩ (fun _ _ _ _ _ => trivial) ?_ ?_
  · rintro i y σ H8 _ hi ⟨u, xs, seats, rfl, s8, hr8, hx, sl, so⟩ ⟨rfl, rfl⟩
    have xl := dpAll_len hx
    rw [List.length_map] at xl
    have nr3 : H3 r = none := s36.free nr
    walk_at "xs"
    refine ⟨tyL (SqL.of hr8), ?_⟩
    walk_at "xs"
    refine nx (by omega) (by omega) s8 ?_
    walk_at "xs"
    refine rx (by omega) (by omega) s8 ?_
    walk_at "xs"
    refine ⟨_, rfl, fun j H9 jo s9 => ?_⟩
    walk_at "xs"
    have s39 := s8.trans s9
    refine rx (by omega) (by omega) s39 ?_
    walk_at "xs"
    refine ⟨_, rfl, fun j2 H10 jo2 s10 => ?_⟩
    walk_at "xs"
    refine al_tup fun t H11 nt s11 ht => ?_
    walk_at "xs"
    have sX := (s9.trans s10).trans s11
    refine x_append (sX _ _ hr8) (small (by omega)) ?_
    have tr : t ≠ r := fun z => by rw [z] at nt; rw [(s9.trans s10) _ _ hr8] at nt; cases nt
    refine ⟨_, _, seats ++ [(ws.getD (1 + (0 + (i : Int))).toNat [], j, j2)], rfl, same_upd (s8.trans sX) nr3, upd_same, ?_, by rw [List.length_append, sl]; rfl, fun s hs => ?_⟩
    · rw [del_upd, List.map_append]
      exact dpAll_snoc (dpAll_same (del_mono sX) hx) (.tup (SqT.of (del_at ht tr)) (.cons (.str _) (.cons (.int _) (.cons (.int _) .nil))))
    · rcases List.mem_append.mp hs with h | h
      · exact so s h
      · cases List.mem_singleton.mp h
        exact ⟨nok _ (by omega), jo, jo2⟩
  · rintro σ H8 ⟨u, xs, seats, rfl, s8, hr8, hx, sl, so⟩
    walk_at "xs"
    refine nx (by decide) (by decide) s8 ?_
    walk_at "xs"
    refine rx (by decide) (by decide) s8 ?_
    walk_at "xs"
    refine ⟨_, rfl, fun j H9 jo s9 => ?_⟩
    walk_at "xs"
    have s39 := s8.trans s9
    refine rx (by decide) (by decide) s39 ?_
    walk_at "xs"
    refine x_tupleOfL (SqL.of (s9 _ _ hr8)) fun q4 H10 nq4 s10 hq4 => ?_
    walk_at "xs"
    refine al_tup fun q5 H11 nq5 s11 hq5 => ?_
    refine k (.found (ws.getD 0 []) j (decide (rows.getD (Int.toNat 43) 0 % 2 = 1)) seats) _ H11 (((s03.trans s39).trans s10).trans s11) (.tup (SqT.of hq5) (.cons (.str _) (.cons (.str _) (.cons (.int _) (.cons (.bl _) (.cons ?_ .nil)))))) (.found (nok 0 (by decide)) jo (by omega) (by omega) so)
    exact .tup (SqT.of (s11 _ _ hq4)) (dpAll_same (((del_same.trans s9).trans s10).trans s11) hx)

end Su
namespace Su
open PySem L2
local macro_rules | `(tactic| walk_at "side") => `(tactic| first | assumption | (show (0 : Int) < _; omega) | (show (0 : Int) ≤ _; omega) | (show (0 : Int) < _; split <;> omega) | (show _ ∨ _; omega) | (show _ ∧ _; omega) | exact ⟨by decide, by decide, by decide⟩ | exact ⟨by first | assumption | omega, by first | assumption | omega⟩)
local macro_rules | `(tactic| walk_at "x") => `(tactic| first | with_reducible refine Su.x_seq ?_ | with_reducible refine Su.x_asg ?_ | with_reducible refine Su.x_gname ?_ | with_reducible refine Su.x_ret ?_ | with_reducible refine Su.x_ifS ?_ | ((with_reducible show L2.tVar _ _ _ _); refine Su.x_var rfl ?_) | with_reducible refine Su.x_c ?_ | with_reducible refine Su.x_op ?_ | with_reducible refine Su.x_iteT ?_ | with_reducible refine Su.x_iteNT ?_ | with_reducible refine Su.x_iteNF ?_ | with_reducible refine Su.x_neS ?_ | with_reducible refine Su.x_test ?_ | with_reducible refine Su.x_isB' ?_ | with_reducible refine Su.x_nil ?_ | with_reducible refine Su.x_cons ?_ | with_reducible refine Su.x_cb ?_ | with_reducible refine Su.x_intB ?_ | with_reducible refine Su.x_lst ?_ | with_reducible refine Su.x_next ?_ | with_reducible refine Su.x_for ?_ | with_reducible refine Su.x_iTup ?_ | with_reducible refine Su.x_gcons ?_ | with_reducible refine Su.x_gnil ?_ | with_reducible refine Su.x_yes ?_ | with_reducible refine Su.x_lc ?_)
local macro_rules | `(tactic| walk_at "xs") => `(tactic| repeat walk_at "x")
local macro_rules | `(tactic| walk_at "if") => `(tactic| first | with_reducible refine Su.x_iteD (fun c => ?_) (fun c => ?_) | with_reducible refine Su.x_iteN (fun c => ?_) (fun c => ?_) | with_reducible refine Su.x_ite (fun c => ?_) (fun c => ?_))
local macro_rules | `(tactic| walk_at "x") => `(tactic| first | with_reducible refine Su.x_m1 ?_ | with_reducible refine Su.x_strE ?_)

/-! law_line -/
def sp_law_line (K : PySem.W.Frag) : Sp := fun vs H Q _ => ∃ (x : V) (d : Dd), vs = [x] ∧ Dp K H x d.d ∧ DdOk d ∧ ∀ H', Same H H' → Q (vS d.line) H'
theorem al_catW {H : Hp} {Q : VK} {a b : Addr} {xs zs : List V} (e : H a = some (.lst xs)) (e2 : H b = some (.lst zs)) (z : xs.length + zs.length ≤ 100000) (h : ∀ p H', H p = none → Same H H' → H' p = some (.lst (xs ++ zs)) → Q (.ref p) H') : rCat (.ref a) (.ref b) H Q := ⟨a, b, xs, zs, rfl, rfl, e, e2, Nat.le_of_lt (small z), fun p n => h p _ n (same_new (Same.refl H) n) upd_same⟩
abbrev N_law_line : List Str := ["_law_deed_here", "_law_words", "_law_name", "_law_pledge", "_law_wish", "_law_part"]
def t_law_line (K : PySem.W.Frag) : TS :=
 (tSeq (tIfS (tTest (tOp rNe (tOp (rIxT K) (tVar 0) (tC (.int 0))) (tC (.str "found"))))
 (tRet (tM1 (rJoin K) (tC (.str " ")) (tLc (iTup K (tVar 0)) (gName 5) tYes (tCB rStrA (tCons (tVar 5) tNil)) [5])))
 tNext)
 (tSeq (tAsg (tLst (tCons (tC (.str "found")) (tCons (tOp (rIxT K) (tVar 0) (tC (.int 1))) (tCons (tCB rStrInt (tCons (tOp (rIxT K) (tVar 0) (tC (.int 2))) tNil)) (tCons (tOp (rIxL K) (tLst (tCons (tC (.str "plain")) (tCons (tC (.str "bids")) tNil))) (tCB rInt1 (tCons (tOp (rIxT K) (tVar 0) (tC (.int 3))) tNil))) tNil))))) (gName 1))
 (tSeq (tFor (iTup K (tOp (rIxT K) (tVar 0) (tC (.int 4)))) (gTup K 3 (gCons (gName 2) (gCons (gName 3) (gCons (gName 4) gNil))))
 (tAsg (tOp rCat (tVar 1) (tLst (tCons (tVar 2) (tCons (tCB rStrInt (tCons (tVar 3) tNil)) (tCons (tCB rStrInt (tCons (tVar 4) tNil)) tNil))))) (gName 1)))
 (tRet (tM1 (rJoin K) (tC (.str " ")) (tVar 1))))))

theorem len_law_line {K : PySem.W.Frag} : ∀ vs H Q E, sp_law_line K vs H Q E → vs.length = ["a"].length := by
  rintro vs H Q E ⟨_, _, rfl, _⟩; rfl
theorem pure_law_line {K : PySem.W.Frag} {vs : List V} {H : Hp} {Q : VK} {E : XK} (h : sp_law_line K vs H Q E) : t_law_line K { nx := fun _ H' => Q .non H', rt := Q } (start N_law_line vs) H := by
  obtain ⟨x, d, rfl, hd, ok, k⟩ := h
  unfold t_law_line
  rw [s_blank, s_found, s_plain, s_bids]
  have wl := ok.words_many
  have wle := ok.words_le
  cases ok with
  | @plain kw ps s h hl hp =>
    obtain ⟨a, xs, rfl, hq, hx⟩ := dp_tup hd
    have xl := dpAll_len hx
    rw [List.length_map, List.length_cons] at xl
    have sl := (sh_len h).2
    have x0 : xs[0]? = some (vS kw) := by
      obtain ⟨v, e, hv⟩ := dpAll_get' hx (i := 0) (d := .str (SX.S kw)) rfl
      rw [e, dp_str hv]
    walk_at "xs"
    refine x_ixT hq (v := vS kw) ?_ ?_
    · unfold atI ixN
      rw [if_pos (by decide), if_pos (by omega)]
      exact x0
    walk_at "xs"
    rw [dec_S, decide_eq_false (sh_found h)]
    walk_at "xs"
    refine ⟨a, rfl, ⟨xs, hq⟩, fun A nA => ?_⟩
    refine lc_flat (fun i => some (vS ((Dd.plain kw ps).words.getD i []))) (turnsT (K := K) (a := a) (xs := xs)) (fun H' s => seqT_same s hq) nA ?_ ?_
    · rintro i v Hc _ hi lc ⟨rfl, hv⟩
      walk_at "xs"
      refine x_wipe rfl ?_
      walk_at "xs"
      obtain ⟨e, e1, e2⟩ := dpAll_get hx hv
      rw [List.getElem?_map] at e1
      have w1 : (Dd.plain kw ps).words.getD i [] = (((Part.n kw :: ps)[i]?).map Part.t).getD [] := by
        show ((Part.n kw :: ps).map Part.t).getD i [] = _
        rw [List.getD_eq_getElem?_getD, List.getElem?_map]
      cases hpi : (Part.n kw :: ps)[i]? with
      | none => rw [hpi] at e1; cases e1
      | some p =>
        rw [hpi] at e1 w1
        cases e1
        cases p with
        | n w =>
          rw [dp_str e2]
          refine x_strAS ?_
          exact lc.keep nA (Same.refl _) (by rw [w1]; rfl) (by omega)
        | c z =>
          rw [dp_int e2]
          have zk : NumOk z := by
            cases i with
            | zero => cases hpi
            | succ j => exact (hp j (.c z) hpi).2
          refine x_strAI zk ?_
          exact lc.keep nA (Same.refl _) (by rw [w1]; rfl) (by omega)
    intro H1 s1 hA
    have wlen : (Dd.plain kw ps).words.length = xs.length := by show ((Part.n kw :: ps).map Part.t).length = _; rw [List.length_map, List.length_cons]; omega
    have hA' : H1 A = some (.lst ((Dd.plain kw ps).words.map vS)) := by
      rw [hA, List.filterMap_eq_map']
      congr 2
      apply List.ext_getElem
      · rw [List.length_map, List.length_map, List.length_range, wlen]
      · intro i h1 h2
        have h3 : i < (Dd.plain kw ps).words.length := by rw [List.length_map] at h2; exact h2
        rw [List.getElem_map, List.getElem_map, List.getElem_range, List.getD_eq_getElem?_getD, List.getElem?_eq_getElem h3]; rfl
    refine x_join (m := 12) (SqL.of hA') wle (by simp; omega) ?_
    exact k H1 s1
  | @found name stake b seats hn hs h1 h2 hp =>
    obtain ⟨a, xs, rfl, hq, hx⟩ := dp_tup hd
    cases hx with | cons d0 hx => cases hx with | cons d1 hx => cases hx with | cons d2 hx => cases hx with | cons d3 hx => cases hx with | cons d4 hx =>
    cases hx
    cases dp_str d0
    cases dp_str d1
    cases dp_int d2
    cases dp_bl d3
    obtain ⟨q, ys, rfl, hy, hys⟩ := dp_tup d4
    have yl := dpAll_len hys
    rw [List.length_map] at yl
    walk_at "xs"
    refine x_ixT hq (v := vS kFound) (by rfl) ?_
    walk_at "xs"
    rw [dec_S, decide_eq_true rfl]
    walk_at "xs"
    refine x_ixT hq (v := vS name) (by rfl) ?_
    walk_at "xs"
    refine x_ixT hq (v := .int stake) (by rfl) ?_
    walk_at "xs"
    refine x_strInt hs ?_
    walk_at "xs"
    refine al_lst fun pb H0 npb s0 hpb => ?_
    walk_at "xs"
    have q0 : SqT K H0 a _ := seqT_same s0 hq
    refine x_ixT q0 (v := .bl b) (by rfl) ?_
    walk_at "xs"
    refine x_ixW (ws := [kPlain, kBids]) (SqL.of hpb) (by split <;> decide) (by split <;> decide) ?_
    rw [show ([kPlain, kBids].getD (Int.toNat (if b = true then 1 else 0)) [] : List Nat) = if b = true then kBids else kPlain by cases b <;> rfl]
    walk_at "xs"
    have wsum : ∀ i, i ≤ seats.length → ((seats.take i).flatMap sw3).length = 3 * i := fun i hi => by rw [flat3_len, List.length_take]; omega
    refine al_lst fun r H1 nr s01 hr => ?_
    have s1 := s0.trans s01
    walk_at "xs"
    have q1 : SqT K H1 a _ := seqT_same s1 hq
    refine x_ixT q1 (v := .ref q) (by rfl) ?_
    walk_at "xs"
    refine ⟨q, rfl, ⟨ys, seqT_same s1 hy⟩, ?_⟩
    refine for_by (turnsT (K := K) (a := q) (xs := ys)) (fun i σ H' => ∃ (r : Addr) (u2 u3 u4 : Option V), σ = [some (.ref a), some (.ref r), u2, u3, u4, none] ∧ Same H H' ∧ H' r = some (.lst (([kFound, name, TL.numL stake.toNat, if b = true then kBids else kPlain] ++ (seats.take i).flatMap sw3 : List (List Nat)).map vS)))
      ⟨r, _, _, _, rfl, s1, by rw [hr, List.take_zero]; rfl⟩ (by rintro i σ H' _ ⟨_, _, _, _, _, e, _⟩; exact seqT_same e hy) ?_ ?_
    · rintro i v σ H3 _ hi ⟨r, u2, u3, u4, rfl, s3, hr3⟩ ⟨rfl, hv⟩
      obtain ⟨e, e1, e2⟩ := dpAll_get hys hv
      rw [List.getElem?_map] at e1
      have hi' : i < seats.length := by omega
      rw [List.getElem?_eq_getElem hi'] at e1
      cases e1
      have so := hp _ (List.getElem_mem hi')
      have tk : (seats.take (i + 1)).flatMap sw3 = (seats.take i).flatMap sw3 ++ sw3 seats[i] := by rw [← List.take_append_getElem hi', List.flatMap_append]; simp
      generalize seats[i] = z at e2 so tk
      obtain ⟨t, zs, rfl, ht, hz⟩ := dp_tup e2
      cases hz with | cons z0 hz => cases hz with | cons z1 hz => cases hz with | cons z2 hz =>
      cases hz
      cases dp_str z0
      cases dp_int z1
      cases dp_int z2
      refine x_gtup (seqT_same s3 ht) rfl ?_
      walk_at "xs"
      refine x_strInt so.p ?_
      walk_at "xs"
      refine x_strInt so.w ?_
      walk_at "xs"
      refine al_lst fun m H4 nm s4 hm => ?_
      walk_at "xs"
      refine al_catW (s4 _ _ hr3) hm (by rw [List.length_map, List.length_append, wsum i (by omega)]; simp; omega) fun r2 H5 nr2 s5 hr5 => ?_
      walk_at "xs"
      refine ⟨r2, _, _, _, rfl, (s3.trans s4).trans s5, ?_⟩
      rw [hr5, tk, ← List.append_assoc, List.map_append (l₂ := sw3 z)]
      rfl
    · rintro σ H3 ⟨r, u2, u3, u4, rfl, s3, hr3⟩
      rw [yl, List.take_length] at hr3
      walk_at "xs"
      refine x_join (m := 12) (ys := (Dd.found name stake b seats).words) (SqL.of hr3) wle (by simp; omega) ?_
      exact k H3 s3

end Su
namespace Su
open PySem L2
local macro_rules | `(tactic| walk_at "side") => `(tactic| first | assumption | (show (0 : Int) < _; omega) | (show (0 : Int) ≤ _; omega) | (show (0 : Int) < _; split <;> omega) | (show _ ∨ _; omega) | (show _ ∧ _; omega) | exact ⟨by decide, by decide, by decide⟩ | exact ⟨by first | assumption | omega, by first | assumption | omega⟩)
local macro_rules | `(tactic| walk_at "x") => `(tactic| first | with_reducible refine Su.x_seq ?_ | with_reducible refine Su.x_asg ?_ | with_reducible refine Su.x_gname ?_ | with_reducible refine Su.x_ret ?_ | with_reducible refine Su.x_ifS ?_ | ((with_reducible show L2.tVar _ _ _ _); refine Su.x_var rfl ?_) | with_reducible refine Su.x_c ?_ | with_reducible refine Su.x_op ?_ | with_reducible refine Su.x_rI0 ?_ | ((with_reducible refine Su.x_rI ?_ ?_); focus walk_at "side") | with_reducible refine Su.x_eqI ?_ | with_reducible refine Su.x_test ?_ | with_reducible refine Su.x_isB' ?_ | with_reducible refine Su.x_nil ?_ | with_reducible refine Su.x_cons ?_ | with_reducible refine Su.x_cb ?_ | with_reducible refine Su.x_lst ?_ | with_reducible refine Su.x_next ?_ | with_reducible refine Su.x_gsub ?_ | with_reducible refine Su.x_sl ?_ | with_reducible refine Su.x_nopart ?_ | with_reducible refine Su.x_part ?_ | with_reducible refine Su.x_isI ?_)
local macro_rules | `(tactic| walk_at "xs") => `(tactic| repeat walk_at "x")
local macro_rules | `(tactic| walk_at "if") => `(tactic| first | with_reducible refine Su.x_iteD (fun c => ?_) (fun c => ?_) | with_reducible refine Su.x_iteN (fun c => ?_) (fun c => ?_) | with_reducible refine Su.x_ite (fun c => ?_) (fun c => ?_))
local macro_rules | `(tactic| walk_at "x") => `(tactic| first | with_reducible refine Su.x_m1 ?_ | with_reducible refine Su.x_strE ?_)

/-! _law_changed -/
theorem cutV_toW {xs : List V} {i : Nat} : cutV xs none (some (i : Int)) = xs.take i := by
  unfold cutV HT.sIx
  have h : ¬ ((i : Int) < 0) := by omega
  simp only [if_neg h, Int.toNat_natCast, List.drop_zero, Nat.sub_zero]
  by_cases c : i ≤ xs.length
  · rw [Nat.min_eq_left c]
  · rw [Nat.min_eq_right (by omega), List.take_of_length_le (by omega), List.take_of_length_le (by omega)]
section
variable {K : PySem.W.Frag} {H : Hp} {Q : VK} {a : Addr} {ws : List (List Nat)}
theorem al_toW {i : Nat} {j : Int} (e : SqL K H a (ws.map vS)) (hj : j = i) (h : ∀ p H', H p = none → Same H H' → H' p = some (.lst ((ws.take i).map vS)) → Q (.ref p) H') : rSlL K (.ref a) none (some j) H Q :=
  al_slL e fun p H' n s o => h p H' n s (by subst hj; rw [cutV_toW] at o; rw [List.map_take]; exact o)
theorem al_fromW {i : Nat} {j : Int} (e : SqL K H a (ws.map vS)) (hj : j = i) (h : ∀ p H', H p = none → Same H H' → H' p = some (.lst ((ws.drop i).map vS)) → Q (.ref p) H') : rSlL K (.ref a) (some j) none H Q :=
  al_slL e fun p H' n s o => h p H' n s (by subst hj; rw [cutV_from] at o; rw [List.map_drop]; exact o)
theorem al_catWs {b : Addr} {us : List (List Nat)} (e : H a = some (.lst (ws.map vS))) (e2 : H b = some (.lst (us.map vS))) (z : ws.length + us.length ≤ 100000) (h : ∀ p H', H p = none → Same H H' → H' p = some (.lst ((ws ++ us).map vS)) → Q (.ref p) H') : rCat (.ref a) (.ref b) H Q := ⟨a, b, _, _, rfl, rfl, e, e2, Nat.le_of_lt (small (by rw [List.length_map, List.length_map]; exact z)), fun p n => h p _ n (same_new (Same.refl H) n) (by rw [upd_same, List.map_append])⟩
end
end Su
namespace Su
open PySem L2
local macro_rules | `(tactic| walk_at "side") => `(tactic| first | assumption | (show (0 : Int) < _; omega) | (show (0 : Int) ≤ _; omega) | (show (0 : Int) < _; split <;> omega) | (show _ ∨ _; omega) | (show _ ∧ _; omega) | exact ⟨by decide, by decide, by decide⟩ | exact ⟨by first | assumption | omega, by first | assumption | omega⟩)
local macro_rules | `(tactic| walk_at "x") => `(tactic| first
  | with_reducible refine Su.x_seq ?_ | with_reducible refine Su.x_asg ?_ | with_reducible refine Su.x_gname ?_ | with_reducible refine Su.x_drop ?_ | with_reducible refine Su.x_ret ?_ | with_reducible refine Su.x_ifS ?_
  | ((with_reducible show L2.tVar _ _ _ _); refine Su.x_var rfl ?_) | with_reducible refine Su.x_c ?_ | with_reducible refine Su.x_op ?_ | with_reducible refine Su.x_rI0 ?_ | ((with_reducible refine Su.x_rI ?_ ?_); focus walk_at "side")
  | ((with_reducible show L2.rIxL _ (L2.V.ref _) (L2.V.int _) _ _); refine Su.x_ixI (by assumption) (by first | decide | omega) (by omega) ?_) | with_reducible refine Su.x_isi_int_int ?_ | with_reducible refine Su.x_isi_int_bool ?_ | with_reducible refine Su.x_isi_int_str ?_ | with_reducible refine Su.x_isi_int_list ?_ | with_reducible refine Su.x_isi_int_tuple ?_ | with_reducible refine Su.x_isi_bool_int ?_ | with_reducible refine Su.x_isi_bool_bool ?_ | with_reducible refine Su.x_isi_bool_str ?_ | with_reducible refine Su.x_isi_bool_list ?_ | with_reducible refine Su.x_isi_bool_tuple ?_ | with_reducible refine Su.x_isi_str_int ?_ | with_reducible refine Su.x_isi_str_bool ?_ | with_reducible refine Su.x_isi_str_str ?_ | with_reducible refine Su.x_isi_str_list ?_ | with_reducible refine Su.x_isi_str_tuple ?_ | with_reducible refine Su.x_isi_NoneType_int ?_ | with_reducible refine Su.x_isi_NoneType_bool ?_ | with_reducible refine Su.x_isi_NoneType_str ?_ | with_reducible refine Su.x_isi_NoneType_list ?_ | with_reducible refine Su.x_isi_NoneType_tuple ?_ | with_reducible refine Su.x_rGt ?_ | with_reducible refine Su.x_rGe ?_ | with_reducible refine Su.x_iteF ?_ | with_reducible refine Su.x_iteT ?_ | with_reducible refine Su.x_iteNT ?_ | with_reducible refine Su.x_iteNF ?_ | with_reducible refine Su.x_eqI ?_ | with_reducible refine Su.x_neI ?_ | with_reducible refine Su.x_eqS ?_ | with_reducible refine Su.x_neS ?_ | with_reducible refine Su.x_eqB ?_ | with_reducible refine Su.x_neB ?_
  | with_reducible refine Su.x_test ?_ | with_reducible refine Su.x_tB ?_ | with_reducible refine Su.x_isB ?_ | with_reducible refine Su.x_isB' ?_ | with_reducible refine Su.x_not ?_ | with_reducible refine Su.x_and ?_ | with_reducible refine Su.x_or ?_
  | with_reducible refine Su.x_andV ?_ | with_reducible refine Su.x_orV ?_ | with_reducible refine Su.x_notV ?_ | with_reducible refine Su.x_chain ?_ | with_reducible refine Su.x_nil ?_ | with_reducible refine Su.x_cons ?_ | with_reducible refine Su.x_cb ?_ | with_reducible refine Su.x_call ?_
  | with_reducible refine Su.x_un ?_ | with_reducible refine Su.x_rU ?_ | with_reducible refine Su.x_abs ?_ | with_reducible refine Su.x_max2 ?_ | with_reducible refine Su.x_min2 ?_ | with_reducible refine Su.x_int1 ?_ | with_reducible refine Su.x_intB ?_
  | with_reducible refine Su.x_lst ?_ | with_reducible refine Su.x_tup ?_ | with_reducible refine Su.x_bmL ?_ | with_reducible refine Su.x_next ?_ | with_reducible refine Su.x_for ?_ | with_reducible refine Su.x_iList ?_ | with_reducible refine Su.x_iRng1 ?_ | with_reducible refine Su.x_iRng2 ?_ | with_reducible refine Su.x_whileN ?_ | with_reducible refine Su.x_iEnum ?_ | with_reducible refine Su.x_iZip ?_ | with_reducible refine Su.x_iZipA ?_ | with_reducible refine Su.x_iTup ?_ | with_reducible refine Su.x_gcons ?_ | with_reducible refine Su.x_gnil ?_ | with_reducible refine Su.x_gsub ?_ | with_reducible refine Su.x_yes ?_ | with_reducible refine Su.x_lc ?_ | with_reducible refine Su.x_sl ?_ | with_reducible refine Su.x_nopart ?_ | with_reducible refine Su.x_part ?_ | with_reducible refine Su.x_isI ?_ | with_reducible refine Su.x_lstRg ?_ | with_reducible refine Su.x_rg1 ?_ | with_reducible refine Su.x_augS ?_ | with_reducible refine Su.x_ipI ?_ | ((with_reducible show L2.tAug _ _ _ _ _ _); refine Su.x_aug rfl ?_) | with_reducible refine Su.x_callS ?_ | with_reducible refine Su.x_tryAs ?_)
local macro_rules | `(tactic| walk_at "xs") => `(tactic| repeat walk_at "x")
local macro_rules | `(tactic| walk_at "if") => `(tactic| first | with_reducible refine Su.x_iteD (fun c => ?_) (fun c => ?_) | with_reducible refine Su.x_iteN (fun c => ?_) (fun c => ?_) | with_reducible refine Su.x_ite (fun c => ?_) (fun c => ?_))
/-! x.replace(y, z, 1), y and z written texts -/
open Builtin Builtin.Str in
def rep1 (x y z : Str) : Str := if ((occurrences x y 0 x.length 1).isEmpty || (y.length == 0 && z.length == 0)) = true then x else glued z (partsBetween x (occurrences x y 0 x.length 1) y.length)
section
open Builtin Builtin.Str
/-- one place at most: no longer than both together -/
theorem rep1_len (x y z : Str) : (rep1 x y z).length ≤ x.length + z.length := by
  have few := StrLaws.occ_length_le x y 0 x.length 1
  have len : ∀ q : Str, (glued q (partsBetween x (occurrences x y 0 x.length 1) y.length)).length = ((partsBetween x (occurrences x y 0 x.length 1) y.length).map (·.length)).sum + (occurrences x y 0 x.length 1).length * q.length := fun q => by
    rw [size_glued, length_partsBetween, Nat.add_sub_cancel]
  have same := len y
  rw [StrLaws.glued_between_self] at same
  unfold rep1
  split
  · omega
  · rw [len z]
    have := Nat.mul_le_mul_right z.length few
    omega
open PySem.Calls
variable {prog : Program} {w : World} {A : Around} {E : Value → Shared → Prop} {s : Shared} {x y z : Str} {t u v k : Tok} {Q : Value → Shared → Prop}
theorem call_rep1 (hu : u ≠ 0) (hv : v ≠ 0) (huv : u ≠ v) (hyz : (y == z) = false) (hb : x.length + z.length ≤ 16777216)
    (hq : ∀ t' k, Q (.str (rep1 x y z) t') { s with toks := k }) : wpAny (model prog w) A (call (.builtin "str.replace") [.str x t, .str y u, .str z v, .int 1 k]) Q E s := by
  have few := Nat.mul_le_mul_right z.length (StrLaws.occ_length_le x y 0 x.length 1)
  have fits : tooLong (x.length + (occurrences x y 0 x.length 1).length * z.length) = false := decide_eq_false (by show ¬ _ > sizeLine; rw [sizeLine_eq]; omega)
  have other := isSame_str_other y z u v (by simp [hu, hv]) (by simp [huv]) hyz
  have one := countLimit_int "str.replace" 1 k (x.length + 1) (by decide)
  have len := rep1_len x y z
  unfold rep1 at hq len
  refine wpAny_call_entry F.slot_str_replace (typeIs_str _ _ _) F.entry_str_replace ?_ (F.args_str_replace_4 _ _ _ _)
  unfold «str.replace»
  -- the arguments are told: a text, two texts, one time
  refine wpAny_bind (wpAny_of_eq (a := (Value.str x t, x, [.str y u, .str z v, .int 1 k])) rfl (wpAny_bind (wpAny_of_eq (a := [some (.str y u), some (.str z v), some (.int 1 k)]) rfl ?_)))
  refine wpAny_bind (wpAny_of_eq (a := y) rfl (wpAny_bind (wpAny_of_eq (a := z) rfl (wpAny_bind (wpAny_of_eq one ?_)))))
  by_cases c : ((occurrences x y 0 x.length 1).isEmpty || (y.length == 0 && z.length == 0)) = true
  · rw [if_pos c] at hq
    show wpAny _ _ (if ((occurrences x y 0 x.length 1).isEmpty || (y.length == 0 && z.length == 0)) = true then _ else _) _ _ _
    rw [if_pos c]
    exact wpAny_bind (wpAny_rule (wpAny_bind (wpAny_of_eq (a := Value.str x t) rfl (wpAny_pure ⟨_, rfl, hq t s.toks⟩))))
  · rw [if_neg c] at hq len
    show wpAny _ _ (if ((occurrences x y 0 x.length 1).isEmpty || (y.length == 0 && z.length == 0)) = true then _ else _) _ _ _
    rw [if_neg c]
    refine wpAny_bind (wpAny_of_eq other ?_)
    show wpAny _ _ (if tooLong (x.length + (occurrences x y 0 x.length 1).length * z.length) = true then _ else _) _ _ _
    rw [fits, if_neg Bool.false_ne_true]
    exact wpAny_bind (wpAny_mkStr (wpAny_pure ⟨_, rfl, hq _ _⟩) (Nat.le_trans len (by rw [sizeLine_eq]; omega)))
end
def tRepl1 (to : TE) (y z : Str) : TE := fun σ H Q => to σ H fun v H1 => ∃ x, v = .str x ∧ x.length + z.length ≤ 16777216 ∧ Q (.str (rep1 x y z)) H1
theorem x_repl1 {to : TE} {y z : Str} {σ : St} {H : Hp} {Q : VK} (h : to σ H fun v H1 => ∃ x, v = .str x ∧ x.length + z.length ≤ 16777216 ∧ Q (.str (rep1 x y z)) H1) : tRepl1 to y z σ H Q := h
open PySem.Spec in
theorem pet_repl1 {X : Cx} {o : Expr} {to : TE} {y z : Str} {j k l : Nat} {c0 c1 c2 apos pos : Pos} (ho : PE X o to) (hyz : (y == z) = false := by decide)
    (hst : starEach [.Constant (.str y) j c0, .Constant (.str z) k c1, .Constant (.int 1) l c2] X.env = [(false, eval (.Constant (.str y) j c0) X.env), (false, eval (.Constant (.str z) k c1) X.env), (false, eval (.Constant (.int 1) l c2) X.env)] := by rfl)
    (hbase : attributeBase o "replace" X.env (eval o X.env) = eval o X.env := by rfl) (hline : (apos.endLine == pos.line) = true := by rfl) :
    PET X (.Call (.Attribute o "replace" apos) [.Constant (.str y) j c0, .Constant (.str z) k c1, .Constant (.int 1) l c2] [] pos) (tRepl1 to y z) := by
  intro pins s σ H Q h0 I h
  refine wpAny_Call_method_lateS hbase (by rw [hst]; rfl) hline ?_
  rw [hst]
  refine (wpAny_mono (PySem.wpAny_toks (ho.run pins s σ H _ I h)) (fun v s1 q => ?_) fun _ _ z => z.2)
  obtain ⟨hk, v', H1, I1, r1, x, e1, hb, q⟩ := q
  subst e1
  obtain ⟨tx, e2⟩ := r1
  subst e2
  refine ⟨"str", _, PySem.F.plainAttrs_str, PySem.F.slot_str_replace, PySem.F.type_str_replace, typeIs_str _ _ _, (fun _ e => nomatch e), Calls.callWith_builtin rfl (Calls.evalArgs_plain (Calls.spliced_cons ?_))⟩
  show wpAny (model X.prog X.w) X.A (eval (.Constant (.str y) j c0) X.env) _ _ _
  refine Calls.Constant_str (Calls.spliced_cons ?_)
  show wpAny (model X.prog X.w) X.A (eval (.Constant (.str z) k c1) X.env) _ _ _
  refine Calls.Constant_str (Calls.spliced_cons ?_)
  show wpAny (model X.prog X.w) X.A (eval (.Constant (.int 1) l c2) X.env) _ _ _
  refine wpAny_Constant_int (Calls.spliced_nil ?_)
  exact call_rep1 (by show s1.toks ≠ 0; omega) (by show s1.toks + 1 ≠ 0; omega) (by show s1.toks ≠ s1.toks + 1; omega) hyz hb fun t' k => ⟨.str (rep1 x y z), H1, I1.tok k, ⟨t', rfl⟩, q⟩
section
variable {P : Program} {w : World} {K : PySem.W.Frag} {mg : Str → Option Value} {base : Heap} {x qual : Str} {params : Arguments} {body : List Stmt} {scope : Scope} {dvs : List V} {kws : List (Str × V)} {f : Addr} {fd : FuncData}
open PySem.Spec PyProof.Rows in
theorem okT {CX : CXT} {N ps : List Str} {k : Nat} {sp : Sp} (F : FunD K x qual params body scope dvs kws f fd) (S : FnScope N ps scope) (hnc : ∀ y ∈ scope.names, y.2 ≠ .cell) (hps : 1 ≤ ps.length) (len : ∀ vs H Q E, sp vs H Q E → vs.length = ps.length)
    (hbody : ∀ (cdv : Value) (A : Around) (outer : List Env) (s : Shared) (H : Hp) (vs : List V) (Q : VK) (E : XK), Room k (A.deeper (envOfC qual scope s.heap.objs.size f cdv)) → sp vs H Q E →
      ∃ t, PSsT (cxOf CX P w K mg base N qual scope f cdv A outer s H E) body t ∧ t { nx := fun _ H' => Q .non H', rt := Q } (start N vs) H) : FnOk P w K mg base CX (k + 1) f fd ps sp := by
  obtain ⟨oc, od, dV, kV, doc, pm, an, cdv, ct, osl, rfl, lk, hcd, _, _⟩ := F.ex
  exact fn_ofT lk hcd S hnc hps len fun A outer s H vs Q E hr hsp => hbody cdv A outer s H vs Q E hr hsp
end
open PySem.Spec PyProof.Rows in
theorem psst_nox {X : Cx} {st : List Stmt} {t : TS} (h : PSsT X.nox st t) : PSsT X st t := fun pins s σ H D h0 I hw =>
  wpAny_mono (h pins s σ H D h0 (I.wish _) hw) (fun _ _ q => q.unwish) fun _ _ z => False.elim z

end Su
namespace Su
open PySem L2
local macro_rules | `(tactic| walk_at "side") => `(tactic| first | assumption | (show (0 : Int) < _; omega) | (show (0 : Int) ≤ _; omega) | (show (0 : Int) < _; split <;> omega) | (show _ ∨ _; omega) | (show _ ∧ _; omega) | exact ⟨by decide, by decide, by decide⟩ | exact ⟨by first | assumption | omega, by first | assumption | omega⟩)
local macro_rules | `(tactic| walk_at "x") => `(tactic| first
  | with_reducible refine Su.x_seq ?_ | with_reducible refine Su.x_asg ?_ | with_reducible refine Su.x_gname ?_ | with_reducible refine Su.x_drop ?_ | with_reducible refine Su.x_ret ?_ | with_reducible refine Su.x_ifS ?_
  | ((with_reducible show L2.tVar _ _ _ _); refine Su.x_var rfl ?_) | with_reducible refine Su.x_c ?_ | with_reducible refine Su.x_op ?_ | with_reducible refine Su.x_rI0 ?_ | ((with_reducible refine Su.x_rI ?_ ?_); focus walk_at "side")
  | ((with_reducible show L2.rIxL _ (L2.V.ref _) (L2.V.int _) _ _); refine Su.x_ixI (by assumption) (by first | decide | omega) (by omega) ?_) | with_reducible refine Su.x_isi_int_int ?_ | with_reducible refine Su.x_isi_int_bool ?_ | with_reducible refine Su.x_isi_int_str ?_ | with_reducible refine Su.x_isi_int_list ?_ | with_reducible refine Su.x_isi_int_tuple ?_ | with_reducible refine Su.x_isi_bool_int ?_ | with_reducible refine Su.x_isi_bool_bool ?_ | with_reducible refine Su.x_isi_bool_str ?_ | with_reducible refine Su.x_isi_bool_list ?_ | with_reducible refine Su.x_isi_bool_tuple ?_ | with_reducible refine Su.x_isi_str_int ?_ | with_reducible refine Su.x_isi_str_bool ?_ | with_reducible refine Su.x_isi_str_str ?_ | with_reducible refine Su.x_isi_str_list ?_ | with_reducible refine Su.x_isi_str_tuple ?_ | with_reducible refine Su.x_isi_NoneType_int ?_ | with_reducible refine Su.x_isi_NoneType_bool ?_ | with_reducible refine Su.x_isi_NoneType_str ?_ | with_reducible refine Su.x_isi_NoneType_list ?_ | with_reducible refine Su.x_isi_NoneType_tuple ?_ | with_reducible refine Su.x_rGt ?_ | with_reducible refine Su.x_rGe ?_ | with_reducible refine Su.x_iteF ?_ | with_reducible refine Su.x_iteT ?_ | with_reducible refine Su.x_iteNT ?_ | with_reducible refine Su.x_iteNF ?_ | with_reducible refine Su.x_eqI ?_ | with_reducible refine Su.x_neI ?_ | with_reducible refine Su.x_eqS ?_ | with_reducible refine Su.x_neS ?_ | with_reducible refine Su.x_eqB ?_ | with_reducible refine Su.x_neB ?_
  | with_reducible refine Su.x_test ?_ | with_reducible refine Su.x_tB ?_ | with_reducible refine Su.x_isB ?_ | with_reducible refine Su.x_isB' ?_ | with_reducible refine Su.x_not ?_ | with_reducible refine Su.x_and ?_ | with_reducible refine Su.x_or ?_
  | with_reducible refine Su.x_andV ?_ | with_reducible refine Su.x_orV ?_ | with_reducible refine Su.x_notV ?_ | with_reducible refine Su.x_chain ?_ | with_reducible refine Su.x_nil ?_ | with_reducible refine Su.x_cons ?_ | with_reducible refine Su.x_cb ?_ | with_reducible refine Su.x_call ?_
  | with_reducible refine Su.x_un ?_ | with_reducible refine Su.x_rU ?_ | with_reducible refine Su.x_abs ?_ | with_reducible refine Su.x_max2 ?_ | with_reducible refine Su.x_min2 ?_ | with_reducible refine Su.x_int1 ?_ | with_reducible refine Su.x_intB ?_
  | with_reducible refine Su.x_lst ?_ | with_reducible refine Su.x_tup ?_ | with_reducible refine Su.x_bmL ?_ | with_reducible refine Su.x_next ?_ | with_reducible refine Su.x_for ?_ | with_reducible refine Su.x_iList ?_ | with_reducible refine Su.x_iRng1 ?_ | with_reducible refine Su.x_iRng2 ?_ | with_reducible refine Su.x_whileN ?_ | with_reducible refine Su.x_iEnum ?_ | with_reducible refine Su.x_iZip ?_ | with_reducible refine Su.x_iZipA ?_ | with_reducible refine Su.x_iTup ?_ | with_reducible refine Su.x_gcons ?_ | with_reducible refine Su.x_gnil ?_ | with_reducible refine Su.x_gsub ?_ | with_reducible refine Su.x_yes ?_ | with_reducible refine Su.x_lc ?_ | with_reducible refine Su.x_sl ?_ | with_reducible refine Su.x_nopart ?_ | with_reducible refine Su.x_part ?_ | with_reducible refine Su.x_isI ?_ | with_reducible refine Su.x_lstRg ?_ | with_reducible refine Su.x_rg1 ?_ | with_reducible refine Su.x_augS ?_ | with_reducible refine Su.x_ipI ?_ | ((with_reducible show L2.tAug _ _ _ _ _ _); refine Su.x_aug rfl ?_) | with_reducible refine Su.x_callS ?_ | with_reducible refine Su.x_tryAs ?_)
local macro_rules | `(tactic| walk_at "xs") => `(tactic| repeat walk_at "x")
local macro_rules | `(tactic| walk_at "if") => `(tactic| first | with_reducible refine Su.x_iteD (fun c => ?_) (fun c => ?_) | with_reducible refine Su.x_iteN (fun c => ?_) (fun c => ?_) | with_reducible refine Su.x_ite (fun c => ?_) (fun c => ?_))
local macro_rules | `(tactic| walk_at "x") => `(tactic| first | with_reducible refine Su.x_m1 ?_ | with_reducible refine Su.x_strE ?_ | with_reducible refine Su.x_m0 ?_ | with_reducible refine Su.x_dnew ?_ | with_reducible refine Su.x_dput ?_ | with_reducible refine Su.x_dgetE ?_ | with_reducible refine Su.x_dget2 ?_ | with_reducible refine Su.x_daug ?_ | with_reducible refine Su.x_din ?_ | with_reducible refine Su.x_dnin ?_ | with_reducible refine Su.x_brk ?_ | with_reducible refine Su.x_retN ?_)
/-! _law_spoilt: a page bent -/
structure Spo (t u : List Nat) : Prop where
  l : u.length ≤ 2 * t.length + 20
  b : u.count 32 ≤ t.count 32 + t.count 10 + 20
  f : u.count 10 ≤ 2 * t.count 10 + 20
open Builtin Builtin.Str in
theorem fold_cnt (c : Nat) (sep : Str) : ∀ (rest : List Str) (acc : Array Nat), (rest.foldl (fun acc p => acc ++ sep.cps ++ p.cps) acc).toList.count c = acc.toList.count c + (rest.map fun p => p.cps.toList.count c).sum + rest.length * sep.cps.toList.count c
  | [], acc => by simp
  | p :: r, acc => by
    rw [List.foldl_cons, fold_cnt c sep r]
    simp only [Array.toList_append, List.count_append, List.map_cons, List.sum_cons, List.length_cons, Nat.add_mul, Nat.one_mul]
    omega
open Builtin Builtin.Str in
theorem glued_cnt (c : Nat) (sep : Str) : ∀ parts : List Str, (glued sep parts).cps.toList.count c = (parts.map fun p => p.cps.toList.count c).sum + (parts.length - 1) * sep.cps.toList.count c
  | [] => by simp [glued, Str.empty]
  | p :: r => by
    show (r.foldl (fun acc q => acc ++ sep.cps ++ q.cps) p.cps).toList.count c = _
    rw [fold_cnt]
    simp only [List.map_cons, List.sum_cons, List.length_cons, Nat.add_sub_cancel]
open Builtin Builtin.Str in
theorem rep1_cnt (c : Nat) (x y z : Str) : (rep1 x y z).cps.toList.count c ≤ x.cps.toList.count c + z.cps.toList.count c := by
  unfold rep1
  split
  · omega
  · have h1 := StrLaws.occ_length_le x y 0 x.length 1
    have hy : (glued y (partsBetween x (occurrences x y 0 x.length 1) y.length)).cps.toList.count c = x.cps.toList.count c := by rw [StrLaws.glued_between_self]
    rw [glued_cnt, length_partsBetween, Nat.add_sub_cancel] at hy
    rw [glued_cnt, length_partsBetween, Nat.add_sub_cancel]
    have h2 : (occurrences x y 0 x.length 1).length * z.cps.toList.count c ≤ 1 * z.cps.toList.count c := Nat.mul_le_mul_right _ h1
    omega
theorem rep1_S {a : List Nat} {y z : Nat} : ∃ u : List Nat, rep1 (SX.S a) (SX.S [y]) (SX.S [z]) = SX.S u ∧ u.length ≤ a.length + 1 ∧ ∀ c, u.count c ≤ a.count c + 1 := by
  refine ⟨(rep1 (SX.S a) (SX.S [y]) (SX.S [z])).cps.toList, ?_, ?_, fun c => ?_⟩
  · generalize rep1 (SX.S a) (SX.S [y]) (SX.S [z]) = s
    show s = ⟨s.cps.toList.toArray⟩
    simp
  · have := rep1_len (SX.S a) (SX.S [y]) (SX.S [z])
    rw [SX.S_len, SX.S_len] at this
    exact this
  · have := rep1_cnt c (SX.S a) (SX.S [y]) (SX.S [z])
    have e : (SX.S [z]).cps.toList.count c ≤ 1 := by show [z].count c ≤ 1; rw [List.count_singleton]; split <;> omega
    have e2 : (SX.S a).cps.toList.count c = a.count c := by show (a.toArray.toList).count c = _; simp
    omega
theorem spo_self (t : List Nat) : Spo t t := ⟨by omega, by omega, by omega⟩
theorem spo_take (t : List Nat) (n : Nat) : Spo t (t.take n) := by
  have h1 := (List.take_sublist n t).length_le
  have h2 := (List.take_sublist n t).count_le 32
  have h3 := (List.take_sublist n t).count_le 10
  exact ⟨by omega, by omega, by omega⟩
theorem spo_snoc (t : List Nat) : Spo t (t ++ [10]) := by
  refine ⟨by rw [List.length_append]; show _ + 1 ≤ _; omega, by rw [List.count_append]; show _ + 0 ≤ _; omega, by rw [List.count_append]; show _ + 1 ≤ _; omega⟩
theorem spo_cons (t : List Nat) : Spo t ([10] ++ t) := by
  refine ⟨by rw [List.length_append]; show 1 + _ ≤ _; omega, by rw [List.count_append]; show 0 + _ ≤ _; omega, by rw [List.count_append]; show 1 + _ ≤ _; omega⟩
theorem td_len (t : List Nat) (n : Nat) : (t.take n).length + (t.drop n).length = t.length := by rw [← List.length_append, List.take_append_drop]
theorem td_cnt (c : Nat) (t : List Nat) (n : Nat) : (t.take n).count c + (t.drop n).count c = t.count c := by rw [← List.count_append, List.take_append_drop]
theorem spo_rep {t u : List Nat} {n : Nat} (h1 : u.length ≤ (t.drop n).length + 1) (h2 : ∀ c, u.count c ≤ (t.drop n).count c + 1) : Spo t (t.take n ++ u) := by
  have e1 := td_len t n
  have e2 := td_cnt 32 t n
  have e3 := td_cnt 10 t n
  have h3 := h2 32
  have h4 := h2 10
  exact ⟨by rw [List.length_append]; omega, by rw [List.count_append]; omega, by rw [List.count_append]; omega⟩
theorem sum_td {α : Type} (f : α → Nat) (ws : List α) (n : Nat) : ((ws.take n).map f).sum + ((ws.drop n).map f).sum = (ws.map f).sum := by
  rw [← List.sum_append, ← List.map_append, List.take_append_drop]
theorem spo_put {t w : List Nat} {n : Nat} (hw : w.length ≤ 8) : Spo t (TL.joinL [10] ((TL.spl [10] 0 [] t).take n ++ [w] ++ (TL.spl [10] 0 [] t).drop n)) := by
  have wl := spl_cnt 10 t []
  have key : ∀ {f : List Nat → Nat}, AddF f → f w ≤ 8 → f (TL.joinL [10] ((TL.spl [10] 0 [] t).take n ++ [w] ++ (TL.spl [10] 0 [] t).drop n)) ≤ f t + t.count 10 + 10 := fun {f} F hf => by
    have h1 := join_sum F 10 ((TL.spl [10] 0 [] t).take n ++ [w] ++ (TL.spl [10] 0 [] t).drop n)
    have h2 := spl_sum F 10 t []
    rw [F.nil] at h2
    have h3 := sum_td f (TL.spl [10] 0 [] t) n
    rw [List.map_append, List.map_append, List.sum_append, List.sum_append, List.length_append, List.length_append, List.length_take, List.length_drop] at h1
    have e1 : (([w] : List (List Nat)).map f).sum = f w := by simp
    have e2 : ([w] : List (List Nat)).length = 1 := rfl
    omega
  have c32 : w.count 32 ≤ 8 := Nat.le_trans List.count_le_length hw
  have c10 : w.count 10 ≤ 8 := Nat.le_trans List.count_le_length hw
  have h1 := key addF_len hw
  have h2 := key (addF_cnt 32) c32
  have h3 := key (addF_cnt 10) c10
  have h4 : t.count 10 ≤ t.length := List.count_le_length
  exact ⟨by omega, by omega, by omega⟩
def sp_law_spoilt (K : PySem.W.Frag) : Sp := fun vs H Q _ => ∃ (t : List Nat) (way at_ : Int), vs = [vS t, .int way, .int at_] ∧ t.length ≤ 20000 ∧ t.count 10 ≤ 100 ∧ ∀ (u : List Nat) (H' : Hp), Same H H' → Spo t u → Q (vS u) H'
abbrev N_law_spoilt : List Str := ["_law_page", "_law_way", "_law_at", "_law_lines", "_law_here", "_law_place"]
def t_law_spoilt (K : PySem.W.Frag) : TS :=
 (tSeq (tIfS (tTest (tOp rEq (tVar 1) (tC (.int 1))))
 (tRet (tSl C8.rSlX (tVar 0) tNoPart (tPart (tUn rNeg (tC (.int 1))))))
 tNext)
 (tSeq (tIfS (tTest (tOp rEq (tVar 1) (tC (.int 2))))
 (tRet (tOp rCatS (tVar 0) (tC (.str "\n"))))
 tNext)
 (tSeq (tIfS (tTest (tOp rEq (tVar 1) (tC (.int 3))))
 (tRet (tOp rCatS (tC (.str "\n")) (tVar 0)))
 tNext)
 (tSeq (tAsg (tM1 rSplit (tVar 0) (tC (.str "\n"))) (gName 3))
 (tSeq (tAsg (tOp rMod (tVar 2) (tCB (rLenSeq K) (tCons (tVar 3) tNil))) (gName 4))
 (tSeq (tIfS (tTest (tOp rEq (tVar 1) (tC (.int 4))))
 (tRet (tM1 (rJoin K) (tC (.str "\n")) (tOp rCat (tOp rCat (tSl (rSlL K) (tVar 3) tNoPart (tPart (tVar 4))) (tLst (tCons (tC (.str "enter")) tNil))) (tSl (rSlL K) (tVar 3) (tPart (tVar 4)) tNoPart))))
 tNext)
 (tSeq (tIfS (tTest (tOp rEq (tVar 1) (tC (.int 5))))
 (tSeq (tAsg (tOp rMod (tVar 2) (tOp rAdd (tCB rLenStr (tCons (tVar 0) tNil)) (tC (.int 1)))) (gName 5))
 (tRet (tOp rCatS (tSl C8.rSlX (tVar 0) tNoPart (tPart (tVar 5))) (tRepl1 (tSl C8.rSlX (tVar 0) (tPart (tVar 5)) tNoPart) " " "\n"))))
 tNext)
 (tSeq (tIfS (tTest (tOp rEq (tVar 1) (tC (.int 6))))
 (tSeq (tAsg (tOp rMod (tVar 2) (tOp rAdd (tCB rLenStr (tCons (tVar 0) tNil)) (tC (.int 1)))) (gName 5))
 (tRet (tOp rCatS (tSl C8.rSlX (tVar 0) tNoPart (tPart (tVar 5))) (tRepl1 (tSl C8.rSlX (tVar 0) (tPart (tVar 5)) tNoPart) "\n" " "))))
 tNext)
 (tRet (tVar 0))))))))))

theorem len_law_spoilt {K : PySem.W.Frag} : ∀ vs H Q E, sp_law_spoilt K vs H Q E → vs.length = ["a", "b", "c"].length := by
  rintro vs H Q E ⟨_, _, _, rfl, _⟩; rfl
theorem pure_law_spoilt {K : PySem.W.Frag} {vs : List V} {H : Hp} {Q : VK} {E : XK} (h : sp_law_spoilt K vs H Q E) : t_law_spoilt K { nx := fun _ H' => Q .non H', rt := Q } (start N_law_spoilt vs) H := by
  obtain ⟨t, way, at_, rfl, hl, hc, k⟩ := h
  unfold t_law_spoilt
  rw [s_feed, s_blank, s_enter]
  have sp := spl_pos (S := [10]) t 0 []
  have sw := spl_small (S := [10]) t 0 []
  walk_at "xs"
  by_cases w1 : way = 1
  · rw [decide_eq_true w1]
    walk_at "xs"
    refine ⟨SX.S t, rfl, by rw [SX.S_len]; exact Nat.le_of_lt (small (by omega)), ?_⟩
    by_cases z : t = []
    · rw [z, show Txt.slice (SX.S []) none (some (-1)) = SX.S [] by decide +kernel]
      exact k [] H (Same.refl _) (by rw [z]; exact spo_self [])
    · rw [SX.slice_butlast z]
      exact k _ H (Same.refl _) (spo_take t _)
  rw [decide_eq_false w1]
  walk_at "xs"
  by_cases w2 : way = 2
  · rw [decide_eq_true w2]
    walk_at "xs"
    exact x_catS (by show _ + 1 ≤ _; omega) (k _ H (Same.refl _) (spo_snoc t))
  rw [decide_eq_false w2]
  walk_at "xs"
  by_cases w3 : way = 3
  · rw [decide_eq_true w3]
    walk_at "xs"
    exact x_catS (by show 1 + _ ≤ _; omega) (k _ H (Same.refl _) (spo_cons t))
  rw [decide_eq_false w3]
  walk_at "xs"
  refine al_splitN (by omega) fun p H1 np s1 hp => ?_
  walk_at "xs"
  refine x_lenL (SqL.of hp) ?_
  rw [List.length_map]
  walk_at "xs"
  have m0 := Int.emod_nonneg at_ (show ((TL.spl [10] 0 [] t).length : Int) ≠ 0 by omega)
  obtain ⟨n, hn⟩ : ∃ n : Nat, at_ % ((TL.spl [10] 0 [] t).length : Int) = n := ⟨(at_ % ((TL.spl [10] 0 [] t).length : Int)).toNat, by omega⟩
  rw [hn]
  have place : ∃ m : Nat, at_ % ((t.length : Int) + 1) = m := ⟨(at_ % ((t.length : Int) + 1)).toNat, by have := Int.emod_nonneg at_ (show (t.length : Int) + 1 ≠ 0 by omega); omega⟩
  obtain ⟨m, hm⟩ := place
  by_cases w4 : way = 4
  · rw [decide_eq_true w4]
    walk_at "xs"
    refine al_toW (SqL.of hp) rfl fun a H2 na s2 ha => ?_
    walk_at "xs"
    refine al_lst fun b H3 nb s3 hb => ?_
    have hb : H3 b = some (.lst ([kEnter].map vS)) := hb
    walk_at "xs"
    refine al_catWs (s3 _ _ ha) hb (by rw [List.length_take]; have := sw.2; show _ + 1 ≤ _; omega) fun c H4 nc s4 hc => ?_
    walk_at "xs"
    refine al_fromW (SqL.of ((s2.trans (s3.trans s4)) _ _ hp)) rfl fun d H5 nd s5 hd => ?_
    walk_at "xs"
    refine al_catWs (s5 _ _ hc) hd (by rw [List.length_append, List.length_take, List.length_drop]; have := sw.2; show _ + 1 + _ ≤ _; omega) fun e H6 ne s6 he => ?_
    walk_at "xs"
    have sum := spl_sum addF_len 10 t []
    have cut := sum_td List.length (TL.spl [10] 0 [] t) n
    refine x_join (m := 25000) (SqL.of he) (fun w hw => ?_) ?_ (k _ H6 (s1.trans (s2.trans (s3.trans (s4.trans (s5.trans s6))))) (spo_put (by decide)))
    · rcases List.mem_append.mp hw with hw | hw
      · rcases List.mem_append.mp hw with hw | hw
        · have := sw.1 w (List.mem_of_mem_take hw)
          simp only [List.length_nil] at this
          omega
        · rw [List.mem_singleton.mp hw]; decide
      · have := sw.1 w (List.mem_of_mem_drop hw)
        simp only [List.length_nil] at this
        omega
    · have yl : ((TL.spl [10] 0 [] t).take n ++ [kEnter] ++ (TL.spl [10] 0 [] t).drop n).length ≤ 102 := by
        have := spl_cnt 10 t []
        rw [List.length_append, List.length_append, List.length_take, List.length_drop]
        show _ + 1 + _ ≤ _
        omega
      have := Nat.mul_le_mul_right 25000 yl
      show _ + _ * 1 ≤ _
      omega
  rw [decide_eq_false w4]
  walk_at "xs"
  by_cases w5 : way = 5
  · rw [decide_eq_true w5]
    walk_at "xs"
    refine x_lenTx (by omega) ?_
    walk_at "xs"
    rw [hm]
    refine x_slTo (by omega) (by omega) ?_
    walk_at "xs"
    refine x_repl1 ?_
    walk_at "xs"
    refine x_slFrom (by omega) (by omega) ?_
    rw [show ((m : Nat) : Int).toNat = m by omega]
    obtain ⟨u, e, u1, u2⟩ := rep1_S (a := t.drop m) (y := 32) (z := 10)
    have dl := td_len t m
    refine ⟨_, rfl, by rw [SX.S_len, SX.S_len]; show _ + 1 ≤ _; omega, ?_⟩
    rw [e]
    exact x_catS (by omega) (k _ H1 s1 (spo_rep u1 u2))
  rw [decide_eq_false w5]
  walk_at "xs"
  by_cases w6 : way = 6
  · rw [decide_eq_true w6]
    walk_at "xs"
    refine x_lenTx (by omega) ?_
    walk_at "xs"
    rw [hm]
    refine x_slTo (by omega) (by omega) ?_
    walk_at "xs"
    refine x_repl1 ?_
    walk_at "xs"
    refine x_slFrom (by omega) (by omega) ?_
    rw [show ((m : Nat) : Int).toNat = m by omega]
    obtain ⟨u, e, u1, u2⟩ := rep1_S (a := t.drop m) (y := 10) (z := 32)
    have dl := td_len t m
    refine ⟨_, rfl, by rw [SX.S_len, SX.S_len]; show _ + 1 ≤ _; omega, ?_⟩
    rw [e]
    exact x_catS (by omega) (k _ H1 s1 (spo_rep u1 u2))
  rw [decide_eq_false w6]
  walk_at "xs"
  exact k _ H1 s1 (spo_self t)

end Su
namespace Su
open PySem L2
local macro_rules | `(tactic| walk_at "side") => `(tactic| first | assumption | (show (0 : Int) < _; omega) | (show (0 : Int) ≤ _; omega) | (show (0 : Int) < _; split <;> omega) | (show _ ∨ _; omega) | (show _ ∧ _; omega) | exact ⟨by decide, by decide, by decide⟩ | exact ⟨by first | assumption | omega, by first | assumption | omega⟩)
local macro_rules | `(tactic| walk_at "x") => `(tactic| first
  | with_reducible refine Su.x_seq ?_ | with_reducible refine Su.x_asg ?_ | with_reducible refine Su.x_gname ?_ | with_reducible refine Su.x_drop ?_ | with_reducible refine Su.x_ret ?_ | with_reducible refine Su.x_ifS ?_
  | ((with_reducible show L2.tVar _ _ _ _); refine Su.x_var rfl ?_) | with_reducible refine Su.x_c ?_ | with_reducible refine Su.x_op ?_ | with_reducible refine Su.x_rI0 ?_ | ((with_reducible refine Su.x_rI ?_ ?_); focus walk_at "side")
  | ((with_reducible show L2.rIxL _ (L2.V.ref _) (L2.V.int _) _ _); refine Su.x_ixI (by assumption) (by first | decide | omega) (by omega) ?_) | with_reducible refine Su.x_isi_int_int ?_ | with_reducible refine Su.x_isi_int_bool ?_ | with_reducible refine Su.x_isi_int_str ?_ | with_reducible refine Su.x_isi_int_list ?_ | with_reducible refine Su.x_isi_int_tuple ?_ | with_reducible refine Su.x_isi_bool_int ?_ | with_reducible refine Su.x_isi_bool_bool ?_ | with_reducible refine Su.x_isi_bool_str ?_ | with_reducible refine Su.x_isi_bool_list ?_ | with_reducible refine Su.x_isi_bool_tuple ?_ | with_reducible refine Su.x_isi_str_int ?_ | with_reducible refine Su.x_isi_str_bool ?_ | with_reducible refine Su.x_isi_str_str ?_ | with_reducible refine Su.x_isi_str_list ?_ | with_reducible refine Su.x_isi_str_tuple ?_ | with_reducible refine Su.x_isi_NoneType_int ?_ | with_reducible refine Su.x_isi_NoneType_bool ?_ | with_reducible refine Su.x_isi_NoneType_str ?_ | with_reducible refine Su.x_isi_NoneType_list ?_ | with_reducible refine Su.x_isi_NoneType_tuple ?_ | with_reducible refine Su.x_rGt ?_ | with_reducible refine Su.x_rGe ?_ | with_reducible refine Su.x_iteF ?_ | with_reducible refine Su.x_iteT ?_ | with_reducible refine Su.x_iteNT ?_ | with_reducible refine Su.x_iteNF ?_ | with_reducible refine Su.x_eqI ?_ | with_reducible refine Su.x_neI ?_ | with_reducible refine Su.x_eqS ?_ | with_reducible refine Su.x_neS ?_ | with_reducible refine Su.x_eqB ?_ | with_reducible refine Su.x_neB ?_
  | with_reducible refine Su.x_test ?_ | with_reducible refine Su.x_tB ?_ | with_reducible refine Su.x_isB ?_ | with_reducible refine Su.x_isB' ?_ | with_reducible refine Su.x_not ?_ | with_reducible refine Su.x_and ?_ | with_reducible refine Su.x_or ?_
  | with_reducible refine Su.x_andV ?_ | with_reducible refine Su.x_orV ?_ | with_reducible refine Su.x_notV ?_ | with_reducible refine Su.x_chain ?_ | with_reducible refine Su.x_nil ?_ | with_reducible refine Su.x_cons ?_ | with_reducible refine Su.x_cb ?_ | with_reducible refine Su.x_call ?_
  | with_reducible refine Su.x_un ?_ | with_reducible refine Su.x_rU ?_ | with_reducible refine Su.x_abs ?_ | with_reducible refine Su.x_max2 ?_ | with_reducible refine Su.x_min2 ?_ | with_reducible refine Su.x_int1 ?_ | with_reducible refine Su.x_intB ?_
  | with_reducible refine Su.x_lst ?_ | with_reducible refine Su.x_tup ?_ | with_reducible refine Su.x_bmL ?_ | with_reducible refine Su.x_next ?_ | with_reducible refine Su.x_for ?_ | with_reducible refine Su.x_iList ?_ | with_reducible refine Su.x_iRng1 ?_ | with_reducible refine Su.x_iRng2 ?_ | with_reducible refine Su.x_whileN ?_ | with_reducible refine Su.x_iEnum ?_ | with_reducible refine Su.x_iZip ?_ | with_reducible refine Su.x_iZipA ?_ | with_reducible refine Su.x_iTup ?_ | with_reducible refine Su.x_gcons ?_ | with_reducible refine Su.x_gnil ?_ | with_reducible refine Su.x_gsub ?_ | with_reducible refine Su.x_yes ?_ | with_reducible refine Su.x_lc ?_ | with_reducible refine Su.x_sl ?_ | with_reducible refine Su.x_nopart ?_ | with_reducible refine Su.x_part ?_ | with_reducible refine Su.x_isI ?_ | with_reducible refine Su.x_lstRg ?_ | with_reducible refine Su.x_rg1 ?_ | with_reducible refine Su.x_augS ?_ | with_reducible refine Su.x_ipI ?_ | ((with_reducible show L2.tAug _ _ _ _ _ _); refine Su.x_aug rfl ?_) | with_reducible refine Su.x_callS ?_ | with_reducible refine Su.x_tryAs ?_)
local macro_rules | `(tactic| walk_at "xs") => `(tactic| repeat walk_at "x")
local macro_rules | `(tactic| walk_at "if") => `(tactic| first | with_reducible refine Su.x_iteD (fun c => ?_) (fun c => ?_) | with_reducible refine Su.x_iteN (fun c => ?_) (fun c => ?_) | with_reducible refine Su.x_ite (fun c => ?_) (fun c => ?_))
/-! a statement that may raise, run while a dict is walked -/
section
variable {X : Cx} {st : Stmt}
end
section
variable {K : PySem.W.Frag} {σ : St} {H : Hp} {Q : VK} {D : Ends} {td ty : TE}
end

end Su
namespace Su
open PySem L2
local macro_rules | `(tactic| walk_at "side") => `(tactic| first | assumption | (show (0 : Int) < _; omega) | (show (0 : Int) ≤ _; omega) | (show (0 : Int) < _; split <;> omega) | (show _ ∨ _; omega) | (show _ ∧ _; omega) | exact ⟨by decide, by decide, by decide⟩ | exact ⟨by first | assumption | omega, by first | assumption | omega⟩)
local macro_rules | `(tactic| walk_at "xs") => `(tactic| repeat walk_at "x")
local macro_rules | `(tactic| walk_at "if") => `(tactic| first | with_reducible refine Su.x_iteD (fun c => ?_) (fun c => ?_) | with_reducible refine Su.x_iteN (fun c => ?_) (fun c => ?_) | with_reducible refine Su.x_ite (fun c => ?_) (fun c => ?_))

/-! a list comprehension out of which an exception may go -/
section
open PySem.Spec PyProof.Rows
theorem inv_wish {X : Cx} {F : Value → Shared → Prop} {pins : List (Addr × Obj)} {σ : L2.St} {H : Hp} {s : Shared} (I : Inv X pins σ H s) : Inv (X.wish F) pins σ H s :=
  ⟨⟨I.ok.mod, I.ok.kind, I.ok.glob, I.ok.blt, I.ok.above, I.ok.inj, I.ok.has, I.ok.cab, I.ok.hd, I.ok.frames, I.ok.stk, I.ok.exf, I.ok.bs, I.ok.bsz, I.ok.noex, I.ok.exfs, I.ok.funs, I.ok.frf⟩, I.os, I.bare, I.base, I.loc, I.cell, I.free, I.freeC, I.pin, I.hok, I.len⟩
theorem held_but {B0 h h' : Heap} {l : List Env} {a L C : Addr} {Z : Obj → Prop} {oC : Obj} (x : HandSPX.HeldZ B0 l a Z L h) (hC : h.get? C = some oC) (nf : ∀ vs, oC.data ≠ .fields vs) (b0 : B0.get? C = none) (cf : C ∉ frs l) (sb : Heap.SameBut C h h') : HandSPX.HeldZ B0 l a Z L h' := by
  obtain ⟨x1, x2, x3, oe, vs, T, oT, ts, he, hz, hd, h1, hnT, hTe, hT, hdT, h3⟩ := x
  have ne : ∀ {y : Addr} {o : Obj} {vs : Array Value}, h.get? y = some o → o.data = .fields vs → y ≠ C := fun {y o vs} e d z => by
    rw [z, hC] at e
    cases e
    exact nf vs d
  have ff : ∀ l : List Env, C ∉ frs l → h.FunFrames B0 l → h'.FunFrames B0 l := by
    intro l
    induction l with
    | nil => intro _ _; trivial
    | cons env l ih =>
      intro cf x3
      obtain ⟨hk, ⟨L, o, hf, hn, ho, hd⟩, hr⟩ := x3
      have m : frs (env :: l) = L :: frs l := by unfold frs; rw [List.filterMap_cons, hf]
      rw [m] at cf
      exact ⟨hk, ⟨L, o, hf, hn, (sb.2 L fun z => cf (by rw [← z]; exact List.mem_cons_self)).trans ho, hd⟩, ih (fun z => cf (List.mem_cons_of_mem _ z)) hr⟩
  refine ⟨fun b o e => (sb.2 b fun z => by rw [z, b0] at e; cases e).trans (x1 b o e), x2, ff l cf x3, oe, vs, T, oT, ts, (sb.2 a (ne he hd)).trans he, hz, hd, h1, hnT, hTe, (sb.2 T (ne hT hdT)).trans hT, hdT, h3⟩
section
variable {X : Cx} {E : XK}
/-- an exception leaves a block's call -/
theorem lcx_pass {pins : List (Addr × Obj)} {σ : L2.St} {H3 : Hp} {s3 : Shared} {scope : Scope} {ce : Env} {fp : List Addr} {Qf : Value → Shared → Prop} {D : Addr} (I3 : Inv X pins σ H3 s3) (f3 : ∀ b ∈ fp, FpOk X pins H3 b ∧ b < s3.heap.objs.size)
    (hs : X.stack = X.env :: X.outer) (hf : X.env.frame = some X.env.locals) (tk : Takes X (fun cls d _ H => E cls d H)) (cL : ce.locals = s3.heap.objs.size) (cF : ce.frame = X.env.frame) :
    ∀ (pins' : List (Addr × Obj)) (σ' : L2.St) (H' : Hp) (s : Shared) (e : Value) (s' : Shared), Inv (X.blk s3 H3 scope ce fp) pins' σ' H' s → L2.CX X.prog X.w X.stack H' s E e s' →
      notedBy (model X.prog X.w) X.A ce (fun e s' => compEnds (model X.prog X.w) X.A X.xe none Qf (.ref D) ce (.error e) s') e s' := by
  intro pins' σ' H' s e s' Ib c
  obtain ⟨a, B, H1, cls, d, rfl, fl, hokB, ub, na, os, ag, hE⟩ := c
  obtain ⟨C, hC⟩ : ∃ C, s3.heap.objs.size = C := ⟨_, rfl⟩
  rw [hC] at cL
  have nC : H' C = none := by have z : H' ce.locals = none := Ib.free; rw [cL] at z; exact z
  obtain ⟨m, hn, _⟩ := Ib.loc
  have hn : s.heap.Ns ce.locals m := hn
  rw [cL] at hn
  obtain ⟨oC, es, ep, hoC, hdC, hsk, hfd⟩ := hn
  have low : ∀ {b : Addr} {o : Obj}, s3.heap.get? b = some o → b ≠ C := fun {b o} e z => by
    have := Heap.lt_size e
    rw [z, hC] at this
    exact Nat.lt_irrefl _ this
  have cfr : C ∉ frs X.stack := fun z => by
    obtain ⟨_, o, e, _⟩ := I3.stack.mem z
    exact low e rfl
  have hBC : B.get? C = some oC := ub.keep C oC hoC nC cfr
  have hsC : s'.heap.get? C = some oC := fl.1 C oC hBC
  have nfC : ∀ vs, oC.data ≠ .fields vs := fun vs z => by rw [hdC] at z; cases z
  obtain ⟨B0, r1, r2⟩ := restrict B fun b => decide (b ≠ C)
  have b0C : B0.get? C = none := r2 C (by simp)
  have b0 : ∀ b o, B0.get? b = some o → B.get? b = some o := fun b o e => by
    by_cases z : b = C
    · rw [z, b0C] at e; cases e
    · rw [r1 b (decide_eq_true z)] at e; exact e
  have bk : ∀ b o, B.get? b = some o → b ≠ C → B0.get? b = some o := fun b o e z => by rw [r1 b (decide_eq_true z)]; exact e
  have bn : ∀ b, B.get? b = none → B0.get? b = none := fun b e => by
    cases q : B0.get? b with
    | none => rfl
    | some o => rw [b0 b o q] at e; cases e
  have fl0 : HandSPX.FlyingZ B0 X.stack a (Zc cls d) s'.heap := by
    obtain ⟨x1, x2, x3, oe, vs, T, oT, ts, he, hz, hd, h1, hnT, hTe, hT, hdT, h3⟩ := fl
    exact ⟨fun b o e => x1 b o (b0 b o e), bn a x2, funFrames_none x3 fun L hL => bn L (x3.mem hL).1, oe, vs, T, oT, ts, he, hz, hd, h1, bn T hnT, hTe, hT, hdT, h3⟩
  -- the state without the exception and the block
  obtain ⟨G, g1, g2⟩ := restrict s'.heap fun b => (B0.get? b).isSome || decide (b ∈ frs X.stack)
  have st : B0.StaysIn s'.heap := fl0.1
  have gB : ∀ b o, B0.get? b = some o → G.get? b = some o := fun b o e => by
    rw [g1 b (by simp [e])]
    exact st b o e
  have gF : ∀ b, b ∈ frs X.stack → G.get? b = s'.heap.get? b := fun b hb => g1 b (by simp [hb])
  have og : ∀ b o, G.get? b = some o → s'.heap.get? b = some o ∧ ((B0.get? b).isSome = true ∨ b ∈ frs X.stack) := fun b o e => by
    cases q : ((B0.get? b).isSome || decide (b ∈ frs X.stack)) with
    | false => rw [g2 b q] at e; cases e
    | true =>
      rw [g1 b q] at e
      exact ⟨e, by simpa [Bool.or_eq_true] using q⟩
  have nG : ∀ b o, G.get? b = some o → b ≠ C := fun b o e z => by
    obtain ⟨_, h⟩ := og b o e
    rcases h with h | h
    · rw [z, b0C] at h; cases h
    · exact cfr (by rw [← z]; exact h)
  have base : Un (frs X.stack) fp H3 H' s3.heap s.heap := Ib.base
  have II : Inv X pins σ H1 { s3 with heap := G, gens := s'.gens, drawn := s'.drawn, toks := s'.toks } := by
    refine I3.call' (ch := fp) rfl ⟨fun b o e n hb hx => gB b o (bk b o (ub.keep b o (base.keep b o e n hb hx) (base.free b o e n hx) hb) (low e)), fun b o e n hb hx => ?_, fun b o e n hx => ?_, fun b o e hx => ?_, fun b xs e => ub.tups b xs (base.tups b xs e), fun b o u e => ub.frzs b o u (base.frzs b o u e), fun b ps e => ?_⟩
      (fun b o q => ?_) ag fun b hb => ⟨(f3 b hb).1.2.2.2.1, (f3 b hb).1.2.1, (f3 b hb).1.2.2.2.2.1, (f3 b hb).1.2.2.2.2.2⟩
    · obtain ⟨sl, q⟩ := base.slot b o e n hb hx
      obtain ⟨sl2, q2⟩ := ub.slot b _ q hb
      exact ⟨sl2, by rw [gF b hb]; exact q2⟩
    · obtain ⟨o', q⟩ := base.there b o e hx
      exact ub.free b o' q (base.free b o e n hx)
    · obtain ⟨o', q⟩ := base.there b o e hx
      by_cases hb : b ∈ frs X.stack
      · obtain ⟨sl, q2⟩ := ub.slot b o' q hb
        exact ⟨_, by rw [gF b hb]; exact q2⟩
      · obtain ⟨o2, q2⟩ := ub.there b o' q hb
        exact ⟨o2, gB b o2 (bk b o2 q2 (low e))⟩
    · obtain ⟨m1, q⟩ := base.tbls b ps e
      obtain ⟨m2, q2⟩ := ub.tbls b _ q
      exact ⟨m1 ++ m2, by rw [q2, Array.append_assoc]⟩
    · have z := hokB b o q
      have hb : b ≠ C := fun z => by
        rw [z] at q
        have := ub.free C oC hoC nC
        rw [this] at q; cases q
      refine z.stay (fun c v hc e => ?_) (fun _ e => e) fun _ _ e => e
      have hcC : c ≠ C := by
        rcases hc with rfl | hc
        · exact hb
        · intro z
          rw [z, ub.free C oC hoC nC] at hc; cases hc
      exact gB c v (bk c v e hcC)
  have nb : ∀ b o, G.get? b = some o → b ∉ frs X.stack → B0.get? b = some o := fun b o e hb => by
    obtain ⟨e', h⟩ := og b o e
    rcases h with h | h
    · obtain ⟨o', q⟩ := Option.isSome_iff_exists.mp h
      have z := st b o' q
      rw [e'] at z; cases z
      exact q
    · exact absurd h hb
  have upG : G.UpToSlots s'.heap := Heap.UpToSlots.of_keeps fun b o e => (og b o e).1
  have hfr : X.A.frames = some (X.env :: X.outer) := by rw [I3.ok.frames, hs]
  have en : noteFrame (.ref a) ce = noteFrame (.ref a) X.env := by
    unfold PySem.noteFrame PySem.frameOf
    rw [cF]
  show wpAny (model X.prog X.w) X.A (noteFrame (.ref a) ce) _ _ s'
  rw [en]
  rw [hs] at fl0
  refine HandSPX.looks_onZ Zc.steady hfr hf fl0 fun h1 held up1 => ?_
  obtain ⟨sl1, hC1⟩ := up1 C oC hsC nfC
  refine ⟨m, by rw [cL]; exact ⟨{ oC with slots := sl1 }, es, ep, hC1, hdC, hsk, hfd⟩, fun h2 _ _ sb => ?_⟩
  rw [cL] at sb
  have held2 := held_but held hC1 nfC b0C (by rw [← hs]; exact cfr) sb
  have up2 : G.UpToSlots h2 := fun b o e hnf => by
    obtain ⟨sl, q⟩ := (upG.trans up1) b o e hnf
    exact ⟨sl, (sb.2 b (nG b o e)).trans q⟩
  obtain ⟨k1, k2, k3, oe, vs, T, oT, ts', he, hz, hd, h1', hr⟩ := id held2
  unfold PySem.passOn
  refine wpAny_bind (wpAny_field he hd h1' ?_)
  rw [if_neg (show ¬ ((Value.ref T == Value.none) = true) from by simp)]
  have fin : wpAny (model X.prog X.w) X.A (setFlight (.ref a) ce.frame) (fun _ s4 => wpAny (model X.prog X.w) X.A (throw (.ref a) : Sem Value) (fun _ _ => False) X.xe s4) X.xe { s' with heap := h2 } := by
    rw [cF, hf]
    refine HandSPX.setFlight_onZ held2 fun h4 hh4 up4 => wpAny_throw (tk _ _ ?_)
    exact ⟨a, B0, _, pins, σ, H1, cls, d, rfl, II, nb, up2.trans up4, .inr (.inr (by rw [hs]; exact hh4)), na, os.trans Ib.os, ag, hE⟩
  first
    | exact wpAny_bind (wpAny_pure (wpAny_bind fin))
    | exact wpAny_bind fin
/-- the loop of a list comprehension's block Y; what may go out of its element is xe -/
theorem lcx_loop {Y : Cx} {xe : Value → Shared → Prop} {R : Result → Shared → Prop} {Qd : Hp → Prop} {W : Nat → Nat → Hp → Prop} {J : It} {fp : List Addr} {vs : List Nat} {tn : Nat → Heap → Prop} {it D : Addr} {σ0 : L2.St} {u0 : Shared} {H0 : Hp} {m0 : Nat} {elt tg iter : Expr} {ifs : List Expr} {scope : Scope} {pos : Pos} {g : TG} {tt : TT} {te : TE}
    (hc : Y.calm = true) (nox : Y.xe = fun _ _ => False) (T : Turn Y.prog Y.w Y.K tg J fp it tn) (own : ∀ {σ' : L2.St} {H' : Hp} {u : Shared}, L2.Inv Y [] σ' H' u → (∀ b ∈ fp, H' b = none) → ∀ b ∈ fp, FpOk Y [] H' b) (pg : PG Y tg g) (pt : PTs Y ifs tt) (pe : PE (Y.wish xe) elt te)
    (out : ∀ e u, xe e u → notedBy (model Y.prog Y.w) Y.A Y.env (fun e u => R (.error e) u) e u) (fin : ∀ u H, L2.Inv Y [] σ0 H u → Qd H → R (.ok .next) u)
    (turn : ∀ i n H, W i n H → (J.stop i H ∧ Qd H) ∨ (J.go i H ∧ ∃ Nx : Hp → Prop, (∀ H', Nx H' → ∃ m', m' < n ∧ W (i + 1) m' H') ∧ ∀ x H', J.yld i H x H' → g x σ0 H' fun σ2 H2 => wipe σ2 vs = σ0 ∧ tt σ2 H2 fun b H3 =>
      if b = true then te σ2 H3 fun y H4 => ∃ acc, H4 D = some (.lst acc) ∧ acc.length < sizeLine ∧ Nx (upd H4 D (.lst (acc ++ [y]))) else Nx H3))
    (I : L2.Inv Y [] σ0 H0 u0) (st : tn 0 u0.heap) (nf : ∀ b ∈ fp, H0 b = none) (w0 : W 0 m0 H0) :
    codeAny (model Y.prog Y.w) Y.A (.compLoop (.ListComp elt [⟨tg, iter, ifs, 0⟩] scope pos) 0 (.ref it) (.ref D) Y.env) R u0 := by
  refine compLoop_any (fun n u => ∃ i H, L2.Inv Y [] σ0 H u ∧ tn i u.heap ∧ (∀ b ∈ fp, H b = none) ∧ W i n H) (fun n u ⟨i, H, I1, st1, n1, w1⟩ => ?_) m0 ⟨0, H0, I, st, nf, w0⟩
  rcases turn i n H w1 with ⟨ends, q⟩ | ⟨goes, Nx, less, step⟩
  · exact thnF (T.done Y rfl rfl rfl hc i [] u _ H _ I1 (own I1 n1) st1 ends) fun r u1 ⟨e, I2⟩ => by subst e; exact fin u1 H I2 q
  refine thnF (T.item Y rfl rfl rfl hc i [] u _ H _ I1 (own I1 n1) st1 goes) fun r u1 ⟨v, e, z⟩ => ?_
  subst e
  refine thnF z fun _ u2 ⟨x, H2, I2, rx, yd, st2, n2⟩ => ?_
  -- behind a turn the iterator's objects are as they were
  have back : ∀ {u' : Shared} {H' : Hp} {σ' : L2.St}, L2.Inv Y ([] ++ pinsAt fp u2.heap) σ' H' u' → wipe σ' vs = σ0 → Nx H' → ∃ m, m < n ∧ ∃ i H, L2.Inv Y [] σ0 H u' ∧ tn i u'.heap ∧ (∀ b ∈ fp, H b = none) ∧ W i m H := fun {u' H' σ'} I' wp nx => by
    obtain ⟨m', lt, w'⟩ := less H' nx
    subst wp
    have kept : ∀ b ∈ fp, ∀ o, u2.heap.get? b = some o → u'.heap.get? b = some o ∧ H' b = none := fun b hb o e => (I'.pin (b, o) (List.mem_append_right _ (List.mem_append_right _ (mem_pinsAt hb e)))).imp id And.left
    exact ⟨m', lt, i + 1, H', (I'.unpinned (pins := [])).weak (wipe_length _ _) fun j v e => (wipe_some e).1, T.keep _ _ _ st2 fun b hb o e => (kept b hb o e).1, fun b hb => (T.obj _ _ st2 b hb).elim fun o r => (kept b hb o r.1).2, w'⟩
  have named := pg.run _ u2 _ H2 x v _ (I2.pinned (own I2 n2) (T.obj _ _ st2)) rx (step x H2 yd)
  rw [nox] at named
  refine thnF named fun _ u3 ⟨σ3, H3, I3, wp, q3⟩ => ?_
  have tested := pt.run _ u3 σ3 H3 _ I3 q3
  rw [nox] at tested
  refine thnF tested fun b u4 ⟨H4, I4, q4⟩ => ?_
  cases b with
  | false => exact back I4 wp (by simpa using q4)
  | true =>
    refine wpAny_mono (pe.run _ u4 σ3 H4 _ (inv_wish I4) (by simpa using q4)) (fun y u5 z => ?_) out
    obtain ⟨yv, H5, I5, ry, acc, hD, small, nx⟩ := z
    have I6 : L2.Inv Y _ σ3 H5 u5 := inv_wish (X := Y.wish xe) (F := Y.xe) I5
    exact app_ok I6 hD small ry fun u6 I7 => back I7 wp nx
/-- [elt for target in iter if ..], elt letting out E -/
theorem pe_lcX {elt tg iter : Expr} {ifs : List Expr} {scope : Scope} {own : List (Str × Nat)} {pos : Pos} {wi : TI} {g : TG} {tt : TT} {te : TE} (hs' : X.stack = X.env :: X.outer) (hf : X.env.frame = some X.env.locals) (tk : Takes X (fun cls d _ H => E cls d H)) (hc : X.calm = true) (hN : X.N.Nodup) (hi : PI X tg iter wi) (ok : BlkOk X.N X.env.scope scope own)
    (hg : ∀ (s : Shared) (H : Hp) (C : Addr) (cl : List (Str × Addr)) (fp : List Addr), PG (X.blk s H scope (compEnvC scope cl C X.env) fp) tg g) (ht : ∀ (s : Shared) (H : Hp) (C : Addr) (cl : List (Str × Addr)) (fp : List Addr), PTs (X.blk s H scope (compEnvC scope cl C X.env) fp) ifs tt)
    (he : ∀ (s : Shared) (H : Hp) (C : Addr) (cl : List (Str × Addr)) (fp : List Addr) (xe : Value → Shared → Prop), Passes (L2.CX X.prog X.w) ((X.blk s H scope (compEnvC scope cl C X.env) fp).wish xe) E → PE ((X.blk s H scope (compEnvC scope cl C X.env) fp).wish xe) elt te) (hs : ∀ x, foldedSetIterable iter X.env x = pure x := by intro _; rfl) :
    PE X (.ListComp elt [⟨tg, iter, ifs, 0⟩] scope pos) (tLc wi g tt te (own.map (·.2))) := by
  refine ⟨fun pins s σ H Q I h => ?_⟩
  rw [eval_ListComp]
  refine comprehension_at rfl hs (closure_ok fun y hy e => I.ok.has _ (ok.free y hy e)) ok.kind (fun y hy e => by rw [ok.uniq y hy, e]) (thn (hi.run pins s σ H _ I h) fun xv s1 hx => thn hx fun itv s2 ⟨it, fp, tn, J, H2, e, I2, T, st2, f2, q⟩ => ?_)
  cases e
  -- the new list, behind it the block of names
  obtain ⟨W, ⟨m0, w0⟩, turn⟩ := q s2.heap.objs.size (I2.hok.fresh (Nat.le_refl _))
  refine wpAny_newObj_type (newEnv_comp ?_) (by show 0 ≤ sizeLine; decide)
  generalize e3 : Shared.mk (s2.heap.push { cls := .type "list", data := .seq ([] : List Value).toArray }) s2.gens s2.drawn s2.toks s2.os = s3
  generalize eH : upd H2 s2.heap.objs.size (.lst []) = H3 at w0
  have up : ∀ b o, s2.heap.get? b = some o → s3.heap.get? b = some o := fun b o e => by rw [← e3]; exact Heap.get?_push_of_some _ e
  have I3 : L2.Inv X pins σ H3 s3 := by
    rw [← e3, ← eH]
    exact I2.laid (t' := s2.toks) (fun b o e => Heap.get?_push_of_some _ e) (Nat.le_refl _) ⟨Nat.zero_le _, [], 0, .nil, Heap.get?_push_size _ rfl⟩
  have f3 : ∀ b ∈ fp, FpOk X pins H3 b ∧ b < s3.heap.objs.size := fun b hb => by
    obtain ⟨o, e, -⟩ := T.obj _ _ st2 b hb
    refine ⟨⟨?_, (f2 b hb).2⟩, Heap.lt_size (up b o e)⟩
    rw [← eH, upd_ne (Nat.ne_of_lt (Heap.lt_size e))]
    exact (f2 b hb).1
  have I4 := block_start I3 ok hN f3
  have names := hg s3 H3 s3.heap.objs.size (cellsFrom (s3.heap.objs.size + 1) scope.names (cloFrom X.env.cells scope.names [])) fp
  have tests := ht s3 H3 s3.heap.objs.size (cellsFrom (s3.heap.objs.size + 1) scope.names (cloFrom X.env.cells scope.names [])) fp
  have value := he s3 H3 s3.heap.objs.size (cellsFrom (s3.heap.objs.size + 1) scope.names (cloFrom X.env.cells scope.names [])) fp
  generalize ec : compEnvC scope (cellsFrom (s3.heap.objs.size + 1) scope.names (cloFrom X.env.cells scope.names [])) s3.heap.objs.size X.env = ce at I4 names tests value
  have cL : ce.locals = s3.heap.objs.size := by rw [← ec]; rfl
  have cF : ce.frame = X.env.frame := by rw [← ec]; rfl
  generalize e4 : Shared.mk (pushCells (s3.heap.push { cls := .type "dict", data := .dict #[] }) scope.names) s3.gens s3.drawn s3.toks s3.os = s4 at I4
  show codeAny _ _ (.compStart (.ListComp elt [⟨tg, iter, ifs, 0⟩] scope pos) 0 (.ref it) (.ref s2.heap.objs.size) (compEnvC scope (cellsFrom (s3.heap.objs.size + 1) scope.names (cloFrom X.env.cells scope.names [])) s3.heap.objs.size X.env))
    (compEnds (model X.prog X.w) X.A X.xe none (EP X pins σ Q) (.ref s2.heap.objs.size) (compEnvC scope (cellsFrom (s3.heap.objs.size + 1) scope.names (cloFrom X.env.cells scope.names [])) s3.heap.objs.size X.env))
    _
  rw [ec]
  have st4 : tn 0 s4.heap := T.keep _ _ _ st2 fun b _ o e => by rw [← e4]; exact pushCells_keeps _ _ _ _ (Heap.get?_push_of_some _ (up b o e))
  have stay : ∀ {σ' : L2.St} {H' : Hp} {u : Shared}, L2.Inv (X.blk s3 H3 scope ce fp) [] σ' H' u → (∀ b ∈ fp, H' b = none) → ∀ b ∈ fp, FpOk (X.blk s3 H3 scope ce fp) [] H' b := fun I' n b hb =>
    have x := I'.ok.exf b hb
    ⟨n b hb, x.1, I'.ok.exfs b hb, .inl hb, x.2, fun p hp => nomatch (show p ∈ ([] : List (Addr × Obj)) from hp)⟩
  have elem := value _ fun pins' σ' H' s e s' Ib c => lcx_pass (Qf := EP X pins σ Q) (D := s2.heap.objs.size) (scope := scope) I3 f3 hs' hf tk cL cF pins' σ' H' s e s' (inv_wish (F := fun _ _ => False) Ib) c
  have loop := lcx_loop (Y := X.blk s3 H3 scope ce fp) (R := compEnds (model X.prog X.w) X.A X.xe none (EP X pins σ Q) (.ref s2.heap.objs.size) ce) (elt := elt) (iter := iter) (scope := scope) (pos := pos) hc rfl T stay names tests elem (fun _ _ z => z) (fun u H5 I5 q5 => by
    have I6 : L2.Inv X pins σ H5 u := I3.call' (ch := fp) I5.os I5.base I5.hok I5.bare fun b hb => have x := (f3 b hb).1.2; ⟨x.2.2.1, x.1, x.2.2.2.1, x.2.2.2.2⟩
    have free : H5 ce.locals = none := I5.free
    obtain ⟨m, ns, -⟩ := I5.loc
    have x := I3.fpOk (H' := H5) (Nat.le_refl _) (cL ▸ free)
    exact ⟨m, ns, fun h' sb => ⟨.ref s2.heap.objs.size, H5, I6.turned (t' := u.toks) (fun b o nb e => (sb.2 b (by rw [cL]; exact nb)).trans e) x.1 x.2.1 x.2.2.2.1 x.2.2.2.2.1 x.2.2.2.2.2, rfl, q5⟩⟩)
    turn I4 st4 (fun b hb => (f3 b hb).1.1) w0
  exact codeAny_compStart_list loop (T.self X.A 0 _ _ _ st4 loop)
end
end

end Su
namespace Su
open PySem L2
local macro_rules | `(tactic| walk_at "side") => `(tactic| first | assumption | (show (0 : Int) < _; omega) | (show (0 : Int) ≤ _; omega) | (show (0 : Int) < _; split <;> omega) | (show _ ∨ _; omega) | (show _ ∧ _; omega) | exact ⟨by decide, by decide, by decide⟩ | exact ⟨by first | assumption | omega, by first | assumption | omega⟩)
local macro_rules | `(tactic| walk_at "x") => `(tactic| first
  | with_reducible refine Su.x_seq ?_ | with_reducible refine Su.x_asg ?_ | with_reducible refine Su.x_gname ?_ | with_reducible refine Su.x_drop ?_ | with_reducible refine Su.x_ret ?_ | with_reducible refine Su.x_ifS ?_
  | ((with_reducible show L2.tVar _ _ _ _); refine Su.x_var rfl ?_) | with_reducible refine Su.x_c ?_ | with_reducible refine Su.x_op ?_ | with_reducible refine Su.x_rI0 ?_ | ((with_reducible refine Su.x_rI ?_ ?_); focus walk_at "side")
  | ((with_reducible show L2.rIxL _ (L2.V.ref _) (L2.V.int _) _ _); refine Su.x_ixI (by assumption) (by first | decide | omega) (by omega) ?_) | with_reducible refine Su.x_isi_int_int ?_ | with_reducible refine Su.x_isi_int_bool ?_ | with_reducible refine Su.x_isi_int_str ?_ | with_reducible refine Su.x_isi_int_list ?_ | with_reducible refine Su.x_isi_int_tuple ?_ | with_reducible refine Su.x_isi_bool_int ?_ | with_reducible refine Su.x_isi_bool_bool ?_ | with_reducible refine Su.x_isi_bool_str ?_ | with_reducible refine Su.x_isi_bool_list ?_ | with_reducible refine Su.x_isi_bool_tuple ?_ | with_reducible refine Su.x_isi_str_int ?_ | with_reducible refine Su.x_isi_str_bool ?_ | with_reducible refine Su.x_isi_str_str ?_ | with_reducible refine Su.x_isi_str_list ?_ | with_reducible refine Su.x_isi_str_tuple ?_ | with_reducible refine Su.x_isi_NoneType_int ?_ | with_reducible refine Su.x_isi_NoneType_bool ?_ | with_reducible refine Su.x_isi_NoneType_str ?_ | with_reducible refine Su.x_isi_NoneType_list ?_ | with_reducible refine Su.x_isi_NoneType_tuple ?_ | with_reducible refine Su.x_rGt ?_ | with_reducible refine Su.x_rGe ?_ | with_reducible refine Su.x_iteF ?_ | with_reducible refine Su.x_iteT ?_ | with_reducible refine Su.x_iteNT ?_ | with_reducible refine Su.x_iteNF ?_ | with_reducible refine Su.x_eqI ?_ | with_reducible refine Su.x_neI ?_ | with_reducible refine Su.x_eqS ?_ | with_reducible refine Su.x_neS ?_ | with_reducible refine Su.x_eqB ?_ | with_reducible refine Su.x_neB ?_
  | with_reducible refine Su.x_test ?_ | with_reducible refine Su.x_tB ?_ | with_reducible refine Su.x_isB ?_ | with_reducible refine Su.x_isB' ?_ | with_reducible refine Su.x_not ?_ | with_reducible refine Su.x_and ?_ | with_reducible refine Su.x_or ?_
  | with_reducible refine Su.x_andV ?_ | with_reducible refine Su.x_orV ?_ | with_reducible refine Su.x_notV ?_ | with_reducible refine Su.x_chain ?_ | with_reducible refine Su.x_nil ?_ | with_reducible refine Su.x_cons ?_ | with_reducible refine Su.x_cb ?_ | with_reducible refine Su.x_call ?_
  | with_reducible refine Su.x_un ?_ | with_reducible refine Su.x_rU ?_ | with_reducible refine Su.x_abs ?_ | with_reducible refine Su.x_max2 ?_ | with_reducible refine Su.x_min2 ?_ | with_reducible refine Su.x_int1 ?_ | with_reducible refine Su.x_intB ?_
  | with_reducible refine Su.x_lst ?_ | with_reducible refine Su.x_tup ?_ | with_reducible refine Su.x_bmL ?_ | with_reducible refine Su.x_next ?_ | with_reducible refine Su.x_for ?_ | with_reducible refine Su.x_iList ?_ | with_reducible refine Su.x_iRng1 ?_ | with_reducible refine Su.x_iRng2 ?_ | with_reducible refine Su.x_whileN ?_ | with_reducible refine Su.x_iEnum ?_ | with_reducible refine Su.x_iZip ?_ | with_reducible refine Su.x_iZipA ?_ | with_reducible refine Su.x_iTup ?_ | with_reducible refine Su.x_gcons ?_ | with_reducible refine Su.x_gnil ?_ | with_reducible refine Su.x_gsub ?_ | with_reducible refine Su.x_yes ?_ | with_reducible refine Su.x_lc ?_ | with_reducible refine Su.x_sl ?_ | with_reducible refine Su.x_nopart ?_ | with_reducible refine Su.x_part ?_ | with_reducible refine Su.x_isI ?_ | with_reducible refine Su.x_lstRg ?_ | with_reducible refine Su.x_rg1 ?_ | with_reducible refine Su.x_augS ?_ | with_reducible refine Su.x_ipI ?_ | ((with_reducible show L2.tAug _ _ _ _ _ _); refine Su.x_aug rfl ?_) | with_reducible refine Su.x_callS ?_ | with_reducible refine Su.x_tryAs ?_)
local macro_rules | `(tactic| walk_at "xs") => `(tactic| repeat walk_at "x")
local macro_rules | `(tactic| walk_at "if") => `(tactic| first | with_reducible refine Su.x_iteD (fun c => ?_) (fun c => ?_) | with_reducible refine Su.x_iteN (fun c => ?_) (fun c => ?_) | with_reducible refine Su.x_ite (fun c => ?_) (fun c => ?_))
local macro_rules | `(tactic| walk_at "x") => `(tactic| first | with_reducible refine Su.x_m1 ?_ | with_reducible refine Su.x_strE ?_ | with_reducible refine Su.x_m0 ?_ | with_reducible refine Su.x_dnew ?_ | with_reducible refine Su.x_dput ?_ | with_reducible refine Su.x_dgetE ?_ | with_reducible refine Su.x_dget2 ?_ | with_reducible refine Su.x_daug ?_ | with_reducible refine Su.x_din ?_ | with_reducible refine Su.x_dnin ?_ | with_reducible refine Su.x_brk ?_ | with_reducible refine Su.x_retN ?_)
/-! page_deeds -/
theorem s_nil39 : ("" : Str) = SX.S [] := by decide +kernel
def sp_page_deeds (K : PySem.W.Frag) : Sp := fun vs H Q E => ∃ (t : List Nat) (ws : List (List Nat)), vs = [vS t] ∧ t.length ≤ 50000 ∧ TbS K (He.ga K "SHAPES") tb_SHAPES ∧ TL.spl [10] 0 [] t = ws ∧
  ((ws.getD (ws.length - 1) [] = [] ∧ ∀ l ∈ ws.take (ws.length - 1), (rdL l).isSome = true) → ∀ (p : Addr) (xs : List V) (H' : Hp), H p = none → Same H H' → H' p = some (.lst xs) → DpAll K (noL H') xs (((ws.take (ws.length - 1)).filterMap rdL).map Dd.d) → Q (.ref p) H') ∧
  (¬ (ws.getD (ws.length - 1) [] = [] ∧ ∀ l ∈ ws.take (ws.length - 1), (rdL l).isSome = true) → ∀ H', Same H H' → E (.ref (He.ga K "NoDeed")) none H')
abbrev N_page_deeds : List Str := ["text", "lines", "line"]
def t_page_deeds (K : PySem.W.Frag) (E : XK) : TS :=
 (tSeq (tAsg (tM1 rSplit (tVar 0) (tC (.str "\n"))) (gName 1))
 (tSeq (tIfS (tTest (tOp rNe (tOp (rIxL K) (tVar 1) (tUn rNeg (tC (.int 1)))) (tC (.str ""))))
 (tRaise (He.ga K "NoDeed") (wE E))
 tNext)
 (tRet (tLc (iList K (tSl (rSlL K) (tVar 1) tNoPart (tPart (tUn rNeg (tC (.int 1)))))) (gName 2) tYes (tCall (sp_deed_of K) [] E (tCons (tVar 2) tNil)) [2]))))

theorem len_page_deeds {K : PySem.W.Frag} : ∀ vs H Q E, sp_page_deeds K vs H Q E → vs.length = ["a"].length := by
  rintro vs H Q E ⟨_, _, rfl, _⟩; rfl
theorem pure_page_deeds {K : PySem.W.Frag} {vs : List V} {H : Hp} {Q : VK} {E : XK} (h : sp_page_deeds K vs H Q E) : t_page_deeds K E { nx := fun _ H' => Q .non H', rt := Q } (start N_page_deeds vs) H := by
  obtain ⟨t, ws, rfl, hl, tb, ew, k1, k2⟩ := h
  have sw := spl_small (S := [10]) t 0 []
  have sp := spl_pos (S := [10]) t 0 []
  unfold t_page_deeds
  rw [s_feed, s_nil39]
  walk_at "xs"
  refine al_splitN (by omega) fun p H1 np s1 hp => ?_
  rw [ew] at hp sw sp
  have wne : ws ≠ [] := fun z => by rw [z] at sp; exact absurd sp (by decide)
  have wl : ws.length ≤ 50001 := by have := sw.2; omega
  have wm : ∀ l ∈ ws.take (ws.length - 1), l.length ≤ 50000 := fun l h => by have := sw.1 l (List.mem_of_mem_take h); simp only [List.length_nil] at this; omega
  clear sw sp
  walk_at "xs"
  refine x_ixL (SqL.of hp) (at_lastW wne) ?_
  walk_at "xs"
  rw [dec_S]
  by_cases c : ¬ ws.getD (ws.length - 1) [] = []
  · rw [decide_eq_false c]
    walk_at "xs"
    exact k2 (fun z => c z.1) H1 s1
  replace c := Decidable.not_not.mp c
  rw [decide_eq_true c]
  walk_at "xs"
  refine al_butlastW (SqL.of hp) fun B H2 nB s2 hB => ?_
  generalize hls : ws.take (ws.length - 1) = ls at *
  have ll : ls.length ≤ 50001 := by rw [← hls, List.length_take]; omega
  refine ⟨B, rfl, ⟨_, SqL.of hB⟩, fun A nA => ?_⟩
  refine lc_by (turnsL (xs := ls.map vS)) (fun i H' => LcG K H2 A (((ls.take i).filterMap rdL).map Dd.d) H' ∧ ∀ l ∈ ls.take i, (rdL l).isSome = true) ⟨⟨same_new (Same.refl H2) nA, [], upd_same, .nil⟩, fun _ h => nomatch h⟩ (fun i H' _ lc => SqL.of (lc.1.s _ _ hB)) ?_ ?_
  · rintro i x Hc _ hi ⟨lc, al⟩ ⟨rfl, hx⟩
    rw [List.length_map] at hi
    rw [List.getElem?_map, List.getElem?_eq_getElem hi] at hx
    cases hx
    have tk : ls.take (i + 1) = ls.take i ++ [ls[i]] := by rw [List.take_succ, List.getElem?_eq_getElem hi]; rfl
    have hm := List.getElem_mem hi
    rw [tk]
    generalize ls[i] = l at hm
    walk_at "xs"
    refine x_wipe rfl ?_
    walk_at "xs"
    refine ⟨l, rfl, wm l hm, tb, fun d hd y H3 s3 hy => ?_, fun hd H3 s3 => k2 (fun z => by have := z.2 l hm; rw [show rdL l = none from hd] at this; cases this) H3 ((s1.trans s2).trans (lc.s.trans s3))⟩
    have hd : rdL l = some d := hd
    rw [List.filterMap_append, List.map_append, show [l].filterMap rdL = [d] by simp [hd]]
    obtain ⟨acc, e1, e2, e3⟩ := lc.keep nA s3 hy (noLst_dd d) (by rw [List.length_map]; have := List.length_filterMap_le rdL (ls.take i); rw [List.length_take] at this; omega)
    refine ⟨acc, e1, e2, e3, fun l' h' => ?_⟩
    rcases List.mem_append.mp h' with h' | h'
    · exact al l' h'
    · rw [List.mem_singleton.mp h', hd]; rfl
  · rintro H3 ⟨lc, al⟩
    rw [List.length_map, List.take_length] at lc al
    obtain ⟨acc, e, dd⟩ := lc.ex
    exact k1 ⟨c, al⟩ A acc H3 ((s1.trans s2).free nA) ((s1.trans s2).trans lc.s) e dd

end Su
namespace Su
open PySem L2
local macro_rules | `(tactic| walk_at "side") => `(tactic| first | assumption | (show (0 : Int) < _; omega) | (show (0 : Int) ≤ _; omega) | (show (0 : Int) < _; split <;> omega) | (show _ ∨ _; omega) | (show _ ∧ _; omega) | exact ⟨by decide, by decide, by decide⟩ | exact ⟨by first | assumption | omega, by first | assumption | omega⟩)
local macro_rules | `(tactic| walk_at "x") => `(tactic| first | with_reducible refine Su.x_seq ?_ | with_reducible refine Su.x_asg ?_ | with_reducible refine Su.x_gname ?_ | with_reducible refine Su.x_drop ?_ | with_reducible refine Su.x_ret ?_ | with_reducible refine Su.x_ifS ?_ | ((with_reducible show L2.tVar _ _ _ _); refine Su.x_var rfl ?_) | with_reducible refine Su.x_c ?_ | with_reducible refine Su.x_op ?_ | with_reducible refine Su.x_iteF ?_ | with_reducible refine Su.x_iteT ?_ | with_reducible refine Su.x_iteNT ?_ | with_reducible refine Su.x_iteNF ?_ | with_reducible refine Su.x_neS ?_ | with_reducible refine Su.x_test ?_ | with_reducible refine Su.x_tB ?_ | with_reducible refine Su.x_isB' ?_ | with_reducible refine Su.x_nil ?_ | with_reducible refine Su.x_cons ?_ | with_reducible refine Su.x_cb ?_ | with_reducible refine Su.x_lst ?_ | with_reducible refine Su.x_bmL ?_ | with_reducible refine Su.x_next ?_ | with_reducible refine Su.x_for ?_ | with_reducible refine Su.x_iTup ?_ | with_reducible refine Su.x_gcons ?_ | with_reducible refine Su.x_gnil ?_ | with_reducible refine Su.x_gsub ?_ | with_reducible refine Su.x_yes ?_ | with_reducible refine Su.x_lc ?_)
local macro_rules | `(tactic| walk_at "xs") => `(tactic| repeat walk_at "x")
local macro_rules | `(tactic| walk_at "if") => `(tactic| first | with_reducible refine Su.x_iteD (fun c => ?_) (fun c => ?_) | with_reducible refine Su.x_iteN (fun c => ?_) (fun c => ?_) | with_reducible refine Su.x_ite (fun c => ?_) (fun c => ?_))
local macro_rules | `(tactic| walk_at "x") => `(tactic| first | with_reducible refine Su.x_m1 ?_ | with_reducible refine Su.x_strE ?_)

/-! deed_text -/
def sp_deed_text (K : PySem.W.Frag) : Sp := fun vs H Q _ => ∃ (x : V) (d : Dd), vs = [x] ∧ Dp K H x d.d ∧ DdOk d ∧ ∀ H', Same H H' → Q (vS d.line) H'
abbrev N_deed_text : List Str := ["deed", "words", "name", "pledge", "wish", "part"]
def t_deed_text (K : PySem.W.Frag) : TS :=
 (tSeq (tIfS (tTest (tOp rNe (tOp (rIxT K) (tVar 0) (tC (.int 0))) (tC (.str "found"))))
 (tRet (tM1 (rJoin K) (tC (.str " ")) (tLc (iTup K (tVar 0)) (gName 5) tYes (tCB rStrA (tCons (tVar 5) tNil)) [5])))
 tNext)
 (tSeq (tAsg (tLst (tCons (tC (.str "found")) (tCons (tOp (rIxT K) (tVar 0) (tC (.int 1))) (tCons (tCB rStrInt (tCons (tOp (rIxT K) (tVar 0) (tC (.int 2))) tNil)) (tCons (tC (.str "plain")) tNil))))) (gName 1))
 (C8.tCut (tIfS (tB (tOp (rIxT K) (tVar 0) (tC (.int 3))))
 (tAsg (tC (.str "bids")) (gSub (tVar 1) (tC (.int 3)) rSetL))
 tNext)
 (tSeq (tFor (iTup K (tOp (rIxT K) (tVar 0) (tC (.int 4)))) (gTup K 3 (gCons (gName 2) (gCons (gName 3) (gCons (gName 4) gNil))))
 (tDrop (tBM K "list" rExtend (tVar 1) (tCons (tLst (tCons (tVar 2) (tCons (tCB rStrInt (tCons (tVar 3) tNil)) (tCons (tCB rStrInt (tCons (tVar 4) tNil)) tNil)))) tNil))))
 (tRet (tM1 (rJoin K) (tC (.str " ")) (tVar 1)))))))

theorem len_deed_text {K : PySem.W.Frag} : ∀ vs H Q E, sp_deed_text K vs H Q E → vs.length = ["a"].length := by
  rintro vs H Q E ⟨_, _, rfl, _⟩; rfl
theorem pure_deed_text {K : PySem.W.Frag} {vs : List V} {H : Hp} {Q : VK} {E : XK} (h : sp_deed_text K vs H Q E) : t_deed_text K { nx := fun _ H' => Q .non H', rt := Q } (start N_deed_text vs) H := by
  obtain ⟨x, d, rfl, hd, ok, k⟩ := h
  unfold t_deed_text
  rw [s_blank, s_found, s_plain, s_bids]
  have wl := ok.words_many
  have wle := ok.words_le
  cases ok with
  | @plain kw ps s h hl hp =>
    obtain ⟨a, xs, rfl, hq, hx⟩ := dp_tup hd
    have xl := dpAll_len hx
    rw [List.length_map, List.length_cons] at xl
    have sl := (sh_len h).2
    have x0 : xs[0]? = some (vS kw) := by
      obtain ⟨v, e, hv⟩ := dpAll_get' hx (i := 0) (d := .str (SX.S kw)) rfl
      rw [e, dp_str hv]
    walk_at "xs"
    refine x_ixT hq (v := vS kw) ?_ ?_
    · unfold atI ixN
      rw [if_pos (by decide), if_pos (by omega)]
      exact x0
    walk_at "xs"
    rw [dec_S, decide_eq_false (sh_found h)]
    walk_at "xs"
    refine ⟨a, rfl, ⟨xs, hq⟩, fun A nA => ?_⟩
    refine lc_flat (fun i => some (vS ((Dd.plain kw ps).words.getD i []))) (turnsT (K := K) (a := a) (xs := xs)) (fun H' s => seqT_same s hq) nA ?_ ?_
    · rintro i v Hc _ hi lc ⟨rfl, hv⟩
      walk_at "xs"
      refine x_wipe rfl ?_
      walk_at "xs"
      obtain ⟨e, e1, e2⟩ := dpAll_get hx hv
      rw [List.getElem?_map] at e1
      have w1 : (Dd.plain kw ps).words.getD i [] = (((Part.n kw :: ps)[i]?).map Part.t).getD [] := by
        show ((Part.n kw :: ps).map Part.t).getD i [] = _
        rw [List.getD_eq_getElem?_getD, List.getElem?_map]
      cases hpi : (Part.n kw :: ps)[i]? with
      | none => rw [hpi] at e1; cases e1
      | some p =>
        rw [hpi] at e1 w1
        cases e1
        cases p with
        | n w =>
          rw [dp_str e2]
          refine x_strAS ?_
          exact lc.keep nA (Same.refl _) (by rw [w1]; rfl) (by omega)
        | c z =>
          rw [dp_int e2]
          have zk : NumOk z := by
            cases i with
            | zero => cases hpi
            | succ j => exact (hp j (.c z) hpi).2
          refine x_strAI zk ?_
          exact lc.keep nA (Same.refl _) (by rw [w1]; rfl) (by omega)
    intro H1 s1 hA
    have wlen : (Dd.plain kw ps).words.length = xs.length := by show ((Part.n kw :: ps).map Part.t).length = _; rw [List.length_map, List.length_cons]; omega
    have hA' : H1 A = some (.lst ((Dd.plain kw ps).words.map vS)) := by
      rw [hA, List.filterMap_eq_map']
      congr 2
      apply List.ext_getElem
      · rw [List.length_map, List.length_map, List.length_range, wlen]
      · intro i h1 h2
        have h3 : i < (Dd.plain kw ps).words.length := by rw [List.length_map] at h2; exact h2
        rw [List.getElem_map, List.getElem_map, List.getElem_range, List.getD_eq_getElem?_getD, List.getElem?_eq_getElem h3]; rfl
    refine x_join (m := 12) (SqL.of hA') wle (by simp; omega) ?_
    exact k H1 s1
  | @found name stake b seats hn hs h1 h2 hp =>
    obtain ⟨a, xs, rfl, hq, hx⟩ := dp_tup hd
    cases hx with | cons d0 hx => cases hx with | cons d1 hx => cases hx with | cons d2 hx => cases hx with | cons d3 hx => cases hx with | cons d4 hx =>
    cases hx
    cases dp_str d0
    cases dp_str d1
    cases dp_int d2
    cases dp_bl d3
    obtain ⟨q, ys, rfl, hy, hys⟩ := dp_tup d4
    have yl := dpAll_len hys
    rw [List.length_map] at yl
    walk_at "xs"
    refine x_ixT hq (v := vS kFound) (by rfl) ?_
    walk_at "xs"
    rw [dec_S, decide_eq_true rfl]
    walk_at "xs"
    refine x_ixT hq (v := vS name) (by rfl) ?_
    walk_at "xs"
    refine x_ixT hq (v := .int stake) (by rfl) ?_
    walk_at "xs"
    refine x_strInt hs ?_
    walk_at "xs"
    have wsum : ∀ i, i ≤ seats.length → ((seats.take i).flatMap sw3).length = 3 * i := fun i hi => by rw [flat3_len, List.length_take]; omega
    refine al_lst fun r H1 nr s1 hr => ?_
    walk_at "xs"
    have q1 : SqT K H1 a _ := seqT_same s1 hq
    refine x_cut (fun σ H' => ∃ (u2 u3 u4 : Option V), σ = [some (.ref a), some (.ref r), u2, u3, u4, none] ∧ Same H H' ∧ H' r = some (.lst (([kFound, name, TL.numL stake.toNat, if b = true then kBids else kPlain] : List (List Nat)).map vS))) ?_ ?_
    · walk_at "xs"
      refine x_ixT q1 (v := .bl b) (by rfl) ?_
      walk_at "xs"
      cases b with
      | true =>
        walk_at "xs"
        refine x_setL hr (by decide) (by simp) ?_
        exact ⟨_, _, _, rfl, same_upd s1 nr, upd_same⟩
      | false =>
        walk_at "xs"
        exact ⟨_, _, _, rfl, s1, hr⟩
    rintro σ H2 ⟨u2, u3, u4, rfl, s2, hr2⟩
    have q2 : SqT K H2 a _ := seqT_same s2 hq
    walk_at "xs"
    refine x_ixT q2 (v := .ref q) (by rfl) ?_
    walk_at "xs"
    refine ⟨q, rfl, ⟨ys, seqT_same s2 hy⟩, ?_⟩
    refine for_by (turnsT (K := K) (a := q) (xs := ys)) (fun i σ H' => ∃ (u2 u3 u4 : Option V), σ = [some (.ref a), some (.ref r), u2, u3, u4, none] ∧ Same H H' ∧ H' r = some (.lst (([kFound, name, TL.numL stake.toNat, if b = true then kBids else kPlain] ++ (seats.take i).flatMap sw3 : List (List Nat)).map vS)))
      ⟨_, _, _, rfl, s2, by rw [hr2, List.take_zero]; rfl⟩ (by rintro i σ H' _ ⟨_, _, _, _, e, _⟩; exact seqT_same e hy) ?_ ?_
    · rintro i v σ H3 _ hi ⟨u2, u3, u4, rfl, s3, hr3⟩ ⟨rfl, hv⟩
      obtain ⟨e, e1, e2⟩ := dpAll_get hys hv
      rw [List.getElem?_map] at e1
      have hi' : i < seats.length := by omega
      rw [List.getElem?_eq_getElem hi'] at e1
      cases e1
      have so := hp _ (List.getElem_mem hi')
      have tk : (seats.take (i + 1)).flatMap sw3 = (seats.take i).flatMap sw3 ++ sw3 seats[i] := by rw [← List.take_append_getElem hi', List.flatMap_append]; simp
      generalize seats[i] = z at e2 so tk
      obtain ⟨t, zs, rfl, ht, hz⟩ := dp_tup e2
      cases hz with | cons z0 hz => cases hz with | cons z1 hz => cases hz with | cons z2 hz =>
      cases hz
      cases dp_str z0
      cases dp_int z1
      cases dp_int z2
      refine x_gtup (seqT_same s3 ht) rfl ?_
      walk_at "xs"
      refine ⟨tyL (SqL.of hr3), ?_⟩
      walk_at "xs"
      refine x_strInt so.p ?_
      walk_at "xs"
      refine x_strInt so.w ?_
      walk_at "xs"
      refine al_lst fun m H4 nm s4 hm => ?_
      walk_at "xs"
      refine x_extend (s4 _ _ hr3) hm (by rw [List.length_map, List.length_append, wsum i (by omega)]; simp; omega) ?_
      refine ⟨_, _, _, rfl, same_upd (s3.trans s4) nr, ?_⟩
      rw [upd_same, tk, ← List.append_assoc, List.map_append (l₂ := sw3 z)]
      rfl
    · rintro σ H3 ⟨u2, u3, u4, rfl, s3, hr3⟩
      rw [yl, List.take_length] at hr3
      walk_at "xs"
      refine x_join (m := 12) (ys := (Dd.found name stake b seats).words) (SqL.of hr3) wle (by simp; omega) ?_
      exact k H3 s3

end Su
namespace Su
open PySem L2
local macro_rules | `(tactic| walk_at "side") => `(tactic| first | assumption | (show (0 : Int) < _; omega) | (show (0 : Int) ≤ _; omega) | (show (0 : Int) < _; split <;> omega) | (show _ ∨ _; omega) | (show _ ∧ _; omega) | exact ⟨by decide, by decide, by decide⟩ | exact ⟨by first | assumption | omega, by first | assumption | omega⟩)
local macro_rules | `(tactic| walk_at "x") => `(tactic| first | with_reducible refine Su.x_gname ?_ | with_reducible refine Su.x_ret ?_ | ((with_reducible show L2.tVar _ _ _ _); refine Su.x_var rfl ?_) | with_reducible refine Su.x_c ?_ | with_reducible refine Su.x_op ?_ | with_reducible refine Su.x_iteT ?_ | with_reducible refine Su.x_nil ?_ | with_reducible refine Su.x_cons ?_ | with_reducible refine Su.x_call ?_ | with_reducible refine Su.x_iList ?_ | with_reducible refine Su.x_yes ?_ | with_reducible refine Su.x_lc ?_)
local macro_rules | `(tactic| walk_at "xs") => `(tactic| repeat walk_at "x")
local macro_rules | `(tactic| walk_at "if") => `(tactic| first | with_reducible refine Su.x_iteD (fun c => ?_) (fun c => ?_) | with_reducible refine Su.x_iteN (fun c => ?_) (fun c => ?_) | with_reducible refine Su.x_ite (fun c => ?_) (fun c => ?_))
local macro_rules | `(tactic| walk_at "x") => `(tactic| first | with_reducible refine Su.x_m1 ?_ | with_reducible refine Su.x_strE ?_)

/-! page_text -/
theorem s_nilP : ("" : Str) = SX.S [] := by decide +kernel
def sp_page_text (K : PySem.W.Frag) : Sp := fun vs H Q _ => ∃ (q : Addr) (xs : List V) (ds : List Dd), vs = [.ref q] ∧ SqL K H q xs ∧ DpAll K H xs (ds.map Dd.d) ∧ (∀ d ∈ ds, DdOk d) ∧ ds.length ≤ 900 ∧ ∀ H', Same H H' → Q (vS (pageL ds)) H'
theorem join0 : ∀ ws : List (List Nat), TL.joinL [] ws = ws.flatten
  | [] => rfl
  | [x] => by simp [TL.joinL]
  | x :: y :: r => by
    have ih := join0 (y :: r)
    show x ++ ([] ++ TL.joinL [] (y :: r)) = _
    rw [ih]; rfl
theorem x_pageJoin {K : PySem.W.Frag} {H : Hp} {Q : VK} {A : Addr} {ds : List Dd} (ok : ∀ d ∈ ds, DdOk d) (hl : ds.length ≤ 900) (hA : H A = some (.lst ((ds.map fun d => d.line ++ [10]).map vS))) (h : Q (vS (pageL ds)) H) : rJoin K (vS []) [.ref A] H Q := by
  refine x_join (a := []) (m := 1101) (SqL.of hA) (fun y hy => ?_) (by rw [List.length_map]; simp; omega) ?_
  · obtain ⟨d, hd, rfl⟩ := List.mem_map.mp hy
    have := (ok d hd).line_le
    rw [List.length_append]
    show _ + 1 ≤ _
    omega
  · rw [join0]
    unfold pageL at h
    rw [List.map_map] at h
    exact h
theorem dpAll_atD {K : PySem.W.Frag} {H : Hp} {xs : List V} {ds : List Dd} {i : Nat} {x : V} (h : DpAll K H xs (ds.map Dd.d)) (hx : xs[i]? = some x) : ∃ d, ds[i]? = some d ∧ Dp K H x d.d := by
  obtain ⟨y, hy, hd⟩ := dpAll_get h hx
  rw [List.getElem?_map] at hy
  cases e : ds[i]? with
  | none => rw [e] at hy; cases hy
  | some d => rw [e] at hy; cases hy; exact ⟨d, rfl, hd⟩
abbrev N_page_text : List Str := ["deeds", "deed"]
def t_page_text (K : PySem.W.Frag) : TS :=
 (tRet (tM1 (rJoin K) (tC (.str "")) (tLc (iList K (tVar 0)) (gName 1) tYes (tOp rCatS (tCall (sp_deed_text K) [] E0 (tCons (tVar 1) tNil)) (tC (.str "\n"))) [1])))

theorem len_page_text {K : PySem.W.Frag} : ∀ vs H Q E, sp_page_text K vs H Q E → vs.length = ["a"].length := by
  rintro vs H Q E ⟨_, _, _, rfl, _⟩; rfl
theorem pure_page_text {K : PySem.W.Frag} {vs : List V} {H : Hp} {Q : VK} {E : XK} (h : sp_page_text K vs H Q E) : t_page_text K { nx := fun _ H' => Q .non H', rt := Q } (start N_page_text vs) H := by
  obtain ⟨q, xs, ds, rfl, hq, dd, ok, dl, k⟩ := h
  have xl : xs.length = ds.length := by rw [dpAll_len dd, List.length_map]
  unfold t_page_text
  rw [s_feed, s_nilP]
  walk_at "xs"
  refine ⟨q, rfl, ⟨_, hq⟩, fun A nA => ?_⟩
  refine lc_flat (fun i => some (vS ((ds.map fun d => d.line ++ [10]).getD i []))) (turnsL (xs := xs)) (fun H' s => s.seq hq) nA ?_ ?_
  · rintro i x Hc _ hi lc ⟨rfl, hx⟩
    obtain ⟨d, hd, hx⟩ := dpAll_atD dd hx
    have dok := ok d (List.mem_of_getElem? hd)
    walk_at "xs"
    refine x_wipe rfl ?_
    walk_at "xs"
    refine ⟨x, d, rfl, dp_same lc.s hx, dok, fun H2 s2 => ?_⟩
    walk_at "xs"
    have := dok.line_le
    refine x_catS (by show _ + 1 ≤ _; omega) ?_
    refine lc.keep nA s2 ?_ (by omega)
    show some (vS _) = some (vS _)
    rw [List.getD_eq_getElem?_getD, List.getElem?_map, hd]
    rfl
  intro H2 s2 hA
  refine x_pageJoin ok dl ?_ (k H2 s2)
  rw [hA, xl]
  congr 2
  rw [List.filterMap_eq_map', List.map_map]
  refine List.ext_getElem (by simp) fun i h1 h2 => ?_
  have hi : i < ds.length := by simpa using h2
  simp [List.getD_eq_getElem?_getD, List.getElem?_eq_getElem hi]

end Su
namespace Su
open PySem L2
local macro_rules | `(tactic| walk_at "side") => `(tactic| first | assumption | (show (0 : Int) < _; omega) | (show (0 : Int) ≤ _; omega) | (show (0 : Int) < _; split <;> omega) | (show _ ∨ _; omega) | (show _ ∧ _; omega) | exact ⟨by decide, by decide, by decide⟩ | exact ⟨by first | assumption | omega, by first | assumption | omega⟩)
local macro_rules | `(tactic| walk_at "xs") => `(tactic| repeat walk_at "x")
local macro_rules | `(tactic| walk_at "if") => `(tactic| first | with_reducible refine Su.x_iteD (fun c => ?_) (fun c => ?_) | with_reducible refine Su.x_iteN (fun c => ?_) (fun c => ?_) | with_reducible refine Su.x_ite (fun c => ?_) (fun c => ?_))

/-! deeds read from words are good data -/
theorem words_good {ws : List (List Nat)} (hl : ws.length ≤ 1000) {d : Dd} (h : readW ws = some d) : GoodD 3 d.d := by
  unfold readW at h
  by_cases c : ws.getD 0 [] = kFound
  · rw [if_pos c] at h
    unfold readF at h
    split at h
    · rename_i c1
      split at h
      · rename_i c2
        cases h
        have c3 : (ws.getD 3 []) = kPlain ∨ ws.getD 3 [] = kBids := c1.2.2
        refine .tup (by simp) fun x hx => ?_
        simp only [List.mem_cons, List.not_mem_nil, or_false] at hx
        rcases hx with rfl | rfl | rfl | rfl | rfl
        · exact .str _ (by decide)
        · exact .str _ (nameB_ok.mp c2.1).low
        · exact .int _ _
        · exact .bool _ _
        · refine .tup (by rw [List.length_map, List.length_map, List.length_range]; omega) fun x hx => ?_
          obtain ⟨s, hs', rfl⟩ := List.mem_map.mp hx
          obtain ⟨i, hi, rfl⟩ := List.mem_map.mp hs'
          have := List.all_eq_true.mp c2.2.2 i hi
          unfold seatB3 at this
          simp only [Bool.and_eq_true] at this
          refine .tup (by simp) fun y hy => ?_
          simp only [List.mem_cons, List.not_mem_nil, or_false] at hy
          rcases hy with rfl | rfl | rfl
          · exact .str _ (nameB_ok.mp this.1.1).low
          · exact .int _ _
          · exact .int _ _
      · cases h
    · cases h
  · rw [if_neg c] at h
    cases hs : lookN shL (ws.getD 0 []) with
    | none => rw [hs] at h; cases h
    | some s =>
      rw [hs] at h
      have h : readP s ws = some d := h
      unfold readP at h
      split at h
      · rename_i c1
        cases h
        have sl := (sh_len hs).2
        refine .tup (by rw [List.length_map, List.length_cons, List.length_map, List.length_range]; omega) fun x hx => ?_
        obtain ⟨p, hp', rfl⟩ := List.mem_map.mp hx
        rcases List.mem_cons.mp hp' with rfl | hm
        · exact .str _ fun c z => by have := sh_low hs _ z; omega
        · obtain ⟨i, hi, rfl⟩ := List.mem_map.mp hm
          have := List.all_eq_true.mp c1.2 i hi
          unfold partB at this
          unfold partV
          split
          · rename_i c3
            rw [if_pos c3] at this
            exact .str _ (nameB_ok.mp this).low
          · exact .int _ _
      · cases h
def dBl (l : List Bool) : PyData := .list (l.map .bool)
theorem dp_bl2 {K : PySem.W.Frag} {H : Hp} {p : Addr} {l : List Bool} (h : H p = some (.lst (l.map V.bl))) : Dp K H (.ref p) (dBl l) := .lst (SqL.of h) (bls_dpAll l)

end Su
namespace Su
open PySem L2
local macro_rules | `(tactic| walk_at "side") => `(tactic| first | assumption | (show (0 : Int) < _; omega) | (show (0 : Int) ≤ _; omega) | (show (0 : Int) < _; split <;> omega) | (show _ ∨ _; omega) | (show _ ∧ _; omega) | exact ⟨by decide, by decide, by decide⟩ | exact ⟨by first | assumption | omega, by first | assumption | omega⟩)
local macro_rules | `(tactic| walk_at "x") => `(tactic| first | with_reducible refine Su.x_seq ?_ | with_reducible refine Su.x_asg ?_ | with_reducible refine Su.x_gname ?_ | with_reducible refine Su.x_ret ?_ | with_reducible refine Su.x_ifS ?_ | ((with_reducible show L2.tVar _ _ _ _); refine Su.x_var rfl ?_) | with_reducible refine Su.x_c ?_ | with_reducible refine Su.x_op ?_ | with_reducible refine Su.x_rI0 ?_ | ((with_reducible refine Su.x_rI ?_ ?_); focus walk_at "side") | ((with_reducible show L2.rIxL _ (L2.V.ref _) (L2.V.int _) _ _); refine Su.x_ixI (by assumption) (by first | decide | omega) (by omega) ?_) | with_reducible refine Su.x_iteF ?_ | with_reducible refine Su.x_iteT ?_ | with_reducible refine Su.x_iteNT ?_ | with_reducible refine Su.x_test ?_ | with_reducible refine Su.x_tB ?_ | with_reducible refine Su.x_isB' ?_ | with_reducible refine Su.x_not ?_ | with_reducible refine Su.x_or ?_ | with_reducible refine Su.x_andV ?_ | with_reducible refine Su.x_nil ?_ | with_reducible refine Su.x_cons ?_ | with_reducible refine Su.x_cb ?_ | with_reducible refine Su.x_call ?_ | with_reducible refine Su.x_lst ?_ | with_reducible refine Su.x_next ?_ | with_reducible refine Su.x_iList ?_ | with_reducible refine Su.x_iRng1 ?_ | with_reducible refine Su.x_yes ?_ | with_reducible refine Su.x_lc ?_ | with_reducible refine Su.x_sl ?_ | with_reducible refine Su.x_nopart ?_ | with_reducible refine Su.x_part ?_ | with_reducible refine Su.x_isI ?_ | with_reducible refine Su.x_callS ?_ | with_reducible refine Su.x_tryAs ?_)
local macro_rules | `(tactic| walk_at "xs") => `(tactic| repeat walk_at "x")
local macro_rules | `(tactic| walk_at "if") => `(tactic| first | with_reducible refine Su.x_iteD (fun c => ?_) (fun c => ?_) | with_reducible refine Su.x_iteN (fun c => ?_) (fun c => ?_) | with_reducible refine Su.x_ite (fun c => ?_) (fun c => ?_))
local macro_rules | `(tactic| walk_at "x") => `(tactic| first | with_reducible refine Su.x_m1 ?_ | with_reducible refine Su.x_strE ?_)

theorem goods39 {ls : List (List Nat)} (h : ∀ l ∈ ls, l.count 32 ≤ 900) : ∀ d ∈ ls.filterMap rdL, GoodD 3 d.d := fun d hd => by
  obtain ⟨l, hl, e⟩ := List.mem_filterMap.mp hd
  exact words_good (by rw [spl_cnt]; have := h l hl; omega) e
theorem good_list39 {ds : List Dd} (h : ∀ d ∈ ds, GoodD 3 d.d) (hl : ds.length ≤ 1000) : GoodD 4 (.list (ds.map Dd.d)) := .lst (by rw [List.length_map]; exact hl) fun x hx => by
  obtain ⟨d, hd, rfl⟩ := List.mem_map.mp hx
  exact h d hd
def sp_law (K : PySem.W.Frag) : Sp := fun vs H Q _ => ∃ (a : Addr) (ns : List Int), vs = [.ref a] ∧ SqL K H a (ns.map V.int) ∧ ns.length ≤ 63 ∧ Xf K ["NoDeed", "BadName"] ∧ TbS K (He.ga K "SHAPES") tb_SHAPES ∧ ∀ H', Q (.bl true) H'
abbrev N_law : List Str := ["_law_script", "_law_some", "_law_deeds", "_law_page", "_law_lent", "_law_due", "_law_marks", "_law_told", "e", "_law_at", "_law_deed_here"]
def t_law (K : PySem.W.Frag) : TS :=
 (tSeq (tAsg (tCall (sp_law_draws K) [] E0 (tCons (tVar 0) (tCons (tC (.int 152)) tNil))) (gName 1))
 (tSeq (tAsg (tLc (iRng1 (tCons (tOp rMod (tOp (rIxL K) (tVar 1) (tC (.int 0))) (tC (.int 10))) tNil)) (gName 9) tYes (tCall (sp_law_deed K) [] E0 (tCons (tSl (rSlL K) (tVar 1) (tPart (tOp rAdd (tC (.int 3)) (tOp rMul (tC (.int 9)) (tVar 9)))) tNoPart) tNil)) [9]) (gName 2))
 (tSeq (tAsg (tM1 (rJoin K) (tC (.str "")) (tLc (iList K (tVar 2)) (gName 10) tYes (tOp rCatS (tCall (sp_law_line K) [] E0 (tCons (tVar 10) tNil)) (tC (.str "\n"))) [10])) (gName 3))
 (tSeq (tAsg (tCB (rListOf K) (tCons (tVar 2) tNil)) (gName 4))
 (tSeq (tIfS (tOr (tNot (tB (tCall (sp_law_same K) [] E0 (tCons (tCall (sp_page_text K) [] E0 (tCons (tVar 4) tNil)) (tCons (tVar 3) tNil))))) (tOr (tTest (tOp (rNeD K) (tVar 4) (tVar 2))) (tNot (tB (tCall (sp_law_same K) [] E0 (tCons (tCall (sp_page_deeds K) [] E0 (tCons (tVar 3) tNil)) (tCons (tVar 2) tNil)))))))
 (tRet (tC (.bl false)))
 tNext)
 (tSeq (tAsg (tCall (sp_law_spoilt K) [] E0 (tCons (tVar 3) (tCons (tOp rMod (tOp (rIxL K) (tVar 1) (tC (.int 1))) (tC (.int 7))) (tCons (tOp (rIxL K) (tVar 1) (tC (.int 2))) tNil)))) (gName 3))
 (tSeq (tAsg (tCall (sp_law_all_read K) [] E0 (tCons (tVar 3) tNil)) (gName 5))
 (tSeq (tAsg (tLst tNil) (gName 6))
 (tSeq (tAsg (tC .non) (gName 7))
 (C8.tCut (tTryAs K (.ref (He.ga K "SusuError")) 8 (fun a cls d => (tAsg (tLst (tCons (tCB (rIsX K a cls d) (tCons (tVar 8) (tCons (tC (.ref (He.ga K "NoDeed"))) tNil))) (tCons (tCB (rIsX K a cls d) (tCons (tVar 8) (tCons (tC (.ty "ValueError")) tNil))) (tCons (tCB (rIsX K a cls d) (tCons (tVar 8) (tCons (tC (.ref (He.ga K "BadName"))) tNil))) tNil)))) (gName 6))) (fun _ _ _ _ => False) (fun W => (tAsg (tCallS (sp_page_deeds K) (WE W) (tCons (tVar 3) tNil)) (gName 7))))
 (tSeq (tIfS (tTest (tOp rIsN (tVar 5) (tC .non)))
 (tRet (tOp (rEqD K) (tVar 6) (tLst (tCons (tC (.bl true)) (tCons (tC (.bl true)) (tCons (tC (.bl false)) tNil))))))
 tNext)
 (tRet (tAndV (tOp (rEqD K) (tVar 6) (tLst tNil)) (tCall (sp_law_same K) [] E0 (tCons (tVar 7) (tCons (tVar 5) tNil))))))))))))))))

theorem len_law {K : PySem.W.Frag} : ∀ vs H Q E, sp_law K vs H Q E → vs.length = ["_law_script"].length := by
  rintro vs H Q E ⟨s, n, rfl, _⟩; rfl
theorem pure_law {K : PySem.W.Frag} {vs : List V} {H : Hp} {Q : VK} {E : XK} (h : sp_law K vs H Q E) : t_law K { nx := fun _ H' => Q .non H', rt := Q } (start N_law vs) H := by
  obtain ⟨sa, sc, rfl, hS, hl, xf, tb, k⟩ := h
  unfold t_law
  rw [s_feed, s_nil]
  walk_at "xs"
  refine ⟨sa, sc, 152, rfl, hS, hl, by decide, fun p rows H1 np q1 hp hm hm2 hb => ?_⟩
  have hpS : SqL K H1 p (rows.map V.int) := SqL.of hp
  walk_at "xs"
  rw [show Int.toNat 0 = 0 from rfl]
  have m10 := b_modI (rows.getD 0 0) (m := 10) (by decide)
  obtain ⟨n, hn⟩ : ∃ n : Nat, rows.getD 0 0 % 10 = n := ⟨(rows.getD 0 0 % 10).toNat, by omega⟩
  rw [hn] at m10 ⊢
  refine ⟨n, rfl, by omega, by omega, fun A nA => ?_⟩
  refine lc_by (turnsR (lo := 0) (n := n)) (fun i H' => ∃ ds : List Dd, LcG K H1 A (ds.map Dd.d) H' ∧ ds.length = i ∧ ∀ d ∈ ds, DdOk d) ⟨[], ⟨same_new (Same.refl H1) nA, [], upd_same, .nil⟩, rfl, fun _ h => nomatch h⟩ (fun _ _ _ _ => trivial) ?_ ?_
  · rintro i x Hc _ hi ⟨ds, lc, dl, ok⟩ ⟨rfl, rfl⟩
    walk_at "xs"
    refine x_wipe rfl ?_
    walk_at "xs"
    refine al_from (i := 3 + 9 * i) (SqL.of (lc.s _ _ hp)) (by omega) fun p7 H2 np7 q2 hp7 => ?_
    walk_at "xs"
    refine ⟨p7, rows.drop (3 + 9 * i), rfl, SqL.of hp7, by rw [List.length_drop]; omega, by rw [List.length_drop]; omega, fun x hx => hb x (List.mem_of_mem_drop hx), fun d x H3 s3 hx dok => ?_⟩
    obtain ⟨acc, e1, e2, e3⟩ := lc.keep nA (q2.trans s3) hx (noLst_dd d) (by rw [List.length_map]; omega)
    refine ⟨acc, e1, e2, ds ++ [d], by rw [List.map_append]; exact e3, by rw [List.length_append, dl]; rfl, fun d' h' => ?_⟩
    rcases List.mem_append.mp h' with h' | h'
    · exact ok d' h'
    · rw [List.mem_singleton.mp h']; exact dok
  rintro H2 ⟨ds, lc, dl, ok⟩
  obtain ⟨acc, hA, dd⟩ := lc.ex
  have hp2 := lc.s _ _ hp
  have al : acc.length = ds.length := by rw [dpAll_len dd, List.length_map]
  have ps := page_size ok
  clear lc
  refine x_gname ?_
  walk_at "xs"
  refine ⟨A, rfl, ⟨_, SqL.of hA⟩, fun B nB => ?_⟩
  refine lc_flat (fun i => some (vS ((ds.map fun d => d.line ++ [10]).getD i []))) (turnsL (xs := acc)) (fun H' s => s.seq (SqL.of hA)) nB ?_ ?_
  · rintro i x Hc _ hi lc ⟨rfl, hx⟩
    obtain ⟨d, hd, hx⟩ := dpAll_atD dd hx
    have dok := ok d (List.mem_of_getElem? hd)
    walk_at "xs"
    refine x_wipe rfl ?_
    walk_at "xs"
    refine ⟨x, d, rfl, dp_same lc.s (dp_same noL_same hx), dok, fun H3 s3 => ?_⟩
    walk_at "xs"
    have := dok.line_le
    refine x_catS (by show _ + 1 ≤ _; omega) ?_
    refine lc.keep nB s3 ?_ (by omega)
    show some (vS _) = some (vS _)
    rw [List.getD_eq_getElem?_getD, List.getElem?_map, hd]
    rfl
  intro H3 s3 hB
  replace hB : H3 B = some (.lst ((ds.map fun d => d.line ++ [10]).map vS)) := by
    rw [hB, al, List.filterMap_eq_map', List.map_map]
    congr 2
    refine List.ext_getElem (by simp) fun i h1 h2 => ?_
    have hi : i < ds.length := by simpa using h2
    simp [List.getD_eq_getElem?_getD, List.getElem?_eq_getElem hi]
  refine x_pageJoin ok (by omega) hB ?_
  have hA3 := s3 _ _ hA
  have hp3 := s3 _ _ hp2
  have dd3 := dpAll_same (noL_mono s3) dd
  clear hB hA hp2 dd nB
  walk_at "xs"
  refine al_list (SqL.of hA3) fun L H4 nL s4 hL => ?_
  walk_at "xs"
  refine ⟨L, acc, ds, rfl, SqL.of hL, dpAll_same (noL_same.trans s4) dd3, ok, by omega, fun H5 s5 => ?_⟩
  walk_at "xs"
  have lowp : ∀ c ∈ pageL ds, c < 256 := fun c hc => by
    unfold pageL at hc
    obtain ⟨l, hl', hc⟩ := List.mem_flatten.mp hc
    obtain ⟨l', hl2, rfl⟩ := List.mem_map.mp hl'
    obtain ⟨d, hd, rfl⟩ := List.mem_map.mp hl2
    rcases List.mem_append.mp hc with hc | hc
    · exact (ok d hd).line_low c hc
    · rw [List.mem_singleton.mp hc]; decide
  have gds : GoodD 4 (.list (ds.map Dd.d)) := good_list39 (fun d hd => (ok d hd).good) (by omega)
  refine x_sameSelf (GoodD.str 0 lowp) (by decide) (.str _) (.str _) fun H6 s6 => ?_
  have s46 := s4.trans (s5.trans s6)
  have hA6 := s46 _ _ hA3
  have hp6 := s46 _ _ hp3
  have hL6 := (s5.trans s6) _ _ hL
  have dd6 := dpAll_same (noL_mono s46) dd3
  clear s46 s6 s5 s4 hA3 hp3 hL dd3 nL s3
  walk_at "xs"
  refine x_neSelf gds (by decide) (.lst (SqL.of hL6) (dpAll_same noL_same dd6)) (.lst (SqL.of hA6) (dpAll_same noL_same dd6)) ?_
  walk_at "xs"
  have wsl : (ds.map Dd.line ++ [[]]).length - 1 = ds.length := by rw [List.length_append, List.length_map]; rfl
  have wlast : (ds.map Dd.line ++ [[]]).getD ((ds.map Dd.line ++ [[]]).length - 1) [] = [] := by
    rw [wsl, List.getD_eq_getElem?_getD, List.getElem?_append_right (by rw [List.length_map]; omega), List.length_map, Nat.sub_self]; rfl
  have wtake : (ds.map Dd.line ++ [[]]).take ((ds.map Dd.line ++ [[]]).length - 1) = ds.map Dd.line := by
    rw [wsl, List.take_append_of_le_length (by rw [List.length_map]; omega), List.take_of_length_le (by rw [List.length_map]; omega)]
  have wread : ∀ l ∈ ds.map Dd.line, (rdL l).isSome = true := fun l hl' => by
    obtain ⟨d, hd, rfl⟩ := List.mem_map.mp hl'
    rw [rdL_line (ok d hd)]; rfl
  have wback : (ds.map Dd.line).filterMap rdL = ds := by
    rw [List.filterMap_map]
    have : ∀ l : List Dd, (∀ d ∈ l, DdOk d) → l.filterMap (rdL ∘ Dd.line) = l := fun l => by
      induction l with
      | nil => intro _; rfl
      | cons d l ih =>
        intro h
        rw [List.filterMap_cons, show (rdL ∘ Dd.line) d = some d from rdL_line (h d List.mem_cons_self)]
        show d :: _ = _
        rw [ih fun x hx => h x (List.mem_cons_of_mem _ hx)]
    exact this ds ok
  refine ⟨pageL ds, _, rfl, by omega, tb, page_split ok, fun _ p2 xs H7 np2 s7 hp2 d2 => ?_, fun z => absurd ⟨wlast, by rw [wtake]; exact wread⟩ z⟩
  rw [wtake, wback] at d2
  walk_at "xs"
  refine x_sameSelf gds (by decide) (.lst (SqL.of hp2) (dpAll_same noL_same d2)) (.lst (SqL.of (s7 _ _ hA6)) (dpAll_same noL_same (dpAll_same (noL_mono s7) dd6))) fun H8 s8 => ?_
  have hp8 := (s7.trans s8) _ _ hp6
  clear hp6 hA6 hL6 dd6 d2 hp2 s7 s8 wread wback wtake wlast wsl
  walk_at "xs"
  refine ⟨pageL ds, _, _, rfl, by omega, by omega, fun u H9 s9 sp => ?_⟩
  have ul := sp.l
  have ub := sp.b
  have uf := sp.f
  have u1 : u.length ≤ 20000 := by omega
  have u2 : u.count 32 ≤ 800 := by omega
  have u3 : u.count 10 ≤ 50 := by omega
  clear ul ub uf sp hp8 ps lowp gds
  refine x_gname ?_
  walk_at "xs"
  have gw : ∀ l ∈ (TL.spl [10] 0 [] u).take ((TL.spl [10] 0 [] u).length - 1), l.count 32 ≤ 900 := fun l h' => by
    have a1 := mem_sum (f := List.count 32) (List.mem_of_mem_take h')
    have a2 := spl_sum (addF_cnt 32) 10 u []
    rw [(addF_cnt 32).nil] at a2
    omega
  have gl : (TL.spl [10] 0 [] u).length ≤ 51 := by rw [spl_cnt]; omega
  obtain ⟨ws, ew⟩ : ∃ ws, TL.spl [10] 0 [] u = ws := ⟨_, rfl⟩
  rw [ew] at gw gl
  have gd2 : GoodD 4 (.list (((ws.take (ws.length - 1)).filterMap rdL).map Dd.d)) := good_list39 (goods39 gw) (by have := List.length_filterMap_le rdL (ws.take (ws.length - 1)); rw [List.length_take] at this; omega)
  by_cases c : ws.getD (ws.length - 1) [] = [] ∧ ∀ l ∈ ws.take (ws.length - 1), (rdL l).isSome = true
  · refine ⟨u, ws, rfl, by omega, ew, fun _ p3 xs3 H10 np3 s10 hp3 d3 => ?_, fun z => absurd c z⟩
    walk_at "xs"
    refine al_lst fun G H11 nG s11 hG => ?_
    walk_at "xs"
    refine x_cut (fun σ H' => ∃ (p4 : Addr) (xs4 : List V), σ = [some (.ref sa), some (.ref p), some (.ref A), some (vS u), some (.ref L), some (.ref p3), some (.ref G), some (.ref p4), none, none, none] ∧ Same H11 H' ∧ H' p4 = some (.lst xs4) ∧ DpAll K (noL H') xs4 (((ws.take (ws.length - 1)).filterMap rdL).map Dd.d)) ?_ ?_
    · walk_at "xs"
      refine ⟨u, ws, rfl, by omega, tb, ew, fun _ p4 xs4 H12 np4 s12 hp4 d4 => ?_, fun z => absurd c z⟩
      walk_at "xs"
      exact ⟨p4, xs4, rfl, s12, hp4, d4⟩
    rintro _ H12 ⟨p4, xs4, rfl, s12, hp4, d4⟩
    walk_at "xs"
    refine ⟨rfl, ?_⟩
    rw [decide_eq_false (show ¬ V.ref p3 = V.non by simp)]
    walk_at "xs"
    refine al_lst fun G2 H13 nG2 s13 hG2 => ?_
    walk_at "xs"
    refine ⟨dBl [], dBl [], dp_bl2 ((s12.trans s13) _ _ hG), dp_bl2 hG2, by rfl, by rfl, ?_⟩
    rw [show PyData.eqv (dBl []) (dBl []) = true by rfl]
    walk_at "xs"
    have s3' := s11.trans (s12.trans s13)
    exact x_sameSelf gd2 (by decide) (.lst (SqL.of (s13 _ _ hp4)) (dpAll_same noL_same (dpAll_same (noL_mono s13) d4))) (.lst (SqL.of (s3' _ _ hp3)) (dpAll_same noL_same (dpAll_same (noL_mono s3') d3))) fun H14 _ => k H14
  · refine ⟨u, ws, rfl, by omega, ew, fun z => absurd z c, fun _ H10 s10 => ?_⟩
    walk_at "xs"
    refine al_lst fun G H11 nG s11 hG => ?_
    walk_at "xs"
    refine x_cut (fun σ H' => ∃ (G : Addr), σ = [some (.ref sa), some (.ref p), some (.ref A), some (vS u), some (.ref L), some .non, some (.ref G), some .non, none, none, none] ∧ H' G = some (.lst ([true, true, false].map V.bl))) ?_ ?_
    · walk_at "xs"
      refine ⟨u, ws, rfl, by omega, tb, ew, fun z => absurd z c, fun _ H12 s12 => ?_⟩
      refine x_caught (xf.m _ (by simp)) fun e he => ?_
      walk_at "xs"
      refine x_isX (xf.c _ (by simp)) (fun u h => h) (xf.k _ (by simp) _ (by simp)) ?_
      walk_at "xs"
      refine x_isX (xf.c _ (by simp)) (fun u h => h) (xf.v _ (by simp)) ?_
      walk_at "xs"
      refine x_isX (xf.c _ (by simp)) (fun u h => h) (xf.k _ (by simp) _ (by simp)) ?_
      walk_at "xs"
      refine al_lst fun G2 H13 nG2 s13 hG2 => ?_
      walk_at "xs"
      exact ⟨G2, rfl, hG2⟩
    rintro _ H12 ⟨G, rfl, hG⟩
    walk_at "xs"
    refine ⟨rfl, ?_⟩
    rw [decide_eq_true rfl]
    walk_at "xs"
    refine al_lst fun G2 H13 nG2 s13 hG2 => ?_
    refine ⟨dBl [true, true, false], dBl [true, true, false], dp_bl2 (s13 _ _ hG), dp_bl2 hG2, by rfl, by rfl, ?_⟩
    rw [show PyData.eqv (dBl [true, true, false]) (dBl [true, true, false]) = true by rfl]
    exact k _

end Su
namespace Su
open PySem L2
structure Fx (w : World) (K : PySem.W.Frag) (mg : Str → Option Value) : Prop where
  n_ValueError : mg "ValueError" = none
  n_abs : mg "abs" = none
  n_all : mg "all" = none
  n_bool : mg "bool" = none
  n_int : mg "int" = none
  n_isinstance : mg "isinstance" = none
  n_len : mg "len" = none
  n_list : mg "list" = none
  n_range : mg "range" = none
  n_str : mg "str" = none
  n_tuple : mg "tuple" = none
  n_zip : mg "zip" = none
  c_FIGURES : ∃ u, mg "FIGURES" = some u ∧ RelV (.str "0123456789") u
  c_LETTERS : ∃ u, mg "LETTERS" = some u ∧ RelV (.str "abcdefghijklmnopqrstuvwxyz") u
  c_MOST_SIGNS : ∃ u, mg "MOST_SIGNS" = some u ∧ RelV (.int 12) u
  k_SHAPES : ∃ u, mg "SHAPES" = some u ∧ RelV (.ref (He.ga K "SHAPES")) u
  d_SHAPES : ∃ es n, KDict K w (He.ga K "SHAPES") es n
  g_BadName : mg "BadName" = some (.ref (He.ga K "BadName"))
  k_BadName : ∃ u, mg "BadName" = some u ∧ RelV (.ref (He.ga K "BadName")) u
  g_NoDeed : mg "NoDeed" = some (.ref (He.ga K "NoDeed"))
  k_NoDeed : ∃ u, mg "NoDeed" = some u ∧ RelV (.ref (He.ga K "NoDeed")) u
  g_SusuError : mg "SusuError" = some (.ref (He.ga K "SusuError"))
  k_SusuError : ∃ u, mg "SusuError" = some u ∧ RelV (.ref (He.ga K "SusuError")) u
  x_NoDeed : Xc K mg "NoDeed"
  g_law_is_name : mg "_law_is_name" = some (.ref (He.fAd K ("_law_is_name", none)))
  F_law_is_name : ∃ fd, FunD K "_law_is_name" "_law_is_name" (defArgs s_law_is_name) (defBody s_law_is_name) (defScope s_law_is_name) [] [] (He.fAd K ("_law_is_name", none)) fd
  g_law_is_number : mg "_law_is_number" = some (.ref (He.fAd K ("_law_is_number", none)))
  F_law_is_number : ∃ fd, FunD K "_law_is_number" "_law_is_number" (defArgs s_law_is_number) (defBody s_law_is_number) (defScope s_law_is_number) [] [] (He.fAd K ("_law_is_number", none)) fd
  g_law_shape : mg "_law_shape" = some (.ref (He.fAd K ("_law_shape", none)))
  F_law_shape : ∃ fd, FunD K "_law_shape" "_law_shape" (defArgs s_law_shape) (defBody s_law_shape) (defScope s_law_shape) [] [] (He.fAd K ("_law_shape", none)) fd
  g_law_read : mg "_law_read" = some (.ref (He.fAd K ("_law_read", none)))
  F_law_read : ∃ fd, FunD K "_law_read" "_law_read" (defArgs s_law_read) (defBody s_law_read) (defScope s_law_read) [] [] (He.fAd K ("_law_read", none)) fd
  g_law_all_read : mg "_law_all_read" = some (.ref (He.fAd K ("_law_all_read", none)))
  F_law_all_read : ∃ fd, FunD K "_law_all_read" "_law_all_read" (defArgs s_law_all_read) (defBody s_law_all_read) (defScope s_law_all_read) [] [] (He.fAd K ("_law_all_read", none)) fd
  g_law_names : mg "_law_names" = some (.ref (He.fAd K ("_law_names", none)))
  F_law_names : ∃ fd, FunD K "_law_names" "_law_names" (defArgs s_law_names) (defBody s_law_names) (defScope s_law_names) [] [] (He.fAd K ("_law_names", none)) fd
  g_law_number : mg "_law_number" = some (.ref (He.fAd K ("_law_number", none)))
  F_law_number : ∃ fd, FunD K "_law_number" "_law_number" (defArgs s_law_number) (defBody s_law_number) (defScope s_law_number) [] [] (He.fAd K ("_law_number", none)) fd
  g_law_deed : mg "_law_deed" = some (.ref (He.fAd K ("_law_deed", none)))
  F_law_deed : ∃ fd, FunD K "_law_deed" "_law_deed" (defArgs s_law_deed) (defBody s_law_deed) (defScope s_law_deed) [] [] (He.fAd K ("_law_deed", none)) fd
  g_law_draws : mg "_law_draws" = some (.ref (He.fAd K ("_law_draws", none)))
  F_law_draws : ∃ fd, FunD K "_law_draws" "_law_draws" (defArgs s_law_draws) (defBody s_law_draws) (defScope s_law_draws) [] [] (He.fAd K ("_law_draws", none)) fd
  g_law_line : mg "_law_line" = some (.ref (He.fAd K ("_law_line", none)))
  F_law_line : ∃ fd, FunD K "_law_line" "_law_line" (defArgs s_law_line) (defBody s_law_line) (defScope s_law_line) [] [] (He.fAd K ("_law_line", none)) fd
  g_law_same : mg "_law_same" = some (.ref (He.fAd K ("_law_same", none)))
  F_law_same : ∃ fd, FunD K "_law_same" "_law_same" (defArgs s_law_same) (defBody s_law_same) (defScope s_law_same) [] [] (He.fAd K ("_law_same", none)) fd
  g_law_spoilt : mg "_law_spoilt" = some (.ref (He.fAd K ("_law_spoilt", none)))
  F_law_spoilt : ∃ fd, FunD K "_law_spoilt" "_law_spoilt" (defArgs s_law_spoilt) (defBody s_law_spoilt) (defScope s_law_spoilt) [] [] (He.fAd K ("_law_spoilt", none)) fd
  g_is_name : mg "is_name" = some (.ref (He.fAd K ("is_name", none)))
  F_is_name : ∃ fd, FunD K "is_name" "is_name" (defArgs s_is_name) (defBody s_is_name) (defScope s_is_name) [] [] (He.fAd K ("is_name", none)) fd
  g_name_of : mg "name_of" = some (.ref (He.fAd K ("name_of", none)))
  F_name_of : ∃ fd, FunD K "name_of" "name_of" (defArgs s_name_of) (defBody s_name_of) (defScope s_name_of) [] [] (He.fAd K ("name_of", none)) fd
  g_is_number : mg "is_number" = some (.ref (He.fAd K ("is_number", none)))
  F_is_number : ∃ fd, FunD K "is_number" "is_number" (defArgs s_is_number) (defBody s_is_number) (defScope s_is_number) [] [] (He.fAd K ("is_number", none)) fd
  g_number_in : mg "number_in" = some (.ref (He.fAd K ("number_in", none)))
  F_number_in : ∃ fd, FunD K "number_in" "number_in" (defArgs s_number_in) (defBody s_number_in) (defScope s_number_in) [] [] (He.fAd K ("number_in", none)) fd
  g_found_of : mg "found_of" = some (.ref (He.fAd K ("found_of", none)))
  F_found_of : ∃ fd, FunD K "found_of" "found_of" (defArgs s_found_of) (defBody s_found_of) (defScope s_found_of) [] [] (He.fAd K ("found_of", none)) fd
  g_deed_of : mg "deed_of" = some (.ref (He.fAd K ("deed_of", none)))
  F_deed_of : ∃ fd, FunD K "deed_of" "deed_of" (defArgs s_deed_of) (defBody s_deed_of) (defScope s_deed_of) [] [] (He.fAd K ("deed_of", none)) fd
  g_page_deeds : mg "page_deeds" = some (.ref (He.fAd K ("page_deeds", none)))
  F_page_deeds : ∃ fd, FunD K "page_deeds" "page_deeds" (defArgs s_page_deeds) (defBody s_page_deeds) (defScope s_page_deeds) [] [] (He.fAd K ("page_deeds", none)) fd
  g_deed_text : mg "deed_text" = some (.ref (He.fAd K ("deed_text", none)))
  F_deed_text : ∃ fd, FunD K "deed_text" "deed_text" (defArgs s_deed_text) (defBody s_deed_text) (defScope s_deed_text) [] [] (He.fAd K ("deed_text", none)) fd
  g_page_text : mg "page_text" = some (.ref (He.fAd K ("page_text", none)))
  F_page_text : ∃ fd, FunD K "page_text" "page_text" (defArgs s_page_text) (defBody s_page_text) (defScope s_page_text) [] [] (He.fAd K ("page_text", none)) fd
  g_law : mg "law" = some (.ref (He.fAd K ("law", none)))
  F_law : ∃ fd, FunD K "law" "law" (defArgs s_law) (defBody s_law) (defScope s_law) [] [] (He.fAd K ("law", none)) fd
section
variable {P : Program} {w : World} {K : PySem.W.Frag} {mg : Str → Option Value} {base : Heap}
theorem sc_law_is_name : FnScope N_law_is_name ["_law_word"] (defScope s_law_is_name) := ⟨rfl, rfl, rfl, by decide +kernel, rfl, by decide +kernel, by decide +kernel⟩
theorem ok_law_is_name (T : Fx w K mg) : Cl P w K mg base CX0 1 "_law_is_name" (sp_law_is_name K) := by
  obtain ⟨fd, F⟩ := T.F_law_is_name
  have sc := sc_law_is_name
  refine ⟨_, fd, ["_law_word"], T.g_law_is_name, F.kp, F.bindsN fun _ _ _ _ _ _ us hl => match us, hl with | [_], _ => rfl, ?_⟩
  refine F.ok sc (len_law_is_name) (fun cdv A outer s H vs Q E hr h => ⟨t_law_is_name K, PSs.nox ?_, pure_law_is_name h⟩)
  exact (pss_one (ps_ret (pe_and (pe_chain op_le op_le pe_int (pe_callB call_len_str (by rfl) T.n_len b_len (pa_cons (pv 0) pa_nil)) pe_int) (pe_one (pe_callB (cr_all rfl) (by rfl) T.n_all b_all (pa_cons (pe_lc (own := [("_law_sign", 1)]) (g := (gName 1)) (tt := tYes) (by rfl) sc.nd (pi_str (pv 0)) (blkOk_by (own := [("_law_sign", 1)]) (N := N_law_is_name) (sc := defScope s_law_is_name) (by decide +kernel)) (fun _ _ _ _ _ => (pg_name (i := 1) sc.nd rfl (Or.inl rfl))) (fun _ _ _ _ _ => pts_nil) (fun _ _ _ _ _ => (pe_cmpR op_inS (pv 1) pe_str rfl))) pa_nil))))))
theorem sc_law_is_number : FnScope N_law_is_number ["_law_word"] (defScope s_law_is_number) := ⟨rfl, rfl, rfl, by decide +kernel, rfl, by decide +kernel, by decide +kernel⟩
theorem ok_law_is_number (T : Fx w K mg) : Cl P w K mg base CX0 1 "_law_is_number" (sp_law_is_number K) := by
  obtain ⟨fd, F⟩ := T.F_law_is_number
  have sc := sc_law_is_number
  refine ⟨_, fd, ["_law_word"], T.g_law_is_number, F.kp, F.bindsN fun _ _ _ _ _ _ us hl => match us, hl with | [_], _ => rfl, ?_⟩
  refine F.ok sc (len_law_is_number) (fun cdv A outer s H vs Q E hr h => ⟨t_law_is_number K, PSs.nox ?_, pure_law_is_number h⟩)
  exact (pss_cons (ps_if (PW.pt (pw_or (pt_not (pt_chain op_le op_le pe_int (pe_callB call_len_str (by rfl) T.n_len b_len (pa_cons (pv 0) pa_nil)) pe_int)) (pw_or1 (pt_not (pt_val (pe_callB (cr_all rfl) (by rfl) T.n_all b_all (pa_cons (pe_lc (own := [("_law_sign", 1)]) (g := (gName 1)) (tt := tYes) (by rfl) sc.nd (pi_str (pv 0)) (blkOk_by (own := [("_law_sign", 1)]) (N := N_law_is_number) (sc := defScope s_law_is_number) (by decide +kernel)) (fun _ _ _ _ _ => (pg_name (i := 1) sc.nd rfl (Or.inl rfl))) (fun _ _ _ _ _ => pts_nil) (fun _ _ _ _ _ => (pe_cmpR op_inS (pv 1) pe_str rfl))) pa_nil)))))))
 (pss_one (ps_ret pe_bl))
 pss_nil)
 (pss_one (ps_ret (pe_or (pe_cmpR op_eq (pv 0) pe_str (nomark _)) (pe_one (pe_cmpR op_ne (pe_ix ix_str (pv 0) pe_int (fun _ _ => rfl)) pe_str (nomark _)))))))
theorem sc_law_shape : FnScope N_law_shape ["_law_words"] (defScope s_law_shape) := ⟨rfl, rfl, rfl, by decide +kernel, rfl, by decide +kernel, by decide +kernel⟩
theorem ok_law_shape (T : Fx w K mg) : Cl P w K mg base CX0 1 "_law_shape" (sp_law_shape K) := by
  obtain ⟨fd, F⟩ := T.F_law_shape
  have sc := sc_law_shape
  refine ⟨_, fd, ["_law_words"], T.g_law_shape, F.kp, F.bindsN fun _ _ _ _ _ _ us hl => match us, hl with | [_], _ => rfl, ?_⟩
  refine F.ok sc (len_law_shape) (fun cdv A outer s H vs Q E hr h => ⟨t_law_shape K, PSs.nox ?_, pure_law_shape h⟩)
  have hu := hu_of hr
  exact (pss_cons (ps_set (i := 1) sc.nd rfl (Or.inl rfl) (pe_disp (pps_cons pe_str pe_str (pps_cons pe_str pe_str (pps_cons pe_str pe_str (pps_cons pe_str pe_str (pps_cons pe_str pe_str (pps_cons pe_str pe_str (pps_cons pe_str pe_str pps_nil))))))) rfl rfl (by intro h; cases h) (by decide)))
 (pss_cons (ps_dput hu (pv 1) pe_str pe_str rfl)
 (pss_cons (ps_dput hu (pv 1) pe_str pe_str rfl)
 (pss_cons (ps_if (PW.pt (pw_and (pt_cmpR op_eq (pe_ix ix_list (pv 0) pe_int (fun _ _ => rfl)) pe_str (nomark _)) (pw_and (pt_cmpR op_gt (pe_callB call_len_seq (by rfl) T.n_len b_len (pa_cons (pv 0) pa_nil)) pe_int (nomark _)) (pw_and (pt_cmpR op_eq (pe_op op_mod (pe_callB call_len_seq (by rfl) T.n_len b_len (pa_cons (pv 0) pa_nil)) pe_int) pe_int (nomark _)) (pw_and1 (pt_cmpR op_in_seq (pe_ix ix_list (pv 0) pe_int (fun _ _ => rfl)) (pe_tup (pa_cons pe_str (pa_cons pe_str pa_nil))) rfl))))))
 (pss_one (ps_ret (pe_op op_add_str (pe_op op_add_str pe_str pe_str) (pe_op op_mulS pe_str (pe_op op_fdiv (pe_op op_sub (pe_callB call_len_seq (by rfl) T.n_len b_len (pa_cons (pv 0) pa_nil)) pe_int) pe_int)))))
 pss_nil)
 (pss_one (ps_ret (pe_dget2 hu (pv 1) (pe_ix ix_list (pv 0) pe_int (fun _ _ => rfl)) pe_str ⟨rfl, rfl, rfl, rfl⟩)))))))
theorem sc_law_read : FnScope N_law_read ["_law_line_here"] (defScope s_law_read) := ⟨rfl, rfl, rfl, by decide +kernel, rfl, by decide +kernel, by decide +kernel⟩
theorem ok_law_read (T : Fx w K mg) : Cl P w K mg base CX0 2 "_law_read" (sp_law_read K) := by
  obtain ⟨fd, F⟩ := T.F_law_read
  have sc := sc_law_read
  refine ⟨_, fd, ["_law_line_here"], T.g_law_read, F.kp, F.bindsN fun _ _ _ _ _ _ us hl => match us, hl with | [_], _ => rfl, ?_⟩
  refine F.ok sc (len_law_read) (fun cdv A outer s H vs Q E hr h => ⟨t_law_read K, PSs.nox ?_, pure_law_read h⟩)
  exact (pss_cons (ps_set (i := 1) sc.nd rfl (Or.inl rfl) (pe_split (pv 0) pe_str))
 (pss_cons (ps_set (i := 2) sc.nd rfl (Or.inl rfl) (pe_cl (ok_law_shape T) hr (by decide) (by rfl) pass0 (pa_cons (pv 1) pa_nil)))
 (pss_cons (ps_if (PW.pt (pw_or (pt_cmpR op_eq (pv 2) pe_str (nomark _)) (pw_or1 (pt_cmpR op_ne (pe_callB call_len_seq (by rfl) T.n_len b_len (pa_cons (pv 1) pa_nil)) (pe_op op_add (pe_callB call_len_str (by rfl) T.n_len b_len (pa_cons (pv 2) pa_nil)) pe_int) (nomark _)))))
 (pss_one (ps_ret pe_non))
 pss_nil)
 (pss_cons (ps_set (i := 3) sc.nd rfl (Or.inr rfl) (pe_lst (pa_cons (pe_ix ix_list (pv 1) pe_int (fun _ _ => rfl)) pa_nil)))
 (pss_cons (ps_for PassesOwn.never rfl (pi_zipS (by rfl) T.n_zip (pa_cons (pv 2) (pa_cons (pe_slice sl_list (pv 1) (po_some pe_int) po_none) pa_nil))) (pg_tup rfl (pgs_cons (pg_name (i := 4) sc.nd rfl (Or.inl rfl)) (pgs_cons (pg_name (i := 5) sc.nd rfl (Or.inl rfl)) pgs_nil)))
 (pss_cons (ps_if (PW.pt (pw_or (PW.pt (pw_and (pt_cmpR op_eq (pv 4) pe_str (nomark _)) (pw_and1 (pt_not (pt_val (pe_cl (ok_law_is_name T) hr (by decide) (by rfl) pass0 (pa_cons (pv 5) pa_nil))))))) (pw_or1 (PW.pt (pw_and (pt_cmpR op_eq (pv 4) pe_str (nomark _)) (pw_and1 (pt_not (pt_val (pe_cl (ok_law_is_number T) hr (by decide) (by rfl) pass0 (pa_cons (pv 5) pa_nil))))))))))
 (pss_one (ps_ret pe_non))
 pss_nil)
 (pss_one (ps_if (pt_cmpR op_eq (pv 4) pe_str (nomark _))
 (pss_one (ps_expr (pe_bm PySem.F.plainAttrs_list PySem.F.slot_list_append PySem.F.type_list_append mt_append (pv 3) (pa_cons (pe_callTy call_int_str (by rfl) T.n_int b_int (pa_cons (pv 5) pa_nil)) pa_nil))))
 (pss_one (ps_expr (pe_bm PySem.F.plainAttrs_list PySem.F.slot_list_append PySem.F.type_list_append mt_append (pv 3) (pa_cons (pv 5) pa_nil))))))))
 (pss_cons (ps_if (pt_cmpR op_ne (pe_ix ix_list (pv 1) pe_int (fun _ _ => rfl)) pe_str (nomark _))
 (pss_one (ps_ret (pe_callTy call_tuple_of (by rfl) T.n_tuple b_tuple (pa_cons (pv 3) pa_nil))))
 pss_nil)
 (pss_cons (ps_setLc (i := 6) (own := [("_law_at", 7)]) (g := (gName 7)) (tt := tYes) (by rfl) sc.nd rfl rfl (sw_true rfl rfl rfl (by decide +kernel)) (pi_range3 (by rfl) T.n_range (pa_cons pe_int (pa_cons (pe_callB call_len_seq (by rfl) T.n_len b_len (pa_cons (pv 3) pa_nil)) (pa_cons pe_int pa_nil)))) (blkOk_by (own := [("_law_at", 7)]) (N := N_law_read) (sc := defScope s_law_read) (by decide +kernel)) (fun _ _ _ _ _ => (pg_name (i := 7) sc.nd rfl (Or.inl rfl))) (fun _ _ _ _ _ => pts_nil) (fun _ _ _ _ _ => (pe_tup (pa_cons (pe_ix ix_list (pv 3) (pv 7) (fun _ _ => rfl)) (pa_cons (pe_ix ix_list (pv 3) (pe_op op_add (pv 7) pe_int) (fun _ _ => rfl)) (pa_cons (pe_ix ix_list (pv 3) (pe_op op_add (pv 7) pe_int) (fun _ _ => rfl)) pa_nil))))))
 (pss_one (ps_ret (pe_tup (pa_cons (pe_ix ix_list (pv 3) pe_int (fun _ _ => rfl)) (pa_cons (pe_ix ix_list (pv 3) pe_int (fun _ _ => rfl)) (pa_cons (pe_ix ix_list (pv 3) pe_int (fun _ _ => rfl)) (pa_cons (pe_cmpR op_eq (pe_ix ix_list (pv 3) pe_int (fun _ _ => rfl)) pe_str (nomark _)) (pa_cons (pe_callTy call_tuple_of (by rfl) T.n_tuple b_tuple (pa_cons (pv 6) pa_nil)) pa_nil)))))))))))))))
theorem sc_law_all_read : FnScope N_law_all_read ["_law_page"] (defScope s_law_all_read) := ⟨rfl, rfl, rfl, by decide +kernel, rfl, by decide +kernel, by decide +kernel⟩
theorem ok_law_all_read (T : Fx w K mg) : Cl P w K mg base CX0 3 "_law_all_read" (sp_law_all_read K) := by
  obtain ⟨fd, F⟩ := T.F_law_all_read
  have sc := sc_law_all_read
  refine ⟨_, fd, ["_law_page"], T.g_law_all_read, F.kp, F.bindsN fun _ _ _ _ _ _ us hl => match us, hl with | [_], _ => rfl, ?_⟩
  refine F.ok sc (len_law_all_read) (fun cdv A outer s H vs Q E hr h => ⟨t_law_all_read K, PSs.nox ?_, pure_law_all_read h⟩)
  exact (pss_cons (ps_set (i := 1) sc.nd rfl (Or.inl rfl) (pe_split (pv 0) pe_str))
 (pss_cons (ps_if (pt_cmpR op_ne (pe_ix ix_list (pv 1) (pe_un un_neg pe_int) (fun _ _ => rfl)) pe_str (nomark _))
 (pss_one (ps_ret pe_non))
 pss_nil)
 (pss_cons (ps_setLc (i := 2) (own := [("_law_line_here", 3)]) (g := (gName 3)) (tt := tYes) (by rfl) sc.nd rfl rfl (sw_true rfl rfl rfl (by decide +kernel)) (pi_list (pe_slice sl_list (pv 1) po_none (po_some (pe_un un_neg pe_int)))) (blkOk_by (own := [("_law_line_here", 3)]) (N := N_law_all_read) (sc := defScope s_law_all_read) (by decide +kernel)) (fun _ _ _ _ _ => (pg_name (i := 3) sc.nd rfl (Or.inl rfl))) (fun _ _ _ _ _ => pts_nil) (fun _ _ _ _ _ => (pe_cl (ok_law_read T) hr (by decide) (by rfl) pass0 (pa_cons (pv 3) pa_nil))))
 (pss_cons (ps_if (pt_not (pt_val (pe_callB (cr_all rfl) (by rfl) T.n_all b_all (pa_cons (pe_lc (own := [("_law_row", 4)]) (g := (gName 4)) (tt := tYes) (by rfl) sc.nd (pi_list (pv 2)) (blkOk_by (own := [("_law_row", 4)]) (N := N_law_all_read) (sc := defScope s_law_all_read) (by decide +kernel)) (fun _ _ _ _ _ => (pg_name (i := 4) sc.nd rfl (Or.inl rfl))) (fun _ _ _ _ _ => pts_nil) (fun _ _ _ _ _ => (pe_cmpR op_notN1 (pv 4) pe_non (nomark _)))) pa_nil))))
 (pss_one (ps_ret pe_non))
 pss_nil)
 (pss_one (ps_ret (pv 2)))))))
theorem sc_law_names : FnScope N_law_names ["_law_some", "_law_many"] (defScope s_law_names) := ⟨rfl, rfl, rfl, by decide +kernel, rfl, by decide +kernel, by decide +kernel⟩
theorem ok_law_names (T : Fx w K mg) : Cl P w K mg base CX0 1 "_law_names" (sp_law_names K) := by
  obtain ⟨fd, F⟩ := T.F_law_names
  have sc := sc_law_names
  refine ⟨_, fd, ["_law_some", "_law_many"], T.g_law_names, F.kp, F.bindsN fun _ _ _ _ _ _ us hl => match us, hl with | [_, _], _ => rfl, ?_⟩
  refine F.ok sc (len_law_names) (fun cdv A outer s H vs Q E hr h => ⟨t_law_names K, PSs.nox ?_, pure_law_names h⟩)
  exact (pss_cons (ps_set (i := 2) sc.nd rfl (Or.inr rfl) pe_str)
 (pss_cons (ps_set (i := 3) sc.nd rfl (Or.inl rfl) (pe_lst pa_nil))
 (pss_cons (ps_for PassesOwn.never rfl (pi_range1 (by rfl) T.n_range (pa_cons (pv 1) pa_nil)) (pg_name (i := 4) sc.nd rfl (Or.inl rfl))
 (pss_cons (ps_set (i := 5) sc.nd rfl (Or.inr rfl) (pe_ix ix_list (pv 0) (pv 4) (fun _ _ => rfl)))
 (pss_cons (ps_set (i := 6) sc.nd rfl (Or.inl rfl) (pe_op op_add pe_int (pe_op op_mod (pv 5) pe_int)))
 (pss_cons (ps_set (i := 7) sc.nd rfl (Or.inr rfl) (pe_op op_mod (pe_op op_fdiv (pv 5) pe_int) pe_int))
 (pss_cons (ps_set (i := 8) sc.nd rfl (Or.inl rfl) (pe_join pe_str (pe_lc (own := [("_law_k", 12)]) (g := (gName 12)) (tt := tYes) (by rfl) sc.nd (pi_range1 (by rfl) T.n_range (pa_cons (pv 6) pa_nil)) (blkOk_by (own := [("_law_k", 12)]) (N := N_law_names) (sc := defScope s_law_names) (by decide +kernel)) (fun _ _ _ _ _ => (pg_name (i := 12) sc.nd rfl (Or.inl rfl))) (fun _ _ _ _ _ => pts_nil) (fun _ _ _ _ _ => (pe_ix ix_str (pv 2) (pe_op op_mod (pe_op op_add (pe_op op_fdiv (pv 5) pe_int) (pe_op op_mul (pv 12) (pv 7))) pe_int) (fun _ _ => rfl))))))
 (pss_cons (ps_set (i := 9) sc.nd rfl (Or.inl rfl) (pe_op op_mod (pe_op op_fdiv (pv 5) pe_int) (pv 6)))
 (pss_cons (ps_for PassesOwn.never rfl (pi_range1 (by rfl) T.n_range (pa_cons pe_int pa_nil)) (pg_name (i := 10) sc.nd rfl (Or.inl rfl))
 (pss_one (ps_if (pt_cmpR op_in_seq (pv 8) (pv 3) rfl)
 (pss_cons (ps_set (i := 11) sc.nd rfl (Or.inl rfl) (pe_ix ix_str (pv 2) (pe_op op_mod (pe_op op_add (pv 5) (pv 10)) pe_int) (fun _ _ => rfl)))
 (pss_one (ps_set (i := 8) sc.nd rfl (Or.inl rfl) (pe_op op_add_str (pe_op op_add_str (pe_slice C8.sl_txt (pv 8) po_none (po_some (pv 9))) (pv 11)) (pe_slice C8.sl_txt (pv 8) (po_some (pe_op op_add (pv 9) pe_int)) po_none)))))
 pss_nil)))
 (pss_one (ps_expr (pe_bm PySem.F.plainAttrs_list PySem.F.slot_list_append PySem.F.type_list_append mt_append (pv 3) (pa_cons (pv 8) pa_nil)))))))))))
 (pss_one (ps_ret (pv 3))))))
theorem sc_law_number : FnScope N_law_number ["_law_raw"] (defScope s_law_number) := ⟨rfl, rfl, rfl, by decide +kernel, rfl, by decide +kernel, by decide +kernel⟩
theorem ok_law_number (T : Fx w K mg) : Cl P w K mg base CX0 1 "_law_number" (sp_law_number K) := by
  obtain ⟨fd, F⟩ := T.F_law_number
  have sc := sc_law_number
  refine ⟨_, fd, ["_law_raw"], T.g_law_number, F.kp, F.bindsN fun _ _ _ _ _ _ us hl => match us, hl with | [_], _ => rfl, ?_⟩
  refine F.ok sc (len_law_number) (fun cdv A outer s H vs Q E hr h => ⟨t_law_number K, PSs.nox ?_, pure_law_number h⟩)
  exact (pss_one (ps_ret (pe_ix ix_list (pe_lst (pa_cons pe_int (pa_cons pe_int (pa_cons (pe_op op_mod (pv 0) pe_int) (pa_cons (pe_op op_mod (pv 0) (pe_op op_pow pe_int pe_int)) (pa_cons (pe_op op_mod (pe_op op_fdiv (pv 0) pe_int) pe_int) pa_nil)))))) (pe_op op_mod (pv 0) pe_int) (fun _ _ => rfl))))
theorem sc_law_deed : FnScope N_law_deed ["_law_some"] (defScope s_law_deed) := ⟨rfl, rfl, rfl, by decide +kernel, rfl, by decide +kernel, by decide +kernel⟩
theorem ok_law_deed (T : Fx w K mg) : Cl P w K mg base CX0 2 "_law_deed" (sp_law_deed K) := by
  obtain ⟨fd, F⟩ := T.F_law_deed
  have sc := sc_law_deed
  refine ⟨_, fd, ["_law_some"], T.g_law_deed, F.kp, F.bindsN fun _ _ _ _ _ _ us hl => match us, hl with | [_], _ => rfl, ?_⟩
  refine F.ok sc (len_law_deed) (fun cdv A outer s H vs Q E hr h => ⟨t_law_deed K, PSs.nox ?_, pure_law_deed h⟩)
  exact (pss_cons (ps_set (i := 1) sc.nd rfl (Or.inl rfl) (pe_cl (ok_law_names T) hr (by decide) (by rfl) pass0 (pa_cons (pe_slice sl_list (pv 0) (po_some pe_int) po_none) (pa_cons pe_int pa_nil))))
 (pss_cons (ps_set (i := 2) sc.nd rfl (Or.inl rfl) (pe_ix ix_list (pe_lst (pa_cons pe_str (pa_cons pe_str (pa_cons pe_str (pa_cons pe_str (pa_cons pe_str (pa_cons pe_str (pa_cons pe_str (pa_cons pe_str (pa_cons pe_str (pa_cons pe_str pa_nil))))))))))) (pe_op op_mod (pe_ix ix_list (pv 0) pe_int (fun _ _ => rfl)) pe_int) (fun _ _ => rfl)))
 (pss_cons (ps_if (pt_cmpR op_in_seq (pv 2) (pe_tup (pa_cons pe_str (pa_cons pe_str (pa_cons pe_str pa_nil)))) rfl)
 (pss_one (ps_ret (pe_tup (pa_cons (pv 2) (pa_cons (pe_ix ix_list (pv 1) pe_int (fun _ _ => rfl)) pa_nil)))))
 pss_nil)
 (pss_cons (ps_if (pt_cmpR op_in_seq (pv 2) (pe_tup (pa_cons pe_str (pa_cons pe_str pa_nil))) rfl)
 (pss_one (ps_ret (pe_tup (pa_cons (pv 2) (pa_cons (pe_ix ix_list (pv 1) pe_int (fun _ _ => rfl)) (pa_cons (pe_cl (ok_law_number T) hr (by decide) (by rfl) pass0 (pa_cons (pe_ix ix_list (pv 0) pe_int (fun _ _ => rfl)) pa_nil)) pa_nil))))))
 pss_nil)
 (pss_cons (ps_if (pt_cmpR op_eq (pv 2) pe_str (nomark _))
 (pss_one (ps_ret (pe_tup (pa_cons (pv 2) (pa_cons (pe_ix ix_list (pv 1) pe_int (fun _ _ => rfl)) (pa_cons (pe_ix ix_list (pv 1) pe_int (fun _ _ => rfl)) pa_nil))))))
 pss_nil)
 (pss_cons (ps_if (pt_cmpR op_eq (pv 2) pe_str (nomark _))
 (pss_one (ps_ret (pe_tup (pa_cons (pv 2) (pa_cons (pe_ix ix_list (pv 1) pe_int (fun _ _ => rfl)) (pa_cons (pe_ix ix_list (pv 1) pe_int (fun _ _ => rfl)) (pa_cons (pe_ix ix_list (pv 1) pe_int (fun _ _ => rfl)) pa_nil)))))))
 pss_nil)
 (pss_cons (ps_if (pt_cmpR op_in_seq (pv 2) (pe_tup (pa_cons pe_str (pa_cons pe_str pa_nil))) rfl)
 (pss_one (ps_ret (pe_tup (pa_cons (pv 2) (pa_cons (pe_ix ix_list (pv 1) pe_int (fun _ _ => rfl)) (pa_cons (pe_ix ix_list (pv 1) pe_int (fun _ _ => rfl)) (pa_cons (pe_cl (ok_law_number T) hr (by decide) (by rfl) pass0 (pa_cons (pe_ix ix_list (pv 0) pe_int (fun _ _ => rfl)) pa_nil)) pa_nil)))))))
 pss_nil)
 (pss_cons (ps_set (i := 3) sc.nd rfl (Or.inl rfl) (pe_lst pa_nil))
 (pss_cons (ps_for PassesOwn.never rfl (pi_range1 (by rfl) T.n_range (pa_cons (pe_op op_add pe_int (pe_op op_mod (pe_ix ix_list (pv 0) pe_int (fun _ _ => rfl)) pe_int)) pa_nil)) (pg_name (i := 4) sc.nd rfl (Or.inl rfl))
 (pss_one (ps_expr (pe_bm PySem.F.plainAttrs_list PySem.F.slot_list_append PySem.F.type_list_append mt_append (pv 3) (pa_cons (pe_tup (pa_cons (pe_ix ix_list (pv 1) (pe_op op_add pe_int (pv 4)) (fun _ _ => rfl)) (pa_cons (pe_cl (ok_law_number T) hr (by decide) (by rfl) pass0 (pa_cons (pe_ix ix_list (pv 0) (pe_op op_add pe_int (pe_op op_mul pe_int (pv 4))) (fun _ _ => rfl)) pa_nil)) (pa_cons (pe_cl (ok_law_number T) hr (by decide) (by rfl) pass0 (pa_cons (pe_ix ix_list (pv 0) (pe_op op_add pe_int (pe_op op_mul pe_int (pv 4))) (fun _ _ => rfl)) pa_nil)) pa_nil)))) pa_nil)))))
 (pss_one (ps_ret (pe_tup (pa_cons (pv 2) (pa_cons (pe_ix ix_list (pv 1) pe_int (fun _ _ => rfl)) (pa_cons (pe_cl (ok_law_number T) hr (by decide) (by rfl) pass0 (pa_cons (pe_ix ix_list (pv 0) pe_int (fun _ _ => rfl)) pa_nil)) (pa_cons (pe_cmpR op_eq (pe_op op_mod (pe_ix ix_list (pv 0) pe_int (fun _ _ => rfl)) pe_int) pe_int (nomark _)) (pa_cons (pe_callTy call_tuple_of (by rfl) T.n_tuple b_tuple (pa_cons (pv 3) pa_nil)) pa_nil)))))))))))))))))
theorem sc_law_draws : FnScope N_law_draws ["_law_script", "_law_many"] (defScope s_law_draws) := ⟨rfl, rfl, rfl, by decide +kernel, rfl, by decide +kernel, by decide +kernel⟩
theorem ok_law_draws (T : Fx w K mg) : Cl P w K mg base CX0 1 "_law_draws" (sp_law_draws K) := by
  obtain ⟨fd, F⟩ := T.F_law_draws
  have sc := sc_law_draws
  refine ⟨_, fd, ["_law_script", "_law_many"], T.g_law_draws, F.kp, F.bindsN fun _ _ _ _ _ _ us hl => match us, hl with | [_, _], _ => rfl, ?_⟩
  refine F.ok sc (len_law_draws) (fun cdv A outer s H vs Q E hr h => ⟨t_law_draws K, PSs.nox ?_, pure_law_draws h⟩)
  exact (pss_cons (ps_set (i := 2) sc.nd rfl (Or.inl rfl) (pe_lst pa_nil))
 (pss_cons (ps_set (i := 3) sc.nd rfl (Or.inl rfl) pe_int)
 (pss_cons (ps_for PassesOwn.never rfl (pi_list (pv 0)) (pg_name (i := 4) sc.nd rfl (Or.inl rfl))
 (pss_cons (ps_set (i := 3) sc.nd rfl (Or.inl rfl) (pe_op op_mod (pe_op op_add (pe_op op_mul (pv 3) pe_int) (pv 4)) pe_int))
 (pss_cons (ps_set (i := 5) sc.nd rfl (Or.inl rfl) (pe_callB call_abs (by rfl) T.n_abs b_abs (pa_cons (pv 4) pa_nil)))
 (C8.pss_cut (ps_if (pt_cmpR op_lt (pv 5) (pe_op op_pow pe_int pe_int) (nomark _))
 (pss_cons (ps_expr (pe_bm PySem.F.plainAttrs_list PySem.F.slot_list_append PySem.F.type_list_append mt_append (pv 2) (pa_cons (pv 4) pa_nil)))
 (pss_one (ps_set (i := 5) sc.nd rfl (Or.inl rfl) pe_int)))
 pss_nil)
 (pss_one (ps_while PassesOwn.never (PW.pt (pw_and (pt_cmpR op_gt (pv 5) pe_int (nomark _)) (pw_and1 (pt_cmpR op_lt (pe_callB call_len_seq (by rfl) T.n_len b_len (pa_cons (pv 2) pa_nil)) (pv 1) (nomark _)))))
 (pss_cons (ps_expr (pe_bm PySem.F.plainAttrs_list PySem.F.slot_list_append PySem.F.type_list_append mt_append (pv 2) (pa_cons (pe_op op_mod (pv 5) pe_int) pa_nil)))
 (pss_one (ps_set (i := 5) sc.nd rfl (Or.inl rfl) (pe_op op_fdiv (pv 5) pe_int))))))))))
 (pss_cons (ps_while PassesOwn.never (pt_cmpR op_lt (pe_callB call_len_seq (by rfl) T.n_len b_len (pa_cons (pv 2) pa_nil)) (pv 1) (nomark _))
 (pss_cons (ps_set (i := 3) sc.nd rfl (Or.inl rfl) (pe_op op_mod (pe_op op_add (pe_op op_mul (pv 3) pe_int) pe_int) pe_int))
 (pss_one (ps_expr (pe_bm PySem.F.plainAttrs_list PySem.F.slot_list_append PySem.F.type_list_append mt_append (pv 2) (pa_cons (pe_op op_mod (pe_op op_mul (pv 3) (pv 3)) pe_int) pa_nil))))))
 (pss_one (ps_ret (pv 2)))))))
theorem sc_law_line : FnScope N_law_line ["_law_deed_here"] (defScope s_law_line) := ⟨rfl, rfl, rfl, by decide +kernel, rfl, by decide +kernel, by decide +kernel⟩
theorem ok_law_line (T : Fx w K mg) : Cl P w K mg base CX0 1 "_law_line" (sp_law_line K) := by
  obtain ⟨fd, F⟩ := T.F_law_line
  have sc := sc_law_line
  refine ⟨_, fd, ["_law_deed_here"], T.g_law_line, F.kp, F.bindsN fun _ _ _ _ _ _ us hl => match us, hl with | [_], _ => rfl, ?_⟩
  refine F.ok sc (len_law_line) (fun cdv A outer s H vs Q E hr h => ⟨t_law_line K, PSs.nox ?_, pure_law_line h⟩)
  exact (pss_cons (ps_if (pt_cmpR op_ne (pe_ix ix_tup (pv 0) pe_int (fun _ _ => rfl)) pe_str (nomark _))
 (pss_one (ps_ret (pe_join pe_str (pe_lc (own := [("_law_part", 5)]) (g := (gName 5)) (tt := tYes) (by rfl) sc.nd (pi_tup (pv 0)) (blkOk_by (own := [("_law_part", 5)]) (N := N_law_line) (sc := defScope s_law_line) (by decide +kernel)) (fun _ _ _ _ _ => (pg_name (i := 5) sc.nd rfl (Or.inl rfl))) (fun _ _ _ _ _ => pts_nil) (fun _ _ _ _ _ => (pe_callTy call_strA (by rfl) T.n_str b_str (pa_cons (pv 5) pa_nil)))))))
 pss_nil)
 (pss_cons (ps_set (i := 1) sc.nd rfl (Or.inl rfl) (pe_lst (pa_cons pe_str (pa_cons (pe_ix ix_tup (pv 0) pe_int (fun _ _ => rfl)) (pa_cons (pe_callTy call_str_int (by rfl) T.n_str b_str (pa_cons (pe_ix ix_tup (pv 0) pe_int (fun _ _ => rfl)) pa_nil)) (pa_cons (pe_ix ix_list (pe_lst (pa_cons pe_str (pa_cons pe_str pa_nil))) (pe_callTy call_int1 (by rfl) T.n_int b_int (pa_cons (pe_ix ix_tup (pv 0) pe_int (fun _ _ => rfl)) pa_nil)) (fun _ _ => rfl)) pa_nil))))))
 (pss_cons (ps_for PassesOwn.never rfl (pi_tup (pe_ix ix_tup (pv 0) pe_int (fun _ _ => rfl))) (pg_tup rfl (pgs_cons (pg_name (i := 2) sc.nd rfl (Or.inl rfl)) (pgs_cons (pg_name (i := 3) sc.nd rfl (Or.inl rfl)) (pgs_cons (pg_name (i := 4) sc.nd rfl (Or.inl rfl)) pgs_nil))))
 (pss_one (ps_set (i := 1) sc.nd rfl (Or.inl rfl) (pe_op op_cat (pv 1) (pe_lst (pa_cons (pv 2) (pa_cons (pe_callTy call_str_int (by rfl) T.n_str b_str (pa_cons (pv 3) pa_nil)) (pa_cons (pe_callTy call_str_int (by rfl) T.n_str b_str (pa_cons (pv 4) pa_nil)) pa_nil))))))))
 (pss_one (ps_ret (pe_join pe_str (pv 1)))))))
theorem sc_law_same : FnScope N_law_same ["_law_told", "_law_due"] (defScope s_law_same) := ⟨rfl, rfl, rfl, by decide +kernel, rfl, by decide +kernel, by decide +kernel⟩
theorem okr_law_same (T : Fx w K mg) : ∀ m, Cl P w K mg base CX0 (m + 1) "_law_same" (spn_law_same K m)
  | 0 => by
    have ih : Fx w K mg → Cl P w K mg base CX0 0 "_law_same" (fun _ _ _ _ => False) := fun T => T.F_law_same.elim fun fd F => ⟨_, fd, ["_law_told", "_law_due"], T.g_law_same, F.kp, F.bindsN fun _ _ _ _ _ _ us hl => match us, hl with | [_, _], _ => rfl, fn_false⟩
    obtain ⟨fd, F⟩ := T.F_law_same
    have sc := sc_law_same
    refine ⟨_, fd, ["_law_told", "_law_due"], T.g_law_same, F.kp, F.bindsN fun _ _ _ _ _ _ us hl => match us, hl with | [_, _], _ => rfl, ?_⟩
    refine F.ok sc (len_law_same) (fun cdv A outer s H vs Q E hr h => ⟨t_law_same K (fun _ _ _ _ => False), PSs.nox ?_, pure0_law_same h⟩)
    exact (pss_cons (ps_if (PW.pt (pw_or (pt_cmpR op_ne (pe_callB call_isi (by rfl) T.n_isinstance b_isinstance (pa_cons (pv 0) (pa_cons (pe_bltn (v := .ty "bool") (by rfl) T.n_bool b_bool rfl) pa_nil))) (pe_callB call_isi (by rfl) T.n_isinstance b_isinstance (pa_cons (pv 1) (pa_cons (pe_bltn (v := .ty "bool") (by rfl) T.n_bool b_bool rfl) pa_nil))) (nomark _)) (pw_or1 (pt_cmpR op_ne (pe_callB call_isi (by rfl) T.n_isinstance b_isinstance (pa_cons (pv 0) (pa_cons (pe_bltn (v := .ty "int") (by rfl) T.n_int b_int rfl) pa_nil))) (pe_callB call_isi (by rfl) T.n_isinstance b_isinstance (pa_cons (pv 1) (pa_cons (pe_bltn (v := .ty "int") (by rfl) T.n_int b_int rfl) pa_nil))) (nomark _)))))
 (pss_one (ps_ret pe_bl))
 pss_nil)
 (pss_cons (ps_if (PW.pt (pw_or (pt_cmpR op_ne (pe_callB call_isi (by rfl) T.n_isinstance b_isinstance (pa_cons (pv 0) (pa_cons (pe_bltn (v := .ty "list") (by rfl) T.n_list b_list rfl) pa_nil))) (pe_callB call_isi (by rfl) T.n_isinstance b_isinstance (pa_cons (pv 1) (pa_cons (pe_bltn (v := .ty "list") (by rfl) T.n_list b_list rfl) pa_nil))) (nomark _)) (pw_or1 (pt_cmpR op_ne (pe_callB call_isi (by rfl) T.n_isinstance b_isinstance (pa_cons (pv 0) (pa_cons (pe_bltn (v := .ty "tuple") (by rfl) T.n_tuple b_tuple rfl) pa_nil))) (pe_callB call_isi (by rfl) T.n_isinstance b_isinstance (pa_cons (pv 1) (pa_cons (pe_bltn (v := .ty "tuple") (by rfl) T.n_tuple b_tuple rfl) pa_nil))) (nomark _)))))
 (pss_one (ps_ret pe_bl))
 pss_nil)
 (pss_cons (ps_if (PW.pt (pw_and (pt_not (pt_val (pe_callB call_isi (by rfl) T.n_isinstance b_isinstance (pa_cons (pv 1) (pa_cons (pe_bltn (v := .ty "list") (by rfl) T.n_list b_list rfl) pa_nil))))) (pw_and1 (pt_not (pt_val (pe_callB call_isi (by rfl) T.n_isinstance b_isinstance (pa_cons (pv 1) (pa_cons (pe_bltn (v := .ty "tuple") (by rfl) T.n_tuple b_tuple rfl) pa_nil))))))))
 (pss_one (ps_ret (pe_and (pe_cmpR op_eq (pe_callB call_isi (by rfl) T.n_isinstance b_isinstance (pa_cons (pv 0) (pa_cons (pe_bltn (v := .ty "str") (by rfl) T.n_str b_str rfl) pa_nil))) (pe_callB call_isi (by rfl) T.n_isinstance b_isinstance (pa_cons (pv 1) (pa_cons (pe_bltn (v := .ty "str") (by rfl) T.n_str b_str rfl) pa_nil))) (nomark _)) (pe_one (pe_cmpR (op_eqD hr.units) (pv 0) (pv 1) (nomark _))))))
 pss_nil)
 (pss_one (ps_ret (pe_and (pe_cmpR op_eq (pe_callB call_len_seq (by rfl) T.n_len b_len (pa_cons (pv 0) pa_nil)) (pe_callB call_len_seq (by rfl) T.n_len b_len (pa_cons (pv 1) pa_nil)) (nomark _)) (pe_one (pe_callB (cr_all rfl) (by rfl) T.n_all b_all (pa_cons (pe_lc (own := [("_law_one", 2), ("_law_other", 3)]) (g := (gTup K 2 (gCons (gName 2) (gCons (gName 3) gNil)))) (tt := tYes) (by rfl) sc.nd (RZ.pi_zipA (by rfl) T.n_zip (pa_cons (pv 0) (pa_cons (pv 1) pa_nil))) (blkOk_by (own := [("_law_one", 2), ("_law_other", 3)]) (N := N_law_same) (sc := defScope s_law_same) (by decide +kernel)) (fun _ _ _ _ _ => (pg_tup rfl (pgs_cons (pg_name (i := 2) sc.nd rfl (Or.inl rfl)) (pgs_cons (pg_name (i := 3) sc.nd rfl (Or.inl rfl)) pgs_nil)))) (fun _ _ _ _ _ => pts_nil) (fun _ _ _ _ _ => (pe_cl (ih T) hr (by omega) (by rfl) pass0 (pa_cons (pv 2) (pa_cons (pv 3) pa_nil))))) pa_nil)))))))))
  | m + 1 => by
    have ih : Fx w K mg → Cl P w K mg base CX0 (m + 1) "_law_same" (spn_law_same K m) := fun T => okr_law_same T m
    obtain ⟨fd, F⟩ := T.F_law_same
    have sc := sc_law_same
    refine ⟨_, fd, ["_law_told", "_law_due"], T.g_law_same, F.kp, F.bindsN fun _ _ _ _ _ _ us hl => match us, hl with | [_, _], _ => rfl, ?_⟩
    refine F.ok sc (len_law_same) (fun cdv A outer s H vs Q E hr h => ⟨t_law_same K (spn_law_same K m), PSs.nox ?_, pureS_law_same h⟩)
    exact (pss_cons (ps_if (PW.pt (pw_or (pt_cmpR op_ne (pe_callB call_isi (by rfl) T.n_isinstance b_isinstance (pa_cons (pv 0) (pa_cons (pe_bltn (v := .ty "bool") (by rfl) T.n_bool b_bool rfl) pa_nil))) (pe_callB call_isi (by rfl) T.n_isinstance b_isinstance (pa_cons (pv 1) (pa_cons (pe_bltn (v := .ty "bool") (by rfl) T.n_bool b_bool rfl) pa_nil))) (nomark _)) (pw_or1 (pt_cmpR op_ne (pe_callB call_isi (by rfl) T.n_isinstance b_isinstance (pa_cons (pv 0) (pa_cons (pe_bltn (v := .ty "int") (by rfl) T.n_int b_int rfl) pa_nil))) (pe_callB call_isi (by rfl) T.n_isinstance b_isinstance (pa_cons (pv 1) (pa_cons (pe_bltn (v := .ty "int") (by rfl) T.n_int b_int rfl) pa_nil))) (nomark _)))))
 (pss_one (ps_ret pe_bl))
 pss_nil)
 (pss_cons (ps_if (PW.pt (pw_or (pt_cmpR op_ne (pe_callB call_isi (by rfl) T.n_isinstance b_isinstance (pa_cons (pv 0) (pa_cons (pe_bltn (v := .ty "list") (by rfl) T.n_list b_list rfl) pa_nil))) (pe_callB call_isi (by rfl) T.n_isinstance b_isinstance (pa_cons (pv 1) (pa_cons (pe_bltn (v := .ty "list") (by rfl) T.n_list b_list rfl) pa_nil))) (nomark _)) (pw_or1 (pt_cmpR op_ne (pe_callB call_isi (by rfl) T.n_isinstance b_isinstance (pa_cons (pv 0) (pa_cons (pe_bltn (v := .ty "tuple") (by rfl) T.n_tuple b_tuple rfl) pa_nil))) (pe_callB call_isi (by rfl) T.n_isinstance b_isinstance (pa_cons (pv 1) (pa_cons (pe_bltn (v := .ty "tuple") (by rfl) T.n_tuple b_tuple rfl) pa_nil))) (nomark _)))))
 (pss_one (ps_ret pe_bl))
 pss_nil)
 (pss_cons (ps_if (PW.pt (pw_and (pt_not (pt_val (pe_callB call_isi (by rfl) T.n_isinstance b_isinstance (pa_cons (pv 1) (pa_cons (pe_bltn (v := .ty "list") (by rfl) T.n_list b_list rfl) pa_nil))))) (pw_and1 (pt_not (pt_val (pe_callB call_isi (by rfl) T.n_isinstance b_isinstance (pa_cons (pv 1) (pa_cons (pe_bltn (v := .ty "tuple") (by rfl) T.n_tuple b_tuple rfl) pa_nil))))))))
 (pss_one (ps_ret (pe_and (pe_cmpR op_eq (pe_callB call_isi (by rfl) T.n_isinstance b_isinstance (pa_cons (pv 0) (pa_cons (pe_bltn (v := .ty "str") (by rfl) T.n_str b_str rfl) pa_nil))) (pe_callB call_isi (by rfl) T.n_isinstance b_isinstance (pa_cons (pv 1) (pa_cons (pe_bltn (v := .ty "str") (by rfl) T.n_str b_str rfl) pa_nil))) (nomark _)) (pe_one (pe_cmpR (op_eqD hr.units) (pv 0) (pv 1) (nomark _))))))
 pss_nil)
 (pss_one (ps_ret (pe_and (pe_cmpR op_eq (pe_callB call_len_seq (by rfl) T.n_len b_len (pa_cons (pv 0) pa_nil)) (pe_callB call_len_seq (by rfl) T.n_len b_len (pa_cons (pv 1) pa_nil)) (nomark _)) (pe_one (pe_callB (cr_all rfl) (by rfl) T.n_all b_all (pa_cons (pe_lc (own := [("_law_one", 2), ("_law_other", 3)]) (g := (gTup K 2 (gCons (gName 2) (gCons (gName 3) gNil)))) (tt := tYes) (by rfl) sc.nd (RZ.pi_zipA (by rfl) T.n_zip (pa_cons (pv 0) (pa_cons (pv 1) pa_nil))) (blkOk_by (own := [("_law_one", 2), ("_law_other", 3)]) (N := N_law_same) (sc := defScope s_law_same) (by decide +kernel)) (fun _ _ _ _ _ => (pg_tup rfl (pgs_cons (pg_name (i := 2) sc.nd rfl (Or.inl rfl)) (pgs_cons (pg_name (i := 3) sc.nd rfl (Or.inl rfl)) pgs_nil)))) (fun _ _ _ _ _ => pts_nil) (fun _ _ _ _ _ => (pe_cl (ih T) hr (by omega) (by rfl) pass0 (pa_cons (pv 2) (pa_cons (pv 3) pa_nil))))) pa_nil)))))))))
theorem ok_law_same (T : Fx w K mg) : Cl P w K mg base CX0 8 "_law_same" (sp_law_same K) := okr_law_same T 7
theorem sc_law_spoilt : FnScope N_law_spoilt ["_law_page", "_law_way", "_law_at"] (defScope s_law_spoilt) := ⟨rfl, rfl, rfl, by decide +kernel, rfl, by decide +kernel, by decide +kernel⟩
theorem ok_law_spoilt (T : Fx w K mg) : Cl P w K mg base CX0 1 "_law_spoilt" (sp_law_spoilt K) := by
  obtain ⟨fd, F⟩ := T.F_law_spoilt
  have sc := sc_law_spoilt
  refine ⟨_, fd, ["_law_page", "_law_way", "_law_at"], T.g_law_spoilt, F.kp, F.bindsN fun _ _ _ _ _ _ us hl => match us, hl with | [_, _, _], _ => rfl, ?_⟩
  refine okT F sc (by decide +kernel) (by decide) (len_law_spoilt) (fun cdv A outer s H vs Q E hr h => ⟨t_law_spoilt K, psst_nox ?_, pure_law_spoilt h⟩)
  exact (psst_cons (PST.of (ps_if (pt_cmpR op_eq (pv 1) pe_int (nomark _))
 (pss_one (ps_ret (pe_slice C8.sl_txt (pv 0) po_none (po_some (pe_un un_neg pe_int)))))
 pss_nil))
 (psst_cons (PST.of (ps_if (pt_cmpR op_eq (pv 1) pe_int (nomark _))
 (pss_one (ps_ret (pe_op op_add_str (pv 0) pe_str)))
 pss_nil))
 (psst_cons (PST.of (ps_if (pt_cmpR op_eq (pv 1) pe_int (nomark _))
 (pss_one (ps_ret (pe_op op_add_str pe_str (pv 0))))
 pss_nil))
 (psst_cons (PST.of (ps_set (i := 3) sc.nd rfl (Or.inl rfl) (pe_split (pv 0) pe_str)))
 (psst_cons (PST.of (ps_set (i := 4) sc.nd rfl (Or.inl rfl) (pe_op op_mod (pv 2) (pe_callB call_len_seq (by rfl) T.n_len b_len (pa_cons (pv 3) pa_nil)))))
 (psst_cons (PST.of (ps_if (pt_cmpR op_eq (pv 1) pe_int (nomark _))
 (pss_one (ps_ret (pe_join pe_str (pe_op op_cat (pe_op op_cat (pe_slice sl_list (pv 3) po_none (po_some (pv 4))) (pe_lst (pa_cons pe_str pa_nil))) (pe_slice sl_list (pv 3) (po_some (pv 4)) po_none)))))
 pss_nil))
 (psst_cons (CwR.pst_if (pt_cmpR op_eq (pv 1) pe_int (nomark _))
 (psst_cons (PST.of (ps_set (i := 5) sc.nd rfl (Or.inl rfl) (pe_op op_mod (pv 2) (pe_op op_add (pe_callB call_len_str (by rfl) T.n_len b_len (pa_cons (pv 0) pa_nil)) pe_int))))
 (CwR.psst_one (CwR.pst_ret (CwR.pet_op op_add_str (CwR.PET.of (pe_slice C8.sl_txt (pv 0) po_none (po_some (pv 5)))) (pet_repl1 (pe_slice C8.sl_txt (pv 0) (po_some (pv 5)) po_none))))))
 CwR.psst_nil)
 (psst_cons (CwR.pst_if (pt_cmpR op_eq (pv 1) pe_int (nomark _))
 (psst_cons (PST.of (ps_set (i := 5) sc.nd rfl (Or.inl rfl) (pe_op op_mod (pv 2) (pe_op op_add (pe_callB call_len_str (by rfl) T.n_len b_len (pa_cons (pv 0) pa_nil)) pe_int))))
 (CwR.psst_one (CwR.pst_ret (CwR.pet_op op_add_str (CwR.PET.of (pe_slice C8.sl_txt (pv 0) po_none (po_some (pv 5)))) (pet_repl1 (pe_slice C8.sl_txt (pv 0) (po_some (pv 5)) po_none))))))
 CwR.psst_nil)
 (CwR.psst_one (PST.of (ps_ret (pv 0))))))))))))
theorem sc_is_name : FnScope N_is_name ["word"] (defScope s_is_name) := ⟨rfl, rfl, rfl, by decide +kernel, rfl, by decide +kernel, by decide +kernel⟩
theorem ok_is_name (T : Fx w K mg) : Cl P w K mg base CX0 1 "is_name" (sp_is_name K) := by
  obtain ⟨fd, F⟩ := T.F_is_name
  have sc := sc_is_name
  refine ⟨_, fd, ["word"], T.g_is_name, F.kp, F.bindsN fun _ _ _ _ _ _ us hl => match us, hl with | [_], _ => rfl, ?_⟩
  refine F.ok sc (len_is_name) (fun cdv A outer s H vs Q E hr h => ⟨t_is_name K, PSs.nox ?_, pure_is_name h⟩)
  exact (pss_cons (ps_if (pt_not (pt_chain op_le op_le pe_int (pe_callB call_len_str (by rfl) T.n_len b_len (pa_cons (pv 0) pa_nil)) (pe_gc (by rfl) T.c_MOST_SIGNS)))
 (pss_one (ps_ret pe_bl))
 pss_nil)
 (pss_cons (ps_for PassesOwn.never rfl (pi_str (pv 0)) (pg_name (i := 1) sc.nd rfl (Or.inl rfl))
 (pss_one (ps_if (pt_cmpR op_notInS (pv 1) (pe_gc (by rfl) T.c_LETTERS) rfl)
 (pss_one (ps_ret pe_bl))
 pss_nil)))
 (pss_one (ps_ret pe_bl))))
theorem sc_name_of : FnScope N_name_of ["word"] (defScope s_name_of) := ⟨rfl, rfl, rfl, by decide +kernel, rfl, by decide +kernel, by decide +kernel⟩
theorem ok_name_of (T : Fx w K mg) : Cl P w K mg base (L2.CX P w) 2 "name_of" (sp_name_of K) := by
  obtain ⟨fd, F⟩ := T.F_name_of
  have sc := sc_name_of
  refine ⟨_, fd, ["word"], T.g_name_of, F.kp, F.bindsN fun _ _ _ _ _ _ us hl => match us, hl with | [_], _ => rfl, ?_⟩
  refine F.ok sc (len_name_of) (fun cdv A outer s H vs Q E hr h => ⟨t_name_of K E, ?_, pure_name_of h⟩)
  exact (pss_cons (ps_if (pt_not (pt_val (pe_cl (ok_is_name T) hr (by decide) (by rfl) pass0 (pa_cons (pv 0) pa_nil))))
 (pss_one (ps_raise0 rfl (takes_of rfl rfl rfl rfl) T.x_NoDeed (by rfl)))
 pss_nil)
 (pss_one (ps_ret (pv 0))))
theorem sc_is_number : FnScope N_is_number ["word"] (defScope s_is_number) := ⟨rfl, rfl, rfl, by decide +kernel, rfl, by decide +kernel, by decide +kernel⟩
theorem ok_is_number (T : Fx w K mg) : Cl P w K mg base CX0 1 "is_number" (sp_is_number K) := by
  obtain ⟨fd, F⟩ := T.F_is_number
  have sc := sc_is_number
  refine ⟨_, fd, ["word"], T.g_is_number, F.kp, F.bindsN fun _ _ _ _ _ _ us hl => match us, hl with | [_], _ => rfl, ?_⟩
  refine F.ok sc (len_is_number) (fun cdv A outer s H vs Q E hr h => ⟨t_is_number K, PSs.nox ?_, pure_is_number h⟩)
  exact (pss_cons (ps_if (pt_not (pt_chain op_le op_le pe_int (pe_callB call_len_str (by rfl) T.n_len b_len (pa_cons (pv 0) pa_nil)) (pe_gc (by rfl) T.c_MOST_SIGNS)))
 (pss_one (ps_ret pe_bl))
 pss_nil)
 (pss_cons (ps_for PassesOwn.never rfl (pi_str (pv 0)) (pg_name (i := 1) sc.nd rfl (Or.inl rfl))
 (pss_one (ps_if (pt_cmpR op_notInS (pv 1) (pe_gc (by rfl) T.c_FIGURES) rfl)
 (pss_one (ps_ret pe_bl))
 pss_nil)))
 (pss_one (ps_ret (pe_or (pe_cmpR op_eq (pv 0) pe_str (nomark _)) (pe_one (pe_cmpR op_ne (pe_ix ix_str (pv 0) pe_int (fun _ _ => rfl)) pe_str (nomark _))))))))
theorem sc_number_in : FnScope N_number_in ["word"] (defScope s_number_in) := ⟨rfl, rfl, rfl, by decide +kernel, rfl, by decide +kernel, by decide +kernel⟩
theorem ok_number_in (T : Fx w K mg) : Cl P w K mg base (L2.CX P w) 2 "number_in" (sp_number_in K) := by
  obtain ⟨fd, F⟩ := T.F_number_in
  have sc := sc_number_in
  refine ⟨_, fd, ["word"], T.g_number_in, F.kp, F.bindsN fun _ _ _ _ _ _ us hl => match us, hl with | [_], _ => rfl, ?_⟩
  refine F.ok sc (len_number_in) (fun cdv A outer s H vs Q E hr h => ⟨t_number_in K E, ?_, pure_number_in h⟩)
  exact (pss_cons (ps_if (pt_not (pt_val (pe_cl (ok_is_number T) hr (by decide) (by rfl) pass0 (pa_cons (pv 0) pa_nil))))
 (pss_one (ps_raise0 rfl (takes_of rfl rfl rfl rfl) T.x_NoDeed (by rfl)))
 pss_nil)
 (pss_one (ps_ret (pe_callTy call_int_str (by rfl) T.n_int b_int (pa_cons (pv 0) pa_nil)))))
theorem sc_found_of : FnScope N_found_of ["words"] (defScope s_found_of) := ⟨rfl, rfl, rfl, by decide +kernel, rfl, by decide +kernel, by decide +kernel⟩
theorem ok_found_of (T : Fx w K mg) : Cl P w K mg base (L2.CX P w) 3 "found_of" (sp_found_of K) := by
  obtain ⟨fd, F⟩ := T.F_found_of
  have sc := sc_found_of
  refine ⟨_, fd, ["words"], T.g_found_of, F.kp, F.bindsN fun _ _ _ _ _ _ us hl => match us, hl with | [_], _ => rfl, ?_⟩
  refine F.ok sc (len_found_of) (fun cdv A outer s H vs Q E hr h => ⟨t_found_of K E, ?_, pure_found_of h⟩)
  exact (pss_cons (ps_if (PW.pt (pw_or (pt_cmpR op_lt (pe_callB call_len_seq (by rfl) T.n_len b_len (pa_cons (pv 0) pa_nil)) pe_int (nomark _)) (pw_or (pt_cmpR op_ne (pe_op op_mod (pe_callB call_len_seq (by rfl) T.n_len b_len (pa_cons (pv 0) pa_nil)) pe_int) pe_int (nomark _)) (pw_or1 (pt_cmpR op_notIn_seq (pe_ix ix_list (pv 0) pe_int (fun _ _ => rfl)) (pe_tup (pa_cons pe_str (pa_cons pe_str pa_nil))) rfl)))))
 (pss_one (ps_raise0 rfl (takes_of rfl rfl rfl rfl) T.x_NoDeed (by rfl)))
 pss_nil)
 (pss_cons (ps_set (i := 1) sc.nd rfl (Or.inl rfl) (pe_cl (ok_name_of T) hr (by decide) (by rfl) (pass_tk (takes_of rfl rfl rfl rfl)) (pa_cons (pe_ix ix_list (pv 0) pe_int (fun _ _ => rfl)) pa_nil)))
 (pss_cons (ps_set (i := 2) sc.nd rfl (Or.inl rfl) (pe_cl (ok_number_in T) hr (by decide) (by rfl) (pass_tk (takes_of rfl rfl rfl rfl)) (pa_cons (pe_ix ix_list (pv 0) pe_int (fun _ _ => rfl)) pa_nil)))
 (pss_cons (ps_set (i := 3) sc.nd rfl (Or.inl rfl) (pe_lst pa_nil))
 (pss_cons (ps_for (passes_of rfl) rfl (pi_range3 (by rfl) T.n_range (pa_cons pe_int (pa_cons (pe_callB call_len_seq (by rfl) T.n_len b_len (pa_cons (pv 0) pa_nil)) (pa_cons pe_int pa_nil)))) (pg_name (i := 4) sc.nd rfl (Or.inl rfl))
 (pss_one (ps_expr (pe_bm PySem.F.plainAttrs_list PySem.F.slot_list_append PySem.F.type_list_append mt_append (pv 3) (pa_cons (pe_tup (pa_cons (pe_cl (ok_name_of T) hr (by decide) (by rfl) (pass_tk (takes_of rfl rfl rfl rfl)) (pa_cons (pe_ix ix_list (pv 0) (pv 4) (fun _ _ => rfl)) pa_nil)) (pa_cons (pe_cl (ok_number_in T) hr (by decide) (by rfl) (pass_tk (takes_of rfl rfl rfl rfl)) (pa_cons (pe_ix ix_list (pv 0) (pe_op op_add (pv 4) pe_int) (fun _ _ => rfl)) pa_nil)) (pa_cons (pe_cl (ok_number_in T) hr (by decide) (by rfl) (pass_tk (takes_of rfl rfl rfl rfl)) (pa_cons (pe_ix ix_list (pv 0) (pe_op op_add (pv 4) pe_int) (fun _ _ => rfl)) pa_nil)) pa_nil)))) pa_nil)))))
 (pss_one (ps_ret (pe_tup (pa_cons pe_str (pa_cons (pv 1) (pa_cons (pv 2) (pa_cons (pe_cmpR op_eq (pe_ix ix_list (pv 0) pe_int (fun _ _ => rfl)) pe_str (nomark _)) (pa_cons (pe_callTy call_tuple_of (by rfl) T.n_tuple b_tuple (pa_cons (pv 3) pa_nil)) pa_nil)))))))))))))
theorem sc_deed_of : FnScope N_deed_of ["text"] (defScope s_deed_of) := ⟨rfl, rfl, rfl, by decide +kernel, rfl, by decide +kernel, by decide +kernel⟩
theorem ok_deed_of (T : Fx w K mg) : Cl P w K mg base (L2.CX P w) 4 "deed_of" (sp_deed_of K) := by
  obtain ⟨fd, F⟩ := T.F_deed_of
  have sc := sc_deed_of
  refine ⟨_, fd, ["text"], T.g_deed_of, F.kp, F.bindsN fun _ _ _ _ _ _ us hl => match us, hl with | [_], _ => rfl, ?_⟩
  refine F.ok sc (len_deed_of) (fun cdv A outer s H vs Q E hr h => ⟨t_deed_of K E, ?_, pure_deed_of h⟩)
  obtain ⟨es_SHAPES, nn_SHAPES, hd_SHAPES⟩ := T.d_SHAPES
  exact (pss_cons (ps_set (i := 1) sc.nd rfl (Or.inl rfl) (pe_split (pv 0) pe_str))
 (pss_cons (ps_if (pt_cmpR op_eq (pe_ix ix_list (pv 1) pe_int (fun _ _ => rfl)) pe_str (nomark _))
 (pss_one (ps_ret (pe_cl (ok_found_of T) hr (by decide) (by rfl) (pass_tk (takes_of rfl rfl rfl rfl)) (pa_cons (pv 1) pa_nil))))
 pss_nil)
 (pss_cons (ps_if (pt_cmpR (op_notIn_kd hd_SHAPES) (pe_ix ix_list (pv 1) pe_int (fun _ _ => rfl)) (pe_gc (by rfl) T.k_SHAPES) rfl)
 (pss_one (ps_raise0 rfl (takes_of rfl rfl rfl rfl) T.x_NoDeed (by rfl)))
 pss_nil)
 (pss_cons (ps_set (i := 2) sc.nd rfl (Or.inl rfl) (pe_ix (ix_kd hd_SHAPES) (pe_gc (by rfl) T.k_SHAPES) (pe_ix ix_list (pv 1) pe_int (fun _ _ => rfl)) (fun _ _ => rfl)))
 (pss_cons (ps_if (pt_cmpR op_ne (pe_callB call_len_seq (by rfl) T.n_len b_len (pa_cons (pv 1) pa_nil)) (pe_op op_add (pe_callB call_len_str (by rfl) T.n_len b_len (pa_cons (pv 2) pa_nil)) pe_int) (nomark _))
 (pss_one (ps_raise0 rfl (takes_of rfl rfl rfl rfl) T.x_NoDeed (by rfl)))
 pss_nil)
 (pss_cons (ps_set (i := 3) sc.nd rfl (Or.inl rfl) (pe_lst (pa_cons (pe_ix ix_list (pv 1) pe_int (fun _ _ => rfl)) pa_nil)))
 (pss_cons (ps_for (passes_of rfl) rfl (pi_zipS (by rfl) T.n_zip (pa_cons (pv 2) (pa_cons (pe_slice sl_list (pv 1) (po_some pe_int) po_none) pa_nil))) (pg_tup rfl (pgs_cons (pg_name (i := 4) sc.nd rfl (Or.inl rfl)) (pgs_cons (pg_name (i := 5) sc.nd rfl (Or.inl rfl)) pgs_nil)))
 (pss_one (ps_if (pt_cmpR op_eq (pv 4) pe_str (nomark _))
 (pss_one (ps_expr (pe_bm PySem.F.plainAttrs_list PySem.F.slot_list_append PySem.F.type_list_append mt_append (pv 3) (pa_cons (pe_cl (ok_name_of T) hr (by decide) (by rfl) (pass_tk (takes_of rfl rfl rfl rfl)) (pa_cons (pv 5) pa_nil)) pa_nil))))
 (pss_one (ps_expr (pe_bm PySem.F.plainAttrs_list PySem.F.slot_list_append PySem.F.type_list_append mt_append (pv 3) (pa_cons (pe_cl (ok_number_in T) hr (by decide) (by rfl) (pass_tk (takes_of rfl rfl rfl rfl)) (pa_cons (pv 5) pa_nil)) pa_nil)))))))
 (pss_one (ps_ret (pe_callTy call_tuple_of (by rfl) T.n_tuple b_tuple (pa_cons (pv 3) pa_nil)))))))))))
theorem sc_page_deeds : FnScope N_page_deeds ["text"] (defScope s_page_deeds) := ⟨rfl, rfl, rfl, by decide +kernel, rfl, by decide +kernel, by decide +kernel⟩
theorem ok_page_deeds (T : Fx w K mg) : Cl P w K mg base (L2.CX P w) 5 "page_deeds" (sp_page_deeds K) := by
  obtain ⟨fd, F⟩ := T.F_page_deeds
  have sc := sc_page_deeds
  refine ⟨_, fd, ["text"], T.g_page_deeds, F.kp, F.bindsN fun _ _ _ _ _ _ us hl => match us, hl with | [_], _ => rfl, ?_⟩
  refine F.ok sc (len_page_deeds) (fun cdv A outer s H vs Q E hr h => ⟨t_page_deeds K E, ?_, pure_page_deeds h⟩)
  exact (pss_cons (ps_set (i := 1) sc.nd rfl (Or.inl rfl) (pe_split (pv 0) pe_str))
 (pss_cons (ps_if (pt_cmpR op_ne (pe_ix ix_list (pv 1) (pe_un un_neg pe_int) (fun _ _ => rfl)) pe_str (nomark _))
 (pss_one (ps_raise0 rfl (takes_of rfl rfl rfl rfl) T.x_NoDeed (by rfl)))
 pss_nil)
 (pss_one (ps_ret (pe_lcX (own := [("line", 2)]) (g := (gName 2)) (tt := tYes) rfl rfl (takes_of rfl rfl rfl rfl) (by rfl) sc.nd (pi_list (pe_slice sl_list (pv 1) po_none (po_some (pe_un un_neg pe_int)))) (blkOk_by (own := [("line", 2)]) (N := N_page_deeds) (sc := defScope s_page_deeds) (by decide +kernel)) (fun _ _ _ _ _ => (pg_name (i := 2) sc.nd rfl (Or.inl rfl))) (fun _ _ _ _ _ => pts_nil) (fun _ _ _ _ _ _ pb => (pe_cl (ok_deed_of T) hr (by decide) (by rfl) pb (pa_cons (pv 2) pa_nil))))))))
theorem sc_deed_text : FnScope N_deed_text ["deed"] (defScope s_deed_text) := ⟨rfl, rfl, rfl, by decide +kernel, rfl, by decide +kernel, by decide +kernel⟩
theorem ok_deed_text (T : Fx w K mg) : Cl P w K mg base CX0 1 "deed_text" (sp_deed_text K) := by
  obtain ⟨fd, F⟩ := T.F_deed_text
  have sc := sc_deed_text
  refine ⟨_, fd, ["deed"], T.g_deed_text, F.kp, F.bindsN fun _ _ _ _ _ _ us hl => match us, hl with | [_], _ => rfl, ?_⟩
  refine F.ok sc (len_deed_text) (fun cdv A outer s H vs Q E hr h => ⟨t_deed_text K, PSs.nox ?_, pure_deed_text h⟩)
  exact (pss_cons (ps_if (pt_cmpR op_ne (pe_ix ix_tup (pv 0) pe_int (fun _ _ => rfl)) pe_str (nomark _))
 (pss_one (ps_ret (pe_join pe_str (pe_lc (own := [("part", 5)]) (g := (gName 5)) (tt := tYes) (by rfl) sc.nd (pi_tup (pv 0)) (blkOk_by (own := [("part", 5)]) (N := N_deed_text) (sc := defScope s_deed_text) (by decide +kernel)) (fun _ _ _ _ _ => (pg_name (i := 5) sc.nd rfl (Or.inl rfl))) (fun _ _ _ _ _ => pts_nil) (fun _ _ _ _ _ => (pe_callTy call_strA (by rfl) T.n_str b_str (pa_cons (pv 5) pa_nil)))))))
 pss_nil)
 (pss_cons (ps_set (i := 1) sc.nd rfl (Or.inl rfl) (pe_lst (pa_cons pe_str (pa_cons (pe_ix ix_tup (pv 0) pe_int (fun _ _ => rfl)) (pa_cons (pe_callTy call_str_int (by rfl) T.n_str b_str (pa_cons (pe_ix ix_tup (pv 0) pe_int (fun _ _ => rfl)) pa_nil)) (pa_cons pe_str pa_nil))))))
 (C8.pss_cut (ps_if (pt_val (pe_ix ix_tup (pv 0) pe_int (fun _ _ => rfl)))
 (pss_one (ps_asg pe_str (pg_sub (pv 1) pe_int set_list)))
 pss_nil)
 (pss_cons (ps_for PassesOwn.never rfl (pi_tup (pe_ix ix_tup (pv 0) pe_int (fun _ _ => rfl))) (pg_tup rfl (pgs_cons (pg_name (i := 2) sc.nd rfl (Or.inl rfl)) (pgs_cons (pg_name (i := 3) sc.nd rfl (Or.inl rfl)) (pgs_cons (pg_name (i := 4) sc.nd rfl (Or.inl rfl)) pgs_nil))))
 (pss_one (ps_expr (pe_bm PySem.F.plainAttrs_list PySem.F.slot_list_extend PySem.F.type_list_extend mt_extend (pv 1) (pa_cons (pe_lst (pa_cons (pv 2) (pa_cons (pe_callTy call_str_int (by rfl) T.n_str b_str (pa_cons (pv 3) pa_nil)) (pa_cons (pe_callTy call_str_int (by rfl) T.n_str b_str (pa_cons (pv 4) pa_nil)) pa_nil)))) pa_nil)))))
 (pss_one (ps_ret (pe_join pe_str (pv 1))))))))
theorem sc_page_text : FnScope N_page_text ["deeds"] (defScope s_page_text) := ⟨rfl, rfl, rfl, by decide +kernel, rfl, by decide +kernel, by decide +kernel⟩
theorem ok_page_text (T : Fx w K mg) : Cl P w K mg base CX0 2 "page_text" (sp_page_text K) := by
  obtain ⟨fd, F⟩ := T.F_page_text
  have sc := sc_page_text
  refine ⟨_, fd, ["deeds"], T.g_page_text, F.kp, F.bindsN fun _ _ _ _ _ _ us hl => match us, hl with | [_], _ => rfl, ?_⟩
  refine F.ok sc (len_page_text) (fun cdv A outer s H vs Q E hr h => ⟨t_page_text K, PSs.nox ?_, pure_page_text h⟩)
  exact (pss_one (ps_ret (pe_join pe_str (pe_lc (own := [("deed", 1)]) (g := (gName 1)) (tt := tYes) (by rfl) sc.nd (pi_list (pv 0)) (blkOk_by (own := [("deed", 1)]) (N := N_page_text) (sc := defScope s_page_text) (by decide +kernel)) (fun _ _ _ _ _ => (pg_name (i := 1) sc.nd rfl (Or.inl rfl))) (fun _ _ _ _ _ => pts_nil) (fun _ _ _ _ _ => (pe_op op_add_str (pe_cl (ok_deed_text T) hr (by decide) (by rfl) pass0 (pa_cons (pv 1) pa_nil)) pe_str))))))
theorem sc_law : FnScope N_law ["_law_script"] (defScope s_law) := ⟨rfl, rfl, rfl, by decide +kernel, rfl, by decide +kernel, by decide +kernel⟩
theorem ok_law_at {fd : FuncData} (T : Fx w K mg) (F : FunD K "law" "law" (defArgs s_law) (defBody s_law) (defScope s_law) [] [] (He.fAd K ("law", none)) fd) : FnOk P w K mg base CX0 9 (He.fAd K ("law", none)) fd ["_law_script"] (sp_law K) := by
  have sc := sc_law
  refine F.ok sc (len_law) (fun cdv A outer s H vs Q E hr h => ⟨t_law K, PSs.nox ?_, pure_law h⟩)
  exact (pss_cons (ps_set (i := 1) sc.nd rfl (Or.inr rfl) (pe_cl (ok_law_draws T) hr (by decide) (by rfl) pass0 (pa_cons (pv 0) (pa_cons pe_int pa_nil))))
 (pss_cons (ps_setLc (i := 2) (own := [("_law_at", 9)]) (g := (gName 9)) (tt := tYes) (by rfl) sc.nd rfl rfl (sw_true rfl rfl rfl (by decide +kernel)) (pi_range1 (by rfl) T.n_range (pa_cons (pe_op op_mod (pe_ix ix_list (pv 1) pe_int (fun _ _ => rfl)) pe_int) pa_nil)) (blkOk_by (own := [("_law_at", 9)]) (N := N_law) (sc := defScope s_law) (by decide +kernel)) (fun _ _ _ _ _ => (pg_name (i := 9) sc.nd rfl (Or.inl rfl))) (fun _ _ _ _ _ => pts_nil) (fun _ _ _ _ _ => (pe_cl (ok_law_deed T) hr (by decide) (by rfl) pass0 (pa_cons (pe_slice sl_list (pv 1) (po_some (pe_op op_add pe_int (pe_op op_mul pe_int (pv 9)))) po_none) pa_nil))))
 (pss_cons (ps_set (i := 3) sc.nd rfl (Or.inl rfl) (pe_join pe_str (pe_lc (own := [("_law_deed_here", 10)]) (g := (gName 10)) (tt := tYes) (by rfl) sc.nd (pi_list (pv 2)) (blkOk_by (own := [("_law_deed_here", 10)]) (N := N_law) (sc := defScope s_law) (by decide +kernel)) (fun _ _ _ _ _ => (pg_name (i := 10) sc.nd rfl (Or.inl rfl))) (fun _ _ _ _ _ => pts_nil) (fun _ _ _ _ _ => (pe_op op_add_str (pe_cl (ok_law_line T) hr (by decide) (by rfl) pass0 (pa_cons (pv 10) pa_nil)) pe_str)))))
 (pss_cons (ps_set (i := 4) sc.nd rfl (Or.inl rfl) (pe_callTy call_list_of (by rfl) T.n_list b_list (pa_cons (pv 2) pa_nil)))
 (pss_cons (ps_if (PW.pt (pw_or (pt_not (pt_val (pe_cl (ok_law_same T) hr (by decide) (by rfl) pass0 (pa_cons (pe_cl (ok_page_text T) hr (by decide) (by rfl) pass0 (pa_cons (pv 4) pa_nil)) (pa_cons (pv 3) pa_nil))))) (pw_or (pt_cmpR (op_neD hr.units) (pv 4) (pv 2) (nomark _)) (pw_or1 (pt_not (pt_val (pe_cl (ok_law_same T) hr (by decide) (by rfl) pass0 (pa_cons (pe_cl (ok_page_deeds T) hr (by decide) (by rfl) passL (pa_cons (pv 3) pa_nil)) (pa_cons (pv 2) pa_nil)))))))))
 (pss_one (ps_ret pe_bl))
 pss_nil)
 (pss_cons (ps_set (i := 3) sc.nd rfl (Or.inl rfl) (pe_cl (ok_law_spoilt T) hr (by decide) (by rfl) pass0 (pa_cons (pv 3) (pa_cons (pe_op op_mod (pe_ix ix_list (pv 1) pe_int (fun _ _ => rfl)) pe_int) (pa_cons (pe_ix ix_list (pv 1) pe_int (fun _ _ => rfl)) pa_nil)))))
 (pss_cons (ps_set (i := 5) sc.nd rfl (Or.inl rfl) (pe_cl (ok_law_all_read T) hr (by decide) (by rfl) pass0 (pa_cons (pv 3) pa_nil)))
 (pss_cons (ps_set (i := 6) sc.nd rfl (Or.inl rfl) (pe_lst pa_nil))
 (pss_cons (ps_set (i := 7) sc.nd rfl (Or.inl rfl) pe_non)
 (C8.pss_cut (ps_try_as (i := 8) (tb := fun W => (tAsg (tCallS (sp_page_deeds K) (WE W) (tCons (tVar 3) tNil)) (gName 7))) (ts := fun a cls d => (tAsg (tLst (tCons (tCB (rIsX K a cls d) (tCons (tVar 8) (tCons (tC (.ref (He.ga K "NoDeed"))) tNil))) (tCons (tCB (rIsX K a cls d) (tCons (tVar 8) (tCons (tC (.ty "ValueError")) tNil))) (tCons (tCB (rIsX K a cls d) (tCons (tVar 8) (tCons (tC (.ref (He.ga K "BadName"))) tNil))) tNil)))) (gName 6))) (Wout := (fun _ _ _ _ => False)) rfl rfl sc.nd rfl rfl ⟨rfl, by decide, Or.inl T.g_SusuError⟩ takes0
 (fun W pn xe tk po => (pss_one (ps_set (i := 7) sc.nd rfl (Or.inl rfl) (pe_clS (ok_page_deeds T) hr (by decide) (by rfl) (fun σ => passAt tk σ) (pa_cons (pv 3) pa_nil)))))
 (fun a oe cls d pn hz hf => (pss_one (ps_set (i := 6) sc.nd rfl (Or.inl rfl) (pe_lst (pa_cons (pe_callB (call_isX hz hf) (by rfl) T.n_isinstance b_isinstance (pa_cons (pv 8) (pa_cons (pe_gc (by rfl) T.k_NoDeed) pa_nil))) (pa_cons (pe_callB (call_isX hz hf) (by rfl) T.n_isinstance b_isinstance (pa_cons (pv 8) (pa_cons (pe_bltn (v := .ty "ValueError") (by rfl) T.n_ValueError b_ValueError rfl) pa_nil))) (pa_cons (pe_callB (call_isX hz hf) (by rfl) T.n_isinstance b_isinstance (pa_cons (pv 8) (pa_cons (pe_gc (by rfl) T.k_BadName) pa_nil))) pa_nil))))))))
 (pss_cons (ps_if (pt_cmpR op_isN1 (pv 5) pe_non (nomark _))
 (pss_one (ps_ret (pe_cmpR (op_eqD hr.units) (pv 6) (pe_lst (pa_cons pe_bl (pa_cons pe_bl (pa_cons pe_bl pa_nil)))) (nomark _))))
 pss_nil)
 (pss_one (ps_ret (pe_and (pe_cmpR (op_eqD hr.units) (pv 6) (pe_lst pa_nil) (nomark _)) (pe_one (pe_cl (ok_law_same T) hr (by decide) (by rfl) pass0 (pa_cons (pv 7) (pa_cons (pv 5) pa_nil))))))))))))))))))

end
theorem facts {w : World} {K : PySem.W.Frag} {h : Heap} {mg : Str → Option Value} (X : K.In h) (G : h.Ns mainGlobals mg) (c : He.SaysD fas fns K) (ct : He.SaysT fas fns tabs w K) : Fx w K mg where
  n_ValueError := He.free_ok X G (c.fact 22 rfl)
  n_abs := He.free_ok X G (c.fact 23 rfl)
  n_all := He.free_ok X G (c.fact 24 rfl)
  n_bool := He.free_ok X G (c.fact 25 rfl)
  n_int := He.free_ok X G (c.fact 26 rfl)
  n_isinstance := He.free_ok X G (c.fact 27 rfl)
  n_len := He.free_ok X G (c.fact 28 rfl)
  n_list := He.free_ok X G (c.fact 29 rfl)
  n_range := He.free_ok X G (c.fact 30 rfl)
  n_str := He.free_ok X G (c.fact 31 rfl)
  n_tuple := He.free_ok X G (c.fact 32 rfl)
  n_zip := He.free_ok X G (c.fact 33 rfl)
  c_FIGURES := (He.str_ok X G (c.fact 34 rfl)).elim fun t e => ⟨_, e, ⟨t, rfl⟩⟩
  c_LETTERS := (He.str_ok X G (c.fact 35 rfl)).elim fun t e => ⟨_, e, ⟨t, rfl⟩⟩
  c_MOST_SIGNS := (He.int_ok X G (c.fact 36 rfl)).elim fun t e => ⟨_, e, ⟨t, rfl⟩⟩
  k_SHAPES := ⟨_, He.glo_ok X G (c.fact 41 rfl), rfl⟩
  d_SHAPES := ct.tab 0
  g_BadName := He.glo_ok X G (c.fact 37 rfl)
  k_BadName := ⟨_, He.glo_ok X G (c.fact 37 rfl), rfl⟩
  g_NoDeed := He.glo_ok X G (c.fact 38 rfl)
  k_NoDeed := ⟨_, He.glo_ok X G (c.fact 38 rfl), rfl⟩
  g_SusuError := He.glo_ok X G (c.fact 39 rfl)
  k_SusuError := ⟨_, He.glo_ok X G (c.fact 39 rfl), rfl⟩
  x_NoDeed := let z := He.exc_ok (c.fact 40 rfl); ⟨z.1, He.glo_ok X G (c.fact 38 rfl), z.2.1, z.2.2.1, z.2.2.2⟩
  g_law_is_name := He.glo_ok X G (c.fact 0 rfl)
  F_law_is_name := c.def_ 0 (d := dd_law_is_name) rfl
  g_law_is_number := He.glo_ok X G (c.fact 1 rfl)
  F_law_is_number := c.def_ 1 (d := dd_law_is_number) rfl
  g_law_shape := He.glo_ok X G (c.fact 2 rfl)
  F_law_shape := c.def_ 2 (d := dd_law_shape) rfl
  g_law_read := He.glo_ok X G (c.fact 3 rfl)
  F_law_read := c.def_ 3 (d := dd_law_read) rfl
  g_law_all_read := He.glo_ok X G (c.fact 4 rfl)
  F_law_all_read := c.def_ 4 (d := dd_law_all_read) rfl
  g_law_names := He.glo_ok X G (c.fact 5 rfl)
  F_law_names := c.def_ 5 (d := dd_law_names) rfl
  g_law_number := He.glo_ok X G (c.fact 6 rfl)
  F_law_number := c.def_ 6 (d := dd_law_number) rfl
  g_law_deed := He.glo_ok X G (c.fact 7 rfl)
  F_law_deed := c.def_ 7 (d := dd_law_deed) rfl
  g_law_draws := He.glo_ok X G (c.fact 8 rfl)
  F_law_draws := c.def_ 8 (d := dd_law_draws) rfl
  g_law_line := He.glo_ok X G (c.fact 9 rfl)
  F_law_line := c.def_ 9 (d := dd_law_line) rfl
  g_law_same := He.glo_ok X G (c.fact 10 rfl)
  F_law_same := c.def_ 10 (d := dd_law_same) rfl
  g_law_spoilt := He.glo_ok X G (c.fact 11 rfl)
  F_law_spoilt := c.def_ 11 (d := dd_law_spoilt) rfl
  g_is_name := He.glo_ok X G (c.fact 12 rfl)
  F_is_name := c.def_ 12 (d := dd_is_name) rfl
  g_name_of := He.glo_ok X G (c.fact 13 rfl)
  F_name_of := c.def_ 13 (d := dd_name_of) rfl
  g_is_number := He.glo_ok X G (c.fact 14 rfl)
  F_is_number := c.def_ 14 (d := dd_is_number) rfl
  g_number_in := He.glo_ok X G (c.fact 15 rfl)
  F_number_in := c.def_ 15 (d := dd_number_in) rfl
  g_found_of := He.glo_ok X G (c.fact 16 rfl)
  F_found_of := c.def_ 16 (d := dd_found_of) rfl
  g_deed_of := He.glo_ok X G (c.fact 17 rfl)
  F_deed_of := c.def_ 17 (d := dd_deed_of) rfl
  g_page_deeds := He.glo_ok X G (c.fact 18 rfl)
  F_page_deeds := c.def_ 18 (d := dd_page_deeds) rfl
  g_deed_text := He.glo_ok X G (c.fact 19 rfl)
  F_deed_text := c.def_ 19 (d := dd_deed_text) rfl
  g_page_text := He.glo_ok X G (c.fact 20 rfl)
  F_page_text := c.def_ 20 (d := dd_page_text) rfl
  g_law := He.glo_ok X G (c.fact 21 rfl)
  F_law := c.def_ 21 (d := dd_law) rfl
theorem fin {P : Program} {w : World} {K : PySem.W.Frag} {h : Heap} {mg : Str → Option Value} {fa : Addr} (X : K.In h) (G : h.Ns mainGlobals mg) (hmg : mg ("law" : Str) = some (.ref fa)) (c : He.SaysD fas fns K) (ct : He.SaysT fas fns tabs w K) (xf : Xf K ["NoDeed", "BadName"]) (tb0 : TbS K (He.ga K "SHAPES") tb_SHAPES) :
    ∃ (K : PySem.W.Frag) (fd : FuncData) (sp : Sp), K.In h ∧ (∀ (s : Shared) (u : Value), BindsTo s fd ⟨[u], []⟩ [("_law_script", u)]) ∧
        (∀ (H : Hp) (a : Addr) (ns : List Int), ns.length ≤ 63 → Only H → SqL K H a (ns.map V.int) → sp [.ref a] H (fun v _ => v = .bl true) fun _ _ _ => False) ∧
        ∀ base : Heap, K.In base → base.Ns mainGlobals mg → FnOk P w K mg base CX0 9 fa fd ["_law_script"] sp := by
  have T := facts X G c ct
  obtain ⟨fd, F⟩ := T.F_law
  have e := hmg.symm.trans T.g_law
  cases e
  have b := FunD.bindsA (ps := ["_law_script"]) F fun _ _ _ _ _ _ us hl => match us, hl with | [_], _ => rfl
  refine ⟨K, fd, sp_law K, X, fun s v => b s [v] rfl, fun H a ns hl _ hS => ⟨a, ns, rfl, hS, hl, xf, tb0, fun _ => rfl⟩, fun base _ _ => ?_⟩
  exact ok_law_at T F
end Su
open PySem PySem.W PySem.Calls PyProof.Rows
theorem PySem.Challenge.cw_susu_k39_pages_holds : PySem.Challenge.rw_susu_k39_pages.Holds := by
  w_on; o_law
  refine HandSHeadRun.head_any (r := OpenLaw.row PySem.Challenge.rw_susu_k39_pages) (q := view (OpenLaw.row PySem.Challenge.rw_susu_k39_pages).prog [31]) (H := Su.hk) (ob := Su.ob) (M := 4000) (loose := Su.loose) (d := HandSHeadRun.topDef (OpenLaw.row PySem.Challenge.rw_susu_k39_pages).prog 31) (kwd := []) Su.ob_eq
    Su.hd_e Su.hd_f Su.run Su.hd_def Su.hd_p Su.hd_k (by rfl) (by first | assumption | decide +kernel) Su.hd_ok ⟨rfl, rfl, rfl, rfl, rfl, by decide +kernel⟩ ?hw ?hc
  case hw => w_witness2
  case hc =>
    refine L2.walk_ofE (l := PySem.Challenge.rw_susu_k39_pages) (n := 63) (k := 9) (x := "_law_script") (CX := L2.CX0) rfl (by decide) (by kernel_rfl) ⟨rfl, by decide, by decide⟩ ?F (fun _ _ _ _ z => z)
    intro w mg fa h Y G hmg0
    obtain ⟨K, KX, c⟩ := Y
    have hmg : mg ("law" : PySem.Str) = some (.ref fa) := by
      have e : (HandSHeadRun.topDef (OpenLaw.row PySem.Challenge.rw_susu_k39_pages).prog 31).name = ("law" : PySem.Str) := by kernel_rfl
      rw [← e]
      exact hmg0
    exact Su.fin KX G hmg c.t.d c.t (Su.xf_of (Bool.and_eq_true_iff.mp c.more).1) (Su.tbs_of (Bool.and_eq_true_iff.mp c.more).2)
