import PyProof.Rows.All
import Wide.All
import OpenK.AllK
import Wide.FinOn
import KE.KStateDown
import Lean
import HandS.ForMost
import HandS.Exc
import HandS.TryOnly
import HandS.ExcOwn
import HandS.WordsExc
import HandS.ExcIs
import HandS.More
import HandS.Defaults
import HandS.IsInst
import HandS.Flow
import HandS.Steps
import HandS.Wide
import HandS.Deep
import HandS.Codes
import HandS.Zip
import HandS.Strs
import HandS.Conv
import HandS.SetFor
import HandS.SortInts
import HandS.Head0
import HandS.Head1
import HandS.Head2
import HandS.HeadEnd
import HandS.HeadHook1
import HandS.HeadHook2
import HandS.HeadHook3
import HandS.HeadHook4
import PySem.Challenge.RW_susu_k16_whole_transfers_settle
set_option Elab.async false
set_option linter.all false
set_option maxRecDepth 100000
set_option maxHeartbeats 4000000
namespace Su
open PySem L2

abbrev rAdd : R2 := rI0 fun i j => .int (i + j)
abbrev rSub : R2 := rI0 fun i j => .int (i - j)
abbrev rMul : R2 := rI CMul fun i j => .int (i * j)
abbrev rMulW : R2 := rI CMulW fun i j => .int (i * j)
abbrev rDiv : R2 := rI CDiv fun i j => .int (i / j)
abbrev rDivW : R2 := rI CDivW fun i j => .int (i / j)
abbrev rMod : R2 := rI (fun _ j => 0 < j) fun i j => .int (i % j)
abbrev rPow : R2 := rI CPow fun i j => .int (i ^ j.toNat)
abbrev rShl : R2 := rI CPow fun i j => .int (i * 2 ^ j.toNat)
abbrev rShr : R2 := rI (fun _ j => 0 ≤ j) fun i j => .int (i / 2 ^ j.toNat)
abbrev rOr : R2 := rI0 fun i j => .int (Builtin.bitOr i j)
abbrev rLt : R2 := rI0 fun i j => .bl (decide (i < j))
abbrev rLe : R2 := rI0 fun i j => .bl (decide (i ≤ j))
abbrev rNeg : V → Hp → VK → Prop := rU fun i => .int (-i)
abbrev CR : Type := List V → Hp → VK → Prop
abbrev rLenSeq (K : PySem.W.Frag) : CR := fun xs H Q => ∃ p ys, xs = [.ref p] ∧ (SqL K H p ys ∨ SqT K H p ys) ∧ Q (.int ys.length) H
abbrev rLenStr : CR := fun xs H Q => ∃ z, xs = [.str z] ∧ z.length ≤ sizeLine ∧ Q (.int z.length) H
abbrev rLenD : CR := fun xs H Q => ∃ a kvs, xs = [V.ref a] ∧ H a = some (.dK kvs) ∧ Q (.int kvs.length) H
abbrev rAbs : CR := fun xs H Q => ∃ i, xs = [.int i] ∧ Q (.int (if i < 0 then -i else i)) H
abbrev rMax2 : CR := fun xs H Q => ∃ i j, xs = [.int i, .int j] ∧ Q (.int (if j > i then j else i)) H
abbrev rMin2 : CR := fun xs H Q => ∃ i j, xs = [.int i, .int j] ∧ Q (.int (if j < i then j else i)) H
abbrev rInt1 : CR := fun xs H Q => (∃ i, xs = [.int i] ∧ Q (.int i) H) ∨ ∃ k, xs = [.bl k] ∧ Q (.int (if k then 1 else 0)) H
abbrev rIntStr : CR := fun xs H Q => ∃ a n, xs = [.str a] ∧ PySem.intText? a = some n ∧ a.length ≤ 640 ∧ Q (.int n) H
abbrev rStrInt : CR := fun xs H Q => ∃ i, xs = [.int i] ∧ i.natAbs.log2 < 1920 ∧ Q (.str (toString i)) H
abbrev rListOf (K : PySem.W.Frag) : CR := fun xs H Q => ∃ p ys, xs = [.ref p] ∧ (SqL K H p ys ∨ SqT K H p ys) ∧ ∀ l, H l = none → Q (.ref l) (upd H l (.lst ys))
abbrev rTupleOf (K : PySem.W.Frag) : CR := fun xs H Q => ∃ p ys, xs = [.ref p] ∧ ((SqL K H p ys ∧ ∀ l, H l = none → Q (.ref l) (upd H l (.tup ys))) ∨ (SqT K H p ys ∧ Q (.ref p) H))
abbrev MR : Type := V → List V → Hp → VK → Prop
abbrev rAppend : MR := fun x vs H Q => ∃ (l : Addr) (xs : List V) (y : V), x = .ref l ∧ vs = [y] ∧ H l = some (.lst xs) ∧ xs.length < sizeLine ∧ Q .non (upd H l (.lst (xs ++ [y])))
abbrev rInsert : MR := fun x vs H Q => ∃ (l : Addr) (xs : List V) (i : Int) (y : V), x = .ref l ∧ vs = [.int i, y] ∧ H l = some (.lst xs) ∧ xs.length < sizeLine ∧ 0 ≤ i ∧ i < 2 ^ 63 ∧ Q .non (upd H l (.lst (xs.take i.toNat ++ [y] ++ xs.drop i.toNat)))

theorem b_len : bootBuiltins "len" = some (.builtin "len") := by decide +kernel
theorem b_abs : bootBuiltins "abs" = some (.builtin "abs") := by decide +kernel
theorem b_max : bootBuiltins "max" = some (.builtin "max") := by decide +kernel
theorem b_min : bootBuiltins "min" = some (.builtin "min") := by decide +kernel
theorem b_sum : bootBuiltins "sum" = some (.builtin "sum") := by decide +kernel
theorem b_all : bootBuiltins "all" = some (.builtin "all") := by decide +kernel
theorem b_any : bootBuiltins "any" = some (.builtin "any") := by decide +kernel
theorem b_sorted : bootBuiltins "sorted" = some (.builtin "sorted") := by decide +kernel
theorem b_isinstance : bootBuiltins "isinstance" = some (.builtin "isinstance") := by decide +kernel
theorem b_ValueError : bootBuiltins "ValueError" = some (.type "ValueError") := by decide +kernel
theorem b_int : bootBuiltins "int" = some (.type "int") := by decide +kernel
theorem b_bool : bootBuiltins "bool" = some (.type "bool") := by decide +kernel
theorem b_str : bootBuiltins "str" = some (.type "str") := by decide +kernel
theorem b_list : bootBuiltins "list" = some (.type "list") := by decide +kernel
theorem b_tuple : bootBuiltins "tuple" = some (.type "tuple") := by decide +kernel
theorem b_set : bootBuiltins "set" = some (.type "set") := by decide +kernel

/-- a def of the module that may be called by its name -/
structure Cl (P : Program) (w : World) (K : PySem.W.Frag) (mg : Str → Option Value) (base : Heap) (CX : CXT) (k : Nat) (x : Str) (sp : Sp) : Prop where
  ex : ∃ (f : Addr) (fd : FuncData) (ps : List Str), mg x = some (.ref f) ∧ PySem.W.keepIn K (.ref f) = true ∧ Binds K fd ps [] ∧ FnOk P w K mg base CX k f fd ps sp
section
variable {X : Cx} {CX : CXT} {k j : Nat} {x : Str} {sp : Sp} {E : XK} {e : Expr} {es : List Expr} {t : TA} {p pos : Pos}
theorem pe_cl (c : Cl X.prog X.w X.K X.mg X.base CX k x sp) (hr : Room j X.A) (hk : k ≤ j) (hg : Gl X x) (hx : Passes CX X E) (ha : PA X (e :: es) t)
    (hdb : (x == ("__debug__" : Str)) = false := by decide) (he : starEach (e :: es) X.env = (false, eval e X.env) :: starEach es X.env := by rfl) (hpl : (backTo pos (starEach es X.env)).any (·.1) = false := by rfl) : PE X (.Call (.Name x p) (e :: es) [] pos) (tCall sp [] E t) := by
  obtain ⟨f, fd, ps, h1, h2, h3, h4⟩ := c.ex
  exact pe_call h4 (hr.mono hk) hg h1 h2 h3 .nil hx ha hdb he hpl
theorem pe_cl0 (c : Cl X.prog X.w X.K X.mg X.base CX k x sp) (hr : Room j X.A) (hk : k ≤ j) (hg : Gl X x) (hx : Passes CX X E) (hdb : (x == ("__debug__" : Str)) = false := by decide) : PE X (.Call (.Name x p) [] [] pos) (tCall sp [] E tNil) := by
  obtain ⟨f, fd, ps, h1, h2, h3, h4⟩ := c.ex
  exact pe_call0 h4 (hr.mono hk) hg h1 h2 h3 .nil hx hdb
theorem pe_gc {v : V} (hg : Gl X x) (h : ∃ u, X.mg x = some u ∧ RelV v u) (hd : (x == ("__debug__" : Str)) = false := by decide) : PE X (.Name x pos) (tC v) := by
  obtain ⟨u, h1, h2⟩ := h
  exact pe_glob hg h1 h2 hd
end

/-! ### the readings, step by step -/
section
variable {K : PySem.W.Frag} {t1 t2 : TS} {te ta tb tc : TE} {tt tu : TT} {a1 a2 : TA} {D : Ends} {σ : St} {H : Hp} {Q : VK} {Qb : Bool → Hp → Prop} {Qa : List V → Hp → Prop} {g : TG} {v w x y : V} {n i : Nat}
theorem x_seq (h : t1 { D with nx := t2 D } σ H) : tSeq t1 t2 D σ H := h
theorem x_next (h : D.nx σ H) : tNext D σ H := h
theorem x_ret (h : te σ H D.rt) : tRet te D σ H := h
theorem x_retN (h : D.rt .non H) : tRetN D σ H := h
theorem x_brk (h : D.bk σ H) : tBreak D σ H := h
theorem x_drop (h : te σ H fun _ H1 => D.nx σ H1) : tDrop te D σ H := h
theorem x_asg (h : te σ H fun x H1 => g x σ H1 D.nx) : tAsg te g D σ H := h
theorem x_gname {Qs : St → Hp → Prop} (h : Qs (σ.set i (some v)) H) : gName i v σ H Qs := h
theorem x_ifS (h : tt σ H fun b H1 => if b = true then t1 D σ H1 else t2 D σ H1) : tIfS tt t1 t2 D σ H := h
theorem x_var (e : σ[i]? = some (some v)) (h : Q v H) : tVar i σ H Q := ⟨v, e, h⟩
theorem x_c (h : Q v H) : tC v σ H Q := h
theorem x_op {r : R2} (h : ta σ H fun x H1 => tb σ H1 fun y H2 => r x y H2 Q) : tOp r ta tb σ H Q := h
theorem x_un {r : V → Hp → VK → Prop} (h : ta σ H fun x H1 => r x H1 Q) : tUn r ta σ H Q := h
theorem x_rU {g : Int → V} {i : Int} (h : Q (g i) H) : rU g (.int i) H Q := ⟨i, rfl, h⟩
theorem x_rI0 {g : Int → Int → V} {i j : Int} (h : Q (g i j) H) : rI0 g (.int i) (.int j) H Q := ⟨i, j, rfl, rfl, h⟩
theorem x_rI {C : Int → Int → Prop} {g : Int → Int → V} {i j : Int} (c : C i j) (h : Q (g i j) H) : rI C g (.int i) (.int j) H Q := ⟨i, j, rfl, rfl, c, h⟩
theorem x_rEq (c : scal x y = true) (h : Q (.bl (decide (x = y))) H) : rEq x y H Q := ⟨c, h⟩
theorem x_rNe (c : scal x y = true) (h : Q (.bl (!decide (x = y))) H) : rNe x y H Q := ⟨c, h⟩
theorem x_eqI {i j : Int} (h : Q (.bl (decide (i = j))) H) : rEq (.int i) (.int j) H Q := ⟨rfl, by
  have e : decide (V.int i = V.int j) = decide (i = j) := by simp
  rw [e]; exact h⟩
theorem x_neI {i j : Int} (h : Q (.bl (!decide (i = j))) H) : rNe (.int i) (.int j) H Q := ⟨rfl, by
  have e : decide (V.int i = V.int j) = decide (i = j) := by simp
  rw [e]; exact h⟩
theorem x_eqS {i j : Str} (h : Q (.bl (decide (i = j))) H) : rEq (.str i) (.str j) H Q := ⟨rfl, by
  have e : decide (V.str i = V.str j) = decide (i = j) := by simp
  rw [e]; exact h⟩
theorem x_neS {i j : Str} (h : Q (.bl (!decide (i = j))) H) : rNe (.str i) (.str j) H Q := ⟨rfl, by
  have e : decide (V.str i = V.str j) = decide (i = j) := by simp
  rw [e]; exact h⟩
theorem x_eqB {i j : Bool} (h : Q (.bl (decide (i = j))) H) : rEq (.bl i) (.bl j) H Q := ⟨rfl, by
  have e : decide (V.bl i = V.bl j) = decide (i = j) := by simp
  rw [e]; exact h⟩
theorem x_neB {i j : Bool} (h : Q (.bl (!decide (i = j))) H) : rNe (.bl i) (.bl j) H Q := ⟨rfl, by
  have e : decide (V.bl i = V.bl j) = decide (i = j) := by simp
  rw [e]; exact h⟩
theorem x_test (h : te σ H fun x H' => ∃ k, x = .bl k ∧ Qb k H') : tTest te σ H Qb := h
theorem x_tB (h : te σ H fun x H' => ∃ k, x = .bl k ∧ Qb k H') : tB te σ H Qb := h
theorem x_isB {k : Bool} (h : Qb k H) : ∃ k', V.bl k = .bl k' ∧ Qb k' H := ⟨k, rfl, h⟩
theorem x_isB' {k : Bool} {P : Bool → Prop} (h : P k) : ∃ k', V.bl k = .bl k' ∧ P k' := ⟨k, rfl, h⟩
theorem x_not (h : tt σ H fun c H1 => Qb (!c) H1) : tNot tt σ H Qb := h
theorem x_and (h : tt σ H fun c H1 => if c = true then tu σ H1 Qb else Qb false H1) : tAnd tt tu σ H Qb := h
theorem x_or (h : tt σ H fun c H1 => if c = true then Qb true H1 else tu σ H1 Qb) : tOr tt tu σ H Qb := h
theorem x_andV (h : ta σ H fun x H1 => ∃ c, x = .bl c ∧ if c = true then tb σ H1 Q else Q (.bl false) H1) : tAndV ta tb σ H Q := h
theorem x_orV (h : ta σ H fun x H1 => ∃ c, x = .bl c ∧ if c = true then Q (.bl true) H1 else tb σ H1 Q) : tOrV ta tb σ H Q := h
theorem x_notV (h : ta σ H fun x H1 => ∃ c, x = .bl c ∧ Q (.bl (!c)) H1) : tNotV ta σ H Q := h
theorem x_chain {r r' : R2} (h : ta σ H fun x H1 => tb σ H1 fun y H2 => r x y H2 fun z H3 => ∃ k, z = .bl k ∧ (if k = true then tc σ H3 fun w' H4 => r' y w' H4 Q else Q (.bl false) H3)) : tChain r r' ta tb tc σ H Q := h
theorem x_nil (h : Qa [] H) : tNil σ H Qa := h
theorem x_cons (h : ta σ H fun x H1 => a1 σ H1 fun xs H2 => Qa (x :: xs) H2) : tCons ta a1 σ H Qa := h
theorem x_cb {r : CR} (h : a1 σ H fun vs H1 => r vs H1 Q) : tCB r a1 σ H Q := h
theorem x_call {sp : Sp} {E : XK} (h : a1 σ H fun vs H1 => sp (vs ++ []) H1 Q E) : tCall sp [] E a1 σ H Q := h
def AlL (Q : VK) (xs : List V) (H : Hp) : Prop := xs.length ≤ sizeLine ∧ ∀ p, H p = none → Q (.ref p) (upd H p (.lst xs))
def AlT (Q : VK) (xs : List V) (H : Hp) : Prop := xs.length ≤ sizeLine ∧ ∀ p, H p = none → Q (.ref p) (upd H p (.tup xs))
theorem x_lst (h : a1 σ H (AlL Q)) : tLst a1 σ H Q := h
theorem x_tup (h : a1 σ H (AlT Q)) : tTup a1 σ H Q := h
theorem x_abs {i : Int} (h : Q (.int (if i < 0 then -i else i)) H) : rAbs [.int i] H Q := ⟨i, rfl, h⟩
theorem x_max2 {i j : Int} (h : Q (.int (if j > i then j else i)) H) : rMax2 [.int i, .int j] H Q := ⟨i, j, rfl, h⟩
theorem x_min2 {i j : Int} (h : Q (.int (if j < i then j else i)) H) : rMin2 [.int i, .int j] H Q := ⟨i, j, rfl, h⟩
theorem x_int1 {i : Int} (h : Q (.int i) H) : rInt1 [.int i] H Q := .inl ⟨i, rfl, h⟩
theorem x_intB {k : Bool} (h : Q (.int (if k then 1 else 0)) H) : rInt1 [.bl k] H Q := .inr ⟨k, rfl, h⟩
theorem x_lenL {p : Addr} {ys : List V} (e : SqL K H p ys) (h : Q (.int ys.length) H) : rLenSeq K [.ref p] H Q := ⟨p, ys, rfl, .inl e, h⟩
theorem x_lenT {p : Addr} {ys : List V} (e : SqT K H p ys) (h : Q (.int ys.length) H) : rLenSeq K [.ref p] H Q := ⟨p, ys, rfl, .inr e, h⟩
theorem x_ixL {p : Addr} {xs : List V} {i : Int} (e : SqL K H p xs) (z : atI xs i = some v) (h : Q v H) : rIxL K (.ref p) (.int i) H Q := ⟨p, xs, i, v, rfl, rfl, e, z, h⟩
theorem x_ixT {p : Addr} {xs : List V} {i : Int} (e : SqT K H p xs) (z : atI xs i = some v) (h : Q v H) : rIxT K (.ref p) (.int i) H Q := ⟨p, xs, i, v, rfl, rfl, e, z, h⟩
theorem x_append {p : Addr} {xs : List V} (e : H p = some (.lst xs)) (z : xs.length < sizeLine) (h : Q .non (upd H p (.lst (xs ++ [v])))) : rAppend (.ref p) [v] H Q := ⟨p, xs, v, rfl, rfl, e, z, h⟩
theorem x_bmL {r : MR} {to : TE} (h : to σ H fun x H1 => tyV K "list" x H1 ∧ a1 σ H1 fun xs H2 => r x xs H2 Q) : tBM K "list" r to a1 σ H Q := h
theorem tyL {p : Addr} {xs : List V} (e : SqL K H p xs) : tyV K "list" (.ref p) H := .inl ⟨rfl, _, e⟩
theorem SqL.of {p : Addr} {xs : List V} (e : H p = some (.lst xs)) : SqL K H p xs := .inl (.inl e)
theorem SqT.of {p : Addr} {xs : List V} (e : H p = some (.tup xs)) : SqT K H p xs := .inl (.inl e)
theorem x_listOf {p : Addr} {ys : List V} (e : SqL K H p ys) (h : ∀ l, H l = none → Q (.ref l) (upd H l (.lst ys))) : rListOf K [.ref p] H Q := ⟨p, ys, rfl, .inl e, h⟩
theorem x_isi {c : V} {t u : Value} {b : Bool} (h1 : ClsV c u) (h2 : TyX K H x t) (h3 : PySem.W.kitOne K t u = some b) (h : Q (.bl b) H) : rIsi K [x, c] H Q := ⟨x, c, t, u, b, rfl, h1, h2, h3, h⟩
theorem x_ite {b : Bool} {A B : Prop} (h1 : b = true → A) (h2 : b = false → B) : if b = true then A else B := by
  cases b
  · exact (if_neg Bool.false_ne_true).symm ▸ h2 rfl
  · exact (if_pos rfl).symm ▸ h1 rfl
theorem x_iteD {c A B : Prop} {inst : Decidable c} (h1 : c → A) (h2 : ¬ c → B) : if decide c = true then A else B := x_ite (fun e => h1 (of_decide_eq_true e)) (fun e => h2 (of_decide_eq_false e))
theorem x_iteN {c A B : Prop} {inst : Decidable c} (h1 : ¬ c → A) (h2 : c → B) : if (!decide c) = true then A else B := x_ite (fun e => h1 (by simpa using e)) (fun e => h2 (by simpa using e))
theorem x_whileN {tb : TS} {W : Nat → St → Hp → Prop} {m : Nat} (h : tb { D with nx := (fun σ' H' => ∃ m', m' < m ∧ W m' σ' H'), ct := (fun σ' H' => ∃ m', m' < m ∧ W m' σ' H'), bk := D.nx } σ H) :
    ∃ N : St → Hp → Prop, (∀ σ' H', N σ' H' → ∃ m', m' < m ∧ W m' σ' H') ∧ tb { D with nx := N, ct := N, bk := D.nx } σ H := ⟨_, fun _ _ h => h, h⟩
theorem x_for {wi : TI} {tb : TS} (h : wi σ H fun J H1 => ∃ W : Nat → Nat → St → Hp → Prop, (∃ m, W 0 m σ H1) ∧ ∀ i m σ H, W i m σ H →
    (J.stop i H ∧ D.nx σ H) ∨ (J.go i H ∧ ∃ N : St → Hp → Prop, (∀ σ' H', N σ' H' → ∃ m', m' < m ∧ W (i + 1) m' σ' H') ∧ ∀ x H', J.yld i H x H' → g x σ H' fun σ2 H2 => tb { D with nx := N, ct := N, bk := D.nx } σ2 H2)) : tFor wi g tb D σ H := h
theorem x_iList {R : It → Hp → Prop} (h : te σ H fun x H1 => ∃ a, x = .ref a ∧ (∃ xs, SqL K H1 a xs) ∧ R (Itl K a) H1) : iList K te σ H R := h
theorem x_iRng1 {R : It → Hp → Prop} (h : a1 σ H fun vs H1 => ∃ j : Int, vs = [.int j] ∧ -(2 ^ 62) ≤ j ∧ j < 2 ^ 62 ∧ R (Itr 0 j.toNat) H1) : iRng1 a1 σ H R := h
theorem x_iRng2 {R : It → Hp → Prop} (h : a1 σ H fun vs H1 => ∃ i j : Int, vs = [.int i, .int j] ∧ (-(2 ^ 62) ≤ i ∧ i < 2 ^ 62 ∧ -(2 ^ 62) ≤ j ∧ j < 2 ^ 62) ∧ R (Itr i (j - i).toNat) H1) : iRng2 a1 σ H R := h
theorem x_rGt {i j : Int} (h : Q (.bl (decide (j < i))) H) : rGt (.int i) (.int j) H Q := ⟨i, j, rfl, rfl, h⟩
theorem x_rGe {i j : Int} (h : Q (.bl (decide (j ≤ i))) H) : rGe (.int i) (.int j) H Q := ⟨i, j, rfl, rfl, h⟩
theorem x_iteF {A B : Prop} (h : B) : if false = true then A else B := iteF h
theorem x_iteT {A B : Prop} (h : A) : if true = true then A else B := iteT h
theorem x_iteNT {A B : Prop} (h : B) : if (!true) = true then A else B := iteF h
theorem x_iteNF {A B : Prop} (h : A) : if (!false) = true then A else B := iteT h
theorem small {n : Nat} (h : n ≤ 100000) : n < sizeLine := Nat.lt_of_le_of_lt h (by rw [sizeLine_eq]; decide)
theorem at_get {α : Type} {xs : List α} {i : Int} {d : α} (h0 : 0 ≤ i) (h1 : i < xs.length) : atI xs i = some (xs.getD i.toNat d) := by
  have h2 : i.toNat < xs.length := by omega
  unfold atI ixN
  rw [if_pos h0, if_pos h1]
  show xs[i.toNat]? = _
  rw [List.getElem?_eq_getElem h2, List.getD_eq_getElem?_getD, List.getElem?_eq_getElem h2]
  rfl
theorem at_getI {xs : List Int} {i : Int} (h0 : 0 ≤ i) (h1 : i < xs.length) : atI (xs.map V.int) i = some (.int (xs.getD i.toNat 0)) := by
  have h2 : i.toNat < xs.length := by omega
  rw [at_get (d := .int 0) h0 (by rw [List.length_map]; exact h1), List.getD_eq_getElem?_getD, List.getD_eq_getElem?_getD, List.getElem?_map, List.getElem?_eq_getElem h2]
  rfl
theorem x_ixI {p : Addr} {xs : List Int} {i : Int} (e : H p = some (.lst (xs.map V.int))) (h0 : 0 ≤ i) (h1 : i < xs.length) (h : Q (.int (xs.getD i.toNat 0)) H) : rIxL K (.ref p) (.int i) H Q := x_ixL (SqL.of e) (at_getI h0 h1) h
theorem x_cut {t u : TS} (M : St → Hp → Prop) (h : t { D with nx := M } σ H) (k : ∀ σ' H', M σ' H' → u D σ' H') : C8.tCut t u D σ H := ⟨M, h, k⟩
theorem kt_int_int : kitB "int" "int" = some true := by decide +kernel
theorem kt_int_bool : kitB "int" "bool" = some false := by decide +kernel
theorem kt_int_str : kitB "int" "str" = some false := by decide +kernel
theorem kt_int_list : kitB "int" "list" = some false := by decide +kernel
theorem kt_int_tuple : kitB "int" "tuple" = some false := by decide +kernel
theorem kt_bool_int : kitB "bool" "int" = some true := by decide +kernel
theorem kt_bool_bool : kitB "bool" "bool" = some true := by decide +kernel
theorem kt_bool_str : kitB "bool" "str" = some false := by decide +kernel
theorem kt_bool_list : kitB "bool" "list" = some false := by decide +kernel
theorem kt_bool_tuple : kitB "bool" "tuple" = some false := by decide +kernel
theorem kt_str_int : kitB "str" "int" = some false := by decide +kernel
theorem kt_str_bool : kitB "str" "bool" = some false := by decide +kernel
theorem kt_str_str : kitB "str" "str" = some true := by decide +kernel
theorem kt_str_list : kitB "str" "list" = some false := by decide +kernel
theorem kt_str_tuple : kitB "str" "tuple" = some false := by decide +kernel
theorem kt_NoneType_int : kitB "NoneType" "int" = some false := by decide +kernel
theorem kt_NoneType_bool : kitB "NoneType" "bool" = some false := by decide +kernel
theorem kt_NoneType_str : kitB "NoneType" "str" = some false := by decide +kernel
theorem kt_NoneType_list : kitB "NoneType" "list" = some false := by decide +kernel
theorem kt_NoneType_tuple : kitB "NoneType" "tuple" = some false := by decide +kernel
theorem kt_list_int : kitB "list" "int" = some false := by decide +kernel
theorem kt_list_bool : kitB "list" "bool" = some false := by decide +kernel
theorem kt_list_str : kitB "list" "str" = some false := by decide +kernel
theorem kt_list_list : kitB "list" "list" = some true := by decide +kernel
theorem kt_list_tuple : kitB "list" "tuple" = some false := by decide +kernel
theorem kt_tuple_int : kitB "tuple" "int" = some false := by decide +kernel
theorem kt_tuple_bool : kitB "tuple" "bool" = some false := by decide +kernel
theorem kt_tuple_str : kitB "tuple" "str" = some false := by decide +kernel
theorem kt_tuple_list : kitB "tuple" "list" = some false := by decide +kernel
theorem kt_tuple_tuple : kitB "tuple" "tuple" = some true := by decide +kernel
theorem ty_lst {a : Addr} {xs : List V} (e : SqL K H a xs) : TyX K H (.ref a) (.type "list") := by
  rcases e with (h | ⟨o, h⟩) | ⟨o, n, us, h1, h2, h3, _⟩
  · exact .base (.lst h)
  · exact .base (.frz h)
  · exact .kList h1 h2
theorem ty_tup {a : Addr} {xs : List V} (e : SqT K H a xs) : TyX K H (.ref a) (.type "tuple") := by
  rcases e with (h | ⟨o, h⟩) | ⟨o, n, us, h1, h2, h3, _⟩
  · exact .base (.tup h)
  · exact .fTuple h
  · exact .kTuple h1 h2
theorem x_isi_int_int {i : Int} (q : Q (.bl true) H) : rIsi K [(.int i), .ty "int"] H Q := x_isi (.ty _) (.base (.int _)) (kit_ty kt_int_int) q
theorem x_isi_int_bool {i : Int} (q : Q (.bl false) H) : rIsi K [(.int i), .ty "bool"] H Q := x_isi (.ty _) (.base (.int _)) (kit_ty kt_int_bool) q
theorem x_isi_int_str {i : Int} (q : Q (.bl false) H) : rIsi K [(.int i), .ty "str"] H Q := x_isi (.ty _) (.base (.int _)) (kit_ty kt_int_str) q
theorem x_isi_int_list {i : Int} (q : Q (.bl false) H) : rIsi K [(.int i), .ty "list"] H Q := x_isi (.ty _) (.base (.int _)) (kit_ty kt_int_list) q
theorem x_isi_int_tuple {i : Int} (q : Q (.bl false) H) : rIsi K [(.int i), .ty "tuple"] H Q := x_isi (.ty _) (.base (.int _)) (kit_ty kt_int_tuple) q
theorem x_isi_bool_int {i : Bool} (q : Q (.bl true) H) : rIsi K [(.bl i), .ty "int"] H Q := x_isi (.ty _) (.base (.bl _)) (kit_ty kt_bool_int) q
theorem x_isi_bool_bool {i : Bool} (q : Q (.bl true) H) : rIsi K [(.bl i), .ty "bool"] H Q := x_isi (.ty _) (.base (.bl _)) (kit_ty kt_bool_bool) q
theorem x_isi_bool_str {i : Bool} (q : Q (.bl false) H) : rIsi K [(.bl i), .ty "str"] H Q := x_isi (.ty _) (.base (.bl _)) (kit_ty kt_bool_str) q
theorem x_isi_bool_list {i : Bool} (q : Q (.bl false) H) : rIsi K [(.bl i), .ty "list"] H Q := x_isi (.ty _) (.base (.bl _)) (kit_ty kt_bool_list) q
theorem x_isi_bool_tuple {i : Bool} (q : Q (.bl false) H) : rIsi K [(.bl i), .ty "tuple"] H Q := x_isi (.ty _) (.base (.bl _)) (kit_ty kt_bool_tuple) q
theorem x_isi_str_int {i : Str} (q : Q (.bl false) H) : rIsi K [(.str i), .ty "int"] H Q := x_isi (.ty _) (.base (.str _)) (kit_ty kt_str_int) q
theorem x_isi_str_bool {i : Str} (q : Q (.bl false) H) : rIsi K [(.str i), .ty "bool"] H Q := x_isi (.ty _) (.base (.str _)) (kit_ty kt_str_bool) q
theorem x_isi_str_str {i : Str} (q : Q (.bl true) H) : rIsi K [(.str i), .ty "str"] H Q := x_isi (.ty _) (.base (.str _)) (kit_ty kt_str_str) q
theorem x_isi_str_list {i : Str} (q : Q (.bl false) H) : rIsi K [(.str i), .ty "list"] H Q := x_isi (.ty _) (.base (.str _)) (kit_ty kt_str_list) q
theorem x_isi_str_tuple {i : Str} (q : Q (.bl false) H) : rIsi K [(.str i), .ty "tuple"] H Q := x_isi (.ty _) (.base (.str _)) (kit_ty kt_str_tuple) q
theorem x_isi_NoneType_int (q : Q (.bl false) H) : rIsi K [.non, .ty "int"] H Q := x_isi (.ty _) (.base .non) (kit_ty kt_NoneType_int) q
theorem x_isi_NoneType_bool (q : Q (.bl false) H) : rIsi K [.non, .ty "bool"] H Q := x_isi (.ty _) (.base .non) (kit_ty kt_NoneType_bool) q
theorem x_isi_NoneType_str (q : Q (.bl false) H) : rIsi K [.non, .ty "str"] H Q := x_isi (.ty _) (.base .non) (kit_ty kt_NoneType_str) q
theorem x_isi_NoneType_list (q : Q (.bl false) H) : rIsi K [.non, .ty "list"] H Q := x_isi (.ty _) (.base .non) (kit_ty kt_NoneType_list) q
theorem x_isi_NoneType_tuple (q : Q (.bl false) H) : rIsi K [.non, .ty "tuple"] H Q := x_isi (.ty _) (.base .non) (kit_ty kt_NoneType_tuple) q
theorem isi_list_int {a : Addr} {xs : List V} (e : SqL K H a xs) (q : Q (.bl false) H) : rIsi K [.ref a, .ty "int"] H Q := x_isi (.ty _) (ty_lst e) (kit_ty kt_list_int) q
theorem isi_list_bool {a : Addr} {xs : List V} (e : SqL K H a xs) (q : Q (.bl false) H) : rIsi K [.ref a, .ty "bool"] H Q := x_isi (.ty _) (ty_lst e) (kit_ty kt_list_bool) q
theorem isi_list_str {a : Addr} {xs : List V} (e : SqL K H a xs) (q : Q (.bl false) H) : rIsi K [.ref a, .ty "str"] H Q := x_isi (.ty _) (ty_lst e) (kit_ty kt_list_str) q
theorem isi_list_list {a : Addr} {xs : List V} (e : SqL K H a xs) (q : Q (.bl true) H) : rIsi K [.ref a, .ty "list"] H Q := x_isi (.ty _) (ty_lst e) (kit_ty kt_list_list) q
theorem isi_list_tuple {a : Addr} {xs : List V} (e : SqL K H a xs) (q : Q (.bl false) H) : rIsi K [.ref a, .ty "tuple"] H Q := x_isi (.ty _) (ty_lst e) (kit_ty kt_list_tuple) q
theorem isi_tuple_int {a : Addr} {xs : List V} (e : SqT K H a xs) (q : Q (.bl false) H) : rIsi K [.ref a, .ty "int"] H Q := x_isi (.ty _) (ty_tup e) (kit_ty kt_tuple_int) q
theorem isi_tuple_bool {a : Addr} {xs : List V} (e : SqT K H a xs) (q : Q (.bl false) H) : rIsi K [.ref a, .ty "bool"] H Q := x_isi (.ty _) (ty_tup e) (kit_ty kt_tuple_bool) q
theorem isi_tuple_str {a : Addr} {xs : List V} (e : SqT K H a xs) (q : Q (.bl false) H) : rIsi K [.ref a, .ty "str"] H Q := x_isi (.ty _) (ty_tup e) (kit_ty kt_tuple_str) q
theorem isi_tuple_list {a : Addr} {xs : List V} (e : SqT K H a xs) (q : Q (.bl false) H) : rIsi K [.ref a, .ty "list"] H Q := x_isi (.ty _) (ty_tup e) (kit_ty kt_tuple_list) q
theorem isi_tuple_tuple {a : Addr} {xs : List V} (e : SqT K H a xs) (q : Q (.bl true) H) : rIsi K [.ref a, .ty "tuple"] H Q := x_isi (.ty _) (ty_tup e) (kit_ty kt_tuple_tuple) q
theorem upd_new {a p : Addr} {o o' : HO} (h : H a = some o) (n : H p = none) : upd H p o' a = some o := by rw [upd_ne (ne_of_none h n)]; exact h
theorem same_upd {H0 H1 : Hp} {p : Addr} {o : HO} (h : Same H0 H1) (n : H0 p = none) : Same H0 (upd H1 p o) := fun b q e => by rw [upd_ne (ne_of_none e n)]; exact h b q e
theorem same_new {H0 H1 : Hp} {p : Addr} {o : HO} (h : Same H0 H1) (n : H1 p = none) : Same H0 (L2.upd H1 p o) := same_upd h (h.free n)
theorem al_lst {xs : List V} (h : ∀ p H', H p = none → Same H H' → H' p = some (.lst xs) → Q (.ref p) H') (h0 : Nat.ble xs.length 100000 = true := by rfl) : AlL Q xs H := ⟨Nat.le_of_lt (small (Nat.le_of_ble_eq_true h0)), fun p n => h p _ n (same_new (Same.refl H) n) upd_same⟩
theorem al_tup {xs : List V} (h : ∀ p H', H p = none → Same H H' → H' p = some (.tup xs) → Q (.ref p) H') (h0 : Nat.ble xs.length 100000 = true := by rfl) : AlT Q xs H := ⟨Nat.le_of_lt (small (Nat.le_of_ble_eq_true h0)), fun p n => h p _ n (same_new (Same.refl H) n) upd_same⟩
theorem al_list {p : Addr} {ys : List V} (e : SqL K H p ys) (h : ∀ p H', H p = none → Same H H' → H' p = some (.lst ys) → Q (.ref p) H') : rListOf K [.ref p] H Q := x_listOf e fun p n => h p _ n (same_new (Same.refl H) n) upd_same
theorem getD_all {P : Int → Prop} {xs : List Int} (h : ∀ x ∈ xs, P x) (h0 : P 0) (i : Nat) : P (xs.getD i 0) := by
  rw [List.getD_eq_getElem?_getD]
  cases e : xs[i]? with
  | none => exact h0
  | some v => exact h v (List.mem_of_getElem? e)
end
/-! ### turns of a walk -/
structure Turns (J : It) (n : Nat) (ok : Hp → Prop) (item : Nat → V → Hp → Hp → Prop) : Prop where
  go : ∀ i H, i < n → ok H → J.go i H
  yld : ∀ i H x H', i < n → ok H → J.yld i H x H' → item i x H H'
  stop : ∀ H, ok H → J.stop n H
section
variable {K : PySem.W.Frag} {J : It} {n : Nat} {ok : Hp → Prop} {item : Nat → V → Hp → Hp → Prop} {g : TG} {tb : TS} {D : Ends} {σ : St} {H : Hp}
theorem for_by (T : Turns J n ok item) (Pv : Nat → St → Hp → Prop) (h0 : Pv 0 σ H) (hok : ∀ i σ H, i ≤ n → Pv i σ H → ok H)
    (hs : ∀ i x σ H H', i < n → Pv i σ H → item i x H H' → g x σ H' fun σ2 H2 => tb { D with nx := Pv (i + 1), ct := Pv (i + 1), bk := D.nx } σ2 H2) (hd : ∀ σ H, Pv n σ H → D.nx σ H) :
    ∃ W : Nat → Nat → St → Hp → Prop, (∃ m, W 0 m σ H) ∧ ∀ i m σ H, W i m σ H →
      (J.stop i H ∧ D.nx σ H) ∨ (J.go i H ∧ ∃ N : St → Hp → Prop, (∀ σ' H', N σ' H' → ∃ m', m' < m ∧ W (i + 1) m' σ' H') ∧ ∀ v H', J.yld i H v H' → g v σ H' fun σ2 H2 => tb { D with nx := N, ct := N, bk := D.nx } σ2 H2) := by
  refine ⟨fun i m σ H => m = n - i ∧ i ≤ n ∧ Pv i σ H, ⟨n, rfl, Nat.zero_le _, h0⟩, ?_⟩
  rintro i m σ H ⟨rfl, hi, p⟩
  have q := hok i σ H hi p
  by_cases hlt : i < n
  · exact .inr ⟨T.go i H hlt q, Pv (i + 1), fun σ' H' p' => ⟨n - (i + 1), by omega, rfl, hlt, p'⟩, fun v H' y => hs i v σ H H' hlt p (T.yld i H v H' hlt q y)⟩
  · have e : i = n := by omega
    subst e
    exact .inl ⟨T.stop H q, hd σ H p⟩
variable {tt : TT} {te : TE} {vs : List Nat} {H1 : Hp} {A : Addr} {Qd : Hp → Prop}
theorem lc_by (T : Turns J n ok item) (Pv : Nat → Hp → Prop) (h0 : Pv 0 (upd H1 A (.lst []))) (hok : ∀ i H, i ≤ n → Pv i H → ok H)
    (hs : ∀ i x H H', i < n → Pv i H → item i x H H' → g x (wipe σ vs) H' fun σ2 H2 => wipe σ2 vs = wipe σ vs ∧ tt σ2 H2 fun b H3 =>
      if b = true then te σ2 H3 fun y H4 => ∃ acc, H4 A = some (.lst acc) ∧ acc.length < sizeLine ∧ Pv (i + 1) (upd H4 A (.lst (acc ++ [y]))) else Pv (i + 1) H3) (hd : ∀ H, Pv n H → Qd H) :
    ∃ W : Nat → Nat → Hp → Prop, (∃ m, W 0 m (upd H1 A (.lst []))) ∧ ∀ i m H, W i m H →
      (J.stop i H ∧ Qd H) ∨ (J.go i H ∧ ∃ Nx : Hp → Prop, (∀ H', Nx H' → ∃ m', m' < m ∧ W (i + 1) m' H') ∧ ∀ x H', J.yld i H x H' → g x (wipe σ vs) H' fun σ2 H2 => wipe σ2 vs = wipe σ vs ∧ tt σ2 H2 fun b H3 =>
        if b = true then te σ2 H3 fun y H4 => ∃ acc, H4 A = some (.lst acc) ∧ acc.length < sizeLine ∧ Nx (upd H4 A (.lst (acc ++ [y]))) else Nx H3) := by
  refine ⟨fun i m H => m = n - i ∧ i ≤ n ∧ Pv i H, ⟨n, rfl, Nat.zero_le _, h0⟩, ?_⟩
  rintro i m H ⟨rfl, hi, p⟩
  have q := hok i H hi p
  by_cases hlt : i < n
  · exact .inr ⟨T.go i H hlt q, Pv (i + 1), fun H' p' => ⟨n - (i + 1), by omega, rfl, hlt, p'⟩, fun v H' y => hs i v H H' hlt p (T.yld i H v H' hlt q y)⟩
  · have e : i = n := by omega
    subst e
    exact .inl ⟨T.stop H q, hd H p⟩
theorem turnsL {a : Addr} {xs : List V} : Turns (Itl K a) xs.length (fun H => SqL K H a xs) (fun i x H H' => H = H' ∧ xs[i]? = some x) where
  go := fun i H hi q => ⟨xs, xs[i], q, List.getElem?_eq_getElem hi⟩
  yld := fun i H x H' _ q y => ⟨y.1.symm, y.2 xs q⟩
  stop := fun H q => ⟨xs, q, Nat.le_refl _⟩
theorem turnsT {a : Addr} {xs : List V} : Turns (Itt K a) xs.length (fun H => SqT K H a xs) (fun i x H H' => H = H' ∧ xs[i]? = some x) where
  go := fun i H hi q => ⟨xs, xs[i], q, List.getElem?_eq_getElem hi⟩
  yld := fun i H x H' _ q y => ⟨y.1.symm, y.2 xs q⟩
  stop := fun H q => ⟨xs, q, Nat.le_refl _⟩
theorem turnsR {lo : Int} {n : Nat} : Turns (Itr lo n) n (fun _ => True) (fun i x H H' => H = H' ∧ x = .int (lo + i)) where
  go := fun i H hi _ => hi
  yld := fun i H x H' _ _ y => ⟨y.1.symm, y.2⟩
  stop := fun H _ => Nat.le_refl _
/-- a new pair stands at T -/
def Pair (x y : V) (v : V) (H H' : Hp) : Prop := ∃ T, v = .ref T ∧ H T = none ∧ Same H H' ∧ H' T = some (.tup [x, y]) ∧ ∀ b, b ≠ T → H' b = H b
theorem pair_mk {x y : V} {T : Addr} (h : H T = none) : Pair x y (.ref T) H (upd H T (.tup [x, y])) := ⟨T, rfl, h, same_new (Same.refl H) h, upd_same, fun b hb => upd_ne hb⟩
theorem turnsE {a : Addr} {xs : List V} : Turns (Ite K a) xs.length (fun H => SqL K H a xs) (fun i v H H' => ∃ x, xs[i]? = some x ∧ Pair (.int (i : Nat)) x v H H') where
  go := fun i H hi q => ⟨xs, xs[i], q, List.getElem?_eq_getElem hi⟩
  yld := fun i H v H' _ q y => by
    obtain ⟨T, x, rfl, hT, rfl, f⟩ := y
    exact ⟨x, f xs q, pair_mk hT⟩
  stop := fun H q => ⟨xs, q, Nat.le_refl _⟩
theorem turnsZ {a b : Addr} {xs ys : List V} (hl : xs.length = ys.length) : Turns (Itz K a b) xs.length (fun H => SqL K H a xs ∧ SqL K H b ys) (fun i v H H' => ∃ x y, xs[i]? = some x ∧ ys[i]? = some y ∧ Pair x y v H H') where
  go := fun i H hi q => ⟨xs, ys, xs[i], ys[i]'(by omega), q.1, q.2, List.getElem?_eq_getElem hi, List.getElem?_eq_getElem (by omega)⟩
  yld := fun i H v H' _ q y => by
    obtain ⟨T, x, y, rfl, hT, rfl, f1, f2⟩ := y
    exact ⟨x, y, f1 xs q.1, f2 ys q.2, pair_mk hT⟩
  stop := fun H q => ⟨xs, ys, q.1, q.2, .inl (Nat.le_refl _)⟩
theorem turnsZT {a b : Addr} {xs ys : List V} (hl : xs.length = ys.length) : Turns (RZ.ItzT K a b) xs.length (fun H => SqT K H a xs ∧ SqT K H b ys) (fun i v H H' => ∃ x y, xs[i]? = some x ∧ ys[i]? = some y ∧ Pair x y v H H') where
  go := fun i H hi q => ⟨xs, ys, xs[i], ys[i]'(by omega), q.1, q.2, List.getElem?_eq_getElem hi, List.getElem?_eq_getElem (by omega)⟩
  yld := fun i H v H' _ q y => by
    obtain ⟨T, x, y, rfl, hT, rfl, f1, f2⟩ := y
    exact ⟨x, y, f1 xs q.1, f2 ys q.2, pair_mk hT⟩
  stop := fun H q => ⟨xs, ys, q.1, q.2, .inl (Nat.le_refl _)⟩

/-! ### a comprehension of flat values -/
structure LcF (H1 : Hp) (A : Addr) (f : Nat → Option V) (i : Nat) (H : Hp) : Prop where
  s : Same H1 H
  o : H A = some (.lst ((List.range i).filterMap f))
theorem lcF_len (f : Nat → Option V) (i : Nat) : ((List.range i).filterMap f).length ≤ i := by
  have := List.length_filterMap_le f (List.range i)
  rwa [List.length_range] at this
theorem LcF.keep {f : Nat → Option V} {i : Nat} {Hc H4 : Hp} {y : V} (h : LcF H1 A f i Hc) (n : H1 A = none) (s : Same Hc H4) (hf : f i = some y) (hi : i ≤ 100000) :
    ∃ acc, H4 A = some (.lst acc) ∧ acc.length < sizeLine ∧ LcF H1 A f (i + 1) (upd H4 A (.lst (acc ++ [y]))) := by
  refine ⟨_, s _ _ h.o, small (Nat.le_trans (lcF_len f i) hi), same_upd (h.s.trans s) n, ?_⟩
  rw [upd_same, List.range_succ, List.filterMap_append]
  simp [hf]
theorem LcF.skip {f : Nat → Option V} {i : Nat} {Hc H4 : Hp} (h : LcF H1 A f i Hc) (s : Same Hc H4) (hf : f i = none) : LcF H1 A f (i + 1) H4 := by
  refine ⟨h.s.trans s, ?_⟩
  rw [List.range_succ, List.filterMap_append]
  simp [hf]
  exact s _ _ h.o
theorem lc_flat (f : Nat → Option V) (T : Turns J n ok item) (hok : ∀ H', Same H1 H' → ok H') (hn : H1 A = none)
    (hs : ∀ i x Hc H', i < n → LcF H1 A f i Hc → item i x Hc H' → g x (wipe σ vs) H' fun σ2 H2 => wipe σ2 vs = wipe σ vs ∧ tt σ2 H2 fun b H3 =>
      if b = true then te σ2 H3 fun y H4 => ∃ acc, H4 A = some (.lst acc) ∧ acc.length < sizeLine ∧ LcF H1 A f (i + 1) (upd H4 A (.lst (acc ++ [y]))) else LcF H1 A f (i + 1) H3)
    (hd : ∀ H, Same H1 H → H A = some (.lst ((List.range n).filterMap f)) → Qd H) :
    ∃ W : Nat → Nat → Hp → Prop, (∃ m, W 0 m (upd H1 A (.lst []))) ∧ ∀ i m H, W i m H →
      (J.stop i H ∧ Qd H) ∨ (J.go i H ∧ ∃ Nx : Hp → Prop, (∀ H', Nx H' → ∃ m', m' < m ∧ W (i + 1) m' H') ∧ ∀ x H', J.yld i H x H' → g x (wipe σ vs) H' fun σ2 H2 => wipe σ2 vs = wipe σ vs ∧ tt σ2 H2 fun b H3 =>
        if b = true then te σ2 H3 fun y H4 => ∃ acc, H4 A = some (.lst acc) ∧ acc.length < sizeLine ∧ Nx (upd H4 A (.lst (acc ++ [y]))) else Nx H3) :=
  lc_by T (LcF H1 A f) ⟨same_new (Same.refl H1) hn, upd_same⟩ (fun i H _ p => hok H p.s) hs (fun H p => hd H p.s p.o)
end

/-! ### data -/
section
variable {K : PySem.W.Frag} {H H' : Hp}
theorem seqT_same {a : Addr} {xs : List V} (e : Same H H') (h : SqT K H a xs) : SqT K H' a xs := by
  rcases h with (h | ⟨o, h⟩) | h
  · exact .inl (.inl (e _ _ h))
  · exact .inl (.inr ⟨o, e _ _ h⟩)
  · exact .inr h
mutual
theorem dp_same (e : Same H H') : ∀ {v : V} {d : PyData}, Dp K H v d → Dp K H' v d
  | _, _, .non => .non
  | _, _, .bl b => .bl b
  | _, _, .int i => .int i
  | _, _, .str x => .str x
  | _, _, .lst h a => .lst (e.seq h) (dpAll_same e a)
  | _, _, .tup h a => .tup (seqT_same e h) (dpAll_same e a)
theorem dpAll_same (e : Same H H') : ∀ {vs : List V} {ds : List PyData}, DpAll K H vs ds → DpAll K H' vs ds
  | _, _, .nil => .nil
  | _, _, .cons a b => .cons (dp_same e a) (dpAll_same e b)
end
theorem dpAll_len : ∀ {vs : List V} {ds : List PyData}, DpAll K H vs ds → vs.length = ds.length
  | _, _, .nil => rfl
  | _, _, .cons _ b => congrArg Nat.succ (dpAll_len b)
theorem dpAll_get : ∀ {vs : List V} {ds : List PyData} {i : Nat} {v : V}, DpAll K H vs ds → vs[i]? = some v → ∃ d, ds[i]? = some d ∧ Dp K H v d
  | _, _, i, _, .nil, e => by simp at e
  | _, _, 0, _, .cons a _, e => by simp at e; subst e; exact ⟨_, rfl, a⟩
  | _, _, i + 1, _, .cons _ b, e => by
    obtain ⟨d, h1, h2⟩ := dpAll_get (i := i) b (by simpa using e)
    exact ⟨d, by simpa using h1, h2⟩
theorem dpAll_get' : ∀ {vs : List V} {ds : List PyData} {i : Nat} {d : PyData}, DpAll K H vs ds → ds[i]? = some d → ∃ v, vs[i]? = some v ∧ Dp K H v d
  | _, _, i, _, .nil, e => by simp at e
  | _, _, 0, _, .cons a _, e => by simp at e; subst e; exact ⟨_, rfl, a⟩
  | _, _, i + 1, _, .cons _ b, e => by
    obtain ⟨v, h1, h2⟩ := dpAll_get' (i := i) b (by simpa using e)
    exact ⟨v, by simpa using h1, h2⟩
theorem dpAll_snoc : ∀ {vs : List V} {ds : List PyData} {v : V} {d : PyData}, DpAll K H vs ds → Dp K H v d → DpAll K H (vs ++ [v]) (ds ++ [d])
  | _, _, _, _, .nil, h => .cons h .nil
  | _, _, _, _, .cons a b, h => .cons a (dpAll_snoc b h)
theorem dpAll_app : ∀ {vs ws : List V} {ds es : List PyData}, DpAll K H vs ds → DpAll K H ws es → DpAll K H (vs ++ ws) (ds ++ es)
  | _, _, _, _, .nil, h => h
  | _, _, _, _, .cons a b, h => .cons a (dpAll_app b h)
theorem dpAll_set : ∀ {vs : List V} {ds : List PyData} {v : V} {d : PyData} (i : Nat), DpAll K H vs ds → Dp K H v d → DpAll K H (vs.set i v) (ds.set i d)
  | _, _, _, _, _, .nil, _ => .nil
  | _, _, _, _, 0, .cons _ b, h => .cons h b
  | _, _, _, _, i + 1, .cons a b, h => .cons a (dpAll_set i b h)
theorem dpAll_rep {v : V} {d : PyData} (h : Dp K H v d) : ∀ n, DpAll K H (List.replicate n v) (List.replicate n d)
  | 0 => .nil
  | n + 1 => by rw [List.replicate_succ, List.replicate_succ]; exact .cons h (dpAll_rep h n)
theorem dp_int {v : V} {i : Int} (h : Dp K H v (.int i)) : v = .int i := by cases h; rfl
theorem dp_bl {v : V} {i : Bool} (h : Dp K H v (.bool i)) : v = .bl i := by cases h; rfl
theorem dp_str {v : V} {i : Str} (h : Dp K H v (.str i)) : v = .str i := by cases h; rfl
theorem dp_non {v : V} (h : Dp K H v .none) : v = .non := by cases h; rfl
theorem dp_lst {v : V} {ds : List PyData} (h : Dp K H v (.list ds)) : ∃ a xs, v = .ref a ∧ SqL K H a xs ∧ DpAll K H xs ds := by cases h with | lst a b => exact ⟨_, _, rfl, a, b⟩
theorem dp_tup {v : V} {ds : List PyData} (h : Dp K H v (.tuple ds)) : ∃ a xs, v = .ref a ∧ SqT K H a xs ∧ DpAll K H xs ds := by cases h with | tup a b => exact ⟨_, _, rfl, a, b⟩
theorem dpAll_ints : ∀ {vs : List V} {ns : List Int}, DpAll K H vs (ns.map .int) → vs = ns.map V.int
  | _, [], .nil => rfl
  | _, n :: ns, .cons a b => by rw [dp_int a, dpAll_ints b]; rfl
theorem ints_dpAll : ∀ (ns : List Int), DpAll K H (ns.map V.int) (ns.map .int)
  | [] => .nil
  | n :: ns => .cons (.int n) (ints_dpAll ns)
theorem dpAll_bls : ∀ {vs : List V} {ns : List Bool}, DpAll K H vs (ns.map .bool) → vs = ns.map V.bl
  | _, [], .nil => rfl
  | _, n :: ns, .cons a b => by rw [dp_bl a, dpAll_bls b]; rfl
theorem bls_dpAll : ∀ (ns : List Bool), DpAll K H (ns.map V.bl) (ns.map .bool)
  | [] => .nil
  | n :: ns => .cons (.bl n) (bls_dpAll ns)
theorem dpAll_strs : ∀ {vs : List V} {ns : List Str}, DpAll K H vs (ns.map .str) → vs = ns.map V.str
  | _, [], .nil => rfl
  | _, n :: ns, .cons a b => by rw [dp_str a, dpAll_strs b]; rfl
theorem strs_dpAll : ∀ (ns : List Str), DpAll K H (ns.map V.str) (ns.map .str)
  | [] => .nil
  | n :: ns => .cons (.str n) (strs_dpAll ns)
theorem dp_pair {v : V} {i j : Int} (h : Dp K H v (.tuple [.int i, .int j])) : ∃ a, v = .ref a ∧ SqT K H a [.int i, .int j] := by
  obtain ⟨a, xs, rfl, h1, h2⟩ := dp_tup h
  cases h2 with
  | cons p h3 => cases h3 with
    | cons q h4 =>
      cases h4
      cases dp_int p; cases dp_int q
      exact ⟨a, rfl, h1⟩
theorem pair_dp {a : Addr} {i j : Int} (h : SqT K H a [.int i, .int j]) : Dp K H (.ref a) (.tuple [.int i, .int j]) := .tup h (.cons (.int i) (.cons (.int j) .nil))
/-- the heap without what stands at A -/
def del (H : Hp) (A : Addr) : Hp := fun b => if b = A then none else H b
theorem del_same {A : Addr} : Same (del H A) H := fun b o e => by
  unfold del at e
  by_cases c : b = A
  · rw [if_pos c] at e; cases e
  · rw [if_neg c] at e; exact e
theorem del_at {A b : Addr} {o : HO} (h : H b = some o) (n : b ≠ A) : del H A b = some o := by unfold del; rw [if_neg n]; exact h
theorem del_upd {A : Addr} {o : HO} : del (upd H A o) A = del H A := by
  funext b
  unfold del
  by_cases c : b = A
  · rw [if_pos c, if_pos c]
  · rw [if_neg c, if_neg c, upd_ne c]
theorem del_mono {A : Addr} (e : Same H H') : Same (del H A) (del H' A) := fun b o h => by
  unfold del at h ⊢
  by_cases c : b = A
  · rw [if_pos c] at h; cases h
  · rw [if_neg c] at h ⊢; exact e b o h
theorem same_del {A : Addr} (e : Same H H') (n : H A = none) : Same H (del H' A) := fun b o h => by
  unfold del
  rw [if_neg (ne_of_none h n)]; exact e b o h
end

/-! ### a comprehension of data -/
structure LcD (K : PySem.W.Frag) (H1 : Hp) (A : Addr) (f : Nat → Option PyData) (i : Nat) (H : Hp) : Prop where
  s : Same H1 H
  ex : ∃ acc, H A = some (.lst acc) ∧ DpAll K (del H A) acc ((List.range i).filterMap f)
section
variable {K : PySem.W.Frag} {J : It} {n : Nat} {ok : Hp → Prop} {item : Nat → V → Hp → Hp → Prop} {g : TG} {σ : St} {tt : TT} {te : TE} {vs : List Nat} {H1 : Hp} {A : Addr} {Qd : Hp → Prop}
theorem lcD_len (f : Nat → Option PyData) (i : Nat) : ((List.range i).filterMap f).length ≤ i := by
  have := List.length_filterMap_le f (List.range i)
  rwa [List.length_range] at this
theorem LcD.keep {f : Nat → Option PyData} {i : Nat} {Hc H4 : Hp} {y : V} {d : PyData} (h : LcD K H1 A f i Hc) (n : H1 A = none) (s : Same Hc H4) (hf : f i = some d) (hy : Dp K (del H4 A) y d) (hi : i ≤ 100000) :
    ∃ acc, H4 A = some (.lst acc) ∧ acc.length < sizeLine ∧ LcD K H1 A f (i + 1) (upd H4 A (.lst (acc ++ [y]))) := by
  obtain ⟨acc, ho, ha⟩ := h.ex
  refine ⟨acc, s _ _ ho, small (by rw [dpAll_len ha]; exact Nat.le_trans (lcD_len f i) hi), same_upd (h.s.trans s) n, acc ++ [y], upd_same, ?_⟩
  rw [del_upd, List.range_succ, List.filterMap_append]
  have e : List.filterMap f [i] = [d] := by simp [hf]
  rw [e]
  exact dpAll_snoc (dpAll_same (del_mono s) ha) hy
theorem LcD.skip {f : Nat → Option PyData} {i : Nat} {Hc H4 : Hp} (h : LcD K H1 A f i Hc) (s : Same Hc H4) (hf : f i = none) : LcD K H1 A f (i + 1) H4 := by
  obtain ⟨acc, ho, ha⟩ := h.ex
  refine ⟨h.s.trans s, acc, s _ _ ho, ?_⟩
  rw [List.range_succ, List.filterMap_append]
  have e : List.filterMap f [i] = [] := by simp [hf]
  rw [e, List.append_nil]
  exact dpAll_same (del_mono s) ha
theorem lc_data (f : Nat → Option PyData) (T : Turns J n ok item) (hok : ∀ H', Same H1 H' → ok H') (hn : H1 A = none)
    (hs : ∀ i x Hc H', i < n → LcD K H1 A f i Hc → item i x Hc H' → g x (wipe σ vs) H' fun σ2 H2 => wipe σ2 vs = wipe σ vs ∧ tt σ2 H2 fun b H3 =>
      if b = true then te σ2 H3 fun y H4 => ∃ acc, H4 A = some (.lst acc) ∧ acc.length < sizeLine ∧ LcD K H1 A f (i + 1) (upd H4 A (.lst (acc ++ [y]))) else LcD K H1 A f (i + 1) H3)
    (hd : ∀ H acc, Same H1 H → H A = some (.lst acc) → DpAll K (del H A) acc ((List.range n).filterMap f) → Qd H) :
    ∃ W : Nat → Nat → Hp → Prop, (∃ m, W 0 m (upd H1 A (.lst []))) ∧ ∀ i m H, W i m H →
      (J.stop i H ∧ Qd H) ∨ (J.go i H ∧ ∃ Nx : Hp → Prop, (∀ H', Nx H' → ∃ m', m' < m ∧ W (i + 1) m' H') ∧ ∀ x H', J.yld i H x H' → g x (wipe σ vs) H' fun σ2 H2 => wipe σ2 vs = wipe σ vs ∧ tt σ2 H2 fun b H3 =>
        if b = true then te σ2 H3 fun y H4 => ∃ acc, H4 A = some (.lst acc) ∧ acc.length < sizeLine ∧ Nx (upd H4 A (.lst (acc ++ [y]))) else Nx H3) :=
  lc_by T (LcD K H1 A f) ⟨same_new (Same.refl H1) hn, [], upd_same, .nil⟩ (fun i H _ p => hok H p.s) hs (fun H p => p.ex.elim fun acc e => hd H acc p.s e.1 e.2)
end

/-! ### further steps -/
section
variable {K : PySem.W.Frag} {te : TE} {a1 : TA} {σ : St} {H : Hp} {R : It → Hp → Prop} {Qs : St → Hp → Prop} {g : TG} {u : TGs} {v : V} {r xs : List V} {n : Nat} {a : Addr}
theorem x_iEnum (h : a1 σ H fun vs H1 => ∃ a xs, vs = [.ref a] ∧ SqL K H1 a xs ∧ R (Ite K a) H1) : iEnum K a1 σ H R := h
theorem x_iZip (h : a1 σ H fun vs H1 => ∃ a b xs ys, vs = [.ref a, .ref b] ∧ SqL K H1 a xs ∧ SqL K H1 b ys ∧ R (Itz K a b) H1) : iZip K a1 σ H R := h
theorem x_iZipA (h : a1 σ H fun vs H1 => ∃ a b xs ys, vs = [.ref a, .ref b] ∧ ((SqL K H1 a xs ∧ SqL K H1 b ys ∧ R (Itz K a b) H1) ∨ (SqT K H1 a xs ∧ SqT K H1 b ys ∧ R (RZ.ItzT K a b) H1))) : RZ.iZipA K a1 σ H R := h
theorem x_iTup (h : te σ H fun x H1 => ∃ a, x = .ref a ∧ (∃ xs, SqT K H1 a xs) ∧ R (Itt K a) H1) : iTup K te σ H R := h
theorem x_gtup (e : SqT K H a xs) (l : xs.length = n) (h : u xs σ H Qs) : gTup K n u (.ref a) σ H Qs := ⟨a, xs, rfl, e, l, h⟩
theorem x_gcons (h : g v σ H fun σ' H' => u r σ' H' Qs) : gCons g u (v :: r) σ H Qs := ⟨v, r, rfl, h⟩
theorem x_gnil (h : Qs σ H) : gNil [] σ H Qs := ⟨rfl, h⟩
theorem x_gsub {to ti : TE} {t : TSet} (h : to σ H fun o H1 => ti σ H1 fun i H2 => t o i v H2 fun H3 => Qs σ H3) : gSub to ti t v σ H Qs := h
theorem x_setL {p : Addr} {xs : List V} {k : Int} {Qh : Hp → Prop} (e : H p = some (.lst xs)) (h0 : 0 ≤ k) (h1 : k < xs.length) (h : Qh (upd H p (.lst (xs.set k.toNat v)))) : rSetL (.ref p) (.int k) v H Qh := by
  refine ⟨p, xs, k, k.toNat, rfl, rfl, e, ?_, h⟩
  unfold ixN
  rw [if_pos h0, if_pos h1]
theorem x_insert {p : Addr} {xs : List V} {k : Int} {Q : VK} (e : H p = some (.lst xs)) (z : xs.length < sizeLine) (h0 : 0 ≤ k) (h1 : k < 2 ^ 63) (h : Q .non (upd H p (.lst (xs.take k.toNat ++ [v] ++ xs.drop k.toNat)))) : rInsert (.ref p) [.int k, v] H Q := ⟨p, xs, k, v, rfl, rfl, e, z, h0, h1, h⟩
theorem x_yes {Qb : Bool → Hp → Prop} (h : Qb true H) : tYes σ H Qb := h
theorem x_lc {wi : TI} {tt : TT} {te : TE} {vs : List Nat} {Q : VK} (h : wi σ H fun J H1 => ∀ D, H1 D = none → ∃ W : Nat → Nat → Hp → Prop, (∃ m, W 0 m (upd H1 D (.lst []))) ∧ ∀ i m H, W i m H →
  (J.stop i H ∧ Q (.ref D) H) ∨ (J.go i H ∧ ∃ Nx : Hp → Prop, (∀ H', Nx H' → ∃ m', m' < m ∧ W (i + 1) m' H') ∧ ∀ x H', J.yld i H x H' → g x (wipe σ vs) H' fun σ2 H2 => wipe σ2 vs = wipe σ vs ∧ tt σ2 H2 fun b H3 =>
    if b = true then te σ2 H3 fun y H4 => ∃ acc, H4 D = some (.lst acc) ∧ acc.length < sizeLine ∧ Nx (upd H4 D (.lst (acc ++ [y]))) else Nx H3)) : tLc wi g tt te vs σ H Q := h
theorem x_wipe {P : Prop} {σ' : St} (e : σ' = σ) (h : P) : σ' = σ ∧ P := ⟨e, h⟩
end
/-! ### slices, defs that are not called, windows -/
section
variable {K : PySem.W.Frag} {te : TE} {tl th : TO} {σ : St} {H : Hp} {Q : VK} {v : V}
theorem x_sl {r : V → Option Int → Option Int → Hp → VK → Prop} (h : te σ H fun x H1 => tl σ H1 fun l H2 => th σ H2 fun u H3 => r x l u H3 Q) : tSl r te tl th σ H Q := h
theorem x_nopart {Qo : Option Int → Hp → Prop} (h : Qo none H) : tNoPart σ H Qo := h
theorem x_part {Qo : Option Int → Hp → Prop} (h : te σ H fun x H1 => ∃ i, x = .int i ∧ Qo (some i) H1) : tPart te σ H Qo := h
theorem x_isI {i : Int} {P : Int → Prop} (h : P i) : ∃ j, V.int i = .int j ∧ P j := ⟨i, rfl, h⟩
theorem al_slL {a : Addr} {xs : List V} {lo hi : Option Int} (e : SqL K H a xs) (h : ∀ p H', H p = none → Same H H' → H' p = some (.lst (cutV xs lo hi)) → Q (.ref p) H') : rSlL K (.ref a) lo hi H Q := ⟨a, xs, rfl, e, fun p n => h p _ n (same_new (Same.refl H) n) upd_same⟩
theorem cutV_from {xs : List V} {i : Nat} : cutV xs (some (i : Int)) none = xs.drop i := by
  unfold cutV HT.sIx
  have h : ¬ ((i : Int) < 0) := by omega
  simp only [if_neg h, Int.toNat_natCast]
  by_cases c : i ≤ xs.length
  · rw [Nat.min_eq_left c, List.take_of_length_le]
    rw [List.length_drop]; exact Nat.le_refl _
  · have c' : xs.length ≤ i := by omega
    rw [Nat.min_eq_right c', List.drop_of_length_le c', List.drop_of_length_le (Nat.le_refl _)]
    simp
theorem al_from {a : Addr} {xs : List Int} {i : Nat} {j : Int} (e : SqL K H a (xs.map V.int)) (hj : j = i) (h : ∀ p H', H p = none → Same H H' → H' p = some (.lst ((xs.drop i).map V.int)) → Q (.ref p) H') : rSlL K (.ref a) (some j) none H Q :=
  al_slL e fun p H' n s o => h p H' n s (by subst hj; rw [cutV_from] at o; rw [List.map_drop]; exact o)
end
theorem fn_false {P : Program} {w : World} {K : PySem.W.Frag} {mg : Str → Option Value} {base : Heap} {CX : CXT} {k : Nat} {f : Addr} {fd : FuncData} {ps : List Str} : FnOk P w K mg base CX k f fd ps (fun _ _ _ _ => False) := by
  exact ⟨fun _ _ _ _ h => h.elim, fun _ _ _ _ _ _ _ _ _ _ _ _ _ h => h.elim⟩
/-- a list of windows, as data -/
def dPair (w : Int × Int) : PyData := .tuple [.int w.1, .int w.2]
def dWin (ws : List (Int × Int)) : PyData := .list (ws.map dPair)
theorem lay_win : ∀ ws : List (Int × Int), PyData.canLayAll0 (ws.map dPair) = true
  | [] => rfl
  | w :: ws => by
    show (PyData.canLay0 (dPair w) && PyData.canLayAll0 (ws.map dPair)) = true
    rw [lay_win ws]; rfl
theorem depth_win : ∀ ws : List (Int × Int), PyData.depthAll (ws.map dPair) ≤ 1
  | [] => Nat.zero_le _
  | w :: ws => by
    show max (PyData.depth (dPair w)) (PyData.depthAll (ws.map dPair)) ≤ 1
    exact Nat.max_le.mpr ⟨Nat.le_refl _, depth_win ws⟩
theorem shaped_win (ws : List (Int × Int)) : SeqAt.shaped (dWin ws) = true := by
  have h1 : (dWin ws).canLay0 = true := lay_win ws
  have h2 : (dWin ws).depth ≤ 64 := by
    show PyData.depthAll (ws.map dPair) + 1 ≤ 64
    have := depth_win ws; omega
  unfold SeqAt.shaped
  rw [h1, decide_eq_true h2]; rfl
section
variable {K : PySem.W.Frag} {H H' : Hp}
theorem win_at {v : V} {ws : List (Int × Int)} (h : Dp K H v (dWin ws)) : ∃ (a : Addr) (xs : List V), v = V.ref a ∧ SqL K H a xs ∧ xs.length = ws.length ∧ ∀ (i : Nat) (x : V), xs[i]? = some x → ∃ (w : Int × Int) (t : Addr), ws[i]? = some w ∧ x = V.ref t ∧ SqT K H t [.int w.1, .int w.2] := by
  obtain ⟨a, xs, rfl, h1, h2⟩ := dp_lst h
  refine ⟨a, xs, rfl, h1, by rw [dpAll_len h2, List.length_map], fun i x e => ?_⟩
  obtain ⟨d, e1, e2⟩ := dpAll_get h2 e
  rw [List.getElem?_map] at e1
  cases hw : ws[i]? with
  | none => rw [hw] at e1; cases e1
  | some w =>
    rw [hw] at e1
    cases e1
    obtain ⟨t, rfl, ht⟩ := dp_pair e2
    exact ⟨w, t, rfl, rfl, ht⟩
end
/-! ### list(range(..)), sorted, lists of ints as data -/
section
variable {K : PySem.W.Frag} {te ta : TE} {σ : St} {H : Hp} {Q : VK} {v : V}
def AlRg (Q : VK) (a b : Int) (H : Hp) : Prop := RgOk a b ∧ ∀ q, H q = none → Q (.ref q) (upd H q (.lst (rgV a b)))
theorem x_lstRg {tr : St → Hp → (Int → Int → Hp → Prop) → Prop} (h : tr σ H (AlRg Q)) : tLstRg tr σ H Q := h
theorem x_rg1 {R : Int → Int → Hp → Prop} (h : ta σ H fun x H1 => ∃ n, x = .int n ∧ R 0 n H1) : tRg1 ta σ H R := h
theorem rgV_nat (n : Nat) : rgV 0 (n : Int) = (List.range n).map fun (i : Nat) => V.int (i : Int) := by
  unfold rgV
  rw [show ((n : Int) - 0).toNat = n by omega]
  apply List.map_congr_left
  intro i _
  rw [show (0 : Int) + ((i : Nat) : Int) = (i : Int) by omega]
theorem al_rg {n : Nat} {j : Int} (hj : j = n) (hn : n ≤ 100000) (h : ∀ p H', H p = none → Same H H' → H' p = some (.lst ((List.range n).map fun (i : Nat) => V.int (i : Int))) → Q (.ref p) H') : AlRg Q 0 j H := by
  subst hj
  refine ⟨RgOk.of_le (by decide) (by omega) (by decide) (by omega), fun p np => h p _ np (same_new (Same.refl H) np) ?_⟩
  rw [upd_same, rgV_nat]
theorem al_sorted {a : Addr} {ns : List Int} (e : SqL K H a (ns.map V.int)) (h : ∀ (p : Addr) (ns' : List Int) (H' : Hp), H p = none → Same H H' → ns'.Perm ns → ns'.Pairwise (· ≤ ·) → H' p = some (.lst (ns'.map V.int)) → Q (.ref p) H') : rSortedI K [.ref a] H Q :=
  ⟨a, ns, rfl, e, fun ns' p pm pw np => h p ns' _ np (same_new (Same.refl H) np) pm pw upd_same⟩
end
def dInts (l : List Int) : PyData := .list (l.map .int)
theorem lay_ints : ∀ l : List Int, PyData.canLayAll0 (l.map .int) = true
  | [] => rfl
  | n :: l => by
    show (PyData.canLay0 (.int n) && PyData.canLayAll0 (l.map .int)) = true
    rw [lay_ints l]; rfl
theorem dep_ints : ∀ l : List Int, PyData.depthAll (l.map .int) = 0
  | [] => rfl
  | n :: l => by
    show max (PyData.depth (.int n)) (PyData.depthAll (l.map .int)) = 0
    rw [dep_ints l]; rfl
theorem shaped_ints (l : List Int) : SeqAt.shaped (dInts l) = true := by
  have h1 : (dInts l).canLay0 = true := lay_ints l
  have h2 : (dInts l).depth ≤ 64 := by
    show PyData.depthAll (l.map .int) + 1 ≤ 64
    rw [dep_ints]; decide
  unfold SeqAt.shaped
  rw [h1, decide_eq_true h2]; rfl
theorem eqvAll_ints : ∀ a b : List Int, PyData.eqvAll (a.map .int) (b.map .int) = decide (a = b)
  | [], [] => rfl
  | [], _ :: _ => rfl
  | _ :: _, [] => rfl
  | x :: a, y :: b => by
    show (PyData.eqv (.int x) (.int y) && PyData.eqvAll (a.map .int) (b.map .int)) = _
    rw [eqvAll_ints a b]
    by_cases c : x = y
    · by_cases d : a = b
      · simp [PyData.eqv, c, d]
      · simp [PyData.eqv, c, d]
    · simp [PyData.eqv, c]
theorem eqv_ints (a b : List Int) : PyData.eqv (dInts a) (dInts b) = decide (a = b) := eqvAll_ints a b
theorem dp_ints {K : PySem.W.Frag} {H : Hp} {a : Addr} {ns : List Int} (h : SqL K H a (ns.map V.int)) : Dp K H (.ref a) (dInts ns) := .lst h (ints_dpAll ns)
theorem inV_int (i : Int) : ∀ row : List Int, inV (.int i) (row.map V.int) = decide (i ∈ row)
  | [] => rfl
  | x :: row => by
    show (eqV (.int x) (.int i) || inV (.int i) (row.map V.int)) = _
    rw [inV_int i row]
    by_cases c : i = x
    · subst c; simp [eqV]
    · have : ¬ x = i := fun e => c e.symm
      simp [eqV, this, c]
theorem flat_int : ∀ row : List Int, (row.map V.int).all flatV = true
  | [] => rfl
  | x :: row => by
    show (flatV (.int x) && (row.map V.int).all flatV) = true
    rw [flat_int row]; rfl
theorem x_inI {K : PySem.W.Frag} {H : Hp} {Q : VK} {p : Addr} {i : Int} {row : List Int} (e : SqL K H p (row.map V.int)) (h : Q (.bl (decide (i ∈ row))) H) : rIn K false (.int i) (.ref p) H Q := ⟨p, _, rfl, .inl e, rfl, flat_int row, by rw [if_neg Bool.false_ne_true, inV_int]; exact h⟩
theorem x_notInI {K : PySem.W.Frag} {H : Hp} {Q : VK} {p : Addr} {i : Int} {row : List Int} (e : SqL K H p (row.map V.int)) (h : Q (.bl (!decide (i ∈ row))) H) : rIn K true (.int i) (.ref p) H Q := ⟨p, _, rfl, .inl e, rfl, flat_int row, by rw [if_pos rfl, inV_int]; exact h⟩
theorem hu65_of {A : Around} {k : Nat} (hr : Room k A) : A.units + 65 < cLine := by have := hr.un; omega
/-! own exceptions made without arguments, raised and caught -/
section
variable {X : Cx} {x : Str} {p pos pos' : Pos}
/-- what the top says of an own exception class without __init__ -/
structure Xc (K : PySem.W.Frag) (mg : Str → Option Value) (x : Str) : Prop where
  q : PySem.W.excIn K (He.ga K x) He.veBase "ValueError.__new__" = true
  g : mg x = some (.ref (He.ga K x))
  k : PySem.W.keepIn K (.ref (He.ga K x)) = true
  s : PySem.W.subIn K (.ref (He.ga K x)) (.type "BaseException") = some true
  t : PySem.W.typeIn K (.ref (He.ga K x)) = some (.type "type")
theorem Xc.val {K : PySem.W.Frag} {mg : Str → Option Value} (h : Xc K mg x) : ∃ u, mg x = some u ∧ RelV (.ref (He.ga K x)) u := ⟨_, h.g, rfl⟩
theorem pmk_own0 (T : Xc X.K X.mg x) (hg : Gl X x) (hdb : (x == ("__debug__" : Str)) = false := by decide) : PMk X (.Call (.Name x p) [] [] pos) (fun _ H Q => Q (.ref (He.ga X.K x)) none H) := by
  intro pins s σ H Q I h
  refine wpAny_Call_Name_kw (ld_glob I hg T.g ?_ hdb)
  refine PySem.W.callWith_K0 I.kIn T.k ?_
  show wpAny _ _ (call (.ref (He.ga X.K x)) []) _ _ _
  obtain ⟨bm, N, nm, qn, bs, hdct, sn, sub, ab, col, dd, k0, k1, k2, k3, k5, mN, hC, hN, hni, T'⟩ := exc_obj I.kIn T.q
  refine PySem.wpAny_call_exc_subT PySem.F.excBase_ValueError T' hC hN hni (fun h' e hm => ?_) (Nat.zero_le _)
  exact mk_of I hm (raises_own T.s T.t) h (I.hok.gone hm.new)
abbrev wE (E : XK) : WX := fun cls d _ H => E cls d H
def tRaise (C : Addr) (W : WX) : TS := fun _ σ H => W (.ref C) none σ H
theorem ps_raise0 {W : WX} (hc : X.calm = true) (tk : Takes X W) (T : Xc X.K X.mg x) (hg : Gl X x) (hdb : (x == ("__debug__" : Str)) = false := by decide) :
    PS X (.Raise (some (.Call (.Name x p) [] [] pos)) none pos') (tRaise (He.ga X.K x) W) := ps_raise hc tk (pmk_own0 T hg hdb)
theorem pass_tk {E : XK} (tk : Takes X (wE E)) : Passes (L2.CX X.prog X.w) X E := fun pins σ H s e s' I c => passAt tk σ pins H s e s' I c
def tTryAs (K : PySem.W.Frag) (c : Value) (i : Nat) (ts : Addr → Value → Option Addr → TS) (Wout : WX) (tb : WX → TS) : TS := fun D σ H => tb (wAs K c i ts Wout D) D σ H
def rIsX (K : PySem.W.Frag) (a : Addr) (cls : Value) (d : Option Addr) : List V → Hp → VK → Prop := fun xs H Q => ∃ D, cls = .ref D ∧ d = none ∧ ExcC K D ∧ rIsE K D a xs H Q
theorem call_isX {a : Addr} {oe : Obj} {cls : Value} {d : Option Addr} {pn : List (Addr × Obj)} (hz : Zc cls d oe) (hf : ∃ vs, oe.data = .fields vs) : CallR (X.suite a ((a, oe) :: pn)) (.builtin "isinstance") (rIsX X.K a cls d) := by
  intro pins s σ H xs us Q I r h
  obtain ⟨D, rfl, rfl, C, h⟩ := h
  exact call_isE C hz hf pins s σ H xs us Q I r h
end
section
variable {X : Cx} {CX : CXT} {k j : Nat} {sp : Sp} {E : St → XK} {x : Str} {p pos : Pos} {e : Expr} {es : List Expr} {t : TA}
theorem pe_clS (c : Cl X.prog X.w X.K X.mg X.base CX k x sp) (hr : Room j X.A) (hk : k ≤ j) (hg : Gl X x) (hx : ∀ σ, PassesAt CX X σ (E σ)) (ha : PA X (e :: es) t)
    (hdb : (x == ("__debug__" : Str)) = false := by decide) (he : starEach (e :: es) X.env = (false, eval e X.env) :: starEach es X.env := by rfl) (hpl : (backTo pos (starEach es X.env)).any (·.1) = false := by rfl) : PE X (.Call (.Name x p) (e :: es) [] pos) (tCallS sp E t) := by
  obtain ⟨f, fd, ps, h1, h2, h3, h4⟩ := c.ex
  exact pe_callS h4 (hr.mono hk) hg h1 h2 h3 hx ha hdb he hpl
theorem x_callS {σ : St} {H : Hp} {Q : VK} (h : t σ H fun vs H1 => sp vs H1 Q (E σ)) : tCallS sp E t σ H Q := h
theorem x_tryAs {K : PySem.W.Frag} {c : Value} {i : Nat} {ts : Addr → Value → Option Addr → TS} {Wout : WX} {tb : WX → TS} {D : Ends} {σ : St} {H : Hp} (h : tb (wAs K c i ts Wout D) D σ H) : tTryAs K c i ts Wout tb D σ H := h
theorem x_isX {K : PySem.W.Frag} {a D : Addr} {cv : Value} {b : Bool} {c : V} {H : Hp} {Q : VK} (C : ExcC K D) (hc : ∀ u, RelV c u → u = cv) (hk : PySem.W.kitOne K (.ref D) cv = some b) (h : Q (.bl b) H) : rIsX K a (.ref D) none [.ref a, c] H Q := ⟨D, rfl, rfl, C, c, cv, b, rfl, hc, hk, h⟩
/-- the class that is caught -/
theorem x_caught {K : PySem.W.Frag} {c cls : Value} {i : Nat} {ts : Addr → Value → Option Addr → TS} {Wout : WX} {D : Ends} {σ : St} {H : Hp} {d : Option Addr} (m : PySem.W.exmOne K cls c = some true)
    (h : ∀ a, H a = none → ts a cls d { nx := fun σ' H' => D.nx (σ'.set i none) H', rt := D.rt, bk := fun σ' H' => D.bk (σ'.set i none) H', ct := fun σ' H' => D.ct (σ'.set i none) H' } (σ.set i (some (.ref a))) H) : wAs K c i ts Wout D cls d σ H := ⟨true, m, fun _ => h, fun q => Bool.noConfusion q⟩
end
/-- what is asked of the own exception classes cs (all under SusuError alone) -/
def excCB (K : PySem.W.Frag) (D : Addr) : Bool :=
  decide (PySem.W.findIn K (.ref D) "__getattribute__" = some (some (.builtin "BaseException.__getattribute__"))) && (decide (PySem.W.findIn K (.ref D) "__getattr__" = some none) &&
  (decide (PySem.W.subIn K (.ref D) (.type "BaseException") = some true) && (PySem.W.hasDictIn K D && (decide (PySem.W.findIn K (.ref D) "__class__" = some (some (.builtin "object.__class__"))) &&
  (decide (PySem.W.specialIn K (.builtin "object.__class__") "__get__" = some (some (.builtin "getset_descriptor.__get__"))) && (decide (PySem.W.takesIn K (.builtin "object.__class__") = some true) && decide (PySem.W.mroIn K D (.type "object") = some true)))))))
theorem excCB_ok {K : PySem.W.Frag} {D : Addr} (h : excCB K D = true) : ExcC K D := by
  simp only [excCB, Bool.and_eq_true, decide_eq_true_eq] at h
  obtain ⟨h1, h2, h3, h4, h5, h6, h7, h8⟩ := h
  exact ⟨h1, h2, h3, h4, h5, h6, h7, h8⟩
def xfB (K : PySem.W.Frag) (cs : List Str) : Bool := cs.all fun x => excCB K (He.ga K x) && (decide (PySem.W.exmOne K (.ref (He.ga K x)) (.ref (He.ga K "SusuError")) = some true) && (decide (PySem.W.kitOne K (.ref (He.ga K x)) (.type "ValueError") = some true) &&
  cs.all fun y => decide (PySem.W.kitOne K (.ref (He.ga K x)) (.ref (He.ga K y)) = some (x == y))))
structure Xf (K : PySem.W.Frag) (cs : List Str) : Prop where
  c : ∀ x ∈ cs, ExcC K (He.ga K x)
  m : ∀ x ∈ cs, PySem.W.exmOne K (.ref (He.ga K x)) (.ref (He.ga K "SusuError")) = some true
  v : ∀ x ∈ cs, PySem.W.kitOne K (.ref (He.ga K x)) (.type "ValueError") = some true
  k : ∀ x ∈ cs, ∀ y ∈ cs, PySem.W.kitOne K (.ref (He.ga K x)) (.ref (He.ga K y)) = some (x == y)
theorem xf_of {K : PySem.W.Frag} {cs : List Str} (h : xfB K cs = true) : Xf K cs := by
  simp only [xfB, List.all_eq_true, Bool.and_eq_true, decide_eq_true_eq] at h
  exact ⟨fun x hx => excCB_ok (h x hx).1, fun x hx => (h x hx).2.1, fun x hx => (h x hx).2.2.1, fun x hx y hy => (h x hx).2.2.2 y hy⟩
/-- o[i] of a list, for o[i] op= e -/
theorem get_list {X : Cx} : PGet X (rIxL X.K) := by
  intro pins s σ H o i ov iv Q I ro ri h
  obtain ⟨p, xs, k, z, rfl, rfl, hq, he, q⟩ := h
  cases ro
  obtain ⟨t, rfl⟩ := ri
  obtain ⟨its, r, pl, hz⟩ := I.list hq
  obtain ⟨j, h1, h2, h3, h4, h5⟩ := atI_get he
  obtain ⟨w, ew, rw'⟩ := r.get h2
  have hl := r.length
  have hn := line63
  have fin : EP X pins σ Q w s := ⟨z, H, I, rw', q⟩
  by_cases h0 : 0 ≤ k
  · have hj : k.toNat = j := by
      rw [PySem.seqIndex_of h0 h5] at h1
      exact Option.some.inj h1
    exact PySem.wpAny_getItem_list pl.isList h0 (by omega) (by rw [hj]; simpa using ew) fin
  · have hj : (k + (its.toArray.size : Int)).toNat = j := by
      rw [PySem.seqIndex_neg (by omega) h4] at h1
      rw [List.size_toArray, ← hl]
      exact Option.some.inj h1
    exact PySem.wpAny_getItem_list_neg pl.isList (by omega) (by rw [List.size_toArray] <;> omega) (by omega) (by rw [hj]; simpa using ew) fin
theorem x_augS {to ti te : TE} {tget : V → V → Hp → VK → Prop} {tip : TIp} {tset : TSet} {D : Ends} {σ : St} {H : Hp} (h : to σ H fun o H1 => ti σ H1 fun i H2 => tget o i H2 fun x H3 => te σ H3 fun y H4 => tip x y H4 fun z H5 => tset o i z H5 fun H6 => D.nx σ H6) : tAugS to ti te tget tip tset D σ H := h
theorem x_aug {te : TE} {ti : TIp} {D : Ends} {σ : St} {H : Hp} {i : Nat} {v : V} (e : σ[i]? = some (some v)) (h : te σ H fun y H1 => ti v y H1 fun z H2 => D.nx (σ.set i (some z)) H2) : tAug i te ti D σ H := ⟨v, e, h⟩
theorem x_ipI {f : Int → Int → Int} {i j : Int} {H : Hp} {Q : VK} (h : Q (.int (f i j)) H) : ipI f (.int i) (.int j) H Q := ⟨i, j, rfl, rfl, h⟩
end Su
namespace Su
open PySem L2
local macro_rules | `(tactic| walk_at "side") => `(tactic| first | assumption | (show (0 : Int) < _; omega) | (show (0 : Int) ≤ _; omega) | (show (0 : Int) < _; split <;> omega) | (show _ ∨ _; omega) | (show _ ∧ _; omega) | exact ⟨by decide, by decide, by decide⟩ | exact ⟨by first | assumption | omega, by first | assumption | omega⟩)
local macro_rules | `(tactic| walk_at "x") => `(tactic| first
  | with_reducible refine Su.x_seq ?_ | with_reducible refine Su.x_asg ?_ | with_reducible refine Su.x_gname ?_ | with_reducible refine Su.x_drop ?_ | with_reducible refine Su.x_ret ?_ | with_reducible refine Su.x_ifS ?_
  | ((with_reducible show L2.tVar _ _ _ _); refine Su.x_var rfl ?_) | with_reducible refine Su.x_c ?_ | with_reducible refine Su.x_op ?_ | with_reducible refine Su.x_rI0 ?_ | ((with_reducible refine Su.x_rI ?_ ?_); focus walk_at "side")
  | ((with_reducible show L2.rIxL _ (L2.V.ref _) (L2.V.int _) _ _); refine Su.x_ixI (by assumption) (by first | decide | omega) (by omega) ?_) | with_reducible refine Su.x_isi_int_int ?_ | with_reducible refine Su.x_isi_int_bool ?_ | with_reducible refine Su.x_isi_int_str ?_ | with_reducible refine Su.x_isi_int_list ?_ | with_reducible refine Su.x_isi_int_tuple ?_ | with_reducible refine Su.x_isi_bool_int ?_ | with_reducible refine Su.x_isi_bool_bool ?_ | with_reducible refine Su.x_isi_bool_str ?_ | with_reducible refine Su.x_isi_bool_list ?_ | with_reducible refine Su.x_isi_bool_tuple ?_ | with_reducible refine Su.x_isi_str_int ?_ | with_reducible refine Su.x_isi_str_bool ?_ | with_reducible refine Su.x_isi_str_str ?_ | with_reducible refine Su.x_isi_str_list ?_ | with_reducible refine Su.x_isi_str_tuple ?_ | with_reducible refine Su.x_isi_NoneType_int ?_ | with_reducible refine Su.x_isi_NoneType_bool ?_ | with_reducible refine Su.x_isi_NoneType_str ?_ | with_reducible refine Su.x_isi_NoneType_list ?_ | with_reducible refine Su.x_isi_NoneType_tuple ?_ | with_reducible refine Su.x_rGt ?_ | with_reducible refine Su.x_rGe ?_ | with_reducible refine Su.x_iteF ?_ | with_reducible refine Su.x_iteT ?_ | with_reducible refine Su.x_iteNT ?_ | with_reducible refine Su.x_iteNF ?_ | with_reducible refine Su.x_eqI ?_ | with_reducible refine Su.x_neI ?_ | with_reducible refine Su.x_eqS ?_ | with_reducible refine Su.x_neS ?_ | with_reducible refine Su.x_eqB ?_ | with_reducible refine Su.x_neB ?_
  | with_reducible refine Su.x_test ?_ | with_reducible refine Su.x_tB ?_ | with_reducible refine Su.x_isB ?_ | with_reducible refine Su.x_isB' ?_ | with_reducible refine Su.x_not ?_ | with_reducible refine Su.x_and ?_ | with_reducible refine Su.x_or ?_
  | with_reducible refine Su.x_andV ?_ | with_reducible refine Su.x_orV ?_ | with_reducible refine Su.x_notV ?_ | with_reducible refine Su.x_chain ?_ | with_reducible refine Su.x_nil ?_ | with_reducible refine Su.x_cons ?_ | with_reducible refine Su.x_cb ?_ | with_reducible refine Su.x_call ?_
  | with_reducible refine Su.x_un ?_ | with_reducible refine Su.x_rU ?_ | with_reducible refine Su.x_abs ?_ | with_reducible refine Su.x_max2 ?_ | with_reducible refine Su.x_min2 ?_ | with_reducible refine Su.x_int1 ?_ | with_reducible refine Su.x_intB ?_
  | with_reducible refine Su.x_lst ?_ | with_reducible refine Su.x_tup ?_ | with_reducible refine Su.x_bmL ?_ | with_reducible refine Su.x_next ?_ | with_reducible refine Su.x_for ?_ | with_reducible refine Su.x_iList ?_ | with_reducible refine Su.x_iRng1 ?_ | with_reducible refine Su.x_iRng2 ?_ | with_reducible refine Su.x_whileN ?_ | with_reducible refine Su.x_iEnum ?_ | with_reducible refine Su.x_iZip ?_ | with_reducible refine Su.x_iZipA ?_ | with_reducible refine Su.x_iTup ?_ | with_reducible refine Su.x_gcons ?_ | with_reducible refine Su.x_gnil ?_ | with_reducible refine Su.x_gsub ?_ | with_reducible refine Su.x_yes ?_ | with_reducible refine Su.x_lc ?_ | with_reducible refine Su.x_sl ?_ | with_reducible refine Su.x_nopart ?_ | with_reducible refine Su.x_part ?_ | with_reducible refine Su.x_isI ?_ | with_reducible refine Su.x_lstRg ?_ | with_reducible refine Su.x_rg1 ?_ | with_reducible refine Su.x_augS ?_ | with_reducible refine Su.x_ipI ?_ | ((with_reducible show L2.tAug _ _ _ _ _ _); refine Su.x_aug rfl ?_) | with_reducible refine Su.x_callS ?_ | with_reducible refine Su.x_tryAs ?_)
local macro_rules | `(tactic| walk_at "xs") => `(tactic| repeat walk_at "x")
local macro_rules | `(tactic| walk_at "if") => `(tactic| first | with_reducible refine Su.x_iteD (fun c => ?_) (fun c => ?_) | with_reducible refine Su.x_iteN (fun c => ?_) (fun c => ?_) | with_reducible refine Su.x_ite (fun c => ?_) (fun c => ?_))
/-! _law_draws -/
def sp_law_draws (K : PySem.W.Frag) : Sp := fun vs H Q _ => ∃ (a : Addr) (ns : List Int) (many : Nat), vs = [.ref a, .int many] ∧ SqL K H a (ns.map V.int) ∧ ns.length ≤ 63 ∧ many ≤ 1000 ∧
  ∀ (p : Addr) (rows : List Int) (H' : Hp), H p = none → Same H H' → H' p = some (.lst (rows.map V.int)) → many ≤ rows.length → rows.length ≤ 2000 → (∀ x ∈ rows, -(10 ^ 18) < x ∧ x < 10 ^ 18) → Q (.ref p) H'
abbrev N_law_draws : List Str := ["_law_script", "_law_many", "_law_rows", "_law_mix", "_law_cell", "_law_rest"]
def t_law_draws (K : PySem.W.Frag) : TS :=
 (tSeq (tAsg (tLst tNil) (gName 2))
 (tSeq (tAsg (tC (.int 1)) (gName 3))
 (tSeq (tFor (iList K (tVar 0)) (gName 4)
 (tSeq (tAsg (tOp rMod (tOp rAdd (tOp rMul (tVar 3) (tC (.int 31))) (tVar 4)) (tC (.int 2147483647))) (gName 3))
 (tSeq (tAsg (tCB rAbs (tCons (tVar 4) tNil)) (gName 5))
 (C8.tCut (tIfS (tTest (tOp rLt (tVar 5) (tOp rPow (tC (.int 10)) (tC (.int 18)))))
 (tSeq (tDrop (tBM K "list" rAppend (tVar 2) (tCons (tVar 4) tNil)))
 (tAsg (tC (.int 0)) (gName 5)))
 tNext)
 (tWhile (tAnd (tTest (tOp rGt (tVar 5) (tC (.int 0)))) (tTest (tOp rLt (tCB (rLenSeq K) (tCons (tVar 2) tNil)) (tVar 1))))
 (tSeq (tDrop (tBM K "list" rAppend (tVar 2) (tCons (tOp rMod (tVar 5) (tC (.int 1000003))) tNil)))
 (tAsg (tOp rDiv (tVar 5) (tC (.int 1000003))) (gName 5))))))))
 (tSeq (tWhile (tTest (tOp rLt (tCB (rLenSeq K) (tCons (tVar 2) tNil)) (tVar 1)))
 (tSeq (tAsg (tOp rMod (tOp rAdd (tOp rMul (tVar 3) (tC (.int 48271))) (tC (.int 11))) (tC (.int 2147483647))) (gName 3))
 (tDrop (tBM K "list" rAppend (tVar 2) (tCons (tOp rMod (tOp rMul (tVar 3) (tVar 3)) (tC (.int 999983))) tNil)))))
 (tRet (tVar 2))))))

theorem len_law_draws {K : PySem.W.Frag} : ∀ vs H Q E, sp_law_draws K vs H Q E → vs.length = ["_law_script", "_law_many"].length := by
  rintro vs H Q E ⟨s, n, p, rfl, _⟩; rfl
structure DrawSt (H : Hp) (p : Addr) (rows : List Int) (H' : Hp) : Prop where
  s : Same H H'
  o : H' p = some (.lst (rows.map V.int))
  b : ∀ x ∈ rows, -(10 ^ 18) < x ∧ x < 10 ^ 18
theorem DrawSt.push {H : Hp} {p : Addr} {rows : List Int} {H' : Hp} (h : DrawSt H p rows H') (np : H p = none) {x : Int} (hx : -(10 ^ 18) < x ∧ x < 10 ^ 18) : DrawSt H p (rows ++ [x]) (upd H' p (.lst (rows.map V.int ++ [.int x]))) where
  s := fun b o e => by rw [upd_ne (ne_of_none e np)]; exact h.s b o e
  o := by rw [upd_same, List.map_append]; rfl
  b := fun y hy => by
    rcases List.mem_append.mp hy with q | q
    · exact h.b y q
    · cases List.mem_singleton.mp q; exact hx
theorem pure_law_draws {K : PySem.W.Frag} {vs : List V} {H : Hp} {Q : VK} {E : XK} (h : sp_law_draws K vs H Q E) : t_law_draws K { nx := fun _ H' => Q .non H', rt := Q } (start N_law_draws vs) H := by
  obtain ⟨a, ns, many, rfl, hS, hl, hm, k⟩ := h
  unfold t_law_draws
  walk_at "xs"
  refine ⟨by decide, fun p np => ?_⟩
  walk_at "xs"
  refine ⟨a, rfl, ⟨_, Same.seq (H := H) (fun b o e => by rw [upd_ne (ne_of_none e np)]; exact e) hS⟩, for_list (K := K) (a := a) (xs := ns.map V.int) (fun i σ H' => ∃ (rows : List Int) (mix : Int) (u v : Option V),
      σ = [some (.ref a), some (.int many), some (.ref p), some (.int mix), u, v] ∧ DrawSt H p rows H' ∧ rows.length ≤ i + many ∧ 0 ≤ mix ∧ mix < 2147483647)
    ⟨[], 1, none, none, rfl, ⟨fun b o e => by rw [upd_ne (ne_of_none e np)]; exact e, upd_same, fun _ h => nomatch h⟩, by simp, by decide, by decide⟩ (fun i σ H' _ ⟨_, _, _, _, _, d, _⟩ => d.s.seq hS) ?_ ?_⟩
  · rintro i y σ H1 hi ⟨rows, mix, u, v, rfl, d, hr, m0, m1⟩
    obtain ⟨z, rfl⟩ : ∃ z, y = V.int z := by
      rw [List.getElem?_map] at hi
      cases e : ns[i]? with
      | none => rw [e] at hi; cases hi
      | some z => rw [e] at hi; exact ⟨z, (Option.some.inj hi).symm⟩
    have hil : i < ns.length := by
      have := (List.getElem?_eq_some_iff.mp hi).1
      rwa [List.length_map] at this
    have hq : (0 : Int) ≤ (mix * 31 + z) % 2147483647 ∧ (mix * 31 + z) % 2147483647 < 2147483647 := ⟨Int.emod_nonneg _ (by decide), Int.emod_lt_of_pos _ (by decide)⟩
    -- the while, from any state
    have loop : ∀ (D : Ends) (rows : List Int) (rest : Int) (u : Option V) (H2 : Hp), DrawSt H p rows H2 → 0 ≤ rest → rows.length ≤ i + 1 + many → 
        (∀ rows' rest' H3, DrawSt H p rows' H3 → rows'.length ≤ i + 1 + many → D.nx [some (.ref a), some (.int many), some (.ref p), some (.int ((mix * 31 + z) % 2147483647)), u, some (.int rest')] H3) →
        tWhile (tAnd (tTest (tOp rGt (tVar 5) (tC (V.int 0)))) (tTest (tOp rLt (tCB (rLenSeq K) (tCons (tVar 2) tNil)) (tVar 1))))
            (tSeq (tDrop (tBM K "list" rAppend (tVar 2) (tCons (tOp rMod (tVar 5) (tC (V.int 1000003))) tNil)))
              (tAsg (tOp rDiv (tVar 5) (tC (V.int 1000003))) (gName 5))) D [some (.ref a), some (.int many), some (.ref p), some (.int ((mix * 31 + z) % 2147483647)), u, some (.int rest)] H2 := by
      intro D rows rest u H2 d h0 hr kk
      refine ⟨fun m σ H2 => ∃ rows rest, σ = [some (.ref a), some (.int many), some (.ref p), some (.int ((mix * 31 + z) % 2147483647)), u, some (.int rest)] ∧ DrawSt H p rows H2 ∧ 0 ≤ rest ∧ rows.length ≤ i + 1 + many ∧ m = rest.toNat, ⟨_, rows, rest, rfl, d, h0, hr, rfl⟩, ?_⟩
      rintro m σ H2 ⟨rows, rest, rfl, d, h0, hr, rfl⟩
      walk_at "xs"
      walk_at "if"
      · walk_at "xs"
        refine x_lenL (SqL.of d.o) ?_
        walk_at "xs"
        walk_at "if"
        · rename_i c1 c2
          have c2' : rows.length < many := by rw [List.length_map] at c2; exact Int.ofNat_lt.mp c2
          walk_at "xs"
          refine ⟨tyL (SqL.of d.o), ?_⟩
          walk_at "xs"
          refine x_append d.o (small (by rw [List.length_map]; omega)) ?_
          have b0 := Int.emod_nonneg rest (show (1000003 : Int) ≠ 0 by decide)
          have b1 := Int.emod_lt_of_pos rest (show (0 : Int) < 1000003 by decide)
          walk_at "xs"
          exact ⟨_, by show (rest / 1000003).toNat < rest.toNat; omega, rows ++ [rest % 1000003], rest / 1000003, rfl, d.push np ⟨by omega, by omega⟩, by omega, by rw [List.length_append]; simp; omega, rfl⟩
        · exact kk rows rest H2 d hr
      · exact kk rows rest H2 d hr
    walk_at "xs"
    refine x_cut (fun σ H2 => ∃ (rows : List Int) (rest : Int), σ = [some (.ref a), some (.int many), some (.ref p), some (.int ((mix * 31 + z) % 2147483647)), some (.int z), some (.int rest)] ∧ DrawSt H p rows H2 ∧ 0 ≤ rest ∧ rows.length ≤ i + 1 + many) ?_ ?_
    · walk_at "xs"
      walk_at "if"
      · rename_i c1
        walk_at "xs"
        refine ⟨tyL (SqL.of d.o), ?_⟩
        walk_at "xs"
        have hz : -(10 ^ 18) < z ∧ z < 10 ^ 18 := by
          by_cases z0 : z < 0
          · rw [if_pos z0] at c1; exact ⟨by have : -z < 10 ^ 18 := c1; omega, by omega⟩
          · rw [if_neg z0] at c1; exact ⟨by omega, c1⟩
        refine x_append d.o (small (by rw [List.length_map]; omega)) ?_
        walk_at "xs"
        exact ⟨rows ++ [z], 0, rfl, d.push np hz, by decide, by rw [List.length_append]; simp; omega⟩
      · refine ⟨rows, _, rfl, d, ?_, by omega⟩
        by_cases z0 : z < 0
        · rw [if_pos z0]; omega
        · rw [if_neg z0]; omega
    rintro _ _ ⟨rows, rest, rfl, d, h0, hr⟩
    refine loop _ rows rest _ _ d h0 hr fun rows' rest' H3 d3 h3 => ?_
    exact ⟨rows', _, _, _, rfl, d3, h3, hq.1, hq.2⟩
  · rintro σ H1 ⟨rows, mix, u, v, rfl, d, hr, m0, m1⟩
    rw [List.length_map] at hr
    walk_at "xs"
    refine ⟨fun m σ H2 => ∃ (rows : List Int) (mix : Int), σ = [some (.ref a), some (.int many), some (.ref p), some (.int mix), u, v] ∧ DrawSt H p rows H2 ∧ rows.length ≤ 63 + many ∧ 0 ≤ mix ∧ mix < 2147483647 ∧ m = many - rows.length, ⟨_, rows, mix, rfl, d, by omega, m0, m1, rfl⟩, ?_⟩
    rintro m σ H2 ⟨rows, mix, rfl, d, hr, m0, m1, rfl⟩
    walk_at "xs"
    refine x_lenL (SqL.of d.o) ?_
    walk_at "xs"
    walk_at "if"
    · rename_i c2
      have c2' : rows.length < many := by rw [List.length_map] at c2; exact Int.ofNat_lt.mp c2
      have hq : (0 : Int) ≤ (mix * 48271 + 11) % 2147483647 ∧ (mix * 48271 + 11) % 2147483647 < 2147483647 := ⟨Int.emod_nonneg _ (by decide), Int.emod_lt_of_pos _ (by decide)⟩
      walk_at "xs"
      refine ⟨tyL (SqL.of d.o), ?_⟩
      walk_at "xs"
      refine x_append d.o (small (by rw [List.length_map]; omega)) ?_
      have b0 := Int.emod_nonneg ((mix * 48271 + 11) % 2147483647 * ((mix * 48271 + 11) % 2147483647)) (show (999983 : Int) ≠ 0 by decide)
      have b1 := Int.emod_lt_of_pos ((mix * 48271 + 11) % 2147483647 * ((mix * 48271 + 11) % 2147483647)) (show (0 : Int) < 999983 by decide)
      exact ⟨_, by show many - (rows.length + 1) < many - rows.length; omega, rows ++ [_], _, rfl, d.push np ⟨by omega, by omega⟩, by rw [List.length_append]; simp; omega, hq.1, hq.2, by rw [List.length_append]; rfl⟩
    · rename_i c2
      have c2' : many ≤ rows.length := by
        rw [List.length_map] at c2
        omega
      walk_at "xs"
      exact k p rows H2 np d.s d.o c2' (by omega) d.b

end Su
namespace Su
open PySem L2
local macro_rules | `(tactic| walk_at "side") => `(tactic| first | assumption | (show (0 : Int) < _; omega) | (show (0 : Int) ≤ _; omega) | (show (0 : Int) < _; split <;> omega) | (show _ ∨ _; omega) | (show _ ∧ _; omega) | exact ⟨by decide, by decide, by decide⟩ | exact ⟨by first | assumption | omega, by first | assumption | omega⟩)
local macro_rules | `(tactic| walk_at "x") => `(tactic| first
  | with_reducible refine Su.x_seq ?_ | with_reducible refine Su.x_asg ?_ | with_reducible refine Su.x_gname ?_ | with_reducible refine Su.x_drop ?_ | with_reducible refine Su.x_ret ?_ | with_reducible refine Su.x_ifS ?_
  | ((with_reducible show L2.tVar _ _ _ _); refine Su.x_var rfl ?_) | with_reducible refine Su.x_c ?_ | with_reducible refine Su.x_op ?_ | with_reducible refine Su.x_rI0 ?_ | ((with_reducible refine Su.x_rI ?_ ?_); focus walk_at "side")
  | ((with_reducible show L2.rIxL _ (L2.V.ref _) (L2.V.int _) _ _); refine Su.x_ixI (by assumption) (by first | decide | omega) (by omega) ?_) | with_reducible refine Su.x_isi_int_int ?_ | with_reducible refine Su.x_isi_int_bool ?_ | with_reducible refine Su.x_isi_int_str ?_ | with_reducible refine Su.x_isi_int_list ?_ | with_reducible refine Su.x_isi_int_tuple ?_ | with_reducible refine Su.x_isi_bool_int ?_ | with_reducible refine Su.x_isi_bool_bool ?_ | with_reducible refine Su.x_isi_bool_str ?_ | with_reducible refine Su.x_isi_bool_list ?_ | with_reducible refine Su.x_isi_bool_tuple ?_ | with_reducible refine Su.x_isi_str_int ?_ | with_reducible refine Su.x_isi_str_bool ?_ | with_reducible refine Su.x_isi_str_str ?_ | with_reducible refine Su.x_isi_str_list ?_ | with_reducible refine Su.x_isi_str_tuple ?_ | with_reducible refine Su.x_isi_NoneType_int ?_ | with_reducible refine Su.x_isi_NoneType_bool ?_ | with_reducible refine Su.x_isi_NoneType_str ?_ | with_reducible refine Su.x_isi_NoneType_list ?_ | with_reducible refine Su.x_isi_NoneType_tuple ?_ | with_reducible refine Su.x_rGt ?_ | with_reducible refine Su.x_rGe ?_ | with_reducible refine Su.x_iteF ?_ | with_reducible refine Su.x_iteT ?_ | with_reducible refine Su.x_iteNT ?_ | with_reducible refine Su.x_iteNF ?_ | with_reducible refine Su.x_eqI ?_ | with_reducible refine Su.x_neI ?_ | with_reducible refine Su.x_eqS ?_ | with_reducible refine Su.x_neS ?_ | with_reducible refine Su.x_eqB ?_ | with_reducible refine Su.x_neB ?_
  | with_reducible refine Su.x_test ?_ | with_reducible refine Su.x_tB ?_ | with_reducible refine Su.x_isB ?_ | with_reducible refine Su.x_isB' ?_ | with_reducible refine Su.x_not ?_ | with_reducible refine Su.x_and ?_ | with_reducible refine Su.x_or ?_
  | with_reducible refine Su.x_andV ?_ | with_reducible refine Su.x_orV ?_ | with_reducible refine Su.x_notV ?_ | with_reducible refine Su.x_chain ?_ | with_reducible refine Su.x_nil ?_ | with_reducible refine Su.x_cons ?_ | with_reducible refine Su.x_cb ?_ | with_reducible refine Su.x_call ?_
  | with_reducible refine Su.x_un ?_ | with_reducible refine Su.x_rU ?_ | with_reducible refine Su.x_abs ?_ | with_reducible refine Su.x_max2 ?_ | with_reducible refine Su.x_min2 ?_ | with_reducible refine Su.x_int1 ?_ | with_reducible refine Su.x_intB ?_
  | with_reducible refine Su.x_lst ?_ | with_reducible refine Su.x_tup ?_ | with_reducible refine Su.x_bmL ?_ | with_reducible refine Su.x_next ?_ | with_reducible refine Su.x_for ?_ | with_reducible refine Su.x_iList ?_ | with_reducible refine Su.x_iRng1 ?_ | with_reducible refine Su.x_iRng2 ?_ | with_reducible refine Su.x_whileN ?_ | with_reducible refine Su.x_iEnum ?_ | with_reducible refine Su.x_iZip ?_ | with_reducible refine Su.x_iZipA ?_ | with_reducible refine Su.x_iTup ?_ | with_reducible refine Su.x_gcons ?_ | with_reducible refine Su.x_gnil ?_ | with_reducible refine Su.x_gsub ?_ | with_reducible refine Su.x_yes ?_ | with_reducible refine Su.x_lc ?_ | with_reducible refine Su.x_sl ?_ | with_reducible refine Su.x_nopart ?_ | with_reducible refine Su.x_part ?_ | with_reducible refine Su.x_isI ?_ | with_reducible refine Su.x_lstRg ?_ | with_reducible refine Su.x_rg1 ?_ | with_reducible refine Su.x_augS ?_ | with_reducible refine Su.x_ipI ?_ | ((with_reducible show L2.tAug _ _ _ _ _ _); refine Su.x_aug rfl ?_) | with_reducible refine Su.x_callS ?_ | with_reducible refine Su.x_tryAs ?_)
local macro_rules | `(tactic| walk_at "xs") => `(tactic| repeat walk_at "x")
local macro_rules | `(tactic| walk_at "if") => `(tactic| first | with_reducible refine Su.x_iteD (fun c => ?_) (fun c => ?_) | with_reducible refine Su.x_iteN (fun c => ?_) (fun c => ?_) | with_reducible refine Su.x_ite (fun c => ?_) (fun c => ?_))
/-! within -/
def inAB (ws : List (Int × Int)) (a b : Int) (i : Nat) : Bool := decide (a ≤ (ws.getD i (0, 0)).1 ∧ (ws.getD i (0, 0)).2 ≤ b)
def wInN (ws : List (Int × Int)) (a b : Int) (n : Nat) : List Nat := (List.range n).filter (inAB ws a b)
def wIn (ws : List (Int × Int)) (a b : Int) : List Nat := wInN ws a b ws.length
theorem wInN_succ (ws : List (Int × Int)) (a b : Int) (n : Nat) : wInN ws a b (n + 1) = wInN ws a b n ++ (if inAB ws a b n then [n] else []) := by
  unfold wInN
  rw [List.range_succ, List.filter_append]
  congr 1
  cases h : inAB ws a b n <;> simp [h]
theorem wInN_len (ws : List (Int × Int)) (a b : Int) (n : Nat) : (wInN ws a b n).length ≤ n := by
  have := List.length_filter_le (inAB ws a b) (List.range n)
  rwa [List.length_range] at this
def nI (l : List Nat) : List V := l.map fun (i : Nat) => V.int (i : Int)
def sp_within (K : PySem.W.Frag) : Sp := fun vs H Q _ => ∃ (v : V) (ws : List (Int × Int)) (a b : Int), vs = [v, .int a, .int b] ∧ Dp K H v (dWin ws) ∧ ws.length ≤ 1000 ∧
  ∀ (p : Addr) (H' : Hp), H p = none → Same H H' → H' p = some (.lst (nI (wIn ws a b))) → Q (.ref p) H'

end Su
namespace Su
open PySem L2
local macro_rules | `(tactic| walk_at "side") => `(tactic| first | assumption | (show (0 : Int) < _; omega) | (show (0 : Int) ≤ _; omega) | (show (0 : Int) < _; split <;> omega) | (show _ ∨ _; omega) | (show _ ∧ _; omega) | exact ⟨by decide, by decide, by decide⟩ | exact ⟨by first | assumption | omega, by first | assumption | omega⟩)
local macro_rules | `(tactic| walk_at "x") => `(tactic| first
  | with_reducible refine Su.x_seq ?_ | with_reducible refine Su.x_asg ?_ | with_reducible refine Su.x_gname ?_ | with_reducible refine Su.x_drop ?_ | with_reducible refine Su.x_ret ?_ | with_reducible refine Su.x_ifS ?_
  | ((with_reducible show L2.tVar _ _ _ _); refine Su.x_var rfl ?_) | with_reducible refine Su.x_c ?_ | with_reducible refine Su.x_op ?_ | with_reducible refine Su.x_rI0 ?_ | ((with_reducible refine Su.x_rI ?_ ?_); focus walk_at "side")
  | ((with_reducible show L2.rIxL _ (L2.V.ref _) (L2.V.int _) _ _); refine Su.x_ixI (by assumption) (by first | decide | omega) (by omega) ?_) | with_reducible refine Su.x_isi_int_int ?_ | with_reducible refine Su.x_isi_int_bool ?_ | with_reducible refine Su.x_isi_int_str ?_ | with_reducible refine Su.x_isi_int_list ?_ | with_reducible refine Su.x_isi_int_tuple ?_ | with_reducible refine Su.x_isi_bool_int ?_ | with_reducible refine Su.x_isi_bool_bool ?_ | with_reducible refine Su.x_isi_bool_str ?_ | with_reducible refine Su.x_isi_bool_list ?_ | with_reducible refine Su.x_isi_bool_tuple ?_ | with_reducible refine Su.x_isi_str_int ?_ | with_reducible refine Su.x_isi_str_bool ?_ | with_reducible refine Su.x_isi_str_str ?_ | with_reducible refine Su.x_isi_str_list ?_ | with_reducible refine Su.x_isi_str_tuple ?_ | with_reducible refine Su.x_isi_NoneType_int ?_ | with_reducible refine Su.x_isi_NoneType_bool ?_ | with_reducible refine Su.x_isi_NoneType_str ?_ | with_reducible refine Su.x_isi_NoneType_list ?_ | with_reducible refine Su.x_isi_NoneType_tuple ?_ | with_reducible refine Su.x_rGt ?_ | with_reducible refine Su.x_rGe ?_ | with_reducible refine Su.x_iteF ?_ | with_reducible refine Su.x_iteT ?_ | with_reducible refine Su.x_iteNT ?_ | with_reducible refine Su.x_iteNF ?_ | with_reducible refine Su.x_eqI ?_ | with_reducible refine Su.x_neI ?_ | with_reducible refine Su.x_eqS ?_ | with_reducible refine Su.x_neS ?_ | with_reducible refine Su.x_eqB ?_ | with_reducible refine Su.x_neB ?_
  | with_reducible refine Su.x_test ?_ | with_reducible refine Su.x_tB ?_ | with_reducible refine Su.x_isB ?_ | with_reducible refine Su.x_isB' ?_ | with_reducible refine Su.x_not ?_ | with_reducible refine Su.x_and ?_ | with_reducible refine Su.x_or ?_
  | with_reducible refine Su.x_andV ?_ | with_reducible refine Su.x_orV ?_ | with_reducible refine Su.x_notV ?_ | with_reducible refine Su.x_chain ?_ | with_reducible refine Su.x_nil ?_ | with_reducible refine Su.x_cons ?_ | with_reducible refine Su.x_cb ?_ | with_reducible refine Su.x_call ?_
  | with_reducible refine Su.x_un ?_ | with_reducible refine Su.x_rU ?_ | with_reducible refine Su.x_abs ?_ | with_reducible refine Su.x_max2 ?_ | with_reducible refine Su.x_min2 ?_ | with_reducible refine Su.x_int1 ?_ | with_reducible refine Su.x_intB ?_
  | with_reducible refine Su.x_lst ?_ | with_reducible refine Su.x_tup ?_ | with_reducible refine Su.x_bmL ?_ | with_reducible refine Su.x_next ?_ | with_reducible refine Su.x_for ?_ | with_reducible refine Su.x_iList ?_ | with_reducible refine Su.x_iRng1 ?_ | with_reducible refine Su.x_iRng2 ?_ | with_reducible refine Su.x_whileN ?_ | with_reducible refine Su.x_iEnum ?_ | with_reducible refine Su.x_iZip ?_ | with_reducible refine Su.x_iZipA ?_ | with_reducible refine Su.x_iTup ?_ | with_reducible refine Su.x_gcons ?_ | with_reducible refine Su.x_gnil ?_ | with_reducible refine Su.x_gsub ?_ | with_reducible refine Su.x_yes ?_ | with_reducible refine Su.x_lc ?_ | with_reducible refine Su.x_sl ?_ | with_reducible refine Su.x_nopart ?_ | with_reducible refine Su.x_part ?_ | with_reducible refine Su.x_isI ?_ | with_reducible refine Su.x_lstRg ?_ | with_reducible refine Su.x_rg1 ?_ | with_reducible refine Su.x_augS ?_ | with_reducible refine Su.x_ipI ?_ | ((with_reducible show L2.tAug _ _ _ _ _ _); refine Su.x_aug rfl ?_) | with_reducible refine Su.x_callS ?_ | with_reducible refine Su.x_tryAs ?_)
local macro_rules | `(tactic| walk_at "xs") => `(tactic| repeat walk_at "x")
local macro_rules | `(tactic| walk_at "if") => `(tactic| first | with_reducible refine Su.x_iteD (fun c => ?_) (fun c => ?_) | with_reducible refine Su.x_iteN (fun c => ?_) (fun c => ?_) | with_reducible refine Su.x_ite (fun c => ?_) (fun c => ?_))
/-! _law_windows -/
/-- each first and last from 1 to the number -/
def WinOk (n : Nat) (ws : List (Int × Int)) : Prop := ∀ w ∈ ws, 1 ≤ w.1 ∧ w.1 ≤ n ∧ 1 ≤ w.2 ∧ w.2 ≤ n
def sp_law_windows (K : PySem.W.Frag) : Sp := fun vs H Q _ => ∃ (a : Addr) (rows : List Int) (n : Nat) (wide : Int), vs = [.ref a, .int n, .int wide] ∧ SqL K H a (rows.map V.int) ∧ 0 < n ∧ n ≤ 1000 ∧ 2 * n ≤ rows.length ∧
  ∀ (p : Addr) (ws : List (Int × Int)) (xs : List V) (H' : Hp), H p = none → Same H H' → H' p = some (.lst xs) → DpAll K (del H' p) xs (ws.map dPair) → ws.length = n → WinOk n ws → Q (.ref p) H'

end Su
namespace Su
open PySem L2
local macro_rules | `(tactic| walk_at "side") => `(tactic| first | assumption | (show (0 : Int) < _; omega) | (show (0 : Int) ≤ _; omega) | (show (0 : Int) < _; split <;> omega) | (show _ ∨ _; omega) | (show _ ∧ _; omega) | exact ⟨by decide, by decide, by decide⟩ | exact ⟨by first | assumption | omega, by first | assumption | omega⟩)
local macro_rules | `(tactic| walk_at "x") => `(tactic| first
  | with_reducible refine Su.x_seq ?_ | with_reducible refine Su.x_asg ?_ | with_reducible refine Su.x_gname ?_ | with_reducible refine Su.x_drop ?_ | with_reducible refine Su.x_ret ?_ | with_reducible refine Su.x_ifS ?_
  | ((with_reducible show L2.tVar _ _ _ _); refine Su.x_var rfl ?_) | with_reducible refine Su.x_c ?_ | with_reducible refine Su.x_op ?_ | with_reducible refine Su.x_rI0 ?_ | ((with_reducible refine Su.x_rI ?_ ?_); focus walk_at "side")
  | ((with_reducible show L2.rIxL _ (L2.V.ref _) (L2.V.int _) _ _); refine Su.x_ixI (by assumption) (by first | decide | omega) (by omega) ?_) | with_reducible refine Su.x_isi_int_int ?_ | with_reducible refine Su.x_isi_int_bool ?_ | with_reducible refine Su.x_isi_int_str ?_ | with_reducible refine Su.x_isi_int_list ?_ | with_reducible refine Su.x_isi_int_tuple ?_ | with_reducible refine Su.x_isi_bool_int ?_ | with_reducible refine Su.x_isi_bool_bool ?_ | with_reducible refine Su.x_isi_bool_str ?_ | with_reducible refine Su.x_isi_bool_list ?_ | with_reducible refine Su.x_isi_bool_tuple ?_ | with_reducible refine Su.x_isi_str_int ?_ | with_reducible refine Su.x_isi_str_bool ?_ | with_reducible refine Su.x_isi_str_str ?_ | with_reducible refine Su.x_isi_str_list ?_ | with_reducible refine Su.x_isi_str_tuple ?_ | with_reducible refine Su.x_isi_NoneType_int ?_ | with_reducible refine Su.x_isi_NoneType_bool ?_ | with_reducible refine Su.x_isi_NoneType_str ?_ | with_reducible refine Su.x_isi_NoneType_list ?_ | with_reducible refine Su.x_isi_NoneType_tuple ?_ | with_reducible refine Su.x_rGt ?_ | with_reducible refine Su.x_rGe ?_ | with_reducible refine Su.x_iteF ?_ | with_reducible refine Su.x_iteT ?_ | with_reducible refine Su.x_iteNT ?_ | with_reducible refine Su.x_iteNF ?_ | with_reducible refine Su.x_eqI ?_ | with_reducible refine Su.x_neI ?_ | with_reducible refine Su.x_eqS ?_ | with_reducible refine Su.x_neS ?_ | with_reducible refine Su.x_eqB ?_ | with_reducible refine Su.x_neB ?_
  | with_reducible refine Su.x_test ?_ | with_reducible refine Su.x_tB ?_ | with_reducible refine Su.x_isB ?_ | with_reducible refine Su.x_isB' ?_ | with_reducible refine Su.x_not ?_ | with_reducible refine Su.x_and ?_ | with_reducible refine Su.x_or ?_
  | with_reducible refine Su.x_andV ?_ | with_reducible refine Su.x_orV ?_ | with_reducible refine Su.x_notV ?_ | with_reducible refine Su.x_chain ?_ | with_reducible refine Su.x_nil ?_ | with_reducible refine Su.x_cons ?_ | with_reducible refine Su.x_cb ?_ | with_reducible refine Su.x_call ?_
  | with_reducible refine Su.x_un ?_ | with_reducible refine Su.x_rU ?_ | with_reducible refine Su.x_abs ?_ | with_reducible refine Su.x_max2 ?_ | with_reducible refine Su.x_min2 ?_ | with_reducible refine Su.x_int1 ?_ | with_reducible refine Su.x_intB ?_
  | with_reducible refine Su.x_lst ?_ | with_reducible refine Su.x_tup ?_ | with_reducible refine Su.x_bmL ?_ | with_reducible refine Su.x_next ?_ | with_reducible refine Su.x_for ?_ | with_reducible refine Su.x_iList ?_ | with_reducible refine Su.x_iRng1 ?_ | with_reducible refine Su.x_iRng2 ?_ | with_reducible refine Su.x_whileN ?_ | with_reducible refine Su.x_iEnum ?_ | with_reducible refine Su.x_iZip ?_ | with_reducible refine Su.x_iZipA ?_ | with_reducible refine Su.x_iTup ?_ | with_reducible refine Su.x_gcons ?_ | with_reducible refine Su.x_gnil ?_ | with_reducible refine Su.x_gsub ?_ | with_reducible refine Su.x_yes ?_ | with_reducible refine Su.x_lc ?_ | with_reducible refine Su.x_sl ?_ | with_reducible refine Su.x_nopart ?_ | with_reducible refine Su.x_part ?_ | with_reducible refine Su.x_isI ?_ | with_reducible refine Su.x_lstRg ?_ | with_reducible refine Su.x_rg1 ?_ | with_reducible refine Su.x_augS ?_ | with_reducible refine Su.x_ipI ?_ | ((with_reducible show L2.tAug _ _ _ _ _ _); refine Su.x_aug rfl ?_) | with_reducible refine Su.x_callS ?_ | with_reducible refine Su.x_tryAs ?_)
local macro_rules | `(tactic| walk_at "xs") => `(tactic| repeat walk_at "x")
local macro_rules | `(tactic| walk_at "if") => `(tactic| first | with_reducible refine Su.x_iteD (fun c => ?_) (fun c => ?_) | with_reducible refine Su.x_iteN (fun c => ?_) (fun c => ?_) | with_reducible refine Su.x_ite (fun c => ?_) (fun c => ?_))
/-! windows, orders, bars: the mathematics -/
theorem nodup_sub : ∀ {l m : List Nat}, l.Nodup → (∀ x ∈ l, x ∈ m) → l.length ≤ m.length
  | [], _, _, _ => Nat.zero_le _
  | x :: l, m, h, s => by
    have hx := s x (List.mem_cons_self ..)
    have h1 : x ∉ l := (List.nodup_cons.mp h).1
    have h2 := nodup_sub (l := l) (m := m.erase x) (List.nodup_cons.mp h).2 fun y hy => by
      have : y ≠ x := fun e => h1 (e ▸ hy)
      exact (List.mem_erase_of_ne this).mpr (s y (List.mem_cons_of_mem _ hy))
    rw [List.length_erase_of_mem hx] at h2
    have : 0 < m.length := List.length_pos_of_mem hx
    simp only [List.length_cons]
    omega
theorem nodup_all {row : List Nat} {n : Nat} (h : row.Nodup) (hl : row.length = n) (hb : ∀ x ∈ row, x < n) {c : Nat} (hc : c < n) : c ∈ row := by
  by_cases e : c ∈ row
  · exact e
  · exfalso
    have h1 : (c :: row).Nodup := List.nodup_cons.mpr ⟨e, h⟩
    have h2 := nodup_sub (m := List.range n) h1 fun x hx => by
      rcases List.mem_cons.mp hx with r | r
      · exact r ▸ List.mem_range.mpr hc
      · exact List.mem_range.mpr (hb x r)
    simp only [List.length_cons, List.length_range] at h2
    omega
def w1 (ws : List (Int × Int)) (i : Nat) : Int := (ws.getD i (0, 0)).1
def w2 (ws : List (Int × Int)) (i : Nat) : Int := (ws.getD i (0, 0)).2
theorem win_ok {n : Nat} {ws : List (Int × Int)} (h : WinOk n ws) {i : Nat} (hi : i < ws.length) : 1 ≤ w1 ws i ∧ w1 ws i ≤ n ∧ 1 ≤ w2 ws i ∧ w2 ws i ≤ n := by
  have e : ws.getD i (0, 0) = ws[i] := by rw [List.getD_eq_getElem?_getD, List.getElem?_eq_getElem hi]; rfl
  unfold w1 w2
  rw [e]
  exact h _ (List.getElem_mem hi)
/-- an order of the windows -/
structure IsOrder (ws : List (Int × Int)) (row : List Nat) : Prop where
  len : row.length = ws.length
  nd : row.Nodup
  lt : ∀ x ∈ row, x < ws.length
  fit : ∀ k (h : k < row.length), w1 ws row[k] ≤ (k : Int) + 1 ∧ (k : Int) + 1 ≤ w2 ws row[k]
/-- a bar -/
structure IsBar (ws : List (Int × Int)) (a b : Int) (crowd : List Nat) : Prop where
  a1 : 1 ≤ a ∧ a ≤ ws.length
  b1 : 1 ≤ b ∧ b ≤ ws.length
  inc : crowd.Pairwise (· < ·)
  mem : ∀ c ∈ crowd, c < ws.length ∧ a ≤ w1 ws c ∧ w2 ws c ≤ b
  many : max 0 (b - a + 1) < (crowd.length : Int)
theorem inc_nodup {l : List Nat} (h : l.Pairwise (· < ·)) : l.Nodup := h.imp fun h => Nat.ne_of_lt h
theorem idx_at {row : List Nat} {c : Nat} (h : c ∈ row) : ∃ k, ∃ hk : k < row.length, row[k] = c ∧ row.idxOf c = k := by
  have h1 := List.idxOf_lt_length_of_mem h
  exact ⟨_, h1, List.getElem_idxOf h1, rfl⟩
theorem no_both {ws : List (Int × Int)} {row crowd : List Nat} {a b : Int} (o : IsOrder ws row) (r : IsBar ws a b crowd) : False := by
  have hp : ∀ c ∈ crowd, a ≤ (row.idxOf c : Int) + 1 ∧ (row.idxOf c : Int) + 1 ≤ b := fun c hc => by
    obtain ⟨h1, h2, h3⟩ := r.mem c hc
    obtain ⟨k, hk, e, e2⟩ := idx_at (nodup_all o.nd o.len o.lt h1)
    have f := o.fit k hk
    rw [e] at f
    rw [e2]
    omega
  have nd : (crowd.map fun c => row.idxOf c).Nodup := by
    rw [List.nodup_iff_pairwise_ne, List.pairwise_map]
    have := List.nodup_iff_pairwise_ne.mp (inc_nodup r.inc)
    exact this.imp_of_mem fun {x y} hx hy hne he => by
      obtain ⟨k, hk, e, e2⟩ := idx_at (nodup_all o.nd o.len o.lt (r.mem x hx).1)
      obtain ⟨l, hl, f, f2⟩ := idx_at (nodup_all o.nd o.len o.lt (r.mem y hy).1)
      have : k = l := by rw [← e2, ← f2]; exact he
      subst this
      exact hne (e ▸ f)
  have hlen := nodup_sub (m := List.range' (a - 1).toNat (b - a + 1).toNat) nd fun x hx => by
    obtain ⟨c, hc, rfl⟩ := List.mem_map.mp hx
    have := hp c hc
    have a1 := r.a1
    rw [List.mem_range'_1]
    omega
  rw [List.length_map, List.length_range'] at hlen
  have := r.many
  omega
/-! ### the greedy way -/
def rdy (ws : List (Int × Int)) (row : List Nat) (t : Int) (i : Nat) : Bool := decide (w1 ws i ≤ t) && !decide (i ∈ row)
def pick (ws : List (Int × Int)) (i : Nat) : Option Nat → Option Nat
  | none => some i
  | some b => if w2 ws i < w2 ws b then some i else some b
def nextN (ws : List (Int × Int)) (row : List Nat) (t : Int) : Nat → Option Nat
  | 0 => none
  | i + 1 => if rdy ws row t i = true then pick ws i (nextN ws row t i) else nextN ws row t i
theorem nextN_none {ws : List (Int × Int)} {row : List Nat} {t : Int} : ∀ {n : Nat}, nextN ws row t n = none → ∀ i, i < n → rdy ws row t i = false
  | 0, _, i, hi => absurd hi (Nat.not_lt_zero _)
  | n + 1, h, i, hi => by
    unfold nextN at h
    by_cases c : rdy ws row t n = true
    · rw [if_pos c] at h
      cases e : nextN ws row t n with
      | none => rw [e] at h; cases h
      | some b =>
        rw [e] at h
        unfold pick at h
        simp only at h
        split at h <;> cases h
    · rw [if_neg c] at h
      by_cases q : i < n
      · exact nextN_none h i q
      · have : i = n := by omega
        rw [this]
        simpa using c
theorem nextN_some {ws : List (Int × Int)} {row : List Nat} {t : Int} : ∀ {n c : Nat}, nextN ws row t n = some c → c < n ∧ rdy ws row t c = true ∧ ∀ i, i < n → rdy ws row t i = true → w2 ws c ≤ w2 ws i ∧ (w2 ws i = w2 ws c → c ≤ i)
  | 0, _, h => by cases h
  | n + 1, c, h => by
    unfold nextN at h
    by_cases q : rdy ws row t n = true
    · rw [if_pos q] at h
      cases e : nextN ws row t n with
      | none =>
        rw [e] at h
        cases h
        refine ⟨Nat.lt_succ_self _, q, fun i hi r => ?_⟩
        by_cases z : i < n
        · rw [nextN_none e i z] at r; cases r
        · have : i = n := by omega
          subst this; exact ⟨Int.le_refl _, fun _ => Nat.le_refl _⟩
      | some b =>
        rw [e] at h
        obtain ⟨b1, b2, b3⟩ := nextN_some e
        unfold pick at h
        simp only at h
        by_cases l : w2 ws n < w2 ws b
        · rw [if_pos l] at h
          cases h
          refine ⟨Nat.lt_succ_self _, q, fun i hi r => ?_⟩
          by_cases z : i < n
          · have := (b3 i z r).1
            exact ⟨by omega, fun e => by omega⟩
          · have : i = n := by omega
            subst this; exact ⟨Int.le_refl _, fun _ => Nat.le_refl _⟩
        · rw [if_neg l] at h
          cases h
          refine ⟨by omega, b2, fun i hi r => ?_⟩
          by_cases z : i < n
          · exact b3 i z r
          · have : i = n := by omega
            subst this; exact ⟨by omega, fun _ => by omega⟩
    · rw [if_neg q] at h
      obtain ⟨b1, b2, b3⟩ := nextN_some h
      refine ⟨by omega, b2, fun i hi r => ?_⟩
      by_cases z : i < n
      · exact b3 i z r
      · have : i = n := by omega
        rw [this] at r; exact absurd r q
inductive Paper where
  | order (row : List Nat)
  | bar (a b : Int) (crowd : List Nat)
/-- how far a bar goes down: from e to the least round such that all windows from there to late lie by late -/
def downTo (ws : List (Int × Int)) (row : List Nat) (late : Int) : Nat → Nat
  | 0 => 0
  | j + 1 => if w2 ws (row.getD j 0) ≤ late then downTo ws row late j else j + 1
def barOf (ws : List (Int × Int)) (row : List Nat) (late : Int) : Paper := .bar (downTo ws row late late.toNat + 1) late (wIn ws (downTo ws row late late.toNat + 1) late)
def ordB (ws : List (Int × Int)) : Nat → List Nat → Paper
  | 0, row => .order row
  | k + 1, row => match nextN ws row ((row.length : Int) + 1) ws.length with
    | none => .bar ((row.length : Int) + 2) ws.length (wIn ws ((row.length : Int) + 2) ws.length)
    | some c => if w2 ws c < (row.length : Int) + 1 then barOf ws row (w2 ws c) else ordB ws k (row ++ [c])
def paperOf (ws : List (Int × Int)) : Paper := ordB ws ws.length []
/-- what the greedy row keeps -/
structure Greedy (ws : List (Int × Int)) (row : List Nat) : Prop where
  nd : row.Nodup
  lt : ∀ x ∈ row, x < ws.length
  fit : ∀ k (h : k < row.length), w1 ws row[k] ≤ (k : Int) + 1 ∧ (k : Int) + 1 ≤ w2 ws row[k]
  least : ∀ k (h : k < row.length) i, i < ws.length → i ∉ row.take k → w1 ws i ≤ (k : Int) + 1 → w2 ws row[k] ≤ w2 ws i
theorem greedy_nil {ws : List (Int × Int)} : Greedy ws [] := ⟨List.nodup_nil, (fun _ h => nomatch h), fun _ h => absurd h (Nat.not_lt_zero _), fun _ h => absurd h (Nat.not_lt_zero _)⟩
theorem greedy_snoc {ws : List (Int × Int)} {row : List Nat} {c : Nat} (g : Greedy ws row) (h : nextN ws row ((row.length : Int) + 1) ws.length = some c) (hl : ¬ w2 ws c < (row.length : Int) + 1) : Greedy ws (row ++ [c]) := by
  obtain ⟨c1, c2, c3⟩ := nextN_some h
  unfold rdy at c2
  simp only [Bool.and_eq_true, decide_eq_true_eq, Bool.not_eq_true', decide_eq_false_iff_not] at c2
  have at_ : ∀ k (h : k < (row ++ [c]).length), (∃ h' : k < row.length, (row ++ [c])[k] = row[k]) ∨ (k = row.length ∧ (row ++ [c])[k] = c) := fun k h => by
    by_cases q : k < row.length
    · exact .inl ⟨q, List.getElem_append_left q⟩
    · have : k = row.length := by simp at h; omega
      subst this
      exact .inr ⟨rfl, by simp⟩
  refine ⟨?_, ?_, ?_, ?_⟩
  · rw [List.nodup_append]
    refine ⟨g.nd, by simp, fun a ha b hb e => ?_⟩
    rw [List.mem_singleton] at hb
    exact c2.2 (hb ▸ e ▸ ha)
  · intro x hx
    rcases List.mem_append.mp hx with r | r
    · exact g.lt x r
    · rw [List.mem_singleton] at r; exact r ▸ c1
  · intro k hk
    rcases at_ k hk with ⟨h', e⟩ | ⟨e1, e⟩
    · rw [e]; exact g.fit k h'
    · rw [e, e1]; exact ⟨c2.1, by omega⟩
  · intro k hk i hi hn hf
    rcases at_ k hk with ⟨h', e⟩ | ⟨e1, e⟩
    · rw [e]
      refine g.least k h' i hi ?_ hf
      rw [List.take_append_of_le_length (by omega)] at hn
      exact hn
    · rw [e]
      subst e1
      rw [List.take_left'] at hn
      · refine (c3 i hi ?_).1
        unfold rdy
        simp only [Bool.and_eq_true, decide_eq_true_eq, Bool.not_eq_true', decide_eq_false_iff_not]
        exact ⟨hf, hn⟩
      · rfl
theorem filter_len (p : Nat → Bool) : ∀ l : List Nat, (l.filter p).length + (l.filter (fun x => !p x)).length = l.length
  | [] => rfl
  | x :: l => by
    have := filter_len p l
    cases h : p x <;> simp [List.filter_cons, h] <;> omega
theorem wIn_inc (ws : List (Int × Int)) (a b : Int) : (wIn ws a b).Pairwise (· < ·) := by
  unfold wIn wInN
  exact List.Pairwise.filter _ List.pairwise_lt_range
theorem wIn_mem {ws : List (Int × Int)} {a b : Int} {c : Nat} : c ∈ wIn ws a b ↔ c < ws.length ∧ a ≤ w1 ws c ∧ w2 ws c ≤ b := by
  unfold wIn wInN inAB w1 w2
  rw [List.mem_filter, List.mem_range, decide_eq_true_eq]
theorem downTo_le (ws : List (Int × Int)) (row : List Nat) (late : Int) : ∀ j, downTo ws row late j ≤ j
  | 0 => Nat.le_refl _
  | j + 1 => by
    unfold downTo
    split
    · exact Nat.le_succ_of_le (downTo_le ws row late j)
    · exact Nat.le_refl _
theorem downTo_in (ws : List (Int × Int)) (row : List Nat) (late : Int) : ∀ j k, downTo ws row late j ≤ k → k < j → w2 ws (row.getD k 0) ≤ late
  | 0, k, _, h => absurd h (Nat.not_lt_zero _)
  | j + 1, k, h1, h2 => by
    unfold downTo at h1
    by_cases c : w2 ws (row.getD j 0) ≤ late
    · rw [if_pos c] at h1
      by_cases q : k < j
      · exact downTo_in ws row late j k h1 q
      · have : k = j := by omega
        rw [this]; exact c
    · rw [if_neg c] at h1; omega
theorem downTo_stop (ws : List (Int × Int)) (row : List Nat) (late : Int) : ∀ j, downTo ws row late j = 0 ∨ ∃ k, downTo ws row late j = k + 1 ∧ late < w2 ws (row.getD k 0)
  | 0 => .inl rfl
  | j + 1 => by
    unfold downTo
    by_cases c : w2 ws (row.getD j 0) ≤ late
    · rw [if_pos c]; exact downTo_stop ws row late j
    · rw [if_neg c]; exact .inr ⟨j, rfl, by omega⟩
theorem bar_none {ws : List (Int × Int)} {row : List Nat} (ok : WinOk ws.length ws) (g : Greedy ws row) (hl : row.length < ws.length) (h : nextN ws row ((row.length : Int) + 1) ws.length = none) :
    IsBar ws ((row.length : Int) + 2) ws.length (wIn ws ((row.length : Int) + 2) ws.length) := by
  have hn := nextN_none h
  have out : ∀ i, i < ws.length → i ∉ row → (row.length : Int) + 2 ≤ w1 ws i := fun i hi hr => by
    have := hn i hi
    unfold rdy at this
    simp only [hr, decide_false, Bool.not_false, Bool.and_true, decide_eq_false_iff_not] at this
    omega
  have cnt : ws.length ≤ ((List.range ws.length).filter fun x => !decide (x ∈ row)).length + row.length := by
    have h1 := filter_len (fun x => decide (x ∈ row)) (List.range ws.length)
    have h2 : ((List.range ws.length).filter fun x => decide (x ∈ row)).length ≤ row.length := nodup_sub (List.Pairwise.filter _ List.nodup_range) fun x hx => by
      have := (List.mem_filter.mp hx).2
      simpa using this
    rw [List.length_range] at h1
    omega
  have sub : ((List.range ws.length).filter fun x => !decide (x ∈ row)).length ≤ (wIn ws ((row.length : Int) + 2) ws.length).length := nodup_sub (List.Pairwise.filter _ List.nodup_range) fun x hx => by
    obtain ⟨h1, h2⟩ := List.mem_filter.mp hx
    have h1 := List.mem_range.mp h1
    have h2 : x ∉ row := by simpa using h2
    exact wIn_mem.mpr ⟨h1, out x h1 h2, (win_ok ok h1).2.2.2⟩
  have ex : ∃ i, i < ws.length ∧ i ∉ row := by
    have : 0 < ((List.range ws.length).filter fun x => !decide (x ∈ row)).length := by omega
    obtain ⟨i, hi⟩ := List.exists_mem_of_length_pos this
    obtain ⟨h1, h2⟩ := List.mem_filter.mp hi
    exact ⟨i, List.mem_range.mp h1, by simpa using h2⟩
  obtain ⟨i, hi, hir⟩ := ex
  have o1 := out i hi hir
  have o2 := (win_ok ok hi).2.1
  exact ⟨⟨by omega, by omega⟩, ⟨by omega, by omega⟩, wIn_inc .., fun c hc => wIn_mem.mp hc, by omega⟩
theorem bar_late {ws : List (Int × Int)} {row : List Nat} {c : Nat} (ok : WinOk ws.length ws) (g : Greedy ws row) (hl : row.length < ws.length) (h : nextN ws row ((row.length : Int) + 1) ws.length = some c) (hc : w2 ws c < (row.length : Int) + 1) :
    IsBar ws (downTo ws row (w2 ws c) (w2 ws c).toNat + 1) (w2 ws c) (wIn ws (downTo ws row (w2 ws c) (w2 ws c).toNat + 1) (w2 ws c)) := by
  obtain ⟨c1, c2, c3⟩ := nextN_some h
  unfold rdy at c2
  simp only [Bool.and_eq_true, decide_eq_true_eq, Bool.not_eq_true', decide_eq_false_iff_not] at c2
  have okc := win_ok ok c1
  generalize hL : w2 ws c = L at *
  generalize he : downTo ws row L L.toNat = e
  have e1 : e ≤ L.toNat := he ▸ downTo_le ws row L L.toNat
  have e2 : ∀ k, e ≤ k → k < L.toNat → w2 ws (row.getD k 0) ≤ L := fun k a b => downTo_in ws row L L.toNat k (he ▸ a) b
  have e3 := downTo_stop ws row L L.toNat
  rw [he] at e3
  have gd : ∀ k (hk : k < row.length), row.getD k 0 = row[k] := fun k hk => by rw [List.getD_eq_getElem?_getD, List.getElem?_eq_getElem hk]; rfl
  -- a window that was not placed by round e, of a last by L, opens behind e
  have open_ : ∀ i, i < ws.length → i ∉ row.take (e - 1) → w2 ws i ≤ L → (e : Int) + 1 ≤ w1 ws i := fun i hi hr h2 => by
    have o1 := (win_ok ok hi).1
    rcases e3 with z | ⟨k, z, q⟩
    · omega
    · have hk : k < row.length := by omega
      rw [gd k hk] at q
      by_cases w : w1 ws i ≤ (k : Int) + 1
      · have := g.least k hk i hi (by rw [z] at hr; exact hr) w
        omega
      · omega
  have nd : (c :: (row.take L.toNat).drop e).Nodup := by
    rw [List.nodup_cons]
    exact ⟨fun hm => c2.2 (List.mem_of_mem_take (List.mem_of_mem_drop hm)), List.Nodup.sublist ((List.drop_sublist _ _).trans (List.take_sublist _ _)) g.nd⟩
  have sub := nodup_sub (m := wIn ws ((e : Int) + 1) L) nd fun x hx => by
    rcases List.mem_cons.mp hx with r | r
    · subst r
      exact wIn_mem.mpr ⟨c1, open_ x c1 (fun hm => c2.2 (List.mem_of_mem_take hm)) (by omega), by omega⟩
    · obtain ⟨k, hk, hx2⟩ := List.getElem_of_mem r
      rw [List.getElem_drop, List.getElem_take] at hx2
      have hk' : k < L.toNat - e := by
        rw [List.length_drop, List.length_take] at hk; omega
      have hlt : e + k < row.length := by omega
      have xl : x < ws.length := g.lt x (hx2 ▸ List.getElem_mem _)
      have wx : w2 ws x ≤ L := by
        have := e2 (e + k) (by omega) (by omega)
        rw [gd _ hlt, hx2] at this
        exact this
      refine wIn_mem.mpr ⟨xl, open_ x xl (fun hm => ?_) wx, wx⟩
      obtain ⟨j, hj, hxj⟩ := List.getElem_of_mem hm
      rw [List.getElem_take] at hxj
      have hj' : j < e - 1 := by rw [List.length_take] at hj; omega
      have := (List.nodup_iff_pairwise_ne.mp g.nd)
      rw [List.pairwise_iff_getElem] at this
      exact this j (e + k) (by omega) hlt (by omega) (hxj.trans hx2.symm)
  have ln : (c :: (row.take L.toNat).drop e).length = L.toNat - e + 1 := by
    clear e3 sub
    rw [List.length_cons, List.length_drop, List.length_take]; omega
  rw [ln] at sub
  clear e3
  exact ⟨⟨by omega, by omega⟩, ⟨by omega, by omega⟩, wIn_inc .., fun c hc => wIn_mem.mp hc, by omega⟩
def Good (ws : List (Int × Int)) : Paper → Prop
  | .order row => IsOrder ws row
  | .bar a b crowd => IsBar ws a b crowd
theorem ordB_good {ws : List (Int × Int)} (ok : WinOk ws.length ws) : ∀ k row, Greedy ws row → row.length + k = ws.length → Good ws (ordB ws k row)
  | 0, row, g, h => ⟨h, g.nd, g.lt, g.fit⟩
  | k + 1, row, g, h => by
    unfold ordB
    cases e : nextN ws row ((row.length : Int) + 1) ws.length with
    | none => exact bar_none ok g (by omega) e
    | some c =>
      show Good ws (if w2 ws c < (row.length : Int) + 1 then barOf ws row (w2 ws c) else ordB ws k (row ++ [c]))
      by_cases q : w2 ws c < (row.length : Int) + 1
      · rw [if_pos q]; exact bar_late ok g (by omega) e q
      · rw [if_neg q]; exact ordB_good ok k (row ++ [c]) (greedy_snoc g e q) (by rw [List.length_append]; simp; omega)
theorem paper_good {ws : List (Int × Int)} (ok : WinOk ws.length ws) : Good ws (paperOf ws) := ordB_good ok ws.length [] greedy_nil (by simp)

end Su
namespace Su
open PySem L2
local macro_rules | `(tactic| walk_at "side") => `(tactic| first | assumption | (show (0 : Int) < _; omega) | (show (0 : Int) ≤ _; omega) | (show (0 : Int) < _; split <;> omega) | (show _ ∨ _; omega) | (show _ ∧ _; omega) | exact ⟨by decide, by decide, by decide⟩ | exact ⟨by first | assumption | omega, by first | assumption | omega⟩)
local macro_rules | `(tactic| walk_at "x") => `(tactic| first
  | with_reducible refine Su.x_seq ?_ | with_reducible refine Su.x_asg ?_ | with_reducible refine Su.x_gname ?_ | with_reducible refine Su.x_drop ?_ | with_reducible refine Su.x_ret ?_ | with_reducible refine Su.x_ifS ?_
  | ((with_reducible show L2.tVar _ _ _ _); refine Su.x_var rfl ?_) | with_reducible refine Su.x_c ?_ | with_reducible refine Su.x_op ?_ | with_reducible refine Su.x_rI0 ?_ | ((with_reducible refine Su.x_rI ?_ ?_); focus walk_at "side")
  | ((with_reducible show L2.rIxL _ (L2.V.ref _) (L2.V.int _) _ _); refine Su.x_ixI (by assumption) (by first | decide | omega) (by omega) ?_) | with_reducible refine Su.x_isi_int_int ?_ | with_reducible refine Su.x_isi_int_bool ?_ | with_reducible refine Su.x_isi_int_str ?_ | with_reducible refine Su.x_isi_int_list ?_ | with_reducible refine Su.x_isi_int_tuple ?_ | with_reducible refine Su.x_isi_bool_int ?_ | with_reducible refine Su.x_isi_bool_bool ?_ | with_reducible refine Su.x_isi_bool_str ?_ | with_reducible refine Su.x_isi_bool_list ?_ | with_reducible refine Su.x_isi_bool_tuple ?_ | with_reducible refine Su.x_isi_str_int ?_ | with_reducible refine Su.x_isi_str_bool ?_ | with_reducible refine Su.x_isi_str_str ?_ | with_reducible refine Su.x_isi_str_list ?_ | with_reducible refine Su.x_isi_str_tuple ?_ | with_reducible refine Su.x_isi_NoneType_int ?_ | with_reducible refine Su.x_isi_NoneType_bool ?_ | with_reducible refine Su.x_isi_NoneType_str ?_ | with_reducible refine Su.x_isi_NoneType_list ?_ | with_reducible refine Su.x_isi_NoneType_tuple ?_ | with_reducible refine Su.x_rGt ?_ | with_reducible refine Su.x_rGe ?_ | with_reducible refine Su.x_iteF ?_ | with_reducible refine Su.x_iteT ?_ | with_reducible refine Su.x_iteNT ?_ | with_reducible refine Su.x_iteNF ?_ | with_reducible refine Su.x_eqI ?_ | with_reducible refine Su.x_neI ?_ | with_reducible refine Su.x_eqS ?_ | with_reducible refine Su.x_neS ?_ | with_reducible refine Su.x_eqB ?_ | with_reducible refine Su.x_neB ?_
  | with_reducible refine Su.x_test ?_ | with_reducible refine Su.x_tB ?_ | with_reducible refine Su.x_isB ?_ | with_reducible refine Su.x_isB' ?_ | with_reducible refine Su.x_not ?_ | with_reducible refine Su.x_and ?_ | with_reducible refine Su.x_or ?_
  | with_reducible refine Su.x_andV ?_ | with_reducible refine Su.x_orV ?_ | with_reducible refine Su.x_notV ?_ | with_reducible refine Su.x_chain ?_ | with_reducible refine Su.x_nil ?_ | with_reducible refine Su.x_cons ?_ | with_reducible refine Su.x_cb ?_ | with_reducible refine Su.x_call ?_
  | with_reducible refine Su.x_un ?_ | with_reducible refine Su.x_rU ?_ | with_reducible refine Su.x_abs ?_ | with_reducible refine Su.x_max2 ?_ | with_reducible refine Su.x_min2 ?_ | with_reducible refine Su.x_int1 ?_ | with_reducible refine Su.x_intB ?_
  | with_reducible refine Su.x_lst ?_ | with_reducible refine Su.x_tup ?_ | with_reducible refine Su.x_bmL ?_ | with_reducible refine Su.x_next ?_ | with_reducible refine Su.x_for ?_ | with_reducible refine Su.x_iList ?_ | with_reducible refine Su.x_iRng1 ?_ | with_reducible refine Su.x_iRng2 ?_ | with_reducible refine Su.x_whileN ?_ | with_reducible refine Su.x_iEnum ?_ | with_reducible refine Su.x_iZip ?_ | with_reducible refine Su.x_iZipA ?_ | with_reducible refine Su.x_iTup ?_ | with_reducible refine Su.x_gcons ?_ | with_reducible refine Su.x_gnil ?_ | with_reducible refine Su.x_gsub ?_ | with_reducible refine Su.x_yes ?_ | with_reducible refine Su.x_lc ?_ | with_reducible refine Su.x_sl ?_ | with_reducible refine Su.x_nopart ?_ | with_reducible refine Su.x_part ?_ | with_reducible refine Su.x_isI ?_ | with_reducible refine Su.x_lstRg ?_ | with_reducible refine Su.x_rg1 ?_ | with_reducible refine Su.x_augS ?_ | with_reducible refine Su.x_ipI ?_ | ((with_reducible show L2.tAug _ _ _ _ _ _); refine Su.x_aug rfl ?_) | with_reducible refine Su.x_callS ?_ | with_reducible refine Su.x_tryAs ?_)
local macro_rules | `(tactic| walk_at "xs") => `(tactic| repeat walk_at "x")
local macro_rules | `(tactic| walk_at "if") => `(tactic| first | with_reducible refine Su.x_iteD (fun c => ?_) (fun c => ?_) | with_reducible refine Su.x_iteN (fun c => ?_) (fun c => ?_) | with_reducible refine Su.x_ite (fun c => ?_) (fun c => ?_))
/-! _law_same: two data alike -/
mutual
def sameD : PyData → PyData → Bool
  | .none, .none => true
  | .bool a, .bool b => a == b
  | .int i, .int j => i == j
  | .str x, .str y => x == y
  | .list xs, .list ys => sameL xs ys
  | .tuple xs, .tuple ys => sameL xs ys
  | _, _ => false
def sameL : List PyData → List PyData → Bool
  | [], [] => true
  | x :: xs, y :: ys => sameD x y && sameL xs ys
  | _, _ => false
end
mutual
def okD : PyData → Bool
  | .none => true
  | .bool _ => true
  | .int _ => true
  | .str x => PyData.strOk x
  | .list xs => decide (xs.length ≤ 1000) && okL xs
  | .tuple xs => decide (xs.length ≤ 1000) && okL xs
  | .dict _ => false
def okL : List PyData → Bool
  | [] => true
  | x :: xs => okD x && okL xs
end
mutual
theorem sameD_refl : ∀ d : PyData, okD d = true → sameD d d = true
  | .none, _ => rfl
  | .bool b, _ => by simp [sameD]
  | .int b, _ => by simp [sameD]
  | .str b, _ => by simp [sameD]
  | .list xs, h => by
    simp only [okD, Bool.and_eq_true] at h
    simp only [sameD]; exact sameL_refl xs h.2
  | .tuple xs, h => by
    simp only [okD, Bool.and_eq_true] at h
    simp only [sameD]; exact sameL_refl xs h.2
  | .dict _, h => by simp [okD] at h
theorem sameL_refl : ∀ ds : List PyData, okL ds = true → sameL ds ds = true
  | [], _ => rfl
  | d :: ds, h => by
    simp only [okL, Bool.and_eq_true] at h
    simp only [sameL, sameD_refl d h.1, sameL_refl ds h.2, Bool.and_self]
end
mutual
theorem sameD_eq : ∀ d e : PyData, sameD d e = true → d = e
  | .none, .none, _ => rfl
  | .bool a, .bool b, h => by simp [sameD] at h; rw [h]
  | .int a, .int b, h => by simp [sameD] at h; rw [h]
  | .str a, .str b, h => by simp [sameD] at h; rw [h]
  | .list xs, .list ys, h => by simp only [sameD] at h; rw [sameL_eq xs ys h]
  | .tuple xs, .tuple ys, h => by simp only [sameD] at h; rw [sameL_eq xs ys h]
  | .none, .bool _, h | .none, .int _, h | .none, .str _, h | .none, .list _, h | .none, .tuple _, h | .none, .dict _, h => by simp [sameD] at h
  | .bool _, .none, h | .bool _, .int _, h | .bool _, .str _, h | .bool _, .list _, h | .bool _, .tuple _, h | .bool _, .dict _, h => by simp [sameD] at h
  | .int _, .none, h | .int _, .bool _, h | .int _, .str _, h | .int _, .list _, h | .int _, .tuple _, h | .int _, .dict _, h => by simp [sameD] at h
  | .str _, .none, h | .str _, .bool _, h | .str _, .int _, h | .str _, .list _, h | .str _, .tuple _, h | .str _, .dict _, h => by simp [sameD] at h
  | .list _, .none, h | .list _, .bool _, h | .list _, .int _, h | .list _, .str _, h | .list _, .tuple _, h | .list _, .dict _, h => by simp [sameD] at h
  | .tuple _, .none, h | .tuple _, .bool _, h | .tuple _, .int _, h | .tuple _, .str _, h | .tuple _, .list _, h | .tuple _, .dict _, h => by simp [sameD] at h
  | .dict _, .none, h | .dict _, .bool _, h | .dict _, .int _, h | .dict _, .str _, h | .dict _, .list _, h | .dict _, .tuple _, h | .dict _, .dict _, h => by simp [sameD] at h
theorem sameL_eq : ∀ ds es : List PyData, sameL ds es = true → ds = es
  | [], [], _ => rfl
  | d :: ds, e :: es, h => by
    simp only [sameL, Bool.and_eq_true] at h
    rw [sameD_eq d e h.1, sameL_eq ds es h.2]
  | [], _ :: _, h | _ :: _, [], h => by simp [sameL] at h
end
theorem okL_get : ∀ {ds : List PyData} {i : Nat} {d : PyData}, okL ds = true → ds[i]? = some d → okD d = true
  | [], _, _, _, e => by simp at e
  | d :: ds, 0, _, h, e => by
    simp at e; subst e
    simp only [okL, Bool.and_eq_true] at h; exact h.1
  | d :: ds, i + 1, _, h, e => by
    simp only [okL, Bool.and_eq_true] at h
    exact okL_get (i := i) h.2 (by simpa using e)
theorem depth_get : ∀ {ds : List PyData} {i : Nat} {d : PyData}, ds[i]? = some d → d.depth ≤ PyData.depthAll ds
  | [], _, _, e => by simp at e
  | d :: ds, 0, _, e => by
    simp at e; subst e
    exact Nat.le_max_left _ _
  | d :: ds, i + 1, _, e => Nat.le_trans (depth_get (ds := ds) (i := i) (by simpa using e)) (Nat.le_max_right _ _)
theorem sameL_all : ∀ (ds es : List PyData), ds.length = es.length → (List.range ds.length).all (fun i => sameD (ds.getD i .none) (es.getD i .none)) = sameL ds es
  | [], [], _ => rfl
  | d :: ds, e :: es, h => by
    have ih := sameL_all ds es (Nat.succ.inj h)
    rw [List.length_cons, List.range_succ_eq_map, List.all_cons, List.all_map]
    show (sameD d e && _) = (sameD d e && sameL ds es)
    rw [← ih]
    rfl
  | [], _ :: _, h | _ :: _, [], h => by cases h
theorem sameL_len : ∀ (ds es : List PyData), ds.length ≠ es.length → sameL ds es = false
  | [], [], h => absurd rfl h
  | d :: ds, e :: es, h => by
    simp only [sameL]
    rw [sameL_len ds es (fun z => h (congrArg Nat.succ z)), Bool.and_false]
  | [], _ :: _, _ | _ :: _, [], _ => rfl
def isDB : PyData → Bool | .bool _ => true | _ => false
def isDI : PyData → Bool | .bool _ => true | .int _ => true | _ => false
def isDS : PyData → Bool | .str _ => true | _ => false
def isDL : PyData → Bool | .list _ => true | _ => false
def isDT : PyData → Bool | .tuple _ => true | _ => false
section
variable {K : PySem.W.Frag} {H : Hp} {Q : VK} {x : V} {d : PyData}
theorem isiD_bool (h : Dp K H x d) (q : Q (.bl (isDB d)) H) : rIsi K [x, .ty "bool"] H Q := by
  cases h with
  | non => exact x_isi_NoneType_bool q
  | bl b => exact x_isi_bool_bool q
  | int i => exact x_isi_int_bool q
  | str i => exact x_isi_str_bool q
  | lst a b => exact isi_list_bool a q
  | tup a b => exact isi_tuple_bool a q
theorem isiD_int (h : Dp K H x d) (q : Q (.bl (isDI d)) H) : rIsi K [x, .ty "int"] H Q := by
  cases h with
  | non => exact x_isi_NoneType_int q
  | bl b => exact x_isi_bool_int q
  | int i => exact x_isi_int_int q
  | str i => exact x_isi_str_int q
  | lst a b => exact isi_list_int a q
  | tup a b => exact isi_tuple_int a q
theorem isiD_str (h : Dp K H x d) (q : Q (.bl (isDS d)) H) : rIsi K [x, .ty "str"] H Q := by
  cases h with
  | non => exact x_isi_NoneType_str q
  | bl b => exact x_isi_bool_str q
  | int i => exact x_isi_int_str q
  | str i => exact x_isi_str_str q
  | lst a b => exact isi_list_str a q
  | tup a b => exact isi_tuple_str a q
theorem isiD_list (h : Dp K H x d) (q : Q (.bl (isDL d)) H) : rIsi K [x, .ty "list"] H Q := by
  cases h with
  | non => exact x_isi_NoneType_list q
  | bl b => exact x_isi_bool_list q
  | int i => exact x_isi_int_list q
  | str i => exact x_isi_str_list q
  | lst a b => exact isi_list_list a q
  | tup a b => exact isi_tuple_list a q
theorem isiD_tuple (h : Dp K H x d) (q : Q (.bl (isDT d)) H) : rIsi K [x, .ty "tuple"] H Q := by
  cases h with
  | non => exact x_isi_NoneType_tuple q
  | bl b => exact x_isi_bool_tuple q
  | int i => exact x_isi_int_tuple q
  | str i => exact x_isi_str_tuple q
  | lst a b => exact isi_list_tuple a q
  | tup a b => exact isi_tuple_tuple a q
end
def spn_law_same (K : PySem.W.Frag) (n : Nat) : Sp := fun vs H Q _ => ∃ (x y : V) (d e : PyData), vs = [x, y] ∧ Dp K H x d ∧ Dp K H y e ∧ okD d = true ∧ okD e = true ∧ e.depth ≤ n ∧ ∀ H', Same H H' → Q (.bl (sameD d e)) H'
abbrev sp_law_same (K : PySem.W.Frag) : Sp := spn_law_same K 6

end Su
namespace Su
open PySem L2
local macro_rules | `(tactic| walk_at "side") => `(tactic| first | assumption | (show (0 : Int) < _; omega) | (show (0 : Int) ≤ _; omega) | (show (0 : Int) < _; split <;> omega) | (show _ ∨ _; omega) | (show _ ∧ _; omega) | exact ⟨by decide, by decide, by decide⟩ | exact ⟨by first | assumption | omega, by first | assumption | omega⟩)
local macro_rules | `(tactic| walk_at "x") => `(tactic| first
  | with_reducible refine Su.x_seq ?_ | with_reducible refine Su.x_asg ?_ | with_reducible refine Su.x_gname ?_ | with_reducible refine Su.x_drop ?_ | with_reducible refine Su.x_ret ?_ | with_reducible refine Su.x_ifS ?_
  | ((with_reducible show L2.tVar _ _ _ _); refine Su.x_var rfl ?_) | with_reducible refine Su.x_c ?_ | with_reducible refine Su.x_op ?_ | with_reducible refine Su.x_rI0 ?_ | ((with_reducible refine Su.x_rI ?_ ?_); focus walk_at "side")
  | ((with_reducible show L2.rIxL _ (L2.V.ref _) (L2.V.int _) _ _); refine Su.x_ixI (by assumption) (by first | decide | omega) (by omega) ?_) | with_reducible refine Su.x_isi_int_int ?_ | with_reducible refine Su.x_isi_int_bool ?_ | with_reducible refine Su.x_isi_int_str ?_ | with_reducible refine Su.x_isi_int_list ?_ | with_reducible refine Su.x_isi_int_tuple ?_ | with_reducible refine Su.x_isi_bool_int ?_ | with_reducible refine Su.x_isi_bool_bool ?_ | with_reducible refine Su.x_isi_bool_str ?_ | with_reducible refine Su.x_isi_bool_list ?_ | with_reducible refine Su.x_isi_bool_tuple ?_ | with_reducible refine Su.x_isi_str_int ?_ | with_reducible refine Su.x_isi_str_bool ?_ | with_reducible refine Su.x_isi_str_str ?_ | with_reducible refine Su.x_isi_str_list ?_ | with_reducible refine Su.x_isi_str_tuple ?_ | with_reducible refine Su.x_isi_NoneType_int ?_ | with_reducible refine Su.x_isi_NoneType_bool ?_ | with_reducible refine Su.x_isi_NoneType_str ?_ | with_reducible refine Su.x_isi_NoneType_list ?_ | with_reducible refine Su.x_isi_NoneType_tuple ?_ | with_reducible refine Su.x_rGt ?_ | with_reducible refine Su.x_rGe ?_ | with_reducible refine Su.x_iteF ?_ | with_reducible refine Su.x_iteT ?_ | with_reducible refine Su.x_iteNT ?_ | with_reducible refine Su.x_iteNF ?_ | with_reducible refine Su.x_eqI ?_ | with_reducible refine Su.x_neI ?_ | with_reducible refine Su.x_eqS ?_ | with_reducible refine Su.x_neS ?_ | with_reducible refine Su.x_eqB ?_ | with_reducible refine Su.x_neB ?_
  | with_reducible refine Su.x_test ?_ | with_reducible refine Su.x_tB ?_ | with_reducible refine Su.x_isB ?_ | with_reducible refine Su.x_isB' ?_ | with_reducible refine Su.x_not ?_ | with_reducible refine Su.x_and ?_ | with_reducible refine Su.x_or ?_
  | with_reducible refine Su.x_andV ?_ | with_reducible refine Su.x_orV ?_ | with_reducible refine Su.x_notV ?_ | with_reducible refine Su.x_chain ?_ | with_reducible refine Su.x_nil ?_ | with_reducible refine Su.x_cons ?_ | with_reducible refine Su.x_cb ?_ | with_reducible refine Su.x_call ?_
  | with_reducible refine Su.x_un ?_ | with_reducible refine Su.x_rU ?_ | with_reducible refine Su.x_abs ?_ | with_reducible refine Su.x_max2 ?_ | with_reducible refine Su.x_min2 ?_ | with_reducible refine Su.x_int1 ?_ | with_reducible refine Su.x_intB ?_
  | with_reducible refine Su.x_lst ?_ | with_reducible refine Su.x_tup ?_ | with_reducible refine Su.x_bmL ?_ | with_reducible refine Su.x_next ?_ | with_reducible refine Su.x_for ?_ | with_reducible refine Su.x_iList ?_ | with_reducible refine Su.x_iRng1 ?_ | with_reducible refine Su.x_iRng2 ?_ | with_reducible refine Su.x_whileN ?_ | with_reducible refine Su.x_iEnum ?_ | with_reducible refine Su.x_iZip ?_ | with_reducible refine Su.x_iZipA ?_ | with_reducible refine Su.x_iTup ?_ | with_reducible refine Su.x_gcons ?_ | with_reducible refine Su.x_gnil ?_ | with_reducible refine Su.x_gsub ?_ | with_reducible refine Su.x_yes ?_ | with_reducible refine Su.x_lc ?_ | with_reducible refine Su.x_sl ?_ | with_reducible refine Su.x_nopart ?_ | with_reducible refine Su.x_part ?_ | with_reducible refine Su.x_isI ?_ | with_reducible refine Su.x_lstRg ?_ | with_reducible refine Su.x_rg1 ?_ | with_reducible refine Su.x_augS ?_ | with_reducible refine Su.x_ipI ?_ | ((with_reducible show L2.tAug _ _ _ _ _ _); refine Su.x_aug rfl ?_) | with_reducible refine Su.x_callS ?_ | with_reducible refine Su.x_tryAs ?_)
local macro_rules | `(tactic| walk_at "xs") => `(tactic| repeat walk_at "x")
local macro_rules | `(tactic| walk_at "if") => `(tactic| first | with_reducible refine Su.x_iteD (fun c => ?_) (fun c => ?_) | with_reducible refine Su.x_iteN (fun c => ?_) (fun c => ?_) | with_reducible refine Su.x_ite (fun c => ?_) (fun c => ?_))
/-! windows by index, lists of numbers as data -/
section
variable {K : PySem.W.Frag} {H : Hp} {Q : VK} {a t p : Addr} {i : Int} {v w : V} {r : List V}
theorem x_winix {ws : List (Int × Int)} (h : Dp K H (.ref a) (dWin ws)) (h0 : 0 ≤ i) (h1 : i < ws.length) (k : ∀ t, SqT K H t [.int (ws.getD i.toNat (0, 0)).1, .int (ws.getD i.toNat (0, 0)).2] → Q (.ref t) H) : rIxL K (.ref a) (.int i) H Q := by
  obtain ⟨q, xs, e, hq, hx, hat⟩ := win_at h
  cases e
  have h2 : i.toNat < xs.length := by omega
  obtain ⟨w, t, ew, et, ht⟩ := hat i.toNat _ (List.getElem?_eq_getElem h2)
  have hd : ws.getD i.toNat (0, 0) = w := by rw [List.getD_eq_getElem?_getD, ew]; rfl
  refine x_ixL (v := .ref t) hq ?_ (k t (by rw [hd]; exact ht))
  rw [at_get (d := .non) h0 (by omega), List.getD_eq_getElem?_getD, List.getElem?_eq_getElem h2, et]
  rfl
theorem x_ix0 (e : SqT K H t (v :: r)) (h : Q v H) : rIxT K (.ref t) (.int 0) H Q := x_ixT e (by
  unfold atI ixN
  rw [if_pos (by decide), if_pos (by simp)]
  rfl) h
theorem x_ix1 (e : SqT K H t (w :: v :: r)) (h : Q v H) : rIxT K (.ref t) (.int 1) H Q := x_ixT e (by
  unfold atI ixN
  rw [if_pos (by decide), if_pos (by simp; omega)]
  rfl) h
def dNats (l : List Nat) : PyData := .list (l.map fun (j : Nat) => .int (j : Int))
theorem nats_dpAll : ∀ l : List Nat, DpAll K H (nI l) (l.map fun (j : Nat) => .int (j : Int))
  | [] => .nil
  | n :: l => .cons (.int _) (nats_dpAll l)
theorem dp_nats {l : List Nat} (h : H p = some (.lst (nI l))) : Dp K H (.ref p) (dNats l) := .lst (SqL.of h) (nats_dpAll l)
end
theorem okL_nats : ∀ l : List Nat, okL (l.map fun (j : Nat) => .int (j : Int)) = true
  | [] => rfl
  | n :: l => by
    show (okD (.int n) && okL (l.map fun (j : Nat) => .int (j : Int))) = true
    rw [okL_nats l]; rfl
theorem ok_nats {l : List Nat} (h : l.length ≤ 1000) : okD (dNats l) = true := by
  unfold dNats
  simp only [okD, List.length_map, okL_nats, Bool.and_true, decide_eq_true_eq]
  exact h
theorem depth_nats : ∀ l : List Nat, PyData.depthAll (l.map fun (j : Nat) => .int (j : Int)) = 0
  | [] => rfl
  | n :: l => by
    show max (PyData.depth (.int n)) (PyData.depthAll (l.map fun (j : Nat) => .int (j : Int))) = 0
    rw [depth_nats l]; rfl
theorem dep_nats {l : List Nat} : (dNats l).depth ≤ 6 := by
  show PyData.depthAll _ + 1 ≤ 6
  rw [depth_nats]; decide
theorem eqv_win (ws : List (Int × Int)) : PyData.eqv (dWin ws) (dWin ws) = true := PySem.SeqAt.eqv_refl _ (lay_win ws)

end Su
namespace Su
open PySem L2
local macro_rules | `(tactic| walk_at "side") => `(tactic| first | assumption | (show (0 : Int) < _; omega) | (show (0 : Int) ≤ _; omega) | (show (0 : Int) < _; split <;> omega) | (show _ ∨ _; omega) | (show _ ∧ _; omega) | exact ⟨by decide, by decide, by decide⟩ | exact ⟨by first | assumption | omega, by first | assumption | omega⟩)
local macro_rules | `(tactic| walk_at "x") => `(tactic| first
  | with_reducible refine Su.x_seq ?_ | with_reducible refine Su.x_asg ?_ | with_reducible refine Su.x_gname ?_ | with_reducible refine Su.x_drop ?_ | with_reducible refine Su.x_ret ?_ | with_reducible refine Su.x_ifS ?_
  | ((with_reducible show L2.tVar _ _ _ _); refine Su.x_var rfl ?_) | with_reducible refine Su.x_c ?_ | with_reducible refine Su.x_op ?_ | with_reducible refine Su.x_rI0 ?_ | ((with_reducible refine Su.x_rI ?_ ?_); focus walk_at "side")
  | ((with_reducible show L2.rIxL _ (L2.V.ref _) (L2.V.int _) _ _); refine Su.x_ixI (by assumption) (by first | decide | omega) (by omega) ?_) | with_reducible refine Su.x_isi_int_int ?_ | with_reducible refine Su.x_isi_int_bool ?_ | with_reducible refine Su.x_isi_int_str ?_ | with_reducible refine Su.x_isi_int_list ?_ | with_reducible refine Su.x_isi_int_tuple ?_ | with_reducible refine Su.x_isi_bool_int ?_ | with_reducible refine Su.x_isi_bool_bool ?_ | with_reducible refine Su.x_isi_bool_str ?_ | with_reducible refine Su.x_isi_bool_list ?_ | with_reducible refine Su.x_isi_bool_tuple ?_ | with_reducible refine Su.x_isi_str_int ?_ | with_reducible refine Su.x_isi_str_bool ?_ | with_reducible refine Su.x_isi_str_str ?_ | with_reducible refine Su.x_isi_str_list ?_ | with_reducible refine Su.x_isi_str_tuple ?_ | with_reducible refine Su.x_isi_NoneType_int ?_ | with_reducible refine Su.x_isi_NoneType_bool ?_ | with_reducible refine Su.x_isi_NoneType_str ?_ | with_reducible refine Su.x_isi_NoneType_list ?_ | with_reducible refine Su.x_isi_NoneType_tuple ?_ | with_reducible refine Su.x_rGt ?_ | with_reducible refine Su.x_rGe ?_ | with_reducible refine Su.x_iteF ?_ | with_reducible refine Su.x_iteT ?_ | with_reducible refine Su.x_iteNT ?_ | with_reducible refine Su.x_iteNF ?_ | with_reducible refine Su.x_eqI ?_ | with_reducible refine Su.x_neI ?_ | with_reducible refine Su.x_eqS ?_ | with_reducible refine Su.x_neS ?_ | with_reducible refine Su.x_eqB ?_ | with_reducible refine Su.x_neB ?_
  | with_reducible refine Su.x_test ?_ | with_reducible refine Su.x_tB ?_ | with_reducible refine Su.x_isB ?_ | with_reducible refine Su.x_isB' ?_ | with_reducible refine Su.x_not ?_ | with_reducible refine Su.x_and ?_ | with_reducible refine Su.x_or ?_
  | with_reducible refine Su.x_andV ?_ | with_reducible refine Su.x_orV ?_ | with_reducible refine Su.x_notV ?_ | with_reducible refine Su.x_chain ?_ | with_reducible refine Su.x_nil ?_ | with_reducible refine Su.x_cons ?_ | with_reducible refine Su.x_cb ?_ | with_reducible refine Su.x_call ?_
  | with_reducible refine Su.x_un ?_ | with_reducible refine Su.x_rU ?_ | with_reducible refine Su.x_abs ?_ | with_reducible refine Su.x_max2 ?_ | with_reducible refine Su.x_min2 ?_ | with_reducible refine Su.x_int1 ?_ | with_reducible refine Su.x_intB ?_
  | with_reducible refine Su.x_lst ?_ | with_reducible refine Su.x_tup ?_ | with_reducible refine Su.x_bmL ?_ | with_reducible refine Su.x_next ?_ | with_reducible refine Su.x_for ?_ | with_reducible refine Su.x_iList ?_ | with_reducible refine Su.x_iRng1 ?_ | with_reducible refine Su.x_iRng2 ?_ | with_reducible refine Su.x_whileN ?_ | with_reducible refine Su.x_iEnum ?_ | with_reducible refine Su.x_iZip ?_ | with_reducible refine Su.x_iZipA ?_ | with_reducible refine Su.x_iTup ?_ | with_reducible refine Su.x_gcons ?_ | with_reducible refine Su.x_gnil ?_ | with_reducible refine Su.x_gsub ?_ | with_reducible refine Su.x_yes ?_ | with_reducible refine Su.x_lc ?_ | with_reducible refine Su.x_sl ?_ | with_reducible refine Su.x_nopart ?_ | with_reducible refine Su.x_part ?_ | with_reducible refine Su.x_isI ?_ | with_reducible refine Su.x_lstRg ?_ | with_reducible refine Su.x_rg1 ?_ | with_reducible refine Su.x_augS ?_ | with_reducible refine Su.x_ipI ?_ | ((with_reducible show L2.tAug _ _ _ _ _ _); refine Su.x_aug rfl ?_) | with_reducible refine Su.x_callS ?_ | with_reducible refine Su.x_tryAs ?_)
local macro_rules | `(tactic| walk_at "xs") => `(tactic| repeat walk_at "x")
local macro_rules | `(tactic| walk_at "if") => `(tactic| first | with_reducible refine Su.x_iteD (fun c => ?_) (fun c => ?_) | with_reducible refine Su.x_iteN (fun c => ?_) (fun c => ?_) | with_reducible refine Su.x_ite (fun c => ?_) (fun c => ?_))
/-! what walks over windows share -/
def optI : Option Nat → Int
  | none => -1
  | some c => (c : Int)
theorem inV_nat (i : Nat) : ∀ row : List Nat, inV (.int (i : Int)) (nI row) = decide (i ∈ row)
  | [] => rfl
  | x :: row => by
    show (eqV (.int (x : Int)) (.int (i : Int)) || inV (.int (i : Int)) (nI row)) = _
    rw [inV_nat i row]
    by_cases c : i = x
    · subst c
      simp [eqV]
    · have : ¬ (x : Int) = (i : Int) := by omega
      simp [eqV, this, c]
theorem flat_nat : ∀ row : List Nat, (nI row).all flatV = true
  | [] => rfl
  | x :: row => by
    show (flatV (.int (x : Int)) && (nI row).all flatV) = true
    rw [flat_nat row]; rfl
section
variable {K : PySem.W.Frag} {H : Hp} {Q : VK} {p : Addr} {i : Nat} {row : List Nat}
theorem x_notInN (e : SqL K H p (nI row)) (h : Q (.bl (!decide (i ∈ row))) H) : rIn K true (.int (i : Int)) (.ref p) H Q := ⟨p, nI row, rfl, .inl e, rfl, flat_nat row, by rw [if_pos rfl, inV_nat]; exact h⟩
theorem x_inN (e : SqL K H p (nI row)) (h : Q (.bl (decide (i ∈ row))) H) : rIn K false (.int (i : Int)) (.ref p) H Q := ⟨p, nI row, rfl, .inl e, rfl, flat_nat row, by rw [if_neg Bool.false_ne_true, inV_nat]; exact h⟩
theorem at_getN {xs : List Nat} {i : Int} (h0 : 0 ≤ i) (h1 : i < xs.length) : atI (nI xs) i = some (.int (xs.getD i.toNat 0 : Nat)) := by
  have h2 : i.toNat < xs.length := by omega
  unfold nI
  rw [at_get (d := .int 0) h0 (by rw [List.length_map]; exact h1), List.getD_eq_getElem?_getD, List.getD_eq_getElem?_getD, List.getElem?_map, List.getElem?_eq_getElem h2]
  rfl
theorem nI_len (l : List Nat) : (nI l).length = l.length := List.length_map ..
theorem nI_snoc (l : List Nat) (x : Nat) : nI (l ++ [x]) = nI l ++ [.int (x : Int)] := by unfold nI; rw [List.map_append]; rfl
end
/-- a paper that was told at v: its tuple and its list are new -/
def PaperAt (H0 H : Hp) (v : V) : Paper → Prop
  | .order row => ∃ t p, v = .ref t ∧ H0 t = none ∧ H0 p = none ∧ H t = some (.tup [.str "order", .ref p]) ∧ H p = some (.lst (nI row))
  | .bar a b crowd => ∃ t p, v = .ref t ∧ H0 t = none ∧ H0 p = none ∧ H t = some (.tup [.str "bar", .int a, .int b, .ref p]) ∧ H p = some (.lst (nI crowd))

end Su
namespace Su
open PySem L2
local macro_rules | `(tactic| walk_at "side") => `(tactic| first | assumption | (show (0 : Int) < _; omega) | (show (0 : Int) ≤ _; omega) | (show (0 : Int) < _; split <;> omega) | (show _ ∨ _; omega) | (show _ ∧ _; omega) | exact ⟨by decide, by decide, by decide⟩ | exact ⟨by first | assumption | omega, by first | assumption | omega⟩)
local macro_rules | `(tactic| walk_at "x") => `(tactic| first
  | with_reducible refine Su.x_seq ?_ | with_reducible refine Su.x_asg ?_ | with_reducible refine Su.x_gname ?_ | with_reducible refine Su.x_drop ?_ | with_reducible refine Su.x_ret ?_ | with_reducible refine Su.x_ifS ?_
  | ((with_reducible show L2.tVar _ _ _ _); refine Su.x_var rfl ?_) | with_reducible refine Su.x_c ?_ | with_reducible refine Su.x_op ?_ | with_reducible refine Su.x_rI0 ?_ | ((with_reducible refine Su.x_rI ?_ ?_); focus walk_at "side")
  | ((with_reducible show L2.rIxL _ (L2.V.ref _) (L2.V.int _) _ _); refine Su.x_ixI (by assumption) (by first | decide | omega) (by omega) ?_) | with_reducible refine Su.x_isi_int_int ?_ | with_reducible refine Su.x_isi_int_bool ?_ | with_reducible refine Su.x_isi_int_str ?_ | with_reducible refine Su.x_isi_int_list ?_ | with_reducible refine Su.x_isi_int_tuple ?_ | with_reducible refine Su.x_isi_bool_int ?_ | with_reducible refine Su.x_isi_bool_bool ?_ | with_reducible refine Su.x_isi_bool_str ?_ | with_reducible refine Su.x_isi_bool_list ?_ | with_reducible refine Su.x_isi_bool_tuple ?_ | with_reducible refine Su.x_isi_str_int ?_ | with_reducible refine Su.x_isi_str_bool ?_ | with_reducible refine Su.x_isi_str_str ?_ | with_reducible refine Su.x_isi_str_list ?_ | with_reducible refine Su.x_isi_str_tuple ?_ | with_reducible refine Su.x_isi_NoneType_int ?_ | with_reducible refine Su.x_isi_NoneType_bool ?_ | with_reducible refine Su.x_isi_NoneType_str ?_ | with_reducible refine Su.x_isi_NoneType_list ?_ | with_reducible refine Su.x_isi_NoneType_tuple ?_ | with_reducible refine Su.x_rGt ?_ | with_reducible refine Su.x_rGe ?_ | with_reducible refine Su.x_iteF ?_ | with_reducible refine Su.x_iteT ?_ | with_reducible refine Su.x_iteNT ?_ | with_reducible refine Su.x_iteNF ?_ | with_reducible refine Su.x_eqI ?_ | with_reducible refine Su.x_neI ?_ | with_reducible refine Su.x_eqS ?_ | with_reducible refine Su.x_neS ?_ | with_reducible refine Su.x_eqB ?_ | with_reducible refine Su.x_neB ?_
  | with_reducible refine Su.x_test ?_ | with_reducible refine Su.x_tB ?_ | with_reducible refine Su.x_isB ?_ | with_reducible refine Su.x_isB' ?_ | with_reducible refine Su.x_not ?_ | with_reducible refine Su.x_and ?_ | with_reducible refine Su.x_or ?_
  | with_reducible refine Su.x_andV ?_ | with_reducible refine Su.x_orV ?_ | with_reducible refine Su.x_notV ?_ | with_reducible refine Su.x_chain ?_ | with_reducible refine Su.x_nil ?_ | with_reducible refine Su.x_cons ?_ | with_reducible refine Su.x_cb ?_ | with_reducible refine Su.x_call ?_
  | with_reducible refine Su.x_un ?_ | with_reducible refine Su.x_rU ?_ | with_reducible refine Su.x_abs ?_ | with_reducible refine Su.x_max2 ?_ | with_reducible refine Su.x_min2 ?_ | with_reducible refine Su.x_int1 ?_ | with_reducible refine Su.x_intB ?_
  | with_reducible refine Su.x_lst ?_ | with_reducible refine Su.x_tup ?_ | with_reducible refine Su.x_bmL ?_ | with_reducible refine Su.x_next ?_ | with_reducible refine Su.x_for ?_ | with_reducible refine Su.x_iList ?_ | with_reducible refine Su.x_iRng1 ?_ | with_reducible refine Su.x_iRng2 ?_ | with_reducible refine Su.x_whileN ?_ | with_reducible refine Su.x_iEnum ?_ | with_reducible refine Su.x_iZip ?_ | with_reducible refine Su.x_iZipA ?_ | with_reducible refine Su.x_iTup ?_ | with_reducible refine Su.x_gcons ?_ | with_reducible refine Su.x_gnil ?_ | with_reducible refine Su.x_gsub ?_ | with_reducible refine Su.x_yes ?_ | with_reducible refine Su.x_lc ?_ | with_reducible refine Su.x_sl ?_ | with_reducible refine Su.x_nopart ?_ | with_reducible refine Su.x_part ?_ | with_reducible refine Su.x_isI ?_ | with_reducible refine Su.x_lstRg ?_ | with_reducible refine Su.x_rg1 ?_ | with_reducible refine Su.x_augS ?_ | with_reducible refine Su.x_ipI ?_ | ((with_reducible show L2.tAug _ _ _ _ _ _); refine Su.x_aug rfl ?_) | with_reducible refine Su.x_callS ?_ | with_reducible refine Su.x_tryAs ?_)
local macro_rules | `(tactic| walk_at "xs") => `(tactic| repeat walk_at "x")
local macro_rules | `(tactic| walk_at "if") => `(tactic| first | with_reducible refine Su.x_iteD (fun c => ?_) (fun c => ?_) | with_reducible refine Su.x_iteN (fun c => ?_) (fun c => ?_) | with_reducible refine Su.x_ite (fun c => ?_) (fun c => ?_))
/-! texts by their signs -/
abbrev rJoin (K : PySem.W.Frag) : V → List V → Hp → VK → Prop := fun x xs H Q => ∃ a p, ∃ ys : List Str, x = .str a ∧ xs = [.ref p] ∧ (SqL K H p (ys.map V.str) ∨ SqT K H p (ys.map V.str)) ∧
      (ys.map (·.length)).sum + ys.length * a.length ≤ 16777216 ∧ Q (.str (Txt.join a ys)) H
abbrev rSplit : V → List V → Hp → VK → Prop := fun x xs H Q => ∃ a b, x = .str a ∧ xs = [.str b] ∧ (b.length == 0) = false ∧ a.length + 2 ≤ sizeLine ∧ rNewStrs (Txt.split a b) H Q
abbrev rCatS : R2 := fun x y H Q => ∃ i j, x = .str i ∧ y = .str j ∧ i.length + j.length ≤ sizeLine ∧ Q (.str (i ++ j)) H
abbrev vS (w : List Nat) : V := .str (SX.S w)
section
variable {K : PySem.W.Frag} {σ : St} {H : Hp} {Q : VK} {to te : TE} {p : Addr}
theorem x_m1 {r : V → List V → Hp → VK → Prop} (h : to σ H fun x H1 => (∃ a, x = .str a) ∧ te σ H1 fun y H2 => r x [y] H2 Q) : tM1 r to te σ H Q := h
theorem x_strE {a : Str} {P : Prop} (h : P) : (∃ b, V.str a = .str b) ∧ P := ⟨⟨a, rfl⟩, h⟩
theorem inV_str (w : List Nat) : ∀ ws : List (List Nat), inV (vS w) (ws.map vS) = decide (w ∈ ws)
  | [] => rfl
  | x :: ws => by
    show (eqV (vS x) (vS w) || inV (vS w) (ws.map vS)) = _
    rw [inV_str w ws]
    by_cases c : w = x
    · subst c; simp [eqV]
    · have c' : ¬ SX.S x = SX.S w := fun e => c (SX.S_inj e).symm
      have : eqV (vS x) (vS w) = false := by simp [eqV, c']
      rw [this]
      simp [c]
theorem flat_str : ∀ ws : List (List Nat), (ws.map vS).all flatV = true
  | [] => rfl
  | x :: ws => by
    show (flatV (vS x) && (ws.map vS).all flatV) = true
    rw [flat_str ws]; rfl
theorem x_inS {w : List Nat} {ws : List (List Nat)} (e : SqL K H p (ws.map vS)) (h : Q (.bl (decide (w ∈ ws))) H) : rIn K false (vS w) (.ref p) H Q := ⟨p, _, rfl, .inl e, rfl, flat_str ws, by rw [if_neg Bool.false_ne_true, inV_str]; exact h⟩
theorem x_notInS {w : List Nat} {ws : List (List Nat)} (e : SqL K H p (ws.map vS)) (h : Q (.bl (!decide (w ∈ ws))) H) : rIn K true (vS w) (.ref p) H Q := ⟨p, _, rfl, .inl e, rfl, flat_str ws, by rw [if_pos rfl, inV_str]; exact h⟩
theorem x_ixS {a : List Nat} {i : Int} {c : Nat} (hl : a.length ≤ 100000) (e : atI a i = some c) (h : Q (vS [c]) H) : rIxS (vS a) (.int i) H Q := ⟨SX.S a, i, c, rfl, rfl, by rw [SX.S_len]; exact Nat.le_of_lt (small hl), e, h⟩
theorem x_slTo {a : List Nat} {i : Int} (hl : a.length ≤ 100000) (h0 : 0 ≤ i) (h : Q (vS (a.take i.toNat)) H) : C8.rSlX (vS a) none (some i) H Q := ⟨SX.S a, rfl, by rw [SX.S_len]; exact Nat.le_of_lt (small hl), by rw [SX.slice_to h0]; exact h⟩
theorem x_slFrom {a : List Nat} {i : Int} (hl : a.length ≤ 100000) (h0 : 0 ≤ i) (h : Q (vS (a.drop i.toNat)) H) : C8.rSlX (vS a) (some i) none H Q := ⟨SX.S a, rfl, by rw [SX.S_len]; exact Nat.le_of_lt (small hl), by rw [SX.slice_from h0]; exact h⟩
theorem x_catS {a b : List Nat} (hl : a.length + b.length ≤ 100000) (h : Q (vS (a ++ b)) H) : rCatS (vS a) (vS b) H Q := ⟨SX.S a, SX.S b, rfl, rfl, by rw [SX.S_len, SX.S_len]; exact Nat.le_of_lt (small hl), by rw [SX.S_cat]; exact h⟩
theorem sum_le {l : List Nat} {m : Nat} (h : ∀ x ∈ l, x ≤ m) : l.sum ≤ l.length * m := by
  induction l with
  | nil => exact Nat.zero_le _
  | cons x l ih =>
    rw [List.sum_cons, List.length_cons, Nat.add_mul, Nat.one_mul]
    have := ih fun y hy => h y (List.mem_cons_of_mem _ hy)
    have := h x List.mem_cons_self
    omega
/-- sep.join of short texts -/
theorem x_join {a : List Nat} {ys : List (List Nat)} {m : Nat} (e : SqL K H p (ys.map vS)) (hm : ∀ y ∈ ys, y.length ≤ m) (hs : ys.length * m + ys.length * a.length ≤ 16777216) (h : Q (vS (TL.joinL a ys)) H) : rJoin K (vS a) [.ref p] H Q := by
  refine ⟨SX.S a, p, ys.map SX.S, rfl, rfl, .inl ?_, ?_, ?_⟩
  · rw [List.map_map]; exact e
  · rw [SX.lens, List.length_map, SX.S_len]
    have := sum_le (l := ys.map (·.length)) (m := m) (fun x hx => by
      obtain ⟨y, hy, rfl⟩ := List.mem_map.mp hx
      exact hm y hy)
    rw [List.length_map] at this
    omega
  · rw [SX.join_S]; exact h
end
theorem joinL_nil : ∀ ys : List (List Nat), TL.joinL [] ys = ys.flatten
  | [] => rfl
  | [x] => by simp [TL.joinL]
  | x :: y :: r => by
    have := joinL_nil (y :: r)
    show x ++ ([] ++ TL.joinL [] (y :: r)) = _
    rw [this]; simp
/-- 1 to 12 small letters -/
structure NameOk (w : List Nat) : Prop where
  lo : 1 ≤ w.length
  hi : w.length ≤ 12
  ok : ∀ c ∈ w, 97 ≤ c ∧ c ≤ 122
def lets : List Nat := (List.range 26).map (97 + ·)
theorem lets_str : ("abcdefghijklmnopqrstuvwxyz" : Str) = SX.S lets := by decide +kernel
theorem lets_at (i : Int) : atI lets (i % 26) = some (97 + (i % 26).toNat) := by
  have h1 := Int.emod_nonneg i (show (26 : Int) ≠ 0 by decide)
  have h2 := Int.emod_lt_of_pos i (show (0 : Int) < 26 by decide)
  rw [at_get (xs := lets) (d := 0) h1 (by show _ < ((26 : Nat) : Int); exact h2), List.getD_eq_getElem?_getD, lets, List.getElem?_map, List.getElem?_range (by omega)]
  rfl
theorem nodup_subG {α : Type} [DecidableEq α] : ∀ {l m : List α}, l.Nodup → (∀ x ∈ l, x ∈ m) → l.length ≤ m.length
  | [], m, _, _ => Nat.zero_le _
  | x :: l, m, h, k => by
    have hx := k x List.mem_cons_self
    have h1 := List.nodup_cons.mp h
    have := nodup_subG (l := l) (m := m.erase x) h1.2 fun y hy => (List.mem_erase_of_ne (fun (e : y = x) => h1.1 (e ▸ hy))).mpr (k y (List.mem_cons_of_mem _ hy))
    rw [List.length_erase_of_mem hx] at this
    have := List.length_pos_of_mem hx
    rw [List.length_cons]; omega

end Su
namespace Su
open PySem L2
local macro_rules | `(tactic| walk_at "side") => `(tactic| first | assumption | (show (0 : Int) < _; omega) | (show (0 : Int) ≤ _; omega) | (show (0 : Int) < _; split <;> omega) | (show _ ∨ _; omega) | (show _ ∧ _; omega) | exact ⟨by decide, by decide, by decide⟩ | exact ⟨by first | assumption | omega, by first | assumption | omega⟩)
local macro_rules | `(tactic| walk_at "x") => `(tactic| first
  | with_reducible refine Su.x_seq ?_ | with_reducible refine Su.x_asg ?_ | with_reducible refine Su.x_gname ?_ | with_reducible refine Su.x_drop ?_ | with_reducible refine Su.x_ret ?_ | with_reducible refine Su.x_ifS ?_
  | ((with_reducible show L2.tVar _ _ _ _); refine Su.x_var rfl ?_) | with_reducible refine Su.x_c ?_ | with_reducible refine Su.x_op ?_ | with_reducible refine Su.x_rI0 ?_ | ((with_reducible refine Su.x_rI ?_ ?_); focus walk_at "side")
  | ((with_reducible show L2.rIxL _ (L2.V.ref _) (L2.V.int _) _ _); refine Su.x_ixI (by assumption) (by first | decide | omega) (by omega) ?_) | with_reducible refine Su.x_isi_int_int ?_ | with_reducible refine Su.x_isi_int_bool ?_ | with_reducible refine Su.x_isi_int_str ?_ | with_reducible refine Su.x_isi_int_list ?_ | with_reducible refine Su.x_isi_int_tuple ?_ | with_reducible refine Su.x_isi_bool_int ?_ | with_reducible refine Su.x_isi_bool_bool ?_ | with_reducible refine Su.x_isi_bool_str ?_ | with_reducible refine Su.x_isi_bool_list ?_ | with_reducible refine Su.x_isi_bool_tuple ?_ | with_reducible refine Su.x_isi_str_int ?_ | with_reducible refine Su.x_isi_str_bool ?_ | with_reducible refine Su.x_isi_str_str ?_ | with_reducible refine Su.x_isi_str_list ?_ | with_reducible refine Su.x_isi_str_tuple ?_ | with_reducible refine Su.x_isi_NoneType_int ?_ | with_reducible refine Su.x_isi_NoneType_bool ?_ | with_reducible refine Su.x_isi_NoneType_str ?_ | with_reducible refine Su.x_isi_NoneType_list ?_ | with_reducible refine Su.x_isi_NoneType_tuple ?_ | with_reducible refine Su.x_rGt ?_ | with_reducible refine Su.x_rGe ?_ | with_reducible refine Su.x_iteF ?_ | with_reducible refine Su.x_iteT ?_ | with_reducible refine Su.x_iteNT ?_ | with_reducible refine Su.x_iteNF ?_ | with_reducible refine Su.x_eqI ?_ | with_reducible refine Su.x_neI ?_ | with_reducible refine Su.x_eqS ?_ | with_reducible refine Su.x_neS ?_ | with_reducible refine Su.x_eqB ?_ | with_reducible refine Su.x_neB ?_
  | with_reducible refine Su.x_test ?_ | with_reducible refine Su.x_tB ?_ | with_reducible refine Su.x_isB ?_ | with_reducible refine Su.x_isB' ?_ | with_reducible refine Su.x_not ?_ | with_reducible refine Su.x_and ?_ | with_reducible refine Su.x_or ?_
  | with_reducible refine Su.x_andV ?_ | with_reducible refine Su.x_orV ?_ | with_reducible refine Su.x_notV ?_ | with_reducible refine Su.x_chain ?_ | with_reducible refine Su.x_nil ?_ | with_reducible refine Su.x_cons ?_ | with_reducible refine Su.x_cb ?_ | with_reducible refine Su.x_call ?_
  | with_reducible refine Su.x_un ?_ | with_reducible refine Su.x_rU ?_ | with_reducible refine Su.x_abs ?_ | with_reducible refine Su.x_max2 ?_ | with_reducible refine Su.x_min2 ?_ | with_reducible refine Su.x_int1 ?_ | with_reducible refine Su.x_intB ?_
  | with_reducible refine Su.x_lst ?_ | with_reducible refine Su.x_tup ?_ | with_reducible refine Su.x_bmL ?_ | with_reducible refine Su.x_next ?_ | with_reducible refine Su.x_for ?_ | with_reducible refine Su.x_iList ?_ | with_reducible refine Su.x_iRng1 ?_ | with_reducible refine Su.x_iRng2 ?_ | with_reducible refine Su.x_whileN ?_ | with_reducible refine Su.x_iEnum ?_ | with_reducible refine Su.x_iZip ?_ | with_reducible refine Su.x_iZipA ?_ | with_reducible refine Su.x_iTup ?_ | with_reducible refine Su.x_gcons ?_ | with_reducible refine Su.x_gnil ?_ | with_reducible refine Su.x_gsub ?_ | with_reducible refine Su.x_yes ?_ | with_reducible refine Su.x_lc ?_ | with_reducible refine Su.x_sl ?_ | with_reducible refine Su.x_nopart ?_ | with_reducible refine Su.x_part ?_ | with_reducible refine Su.x_isI ?_ | with_reducible refine Su.x_lstRg ?_ | with_reducible refine Su.x_rg1 ?_ | with_reducible refine Su.x_augS ?_ | with_reducible refine Su.x_ipI ?_ | ((with_reducible show L2.tAug _ _ _ _ _ _); refine Su.x_aug rfl ?_) | with_reducible refine Su.x_callS ?_ | with_reducible refine Su.x_tryAs ?_)
local macro_rules | `(tactic| walk_at "xs") => `(tactic| repeat walk_at "x")
local macro_rules | `(tactic| walk_at "if") => `(tactic| first | with_reducible refine Su.x_iteD (fun c => ?_) (fun c => ?_) | with_reducible refine Su.x_iteN (fun c => ?_) (fun c => ?_) | with_reducible refine Su.x_ite (fun c => ?_) (fun c => ?_))
/-! lists by names -/
section
variable {α β : Type}
def lookN (l : List (List Nat × α)) (w : List Nat) : Option α := (l.find? fun p => decide (p.1 = w)).map (·.2)
def putN (l : List (List Nat × α)) (w : List Nat) (a : α) : List (List Nat × α) :=
  if (l.any fun p => decide (p.1 = w)) = true then l.map (fun p => if p.1 = w then (p.1, a) else p) else l ++ [(w, a)]
def dropN (l : List (List Nat × α)) (w : List Nat) : List (List Nat × α) := l.filter fun p => decide (p.1 ≠ w)
def mapN (f : α → β) (l : List (List Nat × α)) : List (List Nat × β) := l.map fun p => (p.1, f p.2)
abbrev keysN (l : List (List Nat × α)) : List (List Nat) := l.map (·.1)
theorem lookN_cons (p : List Nat × α) (l : List (List Nat × α)) (w : List Nat) : lookN (p :: l) w = if p.1 = w then some p.2 else lookN l w := by
  unfold lookN
  rw [List.find?_cons]
  by_cases c : p.1 = w <;> simp [c]
theorem lookN_some {l : List (List Nat × α)} {w : List Nat} {a : α} (h : lookN l w = some a) : (w, a) ∈ l := by
  unfold lookN at h
  obtain ⟨p, h1, h2⟩ := Option.map_eq_some_iff.mp h
  have := List.find?_some h1
  have m := List.mem_of_find?_eq_some h1
  obtain ⟨k, v⟩ := p
  simp at this h2
  rw [← this, ← h2]; exact m
theorem lookN_none {l : List (List Nat × α)} {w : List Nat} : lookN l w = none ↔ w ∉ keysN l := by
  induction l with
  | nil => simp [lookN]
  | cons p l ih =>
    rw [lookN_cons]
    by_cases c : p.1 = w
    · simp [c]
    · rw [if_neg c, ih]
      have : ¬ w = p.1 := fun e => c e.symm
      simp [this]
theorem lookN_isSome {l : List (List Nat × α)} {w : List Nat} : (lookN l w).isSome = decide (w ∈ keysN l) := by
  cases h : lookN l w with
  | none => have := lookN_none.mp h; simp only [Option.isSome_none]; exact (decide_eq_false this).symm
  | some a =>
    have : w ∈ keysN l := by
      refine Classical.byContradiction fun c => ?_
      rw [lookN_none.mpr c] at h; cases h
    simp only [Option.isSome_some]; exact (decide_eq_true this).symm
theorem lookN_mem {l : List (List Nat × α)} {w : List Nat} {a : α} (nd : (keysN l).Nodup) (h : (w, a) ∈ l) : lookN l w = some a := by
  induction l with
  | nil => cases h
  | cons p l ih =>
    rw [lookN_cons]
    have nd' := List.nodup_cons.mp nd
    rcases List.mem_cons.mp h with rfl | h
    · simp
    · have : ¬ p.1 = w := fun e => nd'.1 (by show p.1 ∈ _; rw [e]; exact List.mem_map.mpr ⟨_, h, rfl⟩)
      rw [if_neg this]; exact ih nd'.2 h
theorem anyN {l : List (List Nat × α)} {w : List Nat} : (l.any fun p => decide (p.1 = w)) = decide (w ∈ keysN l) := by
  induction l with
  | nil => rfl
  | cons p l ih =>
    rw [List.any_cons, ih]
    by_cases c : p.1 = w
    · simp [c]
    · have : ¬ w = p.1 := fun e => c e.symm
      simp [c, this]
theorem lookN_put (l : List (List Nat × α)) (w u : List Nat) (a : α) : lookN (putN l w a) u = if u = w then some a else lookN l u := by
  unfold putN
  rw [anyN]
  by_cases c : w ∈ keysN l
  · rw [if_pos (decide_eq_true c)]
    have gen : ∀ l : List (List Nat × α), lookN (l.map fun p => if p.1 = w then (p.1, a) else p) u = if u = w then (lookN l u).map (fun _ => a) else lookN l u := by
      intro l
      induction l with
      | nil => simp [lookN]
      | cons p l ih =>
        rw [List.map_cons, lookN_cons, ih, lookN_cons]
        by_cases e : p.1 = w
        · rw [if_pos e]
          by_cases d : u = w
          · subst d; simp [e]
          · have : ¬ p.1 = u := fun z => d (z.symm.trans e)
            simp [this, d]
        · rw [if_neg e]
          by_cases d : u = w
          · subst d; simp [e]
          · simp [d]
    rw [gen]
    by_cases d : u = w
    · subst d
      rw [if_pos rfl, if_pos rfl]
      cases h : lookN l u with
      | none => exact absurd c (lookN_none.mp h)
      | some _ => rfl
    · rw [if_neg d, if_neg d]
  · rw [if_neg (by rw [decide_eq_false c]; decide)]
    have gen : ∀ l : List (List Nat × α), w ∉ keysN l → lookN (l ++ [(w, a)]) u = if u = w then some a else lookN l u := by
      intro l
      induction l with
      | nil =>
        intro _
        rw [List.nil_append, lookN_cons]
        by_cases d : u = w
        · subst d; simp
        · have : ¬ w = u := fun z => d z.symm
          simp [d, this]
      | cons p l ih =>
        intro h
        rw [List.cons_append, lookN_cons, lookN_cons]
        simp only [List.map_cons, List.mem_cons, not_or] at h
        rw [ih h.2]
        by_cases d : u = w
        · subst d
          have : ¬ p.1 = u := fun z => h.1 z.symm
          simp [this]
        · simp [d]
    exact gen l c
theorem keysN_put (l : List (List Nat × α)) (w : List Nat) (a : α) : keysN (putN l w a) = if w ∈ keysN l then keysN l else keysN l ++ [w] := by
  unfold putN
  rw [anyN]
  by_cases c : w ∈ keysN l
  · rw [if_pos (decide_eq_true c), if_pos c]
    unfold keysN
    rw [List.map_map]
    apply List.map_congr_left
    intro p _
    by_cases e : p.1 = w <;> simp [e]
  · rw [if_neg (by rw [decide_eq_false c]; decide), if_neg c]
    simp
theorem nodup_put {l : List (List Nat × α)} {w : List Nat} {a : α} (h : (keysN l).Nodup) : (keysN (putN l w a)).Nodup := by
  rw [keysN_put]
  by_cases c : w ∈ keysN l
  · rw [if_pos c]; exact h
  · rw [if_neg c, List.nodup_append]
    exact ⟨h, by simp, fun x hx y hy e => c (by rw [List.mem_singleton] at hy; rw [← hy, ← e]; exact hx)⟩
theorem len_put (l : List (List Nat × α)) (w : List Nat) (a : α) : (putN l w a).length ≤ l.length + 1 := by
  unfold putN; split <;> simp
theorem mapN_put (f : α → β) (l : List (List Nat × α)) (w : List Nat) (a : α) : mapN f (putN l w a) = putN (mapN f l) w (f a) := by
  unfold putN
  rw [anyN, anyN]
  have e : keysN (mapN f l) = keysN l := by unfold mapN keysN; rw [List.map_map]; rfl
  rw [e]
  by_cases c : w ∈ keysN l
  · rw [if_pos (decide_eq_true c), if_pos (decide_eq_true c)]
    unfold mapN
    rw [List.map_map, List.map_map]
    apply List.map_congr_left
    intro p _
    by_cases z : p.1 = w <;> simp [z]
  · rw [if_neg (by rw [decide_eq_false c]; decide), if_neg (by rw [decide_eq_false c]; decide)]
    unfold mapN; simp
theorem lookN_mapN (f : α → β) (l : List (List Nat × α)) (w : List Nat) : lookN (mapN f l) w = (lookN l w).map f := by
  induction l with
  | nil => rfl
  | cons p l ih =>
    show lookN ((p.1, f p.2) :: mapN f l) w = _
    rw [lookN_cons, lookN_cons, ih]
    by_cases c : p.1 = w <;> simp [c]
theorem keysN_drop (l : List (List Nat × α)) (w : List Nat) : keysN (dropN l w) = (keysN l).filter fun k => decide (k ≠ w) := by
  unfold dropN keysN
  rw [List.filter_map]; rfl
theorem lookN_drop (l : List (List Nat × α)) (w u : List Nat) : lookN (dropN l w) u = if u = w then none else lookN l u := by
  unfold dropN
  induction l with
  | nil => simp [lookN]
  | cons p l ih =>
    rw [List.filter_cons]
    by_cases e : p.1 = w
    · rw [if_neg (by simp [e]), ih, lookN_cons]
      by_cases d : u = w
      · simp [d]
      · have : ¬ p.1 = u := fun z => d (z.symm.trans e)
        simp [d, this]
    · rw [if_pos (by simp [e]), lookN_cons, ih, lookN_cons]
      by_cases d : u = w
      · subst d; simp [e]
      · simp [d]
end
/-! lists that grow strictly -/
theorem pw_unique {α : Type} {R : α → α → Prop} (irr : ∀ a, ¬ R a a) (asym : ∀ a b, R a b → ¬ R b a) : ∀ {l m : List α}, l.Pairwise R → m.Pairwise R → (∀ x, x ∈ l ↔ x ∈ m) → l = m
  | [], [], _, _, _ => rfl
  | [], y :: m, _, _, h => absurd ((h y).mpr List.mem_cons_self) (by simp)
  | x :: l, [], _, _, h => absurd ((h x).mp List.mem_cons_self) (by simp)
  | x :: l, y :: m, h1, h2, h => by
    have a1 := List.pairwise_cons.mp h1
    have a2 := List.pairwise_cons.mp h2
    have e : x = y := by
      rcases List.mem_cons.mp ((h x).mp List.mem_cons_self) with e | e
      · exact e
      · rcases List.mem_cons.mp ((h y).mpr List.mem_cons_self) with z | z
        · exact z.symm
        · exact absurd (a1.1 y z) (asym _ _ (a2.1 x e))
    subst e
    congr 1
    refine pw_unique irr asym a1.2 a2.2 fun z => ⟨fun hz => ?_, fun hz => ?_⟩
    · rcases List.mem_cons.mp ((h z).mp (List.mem_cons_of_mem _ hz)) with e | e
      · subst e; exact absurd (a1.1 _ hz) (irr _)
      · exact e
    · rcases List.mem_cons.mp ((h z).mpr (List.mem_cons_of_mem _ hz)) with e | e
      · subst e; exact absurd (a2.1 _ hz) (irr _)
      · exact e
theorem wlt_irr (a : List Nat) : ¬ a < a := List.lt_irrefl a
theorem wlt_asym (a b : List Nat) (h : a < b) : ¬ b < a := fun h' => List.lt_irrefl a (List.lt_trans h h')
theorem wlt_tri {a b : List Nat} (h : ¬ b < a) (ne : a ≠ b) : a < b := by
  rw [List.not_lt] at h
  exact (List.le_iff_lt_or_eq.mp h).elim id fun e => absurd e ne
/-! nets of debts -/
abbrev Debt := List Nat × List Nat × Int
def netStep (l : List (List Nat × Int)) (d : Debt) : List (List Nat × Int) :=
  let l1 := putN l d.1 ((lookN l d.1).getD 0 - d.2.2)
  putN l1 d.2.1 ((lookN l1 d.2.1).getD 0 + d.2.2)
def netsOf (ds : List Debt) : List (List Nat × Int) := ds.foldl netStep []
def Named (ds : List Debt) (w : List Nat) : Prop := ∃ d ∈ ds, d.1 = w ∨ d.2.1 = w
def netOf (ds : List Debt) (w : List Nat) : Int := (ds.map fun d => (if d.2.1 = w then d.2.2 else 0) - (if d.1 = w then d.2.2 else 0)).sum
theorem netOf_snoc (ds : List Debt) (d : Debt) (w : List Nat) : netOf (ds ++ [d]) w = netOf ds w + ((if d.2.1 = w then d.2.2 else 0) - (if d.1 = w then d.2.2 else 0)) := by simp [netOf]
structure NetInv (ds : List Debt) (l : List (List Nat × Int)) : Prop where
  nd : (keysN l).Nodup
  key : ∀ w, w ∈ keysN l ↔ Named ds w
  val : ∀ w, (lookN l w).getD 0 = netOf ds w
  len : l.length ≤ 2 * ds.length
theorem netInv_nil : NetInv [] [] := ⟨List.nodup_nil, fun w => by simp [Named], fun w => rfl, Nat.le_refl _⟩
theorem netInv_step {ds : List Debt} {l : List (List Nat × Int)} (h : NetInv ds l) (d : Debt) : NetInv (ds ++ [d]) (netStep l d) := by
  refine ⟨nodup_put (nodup_put h.nd), fun w => ?_, fun w => ?_, ?_⟩
  · have e : ∀ (l : List (List Nat × Int)) (u : List Nat) (a : Int), w ∈ keysN (putN l u a) ↔ w ∈ keysN l ∨ w = u := by
      intro l u a
      rw [keysN_put]
      by_cases c : u ∈ keysN l
      · rw [if_pos c]
        exact ⟨Or.inl, fun z => z.elim id fun z => z ▸ c⟩
      · rw [if_neg c, List.mem_append, List.mem_singleton]
    unfold netStep
    rw [e, e, h.key]
    unfold Named
    constructor
    · rintro ((⟨x, hx, hw⟩ | hw) | hw)
      · exact ⟨x, List.mem_append_left _ hx, hw⟩
      · exact ⟨d, by simp, .inl hw.symm⟩
      · exact ⟨d, by simp, .inr hw.symm⟩
    · rintro ⟨x, hx, hw⟩
      rcases List.mem_append.mp hx with hx | hx
      · exact .inl (.inl ⟨x, hx, hw⟩)
      · cases List.mem_singleton.mp hx
        exact hw.elim (fun z => .inl (.inr z.symm)) fun z => .inr z.symm
  · obtain ⟨g, t, c⟩ := d
    unfold netStep
    have hv := h.val w
    rw [netOf_snoc]
    simp only [lookN_put]
    by_cases c1 : w = t
    · subst c1
      by_cases c2 : w = g
      · subst c2; simp; omega
      · have c3 : ¬ g = w := fun z => c2 z.symm
        simp [c2, c3]; omega
    · have c4 : ¬ t = w := fun z => c1 z.symm
      by_cases c2 : w = g
      · subst c2; simp [c1, c4]; omega
      · have c3 : ¬ g = w := fun z => c2 z.symm
        simp [c1, c2, c3, c4]; omega
  · have h1 := len_put l d.1 ((lookN l d.1).getD 0 - d.2.2)
    have h2 := len_put (putN l d.1 ((lookN l d.1).getD 0 - d.2.2)) d.2.1 ((lookN (putN l d.1 ((lookN l d.1).getD 0 - d.2.2)) d.2.1).getD 0 + d.2.2)
    have h3 := h.len
    unfold netStep
    rw [List.length_append, List.length_singleton]
    simp only
    omega
/-- the told rows of debts -/
structure NetRows (ds : List Debt) (rows : List (List Nat × Int)) : Prop where
  srt : (keysN rows).Pairwise (· < ·)
  key : ∀ w, w ∈ keysN rows ↔ Named ds w
  val : ∀ p ∈ rows, p.2 = netOf ds p.1
theorem netRows_unique {ds : List Debt} {r r' : List (List Nat × Int)} (h : NetRows ds r) (h' : NetRows ds r') : r = r' := by
  have e : keysN r = keysN r' := pw_unique wlt_irr wlt_asym h.srt h'.srt fun x => (h.key x).trans (h'.key x).symm
  have f : ∀ {r : List (List Nat × Int)}, NetRows ds r → r = (keysN r).map fun w => (w, netOf ds w) := fun {r} h => by
    rw [List.map_map]
    conv => lhs; rw [← List.map_id r]
    apply List.map_congr_left
    intro p hp
    have := h.val p hp
    show p = (p.1, netOf ds p.1)
    rw [← this]
  rw [f h, f h', e]

end Su
namespace Su
open PySem L2
local macro_rules | `(tactic| walk_at "side") => `(tactic| first | assumption | (show (0 : Int) < _; omega) | (show (0 : Int) ≤ _; omega) | (show (0 : Int) < _; split <;> omega) | (show _ ∨ _; omega) | (show _ ∧ _; omega) | exact ⟨by decide, by decide, by decide⟩ | exact ⟨by first | assumption | omega, by first | assumption | omega⟩)
local macro_rules | `(tactic| walk_at "x") => `(tactic| first
  | with_reducible refine Su.x_seq ?_ | with_reducible refine Su.x_asg ?_ | with_reducible refine Su.x_gname ?_ | with_reducible refine Su.x_drop ?_ | with_reducible refine Su.x_ret ?_ | with_reducible refine Su.x_ifS ?_
  | ((with_reducible show L2.tVar _ _ _ _); refine Su.x_var rfl ?_) | with_reducible refine Su.x_c ?_ | with_reducible refine Su.x_op ?_ | with_reducible refine Su.x_rI0 ?_ | ((with_reducible refine Su.x_rI ?_ ?_); focus walk_at "side")
  | ((with_reducible show L2.rIxL _ (L2.V.ref _) (L2.V.int _) _ _); refine Su.x_ixI (by assumption) (by first | decide | omega) (by omega) ?_) | with_reducible refine Su.x_isi_int_int ?_ | with_reducible refine Su.x_isi_int_bool ?_ | with_reducible refine Su.x_isi_int_str ?_ | with_reducible refine Su.x_isi_int_list ?_ | with_reducible refine Su.x_isi_int_tuple ?_ | with_reducible refine Su.x_isi_bool_int ?_ | with_reducible refine Su.x_isi_bool_bool ?_ | with_reducible refine Su.x_isi_bool_str ?_ | with_reducible refine Su.x_isi_bool_list ?_ | with_reducible refine Su.x_isi_bool_tuple ?_ | with_reducible refine Su.x_isi_str_int ?_ | with_reducible refine Su.x_isi_str_bool ?_ | with_reducible refine Su.x_isi_str_str ?_ | with_reducible refine Su.x_isi_str_list ?_ | with_reducible refine Su.x_isi_str_tuple ?_ | with_reducible refine Su.x_isi_NoneType_int ?_ | with_reducible refine Su.x_isi_NoneType_bool ?_ | with_reducible refine Su.x_isi_NoneType_str ?_ | with_reducible refine Su.x_isi_NoneType_list ?_ | with_reducible refine Su.x_isi_NoneType_tuple ?_ | with_reducible refine Su.x_rGt ?_ | with_reducible refine Su.x_rGe ?_ | with_reducible refine Su.x_iteF ?_ | with_reducible refine Su.x_iteT ?_ | with_reducible refine Su.x_iteNT ?_ | with_reducible refine Su.x_iteNF ?_ | with_reducible refine Su.x_eqI ?_ | with_reducible refine Su.x_neI ?_ | with_reducible refine Su.x_eqS ?_ | with_reducible refine Su.x_neS ?_ | with_reducible refine Su.x_eqB ?_ | with_reducible refine Su.x_neB ?_
  | with_reducible refine Su.x_test ?_ | with_reducible refine Su.x_tB ?_ | with_reducible refine Su.x_isB ?_ | with_reducible refine Su.x_isB' ?_ | with_reducible refine Su.x_not ?_ | with_reducible refine Su.x_and ?_ | with_reducible refine Su.x_or ?_
  | with_reducible refine Su.x_andV ?_ | with_reducible refine Su.x_orV ?_ | with_reducible refine Su.x_notV ?_ | with_reducible refine Su.x_chain ?_ | with_reducible refine Su.x_nil ?_ | with_reducible refine Su.x_cons ?_ | with_reducible refine Su.x_cb ?_ | with_reducible refine Su.x_call ?_
  | with_reducible refine Su.x_un ?_ | with_reducible refine Su.x_rU ?_ | with_reducible refine Su.x_abs ?_ | with_reducible refine Su.x_max2 ?_ | with_reducible refine Su.x_min2 ?_ | with_reducible refine Su.x_int1 ?_ | with_reducible refine Su.x_intB ?_
  | with_reducible refine Su.x_lst ?_ | with_reducible refine Su.x_tup ?_ | with_reducible refine Su.x_bmL ?_ | with_reducible refine Su.x_next ?_ | with_reducible refine Su.x_for ?_ | with_reducible refine Su.x_iList ?_ | with_reducible refine Su.x_iRng1 ?_ | with_reducible refine Su.x_iRng2 ?_ | with_reducible refine Su.x_whileN ?_ | with_reducible refine Su.x_iEnum ?_ | with_reducible refine Su.x_iZip ?_ | with_reducible refine Su.x_iZipA ?_ | with_reducible refine Su.x_iTup ?_ | with_reducible refine Su.x_gcons ?_ | with_reducible refine Su.x_gnil ?_ | with_reducible refine Su.x_gsub ?_ | with_reducible refine Su.x_yes ?_ | with_reducible refine Su.x_lc ?_ | with_reducible refine Su.x_sl ?_ | with_reducible refine Su.x_nopart ?_ | with_reducible refine Su.x_part ?_ | with_reducible refine Su.x_isI ?_ | with_reducible refine Su.x_lstRg ?_ | with_reducible refine Su.x_rg1 ?_ | with_reducible refine Su.x_augS ?_ | with_reducible refine Su.x_ipI ?_ | ((with_reducible show L2.tAug _ _ _ _ _ _); refine Su.x_aug rfl ?_) | with_reducible refine Su.x_callS ?_ | with_reducible refine Su.x_tryAs ?_)
local macro_rules | `(tactic| walk_at "xs") => `(tactic| repeat walk_at "x")
local macro_rules | `(tactic| walk_at "if") => `(tactic| first | with_reducible refine Su.x_iteD (fun c => ?_) (fun c => ?_) | with_reducible refine Su.x_iteN (fun c => ?_) (fun c => ?_) | with_reducible refine Su.x_ite (fun c => ?_) (fun c => ?_))
/-! dicts by names; the heap without some places -/
abbrev rSortedD : CR := fun xs H Q => ∃ (a : Addr) (kvs : List (Key × V)) (ks : List Str), xs = [.ref a] ∧ Rd H a (.dK kvs) ∧ kvs.map (·.1) = ks.map Sum.inr ∧ ks.length < 64 ∧ ∀ ys p, ys.Perm ks → PyProof.Rows.sortedS ys = true → H p = none → Q (.ref p) (upd H p (.lst (ys.map V.str)))
def nk (w : List Nat) : Key := .inr (SX.S w)
theorem nk_inj {a b : List Nat} (h : nk a = nk b) : a = b := SX.S_inj (Sum.inr.inj h)
def kvN (l : List (List Nat × V)) : List (Key × V) := l.map fun p => (nk p.1, p.2)
theorem valV_kvN (l : List (List Nat × V)) (w : List Nat) : valV (kvN l) (nk w) = lookN l w := by
  induction l with
  | nil => rfl
  | cons p l ih =>
    rw [lookN_cons]
    by_cases c : p.1 = w
    · rw [if_pos c]
      show valV ((nk p.1, p.2) :: kvN l) (nk w) = _
      rw [valV_pos (by rw [c])]
    · rw [if_neg c, ← ih]
      exact valV_neg (p := (nk p.1, p.2)) fun e => c (nk_inj e)
theorem putK_kvN (l : List (List Nat × V)) (w : List Nat) (v : V) : putK (kvN l) (nk w) v = kvN (putN l w v) := by
  have e : ((kvN l).any fun kv => decide (kv.1 = nk w)) = l.any fun p => decide (p.1 = w) := by
    unfold kvN
    rw [List.any_map]
    congr 1
    funext p
    show decide (nk p.1 = nk w) = decide (p.1 = w)
    by_cases c : p.1 = w
    · rw [c, decide_eq_true rfl, decide_eq_true rfl]
    · rw [decide_eq_false c, decide_eq_false fun e => c (nk_inj e)]
  unfold putK putN
  rw [e]
  split
  · unfold kvN
    rw [List.map_map, List.map_map]
    apply List.map_congr_left
    intro p _
    show (if nk p.1 = nk w then (nk p.1, v) else (nk p.1, p.2)) = _
    by_cases c : p.1 = w
    · simp [c]
    · have : ¬ nk p.1 = nk w := fun e => c (nk_inj e)
      simp [c, this]
  · unfold kvN; simp
theorem dropK_kvN (l : List (List Nat × V)) (w : List Nat) : dropK (kvN l) (nk w) = kvN (dropN l w) := by
  unfold dropK kvN dropN
  rw [List.filter_map]
  congr 1
  apply List.filter_congr
  intro p _
  show decide (nk p.1 ≠ nk w) = decide (p.1 ≠ w)
  by_cases c : p.1 = w
  · simp [c]
  · have : ¬ nk p.1 = nk w := fun e => c (nk_inj e)
    simp [c, this]
theorem kvN_len (l : List (List Nat × V)) : (kvN l).length = l.length := List.length_map ..
theorem kvN_keys (l : List (List Nat × V)) : (kvN l).map (·.1) = ((keysN l).map SX.S).map Sum.inr := by
  unfold kvN; rw [List.map_map, List.map_map, List.map_map]; rfl
section
variable {K : PySem.W.Frag} {σ : St} {H H' : Hp} {Q : VK} {D : Ends} {td ty tv tx : TE} {a : Addr}
def AlD (Q : VK) (H : Hp) : Prop := ∀ p, H p = none → Q (.ref p) (upd H p (.dK []))
theorem x_dnew (h : AlD Q H) : tDNewK σ H Q := h
theorem al_dnew (h : ∀ p H', H p = none → Same H H' → H' p = some (.dK (kvN [])) → Q (.ref p) H') : AlD Q H := fun p n => h p _ n (same_new (Same.refl H) n) upd_same
theorem x_dput (h : tv σ H fun v H1 => td σ H1 fun x H2 => ty σ H2 fun y H3 => ∃ a H4, x = .ref a ∧ DPut H3 a y v H4 ∧ D.nx σ H4) : sDPut td ty tv D σ H := h
theorem x_dgetE (h : td σ H fun x H1 => ty σ H1 fun y H2 => ∃ a v, x = .ref a ∧ DGet H2 a y (some v) ∧ Q v H2) : tDGet td ty σ H Q := h
theorem x_dget2 (h : td σ H fun x H1 => ∃ a, x = .ref a ∧ IsD H1 a ∧ ty σ H1 fun y H2 => tx σ H2 fun z H3 => ∃ o, DGet H3 a y o ∧ Q (o.getD z) H3) : tDGet2 td ty tx σ H Q := h
theorem x_din (h : ty σ H fun y H1 => td σ H1 fun x H2 => ∃ a o, x = .ref a ∧ DGet H2 a y o ∧ Q (.bl o.isSome) H2) : tDIn ty td σ H Q := h
theorem x_dnin (h : ty σ H fun y H1 => td σ H1 fun x H2 => ∃ a o, x = .ref a ∧ DGet H2 a y o ∧ Q (.bl (!o.isSome)) H2) : tDNotIn ty td σ H Q := h
theorem get_N {l : List (List Nat × V)} {w : List Nat} (e : H a = some (.dK (kvN l))) : DGet H a (vS w) (lookN l w) := by
  rw [← valV_kvN]; exact DGet.k (k := nk w) e
theorem put_N {l : List (List Nat × V)} {w : List Nat} {v : V} (e : H a = some (.dK (kvN l))) (hl : l.length ≤ 100000) : DPut H a (vS w) v (upd H a (.dK (kvN (putN l w v)))) := by
  rw [← putK_kvN]; exact DPut.k (k := nk w) e (small (by rw [kvN_len]; exact hl))
end
/-! the heap without some places -/
def hide (A : List Addr) (H : Hp) : Hp := fun b => if b ∈ A then none else H b
section
variable {H H' : Hp} {A : List Addr} {a b : Addr} {o : HO}
theorem hide_in (h : a ∈ A) : hide A H a = none := by unfold hide; rw [if_pos h]
theorem hide_out (h : a ∉ A) : hide A H a = H a := by unfold hide; rw [if_neg h]
theorem hide_same : Same (hide A H) H := fun b o e => by
  by_cases c : b ∈ A
  · rw [hide_in c] at e; cases e
  · rw [hide_out c] at e; exact e
theorem hide_upd (h : a ∈ A) : hide A (upd H a o) = hide A H := by
  funext b
  by_cases c : b ∈ A
  · rw [hide_in c, hide_in c]
  · rw [hide_out c, hide_out c, upd_ne (fun (e : b = a) => c (by rw [e]; exact h))]
theorem hide_mono (e : Same H H') : Same (hide A H) (hide A H') := fun b o h => by
  by_cases c : b ∈ A
  · rw [hide_in c] at h; cases h
  · rw [hide_out c] at h ⊢; exact e b o h
theorem same_hide (e : Same H H') (n : ∀ a ∈ A, H a = none) : Same H (hide A H') := fun b o h => by
  have c : b ∉ A := fun c => by rw [n b c] at h; cases h
  rw [hide_out c]; exact e b o h
theorem hide_sub {B : List Addr} (h : ∀ a ∈ A, a ∈ B) : Same (hide B H) (hide A H) := fun b o e => by
  by_cases c : b ∈ B
  · rw [hide_in c] at e; cases e
  · rw [hide_out c] at e; rw [hide_out fun z => c (h b z)]; exact e
theorem hide_new (n : H a = none) (hA : a ∉ A) : Same (hide A H) (hide A (upd H a o)) := hide_mono (same_new (Same.refl H) n)
theorem del_eq_hide : del H a = hide [a] H := by
  funext b
  unfold del hide
  simp
end
/-- the list at p holds these data, none of which leans on what stands in A -/
def LsAt (K : PySem.W.Frag) (A : List Addr) (H : Hp) (p : Addr) (ds : List PyData) : Prop := ∃ xs, H p = some (.lst xs) ∧ DpAll K (hide A H) xs ds
theorem LsAt.dp {K : PySem.W.Frag} {A : List Addr} {H : Hp} {p : Addr} {ds : List PyData} (h : LsAt K A H p ds) : Dp K H (.ref p) (.list ds) := by
  obtain ⟨xs, h1, h2⟩ := h
  exact .lst (SqL.of h1) (dpAll_same hide_same h2)
/-! nets and transfers as data -/
def dNet (p : List Nat × Int) : PyData := .tuple [.str (SX.S p.1), .int p.2]
def dTr (p : List Nat × List Nat × Int) : PyData := .tuple [.str (SX.S p.1), .str (SX.S p.2.1), .int p.2.2]
section
variable {K : PySem.W.Frag} {H : Hp} {v : V}
theorem dp_net {p : List Nat × Int} (h : Dp K H v (dNet p)) : ∃ t, v = .ref t ∧ SqT K H t [vS p.1, .int p.2] := by
  obtain ⟨a, xs, rfl, h1, h2⟩ := dp_tup h
  cases h2 with
  | cons p h3 => cases h3 with
    | cons q h4 =>
      cases h4
      cases dp_str p; cases dp_int q
      exact ⟨a, rfl, h1⟩
theorem net_dp {p : List Nat × Int} {t : Addr} (h : SqT K H t [vS p.1, .int p.2]) : Dp K H (.ref t) (dNet p) := .tup h (.cons (.str _) (.cons (.int _) .nil))
theorem dp_tr {p : List Nat × List Nat × Int} (h : Dp K H v (dTr p)) : ∃ t, v = .ref t ∧ SqT K H t [vS p.1, vS p.2.1, .int p.2.2] := by
  obtain ⟨a, xs, rfl, h1, h2⟩ := dp_tup h
  cases h2 with
  | cons p h3 => cases h3 with
    | cons q h4 => cases h4 with
      | cons r h5 =>
        cases h5
        cases dp_str p; cases dp_str q; cases dp_int r
        exact ⟨a, rfl, h1⟩
theorem tr_dp {p : List Nat × List Nat × Int} {t : Addr} (h : SqT K H t [vS p.1, vS p.2.1, .int p.2.2]) : Dp K H (.ref t) (dTr p) := .tup h (.cons (.str _) (.cons (.str _) (.cons (.int _) .nil)))
end
theorem sorted_names {ys : List Str} {ws : List (List Nat)} (hp : ys.Perm (ws.map SX.S)) (hs : PyProof.Rows.sortedS ys = true) : ∃ ws' : List (List Nat), ys = ws'.map SX.S ∧ ws'.Perm ws ∧ ws'.Pairwise fun a b => ¬ b < a := by
  refine ⟨ys.map TL.tl, ?_, ?_, ?_⟩
  · rw [List.map_map]
    conv => lhs; rw [← List.map_id ys]
    apply List.map_congr_left
    intro y _
    exact (SX.S_tl y).symm
  · have := hp.map TL.tl
    rwa [SX.map_S_tl] at this
  · rw [List.pairwise_map]
    have gen : ∀ (l : List Str) (x : Str), PyProof.Rows.risingS x l = true → (x :: l).Pairwise fun a b => ¬ TL.tl b < TL.tl a := by
      intro l
      induction l with
      | nil => intro x _; simp
      | cons y l ih =>
        intro x h
        rw [PyProof.Rows.risingS, Bool.and_eq_true, Bool.not_eq_true', PyProof.Rows.ltCps_eq, decide_eq_false_iff_not] at h
        have z := ih y h.2
        refine List.pairwise_cons.mpr ⟨fun b hb => ?_, z⟩
        rcases List.mem_cons.mp hb with rfl | hb
        · exact h.1
        · have h2 := (List.pairwise_cons.mp z).1 b hb
          intro c
          have c1 : TL.tl x ≤ TL.tl y := List.not_lt.mp h.1
          have c2 : TL.tl y ≤ TL.tl b := List.not_lt.mp h2
          exact (List.not_lt.mpr (List.le_trans c1 c2)) c
    cases ys with
    | nil => exact List.Pairwise.nil
    | cons y l => exact gen l y hs
theorem pw_strict {ws : List (List Nat)} (h : ws.Pairwise fun a b => ¬ b < a) (nd : ws.Nodup) : ws.Pairwise (· < ·) := by
  refine (h.and nd).imp fun {a b} z => wlt_tri z.1 z.2
theorem range_getN {α β : Type} (g : α → β) (l : List α) : ∀ n, n ≤ l.length → (List.range n).filterMap (fun i => (l[i]?).map g) = (l.take n).map g
  | 0, _ => by simp
  | n + 1, h => by
    rw [List.range_succ, List.filterMap_append, range_getN g l n (by omega), List.take_succ, List.map_append, List.getElem?_eq_getElem (show n < l.length by omega)]
    simp [List.getElem?_eq_getElem (show n < l.length by omega)]
theorem range_get {α β : Type} (g : α → β) (l : List α) : (List.range l.length).filterMap (fun i => (l[i]?).map g) = l.map g := by
  rw [range_getN g l _ (Nat.le_refl _), List.take_length]
theorem set_mapI (l : List Int) (t : Nat) (x : Int) : (l.map V.int).set ((t : Int)).toNat (.int x) = (l.set t x).map V.int := by rw [List.map_set, Int.toNat_natCast]
theorem range_get2 (l : List (List Nat × Int)) : (List.range l.length).filterMap (fun i => (l[i]?).map fun p => V.int p.2) = (l.map (·.2)).map V.int := by
  rw [List.map_map]; exact range_get (fun p : List Nat × Int => V.int p.2) l
theorem at_zero {x : V} {xs : List V} : atI (x :: xs) 0 = some x := by
  rw [at_get (d := .non) (by omega) (by simp)]; rfl

end Su
namespace Su
open PySem L2
local macro_rules | `(tactic| walk_at "side") => `(tactic| first | assumption | (show (0 : Int) < _; omega) | (show (0 : Int) ≤ _; omega) | (show (0 : Int) < _; split <;> omega) | (show _ ∨ _; omega) | (show _ ∧ _; omega) | exact ⟨by decide, by decide, by decide⟩ | exact ⟨by first | assumption | omega, by first | assumption | omega⟩)
local macro_rules | `(tactic| walk_at "x") => `(tactic| first
  | with_reducible refine Su.x_seq ?_ | with_reducible refine Su.x_asg ?_ | with_reducible refine Su.x_gname ?_ | with_reducible refine Su.x_drop ?_ | with_reducible refine Su.x_ret ?_ | with_reducible refine Su.x_ifS ?_
  | ((with_reducible show L2.tVar _ _ _ _); refine Su.x_var rfl ?_) | with_reducible refine Su.x_c ?_ | with_reducible refine Su.x_op ?_ | with_reducible refine Su.x_rI0 ?_ | ((with_reducible refine Su.x_rI ?_ ?_); focus walk_at "side")
  | ((with_reducible show L2.rIxL _ (L2.V.ref _) (L2.V.int _) _ _); refine Su.x_ixI (by assumption) (by first | decide | omega) (by omega) ?_) | with_reducible refine Su.x_isi_int_int ?_ | with_reducible refine Su.x_isi_int_bool ?_ | with_reducible refine Su.x_isi_int_str ?_ | with_reducible refine Su.x_isi_int_list ?_ | with_reducible refine Su.x_isi_int_tuple ?_ | with_reducible refine Su.x_isi_bool_int ?_ | with_reducible refine Su.x_isi_bool_bool ?_ | with_reducible refine Su.x_isi_bool_str ?_ | with_reducible refine Su.x_isi_bool_list ?_ | with_reducible refine Su.x_isi_bool_tuple ?_ | with_reducible refine Su.x_isi_str_int ?_ | with_reducible refine Su.x_isi_str_bool ?_ | with_reducible refine Su.x_isi_str_str ?_ | with_reducible refine Su.x_isi_str_list ?_ | with_reducible refine Su.x_isi_str_tuple ?_ | with_reducible refine Su.x_isi_NoneType_int ?_ | with_reducible refine Su.x_isi_NoneType_bool ?_ | with_reducible refine Su.x_isi_NoneType_str ?_ | with_reducible refine Su.x_isi_NoneType_list ?_ | with_reducible refine Su.x_isi_NoneType_tuple ?_ | with_reducible refine Su.x_rGt ?_ | with_reducible refine Su.x_rGe ?_ | with_reducible refine Su.x_iteF ?_ | with_reducible refine Su.x_iteT ?_ | with_reducible refine Su.x_iteNT ?_ | with_reducible refine Su.x_iteNF ?_ | with_reducible refine Su.x_eqI ?_ | with_reducible refine Su.x_neI ?_ | with_reducible refine Su.x_eqS ?_ | with_reducible refine Su.x_neS ?_ | with_reducible refine Su.x_eqB ?_ | with_reducible refine Su.x_neB ?_
  | with_reducible refine Su.x_test ?_ | with_reducible refine Su.x_tB ?_ | with_reducible refine Su.x_isB ?_ | with_reducible refine Su.x_isB' ?_ | with_reducible refine Su.x_not ?_ | with_reducible refine Su.x_and ?_ | with_reducible refine Su.x_or ?_
  | with_reducible refine Su.x_andV ?_ | with_reducible refine Su.x_orV ?_ | with_reducible refine Su.x_notV ?_ | with_reducible refine Su.x_chain ?_ | with_reducible refine Su.x_nil ?_ | with_reducible refine Su.x_cons ?_ | with_reducible refine Su.x_cb ?_ | with_reducible refine Su.x_call ?_
  | with_reducible refine Su.x_un ?_ | with_reducible refine Su.x_rU ?_ | with_reducible refine Su.x_abs ?_ | with_reducible refine Su.x_max2 ?_ | with_reducible refine Su.x_min2 ?_ | with_reducible refine Su.x_int1 ?_ | with_reducible refine Su.x_intB ?_
  | with_reducible refine Su.x_lst ?_ | with_reducible refine Su.x_tup ?_ | with_reducible refine Su.x_bmL ?_ | with_reducible refine Su.x_next ?_ | with_reducible refine Su.x_for ?_ | with_reducible refine Su.x_iList ?_ | with_reducible refine Su.x_iRng1 ?_ | with_reducible refine Su.x_iRng2 ?_ | with_reducible refine Su.x_whileN ?_ | with_reducible refine Su.x_iEnum ?_ | with_reducible refine Su.x_iZip ?_ | with_reducible refine Su.x_iZipA ?_ | with_reducible refine Su.x_iTup ?_ | with_reducible refine Su.x_gcons ?_ | with_reducible refine Su.x_gnil ?_ | with_reducible refine Su.x_gsub ?_ | with_reducible refine Su.x_yes ?_ | with_reducible refine Su.x_lc ?_ | with_reducible refine Su.x_sl ?_ | with_reducible refine Su.x_nopart ?_ | with_reducible refine Su.x_part ?_ | with_reducible refine Su.x_isI ?_ | with_reducible refine Su.x_lstRg ?_ | with_reducible refine Su.x_rg1 ?_ | with_reducible refine Su.x_augS ?_ | with_reducible refine Su.x_ipI ?_ | ((with_reducible show L2.tAug _ _ _ _ _ _); refine Su.x_aug rfl ?_) | with_reducible refine Su.x_callS ?_ | with_reducible refine Su.x_tryAs ?_)
local macro_rules | `(tactic| walk_at "xs") => `(tactic| repeat walk_at "x")
local macro_rules | `(tactic| walk_at "if") => `(tactic| first | with_reducible refine Su.x_iteD (fun c => ?_) (fun c => ?_) | with_reducible refine Su.x_iteN (fun c => ?_) (fun c => ?_) | with_reducible refine Su.x_ite (fun c => ?_) (fun c => ?_))
/-! transfers: the plain law -/
def negAt (l : List Int) : Option Nat := l.findIdx? fun x => decide (x < 0)
def posAt (l : List Int) : Option Nat := l.findIdx? fun x => decide (0 < x)
def tmin (a b : Int) : Int := if b < a then b else a
def trCoins (l : List Int) (g t : Nat) : Int := tmin (-(l.getD g 0)) (l.getD t 0)
def trMoved (l : List Int) (g t : Nat) (c : Int) : List Int := (l.set g (l.getD g 0 + c)).set t ((l.set g (l.getD g 0 + c)).getD t 0 - c)
def trGo : Nat → List Int → List (Nat × Nat × Int)
  | 0, _ => []
  | k + 1, l => match negAt l, posAt l with
    | some g, some t => (g, t, trCoins l g t) :: trGo k (trMoved l g t (trCoins l g t))
    | _, _ => []
def nz (l : List Int) : Nat := l.countP fun x => decide (x ≠ 0)
theorem findAt {p : Int → Bool} {l : List Int} {i : Nat} (h : l.findIdx? p = some i) : i < l.length ∧ p (l.getD i 0) = true := by
  rw [List.findIdx?_eq_some_iff_getElem] at h
  obtain ⟨h1, h2, _⟩ := h
  refine ⟨h1, ?_⟩
  rw [List.getD_eq_getElem?_getD, List.getElem?_eq_getElem h1]
  exact h2
theorem findNone {p : Int → Bool} {l : List Int} (h : l.findIdx? p = none) : ∀ x ∈ l, p x = false := by
  rw [List.findIdx?_eq_none_iff] at h
  exact h
theorem negAt_some {l : List Int} {i : Nat} (h : negAt l = some i) : i < l.length ∧ l.getD i 0 < 0 := by
  have := findAt h; simpa using this
theorem posAt_some {l : List Int} {i : Nat} (h : posAt l = some i) : i < l.length ∧ 0 < l.getD i 0 := by
  have := findAt h; simpa using this
theorem negAt_none {l : List Int} (h : negAt l = none) : ∀ x ∈ l, 0 ≤ x := fun x hx => by
  have := findNone h x hx; simpa using this
theorem posAt_none {l : List Int} (h : posAt l = none) : ∀ x ∈ l, x ≤ 0 := fun x hx => by
  have := findNone h x hx; simpa using this
theorem sum_nn : ∀ {l : List Int}, (∀ x ∈ l, 0 ≤ x) → 0 ≤ l.sum ∧ (l.sum = 0 → ∀ x ∈ l, x = 0)
  | [], _ => ⟨by simp, fun _ x h => nomatch h⟩
  | y :: l, h => by
    have h1 := h y List.mem_cons_self
    have h2 := sum_nn (l := l) fun x hx => h x (List.mem_cons_of_mem _ hx)
    rw [List.sum_cons]
    refine ⟨by omega, fun e x hx => ?_⟩
    rcases List.mem_cons.mp hx with rfl | hx
    · omega
    · exact h2.2 (by omega) x hx
theorem sum_np : ∀ {l : List Int}, (∀ x ∈ l, x ≤ 0) → l.sum ≤ 0 ∧ (l.sum = 0 → ∀ x ∈ l, x = 0)
  | [], _ => ⟨by simp, fun _ x h => nomatch h⟩
  | y :: l, h => by
    have h1 := h y List.mem_cons_self
    have h2 := sum_np (l := l) fun x hx => h x (List.mem_cons_of_mem _ hx)
    rw [List.sum_cons]
    refine ⟨by omega, fun e x hx => ?_⟩
    rcases List.mem_cons.mp hx with rfl | hx
    · omega
    · exact h2.2 (by omega) x hx
theorem nz_zero {l : List Int} (h : nz l = 0) : ∀ x ∈ l, x = 0 := by
  unfold nz at h
  rw [List.countP_eq_zero] at h
  intro x hx
  have := h x hx
  simpa using this
theorem zero_nz {l : List Int} (h : ∀ x ∈ l, x = 0) : nz l = 0 := by
  unfold nz
  rw [List.countP_eq_zero]
  intro x hx
  simp [h x hx]
theorem getD_set {l : List Int} {i j : Nat} {a : Int} (h : i < l.length) : (l.set i a).getD j 0 = if i = j then a else l.getD j 0 := by
  rw [List.getD_eq_getElem?_getD, List.getD_eq_getElem?_getD, List.getElem?_set]
  by_cases c : i = j
  · subst c; simp [h]
  · simp [c]
theorem sum_set : ∀ {l : List Int} {i : Nat} {a : Int}, i < l.length → (l.set i a).sum = l.sum - l.getD i 0 + a
  | x :: l, 0, a, _ => by simp [List.sum_cons]; omega
  | x :: l, i + 1, a, h => by
    have := sum_set (l := l) (i := i) (a := a) (by simpa using h)
    simp only [List.set_cons_succ, List.sum_cons, List.getD_cons_succ] at *
    omega
theorem nz_set : ∀ {l : List Int} {i : Nat} {a : Int}, i < l.length → nz (l.set i a) + (if l.getD i 0 = 0 then 0 else 1) = nz l + (if a = 0 then 0 else 1)
  | x :: l, 0, a, _ => by
    simp only [nz, List.set_cons_zero, List.countP_cons, List.getD_cons_zero]
    by_cases h1 : x = 0 <;> by_cases h2 : a = 0 <;> simp [h1, h2]
  | x :: l, i + 1, a, h => by
    have := nz_set (l := l) (i := i) (a := a) (by simpa using h)
    simp only [nz, List.set_cons_succ, List.countP_cons, List.getD_cons_succ] at *
    omega
structure TrStep (l : List Int) (g t : Nat) (c : Int) (m : List Int) : Prop where
  ne : g ≠ t
  gl : g < l.length
  tl : t < l.length
  c1 : 1 ≤ c
  len : m.length = l.length
  sum : m.sum = l.sum
  nz : nz m < nz l
  nz2 : 2 ≤ Su.nz l
  at_ : ∀ i, m.getD i 0 = l.getD i 0 + (if g = i then c else 0) - (if t = i then c else 0)
theorem trStep {l : List Int} {g t : Nat} (hg : negAt l = some g) (ht : posAt l = some t) : TrStep l g t (trCoins l g t) (trMoved l g t (trCoins l g t)) := by
  have h1 := negAt_some hg
  have h2 := posAt_some ht
  have ne : g ≠ t := fun e => by subst e; omega
  have hl : t < (l.set g (l.getD g 0 + trCoins l g t)).length := by rw [List.length_set]; exact h2.1
  have e1 : (l.set g (l.getD g 0 + trCoins l g t)).getD t 0 = l.getD t 0 := by rw [getD_set h1.1, if_neg ne]
  have hc : trCoins l g t = -(l.getD g 0) ∧ trCoins l g t ≤ l.getD t 0 ∨ trCoins l g t = l.getD t 0 ∧ trCoins l g t ≤ -(l.getD g 0) := by
    unfold trCoins tmin
    split <;> omega
  have n1 := nz_set (l := l) (a := l.getD g 0 + trCoins l g t) h1.1
  have n2 := nz_set (a := (l.set g (l.getD g 0 + trCoins l g t)).getD t 0 - trCoins l g t) hl
  rw [e1] at n2
  have n0 : 2 ≤ nz l := by
    have m1 := nz_set (l := l) (a := 0) h1.1
    have hl' : t < (l.set g 0).length := by rw [List.length_set]; exact h2.1
    have m2 := nz_set (a := 0) hl'
    rw [getD_set h1.1, if_neg ne] at m2
    rw [if_neg (by omega), if_pos rfl] at m1 m2
    omega
  refine ⟨ne, h1.1, h2.1, by omega, by simp [trMoved], ?_, ?_, n0, fun i => ?_⟩
  · unfold trMoved
    rw [sum_set hl, sum_set h1.1, e1]; omega
  · unfold trMoved
    rw [e1]
    rw [if_neg (by omega)] at n1 n2
    have : (l.getD g 0 + trCoins l g t = 0) ∨ (l.getD t 0 - trCoins l g t = 0) := by omega
    rcases this with z | z
    · rw [if_pos z] at n1
      have : (if l.getD t 0 - trCoins l g t = 0 then 0 else 1) ≤ 1 := by split <;> omega
      omega
    · rw [if_pos z] at n2
      have : (if l.getD g 0 + trCoins l g t = 0 then 0 else 1) ≤ 1 := by split <;> omega
      omega
  · unfold trMoved
    rw [getD_set hl, e1, getD_set h1.1]
    by_cases a : t = i
    · subst a; rw [if_pos rfl, if_neg ne, if_pos rfl]; omega
    · rw [if_neg a, if_neg a]
      by_cases b : g = i
      · subst b; rw [if_pos rfl, if_pos rfl]; omega
      · rw [if_neg b, if_neg b]; omega
/-- the step is there as long as something is left -/
theorem tr_ways {l : List Int} (h : l.sum = 0) : (negAt l = none ∧ posAt l = none ∧ nz l = 0) ∨ ∃ g t, negAt l = some g ∧ posAt l = some t := by
  cases hg : negAt l with
  | none =>
    have z := (sum_nn (negAt_none hg)).2 h
    refine .inl ⟨rfl, ?_, zero_nz z⟩
    cases ht : posAt l with
    | none => rfl
    | some t =>
      have := posAt_some ht
      have e := z (l.getD t 0) (by rw [List.getD_eq_getElem?_getD, List.getElem?_eq_getElem this.1]; exact List.getElem_mem _)
      omega
  | some g =>
    refine .inr ⟨g, ?_⟩
    cases ht : posAt l with
    | none =>
      have z := (sum_np (posAt_none ht)).2 h
      have := negAt_some hg
      have e := z (l.getD g 0) (by rw [List.getD_eq_getElem?_getD, List.getElem?_eq_getElem this.1]; exact List.getElem_mem _)
      omega
    | some t => exact ⟨t, rfl, rfl⟩
theorem trGo_step {k : Nat} {l : List Int} {g t : Nat} (hg : negAt l = some g) (ht : posAt l = some t) : trGo (k + 1) l = (g, t, trCoins l g t) :: trGo k (trMoved l g t (trCoins l g t)) := by
  rw [trGo, hg, ht]
theorem trGo_none {k : Nat} {l : List Int} (hg : negAt l = none) : trGo k l = [] := by
  cases k with
  | zero => rfl
  | succ k => rw [trGo, hg]
theorem trGo_more : ∀ {k k' : Nat} {l : List Int}, l.sum = 0 → nz l ≤ k → nz l ≤ k' → trGo k l = trGo k' l
  | 0, k', l, h, h1, h2 => by
    rcases tr_ways h with ⟨a, _, _⟩ | ⟨g, t, a, b⟩
    · rw [trGo_none a, trGo_none a]
    · have := (trStep a b).nz2; omega
  | k + 1, 0, l, h, h1, h2 => by
    rcases tr_ways h with ⟨a, _, _⟩ | ⟨g, t, a, b⟩
    · rw [trGo_none a, trGo_none a]
    · have := (trStep a b).nz2; omega
  | k + 1, k' + 1, l, h, h1, h2 => by
    rcases tr_ways h with ⟨a, _, _⟩ | ⟨g, t, a, b⟩
    · rw [trGo_none a, trGo_none a]
    · have s := trStep a b
      have := s.nz
      rw [trGo_step a b, trGo_step a b, trGo_more (k := k) (k' := k') (by rw [s.sum]; exact h) (by omega) (by omega)]
/-- what the rows bring to a place less what they take -/
def trNet (rows : List (Nat × Nat × Int)) (i : Nat) : Int := (rows.map fun r => (if r.2.1 = i then r.2.2 else 0) - (if r.1 = i then r.2.2 else 0)).sum
structure TrOk (l : List Int) (rows : List (Nat × Nat × Int)) : Prop where
  row : ∀ r ∈ rows, r.1 < l.length ∧ r.2.1 < l.length ∧ r.1 ≠ r.2.1 ∧ 1 ≤ r.2.2
  net : ∀ i, trNet rows i = l.getD i 0
  few : (nz l = 0 ∧ rows = []) ∨ rows.length < nz l
theorem trGo_ok : ∀ {k : Nat} {l : List Int}, l.sum = 0 → nz l ≤ k → TrOk l (trGo k l) := fun {k} {l} h hk => by
  induction k generalizing l with
  | zero =>
    have z := nz_zero (l := l) (by omega)
    refine ⟨fun r hr => (nomatch hr), fun i => ?_, .inl ⟨by omega, rfl⟩⟩
    show 0 = _
    rw [List.getD_eq_getElem?_getD]
    cases e : l[i]? with
    | none => rfl
    | some v => exact (z v (List.mem_of_getElem? e)).symm
  | succ k ih =>
    rcases tr_ways h with ⟨a, _, n0⟩ | ⟨g, t, a, b⟩
    · rw [trGo_none a]
      have z := nz_zero n0
      refine ⟨fun r hr => (nomatch hr), fun i => ?_, .inl ⟨n0, rfl⟩⟩
      show 0 = _
      rw [List.getD_eq_getElem?_getD]
      cases e : l[i]? with
      | none => rfl
      | some v => exact (z v (List.mem_of_getElem? e)).symm
    · have s := trStep a b
      have hn := s.nz
      have q := ih (l := trMoved l g t (trCoins l g t)) (by rw [s.sum]; exact h) (by omega)
      rw [trGo_step a b]
      generalize trGo k (trMoved l g t (trCoins l g t)) = rows at q
      refine ⟨fun r hr => ?_, fun i => ?_, .inr ?_⟩
      · rcases List.mem_cons.mp hr with rfl | hr
        · exact ⟨s.gl, s.tl, s.ne, s.c1⟩
        · have := q.row r hr; rw [s.len] at this; exact this
      · have e := q.net i
        rw [s.at_ i] at e
        have : trNet ((g, t, trCoins l g t) :: rows) i = (if t = i then trCoins l g t else 0) - (if g = i then trCoins l g t else 0) + trNet rows i := by simp [trNet]
        rw [this, e]
        omega
      · have n2 := s.nz2
        rcases q.few with ⟨_, rfl⟩ | q
        · simp; omega
        · rw [List.length_cons]; omega
theorem nz_le (l : List Int) : nz l ≤ l.length := List.countP_le_length

end Su
namespace Su
open PySem L2
local macro_rules | `(tactic| walk_at "side") => `(tactic| first | assumption | (show (0 : Int) < _; omega) | (show (0 : Int) ≤ _; omega) | (show (0 : Int) < _; split <;> omega) | (show _ ∨ _; omega) | (show _ ∧ _; omega) | exact ⟨by decide, by decide, by decide⟩ | exact ⟨by first | assumption | omega, by first | assumption | omega⟩)
local macro_rules | `(tactic| walk_at "x") => `(tactic| first
  | with_reducible refine Su.x_seq ?_ | with_reducible refine Su.x_asg ?_ | with_reducible refine Su.x_gname ?_ | with_reducible refine Su.x_drop ?_ | with_reducible refine Su.x_ret ?_ | with_reducible refine Su.x_ifS ?_
  | ((with_reducible show L2.tVar _ _ _ _); refine Su.x_var rfl ?_) | with_reducible refine Su.x_c ?_ | with_reducible refine Su.x_op ?_ | with_reducible refine Su.x_rI0 ?_ | ((with_reducible refine Su.x_rI ?_ ?_); focus walk_at "side")
  | ((with_reducible show L2.rIxL _ (L2.V.ref _) (L2.V.int _) _ _); refine Su.x_ixI (by assumption) (by first | decide | omega) (by omega) ?_) | with_reducible refine Su.x_isi_int_int ?_ | with_reducible refine Su.x_isi_int_bool ?_ | with_reducible refine Su.x_isi_int_str ?_ | with_reducible refine Su.x_isi_int_list ?_ | with_reducible refine Su.x_isi_int_tuple ?_ | with_reducible refine Su.x_isi_bool_int ?_ | with_reducible refine Su.x_isi_bool_bool ?_ | with_reducible refine Su.x_isi_bool_str ?_ | with_reducible refine Su.x_isi_bool_list ?_ | with_reducible refine Su.x_isi_bool_tuple ?_ | with_reducible refine Su.x_isi_str_int ?_ | with_reducible refine Su.x_isi_str_bool ?_ | with_reducible refine Su.x_isi_str_str ?_ | with_reducible refine Su.x_isi_str_list ?_ | with_reducible refine Su.x_isi_str_tuple ?_ | with_reducible refine Su.x_isi_NoneType_int ?_ | with_reducible refine Su.x_isi_NoneType_bool ?_ | with_reducible refine Su.x_isi_NoneType_str ?_ | with_reducible refine Su.x_isi_NoneType_list ?_ | with_reducible refine Su.x_isi_NoneType_tuple ?_ | with_reducible refine Su.x_rGt ?_ | with_reducible refine Su.x_rGe ?_ | with_reducible refine Su.x_iteF ?_ | with_reducible refine Su.x_iteT ?_ | with_reducible refine Su.x_iteNT ?_ | with_reducible refine Su.x_iteNF ?_ | with_reducible refine Su.x_eqI ?_ | with_reducible refine Su.x_neI ?_ | with_reducible refine Su.x_eqS ?_ | with_reducible refine Su.x_neS ?_ | with_reducible refine Su.x_eqB ?_ | with_reducible refine Su.x_neB ?_
  | with_reducible refine Su.x_test ?_ | with_reducible refine Su.x_tB ?_ | with_reducible refine Su.x_isB ?_ | with_reducible refine Su.x_isB' ?_ | with_reducible refine Su.x_not ?_ | with_reducible refine Su.x_and ?_ | with_reducible refine Su.x_or ?_
  | with_reducible refine Su.x_andV ?_ | with_reducible refine Su.x_orV ?_ | with_reducible refine Su.x_notV ?_ | with_reducible refine Su.x_chain ?_ | with_reducible refine Su.x_nil ?_ | with_reducible refine Su.x_cons ?_ | with_reducible refine Su.x_cb ?_ | with_reducible refine Su.x_call ?_
  | with_reducible refine Su.x_un ?_ | with_reducible refine Su.x_rU ?_ | with_reducible refine Su.x_abs ?_ | with_reducible refine Su.x_max2 ?_ | with_reducible refine Su.x_min2 ?_ | with_reducible refine Su.x_int1 ?_ | with_reducible refine Su.x_intB ?_
  | with_reducible refine Su.x_lst ?_ | with_reducible refine Su.x_tup ?_ | with_reducible refine Su.x_bmL ?_ | with_reducible refine Su.x_next ?_ | with_reducible refine Su.x_for ?_ | with_reducible refine Su.x_iList ?_ | with_reducible refine Su.x_iRng1 ?_ | with_reducible refine Su.x_iRng2 ?_ | with_reducible refine Su.x_whileN ?_ | with_reducible refine Su.x_iEnum ?_ | with_reducible refine Su.x_iZip ?_ | with_reducible refine Su.x_iZipA ?_ | with_reducible refine Su.x_iTup ?_ | with_reducible refine Su.x_gcons ?_ | with_reducible refine Su.x_gnil ?_ | with_reducible refine Su.x_gsub ?_ | with_reducible refine Su.x_yes ?_ | with_reducible refine Su.x_lc ?_ | with_reducible refine Su.x_sl ?_ | with_reducible refine Su.x_nopart ?_ | with_reducible refine Su.x_part ?_ | with_reducible refine Su.x_isI ?_ | with_reducible refine Su.x_lstRg ?_ | with_reducible refine Su.x_rg1 ?_ | with_reducible refine Su.x_augS ?_ | with_reducible refine Su.x_ipI ?_ | ((with_reducible show L2.tAug _ _ _ _ _ _); refine Su.x_aug rfl ?_) | with_reducible refine Su.x_callS ?_ | with_reducible refine Su.x_tryAs ?_)
local macro_rules | `(tactic| walk_at "xs") => `(tactic| repeat walk_at "x")
local macro_rules | `(tactic| walk_at "if") => `(tactic| first | with_reducible refine Su.x_iteD (fun c => ?_) (fun c => ?_) | with_reducible refine Su.x_iteN (fun c => ?_) (fun c => ?_) | with_reducible refine Su.x_ite (fun c => ?_) (fun c => ?_))
/-! good data: may be compared, are like themselves -/
mutual
theorem okD_lay : ∀ d : PyData, okD d = true → PyData.canLay0 d = true
  | .none, _ => rfl
  | .bool _, _ => rfl
  | .int _, _ => rfl
  | .str _, h => h
  | .list xs, h => by
    simp only [okD, Bool.and_eq_true] at h
    show PyData.canLayAll0 xs = true
    exact okL_lay xs h.2
  | .tuple xs, h => by
    simp only [okD, Bool.and_eq_true] at h
    show PyData.canLayAll0 xs = true
    exact okL_lay xs h.2
  | .dict _, h => by simp [okD] at h
theorem okL_lay : ∀ ds : List PyData, okL ds = true → PyData.canLayAll0 ds = true
  | [], _ => rfl
  | d :: ds, h => by
    simp only [okL, Bool.and_eq_true] at h
    show (PyData.canLay0 d && PyData.canLayAll0 ds) = true
    rw [okD_lay d h.1, okL_lay ds h.2]; rfl
end
mutual
theorem eqv_self : ∀ d : PyData, okD d = true → PyData.eqv d d = true
  | .none, _ => rfl
  | .bool b, _ => by simp [PyData.eqv]
  | .int b, _ => by simp [PyData.eqv]
  | .str b, _ => by simp [PyData.eqv]
  | .list xs, h => by
    simp only [okD, Bool.and_eq_true] at h
    show PyData.eqvAll xs xs = true
    exact eqvAll_self xs h.2
  | .tuple xs, h => by
    simp only [okD, Bool.and_eq_true] at h
    show PyData.eqvAll xs xs = true
    exact eqvAll_self xs h.2
  | .dict _, h => by simp [okD] at h
theorem eqvAll_self : ∀ ds : List PyData, okL ds = true → PyData.eqvAll ds ds = true
  | [], _ => rfl
  | d :: ds, h => by
    simp only [okL, Bool.and_eq_true] at h
    show (PyData.eqv d d && PyData.eqvAll ds ds) = true
    rw [eqv_self d h.1, eqvAll_self ds h.2]; rfl
end
structure GoodD (n : Nat) (d : PyData) : Prop where
  ok : okD d = true
  dep : d.depth ≤ n
theorem okL_all {ds : List PyData} (h : ∀ d ∈ ds, okD d = true) : okL ds = true := by
  induction ds with
  | nil => rfl
  | cons d ds ih =>
    simp only [okL, Bool.and_eq_true]
    exact ⟨h d List.mem_cons_self, ih fun x hx => h x (List.mem_cons_of_mem _ hx)⟩
theorem dep_all {ds : List PyData} {n : Nat} (h : ∀ d ∈ ds, d.depth ≤ n) : PyData.depthAll ds ≤ n := by
  induction ds with
  | nil => exact Nat.zero_le _
  | cons d ds ih =>
    show max d.depth (PyData.depthAll ds) ≤ n
    exact Nat.max_le.mpr ⟨h d List.mem_cons_self, ih fun x hx => h x (List.mem_cons_of_mem _ hx)⟩
theorem GoodD.lst {ds : List PyData} {n : Nat} (hl : ds.length ≤ 1000) (h : ∀ d ∈ ds, GoodD n d) : GoodD (n + 1) (.list ds) := by
  refine ⟨?_, ?_⟩
  · simp only [okD, Bool.and_eq_true, decide_eq_true_eq]
    exact ⟨hl, okL_all fun d hd => (h d hd).ok⟩
  · show PyData.depthAll ds + 1 ≤ n + 1
    have := dep_all fun d hd => (h d hd).dep
    omega
theorem GoodD.tup {ds : List PyData} {n : Nat} (hl : ds.length ≤ 1000) (h : ∀ d ∈ ds, GoodD n d) : GoodD (n + 1) (.tuple ds) := by
  refine ⟨?_, ?_⟩
  · simp only [okD, Bool.and_eq_true, decide_eq_true_eq]
    exact ⟨hl, okL_all fun d hd => (h d hd).ok⟩
  · show PyData.depthAll ds + 1 ≤ n + 1
    have := dep_all fun d hd => (h d hd).dep
    omega
theorem GoodD.int (n : Nat) (i : Int) : GoodD n (.int i) := ⟨rfl, Nat.zero_le _⟩
theorem GoodD.bool (n : Nat) (i : Bool) : GoodD n (.bool i) := ⟨rfl, Nat.zero_le _⟩
theorem GoodD.non (n : Nat) : GoodD n .none := ⟨rfl, Nat.zero_le _⟩
theorem strOk_of {w : List Nat} (h : ∀ c ∈ w, c < 256) : PyData.strOk (SX.S w) = true := by
  unfold PyData.strOk
  rw [← Array.all_toList, List.all_eq_true]
  intro c hc
  have := h c hc
  simp; omega
theorem GoodD.str (n : Nat) {w : List Nat} (h : ∀ c ∈ w, c < 256) : GoodD n (.str (SX.S w)) := ⟨strOk_of h, Nat.zero_le _⟩
theorem NameOk.low {w : List Nat} (h : NameOk w) : ∀ c ∈ w, c < 256 := fun c hc => by have := h.ok c hc; omega
theorem GoodD.shaped {n : Nat} {d : PyData} (h : GoodD n d) (hn : n ≤ 64) : SeqAt.shaped d = true := by
  unfold SeqAt.shaped
  rw [okD_lay d h.ok, decide_eq_true (Nat.le_trans h.dep hn)]; rfl
section
variable {K : PySem.W.Frag} {H : Hp} {Q : VK} {x y : V} {d : PyData} {n : Nat}
theorem x_eqSelf (g : GoodD n d) (hn : n ≤ 64) (hx : Dp K H x d) (hy : Dp K H y d) (h : Q (.bl true) H) : rEqD K x y H Q := ⟨d, d, hx, hy, g.shaped hn, g.shaped hn, by rw [eqv_self d g.ok]; exact h⟩
theorem x_neSelf (g : GoodD n d) (hn : n ≤ 64) (hx : Dp K H x d) (hy : Dp K H y d) (h : Q (.bl false) H) : rNeD K x y H Q := ⟨d, d, hx, hy, g.shaped hn, g.shaped hn, by rw [eqv_self d g.ok]; exact h⟩
theorem x_sameSelf {E : XK} (g : GoodD n d) (hn : n ≤ 6) (hx : Dp K H x d) (hy : Dp K H y d) (h : ∀ H', Same H H' → Q (.bl true) H') : sp_law_same K [x, y] H Q E :=
  ⟨x, y, d, d, rfl, hx, hy, g.ok, g.ok, Nat.le_trans g.dep hn, fun H' s => by rw [sameD_refl d g.ok]; exact h H' s⟩
end
theorem good_net {p : List Nat × Int} (h : NameOk p.1) : GoodD 1 (dNet p) := .tup (by simp) fun d hd => by
  simp only [List.mem_cons, List.not_mem_nil, or_false] at hd
  rcases hd with rfl | rfl
  · exact .str _ h.low
  · exact .int _ _
theorem good_tr {p : List Nat × List Nat × Int} (h : NameOk p.1) (h2 : NameOk p.2.1) : GoodD 1 (dTr p) := .tup (by simp) fun d hd => by
  simp only [List.mem_cons, List.not_mem_nil, or_false] at hd
  rcases hd with rfl | rfl | rfl
  · exact .str _ h.low
  · exact .str _ h2.low
  · exact .int _ _
theorem good_map {α : Type} {n : Nat} {f : α → PyData} {l : List α} (hl : l.length ≤ 1000) (h : ∀ x ∈ l, GoodD n (f x)) : GoodD (n + 1) (.list (l.map f)) := .lst (by rw [List.length_map]; exact hl) fun d hd => by
  obtain ⟨x, hx, rfl⟩ := List.mem_map.mp hd
  exact h x hx
/-! numbers of the places where something holds -/
def idxs (p : Int → Bool) (l : List Int) : List Nat := (List.range l.length).filter fun i => p (l.getD i 0)
theorem idxs_head (p : Int → Bool) (l : List Int) : (idxs p l).head? = l.findIdx? p := by
  unfold idxs
  rw [List.head?_filter]
  cases h : l.findIdx? p with
  | none =>
    rw [List.find?_eq_none]
    intro i hi
    rw [List.mem_range] at hi
    have := findNone h l[i] (List.getElem_mem _)
    rw [List.getD_eq_getElem?_getD, List.getElem?_eq_getElem hi]
    simp [this]
  | some g =>
    have h0 := findAt h
    rw [List.findIdx?_eq_some_iff_getElem] at h
    obtain ⟨h1, h2, h3⟩ := h
    rw [List.find?_range_eq_some]
    refine ⟨h0.2, List.mem_range.mpr h1, fun j hj => ?_⟩
    have := h3 j hj
    rw [List.getD_eq_getElem?_getD, List.getElem?_eq_getElem (show j < l.length by omega)]
    simpa using this
theorem idxs_map (p : Int → Bool) (l : List Int) : (List.range l.length).filterMap (fun i => if p (l.getD i 0) = true then some (V.int (i : Int)) else none) = (idxs p l).map fun (i : Nat) => V.int (i : Int) := by
  unfold idxs
  rw [← List.filterMap_eq_map', List.filterMap_filter]
theorem at_upd {H : Hp} {a p : Addr} {o o' : HO} (h : H a = some o) (n : p ≠ a) : upd H p o' a = some o := by rw [upd_ne (fun e => n e.symm)]; exact h

end Su
namespace Su
open PySem L2
local macro_rules | `(tactic| walk_at "side") => `(tactic| first | assumption | (show (0 : Int) < _; omega) | (show (0 : Int) ≤ _; omega) | (show (0 : Int) < _; split <;> omega) | (show _ ∨ _; omega) | (show _ ∧ _; omega) | exact ⟨by decide, by decide, by decide⟩ | exact ⟨by first | assumption | omega, by first | assumption | omega⟩)
local macro_rules | `(tactic| walk_at "x") => `(tactic| first
  | with_reducible refine Su.x_seq ?_ | with_reducible refine Su.x_asg ?_ | with_reducible refine Su.x_gname ?_ | with_reducible refine Su.x_drop ?_ | with_reducible refine Su.x_ret ?_ | with_reducible refine Su.x_ifS ?_
  | ((with_reducible show L2.tVar _ _ _ _); refine Su.x_var rfl ?_) | with_reducible refine Su.x_c ?_ | with_reducible refine Su.x_op ?_ | with_reducible refine Su.x_rI0 ?_ | ((with_reducible refine Su.x_rI ?_ ?_); focus walk_at "side")
  | ((with_reducible show L2.rIxL _ (L2.V.ref _) (L2.V.int _) _ _); refine Su.x_ixI (by assumption) (by first | decide | omega) (by omega) ?_) | with_reducible refine Su.x_isi_int_int ?_ | with_reducible refine Su.x_isi_int_bool ?_ | with_reducible refine Su.x_isi_int_str ?_ | with_reducible refine Su.x_isi_int_list ?_ | with_reducible refine Su.x_isi_int_tuple ?_ | with_reducible refine Su.x_isi_bool_int ?_ | with_reducible refine Su.x_isi_bool_bool ?_ | with_reducible refine Su.x_isi_bool_str ?_ | with_reducible refine Su.x_isi_bool_list ?_ | with_reducible refine Su.x_isi_bool_tuple ?_ | with_reducible refine Su.x_isi_str_int ?_ | with_reducible refine Su.x_isi_str_bool ?_ | with_reducible refine Su.x_isi_str_str ?_ | with_reducible refine Su.x_isi_str_list ?_ | with_reducible refine Su.x_isi_str_tuple ?_ | with_reducible refine Su.x_isi_NoneType_int ?_ | with_reducible refine Su.x_isi_NoneType_bool ?_ | with_reducible refine Su.x_isi_NoneType_str ?_ | with_reducible refine Su.x_isi_NoneType_list ?_ | with_reducible refine Su.x_isi_NoneType_tuple ?_ | with_reducible refine Su.x_rGt ?_ | with_reducible refine Su.x_rGe ?_ | with_reducible refine Su.x_iteF ?_ | with_reducible refine Su.x_iteT ?_ | with_reducible refine Su.x_iteNT ?_ | with_reducible refine Su.x_iteNF ?_ | with_reducible refine Su.x_eqI ?_ | with_reducible refine Su.x_neI ?_ | with_reducible refine Su.x_eqS ?_ | with_reducible refine Su.x_neS ?_ | with_reducible refine Su.x_eqB ?_ | with_reducible refine Su.x_neB ?_
  | with_reducible refine Su.x_test ?_ | with_reducible refine Su.x_tB ?_ | with_reducible refine Su.x_isB ?_ | with_reducible refine Su.x_isB' ?_ | with_reducible refine Su.x_not ?_ | with_reducible refine Su.x_and ?_ | with_reducible refine Su.x_or ?_
  | with_reducible refine Su.x_andV ?_ | with_reducible refine Su.x_orV ?_ | with_reducible refine Su.x_notV ?_ | with_reducible refine Su.x_chain ?_ | with_reducible refine Su.x_nil ?_ | with_reducible refine Su.x_cons ?_ | with_reducible refine Su.x_cb ?_ | with_reducible refine Su.x_call ?_
  | with_reducible refine Su.x_un ?_ | with_reducible refine Su.x_rU ?_ | with_reducible refine Su.x_abs ?_ | with_reducible refine Su.x_max2 ?_ | with_reducible refine Su.x_min2 ?_ | with_reducible refine Su.x_int1 ?_ | with_reducible refine Su.x_intB ?_
  | with_reducible refine Su.x_lst ?_ | with_reducible refine Su.x_tup ?_ | with_reducible refine Su.x_bmL ?_ | with_reducible refine Su.x_next ?_ | with_reducible refine Su.x_for ?_ | with_reducible refine Su.x_iList ?_ | with_reducible refine Su.x_iRng1 ?_ | with_reducible refine Su.x_iRng2 ?_ | with_reducible refine Su.x_whileN ?_ | with_reducible refine Su.x_iEnum ?_ | with_reducible refine Su.x_iZip ?_ | with_reducible refine Su.x_iZipA ?_ | with_reducible refine Su.x_iTup ?_ | with_reducible refine Su.x_gcons ?_ | with_reducible refine Su.x_gnil ?_ | with_reducible refine Su.x_gsub ?_ | with_reducible refine Su.x_yes ?_ | with_reducible refine Su.x_lc ?_ | with_reducible refine Su.x_sl ?_ | with_reducible refine Su.x_nopart ?_ | with_reducible refine Su.x_part ?_ | with_reducible refine Su.x_isI ?_ | with_reducible refine Su.x_lstRg ?_ | with_reducible refine Su.x_rg1 ?_ | with_reducible refine Su.x_augS ?_ | with_reducible refine Su.x_ipI ?_ | ((with_reducible show L2.tAug _ _ _ _ _ _); refine Su.x_aug rfl ?_) | with_reducible refine Su.x_callS ?_ | with_reducible refine Su.x_tryAs ?_)
local macro_rules | `(tactic| walk_at "xs") => `(tactic| repeat walk_at "x")
local macro_rules | `(tactic| walk_at "if") => `(tactic| first | with_reducible refine Su.x_iteD (fun c => ?_) (fun c => ?_) | with_reducible refine Su.x_iteN (fun c => ?_) (fun c => ?_) | with_reducible refine Su.x_ite (fun c => ?_) (fun c => ?_))
instance (ds : List Debt) (w : List Nat) : Decidable (Named ds w) := by unfold Named; infer_instance
theorem name_mod (r : Int) {ws : List (List Nat)} (h : 0 < ws.length) : ∃ w, w ∈ ws ∧ atI (ws.map vS) (r % ((ws.length : Nat) : Int)) = some (vS w) := by
  have h1 := Int.emod_nonneg r (show ((ws.length : Nat) : Int) ≠ 0 by omega)
  have h2 := Int.emod_lt_of_pos r (show (0 : Int) < ((ws.length : Nat) : Int) by omega)
  have h3 : (r % ((ws.length : Nat) : Int)).toNat < ws.length := by omega
  refine ⟨ws[(r % ((ws.length : Nat) : Int)).toNat], List.getElem_mem _, ?_⟩
  rw [at_get (d := .non) h1 (by rw [List.length_map]; exact h2), List.getD_eq_getElem?_getD, List.getElem?_map, List.getElem?_eq_getElem h3]
  rfl

end Su
namespace Su
open PySem L2
local macro_rules | `(tactic| walk_at "side") => `(tactic| first | assumption | (show (0 : Int) < _; omega) | (show (0 : Int) ≤ _; omega) | (show (0 : Int) < _; split <;> omega) | (show _ ∨ _; omega) | (show _ ∧ _; omega) | exact ⟨by decide, by decide, by decide⟩ | exact ⟨by first | assumption | omega, by first | assumption | omega⟩)
local macro_rules | `(tactic| walk_at "x") => `(tactic| first
  | with_reducible refine Su.x_seq ?_ | with_reducible refine Su.x_asg ?_ | with_reducible refine Su.x_gname ?_ | with_reducible refine Su.x_drop ?_ | with_reducible refine Su.x_ret ?_ | with_reducible refine Su.x_ifS ?_
  | ((with_reducible show L2.tVar _ _ _ _); refine Su.x_var rfl ?_) | with_reducible refine Su.x_c ?_ | with_reducible refine Su.x_op ?_ | with_reducible refine Su.x_rI0 ?_ | ((with_reducible refine Su.x_rI ?_ ?_); focus walk_at "side")
  | ((with_reducible show L2.rIxL _ (L2.V.ref _) (L2.V.int _) _ _); refine Su.x_ixI (by assumption) (by first | decide | omega) (by omega) ?_) | with_reducible refine Su.x_isi_int_int ?_ | with_reducible refine Su.x_isi_int_bool ?_ | with_reducible refine Su.x_isi_int_str ?_ | with_reducible refine Su.x_isi_int_list ?_ | with_reducible refine Su.x_isi_int_tuple ?_ | with_reducible refine Su.x_isi_bool_int ?_ | with_reducible refine Su.x_isi_bool_bool ?_ | with_reducible refine Su.x_isi_bool_str ?_ | with_reducible refine Su.x_isi_bool_list ?_ | with_reducible refine Su.x_isi_bool_tuple ?_ | with_reducible refine Su.x_isi_str_int ?_ | with_reducible refine Su.x_isi_str_bool ?_ | with_reducible refine Su.x_isi_str_str ?_ | with_reducible refine Su.x_isi_str_list ?_ | with_reducible refine Su.x_isi_str_tuple ?_ | with_reducible refine Su.x_isi_NoneType_int ?_ | with_reducible refine Su.x_isi_NoneType_bool ?_ | with_reducible refine Su.x_isi_NoneType_str ?_ | with_reducible refine Su.x_isi_NoneType_list ?_ | with_reducible refine Su.x_isi_NoneType_tuple ?_ | with_reducible refine Su.x_rGt ?_ | with_reducible refine Su.x_rGe ?_ | with_reducible refine Su.x_iteF ?_ | with_reducible refine Su.x_iteT ?_ | with_reducible refine Su.x_iteNT ?_ | with_reducible refine Su.x_iteNF ?_ | with_reducible refine Su.x_eqI ?_ | with_reducible refine Su.x_neI ?_ | with_reducible refine Su.x_eqS ?_ | with_reducible refine Su.x_neS ?_ | with_reducible refine Su.x_eqB ?_ | with_reducible refine Su.x_neB ?_
  | with_reducible refine Su.x_test ?_ | with_reducible refine Su.x_tB ?_ | with_reducible refine Su.x_isB ?_ | with_reducible refine Su.x_isB' ?_ | with_reducible refine Su.x_not ?_ | with_reducible refine Su.x_and ?_ | with_reducible refine Su.x_or ?_
  | with_reducible refine Su.x_andV ?_ | with_reducible refine Su.x_orV ?_ | with_reducible refine Su.x_notV ?_ | with_reducible refine Su.x_chain ?_ | with_reducible refine Su.x_nil ?_ | with_reducible refine Su.x_cons ?_ | with_reducible refine Su.x_cb ?_ | with_reducible refine Su.x_call ?_
  | with_reducible refine Su.x_un ?_ | with_reducible refine Su.x_rU ?_ | with_reducible refine Su.x_abs ?_ | with_reducible refine Su.x_max2 ?_ | with_reducible refine Su.x_min2 ?_ | with_reducible refine Su.x_int1 ?_ | with_reducible refine Su.x_intB ?_
  | with_reducible refine Su.x_lst ?_ | with_reducible refine Su.x_tup ?_ | with_reducible refine Su.x_bmL ?_ | with_reducible refine Su.x_next ?_ | with_reducible refine Su.x_for ?_ | with_reducible refine Su.x_iList ?_ | with_reducible refine Su.x_iRng1 ?_ | with_reducible refine Su.x_iRng2 ?_ | with_reducible refine Su.x_whileN ?_ | with_reducible refine Su.x_iEnum ?_ | with_reducible refine Su.x_iZip ?_ | with_reducible refine Su.x_iZipA ?_ | with_reducible refine Su.x_iTup ?_ | with_reducible refine Su.x_gcons ?_ | with_reducible refine Su.x_gnil ?_ | with_reducible refine Su.x_gsub ?_ | with_reducible refine Su.x_yes ?_ | with_reducible refine Su.x_lc ?_ | with_reducible refine Su.x_sl ?_ | with_reducible refine Su.x_nopart ?_ | with_reducible refine Su.x_part ?_ | with_reducible refine Su.x_isI ?_ | with_reducible refine Su.x_lstRg ?_ | with_reducible refine Su.x_rg1 ?_ | with_reducible refine Su.x_augS ?_ | with_reducible refine Su.x_ipI ?_ | ((with_reducible show L2.tAug _ _ _ _ _ _); refine Su.x_aug rfl ?_) | with_reducible refine Su.x_callS ?_ | with_reducible refine Su.x_tryAs ?_)
local macro_rules | `(tactic| walk_at "xs") => `(tactic| repeat walk_at "x")
local macro_rules | `(tactic| walk_at "if") => `(tactic| first | with_reducible refine Su.x_iteD (fun c => ?_) (fun c => ?_) | with_reducible refine Su.x_iteN (fun c => ?_) (fun c => ?_) | with_reducible refine Su.x_ite (fun c => ?_) (fun c => ?_))
/-! _law_moved -/
def sp_law_moved (K : PySem.W.Frag) : Sp := fun vs H Q _ => ∃ (v : V) (ds : List Debt) (w : List Nat), vs = [v, vS w] ∧ Dp K H v (.list (ds.map dTr)) ∧ ∀ H', Same H H' → Q (.int (netOf ds w)) H'
theorem S_eq (b c : List Nat) : (SX.S b = SX.S c) ↔ b = c := ⟨SX.S_inj, fun e => by rw [e]⟩
abbrev N_law_moved : List Str := ["_law_rows", "_law_name", "_law_total", "_law_giver", "_law_taker", "_law_coins"]
def t_law_moved (K : PySem.W.Frag) : TS :=
 (tSeq (tAsg (tC (.int 0)) (gName 2))
 (tSeq (tFor (iList K (tVar 0)) (gTup K 3 (gCons (gName 3) (gCons (gName 4) (gCons (gName 5) gNil))))
 (C8.tCut (tIfS (tTest (tOp rEq (tVar 3) (tVar 1)))
 (tAsg (tOp rSub (tVar 2) (tVar 5)) (gName 2))
 tNext)
 (tIfS (tTest (tOp rEq (tVar 4) (tVar 1)))
 (tAsg (tOp rAdd (tVar 2) (tVar 5)) (gName 2))
 tNext)))
 (tRet (tVar 2))))

theorem len_law_moved {K : PySem.W.Frag} : ∀ vs H Q E, sp_law_moved K vs H Q E → vs.length = ["a", "b"].length := by
  rintro vs H Q E ⟨_, _, _, rfl, _⟩; rfl
theorem pure_law_moved {K : PySem.W.Frag} {vs : List V} {H : Hp} {Q : VK} {E : XK} (h : sp_law_moved K vs H Q E) : t_law_moved K { nx := fun _ H' => Q .non H', rt := Q } (start N_law_moved vs) H := by
  obtain ⟨v, ds, w, rfl, hv, k⟩ := h
  obtain ⟨a, xs, rfl, hS, hx⟩ := dp_lst hv
  have xl : xs.length = ds.length := by rw [dpAll_len hx, List.length_map]
  unfold t_law_moved
  walk_at "xs"
  refine ⟨a, rfl, ⟨xs, hS⟩, for_by (turnsL (xs := xs)) (fun j σ H' => ∃ (u1 u2 u3 : Option V), σ = [some (.ref a), some (vS w), some (.int (netOf (ds.take j) w)), u1, u2, u3] ∧ H = H')
    ⟨none, none, none, rfl, rfl⟩ (fun j σ H' _ p => by obtain ⟨_, _, _, _, rfl⟩ := p; exact hS) ?_ ?_⟩
  · rintro j x σ _ _ hj ⟨u1, u2, u3, rfl, rfl⟩ ⟨rfl, hx1⟩
    obtain ⟨d0, e1, e2⟩ := dpAll_get hx hx1
    rw [List.getElem?_map] at e1
    obtain ⟨dd, e3, rfl⟩ := Option.map_eq_some_iff.mp e1
    obtain ⟨t, rfl, ht⟩ := dp_tr e2
    refine x_gtup ht rfl ?_
    walk_at "xs"
    have tk : ds.take (j + 1) = ds.take j ++ [dd] := by rw [List.take_succ, e3]; rfl
    refine x_cut (fun σ H' => σ = [some (.ref a), some (vS w), some (.int (netOf (ds.take j) w - if dd.1 = w then dd.2.2 else 0)), some (vS dd.1), some (vS dd.2.1), some (.int dd.2.2)] ∧ H = H') ?_ ?_
    · walk_at "xs"
      walk_at "if"
      · rename_i c
        rw [S_eq] at c
        walk_at "xs"
        exact ⟨by simp [c], rfl⟩
      · rename_i c
        rw [S_eq] at c
        exact ⟨by simp [c], rfl⟩
    rintro _ _ ⟨rfl, rfl⟩
    walk_at "xs"
    walk_at "if"
    · rename_i c
      rw [S_eq] at c
      walk_at "xs"
      refine ⟨some (vS dd.1), some (vS dd.2.1), some (.int dd.2.2), ?_, rfl⟩
      rw [tk, netOf_snoc, if_pos c]
      rw [show netOf (ds.take j) w - (if dd.1 = w then dd.2.2 else 0) + dd.2.2 = netOf (ds.take j) w + (dd.2.2 - if dd.1 = w then dd.2.2 else 0) by omega]
      rfl
    · rename_i c
      rw [S_eq] at c
      refine ⟨some (vS dd.1), some (vS dd.2.1), some (.int dd.2.2), ?_, rfl⟩
      rw [tk, netOf_snoc, if_neg c]
      rw [show netOf (ds.take j) w + (0 - if dd.1 = w then dd.2.2 else 0) = netOf (ds.take j) w - if dd.1 = w then dd.2.2 else 0 by omega]
  · rintro σ _ ⟨u1, u2, u3, rfl, rfl⟩
    rw [xl, List.take_length]
    walk_at "xs"
    exact k _ (Same.refl _)

end Su
namespace Su
open PySem L2
local macro_rules | `(tactic| walk_at "side") => `(tactic| first | assumption | (show (0 : Int) < _; omega) | (show (0 : Int) ≤ _; omega) | (show (0 : Int) < _; split <;> omega) | (show _ ∨ _; omega) | (show _ ∧ _; omega) | exact ⟨by decide, by decide, by decide⟩ | exact ⟨by first | assumption | omega, by first | assumption | omega⟩)
local macro_rules | `(tactic| walk_at "x") => `(tactic| first
  | with_reducible refine Su.x_seq ?_ | with_reducible refine Su.x_asg ?_ | with_reducible refine Su.x_gname ?_ | with_reducible refine Su.x_drop ?_ | with_reducible refine Su.x_ret ?_ | with_reducible refine Su.x_ifS ?_
  | ((with_reducible show L2.tVar _ _ _ _); refine Su.x_var rfl ?_) | with_reducible refine Su.x_c ?_ | with_reducible refine Su.x_op ?_ | with_reducible refine Su.x_rI0 ?_ | ((with_reducible refine Su.x_rI ?_ ?_); focus walk_at "side")
  | ((with_reducible show L2.rIxL _ (L2.V.ref _) (L2.V.int _) _ _); refine Su.x_ixI (by assumption) (by first | decide | omega) (by omega) ?_) | with_reducible refine Su.x_isi_int_int ?_ | with_reducible refine Su.x_isi_int_bool ?_ | with_reducible refine Su.x_isi_int_str ?_ | with_reducible refine Su.x_isi_int_list ?_ | with_reducible refine Su.x_isi_int_tuple ?_ | with_reducible refine Su.x_isi_bool_int ?_ | with_reducible refine Su.x_isi_bool_bool ?_ | with_reducible refine Su.x_isi_bool_str ?_ | with_reducible refine Su.x_isi_bool_list ?_ | with_reducible refine Su.x_isi_bool_tuple ?_ | with_reducible refine Su.x_isi_str_int ?_ | with_reducible refine Su.x_isi_str_bool ?_ | with_reducible refine Su.x_isi_str_str ?_ | with_reducible refine Su.x_isi_str_list ?_ | with_reducible refine Su.x_isi_str_tuple ?_ | with_reducible refine Su.x_isi_NoneType_int ?_ | with_reducible refine Su.x_isi_NoneType_bool ?_ | with_reducible refine Su.x_isi_NoneType_str ?_ | with_reducible refine Su.x_isi_NoneType_list ?_ | with_reducible refine Su.x_isi_NoneType_tuple ?_ | with_reducible refine Su.x_rGt ?_ | with_reducible refine Su.x_rGe ?_ | with_reducible refine Su.x_iteF ?_ | with_reducible refine Su.x_iteT ?_ | with_reducible refine Su.x_iteNT ?_ | with_reducible refine Su.x_iteNF ?_ | with_reducible refine Su.x_eqI ?_ | with_reducible refine Su.x_neI ?_ | with_reducible refine Su.x_eqS ?_ | with_reducible refine Su.x_neS ?_ | with_reducible refine Su.x_eqB ?_ | with_reducible refine Su.x_neB ?_
  | with_reducible refine Su.x_test ?_ | with_reducible refine Su.x_tB ?_ | with_reducible refine Su.x_isB ?_ | with_reducible refine Su.x_isB' ?_ | with_reducible refine Su.x_not ?_ | with_reducible refine Su.x_and ?_ | with_reducible refine Su.x_or ?_
  | with_reducible refine Su.x_andV ?_ | with_reducible refine Su.x_orV ?_ | with_reducible refine Su.x_notV ?_ | with_reducible refine Su.x_chain ?_ | with_reducible refine Su.x_nil ?_ | with_reducible refine Su.x_cons ?_ | with_reducible refine Su.x_cb ?_ | with_reducible refine Su.x_call ?_
  | with_reducible refine Su.x_un ?_ | with_reducible refine Su.x_rU ?_ | with_reducible refine Su.x_abs ?_ | with_reducible refine Su.x_max2 ?_ | with_reducible refine Su.x_min2 ?_ | with_reducible refine Su.x_int1 ?_ | with_reducible refine Su.x_intB ?_
  | with_reducible refine Su.x_lst ?_ | with_reducible refine Su.x_tup ?_ | with_reducible refine Su.x_bmL ?_ | with_reducible refine Su.x_next ?_ | with_reducible refine Su.x_for ?_ | with_reducible refine Su.x_iList ?_ | with_reducible refine Su.x_iRng1 ?_ | with_reducible refine Su.x_iRng2 ?_ | with_reducible refine Su.x_whileN ?_ | with_reducible refine Su.x_iEnum ?_ | with_reducible refine Su.x_iZip ?_ | with_reducible refine Su.x_iZipA ?_ | with_reducible refine Su.x_iTup ?_ | with_reducible refine Su.x_gcons ?_ | with_reducible refine Su.x_gnil ?_ | with_reducible refine Su.x_gsub ?_ | with_reducible refine Su.x_yes ?_ | with_reducible refine Su.x_lc ?_ | with_reducible refine Su.x_sl ?_ | with_reducible refine Su.x_nopart ?_ | with_reducible refine Su.x_part ?_ | with_reducible refine Su.x_isI ?_ | with_reducible refine Su.x_lstRg ?_ | with_reducible refine Su.x_rg1 ?_ | with_reducible refine Su.x_augS ?_ | with_reducible refine Su.x_ipI ?_ | ((with_reducible show L2.tAug _ _ _ _ _ _); refine Su.x_aug rfl ?_) | with_reducible refine Su.x_callS ?_ | with_reducible refine Su.x_tryAs ?_)
local macro_rules | `(tactic| walk_at "xs") => `(tactic| repeat walk_at "x")
local macro_rules | `(tactic| walk_at "if") => `(tactic| first | with_reducible refine Su.x_iteD (fun c => ?_) (fun c => ?_) | with_reducible refine Su.x_iteN (fun c => ?_) (fun c => ?_) | with_reducible refine Su.x_ite (fun c => ?_) (fun c => ?_))
local macro_rules | `(tactic| walk_at "x") => `(tactic| first | with_reducible refine Su.x_m1 ?_ | with_reducible refine Su.x_strE ?_ | with_reducible refine Su.x_m0 ?_ | with_reducible refine Su.x_dnew ?_ | with_reducible refine Su.x_dput ?_ | with_reducible refine Su.x_dgetE ?_ | with_reducible refine Su.x_dget2 ?_ | with_reducible refine Su.x_daug ?_ | with_reducible refine Su.x_din ?_ | with_reducible refine Su.x_dnin ?_ | with_reducible refine Su.x_brk ?_ | with_reducible refine Su.x_retN ?_)
/-! _law_names: names that are all unlike -/
def sp_law_names (K : PySem.W.Frag) : Sp := fun vs H Q _ => ∃ (a : Addr) (rows : List Int) (n : Nat), vs = [.ref a, .int n] ∧ SqL K H a (rows.map V.int) ∧ n ≤ rows.length ∧ n ≤ 24 ∧ (∀ x ∈ rows, -(10 ^ 18) < x ∧ x < 10 ^ 18) ∧
  ∀ (p : Addr) (ws : List (List Nat)) (H' : Hp), H p = none → Same H H' → H' p = some (.lst (ws.map vS)) → ws.length = n → ws.Nodup → (∀ w ∈ ws, NameOk w) → Q (.ref p) H'
abbrev N_law_names : List Str := ["_law_some", "_law_many", "_law_letters", "_law_rows", "_law_at", "_law_raw", "_law_size", "_law_turn", "_law_word", "_law_place", "_law_step", "_law_sign", "_law_k"]
def t_law_names (K : PySem.W.Frag) : TS :=
 (tSeq (tAsg (tC (.str "abcdefghijklmnopqrstuvwxyz")) (gName 2))
 (tSeq (tAsg (tLst tNil) (gName 3))
 (tSeq (tFor (iRng1 (tCons (tVar 1) tNil)) (gName 4)
 (tSeq (tAsg (tOp (rIxL K) (tVar 0) (tVar 4)) (gName 5))
 (tSeq (tAsg (tOp rAdd (tC (.int 1)) (tOp rMod (tVar 5) (tC (.int 12)))) (gName 6))
 (tSeq (tAsg (tOp rMod (tOp rDiv (tVar 5) (tC (.int 5))) (tC (.int 4))) (gName 7))
 (tSeq (tAsg (tM1 (rJoin K) (tC (.str "")) (tLc (iRng1 (tCons (tVar 6) tNil)) (gName 12) tYes (tOp rIxS (tVar 2) (tOp rMod (tOp rAdd (tOp rDiv (tVar 5) (tC (.int 13))) (tOp rMul (tVar 12) (tVar 7))) (tC (.int 26)))) [12])) (gName 8))
 (tSeq (tAsg (tOp rMod (tOp rDiv (tVar 5) (tC (.int 7))) (tVar 6)) (gName 9))
 (tSeq (tFor (iRng1 (tCons (tC (.int 26)) tNil)) (gName 10)
 (tIfS (tTest (tOp (rIn K false) (tVar 8) (tVar 3)))
 (tSeq (tAsg (tOp rIxS (tVar 2) (tOp rMod (tOp rAdd (tVar 5) (tVar 10)) (tC (.int 26)))) (gName 11))
 (tAsg (tOp rCatS (tOp rCatS (tSl C8.rSlX (tVar 8) tNoPart (tPart (tVar 9))) (tVar 11)) (tSl C8.rSlX (tVar 8) (tPart (tOp rAdd (tVar 9) (tC (.int 1)))) tNoPart)) (gName 8)))
 tNext))
 (tDrop (tBM K "list" rAppend (tVar 3) (tCons (tVar 8) tNil))))))))))
 (tRet (tVar 3)))))

theorem len_law_names {K : PySem.W.Frag} : ∀ vs H Q E, sp_law_names K vs H Q E → vs.length = ["a", "b"].length := by
  rintro vs H Q E ⟨_, _, _, rfl, _⟩; rfl
def cand (pre post : List Nat) (raw : Int) (s : Nat) : List Nat := pre ++ [97 + ((raw + s) % 26).toNat] ++ post
theorem cand_inj {pre post : List Nat} {raw : Int} {s t : Nat} (hs : s < 26) (ht : t < 26) (h : cand pre post raw s = cand pre post raw t) : s = t := by
  unfold cand at h
  rw [List.append_assoc, List.append_assoc] at h
  have := List.append_cancel_left h
  have : 97 + ((raw + s) % 26).toNat = 97 + ((raw + t) % 26).toNat := (List.cons.inj this).1
  omega
structure Wd (pre post : List Nat) (raw : Int) (w0 : List Nat) (ws : List (List Nat)) (j : Nat) (w : List Nat) : Prop where
  ok : NameOk w
  ln : w.length = pre.length + 1 + post.length
  pr : w.take pre.length = pre
  po : w.drop (pre.length + 1) = post
  tr : w ∉ ws ∨ ((∀ i, i + 1 < j → cand pre post raw i ∈ ws) ∧ (0 < j → w = cand pre post raw (j - 1)))
theorem wd_end {pre post : List Nat} {raw : Int} {w0 : List Nat} {ws : List (List Nat)} {w : List Nat} (h : Wd pre post raw w0 ws 26 w) (hl : ws.length < 25) : w ∉ ws := by
  rcases h.tr with h | ⟨h, _⟩
  · exact h
  · have nd : ((List.range 25).map (cand pre post raw)).Nodup := by
      rw [List.nodup_iff_pairwise_ne, List.pairwise_map]
      refine (List.nodup_iff_pairwise_ne.mp List.nodup_range).imp_of_mem fun {x y} hx hy hne he => hne ?_
      rw [List.mem_range] at hx hy
      exact cand_inj (by omega) (by omega) he
    have := nodup_subG nd (m := ws) fun x hx => by
      obtain ⟨i, hi, rfl⟩ := List.mem_map.mp hx
      rw [List.mem_range] at hi
      exact h i (by omega)
    rw [List.length_map, List.length_range] at this
    omega
theorem pure_law_names {K : PySem.W.Frag} {vs : List V} {H : Hp} {Q : VK} {E : XK} (h : sp_law_names K vs H Q E) : t_law_names K { nx := fun _ H' => Q .non H', rt := Q } (start N_law_names vs) H := by
  obtain ⟨a, rows, n, rfl, hS, hn, h24, hb, k⟩ := h
  unfold t_law_names
  walk_at "xs"
  rw [lets_str]
  refine al_lst fun p H1 np s1 hp => ?_
  walk_at "xs"
  refine ⟨n, rfl, by omega, by omega, for_by turnsR (fun i σ H' => ∃ (ws : List (List Nat)) (u1 u2 u3 u4 u5 u6 u7 u8 : Option V), σ = [some (.ref a), some (.int n), some (vS lets), some (.ref p), u1, u2, u3, u4, u5, u6, u7, u8, none] ∧ Same H H' ∧ H' p = some (.lst (ws.map vS)) ∧ ws.length = i ∧ ws.Nodup ∧ ∀ w ∈ ws, NameOk w)
    ⟨[], none, none, none, none, none, none, none, none, rfl, s1, hp, rfl, List.nodup_nil, fun _ h => nomatch h⟩ (fun _ _ _ _ _ => trivial) ?_ ?_⟩
  · rintro i y σ H2 _ hi ⟨ws, u1, u2, u3, u4, u5, u6, u7, u8, rfl, s2, hp2, wl, nd, ok⟩ ⟨rfl, rfl⟩
    have hi' : i < n := by omega
    walk_at "xs"
    refine x_ixL (s2.seq hS) (at_getI (by omega) (by omega)) ?_
    have g1 := getD_all hb (by omega) ((0 : Int) + (i : Int)).toNat
    generalize rows.getD ((0 : Int) + (i : Int)).toNat 0 = raw at g1 ⊢
    have b1 := Int.emod_nonneg raw (show (12 : Int) ≠ 0 by decide)
    have b2 := Int.emod_lt_of_pos raw (show (0 : Int) < 12 by decide)
    obtain ⟨sz, hsz⟩ : ∃ sz : Nat, 1 + raw % 12 = sz := ⟨(1 + raw % 12).toNat, by omega⟩
    walk_at "xs"
    rw [hsz]
    have t1 := Int.emod_nonneg (raw / 5) (show (4 : Int) ≠ 0 by decide)
    have t2 := Int.emod_lt_of_pos (raw / 5) (show (0 : Int) < 4 by decide)
    generalize raw / 5 % 4 = tn at t1 t2 ⊢
    refine ⟨sz, rfl, by omega, by omega, fun A nA => ?_⟩
    refine lc_flat (fun j => some (vS [97 + ((raw / 13 + (0 + (j : Int)) * tn) % 26).toNat])) turnsR (fun _ _ => trivial) nA ?_ ?_
    · rintro j v Hc _ hj lc ⟨rfl, rfl⟩
      walk_at "xs"
      refine x_wipe rfl ?_
      walk_at "xs"
      refine x_ixS (by decide) (lets_at _) ?_
      exact lc.keep nA (Same.refl _) rfl (by omega)
    intro H3 s3 hA
    rw [show ((sz : Int)).toNat = sz by omega, List.filterMap_eq_map'] at hA
    obtain ⟨w0, hw0⟩ : ∃ w0 : List Nat, w0 = (List.range sz).map fun (j : Nat) => 97 + ((raw / 13 + (0 + (j : Int)) * tn) % 26).toNat := ⟨_, rfl⟩
    have hA' : H3 A = some (.lst ((w0.map fun c => [c]).map vS)) := by
      rw [hA, hw0, List.map_map, List.map_map]; rfl
    have w0l : w0.length = sz := by rw [hw0]; simp
    have w0ok : NameOk w0 := ⟨by omega, by omega, fun c hc => by
      rw [hw0] at hc
      obtain ⟨j, _, rfl⟩ := List.mem_map.mp hc
      generalize raw / 13 + (0 + (j : Int)) * tn = z
      omega⟩
    clear hw0 hA
    refine x_join (a := []) (m := 1) (SqL.of hA') (fun y hy => ?_) (by rw [List.length_map]; simp; omega) ?_
    · obtain ⟨c, _, rfl⟩ := List.mem_map.mp hy
      exact Nat.le_refl _
    rw [joinL_nil, show (w0.map fun c => [c]).flatten = w0 by rw [← List.flatMap_def, List.flatMap_singleton']]
    have s23 := s2.trans s3
    have hp3 := s3 _ _ hp2
    have p1 := Int.emod_nonneg (raw / 7) (show (sz : Int) ≠ 0 by omega)
    have p2 := Int.emod_lt_of_pos (raw / 7) (show (0 : Int) < (sz : Int) by omega)
    walk_at "xs"
    obtain ⟨pl, hpl⟩ : ∃ pl : Nat, raw / 7 % (sz : Int) = pl := ⟨(raw / 7 % (sz : Int)).toNat, by omega⟩
    rw [hpl]
    have plt : pl < w0.length := by omega
    have prl : (w0.take pl).length = pl := by rw [List.length_take]; omega
    refine ⟨26, rfl, by decide, by decide, for_by turnsR (fun j σ H' => ∃ (w : List Nat) (u7 u8 : Option V), σ = [some (.ref a), some (.int n), some (vS lets), some (.ref p), some (.int (0 + (i : Int))), some (.int raw), some (.int sz), some (.int tn), some (vS w), some (.int pl), u7, u8, none] ∧ H3 = H' ∧ Wd (w0.take pl) (w0.drop (pl + 1)) raw w0 ws j w)
      ⟨w0, u7, u8, rfl, rfl, w0ok, by rw [prl, List.length_drop]; omega, by rw [prl], by rw [prl], .inr ⟨fun i h => absurd h (by omega), fun h => absurd h (by omega)⟩⟩ (fun _ _ _ _ _ => trivial) ?_ ?_⟩
    · rintro j y σ H4 _ hj ⟨w, u7, u8, rfl, rfl, wd⟩ ⟨rfl, rfl⟩
      have wo := wd.ok
      have wh := wo.hi
      have wln := wd.ln
      rw [prl, List.length_drop] at wln
      walk_at "xs"
      refine x_inS (SqL.of hp3) ?_
      walk_at "xs"
      walk_at "if"
      · rename_i c
        walk_at "xs"
        refine x_ixS (by decide) (lets_at _) ?_
        walk_at "xs"
        refine x_slTo (by omega) (by omega) ?_
        walk_at "xs"
        refine x_catS (by rw [List.length_take]; simp; omega) ?_
        walk_at "xs"
        refine x_slFrom (by omega) (by omega) ?_
        walk_at "xs"
        refine x_catS (by rw [List.length_append, List.length_take, List.length_drop]; simp; omega) ?_
        walk_at "xs"
        have e1 := wd.pr
        have e2 := wd.po
        rw [prl] at e1 e2
        rw [show ((pl : Int)).toNat = pl by omega, show ((pl : Int) + 1).toNat = pl + 1 by omega, e1, e2, show (0 : Int) + (j : Int) = (j : Int) by omega]
        refine ⟨cand (w0.take pl) (w0.drop (pl + 1)) raw j, _, _, rfl, rfl, ⟨?_, ?_, ?_⟩, ?_, ?_, ?_, .inr ⟨fun i hi => ?_, fun _ => by rw [Nat.add_sub_cancel]⟩⟩
        · unfold cand; rw [List.length_append, List.length_append]; simp only [List.length_cons, List.length_nil]; omega
        · unfold cand; rw [List.length_append, List.length_append, prl, List.length_drop]; simp; omega
        · intro c hc
          unfold cand at hc
          rcases List.mem_append.mp hc with hc | hc
          · rcases List.mem_append.mp hc with hc | hc
            · exact w0ok.ok c (List.mem_of_mem_take hc)
            · cases List.mem_singleton.mp hc; omega
          · exact w0ok.ok c (List.mem_of_mem_drop hc)
        · unfold cand; rw [List.length_append, List.length_append]; rfl
        · unfold cand; rw [List.append_assoc, List.take_left]
        · unfold cand; rw [List.drop_append_of_le_length (by rw [List.length_append]; simp), List.drop_of_length_le (by rw [List.length_append]; simp)]; rfl
        · rcases wd.tr with h | ⟨h1, h2⟩
          · exact absurd c h
          · by_cases z : i + 1 < j
            · exact h1 i z
            · have : i = j - 1 := by omega
              rw [this, ← h2 (by omega)]; exact c
      · rename_i c
        exact ⟨w, _, _, rfl, rfl, wd.ok, wd.ln, wd.pr, wd.po, .inl c⟩
    · rintro σ H4 ⟨w, u7, u8, rfl, rfl, wd⟩
      have nw := wd_end wd (by omega)
      walk_at "xs"
      refine ⟨tyL (SqL.of hp3), ?_⟩
      walk_at "xs"
      refine x_append hp3 (small (by rw [List.length_map]; omega)) ?_
      refine ⟨ws ++ [w], _, _, _, _, _, _, _, _, rfl, same_upd s23 np, by rw [upd_same, List.map_append]; rfl, by rw [List.length_append, wl]; rfl, ?_, fun x hx => ?_⟩
      · rw [List.nodup_append]
        exact ⟨nd, by simp, fun a ha b hb e => nw (by rw [List.mem_singleton] at hb; rw [← hb, ← e]; exact ha)⟩
      · rcases List.mem_append.mp hx with h | h
        · exact ok x h
        · cases List.mem_singleton.mp h; exact wd.ok
  · rintro σ H2 ⟨ws, u1, u2, u3, u4, u5, u6, u7, u8, rfl, s2, hp2, wl, nd, ok⟩
    walk_at "xs"
    exact k p ws H2 np s2 hp2 (by omega) nd ok

end Su
namespace Su
open PySem L2
local macro_rules | `(tactic| walk_at "side") => `(tactic| first | assumption | (show (0 : Int) < _; omega) | (show (0 : Int) ≤ _; omega) | (show (0 : Int) < _; split <;> omega) | (show _ ∨ _; omega) | (show _ ∧ _; omega) | exact ⟨by decide, by decide, by decide⟩ | exact ⟨by first | assumption | omega, by first | assumption | omega⟩)
local macro_rules | `(tactic| walk_at "x") => `(tactic| first
  | with_reducible refine Su.x_seq ?_ | with_reducible refine Su.x_asg ?_ | with_reducible refine Su.x_gname ?_ | with_reducible refine Su.x_drop ?_ | with_reducible refine Su.x_ret ?_ | with_reducible refine Su.x_ifS ?_
  | ((with_reducible show L2.tVar _ _ _ _); refine Su.x_var rfl ?_) | with_reducible refine Su.x_c ?_ | with_reducible refine Su.x_op ?_ | with_reducible refine Su.x_rI0 ?_ | ((with_reducible refine Su.x_rI ?_ ?_); focus walk_at "side")
  | ((with_reducible show L2.rIxL _ (L2.V.ref _) (L2.V.int _) _ _); refine Su.x_ixI (by assumption) (by first | decide | omega) (by omega) ?_) | with_reducible refine Su.x_isi_int_int ?_ | with_reducible refine Su.x_isi_int_bool ?_ | with_reducible refine Su.x_isi_int_str ?_ | with_reducible refine Su.x_isi_int_list ?_ | with_reducible refine Su.x_isi_int_tuple ?_ | with_reducible refine Su.x_isi_bool_int ?_ | with_reducible refine Su.x_isi_bool_bool ?_ | with_reducible refine Su.x_isi_bool_str ?_ | with_reducible refine Su.x_isi_bool_list ?_ | with_reducible refine Su.x_isi_bool_tuple ?_ | with_reducible refine Su.x_isi_str_int ?_ | with_reducible refine Su.x_isi_str_bool ?_ | with_reducible refine Su.x_isi_str_str ?_ | with_reducible refine Su.x_isi_str_list ?_ | with_reducible refine Su.x_isi_str_tuple ?_ | with_reducible refine Su.x_isi_NoneType_int ?_ | with_reducible refine Su.x_isi_NoneType_bool ?_ | with_reducible refine Su.x_isi_NoneType_str ?_ | with_reducible refine Su.x_isi_NoneType_list ?_ | with_reducible refine Su.x_isi_NoneType_tuple ?_ | with_reducible refine Su.x_rGt ?_ | with_reducible refine Su.x_rGe ?_ | with_reducible refine Su.x_iteF ?_ | with_reducible refine Su.x_iteT ?_ | with_reducible refine Su.x_iteNT ?_ | with_reducible refine Su.x_iteNF ?_ | with_reducible refine Su.x_eqI ?_ | with_reducible refine Su.x_neI ?_ | with_reducible refine Su.x_eqS ?_ | with_reducible refine Su.x_neS ?_ | with_reducible refine Su.x_eqB ?_ | with_reducible refine Su.x_neB ?_
  | with_reducible refine Su.x_test ?_ | with_reducible refine Su.x_tB ?_ | with_reducible refine Su.x_isB ?_ | with_reducible refine Su.x_isB' ?_ | with_reducible refine Su.x_not ?_ | with_reducible refine Su.x_and ?_ | with_reducible refine Su.x_or ?_
  | with_reducible refine Su.x_andV ?_ | with_reducible refine Su.x_orV ?_ | with_reducible refine Su.x_notV ?_ | with_reducible refine Su.x_chain ?_ | with_reducible refine Su.x_nil ?_ | with_reducible refine Su.x_cons ?_ | with_reducible refine Su.x_cb ?_ | with_reducible refine Su.x_call ?_
  | with_reducible refine Su.x_un ?_ | with_reducible refine Su.x_rU ?_ | with_reducible refine Su.x_abs ?_ | with_reducible refine Su.x_max2 ?_ | with_reducible refine Su.x_min2 ?_ | with_reducible refine Su.x_int1 ?_ | with_reducible refine Su.x_intB ?_
  | with_reducible refine Su.x_lst ?_ | with_reducible refine Su.x_tup ?_ | with_reducible refine Su.x_bmL ?_ | with_reducible refine Su.x_next ?_ | with_reducible refine Su.x_for ?_ | with_reducible refine Su.x_iList ?_ | with_reducible refine Su.x_iRng1 ?_ | with_reducible refine Su.x_iRng2 ?_ | with_reducible refine Su.x_whileN ?_ | with_reducible refine Su.x_iEnum ?_ | with_reducible refine Su.x_iZip ?_ | with_reducible refine Su.x_iZipA ?_ | with_reducible refine Su.x_iTup ?_ | with_reducible refine Su.x_gcons ?_ | with_reducible refine Su.x_gnil ?_ | with_reducible refine Su.x_gsub ?_ | with_reducible refine Su.x_yes ?_ | with_reducible refine Su.x_lc ?_ | with_reducible refine Su.x_sl ?_ | with_reducible refine Su.x_nopart ?_ | with_reducible refine Su.x_part ?_ | with_reducible refine Su.x_isI ?_ | with_reducible refine Su.x_lstRg ?_ | with_reducible refine Su.x_rg1 ?_ | with_reducible refine Su.x_augS ?_ | with_reducible refine Su.x_ipI ?_ | ((with_reducible show L2.tAug _ _ _ _ _ _); refine Su.x_aug rfl ?_) | with_reducible refine Su.x_callS ?_ | with_reducible refine Su.x_tryAs ?_)
local macro_rules | `(tactic| walk_at "xs") => `(tactic| repeat walk_at "x")
local macro_rules | `(tactic| walk_at "if") => `(tactic| first | with_reducible refine Su.x_iteD (fun c => ?_) (fun c => ?_) | with_reducible refine Su.x_iteN (fun c => ?_) (fun c => ?_) | with_reducible refine Su.x_ite (fun c => ?_) (fun c => ?_))
/-! _law_whole of an int -/
def sp_law_whole (K : PySem.W.Frag) : Sp := fun vs H Q _ => ∃ n : Int, vs = [.int n] ∧ Q (.bl true) H
abbrev N_law_whole : List Str := ["_law_told"]
def t_law_whole (K : PySem.W.Frag) : TS :=
 (tRet (tAndV (tCB (rIsi K) (tCons (tVar 0) (tCons (tC (.ty "int")) tNil))) (tNotV (tCB (rIsi K) (tCons (tVar 0) (tCons (tC (.ty "bool")) tNil))))))

theorem len_law_whole {K : PySem.W.Frag} : ∀ vs H Q E, sp_law_whole K vs H Q E → vs.length = ["a"].length := by
  rintro vs H Q E ⟨_, rfl, _⟩; rfl
theorem pure_law_whole {K : PySem.W.Frag} {vs : List V} {H : Hp} {Q : VK} {E : XK} (h : sp_law_whole K vs H Q E) : t_law_whole K { nx := fun _ H' => Q .non H', rt := Q } (start N_law_whole vs) H := by
  obtain ⟨n, rfl, k⟩ := h
  unfold t_law_whole
  walk_at "xs"
  exact k

end Su
namespace Su
open PySem L2
local macro_rules | `(tactic| walk_at "side") => `(tactic| first | assumption | (show (0 : Int) < _; omega) | (show (0 : Int) ≤ _; omega) | (show (0 : Int) < _; split <;> omega) | (show _ ∨ _; omega) | (show _ ∧ _; omega) | exact ⟨by decide, by decide, by decide⟩ | exact ⟨by first | assumption | omega, by first | assumption | omega⟩)
local macro_rules | `(tactic| walk_at "x") => `(tactic| first
  | with_reducible refine Su.x_seq ?_ | with_reducible refine Su.x_asg ?_ | with_reducible refine Su.x_gname ?_ | with_reducible refine Su.x_drop ?_ | with_reducible refine Su.x_ret ?_ | with_reducible refine Su.x_ifS ?_
  | ((with_reducible show L2.tVar _ _ _ _); refine Su.x_var rfl ?_) | with_reducible refine Su.x_c ?_ | with_reducible refine Su.x_op ?_ | with_reducible refine Su.x_rI0 ?_ | ((with_reducible refine Su.x_rI ?_ ?_); focus walk_at "side")
  | ((with_reducible show L2.rIxL _ (L2.V.ref _) (L2.V.int _) _ _); refine Su.x_ixI (by assumption) (by first | decide | omega) (by omega) ?_) | with_reducible refine Su.x_isi_int_int ?_ | with_reducible refine Su.x_isi_int_bool ?_ | with_reducible refine Su.x_isi_int_str ?_ | with_reducible refine Su.x_isi_int_list ?_ | with_reducible refine Su.x_isi_int_tuple ?_ | with_reducible refine Su.x_isi_bool_int ?_ | with_reducible refine Su.x_isi_bool_bool ?_ | with_reducible refine Su.x_isi_bool_str ?_ | with_reducible refine Su.x_isi_bool_list ?_ | with_reducible refine Su.x_isi_bool_tuple ?_ | with_reducible refine Su.x_isi_str_int ?_ | with_reducible refine Su.x_isi_str_bool ?_ | with_reducible refine Su.x_isi_str_str ?_ | with_reducible refine Su.x_isi_str_list ?_ | with_reducible refine Su.x_isi_str_tuple ?_ | with_reducible refine Su.x_isi_NoneType_int ?_ | with_reducible refine Su.x_isi_NoneType_bool ?_ | with_reducible refine Su.x_isi_NoneType_str ?_ | with_reducible refine Su.x_isi_NoneType_list ?_ | with_reducible refine Su.x_isi_NoneType_tuple ?_ | with_reducible refine Su.x_rGt ?_ | with_reducible refine Su.x_rGe ?_ | with_reducible refine Su.x_iteF ?_ | with_reducible refine Su.x_iteT ?_ | with_reducible refine Su.x_iteNT ?_ | with_reducible refine Su.x_iteNF ?_ | with_reducible refine Su.x_eqI ?_ | with_reducible refine Su.x_neI ?_ | with_reducible refine Su.x_eqS ?_ | with_reducible refine Su.x_neS ?_ | with_reducible refine Su.x_eqB ?_ | with_reducible refine Su.x_neB ?_
  | with_reducible refine Su.x_test ?_ | with_reducible refine Su.x_tB ?_ | with_reducible refine Su.x_isB ?_ | with_reducible refine Su.x_isB' ?_ | with_reducible refine Su.x_not ?_ | with_reducible refine Su.x_and ?_ | with_reducible refine Su.x_or ?_
  | with_reducible refine Su.x_andV ?_ | with_reducible refine Su.x_orV ?_ | with_reducible refine Su.x_notV ?_ | with_reducible refine Su.x_chain ?_ | with_reducible refine Su.x_nil ?_ | with_reducible refine Su.x_cons ?_ | with_reducible refine Su.x_cb ?_ | with_reducible refine Su.x_call ?_
  | with_reducible refine Su.x_un ?_ | with_reducible refine Su.x_rU ?_ | with_reducible refine Su.x_abs ?_ | with_reducible refine Su.x_max2 ?_ | with_reducible refine Su.x_min2 ?_ | with_reducible refine Su.x_int1 ?_ | with_reducible refine Su.x_intB ?_
  | with_reducible refine Su.x_lst ?_ | with_reducible refine Su.x_tup ?_ | with_reducible refine Su.x_bmL ?_ | with_reducible refine Su.x_next ?_ | with_reducible refine Su.x_for ?_ | with_reducible refine Su.x_iList ?_ | with_reducible refine Su.x_iRng1 ?_ | with_reducible refine Su.x_iRng2 ?_ | with_reducible refine Su.x_whileN ?_ | with_reducible refine Su.x_iEnum ?_ | with_reducible refine Su.x_iZip ?_ | with_reducible refine Su.x_iZipA ?_ | with_reducible refine Su.x_iTup ?_ | with_reducible refine Su.x_gcons ?_ | with_reducible refine Su.x_gnil ?_ | with_reducible refine Su.x_gsub ?_ | with_reducible refine Su.x_yes ?_ | with_reducible refine Su.x_lc ?_ | with_reducible refine Su.x_sl ?_ | with_reducible refine Su.x_nopart ?_ | with_reducible refine Su.x_part ?_ | with_reducible refine Su.x_isI ?_ | with_reducible refine Su.x_lstRg ?_ | with_reducible refine Su.x_rg1 ?_ | with_reducible refine Su.x_augS ?_ | with_reducible refine Su.x_ipI ?_ | ((with_reducible show L2.tAug _ _ _ _ _ _); refine Su.x_aug rfl ?_) | with_reducible refine Su.x_callS ?_ | with_reducible refine Su.x_tryAs ?_)
local macro_rules | `(tactic| walk_at "xs") => `(tactic| repeat walk_at "x")
local macro_rules | `(tactic| walk_at "if") => `(tactic| first | with_reducible refine Su.x_iteD (fun c => ?_) (fun c => ?_) | with_reducible refine Su.x_iteN (fun c => ?_) (fun c => ?_) | with_reducible refine Su.x_ite (fun c => ?_) (fun c => ?_))
local macro_rules | `(tactic| walk_at "x") => `(tactic| first | with_reducible refine Su.x_m1 ?_ | with_reducible refine Su.x_strE ?_ | with_reducible refine Su.x_m0 ?_ | with_reducible refine Su.x_dnew ?_ | with_reducible refine Su.x_dput ?_ | with_reducible refine Su.x_dgetE ?_ | with_reducible refine Su.x_dget2 ?_ | with_reducible refine Su.x_daug ?_ | with_reducible refine Su.x_din ?_ | with_reducible refine Su.x_dnin ?_ | with_reducible refine Su.x_brk ?_ | with_reducible refine Su.x_retN ?_)
/-! net_rows -/
theorem getD_mapI (o : Option Int) : ((o.map V.int).getD (.int 0)) = .int (o.getD 0) := by cases o <;> rfl
def sp_net_rows (K : PySem.W.Frag) : Sp := fun vs H Q _ => ∃ (v : V) (ds : List Debt) (ws : List (List Nat)), vs = [v] ∧ Dp K H v (.list (ds.map dTr)) ∧ ds.length ≤ 1000 ∧ ws.length < 64 ∧ (∀ d ∈ ds, d.1 ∈ ws ∧ d.2.1 ∈ ws) ∧
  ∀ (p : Addr) (rows : List (List Nat × Int)) (H' : Hp), H p = none → Same H H' → LsAt K [p] H' p (rows.map dNet) → NetRows ds rows → Q (.ref p) H'
abbrev N_net_rows : List Str := ["debts", "nets", "giver", "taker", "coins", "name"]
def t_net_rows (K : PySem.W.Frag) : TS :=
 (tSeq (tAsg tDNewK (gName 1))
 (tSeq (tFor (iList K (tVar 0)) (gTup K 3 (gCons (gName 2) (gCons (gName 3) (gCons (gName 4) gNil))))
 (tSeq (sDPut (tVar 1) (tVar 2) (tOp rSub (tDGet2 (tVar 1) (tVar 2) (tC (.int 0))) (tVar 4)))
 (sDPut (tVar 1) (tVar 3) (tOp rAdd (tDGet2 (tVar 1) (tVar 3) (tC (.int 0))) (tVar 4)))))
 (tRet (tLc (iList K (tCB rSortedD (tCons (tVar 1) tNil))) (gName 5) tYes (tTup (tCons (tVar 5) (tCons (tDGet (tVar 1) (tVar 5)) tNil))) [5]))))

theorem len_net_rows {K : PySem.W.Frag} : ∀ vs H Q E, sp_net_rows K vs H Q E → vs.length = ["a"].length := by
  rintro vs H Q E ⟨_, _, _, rfl, _⟩; rfl
theorem pure_net_rows {K : PySem.W.Frag} {vs : List V} {H : Hp} {Q : VK} {E : XK} (h : sp_net_rows K vs H Q E) : t_net_rows K { nx := fun _ H' => Q .non H', rt := Q } (start N_net_rows vs) H := by
  obtain ⟨v, ds, ws, rfl, hv, hl, h64, hw, k⟩ := h
  obtain ⟨a, xs, rfl, hS, hx⟩ := dp_lst hv
  have xl : xs.length = ds.length := by rw [dpAll_len hx, List.length_map]
  unfold t_net_rows
  walk_at "xs"
  refine al_dnew fun d H1 nd s1 hd => ?_
  walk_at "xs"
  refine ⟨a, rfl, ⟨xs, s1.seq hS⟩, for_by (turnsL (xs := xs)) (fun i σ H' => ∃ (l : List (List Nat × Int)) (u1 u2 u3 : Option V), σ = [some (.ref a), some (.ref d), u1, u2, u3, none] ∧ Same H H' ∧ H' d = some (.dK (kvN (mapN V.int l))) ∧ NetInv (ds.take i) l)
    ⟨[], none, none, none, rfl, s1, hd, netInv_nil⟩ (fun i σ H' _ p => by obtain ⟨_, _, _, _, _, s, _⟩ := p; exact s.seq hS) ?_ ?_⟩
  · rintro i x σ H2 _ hi ⟨l, u1, u2, u3, rfl, s2, hd2, inv⟩ ⟨rfl, hx1⟩
    obtain ⟨d0, e1, e2⟩ := dpAll_get hx hx1
    rw [List.getElem?_map] at e1
    obtain ⟨dd, e3, rfl⟩ := Option.map_eq_some_iff.mp e1
    obtain ⟨t, rfl, ht⟩ := dp_tr (dp_same s2 e2)
    have ll := inv.len
    have tl : (ds.take i).length ≤ ds.length := by rw [List.length_take]; omega
    refine x_gtup ht rfl ?_
    walk_at "xs"
    refine ⟨d, rfl, .inl ⟨_, .of hd2⟩, ?_⟩
    walk_at "xs"
    refine ⟨_, get_N hd2, ?_⟩
    rw [lookN_mapN, getD_mapI]
    walk_at "xs"
    refine ⟨d, _, rfl, put_N hd2 (by unfold mapN; rw [List.length_map]; omega), ?_⟩
    rw [← mapN_put]
    have hd3 : upd H2 d (.dK (kvN (mapN V.int (putN l dd.1 ((lookN l dd.1).getD 0 - dd.2.2))))) d = some (.dK (kvN (mapN V.int (putN l dd.1 ((lookN l dd.1).getD 0 - dd.2.2))))) := upd_same
    have s3 := same_upd (o := .dK (kvN (mapN V.int (putN l dd.1 ((lookN l dd.1).getD 0 - dd.2.2))))) s2 nd
    have l3 := len_put l dd.1 ((lookN l dd.1).getD 0 - dd.2.2)
    generalize upd H2 d (.dK (kvN (mapN V.int (putN l dd.1 ((lookN l dd.1).getD 0 - dd.2.2))))) = H3 at hd3 s3 ⊢
    walk_at "xs"
    refine ⟨d, rfl, .inl ⟨_, .of hd3⟩, ?_⟩
    walk_at "xs"
    refine ⟨_, get_N hd3, ?_⟩
    rw [lookN_mapN, getD_mapI]
    walk_at "xs"
    refine ⟨d, _, rfl, put_N hd3 (by unfold mapN; rw [List.length_map]; omega), ?_⟩
    rw [← mapN_put]
    refine ⟨netStep l dd, _, _, _, rfl, same_upd s3 nd, upd_same, ?_⟩
    rw [List.take_succ, e3]
    exact netInv_step inv dd
  · rintro σ H2 ⟨l, u1, u2, u3, rfl, s2, hd2, inv⟩
    rw [xl, List.take_length] at inv
    have kl : (keysN l).length < 64 := by
      refine Nat.lt_of_le_of_lt (nodup_subG inv.nd (m := ws) fun x hx => ?_) h64
      obtain ⟨d, hd, e⟩ := (inv.key x).mp hx
      have := hw d hd
      exact e.elim (fun e => e ▸ this.1) fun e => e ▸ this.2
    walk_at "xs"
    have mk : keysN (mapN V.int l) = keysN l := by unfold mapN keysN; rw [List.map_map]; rfl
    refine ⟨d, _, (keysN l).map SX.S, rfl, .of hd2, by rw [kvN_keys, mk], by rw [List.length_map]; exact kl, fun ys q pm so nq => ?_⟩
    obtain ⟨w', rfl, pm', pw⟩ := sorted_names pm so
    have nd' : w'.Nodup := pm'.nodup_iff.mpr inv.nd
    have pw' := pw_strict pw nd'
    have wl : w'.length < 64 := by rw [pm'.length_eq]; exact kl
    have s3 : Same H2 (upd H2 q (.lst ((w'.map SX.S).map V.str))) := same_new (Same.refl _) nq
    have hq3 : upd H2 q (.lst ((w'.map SX.S).map V.str)) q = some (.lst ((w'.map SX.S).map V.str)) := upd_same
    generalize upd H2 q (.lst ((w'.map SX.S).map V.str)) = H3 at s3 hq3 ⊢
    rw [List.map_map] at hq3
    walk_at "xs"
    refine ⟨q, rfl, ⟨_, SqL.of hq3⟩, fun A nA => ?_⟩
    have hd3 := s3 _ _ hd2
    refine lc_data (K := K) (fun i => (w'[i]?).map fun w => dNet (w, netOf ds w)) (turnsL (xs := w'.map vS)) (fun H' s => s.seq (SqL.of hq3)) nA ?_ ?_
    · rintro i x Hc _ hi lc ⟨rfl, hx⟩
      rw [List.length_map] at hi
      rw [List.getElem?_map, List.getElem?_eq_getElem hi] at hx
      cases hx
      have hc := lc.s _ _ hd3
      have hm : w'[i] ∈ keysN l := pm'.mem_iff.mp (List.getElem_mem _)
      obtain ⟨n, hn⟩ : ∃ n, lookN l w'[i] = some n := by
        have := lookN_isSome (l := l) (w := w'[i])
        rw [decide_eq_true hm] at this
        exact Option.isSome_iff_exists.mp this
      have nv := inv.val w'[i]
      rw [hn] at nv
      walk_at "xs"
      refine x_wipe rfl ?_
      walk_at "xs"
      refine ⟨d, .int n, rfl, ?_, ?_⟩
      · have := get_N (w := w'[i]) hc
        rwa [lookN_mapN, hn] at this
      walk_at "xs"
      refine al_tup fun T H5 nT s5 hT => ?_
      refine lc.keep nA s5 (d := dNet (w'[i], netOf ds w'[i])) (by rw [List.getElem?_eq_getElem hi]; rfl) ?_ (by omega)
      have ne : T ≠ A := fun e => by subst e; obtain ⟨acc, hA, _⟩ := lc.ex; rw [hA] at nT; cases nT
      rw [← nv]
      exact net_dp (p := (w'[i], n)) (SqT.of (del_at hT ne))
    · intro H4 acc s4 hA hD
      rw [List.length_map, range_get (fun w => dNet (w, netOf ds w)) w'] at hD
      refine k A (w'.map fun w => (w, netOf ds w)) H4 ((s2.trans s3).free nA) ((s2.trans s3).trans s4) ⟨acc, hA, ?_⟩ ⟨?_, fun w => ?_, fun p hp => ?_⟩
      · rw [← del_eq_hide, List.map_map]; exact hD
      · unfold keysN; rw [List.map_map]; show (w'.map id).Pairwise _; rw [List.map_id]; exact pw'
      · unfold keysN; rw [List.map_map]
        show w ∈ w'.map id ↔ _
        rw [List.map_id, pm'.mem_iff]; exact inv.key w
      · obtain ⟨w, _, rfl⟩ := List.mem_map.mp hp; rfl

end Su
namespace Su
open PySem L2
local macro_rules | `(tactic| walk_at "side") => `(tactic| first | assumption | (show (0 : Int) < _; omega) | (show (0 : Int) ≤ _; omega) | (show (0 : Int) < _; split <;> omega) | (show _ ∨ _; omega) | (show _ ∧ _; omega) | exact ⟨by decide, by decide, by decide⟩ | exact ⟨by first | assumption | omega, by first | assumption | omega⟩)
local macro_rules | `(tactic| walk_at "x") => `(tactic| first
  | with_reducible refine Su.x_seq ?_ | with_reducible refine Su.x_asg ?_ | with_reducible refine Su.x_gname ?_ | with_reducible refine Su.x_drop ?_ | with_reducible refine Su.x_ret ?_ | with_reducible refine Su.x_ifS ?_
  | ((with_reducible show L2.tVar _ _ _ _); refine Su.x_var rfl ?_) | with_reducible refine Su.x_c ?_ | with_reducible refine Su.x_op ?_ | with_reducible refine Su.x_rI0 ?_ | ((with_reducible refine Su.x_rI ?_ ?_); focus walk_at "side")
  | ((with_reducible show L2.rIxL _ (L2.V.ref _) (L2.V.int _) _ _); refine Su.x_ixI (by assumption) (by first | decide | omega) (by omega) ?_) | with_reducible refine Su.x_isi_int_int ?_ | with_reducible refine Su.x_isi_int_bool ?_ | with_reducible refine Su.x_isi_int_str ?_ | with_reducible refine Su.x_isi_int_list ?_ | with_reducible refine Su.x_isi_int_tuple ?_ | with_reducible refine Su.x_isi_bool_int ?_ | with_reducible refine Su.x_isi_bool_bool ?_ | with_reducible refine Su.x_isi_bool_str ?_ | with_reducible refine Su.x_isi_bool_list ?_ | with_reducible refine Su.x_isi_bool_tuple ?_ | with_reducible refine Su.x_isi_str_int ?_ | with_reducible refine Su.x_isi_str_bool ?_ | with_reducible refine Su.x_isi_str_str ?_ | with_reducible refine Su.x_isi_str_list ?_ | with_reducible refine Su.x_isi_str_tuple ?_ | with_reducible refine Su.x_isi_NoneType_int ?_ | with_reducible refine Su.x_isi_NoneType_bool ?_ | with_reducible refine Su.x_isi_NoneType_str ?_ | with_reducible refine Su.x_isi_NoneType_list ?_ | with_reducible refine Su.x_isi_NoneType_tuple ?_ | with_reducible refine Su.x_rGt ?_ | with_reducible refine Su.x_rGe ?_ | with_reducible refine Su.x_iteF ?_ | with_reducible refine Su.x_iteT ?_ | with_reducible refine Su.x_iteNT ?_ | with_reducible refine Su.x_iteNF ?_ | with_reducible refine Su.x_eqI ?_ | with_reducible refine Su.x_neI ?_ | with_reducible refine Su.x_eqS ?_ | with_reducible refine Su.x_neS ?_ | with_reducible refine Su.x_eqB ?_ | with_reducible refine Su.x_neB ?_
  | with_reducible refine Su.x_test ?_ | with_reducible refine Su.x_tB ?_ | with_reducible refine Su.x_isB ?_ | with_reducible refine Su.x_isB' ?_ | with_reducible refine Su.x_not ?_ | with_reducible refine Su.x_and ?_ | with_reducible refine Su.x_or ?_
  | with_reducible refine Su.x_andV ?_ | with_reducible refine Su.x_orV ?_ | with_reducible refine Su.x_notV ?_ | with_reducible refine Su.x_chain ?_ | with_reducible refine Su.x_nil ?_ | with_reducible refine Su.x_cons ?_ | with_reducible refine Su.x_cb ?_ | with_reducible refine Su.x_call ?_
  | with_reducible refine Su.x_un ?_ | with_reducible refine Su.x_rU ?_ | with_reducible refine Su.x_abs ?_ | with_reducible refine Su.x_max2 ?_ | with_reducible refine Su.x_min2 ?_ | with_reducible refine Su.x_int1 ?_ | with_reducible refine Su.x_intB ?_
  | with_reducible refine Su.x_lst ?_ | with_reducible refine Su.x_tup ?_ | with_reducible refine Su.x_bmL ?_ | with_reducible refine Su.x_next ?_ | with_reducible refine Su.x_for ?_ | with_reducible refine Su.x_iList ?_ | with_reducible refine Su.x_iRng1 ?_ | with_reducible refine Su.x_iRng2 ?_ | with_reducible refine Su.x_whileN ?_ | with_reducible refine Su.x_iEnum ?_ | with_reducible refine Su.x_iZip ?_ | with_reducible refine Su.x_iZipA ?_ | with_reducible refine Su.x_iTup ?_ | with_reducible refine Su.x_gcons ?_ | with_reducible refine Su.x_gnil ?_ | with_reducible refine Su.x_gsub ?_ | with_reducible refine Su.x_yes ?_ | with_reducible refine Su.x_lc ?_ | with_reducible refine Su.x_sl ?_ | with_reducible refine Su.x_nopart ?_ | with_reducible refine Su.x_part ?_ | with_reducible refine Su.x_isI ?_ | with_reducible refine Su.x_lstRg ?_ | with_reducible refine Su.x_rg1 ?_ | with_reducible refine Su.x_augS ?_ | with_reducible refine Su.x_ipI ?_ | ((with_reducible show L2.tAug _ _ _ _ _ _); refine Su.x_aug rfl ?_) | with_reducible refine Su.x_callS ?_ | with_reducible refine Su.x_tryAs ?_)
local macro_rules | `(tactic| walk_at "xs") => `(tactic| repeat walk_at "x")
local macro_rules | `(tactic| walk_at "if") => `(tactic| first | with_reducible refine Su.x_iteD (fun c => ?_) (fun c => ?_) | with_reducible refine Su.x_iteN (fun c => ?_) (fun c => ?_) | with_reducible refine Su.x_ite (fun c => ?_) (fun c => ?_))
/-! first_with -/
def fwI (o : Option Nat) : Int := match o with | none => -1 | some i => (i : Int)
def fwAt (l : List Int) (s : Int) : Option Nat := l.findIdx? fun x => decide (0 < x * s)
theorem fwAt_neg (l : List Int) : fwAt l (-1) = negAt l := by
  unfold fwAt negAt
  congr 1; funext x
  have : (0 < x * -1) ↔ x < 0 := by omega
  simp only [this]
theorem fwAt_pos (l : List Int) : fwAt l 1 = posAt l := by
  unfold fwAt posAt
  congr 1; funext x
  rw [Int.mul_one]
def sp_first_with (K : PySem.W.Frag) : Sp := fun vs H Q _ => ∃ (a : Addr) (l : List Int) (s : Int), vs = [.ref a, .int s] ∧ SqL K H a (l.map V.int) ∧ (s = 1 ∨ s = -1) ∧ ∀ H', Same H H' → Q (.int (fwI (fwAt l s))) H'
abbrev N_first_with : List Str := ["left", "sign", "at", "net"]
def t_first_with (K : PySem.W.Frag) : TS :=
 (tSeq (tFor (iEnum K (tCons (tVar 0) tNil)) (gTup K 2 (gCons (gName 2) (gCons (gName 3) gNil)))
 (tIfS (tTest (tOp rGt (tOp rMul (tVar 3) (tVar 1)) (tC (.int 0))))
 (tRet (tVar 2))
 tNext))
 (tRet (tUn rNeg (tC (.int 1)))))

theorem len_first_with {K : PySem.W.Frag} : ∀ vs H Q E, sp_first_with K vs H Q E → vs.length = ["a", "b"].length := by
  rintro vs H Q E ⟨_, _, _, rfl, _⟩; rfl
theorem pure_first_with {K : PySem.W.Frag} {vs : List V} {H : Hp} {Q : VK} {E : XK} (h : sp_first_with K vs H Q E) : t_first_with K { nx := fun _ H' => Q .non H', rt := Q } (start N_first_with vs) H := by
  obtain ⟨a, l, s, rfl, hS, hs, k⟩ := h
  unfold t_first_with
  walk_at "xs"
  refine ⟨a, l.map V.int, rfl, hS, for_by turnsE (fun i σ H' => ∃ u1 u2, σ = [some (.ref a), some (.int s), u1, u2] ∧ Same H H' ∧ ∀ x ∈ l.take i, ¬ 0 < x * s)
    ⟨none, none, rfl, Same.refl _, fun x hx => by simp at hx⟩ (fun i σ H' _ p => by obtain ⟨_, _, _, s1, _⟩ := p; exact s1.seq hS) ?_ ?_⟩
  · rintro i v σ H1 H2 hi ⟨u1, u2, rfl, s1, q⟩ ⟨x, hx, T, rfl, nT, s2, hT, _⟩
    rw [List.length_map] at hi
    rw [List.getElem?_map, List.getElem?_eq_getElem hi] at hx
    cases hx
    refine x_gtup (SqT.of hT) rfl ?_
    walk_at "xs"
    walk_at "if"
    · rename_i c
      walk_at "xs"
      have e : fwAt l s = some i := by
        unfold fwAt
        rw [List.findIdx?_eq_some_iff_getElem]
        refine ⟨hi, decide_eq_true c, fun j hj => ?_⟩
        have := q l[j] (by rw [List.mem_take_iff_getElem]; exact ⟨j, by omega, rfl⟩)
        simpa using this
      have := k H2 (s1.trans s2)
      rw [e] at this
      exact this
    · rename_i c
      refine ⟨_, _, rfl, s1.trans s2, fun x hx => ?_⟩
      rw [List.take_succ, List.getElem?_eq_getElem hi] at hx
      rcases List.mem_append.mp hx with hx | hx
      · exact q x hx
      · simp at hx; rw [hx]; exact c
  · rintro σ H1 ⟨u1, u2, rfl, s1, q⟩
    rw [List.length_map, List.take_length] at q
    walk_at "xs"
    have e : fwAt l s = none := by
      unfold fwAt
      rw [List.findIdx?_eq_none_iff]
      intro x hx
      exact decide_eq_false (q x hx)
    have := k H1 s1
    rw [e] at this
    exact this

end Su
namespace Su
open PySem L2
local macro_rules | `(tactic| walk_at "side") => `(tactic| first | assumption | (show (0 : Int) < _; omega) | (show (0 : Int) ≤ _; omega) | (show (0 : Int) < _; split <;> omega) | (show _ ∨ _; omega) | (show _ ∧ _; omega) | exact ⟨by decide, by decide, by decide⟩ | exact ⟨by first | assumption | omega, by first | assumption | omega⟩)
local macro_rules | `(tactic| walk_at "x") => `(tactic| first
  | with_reducible refine Su.x_seq ?_ | with_reducible refine Su.x_asg ?_ | with_reducible refine Su.x_gname ?_ | with_reducible refine Su.x_drop ?_ | with_reducible refine Su.x_ret ?_ | with_reducible refine Su.x_ifS ?_
  | ((with_reducible show L2.tVar _ _ _ _); refine Su.x_var rfl ?_) | with_reducible refine Su.x_c ?_ | with_reducible refine Su.x_op ?_ | with_reducible refine Su.x_rI0 ?_ | ((with_reducible refine Su.x_rI ?_ ?_); focus walk_at "side")
  | ((with_reducible show L2.rIxL _ (L2.V.ref _) (L2.V.int _) _ _); refine Su.x_ixI (by assumption) (by first | decide | omega) (by omega) ?_) | with_reducible refine Su.x_isi_int_int ?_ | with_reducible refine Su.x_isi_int_bool ?_ | with_reducible refine Su.x_isi_int_str ?_ | with_reducible refine Su.x_isi_int_list ?_ | with_reducible refine Su.x_isi_int_tuple ?_ | with_reducible refine Su.x_isi_bool_int ?_ | with_reducible refine Su.x_isi_bool_bool ?_ | with_reducible refine Su.x_isi_bool_str ?_ | with_reducible refine Su.x_isi_bool_list ?_ | with_reducible refine Su.x_isi_bool_tuple ?_ | with_reducible refine Su.x_isi_str_int ?_ | with_reducible refine Su.x_isi_str_bool ?_ | with_reducible refine Su.x_isi_str_str ?_ | with_reducible refine Su.x_isi_str_list ?_ | with_reducible refine Su.x_isi_str_tuple ?_ | with_reducible refine Su.x_isi_NoneType_int ?_ | with_reducible refine Su.x_isi_NoneType_bool ?_ | with_reducible refine Su.x_isi_NoneType_str ?_ | with_reducible refine Su.x_isi_NoneType_list ?_ | with_reducible refine Su.x_isi_NoneType_tuple ?_ | with_reducible refine Su.x_rGt ?_ | with_reducible refine Su.x_rGe ?_ | with_reducible refine Su.x_iteF ?_ | with_reducible refine Su.x_iteT ?_ | with_reducible refine Su.x_iteNT ?_ | with_reducible refine Su.x_iteNF ?_ | with_reducible refine Su.x_eqI ?_ | with_reducible refine Su.x_neI ?_ | with_reducible refine Su.x_eqS ?_ | with_reducible refine Su.x_neS ?_ | with_reducible refine Su.x_eqB ?_ | with_reducible refine Su.x_neB ?_
  | with_reducible refine Su.x_test ?_ | with_reducible refine Su.x_tB ?_ | with_reducible refine Su.x_isB ?_ | with_reducible refine Su.x_isB' ?_ | with_reducible refine Su.x_not ?_ | with_reducible refine Su.x_and ?_ | with_reducible refine Su.x_or ?_
  | with_reducible refine Su.x_andV ?_ | with_reducible refine Su.x_orV ?_ | with_reducible refine Su.x_notV ?_ | with_reducible refine Su.x_chain ?_ | with_reducible refine Su.x_nil ?_ | with_reducible refine Su.x_cons ?_ | with_reducible refine Su.x_cb ?_ | with_reducible refine Su.x_call ?_
  | with_reducible refine Su.x_un ?_ | with_reducible refine Su.x_rU ?_ | with_reducible refine Su.x_abs ?_ | with_reducible refine Su.x_max2 ?_ | with_reducible refine Su.x_min2 ?_ | with_reducible refine Su.x_int1 ?_ | with_reducible refine Su.x_intB ?_
  | with_reducible refine Su.x_lst ?_ | with_reducible refine Su.x_tup ?_ | with_reducible refine Su.x_bmL ?_ | with_reducible refine Su.x_next ?_ | with_reducible refine Su.x_for ?_ | with_reducible refine Su.x_iList ?_ | with_reducible refine Su.x_iRng1 ?_ | with_reducible refine Su.x_iRng2 ?_ | with_reducible refine Su.x_whileN ?_ | with_reducible refine Su.x_iEnum ?_ | with_reducible refine Su.x_iZip ?_ | with_reducible refine Su.x_iZipA ?_ | with_reducible refine Su.x_iTup ?_ | with_reducible refine Su.x_gcons ?_ | with_reducible refine Su.x_gnil ?_ | with_reducible refine Su.x_gsub ?_ | with_reducible refine Su.x_yes ?_ | with_reducible refine Su.x_lc ?_ | with_reducible refine Su.x_sl ?_ | with_reducible refine Su.x_nopart ?_ | with_reducible refine Su.x_part ?_ | with_reducible refine Su.x_isI ?_ | with_reducible refine Su.x_lstRg ?_ | with_reducible refine Su.x_rg1 ?_ | with_reducible refine Su.x_augS ?_ | with_reducible refine Su.x_ipI ?_ | ((with_reducible show L2.tAug _ _ _ _ _ _); refine Su.x_aug rfl ?_) | with_reducible refine Su.x_callS ?_ | with_reducible refine Su.x_tryAs ?_)
local macro_rules | `(tactic| walk_at "xs") => `(tactic| repeat walk_at "x")
local macro_rules | `(tactic| walk_at "if") => `(tactic| first | with_reducible refine Su.x_iteD (fun c => ?_) (fun c => ?_) | with_reducible refine Su.x_iteN (fun c => ?_) (fun c => ?_) | with_reducible refine Su.x_ite (fun c => ?_) (fun c => ?_))
/-! transfers -/
def nmAt (ns : List (List Nat × Int)) (i : Nat) : List Nat := (ns.getD i ([], 0)).1
def trName (ns : List (List Nat × Int)) (r : Nat × Nat × Int) : List Nat × List Nat × Int := (nmAt ns r.1, nmAt ns r.2.1, r.2.2)
def trRows (ns : List (List Nat × Int)) : List (List Nat × List Nat × Int) := (trGo ns.length (ns.map (·.2))).map (trName ns)
def sp_transfers (K : PySem.W.Frag) : Sp := fun vs H Q E => ∃ (v : V) (ns : List (List Nat × Int)), vs = [v] ∧ Dp K H v (.list (ns.map dNet)) ∧ ns.length ≤ 1000 ∧
  ((ns.map (·.2)).sum ≠ 0 → ∀ H', Same H H' → E (.ref (He.ga K "Uneven")) none H') ∧
  ((ns.map (·.2)).sum = 0 → ∀ (p : Addr) (H' : Hp), H p = none → Same H H' → LsAt K [p] H' p ((trRows ns).map dTr) → Q (.ref p) H')
/-- an item of a row of nets -/
theorem net_item {K : PySem.W.Frag} {H : Hp} {xs : List V} {ns : List (List Nat × Int)} (h : DpAll K H xs (ns.map dNet)) {i : Nat} (hi : i < ns.length) : ∃ t, atI xs (i : Int) = some (.ref t) ∧ SqT K H t [vS (nmAt ns i), .int ((ns.map (·.2)).getD i 0)] := by
  have xl : xs.length = ns.length := by rw [dpAll_len h, List.length_map]
  obtain ⟨v, h1, h2⟩ := dpAll_get' (i := i) (d := dNet ns[i]) h (by rw [List.getElem?_map, List.getElem?_eq_getElem hi]; rfl)
  obtain ⟨t, rfl, ht⟩ := dp_net h2
  refine ⟨t, ?_, ?_⟩
  · rw [at_get (d := .non) (by omega) (by omega), List.getD_eq_getElem?_getD, show ((i : Int)).toNat = i by omega, h1]; rfl
  · have e1 : nmAt ns i = ns[i].1 := by unfold nmAt; rw [List.getD_eq_getElem?_getD, List.getElem?_eq_getElem hi]; rfl
    have e2 : (ns.map (·.2)).getD i 0 = ns[i].2 := by rw [List.getD_eq_getElem?_getD, List.getElem?_map, List.getElem?_eq_getElem hi]; rfl
    rw [e1, e2]; exact ht
abbrev N_transfers : List Str := ["nets", "left", "rows", "giver", "taker", "coins", "name", "net"]
def t_transfers (K : PySem.W.Frag) (E : XK) : TS :=
 (tSeq (tAsg (tLc (iList K (tVar 0)) (gTup K 2 (gCons (gName 6) (gCons (gName 7) gNil))) tYes (tVar 7) [6, 7]) (gName 1))
 (tSeq (tIfS (tTest (tOp rNe (tCB (rSum K) (tCons (tVar 1) tNil)) (tC (.int 0))))
 (tRaise (He.ga K "Uneven") (wE E))
 tNext)
 (tSeq (tAsg (tLst tNil) (gName 2))
 (tSeq (tAsg (tCall (sp_first_with K) [] E0 (tCons (tVar 1) (tCons (tUn rNeg (tC (.int 1))) tNil))) (gName 3))
 (tSeq (tWhile (tTest (tOp rNe (tVar 3) (tUn rNeg (tC (.int 1)))))
 (tSeq (tAsg (tCall (sp_first_with K) [] E0 (tCons (tVar 1) (tCons (tC (.int 1)) tNil))) (gName 4))
 (tSeq (tAsg (tCB rMin2 (tCons (tUn rNeg (tOp (rIxL K) (tVar 1) (tVar 3))) (tCons (tOp (rIxL K) (tVar 1) (tVar 4)) tNil))) (gName 5))
 (tSeq (tDrop (tBM K "list" rAppend (tVar 2) (tCons (tTup (tCons (tOp (rIxT K) (tOp (rIxL K) (tVar 0) (tVar 3)) (tC (.int 0))) (tCons (tOp (rIxT K) (tOp (rIxL K) (tVar 0) (tVar 4)) (tC (.int 0))) (tCons (tVar 5) tNil)))) tNil)))
 (tSeq (tAugS (tVar 1) (tVar 3) (tVar 5) (rIxL K) (ipI fun i j => i + j) rSetL)
 (tSeq (tAugS (tVar 1) (tVar 4) (tVar 5) (rIxL K) (ipI fun i j => i - j) rSetL)
 (tAsg (tCall (sp_first_with K) [] E0 (tCons (tVar 1) (tCons (tUn rNeg (tC (.int 1))) tNil))) (gName 3))))))))
 (tRet (tVar 2)))))))

theorem len_transfers {K : PySem.W.Frag} : ∀ vs H Q E, sp_transfers K vs H Q E → vs.length = ["a"].length := by
  rintro vs H Q E ⟨_, _, rfl, _⟩; rfl
theorem pure_transfers {K : PySem.W.Frag} {vs : List V} {H : Hp} {Q : VK} {E : XK} (h : sp_transfers K vs H Q E) : t_transfers K E { nx := fun _ H' => Q .non H', rt := Q } (start N_transfers vs) H := by
  obtain ⟨v, ns, rfl, hv, hl, k1, k2⟩ := h
  obtain ⟨a, xs, rfl, hS, hx⟩ := dp_lst hv
  have xl : xs.length = ns.length := by rw [dpAll_len hx, List.length_map]
  unfold t_transfers
  walk_at "xs"
  refine ⟨a, rfl, ⟨xs, hS⟩, fun L nL => ?_⟩
  refine lc_flat (fun i => (ns[i]?).map fun p => V.int p.2) (turnsL (xs := xs)) (fun H' s => s.seq hS) nL ?_ ?_
  · rintro i x Hc _ hi lc ⟨rfl, hx1⟩
    obtain ⟨d0, e1, e2⟩ := dpAll_get hx hx1
    rw [List.getElem?_map] at e1
    obtain ⟨p, e3, rfl⟩ := Option.map_eq_some_iff.mp e1
    obtain ⟨t, rfl, ht⟩ := dp_net (dp_same lc.s e2)
    refine x_gtup ht rfl ?_
    walk_at "xs"
    refine x_wipe rfl ?_
    walk_at "xs"
    exact lc.keep nL (Same.refl _) (by rw [e3]; rfl) (by omega)
  intro H1 s1 hL
  rw [xl, range_get2] at hL
  obtain ⟨l0, hl0⟩ : ∃ l0, l0 = ns.map (·.2) := ⟨_, rfl⟩
  have ll0 : l0.length = ns.length := by rw [hl0, List.length_map]
  rw [← hl0] at hL k1 k2
  walk_at "xs"
  refine ⟨L, l0, rfl, SqL.of hL, ?_⟩
  walk_at "xs"
  walk_at "if"
  · rename_i c
    exact k1 c H1 s1
  rename_i c
  walk_at "xs"
  refine al_lst fun R H2 nR s2 hR => ?_
  have hL2 := s2 _ _ hL
  have neq : R ≠ L := fun e => by subst e; rw [hL] at nR; cases nR
  walk_at "xs"
  refine ⟨L, l0, -1, rfl, SqL.of hL2, .inr rfl, fun H3 s3 => ?_⟩
  rw [fwAt_neg]
  walk_at "xs"
  refine ⟨fun m σ H' => ∃ (l : List Int) (rows : List (Nat × Nat × Int)) (u1 u2 : Option V), σ = [some (.ref a), some (.ref L), some (.ref R), some (.int (fwI (negAt l))), u1, u2, none, none] ∧ m = nz l ∧ l.sum = 0 ∧ l.length = ns.length ∧
      Same H H' ∧ H' L = some (.lst (l.map V.int)) ∧ LsAt K [R, L] H' R ((rows.map (trName ns)).map dTr) ∧ trGo ns.length l0 = rows ++ trGo ns.length l ∧ rows.length + nz l ≤ ns.length,
    ⟨nz l0, l0, [], none, none, rfl, rfl, by omega, ll0, (s1.trans s2).trans s3, s3 _ _ hL2, ⟨[], s3 _ _ hR, .nil⟩, rfl, by rw [← ll0]; simpa using nz_le l0⟩, ?_⟩
  rintro m σ H4 ⟨l, rows, u1, u2, rfl, rfl, sz, ln, s4, hL4, ⟨rs, hR4, hD4⟩, go, cnt⟩
  have rl : rs.length = rows.length := by rw [dpAll_len hD4, List.length_map, List.length_map]
  walk_at "xs"
  rcases tr_ways sz with ⟨e1, e2, e3⟩ | ⟨g, t, e1, e2⟩
  · rw [e1]
    refine x_iteN (fun c => absurd rfl c) fun _ => ?_
    walk_at "xs"
    rw [trGo_none e1, List.append_nil] at go
    refine k2 (by omega) R H4 ((s1.free nR)) s4 ⟨rs, hR4, ?_⟩
    unfold trRows
    rw [← hl0, go]
    exact dpAll_same (hide_sub (by simp)) hD4
  rw [e1]
  have st := trStep e1 e2
  refine x_iteN (fun _ => ?_) fun c => absurd c (by show ¬ ((g : Int) = -1); omega)
  walk_at "xs"
  refine ⟨L, l, 1, rfl, SqL.of hL4, .inl rfl, fun H5 s5 => ?_⟩
  rw [fwAt_pos, e2]
  have hL5 := s5 _ _ hL4
  have hR5 := s5 _ _ hR4
  have s05 := s4.trans s5
  have g0 : fwI (some g) = (g : Int) := rfl
  have t0 : fwI (some t) = (t : Int) := rfl
  rw [g0, t0]
  have gl := st.gl
  have tl := st.tl
  walk_at "xs"
  rw [show ((g : Int)).toNat = g by omega, show ((t : Int)).toNat = t by omega, show (if l.getD t 0 < -l.getD g 0 then l.getD t 0 else -l.getD g 0) = trCoins l g t from rfl]
  refine ⟨tyL (SqL.of hR5), ?_⟩
  walk_at "xs"
  obtain ⟨tg, at1, ht1⟩ := net_item (i := g) (dpAll_same s05 hx) (by omega)
  refine x_ixL (s05.seq hS) at1 ?_
  walk_at "xs"
  refine x_ixT ht1 (by rfl) ?_
  walk_at "xs"
  obtain ⟨tt, at2, ht2⟩ := net_item (i := t) (dpAll_same s05 hx) (by omega)
  refine x_ixL (s05.seq hS) at2 ?_
  walk_at "xs"
  refine x_ixT ht2 (by rfl) ?_
  walk_at "xs"
  refine al_tup fun T H6 nT s6 hT => ?_
  have hL6 := s6 _ _ hL5
  have hR6 := s6 _ _ hR5
  have neT : T ≠ L := fun e => by subst e; rw [hL5] at nT; cases nT
  have neT2 : T ≠ R := fun e => by subst e; rw [hR5] at nT; cases nT
  walk_at "xs"
  refine x_append hR6 (small (by omega)) ?_
  have nR0 := s1.free nR
  have s06 := same_upd (o := .lst (rs ++ [.ref T])) (s05.trans s6) nR0
  have hL7 : upd H6 R (.lst (rs ++ [.ref T])) L = some (.lst (l.map V.int)) := by rw [upd_ne (fun e => neq e.symm)]; exact hL6
  have hR7 : upd H6 R (.lst (rs ++ [.ref T])) R = some (.lst (rs ++ [.ref T])) := upd_same
  have hd7 : DpAll K (hide [R, L] (upd H6 R (.lst (rs ++ [.ref T])))) (rs ++ [.ref T]) (((rows ++ [(g, t, trCoins l g t)]).map (trName ns)).map dTr) := by
    rw [hide_upd (by simp), List.map_append, List.map_append]
    refine dpAll_snoc (dpAll_same (hide_mono (s5.trans s6)) hD4) (tr_dp (p := trName ns (g, t, trCoins l g t)) (SqT.of ?_))
    rw [hide_out (by simp [neT, neT2])]
    exact hT
  generalize upd H6 R (.lst (rs ++ [.ref T])) = H7 at s06 hL7 hR7 hd7 ⊢
  walk_at "xs"
  rw [show ((g : Int)).toNat = g by omega]
  refine x_setL hL7 (by omega) (by rw [List.length_map]; omega) ?_
  have e8 : (l.map V.int).set ((g : Int)).toNat (.int (l.getD g 0 + trCoins l g t)) = (l.set g (l.getD g 0 + trCoins l g t)).map V.int := set_mapI _ _ _
  rw [e8]
  have nL0 := nL
  have s08 := same_upd (o := .lst ((l.set g (l.getD g 0 + trCoins l g t)).map V.int)) s06 nL0
  have hL8 : upd H7 L (.lst ((l.set g (l.getD g 0 + trCoins l g t)).map V.int)) L = some (.lst ((l.set g (l.getD g 0 + trCoins l g t)).map V.int)) := upd_same
  have hR8 : upd H7 L (.lst ((l.set g (l.getD g 0 + trCoins l g t)).map V.int)) R = some (.lst (rs ++ [.ref T])) := by rw [upd_ne neq]; exact hR7
  have hd8 := hd7
  rw [← hide_upd (A := [R, L]) (a := L) (o := .lst ((l.set g (l.getD g 0 + trCoins l g t)).map V.int)) (by simp)] at hd8
  generalize upd H7 L (.lst ((l.set g (l.getD g 0 + trCoins l g t)).map V.int)) = H8 at s08 hL8 hR8 hd8 ⊢
  have tl8 : t < (l.set g (l.getD g 0 + trCoins l g t)).length := by rw [List.length_set]; exact tl
  walk_at "xs"
  rw [show ((t : Int)).toNat = t by omega]
  refine x_setL hL8 (by omega) (by rw [List.length_map]; omega) ?_
  have e9 : ((l.set g (l.getD g 0 + trCoins l g t)).map V.int).set ((t : Int)).toNat (.int ((l.set g (l.getD g 0 + trCoins l g t)).getD t 0 - trCoins l g t)) = (trMoved l g t (trCoins l g t)).map V.int := set_mapI _ _ _
  rw [e9]
  have s09 := same_upd (o := .lst ((trMoved l g t (trCoins l g t)).map V.int)) s08 nL0
  have hL9 : upd H8 L (.lst ((trMoved l g t (trCoins l g t)).map V.int)) L = some (.lst ((trMoved l g t (trCoins l g t)).map V.int)) := upd_same
  have hR9 : upd H8 L (.lst ((trMoved l g t (trCoins l g t)).map V.int)) R = some (.lst (rs ++ [.ref T])) := by rw [upd_ne neq]; exact hR8
  have hd9 := hd8
  rw [← hide_upd (A := [R, L]) (a := L) (o := .lst ((trMoved l g t (trCoins l g t)).map V.int)) (by simp)] at hd9
  generalize upd H8 L (.lst ((trMoved l g t (trCoins l g t)).map V.int)) = H9 at s09 hL9 hR9 hd9 ⊢
  walk_at "xs"
  refine ⟨L, trMoved l g t (trCoins l g t), -1, rfl, SqL.of hL9, .inr rfl, fun H10 s10 => ?_⟩
  rw [fwAt_neg]
  walk_at "xs"
  have nzl := st.nz
  refine ⟨_, nzl, trMoved l g t (trCoins l g t), rows ++ [(g, t, trCoins l g t)], _, _, rfl, rfl, by rw [st.sum]; exact sz, by rw [st.len]; exact ln, s09.trans s10, s10 _ _ hL9, ⟨_, s10 _ _ hR9, dpAll_same (hide_mono s10) hd9⟩, ?_, by rw [List.length_append, List.length_singleton]; omega⟩
  rw [go, List.append_assoc]
  congr 1
  obtain ⟨n', hn'⟩ : ∃ n', ns.length = n' + 1 := ⟨ns.length - 1, by omega⟩
  have e10 : trGo ns.length l = (g, t, trCoins l g t) :: trGo n' (trMoved l g t (trCoins l g t)) := by rw [hn']; exact trGo_step e1 e2
  rw [e10, trGo_more (k := n') (k' := ns.length) (by rw [st.sum]; exact sz) (by omega) (by omega)]
  rfl

end Su
namespace Su
open PySem L2
local macro_rules | `(tactic| walk_at "side") => `(tactic| first | assumption | (show (0 : Int) < _; omega) | (show (0 : Int) ≤ _; omega) | (show (0 : Int) < _; split <;> omega) | (show _ ∨ _; omega) | (show _ ∧ _; omega) | exact ⟨by decide, by decide, by decide⟩ | exact ⟨by first | assumption | omega, by first | assumption | omega⟩)
local macro_rules | `(tactic| walk_at "x") => `(tactic| first
  | with_reducible refine Su.x_seq ?_ | with_reducible refine Su.x_asg ?_ | with_reducible refine Su.x_gname ?_ | with_reducible refine Su.x_drop ?_ | with_reducible refine Su.x_ret ?_ | with_reducible refine Su.x_ifS ?_
  | ((with_reducible show L2.tVar _ _ _ _); refine Su.x_var rfl ?_) | with_reducible refine Su.x_c ?_ | with_reducible refine Su.x_op ?_ | with_reducible refine Su.x_rI0 ?_ | ((with_reducible refine Su.x_rI ?_ ?_); focus walk_at "side")
  | ((with_reducible show L2.rIxL _ (L2.V.ref _) (L2.V.int _) _ _); refine Su.x_ixI (by assumption) (by first | decide | omega) (by omega) ?_) | with_reducible refine Su.x_isi_int_int ?_ | with_reducible refine Su.x_isi_int_bool ?_ | with_reducible refine Su.x_isi_int_str ?_ | with_reducible refine Su.x_isi_int_list ?_ | with_reducible refine Su.x_isi_int_tuple ?_ | with_reducible refine Su.x_isi_bool_int ?_ | with_reducible refine Su.x_isi_bool_bool ?_ | with_reducible refine Su.x_isi_bool_str ?_ | with_reducible refine Su.x_isi_bool_list ?_ | with_reducible refine Su.x_isi_bool_tuple ?_ | with_reducible refine Su.x_isi_str_int ?_ | with_reducible refine Su.x_isi_str_bool ?_ | with_reducible refine Su.x_isi_str_str ?_ | with_reducible refine Su.x_isi_str_list ?_ | with_reducible refine Su.x_isi_str_tuple ?_ | with_reducible refine Su.x_isi_NoneType_int ?_ | with_reducible refine Su.x_isi_NoneType_bool ?_ | with_reducible refine Su.x_isi_NoneType_str ?_ | with_reducible refine Su.x_isi_NoneType_list ?_ | with_reducible refine Su.x_isi_NoneType_tuple ?_ | with_reducible refine Su.x_rGt ?_ | with_reducible refine Su.x_rGe ?_ | with_reducible refine Su.x_iteF ?_ | with_reducible refine Su.x_iteT ?_ | with_reducible refine Su.x_iteNT ?_ | with_reducible refine Su.x_iteNF ?_ | with_reducible refine Su.x_eqI ?_ | with_reducible refine Su.x_neI ?_ | with_reducible refine Su.x_eqS ?_ | with_reducible refine Su.x_neS ?_ | with_reducible refine Su.x_eqB ?_ | with_reducible refine Su.x_neB ?_
  | with_reducible refine Su.x_test ?_ | with_reducible refine Su.x_tB ?_ | with_reducible refine Su.x_isB ?_ | with_reducible refine Su.x_isB' ?_ | with_reducible refine Su.x_not ?_ | with_reducible refine Su.x_and ?_ | with_reducible refine Su.x_or ?_
  | with_reducible refine Su.x_andV ?_ | with_reducible refine Su.x_orV ?_ | with_reducible refine Su.x_notV ?_ | with_reducible refine Su.x_chain ?_ | with_reducible refine Su.x_nil ?_ | with_reducible refine Su.x_cons ?_ | with_reducible refine Su.x_cb ?_ | with_reducible refine Su.x_call ?_
  | with_reducible refine Su.x_un ?_ | with_reducible refine Su.x_rU ?_ | with_reducible refine Su.x_abs ?_ | with_reducible refine Su.x_max2 ?_ | with_reducible refine Su.x_min2 ?_ | with_reducible refine Su.x_int1 ?_ | with_reducible refine Su.x_intB ?_
  | with_reducible refine Su.x_lst ?_ | with_reducible refine Su.x_tup ?_ | with_reducible refine Su.x_bmL ?_ | with_reducible refine Su.x_next ?_ | with_reducible refine Su.x_for ?_ | with_reducible refine Su.x_iList ?_ | with_reducible refine Su.x_iRng1 ?_ | with_reducible refine Su.x_iRng2 ?_ | with_reducible refine Su.x_whileN ?_ | with_reducible refine Su.x_iEnum ?_ | with_reducible refine Su.x_iZip ?_ | with_reducible refine Su.x_iZipA ?_ | with_reducible refine Su.x_iTup ?_ | with_reducible refine Su.x_gcons ?_ | with_reducible refine Su.x_gnil ?_ | with_reducible refine Su.x_gsub ?_ | with_reducible refine Su.x_yes ?_ | with_reducible refine Su.x_lc ?_ | with_reducible refine Su.x_sl ?_ | with_reducible refine Su.x_nopart ?_ | with_reducible refine Su.x_part ?_ | with_reducible refine Su.x_isI ?_ | with_reducible refine Su.x_lstRg ?_ | with_reducible refine Su.x_rg1 ?_ | with_reducible refine Su.x_augS ?_ | with_reducible refine Su.x_ipI ?_ | ((with_reducible show L2.tAug _ _ _ _ _ _); refine Su.x_aug rfl ?_) | with_reducible refine Su.x_callS ?_ | with_reducible refine Su.x_tryAs ?_)
local macro_rules | `(tactic| walk_at "xs") => `(tactic| repeat walk_at "x")
local macro_rules | `(tactic| walk_at "if") => `(tactic| first | with_reducible refine Su.x_iteD (fun c => ?_) (fun c => ?_) | with_reducible refine Su.x_iteN (fun c => ?_) (fun c => ?_) | with_reducible refine Su.x_ite (fun c => ?_) (fun c => ?_))
/-! facts of an earlier heap, found by search -/
section
variable {K : PySem.W.Frag} {H H' : Hp} {a : Addr} {o : HO} {xs : List V} {v : V} {d : PyData} {vs : List V} {ds : List PyData}
theorem f_at (s : Same H H') (h : H a = some o) : H' a = some o := s _ _ h
theorem f_sqL (h : H a = some (.lst xs)) : SqL K H a xs := SqL.of h
theorem f_sqT (h : H a = some (.tup xs)) : SqT K H a xs := SqT.of h
theorem f_sqLs (s : Same H H') (h : SqL K H a xs) : SqL K H' a xs := s.seq h
theorem f_sqTs (s : Same H H') (h : SqT K H a xs) : SqT K H' a xs := seqT_same s h
theorem f_dp (s : Same H H') (h : Dp K H v d) : Dp K H' v d := dp_same s h
theorem f_dpA (s : Same H H') (h : DpAll K H vs ds) : DpAll K H' vs ds := dpAll_same s h
theorem f_tr {H1 H2 H3 : Hp} (s : Same H2 H3) (t : Same H1 H2) : Same H1 H3 := t.trans s
theorem f_free (s : Same H H') (n : H' a = none) : H a = none := s.free n
end

end Su
namespace Su
open PySem L2
local macro_rules | `(tactic| walk_at "side") => `(tactic| first | assumption | (show (0 : Int) < _; omega) | (show (0 : Int) ≤ _; omega) | (show (0 : Int) < _; split <;> omega) | (show _ ∨ _; omega) | (show _ ∧ _; omega) | exact ⟨by decide, by decide, by decide⟩ | exact ⟨by first | assumption | omega, by first | assumption | omega⟩)
local macro_rules | `(tactic| walk_at "x") => `(tactic| first
  | with_reducible refine Su.x_seq ?_ | with_reducible refine Su.x_asg ?_ | with_reducible refine Su.x_gname ?_ | with_reducible refine Su.x_drop ?_ | with_reducible refine Su.x_ret ?_ | with_reducible refine Su.x_ifS ?_
  | ((with_reducible show L2.tVar _ _ _ _); refine Su.x_var rfl ?_) | with_reducible refine Su.x_c ?_ | with_reducible refine Su.x_op ?_ | with_reducible refine Su.x_rI0 ?_ | ((with_reducible refine Su.x_rI ?_ ?_); focus walk_at "side")
  | ((with_reducible show L2.rIxL _ (L2.V.ref _) (L2.V.int _) _ _); refine Su.x_ixI (by assumption) (by first | decide | omega) (by omega) ?_) | with_reducible refine Su.x_isi_int_int ?_ | with_reducible refine Su.x_isi_int_bool ?_ | with_reducible refine Su.x_isi_int_str ?_ | with_reducible refine Su.x_isi_int_list ?_ | with_reducible refine Su.x_isi_int_tuple ?_ | with_reducible refine Su.x_isi_bool_int ?_ | with_reducible refine Su.x_isi_bool_bool ?_ | with_reducible refine Su.x_isi_bool_str ?_ | with_reducible refine Su.x_isi_bool_list ?_ | with_reducible refine Su.x_isi_bool_tuple ?_ | with_reducible refine Su.x_isi_str_int ?_ | with_reducible refine Su.x_isi_str_bool ?_ | with_reducible refine Su.x_isi_str_str ?_ | with_reducible refine Su.x_isi_str_list ?_ | with_reducible refine Su.x_isi_str_tuple ?_ | with_reducible refine Su.x_isi_NoneType_int ?_ | with_reducible refine Su.x_isi_NoneType_bool ?_ | with_reducible refine Su.x_isi_NoneType_str ?_ | with_reducible refine Su.x_isi_NoneType_list ?_ | with_reducible refine Su.x_isi_NoneType_tuple ?_ | with_reducible refine Su.x_rGt ?_ | with_reducible refine Su.x_rGe ?_ | with_reducible refine Su.x_iteF ?_ | with_reducible refine Su.x_iteT ?_ | with_reducible refine Su.x_iteNT ?_ | with_reducible refine Su.x_iteNF ?_ | with_reducible refine Su.x_eqI ?_ | with_reducible refine Su.x_neI ?_ | with_reducible refine Su.x_eqS ?_ | with_reducible refine Su.x_neS ?_ | with_reducible refine Su.x_eqB ?_ | with_reducible refine Su.x_neB ?_
  | with_reducible refine Su.x_test ?_ | with_reducible refine Su.x_tB ?_ | with_reducible refine Su.x_isB ?_ | with_reducible refine Su.x_isB' ?_ | with_reducible refine Su.x_not ?_ | with_reducible refine Su.x_and ?_ | with_reducible refine Su.x_or ?_
  | with_reducible refine Su.x_andV ?_ | with_reducible refine Su.x_orV ?_ | with_reducible refine Su.x_notV ?_ | with_reducible refine Su.x_chain ?_ | with_reducible refine Su.x_nil ?_ | with_reducible refine Su.x_cons ?_ | with_reducible refine Su.x_cb ?_ | with_reducible refine Su.x_call ?_
  | with_reducible refine Su.x_un ?_ | with_reducible refine Su.x_rU ?_ | with_reducible refine Su.x_abs ?_ | with_reducible refine Su.x_max2 ?_ | with_reducible refine Su.x_min2 ?_ | with_reducible refine Su.x_int1 ?_ | with_reducible refine Su.x_intB ?_
  | with_reducible refine Su.x_lst ?_ | with_reducible refine Su.x_tup ?_ | with_reducible refine Su.x_bmL ?_ | with_reducible refine Su.x_next ?_ | with_reducible refine Su.x_for ?_ | with_reducible refine Su.x_iList ?_ | with_reducible refine Su.x_iRng1 ?_ | with_reducible refine Su.x_iRng2 ?_ | with_reducible refine Su.x_whileN ?_ | with_reducible refine Su.x_iEnum ?_ | with_reducible refine Su.x_iZip ?_ | with_reducible refine Su.x_iZipA ?_ | with_reducible refine Su.x_iTup ?_ | with_reducible refine Su.x_gcons ?_ | with_reducible refine Su.x_gnil ?_ | with_reducible refine Su.x_gsub ?_ | with_reducible refine Su.x_yes ?_ | with_reducible refine Su.x_lc ?_ | with_reducible refine Su.x_sl ?_ | with_reducible refine Su.x_nopart ?_ | with_reducible refine Su.x_part ?_ | with_reducible refine Su.x_isI ?_ | with_reducible refine Su.x_lstRg ?_ | with_reducible refine Su.x_rg1 ?_ | with_reducible refine Su.x_augS ?_ | with_reducible refine Su.x_ipI ?_ | ((with_reducible show L2.tAug _ _ _ _ _ _); refine Su.x_aug rfl ?_) | with_reducible refine Su.x_callS ?_ | with_reducible refine Su.x_tryAs ?_)
local macro_rules | `(tactic| walk_at "xs") => `(tactic| repeat walk_at "x")
local macro_rules | `(tactic| walk_at "if") => `(tactic| first | with_reducible refine Su.x_iteD (fun c => ?_) (fun c => ?_) | with_reducible refine Su.x_iteN (fun c => ?_) (fun c => ?_) | with_reducible refine Su.x_ite (fun c => ?_) (fun c => ?_))
/-! a list of windows that is changed by place -/
def WinAt (K : PySem.W.Frag) (H : Hp) (p : Addr) (ws : List (Int × Int)) : Prop := ∃ xs, H p = some (.lst xs) ∧ DpAll K (del H p) xs (ws.map dPair)
section
variable {K : PySem.W.Frag} {H H' : Hp} {p t : Addr} {ws : List (Int × Int)}
theorem WinAt.dp (h : WinAt K H p ws) : Dp K H (.ref p) (dWin ws) := by
  obtain ⟨xs, h1, h2⟩ := h
  exact .lst (SqL.of h1) (dpAll_same del_same h2)
theorem WinAt.same (h : WinAt K H p ws) (s : Same H H') : WinAt K H' p ws := by
  obtain ⟨xs, h1, h2⟩ := h
  exact ⟨xs, s _ _ h1, dpAll_same (del_mono s) h2⟩
theorem WinAt.lst (h : WinAt K H p ws) : ∃ xs, H p = some (.lst xs) ∧ xs.length = ws.length := by
  obtain ⟨xs, h1, h2⟩ := h
  exact ⟨xs, h1, by rw [dpAll_len h2, List.length_map]⟩
/-- a new pair at t is put at place k -/
theorem x_winset {i j k : Int} {Qh : Hp → Prop} (h : WinAt K H p ws) (s : Same H H') (nt : H t = none) (ht : H' t = some (.tup [.int i, .int j])) (h0 : 0 ≤ k) (h1 : k < ws.length)
    (q : ∀ H2, (∀ b o, H' b = some o → b ≠ p → H2 b = some o) → WinAt K H2 p (ws.set k.toNat (i, j)) → Qh H2) : rSetL (.ref p) (.int k) (.ref t) H' Qh := by
  obtain ⟨xs, e1, e2⟩ := h
  have hl := dpAll_len e2
  rw [List.length_map] at hl
  have htp : t ≠ p := fun e => by rw [e, e1] at nt; cases nt
  refine x_setL (s _ _ e1) h0 (by omega) (q _ (fun b o hb hn => by rw [upd_ne hn]; exact hb) ⟨_, upd_same, ?_⟩)
  rw [del_upd, List.map_set]
  exact dpAll_set _ (dpAll_same (del_mono s) e2) (pair_dp (SqT.of (del_at ht htp)))
/-- a window is put behind -/
theorem x_winpush {i j : Int} {Q : VK} (h : WinAt K H p ws) (s : Same H H') (nt : H t = none) (ht : H' t = some (.tup [.int i, .int j])) (hl : ws.length ≤ 1000)
    (q : ∀ H2, (∀ b o, H' b = some o → b ≠ p → H2 b = some o) → WinAt K H2 p (ws ++ [(i, j)]) → Q .non H2) : rAppend (.ref p) [.ref t] H' Q := by
  obtain ⟨xs, e1, e2⟩ := h
  have hl' := dpAll_len e2
  rw [List.length_map] at hl'
  have htp : t ≠ p := fun e => by rw [e, e1] at nt; cases nt
  refine x_append (s _ _ e1) (small (by omega)) (q _ (fun b o hb hn => by rw [upd_ne hn]; exact hb) ⟨_, upd_same, ?_⟩)
  rw [del_upd, List.map_append]
  exact dpAll_snoc (dpAll_same (del_mono s) e2) (pair_dp (SqT.of (del_at ht htp)))
theorem rep_flat {v : V} : ∀ n, (List.replicate n [v]).flatten = List.replicate n v
  | 0 => rfl
  | n + 1 => by rw [List.replicate_succ, List.flatten_cons, rep_flat n, List.replicate_succ]; rfl
theorem al_rep {l : Addr} {v : V} {n : Nat} {Q : VK} (h : H l = some (.lst [v])) (hn : n ≤ 100000) (q : ∀ p H', H p = none → Same H H' → H' p = some (.lst (List.replicate n v)) → (∀ b, b ≠ p → H' b = H b) → Q (.ref p) H') : rRep (.ref l) (.int n) H Q := by
  refine ⟨l, n, [v], rfl, rfl, h, by omega, by omega, Nat.le_of_lt (small (by simp; omega)), fun p np => ?_⟩
  refine q p _ np (same_new (Same.refl H) np) ?_ fun b hb => upd_ne hb
  rw [upd_same, Int.toNat_natCast, rep_flat]
theorem winAt_rep {n : Nat} {i j : Int} {H1 : Hp} (np : H p = none) (ht : H t = some (.tup [.int i, .int j])) (s : Same H H1) (hp : H1 p = some (.lst (List.replicate n (.ref t)))) : WinAt K H1 p (List.replicate n (i, j)) := by
  refine ⟨_, hp, ?_⟩
  rw [List.map_replicate]
  exact dpAll_rep (pair_dp (SqT.of (del_at (s _ _ ht) (ne_of_none ht np)))) n
/-- unchanged but for what is new or at p -/
theorem keep_same {H0 H2 : Hp} (s : Same H0 H') (n : H0 p = none) (k : ∀ b o, H' b = some o → b ≠ p → H2 b = some o) : Same H0 H2 := fun b o e => k b o (s b o e) (ne_of_none e n)
end
theorem winOk_set {n : Nat} {ws : List (Int × Int)} (h : WinOk n ws) {w : Int × Int} (hw : 1 ≤ w.1 ∧ w.1 ≤ n ∧ 1 ≤ w.2 ∧ w.2 ≤ n) (k : Nat) : WinOk n (ws.set k w) := fun x hx => by
  rcases List.mem_or_eq_of_mem_set hx with r | r
  · exact h x r
  · rw [r]; exact hw
theorem winOk_rep {n m : Nat} {w : Int × Int} (hw : 1 ≤ w.1 ∧ w.1 ≤ n ∧ 1 ≤ w.2 ∧ w.2 ≤ n) : WinOk n (List.replicate m w) := fun x hx => by
  rw [List.eq_of_mem_replicate hx]; exact hw
theorem perm_lt {row : List Nat} {n : Nat} (pm : row.Perm (List.range n)) : ∀ x ∈ row, x < n := fun x hx => List.mem_range.mp (pm.mem_iff.mp hx)

end Su
namespace Su
open PySem L2
local macro_rules | `(tactic| walk_at "side") => `(tactic| first | assumption | (show (0 : Int) < _; omega) | (show (0 : Int) ≤ _; omega) | (show (0 : Int) < _; split <;> omega) | (show _ ∨ _; omega) | (show _ ∧ _; omega) | exact ⟨by decide, by decide, by decide⟩ | exact ⟨by first | assumption | omega, by first | assumption | omega⟩)
local macro_rules | `(tactic| walk_at "x") => `(tactic| first
  | with_reducible refine Su.x_seq ?_ | with_reducible refine Su.x_asg ?_ | with_reducible refine Su.x_gname ?_ | with_reducible refine Su.x_drop ?_ | with_reducible refine Su.x_ret ?_ | with_reducible refine Su.x_ifS ?_
  | ((with_reducible show L2.tVar _ _ _ _); refine Su.x_var rfl ?_) | with_reducible refine Su.x_c ?_ | with_reducible refine Su.x_op ?_ | with_reducible refine Su.x_rI0 ?_ | ((with_reducible refine Su.x_rI ?_ ?_); focus walk_at "side")
  | ((with_reducible show L2.rIxL _ (L2.V.ref _) (L2.V.int _) _ _); refine Su.x_ixI (by assumption) (by first | decide | omega) (by omega) ?_) | with_reducible refine Su.x_isi_int_int ?_ | with_reducible refine Su.x_isi_int_bool ?_ | with_reducible refine Su.x_isi_int_str ?_ | with_reducible refine Su.x_isi_int_list ?_ | with_reducible refine Su.x_isi_int_tuple ?_ | with_reducible refine Su.x_isi_bool_int ?_ | with_reducible refine Su.x_isi_bool_bool ?_ | with_reducible refine Su.x_isi_bool_str ?_ | with_reducible refine Su.x_isi_bool_list ?_ | with_reducible refine Su.x_isi_bool_tuple ?_ | with_reducible refine Su.x_isi_str_int ?_ | with_reducible refine Su.x_isi_str_bool ?_ | with_reducible refine Su.x_isi_str_str ?_ | with_reducible refine Su.x_isi_str_list ?_ | with_reducible refine Su.x_isi_str_tuple ?_ | with_reducible refine Su.x_isi_NoneType_int ?_ | with_reducible refine Su.x_isi_NoneType_bool ?_ | with_reducible refine Su.x_isi_NoneType_str ?_ | with_reducible refine Su.x_isi_NoneType_list ?_ | with_reducible refine Su.x_isi_NoneType_tuple ?_ | with_reducible refine Su.x_rGt ?_ | with_reducible refine Su.x_rGe ?_ | with_reducible refine Su.x_iteF ?_ | with_reducible refine Su.x_iteT ?_ | with_reducible refine Su.x_iteNT ?_ | with_reducible refine Su.x_iteNF ?_ | with_reducible refine Su.x_eqI ?_ | with_reducible refine Su.x_neI ?_ | with_reducible refine Su.x_eqS ?_ | with_reducible refine Su.x_neS ?_ | with_reducible refine Su.x_eqB ?_ | with_reducible refine Su.x_neB ?_
  | with_reducible refine Su.x_test ?_ | with_reducible refine Su.x_tB ?_ | with_reducible refine Su.x_isB ?_ | with_reducible refine Su.x_isB' ?_ | with_reducible refine Su.x_not ?_ | with_reducible refine Su.x_and ?_ | with_reducible refine Su.x_or ?_
  | with_reducible refine Su.x_andV ?_ | with_reducible refine Su.x_orV ?_ | with_reducible refine Su.x_notV ?_ | with_reducible refine Su.x_chain ?_ | with_reducible refine Su.x_nil ?_ | with_reducible refine Su.x_cons ?_ | with_reducible refine Su.x_cb ?_ | with_reducible refine Su.x_call ?_
  | with_reducible refine Su.x_un ?_ | with_reducible refine Su.x_rU ?_ | with_reducible refine Su.x_abs ?_ | with_reducible refine Su.x_max2 ?_ | with_reducible refine Su.x_min2 ?_ | with_reducible refine Su.x_int1 ?_ | with_reducible refine Su.x_intB ?_
  | with_reducible refine Su.x_lst ?_ | with_reducible refine Su.x_tup ?_ | with_reducible refine Su.x_bmL ?_ | with_reducible refine Su.x_next ?_ | with_reducible refine Su.x_for ?_ | with_reducible refine Su.x_iList ?_ | with_reducible refine Su.x_iRng1 ?_ | with_reducible refine Su.x_iRng2 ?_ | with_reducible refine Su.x_whileN ?_ | with_reducible refine Su.x_iEnum ?_ | with_reducible refine Su.x_iZip ?_ | with_reducible refine Su.x_iZipA ?_ | with_reducible refine Su.x_iTup ?_ | with_reducible refine Su.x_gcons ?_ | with_reducible refine Su.x_gnil ?_ | with_reducible refine Su.x_gsub ?_ | with_reducible refine Su.x_yes ?_ | with_reducible refine Su.x_lc ?_ | with_reducible refine Su.x_sl ?_ | with_reducible refine Su.x_nopart ?_ | with_reducible refine Su.x_part ?_ | with_reducible refine Su.x_isI ?_ | with_reducible refine Su.x_lstRg ?_ | with_reducible refine Su.x_rg1 ?_ | with_reducible refine Su.x_augS ?_ | with_reducible refine Su.x_ipI ?_ | ((with_reducible show L2.tAug _ _ _ _ _ _); refine Su.x_aug rfl ?_) | with_reducible refine Su.x_callS ?_ | with_reducible refine Su.x_tryAs ?_)
local macro_rules | `(tactic| walk_at "xs") => `(tactic| repeat walk_at "x")
local macro_rules | `(tactic| walk_at "if") => `(tactic| first | with_reducible refine Su.x_iteD (fun c => ?_) (fun c => ?_) | with_reducible refine Su.x_iteN (fun c => ?_) (fun c => ?_) | with_reducible refine Su.x_ite (fun c => ?_) (fun c => ?_))
/-! _law_perm: a drawn order -/
theorem ins_perm {l : List Nat} {x k : Nat} : (l.take k ++ [x] ++ l.drop k).Perm (l ++ [x]) := by
  have h : (l.take k ++ [x] ++ l.drop k).Perm (l.take k ++ (l.drop k ++ [x])) := by
    rw [List.append_assoc]
    exact List.Perm.append_left _ (List.perm_append_comm)
  rw [← List.append_assoc, List.take_append_drop] at h
  exact h
theorem nI_ins {l : List Nat} {x k : Nat} : (nI l).take k ++ [V.int (x : Int)] ++ (nI l).drop k = nI (l.take k ++ [x] ++ l.drop k) := by
  unfold nI
  rw [List.map_append, List.map_append, List.map_take, List.map_drop]
  rfl
def sp_law_perm (K : PySem.W.Frag) : Sp := fun vs H Q _ => ∃ (a : Addr) (rows : List Int) (n : Nat), vs = [.ref a, .int n] ∧ SqL K H a (rows.map V.int) ∧ n ≤ 1000 ∧ n ≤ rows.length ∧
  ∀ (p : Addr) (row : List Nat) (H' : Hp), H p = none → Same H H' → H' p = some (.lst (nI row)) → row.Perm (List.range n) → Q (.ref p) H'

end Su
namespace Su
open PySem L2
local macro_rules | `(tactic| walk_at "side") => `(tactic| first | assumption | (show (0 : Int) < _; omega) | (show (0 : Int) ≤ _; omega) | (show (0 : Int) < _; split <;> omega) | (show _ ∨ _; omega) | (show _ ∧ _; omega) | exact ⟨by decide, by decide, by decide⟩ | exact ⟨by first | assumption | omega, by first | assumption | omega⟩)
local macro_rules | `(tactic| walk_at "x") => `(tactic| first
  | with_reducible refine Su.x_seq ?_ | with_reducible refine Su.x_asg ?_ | with_reducible refine Su.x_gname ?_ | with_reducible refine Su.x_drop ?_ | with_reducible refine Su.x_ret ?_ | with_reducible refine Su.x_ifS ?_
  | ((with_reducible show L2.tVar _ _ _ _); refine Su.x_var rfl ?_) | with_reducible refine Su.x_c ?_ | with_reducible refine Su.x_op ?_ | with_reducible refine Su.x_rI0 ?_ | ((with_reducible refine Su.x_rI ?_ ?_); focus walk_at "side")
  | ((with_reducible show L2.rIxL _ (L2.V.ref _) (L2.V.int _) _ _); refine Su.x_ixI (by assumption) (by first | decide | omega) (by omega) ?_) | with_reducible refine Su.x_isi_int_int ?_ | with_reducible refine Su.x_isi_int_bool ?_ | with_reducible refine Su.x_isi_int_str ?_ | with_reducible refine Su.x_isi_int_list ?_ | with_reducible refine Su.x_isi_int_tuple ?_ | with_reducible refine Su.x_isi_bool_int ?_ | with_reducible refine Su.x_isi_bool_bool ?_ | with_reducible refine Su.x_isi_bool_str ?_ | with_reducible refine Su.x_isi_bool_list ?_ | with_reducible refine Su.x_isi_bool_tuple ?_ | with_reducible refine Su.x_isi_str_int ?_ | with_reducible refine Su.x_isi_str_bool ?_ | with_reducible refine Su.x_isi_str_str ?_ | with_reducible refine Su.x_isi_str_list ?_ | with_reducible refine Su.x_isi_str_tuple ?_ | with_reducible refine Su.x_isi_NoneType_int ?_ | with_reducible refine Su.x_isi_NoneType_bool ?_ | with_reducible refine Su.x_isi_NoneType_str ?_ | with_reducible refine Su.x_isi_NoneType_list ?_ | with_reducible refine Su.x_isi_NoneType_tuple ?_ | with_reducible refine Su.x_rGt ?_ | with_reducible refine Su.x_rGe ?_ | with_reducible refine Su.x_iteF ?_ | with_reducible refine Su.x_iteT ?_ | with_reducible refine Su.x_iteNT ?_ | with_reducible refine Su.x_iteNF ?_ | with_reducible refine Su.x_eqI ?_ | with_reducible refine Su.x_neI ?_ | with_reducible refine Su.x_eqS ?_ | with_reducible refine Su.x_neS ?_ | with_reducible refine Su.x_eqB ?_ | with_reducible refine Su.x_neB ?_
  | with_reducible refine Su.x_test ?_ | with_reducible refine Su.x_tB ?_ | with_reducible refine Su.x_isB ?_ | with_reducible refine Su.x_isB' ?_ | with_reducible refine Su.x_not ?_ | with_reducible refine Su.x_and ?_ | with_reducible refine Su.x_or ?_
  | with_reducible refine Su.x_andV ?_ | with_reducible refine Su.x_orV ?_ | with_reducible refine Su.x_notV ?_ | with_reducible refine Su.x_chain ?_ | with_reducible refine Su.x_nil ?_ | with_reducible refine Su.x_cons ?_ | with_reducible refine Su.x_cb ?_ | with_reducible refine Su.x_call ?_
  | with_reducible refine Su.x_un ?_ | with_reducible refine Su.x_rU ?_ | with_reducible refine Su.x_abs ?_ | with_reducible refine Su.x_max2 ?_ | with_reducible refine Su.x_min2 ?_ | with_reducible refine Su.x_int1 ?_ | with_reducible refine Su.x_intB ?_
  | with_reducible refine Su.x_lst ?_ | with_reducible refine Su.x_tup ?_ | with_reducible refine Su.x_bmL ?_ | with_reducible refine Su.x_next ?_ | with_reducible refine Su.x_for ?_ | with_reducible refine Su.x_iList ?_ | with_reducible refine Su.x_iRng1 ?_ | with_reducible refine Su.x_iRng2 ?_ | with_reducible refine Su.x_whileN ?_ | with_reducible refine Su.x_iEnum ?_ | with_reducible refine Su.x_iZip ?_ | with_reducible refine Su.x_iZipA ?_ | with_reducible refine Su.x_iTup ?_ | with_reducible refine Su.x_gcons ?_ | with_reducible refine Su.x_gnil ?_ | with_reducible refine Su.x_gsub ?_ | with_reducible refine Su.x_yes ?_ | with_reducible refine Su.x_lc ?_ | with_reducible refine Su.x_sl ?_ | with_reducible refine Su.x_nopart ?_ | with_reducible refine Su.x_part ?_ | with_reducible refine Su.x_isI ?_ | with_reducible refine Su.x_lstRg ?_ | with_reducible refine Su.x_rg1 ?_ | with_reducible refine Su.x_augS ?_ | with_reducible refine Su.x_ipI ?_ | ((with_reducible show L2.tAug _ _ _ _ _ _); refine Su.x_aug rfl ?_) | with_reducible refine Su.x_callS ?_ | with_reducible refine Su.x_tryAs ?_)
local macro_rules | `(tactic| walk_at "xs") => `(tactic| repeat walk_at "x")
local macro_rules | `(tactic| walk_at "if") => `(tactic| first | with_reducible refine Su.x_iteD (fun c => ?_) (fun c => ?_) | with_reducible refine Su.x_iteN (fun c => ?_) (fun c => ?_) | with_reducible refine Su.x_ite (fun c => ?_) (fun c => ?_))
/-! _law_keeps: is a row of numbers an order of the windows -/
def KeepsP (ws : List (Int × Int)) (row : List Int) : Prop := ∃ r : List Nat, row = r.map (fun (i : Nat) => (i : Int)) ∧ IsOrder ws r
theorem perm_nat {row : List Int} {n : Nat} (h : row.Perm ((List.range n).map fun (i : Nat) => (i : Int))) : ∃ r : List Nat, row = r.map (fun (i : Nat) => (i : Int)) ∧ r.Perm (List.range n) := by
  refine ⟨row.map Int.toNat, ?_, ?_⟩
  · rw [List.map_map]
    have : ∀ x ∈ row, ((fun (i : Nat) => (i : Int)) ∘ Int.toNat) x = x := fun x hx => by
      obtain ⟨i, _, rfl⟩ := List.mem_map.mp (h.mem_iff.mp hx)
      show ((i : Int).toNat : Int) = i
      omega
    rw [List.map_congr_left this, List.map_id']
  · have := h.map Int.toNat
    rw [List.map_map] at this
    have e : (List.range n).map (Int.toNat ∘ fun (i : Nat) => (i : Int)) = List.range n := by
      rw [List.map_congr_left (g := id) (fun i _ => by show (i : Int).toNat = i; omega), List.map_id]
    rw [e] at this
    exact this
theorem sorted_range (n : Nat) : ((List.range n).map fun (i : Nat) => (i : Int)).Pairwise (· ≤ ·) := by
  rw [List.pairwise_map]
  exact List.Pairwise.imp (fun h => by omega) List.pairwise_lt_range
theorem sorted_iff {row ns : List Int} {n : Nat} (pm : ns.Perm row) (pw : ns.Pairwise (· ≤ ·)) : ns = (List.range n).map (fun (i : Nat) => (i : Int)) ↔ row.Perm ((List.range n).map fun (i : Nat) => (i : Int)) := by
  constructor
  · intro e; rw [← e]; exact pm.symm
  · intro h
    exact List.Perm.eq_of_pairwise (fun _ _ _ _ a b => Int.le_antisymm a b) pw (sorted_range n) (pm.trans h)
theorem ints_nI (r : List Nat) : (r.map fun (i : Nat) => (i : Int)).map V.int = nI r := by rw [List.map_map]; rfl
theorem order_of_perm {ws : List (Int × Int)} {r : List Nat} (pm : r.Perm (List.range ws.length)) (fit : ∀ k (h : k < r.length), w1 ws r[k] ≤ (k : Int) + 1 ∧ (k : Int) + 1 ≤ w2 ws r[k]) : IsOrder ws r :=
  ⟨by rw [pm.length_eq, List.length_range], pm.nodup_iff.mpr List.nodup_range, fun x hx => List.mem_range.mp (pm.mem_iff.mp hx), fit⟩
theorem perm_of_order {ws : List (Int × Int)} {r : List Nat} (o : IsOrder ws r) : r.Perm (List.range ws.length) := by
  rw [List.perm_ext_iff_of_nodup o.nd List.nodup_range]
  intro a
  rw [List.mem_range]
  exact ⟨o.lt a, fun h => nodup_all o.nd o.len o.lt h⟩
def sp_law_keeps (K : PySem.W.Frag) : Sp := fun vs H Q _ => ∃ (v : V) (ws : List (Int × Int)) (p : Addr) (row : List Int), vs = [v, .ref p] ∧ Dp K H v (dWin ws) ∧ SqL K H p (row.map V.int) ∧ ws.length ≤ 1000 ∧
  ∀ b H', Same H H' → (b = true ↔ KeepsP ws row) → Q (.bl b) H'

end Su
namespace Su
open PySem L2
local macro_rules | `(tactic| walk_at "side") => `(tactic| first | assumption | (show (0 : Int) < _; omega) | (show (0 : Int) ≤ _; omega) | (show (0 : Int) < _; split <;> omega) | (show _ ∨ _; omega) | (show _ ∧ _; omega) | exact ⟨by decide, by decide, by decide⟩ | exact ⟨by first | assumption | omega, by first | assumption | omega⟩)
local macro_rules | `(tactic| walk_at "x") => `(tactic| first
  | with_reducible refine Su.x_seq ?_ | with_reducible refine Su.x_asg ?_ | with_reducible refine Su.x_gname ?_ | with_reducible refine Su.x_drop ?_ | with_reducible refine Su.x_ret ?_ | with_reducible refine Su.x_ifS ?_
  | ((with_reducible show L2.tVar _ _ _ _); refine Su.x_var rfl ?_) | with_reducible refine Su.x_c ?_ | with_reducible refine Su.x_op ?_ | with_reducible refine Su.x_rI0 ?_ | ((with_reducible refine Su.x_rI ?_ ?_); focus walk_at "side")
  | ((with_reducible show L2.rIxL _ (L2.V.ref _) (L2.V.int _) _ _); refine Su.x_ixI (by assumption) (by first | decide | omega) (by omega) ?_) | with_reducible refine Su.x_isi_int_int ?_ | with_reducible refine Su.x_isi_int_bool ?_ | with_reducible refine Su.x_isi_int_str ?_ | with_reducible refine Su.x_isi_int_list ?_ | with_reducible refine Su.x_isi_int_tuple ?_ | with_reducible refine Su.x_isi_bool_int ?_ | with_reducible refine Su.x_isi_bool_bool ?_ | with_reducible refine Su.x_isi_bool_str ?_ | with_reducible refine Su.x_isi_bool_list ?_ | with_reducible refine Su.x_isi_bool_tuple ?_ | with_reducible refine Su.x_isi_str_int ?_ | with_reducible refine Su.x_isi_str_bool ?_ | with_reducible refine Su.x_isi_str_str ?_ | with_reducible refine Su.x_isi_str_list ?_ | with_reducible refine Su.x_isi_str_tuple ?_ | with_reducible refine Su.x_isi_NoneType_int ?_ | with_reducible refine Su.x_isi_NoneType_bool ?_ | with_reducible refine Su.x_isi_NoneType_str ?_ | with_reducible refine Su.x_isi_NoneType_list ?_ | with_reducible refine Su.x_isi_NoneType_tuple ?_ | with_reducible refine Su.x_rGt ?_ | with_reducible refine Su.x_rGe ?_ | with_reducible refine Su.x_iteF ?_ | with_reducible refine Su.x_iteT ?_ | with_reducible refine Su.x_iteNT ?_ | with_reducible refine Su.x_iteNF ?_ | with_reducible refine Su.x_eqI ?_ | with_reducible refine Su.x_neI ?_ | with_reducible refine Su.x_eqS ?_ | with_reducible refine Su.x_neS ?_ | with_reducible refine Su.x_eqB ?_ | with_reducible refine Su.x_neB ?_
  | with_reducible refine Su.x_test ?_ | with_reducible refine Su.x_tB ?_ | with_reducible refine Su.x_isB ?_ | with_reducible refine Su.x_isB' ?_ | with_reducible refine Su.x_not ?_ | with_reducible refine Su.x_and ?_ | with_reducible refine Su.x_or ?_
  | with_reducible refine Su.x_andV ?_ | with_reducible refine Su.x_orV ?_ | with_reducible refine Su.x_notV ?_ | with_reducible refine Su.x_chain ?_ | with_reducible refine Su.x_nil ?_ | with_reducible refine Su.x_cons ?_ | with_reducible refine Su.x_cb ?_ | with_reducible refine Su.x_call ?_
  | with_reducible refine Su.x_un ?_ | with_reducible refine Su.x_rU ?_ | with_reducible refine Su.x_abs ?_ | with_reducible refine Su.x_max2 ?_ | with_reducible refine Su.x_min2 ?_ | with_reducible refine Su.x_int1 ?_ | with_reducible refine Su.x_intB ?_
  | with_reducible refine Su.x_lst ?_ | with_reducible refine Su.x_tup ?_ | with_reducible refine Su.x_bmL ?_ | with_reducible refine Su.x_next ?_ | with_reducible refine Su.x_for ?_ | with_reducible refine Su.x_iList ?_ | with_reducible refine Su.x_iRng1 ?_ | with_reducible refine Su.x_iRng2 ?_ | with_reducible refine Su.x_whileN ?_ | with_reducible refine Su.x_iEnum ?_ | with_reducible refine Su.x_iZip ?_ | with_reducible refine Su.x_iZipA ?_ | with_reducible refine Su.x_iTup ?_ | with_reducible refine Su.x_gcons ?_ | with_reducible refine Su.x_gnil ?_ | with_reducible refine Su.x_gsub ?_ | with_reducible refine Su.x_yes ?_ | with_reducible refine Su.x_lc ?_ | with_reducible refine Su.x_sl ?_ | with_reducible refine Su.x_nopart ?_ | with_reducible refine Su.x_part ?_ | with_reducible refine Su.x_isI ?_ | with_reducible refine Su.x_lstRg ?_ | with_reducible refine Su.x_rg1 ?_ | with_reducible refine Su.x_augS ?_ | with_reducible refine Su.x_ipI ?_ | ((with_reducible show L2.tAug _ _ _ _ _ _); refine Su.x_aug rfl ?_) | with_reducible refine Su.x_callS ?_ | with_reducible refine Su.x_tryAs ?_)
local macro_rules | `(tactic| walk_at "xs") => `(tactic| repeat walk_at "x")
local macro_rules | `(tactic| walk_at "if") => `(tactic| first | with_reducible refine Su.x_iteD (fun c => ?_) (fun c => ?_) | with_reducible refine Su.x_iteN (fun c => ?_) (fun c => ?_) | with_reducible refine Su.x_ite (fun c => ?_) (fun c => ?_))
/-! papers as data -/
def dOrder (row : List Nat) : PyData := .tuple [.str "order", dNats row]
theorem ok_order {row : List Nat} (h : row.length ≤ 1000) : okD (dOrder row) = true := by
  have h1 : okD (.str "order") = true := by decide +kernel
  unfold dOrder
  simp only [okD, okL, ok_nats h, Bool.and_true]
  simp only [okD] at h1
  rw [h1]; rfl
theorem dep_order {row : List Nat} : (dOrder row).depth ≤ 6 := by
  have : (dNats row).depth = 1 := by
    show PyData.depthAll _ + 1 = 1
    rw [depth_nats]
  show max (PyData.depth (.str "order")) (max (dNats row).depth 0) + 1 ≤ 6
  rw [this]; decide
theorem dp_order {K : PySem.W.Frag} {H : Hp} {t p : Addr} {row : List Nat} (ht : H t = some (.tup [.str "order", .ref p])) (hp : H p = some (.lst (nI row))) : Dp K H (.ref t) (dOrder row) :=
  .tup (SqT.of ht) (.cons (.str _) (.cons (dp_nats hp) .nil))
theorem okS_bar : okD (.str "bar") = true := by decide +kernel

end Su
namespace Su
open PySem L2
local macro_rules | `(tactic| walk_at "side") => `(tactic| first | assumption | (show (0 : Int) < _; omega) | (show (0 : Int) ≤ _; omega) | (show (0 : Int) < _; split <;> omega) | (show _ ∨ _; omega) | (show _ ∧ _; omega) | exact ⟨by decide, by decide, by decide⟩ | exact ⟨by first | assumption | omega, by first | assumption | omega⟩)
local macro_rules | `(tactic| walk_at "x") => `(tactic| first
  | with_reducible refine Su.x_seq ?_ | with_reducible refine Su.x_asg ?_ | with_reducible refine Su.x_gname ?_ | with_reducible refine Su.x_drop ?_ | with_reducible refine Su.x_ret ?_ | with_reducible refine Su.x_ifS ?_
  | ((with_reducible show L2.tVar _ _ _ _); refine Su.x_var rfl ?_) | with_reducible refine Su.x_c ?_ | with_reducible refine Su.x_op ?_ | with_reducible refine Su.x_rI0 ?_ | ((with_reducible refine Su.x_rI ?_ ?_); focus walk_at "side")
  | ((with_reducible show L2.rIxL _ (L2.V.ref _) (L2.V.int _) _ _); refine Su.x_ixI (by assumption) (by first | decide | omega) (by omega) ?_) | with_reducible refine Su.x_isi_int_int ?_ | with_reducible refine Su.x_isi_int_bool ?_ | with_reducible refine Su.x_isi_int_str ?_ | with_reducible refine Su.x_isi_int_list ?_ | with_reducible refine Su.x_isi_int_tuple ?_ | with_reducible refine Su.x_isi_bool_int ?_ | with_reducible refine Su.x_isi_bool_bool ?_ | with_reducible refine Su.x_isi_bool_str ?_ | with_reducible refine Su.x_isi_bool_list ?_ | with_reducible refine Su.x_isi_bool_tuple ?_ | with_reducible refine Su.x_isi_str_int ?_ | with_reducible refine Su.x_isi_str_bool ?_ | with_reducible refine Su.x_isi_str_str ?_ | with_reducible refine Su.x_isi_str_list ?_ | with_reducible refine Su.x_isi_str_tuple ?_ | with_reducible refine Su.x_isi_NoneType_int ?_ | with_reducible refine Su.x_isi_NoneType_bool ?_ | with_reducible refine Su.x_isi_NoneType_str ?_ | with_reducible refine Su.x_isi_NoneType_list ?_ | with_reducible refine Su.x_isi_NoneType_tuple ?_ | with_reducible refine Su.x_rGt ?_ | with_reducible refine Su.x_rGe ?_ | with_reducible refine Su.x_iteF ?_ | with_reducible refine Su.x_iteT ?_ | with_reducible refine Su.x_iteNT ?_ | with_reducible refine Su.x_iteNF ?_ | with_reducible refine Su.x_eqI ?_ | with_reducible refine Su.x_neI ?_ | with_reducible refine Su.x_eqS ?_ | with_reducible refine Su.x_neS ?_ | with_reducible refine Su.x_eqB ?_ | with_reducible refine Su.x_neB ?_
  | with_reducible refine Su.x_test ?_ | with_reducible refine Su.x_tB ?_ | with_reducible refine Su.x_isB ?_ | with_reducible refine Su.x_isB' ?_ | with_reducible refine Su.x_not ?_ | with_reducible refine Su.x_and ?_ | with_reducible refine Su.x_or ?_
  | with_reducible refine Su.x_andV ?_ | with_reducible refine Su.x_orV ?_ | with_reducible refine Su.x_notV ?_ | with_reducible refine Su.x_chain ?_ | with_reducible refine Su.x_nil ?_ | with_reducible refine Su.x_cons ?_ | with_reducible refine Su.x_cb ?_ | with_reducible refine Su.x_call ?_
  | with_reducible refine Su.x_un ?_ | with_reducible refine Su.x_rU ?_ | with_reducible refine Su.x_abs ?_ | with_reducible refine Su.x_max2 ?_ | with_reducible refine Su.x_min2 ?_ | with_reducible refine Su.x_int1 ?_ | with_reducible refine Su.x_intB ?_
  | with_reducible refine Su.x_lst ?_ | with_reducible refine Su.x_tup ?_ | with_reducible refine Su.x_bmL ?_ | with_reducible refine Su.x_next ?_ | with_reducible refine Su.x_for ?_ | with_reducible refine Su.x_iList ?_ | with_reducible refine Su.x_iRng1 ?_ | with_reducible refine Su.x_iRng2 ?_ | with_reducible refine Su.x_whileN ?_ | with_reducible refine Su.x_iEnum ?_ | with_reducible refine Su.x_iZip ?_ | with_reducible refine Su.x_iZipA ?_ | with_reducible refine Su.x_iTup ?_ | with_reducible refine Su.x_gcons ?_ | with_reducible refine Su.x_gnil ?_ | with_reducible refine Su.x_gsub ?_ | with_reducible refine Su.x_yes ?_ | with_reducible refine Su.x_lc ?_ | with_reducible refine Su.x_sl ?_ | with_reducible refine Su.x_nopart ?_ | with_reducible refine Su.x_part ?_ | with_reducible refine Su.x_isI ?_ | with_reducible refine Su.x_lstRg ?_ | with_reducible refine Su.x_rg1 ?_ | with_reducible refine Su.x_augS ?_ | with_reducible refine Su.x_ipI ?_ | ((with_reducible show L2.tAug _ _ _ _ _ _); refine Su.x_aug rfl ?_) | with_reducible refine Su.x_callS ?_ | with_reducible refine Su.x_tryAs ?_)
local macro_rules | `(tactic| walk_at "xs") => `(tactic| repeat walk_at "x")
local macro_rules | `(tactic| walk_at "if") => `(tactic| first | with_reducible refine Su.x_iteD (fun c => ?_) (fun c => ?_) | with_reducible refine Su.x_iteN (fun c => ?_) (fun c => ?_) | with_reducible refine Su.x_ite (fun c => ?_) (fun c => ?_))
/-! next_window -/
def sp_next_window (K : PySem.W.Frag) : Sp := fun vs H Q _ => ∃ (v : V) (ws : List (Int × Int)) (p : Addr) (row : List Nat) (t : Int), vs = [v, .ref p, .int t] ∧ Dp K H v (dWin ws) ∧ SqL K H p (nI row) ∧
  ∀ H', Same H H' → Q (.int (optI (nextN ws row t ws.length))) H'

end Su
namespace Su
open PySem L2
local macro_rules | `(tactic| walk_at "side") => `(tactic| first | assumption | (show (0 : Int) < _; omega) | (show (0 : Int) ≤ _; omega) | (show (0 : Int) < _; split <;> omega) | (show _ ∨ _; omega) | (show _ ∧ _; omega) | exact ⟨by decide, by decide, by decide⟩ | exact ⟨by first | assumption | omega, by first | assumption | omega⟩)
local macro_rules | `(tactic| walk_at "x") => `(tactic| first
  | with_reducible refine Su.x_seq ?_ | with_reducible refine Su.x_asg ?_ | with_reducible refine Su.x_gname ?_ | with_reducible refine Su.x_drop ?_ | with_reducible refine Su.x_ret ?_ | with_reducible refine Su.x_ifS ?_
  | ((with_reducible show L2.tVar _ _ _ _); refine Su.x_var rfl ?_) | with_reducible refine Su.x_c ?_ | with_reducible refine Su.x_op ?_ | with_reducible refine Su.x_rI0 ?_ | ((with_reducible refine Su.x_rI ?_ ?_); focus walk_at "side")
  | ((with_reducible show L2.rIxL _ (L2.V.ref _) (L2.V.int _) _ _); refine Su.x_ixI (by assumption) (by first | decide | omega) (by omega) ?_) | with_reducible refine Su.x_isi_int_int ?_ | with_reducible refine Su.x_isi_int_bool ?_ | with_reducible refine Su.x_isi_int_str ?_ | with_reducible refine Su.x_isi_int_list ?_ | with_reducible refine Su.x_isi_int_tuple ?_ | with_reducible refine Su.x_isi_bool_int ?_ | with_reducible refine Su.x_isi_bool_bool ?_ | with_reducible refine Su.x_isi_bool_str ?_ | with_reducible refine Su.x_isi_bool_list ?_ | with_reducible refine Su.x_isi_bool_tuple ?_ | with_reducible refine Su.x_isi_str_int ?_ | with_reducible refine Su.x_isi_str_bool ?_ | with_reducible refine Su.x_isi_str_str ?_ | with_reducible refine Su.x_isi_str_list ?_ | with_reducible refine Su.x_isi_str_tuple ?_ | with_reducible refine Su.x_isi_NoneType_int ?_ | with_reducible refine Su.x_isi_NoneType_bool ?_ | with_reducible refine Su.x_isi_NoneType_str ?_ | with_reducible refine Su.x_isi_NoneType_list ?_ | with_reducible refine Su.x_isi_NoneType_tuple ?_ | with_reducible refine Su.x_rGt ?_ | with_reducible refine Su.x_rGe ?_ | with_reducible refine Su.x_iteF ?_ | with_reducible refine Su.x_iteT ?_ | with_reducible refine Su.x_iteNT ?_ | with_reducible refine Su.x_iteNF ?_ | with_reducible refine Su.x_eqI ?_ | with_reducible refine Su.x_neI ?_ | with_reducible refine Su.x_eqS ?_ | with_reducible refine Su.x_neS ?_ | with_reducible refine Su.x_eqB ?_ | with_reducible refine Su.x_neB ?_
  | with_reducible refine Su.x_test ?_ | with_reducible refine Su.x_tB ?_ | with_reducible refine Su.x_isB ?_ | with_reducible refine Su.x_isB' ?_ | with_reducible refine Su.x_not ?_ | with_reducible refine Su.x_and ?_ | with_reducible refine Su.x_or ?_
  | with_reducible refine Su.x_andV ?_ | with_reducible refine Su.x_orV ?_ | with_reducible refine Su.x_notV ?_ | with_reducible refine Su.x_chain ?_ | with_reducible refine Su.x_nil ?_ | with_reducible refine Su.x_cons ?_ | with_reducible refine Su.x_cb ?_ | with_reducible refine Su.x_call ?_
  | with_reducible refine Su.x_un ?_ | with_reducible refine Su.x_rU ?_ | with_reducible refine Su.x_abs ?_ | with_reducible refine Su.x_max2 ?_ | with_reducible refine Su.x_min2 ?_ | with_reducible refine Su.x_int1 ?_ | with_reducible refine Su.x_intB ?_
  | with_reducible refine Su.x_lst ?_ | with_reducible refine Su.x_tup ?_ | with_reducible refine Su.x_bmL ?_ | with_reducible refine Su.x_next ?_ | with_reducible refine Su.x_for ?_ | with_reducible refine Su.x_iList ?_ | with_reducible refine Su.x_iRng1 ?_ | with_reducible refine Su.x_iRng2 ?_ | with_reducible refine Su.x_whileN ?_ | with_reducible refine Su.x_iEnum ?_ | with_reducible refine Su.x_iZip ?_ | with_reducible refine Su.x_iZipA ?_ | with_reducible refine Su.x_iTup ?_ | with_reducible refine Su.x_gcons ?_ | with_reducible refine Su.x_gnil ?_ | with_reducible refine Su.x_gsub ?_ | with_reducible refine Su.x_yes ?_ | with_reducible refine Su.x_lc ?_ | with_reducible refine Su.x_sl ?_ | with_reducible refine Su.x_nopart ?_ | with_reducible refine Su.x_part ?_ | with_reducible refine Su.x_isI ?_ | with_reducible refine Su.x_lstRg ?_ | with_reducible refine Su.x_rg1 ?_ | with_reducible refine Su.x_augS ?_ | with_reducible refine Su.x_ipI ?_ | ((with_reducible show L2.tAug _ _ _ _ _ _); refine Su.x_aug rfl ?_) | with_reducible refine Su.x_callS ?_ | with_reducible refine Su.x_tryAs ?_)
local macro_rules | `(tactic| walk_at "xs") => `(tactic| repeat walk_at "x")
local macro_rules | `(tactic| walk_at "if") => `(tactic| first | with_reducible refine Su.x_iteD (fun c => ?_) (fun c => ?_) | with_reducible refine Su.x_iteN (fun c => ?_) (fun c => ?_) | with_reducible refine Su.x_ite (fun c => ?_) (fun c => ?_))
/-! bar_of -/
def sp_bar_of (K : PySem.W.Frag) : Sp := fun vs H Q _ => ∃ (v : V) (ws : List (Int × Int)) (p : Addr) (row : List Nat) (late : Int), vs = [v, .ref p, .int late] ∧ Dp K H v (dWin ws) ∧ SqL K H p (nI row) ∧ ws.length ≤ 1000 ∧ 0 ≤ late ∧ late ≤ row.length ∧ (∀ x ∈ row, x < ws.length) ∧
  ∀ v' H', Same H H' → PaperAt H H' v' (barOf ws row late) → Q v' H'

end Su
namespace Su
open PySem L2
local macro_rules | `(tactic| walk_at "side") => `(tactic| first | assumption | (show (0 : Int) < _; omega) | (show (0 : Int) ≤ _; omega) | (show (0 : Int) < _; split <;> omega) | (show _ ∨ _; omega) | (show _ ∧ _; omega) | exact ⟨by decide, by decide, by decide⟩ | exact ⟨by first | assumption | omega, by first | assumption | omega⟩)
local macro_rules | `(tactic| walk_at "x") => `(tactic| first
  | with_reducible refine Su.x_seq ?_ | with_reducible refine Su.x_asg ?_ | with_reducible refine Su.x_gname ?_ | with_reducible refine Su.x_drop ?_ | with_reducible refine Su.x_ret ?_ | with_reducible refine Su.x_ifS ?_
  | ((with_reducible show L2.tVar _ _ _ _); refine Su.x_var rfl ?_) | with_reducible refine Su.x_c ?_ | with_reducible refine Su.x_op ?_ | with_reducible refine Su.x_rI0 ?_ | ((with_reducible refine Su.x_rI ?_ ?_); focus walk_at "side")
  | ((with_reducible show L2.rIxL _ (L2.V.ref _) (L2.V.int _) _ _); refine Su.x_ixI (by assumption) (by first | decide | omega) (by omega) ?_) | with_reducible refine Su.x_isi_int_int ?_ | with_reducible refine Su.x_isi_int_bool ?_ | with_reducible refine Su.x_isi_int_str ?_ | with_reducible refine Su.x_isi_int_list ?_ | with_reducible refine Su.x_isi_int_tuple ?_ | with_reducible refine Su.x_isi_bool_int ?_ | with_reducible refine Su.x_isi_bool_bool ?_ | with_reducible refine Su.x_isi_bool_str ?_ | with_reducible refine Su.x_isi_bool_list ?_ | with_reducible refine Su.x_isi_bool_tuple ?_ | with_reducible refine Su.x_isi_str_int ?_ | with_reducible refine Su.x_isi_str_bool ?_ | with_reducible refine Su.x_isi_str_str ?_ | with_reducible refine Su.x_isi_str_list ?_ | with_reducible refine Su.x_isi_str_tuple ?_ | with_reducible refine Su.x_isi_NoneType_int ?_ | with_reducible refine Su.x_isi_NoneType_bool ?_ | with_reducible refine Su.x_isi_NoneType_str ?_ | with_reducible refine Su.x_isi_NoneType_list ?_ | with_reducible refine Su.x_isi_NoneType_tuple ?_ | with_reducible refine Su.x_rGt ?_ | with_reducible refine Su.x_rGe ?_ | with_reducible refine Su.x_iteF ?_ | with_reducible refine Su.x_iteT ?_ | with_reducible refine Su.x_iteNT ?_ | with_reducible refine Su.x_iteNF ?_ | with_reducible refine Su.x_eqI ?_ | with_reducible refine Su.x_neI ?_ | with_reducible refine Su.x_eqS ?_ | with_reducible refine Su.x_neS ?_ | with_reducible refine Su.x_eqB ?_ | with_reducible refine Su.x_neB ?_
  | with_reducible refine Su.x_test ?_ | with_reducible refine Su.x_tB ?_ | with_reducible refine Su.x_isB ?_ | with_reducible refine Su.x_isB' ?_ | with_reducible refine Su.x_not ?_ | with_reducible refine Su.x_and ?_ | with_reducible refine Su.x_or ?_
  | with_reducible refine Su.x_andV ?_ | with_reducible refine Su.x_orV ?_ | with_reducible refine Su.x_notV ?_ | with_reducible refine Su.x_chain ?_ | with_reducible refine Su.x_nil ?_ | with_reducible refine Su.x_cons ?_ | with_reducible refine Su.x_cb ?_ | with_reducible refine Su.x_call ?_
  | with_reducible refine Su.x_un ?_ | with_reducible refine Su.x_rU ?_ | with_reducible refine Su.x_abs ?_ | with_reducible refine Su.x_max2 ?_ | with_reducible refine Su.x_min2 ?_ | with_reducible refine Su.x_int1 ?_ | with_reducible refine Su.x_intB ?_
  | with_reducible refine Su.x_lst ?_ | with_reducible refine Su.x_tup ?_ | with_reducible refine Su.x_bmL ?_ | with_reducible refine Su.x_next ?_ | with_reducible refine Su.x_for ?_ | with_reducible refine Su.x_iList ?_ | with_reducible refine Su.x_iRng1 ?_ | with_reducible refine Su.x_iRng2 ?_ | with_reducible refine Su.x_whileN ?_ | with_reducible refine Su.x_iEnum ?_ | with_reducible refine Su.x_iZip ?_ | with_reducible refine Su.x_iZipA ?_ | with_reducible refine Su.x_iTup ?_ | with_reducible refine Su.x_gcons ?_ | with_reducible refine Su.x_gnil ?_ | with_reducible refine Su.x_gsub ?_ | with_reducible refine Su.x_yes ?_ | with_reducible refine Su.x_lc ?_ | with_reducible refine Su.x_sl ?_ | with_reducible refine Su.x_nopart ?_ | with_reducible refine Su.x_part ?_ | with_reducible refine Su.x_isI ?_ | with_reducible refine Su.x_lstRg ?_ | with_reducible refine Su.x_rg1 ?_ | with_reducible refine Su.x_augS ?_ | with_reducible refine Su.x_ipI ?_ | ((with_reducible show L2.tAug _ _ _ _ _ _); refine Su.x_aug rfl ?_) | with_reducible refine Su.x_callS ?_ | with_reducible refine Su.x_tryAs ?_)
local macro_rules | `(tactic| walk_at "xs") => `(tactic| repeat walk_at "x")
local macro_rules | `(tactic| walk_at "if") => `(tactic| first | with_reducible refine Su.x_iteD (fun c => ?_) (fun c => ?_) | with_reducible refine Su.x_iteN (fun c => ?_) (fun c => ?_) | with_reducible refine Su.x_ite (fun c => ?_) (fun c => ?_))
/-! order_or_bar -/
def sp_order_or_bar (K : PySem.W.Frag) : Sp := fun vs H Q _ => ∃ (v : V) (ws : List (Int × Int)), vs = [v] ∧ Dp K H v (dWin ws) ∧ ws.length ≤ 1000 ∧ WinOk ws.length ws ∧
  ∀ v' H', Same H H' → PaperAt H H' v' (paperOf ws) → Q v' H'

end Su
namespace Su
open PySem L2
local macro_rules | `(tactic| walk_at "side") => `(tactic| first | assumption | (show (0 : Int) < _; omega) | (show (0 : Int) ≤ _; omega) | (show (0 : Int) < _; split <;> omega) | (show _ ∨ _; omega) | (show _ ∧ _; omega) | exact ⟨by decide, by decide, by decide⟩ | exact ⟨by first | assumption | omega, by first | assumption | omega⟩)
local macro_rules | `(tactic| walk_at "x") => `(tactic| first
  | with_reducible refine Su.x_seq ?_ | with_reducible refine Su.x_asg ?_ | with_reducible refine Su.x_gname ?_ | with_reducible refine Su.x_drop ?_ | with_reducible refine Su.x_ret ?_ | with_reducible refine Su.x_ifS ?_
  | ((with_reducible show L2.tVar _ _ _ _); refine Su.x_var rfl ?_) | with_reducible refine Su.x_c ?_ | with_reducible refine Su.x_op ?_ | with_reducible refine Su.x_rI0 ?_ | ((with_reducible refine Su.x_rI ?_ ?_); focus walk_at "side")
  | ((with_reducible show L2.rIxL _ (L2.V.ref _) (L2.V.int _) _ _); refine Su.x_ixI (by assumption) (by first | decide | omega) (by omega) ?_) | with_reducible refine Su.x_isi_int_int ?_ | with_reducible refine Su.x_isi_int_bool ?_ | with_reducible refine Su.x_isi_int_str ?_ | with_reducible refine Su.x_isi_int_list ?_ | with_reducible refine Su.x_isi_int_tuple ?_ | with_reducible refine Su.x_isi_bool_int ?_ | with_reducible refine Su.x_isi_bool_bool ?_ | with_reducible refine Su.x_isi_bool_str ?_ | with_reducible refine Su.x_isi_bool_list ?_ | with_reducible refine Su.x_isi_bool_tuple ?_ | with_reducible refine Su.x_isi_str_int ?_ | with_reducible refine Su.x_isi_str_bool ?_ | with_reducible refine Su.x_isi_str_str ?_ | with_reducible refine Su.x_isi_str_list ?_ | with_reducible refine Su.x_isi_str_tuple ?_ | with_reducible refine Su.x_isi_NoneType_int ?_ | with_reducible refine Su.x_isi_NoneType_bool ?_ | with_reducible refine Su.x_isi_NoneType_str ?_ | with_reducible refine Su.x_isi_NoneType_list ?_ | with_reducible refine Su.x_isi_NoneType_tuple ?_ | with_reducible refine Su.x_rGt ?_ | with_reducible refine Su.x_rGe ?_ | with_reducible refine Su.x_iteF ?_ | with_reducible refine Su.x_iteT ?_ | with_reducible refine Su.x_iteNT ?_ | with_reducible refine Su.x_iteNF ?_ | with_reducible refine Su.x_eqI ?_ | with_reducible refine Su.x_neI ?_ | with_reducible refine Su.x_eqS ?_ | with_reducible refine Su.x_neS ?_ | with_reducible refine Su.x_eqB ?_ | with_reducible refine Su.x_neB ?_
  | with_reducible refine Su.x_test ?_ | with_reducible refine Su.x_tB ?_ | with_reducible refine Su.x_isB ?_ | with_reducible refine Su.x_isB' ?_ | with_reducible refine Su.x_not ?_ | with_reducible refine Su.x_and ?_ | with_reducible refine Su.x_or ?_
  | with_reducible refine Su.x_andV ?_ | with_reducible refine Su.x_orV ?_ | with_reducible refine Su.x_notV ?_ | with_reducible refine Su.x_chain ?_ | with_reducible refine Su.x_nil ?_ | with_reducible refine Su.x_cons ?_ | with_reducible refine Su.x_cb ?_ | with_reducible refine Su.x_call ?_
  | with_reducible refine Su.x_un ?_ | with_reducible refine Su.x_rU ?_ | with_reducible refine Su.x_abs ?_ | with_reducible refine Su.x_max2 ?_ | with_reducible refine Su.x_min2 ?_ | with_reducible refine Su.x_int1 ?_ | with_reducible refine Su.x_intB ?_
  | with_reducible refine Su.x_lst ?_ | with_reducible refine Su.x_tup ?_ | with_reducible refine Su.x_bmL ?_ | with_reducible refine Su.x_next ?_ | with_reducible refine Su.x_for ?_ | with_reducible refine Su.x_iList ?_ | with_reducible refine Su.x_iRng1 ?_ | with_reducible refine Su.x_iRng2 ?_ | with_reducible refine Su.x_whileN ?_ | with_reducible refine Su.x_iEnum ?_ | with_reducible refine Su.x_iZip ?_ | with_reducible refine Su.x_iZipA ?_ | with_reducible refine Su.x_iTup ?_ | with_reducible refine Su.x_gcons ?_ | with_reducible refine Su.x_gnil ?_ | with_reducible refine Su.x_gsub ?_ | with_reducible refine Su.x_yes ?_ | with_reducible refine Su.x_lc ?_ | with_reducible refine Su.x_sl ?_ | with_reducible refine Su.x_nopart ?_ | with_reducible refine Su.x_part ?_ | with_reducible refine Su.x_isI ?_ | with_reducible refine Su.x_lstRg ?_ | with_reducible refine Su.x_rg1 ?_ | with_reducible refine Su.x_augS ?_ | with_reducible refine Su.x_ipI ?_ | ((with_reducible show L2.tAug _ _ _ _ _ _); refine Su.x_aug rfl ?_) | with_reducible refine Su.x_callS ?_ | with_reducible refine Su.x_tryAs ?_)
local macro_rules | `(tactic| walk_at "xs") => `(tactic| repeat walk_at "x")
local macro_rules | `(tactic| walk_at "if") => `(tactic| first | with_reducible refine Su.x_iteD (fun c => ?_) (fun c => ?_) | with_reducible refine Su.x_iteN (fun c => ?_) (fun c => ?_) | with_reducible refine Su.x_ite (fun c => ?_) (fun c => ?_))
/-! windows around a drawn order -/
def Planted (ws : List (Int × Int)) (row : List Nat) (i : Nat) : Prop := ∀ j (h : j < row.length), j < i → w1 ws row[j] ≤ (j : Int) + 1 ∧ (j : Int) + 1 ≤ w2 ws row[j]
theorem getD_set_eq {ws : List (Int × Int)} {k : Nat} {w d : Int × Int} (h : k < ws.length) : (ws.set k w).getD k d = w := by
  rw [List.getD_eq_getElem?_getD, List.getElem?_set_self h]; rfl
theorem getD_set_ne {ws : List (Int × Int)} {k j : Nat} {w d : Int × Int} (h : k ≠ j) : (ws.set k w).getD j d = ws.getD j d := by
  rw [List.getD_eq_getElem?_getD, List.getElem?_set_ne h, List.getD_eq_getElem?_getD]
theorem nodup_ne {row : List Nat} (nd : row.Nodup) {i j : Nat} (hi : i < row.length) (hj : j < row.length) (h : i ≠ j) : row[i] ≠ row[j] := by
  have p := List.nodup_iff_pairwise_ne.mp nd
  rw [List.pairwise_iff_getElem] at p
  rcases Nat.lt_or_gt_of_ne h with q | q
  · exact p i j hi hj q
  · exact (p j i hj hi q).symm
theorem planted_set {ws : List (Int × Int)} {row : List Nat} {i : Nat} {f g : Int} (nd : row.Nodup) (p : Planted ws row i) (hi : i < row.length) (hr : row[i] < ws.length) (h1 : f ≤ (i : Int) + 1) (h2 : (i : Int) + 1 ≤ g) : Planted (ws.set row[i] (f, g)) row (i + 1) := by
  intro j hj hji
  by_cases c : j = i
  · subst c
    unfold w1 w2
    rw [getD_set_eq hr]
    exact ⟨h1, h2⟩
  · unfold w1 w2
    rw [getD_set_ne (nodup_ne nd hi hj (fun e => c e.symm))]
    exact p j hj (by omega)
theorem planted_order {ws : List (Int × Int)} {row : List Nat} (pm : row.Perm (List.range ws.length)) (p : Planted ws row row.length) : IsOrder ws row := order_of_perm pm fun k h => p k h h
theorem planted_told {ws : List (Int × Int)} {row : List Nat} (ok : WinOk ws.length ws) (o : IsOrder ws row) : ∃ r, paperOf ws = .order r ∧ IsOrder ws r := by
  have g := paper_good ok
  cases e : paperOf ws with
  | order r => rw [e] at g; exact ⟨r, rfl, g⟩
  | bar a b c => rw [e] at g; exact (no_both o g).elim

end Su
namespace Su
open PySem L2
local macro_rules | `(tactic| walk_at "side") => `(tactic| first | assumption | (show (0 : Int) < _; omega) | (show (0 : Int) ≤ _; omega) | (show (0 : Int) < _; split <;> omega) | (show _ ∨ _; omega) | (show _ ∧ _; omega) | exact ⟨by decide, by decide, by decide⟩ | exact ⟨by first | assumption | omega, by first | assumption | omega⟩)
local macro_rules | `(tactic| walk_at "x") => `(tactic| first
  | with_reducible refine Su.x_seq ?_ | with_reducible refine Su.x_asg ?_ | with_reducible refine Su.x_gname ?_ | with_reducible refine Su.x_drop ?_ | with_reducible refine Su.x_ret ?_ | with_reducible refine Su.x_ifS ?_
  | ((with_reducible show L2.tVar _ _ _ _); refine Su.x_var rfl ?_) | with_reducible refine Su.x_c ?_ | with_reducible refine Su.x_op ?_ | with_reducible refine Su.x_rI0 ?_ | ((with_reducible refine Su.x_rI ?_ ?_); focus walk_at "side")
  | ((with_reducible show L2.rIxL _ (L2.V.ref _) (L2.V.int _) _ _); refine Su.x_ixI (by assumption) (by first | decide | omega) (by omega) ?_) | with_reducible refine Su.x_isi_int_int ?_ | with_reducible refine Su.x_isi_int_bool ?_ | with_reducible refine Su.x_isi_int_str ?_ | with_reducible refine Su.x_isi_int_list ?_ | with_reducible refine Su.x_isi_int_tuple ?_ | with_reducible refine Su.x_isi_bool_int ?_ | with_reducible refine Su.x_isi_bool_bool ?_ | with_reducible refine Su.x_isi_bool_str ?_ | with_reducible refine Su.x_isi_bool_list ?_ | with_reducible refine Su.x_isi_bool_tuple ?_ | with_reducible refine Su.x_isi_str_int ?_ | with_reducible refine Su.x_isi_str_bool ?_ | with_reducible refine Su.x_isi_str_str ?_ | with_reducible refine Su.x_isi_str_list ?_ | with_reducible refine Su.x_isi_str_tuple ?_ | with_reducible refine Su.x_isi_NoneType_int ?_ | with_reducible refine Su.x_isi_NoneType_bool ?_ | with_reducible refine Su.x_isi_NoneType_str ?_ | with_reducible refine Su.x_isi_NoneType_list ?_ | with_reducible refine Su.x_isi_NoneType_tuple ?_ | with_reducible refine Su.x_rGt ?_ | with_reducible refine Su.x_rGe ?_ | with_reducible refine Su.x_iteF ?_ | with_reducible refine Su.x_iteT ?_ | with_reducible refine Su.x_iteNT ?_ | with_reducible refine Su.x_iteNF ?_ | with_reducible refine Su.x_eqI ?_ | with_reducible refine Su.x_neI ?_ | with_reducible refine Su.x_eqS ?_ | with_reducible refine Su.x_neS ?_ | with_reducible refine Su.x_eqB ?_ | with_reducible refine Su.x_neB ?_
  | with_reducible refine Su.x_test ?_ | with_reducible refine Su.x_tB ?_ | with_reducible refine Su.x_isB ?_ | with_reducible refine Su.x_isB' ?_ | with_reducible refine Su.x_not ?_ | with_reducible refine Su.x_and ?_ | with_reducible refine Su.x_or ?_
  | with_reducible refine Su.x_andV ?_ | with_reducible refine Su.x_orV ?_ | with_reducible refine Su.x_notV ?_ | with_reducible refine Su.x_chain ?_ | with_reducible refine Su.x_nil ?_ | with_reducible refine Su.x_cons ?_ | with_reducible refine Su.x_cb ?_ | with_reducible refine Su.x_call ?_
  | with_reducible refine Su.x_un ?_ | with_reducible refine Su.x_rU ?_ | with_reducible refine Su.x_abs ?_ | with_reducible refine Su.x_max2 ?_ | with_reducible refine Su.x_min2 ?_ | with_reducible refine Su.x_int1 ?_ | with_reducible refine Su.x_intB ?_
  | with_reducible refine Su.x_lst ?_ | with_reducible refine Su.x_tup ?_ | with_reducible refine Su.x_bmL ?_ | with_reducible refine Su.x_next ?_ | with_reducible refine Su.x_for ?_ | with_reducible refine Su.x_iList ?_ | with_reducible refine Su.x_iRng1 ?_ | with_reducible refine Su.x_iRng2 ?_ | with_reducible refine Su.x_whileN ?_ | with_reducible refine Su.x_iEnum ?_ | with_reducible refine Su.x_iZip ?_ | with_reducible refine Su.x_iZipA ?_ | with_reducible refine Su.x_iTup ?_ | with_reducible refine Su.x_gcons ?_ | with_reducible refine Su.x_gnil ?_ | with_reducible refine Su.x_gsub ?_ | with_reducible refine Su.x_yes ?_ | with_reducible refine Su.x_lc ?_ | with_reducible refine Su.x_sl ?_ | with_reducible refine Su.x_nopart ?_ | with_reducible refine Su.x_part ?_ | with_reducible refine Su.x_isI ?_ | with_reducible refine Su.x_lstRg ?_ | with_reducible refine Su.x_rg1 ?_ | with_reducible refine Su.x_augS ?_ | with_reducible refine Su.x_ipI ?_ | ((with_reducible show L2.tAug _ _ _ _ _ _); refine Su.x_aug rfl ?_) | with_reducible refine Su.x_callS ?_ | with_reducible refine Su.x_tryAs ?_)
local macro_rules | `(tactic| walk_at "xs") => `(tactic| repeat walk_at "x")
local macro_rules | `(tactic| walk_at "if") => `(tactic| first | with_reducible refine Su.x_iteD (fun c => ?_) (fun c => ?_) | with_reducible refine Su.x_iteN (fun c => ?_) (fun c => ?_) | with_reducible refine Su.x_ite (fun c => ?_) (fun c => ?_))
/-! the loop of windows around a planted order: one turn -/
theorem b_mod (r d : Int) (h : 0 < d) : 0 ≤ r % d ∧ r % d < d := ⟨Int.emod_nonneg r (by omega), Int.emod_lt_of_pos r h⟩
/-- each of these is below the count -/
theorem ix_lt {l : List Int} {m : Int} (h : ∀ x ∈ l, 0 ≤ x ∧ x < m) (i : Nat) (hi : i < l.length) : 0 ≤ l.getD i 0 ∧ l.getD i 0 < m := by
  rw [List.getD_eq_getElem?_getD, List.getElem?_eq_getElem hi]
  exact h _ (List.getElem_mem hi)
theorem nI_ints (r : List Nat) : nI r = (r.map fun (i : Nat) => (i : Int)).map V.int := by unfold nI; rw [List.map_map]; rfl
theorem nats_inj : ∀ {a b : List Nat}, a.map (fun (i : Nat) => (i : Int)) = b.map (fun (i : Nat) => (i : Int)) → a = b
  | [], [], _ => rfl
  | [], _ :: _, h | _ :: _, [], h => by cases h
  | x :: a, y :: b, h => by
    rw [List.map_cons, List.map_cons, List.cons.injEq] at h
    rw [nats_inj h.2, show x = y by omega]

end Su
namespace Su
open PySem L2
local macro_rules | `(tactic| walk_at "side") => `(tactic| first | assumption | (show (0 : Int) < _; omega) | (show (0 : Int) ≤ _; omega) | (show (0 : Int) < _; split <;> omega) | (show _ ∨ _; omega) | (show _ ∧ _; omega) | exact ⟨by decide, by decide, by decide⟩ | exact ⟨by first | assumption | omega, by first | assumption | omega⟩)
local macro_rules | `(tactic| walk_at "x") => `(tactic| first
  | with_reducible refine Su.x_seq ?_ | with_reducible refine Su.x_asg ?_ | with_reducible refine Su.x_gname ?_ | with_reducible refine Su.x_drop ?_ | with_reducible refine Su.x_ret ?_ | with_reducible refine Su.x_ifS ?_
  | ((with_reducible show L2.tVar _ _ _ _); refine Su.x_var rfl ?_) | with_reducible refine Su.x_c ?_ | with_reducible refine Su.x_op ?_ | with_reducible refine Su.x_rI0 ?_ | ((with_reducible refine Su.x_rI ?_ ?_); focus walk_at "side")
  | ((with_reducible show L2.rIxL _ (L2.V.ref _) (L2.V.int _) _ _); refine Su.x_ixI (by assumption) (by first | decide | omega) (by omega) ?_) | with_reducible refine Su.x_isi_int_int ?_ | with_reducible refine Su.x_isi_int_bool ?_ | with_reducible refine Su.x_isi_int_str ?_ | with_reducible refine Su.x_isi_int_list ?_ | with_reducible refine Su.x_isi_int_tuple ?_ | with_reducible refine Su.x_isi_bool_int ?_ | with_reducible refine Su.x_isi_bool_bool ?_ | with_reducible refine Su.x_isi_bool_str ?_ | with_reducible refine Su.x_isi_bool_list ?_ | with_reducible refine Su.x_isi_bool_tuple ?_ | with_reducible refine Su.x_isi_str_int ?_ | with_reducible refine Su.x_isi_str_bool ?_ | with_reducible refine Su.x_isi_str_str ?_ | with_reducible refine Su.x_isi_str_list ?_ | with_reducible refine Su.x_isi_str_tuple ?_ | with_reducible refine Su.x_isi_NoneType_int ?_ | with_reducible refine Su.x_isi_NoneType_bool ?_ | with_reducible refine Su.x_isi_NoneType_str ?_ | with_reducible refine Su.x_isi_NoneType_list ?_ | with_reducible refine Su.x_isi_NoneType_tuple ?_ | with_reducible refine Su.x_rGt ?_ | with_reducible refine Su.x_rGe ?_ | with_reducible refine Su.x_iteF ?_ | with_reducible refine Su.x_iteT ?_ | with_reducible refine Su.x_iteNT ?_ | with_reducible refine Su.x_iteNF ?_ | with_reducible refine Su.x_eqI ?_ | with_reducible refine Su.x_neI ?_ | with_reducible refine Su.x_eqS ?_ | with_reducible refine Su.x_neS ?_ | with_reducible refine Su.x_eqB ?_ | with_reducible refine Su.x_neB ?_
  | with_reducible refine Su.x_test ?_ | with_reducible refine Su.x_tB ?_ | with_reducible refine Su.x_isB ?_ | with_reducible refine Su.x_isB' ?_ | with_reducible refine Su.x_not ?_ | with_reducible refine Su.x_and ?_ | with_reducible refine Su.x_or ?_
  | with_reducible refine Su.x_andV ?_ | with_reducible refine Su.x_orV ?_ | with_reducible refine Su.x_notV ?_ | with_reducible refine Su.x_chain ?_ | with_reducible refine Su.x_nil ?_ | with_reducible refine Su.x_cons ?_ | with_reducible refine Su.x_cb ?_ | with_reducible refine Su.x_call ?_
  | with_reducible refine Su.x_un ?_ | with_reducible refine Su.x_rU ?_ | with_reducible refine Su.x_abs ?_ | with_reducible refine Su.x_max2 ?_ | with_reducible refine Su.x_min2 ?_ | with_reducible refine Su.x_int1 ?_ | with_reducible refine Su.x_intB ?_
  | with_reducible refine Su.x_lst ?_ | with_reducible refine Su.x_tup ?_ | with_reducible refine Su.x_bmL ?_ | with_reducible refine Su.x_next ?_ | with_reducible refine Su.x_for ?_ | with_reducible refine Su.x_iList ?_ | with_reducible refine Su.x_iRng1 ?_ | with_reducible refine Su.x_iRng2 ?_ | with_reducible refine Su.x_whileN ?_ | with_reducible refine Su.x_iEnum ?_ | with_reducible refine Su.x_iZip ?_ | with_reducible refine Su.x_iZipA ?_ | with_reducible refine Su.x_iTup ?_ | with_reducible refine Su.x_gcons ?_ | with_reducible refine Su.x_gnil ?_ | with_reducible refine Su.x_gsub ?_ | with_reducible refine Su.x_yes ?_ | with_reducible refine Su.x_lc ?_ | with_reducible refine Su.x_sl ?_ | with_reducible refine Su.x_nopart ?_ | with_reducible refine Su.x_part ?_ | with_reducible refine Su.x_isI ?_ | with_reducible refine Su.x_lstRg ?_ | with_reducible refine Su.x_rg1 ?_ | with_reducible refine Su.x_augS ?_ | with_reducible refine Su.x_ipI ?_ | ((with_reducible show L2.tAug _ _ _ _ _ _); refine Su.x_aug rfl ?_) | with_reducible refine Su.x_callS ?_ | with_reducible refine Su.x_tryAs ?_)
local macro_rules | `(tactic| walk_at "xs") => `(tactic| repeat walk_at "x")
local macro_rules | `(tactic| walk_at "if") => `(tactic| first | with_reducible refine Su.x_iteD (fun c => ?_) (fun c => ?_) | with_reducible refine Su.x_iteN (fun c => ?_) (fun c => ?_) | with_reducible refine Su.x_ite (fun c => ?_) (fun c => ?_))
theorem sum_one (c : Int) {ks : List (List Nat)} (nd : ks.Nodup) (u : List Nat) : (ks.map fun w => if u = w then c else 0).sum = if u ∈ ks then c else 0 := by
  induction ks with
  | nil => simp
  | cons k ks ih =>
    have nd' := List.nodup_cons.mp nd
    rw [List.map_cons, List.sum_cons, ih nd'.2]
    by_cases e : u = k
    · subst e; simp [nd'.1]
    · simp [e]
theorem sum_sub (f g : List Nat → Int) (ks : List (List Nat)) : (ks.map fun w => f w - g w).sum = (ks.map f).sum - (ks.map g).sum := by
  induction ks with
  | nil => rfl
  | cons k ks ih => simp only [List.map_cons, List.sum_cons, ih]; omega
theorem sum_add (f g : List Nat → Int) (ks : List (List Nat)) : (ks.map fun w => f w + g w).sum = (ks.map f).sum + (ks.map g).sum := by
  induction ks with
  | nil => rfl
  | cons k ks ih => simp only [List.map_cons, List.sum_cons, ih]; omega
theorem netOf_cons (d : Debt) (ds : List Debt) (w : List Nat) : netOf (d :: ds) w = ((if d.2.1 = w then d.2.2 else 0) - (if d.1 = w then d.2.2 else 0)) + netOf ds w := by simp [netOf]
theorem sum_nets {ds : List Debt} {ks : List (List Nat)} (nd : ks.Nodup) (h : ∀ d ∈ ds, d.1 ∈ ks ∧ d.2.1 ∈ ks) : (ks.map (netOf ds)).sum = 0 := by
  induction ds with
  | nil =>
    have : ks.map (netOf []) = ks.map fun _ => (0 : Int) := rfl
    rw [this]
    clear nd h this
    induction ks with
    | nil => rfl
    | cons k ks ih => simp only [List.map_cons, List.sum_cons, ih]; rfl
  | cons d ds ih =>
    have e : ks.map (netOf (d :: ds)) = ks.map fun w => ((if d.2.1 = w then d.2.2 else 0) - (if d.1 = w then d.2.2 else 0)) + netOf ds w := by
      apply List.map_congr_left; intro w _; exact netOf_cons d ds w
    have hd := h d List.mem_cons_self
    rw [e, sum_add, sum_sub, sum_one _ nd, sum_one _ nd, if_pos hd.1, if_pos hd.2, ih fun x hx => h x (List.mem_cons_of_mem _ hx)]
    omega
theorem netOf_unnamed {ds : List Debt} {w : List Nat} (h : ¬ Named ds w) : netOf ds w = 0 := by
  induction ds with
  | nil => rfl
  | cons d ds ih =>
    have h1 : ¬ d.1 = w := fun e => h ⟨d, List.mem_cons_self, .inl e⟩
    have h2 : ¬ d.2.1 = w := fun e => h ⟨d, List.mem_cons_self, .inr e⟩
    rw [netOf_cons, if_neg h1, if_neg h2, ih fun ⟨x, hx, e⟩ => h ⟨x, List.mem_cons_of_mem _ hx, e⟩]; rfl
theorem nmAt_inj {ns : List (List Nat × Int)} (nd : (keysN ns).Nodup) {i j : Nat} (hi : i < ns.length) (hj : j < ns.length) (e : nmAt ns i = nmAt ns j) : i = j := by
  have e1 : ∀ k, (hk : k < ns.length) → nmAt ns k = (keysN ns)[k]'(by unfold keysN; rw [List.length_map]; exact hk) := fun k hk => by
    unfold nmAt; rw [List.getD_eq_getElem?_getD, List.getElem?_eq_getElem hk]; simp
  rw [e1 i hi, e1 j hj] at e
  exact (List.getElem_inj nd).mp e
theorem netOf_rows {ns : List (List Nat × Int)} (nd : (keysN ns).Nodup) {rows : List (Nat × Nat × Int)} (h : ∀ r ∈ rows, r.1 < ns.length ∧ r.2.1 < ns.length) {i : Nat} (hi : i < ns.length) :
    netOf (rows.map (trName ns)) (nmAt ns i) = trNet rows i := by
  unfold netOf trNet
  rw [List.map_map]
  congr 1
  apply List.map_congr_left
  intro r hr
  have := h r hr
  show (if nmAt ns r.2.1 = nmAt ns i then r.2.2 else 0) - (if nmAt ns r.1 = nmAt ns i then r.2.2 else 0) = _
  have a1 : (nmAt ns r.2.1 = nmAt ns i) ↔ r.2.1 = i := ⟨nmAt_inj nd this.2 hi, fun e => by rw [e]⟩
  have a2 : (nmAt ns r.1 = nmAt ns i) ↔ r.1 = i := ⟨nmAt_inj nd this.1 hi, fun e => by rw [e]⟩
  simp only [a1, a2]
structure Settled (ds : List Debt) (people : List (List Nat)) (rows : List Debt) : Prop where
  row : ∀ r ∈ rows, r.1 ∈ people ∧ r.2.1 ∈ people ∧ r.1 ≠ r.2.1 ∧ 1 ≤ r.2.2
  net : ∀ w ∈ people, netOf rows w = netOf ds w
  few : (rows = [] ∧ people.countP (fun w => decide (netOf ds w ≠ 0)) = 0) ∨ rows.length < people.countP (fun w => decide (netOf ds w ≠ 0))
theorem nets_sum {ds : List Debt} {ns : List (List Nat × Int)} (h : NetRows ds ns) : (ns.map (·.2)).sum = 0 := by
  have nd : (keysN ns).Nodup := h.srt.imp fun {a b} z e => by subst e; exact wlt_irr a z
  have e : ns.map (·.2) = (keysN ns).map (netOf ds) := by
    unfold keysN; rw [List.map_map]; apply List.map_congr_left; intro p hp; exact h.val p hp
  rw [e]
  exact sum_nets nd fun d hd => ⟨(h.key _).mpr ⟨d, hd, .inl rfl⟩, (h.key _).mpr ⟨d, hd, .inr rfl⟩⟩
theorem settled {ds : List Debt} {people : List (List Nat)} (pn : people.Nodup) (hd : ∀ d ∈ ds, d.1 ∈ people ∧ d.2.1 ∈ people) {ns : List (List Nat × Int)} (h : NetRows ds ns) : Settled ds people (trRows ns) := by
  have nd : (keysN ns).Nodup := h.srt.imp fun {a b} z e => by subst e; exact wlt_irr a z
  have nl := nz_le (ns.map (·.2))
  rw [List.length_map] at nl
  have t := trGo_ok (k := ns.length) (nets_sum h) nl
  have named : ∀ {w}, Named ds w → w ∈ people := fun {w} ⟨d, hd', e⟩ => e.elim (fun e => e ▸ (hd d hd').1) fun e => e ▸ (hd d hd').2
  have at_ : ∀ i, i < ns.length → nmAt ns i ∈ keysN ns ∧ (ns.map (·.2)).getD i 0 = netOf ds (nmAt ns i) := fun i hi => by
    have e : nmAt ns i = ns[i].1 := by unfold nmAt; rw [List.getD_eq_getElem?_getD, List.getElem?_eq_getElem hi]; rfl
    refine ⟨?_, ?_⟩
    · rw [e]; exact List.mem_map.mpr ⟨_, List.getElem_mem _, rfl⟩
    · rw [e, List.getD_eq_getElem?_getD, List.getElem?_map, List.getElem?_eq_getElem hi]
      exact h.val _ (List.getElem_mem _)
  have rl : ∀ r ∈ trGo ns.length (ns.map (·.2)), r.1 < ns.length ∧ r.2.1 < ns.length := fun r hr => by
    have := t.row r hr; rw [List.length_map] at this; exact ⟨this.1, this.2.1⟩
  have net : ∀ w ∈ people, netOf (trRows ns) w = netOf ds w := fun w _ => by
    by_cases c : Named ds w
    · have hk := (h.key w).mpr c
      obtain ⟨p, hp, rfl⟩ := List.mem_map.mp hk
      obtain ⟨i, hi, e⟩ := List.getElem_of_mem hp
      have en : p.1 = nmAt ns i := by unfold nmAt; rw [List.getD_eq_getElem?_getD, List.getElem?_eq_getElem hi, e]; rfl
      rw [en]
      unfold trRows
      rw [netOf_rows nd rl hi, t.net, (at_ i hi).2]
    · rw [netOf_unnamed c]
      refine netOf_unnamed ?_
      rintro ⟨x, hx, e⟩
      obtain ⟨r, hr, rfl⟩ := List.mem_map.mp hx
      have := rl r hr
      apply c
      apply (h.key w).mp
      rcases e with e | e
      · rw [← e]; exact (at_ _ this.1).1
      · rw [← e]; exact (at_ _ this.2).1
  have cnt : people.countP (fun w => decide (netOf ds w ≠ 0)) = nz (ns.map (·.2)) := by
    unfold nz
    rw [List.countP_map, List.countP_eq_length_filter, List.countP_eq_length_filter]
    have e : (ns.filter ((fun x => decide (x ≠ 0)) ∘ fun x => x.2)).length = ((ns.filter ((fun x => decide (x ≠ 0)) ∘ fun x => x.2)).map (·.1)).length := (List.length_map ..).symm
    rw [e]
    have mem : ∀ w, w ∈ people.filter (fun w => decide (netOf ds w ≠ 0)) ↔ w ∈ (ns.filter ((fun x => decide (x ≠ 0)) ∘ fun x => x.2)).map (·.1) := by
      intro w
      rw [List.mem_filter, decide_eq_true_eq, List.mem_map]
      constructor
      · rintro ⟨h1, h2⟩
        have c : Named ds w := Classical.byContradiction fun c => h2 (netOf_unnamed c)
        obtain ⟨p, hp, rfl⟩ := List.mem_map.mp ((h.key w).mpr c)
        refine ⟨p, List.mem_filter.mpr ⟨hp, ?_⟩, rfl⟩
        simp only [Function.comp, decide_eq_true_eq]
        rw [h.val p hp]; exact h2
      · rintro ⟨p, hp, rfl⟩
        rw [List.mem_filter] at hp
        have h2 := hp.2
        simp only [Function.comp, decide_eq_true_eq] at h2
        rw [h.val p hp.1] at h2
        exact ⟨named ((h.key _).mp (List.mem_map.mpr ⟨p, hp.1, rfl⟩)), h2⟩
    have n1 : (people.filter (fun w => decide (netOf ds w ≠ 0))).Nodup := pn.filter _
    have n2 : ((ns.filter ((fun x => decide (x ≠ 0)) ∘ fun x => x.2)).map (·.1)).Nodup := by
      have : ((ns.filter ((fun x => decide (x ≠ 0)) ∘ fun x => x.2)).map (·.1)).Sublist (keysN ns) := List.filter_sublist.map _
      exact this.nodup nd
    exact Nat.le_antisymm (nodup_subG n1 fun x hx => (mem x).mp hx) (nodup_subG n2 fun x hx => (mem x).mpr hx)
  refine ⟨fun r hr => ?_, net, ?_⟩
  · obtain ⟨x, hx, rfl⟩ := List.mem_map.mp hr
    have b := rl x hx
    have z := t.row x hx
    refine ⟨named ((h.key _).mp (at_ _ b.1).1), named ((h.key _).mp (at_ _ b.2).1), fun e => z.2.2.1 (nmAt_inj nd b.1 b.2 e), z.2.2.2⟩
  · rw [cnt]
    unfold trRows
    rcases t.few with ⟨e1, e2⟩ | e
    · exact .inl ⟨by rw [e2]; rfl, e1⟩
    · exact .inr (by rw [List.length_map]; exact e)

end Su
namespace Su
open PySem L2
local macro_rules | `(tactic| walk_at "side") => `(tactic| first | assumption | (show (0 : Int) < _; omega) | (show (0 : Int) ≤ _; omega) | (show (0 : Int) < _; split <;> omega) | (show _ ∨ _; omega) | (show _ ∧ _; omega) | exact ⟨by decide, by decide, by decide⟩ | exact ⟨by first | assumption | omega, by first | assumption | omega⟩)
local macro_rules | `(tactic| walk_at "x") => `(tactic| first
  | with_reducible refine Su.x_seq ?_ | with_reducible refine Su.x_asg ?_ | with_reducible refine Su.x_gname ?_ | with_reducible refine Su.x_drop ?_ | with_reducible refine Su.x_ret ?_ | with_reducible refine Su.x_ifS ?_
  | ((with_reducible show L2.tVar _ _ _ _); refine Su.x_var rfl ?_) | with_reducible refine Su.x_c ?_ | with_reducible refine Su.x_op ?_ | with_reducible refine Su.x_rI0 ?_ | ((with_reducible refine Su.x_rI ?_ ?_); focus walk_at "side")
  | ((with_reducible show L2.rIxL _ (L2.V.ref _) (L2.V.int _) _ _); refine Su.x_ixI (by assumption) (by first | decide | omega) (by omega) ?_) | with_reducible refine Su.x_isi_int_int ?_ | with_reducible refine Su.x_isi_int_bool ?_ | with_reducible refine Su.x_isi_int_str ?_ | with_reducible refine Su.x_isi_int_list ?_ | with_reducible refine Su.x_isi_int_tuple ?_ | with_reducible refine Su.x_isi_bool_int ?_ | with_reducible refine Su.x_isi_bool_bool ?_ | with_reducible refine Su.x_isi_bool_str ?_ | with_reducible refine Su.x_isi_bool_list ?_ | with_reducible refine Su.x_isi_bool_tuple ?_ | with_reducible refine Su.x_isi_str_int ?_ | with_reducible refine Su.x_isi_str_bool ?_ | with_reducible refine Su.x_isi_str_str ?_ | with_reducible refine Su.x_isi_str_list ?_ | with_reducible refine Su.x_isi_str_tuple ?_ | with_reducible refine Su.x_isi_NoneType_int ?_ | with_reducible refine Su.x_isi_NoneType_bool ?_ | with_reducible refine Su.x_isi_NoneType_str ?_ | with_reducible refine Su.x_isi_NoneType_list ?_ | with_reducible refine Su.x_isi_NoneType_tuple ?_ | with_reducible refine Su.x_rGt ?_ | with_reducible refine Su.x_rGe ?_ | with_reducible refine Su.x_iteF ?_ | with_reducible refine Su.x_iteT ?_ | with_reducible refine Su.x_iteNT ?_ | with_reducible refine Su.x_iteNF ?_ | with_reducible refine Su.x_eqI ?_ | with_reducible refine Su.x_neI ?_ | with_reducible refine Su.x_eqS ?_ | with_reducible refine Su.x_neS ?_ | with_reducible refine Su.x_eqB ?_ | with_reducible refine Su.x_neB ?_
  | with_reducible refine Su.x_test ?_ | with_reducible refine Su.x_tB ?_ | with_reducible refine Su.x_isB ?_ | with_reducible refine Su.x_isB' ?_ | with_reducible refine Su.x_not ?_ | with_reducible refine Su.x_and ?_ | with_reducible refine Su.x_or ?_
  | with_reducible refine Su.x_andV ?_ | with_reducible refine Su.x_orV ?_ | with_reducible refine Su.x_notV ?_ | with_reducible refine Su.x_chain ?_ | with_reducible refine Su.x_nil ?_ | with_reducible refine Su.x_cons ?_ | with_reducible refine Su.x_cb ?_ | with_reducible refine Su.x_call ?_
  | with_reducible refine Su.x_un ?_ | with_reducible refine Su.x_rU ?_ | with_reducible refine Su.x_abs ?_ | with_reducible refine Su.x_max2 ?_ | with_reducible refine Su.x_min2 ?_ | with_reducible refine Su.x_int1 ?_ | with_reducible refine Su.x_intB ?_
  | with_reducible refine Su.x_lst ?_ | with_reducible refine Su.x_tup ?_ | with_reducible refine Su.x_bmL ?_ | with_reducible refine Su.x_next ?_ | with_reducible refine Su.x_for ?_ | with_reducible refine Su.x_iList ?_ | with_reducible refine Su.x_iRng1 ?_ | with_reducible refine Su.x_iRng2 ?_ | with_reducible refine Su.x_whileN ?_ | with_reducible refine Su.x_iEnum ?_ | with_reducible refine Su.x_iZip ?_ | with_reducible refine Su.x_iZipA ?_ | with_reducible refine Su.x_iTup ?_ | with_reducible refine Su.x_gcons ?_ | with_reducible refine Su.x_gnil ?_ | with_reducible refine Su.x_gsub ?_ | with_reducible refine Su.x_yes ?_ | with_reducible refine Su.x_lc ?_ | with_reducible refine Su.x_sl ?_ | with_reducible refine Su.x_nopart ?_ | with_reducible refine Su.x_part ?_ | with_reducible refine Su.x_isI ?_ | with_reducible refine Su.x_lstRg ?_ | with_reducible refine Su.x_rg1 ?_ | with_reducible refine Su.x_augS ?_ | with_reducible refine Su.x_ipI ?_ | ((with_reducible show L2.tAug _ _ _ _ _ _); refine Su.x_aug rfl ?_) | with_reducible refine Su.x_callS ?_ | with_reducible refine Su.x_tryAs ?_)
local macro_rules | `(tactic| walk_at "xs") => `(tactic| repeat walk_at "x")
local macro_rules | `(tactic| walk_at "if") => `(tactic| first | with_reducible refine Su.x_iteD (fun c => ?_) (fun c => ?_) | with_reducible refine Su.x_iteN (fun c => ?_) (fun c => ?_) | with_reducible refine Su.x_ite (fun c => ?_) (fun c => ?_))
local macro_rules | `(tactic| walk_at "x") => `(tactic| first | with_reducible refine Su.x_m1 ?_ | with_reducible refine Su.x_strE ?_ | with_reducible refine Su.x_m0 ?_ | with_reducible refine Su.x_dnew ?_ | with_reducible refine Su.x_dput ?_ | with_reducible refine Su.x_dgetE ?_ | with_reducible refine Su.x_dget2 ?_ | with_reducible refine Su.x_daug ?_ | with_reducible refine Su.x_din ?_ | with_reducible refine Su.x_dnin ?_ | with_reducible refine Su.x_brk ?_ | with_reducible refine Su.x_retN ?_)
local macro_rules | `(tactic| walk_at "at") => `(tactic| first | assumption | (refine Su.f_at (by assumption) ?_; walk_at "at"))
local macro_rules | `(tactic| walk_at "sm") => `(tactic| first | assumption | exact L2.Same.refl _ | (refine Su.f_tr (by assumption) ?_; walk_at "sm"))
local macro_rules | `(tactic| walk_at "hp") => `(tactic| first | assumption | ((with_reducible refine Su.f_sqL ?_); walk_at "at") | ((with_reducible refine Su.f_sqT ?_); walk_at "at") | ((with_reducible show L2.Same _ _); walk_at "sm") | ((with_reducible show _ = none); refine Su.f_free ?_ (by assumption); walk_at "sm") | ((with_reducible show _ = some _); walk_at "at") | (refine Su.f_dp (by assumption) ?_; walk_at "hp") | (refine Su.f_dpA (by assumption) ?_; walk_at "hp") | (refine Su.f_sqLs (by assumption) ?_; walk_at "hp") | (refine Su.f_sqTs (by assumption) ?_; walk_at "hp"))
def sp_law (K : PySem.W.Frag) : Sp := fun vs H Q _ => ∃ (a : Addr) (ns : List Int), vs = [.ref a] ∧ SqL K H a (ns.map V.int) ∧ ns.length ≤ 63 ∧ ∀ H', Q (.bl true) H'
abbrev N_law : List Str := ["_law_script", "_law_some", "_law_people", "_law_debts", "_law_at", "_law_coins", "_law_nets", "_law_told", "_law_row", "_law_many", "_law_name", "_law_net"]
def t_law (K : PySem.W.Frag) : TS :=
 (tSeq (tAsg (tCall (sp_law_draws K) [] E0 (tCons (tVar 0) (tCons (tC (.int 64)) tNil))) (gName 1))
 (tSeq (tAsg (tCall (sp_law_names K) [] E0 (tCons (tSl (rSlL K) (tVar 1) (tPart (tC (.int 2))) tNoPart) (tCons (tOp rAdd (tC (.int 1)) (tOp rMod (tOp (rIxL K) (tVar 1) (tC (.int 0))) (tC (.int 8)))) tNil))) (gName 2))
 (tSeq (tAsg (tLst tNil) (gName 3))
 (tSeq (tFor (iRng1 (tCons (tOp rMod (tOp (rIxL K) (tVar 1) (tC (.int 10))) (tC (.int 17))) tNil)) (gName 4)
 (tSeq (tAsg (tCB rAbs (tCons (tOp (rIxL K) (tVar 1) (tOp rAdd (tC (.int 13)) (tOp rMul (tC (.int 3)) (tVar 4)))) tNil)) (gName 5))
 (C8.tCut (tIfS (tTest (tOp rEq (tOp rMod (tOp (rIxL K) (tVar 1) (tC (.int 1))) (tC (.int 2))) (tC (.int 0))))
 (tAsg (tOp rMod (tOp (rIxL K) (tVar 1) (tOp rAdd (tC (.int 13)) (tOp rMul (tC (.int 3)) (tVar 4)))) (tC (.int 6))) (gName 5))
 tNext)
 (tDrop (tBM K "list" rAppend (tVar 3) (tCons (tTup (tCons (tOp (rIxL K) (tVar 2) (tOp rMod (tOp (rIxL K) (tVar 1) (tOp rAdd (tC (.int 11)) (tOp rMul (tC (.int 3)) (tVar 4)))) (tCB (rLenSeq K) (tCons (tVar 2) tNil)))) (tCons (tOp (rIxL K) (tVar 2) (tOp rMod (tOp (rIxL K) (tVar 1) (tOp rAdd (tC (.int 12)) (tOp rMul (tC (.int 3)) (tVar 4)))) (tCB (rLenSeq K) (tCons (tVar 2) tNil)))) (tCons (tVar 5) tNil)))) tNil))))))
 (tSeq (tAsg (tCall (sp_net_rows K) [] E0 (tCons (tCB (rListOf K) (tCons (tVar 3) tNil)) tNil)) (gName 6))
 (tSeq (tAsg (tCall (sp_transfers K) [] E0 (tCons (tVar 6) tNil)) (gName 7))
 (tSeq (tIfS (tNot (tB (tCB (rIsi K) (tCons (tVar 7) (tCons (tC (.ty "list")) tNil)))))
 (tRet (tC (.bl false)))
 tNext)
 (tSeq (tFor (iList K (tVar 7)) (gName 8)
 (tSeq (tIfS (tOr (tNot (tB (tCB (rIsi K) (tCons (tVar 8) (tCons (tC (.ty "tuple")) tNil))))) (tOr (tTest (tOp rNe (tCB (rLenSeq K) (tCons (tVar 8) tNil)) (tC (.int 3)))) (tOr (tNot (tB (tCall (sp_law_whole K) [] E0 (tCons (tOp (rIxT K) (tVar 8) (tC (.int 2))) tNil)))) (tTest (tOp rLt (tOp (rIxT K) (tVar 8) (tC (.int 2))) (tC (.int 1)))))))
 (tRet (tC (.bl false)))
 tNext)
 (tIfS (tOr (tTest (tOp (rIn K true) (tOp (rIxT K) (tVar 8) (tC (.int 0))) (tVar 2))) (tOr (tTest (tOp (rIn K true) (tOp (rIxT K) (tVar 8) (tC (.int 1))) (tVar 2))) (tTest (tOp rEq (tOp (rIxT K) (tVar 8) (tC (.int 0))) (tOp (rIxT K) (tVar 8) (tC (.int 1)))))))
 (tRet (tC (.bl false)))
 tNext)))
 (tSeq (tAsg (tC (.int 0)) (gName 9))
 (tSeq (tFor (iList K (tVar 2)) (gName 10)
 (tSeq (tAsg (tCall (sp_law_moved K) [] E0 (tCons (tVar 3) (tCons (tVar 10) tNil))) (gName 11))
 (C8.tCut (tIfS (tTest (tOp rNe (tVar 11) (tC (.int 0))))
 (tAsg (tOp rAdd (tVar 9) (tC (.int 1))) (gName 9))
 tNext)
 (tIfS (tTest (tOp rNe (tCall (sp_law_moved K) [] E0 (tCons (tVar 7) (tCons (tVar 10) tNil))) (tVar 11)))
 (tRet (tC (.bl false)))
 tNext))))
 (tRet (tOrV (tAndV (tOp rEq (tCB (rLenSeq K) (tCons (tVar 7) tNil)) (tC (.int 0))) (tOp rEq (tVar 9) (tC (.int 0)))) (tOp rLt (tCB (rLenSeq K) (tCons (tVar 7) tNil)) (tVar 9))))))))))))))

theorem len_law {K : PySem.W.Frag} : ∀ vs H Q E, sp_law K vs H Q E → vs.length = ["_law_script"].length := by
  rintro vs H Q E ⟨s, n, rfl, _⟩; rfl
theorem pure_law {K : PySem.W.Frag} {vs : List V} {H : Hp} {Q : VK} {E : XK} (h : sp_law K vs H Q E) : t_law K { nx := fun _ H' => Q .non H', rt := Q } (start N_law vs) H := by
  obtain ⟨a, sc, rfl, hS, hl, k⟩ := h
  unfold t_law
  walk_at "xs"
  refine ⟨a, sc, 64, rfl, hS, hl, by decide, fun p rows H1 np s1 hp hm hm2 hb => ?_⟩
  walk_at "xs"
  refine al_from (i := 2) (by walk_at "hp") rfl fun q H3 nq s3 hq => ?_
  have hp3 := s3 _ _ hp
  walk_at "xs"
  have m0 := b_mod (rows.getD (Int.toNat 0) 0) 8 (by decide)
  obtain ⟨n, hn⟩ : ∃ n : Nat, 1 + rows.getD (Int.toNat 0) 0 % 8 = n := ⟨(1 + rows.getD (Int.toNat 0) 0 % 8).toNat, by omega⟩
  rw [hn]
  have n8 : 1 ≤ n ∧ n ≤ 8 := by omega
  clear hn m0
  refine ⟨q, rows.drop 2, n, rfl, SqL.of hq, by rw [List.length_drop]; omega, by omega, fun x hx => hb x (List.mem_of_mem_drop hx), fun W ws H4 nW s4 hW wl nd ok => ?_⟩
  have hp4 := s4 _ _ hp3
  walk_at "xs"
  refine al_lst fun M H5 nM s5 hM => ?_
  have hp5 := s5 _ _ hp4
  have hW5 := s5 _ _ hW
  have neW : W ≠ M := ne_of_none hW nM
  have neP : p ≠ M := ne_of_none hp4 nM
  walk_at "xs"
  have m1 := b_mod (rows.getD (Int.toNat 10) 0) 17 (by decide)
  obtain ⟨m, hm1⟩ : ∃ m : Nat, rows.getD (Int.toNat 10) 0 % 17 = m := ⟨(rows.getD (Int.toNat 10) 0 % 17).toNat, by omega⟩
  rw [hm1]
  have m16 : m ≤ 16 := by omega
  clear m1 hm1
  refine ⟨m, rfl, by omega, by omega, for_by turnsR (fun i σ H' => ∃ (ds : List Debt) (u1 u2 : Option V), σ = [some (.ref a), some (.ref p), some (.ref W), some (.ref M), u1, u2, none, none, none, none, none, none] ∧ Same H4 H' ∧ LsAt K [M] H' M (ds.map dTr) ∧ ds.length = i ∧ ∀ d ∈ ds, d.1 ∈ ws ∧ d.2.1 ∈ ws)
    ⟨[], none, none, rfl, s5, ⟨[], hM, .nil⟩, rfl, fun _ h => (nomatch h)⟩ (fun _ _ _ _ _ => trivial) ?_ ?_⟩
  · rintro i y σ H6 _ hi ⟨ds, u1, u2, rfl, s6, ⟨xs, hM6, hD6⟩, dl, dok⟩ ⟨rfl, rfl⟩
    have hi' : i < m := by omega
    have hp6 := s6 _ _ hp4
    have hW6 := s6 _ _ hW
    have wn : (ws.map vS).length = n := by rw [List.length_map, wl]
    walk_at "xs"
    refine x_cut (fun σ H' => ∃ cs : Int, σ = [some (.ref a), some (.ref p), some (.ref W), some (.ref M), some (.int (0 + (i : Int))), some (.int cs), none, none, none, none, none, none] ∧ H6 = H') ?_ ?_
    · walk_at "xs"
      walk_at "if"
      · walk_at "xs"
        exact ⟨_, rfl, rfl⟩
      · exact ⟨_, rfl, rfl⟩
    rintro _ _ ⟨cs, rfl, rfl⟩
    walk_at "xs"
    refine ⟨tyL (SqL.of hM6), ?_⟩
    walk_at "xs"
    refine x_lenL (SqL.of hW6) ?_
    rw [wn]
    walk_at "xs"
    obtain ⟨j1, hj1, e1⟩ := name_mod (rows.getD ((11 : Int) + 3 * (0 + (i : Int))).toNat 0) (ws := ws) (by omega)
    rw [wl] at e1
    refine x_ixL (SqL.of hW6) e1 ?_
    walk_at "xs"
    refine x_lenL (SqL.of hW6) ?_
    rw [wn]
    walk_at "xs"
    obtain ⟨j2, hj2, e2⟩ := name_mod (rows.getD ((12 : Int) + 3 * (0 + (i : Int))).toNat 0) (ws := ws) (by omega)
    rw [wl] at e2
    refine x_ixL (SqL.of hW6) e2 ?_
    walk_at "xs"
    refine al_tup fun T H7 nT s7 hT => ?_
    have hM7 := s7 _ _ hM6
    walk_at "xs"
    have xl : xs.length = ds.length := by rw [dpAll_len hD6, List.length_map]
    refine x_append hM7 (small (by omega)) ?_
    have neM : T ≠ M := fun e => by subst e; rw [hM6] at nT; cases nT
    refine ⟨ds ++ [(j1, j2, cs)], _, _, rfl, same_upd (s6.trans s7) nM, ⟨_, upd_same, ?_⟩, by rw [List.length_append, dl]; rfl, fun x hx => ?_⟩
    · rw [hide_upd (by simp), List.map_append]
      refine dpAll_snoc (dpAll_same (hide_mono s7) hD6) (tr_dp (p := (j1, j2, cs)) (SqT.of ?_))
      rw [hide_out (by simpa using neM)]
      exact hT
    · rcases List.mem_append.mp hx with hx | hx
      · exact dok x hx
      · cases List.mem_singleton.mp hx; exact ⟨hj1, hj2⟩
  rintro σ H6 ⟨ds, u1, u2, rfl, s6, ⟨xs, hM6, hD6⟩, dl, dok⟩
  have dl' : ds.length ≤ 16 := by omega
  have hW6 := s6 _ _ hW
  have dM : Dp K H6 (.ref M) (.list (ds.map dTr)) := .lst (SqL.of hM6) (dpAll_same hide_same hD6)
  walk_at "xs"
  refine al_list (SqL.of hM6) fun N H7 nN s7 hN => ?_
  walk_at "xs"
  refine ⟨_, ds, ws, rfl, .lst (SqL.of hN) (dpAll_same (hide_same.trans s7) hD6), by omega, by omega, dok, fun P ns H8 nP s8 hP nr => ?_⟩
  have zs := nets_sum nr
  have st := settled nd dok nr
  have kl : ns.length ≤ 8 := by
    have kn : (keysN ns).Nodup := nr.srt.imp fun {a b} z e => by subst e; exact wlt_irr a z
    have := nodup_subG kn (m := ws) fun x hx => by
      obtain ⟨d, hd, e⟩ := (nr.key x).mp hx
      have := dok d hd
      exact e.elim (fun e => e ▸ this.1) fun e => e ▸ this.2
    unfold keysN at this
    rw [List.length_map] at this
    omega
  walk_at "xs"
  refine ⟨_, ns, rfl, hP.dp, by omega, fun z => absurd zs z, fun _ T H9 nT s9 hT => ?_⟩
  generalize trRows ns = rw at st hT
  have dT := hT.dp
  obtain ⟨ts, hT1, hT2⟩ := hT
  have tl : ts.length = rw.length := by rw [dpAll_len hT2, List.length_map]
  have hW9 : H9 W = some (.lst (ws.map vS)) := by walk_at "hp"
  have dM9 : Dp K H9 (.ref M) (.list (ds.map dTr)) := dp_same ((s7.trans s8).trans s9) dM
  walk_at "xs"
  refine isi_list_list (SqL.of hT1) ?_
  walk_at "xs"
  refine ⟨T, rfl, ⟨ts, SqL.of hT1⟩, for_by (turnsL (xs := ts)) (fun j σ H' => ∃ (v1 : Option V), σ = [some (.ref a), some (.ref p), some (.ref W), some (.ref M), u1, u2, some (.ref P), some (.ref T), v1, none, none, none] ∧ Same H9 H')
    ⟨none, rfl, Same.refl _⟩ (fun j σ H' _ p => by obtain ⟨_, _, s⟩ := p; exact s.seq (SqL.of hT1)) ?_ ?_⟩
  · rintro j x σ H10 _ hj ⟨v1, rfl, s10⟩ ⟨rfl, hx1⟩
    obtain ⟨d0, e1, e2⟩ := dpAll_get hT2 hx1
    rw [List.getElem?_map] at e1
    obtain ⟨dd, e3, rfl⟩ := Option.map_eq_some_iff.mp e1
    obtain ⟨t, rfl, ht⟩ := dp_tr (dp_same (hide_same.trans s10) e2)
    have hr := st.row dd (List.mem_of_getElem? e3)
    have hW10 := s10 _ _ hW9
    walk_at "xs"
    refine isi_tuple_tuple ht ?_
    walk_at "xs"
    refine x_lenT ht ?_
    walk_at "xs"
    refine x_iteN (fun c => absurd rfl c) fun _ => ?_
    walk_at "xs"
    refine x_ixT ht (v := .int dd.2.2) (by rfl) ?_
    walk_at "xs"
    refine ⟨_, rfl, ?_⟩
    walk_at "xs"
    refine x_ixT ht (v := .int dd.2.2) (by rfl) ?_
    walk_at "xs"
    refine x_iteD (fun c => absurd c (by omega)) fun _ => ?_
    walk_at "xs"
    refine x_ixT ht (v := vS dd.1) (by rfl) ?_
    walk_at "xs"
    refine x_notInS (SqL.of hW10) ?_
    walk_at "xs"
    refine x_iteN (fun c => absurd hr.1 c) fun _ => ?_
    walk_at "xs"
    refine x_ixT ht (v := vS dd.2.1) (by rfl) ?_
    walk_at "xs"
    refine x_notInS (SqL.of hW10) ?_
    walk_at "xs"
    refine x_iteN (fun c => absurd hr.2.1 c) fun _ => ?_
    walk_at "xs"
    refine x_ixT ht (v := vS dd.1) (by rfl) ?_
    walk_at "xs"
    refine x_ixT ht (v := vS dd.2.1) (by rfl) ?_
    walk_at "xs"
    refine x_iteD (fun c => absurd (SX.S_inj c) hr.2.2.1) fun _ => ?_
    exact ⟨_, rfl, s10⟩
  rintro σ H10 ⟨v1, rfl, s10⟩
  have hW10 := s10 _ _ hW9
  have dM10 := dp_same s10 dM9
  have dT10 := dp_same s10 dT
  walk_at "xs"
  refine ⟨W, rfl, ⟨_, SqL.of hW10⟩, for_by (turnsL (xs := ws.map vS)) (fun j σ H' => ∃ (v2 v3 : Option V), σ = [some (.ref a), some (.ref p), some (.ref W), some (.ref M), u1, u2, some (.ref P), some (.ref T), v1, some (.int ((ws.take j).countP fun w => decide (netOf ds w ≠ 0) : Nat)), v2, v3] ∧ Same H10 H')
    ⟨none, none, rfl, Same.refl _⟩ (fun j σ H' _ p => by obtain ⟨_, _, _, s⟩ := p; exact s.seq (SqL.of hW10)) ?_ ?_⟩
  · rintro j x σ H11 _ hj ⟨v2, v3, rfl, s11⟩ ⟨rfl, hx⟩
    rw [List.length_map] at hj
    rw [List.getElem?_map, List.getElem?_eq_getElem hj] at hx
    cases hx
    have tk : ws.take (j + 1) = ws.take j ++ [ws[j]] := by rw [List.take_succ, List.getElem?_eq_getElem hj]; rfl
    walk_at "xs"
    refine ⟨_, ds, ws[j], rfl, dp_same s11 dM10, fun H12 s12 => ?_⟩
    walk_at "xs"
    refine x_cut (fun σ H' => σ = [some (.ref a), some (.ref p), some (.ref W), some (.ref M), u1, u2, some (.ref P), some (.ref T), v1, some (.int ((ws.take (j + 1)).countP fun w => decide (netOf ds w ≠ 0) : Nat)), some (vS ws[j]), some (.int (netOf ds ws[j]))] ∧ H12 = H') ?_ ?_
    · walk_at "xs"
      rw [tk, List.countP_append]
      walk_at "if"
      · rename_i c
        walk_at "xs"
        refine ⟨?_, rfl⟩
        simp [c]
      · rename_i c
        refine ⟨?_, rfl⟩
        simp [c]
    rintro _ _ ⟨rfl, rfl⟩
    walk_at "xs"
    refine ⟨_, rw, ws[j], rfl, dp_same (s11.trans s12) dT10, fun H13 s13 => ?_⟩
    walk_at "xs"
    rw [st.net _ (List.getElem_mem _)]
    refine x_iteN (fun c => absurd rfl c) fun _ => ?_
    exact ⟨_, _, rfl, (s11.trans s12).trans s13⟩
  rintro σ H11 ⟨v2, v3, rfl, s11⟩
  rw [List.length_map, List.take_length]
  have hT11 := (s10.trans s11) _ _ hT1
  walk_at "xs"
  refine x_lenL (SqL.of hT11) ?_
  rw [tl]
  walk_at "xs"
  rcases st.few with ⟨rfl, e⟩ | e
  · rw [e]
    refine x_iteD (fun _ => ?_) fun c => absurd rfl c
    walk_at "xs"
    refine x_iteD (fun _ => ?_) fun c => absurd rfl c
    exact k _
  · have fin : (fun (v : V) (H' : Hp) => True) (.bl true) H11 := trivial
    walk_at "if"
    · rename_i c
      walk_at "xs"
      walk_at "if"
      · exact k _
      · walk_at "xs"
        refine x_lenL (SqL.of hT11) ?_
        rw [tl]
        walk_at "xs"
        rw [decide_eq_true (by omega)]
        exact k _
    · rename_i c
      walk_at "xs"
      refine x_lenL (SqL.of hT11) ?_
      rw [tl]
      walk_at "xs"
      rw [decide_eq_true (by omega)]
      exact k _

end Su
namespace Su
open PySem L2
def top (i : Nat) : Stmt := PySem.Challenge.pw_susu_k16_whole_transfers_settle.main.body.getD i (.Pass ⟨0, 0, 0, 0⟩)
abbrev s_law_draws : Stmt := top 8
abbrev s_law_moved : Stmt := top 11
abbrev s_law_names : Stmt := top 10
abbrev s_law_whole : Stmt := top 9
abbrev s_net_rows : Stmt := top 4
abbrev s_first_with : Stmt := top 5
abbrev s_transfers : Stmt := top 6
abbrev s_law : Stmt := top 12
structure Fx (K : PySem.W.Frag) (mg : Str → Option Value) : Prop where
  n_abs : mg "abs" = none
  n_bool : mg "bool" = none
  n_enumerate : mg "enumerate" = none
  n_int : mg "int" = none
  n_isinstance : mg "isinstance" = none
  n_len : mg "len" = none
  n_list : mg "list" = none
  n_min : mg "min" = none
  n_range : mg "range" = none
  n_sorted : mg "sorted" = none
  n_sum : mg "sum" = none
  n_tuple : mg "tuple" = none
  g_Uneven : mg "Uneven" = some (.ref (He.ga K "Uneven"))
  k_Uneven : ∃ u, mg "Uneven" = some u ∧ RelV (.ref (He.ga K "Uneven")) u
  x_Uneven : Xc K mg "Uneven"
  g_law_draws : mg "_law_draws" = some (.ref (He.fAd K ("_law_draws", none)))
  F_law_draws : ∃ fd, FunD K "_law_draws" "_law_draws" (defArgs s_law_draws) (defBody s_law_draws) (defScope s_law_draws) [] [] (He.fAd K ("_law_draws", none)) fd
  g_law_moved : mg "_law_moved" = some (.ref (He.fAd K ("_law_moved", none)))
  F_law_moved : ∃ fd, FunD K "_law_moved" "_law_moved" (defArgs s_law_moved) (defBody s_law_moved) (defScope s_law_moved) [] [] (He.fAd K ("_law_moved", none)) fd
  g_law_names : mg "_law_names" = some (.ref (He.fAd K ("_law_names", none)))
  F_law_names : ∃ fd, FunD K "_law_names" "_law_names" (defArgs s_law_names) (defBody s_law_names) (defScope s_law_names) [] [] (He.fAd K ("_law_names", none)) fd
  g_law_whole : mg "_law_whole" = some (.ref (He.fAd K ("_law_whole", none)))
  F_law_whole : ∃ fd, FunD K "_law_whole" "_law_whole" (defArgs s_law_whole) (defBody s_law_whole) (defScope s_law_whole) [] [] (He.fAd K ("_law_whole", none)) fd
  g_net_rows : mg "net_rows" = some (.ref (He.fAd K ("net_rows", none)))
  F_net_rows : ∃ fd, FunD K "net_rows" "net_rows" (defArgs s_net_rows) (defBody s_net_rows) (defScope s_net_rows) [] [] (He.fAd K ("net_rows", none)) fd
  g_first_with : mg "first_with" = some (.ref (He.fAd K ("first_with", none)))
  F_first_with : ∃ fd, FunD K "first_with" "first_with" (defArgs s_first_with) (defBody s_first_with) (defScope s_first_with) [] [] (He.fAd K ("first_with", none)) fd
  g_transfers : mg "transfers" = some (.ref (He.fAd K ("transfers", none)))
  F_transfers : ∃ fd, FunD K "transfers" "transfers" (defArgs s_transfers) (defBody s_transfers) (defScope s_transfers) [] [] (He.fAd K ("transfers", none)) fd
  g_law : mg "law" = some (.ref (He.fAd K ("law", none)))
  F_law : ∃ fd, FunD K "law" "law" (defArgs s_law) (defBody s_law) (defScope s_law) [] [] (He.fAd K ("law", none)) fd
section
variable {P : Program} {w : World} {K : PySem.W.Frag} {mg : Str → Option Value} {base : Heap}
theorem sc_law_draws : FnScope N_law_draws ["_law_script", "_law_many"] (defScope s_law_draws) := ⟨rfl, rfl, rfl, by decide +kernel, rfl, by decide +kernel, by decide +kernel⟩
theorem ok_law_draws (T : Fx K mg) : Cl P w K mg base CX0 1 "_law_draws" (sp_law_draws K) := by
  obtain ⟨fd, F⟩ := T.F_law_draws
  have sc := sc_law_draws
  refine ⟨_, fd, ["_law_script", "_law_many"], T.g_law_draws, F.kp, F.bindsN fun _ _ _ _ _ _ us hl => match us, hl with | [_, _], _ => rfl, ?_⟩
  refine F.ok sc (len_law_draws) (fun cdv A outer s H vs Q E hr h => ⟨t_law_draws K, PSs.nox ?_, pure_law_draws h⟩)
  exact (pss_cons (ps_set (i := 2) sc.nd rfl (Or.inl rfl) (pe_lst pa_nil))
 (pss_cons (ps_set (i := 3) sc.nd rfl (Or.inl rfl) pe_int)
 (pss_cons (ps_for PassesOwn.never rfl (pi_list (pv 0)) (pg_name (i := 4) sc.nd rfl (Or.inl rfl))
 (pss_cons (ps_set (i := 3) sc.nd rfl (Or.inl rfl) (pe_op op_mod (pe_op op_add (pe_op op_mul (pv 3) pe_int) (pv 4)) pe_int))
 (pss_cons (ps_set (i := 5) sc.nd rfl (Or.inl rfl) (pe_callB call_abs (by rfl) T.n_abs b_abs (pa_cons (pv 4) pa_nil)))
 (C8.pss_cut (ps_if (pt_cmpR op_lt (pv 5) (pe_op op_pow pe_int pe_int) (nomark _))
 (pss_cons (ps_expr (pe_bm PySem.F.plainAttrs_list PySem.F.slot_list_append PySem.F.type_list_append mt_append (pv 2) (pa_cons (pv 4) pa_nil)))
 (pss_one (ps_set (i := 5) sc.nd rfl (Or.inl rfl) pe_int)))
 pss_nil)
 (pss_one (ps_while PassesOwn.never (PW.pt (pw_and (pt_cmpR op_gt (pv 5) pe_int (nomark _)) (pw_and1 (pt_cmpR op_lt (pe_callB call_len_seq (by rfl) T.n_len b_len (pa_cons (pv 2) pa_nil)) (pv 1) (nomark _)))))
 (pss_cons (ps_expr (pe_bm PySem.F.plainAttrs_list PySem.F.slot_list_append PySem.F.type_list_append mt_append (pv 2) (pa_cons (pe_op op_mod (pv 5) pe_int) pa_nil)))
 (pss_one (ps_set (i := 5) sc.nd rfl (Or.inl rfl) (pe_op op_fdiv (pv 5) pe_int))))))))))
 (pss_cons (ps_while PassesOwn.never (pt_cmpR op_lt (pe_callB call_len_seq (by rfl) T.n_len b_len (pa_cons (pv 2) pa_nil)) (pv 1) (nomark _))
 (pss_cons (ps_set (i := 3) sc.nd rfl (Or.inl rfl) (pe_op op_mod (pe_op op_add (pe_op op_mul (pv 3) pe_int) pe_int) pe_int))
 (pss_one (ps_expr (pe_bm PySem.F.plainAttrs_list PySem.F.slot_list_append PySem.F.type_list_append mt_append (pv 2) (pa_cons (pe_op op_mod (pe_op op_mul (pv 3) (pv 3)) pe_int) pa_nil))))))
 (pss_one (ps_ret (pv 2)))))))
theorem sc_law_moved : FnScope N_law_moved ["_law_rows", "_law_name"] (defScope s_law_moved) := ⟨rfl, rfl, rfl, by decide +kernel, rfl, by decide +kernel, by decide +kernel⟩
theorem ok_law_moved (T : Fx K mg) : Cl P w K mg base CX0 1 "_law_moved" (sp_law_moved K) := by
  obtain ⟨fd, F⟩ := T.F_law_moved
  have sc := sc_law_moved
  refine ⟨_, fd, ["_law_rows", "_law_name"], T.g_law_moved, F.kp, F.bindsN fun _ _ _ _ _ _ us hl => match us, hl with | [_, _], _ => rfl, ?_⟩
  refine F.ok sc (len_law_moved) (fun cdv A outer s H vs Q E hr h => ⟨t_law_moved K, PSs.nox ?_, pure_law_moved h⟩)
  exact (pss_cons (ps_set (i := 2) sc.nd rfl (Or.inl rfl) pe_int)
 (pss_cons (ps_for PassesOwn.never rfl (pi_list (pv 0)) (pg_tup rfl (pgs_cons (pg_name (i := 3) sc.nd rfl (Or.inl rfl)) (pgs_cons (pg_name (i := 4) sc.nd rfl (Or.inl rfl)) (pgs_cons (pg_name (i := 5) sc.nd rfl (Or.inl rfl)) pgs_nil))))
 (C8.pss_cut (ps_if (pt_cmpR op_eq (pv 3) (pv 1) (nomark _))
 (pss_one (ps_set (i := 2) sc.nd rfl (Or.inl rfl) (pe_op op_sub (pv 2) (pv 5))))
 pss_nil)
 (pss_one (ps_if (pt_cmpR op_eq (pv 4) (pv 1) (nomark _))
 (pss_one (ps_set (i := 2) sc.nd rfl (Or.inl rfl) (pe_op op_add (pv 2) (pv 5))))
 pss_nil))))
 (pss_one (ps_ret (pv 2)))))
theorem sc_law_names : FnScope N_law_names ["_law_some", "_law_many"] (defScope s_law_names) := ⟨rfl, rfl, rfl, by decide +kernel, rfl, by decide +kernel, by decide +kernel⟩
theorem ok_law_names (T : Fx K mg) : Cl P w K mg base CX0 1 "_law_names" (sp_law_names K) := by
  obtain ⟨fd, F⟩ := T.F_law_names
  have sc := sc_law_names
  refine ⟨_, fd, ["_law_some", "_law_many"], T.g_law_names, F.kp, F.bindsN fun _ _ _ _ _ _ us hl => match us, hl with | [_, _], _ => rfl, ?_⟩
  refine F.ok sc (len_law_names) (fun cdv A outer s H vs Q E hr h => ⟨t_law_names K, PSs.nox ?_, pure_law_names h⟩)
  exact (pss_cons (ps_set (i := 2) sc.nd rfl (Or.inr rfl) pe_str)
 (pss_cons (ps_set (i := 3) sc.nd rfl (Or.inl rfl) (pe_lst pa_nil))
 (pss_cons (ps_for PassesOwn.never rfl (pi_range1 (by rfl) T.n_range (pa_cons (pv 1) pa_nil)) (pg_name (i := 4) sc.nd rfl (Or.inl rfl))
 (pss_cons (ps_set (i := 5) sc.nd rfl (Or.inr rfl) (pe_ix ix_list (pv 0) (pv 4) (fun _ _ => rfl)))
 (pss_cons (ps_set (i := 6) sc.nd rfl (Or.inl rfl) (pe_op op_add pe_int (pe_op op_mod (pv 5) pe_int)))
 (pss_cons (ps_set (i := 7) sc.nd rfl (Or.inr rfl) (pe_op op_mod (pe_op op_fdiv (pv 5) pe_int) pe_int))
 (pss_cons (ps_set (i := 8) sc.nd rfl (Or.inl rfl) (pe_join pe_str (pe_lc (own := [("_law_k", 12)]) (g := (gName 12)) (tt := tYes) (by rfl) sc.nd (pi_range1 (by rfl) T.n_range (pa_cons (pv 6) pa_nil)) (blkOk_by (own := [("_law_k", 12)]) (N := N_law_names) (sc := defScope s_law_names) (by decide +kernel)) (fun _ _ _ _ _ => (pg_name (i := 12) sc.nd rfl (Or.inl rfl))) (fun _ _ _ _ _ => pts_nil) (fun _ _ _ _ _ => (pe_ix ix_str (pv 2) (pe_op op_mod (pe_op op_add (pe_op op_fdiv (pv 5) pe_int) (pe_op op_mul (pv 12) (pv 7))) pe_int) (fun _ _ => rfl))))))
 (pss_cons (ps_set (i := 9) sc.nd rfl (Or.inl rfl) (pe_op op_mod (pe_op op_fdiv (pv 5) pe_int) (pv 6)))
 (pss_cons (ps_for PassesOwn.never rfl (pi_range1 (by rfl) T.n_range (pa_cons pe_int pa_nil)) (pg_name (i := 10) sc.nd rfl (Or.inl rfl))
 (pss_one (ps_if (pt_cmpR op_in_seq (pv 8) (pv 3) rfl)
 (pss_cons (ps_set (i := 11) sc.nd rfl (Or.inl rfl) (pe_ix ix_str (pv 2) (pe_op op_mod (pe_op op_add (pv 5) (pv 10)) pe_int) (fun _ _ => rfl)))
 (pss_one (ps_set (i := 8) sc.nd rfl (Or.inl rfl) (pe_op op_add_str (pe_op op_add_str (pe_slice C8.sl_txt (pv 8) po_none (po_some (pv 9))) (pv 11)) (pe_slice C8.sl_txt (pv 8) (po_some (pe_op op_add (pv 9) pe_int)) po_none)))))
 pss_nil)))
 (pss_one (ps_expr (pe_bm PySem.F.plainAttrs_list PySem.F.slot_list_append PySem.F.type_list_append mt_append (pv 3) (pa_cons (pv 8) pa_nil)))))))))))
 (pss_one (ps_ret (pv 3))))))
theorem sc_law_whole : FnScope N_law_whole ["_law_told"] (defScope s_law_whole) := ⟨rfl, rfl, rfl, by decide +kernel, rfl, by decide +kernel, by decide +kernel⟩
theorem ok_law_whole (T : Fx K mg) : Cl P w K mg base CX0 1 "_law_whole" (sp_law_whole K) := by
  obtain ⟨fd, F⟩ := T.F_law_whole
  have sc := sc_law_whole
  refine ⟨_, fd, ["_law_told"], T.g_law_whole, F.kp, F.bindsN fun _ _ _ _ _ _ us hl => match us, hl with | [_], _ => rfl, ?_⟩
  refine F.ok sc (len_law_whole) (fun cdv A outer s H vs Q E hr h => ⟨t_law_whole K, PSs.nox ?_, pure_law_whole h⟩)
  exact (pss_one (ps_ret (pe_and (pe_callB call_isi (by rfl) T.n_isinstance b_isinstance (pa_cons (pv 0) (pa_cons (pe_bltn (v := .ty "int") (by rfl) T.n_int b_int rfl) pa_nil))) (pe_one (pe_not (pe_callB call_isi (by rfl) T.n_isinstance b_isinstance (pa_cons (pv 0) (pa_cons (pe_bltn (v := .ty "bool") (by rfl) T.n_bool b_bool rfl) pa_nil))))))))
theorem sc_net_rows : FnScope N_net_rows ["debts"] (defScope s_net_rows) := ⟨rfl, rfl, rfl, by decide +kernel, rfl, by decide +kernel, by decide +kernel⟩
theorem ok_net_rows (T : Fx K mg) : Cl P w K mg base CX0 1 "net_rows" (sp_net_rows K) := by
  obtain ⟨fd, F⟩ := T.F_net_rows
  have sc := sc_net_rows
  refine ⟨_, fd, ["debts"], T.g_net_rows, F.kp, F.bindsN fun _ _ _ _ _ _ us hl => match us, hl with | [_], _ => rfl, ?_⟩
  refine F.ok sc (len_net_rows) (fun cdv A outer s H vs Q E hr h => ⟨t_net_rows K, PSs.nox ?_, pure_net_rows h⟩)
  have hu := hu_of hr
  exact (pss_cons (ps_set (i := 1) sc.nd rfl (Or.inr rfl) pe_dnewK)
 (pss_cons (ps_for PassesOwn.never rfl (pi_list (pv 0)) (pg_tup rfl (pgs_cons (pg_name (i := 2) sc.nd rfl (Or.inl rfl)) (pgs_cons (pg_name (i := 3) sc.nd rfl (Or.inl rfl)) (pgs_cons (pg_name (i := 4) sc.nd rfl (Or.inl rfl)) pgs_nil))))
 (pss_cons (ps_dput hu (pv 1) (pv 2) (pe_op op_sub (pe_dget2 hu (pv 1) (pv 2) pe_int ⟨rfl, rfl, rfl, rfl⟩) (pv 4)) rfl)
 (pss_one (ps_dput hu (pv 1) (pv 3) (pe_op op_add (pe_dget2 hu (pv 1) (pv 3) pe_int ⟨rfl, rfl, rfl, rfl⟩) (pv 4)) rfl))))
 (pss_one (ps_ret (pe_lc (own := [("name", 5)]) (g := (gName 5)) (tt := tYes) (by rfl) sc.nd (pi_list (pe_callB (call_sortedD rfl) (by rfl) T.n_sorted b_sorted (pa_cons (pv 1) pa_nil))) (blkOk_by (own := [("name", 5)]) (N := N_net_rows) (sc := defScope s_net_rows) (by decide +kernel)) (fun _ _ _ _ _ => (pg_name (i := 5) sc.nd rfl (Or.inl rfl))) (fun _ _ _ _ _ => pts_nil) (fun _ _ _ _ _ => (pe_tup (pa_cons (pv 5) (pa_cons (pe_dget hu (pv 1) (pv 5) (fun _ _ => rfl)) pa_nil)))))))))
theorem sc_first_with : FnScope N_first_with ["left", "sign"] (defScope s_first_with) := ⟨rfl, rfl, rfl, by decide +kernel, rfl, by decide +kernel, by decide +kernel⟩
theorem ok_first_with (T : Fx K mg) : Cl P w K mg base CX0 1 "first_with" (sp_first_with K) := by
  obtain ⟨fd, F⟩ := T.F_first_with
  have sc := sc_first_with
  refine ⟨_, fd, ["left", "sign"], T.g_first_with, F.kp, F.bindsN fun _ _ _ _ _ _ us hl => match us, hl with | [_, _], _ => rfl, ?_⟩
  refine F.ok sc (len_first_with) (fun cdv A outer s H vs Q E hr h => ⟨t_first_with K, PSs.nox ?_, pure_first_with h⟩)
  exact (pss_cons (ps_for PassesOwn.never rfl (pi_enum (by rfl) T.n_enumerate (pa_cons (pv 0) pa_nil)) (pg_tup rfl (pgs_cons (pg_name (i := 2) sc.nd rfl (Or.inl rfl)) (pgs_cons (pg_name (i := 3) sc.nd rfl (Or.inl rfl)) pgs_nil)))
 (pss_one (ps_if (pt_cmpR op_gt (pe_op op_mul (pv 3) (pv 1)) pe_int (nomark _))
 (pss_one (ps_ret (pv 2)))
 pss_nil)))
 (pss_one (ps_ret (pe_un un_neg pe_int))))
theorem sc_transfers : FnScope N_transfers ["nets"] (defScope s_transfers) := ⟨rfl, rfl, rfl, by decide +kernel, rfl, by decide +kernel, by decide +kernel⟩
theorem ok_transfers (T : Fx K mg) : Cl P w K mg base (L2.CX P w) 2 "transfers" (sp_transfers K) := by
  obtain ⟨fd, F⟩ := T.F_transfers
  have sc := sc_transfers
  refine ⟨_, fd, ["nets"], T.g_transfers, F.kp, F.bindsN fun _ _ _ _ _ _ us hl => match us, hl with | [_], _ => rfl, ?_⟩
  refine F.ok sc (len_transfers) (fun cdv A outer s H vs Q E hr h => ⟨t_transfers K E, ?_, pure_transfers h⟩)
  exact (pss_cons (ps_setLc (i := 1) (own := [("name", 6), ("net", 7)]) (g := (gTup K 2 (gCons (gName 6) (gCons (gName 7) gNil)))) (tt := tYes) (by rfl) sc.nd rfl rfl (sw_true rfl rfl rfl (by decide +kernel)) (pi_list (pv 0)) (blkOk_by (own := [("name", 6), ("net", 7)]) (N := N_transfers) (sc := defScope s_transfers) (by decide +kernel)) (fun _ _ _ _ _ => (pg_tup rfl (pgs_cons (pg_name (i := 6) sc.nd rfl (Or.inl rfl)) (pgs_cons (pg_name (i := 7) sc.nd rfl (Or.inl rfl)) pgs_nil)))) (fun _ _ _ _ _ => pts_nil) (fun _ _ _ _ _ => (pv 7)))
 (pss_cons (ps_if (pt_cmpR op_ne (pe_callB (cr_sum rfl) (by rfl) T.n_sum b_sum (pa_cons (pv 1) pa_nil)) pe_int (nomark _))
 (pss_one (ps_raise0 rfl (takes_of rfl rfl rfl rfl) T.x_Uneven (by rfl)))
 pss_nil)
 (pss_cons (ps_set (i := 2) sc.nd rfl (Or.inl rfl) (pe_lst pa_nil))
 (pss_cons (ps_set (i := 3) sc.nd rfl (Or.inl rfl) (pe_cl (ok_first_with T) hr (by decide) (by rfl) pass0 (pa_cons (pv 1) (pa_cons (pe_un un_neg pe_int) pa_nil))))
 (pss_cons (ps_while (passes_of rfl) (pt_cmpR op_ne (pv 3) (pe_un un_neg pe_int) (nomark _))
 (pss_cons (ps_set (i := 4) sc.nd rfl (Or.inl rfl) (pe_cl (ok_first_with T) hr (by decide) (by rfl) pass0 (pa_cons (pv 1) (pa_cons pe_int pa_nil))))
 (pss_cons (ps_set (i := 5) sc.nd rfl (Or.inl rfl) (pe_callB (call_min2 rfl) (by rfl) T.n_min b_min (pa_cons (pe_un un_neg (pe_ix ix_list (pv 1) (pv 3) (fun _ _ => rfl))) (pa_cons (pe_ix ix_list (pv 1) (pv 4) (fun _ _ => rfl)) pa_nil))))
 (pss_cons (ps_expr (pe_bm PySem.F.plainAttrs_list PySem.F.slot_list_append PySem.F.type_list_append mt_append (pv 2) (pa_cons (pe_tup (pa_cons (pe_ix ix_tup (pe_ix ix_list (pv 0) (pv 3) (fun _ _ => rfl)) pe_int (fun _ _ => rfl)) (pa_cons (pe_ix ix_tup (pe_ix ix_list (pv 0) (pv 4) (fun _ _ => rfl)) pe_int (fun _ _ => rfl)) (pa_cons (pv 5) pa_nil)))) pa_nil)))
 (pss_cons (ps_augS (pv 1) (pv 3) get_list (pv 5) ip_add set_list)
 (pss_cons (ps_augS (pv 1) (pv 4) get_list (pv 5) ip_sub set_list)
 (pss_one (ps_set (i := 3) sc.nd rfl (Or.inl rfl) (pe_cl (ok_first_with T) hr (by decide) (by rfl) pass0 (pa_cons (pv 1) (pa_cons (pe_un un_neg pe_int) pa_nil)))))))))))
 (pss_one (ps_ret (pv 2))))))))
theorem sc_law : FnScope N_law ["_law_script"] (defScope s_law) := ⟨rfl, rfl, rfl, by decide +kernel, rfl, by decide +kernel, by decide +kernel⟩
theorem ok_law_at {fd : FuncData} (T : Fx K mg) (F : FunD K "law" "law" (defArgs s_law) (defBody s_law) (defScope s_law) [] [] (He.fAd K ("law", none)) fd) : FnOk P w K mg base CX0 3 (He.fAd K ("law", none)) fd ["_law_script"] (sp_law K) := by
  have sc := sc_law
  refine F.ok sc (len_law) (fun cdv A outer s H vs Q E hr h => ⟨t_law K, PSs.nox ?_, pure_law h⟩)
  exact (pss_cons (ps_set (i := 1) sc.nd rfl (Or.inl rfl) (pe_cl (ok_law_draws T) hr (by decide) (by rfl) pass0 (pa_cons (pv 0) (pa_cons pe_int pa_nil))))
 (pss_cons (ps_set (i := 2) sc.nd rfl (Or.inl rfl) (pe_cl (ok_law_names T) hr (by decide) (by rfl) pass0 (pa_cons (pe_slice sl_list (pv 1) (po_some pe_int) po_none) (pa_cons (pe_op op_add pe_int (pe_op op_mod (pe_ix ix_list (pv 1) pe_int (fun _ _ => rfl)) pe_int)) pa_nil))))
 (pss_cons (ps_set (i := 3) sc.nd rfl (Or.inl rfl) (pe_lst pa_nil))
 (pss_cons (ps_for PassesOwn.never rfl (pi_range1 (by rfl) T.n_range (pa_cons (pe_op op_mod (pe_ix ix_list (pv 1) pe_int (fun _ _ => rfl)) pe_int) pa_nil)) (pg_name (i := 4) sc.nd rfl (Or.inl rfl))
 (pss_cons (ps_set (i := 5) sc.nd rfl (Or.inl rfl) (pe_callB call_abs (by rfl) T.n_abs b_abs (pa_cons (pe_ix ix_list (pv 1) (pe_op op_add pe_int (pe_op op_mul pe_int (pv 4))) (fun _ _ => rfl)) pa_nil)))
 (C8.pss_cut (ps_if (pt_cmpR op_eq (pe_op op_mod (pe_ix ix_list (pv 1) pe_int (fun _ _ => rfl)) pe_int) pe_int (nomark _))
 (pss_one (ps_set (i := 5) sc.nd rfl (Or.inl rfl) (pe_op op_mod (pe_ix ix_list (pv 1) (pe_op op_add pe_int (pe_op op_mul pe_int (pv 4))) (fun _ _ => rfl)) pe_int)))
 pss_nil)
 (pss_one (ps_expr (pe_bm PySem.F.plainAttrs_list PySem.F.slot_list_append PySem.F.type_list_append mt_append (pv 3) (pa_cons (pe_tup (pa_cons (pe_ix ix_list (pv 2) (pe_op op_mod (pe_ix ix_list (pv 1) (pe_op op_add pe_int (pe_op op_mul pe_int (pv 4))) (fun _ _ => rfl)) (pe_callB call_len_seq (by rfl) T.n_len b_len (pa_cons (pv 2) pa_nil))) (fun _ _ => rfl)) (pa_cons (pe_ix ix_list (pv 2) (pe_op op_mod (pe_ix ix_list (pv 1) (pe_op op_add pe_int (pe_op op_mul pe_int (pv 4))) (fun _ _ => rfl)) (pe_callB call_len_seq (by rfl) T.n_len b_len (pa_cons (pv 2) pa_nil))) (fun _ _ => rfl)) (pa_cons (pv 5) pa_nil)))) pa_nil)))))))
 (pss_cons (ps_set (i := 6) sc.nd rfl (Or.inl rfl) (pe_cl (ok_net_rows T) hr (by decide) (by rfl) pass0 (pa_cons (pe_callTy call_list_of (by rfl) T.n_list b_list (pa_cons (pv 3) pa_nil)) pa_nil)))
 (pss_cons (ps_set (i := 7) sc.nd rfl (Or.inl rfl) (pe_cl (ok_transfers T) hr (by decide) (by rfl) passL (pa_cons (pv 6) pa_nil)))
 (pss_cons (ps_if (pt_not (pt_val (pe_callB call_isi (by rfl) T.n_isinstance b_isinstance (pa_cons (pv 7) (pa_cons (pe_bltn (v := .ty "list") (by rfl) T.n_list b_list rfl) pa_nil)))))
 (pss_one (ps_ret pe_bl))
 pss_nil)
 (pss_cons (ps_for PassesOwn.never rfl (pi_list (pv 7)) (pg_name (i := 8) sc.nd rfl (Or.inl rfl))
 (pss_cons (ps_if (PW.pt (pw_or (pt_not (pt_val (pe_callB call_isi (by rfl) T.n_isinstance b_isinstance (pa_cons (pv 8) (pa_cons (pe_bltn (v := .ty "tuple") (by rfl) T.n_tuple b_tuple rfl) pa_nil))))) (pw_or (pt_cmpR op_ne (pe_callB call_len_seq (by rfl) T.n_len b_len (pa_cons (pv 8) pa_nil)) pe_int (nomark _)) (pw_or (pt_not (pt_val (pe_cl (ok_law_whole T) hr (by decide) (by rfl) pass0 (pa_cons (pe_ix ix_tup (pv 8) pe_int (fun _ _ => rfl)) pa_nil)))) (pw_or1 (pt_cmpR op_lt (pe_ix ix_tup (pv 8) pe_int (fun _ _ => rfl)) pe_int (nomark _)))))))
 (pss_one (ps_ret pe_bl))
 pss_nil)
 (pss_one (ps_if (PW.pt (pw_or (pt_cmpR op_notIn_seq (pe_ix ix_tup (pv 8) pe_int (fun _ _ => rfl)) (pv 2) rfl) (pw_or (pt_cmpR op_notIn_seq (pe_ix ix_tup (pv 8) pe_int (fun _ _ => rfl)) (pv 2) rfl) (pw_or1 (pt_cmpR op_eq (pe_ix ix_tup (pv 8) pe_int (fun _ _ => rfl)) (pe_ix ix_tup (pv 8) pe_int (fun _ _ => rfl)) (nomark _))))))
 (pss_one (ps_ret pe_bl))
 pss_nil))))
 (pss_cons (ps_set (i := 9) sc.nd rfl (Or.inl rfl) pe_int)
 (pss_cons (ps_for PassesOwn.never rfl (pi_list (pv 2)) (pg_name (i := 10) sc.nd rfl (Or.inl rfl))
 (pss_cons (ps_set (i := 11) sc.nd rfl (Or.inl rfl) (pe_cl (ok_law_moved T) hr (by decide) (by rfl) pass0 (pa_cons (pv 3) (pa_cons (pv 10) pa_nil))))
 (C8.pss_cut (ps_if (pt_cmpR op_ne (pv 11) pe_int (nomark _))
 (pss_one (ps_set (i := 9) sc.nd rfl (Or.inl rfl) (pe_op op_add (pv 9) pe_int)))
 pss_nil)
 (pss_one (ps_if (pt_cmpR op_ne (pe_cl (ok_law_moved T) hr (by decide) (by rfl) pass0 (pa_cons (pv 7) (pa_cons (pv 10) pa_nil))) (pv 11) (nomark _))
 (pss_one (ps_ret pe_bl))
 pss_nil)))))
 (pss_one (ps_ret (pe_or (pe_and (pe_cmpR op_eq (pe_callB call_len_seq (by rfl) T.n_len b_len (pa_cons (pv 7) pa_nil)) pe_int (nomark _)) (pe_one (pe_cmpR op_eq (pv 9) pe_int (nomark _)))) (pe_one (pe_cmpR op_lt (pe_callB call_len_seq (by rfl) T.n_len b_len (pa_cons (pv 7) pa_nil)) (pv 9) (nomark _))))))))))))))))

end
def dd_law_draws : He.DefD := ⟨("_law_draws", none), "_law_draws", "_law_draws", defArgs s_law_draws, defBody s_law_draws, defScope s_law_draws, [], []⟩
def dd_law_moved : He.DefD := ⟨("_law_moved", none), "_law_moved", "_law_moved", defArgs s_law_moved, defBody s_law_moved, defScope s_law_moved, [], []⟩
def dd_law_names : He.DefD := ⟨("_law_names", none), "_law_names", "_law_names", defArgs s_law_names, defBody s_law_names, defScope s_law_names, [], []⟩
def dd_law_whole : He.DefD := ⟨("_law_whole", none), "_law_whole", "_law_whole", defArgs s_law_whole, defBody s_law_whole, defScope s_law_whole, [], []⟩
def dd_net_rows : He.DefD := ⟨("net_rows", none), "net_rows", "net_rows", defArgs s_net_rows, defBody s_net_rows, defScope s_net_rows, [], []⟩
def dd_first_with : He.DefD := ⟨("first_with", none), "first_with", "first_with", defArgs s_first_with, defBody s_first_with, defScope s_first_with, [], []⟩
def dd_transfers : He.DefD := ⟨("transfers", none), "transfers", "transfers", defArgs s_transfers, defBody s_transfers, defScope s_transfers, [], []⟩
def dd_law : He.DefD := ⟨("law", none), "law", "law", defArgs s_law, defBody s_law, defScope s_law, [], []⟩
def fns : List He.DefD := [dd_law_draws, dd_law_moved, dd_law_names, dd_law_whole, dd_net_rows, dd_first_with, dd_transfers, dd_law]
def fas : List He.Fa := [.glo "_law_draws", .glo "_law_moved", .glo "_law_names", .glo "_law_whole", .glo "net_rows", .glo "first_with", .glo "transfers", .glo "law", .free "abs", .free "bool", .free "enumerate", .free "int", .free "isinstance", .free "len", .free "list", .free "min", .free "range", .free "sorted", .free "sum", .free "tuple", .glo "Uneven", .exc "Uneven"]
abbrev R : PySem.W.OpenRow := PySem.W.OpenLaw.row PySem.Challenge.rw_susu_k16_whole_transfers_settle
abbrev hk : PySem.W.Hook := He.hookD 5 fas fns
def ob (s : PySem.W.SharedT) : He.AlD := He.obsDG 5 fas fns (HandSHeadRun.getT s)
theorem ob_eq (s : PySem.W.SharedT) : ob s = hk.obs s.abs := He.obsDG_eq (HandSHeadRun.getT_eq s)
def loose : List PySem.Str := ["SusuError", "Uneven", "net_rows", "first_with", "transfers", "_law_draws", "_law_whole", "_law_names", "_law_moved"]
theorem run (w : World) : HandSHeadRun.RunEq R (PySem.W.view R.prog [12]) hk ob 4000 loose w := by
  intro os
  kernel_rfl
theorem facts {K : PySem.W.Frag} {h : Heap} {mg : Str → Option Value} (X : K.In h) (G : h.Ns mainGlobals mg) (c : He.SaysD fas fns K) : Fx K mg where
  n_abs := He.free_ok X G (c.fact 8 rfl)
  n_bool := He.free_ok X G (c.fact 9 rfl)
  n_enumerate := He.free_ok X G (c.fact 10 rfl)
  n_int := He.free_ok X G (c.fact 11 rfl)
  n_isinstance := He.free_ok X G (c.fact 12 rfl)
  n_len := He.free_ok X G (c.fact 13 rfl)
  n_list := He.free_ok X G (c.fact 14 rfl)
  n_min := He.free_ok X G (c.fact 15 rfl)
  n_range := He.free_ok X G (c.fact 16 rfl)
  n_sorted := He.free_ok X G (c.fact 17 rfl)
  n_sum := He.free_ok X G (c.fact 18 rfl)
  n_tuple := He.free_ok X G (c.fact 19 rfl)
  g_Uneven := He.glo_ok X G (c.fact 20 rfl)
  k_Uneven := ⟨_, He.glo_ok X G (c.fact 20 rfl), rfl⟩
  x_Uneven := let z := He.exc_ok (c.fact 21 rfl); ⟨z.1, He.glo_ok X G (c.fact 20 rfl), z.2.1, z.2.2.1, z.2.2.2⟩
  g_law_draws := He.glo_ok X G (c.fact 0 rfl)
  F_law_draws := c.def_ 0 (d := dd_law_draws) rfl
  g_law_moved := He.glo_ok X G (c.fact 1 rfl)
  F_law_moved := c.def_ 1 (d := dd_law_moved) rfl
  g_law_names := He.glo_ok X G (c.fact 2 rfl)
  F_law_names := c.def_ 2 (d := dd_law_names) rfl
  g_law_whole := He.glo_ok X G (c.fact 3 rfl)
  F_law_whole := c.def_ 3 (d := dd_law_whole) rfl
  g_net_rows := He.glo_ok X G (c.fact 4 rfl)
  F_net_rows := c.def_ 4 (d := dd_net_rows) rfl
  g_first_with := He.glo_ok X G (c.fact 5 rfl)
  F_first_with := c.def_ 5 (d := dd_first_with) rfl
  g_transfers := He.glo_ok X G (c.fact 6 rfl)
  F_transfers := c.def_ 6 (d := dd_transfers) rfl
  g_law := He.glo_ok X G (c.fact 7 rfl)
  F_law := c.def_ 7 (d := dd_law) rfl
theorem fin {P : Program} {w : World} {K : PySem.W.Frag} {h : Heap} {mg : Str → Option Value} {fa : Addr} (X : K.In h) (G : h.Ns mainGlobals mg) (hmg : mg ("law" : Str) = some (.ref fa)) (c : He.SaysD fas fns K) :
    ∃ (K : PySem.W.Frag) (fd : FuncData) (sp : Sp), K.In h ∧ (∀ (s : Shared) (u : Value), BindsTo s fd ⟨[u], []⟩ [("_law_script", u)]) ∧
        (∀ (H : Hp) (a : Addr) (ns : List Int), ns.length ≤ 63 → Only H → SqL K H a (ns.map V.int) → sp [.ref a] H (fun v _ => v = .bl true) fun _ _ _ => False) ∧
        ∀ base : Heap, K.In base → base.Ns mainGlobals mg → FnOk P w K mg base CX0 3 fa fd ["_law_script"] sp := by
  have T := facts X G c
  obtain ⟨fd, F⟩ := T.F_law
  have e := hmg.symm.trans T.g_law
  cases e
  have b := FunD.bindsA (ps := ["_law_script"]) F fun _ _ _ _ _ _ us hl => match us, hl with | [_], _ => rfl
  refine ⟨K, fd, sp_law K, X, fun s v => b s [v] rfl, fun H a ns hl _ hS => ⟨a, ns, rfl, hS, hl, fun _ => rfl⟩, fun base _ _ => ?_⟩
  exact ok_law_at T F
end Su
open PySem PySem.W PySem.Calls PyProof.Rows
theorem PySem.Challenge.cw_susu_k16_whole_transfers_settle_holds : PySem.Challenge.rw_susu_k16_whole_transfers_settle.Holds := by
  w_on; o_law
  refine HandSHeadRun.head_any (r := OpenLaw.row PySem.Challenge.rw_susu_k16_whole_transfers_settle) (q := view (OpenLaw.row PySem.Challenge.rw_susu_k16_whole_transfers_settle).prog [12]) (H := Su.hk) (ob := Su.ob) (M := 4000) (loose := Su.loose) (d := HandSHeadRun.topDef (OpenLaw.row PySem.Challenge.rw_susu_k16_whole_transfers_settle).prog 12) (kwd := []) Su.ob_eq
    (by kernel_rfl) (fun s => by kernel_rfl) Su.run (by kernel_rfl) (by kernel_rfl) (by kernel_rfl) (by rfl) (by first | assumption | decide +kernel) (by decide +kernel) ⟨rfl, rfl, rfl, rfl, rfl, by decide +kernel⟩ ?hw ?hc
  case hw => w_witness2
  case hc =>
    refine L2.walk_ofE (l := PySem.Challenge.rw_susu_k16_whole_transfers_settle) (n := 63) (k := 3) (x := "_law_script") (CX := L2.CX0) rfl (by decide) (by kernel_rfl) ⟨rfl, by decide, by decide⟩ ?F (fun _ _ _ _ z => z)
    intro w mg fa h Y G hmg0
    obtain ⟨K, KX, c⟩ := Y
    have hmg : mg ("law" : PySem.Str) = some (.ref fa) := by
      have e : (HandSHeadRun.topDef (OpenLaw.row PySem.Challenge.rw_susu_k16_whole_transfers_settle).prog 12).name = ("law" : PySem.Str) := by kernel_rfl
      rw [← e]
      exact hmg0
    exact Su.fin KX G hmg c
