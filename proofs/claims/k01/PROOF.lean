import PyProof.Rows.All
import Wide.All
import OpenK.AllK
import Wide.FinOn
import HandS.ForMost
import HandS.Walk
import HandS.Wide
import HandS.WideBits
import HandS.IsInst
import HandS.EndBits
import HandS.SortInts
import HandS.Flow
import HandS.Nested
import HandS.EndTab
import HandS.More
import HandS.SetFor
import HandS.Strs
import HandS.Zip
import HandS.CallLocal
import HandS.Defaults
import HandS.Head0
import HandS.Head1
import HandS.Head2
import HandS.HeadEnd
import HandS.HeadHook1
import HandS.HeadHook2
import HandS.HeadHook3
import HandS.HeadHook4
import HandS.HeadWalk
import HandS.DictComp
import HandS.DeepEq
import HandS.Style
import HandS.Exc
import HandS.ExcOwn
import HandS.ExcIs
import HandS.WordsExc
import PyProof.ExcBaseAll.ValueError
import PySem.Challenge.RW_nearnames_k01_names_written
set_option Elab.async false
set_option linter.all false
set_option maxRecDepth 100000
set_option maxHeartbeats 4000000
namespace Nn
open PySem L2
def nmAll (l c : Nat) : Str := ""
end Nn
/-! Steps through readings. -/
namespace Nn
open PySem L2
section
variable {K : PySem.W.Frag} {σ : L2.St} {H : Hp} {ta tb te tc : TE} {t u : TS} {c c' : TT} {D : Ends} {Q : VK} {x y v : V}

theorem cxK {CX : CXT} {P : Program} {w : World} {K : PySem.W.Frag} {mg : Str → Option Value} {base : Heap} {N : List Str} {q : Str} {sc : Scope} {f : Addr} {cd : Value} {A : Around} {outer : List Env} {s : Shared} {H : Hp} {E : XK} :
    (cxOf CX P w K mg base N q sc f cd A outer s H E).nox.K = K := rfl
theorem cxK' {CX : CXT} {P : Program} {w : World} {K : PySem.W.Frag} {mg : Str → Option Value} {base : Heap} {N : List Str} {q : Str} {sc : Scope} {f : Addr} {cd : Value} {A : Around} {outer : List Env} {s : Shared} {H : Hp} {E : XK} :
    (cxOf CX P w K mg base N q sc f cd A outer s H E).K = K := rfl
theorem cxW {CX : CXT} {P : Program} {w : World} {K : PySem.W.Frag} {mg : Str → Option Value} {base : Heap} {N : List Str} {q : Str} {sc : Scope} {f : Addr} {cd : Value} {A : Around} {outer : List Env} {s : Shared} {H : Hp} {E : XK} :
    (cxOf CX P w K mg base N q sc f cd A outer s H E).w = w := rfl
theorem x_seq (h : t { D with nx := u D } σ H) : tSeq t u D σ H := h
theorem x_next (h : D.nx σ H) : tNext D σ H := h
theorem x_asg {g : TG} (h : te σ H fun x H1 => g x σ H1 D.nx) : tAsg te g D σ H := h
theorem x_name {i : Nat} {R : L2.St → Hp → Prop} (h : R (σ.set i (some v)) H) : gName i v σ H R := h
theorem x_ret (h : te σ H D.rt) : tRet te D σ H := h
theorem x_retN (h : D.rt .non H) : tRetN D σ H := h
theorem x_drop (h : te σ H fun _ H1 => D.nx σ H1) : tDrop te D σ H := h
/-- the branches as they stand (not walked until the test is known) -/
def IfS (b : Bool) (t u : TS) (D : Ends) (σ : L2.St) (H : Hp) : Prop := if b = true then t D σ H else u D σ H
theorem x_ifD {p : Prop} [Decidable p] (h1 : p → t D σ H) (h2 : ¬ p → u D σ H) : IfS (decide p) t u D σ H := by
  unfold IfS
  by_cases h : p
  · rw [if_pos (decide_eq_true h)]; exact h1 h
  · rw [if_neg (by simp [h])]; exact h2 h
theorem x_ifN {p : Prop} [Decidable p] (h1 : ¬ p → t D σ H) (h2 : p → u D σ H) : IfS (!decide p) t u D σ H := by
  unfold IfS
  by_cases h : p
  · rw [if_neg (by simp [h])]; exact h2 h
  · rw [if_pos (by simp [h])]; exact h1 h
theorem x_ifB {b : Bool} (h1 : b = true → t D σ H) (h2 : b = false → u D σ H) : IfS b t u D σ H := by
  cases b with
  | true => exact h1 rfl
  | false => exact h2 rfl
theorem x_INs {α : Type} [DecidableEq α] {b : α} (h : u D σ H) : IfS (!decide (b = b)) t u D σ H := by
  rw [decide_eq_true rfl]; exact h
theorem x_IEs {α : Type} [DecidableEq α] {b : α} (h : t D σ H) : IfS (decide (b = b)) t u D σ H := by
  rw [decide_eq_true rfl]; exact h
theorem x_if {tt : TT} (h : tt σ H fun b H1 => if b = true then ta σ H1 Q else tb σ H1 Q) : tIf tt ta tb σ H Q := h
theorem x_var {i : Nat} (e : σ[i]? = some (some v)) (h : Q v H) : tVar i σ H Q := ⟨v, e, h⟩
theorem x_c (h : Q v H) : tC v σ H Q := h
theorem x_op {r : R2} (h : ta σ H fun x H1 => tb σ H1 fun y H2 => r x y H2 Q) : tOp r ta tb σ H Q := h
theorem x_un {r : V → Hp → VK → Prop} (h : ta σ H fun x H1 => r x H1 Q) : tUn r ta σ H Q := h
theorem x_cb {r : List V → Hp → VK → Prop} {ts : TA} (h : ts σ H fun vs H1 => r vs H1 Q) : tCB r ts σ H Q := h
theorem x_nil {R : List V → Hp → Prop} (h : R [] H) : tNil σ H R := h
theorem x_cons {ts : TA} {R : List V → Hp → Prop} (h : ta σ H fun x H1 => ts σ H1 fun xs H2 => R (x :: xs) H2) : tCons ta ts σ H R := h
theorem x_call {sp : Sp} {E : XK} {ts : TA} (h : ts σ H fun vs H1 => sp vs H1 Q E) : tCall sp [] E ts σ H Q := by
  unfold tCall; simpa only [List.append_nil] using h
theorem x_calld {sp : Sp} {E : XK} {ds : List V} {ts : TA} (h : ts σ H fun vs H1 => sp (vs ++ ds) H1 Q E) : tCall sp ds E ts σ H Q := h
theorem x_tup {ts : TA} (h : ts σ H fun xs H1 => xs.length ≤ sizeLine ∧ ∀ p, H1 p = none → Q (.ref p) (upd H1 p (.tup xs))) : tTup ts σ H Q := h
theorem x_lst {ts : TA} (h : ts σ H fun xs H1 => xs.length ≤ sizeLine ∧ ∀ p, H1 p = none → Q (.ref p) (upd H1 p (.lst xs))) : tLst ts σ H Q := h

theorem x_test {R : Bool → Hp → Prop} (h : te σ H fun x H' => ∃ k, x = .bl k ∧ R k H') : tTest te σ H R := h
theorem x_B {R : Bool → Hp → Prop} (h : te σ H fun x H' => ∃ k, x = .bl k ∧ R k H') : tB te σ H R := h
theorem x_bl {R : Bool → Prop} {k : Bool} (h : R k) : ∃ k', V.bl k = V.bl k' ∧ R k' := ⟨k, rfl, h⟩
theorem x_and {R : Bool → Hp → Prop} (h : c σ H fun b H1 => if b = true then c' σ H1 R else R false H1) : tAnd c c' σ H R := h
theorem x_or {R : Bool → Hp → Prop} (h : c σ H fun b H1 => if b = true then R true H1 else c' σ H1 R) : tOr c c' σ H R := h
theorem x_not {R : Bool → Hp → Prop} (h : c σ H fun b H1 => R (!b) H1) : tNot c σ H R := h
theorem x_andV (h : ta σ H fun x H1 => ∃ c, x = .bl c ∧ if c = true then tb σ H1 Q else Q (.bl false) H1) : tAndV ta tb σ H Q := h
theorem x_orV (h : ta σ H fun x H1 => ∃ c, x = .bl c ∧ if c = true then Q (.bl true) H1 else tb σ H1 Q) : tOrV ta tb σ H Q := h
theorem x_notV (h : ta σ H fun x H1 => ∃ c, x = .bl c ∧ Q (.bl (!c)) H1) : tNotV ta σ H Q := h
theorem x_chain {r r' : R2} (h : ta σ H fun x H1 => tb σ H1 fun y H2 => r x y H2 fun z H3 => ∃ k, z = .bl k ∧ if k = true then tc σ H3 fun w H4 => r' y w H4 Q else Q (.bl false) H3) : tChain r r' ta tb tc σ H Q := h

theorem x_i0 {g : Int → Int → V} {i j : Int} (h : Q (g i j) H) : rI0 g (.int i) (.int j) H Q := ⟨i, j, rfl, rfl, h⟩
theorem x_i {C : Int → Int → Prop} {g : Int → Int → V} {i j : Int} (hc : C i j) (h : Q (g i j) H) : rI C g (.int i) (.int j) H Q := ⟨i, j, rfl, rfl, hc, h⟩
theorem x_u {g : Int → V} {i : Int} (h : Q (g i) H) : rU g (.int i) H Q := ⟨i, rfl, h⟩
theorem x_eqI {i j : Int} (h : Q (.bl (decide (i = j))) H) : rEq (.int i) (.int j) H Q := ⟨rfl, by
  have e : decide (V.int i = V.int j) = decide (i = j) := by simp
  rw [e]; exact h⟩
theorem x_neI {i j : Int} (h : Q (.bl (!decide (i = j))) H) : rNe (.int i) (.int j) H Q := ⟨rfl, by
  have e : decide (V.int i = V.int j) = decide (i = j) := by simp
  rw [e]; exact h⟩
theorem x_eqB {i j : Bool} (h : Q (.bl (decide (i = j))) H) : rEq (.bl i) (.bl j) H Q := ⟨rfl, by
  have e : decide (V.bl i = V.bl j) = decide (i = j) := by simp
  rw [e]; exact h⟩
theorem x_neB {i j : Bool} (h : Q (.bl (!decide (i = j))) H) : rNe (.bl i) (.bl j) H Q := ⟨rfl, by
  have e : decide (V.bl i = V.bl j) = decide (i = j) := by simp
  rw [e]; exact h⟩
theorem x_eqS {i j : Str} (h : Q (.bl (decide (i = j))) H) : rEq (.str i) (.str j) H Q := ⟨rfl, by
  have e : decide (V.str i = V.str j) = decide (i = j) := by simp
  rw [e]; exact h⟩
theorem x_neS {i j : Str} (h : Q (.bl (!decide (i = j))) H) : rNe (.str i) (.str j) H Q := ⟨rfl, by
  have e : decide (V.str i = V.str j) = decide (i = j) := by simp
  rw [e]; exact h⟩
theorem x_eq (e : scal x y = true) (h : Q (.bl (decide (x = y))) H) : rEq x y H Q := ⟨e, h⟩
theorem x_ne (e : scal x y = true) (h : Q (.bl (!decide (x = y))) H) : rNe x y H Q := ⟨e, h⟩

theorem x_ite {p A B : Prop} [Decidable p] (h1 : p → A) (h2 : ¬ p → B) : if decide p = true then A else B := by
  by_cases h : p
  · rw [if_pos (decide_eq_true h)]; exact h1 h
  · rw [if_neg (by simp [h])]; exact h2 h
theorem x_iteN {p A B : Prop} [Decidable p] (h1 : ¬ p → A) (h2 : p → B) : if (!decide p) = true then A else B := by
  by_cases h : p
  · rw [if_neg (by simp [h])]; exact h2 h
  · rw [if_pos (by simp [h])]; exact h1 h
theorem x_iteB {b : Bool} {A B : Prop} (h1 : b = true → A) (h2 : b = false → B) : if b = true then A else B := by
  cases b with
  | true => rw [if_pos rfl]; exact h1 rfl
  | false => rw [if_neg Bool.false_ne_true]; exact h2 rfl
theorem x_NEs {α : Type} [DecidableEq α] {b : α} {A B : Prop} (h : B) : if (!decide (b = b)) = true then A else B := by
  rw [decide_eq_true rfl]; exact iteF h
theorem x_Es {α : Type} [DecidableEq α] {b : α} {A B : Prop} (h : A) : if decide (b = b) = true then A else B := by
  rw [decide_eq_true rfl]; exact iteT h
theorem x_T {A B : Prop} (h : A) : if true = true then A else B := iteT h
theorem x_F {A B : Prop} (h : B) : if false = true then A else B := iteF h
theorem x_NT {A B : Prop} (h : B) : if (!true) = true then A else B := iteF h
theorem x_NF {A B : Prop} (h : A) : if (!false) = true then A else B := iteT h

/-! the built-ins' readings -/
theorem x_ixL {p : Addr} {xs : List V} {i : Int} (hS : SqL K H p xs) (e : atI xs i = some v) (h : Q v H) : rIxL K (.ref p) (.int i) H Q := ⟨p, xs, i, v, rfl, rfl, hS, e, h⟩
theorem x_ixT {p : Addr} {xs : List V} {i : Int} (hS : SqT K H p xs) (e : atI xs i = some v) (h : Q v H) : rIxT K (.ref p) (.int i) H Q := ⟨p, xs, i, v, rfl, rfl, hS, e, h⟩
def rAbs : List V → Hp → VK → Prop := fun xs H Q => ∃ i, xs = [.int i] ∧ Q (.int (if i < 0 then -i else i)) H
def rMin2 : List V → Hp → VK → Prop := fun xs H Q => ∃ i j, xs = [.int i, .int j] ∧ Q (.int (if j < i then j else i)) H
def rMax2 : List V → Hp → VK → Prop := fun xs H Q => ∃ i j, xs = [.int i, .int j] ∧ Q (.int (if j > i then j else i)) H
def rLenS (K : PySem.W.Frag) : List V → Hp → VK → Prop := fun xs H Q => ∃ p ys, xs = [.ref p] ∧ (SqL K H p ys ∨ SqT K H p ys) ∧ Q (.int ys.length) H
def rLenD : List V → Hp → VK → Prop := fun xs H Q => ∃ a kvs, xs = [V.ref a] ∧ H a = some (.dK kvs) ∧ Q (.int kvs.length) H
def rLenStr : List V → Hp → VK → Prop := fun xs H Q => ∃ z : Str, xs = [.str z] ∧ z.length ≤ sizeLine ∧ Q (.int z.length) H
def rInt1 : List V → Hp → VK → Prop := fun xs H Q => (∃ i, xs = [.int i] ∧ Q (.int i) H) ∨ ∃ k, xs = [.bl k] ∧ Q (.int (if k then 1 else 0)) H
def rListOf (K : PySem.W.Frag) : List V → Hp → VK → Prop := fun xs H Q => ∃ p ys, xs = [.ref p] ∧ (SqL K H p ys ∨ SqT K H p ys) ∧ ∀ l, H l = none → Q (.ref l) (upd H l (.lst ys))
theorem cb_abs {X : Cx} : CallR X (.builtin "abs") rAbs := call_abs
theorem cb_min2 {X : Cx} (hc : X.calm = true) : CallR X (.builtin "min") rMin2 := call_min2 hc
theorem cb_max2 {X : Cx} (hc : X.calm = true) : CallR X (.builtin "max") rMax2 := call_max2 hc
theorem cb_len {X : Cx} : CallR X (.builtin "len") (rLenS X.K) := call_len_seq
theorem cb_lenD {X : Cx} : CallR X (.builtin "len") rLenD := call_lenD
theorem cb_lenStr {X : Cx} : CallR X (.builtin "len") rLenStr := call_len_str
theorem cb_int {X : Cx} : CallR X (.type "int") rInt1 := call_int1
theorem cb_list {X : Cx} : CallR X (.type "list") (rListOf X.K) := call_list_of
theorem x_abs {i : Int} (h : Q (.int (i.natAbs : Int)) H) : rAbs [.int i] H Q :=
  ⟨i, rfl, by
    have e : (if i < 0 then -i else i) = (i.natAbs : Int) := by split <;> omega
    rw [e]; exact h⟩
theorem x_min2 {i j : Int} (h : Q (.int (min i j)) H) : rMin2 [.int i, .int j] H Q :=
  ⟨i, j, rfl, by
    have e : (if j < i then j else i) = min i j := by split <;> omega
    rw [e]; exact h⟩
theorem x_max2 {i j : Int} (h : Q (.int (max i j)) H) : rMax2 [.int i, .int j] H Q :=
  ⟨i, j, rfl, by
    have e : (if j > i then j else i) = max i j := by split <;> omega
    rw [e]; exact h⟩
theorem x_lenL {p : Addr} {ys : List V} (hS : SqL K H p ys) (h : Q (.int ys.length) H) : rLenS K [.ref p] H Q := ⟨p, ys, rfl, .inl hS, h⟩
theorem x_lenT {p : Addr} {ys : List V} (hS : SqT K H p ys) (h : Q (.int ys.length) H) : rLenS K [.ref p] H Q := ⟨p, ys, rfl, .inr hS, h⟩
theorem x_lenD {p : Addr} {kvs : List (Key × V)} (hS : H p = some (.dK kvs)) (h : Q (.int kvs.length) H) : rLenD [.ref p] H Q := ⟨p, kvs, rfl, hS, h⟩
theorem x_intI {i : Int} (h : Q (.int i) H) : rInt1 [.int i] H Q := .inl ⟨i, rfl, h⟩
theorem x_intB {b : Bool} (h : Q (.int (if b then 1 else 0)) H) : rInt1 [.bl b] H Q := .inr ⟨b, rfl, h⟩
theorem x_listL {p : Addr} {ys : List V} (hS : SqL K H p ys) (h : ∀ l, H l = none → Q (.ref l) (upd H l (.lst ys))) : rListOf K [.ref p] H Q := ⟨p, ys, rfl, .inl hS, h⟩
theorem x_sum {a : Addr} {ns : List Int} (hS : SqL K H a (ns.map V.int)) (h : Q (.int ns.sum) H) : rSum K [.ref a] H Q := ⟨a, ns, rfl, hS, h⟩
/-- isinstance of plain values, against built-in types -/
theorem x_isi {c : V} {t u : Value} {b : Bool} (k : ClsV c u) (ty : TyX K H x t) (e : PySem.W.kitOne K t u = some b) (h : Q (.bl b) H) : rIsi K [x, c] H Q := ⟨x, c, t, u, b, rfl, k, ty, e, h⟩
theorem x_isG {vs : List V} (h : rIsi K vs H Q) : rIsi K vs H Q := h
theorem x_isI_int {i : Int} (h : Q (.bl true) H) : rIsi K [.int i, .ty "int"] H Q := x_isi (.ty "int") (.base (.int i)) (kit_ty (by decide +kernel)) h
theorem x_isI_bool {i : Int} (h : Q (.bl false) H) : rIsi K [.int i, .ty "bool"] H Q := x_isi (.ty "bool") (.base (.int i)) (kit_ty (by decide +kernel)) h
theorem x_isI_str {i : Int} (h : Q (.bl false) H) : rIsi K [.int i, .ty "str"] H Q := x_isi (.ty "str") (.base (.int i)) (kit_ty (by decide +kernel)) h
theorem x_isB_int {c : Bool} (h : Q (.bl true) H) : rIsi K [.bl c, .ty "int"] H Q := x_isi (.ty "int") (.base (.bl c)) (kit_ty (by decide +kernel)) h
theorem x_isB_bool {c : Bool} (h : Q (.bl true) H) : rIsi K [.bl c, .ty "bool"] H Q := x_isi (.ty "bool") (.base (.bl c)) (kit_ty (by decide +kernel)) h
theorem x_isB_str {c : Bool} (h : Q (.bl false) H) : rIsi K [.bl c, .ty "str"] H Q := x_isi (.ty "str") (.base (.bl c)) (kit_ty (by decide +kernel)) h
theorem x_isS_int {z : Str} (h : Q (.bl false) H) : rIsi K [.str z, .ty "int"] H Q := x_isi (.ty "int") (.base (.str z)) (kit_ty (by decide +kernel)) h
theorem x_isS_bool {z : Str} (h : Q (.bl false) H) : rIsi K [.str z, .ty "bool"] H Q := x_isi (.ty "bool") (.base (.str z)) (kit_ty (by decide +kernel)) h
theorem x_isS_str {z : Str} (h : Q (.bl true) H) : rIsi K [.str z, .ty "str"] H Q := x_isi (.ty "str") (.base (.str z)) (kit_ty (by decide +kernel)) h
theorem x_isN_int  (h : Q (.bl false) H) : rIsi K [.non, .ty "int"] H Q := x_isi (.ty "int") (.base .non) (kit_ty (by decide +kernel)) h
theorem x_isN_bool  (h : Q (.bl false) H) : rIsi K [.non, .ty "bool"] H Q := x_isi (.ty "bool") (.base .non) (kit_ty (by decide +kernel)) h
theorem x_isN_str  (h : Q (.bl false) H) : rIsi K [.non, .ty "str"] H Q := x_isi (.ty "str") (.base .non) (kit_ty (by decide +kernel)) h
theorem x_isL_int {a : Addr} {xs : List V} (ha : H a = some (.lst xs)) (h : Q (.bl false) H) : rIsi K [.ref a, .ty "int"] H Q := x_isi (.ty "int") (.base (.lst ha)) (kit_ty (by decide +kernel)) h
theorem x_isL_list {a : Addr} {xs : List V} (ha : H a = some (.lst xs)) (h : Q (.bl true) H) : rIsi K [.ref a, .ty "list"] H Q := x_isi (.ty "list") (.base (.lst ha)) (kit_ty (by decide +kernel)) h
theorem x_isL_tuple {a : Addr} {xs : List V} (ha : H a = some (.lst xs)) (h : Q (.bl false) H) : rIsi K [.ref a, .ty "tuple"] H Q := x_isi (.ty "tuple") (.base (.lst ha)) (kit_ty (by decide +kernel)) h
theorem x_isT_int {a : Addr} {xs : List V} (ha : H a = some (.tup xs)) (h : Q (.bl false) H) : rIsi K [.ref a, .ty "int"] H Q := x_isi (.ty "int") (.base (.tup ha)) (kit_ty (by decide +kernel)) h
theorem x_isT_list {a : Addr} {xs : List V} (ha : H a = some (.tup xs)) (h : Q (.bl false) H) : rIsi K [.ref a, .ty "list"] H Q := x_isi (.ty "list") (.base (.tup ha)) (kit_ty (by decide +kernel)) h
theorem x_isT_tuple {a : Addr} {xs : List V} (ha : H a = some (.tup xs)) (h : Q (.bl true) H) : rIsi K [.ref a, .ty "tuple"] H Q := x_isi (.ty "tuple") (.base (.tup ha)) (kit_ty (by decide +kernel)) h
theorem x_isD_int {a : Addr} {kvs : List (Key × V)} (ha : H a = some (.dK kvs)) (h : Q (.bl false) H) : rIsi K [.ref a, .ty "int"] H Q := x_isi (.ty "int") (.base (.dK ha)) (kit_ty (by decide +kernel)) h
theorem x_isD_list {a : Addr} {kvs : List (Key × V)} (ha : H a = some (.dK kvs)) (h : Q (.bl false) H) : rIsi K [.ref a, .ty "list"] H Q := x_isi (.ty "list") (.base (.dK ha)) (kit_ty (by decide +kernel)) h
theorem x_isD_tuple {a : Addr} {kvs : List (Key × V)} (ha : H a = some (.dK kvs)) (h : Q (.bl false) H) : rIsi K [.ref a, .ty "tuple"] H Q := x_isi (.ty "tuple") (.base (.dK ha)) (kit_ty (by decide +kernel)) h

/-! heaps that grow -/
/-- no table of code objects (these grow where a def is made within a def) -/
def NT : HO → Prop | .tbl _ => False | _ => True
/-- no table, nothing told by its object -/
def NX : HO → Prop | .tbl _ => False | .ext _ => False | _ => True
theorem NX.nt {o : HO} (h : NX o) : NT o := by cases o <;> first | trivial | exact h
/-- all but what S names stays; tables stay tables; nothing is lost -/
structure Fr (S : Addr → Prop) (H H' : Hp) : Prop where
  keep : ∀ a o, H a = some o → NT o → ¬ S a → H' a = some o
  tab : ∀ P, NdefX.TabN H P nmAll → NdefX.TabN H' P nmAll
  back : ∀ a, H' a = none → H a = none
abbrev Ex (H H' : Hp) : Prop := Fr (fun _ => False) H H'
theorem atI_hd {x : V} {r : List V} : atI (x :: r) 0 = some x := atI_nat (xs := x :: r) (j := 0) rfl
theorem at_new {H : Hp} {p a : Addr} {o u : HO} (h : H p = none) (k : H a = some u) : upd H p o a = some u := by rw [upd_ne (ne_of_none k h)]; exact k
theorem at_upd {H : Hp} {p a : Addr} {o u v : HO} (h : H p = some v) (k : H a = some u) (d : v ≠ u) : upd H p o a = some u := by rw [upd_ne (ne_of k h (Ne.symm d))]; exact k
theorem Ex.at {H H' : Hp} {a : Addr} {o : HO} (e : Ex H H') (h : H a = some o) (n : NT o := by trivial) : H' a = some o := e.keep a o h n id
theorem Fr.at {S : Addr → Prop} {H H' : Hp} {a : Addr} {o : HO} (e : Fr S H H') (h : H a = some o) (hs : ¬ S a) (n : NT o := by trivial) : H' a = some o := e.keep a o h n hs
theorem Fr.refl {S : Addr → Prop} {H : Hp} : Fr S H H := ⟨fun _ _ h _ _ => h, fun _ h => h, fun _ h => h⟩
theorem Ex.refl {H : Hp} : Ex H H := Fr.refl
theorem Ex.trans {H H1 H2 : Hp} (a : Ex H H1) (b : Ex H1 H2) : Ex H H2 := ⟨fun x o h n _ => b.at (a.at h n) n, fun P h => b.tab P (a.tab P h), fun x h => a.back x (b.back x h)⟩
theorem Fr.trans {S : Addr → Prop} {H H1 H2 : Hp} (a : Fr S H H1) (b : Fr S H1 H2) : Fr S H H2 := ⟨fun x o h n s => b.keep x o (a.keep x o h n s) n s, fun P h => b.tab P (a.tab P h), fun x h => a.back x (b.back x h)⟩
theorem Fr.mono {S S' : Addr → Prop} {H H1 : Hp} (a : Fr S H H1) (h : ∀ x, S x → S' x) : Fr S' H H1 := ⟨fun x o e n s => a.keep x o e n fun z => s (h x z), a.tab, a.back⟩
theorem Ex.fr {S : Addr → Prop} {H H1 : Hp} (a : Ex H H1) : Fr S H H1 := Fr.mono a fun _ z => z.elim
/-- of what S names, all is newer than H -/
theorem Fr.ex {S : Addr → Prop} {H H0 H1 : Hp} (a : Fr S H H1) (e : Ex H0 H) (h : ∀ x, S x → H0 x = none) : Ex H0 H1 :=
  ⟨fun x o q n _ => a.keep x o (e.at q n) n fun z => (by rw [h x z] at q; cases q), fun P q => a.tab P (e.tab P q), fun x q => e.back x (a.back x q)⟩
theorem upd_back {H : Hp} {p x : Addr} {o : HO} (h : upd H p o x = none) : H x = none := by
  unfold upd at h
  split at h
  · cases h
  · exact h
theorem Ex.new {H : Hp} {p : Addr} {o : HO} (h : H p = none) : Ex H (upd H p o) :=
  ⟨fun a u e _ _ => by rw [upd_ne (ne_of_none e h)]; exact e, fun P t => t.ext fun b u e => by rw [upd_ne (ne_of_none e h)]; exact e, fun _ z => upd_back z⟩
theorem Ex.newT {H H1 : Hp} {p : Addr} {o : HO} (a : Ex H H1) (h : H1 p = none) : Ex H (upd H1 p o) := a.trans (Ex.new h)
/-- one object is changed -/
theorem Fr.upd1 {H : Hp} {p : Addr} {o u : HO} (h : H p = some u) (hu : NX u := by trivial) : Fr (fun a => a = p) H (upd H p o) :=
  ⟨fun a v e _ s => by rw [upd_ne s]; exact e, fun P ⟨ps, h1, h2, h3⟩ => by
    have nP : P ≠ p := fun z => by rw [z, h] at h1; cases h1; exact hu
    refine ⟨ps, by rw [upd_ne nP]; exact h1, h2, fun pos cv hc => ?_⟩
    obtain ⟨c, e1, e2⟩ := h3 pos cv hc
    have nc : c ≠ p := fun z => by
      rw [z, h] at e2
      have e2 := Option.some.inj e2
      rw [e2] at hu
      exact hu
    exact ⟨c, e1, by rw [upd_ne nc]; exact e2⟩, fun _ z => upd_back z⟩
/-- an object that H does not know may change -/
theorem Ex.mut {H H' : Hp} {p : Addr} {o u : HO} (e : Ex H H') (h : H p = none) (h' : H' p = some u) (hu : NX u := by trivial) : Ex H (upd H' p o) :=
  (Fr.upd1 h' hu).ex e fun x z => by rw [z]; exact h
theorem Ex.ls {H H' : Hp} {a : Addr} {xs : List V} (e : Ex H H') (h : SqL K H a xs) : SqL K H' a xs := by
  rcases h with (h | ⟨o, h⟩) | h
  · exact .inl (.inl (e.at h))
  · exact .inl (.inr ⟨o, e.at h⟩)
  · exact .inr h
theorem Ex.tu {H H' : Hp} {a : Addr} {xs : List V} (e : Ex H H') (h : SqT K H a xs) : SqT K H' a xs := by
  rcases h with (h | ⟨o, h⟩) | h
  · exact .inl (.inl (e.at h))
  · exact .inl (.inr ⟨o, e.at h⟩)
  · exact .inr h

/-! loops -/
def ForW (g : TG) (tb : TS) (D : Ends) (J : It) (σ : L2.St) (H : Hp) : Prop := ∃ W : Nat → Nat → L2.St → Hp → Prop, (∃ m, W 0 m σ H) ∧ ∀ i m σ H, W i m σ H →
  (J.stop i H ∧ D.nx σ H) ∨ (J.go i H ∧ ∃ N : L2.St → Hp → Prop, (∀ σ' H', N σ' H' → ∃ m', m' < m ∧ W (i + 1) m' σ' H') ∧ ∀ x H', J.yld i H x H' → g x σ H' fun σ2 H2 => tb { D with nx := N, ct := N, bk := D.nx } σ2 H2)
theorem x_for {wi : TI} {g : TG} {tb : TS} (h : wi σ H fun J H1 => ForW g tb D J σ H1) : tFor wi g tb D σ H := h
theorem ForW.by {J : It} {n : Nat} {G : Hp → Prop} {Y : Nat → Hp → V → Hp → Prop} (w : Walk J n G Y) {g : TG} {tb : TS} (Pv : Nat → L2.St → Hp → Prop) (h0 : Pv 0 σ H) (hG : ∀ i σ H, i ≤ n → Pv i σ H → G H)
    (hs : ∀ i x σ H H', i < n → Pv i σ H → Y i H x H' → g x σ H' fun σ2 H2 => tb { D with nx := Pv (i + 1), ct := Pv (i + 1), bk := D.nx } σ2 H2) (hd : ∀ σ H, Pv n σ H → D.nx σ H) : ForW g tb D J σ H :=
  for_it w Pv h0 hG hs hd
def Rg1 (R : It → Hp → Prop) : List V → Hp → Prop := fun vs H1 => ∃ j : Int, vs = [.int j] ∧ -(2 ^ 62) ≤ j ∧ j < 2 ^ 62 ∧ R (Itr 0 j.toNat) H1
def Rg2 (R : It → Hp → Prop) : List V → Hp → Prop := fun vs H1 => ∃ i j : Int, vs = [.int i, .int j] ∧ (-(2 ^ 62) ≤ i ∧ i < 2 ^ 62 ∧ -(2 ^ 62) ≤ j ∧ j < 2 ^ 62) ∧ R (Itr i (j - i).toNat) H1
def RiL (K : PySem.W.Frag) (R : It → Hp → Prop) : VK := fun x H1 => ∃ a, x = .ref a ∧ (∃ xs, SqL K H1 a xs) ∧ R (Itl K a) H1
def RiT (K : PySem.W.Frag) (R : It → Hp → Prop) : VK := fun x H1 => ∃ a, x = .ref a ∧ (∃ xs, SqT K H1 a xs) ∧ R (Itt K a) H1
def RiE (K : PySem.W.Frag) (R : It → Hp → Prop) : List V → Hp → Prop := fun vs H1 => ∃ a xs, vs = [.ref a] ∧ SqL K H1 a xs ∧ R (Ite K a) H1
def RiZ (K : PySem.W.Frag) (R : It → Hp → Prop) : List V → Hp → Prop := fun vs H1 => ∃ a b xs ys, vs = [.ref a, .ref b] ∧ SqL K H1 a xs ∧ SqL K H1 b ys ∧ R (Itz K a b) H1
theorem x_rng1 {ts : TA} {R : It → Hp → Prop} (h : ts σ H (Rg1 R)) : iRng1 ts σ H R := h
theorem x_rng2 {ts : TA} {R : It → Hp → Prop} (h : ts σ H (Rg2 R)) : iRng2 ts σ H R := h
theorem x_rgN {m : Nat} {R : It → Hp → Prop} (hm : (m : Int) < 2 ^ 62) (h : R (Itr 0 m) H) : Rg1 R [V.int (m : Int)] H :=
  ⟨m, rfl, by omega, hm, by rw [Int.toNat_natCast]; exact h⟩
theorem walk_rgN {n : Nat} : Walk (Itr 0 n) n (fun _ => True) (YFn fun i => .int i) :=
  ⟨fun _ _ hi _ => hi, fun _ _ => Nat.le_refl _, fun _ _ _ _ _ _ y => ⟨y.1, by rw [y.2]; simp⟩⟩
theorem x_iList {R : It → Hp → Prop} (h : ta σ H (RiL K R)) : iList K ta σ H R := h
theorem x_iTup {R : It → Hp → Prop} (h : ta σ H (RiT K R)) : iTup K ta σ H R := h
theorem x_itL {a : Addr} {xs : List V} {R : It → Hp → Prop} (hS : SqL K H a xs) (h : R (Itl K a) H) : RiL K R (.ref a) H := ⟨a, rfl, ⟨xs, hS⟩, h⟩
theorem x_itT {a : Addr} {xs : List V} {R : It → Hp → Prop} (hS : SqT K H a xs) (h : R (Itt K a) H) : RiT K R (.ref a) H := ⟨a, rfl, ⟨xs, hS⟩, h⟩
theorem x_iEnum {ts : TA} {R : It → Hp → Prop} (h : ts σ H (RiE K R)) : iEnum K ts σ H R := h
theorem x_enL {a : Addr} {xs : List V} {R : It → Hp → Prop} (hS : SqL K H a xs) (h : R (Ite K a) H) : RiE K R [.ref a] H := ⟨a, xs, rfl, hS, h⟩
theorem x_iZip {ts : TA} {R : It → Hp → Prop} (h : ts σ H (RiZ K R)) : iZip K ts σ H R := h
theorem x_ziL {a b : Addr} {xs ys : List V} {R : It → Hp → Prop} (hS : SqL K H a xs) (hS2 : SqL K H b ys) (h : R (Itz K a b) H) : RiZ K R [.ref a, .ref b] H := ⟨a, b, xs, ys, rfl, hS, hS2, h⟩
theorem x_gTup {n : Nat} {gs : TGs} {R : L2.St → Hp → Prop} {a : Addr} {xs : List V} (hT : SqT K H a xs) (hl : xs.length = n) (h : gs xs σ H R) : gTup K n gs (.ref a) σ H R := ⟨a, xs, rfl, hT, hl, h⟩
theorem x_gCons {g : TG} {gs : TGs} {R : L2.St → Hp → Prop} {xs : List V} (h : g v σ H fun σ' H' => gs xs σ' H' R) : gCons g gs (v :: xs) σ H R := ⟨v, xs, rfl, h⟩
theorem x_gNil {R : L2.St → Hp → Prop} (h : R σ H) : gNil [] σ H R := ⟨rfl, h⟩
/-- a while's turn, or its end -/
def WhS (W : Nat → L2.St → Hp → Prop) (m : Nat) (t : TS) (D : Ends) (b : Bool) (σ : L2.St) (H : Hp) : Prop :=
  if b = true then ∃ N : L2.St → Hp → Prop, (∀ σ' H', N σ' H' → ∃ m', m' < m ∧ W m' σ' H') ∧ t { D with nx := N, ct := N, bk := D.nx } σ H else D.nx σ H
def Less (W : Nat → L2.St → Hp → Prop) (m : Nat) (σ' : L2.St) (H' : Hp) : Prop := ∃ m', m' < m ∧ W m' σ' H'
theorem x_while {W : Nat → L2.St → Hp → Prop} {m : Nat} (h0 : W m σ H) (hs : ∀ m σ H, W m σ H → c σ H fun b H1 => WhS W m t D b σ H1) : tWhile c t D σ H :=
  ⟨W, ⟨m, h0⟩, hs⟩
theorem x_whT {W : Nat → L2.St → Hp → Prop} {m : Nat} (h : t { D with nx := Less W m, ct := Less W m, bk := D.nx } σ H) : WhS W m t D true σ H := by
  unfold WhS; rw [if_pos rfl]; exact ⟨_, fun _ _ h => h, h⟩
theorem x_whF {W : Nat → L2.St → Hp → Prop} {m : Nat} (h : D.nx σ H) : WhS W m t D false σ H := by
  unfold WhS; rw [if_neg Bool.false_ne_true]; exact h
theorem x_whD {W : Nat → L2.St → Hp → Prop} {m : Nat} {p : Prop} [Decidable p] (h1 : p → t { D with nx := Less W m, ct := Less W m, bk := D.nx } σ H) (h2 : ¬ p → D.nx σ H) : WhS W m t D (decide p) σ H := by
  by_cases h : p
  · rw [decide_eq_true h]; exact x_whT (h1 h)
  · rw [decide_eq_false h]; exact x_whF (h2 h)
def RAug (f : Int → Int → Int) (i : Nat) (x : V) (R : L2.St → Hp → Prop) (σ : L2.St) : VK := fun y H => ipI f x y H fun z H2 => R (σ.set i (some z)) H2
theorem x_augI {f : Int → Int → Int} {i : Nat} {k j : Int} {R : L2.St → Hp → Prop} (h : R (σ.set i (some (.int (f k j)))) H) : RAug f i (.int k) R σ (.int j) H := ⟨k, j, rfl, rfl, h⟩
theorem x_aug2 {i : Nat} {f : Int → Int → Int} (e : σ[i]? = some (some x)) (h : te σ H (RAug f i x D.nx σ)) : tAug i te (ipI f) D σ H := ⟨x, e, h⟩
/-- what follows a statement is shown once, from Mid -/
theorem x_cut (Mid : L2.St → Hp → Prop) (h : t { D with nx := Mid } σ H) (k : ∀ σ' H', Mid σ' H' → u D σ' H') : C8.tCut t u D σ H := ⟨Mid, h, k⟩
theorem x_aug {i : Nat} {ti : TIp} (e : σ[i]? = some (some x)) (h : te σ H fun y H1 => ti x y H1 fun z H2 => D.nx (σ.set i (some z)) H2) : tAug i te ti D σ H := ⟨x, e, h⟩

/-! methods of lists -/
theorem x_bm {T : String} {r : V → List V → Hp → VK → Prop} {ts : TA} (h : ta σ H fun x H1 => tyV K T x H1 ∧ ts σ H1 fun xs H2 => r x xs H2 Q) : tBM K T r ta ts σ H Q := h
theorem x_bm0 {T : String} {r : V → List V → Hp → VK → Prop} (h : ta σ H fun x H1 => tyV K T x H1 ∧ r x [] H1 Q) : tBM0 K T r ta σ H Q := h
theorem x_tyL {p : Addr} {xs : List V} {R : Prop} (hS : SqL K H p xs) (h : R) : tyV K "list" (.ref p) H ∧ R := ⟨.inl ⟨rfl, xs, hS⟩, h⟩
theorem x_append {l : Addr} {xs : List V} (hl : H l = some (.lst xs)) (hz : xs.length < sizeLine) (h : Q .non (upd H l (.lst (xs ++ [y])))) : rAppend (.ref l) [y] H Q := ⟨l, xs, y, rfl, rfl, hl, hz, h⟩

/-! operators of our own -/
theorem opr_imp {X : Cx} {f : Value → Value → Sem Value} {r r' : R2} (h : OpR X f r) (hi : ∀ x y H Q, r' x y H Q → r x y H Q) : OpR X f r' :=
  fun pins s σ H x y v u Q I rx ry hw => h pins s σ H x y v u Q I rx ry (hi x y H Q hw)
def rShl1 : R2 := fun x y H Q => ∃ k : Nat, x = .int 1 ∧ y = .int (k : Int) ∧ k ≤ 134217727 ∧ Q (.int ((2 ^ k : Nat) : Int)) H
theorem op_shl1 {X : Cx} : OpR X (binaryOp .LShift) rShl1 := opr_imp op_oneShl fun x y H Q ⟨k, h1, h2, h3, q⟩ => ⟨k, h1, h2, h3, by
  have e : ((2 ^ k : Nat) : Int) = 2 ^ k := by simp
  rw [← e]; exact q⟩
theorem x_shl1 {j : Int} {k : Nat} (hj : j = k) (hk : k ≤ 134217727) (h : Q (.int ((2 ^ k : Nat) : Int)) H) : rShl1 (.int 1) (.int j) H Q := ⟨k, rfl, by rw [hj], hk, h⟩
def rShrN : R2 := fun x y H Q => ∃ n k : Nat, x = .int n ∧ y = .int k ∧ Q (.int ((n / 2 ^ k : Nat) : Int)) H
def rShlN : R2 := fun x y H Q => ∃ n k : Nat, x = .int n ∧ y = .int k ∧ n < 2 ^ 64 ∧ k ≤ 1000000 ∧ Q (.int ((n * 2 ^ k : Nat) : Int)) H
def rXorN : R2 := fun x y H Q => ∃ n k : Nat, x = .int n ∧ y = .int k ∧ Q (.int ((n ^^^ k : Nat) : Int)) H
theorem op_shrN' {X : Cx} : OpR X (binaryOp .RShift) rShrN := opr_imp op_shr fun x y H Q ⟨n, k, h1, h2, q⟩ => ⟨n, k, h1, h2, by omega, by
  have e : ((n / 2 ^ k : Nat) : Int) = (n : Int) / 2 ^ (k : Int).toNat := by simp
  show Q (.int ((n : Int) / 2 ^ (k : Int).toNat)) H
  rw [← e]; exact q⟩
theorem op_shlN' {X : Cx} : OpR X (binaryOp .LShift) rShlN := opr_imp op_shl fun x y H Q ⟨n, k, h1, h2, h3, h4, q⟩ => ⟨n, k, h1, h2, ⟨by omega, by omega, by omega⟩, by
  have e : ((n * 2 ^ k : Nat) : Int) = (n : Int) * 2 ^ (k : Int).toNat := by simp
  show Q (.int ((n : Int) * 2 ^ (k : Int).toNat)) H
  rw [← e]; exact q⟩
theorem op_xorN {X : Cx} : OpR X (binaryOp .BitXor) rXorN := opr_imp op_xor fun x y H Q ⟨n, k, h1, h2, q⟩ => ⟨n, k, h1, h2, by
  show Q (.int (Builtin.bitXor n k)) H
  rw [Bits.bitXor_pp (Int.natCast_nonneg _) (Int.natCast_nonneg _)]; exact q⟩
theorem x_shrN {i j : Int} {n k : Nat} (hi : i = n) (hj : j = k) (h : Q (.int ((n / 2 ^ k : Nat) : Int)) H) : rShrN (.int i) (.int j) H Q := ⟨n, k, by rw [hi], by rw [hj], h⟩
theorem x_shlN {i j : Int} {n k : Nat} (hi : i = n) (hj : j = k) (hn : n < 2 ^ 64) (hk : k ≤ 1000000) (h : Q (.int ((n * 2 ^ k : Nat) : Int)) H) : rShlN (.int i) (.int j) H Q := ⟨n, k, by rw [hi], by rw [hj], hn, hk, h⟩
theorem x_xorN {i j : Int} {n k : Nat} (hi : i = n) (hj : j = k) (h : Q (.int ((n ^^^ k : Nat) : Int)) H) : rXorN (.int i) (.int j) H Q := ⟨n, k, by rw [hi], by rw [hj], h⟩
def rBits (Q : VK) : VK := fun x H1 => ∃ i, x = .int i ∧ Q (.int (Builtin.Int.intBits i : Nat)) H1
theorem e_bits : tBits ta σ H Q = ta σ H (rBits Q) := rfl
theorem x_bits {n : Nat} (h : Q (.int ((if n = 0 then 0 else n.log2 + 1 : Nat) : Int)) H) : rBits Q (.int (n : Int)) H := ⟨n, rfl, by
  have e : Builtin.Int.intBits (n : Int) = if n = 0 then 0 else n.log2 + 1 := by unfold Builtin.Int.intBits; simp
  rw [e]; exact h⟩
theorem two_pos {k : Nat} : (0 : Int) < ((2 ^ k : Nat) : Int) := by
  have := Nat.two_pow_pos k
  omega
theorem mod_two_lt {z : Int} {k : Nat} : ∃ r : Nat, r < 2 ^ k ∧ z % ((2 ^ k : Nat) : Int) = r := by
  have h0 := two_pos (k := k)
  have h1 := Int.emod_nonneg z (Int.ne_of_gt h0)
  have h2 := Int.emod_lt_of_pos z h0
  exact ⟨(z % ((2 ^ k : Nat) : Int)).toNat, by omega, by omega⟩
theorem div_two_cast {k : Nat} (z : Int) : z / 2 ^ (k : Int).toNat = z / ((2 ^ k : Nat) : Int) := by simp

/-! within a comprehension: the constants told -/
section
variable {X : Cx} {K : PySem.W.Frag}
theorem op_eqDK (hu : X.A.units + 64 < cLine) (h : X.K = K) : OpR X (compareOp .Eq) (rEqD K) := h ▸ op_eqD hu
theorem op_neDK (hu : X.A.units + 64 < cLine) (h : X.K = K) : OpR X (compareOp .NotEq) (rNeD K) := h ▸ op_neD hu
theorem op_inK (h : X.K = K) : OpR X (compareOp .In) (rIn K false) := h ▸ op_in_seq
theorem op_notInK (h : X.K = K) : OpR X (compareOp .NotIn) (rIn K true) := h ▸ op_notIn_seq
theorem sl_listK (h : X.K = K) : SlR X (rSlL K) := h ▸ sl_list
theorem ix_listK (h : X.K = K) : IxR X (rIxL K) := h ▸ ix_list
theorem ix_tupK (h : X.K = K) : IxR X (rIxT K) := h ▸ ix_tup
theorem cb_lenK (h : X.K = K) : CallR X (.builtin "len") (rLenS K) := h ▸ cb_len
theorem call_isiK (h : X.K = K) : CallR X (.builtin "isinstance") (rIsi K) := h ▸ call_isi
end
/-! the definitional ones as equations, for dsimp -/
section
variable {K : PySem.W.Frag} {σ : L2.St} {H : Hp} {ta tb te tc : TE} {t u : TS} {c c' : TT} {D : Ends} {Q : VK} {x y v : V} {o : Option V}
theorem e_seq : tSeq t u D σ H = t { D with nx := u D } σ H := rfl
theorem e_next : tNext D σ H = D.nx σ H := rfl
theorem e_asg {g : TG} : tAsg te g D σ H = te σ H fun x H1 => g x σ H1 D.nx := rfl
theorem e_name {i : Nat} {R : L2.St → Hp → Prop} : gName i v σ H R = R (σ.set i (some v)) H := rfl
theorem e_ret : tRet te D σ H = te σ H D.rt := rfl
theorem e_retN : tRetN D σ H = D.rt .non H := rfl
theorem e_drop : tDrop te D σ H = te σ H fun _ H1 => D.nx σ H1 := rfl
theorem e_ifS : tIfS c t u D σ H = c σ H fun b H1 => IfS b t u D σ H1 := rfl
theorem e_IT : IfS true t u D σ H = t D σ H := rfl
theorem e_IF : IfS false t u D σ H = u D σ H := rfl
theorem e_INT : IfS (!true) t u D σ H = u D σ H := rfl
theorem e_INF : IfS (!false) t u D σ H = t D σ H := rfl
theorem e_if {tt : TT} : tIf tt ta tb σ H Q = tt σ H fun b H1 => if b = true then ta σ H1 Q else tb σ H1 Q := rfl
theorem e_varS {i : Nat} : tVar (i + 1) (o :: σ) H Q = tVar i σ H Q := rfl
theorem e_c : tC v σ H Q = Q v H := rfl
theorem e_op {r : R2} : tOp r ta tb σ H Q = ta σ H fun x H1 => tb σ H1 fun y H2 => r x y H2 Q := rfl
theorem e_un {r : V → Hp → VK → Prop} : tUn r ta σ H Q = ta σ H fun x H1 => r x H1 Q := rfl
theorem e_cb {r : List V → Hp → VK → Prop} {ts : TA} : tCB r ts σ H Q = ts σ H fun vs H1 => r vs H1 Q := rfl
theorem e_nil {R : List V → Hp → Prop} : tNil σ H R = R [] H := rfl
theorem e_cons {ts : TA} {R : List V → Hp → Prop} : tCons ta ts σ H R = ta σ H fun x H1 => ts σ H1 fun xs H2 => R (x :: xs) H2 := rfl
theorem e_test {R : Bool → Hp → Prop} : tTest te σ H R = te σ H fun x H' => ∃ k, x = .bl k ∧ R k H' := rfl
theorem e_B {R : Bool → Hp → Prop} : tB te σ H R = te σ H fun x H' => ∃ k, x = .bl k ∧ R k H' := rfl
theorem e_and {R : Bool → Hp → Prop} : tAnd c c' σ H R = c σ H fun b H1 => if b = true then c' σ H1 R else R false H1 := rfl
theorem e_or {R : Bool → Hp → Prop} : tOr c c' σ H R = c σ H fun b H1 => if b = true then R true H1 else c' σ H1 R := rfl
theorem e_not {R : Bool → Hp → Prop} : tNot c σ H R = c σ H fun b H1 => R (!b) H1 := rfl
theorem e_andV : tAndV ta tb σ H Q = ta σ H fun x H1 => ∃ c, x = .bl c ∧ if c = true then tb σ H1 Q else Q (.bl false) H1 := rfl
theorem e_orV : tOrV ta tb σ H Q = ta σ H fun x H1 => ∃ c, x = .bl c ∧ if c = true then Q (.bl true) H1 else tb σ H1 Q := rfl
theorem e_notV : tNotV ta σ H Q = ta σ H fun x H1 => ∃ c, x = .bl c ∧ Q (.bl (!c)) H1 := rfl
theorem e_chain {r r' : R2} : tChain r r' ta tb tc σ H Q = ta σ H fun x H1 => tb σ H1 fun y H2 => r x y H2 fun z H3 => ∃ k, z = .bl k ∧ if k = true then tc σ H3 fun w H4 => r' y w H4 Q else Q (.bl false) H3 := rfl
theorem e_for {wi : TI} {g : TG} {tb : TS} : tFor wi g tb D σ H = wi σ H fun J H1 => ForW g tb D J σ H1 := rfl
theorem e_rng1 {ts : TA} {R : It → Hp → Prop} : iRng1 ts σ H R = ts σ H (Rg1 R) := rfl
theorem e_rng2 {ts : TA} {R : It → Hp → Prop} : iRng2 ts σ H R = ts σ H (Rg2 R) := rfl
theorem e_iList {R : It → Hp → Prop} : iList K ta σ H R = ta σ H (RiL K R) := rfl
theorem e_iTup {R : It → Hp → Prop} : iTup K ta σ H R = ta σ H (RiT K R) := rfl
theorem e_iEnum {ts : TA} {R : It → Hp → Prop} : iEnum K ts σ H R = ts σ H (RiE K R) := rfl
theorem e_iZip {ts : TA} {R : It → Hp → Prop} : iZip K ts σ H R = ts σ H (RiZ K R) := rfl
theorem e_bm {T : String} {r : V → List V → Hp → VK → Prop} {ts : TA} : tBM K T r ta ts σ H Q = ta σ H fun x H1 => tyV K T x H1 ∧ ts σ H1 fun xs H2 => r x xs H2 Q := rfl
theorem e_bm0 {T : String} {r : V → List V → Hp → VK → Prop} : tBM0 K T r ta σ H Q = ta σ H fun x H1 => tyV K T x H1 ∧ r x [] H1 Q := rfl
theorem e_tup {ts : TA} : tTup ts σ H Q = ts σ H fun xs H1 => xs.length ≤ sizeLine ∧ ∀ p, H1 p = none → Q (.ref p) (upd H1 p (.tup xs)) := rfl
theorem e_lst {ts : TA} : tLst ts σ H Q = ts σ H fun xs H1 => xs.length ≤ sizeLine ∧ ∀ p, H1 p = none → Q (.ref p) (upd H1 p (.lst xs)) := rfl
theorem e_calld {sp : Sp} {E : XK} {ds : List V} {ts : TA} : tCall sp ds E ts σ H Q = ts σ H fun vs H1 => sp (vs ++ ds) H1 Q E := rfl
theorem e_T {A B : Prop} : (if true = true then A else B) = A := rfl
theorem e_F {A B : Prop} : (if false = true then A else B) = B := rfl
theorem e_NT {A B : Prop} : (if (!true) = true then A else B) = B := rfl
theorem e_NF {A B : Prop} : (if (!false) = true then A else B) = A := rfl
theorem x_v0 (h : Q v H) : tVar 0 (some v :: σ) H Q := ⟨v, rfl, h⟩
end
/-! pairs that an iterator lays -/
def YPairE (xs ys : Nat → Option V) : Nat → Hp → V → Hp → Prop := fun i H v H' => ∃ T x y, v = .ref T ∧ H T = none ∧ Ex H H' ∧ H' T = some (.tup [x, y]) ∧ xs i = some x ∧ ys i = some y
theorem YPair.e {xs ys : Nat → Option V} {i : Nat} {H : Hp} {v : V} {H' : Hp} (h : YPair xs ys i H v H') : YPairE xs ys i H v H' := by
  obtain ⟨T, x, y, h1, h2, rfl, h4, h5⟩ := h
  exact ⟨T, x, y, h1, h2, Ex.new h2, upd_same, h4, h5⟩
theorem walk_enumE {K : PySem.W.Frag} {a : Addr} {xs : List V} : Walk (Ite K a) xs.length (fun H => SqL K H a xs) (YPairE (fun i => some (.int (i : Nat))) (fun i => xs[i]?)) :=
  walk_enum.mono (fun _ h => h) fun _ _ _ _ _ _ y => YPair.e y
theorem walk_zipE {K : PySem.W.Frag} {a b : Addr} {xs ys : List V} {n : Nat} (hn : n = min xs.length ys.length) : Walk (Itz K a b) n (fun H => SqL K H a xs ∧ SqL K H b ys) (YPairE (fun i => xs[i]?) (fun i => ys[i]?)) :=
  (walk_zip hn).mono (fun _ h => h) fun _ _ _ _ _ _ y => YPair.e y

/-! equality of lists of ints -/
abbrev nV (n : Nat) : V := .int (n : Int)
theorem eqv_ints : ∀ (xs ys : List Int), PyData.eqv (.list (xs.map PyData.int)) (.list (ys.map PyData.int)) = decide (xs = ys)
  | [], [] => rfl
  | [], _ :: _ => rfl
  | _ :: _, [] => rfl
  | x :: xs, y :: ys => by
    have ih := eqv_ints xs ys
    have e : PyData.eqv (.list ((x :: xs).map PyData.int)) (.list ((y :: ys).map PyData.int)) = (decide (x = y) && PyData.eqv (.list (xs.map PyData.int)) (.list (ys.map PyData.int))) := by
      show PyData.eqvAll _ _ = _
      rfl
    rw [e, ih]
    by_cases h : x = y <;> by_cases h2 : xs = ys <;> simp [h, h2]
theorem dpAll_ints {K : PySem.W.Frag} {H : Hp} : ∀ xs : List Int, DpAll K H (xs.map V.int) (xs.map PyData.int)
  | [] => .nil
  | x :: xs => .cons (.int x) (dpAll_ints xs)
theorem shaped_ints (xs : List Int) : SeqAt.shaped (.list (xs.map PyData.int)) = true := by
  induction xs with
  | nil => rfl
  | cons x xs ih =>
    exact ih
theorem eqv_bools : ∀ (xs ys : List Bool), PyData.eqv (.list (xs.map PyData.bool)) (.list (ys.map PyData.bool)) = decide (xs = ys)
  | [], [] => rfl
  | [], _ :: _ => rfl
  | _ :: _, [] => rfl
  | x :: xs, y :: ys => by
    have ih := eqv_bools xs ys
    have e : PyData.eqv (.list ((x :: xs).map PyData.bool)) (.list ((y :: ys).map PyData.bool)) = ((x == y) && PyData.eqv (.list (xs.map PyData.bool)) (.list (ys.map PyData.bool))) := by
      show PyData.eqvAll _ _ = _
      rfl
    rw [e, ih]
    by_cases h : x = y <;> by_cases h2 : xs = ys <;> simp [h, h2]
theorem dpAll_bools {K : PySem.W.Frag} {H : Hp} : ∀ xs : List Bool, DpAll K H (xs.map V.bl) (xs.map PyData.bool)
  | [] => .nil
  | x :: xs => .cons (.bl x) (dpAll_bools xs)
theorem shaped_bools (xs : List Bool) : SeqAt.shaped (.list (xs.map PyData.bool)) = true := by
  induction xs with
  | nil => rfl
  | cons x xs ih => exact ih
theorem x_eqLB {K : PySem.W.Frag} {H : Hp} {Q : VK} {a b : Addr} {xs ys : List Bool} (ha : SqL K H a (xs.map V.bl)) (hb : SqL K H b (ys.map V.bl)) (h : Q (.bl (decide (xs = ys))) H) : rEqD K (.ref a) (.ref b) H Q :=
  ⟨_, _, .lst ha (dpAll_bools xs), .lst hb (dpAll_bools ys), shaped_bools xs, shaped_bools ys, by rw [eqv_bools]; exact h⟩
theorem map_nV (xs : List Nat) : xs.map nV = (xs.map fun n : Nat => (n : Int)).map V.int := by rw [List.map_map]; rfl
theorem nat_inj {xs ys : List Nat} : (xs.map fun n : Nat => (n : Int)) = (ys.map fun n : Nat => (n : Int)) ↔ xs = ys :=
  ⟨fun h => List.map_inj_right (f := fun n : Nat => (n : Int)) (fun a b e => Int.ofNat.inj e) |>.mp h, fun h => by rw [h]⟩
section
variable {K : PySem.W.Frag} {H : Hp} {Q : VK}
theorem x_eqLI {a b : Addr} {xs ys : List Int} (ha : SqL K H a (xs.map V.int)) (hb : SqL K H b (ys.map V.int)) (h : Q (.bl (decide (xs = ys))) H) : rEqD K (.ref a) (.ref b) H Q :=
  ⟨_, _, .lst ha (dpAll_ints xs), .lst hb (dpAll_ints ys), shaped_ints xs, shaped_ints ys, by rw [eqv_ints]; exact h⟩
theorem x_neLI {a b : Addr} {xs ys : List Int} (ha : SqL K H a (xs.map V.int)) (hb : SqL K H b (ys.map V.int)) (h : Q (.bl (!decide (xs = ys))) H) : rNeD K (.ref a) (.ref b) H Q :=
  ⟨_, _, .lst ha (dpAll_ints xs), .lst hb (dpAll_ints ys), shaped_ints xs, shaped_ints ys, by rw [eqv_ints]; exact h⟩
theorem x_eqLN {a b : Addr} {xs ys : List Nat} (ha : SqL K H a (xs.map nV)) (hb : SqL K H b (ys.map nV)) (h : Q (.bl (decide (xs = ys))) H) : rEqD K (.ref a) (.ref b) H Q := by
  rw [map_nV] at ha hb
  refine x_eqLI ha hb ?_
  have e : decide ((xs.map fun n : Nat => (n : Int)) = (ys.map fun n : Nat => (n : Int))) = decide (xs = ys) := decide_eq_decide.mpr nat_inj
  rw [e]; exact h
theorem x_neLN {a b : Addr} {xs ys : List Nat} (ha : SqL K H a (xs.map nV)) (hb : SqL K H b (ys.map nV)) (h : Q (.bl (!decide (xs = ys))) H) : rNeD K (.ref a) (.ref b) H Q := by
  rw [map_nV] at ha hb
  refine x_neLI ha hb ?_
  have e : decide ((xs.map fun n : Nat => (n : Int)) = (ys.map fun n : Nat => (n : Int))) = decide (xs = ys) := decide_eq_decide.mpr nat_inj
  rw [e]; exact h
end

theorem nat_of {H : Hp} {Q : VK} {z : Int} (h : ∀ r : Nat, Q (.int r) H) (hz : 0 ≤ z) : Q (.int z) H := by
  obtain ⟨r, rfl⟩ := Int.eq_ofNat_of_zero_le hz
  exact h r
theorem atI_map {ns : List Int} {j : Nat} (h : j < ns.length) : atI (ns.map V.int) (j : Int) = some (.int ns[j]) := atI_nat (by simp [h])
theorem atI_nV {ns : List Nat} {j : Nat} (h : j < ns.length) : atI (ns.map nV) (j : Int) = some (nV ns[j]) := atI_nat (by simp [h])
theorem atI_neg1' {ns : List Nat} {j : Nat} (h : j < ns.length) : ∃ z, z ∈ ns ∧ atI (ns.map nV) ((j : Int) - 1) = some (nV z) := by
  unfold atI ixN
  by_cases hj : 0 ≤ (j : Int) - 1
  · rw [if_pos hj, if_pos (by simp; omega)]
    have h2 : ((j : Int) - 1).toNat < ns.length := by omega
    exact ⟨ns[((j : Int) - 1).toNat], List.getElem_mem h2, by
      show (ns.map nV)[_]? = _
      rw [List.getElem?_map, List.getElem?_eq_getElem h2]; rfl⟩
  · rw [if_neg hj, if_pos (by simp; omega)]
    have h2 : ((j : Int) - 1 + ((ns.map nV).length : Int)).toNat < ns.length := by simp; omega
    refine ⟨ns[((j : Int) - 1 + ((ns.map nV).length : Int)).toNat], List.getElem_mem h2, ?_⟩
    show (ns.map nV)[_]? = _
    rw [List.getElem?_map, List.getElem?_eq_getElem h2]; rfl
theorem atI_neg1 {ns : List Nat} {j : Nat} (h : j < ns.length) : ∃ z, atI (ns.map nV) ((j : Int) - 1) = some (nV z) := let ⟨z, _, e⟩ := atI_neg1' h; ⟨z, e⟩
/-! comprehensions over a list: one name, one test or none -/
def LcW (g : TG) (tt : TT) (te : TE) (vs : List Nat) (σ : L2.St) (Q : VK) : It → Hp → Prop := fun J H1 => ∀ D, H1 D = none → ∃ W : Nat → Nat → Hp → Prop, (∃ m, W 0 m (upd H1 D (.lst []))) ∧ ∀ i m H, W i m H →
  (J.stop i H ∧ Q (.ref D) H) ∨ (J.go i H ∧ ∃ Nx : Hp → Prop, (∀ H', Nx H' → ∃ m', m' < m ∧ W (i + 1) m' H') ∧ ∀ x H', J.yld i H x H' → g x (wipe σ vs) H' fun σ2 H2 => wipe σ2 vs = wipe σ vs ∧ tt σ2 H2 fun b H3 =>
    if b = true then te σ2 H3 fun y H4 => ∃ acc, H4 D = some (.lst acc) ∧ acc.length < sizeLine ∧ Nx (upd H4 D (.lst (acc ++ [y]))) else Nx H3)
theorem e_lc {wi : TI} {g : TG} {tt : TT} {te : TE} {vs : List Nat} {σ : L2.St} {H : Hp} {Q : VK} : tLc wi g tt te vs σ H Q = wi σ H (LcW g tt te vs σ Q) := rfl
theorem e_wipe0 {σ : L2.St} : wipe σ [] = σ := rfl
theorem e_wipe1 {σ : L2.St} {v : Nat} {vs : List Nat} : wipe σ (v :: vs) = (wipe σ vs).set v none := rfl
theorem e_yes {σ : L2.St} {H : Hp} {R : Bool → Hp → Prop} : tYes σ H R = R true H := rfl
theorem wipe_set1 {σ : L2.St} {i : Nat} {v : Option V} : wipe ((wipe σ [i]).set i v) [i] = wipe σ [i] := by
  show (((σ.set i none).set i v).set i none) = σ.set i none
  rw [List.set_set, List.set_set]
section
variable {K : PySem.W.Frag} {H : Hp} {Q : VK} {σ : L2.St} {tl te : TE} {tt : TT} {k : Nat}
/-- the list stands; test and element are reckoned of each item and change nothing that stood -/
theorem LcW.fmA {α : Type} {emb : α → V} {a : Addr} {xs : List α} (p : α → Bool) (f : α → V) (hS : SqL K H a (xs.map emb)) (hz : xs.length < sizeLine)
    (ht : ∀ x ∈ xs, ∀ H', Ex H H' → ∀ R : Bool → Hp → Prop, (∀ H'', Ex H' H'' → R (p x) H'') → tt ((wipe σ [k]).set k (some (emb x))) H' R)
    (he : ∀ x ∈ xs, p x = true → ∀ H', Ex H H' → ∀ Qe : VK, (∀ H'', Ex H' H'' → Qe (f x) H'') → te ((wipe σ [k]).set k (some (emb x))) H' Qe)
    (hk : ∀ D H', H D = none → Ex H H' → H' D = some (.lst ((xs.filter p).map f)) → Q (.ref D) H') :
    LcW (gName k) tt te [k] σ Q (Itl K a) H := by
  intro D hD
  refine lc_list (K := K) (a := a) (xs := xs.map emb) (Qd := fun H' => Q (.ref D) H') (fun i H' => Ex H H' ∧ H' D = some (.lst (((xs.take i).filter p).map f))) ⟨Ex.new hD, by rw [upd_same]; rfl⟩ (fun i H' _ h => h.1.ls hS) ?_ ?_
  · rintro i y H1 hx ⟨ex, h1⟩
    obtain ⟨x, hxi, rfl⟩ : ∃ x, xs[i]? = some x ∧ y = emb x := by
      rw [List.getElem?_map] at hx
      cases e : xs[i]? with
      | none => rw [e] at hx; cases hx
      | some x => rw [e] at hx; exact ⟨x, rfl, (Option.some.inj hx).symm⟩
    have hm : x ∈ xs := List.mem_of_getElem? hxi
    have et : xs.take (i + 1) = xs.take i ++ [x] := by rw [List.take_add_one, hxi]; rfl
    refine ⟨wipe_set1, ht x hm H1 ex _ fun H2 ex2 => ?_⟩
    cases hp : p x with
    | true =>
      refine iteT (he x hm hp H2 (ex.trans ex2) _ fun H3 ex3 => ⟨_, ex3.at (ex2.at h1), ?_, ?_, ?_⟩)
      · rw [List.length_map]
        exact Nat.lt_of_le_of_lt (Nat.le_trans (List.length_filter_le _ _) (List.length_take_le' _ _)) hz
      · exact ((ex.trans ex2).trans ex3).mut hD (ex3.at (ex2.at h1))
      · rw [upd_same, et, List.filter_append, List.map_append]
        simp [hp]
    | false =>
      refine iteF ⟨ex.trans ex2, ?_⟩
      rw [et, List.filter_append, List.map_append]
      simp [hp]
      simpa using ex2.at h1
  · rintro H1 ⟨ex, h1⟩
    rw [List.length_map, List.take_length] at h1
    exact hk D H1 hD ex h1
theorem LcW.fm {a : Addr} {xs : List V} (p : V → Bool) (f : V → V) (hS : SqL K H a xs) (hz : xs.length < sizeLine)
    (ht : ∀ x ∈ xs, ∀ H', Ex H H' → ∀ R : Bool → Hp → Prop, (∀ H'', Ex H' H'' → R (p x) H'') → tt ((wipe σ [k]).set k (some x)) H' R)
    (he : ∀ x ∈ xs, p x = true → ∀ H', Ex H H' → ∀ Qe : VK, (∀ H'', Ex H' H'' → Qe (f x) H'') → te ((wipe σ [k]).set k (some x)) H' Qe)
    (hk : ∀ D H', H D = none → Ex H H' → H' D = some (.lst ((xs.filter p).map f)) → Q (.ref D) H') :
    LcW (gName k) tt te [k] σ Q (Itl K a) H := LcW.fmA (emb := id) p f (by rw [List.map_id]; exact hS) hz ht he hk
/-- over whatever walks; item, test and element are reckoned and change nothing that stood -/
theorem LcW.fmW {J : It} {n : Nat} {G : Hp → Prop} {Y : Nat → Hp → V → Hp → Prop} (w : Walk J n G Y) (hz : n < sizeLine) (g : Nat → V) (p : Nat → Bool) (f : Nat → V) (hG : ∀ H', Ex H H' → G H') (hY : ∀ i H1 x H2, i < n → Y i H1 x H2 → x = g i ∧ Ex H1 H2)
    (ht : ∀ i, i < n → ∀ H', Ex H H' → ∀ R : Bool → Hp → Prop, (∀ H'', Ex H' H'' → R (p i) H'') → tt ((wipe σ [k]).set k (some (g i))) H' R)
    (he : ∀ i, i < n → p i = true → ∀ H', Ex H H' → ∀ Qe : VK, (∀ H'', Ex H' H'' → Qe (f i) H'') → te ((wipe σ [k]).set k (some (g i))) H' Qe)
    (hk : ∀ D H', H D = none → Ex H H' → H' D = some (.lst (((List.range n).filter p).map f)) → Q (.ref D) H') : LcW (gName k) tt te [k] σ Q J H := by
  intro D hD
  refine lc_it w (Qd := fun H' => Q (.ref D) H') (fun i H' => Ex H H' ∧ H' D = some (.lst (((List.range i).filter p).map f))) ⟨Ex.new hD, by rw [upd_same]; rfl⟩ (fun i H' _ h => hG H' h.1) ?_ ?_
  · rintro i x H1 H2 hi ⟨ex, h1⟩ y
    obtain ⟨rfl, ex12⟩ := hY i H1 x H2 hi y
    have ex2 := ex.trans ex12
    have h2 := ex12.at h1
    refine ⟨wipe_set1, ht i hi H2 ex2 _ fun H3 ex3 => ?_⟩
    have h3 := ex3.at h2
    have ex03 := ex2.trans ex3
    cases hp : p i with
    | true =>
      refine iteT (he i hi hp H3 ex03 _ fun H4 ex4 => ⟨_, ex4.at h3, ?_, (ex03.trans ex4).mut hD (ex4.at h3), ?_⟩)
      · rw [List.length_map]
        exact Nat.lt_of_le_of_lt (Nat.le_trans (List.length_filter_le _ _) (by rw [List.length_range]; omega)) hz
      · rw [upd_same, List.range_succ, List.filter_append, List.map_append]
        simp [hp]
    | false =>
      refine iteF ⟨ex03, ?_⟩
      rw [List.range_succ, List.filter_append, List.map_append]
      simp [hp]
      simpa using h3
  · rintro H1 ⟨ex, h1⟩
    exact hk D H1 hD ex h1
/-- over range(n) -/
theorem LcW.rng {n : Nat} (hz : n < sizeLine) (p : Nat → Bool) (f : Nat → V)
    (ht : ∀ i, i < n → ∀ H', Ex H H' → ∀ R : Bool → Hp → Prop, (∀ H'', Ex H' H'' → R (p i) H'') → tt ((wipe σ [k]).set k (some (nV i))) H' R)
    (he : ∀ i, i < n → p i = true → ∀ H', Ex H H' → ∀ Qe : VK, (∀ H'', Ex H' H'' → Qe (f i) H'') → te ((wipe σ [k]).set k (some (nV i))) H' Qe)
    (hk : ∀ D H', H D = none → Ex H H' → H' D = some (.lst (((List.range n).filter p).map f)) → Q (.ref D) H') : LcW (gName k) tt te [k] σ Q (Itr 0 n) H :=
  LcW.fmW walk_rgN hz nV p f (fun _ _ => trivial) (fun i H1 x H2 _ y => ⟨y.2, by rw [y.1]; exact Ex.refl⟩) ht he hk
/-- a plain map -/
theorem LcW.map {α : Type} {emb : α → V} {a : Addr} {xs : List α} (f : α → V) (hS : SqL K H a (xs.map emb)) (hz : xs.length < sizeLine)
    (he : ∀ x ∈ xs, ∀ H', Ex H H' → ∀ Qe : VK, (∀ H'', Ex H' H'' → Qe (f x) H'') → te ((wipe σ [k]).set k (some (emb x))) H' Qe)
    (hk : ∀ D H', H D = none → Ex H H' → H' D = some (.lst (xs.map f)) → Q (.ref D) H') :
    LcW (gName k) tYes te [k] σ Q (Itl K a) H :=
  LcW.fmA (fun _ => true) f hS hz (fun _ _ _ _ _ h => h _ Ex.refl) (fun x hx _ H' e Qe h => he x hx H' e Qe h) fun D H' h1 h2 h3 => hk D H' h1 h2 (by rw [h3, List.filter_eq_self.mpr fun _ _ => rfl])
/-- a plain filter -/
theorem LcW.filt {α : Type} {emb : α → V} {a : Addr} {xs : List α} (p : α → Bool) (hS : SqL K H a (xs.map emb)) (hz : xs.length < sizeLine)
    (ht : ∀ x ∈ xs, ∀ H', Ex H H' → ∀ R : Bool → Hp → Prop, (∀ H'', Ex H' H'' → R (p x) H'') → tt ((wipe σ [k]).set k (some (emb x))) H' R)
    (he : ∀ x ∈ xs, p x = true → ∀ H', Ex H H' → ∀ Qe : VK, Qe (emb x) H' → te ((wipe σ [k]).set k (some (emb x))) H' Qe)
    (hk : ∀ D H', H D = none → Ex H H' → H' D = some (.lst ((xs.filter p).map emb)) → Q (.ref D) H') :
    LcW (gName k) tt te [k] σ Q (Itl K a) H :=
  LcW.fmA p emb hS hz ht (fun x hx hp H' e Qe h => he x hx hp H' e Qe (h H' Ex.refl)) hk
end

theorem lt_ok {xs : List V} (h : decide (xs.length ≤ 1000) = true) : xs.length < sizeLine := Nat.lt_of_le_of_lt (of_decide_eq_true h) (by decide)
theorem len_ok {xs : List V} (h : decide (xs.length ≤ 1000) = true) : xs.length ≤ sizeLine := Nat.le_trans (of_decide_eq_true h) (by decide)
/-! dicts -/
abbrev nK (n : Nat) : Key := .inl (n : Int)
theorem nK_inj {a b : Nat} (h : nK a = nK b) : a = b := Int.ofNat.inj (Sum.inl.inj h)
def RDg (Q : VK) : V → V → Hp → Prop := fun x y H2 => ∃ a v, x = .ref a ∧ DGet H2 a y (some v) ∧ Q v H2
def RDi (Q : VK) : V → V → Hp → Prop := fun x y H2 => ∃ a o, x = .ref a ∧ DGet H2 a y o ∧ Q (.bl o.isSome) H2
def RDn (Q : VK) : V → V → Hp → Prop := fun x y H2 => ∃ a o, x = .ref a ∧ DGet H2 a y o ∧ Q (.bl (!o.isSome)) H2
def RDp (R : Hp → Prop) : V → V → V → Hp → Prop := fun x y v H3 => ∃ a H4, x = .ref a ∧ DPut H3 a y v H4 ∧ R H4
def RDN (Q : VK) : Hp → Prop := fun H => ∀ p, H p = none → Q (.ref p) (upd H p (.dK []))
section
variable {K : PySem.W.Frag} {σ : L2.St} {H : Hp} {td ty tv tx : TE} {D : Ends} {Q : VK}
theorem e_dget : tDGet td ty σ H Q = td σ H fun x H1 => ty σ H1 fun y H2 => RDg Q x y H2 := rfl
theorem e_din : tDIn ty td σ H Q = ty σ H fun y H1 => td σ H1 fun x H2 => RDi Q x y H2 := rfl
theorem e_dnin : tDNotIn ty td σ H Q = ty σ H fun y H1 => td σ H1 fun x H2 => RDn Q x y H2 := rfl
theorem e_dput : sDPut td ty tv D σ H = tv σ H fun v H1 => td σ H1 fun x H2 => ty σ H2 fun y H3 => RDp (D.nx σ) x y v H3 := rfl
theorem e_dnew : tDNewK σ H Q = RDN Q H := rfl
theorem x_dget {a : Addr} {kvs : List (Key × V)} {i : Int} {v : V} (h : H a = some (.dK kvs)) (e : valV kvs (.inl i) = some v) (k : Q v H) : RDg Q (.ref a) (.int i) H := ⟨a, v, rfl, .inl ⟨kvs, .inl i, .inl h, rfl, e.symm⟩, k⟩
theorem x_din {a : Addr} {kvs : List (Key × V)} {i : Int} (h : H a = some (.dK kvs)) (k : Q (.bl (valV kvs (.inl i)).isSome) H) : RDi Q (.ref a) (.int i) H := ⟨a, _, rfl, .inl ⟨kvs, .inl i, .inl h, rfl, rfl⟩, k⟩
theorem x_dnin {a : Addr} {kvs : List (Key × V)} {i : Int} (h : H a = some (.dK kvs)) (k : Q (.bl (!(valV kvs (.inl i)).isSome)) H) : RDn Q (.ref a) (.int i) H := ⟨a, _, rfl, .inl ⟨kvs, .inl i, .inl h, rfl, rfl⟩, k⟩
theorem x_dput {R : Hp → Prop} {a : Addr} {kvs : List (Key × V)} {i : Int} {v : V} (h : H a = some (.dK kvs)) (hz : kvs.length < sizeLine) (k : R (upd H a (.dK (putK kvs (.inl i) v)))) : RDp R (.ref a) (.int i) v H := ⟨a, _, rfl, .inl ⟨kvs, .inl i, h, rfl, hz, rfl⟩, k⟩
theorem x_dnew (h : ∀ p, H p = none → Q (.ref p) (upd H p (.dK []))) : RDN Q H := h
end
/-- sorted(d), d's keys ints, fewer than 64 -/
def rSortDI : List V → Hp → VK → Prop := fun xs H Q => ∃ (a : Addr) (kvs : List (Key × V)) (ks : List Int), xs = [.ref a] ∧ Rd H a (.dK kvs) ∧ kvs.map (·.1) = ks.map Sum.inl ∧ ks.length < 64 ∧
    ∀ (ys : List Int) (p : Addr), ys.Perm ks → ys.Pairwise (· ≤ ·) → H p = none → Q (.ref p) (upd H p (.lst (ys.map V.int)))
theorem cb_sortD {X : Cx} (hc : X.calm = true) : CallR X (.builtin "sorted") rSortDI := call_sortedDI hc

/-! objects: fields, methods -/
def RFld (K : PySem.W.Frag) (f : Str) (Q : VK) : VK := fun x H1 => ∃ a C dx fs v, x = .ref a ∧ H1 a = some (.ins C dx fs) ∧ Cls K C ∧ NoAttr K C f ∧ fs.lookup f = some v ∧ Q v H1
def RSf (K : PySem.W.Frag) (f : Str) (y : V) (R : Hp → Prop) : VK := fun x H2 => ∃ a C dx fs, x = .ref a ∧ H2 a = some (.ins C dx fs) ∧ Cls K C ∧ NoAttr K C f ∧ fs.length < 1000 ∧ R (upd H2 a (.ins C dx (putF f y fs)))
def RMt (C : Addr) (m : Str) (sp : Sp) (dvs : List V) (E : XK) (t : TA) (σ : L2.St) (Q : VK) : VK := fun x H1 => ∃ a dx fs, x = .ref a ∧ H1 a = some (.ins C dx fs) ∧ fs.lookup m = none ∧ t σ H1 fun vs H2 => sp (x :: (vs ++ dvs)) H2 Q E
section
variable {K : PySem.W.Frag} {σ : L2.St} {H : Hp} {ta tv : TE} {D : Ends} {Q : VK} {v y : V} {f m : Str} {a C dx : Addr} {fs : List (Str × V)} {sp : Sp} {dvs : List V} {E : XK} {t : TA}
theorem e_fld : tFld K ta f σ H Q = ta σ H (RFld K f Q) := rfl
theorem e_sfld : sFld K ta tv f D σ H = tv σ H fun y H1 => ta σ H1 (RSf K f y (D.nx σ)) := rfl
theorem e_meth : tMeth C m sp dvs E ta t σ H Q = ta σ H (RMt C m sp dvs E t σ Q) := rfl
theorem x_fld (h : H a = some (.ins C dx fs)) (c : Cls K C) (n : NoAttr K C f) (l : fs.lookup f = some v) (k : Q v H) : RFld K f Q (.ref a) H := ⟨a, C, dx, fs, v, rfl, h, c, n, l, k⟩
theorem x_sfld {R : Hp → Prop} {fs' : List (Str × V)} (h : H a = some (.ins C dx fs)) (c : Cls K C) (n : NoAttr K C f) (e : putF f y fs = fs') (hz : decide (fs.length < 1000) = true) (k : R (upd H a (.ins C dx fs'))) : RSf K f y R (.ref a) H := ⟨a, C, dx, fs, rfl, h, c, n, of_decide_eq_true hz, by rw [e]; exact k⟩
theorem x_meth (h : H a = some (.ins C dx fs)) (l : fs.lookup m = none) (k : t σ H fun vs H2 => sp (.ref a :: (vs ++ dvs)) H2 Q E) : RMt C m sp dvs E t σ Q (.ref a) H := ⟨a, dx, fs, rfl, h, l, k⟩
end
/-! slices -/
section
variable {K : PySem.W.Frag} {σ : L2.St} {H : Hp} {ta : TE} {tl th : TO} {Q : VK} {R : Option Int → Hp → Prop}
theorem e_sl {r : V → Option Int → Option Int → Hp → VK → Prop} : tSl r ta tl th σ H Q = ta σ H fun x H1 => tl σ H1 fun l H2 => th σ H2 fun u H3 => r x l u H3 Q := rfl
theorem e_nopart : tNoPart σ H R = R none H := rfl
def RPt (R : Option Int → Hp → Prop) : VK := fun x H1 => ∃ i, x = .int i ∧ R (some i) H1
theorem e_part : tPart ta σ H R = ta σ H (RPt R) := rfl
theorem x_part {i : Int} (h : R (some i) H) : RPt R (.int i) H := ⟨i, rfl, h⟩
theorem x_slL {p : Addr} {xs : List V} {lo hi : Option Int} (hS : SqL K H p xs) (h : ∀ q, H q = none → Q (.ref q) (upd H q (.lst (cutV xs lo hi)))) : rSlL K (.ref p) lo hi H Q := ⟨p, xs, rfl, hS, h⟩
theorem cut_take {xs : List V} {k : Nat} : cutV xs none (some (k : Int)) = xs.take k := by
  unfold cutV
  rw [HT.sIx_none, HT.sIx_nat, List.drop_zero, Nat.sub_zero]
  by_cases h : k ≤ xs.length
  · rw [Nat.min_eq_left h]
  · rw [Nat.min_eq_right (by omega), List.take_of_length_le (Nat.le_refl _), List.take_of_length_le (i := k) (by omega)]
theorem cut_drop {xs : List V} {k : Nat} : cutV xs (some (k : Int)) none = xs.drop k := by
  unfold cutV
  rw [HT.sIx_none, HT.sIx_nat]
  by_cases h : k ≤ xs.length
  · rw [Nat.min_eq_left h, List.take_of_length_le (by rw [List.length_drop]; omega)]
  · rw [Nat.min_eq_right (by omega), List.drop_of_length_le (Nat.le_refl _), List.drop_of_length_le (by omega), List.take_nil]
end
/-! members, methods of lists of names -/
theorem inV_nat {n : Nat} : ∀ {ns : List Nat}, inV (nV n) (ns.map nV) = decide (n ∈ ns)
  | [] => rfl
  | m :: r => by
    have ih := inV_nat (n := n) (ns := r)
    unfold inV at ih ⊢
    rw [List.map_cons, List.any_cons, ih]
    show (((m : Int) == (n : Int)) || decide (n ∈ r)) = _
    by_cases e : m = n
    · simp [e]
    · have e' : ¬ (m : Int) = n := fun z => e (Int.ofNat.inj z)
      simp [e', Ne.symm e]
theorem flat_nat (ns : List Nat) : (ns.map nV).all flatV = true := by
  rw [List.all_eq_true]
  intro x hx
  obtain ⟨n, _, rfl⟩ := List.mem_map.mp hx
  rfl
section
variable {K : PySem.W.Frag} {H : Hp} {Q : VK}
theorem x_inN {i : Int} {n : Nat} {p : Addr} {ns : List Nat} (hi : i = n) (hS : SqL K H p (ns.map nV)) (h : Q (.bl (decide (n ∈ ns))) H) : rIn K false (.int i) (.ref p) H Q := by
  subst hi; exact ⟨p, _, rfl, .inl hS, rfl, flat_nat ns, by rw [inV_nat]; exact h⟩
theorem x_ninN {i : Int} {n : Nat} {p : Addr} {ns : List Nat} (hi : i = n) (hS : SqL K H p (ns.map nV)) (h : Q (.bl (!decide (n ∈ ns))) H) : rIn K true (.int i) (.ref p) H Q := by
  subst hi; exact ⟨p, _, rfl, .inl hS, rfl, flat_nat ns, by rw [inV_nat]; exact h⟩
theorem erase_first {n : Nat} : ∀ {ns : List Nat}, n ∈ ns → ∃ j : Nat, (ns.map fun n : Nat => (n : Int))[j]? = some (n : Int) ∧ (∀ m : Nat, m < j → (ns.map fun n : Nat => (n : Int))[m]? ≠ some (n : Int)) ∧ ns.eraseIdx j = ns.erase n
  | [], h => by cases h
  | m :: r, h => by
    by_cases e : m = n
    · refine ⟨0, by simp [e], fun m h => absurd h (Nat.not_lt_zero _), by simp [e]⟩
    · have hr : n ∈ r := by
        rcases List.mem_cons.mp h with z | z
        · exact absurd z.symm e
        · exact z
      obtain ⟨j, h1, h2, h3⟩ := erase_first hr
      refine ⟨j + 1, by simpa using h1, fun k hk => ?_, ?_⟩
      · cases k with
        | zero =>
          intro z
          have z : some ((m : Nat) : Int) = some (n : Int) := z
          exact e (Int.ofNat.inj (Option.some.inj z))
        | succ k => exact h2 k (by omega)
      · rw [List.eraseIdx_cons_succ, h3, List.erase_cons_tail (by simpa using e)]
theorem eraseIdx_mapV {α β : Type} (f : α → β) : ∀ (xs : List α) (j : Nat), (xs.map f).eraseIdx j = (xs.eraseIdx j).map f
  | [], _ => rfl
  | _ :: _, 0 => rfl
  | x :: r, j + 1 => by
    show f x :: (r.map f).eraseIdx j = f x :: (r.eraseIdx j).map f
    rw [eraseIdx_mapV f r j]
theorem x_remove {i : Int} {n : Nat} {l : Addr} {ns : List Nat} (hi : i = n) (hl : H l = some (.lst (ns.map nV))) (hn : n ∈ ns) (h : Q .non (upd H l (.lst ((ns.erase n).map nV)))) : rRemI (.ref l) [.int i] H Q := by
  subst hi
  obtain ⟨j, h1, h2, h3⟩ := erase_first hn
  refine ⟨l, ns.map fun n : Nat => (n : Int), n, j, rfl, rfl, by rw [← map_nV]; exact hl, h1, h2, ?_⟩
  have e : ((ns.map fun n : Nat => (n : Int)).eraseIdx j).map V.int = (ns.erase n).map nV := by
    rw [eraseIdx_mapV, h3, ← map_nV]
  rw [e]; exact h
theorem x_pop0 {l : Addr} {x : V} {xs : List V} (hl : H l = some (.lst (x :: xs))) (h : Q x (upd H l (.lst xs))) : rPopAt (.ref l) [.int 0] H Q :=
  ⟨l, x :: xs, 0, 0, x, rfl, rfl, hl, by decide, by decide, by unfold seqIndex?; simp, rfl, h⟩
end

/-! len(set(names)), [:-1] -/
def RLs (K : PySem.W.Frag) (Q : VK) : VK := fun x H1 => ∃ (l : Addr) (ns : List Int), x = .ref l ∧ SqL K H1 l (ns.map V.int) ∧ ns.Nodup ∧ ns.length ≤ 4000 ∧ Q (.int (ns.length : Nat)) H1
theorem e_lenSet {K : PySem.W.Frag} {σ : L2.St} {H : Hp} {ta : TE} {Q : VK} : RZ.tLenSetI K ta σ H Q = ta σ H (RLs K Q) := rfl
theorem x_lenSet {K : PySem.W.Frag} {H : Hp} {Q : VK} {a : Addr} {ns : List Nat} (hS : SqL K H a (ns.map nV)) (nd : ns.Nodup) (hz : ns.length ≤ 4000) (h : Q (.int (ns.length : Nat)) H) : RLs K Q (.ref a) H :=
  ⟨a, ns.map fun n : Nat => (n : Int), rfl, by rw [← map_nV]; exact hS, List.Pairwise.map _ (fun a b h e => h (Int.ofNat.inj e)) nd, by rw [List.length_map]; exact hz, by rw [List.length_map]; exact h⟩
theorem cut_init {xs : List V} : cutV xs none (some (-1)) = xs.dropLast := by
  unfold cutV
  rw [HT.sIx_none, List.drop_zero, Nat.sub_zero]
  have e : HT.sIx xs.length xs.length (some (-1)) = xs.length - 1 := by
    unfold HT.sIx
    simp
    omega
  rw [e, List.dropLast_eq_take]
theorem x_truB {K : PySem.W.Frag} {H : Hp} {R : Bool → Prop} {b : Bool} (h : R b) : ∃ k, TruV K (.bl b) H k ∧ R k := ⟨b, rfl, h⟩
/-! dicts that are locked while they are walked -/
def LockD (D : Ends) (d : Addr) (od : Obj) (u : HO) : Ends := ⟨fun σ' H' => H' d = some (.frz od u) ∧ D.nx σ' (upd H' d u), fun v H' => H' d = some (.frz od u) ∧ D.rt v (upd H' d u), fun σ' H' => H' d = some (.frz od u) ∧ D.bk σ' (upd H' d u), fun σ' H' => H' d = some (.frz od u) ∧ D.ct σ' (upd H' d u)⟩
theorem x_lock {t : TS} {D : Ends} {σ : L2.St} {H : Hp} {d : Addr} {kvs : List (Key × V)} (h : H d = some (.dK kvs)) (k : ∀ od, t (LockD D d od (.dK kvs)) σ (upd H d (.frz od (.dK kvs)))) : tLock t D σ H := ⟨d, .dK kvs, h, trivial, k⟩
def RiK (R : It → Hp → Prop) : VK := fun x H1 => ∃ d o, x = .ref d ∧ ((∃ kvs, H1 d = some (.frz o (.dK kvs)) ∧ R (Itk d o kvs) H1) ∨ ∃ kvs, H1 d = some (.frz o (.dT kvs)) ∧ R (Itkt d o kvs) H1)
theorem e_keys {td : TE} {σ : L2.St} {H : Hp} {R : It → Hp → Prop} : iKeys td σ H R = td σ H (RiK R) := rfl
theorem x_itK {H : Hp} {R : It → Hp → Prop} {d : Addr} {o : Obj} {kvs : List (Key × V)} (h : H d = some (.frz o (.dK kvs))) (k : R (Itk d o kvs) H) : RiK R (.ref d) H := ⟨d, o, rfl, .inl ⟨kvs, h, k⟩⟩
theorem Fr.less {S : Addr → Prop} {H H1 : Hp} (f : Fr S H H1) (h : ∀ a, S a → H1 a = H a) : Ex H H1 :=
  ⟨fun a o e n _ => by
    by_cases s : S a
    · rw [h a s]; exact e
    · exact f.keep a o e n s, f.tab, f.back⟩
theorem Ex.unlock {H H' : Hp} {d : Addr} {od : Obj} {kvs : List (Key × V)} (h : H d = some (.dK kvs)) (e : Ex (upd H d (.frz od (.dK kvs))) H') : Ex H (upd H' d (.dK kvs)) :=
  (((Fr.upd1 (o := .frz od (.dK kvs)) h).trans (e.fr (S := fun a => a = d))).trans (Fr.upd1 (o := .dK kvs) (e.at upd_same))).less fun a z => by rw [z, upd_same, h]
theorem Rd.fr {S : Addr → Prop} {H H' : Hp} {a : Addr} {kvs : List (Key × V)} (h : Rd H a (.dK kvs)) (f : Fr S H H') (s : ¬ S a) : Rd H' a (.dK kvs) := by
  rcases h with h | ⟨o, h⟩
  · exact .inl (f.at h s)
  · exact .inr ⟨o, f.at h s⟩
section
variable {H : Hp} {Q : VK} {a : Addr} {kvs : List (Key × V)} {i : Int} {z : Str} {v : V}
theorem x_dgetR (h : Rd H a (.dK kvs)) (e : valV kvs (.inl i) = some v) (k : Q v H) : RDg Q (.ref a) (.int i) H := ⟨a, v, rfl, .inl ⟨kvs, .inl i, h, rfl, e.symm⟩, k⟩
theorem x_dgetS (h : Rd H a (.dK kvs)) (e : valV kvs (.inr z) = some v) (k : Q v H) : RDg Q (.ref a) (.str z) H := ⟨a, v, rfl, .inl ⟨kvs, .inr z, h, rfl, e.symm⟩, k⟩
theorem x_dinR (h : Rd H a (.dK kvs)) (k : Q (.bl (valV kvs (.inl i)).isSome) H) : RDi Q (.ref a) (.int i) H := ⟨a, _, rfl, .inl ⟨kvs, .inl i, h, rfl, rfl⟩, k⟩
theorem x_dninR (h : Rd H a (.dK kvs)) (k : Q (.bl (!(valV kvs (.inl i)).isSome)) H) : RDn Q (.ref a) (.int i) H := ⟨a, _, rfl, .inl ⟨kvs, .inl i, h, rfl, rfl⟩, k⟩
end
def RDG2 (ty tx : TE) (σ : L2.St) (Q : VK) : VK := fun x H1 => ∃ a, x = .ref a ∧ IsD H1 a ∧ ty σ H1 fun y H2 => tx σ H2 fun z H3 => ∃ o, DGet H3 a y o ∧ Q (o.getD z) H3
def RG2 (a : Addr) (Q : VK) : V → V → Hp → Prop := fun y z H3 => ∃ o, DGet H3 a y o ∧ Q (o.getD z) H3
theorem e_dget2 {td ty tx : TE} {σ : L2.St} {H : Hp} {Q : VK} : tDGet2 td ty tx σ H Q = td σ H (RDG2 ty tx σ Q) := rfl
theorem x_dget2 {ty tx : TE} {σ : L2.St} {H : Hp} {Q : VK} {a : Addr} {kvs : List (Key × V)} (h : H a = some (.dK kvs)) (k : ty σ H fun y H2 => tx σ H2 fun z H3 => RG2 a Q y z H3) : RDG2 ty tx σ Q (.ref a) H := ⟨a, rfl, .inl ⟨kvs, .inl h⟩, k⟩
theorem x_g2 {H : Hp} {Q : VK} {a : Addr} {kvs : List (Key × V)} {i : Int} {z : V} (h : H a = some (.dK kvs)) (k : Q ((valV kvs (.inl i)).getD z) H) : RG2 a Q (.int i) z H := ⟨_, .inl ⟨kvs, .inl i, .inl h, rfl, rfl⟩, k⟩
def RDP1 (ty : TE) (σ : L2.St) (Q : VK) : VK := fun x H1 => ∃ a, x = .ref a ∧ IsD H1 a ∧ ty σ H1 fun y H2 => ∃ kvs k v, H2 a = some (.dK kvs) ∧ y = kV k ∧ valV kvs k = some v ∧ Q v (upd H2 a (.dK (dropK kvs k)))
def RP1 (a : Addr) (Q : VK) : VK := fun y H2 => ∃ kvs k v, H2 a = some (.dK kvs) ∧ y = kV k ∧ valV kvs k = some v ∧ Q v (upd H2 a (.dK (dropK kvs k)))
theorem e_dpop1 {td ty : TE} {σ : L2.St} {H : Hp} {Q : VK} : tDPop1 td ty σ H Q = td σ H (RDP1 ty σ Q) := rfl
theorem x_dpop1 {ty : TE} {σ : L2.St} {H : Hp} {Q : VK} {a : Addr} {kvs : List (Key × V)} (h : H a = some (.dK kvs)) (k : ty σ H (RP1 a Q)) : RDP1 ty σ Q (.ref a) H := ⟨a, rfl, .inl ⟨kvs, .inl h⟩, k⟩
theorem x_p1 {H : Hp} {Q : VK} {a : Addr} {kvs : List (Key × V)} {i : Int} {v : V} (h : H a = some (.dK kvs)) (e : valV kvs (.inl i) = some v) (k : Q v (upd H a (.dK (dropK kvs (.inl i))))) : RP1 a Q (.int i) H := ⟨kvs, .inl i, v, h, rfl, e, k⟩
def RDP2 (ty tx : TE) (σ : L2.St) (Q : VK) : VK := fun x H1 => ∃ a, x = .ref a ∧ IsD H1 a ∧ ty σ H1 fun y H2 => tx σ H2 fun z H3 => ∃ kvs k, H3 a = some (.dK kvs) ∧ y = kV k ∧ (∀ v, valV kvs k = some v → Q v (upd H3 a (.dK (dropK kvs k)))) ∧ (valV kvs k = none → Q z H3)
def RP2 (a : Addr) (Q : VK) : V → V → Hp → Prop := fun y z H3 => ∃ kvs k, H3 a = some (.dK kvs) ∧ y = kV k ∧ (∀ v, valV kvs k = some v → Q v (upd H3 a (.dK (dropK kvs k)))) ∧ (valV kvs k = none → Q z H3)
theorem e_dpop2 {td ty tx : TE} {σ : L2.St} {H : Hp} {Q : VK} : tDPop2 td ty tx σ H Q = td σ H (RDP2 ty tx σ Q) := rfl
theorem x_dpop2 {ty tx : TE} {σ : L2.St} {H : Hp} {Q : VK} {a : Addr} {kvs : List (Key × V)} (h : H a = some (.dK kvs)) (k : ty σ H fun y H2 => tx σ H2 fun z H3 => RP2 a Q y z H3) : RDP2 ty tx σ Q (.ref a) H := ⟨a, rfl, .inl ⟨kvs, .inl h⟩, k⟩
theorem x_p2 {H : Hp} {Q : VK} {a : Addr} {kvs : List (Key × V)} {i : Int} {z : V} (h : H a = some (.dK kvs)) (k1 : ∀ v, valV kvs (.inl i) = some v → Q v (upd H a (.dK (dropK kvs (.inl i))))) (k2 : valV kvs (.inl i) = none → Q z H) : RP2 a Q (.int i) z H := ⟨kvs, .inl i, h, rfl, k1, k2⟩
def rListD : List V → Hp → VK → Prop := fun xs H Q => ∃ (a : Addr) (kvs : List (Key × V)), xs = [.ref a] ∧ Rd H a (.dK kvs) ∧ ∀ p, H p = none → Q (.ref p) (upd H p (.lst (kvs.map fun kv => kV kv.1)))
theorem cb_listD {X : Cx} (hc : X.calm = true) : CallR X (.type "list") rListD := call_listD hc
/-! is None, is not None -/
def rIsNn : R2 := fun x y H Q => y = .non ∧ Q (.bl (decide (x = .non))) H
def rNotNn : R2 := fun x y H Q => y = .non ∧ Q (.bl (!decide (x = .non))) H
theorem op_isNn {X : Cx} : OpR X (compareOp .Is) rIsNn := op_isN
theorem op_notNn {X : Cx} : OpR X (compareOp .IsNot) rNotNn := op_notN
section
variable {H : Hp} {Q : VK} {i : Int} {b : Bool} {z : Str} {a : Addr}
theorem x_isNN (h : Q (.bl true) H) : rIsNn .non .non H Q := ⟨rfl, by rw [decide_eq_true rfl]; exact h⟩
theorem x_isNI (h : Q (.bl false) H) : rIsNn (.int i) .non H Q := ⟨rfl, by rw [decide_eq_false (fun z => by cases z)]; exact h⟩
theorem x_isNB (h : Q (.bl false) H) : rIsNn (.bl b) .non H Q := ⟨rfl, by rw [decide_eq_false (fun z => by cases z)]; exact h⟩
theorem x_isNS (h : Q (.bl false) H) : rIsNn (.str z) .non H Q := ⟨rfl, by rw [decide_eq_false (fun z => by cases z)]; exact h⟩
theorem x_isNR (h : Q (.bl false) H) : rIsNn (.ref a) .non H Q := ⟨rfl, by rw [decide_eq_false (fun z => by cases z)]; exact h⟩
theorem x_notNN (h : Q (.bl false) H) : rNotNn .non .non H Q := ⟨rfl, by rw [decide_eq_true rfl]; exact h⟩
theorem x_notNI (h : Q (.bl true) H) : rNotNn (.int i) .non H Q := ⟨rfl, by rw [decide_eq_false (fun z => by cases z)]; exact h⟩
theorem x_notNB (h : Q (.bl true) H) : rNotNn (.bl b) .non H Q := ⟨rfl, by rw [decide_eq_false (fun z => by cases z)]; exact h⟩
theorem x_notNS (h : Q (.bl true) H) : rNotNn (.str z) .non H Q := ⟨rfl, by rw [decide_eq_false (fun z => by cases z)]; exact h⟩
theorem x_notNR (h : Q (.bl true) H) : rNotNn (.ref a) .non H Q := ⟨rfl, by rw [decide_eq_false (fun z => by cases z)]; exact h⟩
end
/-! new objects -/
theorem x_new {A : Prop} {R : Addr → Prop} (ha : A) (h : ∀ p, H p = none → R p) : A ∧ ∀ p, H p = none → R p := ⟨ha, h⟩
/-- a def with defaults, no exception out -/
theorem _root_.L2.FunD.okD {P : Program} {w : World} {K : PySem.W.Frag} {mg : Str → Option Value} {base : Heap} {x qual : Str} {st : Stmt} {f : Addr} {fd : FuncData} {dvs : List V} {kws : List (Str × V)} {N ps : List Str} {k : Nat} {sp : Sp} (F : FunD K x qual (defArgs st) (defBody st) (defScope st) dvs kws f fd) (S : FnScope N ps (defScope st)) (len : ∀ vs H Q E, sp vs H Q E → vs.length = ps.length)
    (hbody : ∀ (cdv : Value) (A : Around) (outer : List Env) (s : Shared) (H : Hp) (vs : List V) (Q : VK) (E : XK), Room k (A.deeper (PyProof.Rows.envOfC qual (defScope st) s.heap.objs.size f cdv)) → sp vs H Q E →
      ∃ t, PSs (cxOf CX0 P w K mg base N qual (defScope st) f cdv A outer s H E).nox (defBody st) t ∧ t { nx := fun _ H' => Q .non H', rt := Q } (start N vs) H) : FnOk P w K mg base CX0 (k + 1) f fd ps sp :=
  F.ok (CX := CX0) S len fun cdv A outer s H vs Q E hr h => let ⟨t, a, b⟩ := hbody cdv A outer s H vs Q E hr h; ⟨t, a.nox, b⟩
theorem fund_mk {K : PySem.W.Frag} {x qual : Str} {st : Stmt} {f D : Addr} {oc tc : Value} {od an td : Option Addr} {osl tl : Array (Option Value)} {kV doc pm cdv ct : Value} {tn : Nat} {its : List Value} {ds : List V} (l : K.lookup f = some ⟨oc, od, .func (PySem.W.fnOf x qual (defArgs st) (defBody st) (defScope st) (.ref D) kV doc pm an cdv ct), osl⟩)
    (c : PySem.W.codeIn K cdv qual = true) (k : PySem.W.keepIn K (.ref f) = true) (t : K.lookup D = some ⟨tc, td, .seq its.toArray tn, tl⟩) (v : Vals ds its) (hd : ds ≠ [] := by simp) : FunD K x qual (defArgs st) (defBody st) (defScope st) ds [] f (PySem.W.fnOf x qual (defArgs st) (defBody st) (defScope st) (.ref D) kV doc pm an cdv ct) :=
  ⟨⟨oc, od, .ref D, kV, doc, pm, an, cdv, ct, osl, rfl, l, c, .inr ⟨hd, D, _, its, tn, rfl, t, rfl, v⟩, .inl rfl⟩, k⟩
theorem vnil {K : PySem.W.Frag} {fd : FuncData} {ps : List Str} {ds : List Value} (v : Vals [] ds) (b : Binds K fd ps ds) : Binds K fd ps [] := by
  cases v
  exact b
/-! making, sorting, extending; comprehensions over whatever walks -/
def RMk (C : Addr) (sp : Sp) (dvs : List V) (E : XK) (Q : VK) : List V → Hp → Prop := fun vs H1 => ∀ x dx, H1 x = none → H1 dx = none → dx ≠ x → sp (.ref x :: (vs ++ dvs)) (upd (upd H1 dx (.own x)) x (.ins C dx [])) (fun v H2 => v = .non ∧ Q (.ref x) H2) E
theorem e_make {C : Addr} {sp : Sp} {dvs : List V} {E : XK} {t : TA} {σ : L2.St} {H : Hp} {Q : VK} : tMake C sp dvs E t σ H Q = t σ H (RMk C sp dvs E Q) := rfl
theorem x_make {C : Addr} {sp : Sp} {dvs vs : List V} {E : XK} {H : Hp} {Q : VK} (h : ∀ x dx H1, H x = none → Ex H H1 → H1 x = some (.ins C dx []) → sp (.ref x :: (vs ++ dvs)) H1 (fun v H2 => v = .non ∧ Q (.ref x) H2) E) : RMk C sp dvs E Q vs H :=
  fun x dx hx hdx ne => h x dx _ hx ((Ex.new hdx).newT (by rw [upd_ne (Ne.symm ne)]; exact hx)) upd_same
theorem x_extend {H : Hp} {Q : VK} {l b : Addr} {xs zs : List V} (hl : H l = some (.lst xs)) (hb : H b = some (.lst zs)) (hz : xs.length + zs.length ≤ sizeLine) (h : Q .non (upd H l (.lst (xs ++ zs)))) : rExtend (.ref l) [.ref b] H Q := ⟨l, b, xs, zs, rfl, rfl, hl, hb, hz, h⟩
theorem x_clear {H : Hp} {Q : VK} {l : Addr} {xs : List V} (hl : H l = some (.lst xs)) (h : Q .non (upd H l (.lst []))) : rClear (.ref l) [] H Q := ⟨l, xs, rfl, rfl, hl, h⟩
theorem LcW.by1 {J : It} {n : Nat} {G : Hp → Prop} {Y : Nat → Hp → V → Hp → Prop} {te : TE} {k : Nat} {σ : L2.St} {H : Hp} {Q : VK} (w : Walk J n G Y) (hz : n < sizeLine) (Pv : Addr → Nat → List V → Hp → Prop)
    (h0 : ∀ D, H D = none → Pv D 0 [] (upd H D (.lst [])))
    (hG : ∀ D i acc H', H D = none → i ≤ n → Pv D i acc H' → G H')
    (hs : ∀ D i acc x H1 H1', i < n → H D = none → Pv D i acc H1 → H1 D = some (.lst acc) → Y i H1 x H1' → ∀ Qe : VK, (∀ y H4, H4 D = some (.lst acc) → Pv D (i + 1) (acc ++ [y]) (upd H4 D (.lst (acc ++ [y]))) → Qe y H4) → te ((wipe σ [k]).set k (some x)) H1' Qe)
    (hd : ∀ D acc H', H D = none → Pv D n acc H' → H' D = some (.lst acc) → acc.length = n → Q (.ref D) H') : LcW (gName k) tYes te [k] σ Q J H := by
  intro D hD
  refine lc_it w (Qd := fun H' => Q (.ref D) H') (fun i H' => ∃ acc, acc.length = i ∧ H' D = some (.lst acc) ∧ Pv D i acc H') ⟨[], rfl, upd_same, h0 D hD⟩ (fun i H' hi ⟨acc, _, _, p⟩ => hG D i acc H' hD hi p) ?_ ?_
  · rintro i x H1 H1' hi ⟨acc, hl, ha, p⟩ y
    refine ⟨wipe_set1, ?_⟩
    rw [e_yes]
    refine iteT ?_
    refine hs D i acc x H1 H1' hi hD p ha y _ fun y H4 h4 p4 => ⟨acc, h4, by rw [hl]; exact Nat.lt_trans hi hz, acc ++ [y], by simp [hl], upd_same, p4⟩
  · rintro H1 ⟨acc, hl, ha, p⟩
    exact hd D acc H1 hD p ha hl
end
/-! ranges downwards, list + list, insert -/
def Rg3 (R : It → Hp → Prop) : List V → Hp → Prop := fun vs H1 => ∃ (i j c : Int) (n : Nat), vs = [.int i, .int j, .int c] ∧ RgC i j c n ∧ R (Itc i c n) H1
theorem e_rng3 {σ : L2.St} {H : Hp} {ts : TA} {R : It → Hp → Prop} : iRng3 ts σ H R = ts σ H (Rg3 R) := rfl
theorem x_rgDown {m : Nat} {H : Hp} {R : It → Hp → Prop} (hm : (m : Int) < 2 ^ 61) (h : R (Itc ((m : Int) - 1) (-1) m) H) : Rg3 R [V.int ((m : Int) - 1), .int (-1), .int (-1)] H :=
  ⟨_, _, _, m, rfl, by
    have q := RgC.neg (i := (m : Int) - 1) (j := -1) (by omega) (by omega) (by omega) (by omega)
    have e : ((m : Int) - 1 - -1).toNat = m := by omega
    rw [e] at q; exact q, h⟩
theorem walk_down {n : Nat} : Walk (Itc ((n : Int) - 1) (-1) n) n (fun _ => True) (fun i H x H' => H' = H ∧ ∃ k : Nat, k = n - 1 - i ∧ x = .int (k : Int)) :=
  ⟨fun _ _ hi _ => hi, fun _ _ => Nat.le_refl _, fun i H x H' hi _ y => ⟨y.1, n - 1 - i, rfl, by
    rw [y.2]
    have e : (n : Int) - 1 + (i : Nat) * -1 = ((n - 1 - i : Nat) : Int) := by omega
    rw [e]⟩⟩
theorem x_cat {H : Hp} {Q : VK} {a b : Addr} {xs zs : List V} (ha : H a = some (.lst xs)) (hb : H b = some (.lst zs)) (hz : xs.length + zs.length ≤ sizeLine) (h : ∀ p, H p = none → Q (.ref p) (upd H p (.lst (xs ++ zs)))) : rCat (.ref a) (.ref b) H Q := ⟨a, b, xs, zs, rfl, rfl, ha, hb, hz, h⟩
def rInsert : V → List V → Hp → VK → Prop := fun x vs H Q => ∃ (l : Addr) (xs : List V) (i : Int) (y : V), x = .ref l ∧ vs = [.int i, y] ∧ H l = some (.lst xs) ∧ xs.length < sizeLine ∧ 0 ≤ i ∧ i < 2 ^ 63 ∧
    Q .non (upd H l (.lst (xs.take i.toNat ++ [y] ++ xs.drop i.toNat)))
theorem mt_ins {X : Cx} : MtR X "list.insert" rInsert := mt_insert
theorem x_insert {H : Hp} {Q : VK} {l : Addr} {xs : List V} {i : Int} {k : Nat} {y : V} (hi : i = k) (hl : H l = some (.lst xs)) (hz : xs.length < sizeLine) (hk : k < 2 ^ 62) (h : Q .non (upd H l (.lst (xs.take k ++ [y] ++ xs.drop k)))) : rInsert (.ref l) [.int i, y] H Q :=
  ⟨l, xs, i, y, rfl, rfl, hl, hz, by omega, by omega, by rw [hi, Int.toNat_natCast]; exact h⟩
theorem cut_len {xs : List V} {k m : Nat} : (cutV xs (some (k : Int)) (some (m : Int))).length ≤ m - k := by
  unfold cutV
  rw [HT.sIx_nat, HT.sIx_nat, List.length_take]
  omega
theorem cut_mem {xs : List V} {lo hi : Option Int} {x : V} (h : x ∈ cutV xs lo hi) : x ∈ xs := List.mem_of_mem_drop (List.mem_of_mem_take h)
theorem absI (i : Int) : ∃ n : Nat, (if i < 0 then -i else i) = (n : Int) := ⟨i.natAbs, by split <;> omega⟩
/-! equal by what is read -/
def Shp (d : PyData) (k : Nat) : Prop := d.canLay0 = true ∧ d.depth ≤ k
theorem Shp.mono {d : PyData} {k j : Nat} (h : Shp d k) (e : k ≤ j) : Shp d j := ⟨h.1, Nat.le_trans h.2 e⟩
theorem shp_all {k : Nat} : ∀ {xs : List PyData}, (∀ x ∈ xs, Shp x k) → PyData.canLayAll0 xs = true ∧ PyData.depthAll xs ≤ k
  | [], _ => by simp [PyData.canLayAll0, PyData.depthAll]
  | x :: xs, h => by
    have h1 := h x (List.mem_cons_self ..)
    have h2 := shp_all (xs := xs) fun y hy => h y (List.mem_cons_of_mem _ hy)
    simp only [PyData.canLayAll0, PyData.depthAll, h1.1, h2.1, Bool.and_self, true_and]
    exact Nat.max_le.mpr ⟨h1.2, h2.2⟩
theorem Shp.lst {k : Nat} {xs : List PyData} (h : ∀ x ∈ xs, Shp x k) : Shp (.list xs) (k + 1) := by
  have q := shp_all h
  exact ⟨by simp only [PyData.canLay0]; exact q.1, by simp only [PyData.depth]; omega⟩
theorem Shp.tup {k : Nat} {xs : List PyData} (h : ∀ x ∈ xs, Shp x k) : Shp (.tuple xs) (k + 1) := by
  have q := shp_all h
  exact ⟨by simp only [PyData.canLay0]; exact q.1, by simp only [PyData.depth]; omega⟩
theorem Shp.int {i : Int} : Shp (.int i) 0 := ⟨by simp only [PyData.canLay0], by simp only [PyData.depth]; exact Nat.le_refl _⟩
theorem Shp.bl {i : Bool} : Shp (.bool i) 0 := ⟨by simp only [PyData.canLay0], by simp only [PyData.depth]; exact Nat.le_refl _⟩
theorem Shp.non : Shp .none 0 := ⟨by simp only [PyData.canLay0], by simp only [PyData.depth]; exact Nat.le_refl _⟩
theorem Shp.str {x : Str} (h : PyData.canLay0 (.str x) = true) : Shp (.str x) 0 := ⟨h, by simp only [PyData.depth]; exact Nat.le_refl _⟩
theorem Shp.ints {xs : List Int} : Shp (.list (xs.map PyData.int)) 1 := Shp.lst fun x hx => by
  obtain ⟨i, _, rfl⟩ := List.mem_map.mp hx; exact Shp.int
theorem Shp.ok {d : PyData} {k : Nat} (h : Shp d k) (hk : k ≤ 64 := by decide) : SeqAt.shaped d = true := by
  unfold SeqAt.shaped
  rw [h.1, decide_eq_true (Nat.le_trans h.2 hk)]; rfl
theorem Dp.natsL {K : PySem.W.Frag} {H : Hp} {a : Addr} {xs : List Nat} (h : SqL K H a (xs.map nV)) : Dp K H (.ref a) (.list ((xs.map fun n : Nat => (n : Int)).map PyData.int)) := .lst (by rw [map_nV] at h; exact h) (dpAll_ints _)
theorem x_neSame {K : PySem.W.Frag} {H : Hp} {Q : VK} {x y : V} {d : PyData} {k : Nat} (hx : Dp K H x d) (hy : Dp K H y d) (hs : Shp d k) (h : Q (.bl false) H) (hk : k ≤ 64 := by decide) : rNeD K x y H Q := ⟨d, d, hx, hy, hs.ok hk, hs.ok hk, by
  rw [SeqAt.eqv_refl d hs.1]; exact h⟩
theorem x_eqSame {K : PySem.W.Frag} {H : Hp} {Q : VK} {x y : V} {d : PyData} {k : Nat} (hx : Dp K H x d) (hy : Dp K H y d) (hs : Shp d k) (h : Q (.bl true) H) (hk : k ≤ 64 := by decide) : rEqD K x y H Q := ⟨d, d, hx, hy, hs.ok hk, hs.ok hk, by
  rw [SeqAt.eqv_refl d hs.1]; exact h⟩
end Nn
/-! A made function handed to a def: the cells that it captured lie as they lay at the entry. -/
namespace Nn
open PySem PySem.Spec PyProof.Rows L2 NdefX LamX
section
variable {X : Cx} {pins : List (Addr × Obj)} {σ : L2.St} {H : Hp} {s : Shared} {cl : List (Str × Addr)} {fr : List Str} {ws : List (Option V)} {js : List Nat}
theorem cells_later (C : CellsAt cl fr ws X.s_0.heap X.H_0) (hx : X.ex = []) (I : Inv X pins σ H s) : CellsAt cl fr ws s.heap H := by
  have nx : ∀ c : Addr, c ∉ X.ex := fun c z => by rw [hx] at z; cases z
  have kp : ∀ y c, cl.lookup y = some c → ∀ v, X.s_0.heap.IsCell c v → s.heap.IsCell c v := fun y c e v ⟨o, ho, hd⟩ => by
    obtain ⟨sl, h⟩ := I.base.any ho (C.all y c e).1 (nx c)
    exact ⟨_, h, hd⟩
  refine ⟨C.len, fun y c e => ?_, C.inj, fun i y e => ?_⟩
  · obtain ⟨n, v, z⟩ := C.all y c e
    refine ⟨?_, v, kp y c e v z⟩
    obtain ⟨o, ho, _⟩ := z
    exact I.base.free c o ho n (nx c)
  · obtain ⟨c, hc, hv⟩ := C.has i y e
    refine ⟨c, hc, fun v ev => ?_⟩
    obtain ⟨u, r, z⟩ := hv v ev
    exact ⟨u, r, kp y c hc _ z⟩
/-- where a running def knows what the cells hold -/
structure Prov (X : Cx) (cl : List (Str × Addr)) (fr : List Str) (ws : L2.St → List (Option V)) : Prop where
  at_ : ∀ (pins : List (Addr × Obj)) (σ : L2.St) (H : Hp) (s : Shared), Inv X pins σ H s → CellsAt cl fr (ws σ) s.heap H
theorem Prov.entry (C : CellsAt cl fr ws X.s_0.heap X.H_0) (hx : X.ex = []) : Prov X cl fr fun _ => ws := ⟨fun _ _ _ _ I => cells_later C hx I⟩
theorem Prov.own (c : X.Ok → Caps X cl fr js) : Prov X cl fr fun σ => js.map (slotAt σ) := ⟨fun _ _ _ _ I => cells_of I (c I.ok)⟩
end
/-- a def that is handed a made function whose cells hold ws -/
structure FnOkC (P : Program) (w : World) (K : PySem.W.Frag) (mg : Str → Option Value) (base : Heap) (CX : CXT) (k : Nat) (f : Addr) (fd : FuncData) (ps : List Str) (cl : List (Str × Addr)) (fr : List Str) (ws : List (Option V)) (sp : Sp) : Prop where
  len : ∀ vs H Q E, sp vs H Q E → vs.length = ps.length
  run : ∀ (A : Around) (outer : List Env) (s : Shared) (H : Hp) (args : Args) (us : List Value) (vs : List V) (Q : VK) (E : XK), Room k A → Env0 P w K mg base A outer s H → BindsTo s fd args (ps.zip us) → Vals vs us → CellsAt cl fr ws s.heap H → sp vs H Q E →
    codeAny (model P w) A (.call (.ref f) args) (CR CX outer P w H s Q E) s
theorem fn_ofC {CX : CXT} {P : Program} {w : World} {K : PySem.W.Frag} {mg : Str → Option Value} {base : Heap} {k : Nat} {f : Addr} {name qual : Str} {params : Arguments} {body : List Stmt} {scope : Scope} {dV kV doc pm cdv ct oc : Value} {an od : Option Addr}
    {osl : Array (Option Value)} {N ps : List Str} {cl : List (Str × Addr)} {fr : List Str} {ws : List (Option V)} {sp : Sp} (lk : K.lookup f = some ⟨oc, od, .func (PySem.W.fnOf name qual params body scope dV kV doc pm an cdv ct), osl⟩) (hcd : PySem.W.codeIn K cdv qual = true) (S : FnScope N ps scope)
    (len : ∀ vs H Q E, sp vs H Q E → vs.length = ps.length)
    (hbody : ∀ (A : Around) (outer : List Env) (s : Shared) (H : Hp) (vs : List V) (Q : VK) (E : XK), Room k (A.deeper (envOfC qual scope s.heap.objs.size f cdv)) → CellsAt cl fr ws s.heap H → sp vs H Q E →
      ∃ t, PSs (cxOf CX P w K mg base N qual scope f cdv A outer s H E) body t ∧ t { nx := fun _ H' => Q .non H', rt := Q } (start N vs) H) :
    FnOkC P w K mg base CX (k + 1) f (PySem.W.fnOf name qual params body scope dV kV doc pm an cdv ct) ps cl fr ws sp := by
  refine ⟨len, fun A outer s H args us vs Q E hr e0 hb r hC hsp => ?_⟩
  -- a promise that knows the very heap and state of this entry is not to be had of a def's rule: the rule is gone through once more
  have hl := len _ _ _ _ hsp
  have KX : K.In s.heap := e0.mod.kin.keeps fun b o e => (e0.bs b o e).1
  have lim : s.heap.NoLimit := e0.mod.nolimit.keeps fun b o e => (e0.bs b o e).1
  have hkind : ∀ y ∈ ps.zip us, scope.names.lookup y.1 = some .local ∨ (scope.names.lookup y.1 = some .cell ∧ ((cellsFrom (s.heap.objs.size + 1) scope.names []).lookup y.1).isSome = true) := fun ⟨n, v⟩ hy => by
    rcases S.par n (List.of_mem_zip hy).1 with q | q
    · exact .inl q
    · exact .inr ⟨q, PySem.W.cellsFrom_some _ _ _ (.inl q)⟩
  refine codeAny_call_function hr.depth (KX _ _ lk) rfl S.co S.gen rfl (PySem.W.codeRec_of KX hcd) (hb _ _ _ _ ?_)
  refine wpAny_newFunctionEnv_cells S.kind hkind fun env he s1 x => ?_
  subst he
  refine ⟨lim.keeps x.toInCall.keep, codeAny_func ?_⟩
  obtain ⟨t, ht, hq⟩ := hbody A outer s H vs Q E (hr.deeper _) hC hsp
  have I : Inv (cxOf CX P w K mg base N qual scope f cdv A outer s H E) [] (start N vs) H s1 := inv_start S hr.hd e0 hl r x
  refine wpAny_mono (ht.run [] s1 (start N vs) H _ I hq) (fun fl s' hs => ?_) fun e s' hs => hs
  have fin : ∀ {σ' : L2.St} {H' : Hp} {v : V} {u : Value}, Inv (cxOf CX P w K mg base N qual scope f cdv A outer s H E) [] σ' H' s' → L2.RelV v u → Q v H' → CE outer P w H s Q u s' :=
    fun {σ' H' v u} J rv q => ⟨v, H', J.os, J.bare, J.base, J.hok, rv, q⟩
  cases fl with
  | ret u =>
    obtain ⟨v, σ', H', J, rv, q⟩ := hs
    exact fin J rv q
  | next =>
    obtain ⟨σ', H', J, q⟩ := hs
    exact fin (v := V.non) (u := Value.none) J rfl q
  | brk =>
    obtain ⟨_, _, _, q⟩ := hs
    exact False.elim q
  | cont =>
    obtain ⟨_, _, _, q⟩ := hs
    exact False.elim q
theorem Fun.okC {P : Program} {w : World} {K : PySem.W.Frag} {mg : Str → Option Value} {base : Heap} {x qual : Str} {st : Stmt} {f : Addr} {fd : FuncData} {N ps : List Str} {k : Nat} {cl : List (Str × Addr)} {fr : List Str} {ws : List (Option V)} {sp : Sp} (F : Fun K x qual st f fd) (S : FnScope N ps (defScope st)) (len : ∀ vs H Q E, sp vs H Q E → vs.length = ps.length)
    (hbody : ∀ (cdv : Value) (A : Around) (outer : List Env) (s : Shared) (H : Hp) (vs : List V) (Q : VK) (E : XK), Room k (A.deeper (envOfC qual (defScope st) s.heap.objs.size f cdv)) → CellsAt cl fr ws s.heap H → sp vs H Q E →
      ∃ t, PSs (cxOf CX0 P w K mg base N qual (defScope st) f cdv A outer s H E).nox (defBody st) t ∧ t { nx := fun _ H' => Q .non H', rt := Q } (start N vs) H) : FnOkC P w K mg base CX0 (k + 1) f fd ps cl fr ws sp := by
  obtain ⟨oc, od, kV, doc, pm, an, cdv, ct, osl, rfl, lk, hcd⟩ := F.ex
  refine fn_ofC lk hcd S len fun A outer s H vs Q E hr hC hsp => ?_
  obtain ⟨t, h, q⟩ := hbody cdv A outer s H vs Q E hr hC hsp
  exact ⟨t, h.nox, q⟩
/-- a def that needs no cells serves where they are told -/
theorem FnOkC.of {P : Program} {w : World} {K : PySem.W.Frag} {mg : Str → Option Value} {base : Heap} {CX : CXT} {k : Nat} {f : Addr} {fd : FuncData} {ps : List Str} {cl : List (Str × Addr)} {fr : List Str} {ws : List (Option V)} {sp : Sp} (F : FnOk P w K mg base CX k f fd ps sp) : FnOkC P w K mg base CX k f fd ps cl fr ws sp :=
  ⟨F.len, fun A outer s H args us vs Q E hr e0 hb r _ h => F.run A outer s H args us vs Q E hr e0 hb r h⟩
section
variable {X : Cx} {CX : CXT} {k j i : Nat} {f C : Addr} {fd : FuncData} {ps : List Str} {cl : List (Str × Addr)} {fr : List Str} {ws : L2.St → List (Option V)} {sp : List (Option V) → Sp} {dvs : List V} {ds : List Value} {E : XK} {x m : Str} {p pos apos : Pos} {e o : Expr} {es : List Expr} {ta : TE} {t : TA}
theorem run_fnC {pins : List (Addr × Obj)} {σ : L2.St} {H : Hp} {s : Shared} {Q : VK} {us : List Value} {vs : List V} (F : FnOkC X.prog X.w X.K X.mg X.base CX k f fd ps cl fr (ws σ) (sp (ws σ))) (pr : Prov X cl fr ws) (hr : Room k X.A) (hb : Binds X.K fd ps ds) (hd : Vals dvs ds) (hx : Passes CX X E)
    (I : Inv X pins σ H s) (r : Vals vs us) (h : sp (ws σ) (vs ++ dvs) H Q E) : wpAny (model X.prog X.w) X.A (call (.ref f) us) (EP X pins σ Q) X.xe s := by
  have r2 : Vals (vs ++ dvs) (us ++ ds) := r.append hd
  have hl : (us ++ ds).length = ps.length := by rw [← r2.length]; exact F.len _ _ _ _ h
  refine wpAny_call (codeAny_mono (F.run X.A X.stack s H ⟨us, []⟩ (us ++ ds) (vs ++ dvs) Q E hr I.env0 (hb s us I.kIn hl) r2 (pr.at_ pins σ H s I) h) fun r s' hq => ?_)
  cases r with
  | error e => exact hx pins σ H s e s' I hq
  | ok fl =>
    cases fl with
    | ret u => exact I.after hq
    | next => exact False.elim hq
    | brk => exact False.elim hq
    | cont => exact False.elim hq
def tCallC (ws : L2.St → List (Option V)) (sp : List (Option V) → Sp) (dvs : List V) (E : XK) (t : TA) : TE := fun σ H Q => t σ H fun vs H1 => sp (ws σ) (vs ++ dvs) H1 Q E
theorem pe_callC (F : ∀ ws, FnOkC X.prog X.w X.K X.mg X.base CX k f fd ps cl fr ws (sp ws)) (pr : Prov X cl fr ws) (hr : Room k X.A) (hg : Gl X x) (hm : X.mg x = some (.ref f)) (hk : PySem.W.keepIn X.K (.ref f) = true) (hb : Binds X.K fd ps ds) (hd : Vals dvs ds) (hx : Passes CX X E)
    (ha : PA X (e :: es) t) (hdb : (x == ("__debug__" : Str)) = false := by decide) (he : starEach (e :: es) X.env = (false, eval e X.env) :: starEach es X.env := by rfl) (hpl : (backTo pos (starEach es X.env)).any (·.1) = false := by rfl) :
    PE X (.Call (.Name x p) (e :: es) [] pos) (tCallC ws sp dvs E t) := by
  refine ⟨fun pins s σ H Q I h => ?_⟩
  refine wpAny_Call_Name_kw (ld_glob I hg hm ?_ hdb)
  refine PySem.W.callWith_K (h₀ := X.base) I.ok.mod.kin hk (thn (ha.run pos pins s σ H _ I h) fun us s1 ⟨vs, H1, I1, r, q⟩ => ⟨I1.kIn, ?_⟩) he hpl
  exact run_fnC (F _) pr hr hb hd hx I1 r q
def tMethC (C : Addr) (m : Str) (ws : L2.St → List (Option V)) (sp : List (Option V) → Sp) (dvs : List V) (E : XK) (ta : TE) (t : TA) : TE := fun σ H Q => ta σ H fun x H1 => ∃ a dx fs, x = .ref a ∧ H1 a = some (.ins C dx fs) ∧ fs.lookup m = none ∧
  t σ H1 fun vs H2 => sp (ws σ) (x :: (vs ++ dvs)) H2 Q E
theorem pe_methC {pl : Sem Bool} (he : PE X o ta) (c : Cls X.K C) (hm : Meth X.K C m f) (F : ∀ ws, FnOkC X.prog X.w X.K X.mg X.base CX k f fd ps cl fr ws (sp ws)) (pr : Prov X cl fr ws) (hr : Room k X.A) (hb : Binds X.K fd ps ds) (hd : Vals dvs ds) (hx : Passes CX X E) (ha : PA X (e :: es) t)
    (hst : starEach (e :: es) X.env = (false, eval e X.env) :: starEach es X.env := by rfl) (hpl : (backTo pos (starEach es X.env)).any (·.1) = false := by rfl)
    (ht : eval (.Call (.Attribute o m apos) (e :: es) [] pos) X.env = (do
      let ov ← eval o X.env
      standAt apos.atName
      let (f, first) ← holding [ov] (getMethod ov m pl)
      callWith pos f first (backTo pos (starEach (e :: es) X.env)) (backToKw pos (keywordEach [] X.env))) := by rfl) :
    PE X (.Call (.Attribute o m apos) (e :: es) [] pos) (tMethC C m ws sp dvs E ta t) := by
  refine ⟨fun pins s σ H Q I h => ?_⟩
  refine PySem.W.methodCall_KW (pl := pl) (thn (he.run pins s σ H _ I h) fun u s1 ⟨x, H1, I1, rx, a, dx, fs, ex, ea, l, q⟩ => ?_) ht
  subst ex
  obtain rfl : u = Value.ref a := rx
  refine getmeth_ok I1 ea c hm l ?_
  refine PySem.W.callWith_K (first := [.ref a]) (h₀ := X.base) I.ok.mod.kin hm.kp (thn (ha.run pos pins s1 σ H1 _ I1 q) fun us s2 ⟨vs, H2, I2, r, q2⟩ => ⟨I2.kIn, ?_⟩) hst hpl
  exact run_fnC (us := .ref a :: us) (vs := .ref a :: vs) (F _) pr hr hb hd hx I2 (.cons rfl r) q2
/-- a call of a name that holds the made function F -/
def tCallF (F : NF) (i : Nat) (ws : L2.St → List (Option V)) (sp : Addr → List (Option V) → Sp) (E : XK) (t : TA) : TE := fun σ H Q => ∃ f, σ[i]? = some (some (.ref f)) ∧ H f = some (FnO f F) ∧
  t σ H fun vs H1 => H1 f = some (FnO f F) ∧ H1 F.c = some (CodeO F.c F.qual) ∧ sp f (ws σ) vs H1 Q E
theorem pe_callF {F : NF} {sp : Addr → List (Option V) → Sp} (Fn : ∀ f, NOk X.prog X.w X.K X.mg X.base CX k f F ps fr (sp f)) (pr : Prov X F.cl fr ws) (hr : Room j X.A) (hk : k ≤ j) (hx : Passes CX X E) (hN : X.N[i]? = some x) (hv : Vis X.env.scope x) (ha : PA X (e :: es) t)
    (hd : (x == ("__debug__" : Str)) = false := by decide) (hcd : (x == ("__classdict__" : Str)) = false := by decide)
    (he : starEach (e :: es) X.env = (false, eval e X.env) :: starEach es X.env := by rfl) (hpl : (backTo pos (starEach es X.env)).any (·.1) = false := by rfl) :
    PE X (.Call (.Name x p) (e :: es) [] pos) (tCallF F i ws sp E t) := by
  refine ⟨fun pins s σ H Q I h => ?_⟩
  obtain ⟨f, hs, hf, ht⟩ := h
  refine wpAny_Call_Name_kw (thn ((pe_var (pos := p) hN hv hd hcd).run pins s σ H (fun v H1 => v = .ref f ∧ H1 = H) I ⟨.ref f, hs, rfl, rfl⟩) fun u s1 ⟨v, H1, I1, r1, q1⟩ => ?_)
  obtain ⟨ev, eH⟩ := q1
  subst ev
  rw [eH] at I1
  obtain rfl : u = Value.ref f := r1
  refine PySem.W.callWith_F (first := []) (fnAt_of I1 hf) (thn (ha.run pos pins s1 σ H _ I1 ht) fun us s2 ⟨vs, H2, I2, r, h1, h2, q⟩ => ⟨fnAt_of I2 h1, ?_⟩) he hpl
  show wpAny _ _ (call (.ref f) us) _ _ _
  refine wpAny_call (codeAny_mono ((Fn f).run X.A X.stack s2 H2 us vs _ Q E (hr.mono hk) I2.env0 h1 h2 (pr.at_ pins σ H2 s2 I2) r q) fun r s' hq => ?_)
  cases r with
  | error e => exact hx pins σ H2 s2 e s' I2 hq
  | ok fl =>
    cases fl with
    | ret u => exact I2.after hq
    | next => exact False.elim hq
    | brk => exact False.elim hq
    | cont => exact False.elim hq
end
end Nn

/-! closures in sight: their readings, for the walk -/
namespace Nn
open PySem PySem.Spec PyProof.Rows L2 NdefX LamX
theorem FunD.okC {P : Program} {w : World} {K : PySem.W.Frag} {mg : Str → Option Value} {base : Heap} {x qual : Str} {st : Stmt} {f : Addr} {fd : FuncData} {dvs : List V} {kws : List (Str × V)} {N ps : List Str} {k : Nat} {cl : List (Str × Addr)} {fr : List Str} {ws : List (Option V)} {sp : Sp} (F : FunD K x qual (defArgs st) (defBody st) (defScope st) dvs kws f fd) (S : FnScope N ps (defScope st)) (len : ∀ vs H Q E, sp vs H Q E → vs.length = ps.length)
    (hbody : ∀ (cdv : Value) (A : Around) (outer : List Env) (s : Shared) (H : Hp) (vs : List V) (Q : VK) (E : XK), Room k (A.deeper (envOfC qual (defScope st) s.heap.objs.size f cdv)) → CellsAt cl fr ws s.heap H → sp vs H Q E →
      ∃ t, PSs (cxOf CX0 P w K mg base N qual (defScope st) f cdv A outer s H E).nox (defBody st) t ∧ t { nx := fun _ H' => Q .non H', rt := Q } (start N vs) H) : FnOkC P w K mg base CX0 (k + 1) f fd ps cl fr ws sp := by
  obtain ⟨oc, od, dV, kV, doc, pm, an, cdv, ct, osl, rfl, lk, hcd, _, _⟩ := F.ex
  refine fn_ofC lk hcd S len fun A outer s H vs Q E hr hC hsp => ?_
  obtain ⟨t, h, q⟩ := hbody cdv A outer s H vs Q E hr hC hsp
  exact ⟨t, h.nox, q⟩
def RMtC (C : Addr) (m : Str) (ws : L2.St → List (Option V)) (sp : List (Option V) → Sp) (dvs : List V) (E : XK) (t : TA) (σ : L2.St) (Q : VK) : VK := fun x H1 => ∃ a dx fs, x = .ref a ∧ H1 a = some (.ins C dx fs) ∧ fs.lookup m = none ∧ t σ H1 fun vs H2 => sp (ws σ) (x :: (vs ++ dvs)) H2 Q E
theorem e_methC {C : Addr} {m : Str} {ws : L2.St → List (Option V)} {sp : List (Option V) → Sp} {dvs : List V} {E : XK} {ta : TE} {t : TA} {σ : L2.St} {H : Hp} {Q : VK} : tMethC C m ws sp dvs E ta t σ H Q = ta σ H (RMtC C m ws sp dvs E t σ Q) := rfl
theorem x_methC {C : Addr} {m : Str} {ws : L2.St → List (Option V)} {sp : List (Option V) → Sp} {dvs : List V} {E : XK} {t : TA} {σ : L2.St} {H : Hp} {Q : VK} {a dx : Addr} {fs : List (Str × V)} (h : H a = some (.ins C dx fs)) (l : fs.lookup m = none) (k : t σ H fun vs H2 => sp (ws σ) (.ref a :: (vs ++ dvs)) H2 Q E) : RMtC C m ws sp dvs E t σ Q (.ref a) H := ⟨a, dx, fs, rfl, h, l, k⟩
theorem e_callC {ws : L2.St → List (Option V)} {sp : List (Option V) → Sp} {dvs : List V} {E : XK} {t : TA} {σ : L2.St} {H : Hp} {Q : VK} : tCallC ws sp dvs E t σ H Q = t σ H fun vs H1 => sp (ws σ) (vs ++ dvs) H1 Q E := rfl
/-- a statement that is never come to -/
def tDead : TS := fun _ _ _ => False
theorem ps_dead {X : Cx} {st : Stmt} : PS X st tDead := ⟨fun _ _ _ _ _ _ h => h.elim⟩
end Nn
namespace Nn
open PySem L2
def top (i : Nat) : Stmt := PySem.Challenge.pw_nearnames_k01_names_written.main.body.getD i (.Pass ⟨0, 0, 0, 0⟩)
abbrev s_is_name : Stmt := top 10
abbrev N_is_name : List Str := ["thing", "wide"]
theorem st_is_name (v0 v1 : V) : L2.start ["thing", "wide"] [v0, v1] = [some v0, some v1] := rfl
theorem sc_is_name : FnScope ["thing", "wide"] ["thing", "wide"] (defScope s_is_name) := ⟨rfl, rfl, rfl, by decide +kernel, rfl, by decide +kernel, by decide +kernel⟩
abbrev s_shown : Stmt := top 11
abbrev N_shown : List Str := ["name", "wide", "signs", "k"]
theorem st_shown (v0 v1 : V) : L2.start ["name", "wide", "signs", "k"] [v0, v1] = [some v0, some v1, none, none] := rfl
theorem sc_shown : FnScope ["name", "wide", "signs", "k"] ["name", "wide"] (defScope s_shown) := ⟨rfl, rfl, rfl, by decide +kernel, rfl, by decide +kernel, by decide +kernel⟩
abbrev s_read : Stmt := top 12
abbrev N_read : List Str := ["text", "wide", "name", "sign"]
theorem st_read (v0 v1 : V) : L2.start ["text", "wide", "name", "sign"] [v0, v1] = [some v0, some v1, none, none] := rfl
theorem sc_read : FnScope ["text", "wide", "name", "sign"] ["text", "wide"] (defScope s_read) := ⟨rfl, rfl, rfl, by decide +kernel, rfl, by decide +kernel, by decide +kernel⟩
abbrev s_l_cell_at : Stmt := top 14
abbrev N_l_cell_at : List Str := ["_law_script", "_law_k"]
theorem st_l_cell_at (v0 v1 : V) : L2.start ["_law_script", "_law_k"] [v0, v1] = [some v0, some v1] := rfl
theorem sc_l_cell_at : FnScope ["_law_script", "_law_k"] ["_law_script", "_law_k"] (defScope s_l_cell_at) := ⟨rfl, rfl, rfl, by decide +kernel, rfl, by decide +kernel, by decide +kernel⟩
abbrev s_l_wide : Stmt := top 15
abbrev N_l_wide : List Str := ["_law_cell"]
theorem st_l_wide (v0 : V) : L2.start ["_law_cell"] [v0] = [some v0] := rfl
theorem sc_l_wide : FnScope ["_law_cell"] ["_law_cell"] (defScope s_l_wide) := ⟨rfl, rfl, rfl, by decide +kernel, rfl, by decide +kernel, by decide +kernel⟩
abbrev s_l_mixed : Stmt := top 16
abbrev N_l_mixed : List Str := ["_law_cell", "_law_k", "_law_number"]
theorem st_l_mixed (v0 v1 : V) : L2.start ["_law_cell", "_law_k", "_law_number"] [v0, v1] = [some v0, some v1, none] := rfl
theorem sc_l_mixed : FnScope ["_law_cell", "_law_k", "_law_number"] ["_law_cell", "_law_k"] (defScope s_l_mixed) := ⟨rfl, rfl, rfl, by decide +kernel, rfl, by decide +kernel, by decide +kernel⟩
abbrev s_l_names : Stmt := top 17
abbrev N_l_names : List Str := ["_law_cell", "_law_wide_here", "_law_many", "_law_names_here", "_law_k", "_law_base", "_law_near"]
theorem st_l_names (v0 v1 v2 : V) : L2.start ["_law_cell", "_law_wide_here", "_law_many", "_law_names_here", "_law_k", "_law_base", "_law_near"] [v0, v1, v2] = [some v0, some v1, some v2, none, none, none, none] := rfl
theorem sc_l_names : FnScope ["_law_cell", "_law_wide_here", "_law_many", "_law_names_here", "_law_k", "_law_base", "_law_near"] ["_law_cell", "_law_wide_here", "_law_many"] (defScope s_l_names) := ⟨rfl, rfl, rfl, by decide +kernel, rfl, by decide +kernel, by decide +kernel⟩
abbrev s_l_shown : Stmt := top 18
abbrev N_l_shown : List Str := ["_law_name", "_law_wide_here", "_law_text", "_law_k"]
theorem st_l_shown (v0 v1 : V) : L2.start ["_law_name", "_law_wide_here", "_law_text", "_law_k"] [v0, v1] = [some v0, some v1, none, none] := rfl
theorem sc_l_shown : FnScope ["_law_name", "_law_wide_here", "_law_text", "_law_k"] ["_law_name", "_law_wide_here"] (defScope s_l_shown) := ⟨rfl, rfl, rfl, by decide +kernel, rfl, by decide +kernel, by decide +kernel⟩
abbrev s_l_value : Stmt := top 19
abbrev N_l_value : List Str := ["_law_text", "_law_wide_here", "_law_sign", "_law_value_here"]
theorem st_l_value (v0 v1 : V) : L2.start ["_law_text", "_law_wide_here", "_law_sign", "_law_value_here"] [v0, v1] = [some v0, some v1, none, none] := rfl
theorem sc_l_value : FnScope ["_law_text", "_law_wide_here", "_law_sign", "_law_value_here"] ["_law_text", "_law_wide_here"] (defScope s_l_value) := ⟨rfl, rfl, rfl, by decide +kernel, rfl, by decide +kernel, by decide +kernel⟩
abbrev s_l_spoiled : Stmt := top 20
abbrev N_l_spoiled : List Str := ["_law_text", "_law_cell", "_law_at", "_law_sign", "_law_some"]
theorem st_l_spoiled (v0 v1 : V) : L2.start ["_law_text", "_law_cell", "_law_at", "_law_sign", "_law_some"] [v0, v1] = [some v0, some v1, none, none, none] := rfl
theorem sc_l_spoiled : FnScope ["_law_text", "_law_cell", "_law_at", "_law_sign", "_law_some"] ["_law_text", "_law_cell"] (defScope s_l_spoiled) := ⟨rfl, rfl, rfl, by decide +kernel, rfl, by decide +kernel, by decide +kernel⟩
abbrev s_l_read : Stmt := top 21
abbrev N_l_read : List Str := ["_law_text", "_law_wide_here", "_law_due", "_law_found", "_law_told", "e", "_law_k"]
theorem st_l_read (v0 v1 : V) : L2.start ["_law_text", "_law_wide_here", "_law_due", "_law_found", "_law_told", "e", "_law_k"] [v0, v1] = [some v0, some v1, none, none, none, none, none] := rfl
theorem sc_l_read : FnScope ["_law_text", "_law_wide_here", "_law_due", "_law_found", "_law_told", "e", "_law_k"] ["_law_text", "_law_wide_here"] (defScope s_l_read) := ⟨rfl, rfl, rfl, by decide +kernel, rfl, by decide +kernel, by decide +kernel⟩
abbrev s_l_things : Stmt := top 22
abbrev N_l_things : List Str := ["_law_wide_here", "_law_cell", "_law_some"]
theorem st_l_things (v0 v1 : V) : L2.start ["_law_wide_here", "_law_cell", "_law_some"] [v0, v1] = [some v0, some v1, none] := rfl
theorem sc_l_things : FnScope ["_law_wide_here", "_law_cell", "_law_some"] ["_law_wide_here", "_law_cell"] (defScope s_l_things) := ⟨rfl, rfl, rfl, by decide +kernel, rfl, by decide +kernel, by decide +kernel⟩
abbrev s_law : Stmt := top 23
abbrev N_law : List Str := ["_law_script", "_law_wide_here", "_law_names_here", "_law_k", "_law_name", "_law_text", "_law_cell", "_law_thing"]
theorem st_law (v0 : V) : L2.start ["_law_script", "_law_wide_here", "_law_names_here", "_law_k", "_law_name", "_law_text", "_law_cell", "_law_thing"] [v0] = [some v0, none, none, none, none, none, none, none] := rfl
theorem sc_law : FnScope ["_law_script", "_law_wide_here", "_law_names_here", "_law_k", "_law_name", "_law_text", "_law_cell", "_law_thing"] ["_law_script"] (defScope s_law) := ⟨rfl, rfl, rfl, by decide +kernel, rfl, by decide +kernel, by decide +kernel⟩
def tfL : List He.Defn := []
def Tabs0 (K : PySem.W.Frag) (H : Hp) : Prop := ∀ p ∈ tfL.map (He.cT K), H p.2 = some (.tbl #[])
structure Tx (K : PySem.W.Frag) (mg : Str → Option Value) (base : Heap) where
  a_is_name : Addr
  d_is_name : FuncData
  F_is_name : FunD K "is_name" "is_name" (defArgs s_is_name) (defBody s_is_name) (defScope s_is_name) [] [] a_is_name d_is_name
  b_is_name : Binds K d_is_name ["thing", "wide"] []
  m_is_name : mg "is_name" = some (.ref a_is_name)
  a_shown : Addr
  d_shown : FuncData
  F_shown : FunD K "shown" "shown" (defArgs s_shown) (defBody s_shown) (defScope s_shown) [] [] a_shown d_shown
  b_shown : Binds K d_shown ["name", "wide"] []
  m_shown : mg "shown" = some (.ref a_shown)
  a_read : Addr
  d_read : FuncData
  F_read : FunD K "read" "read" (defArgs s_read) (defBody s_read) (defScope s_read) [] [] a_read d_read
  b_read : Binds K d_read ["text", "wide"] []
  m_read : mg "read" = some (.ref a_read)
  a_l_cell_at : Addr
  d_l_cell_at : FuncData
  F_l_cell_at : FunD K "_law_cell_at" "_law_cell_at" (defArgs s_l_cell_at) (defBody s_l_cell_at) (defScope s_l_cell_at) [] [] a_l_cell_at d_l_cell_at
  b_l_cell_at : Binds K d_l_cell_at ["_law_script", "_law_k"] []
  m_l_cell_at : mg "_law_cell_at" = some (.ref a_l_cell_at)
  a_l_wide : Addr
  d_l_wide : FuncData
  F_l_wide : FunD K "_law_wide" "_law_wide" (defArgs s_l_wide) (defBody s_l_wide) (defScope s_l_wide) [] [] a_l_wide d_l_wide
  b_l_wide : Binds K d_l_wide ["_law_cell"] []
  m_l_wide : mg "_law_wide" = some (.ref a_l_wide)
  a_l_mixed : Addr
  d_l_mixed : FuncData
  F_l_mixed : FunD K "_law_mixed" "_law_mixed" (defArgs s_l_mixed) (defBody s_l_mixed) (defScope s_l_mixed) [] [] a_l_mixed d_l_mixed
  b_l_mixed : Binds K d_l_mixed ["_law_cell", "_law_k"] []
  m_l_mixed : mg "_law_mixed" = some (.ref a_l_mixed)
  a_l_names : Addr
  d_l_names : FuncData
  F_l_names : FunD K "_law_names" "_law_names" (defArgs s_l_names) (defBody s_l_names) (defScope s_l_names) [] [] a_l_names d_l_names
  b_l_names : Binds K d_l_names ["_law_cell", "_law_wide_here", "_law_many"] []
  m_l_names : mg "_law_names" = some (.ref a_l_names)
  a_l_shown : Addr
  d_l_shown : FuncData
  F_l_shown : FunD K "_law_shown" "_law_shown" (defArgs s_l_shown) (defBody s_l_shown) (defScope s_l_shown) [] [] a_l_shown d_l_shown
  b_l_shown : Binds K d_l_shown ["_law_name", "_law_wide_here"] []
  m_l_shown : mg "_law_shown" = some (.ref a_l_shown)
  a_l_value : Addr
  d_l_value : FuncData
  F_l_value : FunD K "_law_value" "_law_value" (defArgs s_l_value) (defBody s_l_value) (defScope s_l_value) [] [] a_l_value d_l_value
  b_l_value : Binds K d_l_value ["_law_text", "_law_wide_here"] []
  m_l_value : mg "_law_value" = some (.ref a_l_value)
  a_l_spoiled : Addr
  d_l_spoiled : FuncData
  F_l_spoiled : FunD K "_law_spoiled" "_law_spoiled" (defArgs s_l_spoiled) (defBody s_l_spoiled) (defScope s_l_spoiled) [] [] a_l_spoiled d_l_spoiled
  b_l_spoiled : Binds K d_l_spoiled ["_law_text", "_law_cell"] []
  m_l_spoiled : mg "_law_spoiled" = some (.ref a_l_spoiled)
  a_l_read : Addr
  d_l_read : FuncData
  F_l_read : FunD K "_law_read" "_law_read" (defArgs s_l_read) (defBody s_l_read) (defScope s_l_read) [] [] a_l_read d_l_read
  b_l_read : Binds K d_l_read ["_law_text", "_law_wide_here"] []
  m_l_read : mg "_law_read" = some (.ref a_l_read)
  a_l_things : Addr
  d_l_things : FuncData
  F_l_things : FunD K "_law_things" "_law_things" (defArgs s_l_things) (defBody s_l_things) (defScope s_l_things) [] [] a_l_things d_l_things
  b_l_things : Binds K d_l_things ["_law_wide_here", "_law_cell"] []
  m_l_things : mg "_law_things" = some (.ref a_l_things)
  a_law : Addr
  d_law : FuncData
  F_law : FunD K "law" "law" (defArgs s_law) (defBody s_law) (defScope s_law) [] [] a_law d_law
  b_law : Binds K d_law ["_law_script"] []
  m_law : mg "law" = some (.ref a_law)
  C_NoName : Addr
  m_NoName : mg "NoName" = some (.ref C_NoName)
  C_NearError : Addr
  m_NearError : mg "NearError" = some (.ref C_NearError)
  C_NoHouse : Addr
  m_NoHouse : mg "NoHouse" = some (.ref C_NoHouse)
  C_NoLine : Addr
  m_NoLine : mg "NoLine" = some (.ref C_NoLine)
  C_NoSize : Addr
  m_NoSize : mg "NoSize" = some (.ref C_NoSize)
  C_NoTown : Addr
  m_NoTown : mg "NoTown" = some (.ref C_NoTown)
  C_Silent : Addr
  m_Silent : mg "Silent" = some (.ref C_Silent)
  C_Taken : Addr
  m_Taken : mg "Taken" = some (.ref C_Taken)
  xi_NoName : PySem.W.excIn K C_NoName He.veBase "ValueError.__new__" = true
  xk_NoName : PySem.W.keepIn K (.ref C_NoName) = true
  xs_NoName : PySem.W.subIn K (.ref C_NoName) (.type "BaseException") = some true
  xt_NoName : PySem.W.typeIn K (.ref C_NoName) = some (.type "type")
  ec_NoName : ExcC K C_NoName
  xv_NoName : PySem.W.kitOne K (.ref C_NoName) (.type "ValueError") = some true
  xm_NoName_NearError : PySem.W.exmOne K (.ref C_NoName) (.ref C_NearError) = some true
  xo_NoName_NoName : PySem.W.kitOne K (.ref C_NoName) (.ref C_NoName) = some true
  xo_NoName_NoHouse : PySem.W.kitOne K (.ref C_NoName) (.ref C_NoHouse) = some false
  xo_NoName_NoLine : PySem.W.kitOne K (.ref C_NoName) (.ref C_NoLine) = some false
  xo_NoName_NoSize : PySem.W.kitOne K (.ref C_NoName) (.ref C_NoSize) = some false
  xo_NoName_NoTown : PySem.W.kitOne K (.ref C_NoName) (.ref C_NoTown) = some false
  xo_NoName_Silent : PySem.W.kitOne K (.ref C_NoName) (.ref C_Silent) = some false
  xo_NoName_Taken : PySem.W.kitOne K (.ref C_NoName) (.ref C_Taken) = some false
  z_ValueError : mg "ValueError" = none
  z_abs : mg "abs" = none
  z_bool : mg "bool" = none
  z_enumerate : mg "enumerate" = none
  z_int : mg "int" = none
  z_isinstance : mg "isinstance" = none
  z_len : mg "len" = none
  z_min : mg "min" = none
  z_range : mg "range" = none
  z_str : mg "str" = none
def tabsL {K : PySem.W.Frag} {mg : Str → Option Value} {base : Heap} (T : Tx K mg base) : List NdefX.NTab := []
theorem tabnm {K : PySem.W.Frag} {mg : Str → Option Value} {base : Heap} {T : Tx K mg base} : ∀ p ∈ tabsL T, p.2 = nmAll := by simp [tabsL]

end Nn
namespace Nn
open PySem PySem.Spec PyProof.Rows L2
def dd_is_name : He.DefD := ⟨("is_name", none), "is_name", "is_name", defArgs s_is_name, defBody s_is_name, defScope s_is_name, [], []⟩
def dd_shown : He.DefD := ⟨("shown", none), "shown", "shown", defArgs s_shown, defBody s_shown, defScope s_shown, [], []⟩
def dd_read : He.DefD := ⟨("read", none), "read", "read", defArgs s_read, defBody s_read, defScope s_read, [], []⟩
def dd_l_cell_at : He.DefD := ⟨("_law_cell_at", none), "_law_cell_at", "_law_cell_at", defArgs s_l_cell_at, defBody s_l_cell_at, defScope s_l_cell_at, [], []⟩
def dd_l_wide : He.DefD := ⟨("_law_wide", none), "_law_wide", "_law_wide", defArgs s_l_wide, defBody s_l_wide, defScope s_l_wide, [], []⟩
def dd_l_mixed : He.DefD := ⟨("_law_mixed", none), "_law_mixed", "_law_mixed", defArgs s_l_mixed, defBody s_l_mixed, defScope s_l_mixed, [], []⟩
def dd_l_names : He.DefD := ⟨("_law_names", none), "_law_names", "_law_names", defArgs s_l_names, defBody s_l_names, defScope s_l_names, [], []⟩
def dd_l_shown : He.DefD := ⟨("_law_shown", none), "_law_shown", "_law_shown", defArgs s_l_shown, defBody s_l_shown, defScope s_l_shown, [], []⟩
def dd_l_value : He.DefD := ⟨("_law_value", none), "_law_value", "_law_value", defArgs s_l_value, defBody s_l_value, defScope s_l_value, [], []⟩
def dd_l_spoiled : He.DefD := ⟨("_law_spoiled", none), "_law_spoiled", "_law_spoiled", defArgs s_l_spoiled, defBody s_l_spoiled, defScope s_l_spoiled, [], []⟩
def dd_l_read : He.DefD := ⟨("_law_read", none), "_law_read", "_law_read", defArgs s_l_read, defBody s_l_read, defScope s_l_read, [], []⟩
def dd_l_things : He.DefD := ⟨("_law_things", none), "_law_things", "_law_things", defArgs s_l_things, defBody s_l_things, defScope s_l_things, [], []⟩
def dd_law : He.DefD := ⟨("law", none), "law", "law", defArgs s_law, defBody s_law, defScope s_law, [], []⟩
def fnL : List He.DefD := [dd_is_name, dd_shown, dd_read, dd_l_cell_at, dd_l_wide, dd_l_mixed, dd_l_names, dd_l_shown, dd_l_value, dd_l_spoiled, dd_l_read, dd_l_things, dd_law]
def faL : List He.Fa := [.glo "is_name",
  .glo "shown",
  .glo "read",
  .glo "_law_cell_at",
  .glo "_law_wide",
  .glo "_law_mixed",
  .glo "_law_names",
  .glo "_law_shown",
  .glo "_law_value",
  .glo "_law_spoiled",
  .glo "_law_read",
  .glo "_law_things",
  .glo "law",
  .glo "NoName",
  .glo "NearError",
  .glo "NoHouse",
  .glo "NoLine",
  .glo "NoSize",
  .glo "NoTown",
  .glo "Silent",
  .glo "Taken",
  .exc "NoName",
  .exm "NoName" "NearError" true,
  .free "ValueError",
  .free "abs",
  .free "bool",
  .free "enumerate",
  .free "int",
  .free "isinstance",
  .free "len",
  .free "min",
  .free "range",
  .free "str"]
abbrev RW : PySem.W.OpenRow := PySem.W.OpenLaw.row PySem.Challenge.rw_nearnames_k01_names_written
def aliL : List (Str × Str) := []
def ecL : List Str := ["NoName"]
def koL : List (Str × Str × Bool) := [("NoName", "NoName", true), ("NoName", "NoHouse", false), ("NoName", "NoLine", false), ("NoName", "NoSize", false), ("NoName", "NoTown", false), ("NoName", "Silent", false), ("NoName", "Taken", false)]
def ecB (K : PySem.W.Frag) (C : Addr) : Bool := decide (PySem.W.findIn K (.ref C) "__getattribute__" = some (some (.builtin "BaseException.__getattribute__"))) && (decide (PySem.W.findIn K (.ref C) "__getattr__" = some none) && (decide (PySem.W.subIn K (.ref C) (.type "BaseException") = some true) && (PySem.W.hasDictIn K C && (decide (PySem.W.findIn K (.ref C) "__class__" = some (some (.builtin "object.__class__"))) && (decide (PySem.W.specialIn K (.builtin "object.__class__") "__get__" = some (some (.builtin "getset_descriptor.__get__"))) && (decide (PySem.W.takesIn K (.builtin "object.__class__") = some true) && (decide (PySem.W.mroIn K C (.type "object") = some true) && decide (PySem.W.kitOne K (.ref C) (.type "ValueError") = some true))))))))
theorem ecB_ok {K : PySem.W.Frag} {C : Addr} (h : ecB K C = true) : ExcC K C ∧ PySem.W.kitOne K (.ref C) (.type "ValueError") = some true := by
  obtain ⟨h1, h⟩ := He.ba h
  obtain ⟨h2, h⟩ := He.ba h
  obtain ⟨h3, h⟩ := He.ba h
  obtain ⟨h4, h⟩ := He.ba h
  obtain ⟨h5, h⟩ := He.ba h
  obtain ⟨h6, h⟩ := He.ba h
  obtain ⟨h7, h⟩ := He.ba h
  obtain ⟨h8, h9⟩ := He.ba h
  exact ⟨⟨of_decide_eq_true h1, of_decide_eq_true h2, of_decide_eq_true h3, h4, of_decide_eq_true h5, of_decide_eq_true h6, of_decide_eq_true h7, of_decide_eq_true h8⟩, of_decide_eq_true h9⟩
def exL (K : PySem.W.Frag) : Bool := (aliL.all fun p => decide (He.ga K p.1 = He.ga K p.2)) && ((ecL.all fun x => ecB K (He.ga K x)) && koL.all fun p => decide (PySem.W.kitOne K (.ref (He.ga K p.1)) (.ref (He.ga K p.2.1)) = some p.2.2))
theorem exL_ok {K : PySem.W.Frag} (h : exL K = true) {p : Str × Str} (hp : p ∈ aliL) : He.ga K p.1 = He.ga K p.2 := of_decide_eq_true (List.all_eq_true.mp (He.ba h).1 p hp)
theorem exL_ec {K : PySem.W.Frag} (h : exL K = true) {x : Str} (hx : x ∈ ecL) : ExcC K (He.ga K x) ∧ PySem.W.kitOne K (.ref (He.ga K x)) (.type "ValueError") = some true := ecB_ok (List.all_eq_true.mp (He.ba (He.ba h).2).1 x hx)
theorem exL_ko {K : PySem.W.Frag} (h : exL K = true) {p : Str × Str × Bool} (hp : p ∈ koL) : PySem.W.kitOne K (.ref (He.ga K p.1)) (.ref (He.ga K p.2.1)) = some p.2.2 := of_decide_eq_true (List.all_eq_true.mp (He.ba (He.ba h).2).2 p hp)
abbrev hkX : PySem.W.Hook := He.hookX 6 faL fnL [] tfL exL
def obL (s : PySem.W.SharedT) : He.AlX := He.obsX 6 faL fnL [] tfL exL (HandSHeadRun.getT s)
theorem obL_eq (s : PySem.W.SharedT) : obL s = hkX.obs s.abs := He.obsX_eq (HandSHeadRun.getT_eq s)
def loose0 : List Str := ["NearError", "NoSize", "NoName", "NoHouse", "Taken", "Silent", "NoTown", "NoLine", "is_name", "shown", "read", "_law_cell_at", "_law_wide", "_law_mixed", "_law_names", "_law_shown", "_law_value", "_law_spoiled", "_law_read", "_law_things"]
def looseL : List Str := loose0
theorem runL (w : World) : HandSHeadRun.RunEq RW (PySem.W.view RW.prog [23]) hkX obL 6000 looseL w := by
  intro os
  kernel_rfl
end Nn
local macro_rules | `(tactic| walk_at "wz") => `(tactic| dsimp only [↓Nn.e_next, ↓Nn.e_asg, ↓Nn.e_name, ↓Nn.e_ret, ↓Nn.e_retN, ↓Nn.e_drop, ↓Nn.e_ifS, ↓Nn.e_IT, ↓Nn.e_IF, ↓Nn.e_INT, ↓Nn.e_INF, ↓Nn.e_if, ↓Nn.e_varS, ↓Nn.e_c, ↓Nn.e_op, ↓Nn.e_un, ↓Nn.e_cb, ↓Nn.e_nil, ↓Nn.e_cons, ↓Nn.e_test, ↓Nn.e_B, ↓Nn.e_and, ↓Nn.e_or, ↓Nn.e_not, ↓Nn.e_andV, ↓Nn.e_orV, ↓Nn.e_notV, ↓Nn.e_chain, ↓Nn.e_for, ↓Nn.e_fld, ↓Nn.e_sfld, ↓Nn.e_meth, ↓Nn.e_methC, ↓Nn.e_callC, ↓Nn.e_make, ↓Nn.e_sl, ↓Nn.e_nopart, ↓Nn.e_part, ↓Nn.e_dget, ↓Nn.e_dget2, ↓Nn.e_dpop1, ↓Nn.e_dpop2, ↓Nn.e_din, ↓Nn.e_dnin, ↓Nn.e_dput, ↓Nn.e_dnew, ↓Nn.e_bits, ↓Nn.e_lenSet, ↓Nn.e_lc, ↓Nn.e_wipe0, ↓Nn.e_wipe1, ↓Nn.e_yes, ↓Nn.e_rng1, ↓Nn.e_rng2, ↓Nn.e_rng3, ↓Nn.e_iList, ↓Nn.e_iTup, ↓Nn.e_keys, ↓Nn.e_iEnum, ↓Nn.e_iZip, ↓Nn.e_bm, ↓Nn.e_bm0, ↓Nn.e_tup, ↓Nn.e_lst, ↓Nn.e_calld, ↓Nn.e_T, ↓Nn.e_F, ↓Nn.e_NT, ↓Nn.e_NF, ↓List.set_cons_zero, ↓List.set_cons_succ, ↓List.cons_append, ↓List.nil_append])
local macro_rules | `(tactic| walk_at "wx") => `(tactic| repeat (walk_at "wx1"))
local macro_rules | `(tactic| walk_at "wx1") => `(tactic| (first
  | with_reducible refine Nn.x_v0 ?_
  | with_reducible refine Nn.x_seq ?_
  | walk_at "wz"
  | with_reducible refine Nn.x_bl ?_
  | with_reducible refine Nn.x_i0 ?_
  | ((with_reducible refine Nn.x_i ?_ ?_); (focus (walk_at "wside")))
  | with_reducible refine Nn.x_eqI ?_
  | with_reducible refine Nn.x_neI ?_
  | with_reducible refine Nn.x_INs ?_
  | with_reducible refine Nn.x_IEs ?_
  | with_reducible refine Nn.x_NEs ?_
  | with_reducible refine Nn.x_Es ?_
  | with_reducible refine Nn.x_whT ?_
  | with_reducible refine Nn.x_whF ?_
  | walk_at "wx2"))
local macro_rules | `(tactic| walk_at "wx2") => `(tactic| (first
  | ((with_reducible refine' Nn.x_ixL ?hS ?hA ?_); (case hS => walk_at "wsq"); (case hA => walk_at "wat"))
  | ((with_reducible refine' Nn.x_ixT ?hS ?hA ?_); (case hS => walk_at "wsqt"); (case hA => walk_at "wat"))
  | ((with_reducible refine' Nn.x_lenL ?hS ?_); (case hS => walk_at "wsq"))
  | ((with_reducible refine' Nn.x_lenT ?hS ?_); (case hS => walk_at "wsqt"))
  | ((with_reducible refine' Nn.x_tyL ?hS ?_); (case hS => walk_at "wsq"))
  | ((with_reducible refine' Nn.x_append ?hS ?hA ?_); (case hS => walk_at "wob"); (case hA => walk_at "wlen"))
  | ((with_reducible refine' Nn.x_gTup ?hS ?hA ?_); (case hS => walk_at "wsqt"); (case hA => rfl))
  | with_reducible refine Nn.x_gCons ?_
  | with_reducible refine Nn.x_gNil ?_
  | ((with_reducible refine' Nn.x_shl1 ?hS ?hA ?_); (case hS => walk_at "wnat"); (case hA => omega))
  | ((with_reducible refine Nn.x_rgN ?_ ?_); (focus (walk_at "wside")))
  | ((with_reducible refine Nn.x_rgDown ?_ ?_); (focus (walk_at "wside")))
  | ((with_reducible refine' Nn.x_itL ?hS ?_); (case hS => walk_at "wsq"))
  | ((with_reducible refine' Nn.x_itT ?hS ?_); (case hS => walk_at "wsqt"))
  | ((with_reducible refine' Nn.x_enL ?hS ?_); (case hS => walk_at "wsq"))
  | ((with_reducible refine' Nn.x_ziL ?hS ?hA ?_); (case hS => walk_at "wsq"); (case hA => walk_at "wsq"))
  | ((with_reducible refine' Nn.x_lenD ?hS ?_); (case hS => walk_at "wob"))
  | ((with_reducible refine' Nn.x_shrN ?hS ?hA ?_); (case hS => walk_at "wnat"); (case hA => walk_at "wnat"))
  | ((with_reducible refine' Nn.x_xorN ?hS ?hA ?_); (case hS => walk_at "wnat"); (case hA => walk_at "wnat"))
  | ((with_reducible refine' Nn.x_shlN ?hS ?hA ?hB ?hC ?_); (case hS => walk_at "wnat"); (case hA => walk_at "wnat"); (case hB => walk_at "wpre"); (case hC => walk_at "wpre"))
  | with_reducible refine Nn.x_bits ?_
  | ((with_reducible refine' Nn.x_eqLN ?hS ?hA ?_); (case hS => walk_at "wsq"); (case hA => walk_at "wsq"))
  | ((with_reducible refine' Nn.x_neLN ?hS ?hA ?_); (case hS => walk_at "wsq"); (case hA => walk_at "wsq"))
  | ((with_reducible refine' Nn.x_dget ?hS ?hA ?_); (case hS => walk_at "wob"); (case hA => walk_at "wat"))
  | ((with_reducible refine' Nn.x_din ?hS ?_); (case hS => walk_at "wob"))
  | ((with_reducible refine' Nn.x_dnin ?hS ?_); (case hS => walk_at "wob"))
  | ((with_reducible refine' Nn.x_dgetR ?hS ?hA ?_); (case hS => assumption); (case hA => walk_at "wat"))
  | ((with_reducible refine' Nn.x_dgetS ?hS ?hA ?_); (case hS => walk_at "wrd"); (case hA => assumption))
  | ((with_reducible refine' Nn.x_dinR ?hS ?_); (case hS => assumption))
  | ((with_reducible refine' Nn.x_dninR ?hS ?_); (case hS => assumption))
  | ((with_reducible refine' Nn.x_itK ?hS ?_); (case hS => walk_at "wob"))
  | ((with_reducible refine' Nn.x_dpop1 ?hS ?_); (case hS => walk_at "wob"))
  | ((with_reducible refine' Nn.x_p1 ?hS ?hA ?_); (case hS => walk_at "wob"); (case hA => assumption))
  | ((with_reducible refine' Nn.x_dpop2 ?hS ?_); (case hS => walk_at "wob"))
  | ((with_reducible refine' Nn.x_dget2 ?hS ?_); (case hS => walk_at "wob"))
  | ((with_reducible refine' Nn.x_g2 ?hS ?_); (case hS => walk_at "wob"))
  | ((with_reducible refine' Nn.x_dput ?hS ?hA ?_); (case hS => walk_at "wob"); (case hA => walk_at "wlen"))
  | ((with_reducible refine' Nn.x_fld ?hS ?hA ?hB ?hC ?_); (case hS => walk_at "wob"); (case hA => assumption); (case hB => assumption); (case hC => walk_at "wlk"))
  | ((with_reducible refine' Nn.x_sfld ?hS ?hA ?hB ?hE ?hC ?_); (case hS => walk_at "wob"); (case hA => assumption); (case hB => assumption); (case hE => walk_at "wput"); (case hC => rfl))
  | ((with_reducible refine' Nn.x_meth ?hS ?hA ?_); (case hS => walk_at "wob"); (case hA => walk_at "wnolk"))
  | ((with_reducible refine' Nn.x_methC ?hS ?hA ?_); (case hS => walk_at "wob"); (case hA => walk_at "wnolk"))
  | ((with_reducible refine' Nn.x_inN ?hS ?hA ?_); (case hS => walk_at "wnat"); (case hA => walk_at "wsq"))
  | ((with_reducible refine' Nn.x_ninN ?hS ?hA ?_); (case hS => walk_at "wnat"); (case hA => walk_at "wsq"))
  | with_reducible refine Nn.x_truB ?_
  | ((with_reducible refine' Nn.x_aug2 ?hS ?_); (case hS => rfl))
  | with_reducible refine Nn.x_augI ?_
  | with_reducible refine Nn.x_isNN ?_
  | with_reducible refine Nn.x_isNI ?_
  | with_reducible refine Nn.x_isNB ?_
  | with_reducible refine Nn.x_isNS ?_
  | with_reducible refine Nn.x_isNR ?_
  | with_reducible refine Nn.x_notNN ?_
  | with_reducible refine Nn.x_notNI ?_
  | with_reducible refine Nn.x_notNB ?_
  | with_reducible refine Nn.x_notNS ?_
  | with_reducible refine Nn.x_notNR ?_
  | with_reducible refine Nn.x_part ?_
  | with_reducible refine Nn.x_u ?_
  | with_reducible refine Nn.x_min2 ?_
  | with_reducible refine Nn.x_max2 ?_
  | with_reducible refine Nn.x_abs ?_
  | with_reducible refine Nn.x_eqB ?_
  | with_reducible refine Nn.x_neB ?_
  | with_reducible refine Nn.x_eqS ?_
  | with_reducible refine Nn.x_neS ?_
  | with_reducible refine Nn.x_intI ?_
  | with_reducible refine Nn.x_intB ?_
  | walk_at "wisi"
  | walk_at "wc"))
local macro_rules | `(tactic| walk_at "wside") => `(tactic| (first
  | with_reducible assumption
  | with_reducible exact Nn.two_pos
  | omega
  | (show (0 : Int) < _; first | omega | decide +kernel)
  | exact Or.inr ⟨by omega, by omega⟩
  | exact Or.inl ⟨by omega, by omega⟩
  | exact ⟨by omega, by decide +kernel⟩
  | exact ⟨by omega, by omega, by omega⟩
  | (show (0 : Int) ≤ _; first | omega | decide +kernel | exact Int.mul_nonneg (by omega) (by omega))))
local macro_rules | `(tactic| walk_at "wob") => `(tactic| (first
  | assumption
  | exact L2.upd_same
  | ((with_reducible refine' Nn.at_new ?hNone ?hKept); (case hNone => assumption); (case hKept => walk_at "wob"))
  | ((with_reducible refine' Nn.at_upd ?hSome ?hAt ?hDif); (case hSome => assumption); (case hAt => walk_at "wob"); (case hDif => (intro z; cases z)))
  | exact Nn.Ex.at (by assumption) (by assumption)))
local macro_rules | `(tactic| walk_at "wrd") => `(tactic| (first
  | assumption
  | ((refine' Or.inl ?hOb); (case hOb => walk_at "wob"))))
local macro_rules | `(tactic| walk_at "wlen") => `(tactic| (rw [PySem.sizeLine_eq]; simp only [List.length_map, List.length_append, List.length_cons, List.length_nil]; omega))
local macro_rules | `(tactic| walk_at "wsqt") => `(tactic| (first
  | assumption
  | ((refine' L2.SqT.of ?hOb); (case hOb => walk_at "wob"))
  | exact Nn.Ex.tu (by assumption) (by assumption)
  | exact L2.SqT.of L2.upd_same))
local macro_rules | `(tactic| walk_at "wnat") => `(tactic| with_unfolding_all rfl)
local macro_rules | `(tactic| walk_at "wsq") => `(tactic| (first
  | assumption
  | ((refine' L2.SqL.of ?hOb); (case hOb => walk_at "wob"))
  | exact Nn.Ex.ls (by assumption) (by assumption)
  | exact Nn.Ex.ls (Nn.Ex.new (by assumption)) (by assumption)
  | exact L2.SqL.of L2.upd_same))
local macro_rules | `(tactic| walk_at "wat") => `(tactic| (first
  | assumption
  | exact Nn.atI_hd
  | with_unfolding_all rfl))
local macro_rules | `(tactic| walk_at "wisi") => `(tactic| ((with_reducible refine Nn.x_isG ?_); (first
  | with_reducible refine Nn.x_isI_int ?_
  | with_reducible refine Nn.x_isI_bool ?_
  | with_reducible refine Nn.x_isI_str ?_
  | with_reducible refine Nn.x_isB_int ?_
  | with_reducible refine Nn.x_isB_bool ?_
  | with_reducible refine Nn.x_isB_str ?_
  | with_reducible refine Nn.x_isS_int ?_
  | with_reducible refine Nn.x_isS_bool ?_
  | with_reducible refine Nn.x_isS_str ?_
  | with_reducible refine Nn.x_isN_int ?_
  | with_reducible refine Nn.x_isN_bool ?_
  | with_reducible refine Nn.x_isN_str ?_
  | ((with_reducible refine' Nn.x_isL_int ?hS ?_); (case hS => walk_at "wob"))
  | ((with_reducible refine' Nn.x_isL_list ?hS ?_); (case hS => walk_at "wob"))
  | ((with_reducible refine' Nn.x_isL_tuple ?hS ?_); (case hS => walk_at "wob"))
  | ((with_reducible refine' Nn.x_isT_int ?hS ?_); (case hS => walk_at "wob"))
  | ((with_reducible refine' Nn.x_isT_list ?hS ?_); (case hS => walk_at "wob"))
  | ((with_reducible refine' Nn.x_isT_tuple ?hS ?_); (case hS => walk_at "wob"))
  | ((with_reducible refine' Nn.x_isD_int ?hS ?_); (case hS => walk_at "wob"))
  | ((with_reducible refine' Nn.x_isD_list ?hS ?_); (case hS => walk_at "wob"))
  | ((with_reducible refine' Nn.x_isD_tuple ?hS ?_); (case hS => walk_at "wob")))))
local macro_rules | `(tactic| walk_at "wpre") => `(tactic| (first
  | with_reducible assumption
  | omega
  | refine ⟨?_, ?_⟩ <;> walk_at "wpre"))

/-! texts -/
namespace Nn
open PySem PySem.Spec PyProof.Rows L2
def rAddS : R2 := fun x y H Q => ∃ i j, x = .str i ∧ y = .str j ∧ i.length + j.length ≤ sizeLine ∧ Q (.str (i ++ j)) H
theorem op_addS {X : Cx} : OpR X (binaryOp .Add) rAddS := op_add_str
theorem x_addS {H : Hp} {Q : VK} {i j : Str} (hz : i.length + j.length ≤ sizeLine) (h : Q (.str (i ++ j)) H) : rAddS (.str i) (.str j) H Q := ⟨i, j, rfl, rfl, hz, h⟩
def rStrI : List V → Hp → VK → Prop := fun xs H Q => ∃ i, xs = [.int i] ∧ i.natAbs.log2 < 1920 ∧ Q (.str (toString i)) H
theorem cb_strI {X : Cx} : CallR X (.type "str") rStrI := call_str_int
theorem x_strI {H : Hp} {Q : VK} {i : Int} (hz : i.natAbs.log2 < 1920) (h : Q (.str (toString i)) H) : rStrI [.int i] H Q := ⟨i, rfl, hz, h⟩
end Nn
/-! exceptions: twins of defs that raise, try .. as, isinstance of what was caught -/
namespace Nn
open PySem PySem.Spec PyProof.Rows L2
/-- the rest is never come to -/
theorem pss_dead {X : Cx} {sts : List Stmt} : PSs X sts tDead := ⟨fun _ _ _ _ _ _ h => h.elim⟩
theorem passE {X : Cx} {E : XK} (tk : Takes X (fun cls d _ H => E cls d H)) : Passes (L2.CX X.prog X.w) X E := fun _ _ _ _ e s' I c => tk e s' (XE.of_call I (fun _ _ _ h => h) c)
section
variable {X : Cx} {CX : CXT} {k : Nat} {f C : Addr} {fd : FuncData} {ps : List Str} {sp : Sp} {dvs : List V} {ds : List Value} {E : L2.St → XK} {x m : Str} {p pos apos : Pos} {e o : Expr} {es : List Expr} {ta : TE} {t : L2.TA}
theorem run_fnSd {pins : List (Addr × Obj)} {σ : L2.St} {H : Hp} {s : Shared} {Q : VK} {us : List Value} {vs : List V} (F : FnOk X.prog X.w X.K X.mg X.base CX k f fd ps sp) (hr : Room k X.A) (hb : Binds X.K fd ps ds) (hd : Vals dvs ds) (hx : PassesAt CX X σ (E σ))
    (I : Inv X pins σ H s) (r : Vals vs us) (h : sp (vs ++ dvs) H Q (E σ)) : wpAny (model X.prog X.w) X.A (call (.ref f) us) (EP X pins σ Q) X.xe s := by
  have r2 : Vals (vs ++ dvs) (us ++ ds) := r.append hd
  have hl : (us ++ ds).length = ps.length := by rw [← r2.length]; exact F.len _ _ _ _ h
  refine wpAny_call (codeAny_mono (F.run X.A X.stack s H ⟨us, []⟩ (us ++ ds) (vs ++ dvs) Q (E σ) hr I.env0 (hb s us I.kIn hl) r2 h) fun r s' hq => ?_)
  cases r with
  | error e => exact hx pins H s e s' I hq
  | ok fl =>
    cases fl with
    | ret u => exact I.after hq
    | next => exact False.elim hq
    | brk => exact False.elim hq
    | cont => exact False.elim hq
def tCallSd (sp : Sp) (dvs : List V) (E : L2.St → XK) (t : L2.TA) : TE := fun σ H Q => t σ H fun vs H1 => sp (vs ++ dvs) H1 Q (E σ)
theorem pe_callSd (F : FnOk X.prog X.w X.K X.mg X.base CX k f fd ps sp) (hr : Room k X.A) (hg : Gl X x) (hm : X.mg x = some (.ref f)) (hk : PySem.W.keepIn X.K (.ref f) = true) (hb : Binds X.K fd ps ds) (hd : Vals dvs ds) (hx : ∀ σ, PassesAt CX X σ (E σ))
    (ha : PA X (e :: es) t) (hdb : (x == ("__debug__" : Str)) = false := by decide) (he : starEach (e :: es) X.env = (false, eval e X.env) :: starEach es X.env := by rfl) (hpl : (backTo pos (starEach es X.env)).any (·.1) = false := by rfl) :
    PE X (.Call (.Name x p) (e :: es) [] pos) (tCallSd sp dvs E t) := by
  refine ⟨fun pins s σ H Q I h => ?_⟩
  refine wpAny_Call_Name_kw (ld_glob I hg hm ?_ hdb)
  refine PySem.W.callWith_K (h₀ := X.base) I.ok.mod.kin hk (thn (ha.run pos pins s σ H _ I h) fun us s1 ⟨vs, H1, I1, r, q⟩ => ⟨I1.kIn, ?_⟩) he hpl
  exact run_fnSd F hr hb hd (hx σ) I1 r q
def tMethS (C : Addr) (m : Str) (sp : Sp) (dvs : List V) (E : L2.St → XK) (ta : TE) (t : L2.TA) : TE := fun σ H Q => ta σ H fun x H1 => ∃ a dx fs, x = .ref a ∧ H1 a = some (.ins C dx fs) ∧ fs.lookup m = none ∧ t σ H1 fun vs H2 => sp (x :: (vs ++ dvs)) H2 Q (E σ)
theorem pe_methS {pl : Sem Bool} (he : PE X o ta) (c : Cls X.K C) (hm : Meth X.K C m f) (F : FnOk X.prog X.w X.K X.mg X.base CX k f fd ps sp) (hr : Room k X.A) (hb : Binds X.K fd ps ds) (hd : Vals dvs ds) (hx : ∀ σ, PassesAt CX X σ (E σ)) (ha : PA X (e :: es) t)
    (hst : starEach (e :: es) X.env = (false, eval e X.env) :: starEach es X.env := by rfl) (hpl : (backTo pos (starEach es X.env)).any (·.1) = false := by rfl)
    (ht : eval (.Call (.Attribute o m apos) (e :: es) [] pos) X.env = (do
      let ov ← eval o X.env
      standAt apos.atName
      let (f, first) ← holding [ov] (getMethod ov m pl)
      callWith pos f first (backTo pos (starEach (e :: es) X.env)) (backToKw pos (keywordEach [] X.env))) := by rfl) :
    PE X (.Call (.Attribute o m apos) (e :: es) [] pos) (tMethS C m sp dvs E ta t) := by
  refine ⟨fun pins s σ H Q I h => ?_⟩
  refine PySem.W.methodCall_KW (pl := pl) (thn (he.run pins s σ H _ I h) fun u s1 ⟨x, H1, I1, rx, a, dx, fs, ex, ea, l, q⟩ => ?_) ht
  subst ex
  obtain rfl : u = Value.ref a := rx
  refine getmeth_ok I1 ea c hm l ?_
  refine PySem.W.callWith_K (first := [.ref a]) (h₀ := X.base) I.ok.mod.kin hm.kp (thn (ha.run pos pins s1 σ H1 _ I1 q) fun us s2 ⟨vs, H2, I2, r, q2⟩ => ⟨I2.kIn, ?_⟩) hst hpl
  exact run_fnSd (us := .ref a :: us) (vs := .ref a :: vs) F hr hb hd (hx σ) I2 (.cons rfl r) q2
def RMtS (C : Addr) (m : Str) (sp : Sp) (dvs : List V) (E : XK) (t : L2.TA) (σ : L2.St) (Q : VK) : VK := fun x H1 => ∃ a dx fs, x = .ref a ∧ H1 a = some (.ins C dx fs) ∧ fs.lookup m = none ∧ t σ H1 fun vs H2 => sp (x :: (vs ++ dvs)) H2 Q E
theorem e_methS {σ : L2.St} {H : Hp} {Q : VK} : tMethS C m sp dvs E ta t σ H Q = ta σ H (RMtS C m sp dvs (E σ) t σ Q) := rfl
theorem x_methS {E : XK} {σ : L2.St} {H : Hp} {Q : VK} {a dx : Addr} {fs : List (Str × V)} (h : H a = some (.ins C dx fs)) (hl : fs.lookup m = none) (q : t σ H fun vs H2 => sp (.ref a :: (vs ++ dvs)) H2 Q E) : RMtS C m sp dvs E t σ Q (.ref a) H := ⟨a, dx, fs, rfl, h, hl, q⟩
theorem e_callSd {σ : L2.St} {H : Hp} {Q : VK} : tCallSd sp dvs E t σ H Q = t σ H fun vs H1 => sp (vs ++ dvs) H1 Q (E σ) := rfl
end
section
variable {X : Cx} {CX : CXT} {k : Nat} {f C : Addr} {fd : FuncData} {ps : List Str} {sp : Sp} {dvs : List V} {ds : List Value} {E : L2.St → XK} {x : Str} {p pos : Pos} {e : Expr} {es : List Expr} {t : L2.TA}
/-- an object is made, or its __init__ raises -/
def tMakeS (C : Addr) (sp : Sp) (dvs : List V) (E : L2.St → XK) (t : L2.TA) : TE := fun σ H Q => tMake C sp dvs (E σ) t σ H Q
theorem e_makeS {σ : L2.St} {H : Hp} {Q : VK} : tMakeS C sp dvs E t σ H Q = t σ H (RMk C sp dvs (E σ) Q) := rfl
theorem run_makeS {pins : List (Addr × Obj)} {σ : L2.St} {H : Hp} {s : Shared} {Q : VK} {us : List Value} {vs : List V} (M : Mk X.K C f) (F : FnOk X.prog X.w X.K X.mg X.base CX k f fd ps sp) (hr : Room (k + 1) X.A) (hb : Binds X.K fd ps ds) (hd : Vals dvs ds)
    (hx : PassesAt CX X σ (E σ)) (I : Inv X pins σ H s) (r : Vals vs us)
    (h : ∀ x dx, H x = none → H dx = none → dx ≠ x → sp (.ref x :: (vs ++ dvs)) (upd (upd H dx (.own x)) x (.ins C dx [])) (fun v H2 => v = .non ∧ Q (.ref x) H2) (E σ)) :
    wpAny (model X.prog X.w) X.A (call (.ref C) us) (EP X pins σ Q) X.xe s := by
  have hq := h (s.heap.objs.size + 1) s.heap.objs.size (I.hok.fresh (Nat.le_succ _)) (I.hok.fresh (Nat.le_refl _)) (Nat.ne_of_lt (Nat.lt_succ_self _))
  have I2 := Inv.made (C := C) I
  have r2 : Vals (V.ref (s.heap.objs.size + 1) :: (vs ++ dvs)) (Value.ref (s.heap.objs.size + 1) :: (us ++ ds)) := .cons rfl (r.append hd)
  have hl : (Value.ref (s.heap.objs.size + 1) :: us ++ ds).length = ps.length := by
    have e := r2.length
    rw [F.len _ _ _ _ hq] at e
    exact e.symm
  refine wpAny_call (make_map (f := f) I.kIn M.makes M.init (beq_iff_eq.mp M.fn) (codeAny_mono (F.run _ X.stack _ _ ⟨Value.ref (s.heap.objs.size + 1) :: us, []⟩ (Value.ref (s.heap.objs.size + 1) :: (us ++ ds)) _ _ (E σ) (hr.make C us [])
    (I2.env0.make C us []) (hb _ (Value.ref (s.heap.objs.size + 1) :: us) I2.kIn hl) r2 hq) fun r s' hq' => ?_))
  cases r with
  | error e => exact hx pins _ _ e s' I2 hq'
  | ok fl =>
    cases fl with
    | ret u =>
      obtain ⟨v, H', I3, rv, ev, q3⟩ := I2.after hq'
      subst ev
      exact ⟨rv, ⟨V.ref (s.heap.objs.size + 1), H', I3, rfl, q3⟩⟩
    | next => exact False.elim hq'
    | brk => exact False.elim hq'
    | cont => exact False.elim hq'
theorem pe_makeS (M : Mk X.K C f) (F : FnOk X.prog X.w X.K X.mg X.base CX k f fd ps sp) (hr : Room (k + 1) X.A) (hg : Gl X x) (hm : X.mg x = some (.ref C)) (hb : Binds X.K fd ps ds) (hd : Vals dvs ds) (hx : ∀ σ, PassesAt CX X σ (E σ))
    (ha : PA X (e :: es) t) (hdb : (x == ("__debug__" : Str)) = false := by decide) (he : starEach (e :: es) X.env = (false, eval e X.env) :: starEach es X.env := by rfl) (hpl : (backTo pos (starEach es X.env)).any (·.1) = false := by rfl) :
    PE X (.Call (.Name x p) (e :: es) [] pos) (tMakeS C sp dvs E t) := by
  refine ⟨fun pins s σ H Q I h => ?_⟩
  refine wpAny_Call_Name_kw (ld_glob I hg hm ?_ hdb)
  refine PySem.W.callWith_K (h₀ := X.base) I.ok.mod.kin M.kp (thn (ha.run pos pins s σ H _ I h) fun us s1 ⟨vs, H1, I1, r, q⟩ => ⟨I1.kIn, ?_⟩) he hpl
  exact run_makeS M F hr hb hd (hx σ) I1 r q
end
/-- what the clause 'except c as n' wishes of an exception of the body: told -/
theorem x_was {K : PySem.W.Frag} {c cls : Value} {d : Option Addr} {i : Nat} {ts : Addr → Value → Option Addr → TS} {Wout : WX} {D : Ends} {σ : L2.St} {H : Hp} (hb : PySem.W.exmOne K cls c = some true)
    (h : ∀ a, H a = none → ts a cls d { nx := fun σ' H' => D.nx (σ'.set i none) H', rt := D.rt, bk := fun σ' H' => D.bk (σ'.set i none) H', ct := fun σ' H' => D.ct (σ'.set i none) H' } (σ.set i (some (.ref a))) H) : WE (wAs K c i ts Wout D) σ cls d H :=
  ⟨true, hb, fun _ => h, fun z => by cases z⟩
/-- isinstance(e, c), e the exception that the suite holds, of whatever class -/
def rIsX (K : PySem.W.Frag) (cls : Value) (d : Option Addr) (a : Addr) : List V → Hp → VK → Prop := fun xs H Q => ∃ D, cls = .ref D ∧ d = none ∧ ExcC K D ∧ rIsE K D a xs H Q
theorem call_isX {X : Cx} {a : Addr} {cls : Value} {d : Option Addr} {oe : Obj} {pn : List (Addr × Obj)} (hz : Zc cls d oe) (hf : ∃ vs, oe.data = .fields vs) : CallR (X.suite a ((a, oe) :: pn)) (.builtin "isinstance") (rIsX X.K cls d a) := by
  intro pins s σ H xs us Q I r ⟨D, e1, e2, C, h⟩
  subst e1 e2
  exact call_isE C hz hf pins s σ H xs us Q I r h
theorem x_isX {K : PySem.W.Frag} {D C a : Addr} {H : Hp} {Q : VK} {b : Bool} (hD : ExcC K D) (hk : PySem.W.kitOne K (.ref D) (.ref C) = some b) (h : Q (.bl b) H) : rIsX K (.ref D) none a [.ref a, .ref C] H Q :=
  ⟨D, rfl, rfl, hD, .ref C, .ref C, b, rfl, fun _ r => r, hk, h⟩
theorem x_isXV {K : PySem.W.Frag} {D a : Addr} {H : Hp} {Q : VK} {b : Bool} (hD : ExcC K D) (hk : PySem.W.kitOne K (.ref D) (.type "ValueError") = some b) (h : Q (.bl b) H) : rIsX K (.ref D) none a [.ref a, .ty "ValueError"] H Q :=
  ⟨D, rfl, rfl, hD, .ty "ValueError", .type "ValueError", b, rfl, fun _ r => r, hk, h⟩
end Nn
local macro_rules | `(tactic| walk_at "wc") => `(tactic| dsimp only [↓Nn.e_callSd, ↓Nn.e_methS, ↓Nn.e_makeS])
local macro_rules | `(tactic| walk_at "wc") => `(tactic| ((with_reducible refine' Nn.x_methS ?hS ?hA ?_); (case hS => walk_at "wob"); (case hA => walk_at "wnolk")))
/-! comprehensions over whatever walks; the last of a list -/
namespace Nn
open PySem L2
section
variable {K : PySem.W.Frag} {H : Hp} {Q : VK}
theorem LcW.any {J : It} {n : Nat} {G : Hp → Prop} {Y : Nat → Hp → V → Hp → Prop} {g : TG} {te : TE} {vs : List Nat} {σ : L2.St} (w : Walk J n G Y) (hz : n < sizeLine) (f : Nat → V) (hG : ∀ H', Ex H H' → G H')
    (hs : ∀ i x H1 H2, i < n → Ex H H1 → Y i H1 x H2 → ∀ Qe : VK, (∀ H'', Ex H1 H'' → Qe (f i) H'') → g x (wipe σ vs) H2 fun σ2 H3 => wipe σ2 vs = wipe σ vs ∧ te σ2 H3 Qe)
    (hk : ∀ D H', H D = none → Ex H H' → H' D = some (.lst ((List.range n).map f)) → Q (.ref D) H') : LcW g tYes te vs σ Q J H := by
  intro D hD
  refine lc_it w (Qd := fun H' => Q (.ref D) H') (fun i H' => Ex H H' ∧ H' D = some (.lst ((List.range i).map f))) ⟨Ex.new hD, by rw [upd_same]; rfl⟩ (fun i H' _ h => hG H' h.1) ?_ ?_
  · rintro i x H1 H2 hi ⟨ex, h1⟩ y
    exact hs i x H1 H2 hi ex y _ fun H'' ex2 => ⟨_, ex2.at h1, by rw [List.length_map, List.length_range]; omega, (ex.trans ex2).mut hD (ex2.at h1), by rw [upd_same, List.range_succ, List.map_append]; rfl⟩
  · rintro H1 ⟨ex, h1⟩
    exact hk D H1 hD ex h1
theorem range_getD {n : Nat} {l : List Nat} (h : n = l.length) : ((List.range n).map fun i => nV (l.getD i 0)) = l.map nV := by
  subst h
  refine List.ext_getElem (by simp) fun i h1 h2 => ?_
  have h3 : i < l.length := by simpa using h2
  simp [List.getD_eq_getElem?_getD, List.getElem?_eq_getElem h3]
theorem range_true {n : Nat} : ((List.range n).map fun _ => V.bl true) = ((List.range n).map fun _ => true).map V.bl := by rw [List.map_map]; rfl
theorem all_true {n : Nat} : (((List.range n).map fun _ => true).all id) = true := List.all_eq_true.mpr fun x hx => by
  obtain ⟨_, _, rfl⟩ := List.mem_map.mp hx; rfl
theorem atI_lastN {l : List Nat} {n : Nat} (h : l.getLast? = some n) : atI (l.map nV) (-1) = some (nV n) := by
  obtain ⟨pre, rfl⟩ := List.getLast?_eq_some_iff.mp h
  rw [List.map_append]
  exact atI_last (pre.map nV) (nV n)
theorem x_slTo {p : Addr} {l : List Nat} {m : Nat} {i : Int} (hi : i = m) (hS : SqL K H p (l.map nV)) (h : ∀ (q : Addr) (H' : Hp), H q = none → Ex H H' → H' q = some (.lst ((l.take m).map nV)) → Q (.ref q) H') : rSlL K (.ref p) none (some i) H Q := by
  subst hi
  refine x_slL hS fun q hq => ?_
  rw [cut_take, ← List.map_take]
  exact h q _ hq (Ex.new hq) upd_same
theorem x_slFrom {p : Addr} {l : List Nat} {m : Nat} {i : Int} (hi : i = m) (hS : SqL K H p (l.map nV)) (h : ∀ (q : Addr) (H' : Hp), H q = none → Ex H H' → H' q = some (.lst ((l.drop m).map nV)) → Q (.ref q) H') : rSlL K (.ref p) (some i) none H Q := by
  subst hi
  refine x_slL hS fun q hq => ?_
  rw [cut_drop, ← List.map_drop]
  exact h q _ hq (Ex.new hq) upd_same
theorem x_slInit {p : Addr} {l : List Nat} (hS : SqL K H p (l.map nV)) (h : ∀ (q : Addr) (H' : Hp), H q = none → Ex H H' → H' q = some (.lst (l.dropLast.map nV)) → Q (.ref q) H') : rSlL K (.ref p) none (some (-1)) H Q := by
  refine x_slL hS fun q hq => ?_
  rw [cut_init, ← List.map_dropLast]
  exact h q _ hq (Ex.new hq) upd_same
end
end Nn
namespace Nn
open PySem L2
theorem Ex.new' {H H' : Hp} {p : Addr} {o : HO} (h : H p = none) (e : upd H p o = H') : Ex H H' := by rw [← e]; exact Ex.new h
theorem new_at {H H' : Hp} {p : Addr} {o : HO} (e : upd H p o = H') : H' p = some o := by rw [← e]; exact upd_same
end Nn
namespace Nn
open PySem L2
theorem x_allB {K : PySem.W.Frag} {H : Hp} {Q : VK} {a : Addr} {bs : List Bool} (hS : SqL K H a (bs.map V.bl)) (h : Q (.bl (bs.all id)) H) : rAll K [.ref a] H Q := ⟨a, bs, rfl, hS, h⟩
end Nn
/-! texts: and of whole numbers, join, text[::-1] -/
namespace Nn
open PySem PySem.Spec PyProof.Rows L2
def rAndN : R2 := fun x y H Q => ∃ n k : Nat, x = .int n ∧ y = .int k ∧ Q (.int ((n &&& k : Nat) : Int)) H
theorem op_andN {X : Cx} : OpR X (binaryOp .BitAnd) rAndN := opr_imp op_and fun x y H Q ⟨n, k, h1, h2, q⟩ => ⟨n, k, h1, h2, by
  show Q (.int (Builtin.bitAnd n k)) H
  have e : Builtin.bitAnd (n : Int) (k : Int) = ((n &&& k : Nat) : Int) := by simp [Builtin.bitAnd, Int.natCast_nonneg]
  rw [e]; exact q⟩
theorem x_andN {H : Hp} {Q : VK} {i j : Int} {n k : Nat} (hi : i = n) (hj : j = k) (h : Q (.int ((n &&& k : Nat) : Int)) H) : rAndN (.int i) (.int j) H Q := ⟨n, k, by rw [hi], by rw [hj], h⟩
def rJoinL (K : PySem.W.Frag) : V → List V → Hp → VK → Prop := fun x xs H Q => ∃ a p, ∃ ys : List Str, x = .str a ∧ xs = [.ref p] ∧ SqL K H p (ys.map V.str) ∧ (ys.map (·.length)).sum + ys.length * a.length ≤ 16777216 ∧ Q (.str (Txt.join a ys)) H
theorem mt_joinL {X : Cx} : MtR X "str.join" (rJoinL X.K) := by
  intro pins s σ H x xs v us Q I rx rs h
  obtain ⟨a, p, ys, rfl, rfl, hp, hz, h⟩ := h
  exact mt_join pins s σ H _ _ v us Q I rx rs ⟨a, p, ys, rfl, rfl, .inl hp, hz, h⟩
theorem x_joinL {K : PySem.W.Frag} {H : Hp} {Q : VK} {a : Str} {p : Addr} {ys : List Str} (hp : SqL K H p (ys.map V.str)) (hz : (ys.map (·.length)).sum + ys.length * a.length ≤ 16777216) (h : Q (.str (Str.join a ys)) H) : rJoinL K (.str a) [.ref p] H Q := ⟨a, p, ys, rfl, rfl, hp, hz, by
  rw [show Txt.join a ys = Str.join a ys from TL.join_eq a ys]
  exact h⟩
/-- text[::-1]: some text, no longer -/
def tRevS (te : TE) : TE := fun σ H Q => te σ H fun x H1 => ∃ z : Str, x = .str z ∧ z.length ≤ sizeLine ∧ ∀ z' : Str, z'.length ≤ z.length → Q (.str z') H1
theorem pe_revS {X : Cx} {e : Expr} {te : TE} {k : Nat} {p1 p2 p3 pos : Pos} (he : PE X e te) : PE X (.Subscript e (.Slice none none (some (.UnaryOp .USub (.Constant (.int 1) k p1) p2)) p3) pos) (tRevS te) := by
  refine ⟨fun pins s σ H Q I h => ?_⟩
  refine Subscript_ (thn (he.run pins s σ H _ I h) fun v s1 ⟨x, H1, I1, r1, q1⟩ => ?_)
  obtain ⟨z, ex, hz, q⟩ := q1
  subst ex
  obtain ⟨t, rfl⟩ := r1
  have hst : PO X (some (.UnaryOp .USub (.Constant (.int 1) k p1) p2)) (tPart (tUn (rU fun i => .int (-i)) (tC (.int 1)))) := po_some (pe_un un_neg pe_int)
  refine wpAny_Slice (thn (po_none.run pins s1 σ H1 (fun o H2 => o = none ∧ H2 = H1) I1 ⟨rfl, rfl⟩) fun vl s2 ⟨l, H2, I2, pl, el, e2⟩ => ?_)
  subst el e2
  refine thn (po_none.run pins s2 σ H2 (fun o H3 => o = none ∧ H3 = H2) I2 ⟨rfl, rfl⟩) fun vu s3 ⟨u, H3, I3, pu, eu, e3⟩ => ?_
  subst eu e3
  refine thn (hst.run pins s3 σ H3 (fun o H4 => o = some (-1) ∧ H4 = H3) I3 ⟨1, rfl, -1, rfl, rfl, rfl⟩) fun vs s4 ⟨o, H4, I4, ps, eo, e4⟩ => ?_
  subst eo e4
  have I5 : Inv X pins σ H4 { s4 with heap := s4.heap.push { cls := .type "slice", data := .fields #[vl, vu, vs] } } := I4.kept (t' := s4.toks) fun b ob q => Heap.get?_push_of_some _ q
  show wpAny (model X.prog X.w) X.A (subscriptTail e (.Slice none none (some (.UnaryOp .USub (.Constant (.int 1) k p1) p2)) p3) (.str z t) (.ref s4.heap.objs.size)) (EP X pins σ Q) X.xe { s4 with heap := s4.heap.push { cls := .type "slice", data := .fields #[vl, vu, vs] } }
  refine tail_any (ops := [.str z t, .ref s4.heap.objs.size]) (typeIs_str _ _ _) (F.slot_str_getitem.lookup) ?_ (by with_unfolding_all rfl)
  obtain ⟨l, rfl, el⟩ := IsPart.raw pl
  obtain ⟨u, rfl, eu⟩ := IsPart.raw pu
  obtain ⟨st, rfl, es⟩ := IsPart.raw ps
  refine wpAny_getItem_str_slice (l := l) (u := u) (st := st) ⟨_, Heap.get?_push_size _ rfl, rfl, rfl⟩ (by rw [es]; rfl) ?_
  unfold sliceMade
  rw [es, if_neg (by intro h; cases h)]
  have hle : (((slicePicked z l u st).filterMap (z.cps[·]?)).toArray).size ≤ z.length := by
    rw [List.size_toArray]
    refine Nat.le_trans (List.length_filterMap_le _ _) ?_
    unfold slicePicked
    rw [el, eu, es]
    refine Nat.le_trans (sliceRange_len_le _ _ _ (by decide)) ?_
    show ((z.length : Int) - 1 - -1).toNat ≤ z.length
    omega
  exact ⟨Nat.le_trans hle hz, .str _, H4, I5.tok _, ⟨_, rfl⟩, q _ hle⟩
/-- a sign, so often: some text -/
def rMulS : R2 := fun x y H Q => ∃ (z : Str) (n : Nat), x = .str z ∧ z.length = 1 ∧ y = .int n ∧ n ≤ 1000 ∧ ∀ z' : Str, z'.length ≤ 1000 → Q (.str z') H
theorem rep_size {a : Array Nat} (ha : a.size = 1) : ∀ (n : Nat) (b : Array Nat), ((List.replicate n a).foldl (· ++ ·) b).size = b.size + n
  | 0, b => rfl
  | n + 1, b => by
    rw [List.replicate_succ, List.foldl_cons, rep_size ha n (b ++ a), Array.size_append, ha]; omega
theorem op_mul_str {X : Cx} : OpR X (binaryOp .Mult) rMulS := by
  intro pins s σ H x y v u Q I rx ry h
  obtain ⟨z, n, rfl, hz, rfl, hn, q⟩ := h
  obtain ⟨t, rfl⟩ := rx
  obtain ⟨t', rfl⟩ := ry
  have hz : z.cps.size = 1 := hz
  have e63 : (2 : Int) ^ 63 = 9223372036854775808 := by decide
  have hs := rep_size hz n #[]
  refine P.mul_str (by
    rw [decide_eq_false (by omega), decide_eq_false (by omega)]; rfl) (fun h1 _ => ?_) (fun h1 _ => ?_) ?_
  · show ¬ ((z.cps.size : Int) > _)
    rw [hz]
    have : (1 : Int) ≤ (2 ^ 63 - 1) / (n : Int) := by
      rw [Int.le_ediv_iff_mul_le (by omega)]; omega
    omega
  · show Builtin.Str.tooLong (z.cps.size * _) = false
    rw [hz]
    unfold Builtin.Str.tooLong
    have : ((n : Int)).toNat = n := rfl
    rw [this, sizeLine_eq]
    simp; omega
  · by_cases h1 : (n : Int) < 1
    · rw [if_pos h1]
      exact ⟨by decide, .str _, H, I.tok _, ⟨_, rfl⟩, q _ (by decide)⟩
    · rw [if_neg h1]
      by_cases h2 : ((n : Int) == 1 || z.length == 0) = true
      · rw [if_pos h2]
        exact ⟨.str z, H, I, ⟨t, rfl⟩, q _ (by show z.cps.size ≤ _; omega)⟩
      · rw [if_neg h2]
        have e : ((n : Int)).toNat = n := rfl
        rw [e]
        have hl : ((List.replicate n z.cps).foldl (· ++ ·) #[]).size ≤ 1000 := by rw [hs]; simp; omega
        exact ⟨Nat.le_trans hl (by rw [sizeLine_eq]; decide), .str _, H, I.tok _, ⟨_, rfl⟩, q _ hl⟩
theorem x_mulS {H : Hp} {Q : VK} {z : Str} {i : Int} {n : Nat} (hi : i = n) (hz : z.length = 1) (hn : n ≤ 1000) (h : ∀ z' : Str, z'.length ≤ 1000 → Q (.str z') H) : rMulS (.str z) (.int i) H Q := ⟨z, n, rfl, hz, by rw [hi], hn, h⟩
/-! how texts are told -/
theorem x_ixS {H : Hp} {Q : VK} {z : Str} {i : Int} {c : Nat} (hz : z.length ≤ sizeLine) (e : atI z.cps.toList i = some c) (h : Q (.str ⟨#[c]⟩) H) : rIxS (.str z) (.int i) H Q := ⟨z, i, c, rfl, rfl, hz, e, h⟩
def rNinS : R2 := fun x y H Q => ∃ i j, x = .str i ∧ y = .str j ∧ Q (.bl (!(!(Builtin.Str.occurrences j i 0 j.length 1).isEmpty))) H
theorem op_notIn_strN {X : Cx} : OpR X (compareOp .NotIn) rNinS := op_notIn_str
theorem x_ninS {H : Hp} {Q : VK} {z : Str} {c : Nat} (h : Q (.bl (!decide (c ∈ z.cps.toList))) H) : rNinS (.str ⟨#[c]⟩) (.str z) H Q := ⟨_, z, rfl, rfl, by
  rw [StrLaws.found_one z c]; exact h⟩
end Nn
namespace Nn
open PySem L2
section
variable {K : PySem.W.Frag} {H : Hp} {Q : VK}
theorem x_isL_str {a : Addr} {xs : List V} (ha : H a = some (.lst xs)) (h : Q (.bl false) H) : rIsi K [.ref a, .ty "str"] H Q := x_isi (.ty "str") (.base (.lst ha)) (kit_ty (by decide +kernel)) h
theorem x_isT_str {a : Addr} {xs : List V} (ha : H a = some (.tup xs)) (h : Q (.bl false) H) : rIsi K [.ref a, .ty "str"] H Q := x_isi (.ty "str") (.base (.tup ha)) (kit_ty (by decide +kernel)) h
theorem x_isD_str {a : Addr} {kvs : List (Key × V)} (ha : H a = some (.dK kvs)) (h : Q (.bl false) H) : rIsi K [.ref a, .ty "str"] H Q := x_isi (.ty "str") (.base (.dK ha)) (kit_ty (by decide +kernel)) h
theorem x_lenStr {z : Str} (hz : z.length ≤ sizeLine) (h : Q (.int z.length) H) : rLenStr [.str z] H Q := ⟨z, rfl, hz, h⟩
end
end Nn
namespace Nn
open PySem L2
theorem walk_str {z : Str} : Walk (Its z) z.length (fun _ => True) (fun i H x H' => H' = H ∧ ∃ c, z.cps.toList[i]? = some c ∧ x = .str ⟨#[c]⟩) :=
  ⟨fun _ _ hi _ => hi, fun _ _ => Nat.le_refl _, fun i H x H' hi _ y => by
    obtain ⟨e, c, h1, h2⟩ := y
    exact ⟨e, c, by rw [Array.getElem?_toList]; exact h1, h2⟩⟩
def RiS (R : It → Hp → Prop) : VK := fun v H1 => ∃ x, v = .str x ∧ R (Its x) H1
theorem e_iStr {te : TE} {σ : L2.St} {H : Hp} {R : It → Hp → Prop} : iStr te σ H R = te σ H (RiS R) := rfl
theorem x_itS {z : Str} {H : Hp} {R : It → Hp → Prop} (h : R (Its z) H) : RiS R (.str z) H := ⟨z, rfl, h⟩
def RRevS (Q : VK) : VK := fun x H1 => ∃ z : Str, x = .str z ∧ z.length ≤ sizeLine ∧ ∀ z' : Str, z'.length ≤ z.length → Q (.str z') H1
theorem e_revS {te : TE} {σ : L2.St} {H : Hp} {Q : VK} : tRevS te σ H Q = te σ H (RRevS Q) := rfl
theorem x_revS {z : Str} {H : Hp} {Q : VK} (hz : z.length ≤ sizeLine) (h : ∀ z' : Str, z'.length ≤ z.length → Q (.str z') H) : RRevS Q (.str z) H := ⟨z, rfl, hz, h⟩
theorem x_slS {z : Str} {lo hi : Option Int} {H : Hp} {Q : VK} (hz : z.length ≤ sizeLine) (h : ∀ z' : Str, z'.length ≤ z.length → Q (.str z') H) : rSlS (.str z) lo hi H Q := ⟨z, rfl, hz, h _ (cutS_length z lo hi)⟩
theorem ch_eq {c d : Nat} : (⟨#[c]⟩ : Str) = ⟨#[d]⟩ ↔ c = d := ⟨fun h => by
  have := congrArg (fun z : Str => z.cps.toList) h
  simpa using this, fun h => by rw [h]⟩
theorem x_ninT2 {K : PySem.W.Frag} {H : Hp} {Q : VK} {p : Addr} {c : Nat} (hS : SqT K H p [.str "0", .str "1"]) (h : Q (.bl (!decide (c = 48 ∨ c = 49))) H) : rIn K true (.str ⟨#[c]⟩) (.ref p) H Q := by
  refine ⟨p, _, rfl, .inr hS, rfl, rfl, ?_⟩
  have e0 : ("0" : Str) = ⟨#[48]⟩ := by decide +kernel
  have e1 : ("1" : Str) = ⟨#[49]⟩ := by decide +kernel
  have e : inV (.str (⟨#[c]⟩ : Str)) [.str "0", .str "1"] = decide (c = 48 ∨ c = 49) := by
    rw [e0, e1]
    show (decide ((⟨#[48]⟩ : Str) = ⟨#[c]⟩) || (decide ((⟨#[49]⟩ : Str) = ⟨#[c]⟩) || false)) = _
    rw [Bool.or_false, Bool.eq_iff_iff, Bool.or_eq_true, decide_eq_true_eq, decide_eq_true_eq, decide_eq_true_eq, ch_eq, ch_eq]
    exact ⟨fun h => h.imp Eq.symm Eq.symm, fun h => h.imp Eq.symm Eq.symm⟩
  show Q (.bl (!inV _ _)) H
  rw [e]; exact h
theorem LcW.inv {J : It} {n : Nat} {G : Hp → Prop} {Y : Nat → Hp → V → Hp → Prop} {g : TG} {tt : TT} {te : TE} {vs : List Nat} {σ : L2.St} {H : Hp} {Q : VK} (w : Walk J n G Y) (hz : n < sizeLine) (Pv : Addr → Nat → List V → Hp → Prop)
    (h0 : ∀ D, H D = none → Pv D 0 [] (upd H D (.lst []))) (hG : ∀ D i acc H', H D = none → Pv D i acc H' → G H')
    (hs : ∀ D i acc x H1 H2, i < n → H D = none → Pv D i acc H1 → H1 D = some (.lst acc) → Y i H1 x H2 → ∀ (Qe : VK) (R : Hp → Prop), (∀ y H5, H5 D = some (.lst acc) → Pv D (i + 1) (acc ++ [y]) (upd H5 D (.lst (acc ++ [y]))) → Qe y H5) → (∀ H4, H4 D = some (.lst acc) → Pv D (i + 1) acc H4 → R H4) →
      g x (wipe σ vs) H2 fun σ2 H3 => wipe σ2 vs = wipe σ vs ∧ tt σ2 H3 fun b H4 => if b = true then te σ2 H4 Qe else R H4)
    (hd : ∀ D acc H', H D = none → Pv D n acc H' → H' D = some (.lst acc) → Q (.ref D) H') : LcW g tt te vs σ Q J H := by
  intro D hD
  refine lc_it w (Qd := fun H' => Q (.ref D) H') (fun i H' => ∃ acc, acc.length ≤ i ∧ H' D = some (.lst acc) ∧ Pv D i acc H') ⟨[], Nat.le_refl _, upd_same, h0 D hD⟩ (fun i H' _ ⟨acc, _, _, p⟩ => hG D i acc H' hD p) ?_ ?_
  · rintro i x H1 H2 hi ⟨acc, hl, h1, pv⟩ y
    refine hs D i acc x H1 H2 hi hD pv h1 y _ _ (fun y H5 h5 p5 => ⟨acc, h5, by omega, acc ++ [y], by rw [List.length_append, List.length_singleton]; omega, upd_same, p5⟩) fun H4 h4 p4 => ⟨acc, by omega, h4, p4⟩
  · rintro H1 ⟨acc, _, h1, pv⟩
    exact hd D acc H1 hD pv h1
end Nn
local macro_rules | `(tactic| walk_at "wc") => `(tactic| dsimp only [↓Nn.e_iStr, ↓Nn.e_revS])
local macro_rules | `(tactic| walk_at "wc") => `(tactic| with_reducible refine Nn.x_itS ?_)
local macro_rules | `(tactic| walk_at "wc") => `(tactic| ((with_reducible refine' Nn.x_andN ?hS ?hA ?_); (case hS => walk_at "wnat"); (case hA => walk_at "wnat")))
local macro_rules | `(tactic| walk_at "wc") => `(tactic| ((with_reducible refine' Nn.x_ninT2 ?hS ?_); (case hS => walk_at "wsqt")))
local macro_rules | `(tactic| walk_at "wc") => `(tactic| with_reducible refine Nn.x_ninS ?_)
local macro_rules | `(tactic| walk_at "wc") => `(tactic| ((with_reducible refine' Nn.x_isL_str ?hS ?_); (case hS => walk_at "wob")))
local macro_rules | `(tactic| walk_at "wc") => `(tactic| ((with_reducible refine' Nn.x_isT_str ?hS ?_); (case hS => walk_at "wob")))
local macro_rules | `(tactic| walk_at "wc") => `(tactic| ((with_reducible refine' Nn.x_isD_str ?hS ?_); (case hS => walk_at "wob")))
local macro_rules | `(tactic| walk_at "wc") => `(tactic| ((with_reducible refine' Nn.x_lenStr ?hS ?_); (case hS => assumption)))
/-! k01: names, things, numbers -/
namespace Nn
open PySem L2
section
variable {P : Program} {w : World} {K : PySem.W.Frag} {mg : Str → Option Value} {base : Heap} {H : Hp} {Q : VK} {E : XK}
/-- what may be handed in, of any kind -/
inductive Thing (H : Hp) : V → Prop
  | int (i : Int) : Thing H (.int i)
  | bl (b : Bool) : Thing H (.bl b)
  | str (z : Str) : Thing H (.str z)
  | non : Thing H .non
  | lst {a : Addr} {xs : List V} : H a = some (.lst xs) → Thing H (.ref a)
  | tup {a : Addr} {xs : List V} : H a = some (.tup xs) → Thing H (.ref a)
  | dict {a : Addr} {kvs : List (Key × V)} : H a = some (.dK kvs) → Thing H (.ref a)
theorem Thing.ex {H' : Hp} {v : V} (t : Thing H v) (e : Ex H H') : Thing H' v := by
  cases t with
  | int i => exact .int i
  | bl b => exact .bl b
  | str z => exact .str z
  | non => exact .non
  | lst h => exact .lst (e.at h)
  | tup h => exact .tup (e.at h)
  | dict h => exact .dict (e.at h)
/-- whether it is a name, a size -/
def isnV (v : V) (wd : Nat) : Bool := match v with
  | .int i => decide (0 ≤ i ∧ i < ((2 ^ wd : Nat) : Int))
  | _ => false
def issV (v : V) (k : Nat) : Bool := match v with
  | .int i => decide (1 ≤ i ∧ i ≤ (k : Int))
  | _ => false
def sp_is_name (_ : Tx K mg base) : Sp := fun vs H Q _ => ∃ (v : V) (wd : Nat), vs = [v, .int wd] ∧ wd ≤ 60 ∧ Thing H v ∧ Q (.bl (isnV v wd)) H
theorem wc_is_name {T : Tx K mg base} {n wd : Nat} {i j : Int} (e0 : i = n) (e1 : j = wd) (c0 : wd ≤ 60) (h : Q (.bl (decide (n < 2 ^ wd))) H) : sp_is_name T [.int i, .int j] H Q E := by
  subst e0 e1
  refine ⟨.int n, wd, rfl, c0, .int _, ?_⟩
  have e : isnV (.int (n : Int)) wd = decide (n < 2 ^ wd) := decide_eq_decide.mpr ⟨fun z => Int.ofNat_lt.mp z.2, fun z => ⟨Int.natCast_nonneg _, Int.ofNat_lt.mpr z⟩⟩
  rw [e]; exact h
theorem wg_is_name {T : Tx K mg base} {v : V} {wd : Nat} {j : Int} (e1 : j = wd) (c0 : wd ≤ 60) (t : Thing H v) (h : Q (.bl (isnV v wd)) H) : sp_is_name T [v, .int j] H Q E := by
  subst e1; exact ⟨v, wd, rfl, c0, t, h⟩
theorem ok_is_name (T : Tx K mg base) : FnOk P w K mg base CX0 1 T.a_is_name T.d_is_name ["thing", "wide"] (sp_is_name T) := by
  refine T.F_is_name.okD sc_is_name (fun vs H Q E h => ?_) (fun cdv A outer s H vs Q E hr h => ?_)
  · obtain ⟨v, wd, rfl, _⟩ := h; rfl
  · obtain ⟨v, wd, rfl, hw, t, q⟩ := h
    have hu := hu_of hr
    refine ⟨_, (pss_one (ps_ret (pe_and (pe_callB call_isi (by rfl) T.z_isinstance (by decide +kernel) (pa_cons (pv 0) (pa_cons (pe_bltn (v := .ty "int") rfl T.z_int (by decide +kernel) rfl) pa_nil))) (pe_and (pe_not (pe_callB call_isi (by rfl) T.z_isinstance (by decide +kernel) (pa_cons (pv 0) (pa_cons (pe_bltn (v := .ty "bool") rfl T.z_bool (by decide +kernel) rfl) pa_nil)))) (pe_one (pe_chain op_le op_lt pe_int (pv 0) (pe_op op_shl1 pe_int (pv 1)))))))), ?_⟩
    rw [Nn.st_is_name]; try rw [Nn.cxK]
    try rw [Nn.cxW]
    cases t with
    | int i =>
      walk_at "wx"
      refine x_ite (fun h => ?_) fun h => ?_
      · walk_at "wx"
        have e : isnV (.int i) wd = decide (i < ((2 ^ wd : Nat) : Int)) := decide_eq_decide.mpr ⟨fun z => z.2, fun z => ⟨h, z⟩⟩
        rw [e] at q; exact q
      · have e : isnV (.int i) wd = false := decide_eq_false fun z => h z.1
        rw [e] at q; exact q
    | bl b => walk_at "wx"; exact q
    | str z => walk_at "wx"; exact q
    | non => walk_at "wx"; exact q
    | lst h => walk_at "wx"; exact q
    | tup h => walk_at "wx"; exact q
    | dict h => walk_at "wx"; exact q
/-! texts of names -/
def sgn (b : Nat) : Str := if b % 2 = 0 then "0" else "1"
def txtN (n : Nat) : Nat → Str
  | 0 => ""
  | j + 1 => sgn (n / 2 ^ j) ++ txtN n j
theorem sgn_len (b : Nat) : (sgn b).length = 1 := by
  unfold sgn; split <;> decide +kernel
theorem str_len_append (a b : Str) : (a ++ b).length = a.length + b.length := by
  show (a.cps ++ b.cps).size = _
  rw [Array.size_append]; rfl
theorem txtN_len (n : Nat) : ∀ j, (txtN n j).length = j
  | 0 => by
    show ("" : Str).length = 0
    decide +kernel
  | j + 1 => by
    show (sgn (n / 2 ^ j) ++ txtN n j).length = _
    rw [str_len_append, sgn_len, txtN_len n j]; omega
theorem str_ext {a b : Str} (h : a.cps.toList = b.cps.toList) : a = b := by
  cases a; cases b
  congr 1
  exact Array.toList_inj.mp h
theorem str_app_nil (x : Str) : x ++ ("" : Str) = x := str_ext (by
  show (x.cps ++ ("" : Str).cps).toList = x.cps.toList
  have e : ("" : Str).cps = #[] := by decide +kernel
  rw [e]; simp)
theorem str_nil_app (x : Str) : ("" : Str) ++ x = x := str_ext (by
  show (("" : Str).cps ++ x.cps).toList = x.cps.toList
  have e : ("" : Str).cps = #[] := by decide +kernel
  rw [e]; simp)
theorem join_cons (x : Str) : ∀ ys : List Str, Str.join "" (x :: ys) = x ++ Str.join "" ys
  | [] => by
    show x = x ++ Str.empty
    have e : Str.empty = ("" : Str) := by decide +kernel
    rw [e, str_app_nil]
  | y :: r => by
    show x ++ ("" : Str) ++ Str.join "" (y :: r) = x ++ Str.join "" (y :: r)
    rw [str_app_nil]
/-- the signs of a name, the greatest first -/
def sgnL (n : Nat) : Nat → List Str
  | 0 => []
  | j + 1 => sgn (n / 2 ^ j) :: sgnL n j
theorem join_sgn (n : Nat) : ∀ j, Str.join "" (sgnL n j) = txtN n j
  | 0 => by
    show Str.empty = ("" : Str)
    decide +kernel
  | j + 1 => by
    show Str.join "" (sgn (n / 2 ^ j) :: sgnL n j) = _
    rw [join_cons, join_sgn n j]; rfl
theorem sgnL_len (n : Nat) : ∀ j, (sgnL n j).length = j
  | 0 => rfl
  | j + 1 => congrArg (· + 1) (sgnL_len n j)
theorem sgnL_sum (n : Nat) : ∀ j, ((sgnL n j).map (·.length)).sum = j
  | 0 => rfl
  | j + 1 => by
    show (sgn (n / 2 ^ j)).length + ((sgnL n j).map (·.length)).sum = _
    rw [sgn_len, sgnL_sum n j]; omega
/-- what a text writes -/
def figs (z : Str) : Bool := z.cps.toList.all fun c => decide (c = 48 ∨ c = 49)
def val1 (a c : Nat) : Nat := 2 * a + (if c = 49 then 1 else 0)
def valN (l : List Nat) : Nat := l.foldl val1 0
def valV (v : V) (w : Nat) : Option Nat := match v with
  | .str z => if z.length = w ∧ figs z = true then some (valN z.cps.toList) else none
  | _ => none
end
end Nn
/-! k01: the law's own defs -/
namespace Nn
open PySem L2
theorem x_isBl {H : Hp} {Q : VK} {a b : Bool} (h : Q (.bl (decide (a = b))) H) : rIsB (.bl a) (.bl b) H Q := ⟨a, b, rfl, rfl, h⟩
theorem x_notBl {H : Hp} {Q : VK} {a b : Bool} (h : Q (.bl (!decide (a = b))) H) : rNotB (.bl a) (.bl b) H Q := ⟨a, b, rfl, rfl, h⟩
end Nn
local macro_rules | `(tactic| walk_at "wc") => `(tactic| with_reducible refine Nn.x_isBl ?_)
local macro_rules | `(tactic| walk_at "wc") => `(tactic| with_reducible refine Nn.x_notBl ?_)
namespace Nn
open PySem L2
theorem bl_all {K : PySem.W.Frag} {H : Hp} : ∀ {bs : List Bool}, DpAll K H (bs.map V.bl) (bs.map PyData.bool)
  | [] => .nil
  | b :: r => .cons (.bl b) bl_all
theorem bl_dp {K : PySem.W.Frag} {H : Hp} {p : Addr} {bs : List Bool} (h : H p = some (.lst (bs.map V.bl))) : Dp K H (.ref p) (.list (bs.map PyData.bool)) := .lst (SqL.of h) bl_all
theorem bl_shp {bs : List Bool} : Shp (.list (bs.map PyData.bool)) 1 := Shp.lst fun y hy => by
  obtain ⟨b, _, rfl⟩ := List.mem_map.mp hy
  exact Shp.bl
theorem range8 {f : Nat → Bool} : ((List.range 8).map fun k => V.bl (f k)) = [f 0, f 1, f 2, f 3, f 4, f 5, f 6, f 7].map V.bl := rfl
theorem sgnL_get {n : Nat} : ∀ {j i : Nat}, i < j → (sgnL n j)[i]? = some (sgn (n / 2 ^ (j - 1 - i)))
  | j + 1, 0, _ => rfl
  | j + 1, i + 1, h => by
    show (sgnL n j)[i]? = _
    rw [sgnL_get (by omega : i < j)]
    congr 4
    omega
theorem take_snoc' {α : Type} {l : List α} {i : Nat} {x : α} (h : l[i]? = some x) : l.take (i + 1) = l.take i ++ [x] := by rw [List.take_add_one, h]; rfl
theorem val_snoc (l : List Nat) (c : Nat) : (2 : Int) * ((valN l : Nat) : Int) + (if decide ((⟨#[c]⟩ : Str) = Str.ofString "1") = true then 1 else 0) = ((valN (l ++ [c]) : Nat) : Int) := by
  have e1 : (Str.ofString "1") = ⟨#[49]⟩ := by decide +kernel
  rw [e1]
  have e : valN (l ++ [c]) = val1 (valN l) c := by unfold valN; rw [List.foldl_append]; rfl
  rw [e]
  unfold val1
  by_cases h : c = 49
  · rw [if_pos h, if_pos (decide_eq_true (ch_eq.mpr h))]; omega
  · rw [if_neg h, if_neg (by rw [decide_eq_false fun z => h (ch_eq.mp z)]; decide)]; omega
theorem str_bit {b : Nat} (h : b % 2 < 2) : (toString ((b % 2 : Nat) : Int) : Str) = sgn b := by
  have hc : b % 2 = 0 ∨ b % 2 = 1 := by omega
  unfold sgn
  rcases hc with e | e <;> rw [e]
  · decide +kernel
  · decide +kernel
section
variable {P : Program} {w : World} {K : PySem.W.Frag} {mg : Str → Option Value} {base : Heap} {H : Hp} {Q : VK} {E : XK} {T : Tx K mg base}
def sp_l_cell_at (_ : Tx K mg base) : Sp := fun vs H Q E => ∃ (p_s : Addr) (s : List Int) (k : Nat), vs = [.ref p_s, .int k] ∧ (SqL K H p_s (s.map V.int)) ∧ (∀ z : Nat, Q (.int z) H)
theorem wc_l_cell_at {T : Tx K mg base} {p_s : Addr} {s : List Int} {k : Nat} {i1 : Int} (e1 : i1 = k) (c0 : SqL K H p_s (s.map V.int)) (h : ∀ z : Nat, Q (.int z) H) : sp_l_cell_at T [.ref p_s, .int i1] H Q E := by
  subst e1
  exact ⟨p_s, s, k, rfl, c0, h⟩
theorem ok_l_cell_at (T : Tx K mg base) : FnOk P w K mg base CX0 1 T.a_l_cell_at T.d_l_cell_at ["_law_script", "_law_k"] (sp_l_cell_at T) := by
  refine T.F_l_cell_at.okD sc_l_cell_at (fun vs H Q E h => ?_) (fun cdv A outer s H vs Q E hr h => ?_)
  · obtain ⟨p_s, s, k, rfl, hS0, q⟩ := h; rfl
  · obtain ⟨p_s, s, k, rfl, hS0, q⟩ := h
    have hu := hu_of hr
    refine ⟨_, (pss_cons (ps_if (pt_cmpR op_lt (pv 1) (pe_callB cb_len (by rfl) T.z_len PySem.boot_len (pa_cons (pv 0) pa_nil)) (nomark _))
      (pss_one (ps_ret (pe_callB cb_abs (by rfl) T.z_abs (by decide +kernel) (pa_cons (pe_ix ix_list (pv 0) (pv 1) (fun _ _ => rfl)) pa_nil))))
      pss_nil)
      (pss_one (ps_ret pe_int))), ?_⟩
    rw [Nn.st_l_cell_at]; try rw [Nn.cxK]
    try rw [Nn.cxW]
    walk_at "wx"
    refine x_ifD (fun hk => ?_) (fun hk => ?_)
    · walk_at "wx"
      have hk' : k < s.length := by simpa using hk
      refine x_ixL hS0 (atI_map hk') ?_
      walk_at "wx"
      exact q _
    · walk_at "wx"
      exact q 0
def sp_l_mixed (_ : Tx K mg base) : Sp := fun vs H Q E => ∃ (c : Nat) (k : Nat), vs = [.int c, .int k] ∧ (k ≤ 1000) ∧ (∀ r : Nat, Q (.int r) H)
theorem wc_l_mixed {T : Tx K mg base} {c : Nat} {k : Nat} {i0 : Int} {i1 : Int} (e0 : i0 = c) (e1 : i1 = k) (c0 : k ≤ 1000) (h : ∀ r : Nat, Q (.int r) H) : sp_l_mixed T [.int i0, .int i1] H Q E := by
  subst e0 e1
  exact ⟨c, k, rfl, c0, h⟩
theorem ok_l_mixed (T : Tx K mg base) : FnOk P w K mg base CX0 1 T.a_l_mixed T.d_l_mixed ["_law_cell", "_law_k"] (sp_l_mixed T) := by
  refine T.F_l_mixed.okD sc_l_mixed (fun vs H Q E h => ?_) (fun cdv A outer s H vs Q E hr h => ?_)
  · obtain ⟨c, k, rfl, hpre, q⟩ := h; rfl
  · obtain ⟨c, k, rfl, hpre, q⟩ := h
    have hu := hu_of hr
    refine ⟨_, (pss_cons (ps_set (i := 2) sc_l_mixed.nd rfl (Or.inl rfl) (pe_op op_mod (pe_op op_mul (pe_op op_add (pe_op op_add (pv 0) (pe_op op_mul pe_int (pv 1))) pe_int) pe_int) (pe_op op_sub (pe_op op_pow pe_int pe_int) pe_int)))
      (pss_one (ps_ret (pe_op op_fdivW (pe_op op_mod (pe_op op_mul (pe_op op_add (pe_op op_add (pv 2) (pe_op op_mul pe_int (pv 1))) pe_int) pe_int) (pe_op op_sub (pe_op op_pow pe_int pe_int) pe_int)) pe_int)))), ?_⟩
    rw [Nn.st_l_mixed]; try rw [Nn.cxK]
    try rw [Nn.cxW]
    walk_at "wx"
    have e2 : (2 : Int) ^ Int.toNat 61 - 1 = ((2305843009213693951 : Nat) : Int) := by decide
    rw [e2]
    have e1 : ((c : Int) + 7 * (k : Int) + 3) * 982451653 % ((2305843009213693951 : Nat) : Int) = (((c + 7 * k + 3) * 982451653 % 2305843009213693951 : Nat) : Int) := by
      rw [Int.natCast_emod, Int.natCast_mul]; rfl
    rw [e1]
    generalize (c + 7 * k + 3) * 982451653 % 2305843009213693951 = r
    have e3 : ((r : Int) + 11 * (k : Int) + 5) * 48271 % ((2305843009213693951 : Nat) : Int) / 64 = (((r + 11 * k + 5) * 48271 % 2305843009213693951 / 64 : Nat) : Int) := by
      rw [Int.natCast_ediv, Int.natCast_emod, Int.natCast_mul]; rfl
    rw [e3]
    exact q _
def sp_l_wide (_ : Tx K mg base) : Sp := fun vs H Q _ => ∃ (c : Nat), vs = [.int c] ∧ ∀ (wd : Nat) H', Ex H H' → 1 ≤ wd → wd ≤ 60 → Q (.int wd) H'
theorem wc_l_wide {c : Nat} {i : Int} (hi : i = c) (q : ∀ (wd : Nat) H', Ex H H' → 1 ≤ wd → wd ≤ 60 → Q (.int wd) H') : sp_l_wide T [.int i] H Q E := by
  subst hi; exact ⟨c, rfl, q⟩
theorem ok_l_wide (T : Tx K mg base) : FnOk P w K mg base CX0 1 T.a_l_wide T.d_l_wide ["_law_cell"] (sp_l_wide T) := by
  refine T.F_l_wide.okD sc_l_wide (fun vs H Q E h => ?_) (fun cdv A outer s H vs Q E hr h => ?_)
  · obtain ⟨c, rfl, _⟩ := h; rfl
  · obtain ⟨c, rfl, q⟩ := h
    have hu := hu_of hr
    refine ⟨_, (pss_one (ps_ret (pe_op op_add pe_int (pe_op op_mod (pe_op op_fdivW (pv 0) pe_int) (pe_ix ix_list (pe_lst (pa_cons pe_int (pa_cons pe_int pa_nil))) (pe_op op_mod (pv 0) pe_int) (fun _ _ => rfl)))))), ?_⟩
    rw [Nn.st_l_wide]; try rw [Nn.cxK]
    try rw [Nn.cxW]
    walk_at "wx"
    refine ⟨len_ok rfl, fun p1 hp1 => ?_⟩
    generalize hU : upd _ p1 _ = H1
    have ex1 := Ex.new' hp1 hU
    have h1 := new_at hU
    clear hU
    walk_at "wx"
    obtain ⟨r, hr1, hat⟩ : ∃ r : Nat, (r = 60 ∨ r = 6) ∧ atI [V.int 60, V.int 6] ((c : Int) % 2) = some (.int (r : Int)) := by
      have hc : (c : Int) % 2 = 0 ∨ (c : Int) % 2 = 1 := by omega
      rcases hc with e | e <;> rw [e]
      · exact ⟨60, by simp, rfl⟩
      · exact ⟨6, by simp, rfl⟩
    refine x_ixL (SqL.of h1) hat ?_
    walk_at "wx"
    have e : (1 : Int) + (c : Int) / 2 % (r : Int) = ((1 + c / 2 % r : Nat) : Int) := by
      rw [Int.natCast_add, Int.natCast_emod]; rfl
    rw [e]
    have : c / 2 % r < r := Nat.mod_lt _ (by omega)
    exact q _ H1 ex1 (Nat.le_add_right _ _) (by omega)
def sp_l_names (_ : Tx K mg base) : Sp := fun vs H Q _ => ∃ (c wd n : Nat), vs = [.int c, .int wd, .int n] ∧ 1 ≤ wd ∧ wd ≤ 60 ∧ n ≤ 20 ∧ ∀ (p : Addr) (pl : List Nat) (H' : Hp), H p = none → Ex H H' → H' p = some (.lst (pl.map nV)) → pl.length = n → (∀ x ∈ pl, x < 2 ^ wd) → Q (.ref p) H'
theorem wc_l_names {c wd n : Nat} {i j k : Int} (hi : i = c) (hj : j = wd) (hk : k = n) (h0 : 1 ≤ wd) (h1 : wd ≤ 60) (h2 : n ≤ 20) (q : ∀ (p : Addr) (pl : List Nat) (H' : Hp), H p = none → Ex H H' → H' p = some (.lst (pl.map nV)) → pl.length = n → (∀ x ∈ pl, x < 2 ^ wd) → Q (.ref p) H') : sp_l_names T [.int i, .int j, .int k] H Q E := by
  subst hi hj hk; exact ⟨c, wd, n, rfl, h0, h1, h2, q⟩
theorem ok_l_names (T : Tx K mg base) : FnOk P w K mg base CX0 2 T.a_l_names T.d_l_names ["_law_cell", "_law_wide_here", "_law_many"] (sp_l_names T) := by
  refine T.F_l_names.okD sc_l_names (fun vs H Q E h => ?_) (fun cdv A outer s H vs Q E hr h => ?_)
  · obtain ⟨c, wd, n, rfl, _⟩ := h; rfl
  · obtain ⟨c, wd, n, rfl, h0, h1, h2, q⟩ := h
    have hu := hu_of hr
    refine ⟨_, (pss_cons (ps_set (i := 3) sc_l_names.nd rfl (Or.inl rfl) (pe_lst pa_nil))
      (pss_cons (ps_if (pt_cmpR op_eq (pe_op op_mod (pv 0) pe_int) pe_int (nomark _))
      (pss_cons (ps_for PassesOwn.never rfl (pi_range1 rfl T.z_range (pa_cons (pv 2) pa_nil)) (pg_name (i := 4) sc_l_names.nd rfl (Or.inl rfl))
      (pss_one (ps_expr (pe_bm PySem.F.plainAttrs_list PySem.F.slot_list_append PySem.F.type_list_append mt_append (pv 3) (pa_cons (pe_op op_mod (pe_op op_shrN' (pe_op op_fdivW (pv 0) pe_int) (pe_op op_mul (pv 1) (pv 4))) (pe_op op_shl1 pe_int (pv 1))) pa_nil)))))
      (pss_one (ps_ret (pv 3))))
      pss_nil)
      (pss_cons (ps_set (i := 5) sc_l_names.nd rfl (Or.inl rfl) (pe_op op_mod (pe_op op_mul (pe_call (ok_l_mixed T) hr rfl T.m_l_mixed T.F_l_mixed.kp T.b_l_mixed .nil pass0 (pa_cons (pe_op op_mod (pe_op op_fdivW (pv 0) pe_int) (pe_op op_pow pe_int pe_int)) (pa_cons pe_int pa_nil))) pe_int) (pe_op op_shl1 pe_int (pv 1))))
      (pss_cons (ps_for PassesOwn.never rfl (pi_range1 rfl T.z_range (pa_cons (pv 2) pa_nil)) (pg_name (i := 4) sc_l_names.nd rfl (Or.inl rfl))
      (pss_cons (ps_set (i := 6) sc_l_names.nd rfl (Or.inl rfl) (pe_call (ok_l_mixed T) hr rfl T.m_l_mixed T.F_l_mixed.kp T.b_l_mixed .nil pass0 (pa_cons (pe_op op_mod (pe_op op_fdivW (pv 0) pe_int) (pe_op op_pow pe_int pe_int)) (pa_cons (pe_op op_add (pv 4) pe_int) pa_nil))))
      (pss_one (ps_expr (pe_bm PySem.F.plainAttrs_list PySem.F.slot_list_append PySem.F.type_list_append mt_append (pv 3) (pa_cons (pe_op op_xorN (pv 5) (pe_op op_mod (pe_op op_fdivW (pv 6) pe_int) (pe_op op_shl1 pe_int (pe_callB (cb_min2 rfl) (by rfl) T.z_min (by decide +kernel) (pa_cons (pv 1) (pa_cons (pe_op op_add pe_int (pe_op op_mod (pv 6) pe_int)) pa_nil)))))) pa_nil))))))
      (pss_one (ps_ret (pv 3))))))), ?_⟩
    rw [Nn.st_l_names]; try rw [Nn.cxK]
    try rw [Nn.cxW]
    walk_at "wx"
    refine ⟨len_ok rfl, fun p1 hp1 => ?_⟩
    generalize hU : upd _ p1 _ = H1
    have ex1 := Ex.new' hp1 hU
    have h11 := new_at hU
    clear hU
    walk_at "wx"
    have e2 : (c : Int) / 2 = ((c / 2 : Nat) : Int) := by simp
    have h60 : (0 : Int) < 10 ^ Int.toNat 60 := by decide
    refine x_ifD (fun hc => ?_) fun hc => ?_
    · walk_at "wx"
      refine ForW.by walk_rgN (fun i σ H' => ∃ (v : Option V) (pl : List Nat), σ = [some (.int c), some (.int wd), some (.int n), some (.ref p1), v, none, none] ∧ Ex H H' ∧ H' p1 = some (.lst (pl.map nV)) ∧ pl.length = i ∧ ∀ x ∈ pl, x < 2 ^ wd) ⟨_, [], rfl, ex1, h11, rfl, fun x hx => by cases hx⟩ (fun _ _ _ _ _ => trivial) ?_ ?_
      · rintro i _ σ _ H2 hi ⟨v, pl, rfl, ex2, h2', hl, hb⟩ ⟨rfl, rfl⟩
        walk_at "wx"
        have em : ((c / 2 / 2 ^ (wd * i) : Nat) : Int) % ((2 ^ wd : Nat) : Int) = ((c / 2 / 2 ^ (wd * i) % 2 ^ wd : Nat) : Int) := by rw [Int.natCast_emod]
        rw [em]
        refine ⟨_, pl ++ [c / 2 / 2 ^ (wd * i) % 2 ^ wd], rfl, ex2.mut hp1 h2', by rw [upd_same, List.map_append]; rfl, by rw [List.length_append, List.length_singleton, hl], fun x hx => ?_⟩
        rcases List.mem_append.mp hx with z | z
        · exact hb x z
        · rw [List.mem_singleton.mp z]; exact Nat.mod_lt _ (Nat.two_pow_pos wd)
      · rintro σ H2 ⟨v, pl, rfl, ex2, h2', hl, hb⟩
        walk_at "wx"
        exact q p1 pl H2 hp1 ex2 h2' hl hb
    · walk_at "wx"
      obtain ⟨c60, hc60⟩ := Int.eq_ofNat_of_zero_le (Int.emod_nonneg ((c : Int) / 2) (Int.ne_of_gt h60))
      rw [hc60]
      walk_at "wx"
      refine wc_l_mixed (k := 0) rfl rfl (by omega) fun r0 => ?_
      walk_at "wx"
      have eb : (r0 : Int) * 16807 % ((2 ^ wd : Nat) : Int) = ((r0 * 16807 % 2 ^ wd : Nat) : Int) := by rw [Int.natCast_emod, Int.natCast_mul]; rfl
      rw [eb]
      have hb0 : r0 * 16807 % 2 ^ wd < 2 ^ wd := Nat.mod_lt _ (Nat.two_pow_pos wd)
      generalize r0 * 16807 % 2 ^ wd = b0 at hb0
      refine ForW.by walk_rgN (fun i σ H' => ∃ (v v6 : Option V) (pl : List Nat), σ = [some (.int c), some (.int wd), some (.int n), some (.ref p1), v, some (.int b0), v6] ∧ Ex H H' ∧ H' p1 = some (.lst (pl.map nV)) ∧ pl.length = i ∧ ∀ x ∈ pl, x < 2 ^ wd) ⟨_, _, [], rfl, ex1, h11, rfl, fun x hx => by cases hx⟩ (fun _ _ _ _ _ => trivial) ?_ ?_
      · rintro i _ σ _ H2 hi ⟨v, v6, pl, rfl, ex2, h2', hl, hb⟩ ⟨rfl, rfl⟩
        walk_at "wx"
        rw [hc60]
        walk_at "wx"
        refine wc_l_mixed (k := i + 1) rfl rfl (by omega) fun r1 => ?_
        walk_at "wx"
        have em : min (wd : Int) (1 + (r1 : Int) % 6) = ((min wd (1 + r1 % 6) : Nat) : Int) := by omega
        have hmw : min wd (1 + r1 % 6) ≤ wd := Nat.min_le_left _ _
        rw [em]
        generalize min wd (1 + r1 % 6) = mw at hmw
        walk_at "wx"
        rw [Int.natAbs_natCast]
        refine ⟨_, _, pl ++ [b0 ^^^ r1 / 64 % 2 ^ mw], rfl, ex2.mut hp1 h2', by rw [upd_same, List.map_append]; rfl, by rw [List.length_append, List.length_singleton, hl], fun x hx => ?_⟩
        rcases List.mem_append.mp hx with z | z
        · exact hb x z
        · rw [List.mem_singleton.mp z]
          exact Nat.xor_lt_two_pow hb0 (Nat.lt_of_lt_of_le (Nat.mod_lt _ (Nat.two_pow_pos mw)) (Nat.pow_le_pow_right (by decide) hmw))
      · rintro σ H2 ⟨v, v6, pl, rfl, ex2, h2', hl, hb⟩
        walk_at "wx"
        exact q p1 pl H2 hp1 ex2 h2' hl hb
def sp_shown (_ : Tx K mg base) : Sp := fun vs H Q E => ∃ (n : Nat) (wd : Nat), vs = [.int n, .int wd] ∧ (wd ≤ 60) ∧ (∀ H', Ex H H' → Q (.str (txtN n wd)) H')
theorem wc_shown {T : Tx K mg base} {n : Nat} {wd : Nat} {i0 : Int} {i1 : Int} (e0 : i0 = n) (e1 : i1 = wd) (c0 : wd ≤ 60) (h : ∀ H', Ex H H' → Q (.str (txtN n wd)) H') : sp_shown T [.int i0, .int i1] H Q E := by
  subst e0 e1
  exact ⟨n, wd, rfl, c0, h⟩
theorem ok_shown (T : Tx K mg base) : FnOk P w K mg base CX0 1 T.a_shown T.d_shown ["name", "wide"] (sp_shown T) := by
  refine T.F_shown.okD sc_shown (fun vs H Q E h => ?_) (fun cdv A outer s H vs Q E hr h => ?_)
  · obtain ⟨n, wd, rfl, hpre, q⟩ := h; rfl
  · obtain ⟨n, wd, rfl, hpre, q⟩ := h
    have hu := hu_of hr
    refine ⟨_, (pss_cons (ps_set (i := 2) sc_shown.nd rfl (Or.inl rfl) (pe_lst pa_nil))
      (pss_cons (ps_for PassesOwn.never rfl (pi_range3 rfl T.z_range (pa_cons (pe_op op_sub (pv 1) pe_int) (pa_cons (pe_un un_neg pe_int) (pa_cons (pe_un un_neg pe_int) pa_nil)))) (pg_name (i := 3) sc_shown.nd rfl (Or.inl rfl))
      (pss_one (ps_expr (pe_bm PySem.F.plainAttrs_list PySem.F.slot_list_append PySem.F.type_list_append mt_append (pv 2) (pa_cons (pe_callTy cb_strI (by rfl) T.z_str (by decide +kernel) (pa_cons (pe_op op_andN (pe_op op_shrN' (pv 0) (pv 3)) pe_int) pa_nil)) pa_nil)))))
      (pss_one (ps_ret (pe_bm PySem.F.plainAttrs_str PySem.F.slot_str_join PySem.F.type_str_join mt_joinL pe_str (pa_cons (pv 2) pa_nil)))))), ?_⟩
    rw [Nn.st_shown]; try rw [Nn.cxK]
    try rw [Nn.cxW]
    walk_at "wx"
    refine ⟨len_ok rfl, fun p1 hp1 => ?_⟩
    generalize hU : upd _ p1 _ = H1
    have ex1 := Ex.new' hp1 hU
    have h1 := new_at hU
    clear hU
    walk_at "wx"
    refine ForW.by walk_down (fun i σ H' => ∃ (v : Option V), σ = [some (.int n), some (.int wd), some (.ref p1), v] ∧ Ex H H' ∧ H' p1 = some (.lst (((sgnL n wd).take i).map V.str))) ⟨_, rfl, ex1, h1⟩ (fun _ _ _ _ _ => trivial) ?_ ?_
    · rintro i _ σ _ H2 hi ⟨v, rfl, ex2, h2⟩ ⟨rfl, k, rfl, rfl⟩
      have hg := sgnL_get (n := n) hi
      have hli : i < (sgnL n wd).length := by rw [sgnL_len]; exact hi
      walk_at "wx"
      have hm : n / 2 ^ (wd - 1 - i) &&& 1 = n / 2 ^ (wd - 1 - i) % 2 := Nat.and_one_is_mod _
      rw [hm]
      have hr2 : n / 2 ^ (wd - 1 - i) % 2 < 2 := Nat.mod_lt _ (by decide)
      refine x_strI (by rw [Int.natAbs_natCast]; exact Nat.lt_of_le_of_lt (Nat.log2_le_self _) (by omega)) ?_
      rw [str_bit hr2]
      walk_at "wx"
      refine x_append h2 (by rw [sizeLine_eq, List.length_map, List.length_take]; omega) ?_
      refine ⟨_, rfl, ex2.mut hp1 h2, ?_⟩
      rw [upd_same, take_snoc' hg, List.map_append]; rfl
    · rintro σ H2 ⟨v, rfl, ex2, h2⟩
      rw [List.take_of_length_le (by rw [sgnL_len]; exact Nat.le_refl _)] at h2
      walk_at "wx"
      refine ⟨rfl, ?_⟩
      walk_at "wx"
      refine x_joinL (SqL.of h2) (by rw [sgnL_sum, sgnL_len]; show wd + wd * ("" : Str).length ≤ _; have : ("" : Str).length = 0 := by decide +kernel
                                     rw [this]; omega) ?_
      rw [join_sgn]
      exact q H2 ex2
def sp_l_shown (_ : Tx K mg base) : Sp := fun vs H Q E => ∃ (n : Nat) (wd : Nat), vs = [.int n, .int wd] ∧ (wd ≤ 60) ∧ (Q (.str (txtN n wd)) H)
theorem wc_l_shown {T : Tx K mg base} {n : Nat} {wd : Nat} {i0 : Int} {i1 : Int} (e0 : i0 = n) (e1 : i1 = wd) (c0 : wd ≤ 60) (h : Q (.str (txtN n wd)) H) : sp_l_shown T [.int i0, .int i1] H Q E := by
  subst e0 e1
  exact ⟨n, wd, rfl, c0, h⟩
theorem ok_l_shown (T : Tx K mg base) : FnOk P w K mg base CX0 1 T.a_l_shown T.d_l_shown ["_law_name", "_law_wide_here"] (sp_l_shown T) := by
  refine T.F_l_shown.okD sc_l_shown (fun vs H Q E h => ?_) (fun cdv A outer s H vs Q E hr h => ?_)
  · obtain ⟨n, wd, rfl, hpre, q⟩ := h; rfl
  · obtain ⟨n, wd, rfl, hpre, q⟩ := h
    have hu := hu_of hr
    refine ⟨_, (pss_cons (ps_set (i := 2) sc_l_shown.nd rfl (Or.inl rfl) pe_str)
      (pss_cons (ps_for PassesOwn.never rfl (pi_range1 rfl T.z_range (pa_cons (pv 1) pa_nil)) (pg_name (i := 3) sc_l_shown.nd rfl (Or.inl rfl))
      (pss_cons (ps_set (i := 2) sc_l_shown.nd rfl (Or.inl rfl) (pe_op op_addS (pe_ix ix_str pe_str (pe_op op_mod (pv 0) pe_int) (fun _ _ => rfl)) (pv 2)))
      (pss_one (ps_set (i := 0) sc_l_shown.nd rfl (Or.inl rfl) (pe_op op_fdivW (pv 0) pe_int)))))
      (pss_one (ps_ret (pv 2))))), ?_⟩
    rw [Nn.st_l_shown]; try rw [Nn.cxK]
    try rw [Nn.cxW]
    walk_at "wx"
    refine ForW.by walk_rgN (fun i σ H' => ∃ (v : Option V), σ = [some (.int (n / 2 ^ i : Nat)), some (.int wd), some (.str (txtN n i)), v] ∧ H' = H) ⟨_, by rw [Nat.pow_zero, Nat.div_one]; rfl, rfl⟩ (fun _ _ _ _ _ => trivial) ?_ ?_
    · rintro i _ σ _ H2 hi ⟨v, rfl, rfl⟩ ⟨rfl, rfl⟩
      walk_at "wx"
      have em : ((n / 2 ^ i : Nat) : Int) % 2 = ((n / 2 ^ i % 2 : Nat) : Int) := by rw [Int.natCast_emod]; rfl
      rw [em]
      have hc : n / 2 ^ i % 2 = 0 ∨ n / 2 ^ i % 2 = 1 := by omega
      have e0 : ("0" : Str) = ⟨#[48]⟩ := by decide +kernel
      have e1 : ("1" : Str) = ⟨#[49]⟩ := by decide +kernel
      have hz2 : ("01" : Str).length ≤ sizeLine := by rw [sizeLine_eq]; decide +kernel
      obtain ⟨c, hat, hs⟩ : ∃ c, atI ("01" : Str).cps.toList ((n / 2 ^ i % 2 : Nat) : Int) = some c ∧ (⟨#[c]⟩ : Str) = sgn (n / 2 ^ i) := by
        unfold sgn
        rcases hc with e | e <;> rw [e]
        · exact ⟨48, by decide +kernel, by rw [if_pos rfl, e0]⟩
        · exact ⟨49, by decide +kernel, by rw [if_neg (by decide), e1]⟩
      refine x_ixS hz2 hat ?_
      rw [hs]
      walk_at "wx"
      refine x_addS (by rw [sgn_len, txtN_len, sizeLine_eq]; omega) ?_
      walk_at "wx"
      have e2 : ((n / 2 ^ i : Nat) : Int) / 2 = ((n / 2 ^ (i + 1) : Nat) : Int) := by
        rw [Nat.pow_succ, ← Nat.div_div_eq_div_mul]; rfl
      rw [e2]
      exact ⟨_, rfl, rfl⟩
    · rintro σ H2 ⟨v, rfl, rfl⟩
      walk_at "wx"
      exact q
def sp_l_value (_ : Tx K mg base) : Sp := fun vs H Q _ => ∃ (v : V) (wd : Nat), vs = [v, .int wd] ∧ Thing H v ∧ (∀ z, v = .str z → z.length ≤ 1000) ∧ ∀ H', Ex H H' → Q (match valV v wd with | none => .non | some n => nV n) H'
theorem wc_l_value {v : V} {wd : Nat} {j : Int} (hj : j = wd) (t : Thing H v) (hz : ∀ z, v = .str z → z.length ≤ 1000) (q : ∀ H', Ex H H' → Q (match valV v wd with | none => .non | some n => nV n) H') : sp_l_value T [v, .int j] H Q E := by
  subst hj; exact ⟨v, wd, rfl, t, hz, q⟩
theorem ok_l_value (T : Tx K mg base) : FnOk P w K mg base CX0 1 T.a_l_value T.d_l_value ["_law_text", "_law_wide_here"] (sp_l_value T) := by
  refine T.F_l_value.okD sc_l_value (fun vs H Q E h => ?_) (fun cdv A outer s H vs Q E hr h => ?_)
  · obtain ⟨v, wd, rfl, _⟩ := h; rfl
  · obtain ⟨v, wd, rfl, t, hz, q⟩ := h
    have hu := hu_of hr
    refine ⟨_, (pss_cons (ps_if (PW.pt (pw_or (pt_not (pt_val (pe_callB call_isi (by rfl) T.z_isinstance (by decide +kernel) (pa_cons (pv 0) (pa_cons (pe_bltn (v := .ty "str") rfl T.z_str (by decide +kernel) rfl) pa_nil))))) (pw_or (pt_cmpR op_ne (pe_callB cb_lenStr (by rfl) T.z_len PySem.boot_len (pa_cons (pv 0) pa_nil)) (pv 1) (nomark _)) (pw_or1 (pt_cmpR op_gt (pe_callB cb_len (by rfl) T.z_len PySem.boot_len (pa_cons (pe_lc (own := [("_law_sign", 2)]) (g := (gName 2)) (by rfl) sc_l_value.nd (pi_str (pv 0)) (blkOk_by (N := N_l_value) (sc := defScope s_l_value) (own := [("_law_sign", 2)]) (by decide +kernel)) (fun _ _ _ _ _ => (pg_name (i := 2) sc_l_value.nd rfl (Or.inl rfl))) (fun _ _ _ _ _ => pts_one ((pt_cmpR op_notIn_strN (pv 2) pe_str rfl))) (fun _ _ _ _ _ => (pv 2))) pa_nil)) pe_int (nomark _))))))
      (pss_one (ps_ret pe_non))
      pss_nil)
      (pss_cons (ps_set (i := 3) sc_l_value.nd rfl (Or.inl rfl) pe_int)
      (pss_cons (ps_for PassesOwn.never rfl (pi_str (pv 0)) (pg_name (i := 2) sc_l_value.nd rfl (Or.inl rfl))
      (pss_one (ps_set (i := 3) sc_l_value.nd rfl (Or.inl rfl) (pe_op op_add (pe_op op_mul pe_int (pv 3)) (pe_callTy cb_int (by rfl) T.z_int (by decide +kernel) (pa_cons (pe_cmpR op_eq (pv 2) pe_str (nomark _)) pa_nil))))))
      (pss_one (ps_ret (pv 3)))))), ?_⟩
    rw [Nn.st_l_value]; try rw [Nn.cxK]
    try rw [Nn.cxW]
    cases t with
    | int i => walk_at "wx"; exact q H Ex.refl
    | bl b => walk_at "wx"; exact q H Ex.refl
    | non => walk_at "wx"; exact q H Ex.refl
    | lst h => walk_at "wx"; exact q H Ex.refl
    | tup h => walk_at "wx"; exact q H Ex.refl
    | dict h => walk_at "wx"; exact q H Ex.refl
    | str z =>
      have hz := hz z rfl
      have hzl : z.length ≤ sizeLine := by rw [sizeLine_eq]; omega
      have hzt : z.cps.toList.length = z.length := rfl
      have e1 : ("1" : Str) = ⟨#[49]⟩ := by decide +kernel
      walk_at "wx"
      by_cases hl : z.length = wd
      · have hN : ((z.length : Nat) : Int) = (wd : Int) := by rw [hl]
        rw [decide_eq_true hN]
        walk_at "wx"
        refine LcW.inv (vs := [2]) walk_str (by rw [sizeLine_eq]; omega) (fun D i acc H' => Ex H H' ∧ acc = ((z.cps.toList.take i).filter fun c => !decide (c = 48 ∨ c = 49)).map fun c => V.str ⟨#[c]⟩) (fun D hD => ⟨Ex.new hD, rfl⟩) (fun _ _ _ _ _ _ => trivial) ?_ ?_
        · rintro D i acc x _ H2 hi hD ⟨ex2, rfl⟩ h2 ⟨rfl, c, hc, rfl⟩ Qe R hQ hR
          rw [take_snoc' hc] at hQ hR
          walk_at "wx"
          refine ⟨rfl, ?_⟩
          walk_at "wx"
          have e01 : ("01" : Str).cps.toList = [48, 49] := by decide +kernel
          rw [e01]
          have em : decide (c ∈ [48, 49]) = decide (c = 48 ∨ c = 49) := decide_eq_decide.mpr (by simp)
          rw [em]
          by_cases hb : c = 48 ∨ c = 49
          · rw [decide_eq_true hb]
            walk_at "wx"
            exact hR _ h2 ⟨ex2, by
              have ef : [c].filter (fun c => !decide (c = 48 ∨ c = 49)) = [] := by rw [List.filter_cons_of_neg (by rw [decide_eq_true hb]; decide)]; rfl
              rw [List.filter_append, ef, List.append_nil]⟩
          · rw [decide_eq_false hb]
            walk_at "wx"
            refine hQ _ _ h2 ⟨ex2.mut hD h2, ?_⟩
            have ef : [c].filter (fun c => !decide (c = 48 ∨ c = 49)) = [c] := by rw [List.filter_cons_of_pos (by rw [decide_eq_false hb]; rfl)]; rfl
            rw [List.filter_append, ef, List.map_append]; rfl
        · rintro D acc H2 hD ⟨ex2, rfl⟩ h2
          rw [List.take_of_length_le (Nat.le_of_eq hzt)] at h2
          have hbl : (z.cps.toList.filter fun c => !decide (c = 48 ∨ c = 49)).length ≤ 1000 := Nat.le_trans (List.length_filter_le _ _) (by omega)
          have hfe : figs z = decide (z.cps.toList.filter (fun c => !decide (c = 48 ∨ c = 49)) = []) := by
            unfold figs
            rw [Bool.eq_iff_iff, decide_eq_true_eq, List.all_eq_true, List.filter_eq_nil_iff]
            exact ⟨fun h c hc hn => (by rw [h c hc] at hn; cases hn), fun h c hc => by
              have q := h c hc
              revert q
              cases decide (c = 48 ∨ c = 49)
              · exact fun q => absurd rfl q
              · exact fun _ => rfl⟩
          generalize z.cps.toList.filter (fun c => !decide (c = 48 ∨ c = 49)) = bad at h2 hbl hfe
          walk_at "wx"
          rw [List.length_map]
          refine x_ifD (fun hpos => ?_) fun hpos => ?_
          · walk_at "wx"
            have hne : bad ≠ [] := fun e => by rw [e] at hpos; exact absurd hpos (by decide)
            have e : valV (.str z) wd = none := if_neg fun h => by
              rw [hfe, decide_eq_false hne] at h; cases h.2
            have q := q H2 ex2
            rw [e] at q
            exact q
          · have hb0 : bad = [] := List.length_eq_zero_iff.mp (by omega)
            walk_at "wx"
            refine ForW.by walk_str (fun i σ H' => ∃ (v : Option V), σ = [some (.str z), some (.int wd), v, some (nV (valN (z.cps.toList.take i)))] ∧ H' = H2) ⟨_, rfl, rfl⟩ (fun _ _ _ _ _ => trivial) ?_ ?_
            · rintro i x σ _ H3 hi ⟨v, rfl, rfl⟩ ⟨rfl, c, hc, rfl⟩
              rw [take_snoc' hc]
              walk_at "wx"
              rw [val_snoc]
              exact ⟨_, rfl, rfl⟩
            · rintro σ H3 ⟨v, rfl, rfl⟩
              walk_at "wx"
              have e : valV (.str z) wd = some (valN z.cps.toList) := if_pos ⟨hl, by rw [hfe]; exact decide_eq_true hb0⟩
              have q := q H3 ex2
              rw [e] at q
              rw [List.take_of_length_le (Nat.le_of_eq hzt)]
              exact q
      · have hN : ¬ ((z.length : Nat) : Int) = (wd : Int) := fun h => hl (Int.ofNat.inj h)
        rw [decide_eq_false hN]
        walk_at "wx"
        have e : valV (.str z) wd = none := if_neg fun h => hl h.1
        have q := q H Ex.refl
        rw [e] at q
        exact q
def sx_read (T : Tx K mg base) : Sp := fun vs H Q E => ∃ (v : V) (wd : Nat), vs = [v, .int wd] ∧ Thing H v ∧ (∀ z, v = .str z → z.length ≤ 1000) ∧ (∀ n H', Ex H H' → valV v wd = some n → Q (nV n) H') ∧ (valV v wd = none → ∀ H', Ex H H' → E (.ref T.C_NoName) none H')
theorem ex_read (T : Tx K mg base) : FnOk P w K mg base (L2.CX P w) 1 T.a_read T.d_read ["text", "wide"] (sx_read T) := by
  refine T.F_read.ok (CX := L2.CX P w) sc_read (fun vs H Q E h => ?_) (fun cdv A outer s H vs Q E hr h => ?_)
  · obtain ⟨v, wd, rfl, _⟩ := h; rfl
  · obtain ⟨v, wd, rfl, t, hz, q, qe⟩ := h
    have hu := hu_of hr
    refine ⟨_, (pss_cons (ps_if (PW.pt (pw_or (pt_not (pt_val (pe_callB call_isi (by rfl) T.z_isinstance (by decide +kernel) (pa_cons (pv 0) (pa_cons (pe_bltn (v := .ty "str") rfl T.z_str (by decide +kernel) rfl) pa_nil))))) (pw_or1 (pt_cmpR op_ne (pe_callB cb_lenStr (by rfl) T.z_len PySem.boot_len (pa_cons (pv 0) pa_nil)) (pv 1) (nomark _)))))
      (pss_one (ps_raise rfl (takes_of rfl rfl rfl rfl) (pmk_own PySem.F.excBase_ValueError T.xi_NoName T.m_NoName T.xk_NoName (raises_own T.xs_NoName T.xt_NoName) rfl)))
      pss_nil)
      (pss_cons (ps_set (i := 2) sc_read.nd rfl (Or.inl rfl) pe_int)
      (pss_cons (ps_for (passes_of rfl) rfl (pi_str (pv 0)) (pg_name (i := 3) sc_read.nd rfl (Or.inl rfl))
      (pss_cons (ps_if (pt_cmpR op_notIn_seq (pv 3) (pe_tup (pa_cons pe_str (pa_cons pe_str pa_nil))) rfl)
      (pss_one (ps_raise rfl (takes_of rfl rfl rfl rfl) (pmk_own PySem.F.excBase_ValueError T.xi_NoName T.m_NoName T.xk_NoName (raises_own T.xs_NoName T.xt_NoName) rfl)))
      pss_nil)
      (pss_one (ps_set (i := 2) sc_read.nd rfl (Or.inl rfl) (pe_op op_add (pe_op op_mul pe_int (pv 2)) (pe_callTy cb_int (by rfl) T.z_int (by decide +kernel) (pa_cons (pe_cmpR op_eq (pv 3) pe_str (nomark _)) pa_nil)))))))
      (pss_one (ps_ret (pv 2)))))), ?_⟩
    rw [Nn.st_read]; try rw [Nn.cxK']
    cases t with
    | int i => walk_at "wx"; exact qe rfl H Ex.refl
    | bl b => walk_at "wx"; exact qe rfl H Ex.refl
    | non => walk_at "wx"; exact qe rfl H Ex.refl
    | lst h => walk_at "wx"; exact qe rfl H Ex.refl
    | tup h => walk_at "wx"; exact qe rfl H Ex.refl
    | dict h => walk_at "wx"; exact qe rfl H Ex.refl
    | str z =>
      have hz := hz z rfl
      have hzl : z.length ≤ sizeLine := by rw [sizeLine_eq]; omega
      have hzt : z.cps.toList.length = z.length := rfl
      walk_at "wx"
      by_cases hl : z.length = wd
      · have hN : ((z.length : Nat) : Int) = (wd : Int) := by rw [hl]
        rw [decide_eq_true hN]
        walk_at "wx"
        refine ForW.by walk_str (fun i σ H' => ∃ (v : Option V), σ = [some (.str z), some (.int wd), some (nV (valN (z.cps.toList.take i))), v] ∧ Ex H H' ∧ ∀ c ∈ z.cps.toList.take i, c = 48 ∨ c = 49) ⟨_, rfl, Ex.refl, fun c hc => by simp at hc⟩ (fun _ _ _ _ _ => trivial) ?_ ?_
        · rintro i x σ _ H2 hi ⟨v, rfl, ex2, hf⟩ ⟨rfl, c, hc, rfl⟩
          rw [take_snoc' hc]
          walk_at "wx"
          refine ⟨len_ok rfl, fun p3 hp3 => ?_⟩
          generalize hU : upd _ p3 _ = H3
          have ex3 := Ex.new' hp3 hU
          have h3 := new_at hU
          clear hU
          refine x_ninT2 (SqT.of h3) ?_
          walk_at "wx"
          have ex03 := ex2.trans ex3
          refine x_ifN (fun hb => ?_) fun hb => ?_
          · exact qe (if_neg fun h => hb (of_decide_eq_true (List.all_eq_true.mp h.2 c (List.mem_of_getElem? hc)))) H3 ex03
          · walk_at "wx"
            rw [val_snoc]
            exact ⟨_, rfl, ex03, fun d hd => (List.mem_append.mp hd).elim (hf d) fun z => by rw [List.mem_singleton.mp z]; exact hb⟩
        · rintro σ H2 ⟨v, rfl, ex2, hf⟩
          rw [List.take_of_length_le (Nat.le_of_eq hzt)] at hf ⊢
          walk_at "wx"
          exact q _ H2 ex2 (if_pos ⟨hl, List.all_eq_true.mpr fun c hc => decide_eq_true (hf c hc)⟩)
      · have hN : ¬ ((z.length : Nat) : Int) = (wd : Int) := fun h => hl (Int.ofNat.inj h)
        rw [decide_eq_false hN]
        walk_at "wx"
        exact qe (if_neg fun h => hl h.1) H Ex.refl
def sp_l_spoiled (_ : Tx K mg base) : Sp := fun vs H Q _ => ∃ (z : Str) (c : Nat), vs = [.str z, .int c] ∧ 0 < z.length ∧ z.length ≤ 100 ∧ ∀ z' H', Ex H H' → z'.length ≤ 1000 → Q (.str z') H'
theorem wc_l_spoiled {z : Str} {c : Nat} {i : Int} (hi : i = c) (h0 : 0 < z.length) (h1 : z.length ≤ 100) (q : ∀ z' H', Ex H H' → z'.length ≤ 1000 → Q (.str z') H') : sp_l_spoiled T [.str z, .int i] H Q E := by
  subst hi; exact ⟨z, c, rfl, h0, h1, q⟩
theorem ok_l_spoiled (T : Tx K mg base) : FnOk P w K mg base CX0 1 T.a_l_spoiled T.d_l_spoiled ["_law_text", "_law_cell"] (sp_l_spoiled T) := by
  refine T.F_l_spoiled.okD sc_l_spoiled (fun vs H Q E h => ?_) (fun cdv A outer s H vs Q E hr h => ?_)
  · obtain ⟨z, c, rfl, _⟩ := h; rfl
  · obtain ⟨z, c, rfl, h0, h1, q⟩ := h
    have hu := hu_of hr
    have hzl : z.length ≤ sizeLine := by rw [sizeLine_eq]; omega
    have e4 : (c : Int) / 400 % 12 = ((c / 400 % 12 : Nat) : Int) := by rw [Int.natCast_emod]; rfl
    have l12 : ("0123 aO1-_.+" : Str).cps.toList.length = 12 := by decide +kernel
    have hz12 : ("0123 aO1-_.+" : Str).length ≤ sizeLine := by rw [sizeLine_eq]; decide +kernel
    have h12 : c / 400 % 12 < ("0123 aO1-_.+" : Str).cps.toList.length := by rw [l12]; exact Nat.mod_lt _ (by decide)
    have hzt : z.cps.toList.length = z.length := rfl
    have e5 : (c : Int) / 5 % ((z.length : Nat) : Int) = ((c / 5 % z.length : Nat) : Int) := by rw [Int.natCast_emod]; rfl
    have hat : c / 5 % z.length < z.cps.toList.length := by rw [hzt]; exact Nat.mod_lt _ h0
    have l1 : ∀ d : Nat, (⟨#[d]⟩ : Str).length = 1 := fun _ => rfl
    have sz : ∀ a b : Nat, a + b ≤ 1000 → a + b ≤ sizeLine := fun a b h => by rw [sizeLine_eq]; omega
    refine ⟨_, (pss_cons (ps_set (i := 2) sc_l_spoiled.nd rfl (Or.inl rfl) (pe_op op_mod (pe_op op_fdivW (pv 1) pe_int) (pe_callB cb_lenStr (by rfl) T.z_len PySem.boot_len (pa_cons (pv 0) pa_nil))))
      (pss_cons (ps_set (i := 3) sc_l_spoiled.nd rfl (Or.inl rfl) (pe_ix ix_str pe_str (pe_op op_mod (pe_op op_fdivW (pv 1) pe_int) pe_int) (fun _ _ => rfl)))
      (pss_cons (ps_set (i := 4) sc_l_spoiled.nd rfl (Or.inl rfl) (pe_lst (pa_cons (pe_op op_addS (pe_op op_addS (pe_slice sl_str (pv 0) po_none (po_some (pv 2))) (pv 3)) (pe_slice sl_str (pv 0) (po_some (pe_op op_add (pv 2) pe_int)) po_none)) (pa_cons (pe_op op_addS (pe_op op_addS (pe_slice sl_str (pv 0) po_none (po_some (pv 2))) (pv 3)) (pe_slice sl_str (pv 0) (po_some (pv 2)) po_none)) (pa_cons (pe_op op_addS (pe_slice sl_str (pv 0) po_none (po_some (pv 2))) (pe_slice sl_str (pv 0) (po_some (pe_op op_add (pv 2) pe_int)) po_none)) pa_nil)))))
      (pss_one (ps_ret (pe_ix ix_list (pe_op op_cat (pv 4) (pe_lst (pa_cons (pe_op op_addS (pe_op op_addS (pe_slice sl_str (pv 0) po_none (po_some (pv 2))) (pe_ix ix_str (pv 0) (pv 2) (fun _ _ => rfl))) (pe_slice sl_str (pv 0) (po_some (pv 2)) po_none)) (pa_cons (pe_revS (pv 0)) pa_nil)))) (pe_op op_mod (pv 1) pe_int) (fun _ _ => rfl))))))), ?_⟩
    rw [Nn.st_l_spoiled]; try rw [Nn.cxK]
    try rw [Nn.cxW]
    walk_at "wx"
    rw [e4]
    refine x_ixS hz12 (atI_nat (List.getElem?_eq_getElem h12)) ?_
    generalize ("0123 aO1-_.+" : Str).cps.toList[c / 400 % 12] = d
    have ld := l1 d
    generalize (⟨#[d]⟩ : Str) = sg at ld
    walk_at "wx"
    refine x_slS hzl fun z1 k1 => ?_
    walk_at "wx"
    refine x_addS (sz _ _ (by omega)) ?_
    walk_at "wx"
    refine x_slS hzl fun z2 k2 => ?_
    walk_at "wx"
    refine x_addS (sz _ _ (by rw [str_len_append]; omega)) ?_
    walk_at "wx"
    refine x_slS hzl fun z3 k3 => ?_
    walk_at "wx"
    refine x_addS (sz _ _ (by omega)) ?_
    walk_at "wx"
    refine x_slS hzl fun z4 k4 => ?_
    walk_at "wx"
    refine x_addS (sz _ _ (by rw [str_len_append]; omega)) ?_
    walk_at "wx"
    refine x_slS hzl fun z5 k5 => ?_
    walk_at "wx"
    refine x_slS hzl fun z6 k6 => ?_
    walk_at "wx"
    refine x_addS (sz _ _ (by omega)) ?_
    walk_at "wx"
    refine ⟨len_ok rfl, fun p1 hp1 => ?_⟩
    generalize hU : upd _ p1 _ = H1
    have ex1 := Ex.new' hp1 hU
    have n1 := new_at hU
    clear hU
    walk_at "wx"
    refine x_slS hzl fun z7 k7 => ?_
    walk_at "wx"
    rw [e5]
    refine x_ixS hzl (atI_nat (List.getElem?_eq_getElem hat)) ?_
    generalize z.cps.toList[c / 5 % z.length] = d2
    have ld2 := l1 d2
    generalize (⟨#[d2]⟩ : Str) = sg2 at ld2
    walk_at "wx"
    refine x_addS (sz _ _ (by omega)) ?_
    walk_at "wx"
    refine x_slS hzl fun z8 k8 => ?_
    walk_at "wx"
    refine x_addS (sz _ _ (by rw [str_len_append]; omega)) ?_
    walk_at "wx"
    refine x_revS hzl fun z9 k9 => ?_
    walk_at "wx"
    refine ⟨len_ok rfl, fun p2 hp2 => ?_⟩
    generalize hU : upd _ p2 _ = H2
    have ex2 := Ex.new' hp2 hU
    have n2 := new_at hU
    clear hU
    have n12 := ex2.at n1
    walk_at "wx"
    refine x_cat n12 n2 (by rw [sizeLine_eq]; show 3 + 2 ≤ 16777216; decide) fun p3 hp3 => ?_
    have hc5 : (c : Int) % 5 = 0 ∨ (c : Int) % 5 = 1 ∨ (c : Int) % 5 = 2 ∨ (c : Int) % 5 = 3 ∨ (c : Int) % 5 = 4 := by omega
    generalize hU : upd H2 p3 _ = H3
    have ex3 := Ex.new' hp3 hU
    have n3 := new_at hU
    clear hU
    have ex03 := (ex1.trans ex2).trans ex3
    walk_at "wx"
    rcases hc5 with e | e | e | e | e <;> rw [e]
    · exact x_ixL (SqL.of n3) rfl (q _ _ ex03 (by rw [str_len_append, str_len_append]; omega))
    · exact x_ixL (SqL.of n3) rfl (q _ _ ex03 (by rw [str_len_append, str_len_append]; omega))
    · exact x_ixL (SqL.of n3) rfl (q _ _ ex03 (by rw [str_len_append]; omega))
    · exact x_ixL (SqL.of n3) rfl (q _ _ ex03 (by rw [str_len_append, str_len_append]; omega))
    · exact x_ixL (SqL.of n3) rfl (q _ _ ex03 (by omega))
def sp_l_things (_ : Tx K mg base) : Sp := fun vs H Q _ => ∃ (wd c : Nat), vs = [.int wd, .int c] ∧ wd ≤ 60 ∧ ∀ (p : Addr) (xs : List V) (H' : Hp), Ex H H' → H' p = some (.lst xs) → (∀ x ∈ xs, Thing H' x ∧ isnV x wd = false ∧ ∀ z, x = .str z → z.length ≤ 1000) → Q (.ref p) H'
theorem wc_l_things {wd c : Nat} {i j : Int} (hi : i = wd) (hj : j = c) (h1 : wd ≤ 60) (q : ∀ (p : Addr) (xs : List V) (H' : Hp), Ex H H' → H' p = some (.lst xs) → (∀ x ∈ xs, Thing H' x ∧ isnV x wd = false ∧ ∀ z, x = .str z → z.length ≤ 1000) → Q (.ref p) H') : sp_l_things T [.int i, .int j] H Q E := by
  subst hi hj; exact ⟨wd, c, rfl, h1, q⟩
theorem ok_l_things (T : Tx K mg base) : FnOk P w K mg base CX0 2 T.a_l_things T.d_l_things ["_law_wide_here", "_law_cell"] (sp_l_things T) := by
  refine T.F_l_things.okD sc_l_things (fun vs H Q E h => ?_) (fun cdv A outer s H vs Q E hr h => ?_)
  · obtain ⟨wd, c, rfl, _⟩ := h; rfl
  · obtain ⟨wd, c, rfl, h1, q⟩ := h
    have hu := hu_of hr
    have h59 : (0 : Int) < 10 ^ Int.toNat 59 := by decide
    have hc0 := Int.emod_nonneg (c : Int) (Int.ne_of_gt h59)
    have hw0 := two_pos (k := wd)
    refine ⟨_, (pss_cons (ps_set (i := 2) sc_l_things.nd rfl (Or.inl rfl) (pe_lst (pa_cons (pe_op op_sub (pe_un un_neg pe_int) (pe_op op_mod (pv 1) (pe_op op_pow pe_int pe_int))) (pa_cons (pe_op op_add (pe_op op_shl1 pe_int (pv 0)) (pe_op op_mod (pv 1) (pe_op op_pow pe_int pe_int))) (pa_cons (pe_op op_shl1 pe_int (pv 0)) (pa_cons pe_bl (pa_cons pe_bl (pa_cons pe_non (pa_cons pe_str (pa_cons (pe_op op_mul_str pe_str (pv 0)) pa_nil))))))))))
      (pss_one (ps_ret (pe_op op_cat (pv 2) (pe_lst (pa_cons (pe_tup (pa_cons pe_int pa_nil)) (pa_cons (pe_lst (pa_cons pe_int pa_nil)) (pa_cons pe_dnewK (pa_cons pe_str (pa_cons (pe_call (ok_l_shown T) hr rfl T.m_l_shown T.F_l_shown.kp T.b_l_shown .nil pass0 (pa_cons (pe_op op_mod (pv 1) (pe_op op_shl1 pe_int (pv 0))) (pa_cons (pv 0) pa_nil))) pa_nil)))))))))), ?_⟩
    rw [Nn.st_l_things]; try rw [Nn.cxK]
    try rw [Nn.cxW]
    walk_at "wx"
    generalize (c : Int) % 10 ^ Int.toNat 59 = c59 at hc0
    refine x_mulS rfl (by decide +kernel) (by omega) fun z1 k1 => ?_
    walk_at "wx"
    refine ⟨len_ok rfl, fun p1 hp1 => ?_⟩
    generalize hU : upd _ p1 _ = H1
    have ex1 := Ex.new' hp1 hU
    have n1 := new_at hU
    clear hU
    walk_at "wx"
    refine ⟨len_ok rfl, fun p2 hp2 => ?_⟩
    generalize hU : upd _ p2 _ = H2
    have ex2 := Ex.new' hp2 hU
    have n2 := new_at hU
    clear hU
    refine ⟨len_ok rfl, fun p3 hp3 => ?_⟩
    generalize hU : upd _ p3 _ = H3
    have ex3 := Ex.new' hp3 hU
    have n3 := new_at hU
    clear hU
    refine x_dnew fun p4 hp4 => ?_
    generalize hU : upd H3 p4 (.dK []) = H4
    have ex4 := Ex.new' hp4 hU
    have n4 := new_at hU
    clear hU
    walk_at "wx"
    have em : (c : Int) % ((2 ^ wd : Nat) : Int) = ((c % 2 ^ wd : Nat) : Int) := by rw [Int.natCast_emod]
    rw [em]
    walk_at "wx"
    refine wc_l_shown rfl rfl h1 ?_
    walk_at "wx"
    refine ⟨len_ok rfl, fun p5 hp5 => ?_⟩
    generalize hU : upd _ p5 _ = H5
    have ex5 := Ex.new' hp5 hU
    have n5 := new_at hU
    clear hU
    have n15 := ex5.at (ex4.at (ex3.at (ex2.at n1)))
    refine x_cat n15 n5 (by rw [sizeLine_eq]; show 8 + 5 ≤ 16777216; decide) fun p6 hp6 => ?_
    generalize hU : upd H5 p6 _ = H6
    have ex6 := Ex.new' hp6 hU
    have n6 := new_at hU
    clear hU
    have ex56 := ex5.trans ex6
    refine q p6 _ H6 ((((ex1.trans ex2).trans ex3).trans ex4).trans ex56) n6 fun x hx => ?_
    have t2 := ex56.at (ex4.at (ex3.at n2))
    have t3 := ex56.at (ex4.at n3)
    have t4 := ex56.at n4
    simp only [List.cons_append, List.nil_append, List.mem_cons, List.not_mem_nil, or_false] at hx
    have iv : ∀ i : Int, (i < 0 ∨ ((2 ^ wd : Nat) : Int) ≤ i) → isnV (.int i) wd = false := fun i h => decide_eq_false fun z => by omega
    rcases hx with rfl | rfl | rfl | rfl | rfl | rfl | rfl | rfl | rfl | rfl | rfl | rfl | rfl
    · exact ⟨.int _, iv _ (by omega), fun z e => by cases e⟩
    · exact ⟨.int _, iv _ (by omega), fun z e => by cases e⟩
    · exact ⟨.int _, iv _ (by omega), fun z e => by cases e⟩
    · exact ⟨.bl _, rfl, fun z e => by cases e⟩
    · exact ⟨.bl _, rfl, fun z e => by cases e⟩
    · exact ⟨.non, rfl, fun z e => by cases e⟩
    · exact ⟨.str _, rfl, fun z e => by cases e; decide +kernel⟩
    · exact ⟨.str _, rfl, fun z e => by cases e; exact k1⟩
    · exact ⟨.tup t2, rfl, fun z e => by cases e⟩
    · exact ⟨.lst t3, rfl, fun z e => by cases e⟩
    · exact ⟨.dict t4, rfl, fun z e => by cases e⟩
    · exact ⟨.str _, rfl, fun z e => by cases e; decide +kernel⟩
    · exact ⟨.str _, rfl, fun z e => by cases e; rw [txtN_len]; omega⟩
def sp_l_read (_ : Tx K mg base) : Sp := fun vs H Q _ => ∃ (v : V) (wd : Nat), vs = [v, .int wd] ∧ Thing H v ∧ (∀ z, v = .str z → z.length ≤ 1000) ∧ ∀ H', Ex H H' → Q (.bl true) H'
theorem wc_l_read {v : V} {wd : Nat} {j : Int} (hj : j = wd) (t : Thing H v) (hz : ∀ z, v = .str z → z.length ≤ 1000) (q : ∀ H', Ex H H' → Q (.bl true) H') : sp_l_read T [v, .int j] H Q E := by
  subst hj; exact ⟨v, wd, rfl, t, hz, q⟩
theorem ok_l_read (T : Tx K mg base) : FnOk P w K mg base CX0 2 T.a_l_read T.d_l_read ["_law_text", "_law_wide_here"] (sp_l_read T) := by
  refine T.F_l_read.okD sc_l_read (fun vs H Q E h => ?_) (fun cdv A outer s H vs Q E hr h => ?_)
  · obtain ⟨v, wd, rfl, _⟩ := h; rfl
  · obtain ⟨v, wd, rfl, t, hz, q⟩ := h
    have hu := hu_of hr
    refine ⟨_, (pss_cons (ps_set (i := 2) sc_l_read.nd rfl (Or.inl rfl) (pe_call (ok_l_value T) hr rfl T.m_l_value T.F_l_value.kp T.b_l_value .nil pass0 (pa_cons (pv 0) (pa_cons (pv 1) pa_nil))))
      (pss_cons (ps_set (i := 3) sc_l_read.nd rfl (Or.inl rfl) pe_non)
      (pss_cons (ps_set (i := 4) sc_l_read.nd rfl (Or.inl rfl) (pe_lst pa_nil))
      (pss_cons (ps_try_as (c := .ref T.C_NearError) (i := 5) rfl rfl sc_l_read.nd rfl rfl ⟨rfl, by decide +kernel, .inl T.m_NearError⟩ takes0 (fun W pn xe tk po => (pss_one (ps_set (i := 3) sc_l_read.nd rfl (Or.inl rfl) (pe_callSd (ex_read T) hr rfl T.m_read T.F_read.kp T.b_read .nil (fun σ => passAt tk σ) (pa_cons (pv 0) (pa_cons (pv 1) pa_nil))))))
      (fun a oe cls d pn hz hf => (pss_cons (ps_set (i := 4) sc_l_read.nd rfl (Or.inl rfl) (pe_lst (pa_cons (pe_callB (call_isX hz hf) (by rfl) T.z_isinstance (by decide +kernel) (pa_cons (pv 5) (pa_cons (pe_glob (v := .ref T.C_NoName) rfl T.m_NoName rfl) pa_nil))) (pa_cons (pe_callB (call_isX hz hf) (by rfl) T.z_isinstance (by decide +kernel) (pa_cons (pv 5) (pa_cons (pe_bltn (v := .ty "ValueError") rfl T.z_ValueError (by decide +kernel) rfl) pa_nil))) (pa_cons (pe_callB (call_isX hz hf) (by rfl) T.z_isinstance (by decide +kernel) (pa_cons (pv 5) (pa_cons (pe_glob (v := .ref T.C_NoHouse) rfl T.m_NoHouse rfl) pa_nil))) (pa_cons (pe_callB (call_isX hz hf) (by rfl) T.z_isinstance (by decide +kernel) (pa_cons (pv 5) (pa_cons (pe_glob (v := .ref T.C_NoLine) rfl T.m_NoLine rfl) pa_nil))) pa_nil))))))
      (pss_one (ps_set (i := 4) sc_l_read.nd rfl (Or.inl rfl) (pe_op op_cat (pv 4) (pe_lst (pa_cons (pe_callB (call_isX hz hf) (by rfl) T.z_isinstance (by decide +kernel) (pa_cons (pv 5) (pa_cons (pe_glob (v := .ref T.C_NoSize) rfl T.m_NoSize rfl) pa_nil))) (pa_cons (pe_callB (call_isX hz hf) (by rfl) T.z_isinstance (by decide +kernel) (pa_cons (pv 5) (pa_cons (pe_glob (v := .ref T.C_NoTown) rfl T.m_NoTown rfl) pa_nil))) (pa_cons (pe_callB (call_isX hz hf) (by rfl) T.z_isinstance (by decide +kernel) (pa_cons (pv 5) (pa_cons (pe_glob (v := .ref T.C_Silent) rfl T.m_Silent rfl) pa_nil))) (pa_cons (pe_callB (call_isX hz hf) (by rfl) T.z_isinstance (by decide +kernel) (pa_cons (pv 5) (pa_cons (pe_glob (v := .ref T.C_Taken) rfl T.m_Taken rfl) pa_nil))) pa_nil)))))))))))
      (pss_cons (ps_if (pt_cmpR op_isNn (pv 2) pe_non (nomark _))
      (pss_one (ps_ret (pe_cmpR (op_eqD hr.units) (pv 4) (pe_lc (own := [("_law_k", 6)]) (g := (gName 6)) (by rfl) sc_l_read.nd (pi_range1 rfl T.z_range (pa_cons pe_int pa_nil)) (blkOk_by (N := N_l_read) (sc := defScope s_l_read) (own := [("_law_k", 6)]) (by decide +kernel)) (fun _ _ _ _ _ => (pg_name (i := 6) sc_l_read.nd rfl (Or.inl rfl))) (fun _ _ _ _ _ => pts_nil) (fun _ _ _ _ _ => (pe_cmpR op_lt (pv 6) pe_int (nomark _)))) (nomark _))))
      pss_nil)
      (pss_one (ps_ret (pe_and (pe_cmpR (op_eqD hr.units) (pv 4) (pe_lst pa_nil) (nomark _)) (pe_and (pe_callB call_isi (by rfl) T.z_isinstance (by decide +kernel) (pa_cons (pv 3) (pa_cons (pe_bltn (v := .ty "int") rfl T.z_int (by decide +kernel) rfl) pa_nil))) (pe_and (pe_not (pe_callB call_isi (by rfl) T.z_isinstance (by decide +kernel) (pa_cons (pv 3) (pa_cons (pe_bltn (v := .ty "bool") rfl T.z_bool (by decide +kernel) rfl) pa_nil)))) (pe_one (pe_cmpR op_eq (pv 3) (pv 2) (nomark _))))))))))))), ?_⟩
    rw [Nn.st_l_read]; try rw [Nn.cxK]
    try rw [Nn.cxW]
    walk_at "wx"
    refine wc_l_value rfl t hz fun H1 ex1 => ?_
    have t1 := t.ex ex1
    cases hv : valV v wd with
    | none =>
      walk_at "wx"
      refine ⟨len_ok rfl, fun p2 hp2 => ?_⟩
      generalize hU : upd _ p2 _ = H2
      have ex2 := Ex.new' hp2 hU
      have n2 := new_at hU
      clear hU
      have t2 := t1.ex ex2
      walk_at "wx"
      refine ⟨v, wd, rfl, t2, hz, fun n H' ex e => (by rw [hv] at e; cases e), fun _ H3 ex3 => x_was T.xm_NoName_NearError fun a ha => ?_⟩
      have n23 := ex3.at n2
      walk_at "wx"
      refine x_isX T.ec_NoName T.xo_NoName_NoName ?_
      walk_at "wx"
      refine x_isXV T.ec_NoName T.xv_NoName ?_
      walk_at "wx"
      refine x_isX T.ec_NoName T.xo_NoName_NoHouse ?_
      walk_at "wx"
      refine x_isX T.ec_NoName T.xo_NoName_NoLine ?_
      walk_at "wx"
      refine ⟨len_ok rfl, fun p4 hp4 => ?_⟩
      generalize hU : upd _ p4 _ = H4
      have ex4 := Ex.new' hp4 hU
      have n4 := new_at hU
      clear hU
      walk_at "wx"
      refine x_isX T.ec_NoName T.xo_NoName_NoSize ?_
      walk_at "wx"
      refine x_isX T.ec_NoName T.xo_NoName_NoTown ?_
      walk_at "wx"
      refine x_isX T.ec_NoName T.xo_NoName_Silent ?_
      walk_at "wx"
      refine x_isX T.ec_NoName T.xo_NoName_Taken ?_
      walk_at "wx"
      refine ⟨len_ok rfl, fun p5 hp5 => ?_⟩
      generalize hU : upd _ p5 _ = H5
      have ex5 := Ex.new' hp5 hU
      have n5 := new_at hU
      clear hU
      refine x_cat (ex5.at n4) n5 (by rw [sizeLine_eq]; show 4 + 4 ≤ 16777216; decide) fun p6 hp6 => ?_
      generalize hU : upd H5 p6 _ = H6
      have ex6 := Ex.new' hp6 hU
      have n6 : H6 p6 = some (.lst ([true, true, false, false, false, false, false, false].map V.bl)) := new_at hU
      clear hU
      have ex36 := (ex4.trans ex5).trans ex6
      walk_at "wx"
      refine x_rgN (m := 8) (by decide) ?_
      refine LcW.any (vs := [6]) walk_rgN (by rw [sizeLine_eq]; decide) (fun k => V.bl (decide (k < 2))) (fun _ _ => trivial) (fun j z H11 H12 hj ex11 hY Qe hQ => ?_) fun p7 H7 hp7 ex7 n7 => ?_
      · obtain ⟨rfl, rfl⟩ := hY
        walk_at "wx"
        refine ⟨rfl, ?_⟩
        walk_at "wx"
        have e : decide ((j : Int) < 2) = decide (j < 2) := decide_eq_decide.mpr (by omega)
        rw [e]
        exact hQ _ Ex.refl
      · rw [range8] at n7
        refine x_eqSame (bl_dp (ex7.at n6)) (bl_dp n7) bl_shp ?_
        exact q H7 ((ex1.trans ex2).trans (ex3.trans (ex36.trans ex7)))
    | some n =>
      walk_at "wx"
      refine ⟨len_ok rfl, fun p2 hp2 => ?_⟩
      generalize hU : upd _ p2 _ = H2
      have ex2 := Ex.new' hp2 hU
      have n2 := new_at hU
      clear hU
      have t2 := t1.ex ex2
      walk_at "wx"
      refine ⟨v, wd, rfl, t2, hz, fun nq H3 ex3 e => ?_, fun e => (by rw [hv] at e; cases e)⟩
      obtain rfl : n = nq := Option.some.inj (hv.symm.trans e)
      have n23 := ex3.at n2
      walk_at "wx"
      refine ⟨len_ok rfl, fun p4 hp4 => ?_⟩
      generalize hU : upd _ p4 _ = H4
      have ex4 := Ex.new' hp4 hU
      have n4 := new_at hU
      clear hU
      refine x_eqLN (xs := []) (ys := []) (SqL.of (ex4.at n23)) (SqL.of n4) ?_
      rw [decide_eq_true rfl]
      walk_at "wx"
      rw [decide_eq_true rfl]
      exact q H4 ((ex1.trans ex2).trans (ex3.trans ex4))
end
end Nn
/-! k01: the law -/
namespace Nn
open PySem L2
section
variable {P : Program} {w : World} {K : PySem.W.Frag} {mg : Str → Option Value} {base : Heap} {H : Hp} {Q : VK} {E : XK} {T : Tx K mg base}
def spLaw (K : PySem.W.Frag) : Sp := fun vs H Q _ => ∃ (a : Addr) (ns : List Int), vs = [.ref a] ∧ SqL K H a (ns.map V.int) ∧ ns.length ≤ 63 ∧ ∀ H', Q (.bl true) H'
def sp_law (_ : Tx K mg base) : Sp := spLaw K
theorem ok_law (T : Tx K mg base) : FnOk P w K mg base CX0 3 T.a_law T.d_law ["_law_script"] (sp_law T) := by
  refine T.F_law.okD sc_law (fun vs H Q E h => ?_) (fun cdv A outer s H vs Q E hr h => ?_)
  · obtain ⟨a, ns, rfl, _⟩ := h; rfl
  · obtain ⟨a, ns, rfl, hS, hlen, q⟩ := h
    have hu := hu_of hr
    refine ⟨_, (pss_cons (ps_set (i := 1) sc_law.nd rfl (Or.inl rfl) (pe_call (ok_l_wide T) (hr.mono (by decide)) rfl T.m_l_wide T.F_l_wide.kp T.b_l_wide .nil pass0 (pa_cons (pe_call (ok_l_cell_at T) (hr.mono (by decide)) rfl T.m_l_cell_at T.F_l_cell_at.kp T.b_l_cell_at .nil pass0 (pa_cons (pv 0) (pa_cons pe_int pa_nil))) pa_nil)))
      (pss_cons (ps_set (i := 2) sc_law.nd rfl (Or.inl rfl) (pe_op op_cat (pe_call (ok_l_names T) hr rfl T.m_l_names T.F_l_names.kp T.b_l_names .nil pass0 (pa_cons (pe_call (ok_l_cell_at T) (hr.mono (by decide)) rfl T.m_l_cell_at T.F_l_cell_at.kp T.b_l_cell_at .nil pass0 (pa_cons (pv 0) (pa_cons pe_int pa_nil))) (pa_cons (pv 1) (pa_cons pe_int pa_nil)))) (pe_lst (pa_cons pe_int (pa_cons (pe_op op_sub (pe_op op_shl1 pe_int (pv 1)) pe_int) pa_nil)))))
      (pss_cons (ps_for PassesOwn.never rfl (pi_enum (by rfl) T.z_enumerate (pa_cons (pv 2) pa_nil)) (pg_tup (n := 2) rfl (pgs_cons (pg_name (i := 3) sc_law.nd rfl (Or.inl rfl)) (pgs_cons (pg_name (i := 4) sc_law.nd rfl (Or.inl rfl)) pgs_nil)))
      (pss_cons (ps_set (i := 5) sc_law.nd rfl (Or.inl rfl) (pe_call (ok_shown T) (hr.mono (by decide)) rfl T.m_shown T.F_shown.kp T.b_shown .nil pass0 (pa_cons (pv 4) (pa_cons (pv 1) pa_nil))))
      (pss_cons (ps_if (PW.pt (pw_or (pt_not (pt_val (pe_callB call_isi (by rfl) T.z_isinstance (by decide +kernel) (pa_cons (pv 5) (pa_cons (pe_bltn (v := .ty "str") rfl T.z_str (by decide +kernel) rfl) pa_nil))))) (pw_or (pt_cmpR op_ne (pv 5) (pe_call (ok_l_shown T) (hr.mono (by decide)) rfl T.m_l_shown T.F_l_shown.kp T.b_l_shown .nil pass0 (pa_cons (pv 4) (pa_cons (pv 1) pa_nil))) (nomark _)) (pw_or1 (pt_cmpR op_notBl (pe_call (ok_is_name T) (hr.mono (by decide)) rfl T.m_is_name T.F_is_name.kp T.b_is_name .nil pass0 (pa_cons (pv 4) (pa_cons (pv 1) pa_nil))) pe_bl (nomark _))))))
      (pss_one (ps_ret pe_bl))
      pss_nil)
      (pss_cons (ps_set (i := 6) sc_law.nd rfl (Or.inl rfl) (pe_call (ok_l_mixed T) (hr.mono (by decide)) rfl T.m_l_mixed T.F_l_mixed.kp T.b_l_mixed .nil pass0 (pa_cons (pe_op op_mod (pe_call (ok_l_cell_at T) (hr.mono (by decide)) rfl T.m_l_cell_at T.F_l_cell_at.kp T.b_l_cell_at .nil pass0 (pa_cons (pv 0) (pa_cons (pv 3) pa_nil))) (pe_op op_pow pe_int pe_int)) (pa_cons (pv 3) pa_nil))))
      (pss_cons (ps_if (PW.pt (pw_or (pt_not (pt_val (pe_call (ok_l_read T) hr rfl T.m_l_read T.F_l_read.kp T.b_l_read .nil pass0 (pa_cons (pv 5) (pa_cons (pv 1) pa_nil))))) (pw_or1 (pt_not (pt_val (pe_call (ok_l_read T) hr rfl T.m_l_read T.F_l_read.kp T.b_l_read .nil pass0 (pa_cons (pe_call (ok_l_spoiled T) (hr.mono (by decide)) rfl T.m_l_spoiled T.F_l_spoiled.kp T.b_l_spoiled .nil pass0 (pa_cons (pv 5) (pa_cons (pv 6) pa_nil))) (pa_cons (pv 1) pa_nil))))))))
      (pss_one (ps_ret pe_bl))
      pss_nil)
      (pss_one (ps_if (PW.pt (pw_or (pt_cmpR op_notBl (pe_call (ok_is_name T) (hr.mono (by decide)) rfl T.m_is_name T.F_is_name.kp T.b_is_name .nil pass0 (pa_cons (pe_op op_add (pv 4) (pe_op op_shl1 pe_int (pv 1))) (pa_cons (pv 1) pa_nil))) pe_bl (nomark _)) (pw_or1 (pt_cmpR op_notBl (pe_call (ok_is_name T) (hr.mono (by decide)) rfl T.m_is_name T.F_is_name.kp T.b_is_name .nil pass0 (pa_cons (pe_op op_sub (pv 4) (pe_op op_shl1 pe_int (pv 1))) (pa_cons (pv 1) pa_nil))) pe_bl (nomark _)))))
      (pss_one (ps_ret pe_bl))
      pss_nil)))))))
      (pss_cons (ps_for PassesOwn.never rfl (pi_list (pe_call (ok_l_things T) hr rfl T.m_l_things T.F_l_things.kp T.b_l_things .nil pass0 (pa_cons (pv 1) (pa_cons (pe_call (ok_l_cell_at T) (hr.mono (by decide)) rfl T.m_l_cell_at T.F_l_cell_at.kp T.b_l_cell_at .nil pass0 (pa_cons (pv 0) (pa_cons pe_int pa_nil))) pa_nil)))) (pg_name (i := 7) sc_law.nd rfl (Or.inl rfl))
      (pss_cons (ps_if (pt_cmpR op_notBl (pe_call (ok_is_name T) (hr.mono (by decide)) rfl T.m_is_name T.F_is_name.kp T.b_is_name .nil pass0 (pa_cons (pv 7) (pa_cons (pv 1) pa_nil))) pe_bl (nomark _))
      (pss_one (ps_ret pe_bl))
      pss_nil)
      (pss_one (ps_if (pt_not (pt_val (pe_call (ok_l_read T) hr rfl T.m_l_read T.F_l_read.kp T.b_l_read .nil pass0 (pa_cons (pv 7) (pa_cons (pv 1) pa_nil)))))
      (pss_one (ps_ret pe_bl))
      pss_nil))))
      (pss_one (ps_ret pe_bl)))))), ?_⟩
    rw [Nn.st_law]; try rw [Nn.cxK]
    try rw [Nn.cxW]
    walk_at "wx"
    refine wc_l_cell_at (k := 0) rfl hS fun c0 => ?_
    walk_at "wx"
    refine wc_l_wide rfl fun wd H1 ex1 hw1 hw60 => ?_
    have hS1 := ex1.ls hS
    walk_at "wx"
    refine wc_l_cell_at (k := 1) rfl hS1 fun c1 => ?_
    walk_at "wx"
    refine wc_l_names (n := 20) rfl rfl rfl hw1 hw60 (by decide) fun p2 pl H2 hp2 ex2 n2 hl2 hb2 => ?_
    walk_at "wx"
    refine ⟨len_ok rfl, fun p3 hp3 => ?_⟩
    generalize hU : upd _ p3 _ = H3
    have ex3 := Ex.new' hp3 hU
    have n3 := new_at hU
    clear hU
    have n23 := ex3.at n2
    refine x_cat n23 n3 (by rw [sizeLine_eq, List.length_map, hl2]; show 20 + 2 ≤ 16777216; decide) fun p4 hp4 => ?_
    have h2p := Nat.two_pow_pos wd
    have em : ((2 ^ wd : Nat) : Int) - 1 = ((2 ^ wd - 1 : Nat) : Int) := by omega
    rw [em]
    have elst : pl.map nV ++ [V.int 0, V.int ((2 ^ wd - 1 : Nat) : Int)] = (pl ++ [0, 2 ^ wd - 1]).map nV := by rw [List.map_append]; rfl
    rw [elst]
    have hbs : ∀ x ∈ pl ++ [0, 2 ^ wd - 1], x < 2 ^ wd := fun x hx => by
      rcases List.mem_append.mp hx with z | z
      · exact hb2 x z
      · simp at z
        rcases z with z | z <;> omega
    have hls : (pl ++ [0, 2 ^ wd - 1]).length = 22 := by rw [List.length_append, hl2]; rfl
    generalize pl ++ [0, 2 ^ wd - 1] = nms at hbs hls
    generalize hU : upd H3 p4 _ = H4
    have ex4 := Ex.new' hp4 hU
    have n4 := new_at hU
    clear hU
    have ex04 := ex1.trans (ex2.trans (ex3.trans ex4))
    clear n2 n3 n23 hp3 hp2 ex2 ex3 hS1 ex1
    walk_at "wx"
    refine ForW.by walk_enumE (fun i σ H' => ∃ (v3 v4 v5 v6 : Option V), σ = [some (.ref a), some (.int wd), some (.ref p4), v3, v4, v5, v6, none] ∧ Ex H4 H') ⟨_, _, _, _, rfl, Ex.refl⟩ (fun i σ H' _ ⟨_, _, _, _, _, e⟩ => SqL.of (e.at n4)) ?_ ?_
    · rintro i _ σ H5 H6 hi ⟨v3, v4, v5, v6, rfl, ex5⟩ ⟨tq, x, y, rfl, htq, ex6, htq6, hx, hy⟩
      have hi22 : i < (nms.map nV).length := (List.getElem?_eq_some_iff.mp hy).1
      rw [List.length_map] at hi22
      have hy : (nms.map nV)[i]? = some y := hy
      obtain rfl : y = nV nms[i] := by
        rw [List.getElem?_map, List.getElem?_eq_getElem hi22] at hy
        exact (Option.some.inj hy).symm
      have hn := hbs _ (List.getElem_mem hi22)
      generalize nms[i] = n at hn htq6
      clear hy hi
      cases hx
      have ex06 := ex04.trans (ex5.trans ex6)
      walk_at "wx"
      refine wc_shown rfl rfl hw60 fun H7 ex7 => ?_
      walk_at "wx"
      refine wc_l_shown rfl rfl hw60 ?_
      walk_at "wx"
      refine wc_is_name rfl rfl hw60 ?_
      rw [decide_eq_true hn]
      have hS7 := (ex06.trans ex7).ls hS
      walk_at "wx"
      refine wc_l_cell_at (k := i) rfl hS7 fun ci => ?_
      walk_at "wx"
      have h60 : (0 : Int) < 10 ^ Int.toNat 60 := by decide
      obtain ⟨c60, hc60⟩ := Int.eq_ofNat_of_zero_le (Int.emod_nonneg (ci : Int) (Int.ne_of_gt h60))
      rw [hc60]
      refine wc_l_mixed (k := i) rfl rfl (by omega) fun r => ?_
      walk_at "wx"
      refine wc_l_read rfl (.str _) (fun z e => by cases e; rw [txtN_len]; omega) fun H8 ex8 => ?_
      walk_at "wx"
      refine wc_l_spoiled rfl (by rw [txtN_len]; exact hw1) (by rw [txtN_len]; omega) fun z9 H9 ex9 hz9 => ?_
      walk_at "wx"
      refine wc_l_read rfl (.str _) (fun z e => by cases e; exact hz9) fun H10 ex10 => ?_
      walk_at "wx"
      refine wg_is_name rfl hw60 (.int _) ?_
      have en1 : isnV (.int ((n : Int) + ((2 ^ wd : Nat) : Int))) wd = false := decide_eq_false fun z => by omega
      rw [en1]
      walk_at "wx"
      refine wg_is_name rfl hw60 (.int _) ?_
      have en2 : isnV (.int ((n : Int) - ((2 ^ wd : Nat) : Int))) wd = false := decide_eq_false fun z => by omega
      rw [en2]
      walk_at "wx"
      exact ⟨_, _, _, _, rfl, ex5.trans (ex6.trans (ex7.trans (ex8.trans (ex9.trans ex10))))⟩
    · rintro σ H5 ⟨v3, v4, v5, v6, rfl, ex5⟩
      have ex05 := ex04.trans ex5
      have hS5 := ex05.ls hS
      walk_at "wx"
      refine wc_l_cell_at (k := 2) rfl hS5 fun c2 => ?_
      walk_at "wx"
      refine wc_l_things rfl rfl hw60 fun p7 xs H7 ex7 n7 hx7 => ?_
      walk_at "wx"
      refine ForW.by walk_list (fun i σ H' => ∃ (v3 v4 v5 v6 v7 : Option V), σ = [some (.ref a), some (.int wd), some (.ref p4), v3, v4, v5, v6, v7] ∧ Ex H7 H') ⟨_, _, _, _, _, rfl, Ex.refl⟩ (fun i σ H' _ ⟨_, _, _, _, _, _, e⟩ => SqL.of (e.at n7)) ?_ ?_
      · rintro i x σ _ H8 hi ⟨v3, v4, v5, v6, v7, rfl, ex8⟩ ⟨rfl, hx⟩
        obtain ⟨tx, ix, zx⟩ := hx7 x (List.mem_of_getElem? hx)
        have t8 := tx.ex ex8
        walk_at "wx"
        refine wg_is_name rfl hw60 t8 ?_
        rw [ix]
        walk_at "wx"
        refine wc_l_read rfl t8 zx fun H9 ex9 => ?_
        walk_at "wx"
        exact ⟨_, _, _, _, _, rfl, ex8.trans ex9⟩
      · rintro σ H8 ⟨v3, v4, v5, v6, v7, rfl, ex8⟩
        walk_at "wx"
        exact q H8
end
end Nn
namespace Nn
open PySem PySem.Spec PyProof.Rows L2
theorem factsL {w : World} {K : PySem.W.Frag} {h : Heap} {mg : Str → Option Value} {f : Addr} (X : K.In h) (G : h.Ns mainGlobals mg) (hfa : mg ("law" : Str) = some (.ref f)) (c : He.SaysX faL fnL [] tfL exL w h K) :
    LamX.LawAtS PySem.Challenge.rw_nearnames_k01_names_written w K CX0 3 63 "_law_script" mg f h := by
  obtain ⟨fd0, F0⟩ := c.t.d.def_ 0 (d := dd_is_name) rfl
  have b0 := FunD.bindsN (ps := ["thing", "wide"]) F0 fun _ _ _ _ _ _ us hl => match us, hl with | [_, _], _ => rfl
  obtain ⟨fd1, F1⟩ := c.t.d.def_ 1 (d := dd_shown) rfl
  have b1 := FunD.bindsN (ps := ["name", "wide"]) F1 fun _ _ _ _ _ _ us hl => match us, hl with | [_, _], _ => rfl
  obtain ⟨fd2, F2⟩ := c.t.d.def_ 2 (d := dd_read) rfl
  have b2 := FunD.bindsN (ps := ["text", "wide"]) F2 fun _ _ _ _ _ _ us hl => match us, hl with | [_, _], _ => rfl
  obtain ⟨fd3, F3⟩ := c.t.d.def_ 3 (d := dd_l_cell_at) rfl
  have b3 := FunD.bindsN (ps := ["_law_script", "_law_k"]) F3 fun _ _ _ _ _ _ us hl => match us, hl with | [_, _], _ => rfl
  obtain ⟨fd4, F4⟩ := c.t.d.def_ 4 (d := dd_l_wide) rfl
  have b4 := FunD.bindsN (ps := ["_law_cell"]) F4 fun _ _ _ _ _ _ us hl => match us, hl with | [_], _ => rfl
  obtain ⟨fd5, F5⟩ := c.t.d.def_ 5 (d := dd_l_mixed) rfl
  have b5 := FunD.bindsN (ps := ["_law_cell", "_law_k"]) F5 fun _ _ _ _ _ _ us hl => match us, hl with | [_, _], _ => rfl
  obtain ⟨fd6, F6⟩ := c.t.d.def_ 6 (d := dd_l_names) rfl
  have b6 := FunD.bindsN (ps := ["_law_cell", "_law_wide_here", "_law_many"]) F6 fun _ _ _ _ _ _ us hl => match us, hl with | [_, _, _], _ => rfl
  obtain ⟨fd7, F7⟩ := c.t.d.def_ 7 (d := dd_l_shown) rfl
  have b7 := FunD.bindsN (ps := ["_law_name", "_law_wide_here"]) F7 fun _ _ _ _ _ _ us hl => match us, hl with | [_, _], _ => rfl
  obtain ⟨fd8, F8⟩ := c.t.d.def_ 8 (d := dd_l_value) rfl
  have b8 := FunD.bindsN (ps := ["_law_text", "_law_wide_here"]) F8 fun _ _ _ _ _ _ us hl => match us, hl with | [_, _], _ => rfl
  obtain ⟨fd9, F9⟩ := c.t.d.def_ 9 (d := dd_l_spoiled) rfl
  have b9 := FunD.bindsN (ps := ["_law_text", "_law_cell"]) F9 fun _ _ _ _ _ _ us hl => match us, hl with | [_, _], _ => rfl
  obtain ⟨fd10, F10⟩ := c.t.d.def_ 10 (d := dd_l_read) rfl
  have b10 := FunD.bindsN (ps := ["_law_text", "_law_wide_here"]) F10 fun _ _ _ _ _ _ us hl => match us, hl with | [_, _], _ => rfl
  obtain ⟨fd11, F11⟩ := c.t.d.def_ 11 (d := dd_l_things) rfl
  have b11 := FunD.bindsN (ps := ["_law_wide_here", "_law_cell"]) F11 fun _ _ _ _ _ _ us hl => match us, hl with | [_, _], _ => rfl
  obtain ⟨fd12, F12⟩ := c.t.d.def_ 12 (d := dd_law) rfl
  have b12 := FunD.bindsN (ps := ["_law_script"]) F12 fun _ _ _ _ _ _ us hl => match us, hl with | [_], _ => rfl
  have e := hfa.symm.trans (He.glo_ok X G (c.t.d.fact 12 (f := .glo "law") rfl))
  cases e
  refine ⟨fd12, tfL.map (He.cT K), spLaw K, List.forall_mem_map.mpr fun p hp => c.empty p hp, List.forall_mem_map.mpr fun p hp => c.out p hp, List.forall_mem_map.mpr fun p hp => PySem.W.codeHd_of_K X (c.hd p hp), fun s v => FunD.bindsA (ps := ["_law_script"]) F12 (fun _ _ _ _ _ _ us hl => match us, hl with | [_], _ => rfl) s [v] rfl, fun H a ns hl _ hT hS => ⟨a, ns, rfl, hS, hl, fun _ => rfl⟩, fun base KB GB hTB => ok_law (K := K) (mg := mg) (base := base) {
      a_is_name := (He.ga K "is_name"), d_is_name := fd0, F_is_name := F0, b_is_name := b0,
      m_is_name := He.glo_ok X G (c.t.d.fact 0 (f := .glo "is_name") rfl),
      a_shown := (He.ga K "shown"), d_shown := fd1, F_shown := F1, b_shown := b1,
      m_shown := He.glo_ok X G (c.t.d.fact 1 (f := .glo "shown") rfl),
      a_read := (He.ga K "read"), d_read := fd2, F_read := F2, b_read := b2,
      m_read := He.glo_ok X G (c.t.d.fact 2 (f := .glo "read") rfl),
      a_l_cell_at := (He.ga K "_law_cell_at"), d_l_cell_at := fd3, F_l_cell_at := F3, b_l_cell_at := b3,
      m_l_cell_at := He.glo_ok X G (c.t.d.fact 3 (f := .glo "_law_cell_at") rfl),
      a_l_wide := (He.ga K "_law_wide"), d_l_wide := fd4, F_l_wide := F4, b_l_wide := b4,
      m_l_wide := He.glo_ok X G (c.t.d.fact 4 (f := .glo "_law_wide") rfl),
      a_l_mixed := (He.ga K "_law_mixed"), d_l_mixed := fd5, F_l_mixed := F5, b_l_mixed := b5,
      m_l_mixed := He.glo_ok X G (c.t.d.fact 5 (f := .glo "_law_mixed") rfl),
      a_l_names := (He.ga K "_law_names"), d_l_names := fd6, F_l_names := F6, b_l_names := b6,
      m_l_names := He.glo_ok X G (c.t.d.fact 6 (f := .glo "_law_names") rfl),
      a_l_shown := (He.ga K "_law_shown"), d_l_shown := fd7, F_l_shown := F7, b_l_shown := b7,
      m_l_shown := He.glo_ok X G (c.t.d.fact 7 (f := .glo "_law_shown") rfl),
      a_l_value := (He.ga K "_law_value"), d_l_value := fd8, F_l_value := F8, b_l_value := b8,
      m_l_value := He.glo_ok X G (c.t.d.fact 8 (f := .glo "_law_value") rfl),
      a_l_spoiled := (He.ga K "_law_spoiled"), d_l_spoiled := fd9, F_l_spoiled := F9, b_l_spoiled := b9,
      m_l_spoiled := He.glo_ok X G (c.t.d.fact 9 (f := .glo "_law_spoiled") rfl),
      a_l_read := (He.ga K "_law_read"), d_l_read := fd10, F_l_read := F10, b_l_read := b10,
      m_l_read := He.glo_ok X G (c.t.d.fact 10 (f := .glo "_law_read") rfl),
      a_l_things := (He.ga K "_law_things"), d_l_things := fd11, F_l_things := F11, b_l_things := b11,
      m_l_things := He.glo_ok X G (c.t.d.fact 11 (f := .glo "_law_things") rfl),
      a_law := (He.ga K "law"), d_law := fd12, F_law := F12, b_law := b12,
      m_law := He.glo_ok X G (c.t.d.fact 12 (f := .glo "law") rfl),
      C_NoName := He.ga K "NoName", m_NoName := He.glo_ok X G (c.t.d.fact 13 (f := .glo "NoName") rfl),
      C_NearError := He.ga K "NearError", m_NearError := He.glo_ok X G (c.t.d.fact 14 (f := .glo "NearError") rfl),
      C_NoHouse := He.ga K "NoHouse", m_NoHouse := He.glo_ok X G (c.t.d.fact 15 (f := .glo "NoHouse") rfl),
      C_NoLine := He.ga K "NoLine", m_NoLine := He.glo_ok X G (c.t.d.fact 16 (f := .glo "NoLine") rfl),
      C_NoSize := He.ga K "NoSize", m_NoSize := He.glo_ok X G (c.t.d.fact 17 (f := .glo "NoSize") rfl),
      C_NoTown := He.ga K "NoTown", m_NoTown := He.glo_ok X G (c.t.d.fact 18 (f := .glo "NoTown") rfl),
      C_Silent := He.ga K "Silent", m_Silent := He.glo_ok X G (c.t.d.fact 19 (f := .glo "Silent") rfl),
      C_Taken := He.ga K "Taken", m_Taken := He.glo_ok X G (c.t.d.fact 20 (f := .glo "Taken") rfl),
      xi_NoName := (He.exc_ok (c.t.d.fact 21 (f := .exc "NoName") rfl)).1, xk_NoName := (He.exc_ok (c.t.d.fact 21 (f := .exc "NoName") rfl)).2.1, xs_NoName := (He.exc_ok (c.t.d.fact 21 (f := .exc "NoName") rfl)).2.2.1, xt_NoName := (He.exc_ok (c.t.d.fact 21 (f := .exc "NoName") rfl)).2.2.2,
      ec_NoName := (exL_ec c.more (List.mem_of_getElem? (l := ecL) (i := 0) rfl)).1, xv_NoName := (exL_ec c.more (List.mem_of_getElem? (l := ecL) (i := 0) rfl)).2,
      xm_NoName_NearError := He.exm_ok (c.t.d.fact 22 (f := .exm "NoName" "NearError" true) rfl),
      xo_NoName_NoName := exL_ko (p := ("NoName", "NoName", true)) c.more (List.mem_of_getElem? (l := koL) (i := 0) rfl),
      xo_NoName_NoHouse := exL_ko (p := ("NoName", "NoHouse", false)) c.more (List.mem_of_getElem? (l := koL) (i := 1) rfl),
      xo_NoName_NoLine := exL_ko (p := ("NoName", "NoLine", false)) c.more (List.mem_of_getElem? (l := koL) (i := 2) rfl),
      xo_NoName_NoSize := exL_ko (p := ("NoName", "NoSize", false)) c.more (List.mem_of_getElem? (l := koL) (i := 3) rfl),
      xo_NoName_NoTown := exL_ko (p := ("NoName", "NoTown", false)) c.more (List.mem_of_getElem? (l := koL) (i := 4) rfl),
      xo_NoName_Silent := exL_ko (p := ("NoName", "Silent", false)) c.more (List.mem_of_getElem? (l := koL) (i := 5) rfl),
      xo_NoName_Taken := exL_ko (p := ("NoName", "Taken", false)) c.more (List.mem_of_getElem? (l := koL) (i := 6) rfl),
      z_ValueError := He.free_ok X G (c.t.d.fact 23 (f := .free "ValueError") rfl),
      z_abs := He.free_ok X G (c.t.d.fact 24 (f := .free "abs") rfl),
      z_bool := He.free_ok X G (c.t.d.fact 25 (f := .free "bool") rfl),
      z_enumerate := He.free_ok X G (c.t.d.fact 26 (f := .free "enumerate") rfl),
      z_int := He.free_ok X G (c.t.d.fact 27 (f := .free "int") rfl),
      z_isinstance := He.free_ok X G (c.t.d.fact 28 (f := .free "isinstance") rfl),
      z_len := He.free_ok X G (c.t.d.fact 29 (f := .free "len") rfl),
      z_min := He.free_ok X G (c.t.d.fact 30 (f := .free "min") rfl),
      z_range := He.free_ok X G (c.t.d.fact 31 (f := .free "range") rfl),
      z_str := He.free_ok X G (c.t.d.fact 32 (f := .free "str") rfl) }⟩
end Nn
open PySem PySem.W PySem.Calls PyProof.Rows
theorem PySem.Challenge.cw_nearnames_k01_names_written_holds : PySem.Challenge.rw_nearnames_k01_names_written.Holds := by
  w_on; o_law
  refine HandSHeadRun.head_any (r := OpenLaw.row PySem.Challenge.rw_nearnames_k01_names_written) (q := view (OpenLaw.row PySem.Challenge.rw_nearnames_k01_names_written).prog [23]) (H := Nn.hkX) (ob := Nn.obL) (M := 6000) (loose := Nn.looseL) (d := HandSHeadRun.topDef (OpenLaw.row PySem.Challenge.rw_nearnames_k01_names_written).prog 23) (kwd := []) Nn.obL_eq
    (by kernel_rfl) (fun s => by kernel_rfl) Nn.runL (by kernel_rfl) (by kernel_rfl) (by kernel_rfl) (by rfl) (by first | assumption | decide +kernel) (by decide +kernel) ⟨rfl, rfl, rfl, rfl, rfl, by decide +kernel⟩ ?hw ?hc
  case hw => w_witness2
  case hc =>
    refine LamX.walk_ofTsE (l := PySem.Challenge.rw_nearnames_k01_names_written) (n := 63) (k := 3) (x := "_law_script") (CX := fun _ => L2.CX0) rfl (by decide) (by kernel_rfl) ⟨rfl, by decide, by decide⟩ ?F (fun _ _ _ _ _ z => z)
    intro w mg fa h Y G hmg0
    obtain ⟨K, KX, c⟩ := Y
    have hmg : mg ("law" : PySem.Str) = some (.ref fa) := by
      have e : (HandSHeadRun.topDef (OpenLaw.row PySem.Challenge.rw_nearnames_k01_names_written).prog 23).name = ("law" : PySem.Str) := by kernel_rfl
      rw [← e]
      exact hmg0
    exact ⟨K, KX, Nn.factsL KX G hmg c⟩
