import PyProof.Rows.All
import Wide.All
import OpenK.AllK
import Wide.FinOn
import HandS.ForMost
import HandS.Walk
import HandS.Wide
import HandS.WideBits
import HandS.IsInst
import HandS.EndBits
import HandS.SortInts
import HandS.Flow
import HandS.Nested
import HandS.EndTab
import HandS.More
import HandS.SetFor
import HandS.Strs
import HandS.Zip
import HandS.CallLocal
import HandS.Defaults
import HandS.Head0
import HandS.Head1
import HandS.Head2
import HandS.HeadEnd
import HandS.HeadHook1
import HandS.HeadHook2
import HandS.HeadHook3
import HandS.HeadHook4
import HandS.HeadWalk
import PySem.Challenge.RW_nearnames_k03_by_nearness
set_option Elab.async false
set_option linter.all false
set_option maxRecDepth 100000
set_option maxHeartbeats 4000000
namespace Nn
open PySem L2
def nmAll (l c : Nat) : Str := ""
end Nn
/-! Steps through readings. -/
namespace Nn
open PySem L2
section
variable {K : PySem.W.Frag} {σ : L2.St} {H : Hp} {ta tb te tc : TE} {t u : TS} {c c' : TT} {D : Ends} {Q : VK} {x y v : V}

theorem cxK {CX : CXT} {P : Program} {w : World} {K : PySem.W.Frag} {mg : Str → Option Value} {base : Heap} {N : List Str} {q : Str} {sc : Scope} {f : Addr} {cd : Value} {A : Around} {outer : List Env} {s : Shared} {H : Hp} {E : XK} :
    (cxOf CX P w K mg base N q sc f cd A outer s H E).nox.K = K := rfl
theorem cxK' {CX : CXT} {P : Program} {w : World} {K : PySem.W.Frag} {mg : Str → Option Value} {base : Heap} {N : List Str} {q : Str} {sc : Scope} {f : Addr} {cd : Value} {A : Around} {outer : List Env} {s : Shared} {H : Hp} {E : XK} :
    (cxOf CX P w K mg base N q sc f cd A outer s H E).K = K := rfl
theorem cxW {CX : CXT} {P : Program} {w : World} {K : PySem.W.Frag} {mg : Str → Option Value} {base : Heap} {N : List Str} {q : Str} {sc : Scope} {f : Addr} {cd : Value} {A : Around} {outer : List Env} {s : Shared} {H : Hp} {E : XK} :
    (cxOf CX P w K mg base N q sc f cd A outer s H E).w = w := rfl
theorem x_seq (h : t { D with nx := u D } σ H) : tSeq t u D σ H := h
theorem x_next (h : D.nx σ H) : tNext D σ H := h
theorem x_asg {g : TG} (h : te σ H fun x H1 => g x σ H1 D.nx) : tAsg te g D σ H := h
theorem x_name {i : Nat} {R : L2.St → Hp → Prop} (h : R (σ.set i (some v)) H) : gName i v σ H R := h
theorem x_ret (h : te σ H D.rt) : tRet te D σ H := h
theorem x_retN (h : D.rt .non H) : tRetN D σ H := h
theorem x_drop (h : te σ H fun _ H1 => D.nx σ H1) : tDrop te D σ H := h
/-- the branches as they stand (not walked until the test is known) -/
def IfS (b : Bool) (t u : TS) (D : Ends) (σ : L2.St) (H : Hp) : Prop := if b = true then t D σ H else u D σ H
theorem x_ifD {p : Prop} [Decidable p] (h1 : p → t D σ H) (h2 : ¬ p → u D σ H) : IfS (decide p) t u D σ H := by
  unfold IfS
  by_cases h : p
  · rw [if_pos (decide_eq_true h)]; exact h1 h
  · rw [if_neg (by simp [h])]; exact h2 h
theorem x_ifN {p : Prop} [Decidable p] (h1 : ¬ p → t D σ H) (h2 : p → u D σ H) : IfS (!decide p) t u D σ H := by
  unfold IfS
  by_cases h : p
  · rw [if_neg (by simp [h])]; exact h2 h
  · rw [if_pos (by simp [h])]; exact h1 h
theorem x_ifB {b : Bool} (h1 : b = true → t D σ H) (h2 : b = false → u D σ H) : IfS b t u D σ H := by
  cases b with
  | true => exact h1 rfl
  | false => exact h2 rfl
theorem x_INs {α : Type} [DecidableEq α] {b : α} (h : u D σ H) : IfS (!decide (b = b)) t u D σ H := by
  rw [decide_eq_true rfl]; exact h
theorem x_IEs {α : Type} [DecidableEq α] {b : α} (h : t D σ H) : IfS (decide (b = b)) t u D σ H := by
  rw [decide_eq_true rfl]; exact h
theorem x_if {tt : TT} (h : tt σ H fun b H1 => if b = true then ta σ H1 Q else tb σ H1 Q) : tIf tt ta tb σ H Q := h
theorem x_var {i : Nat} (e : σ[i]? = some (some v)) (h : Q v H) : tVar i σ H Q := ⟨v, e, h⟩
theorem x_c (h : Q v H) : tC v σ H Q := h
theorem x_op {r : R2} (h : ta σ H fun x H1 => tb σ H1 fun y H2 => r x y H2 Q) : tOp r ta tb σ H Q := h
theorem x_un {r : V → Hp → VK → Prop} (h : ta σ H fun x H1 => r x H1 Q) : tUn r ta σ H Q := h
theorem x_cb {r : List V → Hp → VK → Prop} {ts : TA} (h : ts σ H fun vs H1 => r vs H1 Q) : tCB r ts σ H Q := h
theorem x_nil {R : List V → Hp → Prop} (h : R [] H) : tNil σ H R := h
theorem x_cons {ts : TA} {R : List V → Hp → Prop} (h : ta σ H fun x H1 => ts σ H1 fun xs H2 => R (x :: xs) H2) : tCons ta ts σ H R := h
theorem x_call {sp : Sp} {E : XK} {ts : TA} (h : ts σ H fun vs H1 => sp vs H1 Q E) : tCall sp [] E ts σ H Q := by
  unfold tCall; simpa only [List.append_nil] using h
theorem x_calld {sp : Sp} {E : XK} {ds : List V} {ts : TA} (h : ts σ H fun vs H1 => sp (vs ++ ds) H1 Q E) : tCall sp ds E ts σ H Q := h
theorem x_tup {ts : TA} (h : ts σ H fun xs H1 => xs.length ≤ sizeLine ∧ ∀ p, H1 p = none → Q (.ref p) (upd H1 p (.tup xs))) : tTup ts σ H Q := h
theorem x_lst {ts : TA} (h : ts σ H fun xs H1 => xs.length ≤ sizeLine ∧ ∀ p, H1 p = none → Q (.ref p) (upd H1 p (.lst xs))) : tLst ts σ H Q := h

theorem x_test {R : Bool → Hp → Prop} (h : te σ H fun x H' => ∃ k, x = .bl k ∧ R k H') : tTest te σ H R := h
theorem x_B {R : Bool → Hp → Prop} (h : te σ H fun x H' => ∃ k, x = .bl k ∧ R k H') : tB te σ H R := h
theorem x_bl {R : Bool → Prop} {k : Bool} (h : R k) : ∃ k', V.bl k = V.bl k' ∧ R k' := ⟨k, rfl, h⟩
theorem x_and {R : Bool → Hp → Prop} (h : c σ H fun b H1 => if b = true then c' σ H1 R else R false H1) : tAnd c c' σ H R := h
theorem x_or {R : Bool → Hp → Prop} (h : c σ H fun b H1 => if b = true then R true H1 else c' σ H1 R) : tOr c c' σ H R := h
theorem x_not {R : Bool → Hp → Prop} (h : c σ H fun b H1 => R (!b) H1) : tNot c σ H R := h
theorem x_andV (h : ta σ H fun x H1 => ∃ c, x = .bl c ∧ if c = true then tb σ H1 Q else Q (.bl false) H1) : tAndV ta tb σ H Q := h
theorem x_orV (h : ta σ H fun x H1 => ∃ c, x = .bl c ∧ if c = true then Q (.bl true) H1 else tb σ H1 Q) : tOrV ta tb σ H Q := h
theorem x_notV (h : ta σ H fun x H1 => ∃ c, x = .bl c ∧ Q (.bl (!c)) H1) : tNotV ta σ H Q := h
theorem x_chain {r r' : R2} (h : ta σ H fun x H1 => tb σ H1 fun y H2 => r x y H2 fun z H3 => ∃ k, z = .bl k ∧ if k = true then tc σ H3 fun w H4 => r' y w H4 Q else Q (.bl false) H3) : tChain r r' ta tb tc σ H Q := h

theorem x_i0 {g : Int → Int → V} {i j : Int} (h : Q (g i j) H) : rI0 g (.int i) (.int j) H Q := ⟨i, j, rfl, rfl, h⟩
theorem x_i {C : Int → Int → Prop} {g : Int → Int → V} {i j : Int} (hc : C i j) (h : Q (g i j) H) : rI C g (.int i) (.int j) H Q := ⟨i, j, rfl, rfl, hc, h⟩
theorem x_u {g : Int → V} {i : Int} (h : Q (g i) H) : rU g (.int i) H Q := ⟨i, rfl, h⟩
theorem x_eqI {i j : Int} (h : Q (.bl (decide (i = j))) H) : rEq (.int i) (.int j) H Q := ⟨rfl, by
  have e : decide (V.int i = V.int j) = decide (i = j) := by simp
  rw [e]; exact h⟩
theorem x_neI {i j : Int} (h : Q (.bl (!decide (i = j))) H) : rNe (.int i) (.int j) H Q := ⟨rfl, by
  have e : decide (V.int i = V.int j) = decide (i = j) := by simp
  rw [e]; exact h⟩
theorem x_eqB {i j : Bool} (h : Q (.bl (decide (i = j))) H) : rEq (.bl i) (.bl j) H Q := ⟨rfl, by
  have e : decide (V.bl i = V.bl j) = decide (i = j) := by simp
  rw [e]; exact h⟩
theorem x_neB {i j : Bool} (h : Q (.bl (!decide (i = j))) H) : rNe (.bl i) (.bl j) H Q := ⟨rfl, by
  have e : decide (V.bl i = V.bl j) = decide (i = j) := by simp
  rw [e]; exact h⟩
theorem x_eqS {i j : Str} (h : Q (.bl (decide (i = j))) H) : rEq (.str i) (.str j) H Q := ⟨rfl, by
  have e : decide (V.str i = V.str j) = decide (i = j) := by simp
  rw [e]; exact h⟩
theorem x_neS {i j : Str} (h : Q (.bl (!decide (i = j))) H) : rNe (.str i) (.str j) H Q := ⟨rfl, by
  have e : decide (V.str i = V.str j) = decide (i = j) := by simp
  rw [e]; exact h⟩
theorem x_eq (e : scal x y = true) (h : Q (.bl (decide (x = y))) H) : rEq x y H Q := ⟨e, h⟩
theorem x_ne (e : scal x y = true) (h : Q (.bl (!decide (x = y))) H) : rNe x y H Q := ⟨e, h⟩

theorem x_ite {p A B : Prop} [Decidable p] (h1 : p → A) (h2 : ¬ p → B) : if decide p = true then A else B := by
  by_cases h : p
  · rw [if_pos (decide_eq_true h)]; exact h1 h
  · rw [if_neg (by simp [h])]; exact h2 h
theorem x_iteN {p A B : Prop} [Decidable p] (h1 : ¬ p → A) (h2 : p → B) : if (!decide p) = true then A else B := by
  by_cases h : p
  · rw [if_neg (by simp [h])]; exact h2 h
  · rw [if_pos (by simp [h])]; exact h1 h
theorem x_iteB {b : Bool} {A B : Prop} (h1 : b = true → A) (h2 : b = false → B) : if b = true then A else B := by
  cases b with
  | true => rw [if_pos rfl]; exact h1 rfl
  | false => rw [if_neg Bool.false_ne_true]; exact h2 rfl
theorem x_NEs {α : Type} [DecidableEq α] {b : α} {A B : Prop} (h : B) : if (!decide (b = b)) = true then A else B := by
  rw [decide_eq_true rfl]; exact iteF h
theorem x_Es {α : Type} [DecidableEq α] {b : α} {A B : Prop} (h : A) : if decide (b = b) = true then A else B := by
  rw [decide_eq_true rfl]; exact iteT h
theorem x_T {A B : Prop} (h : A) : if true = true then A else B := iteT h
theorem x_F {A B : Prop} (h : B) : if false = true then A else B := iteF h
theorem x_NT {A B : Prop} (h : B) : if (!true) = true then A else B := iteF h
theorem x_NF {A B : Prop} (h : A) : if (!false) = true then A else B := iteT h

/-! the built-ins' readings -/
theorem x_ixL {p : Addr} {xs : List V} {i : Int} (hS : SqL K H p xs) (e : atI xs i = some v) (h : Q v H) : rIxL K (.ref p) (.int i) H Q := ⟨p, xs, i, v, rfl, rfl, hS, e, h⟩
theorem x_ixT {p : Addr} {xs : List V} {i : Int} (hS : SqT K H p xs) (e : atI xs i = some v) (h : Q v H) : rIxT K (.ref p) (.int i) H Q := ⟨p, xs, i, v, rfl, rfl, hS, e, h⟩
def rAbs : List V → Hp → VK → Prop := fun xs H Q => ∃ i, xs = [.int i] ∧ Q (.int (if i < 0 then -i else i)) H
def rMin2 : List V → Hp → VK → Prop := fun xs H Q => ∃ i j, xs = [.int i, .int j] ∧ Q (.int (if j < i then j else i)) H
def rMax2 : List V → Hp → VK → Prop := fun xs H Q => ∃ i j, xs = [.int i, .int j] ∧ Q (.int (if j > i then j else i)) H
def rLenS (K : PySem.W.Frag) : List V → Hp → VK → Prop := fun xs H Q => ∃ p ys, xs = [.ref p] ∧ (SqL K H p ys ∨ SqT K H p ys) ∧ Q (.int ys.length) H
def rLenD : List V → Hp → VK → Prop := fun xs H Q => ∃ a kvs, xs = [V.ref a] ∧ H a = some (.dK kvs) ∧ Q (.int kvs.length) H
def rLenStr : List V → Hp → VK → Prop := fun xs H Q => ∃ z : Str, xs = [.str z] ∧ z.length ≤ sizeLine ∧ Q (.int z.length) H
def rInt1 : List V → Hp → VK → Prop := fun xs H Q => (∃ i, xs = [.int i] ∧ Q (.int i) H) ∨ ∃ k, xs = [.bl k] ∧ Q (.int (if k then 1 else 0)) H
def rListOf (K : PySem.W.Frag) : List V → Hp → VK → Prop := fun xs H Q => ∃ p ys, xs = [.ref p] ∧ (SqL K H p ys ∨ SqT K H p ys) ∧ ∀ l, H l = none → Q (.ref l) (upd H l (.lst ys))
theorem cb_abs {X : Cx} : CallR X (.builtin "abs") rAbs := call_abs
theorem cb_min2 {X : Cx} (hc : X.calm = true) : CallR X (.builtin "min") rMin2 := call_min2 hc
theorem cb_max2 {X : Cx} (hc : X.calm = true) : CallR X (.builtin "max") rMax2 := call_max2 hc
theorem cb_len {X : Cx} : CallR X (.builtin "len") (rLenS X.K) := call_len_seq
theorem cb_lenD {X : Cx} : CallR X (.builtin "len") rLenD := call_lenD
theorem cb_lenStr {X : Cx} : CallR X (.builtin "len") rLenStr := call_len_str
theorem cb_int {X : Cx} : CallR X (.type "int") rInt1 := call_int1
theorem cb_list {X : Cx} : CallR X (.type "list") (rListOf X.K) := call_list_of
theorem x_abs {i : Int} (h : Q (.int (i.natAbs : Int)) H) : rAbs [.int i] H Q :=
  ⟨i, rfl, by
    have e : (if i < 0 then -i else i) = (i.natAbs : Int) := by split <;> omega
    rw [e]; exact h⟩
theorem x_min2 {i j : Int} (h : Q (.int (min i j)) H) : rMin2 [.int i, .int j] H Q :=
  ⟨i, j, rfl, by
    have e : (if j < i then j else i) = min i j := by split <;> omega
    rw [e]; exact h⟩
theorem x_max2 {i j : Int} (h : Q (.int (max i j)) H) : rMax2 [.int i, .int j] H Q :=
  ⟨i, j, rfl, by
    have e : (if j > i then j else i) = max i j := by split <;> omega
    rw [e]; exact h⟩
theorem x_lenL {p : Addr} {ys : List V} (hS : SqL K H p ys) (h : Q (.int ys.length) H) : rLenS K [.ref p] H Q := ⟨p, ys, rfl, .inl hS, h⟩
theorem x_lenT {p : Addr} {ys : List V} (hS : SqT K H p ys) (h : Q (.int ys.length) H) : rLenS K [.ref p] H Q := ⟨p, ys, rfl, .inr hS, h⟩
theorem x_lenD {p : Addr} {kvs : List (Key × V)} (hS : H p = some (.dK kvs)) (h : Q (.int kvs.length) H) : rLenD [.ref p] H Q := ⟨p, kvs, rfl, hS, h⟩
theorem x_intI {i : Int} (h : Q (.int i) H) : rInt1 [.int i] H Q := .inl ⟨i, rfl, h⟩
theorem x_intB {b : Bool} (h : Q (.int (if b then 1 else 0)) H) : rInt1 [.bl b] H Q := .inr ⟨b, rfl, h⟩
theorem x_listL {p : Addr} {ys : List V} (hS : SqL K H p ys) (h : ∀ l, H l = none → Q (.ref l) (upd H l (.lst ys))) : rListOf K [.ref p] H Q := ⟨p, ys, rfl, .inl hS, h⟩
theorem x_sum {a : Addr} {ns : List Int} (hS : SqL K H a (ns.map V.int)) (h : Q (.int ns.sum) H) : rSum K [.ref a] H Q := ⟨a, ns, rfl, hS, h⟩
/-- isinstance of plain values, against built-in types -/
theorem x_isi {c : V} {t u : Value} {b : Bool} (k : ClsV c u) (ty : TyX K H x t) (e : PySem.W.kitOne K t u = some b) (h : Q (.bl b) H) : rIsi K [x, c] H Q := ⟨x, c, t, u, b, rfl, k, ty, e, h⟩
theorem x_isG {vs : List V} (h : rIsi K vs H Q) : rIsi K vs H Q := h
theorem x_isI_int {i : Int} (h : Q (.bl true) H) : rIsi K [.int i, .ty "int"] H Q := x_isi (.ty "int") (.base (.int i)) (kit_ty (by decide +kernel)) h
theorem x_isI_bool {i : Int} (h : Q (.bl false) H) : rIsi K [.int i, .ty "bool"] H Q := x_isi (.ty "bool") (.base (.int i)) (kit_ty (by decide +kernel)) h
theorem x_isI_str {i : Int} (h : Q (.bl false) H) : rIsi K [.int i, .ty "str"] H Q := x_isi (.ty "str") (.base (.int i)) (kit_ty (by decide +kernel)) h
theorem x_isB_int {c : Bool} (h : Q (.bl true) H) : rIsi K [.bl c, .ty "int"] H Q := x_isi (.ty "int") (.base (.bl c)) (kit_ty (by decide +kernel)) h
theorem x_isB_bool {c : Bool} (h : Q (.bl true) H) : rIsi K [.bl c, .ty "bool"] H Q := x_isi (.ty "bool") (.base (.bl c)) (kit_ty (by decide +kernel)) h
theorem x_isB_str {c : Bool} (h : Q (.bl false) H) : rIsi K [.bl c, .ty "str"] H Q := x_isi (.ty "str") (.base (.bl c)) (kit_ty (by decide +kernel)) h
theorem x_isS_int {z : Str} (h : Q (.bl false) H) : rIsi K [.str z, .ty "int"] H Q := x_isi (.ty "int") (.base (.str z)) (kit_ty (by decide +kernel)) h
theorem x_isS_bool {z : Str} (h : Q (.bl false) H) : rIsi K [.str z, .ty "bool"] H Q := x_isi (.ty "bool") (.base (.str z)) (kit_ty (by decide +kernel)) h
theorem x_isS_str {z : Str} (h : Q (.bl true) H) : rIsi K [.str z, .ty "str"] H Q := x_isi (.ty "str") (.base (.str z)) (kit_ty (by decide +kernel)) h
theorem x_isN_int  (h : Q (.bl false) H) : rIsi K [.non, .ty "int"] H Q := x_isi (.ty "int") (.base .non) (kit_ty (by decide +kernel)) h
theorem x_isN_bool  (h : Q (.bl false) H) : rIsi K [.non, .ty "bool"] H Q := x_isi (.ty "bool") (.base .non) (kit_ty (by decide +kernel)) h
theorem x_isN_str  (h : Q (.bl false) H) : rIsi K [.non, .ty "str"] H Q := x_isi (.ty "str") (.base .non) (kit_ty (by decide +kernel)) h
theorem x_isL_int {a : Addr} {xs : List V} (ha : H a = some (.lst xs)) (h : Q (.bl false) H) : rIsi K [.ref a, .ty "int"] H Q := x_isi (.ty "int") (.base (.lst ha)) (kit_ty (by decide +kernel)) h
theorem x_isL_list {a : Addr} {xs : List V} (ha : H a = some (.lst xs)) (h : Q (.bl true) H) : rIsi K [.ref a, .ty "list"] H Q := x_isi (.ty "list") (.base (.lst ha)) (kit_ty (by decide +kernel)) h
theorem x_isL_tuple {a : Addr} {xs : List V} (ha : H a = some (.lst xs)) (h : Q (.bl false) H) : rIsi K [.ref a, .ty "tuple"] H Q := x_isi (.ty "tuple") (.base (.lst ha)) (kit_ty (by decide +kernel)) h
theorem x_isT_int {a : Addr} {xs : List V} (ha : H a = some (.tup xs)) (h : Q (.bl false) H) : rIsi K [.ref a, .ty "int"] H Q := x_isi (.ty "int") (.base (.tup ha)) (kit_ty (by decide +kernel)) h
theorem x_isT_list {a : Addr} {xs : List V} (ha : H a = some (.tup xs)) (h : Q (.bl false) H) : rIsi K [.ref a, .ty "list"] H Q := x_isi (.ty "list") (.base (.tup ha)) (kit_ty (by decide +kernel)) h
theorem x_isT_tuple {a : Addr} {xs : List V} (ha : H a = some (.tup xs)) (h : Q (.bl true) H) : rIsi K [.ref a, .ty "tuple"] H Q := x_isi (.ty "tuple") (.base (.tup ha)) (kit_ty (by decide +kernel)) h
theorem x_isD_int {a : Addr} {kvs : List (Key × V)} (ha : H a = some (.dK kvs)) (h : Q (.bl false) H) : rIsi K [.ref a, .ty "int"] H Q := x_isi (.ty "int") (.base (.dK ha)) (kit_ty (by decide +kernel)) h
theorem x_isD_list {a : Addr} {kvs : List (Key × V)} (ha : H a = some (.dK kvs)) (h : Q (.bl false) H) : rIsi K [.ref a, .ty "list"] H Q := x_isi (.ty "list") (.base (.dK ha)) (kit_ty (by decide +kernel)) h
theorem x_isD_tuple {a : Addr} {kvs : List (Key × V)} (ha : H a = some (.dK kvs)) (h : Q (.bl false) H) : rIsi K [.ref a, .ty "tuple"] H Q := x_isi (.ty "tuple") (.base (.dK ha)) (kit_ty (by decide +kernel)) h

/-! heaps that grow -/
/-- no table of code objects (these grow where a def is made within a def) -/
def NT : HO → Prop | .tbl _ => False | _ => True
/-- no table, nothing told by its object -/
def NX : HO → Prop | .tbl _ => False | .ext _ => False | _ => True
theorem NX.nt {o : HO} (h : NX o) : NT o := by cases o <;> first | trivial | exact h
/-- all but what S names stays; tables stay tables; nothing is lost -/
structure Fr (S : Addr → Prop) (H H' : Hp) : Prop where
  keep : ∀ a o, H a = some o → NT o → ¬ S a → H' a = some o
  tab : ∀ P, NdefX.TabN H P nmAll → NdefX.TabN H' P nmAll
  back : ∀ a, H' a = none → H a = none
abbrev Ex (H H' : Hp) : Prop := Fr (fun _ => False) H H'
theorem atI_hd {x : V} {r : List V} : atI (x :: r) 0 = some x := atI_nat (xs := x :: r) (j := 0) rfl
theorem at_new {H : Hp} {p a : Addr} {o u : HO} (h : H p = none) (k : H a = some u) : upd H p o a = some u := by rw [upd_ne (ne_of_none k h)]; exact k
theorem at_upd {H : Hp} {p a : Addr} {o u v : HO} (h : H p = some v) (k : H a = some u) (d : v ≠ u) : upd H p o a = some u := by rw [upd_ne (ne_of k h (Ne.symm d))]; exact k
theorem Ex.at {H H' : Hp} {a : Addr} {o : HO} (e : Ex H H') (h : H a = some o) (n : NT o := by trivial) : H' a = some o := e.keep a o h n id
theorem Fr.at {S : Addr → Prop} {H H' : Hp} {a : Addr} {o : HO} (e : Fr S H H') (h : H a = some o) (hs : ¬ S a) (n : NT o := by trivial) : H' a = some o := e.keep a o h n hs
theorem Fr.refl {S : Addr → Prop} {H : Hp} : Fr S H H := ⟨fun _ _ h _ _ => h, fun _ h => h, fun _ h => h⟩
theorem Ex.refl {H : Hp} : Ex H H := Fr.refl
theorem Ex.trans {H H1 H2 : Hp} (a : Ex H H1) (b : Ex H1 H2) : Ex H H2 := ⟨fun x o h n _ => b.at (a.at h n) n, fun P h => b.tab P (a.tab P h), fun x h => a.back x (b.back x h)⟩
theorem Fr.trans {S : Addr → Prop} {H H1 H2 : Hp} (a : Fr S H H1) (b : Fr S H1 H2) : Fr S H H2 := ⟨fun x o h n s => b.keep x o (a.keep x o h n s) n s, fun P h => b.tab P (a.tab P h), fun x h => a.back x (b.back x h)⟩
theorem Fr.mono {S S' : Addr → Prop} {H H1 : Hp} (a : Fr S H H1) (h : ∀ x, S x → S' x) : Fr S' H H1 := ⟨fun x o e n s => a.keep x o e n fun z => s (h x z), a.tab, a.back⟩
theorem Ex.fr {S : Addr → Prop} {H H1 : Hp} (a : Ex H H1) : Fr S H H1 := Fr.mono a fun _ z => z.elim
/-- of what S names, all is newer than H -/
theorem Fr.ex {S : Addr → Prop} {H H0 H1 : Hp} (a : Fr S H H1) (e : Ex H0 H) (h : ∀ x, S x → H0 x = none) : Ex H0 H1 :=
  ⟨fun x o q n _ => a.keep x o (e.at q n) n fun z => (by rw [h x z] at q; cases q), fun P q => a.tab P (e.tab P q), fun x q => e.back x (a.back x q)⟩
theorem upd_back {H : Hp} {p x : Addr} {o : HO} (h : upd H p o x = none) : H x = none := by
  unfold upd at h
  split at h
  · cases h
  · exact h
theorem Ex.new {H : Hp} {p : Addr} {o : HO} (h : H p = none) : Ex H (upd H p o) :=
  ⟨fun a u e _ _ => by rw [upd_ne (ne_of_none e h)]; exact e, fun P t => t.ext fun b u e => by rw [upd_ne (ne_of_none e h)]; exact e, fun _ z => upd_back z⟩
theorem Ex.newT {H H1 : Hp} {p : Addr} {o : HO} (a : Ex H H1) (h : H1 p = none) : Ex H (upd H1 p o) := a.trans (Ex.new h)
/-- one object is changed -/
theorem Fr.upd1 {H : Hp} {p : Addr} {o u : HO} (h : H p = some u) (hu : NX u := by trivial) : Fr (fun a => a = p) H (upd H p o) :=
  ⟨fun a v e _ s => by rw [upd_ne s]; exact e, fun P ⟨ps, h1, h2, h3⟩ => by
    have nP : P ≠ p := fun z => by rw [z, h] at h1; cases h1; exact hu
    refine ⟨ps, by rw [upd_ne nP]; exact h1, h2, fun pos cv hc => ?_⟩
    obtain ⟨c, e1, e2⟩ := h3 pos cv hc
    have nc : c ≠ p := fun z => by
      rw [z, h] at e2
      have e2 := Option.some.inj e2
      rw [e2] at hu
      exact hu
    exact ⟨c, e1, by rw [upd_ne nc]; exact e2⟩, fun _ z => upd_back z⟩
/-- an object that H does not know may change -/
theorem Ex.mut {H H' : Hp} {p : Addr} {o u : HO} (e : Ex H H') (h : H p = none) (h' : H' p = some u) (hu : NX u := by trivial) : Ex H (upd H' p o) :=
  (Fr.upd1 h' hu).ex e fun x z => by rw [z]; exact h
theorem Ex.ls {H H' : Hp} {a : Addr} {xs : List V} (e : Ex H H') (h : SqL K H a xs) : SqL K H' a xs := by
  rcases h with (h | ⟨o, h⟩) | h
  · exact .inl (.inl (e.at h))
  · exact .inl (.inr ⟨o, e.at h⟩)
  · exact .inr h
theorem Ex.tu {H H' : Hp} {a : Addr} {xs : List V} (e : Ex H H') (h : SqT K H a xs) : SqT K H' a xs := by
  rcases h with (h | ⟨o, h⟩) | h
  · exact .inl (.inl (e.at h))
  · exact .inl (.inr ⟨o, e.at h⟩)
  · exact .inr h

/-! loops -/
def ForW (g : TG) (tb : TS) (D : Ends) (J : It) (σ : L2.St) (H : Hp) : Prop := ∃ W : Nat → Nat → L2.St → Hp → Prop, (∃ m, W 0 m σ H) ∧ ∀ i m σ H, W i m σ H →
  (J.stop i H ∧ D.nx σ H) ∨ (J.go i H ∧ ∃ N : L2.St → Hp → Prop, (∀ σ' H', N σ' H' → ∃ m', m' < m ∧ W (i + 1) m' σ' H') ∧ ∀ x H', J.yld i H x H' → g x σ H' fun σ2 H2 => tb { D with nx := N, ct := N, bk := D.nx } σ2 H2)
theorem x_for {wi : TI} {g : TG} {tb : TS} (h : wi σ H fun J H1 => ForW g tb D J σ H1) : tFor wi g tb D σ H := h
theorem ForW.by {J : It} {n : Nat} {G : Hp → Prop} {Y : Nat → Hp → V → Hp → Prop} (w : Walk J n G Y) {g : TG} {tb : TS} (Pv : Nat → L2.St → Hp → Prop) (h0 : Pv 0 σ H) (hG : ∀ i σ H, i ≤ n → Pv i σ H → G H)
    (hs : ∀ i x σ H H', i < n → Pv i σ H → Y i H x H' → g x σ H' fun σ2 H2 => tb { D with nx := Pv (i + 1), ct := Pv (i + 1), bk := D.nx } σ2 H2) (hd : ∀ σ H, Pv n σ H → D.nx σ H) : ForW g tb D J σ H :=
  for_it w Pv h0 hG hs hd
def Rg1 (R : It → Hp → Prop) : List V → Hp → Prop := fun vs H1 => ∃ j : Int, vs = [.int j] ∧ -(2 ^ 62) ≤ j ∧ j < 2 ^ 62 ∧ R (Itr 0 j.toNat) H1
def Rg2 (R : It → Hp → Prop) : List V → Hp → Prop := fun vs H1 => ∃ i j : Int, vs = [.int i, .int j] ∧ (-(2 ^ 62) ≤ i ∧ i < 2 ^ 62 ∧ -(2 ^ 62) ≤ j ∧ j < 2 ^ 62) ∧ R (Itr i (j - i).toNat) H1
def RiL (K : PySem.W.Frag) (R : It → Hp → Prop) : VK := fun x H1 => ∃ a, x = .ref a ∧ (∃ xs, SqL K H1 a xs) ∧ R (Itl K a) H1
def RiT (K : PySem.W.Frag) (R : It → Hp → Prop) : VK := fun x H1 => ∃ a, x = .ref a ∧ (∃ xs, SqT K H1 a xs) ∧ R (Itt K a) H1
def RiE (K : PySem.W.Frag) (R : It → Hp → Prop) : List V → Hp → Prop := fun vs H1 => ∃ a xs, vs = [.ref a] ∧ SqL K H1 a xs ∧ R (Ite K a) H1
def RiZ (K : PySem.W.Frag) (R : It → Hp → Prop) : List V → Hp → Prop := fun vs H1 => ∃ a b xs ys, vs = [.ref a, .ref b] ∧ SqL K H1 a xs ∧ SqL K H1 b ys ∧ R (Itz K a b) H1
theorem x_rng1 {ts : TA} {R : It → Hp → Prop} (h : ts σ H (Rg1 R)) : iRng1 ts σ H R := h
theorem x_rng2 {ts : TA} {R : It → Hp → Prop} (h : ts σ H (Rg2 R)) : iRng2 ts σ H R := h
theorem x_rgN {m : Nat} {R : It → Hp → Prop} (hm : (m : Int) < 2 ^ 62) (h : R (Itr 0 m) H) : Rg1 R [V.int (m : Int)] H :=
  ⟨m, rfl, by omega, hm, by rw [Int.toNat_natCast]; exact h⟩
theorem walk_rgN {n : Nat} : Walk (Itr 0 n) n (fun _ => True) (YFn fun i => .int i) :=
  ⟨fun _ _ hi _ => hi, fun _ _ => Nat.le_refl _, fun _ _ _ _ _ _ y => ⟨y.1, by rw [y.2]; simp⟩⟩
theorem x_iList {R : It → Hp → Prop} (h : ta σ H (RiL K R)) : iList K ta σ H R := h
theorem x_iTup {R : It → Hp → Prop} (h : ta σ H (RiT K R)) : iTup K ta σ H R := h
theorem x_itL {a : Addr} {xs : List V} {R : It → Hp → Prop} (hS : SqL K H a xs) (h : R (Itl K a) H) : RiL K R (.ref a) H := ⟨a, rfl, ⟨xs, hS⟩, h⟩
theorem x_itT {a : Addr} {xs : List V} {R : It → Hp → Prop} (hS : SqT K H a xs) (h : R (Itt K a) H) : RiT K R (.ref a) H := ⟨a, rfl, ⟨xs, hS⟩, h⟩
theorem x_iEnum {ts : TA} {R : It → Hp → Prop} (h : ts σ H (RiE K R)) : iEnum K ts σ H R := h
theorem x_enL {a : Addr} {xs : List V} {R : It → Hp → Prop} (hS : SqL K H a xs) (h : R (Ite K a) H) : RiE K R [.ref a] H := ⟨a, xs, rfl, hS, h⟩
theorem x_iZip {ts : TA} {R : It → Hp → Prop} (h : ts σ H (RiZ K R)) : iZip K ts σ H R := h
theorem x_ziL {a b : Addr} {xs ys : List V} {R : It → Hp → Prop} (hS : SqL K H a xs) (hS2 : SqL K H b ys) (h : R (Itz K a b) H) : RiZ K R [.ref a, .ref b] H := ⟨a, b, xs, ys, rfl, hS, hS2, h⟩
theorem x_gTup {n : Nat} {gs : TGs} {R : L2.St → Hp → Prop} {a : Addr} {xs : List V} (hT : SqT K H a xs) (hl : xs.length = n) (h : gs xs σ H R) : gTup K n gs (.ref a) σ H R := ⟨a, xs, rfl, hT, hl, h⟩
theorem x_gCons {g : TG} {gs : TGs} {R : L2.St → Hp → Prop} {xs : List V} (h : g v σ H fun σ' H' => gs xs σ' H' R) : gCons g gs (v :: xs) σ H R := ⟨v, xs, rfl, h⟩
theorem x_gNil {R : L2.St → Hp → Prop} (h : R σ H) : gNil [] σ H R := ⟨rfl, h⟩
/-- a while's turn, or its end -/
def WhS (W : Nat → L2.St → Hp → Prop) (m : Nat) (t : TS) (D : Ends) (b : Bool) (σ : L2.St) (H : Hp) : Prop :=
  if b = true then ∃ N : L2.St → Hp → Prop, (∀ σ' H', N σ' H' → ∃ m', m' < m ∧ W m' σ' H') ∧ t { D with nx := N, ct := N, bk := D.nx } σ H else D.nx σ H
def Less (W : Nat → L2.St → Hp → Prop) (m : Nat) (σ' : L2.St) (H' : Hp) : Prop := ∃ m', m' < m ∧ W m' σ' H'
theorem x_while {W : Nat → L2.St → Hp → Prop} {m : Nat} (h0 : W m σ H) (hs : ∀ m σ H, W m σ H → c σ H fun b H1 => WhS W m t D b σ H1) : tWhile c t D σ H :=
  ⟨W, ⟨m, h0⟩, hs⟩
theorem x_whT {W : Nat → L2.St → Hp → Prop} {m : Nat} (h : t { D with nx := Less W m, ct := Less W m, bk := D.nx } σ H) : WhS W m t D true σ H := by
  unfold WhS; rw [if_pos rfl]; exact ⟨_, fun _ _ h => h, h⟩
theorem x_whF {W : Nat → L2.St → Hp → Prop} {m : Nat} (h : D.nx σ H) : WhS W m t D false σ H := by
  unfold WhS; rw [if_neg Bool.false_ne_true]; exact h
theorem x_whD {W : Nat → L2.St → Hp → Prop} {m : Nat} {p : Prop} [Decidable p] (h1 : p → t { D with nx := Less W m, ct := Less W m, bk := D.nx } σ H) (h2 : ¬ p → D.nx σ H) : WhS W m t D (decide p) σ H := by
  by_cases h : p
  · rw [decide_eq_true h]; exact x_whT (h1 h)
  · rw [decide_eq_false h]; exact x_whF (h2 h)
/-- what follows a statement is shown once, from Mid -/
theorem x_cut (Mid : L2.St → Hp → Prop) (h : t { D with nx := Mid } σ H) (k : ∀ σ' H', Mid σ' H' → u D σ' H') : C8.tCut t u D σ H := ⟨Mid, h, k⟩
theorem x_aug {i : Nat} {ti : TIp} (e : σ[i]? = some (some x)) (h : te σ H fun y H1 => ti x y H1 fun z H2 => D.nx (σ.set i (some z)) H2) : tAug i te ti D σ H := ⟨x, e, h⟩

/-! methods of lists -/
theorem x_bm {T : String} {r : V → List V → Hp → VK → Prop} {ts : TA} (h : ta σ H fun x H1 => tyV K T x H1 ∧ ts σ H1 fun xs H2 => r x xs H2 Q) : tBM K T r ta ts σ H Q := h
theorem x_bm0 {T : String} {r : V → List V → Hp → VK → Prop} (h : ta σ H fun x H1 => tyV K T x H1 ∧ r x [] H1 Q) : tBM0 K T r ta σ H Q := h
theorem x_tyL {p : Addr} {xs : List V} {R : Prop} (hS : SqL K H p xs) (h : R) : tyV K "list" (.ref p) H ∧ R := ⟨.inl ⟨rfl, xs, hS⟩, h⟩
theorem x_append {l : Addr} {xs : List V} (hl : H l = some (.lst xs)) (hz : xs.length < sizeLine) (h : Q .non (upd H l (.lst (xs ++ [y])))) : rAppend (.ref l) [y] H Q := ⟨l, xs, y, rfl, rfl, hl, hz, h⟩

/-! operators of our own -/
theorem opr_imp {X : Cx} {f : Value → Value → Sem Value} {r r' : R2} (h : OpR X f r) (hi : ∀ x y H Q, r' x y H Q → r x y H Q) : OpR X f r' :=
  fun pins s σ H x y v u Q I rx ry hw => h pins s σ H x y v u Q I rx ry (hi x y H Q hw)
def rShl1 : R2 := fun x y H Q => ∃ k : Nat, x = .int 1 ∧ y = .int (k : Int) ∧ k ≤ 134217727 ∧ Q (.int ((2 ^ k : Nat) : Int)) H
theorem op_shl1 {X : Cx} : OpR X (binaryOp .LShift) rShl1 := opr_imp op_oneShl fun x y H Q ⟨k, h1, h2, h3, q⟩ => ⟨k, h1, h2, h3, by
  have e : ((2 ^ k : Nat) : Int) = 2 ^ k := by simp
  rw [← e]; exact q⟩
theorem x_shl1 {j : Int} {k : Nat} (hj : j = k) (hk : k ≤ 134217727) (h : Q (.int ((2 ^ k : Nat) : Int)) H) : rShl1 (.int 1) (.int j) H Q := ⟨k, rfl, by rw [hj], hk, h⟩
def rShrN : R2 := fun x y H Q => ∃ n k : Nat, x = .int n ∧ y = .int k ∧ Q (.int ((n / 2 ^ k : Nat) : Int)) H
def rShlN : R2 := fun x y H Q => ∃ n k : Nat, x = .int n ∧ y = .int k ∧ n < 2 ^ 64 ∧ k ≤ 1000000 ∧ Q (.int ((n * 2 ^ k : Nat) : Int)) H
def rXorN : R2 := fun x y H Q => ∃ n k : Nat, x = .int n ∧ y = .int k ∧ Q (.int ((n ^^^ k : Nat) : Int)) H
theorem op_shrN' {X : Cx} : OpR X (binaryOp .RShift) rShrN := opr_imp op_shr fun x y H Q ⟨n, k, h1, h2, q⟩ => ⟨n, k, h1, h2, by omega, by
  have e : ((n / 2 ^ k : Nat) : Int) = (n : Int) / 2 ^ (k : Int).toNat := by simp
  show Q (.int ((n : Int) / 2 ^ (k : Int).toNat)) H
  rw [← e]; exact q⟩
theorem op_shlN' {X : Cx} : OpR X (binaryOp .LShift) rShlN := opr_imp op_shl fun x y H Q ⟨n, k, h1, h2, h3, h4, q⟩ => ⟨n, k, h1, h2, ⟨by omega, by omega, by omega⟩, by
  have e : ((n * 2 ^ k : Nat) : Int) = (n : Int) * 2 ^ (k : Int).toNat := by simp
  show Q (.int ((n : Int) * 2 ^ (k : Int).toNat)) H
  rw [← e]; exact q⟩
theorem op_xorN {X : Cx} : OpR X (binaryOp .BitXor) rXorN := opr_imp op_xor fun x y H Q ⟨n, k, h1, h2, q⟩ => ⟨n, k, h1, h2, by
  show Q (.int (Builtin.bitXor n k)) H
  rw [Bits.bitXor_pp (Int.natCast_nonneg _) (Int.natCast_nonneg _)]; exact q⟩
theorem x_shrN {i j : Int} {n k : Nat} (hi : i = n) (hj : j = k) (h : Q (.int ((n / 2 ^ k : Nat) : Int)) H) : rShrN (.int i) (.int j) H Q := ⟨n, k, by rw [hi], by rw [hj], h⟩
theorem x_shlN {i j : Int} {n k : Nat} (hi : i = n) (hj : j = k) (hn : n < 2 ^ 64) (hk : k ≤ 1000000) (h : Q (.int ((n * 2 ^ k : Nat) : Int)) H) : rShlN (.int i) (.int j) H Q := ⟨n, k, by rw [hi], by rw [hj], hn, hk, h⟩
theorem x_xorN {i j : Int} {n k : Nat} (hi : i = n) (hj : j = k) (h : Q (.int ((n ^^^ k : Nat) : Int)) H) : rXorN (.int i) (.int j) H Q := ⟨n, k, by rw [hi], by rw [hj], h⟩
def rBits (Q : VK) : VK := fun x H1 => ∃ i, x = .int i ∧ Q (.int (Builtin.Int.intBits i : Nat)) H1
theorem e_bits : tBits ta σ H Q = ta σ H (rBits Q) := rfl
theorem x_bits {n : Nat} (h : Q (.int ((if n = 0 then 0 else n.log2 + 1 : Nat) : Int)) H) : rBits Q (.int (n : Int)) H := ⟨n, rfl, by
  have e : Builtin.Int.intBits (n : Int) = if n = 0 then 0 else n.log2 + 1 := by unfold Builtin.Int.intBits; simp
  rw [e]; exact h⟩
theorem two_pos {k : Nat} : (0 : Int) < ((2 ^ k : Nat) : Int) := by
  have := Nat.two_pow_pos k
  omega
theorem mod_two_lt {z : Int} {k : Nat} : ∃ r : Nat, r < 2 ^ k ∧ z % ((2 ^ k : Nat) : Int) = r := by
  have h0 := two_pos (k := k)
  have h1 := Int.emod_nonneg z (Int.ne_of_gt h0)
  have h2 := Int.emod_lt_of_pos z h0
  exact ⟨(z % ((2 ^ k : Nat) : Int)).toNat, by omega, by omega⟩
theorem div_two_cast {k : Nat} (z : Int) : z / 2 ^ (k : Int).toNat = z / ((2 ^ k : Nat) : Int) := by simp

/-! within a comprehension: the constants told -/
section
variable {X : Cx} {K : PySem.W.Frag}
theorem op_inK (h : X.K = K) : OpR X (compareOp .In) (rIn K false) := h ▸ op_in_seq
theorem op_notInK (h : X.K = K) : OpR X (compareOp .NotIn) (rIn K true) := h ▸ op_notIn_seq
theorem sl_listK (h : X.K = K) : SlR X (rSlL K) := h ▸ sl_list
theorem ix_listK (h : X.K = K) : IxR X (rIxL K) := h ▸ ix_list
theorem ix_tupK (h : X.K = K) : IxR X (rIxT K) := h ▸ ix_tup
theorem cb_lenK (h : X.K = K) : CallR X (.builtin "len") (rLenS K) := h ▸ cb_len
theorem call_isiK (h : X.K = K) : CallR X (.builtin "isinstance") (rIsi K) := h ▸ call_isi
end
/-! the definitional ones as equations, for dsimp -/
section
variable {K : PySem.W.Frag} {σ : L2.St} {H : Hp} {ta tb te tc : TE} {t u : TS} {c c' : TT} {D : Ends} {Q : VK} {x y v : V} {o : Option V}
theorem e_seq : tSeq t u D σ H = t { D with nx := u D } σ H := rfl
theorem e_next : tNext D σ H = D.nx σ H := rfl
theorem e_asg {g : TG} : tAsg te g D σ H = te σ H fun x H1 => g x σ H1 D.nx := rfl
theorem e_name {i : Nat} {R : L2.St → Hp → Prop} : gName i v σ H R = R (σ.set i (some v)) H := rfl
theorem e_ret : tRet te D σ H = te σ H D.rt := rfl
theorem e_retN : tRetN D σ H = D.rt .non H := rfl
theorem e_drop : tDrop te D σ H = te σ H fun _ H1 => D.nx σ H1 := rfl
theorem e_ifS : tIfS c t u D σ H = c σ H fun b H1 => IfS b t u D σ H1 := rfl
theorem e_IT : IfS true t u D σ H = t D σ H := rfl
theorem e_IF : IfS false t u D σ H = u D σ H := rfl
theorem e_INT : IfS (!true) t u D σ H = u D σ H := rfl
theorem e_INF : IfS (!false) t u D σ H = t D σ H := rfl
theorem e_if {tt : TT} : tIf tt ta tb σ H Q = tt σ H fun b H1 => if b = true then ta σ H1 Q else tb σ H1 Q := rfl
theorem e_varS {i : Nat} : tVar (i + 1) (o :: σ) H Q = tVar i σ H Q := rfl
theorem e_c : tC v σ H Q = Q v H := rfl
theorem e_op {r : R2} : tOp r ta tb σ H Q = ta σ H fun x H1 => tb σ H1 fun y H2 => r x y H2 Q := rfl
theorem e_un {r : V → Hp → VK → Prop} : tUn r ta σ H Q = ta σ H fun x H1 => r x H1 Q := rfl
theorem e_cb {r : List V → Hp → VK → Prop} {ts : TA} : tCB r ts σ H Q = ts σ H fun vs H1 => r vs H1 Q := rfl
theorem e_nil {R : List V → Hp → Prop} : tNil σ H R = R [] H := rfl
theorem e_cons {ts : TA} {R : List V → Hp → Prop} : tCons ta ts σ H R = ta σ H fun x H1 => ts σ H1 fun xs H2 => R (x :: xs) H2 := rfl
theorem e_test {R : Bool → Hp → Prop} : tTest te σ H R = te σ H fun x H' => ∃ k, x = .bl k ∧ R k H' := rfl
theorem e_B {R : Bool → Hp → Prop} : tB te σ H R = te σ H fun x H' => ∃ k, x = .bl k ∧ R k H' := rfl
theorem e_and {R : Bool → Hp → Prop} : tAnd c c' σ H R = c σ H fun b H1 => if b = true then c' σ H1 R else R false H1 := rfl
theorem e_or {R : Bool → Hp → Prop} : tOr c c' σ H R = c σ H fun b H1 => if b = true then R true H1 else c' σ H1 R := rfl
theorem e_not {R : Bool → Hp → Prop} : tNot c σ H R = c σ H fun b H1 => R (!b) H1 := rfl
theorem e_andV : tAndV ta tb σ H Q = ta σ H fun x H1 => ∃ c, x = .bl c ∧ if c = true then tb σ H1 Q else Q (.bl false) H1 := rfl
theorem e_orV : tOrV ta tb σ H Q = ta σ H fun x H1 => ∃ c, x = .bl c ∧ if c = true then Q (.bl true) H1 else tb σ H1 Q := rfl
theorem e_notV : tNotV ta σ H Q = ta σ H fun x H1 => ∃ c, x = .bl c ∧ Q (.bl (!c)) H1 := rfl
theorem e_chain {r r' : R2} : tChain r r' ta tb tc σ H Q = ta σ H fun x H1 => tb σ H1 fun y H2 => r x y H2 fun z H3 => ∃ k, z = .bl k ∧ if k = true then tc σ H3 fun w H4 => r' y w H4 Q else Q (.bl false) H3 := rfl
theorem e_for {wi : TI} {g : TG} {tb : TS} : tFor wi g tb D σ H = wi σ H fun J H1 => ForW g tb D J σ H1 := rfl
theorem e_rng1 {ts : TA} {R : It → Hp → Prop} : iRng1 ts σ H R = ts σ H (Rg1 R) := rfl
theorem e_rng2 {ts : TA} {R : It → Hp → Prop} : iRng2 ts σ H R = ts σ H (Rg2 R) := rfl
theorem e_iList {R : It → Hp → Prop} : iList K ta σ H R = ta σ H (RiL K R) := rfl
theorem e_iTup {R : It → Hp → Prop} : iTup K ta σ H R = ta σ H (RiT K R) := rfl
theorem e_iEnum {ts : TA} {R : It → Hp → Prop} : iEnum K ts σ H R = ts σ H (RiE K R) := rfl
theorem e_iZip {ts : TA} {R : It → Hp → Prop} : iZip K ts σ H R = ts σ H (RiZ K R) := rfl
theorem e_bm {T : String} {r : V → List V → Hp → VK → Prop} {ts : TA} : tBM K T r ta ts σ H Q = ta σ H fun x H1 => tyV K T x H1 ∧ ts σ H1 fun xs H2 => r x xs H2 Q := rfl
theorem e_bm0 {T : String} {r : V → List V → Hp → VK → Prop} : tBM0 K T r ta σ H Q = ta σ H fun x H1 => tyV K T x H1 ∧ r x [] H1 Q := rfl
theorem e_tup {ts : TA} : tTup ts σ H Q = ts σ H fun xs H1 => xs.length ≤ sizeLine ∧ ∀ p, H1 p = none → Q (.ref p) (upd H1 p (.tup xs)) := rfl
theorem e_lst {ts : TA} : tLst ts σ H Q = ts σ H fun xs H1 => xs.length ≤ sizeLine ∧ ∀ p, H1 p = none → Q (.ref p) (upd H1 p (.lst xs)) := rfl
theorem e_calld {sp : Sp} {E : XK} {ds : List V} {ts : TA} : tCall sp ds E ts σ H Q = ts σ H fun vs H1 => sp (vs ++ ds) H1 Q E := rfl
theorem e_T {A B : Prop} : (if true = true then A else B) = A := rfl
theorem e_F {A B : Prop} : (if false = true then A else B) = B := rfl
theorem e_NT {A B : Prop} : (if (!true) = true then A else B) = B := rfl
theorem e_NF {A B : Prop} : (if (!false) = true then A else B) = A := rfl
theorem x_v0 (h : Q v H) : tVar 0 (some v :: σ) H Q := ⟨v, rfl, h⟩
end
/-! pairs that an iterator lays -/
def YPairE (xs ys : Nat → Option V) : Nat → Hp → V → Hp → Prop := fun i H v H' => ∃ T x y, v = .ref T ∧ H T = none ∧ Ex H H' ∧ H' T = some (.tup [x, y]) ∧ xs i = some x ∧ ys i = some y
theorem YPair.e {xs ys : Nat → Option V} {i : Nat} {H : Hp} {v : V} {H' : Hp} (h : YPair xs ys i H v H') : YPairE xs ys i H v H' := by
  obtain ⟨T, x, y, h1, h2, rfl, h4, h5⟩ := h
  exact ⟨T, x, y, h1, h2, Ex.new h2, upd_same, h4, h5⟩
theorem walk_enumE {K : PySem.W.Frag} {a : Addr} {xs : List V} : Walk (Ite K a) xs.length (fun H => SqL K H a xs) (YPairE (fun i => some (.int (i : Nat))) (fun i => xs[i]?)) :=
  walk_enum.mono (fun _ h => h) fun _ _ _ _ _ _ y => YPair.e y
theorem walk_zipE {K : PySem.W.Frag} {a b : Addr} {xs ys : List V} {n : Nat} (hn : n = min xs.length ys.length) : Walk (Itz K a b) n (fun H => SqL K H a xs ∧ SqL K H b ys) (YPairE (fun i => xs[i]?) (fun i => ys[i]?)) :=
  (walk_zip hn).mono (fun _ h => h) fun _ _ _ _ _ _ y => YPair.e y

/-! equality of lists of ints -/
abbrev nV (n : Nat) : V := .int (n : Int)
theorem eqv_ints : ∀ (xs ys : List Int), PyData.eqv (.list (xs.map PyData.int)) (.list (ys.map PyData.int)) = decide (xs = ys)
  | [], [] => rfl
  | [], _ :: _ => rfl
  | _ :: _, [] => rfl
  | x :: xs, y :: ys => by
    have ih := eqv_ints xs ys
    have e : PyData.eqv (.list ((x :: xs).map PyData.int)) (.list ((y :: ys).map PyData.int)) = (decide (x = y) && PyData.eqv (.list (xs.map PyData.int)) (.list (ys.map PyData.int))) := by
      show PyData.eqvAll _ _ = _
      rfl
    rw [e, ih]
    by_cases h : x = y <;> by_cases h2 : xs = ys <;> simp [h, h2]
theorem dpAll_ints {K : PySem.W.Frag} {H : Hp} : ∀ xs : List Int, DpAll K H (xs.map V.int) (xs.map PyData.int)
  | [] => .nil
  | x :: xs => .cons (.int x) (dpAll_ints xs)
theorem shaped_ints (xs : List Int) : SeqAt.shaped (.list (xs.map PyData.int)) = true := by
  induction xs with
  | nil => rfl
  | cons x xs ih =>
    exact ih
theorem eqv_bools : ∀ (xs ys : List Bool), PyData.eqv (.list (xs.map PyData.bool)) (.list (ys.map PyData.bool)) = decide (xs = ys)
  | [], [] => rfl
  | [], _ :: _ => rfl
  | _ :: _, [] => rfl
  | x :: xs, y :: ys => by
    have ih := eqv_bools xs ys
    have e : PyData.eqv (.list ((x :: xs).map PyData.bool)) (.list ((y :: ys).map PyData.bool)) = ((x == y) && PyData.eqv (.list (xs.map PyData.bool)) (.list (ys.map PyData.bool))) := by
      show PyData.eqvAll _ _ = _
      rfl
    rw [e, ih]
    by_cases h : x = y <;> by_cases h2 : xs = ys <;> simp [h, h2]
theorem dpAll_bools {K : PySem.W.Frag} {H : Hp} : ∀ xs : List Bool, DpAll K H (xs.map V.bl) (xs.map PyData.bool)
  | [] => .nil
  | x :: xs => .cons (.bl x) (dpAll_bools xs)
theorem shaped_bools (xs : List Bool) : SeqAt.shaped (.list (xs.map PyData.bool)) = true := by
  induction xs with
  | nil => rfl
  | cons x xs ih => exact ih
theorem x_eqLB {K : PySem.W.Frag} {H : Hp} {Q : VK} {a b : Addr} {xs ys : List Bool} (ha : SqL K H a (xs.map V.bl)) (hb : SqL K H b (ys.map V.bl)) (h : Q (.bl (decide (xs = ys))) H) : rEqD K (.ref a) (.ref b) H Q :=
  ⟨_, _, .lst ha (dpAll_bools xs), .lst hb (dpAll_bools ys), shaped_bools xs, shaped_bools ys, by rw [eqv_bools]; exact h⟩
theorem map_nV (xs : List Nat) : xs.map nV = (xs.map fun n : Nat => (n : Int)).map V.int := by rw [List.map_map]; rfl
theorem nat_inj {xs ys : List Nat} : (xs.map fun n : Nat => (n : Int)) = (ys.map fun n : Nat => (n : Int)) ↔ xs = ys :=
  ⟨fun h => List.map_inj_right (f := fun n : Nat => (n : Int)) (fun a b e => Int.ofNat.inj e) |>.mp h, fun h => by rw [h]⟩
section
variable {K : PySem.W.Frag} {H : Hp} {Q : VK}
theorem x_eqLI {a b : Addr} {xs ys : List Int} (ha : SqL K H a (xs.map V.int)) (hb : SqL K H b (ys.map V.int)) (h : Q (.bl (decide (xs = ys))) H) : rEqD K (.ref a) (.ref b) H Q :=
  ⟨_, _, .lst ha (dpAll_ints xs), .lst hb (dpAll_ints ys), shaped_ints xs, shaped_ints ys, by rw [eqv_ints]; exact h⟩
theorem x_neLI {a b : Addr} {xs ys : List Int} (ha : SqL K H a (xs.map V.int)) (hb : SqL K H b (ys.map V.int)) (h : Q (.bl (!decide (xs = ys))) H) : rNeD K (.ref a) (.ref b) H Q :=
  ⟨_, _, .lst ha (dpAll_ints xs), .lst hb (dpAll_ints ys), shaped_ints xs, shaped_ints ys, by rw [eqv_ints]; exact h⟩
theorem x_eqLN {a b : Addr} {xs ys : List Nat} (ha : SqL K H a (xs.map nV)) (hb : SqL K H b (ys.map nV)) (h : Q (.bl (decide (xs = ys))) H) : rEqD K (.ref a) (.ref b) H Q := by
  rw [map_nV] at ha hb
  refine x_eqLI ha hb ?_
  have e : decide ((xs.map fun n : Nat => (n : Int)) = (ys.map fun n : Nat => (n : Int))) = decide (xs = ys) := decide_eq_decide.mpr nat_inj
  rw [e]; exact h
theorem x_neLN {a b : Addr} {xs ys : List Nat} (ha : SqL K H a (xs.map nV)) (hb : SqL K H b (ys.map nV)) (h : Q (.bl (!decide (xs = ys))) H) : rNeD K (.ref a) (.ref b) H Q := by
  rw [map_nV] at ha hb
  refine x_neLI ha hb ?_
  have e : decide ((xs.map fun n : Nat => (n : Int)) = (ys.map fun n : Nat => (n : Int))) = decide (xs = ys) := decide_eq_decide.mpr nat_inj
  rw [e]; exact h
end

/-! comprehensions over a list: one name, one test or none -/
def LcW (g : TG) (tt : TT) (te : TE) (vs : List Nat) (σ : L2.St) (Q : VK) : It → Hp → Prop := fun J H1 => ∀ D, H1 D = none → ∃ W : Nat → Nat → Hp → Prop, (∃ m, W 0 m (upd H1 D (.lst []))) ∧ ∀ i m H, W i m H →
  (J.stop i H ∧ Q (.ref D) H) ∨ (J.go i H ∧ ∃ Nx : Hp → Prop, (∀ H', Nx H' → ∃ m', m' < m ∧ W (i + 1) m' H') ∧ ∀ x H', J.yld i H x H' → g x (wipe σ vs) H' fun σ2 H2 => wipe σ2 vs = wipe σ vs ∧ tt σ2 H2 fun b H3 =>
    if b = true then te σ2 H3 fun y H4 => ∃ acc, H4 D = some (.lst acc) ∧ acc.length < sizeLine ∧ Nx (upd H4 D (.lst (acc ++ [y]))) else Nx H3)
theorem e_lc {wi : TI} {g : TG} {tt : TT} {te : TE} {vs : List Nat} {σ : L2.St} {H : Hp} {Q : VK} : tLc wi g tt te vs σ H Q = wi σ H (LcW g tt te vs σ Q) := rfl
theorem e_wipe0 {σ : L2.St} : wipe σ [] = σ := rfl
theorem e_wipe1 {σ : L2.St} {v : Nat} {vs : List Nat} : wipe σ (v :: vs) = (wipe σ vs).set v none := rfl
theorem e_yes {σ : L2.St} {H : Hp} {R : Bool → Hp → Prop} : tYes σ H R = R true H := rfl
theorem wipe_set1 {σ : L2.St} {i : Nat} {v : Option V} : wipe ((wipe σ [i]).set i v) [i] = wipe σ [i] := by
  show (((σ.set i none).set i v).set i none) = σ.set i none
  rw [List.set_set, List.set_set]
section
variable {K : PySem.W.Frag} {H : Hp} {Q : VK} {σ : L2.St} {tl te : TE} {tt : TT} {k : Nat}
/-- the list stands; test and element are reckoned of each item and change nothing that stood -/
theorem LcW.fmA {α : Type} {emb : α → V} {a : Addr} {xs : List α} (p : α → Bool) (f : α → V) (hS : SqL K H a (xs.map emb)) (hz : xs.length < sizeLine)
    (ht : ∀ x ∈ xs, ∀ H', Ex H H' → ∀ R : Bool → Hp → Prop, (∀ H'', Ex H' H'' → R (p x) H'') → tt ((wipe σ [k]).set k (some (emb x))) H' R)
    (he : ∀ x ∈ xs, p x = true → ∀ H', Ex H H' → ∀ Qe : VK, (∀ H'', Ex H' H'' → Qe (f x) H'') → te ((wipe σ [k]).set k (some (emb x))) H' Qe)
    (hk : ∀ D H', H D = none → Ex H H' → H' D = some (.lst ((xs.filter p).map f)) → Q (.ref D) H') :
    LcW (gName k) tt te [k] σ Q (Itl K a) H := by
  intro D hD
  refine lc_list (K := K) (a := a) (xs := xs.map emb) (Qd := fun H' => Q (.ref D) H') (fun i H' => Ex H H' ∧ H' D = some (.lst (((xs.take i).filter p).map f))) ⟨Ex.new hD, by rw [upd_same]; rfl⟩ (fun i H' _ h => h.1.ls hS) ?_ ?_
  · rintro i y H1 hx ⟨ex, h1⟩
    obtain ⟨x, hxi, rfl⟩ : ∃ x, xs[i]? = some x ∧ y = emb x := by
      rw [List.getElem?_map] at hx
      cases e : xs[i]? with
      | none => rw [e] at hx; cases hx
      | some x => rw [e] at hx; exact ⟨x, rfl, (Option.some.inj hx).symm⟩
    have hm : x ∈ xs := List.mem_of_getElem? hxi
    have et : xs.take (i + 1) = xs.take i ++ [x] := by rw [List.take_add_one, hxi]; rfl
    refine ⟨wipe_set1, ht x hm H1 ex _ fun H2 ex2 => ?_⟩
    cases hp : p x with
    | true =>
      refine iteT (he x hm hp H2 (ex.trans ex2) _ fun H3 ex3 => ⟨_, ex3.at (ex2.at h1), ?_, ?_, ?_⟩)
      · rw [List.length_map]
        exact Nat.lt_of_le_of_lt (Nat.le_trans (List.length_filter_le _ _) (List.length_take_le' _ _)) hz
      · exact ((ex.trans ex2).trans ex3).mut hD (ex3.at (ex2.at h1))
      · rw [upd_same, et, List.filter_append, List.map_append]
        simp [hp]
    | false =>
      refine iteF ⟨ex.trans ex2, ?_⟩
      rw [et, List.filter_append, List.map_append]
      simp [hp]
      simpa using ex2.at h1
  · rintro H1 ⟨ex, h1⟩
    rw [List.length_map, List.take_length] at h1
    exact hk D H1 hD ex h1
theorem LcW.fm {a : Addr} {xs : List V} (p : V → Bool) (f : V → V) (hS : SqL K H a xs) (hz : xs.length < sizeLine)
    (ht : ∀ x ∈ xs, ∀ H', Ex H H' → ∀ R : Bool → Hp → Prop, (∀ H'', Ex H' H'' → R (p x) H'') → tt ((wipe σ [k]).set k (some x)) H' R)
    (he : ∀ x ∈ xs, p x = true → ∀ H', Ex H H' → ∀ Qe : VK, (∀ H'', Ex H' H'' → Qe (f x) H'') → te ((wipe σ [k]).set k (some x)) H' Qe)
    (hk : ∀ D H', H D = none → Ex H H' → H' D = some (.lst ((xs.filter p).map f)) → Q (.ref D) H') :
    LcW (gName k) tt te [k] σ Q (Itl K a) H := LcW.fmA (emb := id) p f (by rw [List.map_id]; exact hS) hz ht he hk
/-- over whatever walks; item, test and element are reckoned and change nothing that stood -/
theorem LcW.fmW {J : It} {n : Nat} {G : Hp → Prop} {Y : Nat → Hp → V → Hp → Prop} (w : Walk J n G Y) (hz : n < sizeLine) (g : Nat → V) (p : Nat → Bool) (f : Nat → V) (hG : ∀ H', Ex H H' → G H') (hY : ∀ i H1 x H2, i < n → Y i H1 x H2 → x = g i ∧ Ex H1 H2)
    (ht : ∀ i, i < n → ∀ H', Ex H H' → ∀ R : Bool → Hp → Prop, (∀ H'', Ex H' H'' → R (p i) H'') → tt ((wipe σ [k]).set k (some (g i))) H' R)
    (he : ∀ i, i < n → p i = true → ∀ H', Ex H H' → ∀ Qe : VK, (∀ H'', Ex H' H'' → Qe (f i) H'') → te ((wipe σ [k]).set k (some (g i))) H' Qe)
    (hk : ∀ D H', H D = none → Ex H H' → H' D = some (.lst (((List.range n).filter p).map f)) → Q (.ref D) H') : LcW (gName k) tt te [k] σ Q J H := by
  intro D hD
  refine lc_it w (Qd := fun H' => Q (.ref D) H') (fun i H' => Ex H H' ∧ H' D = some (.lst (((List.range i).filter p).map f))) ⟨Ex.new hD, by rw [upd_same]; rfl⟩ (fun i H' _ h => hG H' h.1) ?_ ?_
  · rintro i x H1 H2 hi ⟨ex, h1⟩ y
    obtain ⟨rfl, ex12⟩ := hY i H1 x H2 hi y
    have ex2 := ex.trans ex12
    have h2 := ex12.at h1
    refine ⟨wipe_set1, ht i hi H2 ex2 _ fun H3 ex3 => ?_⟩
    have h3 := ex3.at h2
    have ex03 := ex2.trans ex3
    cases hp : p i with
    | true =>
      refine iteT (he i hi hp H3 ex03 _ fun H4 ex4 => ⟨_, ex4.at h3, ?_, (ex03.trans ex4).mut hD (ex4.at h3), ?_⟩)
      · rw [List.length_map]
        exact Nat.lt_of_le_of_lt (Nat.le_trans (List.length_filter_le _ _) (by rw [List.length_range]; omega)) hz
      · rw [upd_same, List.range_succ, List.filter_append, List.map_append]
        simp [hp]
    | false =>
      refine iteF ⟨ex03, ?_⟩
      rw [List.range_succ, List.filter_append, List.map_append]
      simp [hp]
      simpa using h3
  · rintro H1 ⟨ex, h1⟩
    exact hk D H1 hD ex h1
/-- over range(n) -/
theorem LcW.rng {n : Nat} (hz : n < sizeLine) (p : Nat → Bool) (f : Nat → V)
    (ht : ∀ i, i < n → ∀ H', Ex H H' → ∀ R : Bool → Hp → Prop, (∀ H'', Ex H' H'' → R (p i) H'') → tt ((wipe σ [k]).set k (some (nV i))) H' R)
    (he : ∀ i, i < n → p i = true → ∀ H', Ex H H' → ∀ Qe : VK, (∀ H'', Ex H' H'' → Qe (f i) H'') → te ((wipe σ [k]).set k (some (nV i))) H' Qe)
    (hk : ∀ D H', H D = none → Ex H H' → H' D = some (.lst (((List.range n).filter p).map f)) → Q (.ref D) H') : LcW (gName k) tt te [k] σ Q (Itr 0 n) H :=
  LcW.fmW walk_rgN hz nV p f (fun _ _ => trivial) (fun i H1 x H2 _ y => ⟨y.2, by rw [y.1]; exact Ex.refl⟩) ht he hk
/-- a plain map -/
theorem LcW.map {α : Type} {emb : α → V} {a : Addr} {xs : List α} (f : α → V) (hS : SqL K H a (xs.map emb)) (hz : xs.length < sizeLine)
    (he : ∀ x ∈ xs, ∀ H', Ex H H' → ∀ Qe : VK, (∀ H'', Ex H' H'' → Qe (f x) H'') → te ((wipe σ [k]).set k (some (emb x))) H' Qe)
    (hk : ∀ D H', H D = none → Ex H H' → H' D = some (.lst (xs.map f)) → Q (.ref D) H') :
    LcW (gName k) tYes te [k] σ Q (Itl K a) H :=
  LcW.fmA (fun _ => true) f hS hz (fun _ _ _ _ _ h => h _ Ex.refl) (fun x hx _ H' e Qe h => he x hx H' e Qe h) fun D H' h1 h2 h3 => hk D H' h1 h2 (by rw [h3, List.filter_eq_self.mpr fun _ _ => rfl])
/-- a plain filter -/
theorem LcW.filt {α : Type} {emb : α → V} {a : Addr} {xs : List α} (p : α → Bool) (hS : SqL K H a (xs.map emb)) (hz : xs.length < sizeLine)
    (ht : ∀ x ∈ xs, ∀ H', Ex H H' → ∀ R : Bool → Hp → Prop, (∀ H'', Ex H' H'' → R (p x) H'') → tt ((wipe σ [k]).set k (some (emb x))) H' R)
    (he : ∀ x ∈ xs, p x = true → ∀ H', Ex H H' → ∀ Qe : VK, Qe (emb x) H' → te ((wipe σ [k]).set k (some (emb x))) H' Qe)
    (hk : ∀ D H', H D = none → Ex H H' → H' D = some (.lst ((xs.filter p).map emb)) → Q (.ref D) H') :
    LcW (gName k) tt te [k] σ Q (Itl K a) H :=
  LcW.fmA p emb hS hz ht (fun x hx hp H' e Qe h => he x hx hp H' e Qe (h H' Ex.refl)) hk
end

theorem lt_ok {xs : List V} (h : decide (xs.length ≤ 1000) = true) : xs.length < sizeLine := Nat.lt_of_le_of_lt (of_decide_eq_true h) (by decide)
theorem len_ok {xs : List V} (h : decide (xs.length ≤ 1000) = true) : xs.length ≤ sizeLine := Nat.le_trans (of_decide_eq_true h) (by decide)
/-! dicts -/
abbrev nK (n : Nat) : Key := .inl (n : Int)
theorem nK_inj {a b : Nat} (h : nK a = nK b) : a = b := Int.ofNat.inj (Sum.inl.inj h)
def RDg (Q : VK) : V → V → Hp → Prop := fun x y H2 => ∃ a v, x = .ref a ∧ DGet H2 a y (some v) ∧ Q v H2
def RDi (Q : VK) : V → V → Hp → Prop := fun x y H2 => ∃ a o, x = .ref a ∧ DGet H2 a y o ∧ Q (.bl o.isSome) H2
def RDn (Q : VK) : V → V → Hp → Prop := fun x y H2 => ∃ a o, x = .ref a ∧ DGet H2 a y o ∧ Q (.bl (!o.isSome)) H2
def RDp (R : Hp → Prop) : V → V → V → Hp → Prop := fun x y v H3 => ∃ a H4, x = .ref a ∧ DPut H3 a y v H4 ∧ R H4
def RDN (Q : VK) : Hp → Prop := fun H => ∀ p, H p = none → Q (.ref p) (upd H p (.dK []))
section
variable {K : PySem.W.Frag} {σ : L2.St} {H : Hp} {td ty tv tx : TE} {D : Ends} {Q : VK}
theorem e_dget : tDGet td ty σ H Q = td σ H fun x H1 => ty σ H1 fun y H2 => RDg Q x y H2 := rfl
theorem e_din : tDIn ty td σ H Q = ty σ H fun y H1 => td σ H1 fun x H2 => RDi Q x y H2 := rfl
theorem e_dnin : tDNotIn ty td σ H Q = ty σ H fun y H1 => td σ H1 fun x H2 => RDn Q x y H2 := rfl
theorem e_dput : sDPut td ty tv D σ H = tv σ H fun v H1 => td σ H1 fun x H2 => ty σ H2 fun y H3 => RDp (D.nx σ) x y v H3 := rfl
theorem e_dnew : tDNewK σ H Q = RDN Q H := rfl
theorem x_dget {a : Addr} {kvs : List (Key × V)} {i : Int} {v : V} (h : H a = some (.dK kvs)) (e : valV kvs (.inl i) = some v) (k : Q v H) : RDg Q (.ref a) (.int i) H := ⟨a, v, rfl, .inl ⟨kvs, .inl i, .inl h, rfl, e.symm⟩, k⟩
theorem x_din {a : Addr} {kvs : List (Key × V)} {i : Int} (h : H a = some (.dK kvs)) (k : Q (.bl (valV kvs (.inl i)).isSome) H) : RDi Q (.ref a) (.int i) H := ⟨a, _, rfl, .inl ⟨kvs, .inl i, .inl h, rfl, rfl⟩, k⟩
theorem x_dnin {a : Addr} {kvs : List (Key × V)} {i : Int} (h : H a = some (.dK kvs)) (k : Q (.bl (!(valV kvs (.inl i)).isSome)) H) : RDn Q (.ref a) (.int i) H := ⟨a, _, rfl, .inl ⟨kvs, .inl i, .inl h, rfl, rfl⟩, k⟩
theorem x_dput {R : Hp → Prop} {a : Addr} {kvs : List (Key × V)} {i : Int} {v : V} (h : H a = some (.dK kvs)) (hz : kvs.length < sizeLine) (k : R (upd H a (.dK (putK kvs (.inl i) v)))) : RDp R (.ref a) (.int i) v H := ⟨a, _, rfl, .inl ⟨kvs, .inl i, h, rfl, hz, rfl⟩, k⟩
theorem x_dnew (h : ∀ p, H p = none → Q (.ref p) (upd H p (.dK []))) : RDN Q H := h
end
/-- sorted(d), d's keys ints, fewer than 64 -/
def rSortDI : List V → Hp → VK → Prop := fun xs H Q => ∃ (a : Addr) (kvs : List (Key × V)) (ks : List Int), xs = [.ref a] ∧ Rd H a (.dK kvs) ∧ kvs.map (·.1) = ks.map Sum.inl ∧ ks.length < 64 ∧
    ∀ (ys : List Int) (p : Addr), ys.Perm ks → ys.Pairwise (· ≤ ·) → H p = none → Q (.ref p) (upd H p (.lst (ys.map V.int)))
theorem cb_sortD {X : Cx} (hc : X.calm = true) : CallR X (.builtin "sorted") rSortDI := call_sortedDI hc

/-! objects: fields, methods -/
def RFld (K : PySem.W.Frag) (f : Str) (Q : VK) : VK := fun x H1 => ∃ a C dx fs v, x = .ref a ∧ H1 a = some (.ins C dx fs) ∧ Cls K C ∧ NoAttr K C f ∧ fs.lookup f = some v ∧ Q v H1
def RSf (K : PySem.W.Frag) (f : Str) (y : V) (R : Hp → Prop) : VK := fun x H2 => ∃ a C dx fs, x = .ref a ∧ H2 a = some (.ins C dx fs) ∧ Cls K C ∧ NoAttr K C f ∧ fs.length < 1000 ∧ R (upd H2 a (.ins C dx (putF f y fs)))
def RMt (C : Addr) (m : Str) (sp : Sp) (dvs : List V) (E : XK) (t : TA) (σ : L2.St) (Q : VK) : VK := fun x H1 => ∃ a dx fs, x = .ref a ∧ H1 a = some (.ins C dx fs) ∧ fs.lookup m = none ∧ t σ H1 fun vs H2 => sp (x :: (vs ++ dvs)) H2 Q E
section
variable {K : PySem.W.Frag} {σ : L2.St} {H : Hp} {ta tv : TE} {D : Ends} {Q : VK} {v y : V} {f m : Str} {a C dx : Addr} {fs : List (Str × V)} {sp : Sp} {dvs : List V} {E : XK} {t : TA}
theorem e_fld : tFld K ta f σ H Q = ta σ H (RFld K f Q) := rfl
theorem e_sfld : sFld K ta tv f D σ H = tv σ H fun y H1 => ta σ H1 (RSf K f y (D.nx σ)) := rfl
theorem e_meth : tMeth C m sp dvs E ta t σ H Q = ta σ H (RMt C m sp dvs E t σ Q) := rfl
theorem x_fld (h : H a = some (.ins C dx fs)) (c : Cls K C) (n : NoAttr K C f) (l : fs.lookup f = some v) (k : Q v H) : RFld K f Q (.ref a) H := ⟨a, C, dx, fs, v, rfl, h, c, n, l, k⟩
theorem x_sfld {R : Hp → Prop} {fs' : List (Str × V)} (h : H a = some (.ins C dx fs)) (c : Cls K C) (n : NoAttr K C f) (e : putF f y fs = fs') (hz : decide (fs.length < 1000) = true) (k : R (upd H a (.ins C dx fs'))) : RSf K f y R (.ref a) H := ⟨a, C, dx, fs, rfl, h, c, n, of_decide_eq_true hz, by rw [e]; exact k⟩
theorem x_meth (h : H a = some (.ins C dx fs)) (l : fs.lookup m = none) (k : t σ H fun vs H2 => sp (.ref a :: (vs ++ dvs)) H2 Q E) : RMt C m sp dvs E t σ Q (.ref a) H := ⟨a, dx, fs, rfl, h, l, k⟩
end
/-! slices -/
section
variable {K : PySem.W.Frag} {σ : L2.St} {H : Hp} {ta : TE} {tl th : TO} {Q : VK} {R : Option Int → Hp → Prop}
theorem e_sl {r : V → Option Int → Option Int → Hp → VK → Prop} : tSl r ta tl th σ H Q = ta σ H fun x H1 => tl σ H1 fun l H2 => th σ H2 fun u H3 => r x l u H3 Q := rfl
theorem e_nopart : tNoPart σ H R = R none H := rfl
def RPt (R : Option Int → Hp → Prop) : VK := fun x H1 => ∃ i, x = .int i ∧ R (some i) H1
theorem e_part : tPart ta σ H R = ta σ H (RPt R) := rfl
theorem x_part {i : Int} (h : R (some i) H) : RPt R (.int i) H := ⟨i, rfl, h⟩
theorem x_slL {p : Addr} {xs : List V} {lo hi : Option Int} (hS : SqL K H p xs) (h : ∀ q, H q = none → Q (.ref q) (upd H q (.lst (cutV xs lo hi)))) : rSlL K (.ref p) lo hi H Q := ⟨p, xs, rfl, hS, h⟩
theorem cut_take {xs : List V} {k : Nat} : cutV xs none (some (k : Int)) = xs.take k := by
  unfold cutV
  rw [HT.sIx_none, HT.sIx_nat, List.drop_zero, Nat.sub_zero]
  by_cases h : k ≤ xs.length
  · rw [Nat.min_eq_left h]
  · rw [Nat.min_eq_right (by omega), List.take_of_length_le (Nat.le_refl _), List.take_of_length_le (i := k) (by omega)]
theorem cut_drop {xs : List V} {k : Nat} : cutV xs (some (k : Int)) none = xs.drop k := by
  unfold cutV
  rw [HT.sIx_none, HT.sIx_nat]
  by_cases h : k ≤ xs.length
  · rw [Nat.min_eq_left h, List.take_of_length_le (by rw [List.length_drop]; omega)]
  · rw [Nat.min_eq_right (by omega), List.drop_of_length_le (Nat.le_refl _), List.drop_of_length_le (by omega), List.take_nil]
end
/-! members, methods of lists of names -/
theorem inV_nat {n : Nat} : ∀ {ns : List Nat}, inV (nV n) (ns.map nV) = decide (n ∈ ns)
  | [] => rfl
  | m :: r => by
    have ih := inV_nat (n := n) (ns := r)
    unfold inV at ih ⊢
    rw [List.map_cons, List.any_cons, ih]
    show (((m : Int) == (n : Int)) || decide (n ∈ r)) = _
    by_cases e : m = n
    · simp [e]
    · have e' : ¬ (m : Int) = n := fun z => e (Int.ofNat.inj z)
      simp [e', Ne.symm e]
theorem flat_nat (ns : List Nat) : (ns.map nV).all flatV = true := by
  rw [List.all_eq_true]
  intro x hx
  obtain ⟨n, _, rfl⟩ := List.mem_map.mp hx
  rfl
section
variable {K : PySem.W.Frag} {H : Hp} {Q : VK}
theorem x_inN {i : Int} {n : Nat} {p : Addr} {ns : List Nat} (hi : i = n) (hS : SqL K H p (ns.map nV)) (h : Q (.bl (decide (n ∈ ns))) H) : rIn K false (.int i) (.ref p) H Q := by
  subst hi; exact ⟨p, _, rfl, .inl hS, rfl, flat_nat ns, by rw [inV_nat]; exact h⟩
theorem x_ninN {i : Int} {n : Nat} {p : Addr} {ns : List Nat} (hi : i = n) (hS : SqL K H p (ns.map nV)) (h : Q (.bl (!decide (n ∈ ns))) H) : rIn K true (.int i) (.ref p) H Q := by
  subst hi; exact ⟨p, _, rfl, .inl hS, rfl, flat_nat ns, by rw [inV_nat]; exact h⟩
theorem erase_first {n : Nat} : ∀ {ns : List Nat}, n ∈ ns → ∃ j : Nat, (ns.map fun n : Nat => (n : Int))[j]? = some (n : Int) ∧ (∀ m : Nat, m < j → (ns.map fun n : Nat => (n : Int))[m]? ≠ some (n : Int)) ∧ ns.eraseIdx j = ns.erase n
  | [], h => by cases h
  | m :: r, h => by
    by_cases e : m = n
    · refine ⟨0, by simp [e], fun m h => absurd h (Nat.not_lt_zero _), by simp [e]⟩
    · have hr : n ∈ r := by
        rcases List.mem_cons.mp h with z | z
        · exact absurd z.symm e
        · exact z
      obtain ⟨j, h1, h2, h3⟩ := erase_first hr
      refine ⟨j + 1, by simpa using h1, fun k hk => ?_, ?_⟩
      · cases k with
        | zero =>
          intro z
          have z : some ((m : Nat) : Int) = some (n : Int) := z
          exact e (Int.ofNat.inj (Option.some.inj z))
        | succ k => exact h2 k (by omega)
      · rw [List.eraseIdx_cons_succ, h3, List.erase_cons_tail (by simpa using e)]
theorem eraseIdx_mapV {α β : Type} (f : α → β) : ∀ (xs : List α) (j : Nat), (xs.map f).eraseIdx j = (xs.eraseIdx j).map f
  | [], _ => rfl
  | _ :: _, 0 => rfl
  | x :: r, j + 1 => by
    show f x :: (r.map f).eraseIdx j = f x :: (r.eraseIdx j).map f
    rw [eraseIdx_mapV f r j]
theorem x_remove {i : Int} {n : Nat} {l : Addr} {ns : List Nat} (hi : i = n) (hl : H l = some (.lst (ns.map nV))) (hn : n ∈ ns) (h : Q .non (upd H l (.lst ((ns.erase n).map nV)))) : rRemI (.ref l) [.int i] H Q := by
  subst hi
  obtain ⟨j, h1, h2, h3⟩ := erase_first hn
  refine ⟨l, ns.map fun n : Nat => (n : Int), n, j, rfl, rfl, by rw [← map_nV]; exact hl, h1, h2, ?_⟩
  have e : ((ns.map fun n : Nat => (n : Int)).eraseIdx j).map V.int = (ns.erase n).map nV := by
    rw [eraseIdx_mapV, h3, ← map_nV]
  rw [e]; exact h
theorem x_pop0 {l : Addr} {x : V} {xs : List V} (hl : H l = some (.lst (x :: xs))) (h : Q x (upd H l (.lst xs))) : rPopAt (.ref l) [.int 0] H Q :=
  ⟨l, x :: xs, 0, 0, x, rfl, rfl, hl, by decide, by decide, by unfold seqIndex?; simp, rfl, h⟩
end

/-! len(set(names)), [:-1] -/
def RLs (K : PySem.W.Frag) (Q : VK) : VK := fun x H1 => ∃ (l : Addr) (ns : List Int), x = .ref l ∧ SqL K H1 l (ns.map V.int) ∧ ns.Nodup ∧ ns.length ≤ 4000 ∧ Q (.int (ns.length : Nat)) H1
theorem e_lenSet {K : PySem.W.Frag} {σ : L2.St} {H : Hp} {ta : TE} {Q : VK} : RZ.tLenSetI K ta σ H Q = ta σ H (RLs K Q) := rfl
theorem x_lenSet {K : PySem.W.Frag} {H : Hp} {Q : VK} {a : Addr} {ns : List Nat} (hS : SqL K H a (ns.map nV)) (nd : ns.Nodup) (hz : ns.length ≤ 4000) (h : Q (.int (ns.length : Nat)) H) : RLs K Q (.ref a) H :=
  ⟨a, ns.map fun n : Nat => (n : Int), rfl, by rw [← map_nV]; exact hS, List.Pairwise.map _ (fun a b h e => h (Int.ofNat.inj e)) nd, by rw [List.length_map]; exact hz, by rw [List.length_map]; exact h⟩
theorem cut_init {xs : List V} : cutV xs none (some (-1)) = xs.dropLast := by
  unfold cutV
  rw [HT.sIx_none, List.drop_zero, Nat.sub_zero]
  have e : HT.sIx xs.length xs.length (some (-1)) = xs.length - 1 := by
    unfold HT.sIx
    simp
    omega
  rw [e, List.dropLast_eq_take]
theorem x_truB {K : PySem.W.Frag} {H : Hp} {R : Bool → Prop} {b : Bool} (h : R b) : ∃ k, TruV K (.bl b) H k ∧ R k := ⟨b, rfl, h⟩
/-! is None, is not None -/
def rIsNn : R2 := fun x y H Q => y = .non ∧ Q (.bl (decide (x = .non))) H
def rNotNn : R2 := fun x y H Q => y = .non ∧ Q (.bl (!decide (x = .non))) H
theorem op_isNn {X : Cx} : OpR X (compareOp .Is) rIsNn := op_isN
theorem op_notNn {X : Cx} : OpR X (compareOp .IsNot) rNotNn := op_notN
section
variable {H : Hp} {Q : VK} {i : Int} {b : Bool} {z : Str} {a : Addr}
theorem x_isNN (h : Q (.bl true) H) : rIsNn .non .non H Q := ⟨rfl, by rw [decide_eq_true rfl]; exact h⟩
theorem x_isNI (h : Q (.bl false) H) : rIsNn (.int i) .non H Q := ⟨rfl, by rw [decide_eq_false (fun z => by cases z)]; exact h⟩
theorem x_isNB (h : Q (.bl false) H) : rIsNn (.bl b) .non H Q := ⟨rfl, by rw [decide_eq_false (fun z => by cases z)]; exact h⟩
theorem x_isNS (h : Q (.bl false) H) : rIsNn (.str z) .non H Q := ⟨rfl, by rw [decide_eq_false (fun z => by cases z)]; exact h⟩
theorem x_isNR (h : Q (.bl false) H) : rIsNn (.ref a) .non H Q := ⟨rfl, by rw [decide_eq_false (fun z => by cases z)]; exact h⟩
theorem x_notNN (h : Q (.bl false) H) : rNotNn .non .non H Q := ⟨rfl, by rw [decide_eq_true rfl]; exact h⟩
theorem x_notNI (h : Q (.bl true) H) : rNotNn (.int i) .non H Q := ⟨rfl, by rw [decide_eq_false (fun z => by cases z)]; exact h⟩
theorem x_notNB (h : Q (.bl true) H) : rNotNn (.bl b) .non H Q := ⟨rfl, by rw [decide_eq_false (fun z => by cases z)]; exact h⟩
theorem x_notNS (h : Q (.bl true) H) : rNotNn (.str z) .non H Q := ⟨rfl, by rw [decide_eq_false (fun z => by cases z)]; exact h⟩
theorem x_notNR (h : Q (.bl true) H) : rNotNn (.ref a) .non H Q := ⟨rfl, by rw [decide_eq_false (fun z => by cases z)]; exact h⟩
end
/-! new objects -/
theorem x_new {A : Prop} {R : Addr → Prop} (ha : A) (h : ∀ p, H p = none → R p) : A ∧ ∀ p, H p = none → R p := ⟨ha, h⟩
/-- a def with defaults, no exception out -/
theorem _root_.L2.FunD.okD {P : Program} {w : World} {K : PySem.W.Frag} {mg : Str → Option Value} {base : Heap} {x qual : Str} {st : Stmt} {f : Addr} {fd : FuncData} {dvs : List V} {kws : List (Str × V)} {N ps : List Str} {k : Nat} {sp : Sp} (F : FunD K x qual (defArgs st) (defBody st) (defScope st) dvs kws f fd) (S : FnScope N ps (defScope st)) (len : ∀ vs H Q E, sp vs H Q E → vs.length = ps.length)
    (hbody : ∀ (cdv : Value) (A : Around) (outer : List Env) (s : Shared) (H : Hp) (vs : List V) (Q : VK) (E : XK), Room k (A.deeper (PyProof.Rows.envOfC qual (defScope st) s.heap.objs.size f cdv)) → sp vs H Q E →
      ∃ t, PSs (cxOf CX0 P w K mg base N qual (defScope st) f cdv A outer s H E).nox (defBody st) t ∧ t { nx := fun _ H' => Q .non H', rt := Q } (start N vs) H) : FnOk P w K mg base CX0 (k + 1) f fd ps sp :=
  F.ok (CX := CX0) S len fun cdv A outer s H vs Q E hr h => let ⟨t, a, b⟩ := hbody cdv A outer s H vs Q E hr h; ⟨t, a.nox, b⟩
theorem fund_mk {K : PySem.W.Frag} {x qual : Str} {st : Stmt} {f D : Addr} {oc tc : Value} {od an td : Option Addr} {osl tl : Array (Option Value)} {kV doc pm cdv ct : Value} {tn : Nat} {its : List Value} {ds : List V} (l : K.lookup f = some ⟨oc, od, .func (PySem.W.fnOf x qual (defArgs st) (defBody st) (defScope st) (.ref D) kV doc pm an cdv ct), osl⟩)
    (c : PySem.W.codeIn K cdv qual = true) (k : PySem.W.keepIn K (.ref f) = true) (t : K.lookup D = some ⟨tc, td, .seq its.toArray tn, tl⟩) (v : Vals ds its) (hd : ds ≠ [] := by simp) : FunD K x qual (defArgs st) (defBody st) (defScope st) ds [] f (PySem.W.fnOf x qual (defArgs st) (defBody st) (defScope st) (.ref D) kV doc pm an cdv ct) :=
  ⟨⟨oc, od, .ref D, kV, doc, pm, an, cdv, ct, osl, rfl, l, c, .inr ⟨hd, D, _, its, tn, rfl, t, rfl, v⟩, .inl rfl⟩, k⟩
theorem vnil {K : PySem.W.Frag} {fd : FuncData} {ps : List Str} {ds : List Value} (v : Vals [] ds) (b : Binds K fd ps ds) : Binds K fd ps [] := by
  cases v
  exact b
/-! making, sorting, extending; comprehensions over whatever walks -/
def RMk (C : Addr) (sp : Sp) (dvs : List V) (E : XK) (Q : VK) : List V → Hp → Prop := fun vs H1 => ∀ x dx, H1 x = none → H1 dx = none → dx ≠ x → sp (.ref x :: (vs ++ dvs)) (upd (upd H1 dx (.own x)) x (.ins C dx [])) (fun v H2 => v = .non ∧ Q (.ref x) H2) E
theorem e_make {C : Addr} {sp : Sp} {dvs : List V} {E : XK} {t : TA} {σ : L2.St} {H : Hp} {Q : VK} : tMake C sp dvs E t σ H Q = t σ H (RMk C sp dvs E Q) := rfl
theorem x_make {C : Addr} {sp : Sp} {dvs vs : List V} {E : XK} {H : Hp} {Q : VK} (h : ∀ x dx H1, H x = none → Ex H H1 → H1 x = some (.ins C dx []) → sp (.ref x :: (vs ++ dvs)) H1 (fun v H2 => v = .non ∧ Q (.ref x) H2) E) : RMk C sp dvs E Q vs H :=
  fun x dx hx hdx ne => h x dx _ hx ((Ex.new hdx).newT (by rw [upd_ne (Ne.symm ne)]; exact hx)) upd_same
theorem x_extend {H : Hp} {Q : VK} {l b : Addr} {xs zs : List V} (hl : H l = some (.lst xs)) (hb : H b = some (.lst zs)) (hz : xs.length + zs.length ≤ sizeLine) (h : Q .non (upd H l (.lst (xs ++ zs)))) : rExtend (.ref l) [.ref b] H Q := ⟨l, b, xs, zs, rfl, rfl, hl, hb, hz, h⟩
theorem x_clear {H : Hp} {Q : VK} {l : Addr} {xs : List V} (hl : H l = some (.lst xs)) (h : Q .non (upd H l (.lst []))) : rClear (.ref l) [] H Q := ⟨l, xs, rfl, rfl, hl, h⟩
theorem LcW.by1 {J : It} {n : Nat} {G : Hp → Prop} {Y : Nat → Hp → V → Hp → Prop} {te : TE} {k : Nat} {σ : L2.St} {H : Hp} {Q : VK} (w : Walk J n G Y) (hz : n < sizeLine) (Pv : Addr → Nat → List V → Hp → Prop)
    (h0 : ∀ D, H D = none → Pv D 0 [] (upd H D (.lst [])))
    (hG : ∀ D i acc H', H D = none → i ≤ n → Pv D i acc H' → G H')
    (hs : ∀ D i acc x H1 H1', i < n → H D = none → Pv D i acc H1 → H1 D = some (.lst acc) → Y i H1 x H1' → ∀ Qe : VK, (∀ y H4, H4 D = some (.lst acc) → Pv D (i + 1) (acc ++ [y]) (upd H4 D (.lst (acc ++ [y]))) → Qe y H4) → te ((wipe σ [k]).set k (some x)) H1' Qe)
    (hd : ∀ D acc H', H D = none → Pv D n acc H' → H' D = some (.lst acc) → acc.length = n → Q (.ref D) H') : LcW (gName k) tYes te [k] σ Q J H := by
  intro D hD
  refine lc_it w (Qd := fun H' => Q (.ref D) H') (fun i H' => ∃ acc, acc.length = i ∧ H' D = some (.lst acc) ∧ Pv D i acc H') ⟨[], rfl, upd_same, h0 D hD⟩ (fun i H' hi ⟨acc, _, _, p⟩ => hG D i acc H' hD hi p) ?_ ?_
  · rintro i x H1 H1' hi ⟨acc, hl, ha, p⟩ y
    refine ⟨wipe_set1, ?_⟩
    rw [e_yes]
    refine iteT ?_
    refine hs D i acc x H1 H1' hi hD p ha y _ fun y H4 h4 p4 => ⟨acc, h4, by rw [hl]; exact Nat.lt_trans hi hz, acc ++ [y], by simp [hl], upd_same, p4⟩
  · rintro H1 ⟨acc, hl, ha, p⟩
    exact hd D acc H1 hD p ha hl
end
/-! ranges downwards, list + list, insert -/
def Rg3 (R : It → Hp → Prop) : List V → Hp → Prop := fun vs H1 => ∃ (i j c : Int) (n : Nat), vs = [.int i, .int j, .int c] ∧ RgC i j c n ∧ R (Itc i c n) H1
theorem e_rng3 {σ : L2.St} {H : Hp} {ts : TA} {R : It → Hp → Prop} : iRng3 ts σ H R = ts σ H (Rg3 R) := rfl
theorem x_rgDown {m : Nat} {H : Hp} {R : It → Hp → Prop} (hm : (m : Int) < 2 ^ 61) (h : R (Itc ((m : Int) - 1) (-1) m) H) : Rg3 R [V.int ((m : Int) - 1), .int (-1), .int (-1)] H :=
  ⟨_, _, _, m, rfl, by
    have q := RgC.neg (i := (m : Int) - 1) (j := -1) (by omega) (by omega) (by omega) (by omega)
    have e : ((m : Int) - 1 - -1).toNat = m := by omega
    rw [e] at q; exact q, h⟩
theorem walk_down {n : Nat} : Walk (Itc ((n : Int) - 1) (-1) n) n (fun _ => True) (fun i H x H' => H' = H ∧ ∃ k : Nat, k = n - 1 - i ∧ x = .int (k : Int)) :=
  ⟨fun _ _ hi _ => hi, fun _ _ => Nat.le_refl _, fun i H x H' hi _ y => ⟨y.1, n - 1 - i, rfl, by
    rw [y.2]
    have e : (n : Int) - 1 + (i : Nat) * -1 = ((n - 1 - i : Nat) : Int) := by omega
    rw [e]⟩⟩
theorem x_cat {H : Hp} {Q : VK} {a b : Addr} {xs zs : List V} (ha : H a = some (.lst xs)) (hb : H b = some (.lst zs)) (hz : xs.length + zs.length ≤ sizeLine) (h : ∀ p, H p = none → Q (.ref p) (upd H p (.lst (xs ++ zs)))) : rCat (.ref a) (.ref b) H Q := ⟨a, b, xs, zs, rfl, rfl, ha, hb, hz, h⟩
def rInsert : V → List V → Hp → VK → Prop := fun x vs H Q => ∃ (l : Addr) (xs : List V) (i : Int) (y : V), x = .ref l ∧ vs = [.int i, y] ∧ H l = some (.lst xs) ∧ xs.length < sizeLine ∧ 0 ≤ i ∧ i < 2 ^ 63 ∧
    Q .non (upd H l (.lst (xs.take i.toNat ++ [y] ++ xs.drop i.toNat)))
theorem mt_ins {X : Cx} : MtR X "list.insert" rInsert := mt_insert
theorem x_insert {H : Hp} {Q : VK} {l : Addr} {xs : List V} {i : Int} {k : Nat} {y : V} (hi : i = k) (hl : H l = some (.lst xs)) (hz : xs.length < sizeLine) (hk : k < 2 ^ 62) (h : Q .non (upd H l (.lst (xs.take k ++ [y] ++ xs.drop k)))) : rInsert (.ref l) [.int i, y] H Q :=
  ⟨l, xs, i, y, rfl, rfl, hl, hz, by omega, by omega, by rw [hi, Int.toNat_natCast]; exact h⟩
theorem cut_len {xs : List V} {k m : Nat} : (cutV xs (some (k : Int)) (some (m : Int))).length ≤ m - k := by
  unfold cutV
  rw [HT.sIx_nat, HT.sIx_nat, List.length_take]
  omega
theorem cut_mem {xs : List V} {lo hi : Option Int} {x : V} (h : x ∈ cutV xs lo hi) : x ∈ xs := List.mem_of_mem_drop (List.mem_of_mem_take h)
theorem absI (i : Int) : ∃ n : Nat, (if i < 0 then -i else i) = (n : Int) := ⟨i.natAbs, by split <;> omega⟩
/-! equal by what is read -/
def Shp (d : PyData) (k : Nat) : Prop := d.canLay0 = true ∧ d.depth ≤ k
theorem Shp.mono {d : PyData} {k j : Nat} (h : Shp d k) (e : k ≤ j) : Shp d j := ⟨h.1, Nat.le_trans h.2 e⟩
theorem shp_all {k : Nat} : ∀ {xs : List PyData}, (∀ x ∈ xs, Shp x k) → PyData.canLayAll0 xs = true ∧ PyData.depthAll xs ≤ k
  | [], _ => by simp [PyData.canLayAll0, PyData.depthAll]
  | x :: xs, h => by
    have h1 := h x (List.mem_cons_self ..)
    have h2 := shp_all (xs := xs) fun y hy => h y (List.mem_cons_of_mem _ hy)
    simp only [PyData.canLayAll0, PyData.depthAll, h1.1, h2.1, Bool.and_self, true_and]
    exact Nat.max_le.mpr ⟨h1.2, h2.2⟩
theorem Shp.lst {k : Nat} {xs : List PyData} (h : ∀ x ∈ xs, Shp x k) : Shp (.list xs) (k + 1) := by
  have q := shp_all h
  exact ⟨by simp only [PyData.canLay0]; exact q.1, by simp only [PyData.depth]; omega⟩
theorem Shp.tup {k : Nat} {xs : List PyData} (h : ∀ x ∈ xs, Shp x k) : Shp (.tuple xs) (k + 1) := by
  have q := shp_all h
  exact ⟨by simp only [PyData.canLay0]; exact q.1, by simp only [PyData.depth]; omega⟩
theorem Shp.int {i : Int} : Shp (.int i) 0 := ⟨by simp only [PyData.canLay0], by simp only [PyData.depth]; exact Nat.le_refl _⟩
theorem Shp.bl {i : Bool} : Shp (.bool i) 0 := ⟨by simp only [PyData.canLay0], by simp only [PyData.depth]; exact Nat.le_refl _⟩
theorem Shp.non : Shp .none 0 := ⟨by simp only [PyData.canLay0], by simp only [PyData.depth]; exact Nat.le_refl _⟩
theorem Shp.str {x : Str} (h : PyData.canLay0 (.str x) = true) : Shp (.str x) 0 := ⟨h, by simp only [PyData.depth]; exact Nat.le_refl _⟩
theorem Shp.ints {xs : List Int} : Shp (.list (xs.map PyData.int)) 1 := Shp.lst fun x hx => by
  obtain ⟨i, _, rfl⟩ := List.mem_map.mp hx; exact Shp.int
theorem Shp.ok {d : PyData} {k : Nat} (h : Shp d k) (hk : k ≤ 64 := by decide) : SeqAt.shaped d = true := by
  unfold SeqAt.shaped
  rw [h.1, decide_eq_true (Nat.le_trans h.2 hk)]; rfl
theorem Dp.natsL {K : PySem.W.Frag} {H : Hp} {a : Addr} {xs : List Nat} (h : SqL K H a (xs.map nV)) : Dp K H (.ref a) (.list ((xs.map fun n : Nat => (n : Int)).map PyData.int)) := .lst (by rw [map_nV] at h; exact h) (dpAll_ints _)
theorem x_neSame {K : PySem.W.Frag} {H : Hp} {Q : VK} {x y : V} {d : PyData} {k : Nat} (hx : Dp K H x d) (hy : Dp K H y d) (hs : Shp d k) (h : Q (.bl false) H) (hk : k ≤ 64 := by decide) : rNeD K x y H Q := ⟨d, d, hx, hy, hs.ok hk, hs.ok hk, by
  rw [SeqAt.eqv_refl d hs.1]; exact h⟩
theorem x_eqSame {K : PySem.W.Frag} {H : Hp} {Q : VK} {x y : V} {d : PyData} {k : Nat} (hx : Dp K H x d) (hy : Dp K H y d) (hs : Shp d k) (h : Q (.bl true) H) (hk : k ≤ 64 := by decide) : rEqD K x y H Q := ⟨d, d, hx, hy, hs.ok hk, hs.ok hk, by
  rw [SeqAt.eqv_refl d hs.1]; exact h⟩
end Nn
namespace Nn
open PySem L2
def top (i : Nat) : Stmt := PySem.Challenge.pw_nearnames_k03_by_nearness.main.body.getD i (.Pass ⟨0, 0, 0, 0⟩)
abbrev s_far : Stmt := top 1
abbrev N_far : List Str := ["one", "other"]
theorem st_far (v0 v1 : V) : L2.start ["one", "other"] [v0, v1] = [some v0, some v1] := rfl
theorem sc_far : FnScope ["one", "other"] ["one", "other"] (defScope s_far) := ⟨rfl, rfl, rfl, by decide +kernel, rfl, by decide +kernel, by decide +kernel⟩
abbrev s_nearer : Stmt := top 2
abbrev N_nearer : List Str := ["goal", "one", "other"]
theorem st_nearer (v0 v1 v2 : V) : L2.start ["goal", "one", "other"] [v0, v1, v2] = [some v0, some v1, some v2] := rfl
theorem sc_nearer : FnScope ["goal", "one", "other"] ["goal", "one", "other"] (defScope s_nearer) := ⟨rfl, rfl, rfl, by decide +kernel, rfl, by decide +kernel, by decide +kernel⟩
abbrev s_by_nearness : Stmt := top 3
abbrev N_by_nearness : List Str := ["goal", "names", "by_far", "name", "one"]
theorem st_by_nearness (v0 v1 : V) : L2.start ["goal", "names", "by_far", "name", "one"] [v0, v1] = [some v0, some v1, none, none, none] := rfl
theorem sc_by_nearness : FnScope ["goal", "names", "by_far", "name", "one"] ["goal", "names"] (defScope s_by_nearness) := ⟨rfl, rfl, rfl, by decide +kernel, rfl, by decide +kernel, by decide +kernel⟩
abbrev s_l_cell_at : Stmt := top 5
abbrev N_l_cell_at : List Str := ["_law_script", "_law_k"]
theorem st_l_cell_at (v0 v1 : V) : L2.start ["_law_script", "_law_k"] [v0, v1] = [some v0, some v1] := rfl
theorem sc_l_cell_at : FnScope ["_law_script", "_law_k"] ["_law_script", "_law_k"] (defScope s_l_cell_at) := ⟨rfl, rfl, rfl, by decide +kernel, rfl, by decide +kernel, by decide +kernel⟩
abbrev s_l_wide : Stmt := top 6
abbrev N_l_wide : List Str := ["_law_cell"]
theorem st_l_wide (v0 : V) : L2.start ["_law_cell"] [v0] = [some v0] := rfl
theorem sc_l_wide : FnScope ["_law_cell"] ["_law_cell"] (defScope s_l_wide) := ⟨rfl, rfl, rfl, by decide +kernel, rfl, by decide +kernel, by decide +kernel⟩
abbrev s_l_mixed : Stmt := top 7
abbrev N_l_mixed : List Str := ["_law_cell", "_law_k", "_law_number"]
theorem st_l_mixed (v0 v1 : V) : L2.start ["_law_cell", "_law_k", "_law_number"] [v0, v1] = [some v0, some v1, none] := rfl
theorem sc_l_mixed : FnScope ["_law_cell", "_law_k", "_law_number"] ["_law_cell", "_law_k"] (defScope s_l_mixed) := ⟨rfl, rfl, rfl, by decide +kernel, rfl, by decide +kernel, by decide +kernel⟩
abbrev s_l_names : Stmt := top 8
abbrev N_l_names : List Str := ["_law_cell", "_law_wide_here", "_law_many", "_law_names_here", "_law_k", "_law_base", "_law_near"]
theorem st_l_names (v0 v1 v2 : V) : L2.start ["_law_cell", "_law_wide_here", "_law_many", "_law_names_here", "_law_k", "_law_base", "_law_near"] [v0, v1, v2] = [some v0, some v1, some v2, none, none, none, none] := rfl
theorem sc_l_names : FnScope ["_law_cell", "_law_wide_here", "_law_many", "_law_names_here", "_law_k", "_law_base", "_law_near"] ["_law_cell", "_law_wide_here", "_law_many"] (defScope s_l_names) := ⟨rfl, rfl, rfl, by decide +kernel, rfl, by decide +kernel, by decide +kernel⟩
abbrev s_l_nearer : Stmt := top 9
abbrev N_l_nearer : List Str := ["_law_goal", "_law_one", "_law_other", "_law_wide_here", "_law_k"]
theorem st_l_nearer (v0 v1 v2 v3 : V) : L2.start ["_law_goal", "_law_one", "_law_other", "_law_wide_here", "_law_k"] [v0, v1, v2, v3] = [some v0, some v1, some v2, some v3, none] := rfl
theorem sc_l_nearer : FnScope ["_law_goal", "_law_one", "_law_other", "_law_wide_here", "_law_k"] ["_law_goal", "_law_one", "_law_other", "_law_wide_here"] (defScope s_l_nearer) := ⟨rfl, rfl, rfl, by decide +kernel, rfl, by decide +kernel, by decide +kernel⟩
abbrev s_l_right : Stmt := top 10
abbrev N_l_right : List Str := ["_law_goal", "_law_names_here", "_law_wide_here", "_law_handed", "_law_found", "_law_one", "_law_other", "_law_told"]
theorem st_l_right (v0 v1 v2 : V) : L2.start ["_law_goal", "_law_names_here", "_law_wide_here", "_law_handed", "_law_found", "_law_one", "_law_other", "_law_told"] [v0, v1, v2] = [some v0, some v1, some v2, none, none, none, none, none] := rfl
theorem sc_l_right : FnScope ["_law_goal", "_law_names_here", "_law_wide_here", "_law_handed", "_law_found", "_law_one", "_law_other", "_law_told"] ["_law_goal", "_law_names_here", "_law_wide_here"] (defScope s_l_right) := ⟨rfl, rfl, rfl, by decide +kernel, rfl, by decide +kernel, by decide +kernel⟩
abbrev s_law : Stmt := top 11
abbrev N_law : List Str := ["_law_script", "_law_wide_here", "_law_k", "_law_names_here", "_law_goal", "_law_many"]
theorem st_law (v0 : V) : L2.start ["_law_script", "_law_wide_here", "_law_k", "_law_names_here", "_law_goal", "_law_many"] [v0] = [some v0, none, none, none, none, none] := rfl
theorem sc_law : FnScope ["_law_script", "_law_wide_here", "_law_k", "_law_names_here", "_law_goal", "_law_many"] ["_law_script"] (defScope s_law) := ⟨rfl, rfl, rfl, by decide +kernel, rfl, by decide +kernel, by decide +kernel⟩
def tfL : List He.Defn := []
def Tabs0 (K : PySem.W.Frag) (H : Hp) : Prop := ∀ p ∈ tfL.map (He.cT K), H p.2 = some (.tbl #[])
structure Tx (K : PySem.W.Frag) (mg : Str → Option Value) (base : Heap) where
  a_far : Addr
  d_far : FuncData
  F_far : FunD K "far" "far" (defArgs s_far) (defBody s_far) (defScope s_far) [] [] a_far d_far
  b_far : Binds K d_far ["one", "other"] []
  m_far : mg "far" = some (.ref a_far)
  a_nearer : Addr
  d_nearer : FuncData
  F_nearer : FunD K "nearer" "nearer" (defArgs s_nearer) (defBody s_nearer) (defScope s_nearer) [] [] a_nearer d_nearer
  b_nearer : Binds K d_nearer ["goal", "one", "other"] []
  m_nearer : mg "nearer" = some (.ref a_nearer)
  a_by_nearness : Addr
  d_by_nearness : FuncData
  F_by_nearness : FunD K "by_nearness" "by_nearness" (defArgs s_by_nearness) (defBody s_by_nearness) (defScope s_by_nearness) [] [] a_by_nearness d_by_nearness
  b_by_nearness : Binds K d_by_nearness ["goal", "names"] []
  m_by_nearness : mg "by_nearness" = some (.ref a_by_nearness)
  a_l_cell_at : Addr
  d_l_cell_at : FuncData
  F_l_cell_at : FunD K "_law_cell_at" "_law_cell_at" (defArgs s_l_cell_at) (defBody s_l_cell_at) (defScope s_l_cell_at) [] [] a_l_cell_at d_l_cell_at
  b_l_cell_at : Binds K d_l_cell_at ["_law_script", "_law_k"] []
  m_l_cell_at : mg "_law_cell_at" = some (.ref a_l_cell_at)
  a_l_wide : Addr
  d_l_wide : FuncData
  F_l_wide : FunD K "_law_wide" "_law_wide" (defArgs s_l_wide) (defBody s_l_wide) (defScope s_l_wide) [] [] a_l_wide d_l_wide
  b_l_wide : Binds K d_l_wide ["_law_cell"] []
  m_l_wide : mg "_law_wide" = some (.ref a_l_wide)
  a_l_mixed : Addr
  d_l_mixed : FuncData
  F_l_mixed : FunD K "_law_mixed" "_law_mixed" (defArgs s_l_mixed) (defBody s_l_mixed) (defScope s_l_mixed) [] [] a_l_mixed d_l_mixed
  b_l_mixed : Binds K d_l_mixed ["_law_cell", "_law_k"] []
  m_l_mixed : mg "_law_mixed" = some (.ref a_l_mixed)
  a_l_names : Addr
  d_l_names : FuncData
  F_l_names : FunD K "_law_names" "_law_names" (defArgs s_l_names) (defBody s_l_names) (defScope s_l_names) [] [] a_l_names d_l_names
  b_l_names : Binds K d_l_names ["_law_cell", "_law_wide_here", "_law_many"] []
  m_l_names : mg "_law_names" = some (.ref a_l_names)
  a_l_nearer : Addr
  d_l_nearer : FuncData
  F_l_nearer : FunD K "_law_nearer" "_law_nearer" (defArgs s_l_nearer) (defBody s_l_nearer) (defScope s_l_nearer) [] [] a_l_nearer d_l_nearer
  b_l_nearer : Binds K d_l_nearer ["_law_goal", "_law_one", "_law_other", "_law_wide_here"] []
  m_l_nearer : mg "_law_nearer" = some (.ref a_l_nearer)
  a_l_right : Addr
  d_l_right : FuncData
  F_l_right : FunD K "_law_right" "_law_right" (defArgs s_l_right) (defBody s_l_right) (defScope s_l_right) [] [] a_l_right d_l_right
  b_l_right : Binds K d_l_right ["_law_goal", "_law_names_here", "_law_wide_here"] []
  m_l_right : mg "_law_right" = some (.ref a_l_right)
  a_law : Addr
  d_law : FuncData
  F_law : FunD K "law" "law" (defArgs s_law) (defBody s_law) (defScope s_law) [] [] a_law d_law
  b_law : Binds K d_law ["_law_script"] []
  m_law : mg "law" = some (.ref a_law)
  z_abs : mg "abs" = none
  z_bool : mg "bool" = none
  z_isinstance : mg "isinstance" = none
  z_len : mg "len" = none
  z_list : mg "list" = none
  z_min : mg "min" = none
  z_range : mg "range" = none
  z_set : mg "set" = none
  z_sorted : mg "sorted" = none
  z_zip : mg "zip" = none
def tabsL {K : PySem.W.Frag} {mg : Str → Option Value} {base : Heap} (T : Tx K mg base) : List NdefX.NTab := []
theorem tabnm {K : PySem.W.Frag} {mg : Str → Option Value} {base : Heap} {T : Tx K mg base} : ∀ p ∈ tabsL T, p.2 = nmAll := by simp [tabsL]

end Nn
local macro_rules | `(tactic| walk_at "wz") => `(tactic| dsimp only [↓Nn.e_next, ↓Nn.e_asg, ↓Nn.e_name, ↓Nn.e_ret, ↓Nn.e_retN, ↓Nn.e_drop, ↓Nn.e_ifS, ↓Nn.e_IT, ↓Nn.e_IF, ↓Nn.e_INT, ↓Nn.e_INF, ↓Nn.e_if, ↓Nn.e_varS, ↓Nn.e_c, ↓Nn.e_op, ↓Nn.e_un, ↓Nn.e_cb, ↓Nn.e_nil, ↓Nn.e_cons, ↓Nn.e_test, ↓Nn.e_B, ↓Nn.e_and, ↓Nn.e_or, ↓Nn.e_not, ↓Nn.e_andV, ↓Nn.e_orV, ↓Nn.e_notV, ↓Nn.e_chain, ↓Nn.e_for, ↓Nn.e_fld, ↓Nn.e_sfld, ↓Nn.e_meth, ↓Nn.e_make, ↓Nn.e_sl, ↓Nn.e_nopart, ↓Nn.e_part, ↓Nn.e_dget, ↓Nn.e_din, ↓Nn.e_dnin, ↓Nn.e_dput, ↓Nn.e_dnew, ↓Nn.e_bits, ↓Nn.e_lenSet, ↓Nn.e_lc, ↓Nn.e_wipe0, ↓Nn.e_wipe1, ↓Nn.e_yes, ↓Nn.e_rng1, ↓Nn.e_rng2, ↓Nn.e_rng3, ↓Nn.e_iList, ↓Nn.e_iTup, ↓Nn.e_iEnum, ↓Nn.e_iZip, ↓Nn.e_bm, ↓Nn.e_bm0, ↓Nn.e_tup, ↓Nn.e_lst, ↓Nn.e_calld, ↓Nn.e_T, ↓Nn.e_F, ↓Nn.e_NT, ↓Nn.e_NF, ↓List.set_cons_zero, ↓List.set_cons_succ, ↓List.cons_append, ↓List.nil_append])
local macro_rules | `(tactic| walk_at "wx") => `(tactic| repeat (walk_at "wx1"))
local macro_rules | `(tactic| walk_at "wx1") => `(tactic| (first
  | with_reducible refine Nn.x_v0 ?_
  | with_reducible refine Nn.x_seq ?_
  | walk_at "wz"
  | with_reducible refine Nn.x_bl ?_
  | with_reducible refine Nn.x_i0 ?_
  | ((with_reducible refine Nn.x_i ?_ ?_); (focus (walk_at "wside")))
  | with_reducible refine Nn.x_eqI ?_
  | with_reducible refine Nn.x_neI ?_
  | with_reducible refine Nn.x_INs ?_
  | with_reducible refine Nn.x_IEs ?_
  | with_reducible refine Nn.x_NEs ?_
  | with_reducible refine Nn.x_Es ?_
  | with_reducible refine Nn.x_whT ?_
  | with_reducible refine Nn.x_whF ?_
  | walk_at "wx2"))
local macro_rules | `(tactic| walk_at "wx2") => `(tactic| (first
  | ((with_reducible refine' Nn.x_ixL ?hS ?hA ?_); (case hS => walk_at "wsq"); (case hA => walk_at "wat"))
  | ((with_reducible refine' Nn.x_ixT ?hS ?hA ?_); (case hS => walk_at "wsqt"); (case hA => walk_at "wat"))
  | ((with_reducible refine' Nn.x_lenL ?hS ?_); (case hS => walk_at "wsq"))
  | ((with_reducible refine' Nn.x_lenT ?hS ?_); (case hS => walk_at "wsqt"))
  | ((with_reducible refine' Nn.x_tyL ?hS ?_); (case hS => walk_at "wsq"))
  | ((with_reducible refine' Nn.x_append ?hS ?hA ?_); (case hS => walk_at "wob"); (case hA => walk_at "wlen"))
  | ((with_reducible refine' Nn.x_gTup ?hS ?hA ?_); (case hS => walk_at "wsqt"); (case hA => rfl))
  | with_reducible refine Nn.x_gCons ?_
  | with_reducible refine Nn.x_gNil ?_
  | ((with_reducible refine' Nn.x_shl1 ?hS ?hA ?_); (case hS => walk_at "wnat"); (case hA => omega))
  | ((with_reducible refine Nn.x_rgN ?_ ?_); (focus (walk_at "wside")))
  | ((with_reducible refine Nn.x_rgDown ?_ ?_); (focus (walk_at "wside")))
  | ((with_reducible refine' Nn.x_itL ?hS ?_); (case hS => walk_at "wsq"))
  | ((with_reducible refine' Nn.x_itT ?hS ?_); (case hS => walk_at "wsqt"))
  | ((with_reducible refine' Nn.x_enL ?hS ?_); (case hS => walk_at "wsq"))
  | ((with_reducible refine' Nn.x_ziL ?hS ?hA ?_); (case hS => walk_at "wsq"); (case hA => walk_at "wsq"))
  | ((with_reducible refine' Nn.x_lenD ?hS ?_); (case hS => walk_at "wob"))
  | ((with_reducible refine' Nn.x_shrN ?hS ?hA ?_); (case hS => walk_at "wnat"); (case hA => walk_at "wnat"))
  | ((with_reducible refine' Nn.x_xorN ?hS ?hA ?_); (case hS => walk_at "wnat"); (case hA => walk_at "wnat"))
  | ((with_reducible refine' Nn.x_shlN ?hS ?hA ?hB ?hC ?_); (case hS => walk_at "wnat"); (case hA => walk_at "wnat"); (case hB => walk_at "wpre"); (case hC => walk_at "wpre"))
  | with_reducible refine Nn.x_bits ?_
  | ((with_reducible refine' Nn.x_eqLN ?hS ?hA ?_); (case hS => walk_at "wsq"); (case hA => walk_at "wsq"))
  | ((with_reducible refine' Nn.x_neLN ?hS ?hA ?_); (case hS => walk_at "wsq"); (case hA => walk_at "wsq"))
  | ((with_reducible refine' Nn.x_dget ?hS ?hA ?_); (case hS => walk_at "wob"); (case hA => walk_at "wat"))
  | ((with_reducible refine' Nn.x_din ?hS ?_); (case hS => walk_at "wob"))
  | ((with_reducible refine' Nn.x_dnin ?hS ?_); (case hS => walk_at "wob"))
  | ((with_reducible refine' Nn.x_dput ?hS ?hA ?_); (case hS => walk_at "wob"); (case hA => walk_at "wlen"))
  | ((with_reducible refine' Nn.x_fld ?hS ?hA ?hB ?hC ?_); (case hS => walk_at "wob"); (case hA => assumption); (case hB => assumption); (case hC => walk_at "wlk"))
  | ((with_reducible refine' Nn.x_sfld ?hS ?hA ?hB ?hE ?hC ?_); (case hS => walk_at "wob"); (case hA => assumption); (case hB => assumption); (case hE => walk_at "wput"); (case hC => rfl))
  | ((with_reducible refine' Nn.x_meth ?hS ?hA ?_); (case hS => walk_at "wob"); (case hA => walk_at "wnolk"))
  | ((with_reducible refine' Nn.x_inN ?hS ?hA ?_); (case hS => walk_at "wnat"); (case hA => walk_at "wsq"))
  | ((with_reducible refine' Nn.x_ninN ?hS ?hA ?_); (case hS => walk_at "wnat"); (case hA => walk_at "wsq"))
  | with_reducible refine Nn.x_truB ?_
  | with_reducible refine Nn.x_isNN ?_
  | with_reducible refine Nn.x_isNI ?_
  | with_reducible refine Nn.x_isNB ?_
  | with_reducible refine Nn.x_isNS ?_
  | with_reducible refine Nn.x_isNR ?_
  | with_reducible refine Nn.x_notNN ?_
  | with_reducible refine Nn.x_notNI ?_
  | with_reducible refine Nn.x_notNB ?_
  | with_reducible refine Nn.x_notNS ?_
  | with_reducible refine Nn.x_notNR ?_
  | with_reducible refine Nn.x_part ?_
  | with_reducible refine Nn.x_u ?_
  | with_reducible refine Nn.x_min2 ?_
  | with_reducible refine Nn.x_max2 ?_
  | with_reducible refine Nn.x_abs ?_
  | with_reducible refine Nn.x_eqB ?_
  | with_reducible refine Nn.x_neB ?_
  | with_reducible refine Nn.x_eqS ?_
  | with_reducible refine Nn.x_neS ?_
  | with_reducible refine Nn.x_intI ?_
  | with_reducible refine Nn.x_intB ?_
  | walk_at "wisi"
  | walk_at "wc"))
local macro_rules | `(tactic| walk_at "wside") => `(tactic| (first
  | with_reducible assumption
  | with_reducible exact Nn.two_pos
  | omega
  | (show (0 : Int) < _; first | omega | decide +kernel)
  | exact Or.inr ⟨by omega, by omega⟩
  | exact Or.inl ⟨by omega, by omega⟩
  | exact ⟨by omega, by decide +kernel⟩
  | exact ⟨by omega, by omega, by omega⟩
  | (show (0 : Int) ≤ _; first | omega | decide +kernel | exact Int.mul_nonneg (by omega) (by omega))))
local macro_rules | `(tactic| walk_at "wob") => `(tactic| (first
  | assumption
  | exact L2.upd_same
  | ((with_reducible refine' Nn.at_new ?hNone ?hKept); (case hNone => assumption); (case hKept => walk_at "wob"))
  | ((with_reducible refine' Nn.at_upd ?hSome ?hAt ?hDif); (case hSome => assumption); (case hAt => walk_at "wob"); (case hDif => (intro z; cases z)))
  | exact Nn.Ex.at (by assumption) (by assumption)))
local macro_rules | `(tactic| walk_at "wlen") => `(tactic| (rw [PySem.sizeLine_eq]; simp only [List.length_map, List.length_append, List.length_cons, List.length_nil]; omega))
local macro_rules | `(tactic| walk_at "wsqt") => `(tactic| (first
  | assumption
  | ((refine' L2.SqT.of ?hOb); (case hOb => walk_at "wob"))
  | exact Nn.Ex.tu (by assumption) (by assumption)
  | exact L2.SqT.of L2.upd_same))
local macro_rules | `(tactic| walk_at "wnat") => `(tactic| with_unfolding_all rfl)
local macro_rules | `(tactic| walk_at "wsq") => `(tactic| (first
  | assumption
  | ((refine' L2.SqL.of ?hOb); (case hOb => walk_at "wob"))
  | exact Nn.Ex.ls (by assumption) (by assumption)
  | exact Nn.Ex.ls (Nn.Ex.new (by assumption)) (by assumption)
  | exact L2.SqL.of L2.upd_same))
local macro_rules | `(tactic| walk_at "wat") => `(tactic| (first
  | assumption
  | exact Nn.atI_hd
  | with_unfolding_all rfl))
local macro_rules | `(tactic| walk_at "wisi") => `(tactic| ((with_reducible refine Nn.x_isG ?_); (first
  | with_reducible refine Nn.x_isI_int ?_
  | with_reducible refine Nn.x_isI_bool ?_
  | with_reducible refine Nn.x_isI_str ?_
  | with_reducible refine Nn.x_isB_int ?_
  | with_reducible refine Nn.x_isB_bool ?_
  | with_reducible refine Nn.x_isB_str ?_
  | with_reducible refine Nn.x_isS_int ?_
  | with_reducible refine Nn.x_isS_bool ?_
  | with_reducible refine Nn.x_isS_str ?_
  | with_reducible refine Nn.x_isN_int ?_
  | with_reducible refine Nn.x_isN_bool ?_
  | with_reducible refine Nn.x_isN_str ?_
  | ((with_reducible refine' Nn.x_isL_int ?hS ?_); (case hS => walk_at "wob"))
  | ((with_reducible refine' Nn.x_isL_list ?hS ?_); (case hS => walk_at "wob"))
  | ((with_reducible refine' Nn.x_isL_tuple ?hS ?_); (case hS => walk_at "wob"))
  | ((with_reducible refine' Nn.x_isT_int ?hS ?_); (case hS => walk_at "wob"))
  | ((with_reducible refine' Nn.x_isT_list ?hS ?_); (case hS => walk_at "wob"))
  | ((with_reducible refine' Nn.x_isT_tuple ?hS ?_); (case hS => walk_at "wob"))
  | ((with_reducible refine' Nn.x_isD_int ?hS ?_); (case hS => walk_at "wob"))
  | ((with_reducible refine' Nn.x_isD_list ?hS ?_); (case hS => walk_at "wob"))
  | ((with_reducible refine' Nn.x_isD_tuple ?hS ?_); (case hS => walk_at "wob")))))
local macro_rules | `(tactic| walk_at "wpre") => `(tactic| (first
  | with_reducible assumption
  | omega
  | refine ⟨?_, ?_⟩ <;> walk_at "wpre"))

namespace Nn
open PySem L2
/-! the bits -/
theorem xor_div_pow (a b k : Nat) : (a ^^^ b) / 2 ^ k = (a / 2 ^ k) ^^^ (b / 2 ^ k) := by
  rw [← Nat.shiftRight_eq_div_pow, ← Nat.shiftRight_eq_div_pow, ← Nat.shiftRight_eq_div_pow, Nat.shiftRight_xor_distrib]
theorem xor_mod_two (a b : Nat) : (a ^^^ b) % 2 = if a % 2 ≠ b % 2 then 1 else 0 := by
  have h := @Nat.xor_mod_two_eq_one a b
  rcases Nat.mod_two_eq_zero_or_one (a ^^^ b) with e | e
  · rw [e]
    split
    · rename_i q
      exact absurd (h.mpr (by omega)) (by omega)
    · rfl
  · rw [e]
    split
    · rfl
    · rename_i q
      exact absurd (h.mp e) (by omega)
theorem mod_pow_succ (x k : Nat) : x % 2 ^ (k + 1) = x % 2 ^ k + 2 ^ k * (x / 2 ^ k % 2) := Nat.mod_pow_succ
theorem xor_add (a b : Nat) : a ^^^ b ≤ a + b := by
  have h := Bits.nat_xor_add_and a b
  omega
theorem xor_tri (a b c : Nat) : a ^^^ c ≤ (a ^^^ b) + (b ^^^ c) := by
  have e : a ^^^ c = (a ^^^ b) ^^^ (b ^^^ c) := by
    rw [Nat.xor_assoc, ← Nat.xor_assoc b b c, Nat.xor_self, Nat.zero_xor]
  rw [e]; exact xor_add _ _

/-! the step, the span -/
def stepN (a b : Nat) : Nat := (a ^^^ b).log2
def lowN (n k : Nat) : Nat := ((n / 2 ^ k) ^^^ 1) * 2 ^ k
theorem xor_ne_zero {a b : Nat} (h : a ≠ b) : a ^^^ b ≠ 0 := fun e => h (by
  have q : a ^^^ (a ^^^ b) = a ^^^ 0 := by rw [e]
  rw [← Nat.xor_assoc, Nat.xor_self, Nat.zero_xor, Nat.xor_zero] at q
  exact q.symm)
theorem xor_eq_one {x y : Nat} : x ^^^ y = 1 ↔ y = x ^^^ 1 := by
  constructor
  · intro h; rw [← h, ← Nat.xor_assoc, Nat.xor_self, Nat.zero_xor]
  · intro h; rw [h, ← Nat.xor_assoc, Nat.xor_self, Nat.zero_xor]
theorem log2_eq {x k : Nat} (h : x ≠ 0) : x.log2 = k ↔ x / 2 ^ k = 1 := by
  have hp := Nat.two_pow_pos k
  constructor
  · intro e
    have h1 := Nat.log2_self_le h
    have h2 := Nat.lt_log2_self (n := x)
    rw [e] at h1 h2
    rw [Nat.pow_succ] at h2
    exact Nat.div_eq_of_lt_le (by omega) (by omega)
  · intro e
    have h1 : 2 ^ k ≤ x := by
      have := Nat.div_mul_le_self x (2 ^ k)
      rw [e] at this; omega
    have h2 : x < 2 ^ (k + 1) := by
      have := Nat.lt_div_mul_add (a := x) hp
      rw [e] at this
      rw [Nat.pow_succ]; omega
    exact (Nat.log2_eq_iff h).mpr ⟨h1, h2⟩
/-- the step is k just where the rest behind k is the one's with its last sign turned -/
theorem stepN_eq {a b k : Nat} (h : a ≠ b) : stepN a b = k ↔ b / 2 ^ k = (a / 2 ^ k) ^^^ 1 := by
  unfold stepN
  rw [log2_eq (xor_ne_zero h), xor_div_pow, xor_eq_one]
theorem xor_one_ne {x : Nat} : x ^^^ 1 ≠ x := fun e => by
  have q : x ^^^ (x ^^^ 1) = x ^^^ x := by rw [e]
  rw [← Nat.xor_assoc, Nat.xor_self, Nat.zero_xor] at q
  exact absurd q (by decide)
/-- in the span just those -/
theorem in_span {n k b : Nat} : (lowN n k ≤ b ∧ b ≤ lowN n k + 2 ^ k - 1) ↔ b / 2 ^ k = (n / 2 ^ k) ^^^ 1 := by
  have hp := Nat.two_pow_pos k
  unfold lowN
  constructor
  · intro ⟨h1, h2⟩
    exact Nat.div_eq_of_lt_le (by omega) (by rw [Nat.succ_mul]; omega)
  · intro e
    have h1 := Nat.div_mul_le_self b (2 ^ k)
    have h2 := Nat.lt_div_mul_add (a := b) hp
    rw [e] at h1 h2
    omega
theorem in_span_ne {n k b : Nat} (h : b / 2 ^ k = (n / 2 ^ k) ^^^ 1) : n ≠ b := fun e => by
  rw [← e] at h
  exact xor_one_ne h.symm
theorem span_step {n k b : Nat} : (lowN n k ≤ b ∧ b ≤ lowN n k + 2 ^ k - 1) ↔ (n ≠ b ∧ stepN n b = k) := by
  rw [in_span]
  constructor
  · intro h
    exact ⟨in_span_ne h, (stepN_eq (in_span_ne h)).mpr h⟩
  · intro ⟨h, e⟩
    exact (stepN_eq h).mp e
theorem low_lt {n k w : Nat} (hn : n < 2 ^ w) (hk : k < w) : lowN n k + 2 ^ k ≤ 2 ^ w := by
  have e : 2 ^ w = 2 ^ (w - k) * 2 ^ k := by rw [← Nat.pow_add]; congr 1; omega
  have h1 : n / 2 ^ k < 2 ^ (w - k) := Nat.div_lt_of_lt_mul (by rw [Nat.mul_comm, ← e]; exact hn)
  have h2 : (n / 2 ^ k) ^^^ 1 < 2 ^ (w - k) := Nat.xor_lt_two_pow h1 (Nat.one_lt_two_pow (by omega))
  unfold lowN
  rw [e, ← Nat.succ_mul]
  exact Nat.mul_le_mul_right _ h2
theorem stepN_lt {a b w : Nat} (ha : a < 2 ^ w) (hb : b < 2 ^ w) (h : a ≠ b) : stepN a b < w := (Nat.log2_lt (xor_ne_zero h)).mpr (Nat.xor_lt_two_pow ha hb)
theorem bitLen {x : Nat} : Builtin.Int.intBits (x : Int) = if x = 0 then 0 else x.log2 + 1 := by
  unfold Builtin.Int.intBits
  simp
/-- who is outside a span stands alike to all of it -/
theorem aside {g o one c k : Nat} (h1 : one / 2 ^ k = c) (h2 : o / 2 ^ k ≠ c) : g ^^^ o < g ^^^ one ↔ (g / 2 ^ k) ^^^ (o / 2 ^ k) < (g / 2 ^ k) ^^^ c := by
  have e1 := xor_div_pow g o k
  have e2 := xor_div_pow g one k
  rw [h1] at e2
  have ne : (g / 2 ^ k) ^^^ (o / 2 ^ k) ≠ (g / 2 ^ k) ^^^ c := fun e => h2 (by
    have q : (g / 2 ^ k) ^^^ ((g / 2 ^ k) ^^^ (o / 2 ^ k)) = (g / 2 ^ k) ^^^ ((g / 2 ^ k) ^^^ c) := by rw [e]
    rw [← Nat.xor_assoc, ← Nat.xor_assoc, Nat.xor_self, Nat.zero_xor, Nat.zero_xor] at q
    exact q)
  rw [← e1, ← e2] at ne ⊢
  constructor
  · intro h
    have := Nat.div_le_div_right (c := 2 ^ k) (Nat.le_of_lt h)
    omega
  · intro h
    exact Nat.lt_of_div_lt_div h
end Nn
namespace Nn
/-! lists without twice, rising; by nearness -/
def insU (x : Nat) : List Nat → List Nat
  | [] => [x]
  | y :: r => if x < y then x :: y :: r else if x = y then y :: r else y :: insU x r
def sortU : List Nat → List Nat
  | [] => []
  | x :: r => insU x (sortU r)
theorem mem_insU {x z : Nat} : ∀ {l : List Nat}, z ∈ insU x l ↔ z = x ∨ z ∈ l
  | [] => by simp [insU]
  | y :: r => by
    unfold insU
    by_cases h : x < y
    · rw [if_pos h]; simp
    · rw [if_neg h]
      by_cases e : x = y
      · rw [if_pos e, e]; simp
      · rw [if_neg e, List.mem_cons, mem_insU (l := r), List.mem_cons]
        constructor
        · rintro (h | h | h)
          · exact .inr (.inl h)
          · exact .inl h
          · exact .inr (.inr h)
        · rintro (h | h | h)
          · exact .inr (.inl h)
          · exact .inl h
          · exact .inr (.inr h)
theorem insU_sorted {x : Nat} : ∀ {l : List Nat}, l.Pairwise (· < ·) → (insU x l).Pairwise (· < ·)
  | [], _ => by simp [insU]
  | y :: r, h => by
    have h1 := List.pairwise_cons.mp h
    unfold insU
    by_cases hx : x < y
    · rw [if_pos hx]
      refine List.pairwise_cons.mpr ⟨fun z hz => ?_, h⟩
      rcases List.mem_cons.mp hz with e | hz
      · omega
      · have := h1.1 z hz; omega
    · rw [if_neg hx]
      by_cases e : x = y
      · rw [if_pos e]; exact h
      · rw [if_neg e]
        refine List.pairwise_cons.mpr ⟨fun z hz => ?_, insU_sorted h1.2⟩
        rcases mem_insU.mp hz with e | hz
        · omega
        · exact h1.1 z hz
theorem mem_sortU {z : Nat} : ∀ {l : List Nat}, z ∈ sortU l ↔ z ∈ l
  | [] => by simp [sortU]
  | x :: r => by unfold sortU; rw [mem_insU, mem_sortU (l := r), List.mem_cons]
theorem sortU_sorted : ∀ l : List Nat, (sortU l).Pairwise (· < ·)
  | [] => by simp [sortU]
  | x :: r => insU_sorted (sortU_sorted r)
/-- two rising lists of the same members are one -/
theorem rising_eq : ∀ {a b : List Nat}, a.Pairwise (· < ·) → b.Pairwise (· < ·) → (∀ z, z ∈ a ↔ z ∈ b) → a = b
  | [], [], _, _, _ => rfl
  | [], y :: r, _, _, h => absurd ((h y).mpr (List.mem_cons_self ..)) (by simp)
  | x :: r, [], _, _, h => absurd ((h x).mp (List.mem_cons_self ..)) (by simp)
  | x :: r, y :: s, ha, hb, h => by
    have h1 := List.pairwise_cons.mp ha
    have h2 := List.pairwise_cons.mp hb
    have e : x = y := by
      have a1 := (h x).mp (List.mem_cons_self ..)
      have a2 := (h y).mpr (List.mem_cons_self ..)
      rcases List.mem_cons.mp a1 with e | a1
      · exact e
      · rcases List.mem_cons.mp a2 with e | a2
        · exact e.symm
        · have b1 := h1.1 y a2
          have b2 := h2.1 x a1
          omega
    subst e
    refine congrArg (x :: ·) (rising_eq h1.2 h2.2 fun z => ?_)
    constructor
    · intro hz
      rcases List.mem_cons.mp ((h z).mp (List.mem_cons_of_mem _ hz)) with e | q
      · have := h1.1 z hz; omega
      · exact q
    · intro hz
      rcases List.mem_cons.mp ((h z).mpr (List.mem_cons_of_mem _ hz)) with e | q
      · have := h2.1 z hz; omega
      · exact q
theorem rising_nodup {l : List Nat} (h : l.Pairwise (· < ·)) : l.Nodup := h.imp fun {a b} q => Nat.ne_of_lt q
theorem sortU_of_rising {l : List Nat} (h : l.Pairwise (· < ·)) : sortU l = l := rising_eq (sortU_sorted l) h fun _ => mem_sortU
theorem sortU_congr {a b : List Nat} (h : ∀ z, z ∈ a ↔ z ∈ b) : sortU a = sortU b := rising_eq (sortU_sorted _) (sortU_sorted _) fun z => by rw [mem_sortU, mem_sortU, h]
theorem nodup_len : ∀ {a b : List Nat}, a.Nodup → (∀ z ∈ a, z ∈ b) → a.length ≤ b.length
  | [], _, _, _ => Nat.zero_le _
  | x :: r, b, h, hs => by
    have h1 := List.nodup_cons.mp h
    have hx := hs x (List.mem_cons_self ..)
    have e := List.length_erase_of_mem hx
    have hp : 0 < b.length := List.length_pos_of_mem hx
    have ih := nodup_len (b := b.erase x) h1.2 fun z hz => by
      have ne : z ≠ x := fun e => h1.1 (e ▸ hz)
      exact (List.mem_erase_of_ne ne).mpr (hs z (List.mem_cons_of_mem _ hz))
    rw [List.length_cons]
    omega
theorem xor_self_left (g n : Nat) : g ^^^ (g ^^^ n) = n := by rw [← Nat.xor_assoc, Nat.xor_self, Nat.zero_xor]
theorem xor_inj {g a b : Nat} (h : g ^^^ a = g ^^^ b) : a = b := by
  have q : g ^^^ (g ^^^ a) = g ^^^ (g ^^^ b) := by rw [h]
  rwa [xor_self_left, xor_self_left] at q
/-- by nearness to g, each once -/
def byN (g : Nat) (ns : List Nat) : List Nat := (sortU (ns.map (g ^^^ ·))).map (g ^^^ ·)
theorem mem_byN {g z : Nat} {ns : List Nat} : z ∈ byN g ns ↔ z ∈ ns := by
  unfold byN
  rw [List.mem_map]
  constructor
  · rintro ⟨k, hk, rfl⟩
    obtain ⟨n, hn, rfl⟩ := List.mem_map.mp (mem_sortU.mp hk)
    rw [xor_self_left]; exact hn
  · intro h
    exact ⟨g ^^^ z, mem_sortU.mpr (List.mem_map.mpr ⟨z, h, rfl⟩), xor_self_left _ _⟩
theorem byN_sorted (g : Nat) (ns : List Nat) : (byN g ns).Pairwise fun a b => g ^^^ a < g ^^^ b := by
  unfold byN
  rw [List.pairwise_map]
  exact (sortU_sorted _).imp fun {a b} h => by rw [xor_self_left, xor_self_left]; exact h
theorem byN_nodup (g : Nat) (ns : List Nat) : (byN g ns).Nodup := (byN_sorted g ns).imp fun {a b} h e => by rw [e] at h; exact Nat.lt_irrefl _ h
/-- the one list that is ordered so, with these members -/
theorem byN_uniq {g : Nat} {ns l : List Nat} (hs : l.Pairwise fun a b => g ^^^ a < g ^^^ b) (hm : ∀ z, z ∈ l ↔ z ∈ ns) : l = byN g ns := by
  have e : l.map (g ^^^ ·) = sortU (ns.map (g ^^^ ·)) := by
    refine rising_eq (List.pairwise_map.mpr hs) (sortU_sorted _) fun z => ?_
    rw [mem_sortU, List.mem_map, List.mem_map]
    constructor
    · rintro ⟨a, h, e⟩; exact ⟨a, (hm a).mp h, e⟩
    · rintro ⟨a, h, e⟩; exact ⟨a, (hm a).mpr h, e⟩
  unfold byN
  rw [← e, List.map_map]
  have : ((g ^^^ ·) ∘ (g ^^^ ·) : Nat → Nat) = id := funext fun n => xor_self_left g n
  rw [this, List.map_id]
theorem byN_congr {g : Nat} {a b : List Nat} (h : ∀ z, z ∈ a ↔ z ∈ b) : byN g a = byN g b := byN_uniq (byN_sorted g a) fun z => by rw [mem_byN, h]
theorem byN_len_le {g : Nat} {ns : List Nat} : (byN g ns).length ≤ ns.length := nodup_len (byN_nodup g ns) fun _ h => mem_byN.mp h
theorem byN_len {g g' : Nat} {ns : List Nat} : (byN g ns).length = (byN g' ns).length :=
  Nat.le_antisymm (nodup_len (byN_nodup _ _) fun _ h => mem_byN.mpr (mem_byN.mp h)) (nodup_len (byN_nodup _ _) fun _ h => mem_byN.mpr (mem_byN.mp h))
end Nn
/-! nearer by the first unlike sign; names laid in by nearness -/
namespace Nn
theorem xor_bit (g a k : Nat) : (g ^^^ a) / 2 ^ k % 2 = if g / 2 ^ k % 2 ≠ a / 2 ^ k % 2 then 1 else 0 := by rw [xor_div_pow, xor_mod_two]
theorem bit_near {g a b k : Nat} (h : a / 2 ^ (k + 1) = b / 2 ^ (k + 1)) (hb : a / 2 ^ k % 2 ≠ b / 2 ^ k % 2) : g ^^^ a < g ^^^ b ↔ a / 2 ^ k % 2 = g / 2 ^ k % 2 := by
  have h1 : (g ^^^ a) / 2 ^ (k + 1) = (g ^^^ b) / 2 ^ (k + 1) := by rw [xor_div_pow, xor_div_pow, h]
  have e1 : (g ^^^ a) / 2 ^ (k + 1) = (g ^^^ a) / 2 ^ k / 2 := by rw [Nat.pow_succ, Nat.div_div_eq_div_mul]
  have e2 : (g ^^^ b) / 2 ^ (k + 1) = (g ^^^ b) / 2 ^ k / 2 := by rw [Nat.pow_succ, Nat.div_div_eq_div_mul]
  have x1 := xor_bit g a k
  have x2 := xor_bit g b k
  have m1 : g / 2 ^ k % 2 < 2 := Nat.mod_lt _ (by decide)
  have m2 : a / 2 ^ k % 2 < 2 := Nat.mod_lt _ (by decide)
  have m3 : b / 2 ^ k % 2 < 2 := Nat.mod_lt _ (by decide)
  have dm : ∀ {x y : Nat}, x / 2 ^ k < y / 2 ^ k → x < y := fun {x y} z => Nat.lt_of_not_le fun q => absurd (Nat.div_le_div_right q) (Nat.not_le_of_lt z)
  constructor
  · intro z
    refine Decidable.byContradiction fun n => ?_
    rw [if_pos (Ne.symm n)] at x1
    rw [if_neg (by omega)] at x2
    have q := dm (x := g ^^^ b) (y := g ^^^ a) (by omega)
    omega
  · intro z
    rw [if_neg (by omega)] at x1
    rw [if_pos (by omega)] at x2
    exact dm (by omega)
/-- laying n in: behind those that are nearer -/
def layN (g : Nat) (found : List Nat) (n : Nat) : List Nat :=
  let k := (found.filter fun o => decide (g ^^^ o < g ^^^ n)).length
  found.take k ++ [n] ++ found.drop k
theorem lay_split {g n : Nat} : ∀ {f : List Nat}, f.Pairwise (fun a b => g ^^^ a < g ^^^ b) → n ∉ f → let k := (f.filter fun o => decide (g ^^^ o < g ^^^ n)).length
    (∀ o ∈ f.take k, g ^^^ o < g ^^^ n) ∧ ∀ o ∈ f.drop k, g ^^^ n < g ^^^ o
  | [], _, _ => by simp
  | x :: r, h, hn => by
    have h1 := List.pairwise_cons.mp h
    have hnx : n ≠ x := fun e => hn (by simp [e])
    have hnr : n ∉ r := fun e => hn (List.mem_cons_of_mem _ e)
    by_cases hx : g ^^^ x < g ^^^ n
    · have ih := lay_split h1.2 hnr
      simp only [List.filter_cons, hx, decide_true, if_true, List.length_cons, List.take_succ_cons, List.drop_succ_cons] at ih ⊢
      refine ⟨fun o ho => ?_, ih.2⟩
      rcases List.mem_cons.mp ho with e | ho
      · rw [e]; exact hx
      · exact ih.1 o ho
    · have hgt : g ^^^ n < g ^^^ x := by
        rcases Nat.lt_trichotomy (g ^^^ x) (g ^^^ n) with z | z | z
        · exact absurd z hx
        · exact absurd (xor_inj z).symm hnx
        · exact z
      have e0 : ((x :: r).filter fun o => decide (g ^^^ o < g ^^^ n)) = [] := by
        refine List.filter_eq_nil_iff.mpr fun o ho => ?_
        rcases List.mem_cons.mp ho with e | ho
        · rw [e]; simpa using hx
        · have := h1.1 o ho
          simp; omega
      simp only [e0, List.length_nil, List.take_zero, List.drop_zero]
      refine ⟨by simp, fun o ho => ?_⟩
      rcases List.mem_cons.mp ho with e | ho
      · rw [e]; exact hgt
      · exact Nat.lt_trans hgt (h1.1 o ho)
theorem lay_byN {g n : Nat} {ns : List Nat} (hn : n ∉ ns) : layN g (byN g ns) n = byN g (ns ++ [n]) := by
  have hs := byN_sorted g ns
  have hnot : n ∉ byN g ns := fun h => hn (mem_byN.mp h)
  have sp := lay_split hs hnot
  refine byN_uniq ?_ fun z => ?_
  · unfold layN
    refine List.pairwise_append.mpr ⟨List.pairwise_append.mpr ⟨hs.sublist (List.take_sublist _ _), by simp, fun a ha b hb => ?_⟩, hs.sublist (List.drop_sublist _ _), fun a ha b hb => ?_⟩
    · rw [List.mem_singleton.mp hb]; exact sp.1 a ha
    · rcases List.mem_append.mp ha with ha | ha
      · exact Nat.lt_trans (sp.1 a ha) (sp.2 b hb)
      · rw [List.mem_singleton.mp ha]; exact sp.2 b hb
  · unfold layN
    have e := List.take_append_drop ((byN g ns).filter fun o => decide (g ^^^ o < g ^^^ n)).length (byN g ns)
    have m : z ∈ byN g ns ↔ z ∈ (byN g ns).take ((byN g ns).filter fun o => decide (g ^^^ o < g ^^^ n)).length ∨ z ∈ (byN g ns).drop ((byN g ns).filter fun o => decide (g ^^^ o < g ^^^ n)).length := by
      rw [← List.mem_append, e]
    rw [mem_byN] at m
    simp only [List.mem_append, List.mem_singleton, m]
    constructor
    · rintro ((h | h) | h)
      · exact .inl (.inl h)
      · exact .inr h
      · exact .inl (.inr h)
    · rintro ((h | h) | h)
      · exact .inl (.inl h)
      · exact .inr h
      · exact .inl (.inr h)
end Nn
/-! set(list of ints), as the layer's sets are kept -/
namespace Nn
open PySem PySem.Spec PyProof.Rows L2
section
variable {P : Program} {w : World} {A : Around} {E : Value → Shared → Prop} {s : Shared}
/-- a set's object, just made -/
abbrev newS (w : World) : Obj := { cls := .type "set", dict := none, data := .set #[] 0 (.fresh 0 0 (!w.params.followText "set-order")) }
/-- what the filling of a new set at S by the list at l does -/
def Filled (w : World) (S : Addr) (ns : List Int) (s s2 : Shared) : Prop := ∃ (h2 : Heap) (tk c : Nat), s2 = { s with heap := h2, toks := tk } ∧ SetR w h2 S (fun j => decide (j ∈ ns)) c ∧ c ≤ ns.length ∧ ∀ b o, b ≠ S → s.heap.get? b = some o → h2.get? b = some o
set_option maxRecDepth 100000 in
set_option maxHeartbeats 3200000 in
theorem fill_set {S l : Addr} {items : Array Value} {ns : List Int} {Q : Value → Shared → Prop} (hh : A.handled = none) (hS : s.heap.get? S = some (newS w)) (hl : s.heap.IsList l items) (hit : IntsAre items.toList ns) (hb : ns.length + 1 < scanBound)
    (h : ∀ s2, Filled w S ns s s2 → Q .none s2) : codeAny (model P w) A (.call (.builtin "set.__init__") ⟨[.ref S, .ref l], []⟩) (wants Q E) s := by
  have hT : Shared.TypeIs s (.ref S) "set" := ⟨_, hS, rfl⟩
  have hlen : items.size = ns.length := by
    have q := IntsAre.length hit
    rwa [Array.length_toList] at q
  have hlS : l ≠ S := fun z => by
    obtain ⟨o, ho, _, n, hd⟩ := hl
    rw [z, hS] at ho
    cases ho
    cases hd
  refine codeAny_call_builtin F.called_set.init.plain F.entry_set_init (check_set_init_1 hT ?_)
  obtain ⟨⟨oc, od, ob, osl⟩, hol, hcl, nl, hdl⟩ := id hl
  simp only at hcl hdl
  subst hcl hdl
  have a1 := F.sub_list_set
  have a2 := F.sub_list_frozenset
  have a3 : (Value.type "list" == Value.type "dict") = false := by decide
  unfold Builtin.«set.__init__» noKeywords Builtin.Frozenset.updateFrom
  generalize hPI : pyIter = PI
  wp_walk
  subst hPI
  refine wpAny_pyIter_list hl ?_
  refine wpAny_bind (wpAny_runValue ?_)
  have hi3 : A.in1.in1.handled = none := by simp [hh]
  have low : ∀ {b : Addr} {o : Obj}, s.heap.get? b = some o → b ≠ s.heap.objs.size := fun e => Nat.ne_of_lt (Heap.lt_size e)
  have hfp : S ∉ [s.heap.objs.size, l] := by
    simp only [List.mem_cons, List.not_mem_nil, or_false, not_or]
    exact ⟨low hS, hlS.symm⟩
  have hS2 : ∀ o : Obj, (s.heap.push o).get? S = some (newS w) := fun o => Heap.get?_push_of_some _ hS
  have hv2 : ∀ (i : Nat) (v : Value), items[i]? = some v → ∃ k t, ns[i]? = some k ∧ v = .int k t := fun i v hv => by
    have hi : i < ns.length := by rw [← hlen]; exact (Array.getElem?_eq_some_iff.mp hv).1
    obtain ⟨t, e⟩ := PyProof.Rows.IntsAre.int_at hit i v ((Array.getElem?_toList).trans hv)
    refine ⟨ns[i], t, List.getElem?_eq_getElem hi, e.trans ?_⟩
    rw [List.getD_eq_getElem?_getD, List.getElem?_eq_getElem hi]; rfl
  refine set_update_ints ((Walks.list hi3 _ l (low hol) items).toS) S hfp ns hlen hb hv2 (items.size - 0) 0 _ (by omega) (Nat.zero_le _) ?hSt ?hS0 ?hR
  · exact ⟨⟨_, Heap.get?_push_size _ rfl, rfl, rfl⟩, hl.push _⟩
  · exact ⟨0, Nat.le_refl 0, setR_new_at (w := w) (hS2 _)⟩
  · rintro ⟨h2, g2, d2, tk2, o2⟩ c hm hc hR
    obtain rfl : g2 = s.gens := hm.gens
    obtain rfl : d2 = s.drawn := hm.drawn
    obtain rfl : o2 = s.os := hm.os
    rw [hlen] at hc
    show wpAny (model P w) _ (pure ()) _ _ _
    refine wpAny_pure ?_
    show wpAny (model P w) _ (ret Value.none) _ _ _
    refine wpAny_pure ?_
    refine h _ ⟨h2, tk2, c, rfl, hR, hc, fun b o nb e => hm.heap b o ?_ (Heap.get?_push_of_some _ e)⟩
    simp only [List.mem_cons, List.not_mem_nil, or_false, not_or]
    exact ⟨nb, low e⟩
set_option maxRecDepth 100000 in
set_option maxHeartbeats 3200000 in
theorem call_set_L {l : Addr} {items : Array Value} {ns : List Int} {Q : Value → Shared → Prop} (hh : A.handled = none) (hl : s.heap.IsList l items) (hit : IntsAre items.toList ns) (hb : ns.length + 1 < scanBound)
    (h : ∀ s2, Filled w s.heap.objs.size ns { s with heap := s.heap.push (newS w) } s2 → Q (.ref s.heap.objs.size) s2) : wpAny (model P w) A (call (.type "set") [.ref l]) Q E s := by
  obtain ⟨c, tl, hmro⟩ := F.called_set.mro
  have b1 := F.called_set.made
  have b2 := F.called_set.sub
  have b3 := F.called_set.notType
  have b4 := F.called_set.canCreate
  have b5 := F.typeCall_set_1 (.ref l)
  refine wpAny_call (codeAny_of_tree ?_)
  show wpAny (model P w) _ (callAny (.type "set") ⟨[.ref l], []⟩) _ _ s
  refine wpAny_pure ⟨Code.quiet_builtin _ (by decide +kernel), ?_⟩
  refine codeAny_builtin F.entry_type_call ?_
  rw [Around.under_plain (weight_type_call_type "set" [.ref l] []) rfl]
  repeat (any_goals (first | assumption | wp_step))
  refine codeAny_mono (code_set_led1 (.ref l) (E := E) (Q₁ := fun o s1 => o = .ref s.heap.objs.size ∧ s1 = { s with heap := s.heap.push (newS w) }) ⟨rfl, rfl⟩) fun r s1 hr => ?_
  match r, hr with
  | .error e, hr => exact hr
  | .ok .next, hr => exact hr.elim
  | .ok .brk, hr => exact hr.elim
  | .ok .cont, hr => exact hr.elim
  | .ok (.ret o), hr =>
    obtain ⟨rfl, rfl⟩ := hr
    have hS : (s.heap.push (newS w)).get? s.heap.objs.size = some (newS w) := Heap.get?_push_size _ rfl
    have hT : Shared.TypeIs { s with heap := s.heap.push (newS w) } (.ref s.heap.objs.size) "set" := ⟨_, hS, rfl⟩
    have b6 := F.called_set.init.lookup
    have b7 := F.called_set.init.bind (.ref s.heap.objs.size)
    repeat (any_goals (first | assumption | wp_step))
    refine codeAny_mono (fill_set (S := s.heap.objs.size) (l := l) (ns := ns) (items := items) (E := E) (Q := fun r s2 => r = .none ∧ Filled w s.heap.objs.size ns { s with heap := s.heap.push (newS w) } s2) (by simp [hh]) hS (hl.push _) hit hb fun s2 f => ⟨rfl, f⟩) fun r2 s2 hr2 => ?_
    match r2, hr2 with
    | .error e, hr2 => exact hr2
    | .ok .next, hr2 => exact hr2.elim
    | .ok .brk, hr2 => exact hr2.elim
    | .ok .cont, hr2 => exact hr2.elim
    | .ok (.ret o), hr2 =>
      obtain ⟨rfl, f⟩ := hr2
      obtain ⟨h2, tk, c2, rfl, g1, g2, g3⟩ := id f
      repeat (any_goals (first | assumption | wp_step))
      exact h _ f
end
/-- set(xs), xs a list of ints -/
def rSetL (K : PySem.W.Frag) (w : World) : List V → Hp → VK → Prop := fun xs H Q => ∃ (l : Addr) (ns : List Int), xs = [.ref l] ∧ SqL K H l (ns.map V.int) ∧ ns.length ≤ 4000 ∧ ∀ p c, H p = none → c ≤ ns.length → Q (.ref p) (upd H p (SetO w p (fun j => decide (j ∈ ns)) c))
theorem cr_setL {X : Cx} (hc : X.calm = true) : CallR X (.type "set") (rSetL X.K X.w) := by
  intro pins s σ H xs us Q I r h
  obtain ⟨l, ns, rfl, hq, hz, q⟩ := h
  rw [Vals.ref1 r]
  obtain ⟨its, r2, pl, hz2⟩ := I.list hq
  refine call_set_L (I.ok.hd hc) pl.isList (by simpa using RZ.intsAre_vals r2) (by unfold scanBound; omega) fun s2 f => ?_
  obtain ⟨h2, tk, c, rfl, g1, g2, g3⟩ := f
  have nf : H s.heap.objs.size = none := I.hok.fresh (Nat.le_refl _)
  refine ⟨.ref _, upd H s.heap.objs.size (SetO X.w s.heap.objs.size (fun j => decide (j ∈ ns)) c), I.laid (t' := tk) (fun b u e => g3 b u (Nat.ne_of_lt (Heap.lt_size e)) (Heap.get?_push_of_some _ e)) (Nat.le_refl _) (setO_new g1), rfl, q _ c nf g2⟩
/-- how many members a rising list of them has -/
theorem x_setL {K : PySem.W.Frag} {w : World} {H : Hp} {Q : VK} {l : Addr} {ns : List Nat} (hS : SqL K H l (ns.map nV)) (hz : ns.length ≤ 4000) (h : ∀ p c, H p = none → c ≤ ns.length → Q (.ref p) (upd H p (SetO w p (fun j => decide (j ∈ ns.map fun n : Nat => (n : Int))) c))) : rSetL K w [.ref l] H Q :=
  ⟨l, ns.map fun n : Nat => (n : Int), rfl, by rw [← map_nV]; exact hS, by rw [List.length_map]; exact hz, fun p c hp hc => h p c hp (by rw [List.length_map] at hc; exact hc)⟩
theorem x_sortSet {w : World} {H : Hp} {Q : VK} {p : Addr} {ns : List Nat} {c : Nat} (hp : H p = some (SetO w p (fun j => decide (j ∈ ns.map fun n : Nat => (n : Int))) c)) (hc : c < 64) (h : ∀ q, H q = none → Q (.ref q) (upd H q (.lst ((sortU ns).map nV)))) : rSortedSet w [.ref p] H Q := by
  refine ⟨p, _, c, rfl, hp, hc, fun ys q hr hm hl hq => ?_⟩
  have hmem : ∀ y ∈ ys, ∃ n : Nat, n ∈ ns ∧ y = (n : Int) := fun y hy => by
    obtain ⟨n, hn, e⟩ := List.mem_map.mp (of_decide_eq_true ((hm y).mp hy))
    exact ⟨n, hn, e.symm⟩
  have e : ys = (sortU ns).map fun n : Nat => (n : Int) := by
    have e1 : ys = (ys.map Int.toNat).map fun n : Nat => (n : Int) := by
      rw [List.map_map]
      refine (List.map_id ys).symm.trans (List.map_congr_left fun y hy => ?_)
      obtain ⟨n, _, rfl⟩ := hmem y hy
      simp
    have e2 : ys.map Int.toNat = sortU ns := rising_eq (by
      refine List.pairwise_map.mpr (hr.imp_of_mem fun {a b} ha hb hab => ?_)
      obtain ⟨n, _, rfl⟩ := hmem a ha
      obtain ⟨m, _, rfl⟩ := hmem b hb
      simp; omega) (sortU_sorted _) fun z => by
      rw [mem_sortU]
      constructor
      · intro hz
        obtain ⟨y, hy, e⟩ := List.mem_map.mp hz
        obtain ⟨n, hn, rfl⟩ := hmem y hy
        rw [← e]; simpa using hn
      · intro hz
        exact List.mem_map.mpr ⟨(z : Int), (hm _).mpr (decide_eq_true (List.mem_map.mpr ⟨z, hz, rfl⟩)), by simp⟩
    rw [e1, e2]
  rw [e, ← map_nV]
  exact h q hq
theorem x_sortN {K : PySem.W.Frag} {H : Hp} {Q : VK} {a : Addr} {ns : List Nat} (hS : SqL K H a (ns.map nV)) (nd : ns.Nodup) (h : ∀ p, H p = none → Q (.ref p) (upd H p (.lst ((sortU ns).map nV)))) : rSortedI K [.ref a] H Q := by
  refine ⟨a, ns.map fun n : Nat => (n : Int), rfl, by rw [← map_nV]; exact hS, fun ys p hperm hsort hp => ?_⟩
  obtain ⟨zs, rfl⟩ : ∃ zs : List Nat, ys = zs.map fun n : Nat => (n : Int) := by
    refine ⟨ys.map Int.toNat, ?_⟩
    rw [List.map_map]
    refine (List.map_id ys).symm.trans (List.map_congr_left fun y hy => ?_)
    obtain ⟨n, _, rfl⟩ := List.mem_map.mp (hperm.mem_iff.mp hy)
    simp
  have hzs : zs = sortU ns := by
    have hmem : ∀ z, z ∈ zs ↔ z ∈ ns := fun z => by
      constructor
      · intro hz
        obtain ⟨n, hn, e⟩ := List.mem_map.mp (hperm.mem_iff.mp (List.mem_map.mpr ⟨z, hz, rfl⟩))
        rw [← Int.ofNat.inj e]; exact hn
      · intro hz
        obtain ⟨n, hn, e⟩ := List.mem_map.mp (hperm.mem_iff.mpr (List.mem_map.mpr ⟨z, hz, rfl⟩))
        rw [← Int.ofNat.inj e]; exact hn
    refine rising_eq ?_ (sortU_sorted _) fun z => by rw [hmem, mem_sortU]
    have nz : zs.Nodup := by
      have q : (zs.map fun n : Nat => (n : Int)).Nodup := hperm.nodup_iff.mpr (List.Pairwise.map _ (fun a b h e => h (Int.ofNat.inj e)) nd)
      exact (List.pairwise_map.mp q).imp fun h e => h (by rw [e])
    have le : zs.Pairwise (· ≤ ·) := (List.pairwise_map.mp hsort).imp fun h => by omega
    exact (nz.and le).imp fun h => by omega
  rw [hzs, ← map_nV]
  exact h p hp
end Nn
/-! the laws' helpers: cells, width, mixed numbers, names -/
namespace Nn
open PySem L2
section
variable {P : Program} {w : World} {K : PySem.W.Frag} {mg : Str → Option Value} {base : Heap} {H : Hp} {Q : VK} {E : XK}
theorem nat_of {z : Int} (h : ∀ r : Nat, Q (.int r) H) (hz : 0 ≤ z) : Q (.int z) H := by
  obtain ⟨r, rfl⟩ := Int.eq_ofNat_of_zero_le hz
  exact h r
theorem atI_map {ns : List Int} {j : Nat} (h : j < ns.length) : atI (ns.map V.int) (j : Int) = some (.int ns[j]) := atI_nat (by simp [h])
theorem atI_nV {ns : List Nat} {j : Nat} (h : j < ns.length) : atI (ns.map nV) (j : Int) = some (nV ns[j]) := atI_nat (by simp [h])
theorem atI_neg1' {ns : List Nat} {j : Nat} (h : j < ns.length) : ∃ z, z ∈ ns ∧ atI (ns.map nV) ((j : Int) - 1) = some (nV z) := by
  unfold atI ixN
  by_cases hj : 0 ≤ (j : Int) - 1
  · rw [if_pos hj, if_pos (by simp; omega)]
    have h2 : ((j : Int) - 1).toNat < ns.length := by omega
    exact ⟨ns[((j : Int) - 1).toNat], List.getElem_mem h2, by
      show (ns.map nV)[_]? = _
      rw [List.getElem?_map, List.getElem?_eq_getElem h2]; rfl⟩
  · rw [if_neg hj, if_pos (by simp; omega)]
    have h2 : ((j : Int) - 1 + ((ns.map nV).length : Int)).toNat < ns.length := by simp; omega
    refine ⟨ns[((j : Int) - 1 + ((ns.map nV).length : Int)).toNat], List.getElem_mem h2, ?_⟩
    show (ns.map nV)[_]? = _
    rw [List.getElem?_map, List.getElem?_eq_getElem h2]; rfl
theorem atI_neg1 {ns : List Nat} {j : Nat} (h : j < ns.length) : ∃ z, atI (ns.map nV) ((j : Int) - 1) = some (nV z) := let ⟨z, _, e⟩ := atI_neg1' h; ⟨z, e⟩
def sp_l_cell_at (_ : Tx K mg base) : Sp := fun vs H Q _ => ∃ (a : Addr) (ns : List Int) (k : Nat), vs = [.ref a, .int k] ∧ SqL K H a (ns.map V.int) ∧ ∀ n : Nat, Q (.int n) H
theorem wc_l_cell_at {T : Tx K mg base} {a : Addr} {ns : List Int} {i : Int} {k : Nat} (hi : i = k) (hS : SqL K H a (ns.map V.int)) (h : ∀ n : Nat, Q (.int n) H) : sp_l_cell_at T [.ref a, .int i] H Q E := by
  subst hi; exact ⟨a, ns, k, rfl, hS, h⟩
theorem ok_l_cell_at (T : Tx K mg base) : FnOk P w K mg base CX0 1 T.a_l_cell_at T.d_l_cell_at ["_law_script", "_law_k"] (sp_l_cell_at T) := by
  refine T.F_l_cell_at.okD sc_l_cell_at (fun vs H Q E h => ?_) (fun cdv A outer s H vs Q E hr h => ?_)
  · obtain ⟨a, ns, k, rfl, _⟩ := h; rfl
  · obtain ⟨a, ns, k, rfl, hS, q⟩ := h
    refine ⟨_, (pss_cons (ps_if (pt_cmpR op_lt (pv 1) (pe_callB cb_len (by rfl) T.z_len PySem.boot_len (pa_cons (pv 0) pa_nil)) (nomark _))
      (pss_one (ps_ret (pe_callB cb_abs (by rfl) T.z_abs (by decide +kernel) (pa_cons (pe_ix ix_list (pv 0) (pv 1) (fun _ _ => rfl)) pa_nil))))
      pss_nil)
      (pss_one (ps_ret pe_int))), ?_⟩
    rw [Nn.st_l_cell_at]; try rw [Nn.cxK]
    try rw [Nn.cxW]
    walk_at "wx"
    refine x_ifD (fun hk => ?_) (fun hk => ?_)
    · walk_at "wx"
      have hk' : k < ns.length := by simpa using hk
      refine x_ixL hS (atI_map hk') ?_
      walk_at "wx"
      exact q _
    · walk_at "wx"
      exact q 0
def sp_l_wide (_ : Tx K mg base) : Sp := fun vs H Q _ => ∃ n : Nat, vs = [.int n] ∧ ∀ (w : Nat) H', 1 ≤ w → w ≤ 60 → Ex H H' → Q (.int w) H'
theorem wc_l_wide {T : Tx K mg base} {i : Int} {k : Nat} (hi : i = k) (h : ∀ (w : Nat) H', 1 ≤ w → w ≤ 60 → Ex H H' → Q (.int w) H') : sp_l_wide T [.int i] H Q E := by
  subst hi; exact ⟨k, rfl, h⟩
theorem ok_l_wide (T : Tx K mg base) : FnOk P w K mg base CX0 1 T.a_l_wide T.d_l_wide ["_law_cell"] (sp_l_wide T) := by
  refine T.F_l_wide.okD sc_l_wide (fun vs H Q E h => ?_) (fun cdv A outer s H vs Q E hr h => ?_)
  · obtain ⟨n, rfl, _⟩ := h; rfl
  · obtain ⟨n, rfl, q⟩ := h
    refine ⟨_, (pss_one (ps_ret (pe_op op_add pe_int (pe_op op_mod (pe_op op_fdivW (pv 0) pe_int) (pe_ix ix_list (pe_lst (pa_cons pe_int (pa_cons pe_int pa_nil))) (pe_op op_mod (pv 0) pe_int) (fun _ _ => rfl)))))), ?_⟩
    rw [Nn.st_l_wide]; try rw [Nn.cxK]
    try rw [Nn.cxW]
    walk_at "wx"
    refine ⟨by decide, fun p hp => ?_⟩
    walk_at "wx"
    rcases Int.emod_two_eq (n : Int) with e | e
    · rw [e]
      refine x_ixL (SqL.of upd_same) (by rfl) ?_
      walk_at "wx"
      obtain ⟨r, hr⟩ := Int.eq_ofNat_of_zero_le (Int.emod_nonneg ((n : Int) / 2) (by decide : (60 : Int) ≠ 0))
      have h2 := Int.emod_lt_of_pos ((n : Int) / 2) (by decide : (0 : Int) < 60)
      rw [hr] at h2 ⊢
      exact q (1 + r) _ (by omega) (by omega) (Ex.new hp)
    · rw [e]
      refine x_ixL (SqL.of upd_same) (by rfl) ?_
      walk_at "wx"
      obtain ⟨r, hr⟩ := Int.eq_ofNat_of_zero_le (Int.emod_nonneg ((n : Int) / 2) (by decide : (6 : Int) ≠ 0))
      have h2 := Int.emod_lt_of_pos ((n : Int) / 2) (by decide : (0 : Int) < 6)
      rw [hr] at h2 ⊢
      exact q (1 + r) _ (by omega) (by omega) (Ex.new hp)
def sp_l_mixed (_ : Tx K mg base) : Sp := fun vs H Q _ => ∃ n k : Nat, vs = [.int n, .int k] ∧ ∀ r : Nat, Q (.int r) H
theorem wc_l_mixed {T : Tx K mg base} {i j : Int} {n k : Nat} (hi : i = n) (hj : j = k) (h : ∀ r : Nat, Q (.int r) H) : sp_l_mixed T [.int i, .int j] H Q E := by
  subst hi hj; exact ⟨n, k, rfl, h⟩
theorem ok_l_mixed (T : Tx K mg base) : FnOk P w K mg base CX0 1 T.a_l_mixed T.d_l_mixed ["_law_cell", "_law_k"] (sp_l_mixed T) := by
  refine T.F_l_mixed.okD sc_l_mixed (fun vs H Q E h => ?_) (fun cdv A outer s H vs Q E hr h => ?_)
  · obtain ⟨n, k, rfl, _⟩ := h; rfl
  · obtain ⟨n, k, rfl, q⟩ := h
    refine ⟨_, (pss_cons (ps_set (i := 2) sc_l_mixed.nd rfl (Or.inl rfl) (pe_op op_mod (pe_op op_mul (pe_op op_add (pe_op op_add (pv 0) (pe_op op_mul pe_int (pv 1))) pe_int) pe_int) (pe_op op_sub (pe_op op_pow pe_int pe_int) pe_int)))
      (pss_one (ps_ret (pe_op op_fdivW (pe_op op_mod (pe_op op_mul (pe_op op_add (pe_op op_add (pv 2) (pe_op op_mul pe_int (pv 1))) pe_int) pe_int) (pe_op op_sub (pe_op op_pow pe_int pe_int) pe_int)) pe_int)))), ?_⟩
    rw [Nn.st_l_mixed]; try rw [Nn.cxK]
    try rw [Nn.cxW]
    walk_at "wx"
    refine nat_of q ?_
    exact Int.ediv_nonneg (Int.emod_nonneg _ (by decide)) (by decide)
def sp_l_names (_ : Tx K mg base) : Sp := fun vs H Q _ => ∃ c w m : Nat, vs = [.int c, .int w, .int m] ∧ w ≤ 60 ∧ m ≤ 100 ∧
  ∀ (p : Addr) (H' : Hp) (ns : List Nat), ns.length = m → (∀ x ∈ ns, x < 2 ^ w) → H p = none → Ex H H' → H' p = some (.lst (ns.map nV)) → Q (.ref p) H'
theorem wc_l_names {T : Tx K mg base} {i j l : Int} {c w m : Nat} (hi : i = c) (hj : j = w) (hl : l = m) (hw : w ≤ 60) (hm : m ≤ 100)
    (h : ∀ (p : Addr) (H' : Hp) (ns : List Nat), ns.length = m → (∀ x ∈ ns, x < 2 ^ w) → H p = none → Ex H H' → H' p = some (.lst (ns.map nV)) → Q (.ref p) H') : sp_l_names T [.int i, .int j, .int l] H Q E := by
  subst hi hj hl; exact ⟨c, w, m, rfl, hw, hm, h⟩
theorem ok_l_names (T : Tx K mg base) : FnOk P w K mg base CX0 2 T.a_l_names T.d_l_names ["_law_cell", "_law_wide_here", "_law_many"] (sp_l_names T) := by
  refine T.F_l_names.okD sc_l_names (fun vs H Q E h => ?_) (fun cdv A outer s H vs Q E hr h => ?_)
  · obtain ⟨c, w, m, rfl, _⟩ := h; rfl
  · obtain ⟨c, w, m, rfl, hw, hm, q⟩ := h
    refine ⟨_, (pss_cons (ps_set (i := 3) sc_l_names.nd rfl (Or.inl rfl) (pe_lst pa_nil))
      (pss_cons (ps_if (pt_cmpR op_eq (pe_op op_mod (pv 0) pe_int) pe_int (nomark _))
      (pss_cons (ps_for PassesOwn.never rfl (pi_range1 rfl T.z_range (pa_cons (pv 2) pa_nil)) (pg_name (i := 4) sc_l_names.nd rfl (Or.inl rfl))
      (pss_one (ps_expr (pe_bm PySem.F.plainAttrs_list PySem.F.slot_list_append PySem.F.type_list_append mt_append (pv 3) (pa_cons (pe_op op_mod (pe_op op_shr (pe_op op_fdivW (pv 0) pe_int) (pe_op op_mul (pv 1) (pv 4))) (pe_op op_shl1 pe_int (pv 1))) pa_nil)))))
      (pss_one (ps_ret (pv 3))))
      pss_nil)
      (pss_cons (ps_set (i := 5) sc_l_names.nd rfl (Or.inl rfl) (pe_op op_mod (pe_op op_mul (pe_call (ok_l_mixed T) hr rfl T.m_l_mixed T.F_l_mixed.kp T.b_l_mixed .nil pass0 (pa_cons (pe_op op_mod (pe_op op_fdivW (pv 0) pe_int) (pe_op op_pow pe_int pe_int)) (pa_cons pe_int pa_nil))) pe_int) (pe_op op_shl1 pe_int (pv 1))))
      (pss_cons (ps_for PassesOwn.never rfl (pi_range1 rfl T.z_range (pa_cons (pv 2) pa_nil)) (pg_name (i := 4) sc_l_names.nd rfl (Or.inl rfl))
      (pss_cons (ps_set (i := 6) sc_l_names.nd rfl (Or.inl rfl) (pe_call (ok_l_mixed T) hr rfl T.m_l_mixed T.F_l_mixed.kp T.b_l_mixed .nil pass0 (pa_cons (pe_op op_mod (pe_op op_fdivW (pv 0) pe_int) (pe_op op_pow pe_int pe_int)) (pa_cons (pe_op op_add (pv 4) pe_int) pa_nil))))
      (pss_one (ps_expr (pe_bm PySem.F.plainAttrs_list PySem.F.slot_list_append PySem.F.type_list_append mt_append (pv 3) (pa_cons (pe_op op_xor (pv 5) (pe_op op_mod (pe_op op_fdivW (pv 6) pe_int) (pe_op op_shl1 pe_int (pe_callB (cb_min2 rfl) (by rfl) T.z_min (by decide +kernel) (pa_cons (pv 1) (pa_cons (pe_op op_add pe_int (pe_op op_mod (pv 6) pe_int)) pa_nil)))))) pa_nil))))))
      (pss_one (ps_ret (pv 3))))))), ?_⟩
    rw [Nn.st_l_names]; try rw [Nn.cxK]
    try rw [Nn.cxW]
    walk_at "wx"
    refine ⟨by decide, fun p hp => ?_⟩
    walk_at "wx"
    refine x_ifD (fun hk => ?_) (fun hk => ?_)
    · walk_at "wx"
      refine ForW.by walk_rgN (fun i σ H' => ∃ (v : Option V) (ns : List Nat), σ = [some (.int c), some (.int w), some (.int m), some (.ref p), v, none, none] ∧ ns.length = i ∧ (∀ x ∈ ns, x < 2 ^ w) ∧ Ex H H' ∧ H' p = some (.lst (ns.map nV)))
        ⟨none, [], rfl, rfl, by simp, Ex.new hp, upd_same⟩ (fun _ _ _ _ _ => trivial) ?_ ?_
      · rintro i _ σ H1 _ hi ⟨v, ns, rfl, hn, hb, ex, hp1⟩ ⟨rfl, rfl⟩
        walk_at "wx"
        obtain ⟨r, hr, e⟩ := mod_two_lt (z := (c : Int) / 2 / 2 ^ (w * i : Int).toNat) (k := w)
        rw [e]
        refine ⟨_, ns ++ [r], rfl, by simp [hn], ?_, ex.mut hp hp1, by rw [upd_same, List.map_append]; rfl⟩
        intro x hx
        rcases List.mem_append.mp hx with h | h
        · exact hb x h
        · rw [List.mem_singleton.mp h]; exact hr
      · rintro σ H1 ⟨v, ns, rfl, hn, hb, ex, hp1⟩
        walk_at "wx"
        exact q p H1 ns hn hb hp ex hp1
    · walk_at "wx"
      refine wc_l_mixed (n := c / 2 % 10 ^ 60) (by simp) (by rfl) fun b => ?_
      walk_at "wx"
      obtain ⟨b0, hb0, e0⟩ := mod_two_lt (z := (b * 16807 : Int)) (k := w)
      rw [e0]
      refine ForW.by walk_rgN (fun i σ H' => ∃ (v v' : Option V) (ns : List Nat), σ = [some (.int c), some (.int w), some (.int m), some (.ref p), v, some (.int b0), v'] ∧ ns.length = i ∧ (∀ x ∈ ns, x < 2 ^ w) ∧ Ex H H' ∧ H' p = some (.lst (ns.map nV)))
        ⟨none, none, [], rfl, rfl, by simp, Ex.new hp, upd_same⟩ (fun _ _ _ _ _ => trivial) ?_ ?_
      · rintro i _ σ H1 _ hi ⟨v, v', ns, rfl, hn, hb, ex, hp1⟩ ⟨rfl, rfl⟩
        walk_at "wx"
        refine wc_l_mixed (n := c / 2 % 10 ^ 60) (k := i + 1) (by simp) (by simp) fun d => ?_
        walk_at "wx"
        obtain ⟨mm, hmm, em⟩ : ∃ mm : Nat, mm ≤ w ∧ min (w : Int) (1 + (d : Int) % 6) = mm := ⟨(min (w : Int) (1 + (d : Int) % 6)).toNat, by omega, by omega⟩
        rw [em]
        walk_at "wx"
        obtain ⟨r, hr, e⟩ := mod_two_lt (z := (d : Int) / 64) (k := mm)
        rw [e]
        walk_at "wx"
        rw [Bits.bitXor_pp (Int.natCast_nonneg _) (Int.natCast_nonneg _)]
        refine ⟨_, _, ns ++ [b0 ^^^ r], rfl, by simp [hn], ?_, ex.mut hp hp1, by rw [upd_same, List.map_append]; rfl⟩
        intro x hx
        rcases List.mem_append.mp hx with h | h
        · exact hb x h
        · rw [List.mem_singleton.mp h]
          exact Nat.xor_lt_two_pow hb0 (Nat.lt_of_lt_of_le hr (Nat.pow_le_pow_right (by decide) hmm))
      · rintro σ H1 ⟨v, v', ns, rfl, hn, hb, ex, hp1⟩
        walk_at "wx"
        exact q p H1 ns hn hb hp ex hp1
end
end Nn
local macro_rules | `(tactic| walk_at "wc") => `(tactic| ((with_reducible refine' Nn.wc_l_mixed ?hS ?hA (fun _ => ?_)); (case hS => walk_at "wnat"); (case hA => walk_at "wnat")))
local macro_rules | `(tactic| walk_at "wc") => `(tactic| ((with_reducible refine' Nn.wc_l_cell_at ?hS ?hA (fun _ => ?_)); (case hS => walk_at "wnat"); (case hA => walk_at "wsq")))
/-! far: the bits' difference -/
namespace Nn
open PySem L2
section
variable {P : Program} {w : World} {K : PySem.W.Frag} {mg : Str → Option Value} {base : Heap} {H : Hp} {Q : VK} {E : XK}
def sp_far (_ : Tx K mg base) : Sp := fun vs H Q E => ∃ (a : Nat) (b : Nat), vs = [.int a, .int b] ∧ (Q (.int ((a ^^^ b : Nat) : Int)) H)
theorem wc_far {T : Tx K mg base} {a : Nat} {b : Nat} {i0 : Int} {i1 : Int} (e0 : i0 = a) (e1 : i1 = b)  (h : Q (.int ((a ^^^ b : Nat) : Int)) H) : sp_far T [.int i0, .int i1] H Q E := by
  subst e0 e1
  exact ⟨a, b, rfl, h⟩
theorem ok_far (T : Tx K mg base) : FnOk P w K mg base CX0 1 T.a_far T.d_far ["one", "other"] (sp_far T) := by
  refine T.F_far.okD sc_far (fun vs H Q E h => ?_) (fun cdv A outer s H vs Q E hr h => ?_)
  · obtain ⟨a, b, rfl, q⟩ := h; rfl
  · obtain ⟨a, b, rfl, q⟩ := h
    have hu := hu_of hr
    refine ⟨_, (pss_one (ps_ret (pe_op op_xor (pv 0) (pv 1)))), ?_⟩
    rw [Nn.st_far]; try rw [Nn.cxK]
    try rw [Nn.cxW]
    walk_at "wx"
    rw [Bits.bitXor_pp (Int.natCast_nonneg _) (Int.natCast_nonneg _)]
    exact q
end
end Nn
local macro_rules | `(tactic| walk_at "wc") => `(tactic| ((with_reducible refine' Nn.wc_far ?hE0 ?hE1 (?_)); (case hE0 => walk_at "wnat"); (case hE1 => walk_at "wnat")))
/-! nearer, step, span -/
namespace Nn
open PySem L2
section
variable {P : Program} {w : World} {K : PySem.W.Frag} {mg : Str → Option Value} {base : Heap} {H : Hp} {Q : VK} {E : XK}
def sp_nearer (_ : Tx K mg base) : Sp := fun vs H Q E => ∃ (g : Nat) (a : Nat) (b : Nat), vs = [.int g, .int a, .int b] ∧ (Q (.bl (decide (g ^^^ a < g ^^^ b))) H)
theorem wc_nearer {T : Tx K mg base} {g : Nat} {a : Nat} {b : Nat} {i0 : Int} {i1 : Int} {i2 : Int} (e0 : i0 = g) (e1 : i1 = a) (e2 : i2 = b)  (h : Q (.bl (decide (g ^^^ a < g ^^^ b))) H) : sp_nearer T [.int i0, .int i1, .int i2] H Q E := by
  subst e0 e1 e2
  exact ⟨g, a, b, rfl, h⟩
theorem ok_nearer (T : Tx K mg base) : FnOk P w K mg base CX0 2 T.a_nearer T.d_nearer ["goal", "one", "other"] (sp_nearer T) := by
  refine T.F_nearer.okD sc_nearer (fun vs H Q E h => ?_) (fun cdv A outer s H vs Q E hr h => ?_)
  · obtain ⟨g, a, b, rfl, q⟩ := h; rfl
  · obtain ⟨g, a, b, rfl, q⟩ := h
    have hu := hu_of hr
    refine ⟨_, (pss_one (ps_ret (pe_cmpR op_lt (pe_call (ok_far T) hr rfl T.m_far T.F_far.kp T.b_far .nil pass0 (pa_cons (pv 0) (pa_cons (pv 1) pa_nil))) (pe_call (ok_far T) hr rfl T.m_far T.F_far.kp T.b_far .nil pass0 (pa_cons (pv 0) (pa_cons (pv 2) pa_nil))) (nomark _)))), ?_⟩
    rw [Nn.st_nearer]; try rw [Nn.cxK]
    try rw [Nn.cxW]
    walk_at "wx"
    have e : decide (((g ^^^ a : Nat) : Int) < ((g ^^^ b : Nat) : Int)) = decide (g ^^^ a < g ^^^ b) := by simp
    rw [e]; exact q
end
end Nn
local macro_rules | `(tactic| walk_at "wc") => `(tactic| ((with_reducible refine' Nn.wc_nearer ?hE0 ?hE1 ?hE2 (?_)); (case hE0 => walk_at "wnat"); (case hE1 => walk_at "wnat"); (case hE2 => walk_at "wnat")))
/-! by_nearness -/
namespace Nn
open PySem L2
section
variable {P : Program} {w : World} {K : PySem.W.Frag} {mg : Str → Option Value} {base : Heap} {H : Hp} {Q : VK} {E : XK}
/-- the dict of by_nearness: the keys ks, each with its name -/
def farD (g : Nat) (ks : List Nat) : List (Key × V) := ks.map fun k => (nK k, nV (g ^^^ k))
theorem farD_val {g n : Nat} : ∀ {ks : List Nat}, valV (farD g ks) (nK n) = if n ∈ ks then some (nV (g ^^^ n)) else none
  | [] => rfl
  | k :: r => by
    by_cases e : k = n
    · rw [if_pos (by simp [e])]
      show valV ((nK k, nV (g ^^^ k)) :: farD g r) (nK n) = _
      rw [valV_pos (by rw [e]), e]
    · show valV ((nK k, nV (g ^^^ k)) :: farD g r) (nK n) = _
      rw [valV_neg (by intro z; exact e (nK_inj z)), farD_val]
      simp [e, Ne.symm e]
theorem mem_cast {z : Nat} {l : List Nat} : (z : Int) ∈ l.map (fun n : Nat => (n : Int)) ↔ z ∈ l := by
  rw [List.mem_map]
  exact ⟨fun ⟨a, h, e⟩ => by rw [← Int.ofNat.inj e]; exact h, fun h => ⟨z, h, rfl⟩⟩
theorem farD_put {g n : Nat} {ks : List Nat} : putK (farD g ks) (nK (g ^^^ n)) (nV n) = farD g (if g ^^^ n ∈ ks then ks else ks ++ [g ^^^ n]) := by
  by_cases h : g ^^^ n ∈ ks
  · rw [if_pos h]
    unfold putK
    have e : ((farD g ks).any fun kv => decide (kv.1 = nK (g ^^^ n))) = true := by rw [valV_any, farD_val, if_pos h]; rfl
    rw [if_pos e]
    unfold farD
    rw [List.map_map]
    refine List.map_congr_left fun k _ => ?_
    show (if nK k = nK (g ^^^ n) then (nK k, nV n) else (nK k, nV (g ^^^ k))) = _
    by_cases q : k = g ^^^ n
    · rw [if_pos (by rw [q]), q, xor_self_left]
    · rw [if_neg fun z => q (nK_inj z)]
  · rw [if_neg h, putK_new _ (by rw [farD_val, if_neg h])]
    unfold farD
    rw [List.map_append]
    simp [xor_self_left]
def sp_by_nearness (_ : Tx K mg base) : Sp := fun vs H Q E => ∃ (g : Nat) (p_names : Addr) (names : List Nat), vs = [.int g, .ref p_names] ∧ (SqL K H p_names (names.map nV)) ∧ ((byN g names).length < 64 ∧ names.length ≤ 100000) ∧ (∀ p H', H p = none → Ex H H' → H' p = some (.lst ((byN g names).map nV)) → Q (.ref p) H')
theorem wc_by_nearness {T : Tx K mg base} {g : Nat} {p_names : Addr} {names : List Nat} {i0 : Int} (e0 : i0 = g) (c0 : SqL K H p_names (names.map nV)) (c1 : (byN g names).length < 64 ∧ names.length ≤ 100000) (h : ∀ p H', H p = none → Ex H H' → H' p = some (.lst ((byN g names).map nV)) → Q (.ref p) H') : sp_by_nearness T [.int i0, .ref p_names] H Q E := by
  subst e0
  exact ⟨g, p_names, names, rfl, c0, c1, h⟩
theorem ok_by_nearness (T : Tx K mg base) : FnOk P w K mg base CX0 2 T.a_by_nearness T.d_by_nearness ["goal", "names"] (sp_by_nearness T) := by
  refine T.F_by_nearness.okD sc_by_nearness (fun vs H Q E h => ?_) (fun cdv A outer s H vs Q E hr h => ?_)
  · obtain ⟨g, p_names, names, rfl, hS0, hpre, q⟩ := h; rfl
  · obtain ⟨g, p_names, names, rfl, hS0, hpre, q⟩ := h
    have hu := hu_of hr
    refine ⟨_, (pss_cons (ps_set (i := 2) sc_by_nearness.nd rfl (Or.inr rfl) pe_dnewK)
      (pss_cons (ps_for PassesOwn.never rfl (pi_list (pv 1)) (pg_name (i := 3) sc_by_nearness.nd rfl (Or.inl rfl))
      (pss_one (ps_dput hu (pv 2) (pe_call (ok_far T) hr rfl T.m_far T.F_far.kp T.b_far .nil pass0 (pa_cons (pv 0) (pa_cons (pv 3) pa_nil))) (pv 3) rfl)))
      (pss_one (ps_ret (pe_lc (own := [("one", 4)]) (g := (gName 4)) (by rfl) sc_by_nearness.nd (pi_list (pe_callB (cb_sortD rfl) (by rfl) T.z_sorted (by decide +kernel) (pa_cons (pv 2) pa_nil))) (blkOk_by (N := N_by_nearness) (sc := defScope s_by_nearness) (own := [("one", 4)]) (by decide +kernel)) (fun _ _ _ _ _ => (pg_name (i := 4) sc_by_nearness.nd rfl (Or.inl rfl))) (fun _ _ _ _ _ => pts_nil) (fun _ _ _ _ _ => (pe_dget hu (pv 2) (pv 4) (fun _ _ => rfl)))))))), ?_⟩
    rw [Nn.st_by_nearness]; try rw [Nn.cxK]
    try rw [Nn.cxW]
    walk_at "wx"
    intro d hd
    walk_at "wx"
    obtain ⟨h64, hz⟩ := hpre
    refine ForW.by walk_list (fun i σ H' => ∃ (v : Option V) (ks : List Nat), σ = [some (.int g), some (.ref p_names), some (.ref d), v, none] ∧ Ex H H' ∧ H' d = some (.dK (farD g ks)) ∧ ks.Nodup ∧ (∀ k, k ∈ ks ↔ k ∈ (names.take i).map (g ^^^ ·)))
      ⟨none, [], rfl, Ex.new hd, upd_same, List.nodup_nil, by simp⟩ (fun i σ H' _ ⟨_, _, _, e, _⟩ => e.ls hS0) ?_ ?_
    · rintro i x σ H1 _ hi ⟨v, ks, rfl, ex1, h1, nd, hm⟩ ⟨rfl, hx⟩
      rw [List.length_map] at hi
      obtain rfl : x = nV names[i] := by
        rw [List.getElem?_map, List.getElem?_eq_getElem hi] at hx
        exact (Option.some.inj hx).symm
      have et : names.take (i + 1) = names.take i ++ [names[i]] := by rw [List.take_add_one, List.getElem?_eq_getElem hi]; rfl
      have hk64 : ks.length ≤ (byN g names).length := by
        have e : (byN g names).length = (sortU (names.map (g ^^^ ·))).length := by unfold byN; rw [List.length_map]
        rw [e]
        refine nodup_len nd fun k hk => mem_sortU.mpr ?_
        obtain ⟨n, hn, rfl⟩ := List.mem_map.mp ((hm k).mp hk)
        exact List.mem_map.mpr ⟨n, List.mem_of_mem_take hn, rfl⟩
      walk_at "wx"
      refine x_dput h1 (by unfold farD; rw [sizeLine_eq, List.length_map]; omega) ?_
      have hput : putK (farD g ks) (Sum.inl ((g ^^^ names[i] : Nat) : Int)) (nV names[i]) = farD g (if g ^^^ names[i] ∈ ks then ks else ks ++ [g ^^^ names[i]]) := farD_put
      rw [hput]
      refine ⟨_, _, rfl, ex1.mut hd h1, upd_same, ?_, fun k => ?_⟩
      · by_cases h : g ^^^ names[i] ∈ ks
        · rw [if_pos h]; exact nd
        · rw [if_neg h]; exact nd_snoc nd h
      · rw [et, List.map_append, List.mem_append, ← hm]
        by_cases h : g ^^^ names[i] ∈ ks
        · rw [if_pos h]
          constructor
          · exact .inl
          · rintro (q | q)
            · exact q
            · rw [List.map_singleton, List.mem_singleton] at q; rw [q]; exact h
        · rw [if_neg h, List.mem_append]; simp
    · rintro σ H1 ⟨v, ks, rfl, ex1, h1, nd, hm⟩
      rw [List.length_map, List.take_length] at hm
      have hkeys : (farD g ks).map (·.1) = (ks.map fun n : Nat => (n : Int)).map Sum.inl := by unfold farD; rw [List.map_map, List.map_map]; rfl
      have hk64 : ks.length ≤ (byN g names).length := by
        have e : (byN g names).length = (sortU (names.map (g ^^^ ·))).length := by unfold byN; rw [List.length_map]
        rw [e]
        exact nodup_len nd fun k hk => mem_sortU.mpr ((hm k).mp hk)
      walk_at "wx"
      refine ⟨d, _, _, rfl, .inl h1, hkeys, by rw [List.length_map]; omega, fun ys p hperm hsort hp => ?_⟩
      obtain ⟨zs, rfl⟩ : ∃ zs : List Nat, ys = zs.map fun n : Nat => (n : Int) := by
        refine ⟨ys.map Int.toNat, ?_⟩
        rw [List.map_map]
        refine (List.map_id ys).symm.trans (List.map_congr_left fun y hy => ?_)
        obtain ⟨n, _, rfl⟩ := List.mem_map.mp (hperm.mem_iff.mp hy)
        simp
      have hzs : zs = sortU (names.map (g ^^^ ·)) := by
        have hmem : ∀ z, z ∈ zs ↔ z ∈ ks := fun z => by
          rw [← mem_cast (l := zs), ← mem_cast (l := ks)]
          exact hperm.mem_iff
        refine rising_eq ?_ (sortU_sorted _) fun z => by rw [hmem, hm, mem_sortU]
        have nz : zs.Nodup := by
          have q : (zs.map fun n : Nat => (n : Int)).Nodup := hperm.nodup_iff.mpr (List.Pairwise.map _ (fun a b h e => h (Int.ofNat.inj e)) nd)
          exact (List.pairwise_map.mp q).imp fun h e => h (by rw [e])
        have le : zs.Pairwise (· ≤ ·) := (List.pairwise_map.mp hsort).imp fun h => by omega
        exact (nz.and le).imp fun h => by omega
      walk_at "wx"
      refine LcW.map (emb := nV) (xs := zs) (fun k => nV (g ^^^ k)) (SqL.of (by rw [upd_same, ← map_nV])) ?_ ?_ ?_
      · have e : zs.length = (byN g names).length := by rw [hzs]; unfold byN; rw [List.length_map]
        rw [e, sizeLine_eq]; omega
      · intro k hk H2 ex2 Qe hQ
        have hd2 : H2 d = some (.dK (farD g ks)) := ex2.at ((Ex.new hp).at h1)
        have hkk : k ∈ ks := (hm k).mpr (mem_sortU.mp (by rw [← hzs]; exact hk))
        have hv : valV (farD g ks) (Sum.inl (k : Int)) = some (nV (g ^^^ k)) := by
          have q := farD_val (g := g) (n := k) (ks := ks)
          rw [if_pos hkk] at q
          exact q
        walk_at "wx"
        exact hQ _ Ex.refl
      · intro D H2 hD ex2 hD2
        refine q D H2 ?_ ((ex1.newT hp).trans ex2) ?_
        · exact (ex1.newT hp).back D hD
        · rw [hD2, hzs]; unfold byN; rw [List.map_map]; rfl
end
end Nn
/-! the law's own nearer and due -/
namespace Nn
open PySem L2
theorem bit_cast (a k : Nat) : (a : Int) / 2 ^ (k : Int).toNat % 2 = ((a / 2 ^ k % 2 : Nat) : Int) := by simp
section
variable {P : Program} {w : World} {K : PySem.W.Frag} {mg : Str → Option Value} {base : Heap} {H : Hp} {Q : VK} {E : XK}
def sp_l_nearer (_ : Tx K mg base) : Sp := fun vs H Q E => ∃ (g : Nat) (a : Nat) (b : Nat) (w : Nat), vs = [.int g, .int a, .int b, .int w] ∧ (a < 2 ^ w ∧ b < 2 ^ w ∧ w ≤ 60) ∧ (Q (.bl (decide (g ^^^ a < g ^^^ b))) H)
theorem wc_l_nearer {T : Tx K mg base} {g : Nat} {a : Nat} {b : Nat} {w : Nat} {i0 : Int} {i1 : Int} {i2 : Int} {i3 : Int} (e0 : i0 = g) (e1 : i1 = a) (e2 : i2 = b) (e3 : i3 = w) (c0 : a < 2 ^ w ∧ b < 2 ^ w ∧ w ≤ 60) (h : Q (.bl (decide (g ^^^ a < g ^^^ b))) H) : sp_l_nearer T [.int i0, .int i1, .int i2, .int i3] H Q E := by
  subst e0 e1 e2 e3
  exact ⟨g, a, b, w, rfl, c0, h⟩
theorem ok_l_nearer (T : Tx K mg base) : FnOk P w K mg base CX0 1 T.a_l_nearer T.d_l_nearer ["_law_goal", "_law_one", "_law_other", "_law_wide_here"] (sp_l_nearer T) := by
  refine T.F_l_nearer.okD sc_l_nearer (fun vs H Q E h => ?_) (fun cdv A outer s H vs Q E hr h => ?_)
  · obtain ⟨g, a, b, w, rfl, hpre, q⟩ := h; rfl
  · obtain ⟨g, a, b, w, rfl, hpre, q⟩ := h
    have hu := hu_of hr
    refine ⟨_, (pss_cons (ps_for PassesOwn.never rfl (pi_range3 rfl T.z_range (pa_cons (pe_op op_sub (pv 3) pe_int) (pa_cons (pe_un un_neg pe_int) (pa_cons (pe_un un_neg pe_int) pa_nil)))) (pg_name (i := 4) sc_l_nearer.nd rfl (Or.inl rfl))
      (pss_one (ps_if (pt_cmpR op_ne (pe_op op_mod (pe_op op_shr (pv 1) (pv 4)) pe_int) (pe_op op_mod (pe_op op_shr (pv 2) (pv 4)) pe_int) (nomark _))
      (pss_one (ps_ret (pe_cmpR op_eq (pe_op op_mod (pe_op op_shr (pv 1) (pv 4)) pe_int) (pe_op op_mod (pe_op op_shr (pv 0) (pv 4)) pe_int) (nomark _))))
      pss_nil)))
      (pss_one (ps_ret pe_bl))), ?_⟩
    rw [Nn.st_l_nearer]; try rw [Nn.cxK]
    try rw [Nn.cxW]
    walk_at "wx"
    obtain ⟨ha, hb, hw⟩ := hpre
    refine ForW.by walk_down (fun i σ H' => ∃ v, σ = [some (.int g), some (.int a), some (.int b), some (.int w), v] ∧ H' = H ∧ i ≤ w ∧ a / 2 ^ (w - i) = b / 2 ^ (w - i)) ⟨none, rfl, rfl, Nat.zero_le _, by rw [Nat.sub_zero, Nat.div_eq_of_lt ha, Nat.div_eq_of_lt hb]⟩ (fun _ _ _ _ _ => trivial) ?_ ?_
    · rintro i _ σ _ H1 hi ⟨v, rfl, rfl, _, he⟩ ⟨rfl, k, hk, rfl⟩
      have ek : w - i = k + 1 := by omega
      rw [ek] at he
      walk_at "wx"
      rw [bit_cast, bit_cast]
      refine x_ifN (fun h => ?_) (fun h => ?_)
      · walk_at "wx"
        rw [bit_cast, bit_cast]
        have hne : a / 2 ^ k % 2 ≠ b / 2 ^ k % 2 := fun z => h (by rw [z])
        have e : decide (((a / 2 ^ k % 2 : Nat) : Int) = ((g / 2 ^ k % 2 : Nat) : Int)) = decide (g ^^^ a < g ^^^ b) := by
          refine decide_eq_decide.mpr ?_
          rw [bit_near he hne]
          exact ⟨fun z => Int.ofNat.inj z, fun z => by rw [z]⟩
        rw [e]; exact q
      · walk_at "wx"
        have hab : a / 2 ^ k % 2 = b / 2 ^ k % 2 := Int.ofNat.inj h
        refine ⟨some (.int k), rfl, rfl, by omega, ?_⟩
        have e2 : w - (i + 1) = k := by omega
        rw [e2]
        have e3 : ∀ x : Nat, x / 2 ^ (k + 1) = x / 2 ^ k / 2 := fun x => by rw [Nat.pow_succ, Nat.div_div_eq_div_mul]
        rw [e3, e3] at he
        omega
    · rintro σ H1 ⟨v, rfl, rfl, _, he⟩
      walk_at "wx"
      rw [Nat.sub_self, Nat.pow_zero, Nat.div_one, Nat.div_one] at he
      have e : decide (g ^^^ a < g ^^^ b) = false := decide_eq_false (by rw [he]; exact Nat.lt_irrefl _)
      rw [e] at q; exact q
end
end Nn
local macro_rules | `(tactic| walk_at "wc") => `(tactic| ((with_reducible refine' Nn.wc_l_nearer ?hE0 ?hE1 ?hE2 ?hE3 ?hC0 (?_)); (case hE0 => walk_at "wnat"); (case hE1 => walk_at "wnat"); (case hE2 => walk_at "wnat"); (case hE3 => walk_at "wnat"); (case hC0 => walk_at "wpre")))
/-! k03: by nearness -/
namespace Nn
open PySem L2
def spLaw (K : PySem.W.Frag) : Sp := fun vs H Q _ => ∃ (a : Addr) (ns : List Int), vs = [.ref a] ∧ SqL K H a (ns.map V.int) ∧ ns.length ≤ 63 ∧ ∀ H', Q (.bl true) H'
def sp_law (_ : Tx K mg base) : Sp := spLaw K
section
variable {P : Program} {w : World} {K : PySem.W.Frag} {mg : Str → Option Value} {base : Heap} {H : Hp} {Q : VK} {E : XK}
def sp_l_right (_ : Tx K mg base) : Sp := fun vs H Q E => ∃ (g : Nat) (p_ns : Addr) (ns : List Nat) (wd : Nat), vs = [.int g, .ref p_ns, .int wd] ∧ (SqL K H p_ns (ns.map nV)) ∧ ((∀ x ∈ ns, x < 2 ^ wd) ∧ wd ≤ 60 ∧ ns.length ≤ 21) ∧ (∀ H', Ex H H' → Q (.bl true) H')
theorem wc_l_right {T : Tx K mg base} {g : Nat} {p_ns : Addr} {ns : List Nat} {wd : Nat} {i0 : Int} {i2 : Int} (e0 : i0 = g) (e2 : i2 = wd) (c0 : SqL K H p_ns (ns.map nV)) (c1 : (∀ x ∈ ns, x < 2 ^ wd) ∧ wd ≤ 60 ∧ ns.length ≤ 21) (h : ∀ H', Ex H H' → Q (.bl true) H') : sp_l_right T [.int i0, .ref p_ns, .int i2] H Q E := by
  subst e0 e2
  exact ⟨g, p_ns, ns, wd, rfl, c0, c1, h⟩
theorem ok_l_right (T : Tx K mg base) : FnOk P w K mg base CX0 3 T.a_l_right T.d_l_right ["_law_goal", "_law_names_here", "_law_wide_here"] (sp_l_right T) := by
  refine T.F_l_right.okD sc_l_right (fun vs H Q E h => ?_) (fun cdv A outer s H vs Q E hr h => ?_)
  · obtain ⟨g, p_ns, ns, wd, rfl, hS0, hpre, q⟩ := h; rfl
  · obtain ⟨g, p_ns, ns, wd, rfl, hS0, hpre, q⟩ := h
    have hu := hu_of hr
    refine ⟨_, (pss_cons (ps_set (i := 3) sc_l_right.nd rfl (Or.inl rfl) (pe_callTy cb_list (by rfl) T.z_list (by decide +kernel) (pa_cons (pv 1) pa_nil)))
      (pss_cons (ps_set (i := 4) sc_l_right.nd rfl (Or.inl rfl) (pe_call (ok_by_nearness T) hr rfl T.m_by_nearness T.F_by_nearness.kp T.b_by_nearness .nil pass0 (pa_cons (pv 0) (pa_cons (pv 3) pa_nil))))
      (pss_cons (ps_if (PW.pt (pw_or (pt_not (pt_val (pe_callB call_isi (by rfl) T.z_isinstance (by decide +kernel) (pa_cons (pv 4) (pa_cons (pe_bltn (v := .ty "list") rfl T.z_list (by decide +kernel) rfl) pa_nil))))) (pw_or (pt_cmpR (op_neD hr.units) (pv 3) (pv 1) (nomark _)) (pw_or1 (pt_cmpR (op_neD hr.units) (pe_callB cr_sortedI (by rfl) T.z_sorted (by decide +kernel) (pa_cons (pv 4) pa_nil)) (pe_callB (cr_sortedSet rfl) (by rfl) T.z_sorted (by decide +kernel) (pa_cons (pe_callTy (cr_setL rfl) (by rfl) T.z_set (by decide +kernel) (pa_cons (pv 1) pa_nil)) pa_nil)) (nomark _))))))
      (pss_one (ps_ret pe_bl))
      pss_nil)
      (pss_cons (ps_for PassesOwn.never rfl (pi_zip (by rfl) T.z_zip (pa_cons (pe_slice sl_list (pv 4) po_none (po_some (pe_un un_neg pe_int))) (pa_cons (pe_slice sl_list (pv 4) (po_some pe_int) po_none) pa_nil))) (pg_tup (n := 2) rfl (pgs_cons (pg_name (i := 5) sc_l_right.nd rfl (Or.inl rfl)) (pgs_cons (pg_name (i := 6) sc_l_right.nd rfl (Or.inl rfl)) pgs_nil)))
      (pss_one (ps_if (pt_not (pt_val (pe_call (ok_l_nearer T) (hr.mono (by decide)) rfl T.m_l_nearer T.F_l_nearer.kp T.b_l_nearer .nil pass0 (pa_cons (pv 0) (pa_cons (pv 5) (pa_cons (pv 6) (pa_cons (pv 2) pa_nil)))))))
      (pss_one (ps_ret pe_bl))
      pss_nil)))
      (pss_cons (ps_for PassesOwn.never rfl (pi_list (pe_slice sl_list (pv 4) po_none (po_some pe_int))) (pg_name (i := 5) sc_l_right.nd rfl (Or.inl rfl))
      (pss_one (ps_for PassesOwn.never rfl (pi_list (pe_slice sl_list (pv 1) po_none (po_some pe_int))) (pg_name (i := 6) sc_l_right.nd rfl (Or.inl rfl))
      (pss_cons (ps_set (i := 7) sc_l_right.nd rfl (Or.inl rfl) (pe_call (ok_nearer T) hr rfl T.m_nearer T.F_nearer.kp T.b_nearer .nil pass0 (pa_cons (pv 0) (pa_cons (pv 5) (pa_cons (pv 6) pa_nil)))))
      (pss_one (ps_if (PW.pt (pw_or (pt_not (pt_val (pe_callB call_isi (by rfl) T.z_isinstance (by decide +kernel) (pa_cons (pv 7) (pa_cons (pe_bltn (v := .ty "bool") rfl T.z_bool (by decide +kernel) rfl) pa_nil))))) (pw_or1 (pt_cmpR op_ne (pv 7) (pe_call (ok_l_nearer T) (hr.mono (by decide)) rfl T.m_l_nearer T.F_l_nearer.kp T.b_l_nearer .nil pass0 (pa_cons (pv 0) (pa_cons (pv 5) (pa_cons (pv 6) (pa_cons (pv 2) pa_nil))))) (nomark _)))))
      (pss_one (ps_ret pe_bl))
      pss_nil))))))
      (pss_cons (ps_expr (pe_bm PySem.F.plainAttrs_list PySem.F.slot_list_append PySem.F.type_list_append mt_append (pv 4) (pa_cons (pe_un un_neg pe_int) pa_nil)))
      (pss_one (ps_ret (pe_and (pe_cmpR (op_eqD hr.units) (pe_call (ok_by_nearness T) hr rfl T.m_by_nearness T.F_by_nearness.kp T.b_by_nearness .nil pass0 (pa_cons (pv 0) (pa_cons (pv 3) pa_nil))) (pe_slice sl_list (pv 4) po_none (po_some (pe_un un_neg pe_int))) (nomark _)) (pe_one (pe_cmpR (op_eqD hr.units) (pv 3) (pv 1) (nomark _)))))))))))), ?_⟩
    rw [Nn.st_l_right]; try rw [Nn.cxK]
    try rw [Nn.cxW]
    walk_at "wx"
    obtain ⟨hb, hw, hl⟩ := hpre
    refine x_listL hS0 fun ph hph => ?_
    have ex1 := Ex.new (o := .lst (ns.map nV)) hph
    have hh1 := upd_same (H := H) (a := ph) (o := .lst (ns.map nV))
    have hS1 := ex1.ls hS0
    generalize upd H ph (.lst (ns.map nV)) = H1 at ex1 hh1 hS1 ⊢
    have hbl : (byN g ns).length ≤ 21 := Nat.le_trans byN_len_le hl
    walk_at "wx"
    refine wc_by_nearness rfl (SqL.of hh1) ⟨by omega, by omega⟩ fun pf H2 hpf ex2 hf2 => ?_
    have ex02 := ex1.trans ex2
    have hh2 := ex2.at hh1
    have hS2 := ex02.ls hS0
    walk_at "wx"
    refine x_sortN (SqL.of hf2) (byN_nodup g ns) fun pa hpa => ?_
    have ex3 := Ex.new (o := .lst ((sortU (byN g ns)).map nV)) hpa
    have ha3 := upd_same (H := H2) (a := pa) (o := .lst ((sortU (byN g ns)).map nV))
    generalize upd H2 pa (.lst ((sortU (byN g ns)).map nV)) = H3 at ex3 ha3 ⊢
    have hS3 := ex3.ls hS2
    walk_at "wx"
    refine x_setL hS3 (by omega) fun pz c hpz hc => ?_
    have ex4 := Ex.new (o := SetO w pz (fun j => decide (j ∈ ns.map fun n : Nat => (n : Int))) c) hpz
    have ha4 := ex4.at ha3
    refine x_sortSet upd_same (by omega) fun pb hpb => ?_
    have es : sortU (byN g ns) = sortU ns := sortU_congr fun z => mem_byN
    rw [es] at ha4
    have ex5 := ex4.newT (o := .lst ((sortU ns).map nV)) hpb
    have ha5 := at_new (o := .lst ((sortU ns).map nV)) hpb ha4
    have hb5 := upd_same (H := upd H3 pz (SetO w pz (fun j => decide (j ∈ ns.map fun n : Nat => (n : Int))) c)) (a := pb) (o := .lst ((sortU ns).map nV))
    generalize upd (upd H3 pz (SetO w pz (fun j => decide (j ∈ ns.map fun n : Nat => (n : Int))) c)) pb (.lst ((sortU ns).map nV)) = H5 at ex5 ha5 hb5 ⊢
    have ex25 := ex3.trans ex5
    have hf5 := ex25.at hf2
    walk_at "wx"
    refine x_slL (SqL.of hf5) fun p1 hp1 => ?_
    rw [cut_init, ← List.map_dropLast]
    have hf6 := at_new (o := .lst ((byN g ns).dropLast.map nV)) hp1 hf5
    walk_at "wx"
    refine x_slL (SqL.of hf6) fun p2 hp2 => ?_
    have e1 : cutV ((byN g ns).map nV) (some 1) none = ((byN g ns).drop 1).map nV := by rw [List.map_drop]; exact cut_drop (k := 1)
    rw [e1]
    have ex6 := (Ex.new (o := .lst ((byN g ns).dropLast.map nV)) hp1).newT (o := .lst (((byN g ns).drop 1).map nV)) hp2
    have h16 := at_new (o := .lst (((byN g ns).drop 1).map nV)) hp2 (upd_same (H := H5) (a := p1) (o := .lst ((byN g ns).dropLast.map nV)))
    have h26 := upd_same (H := upd H5 p1 (.lst ((byN g ns).dropLast.map nV))) (a := p2) (o := .lst (((byN g ns).drop 1).map nV))
    generalize upd (upd H5 p1 (.lst ((byN g ns).dropLast.map nV))) p2 (.lst (((byN g ns).drop 1).map nV)) = H6 at ex6 h16 h26 ⊢
    have ex26 := ex25.trans ex6
    clear hf6 hf5 ha5 hb5 ha4 ha3 hS3 ex5 ex4 ex3
    walk_at "wx"
    refine ForW.by (walk_zipE (n := (byN g ns).length - 1) (by simp)) (fun i σ H' => ∃ (v5 v6 : Option V), σ = [some (.int g), some (.ref p_ns), some (.int wd), some (.ref ph), some (.ref pf), v5, v6, none] ∧ Ex H6 H') ⟨none, none, rfl, Ex.refl⟩ (fun i σ H' _ ⟨_, _, _, e⟩ => ⟨SqL.of (e.at h16), SqL.of (e.at h26)⟩) ?_ ?_
    · rintro i x σ H7 H8 hi ⟨v5, v6, rfl, ex7⟩ ⟨tq, x, y, rfl, htq, ex78, htq8, hx, hy⟩
      have ex8 := ex7.trans ex78
      have hi1 : i + 1 < (byN g ns).length := by omega
      obtain rfl : x = nV (byN g ns)[i] := by
        have hx : ((byN g ns).dropLast.map nV)[i]? = some x := hx
        rw [List.getElem?_map, List.getElem?_dropLast, if_pos hi, List.getElem?_eq_getElem (by omega)] at hx
        exact (Option.some.inj hx).symm
      obtain rfl : y = nV (byN g ns)[i + 1] := by
        have hy : (((byN g ns).drop 1).map nV)[i]? = some y := hy
        rw [List.getElem?_map, List.getElem?_drop, Nat.add_comm, List.getElem?_eq_getElem hi1] at hy
        exact (Option.some.inj hy).symm
      have hlt := List.pairwise_iff_getElem.mp (byN_sorted g ns) i (i + 1) (by omega) hi1 (by omega)
      have b1 := hb _ (mem_byN.mp (List.getElem_mem (l := byN g ns) (by omega : i < (byN g ns).length)))
      have b2 := hb _ (mem_byN.mp (List.getElem_mem hi1))
      walk_at "wx"
      rw [decide_eq_true hlt]
      walk_at "wx"
      exact ⟨_, _, rfl, ex8⟩
    · rintro σ H7 ⟨v5, v6, rfl, ex7⟩
      have ex27 := ex26.trans ex7
      have hf7 := ex27.at hf2
      clear h16 h26 ex6 ex26 ex25
      walk_at "wx"
      refine x_slL (SqL.of hf7) fun p3 hp3 => ?_
      have e2 : cutV ((byN g ns).map nV) none (some 6) = ((byN g ns).take 6).map nV := by rw [List.map_take]; exact cut_take (k := 6)
      rw [e2]
      have ex8 := ex27.newT (o := .lst (((byN g ns).take 6).map nV)) hp3
      have h38 := upd_same (H := H7) (a := p3) (o := .lst (((byN g ns).take 6).map nV))
      generalize upd H7 p3 (.lst (((byN g ns).take 6).map nV)) = H8 at ex8 h38 ⊢
      walk_at "wx"
      refine ForW.by walk_list (fun i σ H' => ∃ (v5 v6 v7 : Option V), σ = [some (.int g), some (.ref p_ns), some (.int wd), some (.ref ph), some (.ref pf), v5, v6, v7] ∧ Ex H8 H') ⟨_, _, _, rfl, Ex.refl⟩ (fun i σ H' _ ⟨_, _, _, _, e⟩ => SqL.of (e.at h38)) ?_ ?_
      · rintro i x σ _ H9 hi ⟨v5, v6, v7, rfl, ex9⟩ ⟨rfl, hx⟩
        obtain ⟨one, hone, rfl⟩ := List.mem_map.mp (List.mem_of_getElem? hx)
        have b1 := hb _ (mem_byN.mp (List.mem_of_mem_take hone))
        have hS9 := (ex02.trans (ex8.trans ex9)).ls hS0
        walk_at "wx"
        refine x_slL hS9 fun p4 hp4 => ?_
        have e3 : cutV (ns.map nV) none (some 6) = (ns.take 6).map nV := by rw [List.map_take]; exact cut_take (k := 6)
        rw [e3]
        have ex10 := ex9.newT (o := .lst ((ns.take 6).map nV)) hp4
        have h410 := upd_same (H := H9) (a := p4) (o := .lst ((ns.take 6).map nV))
        generalize upd H9 p4 (.lst ((ns.take 6).map nV)) = H10 at ex10 h410 ⊢
        walk_at "wx"
        refine ForW.by walk_list (fun i σ H' => ∃ (v6 v7 : Option V), σ = [some (.int g), some (.ref p_ns), some (.int wd), some (.ref ph), some (.ref pf), some (nV one), v6, v7] ∧ Ex H10 H') ⟨_, _, rfl, Ex.refl⟩ (fun i σ H' _ ⟨_, _, _, e⟩ => SqL.of (e.at h410)) ?_ ?_
        · rintro j x σ _ H11 hj ⟨v6, v7, rfl, ex11⟩ ⟨rfl, hx⟩
          obtain ⟨two, htwo, rfl⟩ := List.mem_map.mp (List.mem_of_getElem? hx)
          have b2 := hb _ (List.mem_of_mem_take htwo)
          walk_at "wx"
          exact ⟨_, _, rfl, ex11⟩
        · rintro σ H11 ⟨v6, v7, rfl, ex11⟩
          walk_at "wx"
          exact ⟨_, _, _, rfl, ex10.trans ex11⟩
      · rintro σ H9 ⟨v5, v6, v7, rfl, ex9⟩
        have ex29 := ex8.trans ex9
        have hf9 := ex29.at hf2
        walk_at "wx"
        have hfr := Fr.upd1 (o := .lst ((byN g ns).map nV ++ [.int (-1)])) hf9
        have hf10 := upd_same (H := H9) (a := pf) (o := .lst ((byN g ns).map nV ++ [.int (-1)]))
        have exL := (ex02.trans ex29).mut (o := .lst ((byN g ns).map nV ++ [.int (-1)])) (ex1.back pf hpf) hf9
        have npf : ph ≠ pf := fun z => by rw [← z, hh1] at hpf; cases hpf
        have hh10 := hfr.at (ex29.at hh2) npf
        have hS10 := exL.ls hS0
        generalize upd H9 pf (.lst ((byN g ns).map nV ++ [.int (-1)])) = H10 at hf10 exL hh10 hS10 ⊢
        walk_at "wx"
        refine wc_by_nearness rfl (SqL.of hh10) ⟨by omega, by omega⟩ fun pk H11 hpk ex11 hk11 => ?_
        walk_at "wx"
        refine x_slL (SqL.of (ex11.at hf10)) fun p5 hp5 => ?_
        rw [cut_init, List.dropLast_concat]
        have hk12 := at_new (o := .lst ((byN g ns).map nV)) hp5 hk11
        have hS12 := (Ex.new (o := .lst ((byN g ns).map nV)) hp5).ls (ex11.ls hS10)
        have hh12 := at_new (o := .lst ((byN g ns).map nV)) hp5 (ex11.at hh10)
        walk_at "wx"
        rw [decide_eq_true rfl]
        exact q _ ((exL.trans ex11).newT hp5)
theorem ok_law (T : Tx K mg base) : FnOk P w K mg base CX0 4 T.a_law T.d_law ["_law_script"] (sp_law T) := by
  refine T.F_law.okD sc_law (fun vs H Q E h => ?_) (fun cdv A outer s H vs Q E hr h => ?_)
  · obtain ⟨a, ns, rfl, _⟩ := h; rfl
  · obtain ⟨a, ns, rfl, hS, hlen, q⟩ := h
    have hu := hu_of hr
    refine ⟨_, (pss_cons (ps_set (i := 1) sc_law.nd rfl (Or.inl rfl) (pe_call (ok_l_wide T) (hr.mono (by decide)) rfl T.m_l_wide T.F_l_wide.kp T.b_l_wide .nil pass0 (pa_cons (pe_call (ok_l_cell_at T) (hr.mono (by decide)) rfl T.m_l_cell_at T.F_l_cell_at.kp T.b_l_cell_at .nil pass0 (pa_cons (pv 0) (pa_cons pe_int pa_nil))) pa_nil)))
      (pss_cons (ps_for PassesOwn.never rfl (pi_range1 rfl T.z_range (pa_cons (pe_op op_add pe_int (pe_callB (cb_min2 rfl) (by rfl) T.z_min (by decide +kernel) (pa_cons (pe_callB cb_len (by rfl) T.z_len PySem.boot_len (pa_cons (pv 0) pa_nil)) (pa_cons pe_int pa_nil)))) pa_nil)) (pg_name (i := 2) sc_law.nd rfl (Or.inl rfl))
      (pss_cons (ps_set (i := 3) sc_law.nd rfl (Or.inl rfl) (pe_call (ok_l_names T) (hr.mono (by decide)) rfl T.m_l_names T.F_l_names.kp T.b_l_names .nil pass0 (pa_cons (pe_call (ok_l_cell_at T) (hr.mono (by decide)) rfl T.m_l_cell_at T.F_l_cell_at.kp T.b_l_cell_at .nil pass0 (pa_cons (pv 0) (pa_cons (pe_op op_add (pv 2) pe_int) pa_nil))) (pa_cons (pv 1) (pa_cons pe_int pa_nil)))))
      (pss_cons (ps_set (i := 4) sc_law.nd rfl (Or.inl rfl) (pe_ix ix_list (pe_call (ok_l_names T) (hr.mono (by decide)) rfl T.m_l_names T.F_l_names.kp T.b_l_names .nil pass0 (pa_cons (pe_call (ok_l_cell_at T) (hr.mono (by decide)) rfl T.m_l_cell_at T.F_l_cell_at.kp T.b_l_cell_at .nil pass0 (pa_cons (pv 0) (pa_cons (pv 2) pa_nil))) (pa_cons (pv 1) (pa_cons pe_int pa_nil)))) (pe_op op_sub pe_int (pv 2)) (fun _ _ => rfl)))
      (pss_cons (ps_set (i := 5) sc_law.nd rfl (Or.inl rfl) (pe_op op_mod (pe_call (ok_l_mixed T) (hr.mono (by decide)) rfl T.m_l_mixed T.F_l_mixed.kp T.b_l_mixed .nil pass0 (pa_cons (pe_op op_mod (pe_call (ok_l_cell_at T) (hr.mono (by decide)) rfl T.m_l_cell_at T.F_l_cell_at.kp T.b_l_cell_at .nil pass0 (pa_cons (pv 0) (pa_cons (pv 2) pa_nil))) (pe_op op_pow pe_int pe_int)) (pa_cons (pv 2) pa_nil))) pe_int))
      (pss_one (ps_if (PW.pt (pw_or (pt_not (pt_val (pe_call (ok_l_right T) hr rfl T.m_l_right T.F_l_right.kp T.b_l_right .nil pass0 (pa_cons (pv 4) (pa_cons (pe_slice sl_list (pv 3) po_none (po_some (pv 5))) (pa_cons (pv 1) pa_nil)))))) (pw_or1 (pt_not (pt_val (pe_call (ok_l_right T) hr rfl T.m_l_right T.F_l_right.kp T.b_l_right .nil pass0 (pa_cons (pv 4) (pa_cons (pe_op op_cat (pe_slice sl_list (pv 3) (po_some (pv 5)) po_none) (pe_slice sl_list (pv 3) po_none (po_some pe_int))) (pa_cons (pv 1) pa_nil)))))))))
      (pss_one (ps_ret pe_bl))
      pss_nil))))))
      (pss_one (ps_ret (pe_cmpR (op_eqD hr.units) (pe_call (ok_by_nearness T) (hr.mono (by decide)) rfl T.m_by_nearness T.F_by_nearness.kp T.b_by_nearness .nil pass0 (pa_cons pe_int (pa_cons (pe_lst pa_nil) pa_nil))) (pe_lst pa_nil) (nomark _)))))), ?_⟩
    rw [Nn.st_law]; try rw [Nn.cxK]
    try rw [Nn.cxW]
    walk_at "wx"
    refine wc_l_wide rfl fun wd H1 hw1 hw2 ex1 => ?_
    have hS1 := ex1.ls hS
    walk_at "wx"
    obtain ⟨m, hm, em⟩ : ∃ m : Nat, m ≤ 10 ∧ (1 : Int) + min (((ns.map V.int).length : Nat) : Int) 9 = (m : Int) := ⟨1 + min (ns.map V.int).length 9, by omega, by omega⟩
    rw [em]
    refine x_rgN (by omega) ?_
    refine ForW.by walk_rgN (fun i σ H' => ∃ (v2 v3 v4 v5 : Option V), σ = [some (.ref a), some (.int wd), v2, v3, v4, v5] ∧ Ex H H') ⟨_, _, _, _, rfl, ex1⟩ (fun _ _ _ _ _ => trivial) ?_ ?_
    · rintro i _ σ H2 _ hi ⟨v2, v3, v4, v5, rfl, ex2⟩ ⟨rfl, rfl⟩
      have hS2 := ex2.ls hS
      have e1 : (i : Int) + 1 = ((i + 1 : Nat) : Int) := by simp
      walk_at "wx"
      refine wc_l_names rfl rfl (m := 20) rfl hw2 (by decide) fun pn H3 xs hxl hxb hpn ex3 hpn3 => ?_
      have hS3 := (ex2.trans ex3).ls hS
      walk_at "wx"
      refine wc_l_names rfl rfl (m := 21) rfl hw2 (by decide) fun pg H4 gs hgl hgb hpg ex4 hpg4 => ?_
      have hS4 := (ex2.trans (ex3.trans ex4)).ls hS
      have hpn4 := ex4.at hpn3
      have e2 : (20 : Int) - (i : Int) = ((20 - i : Nat) : Int) := by omega
      walk_at "wx"
      rw [e2]
      have hk : 20 - i < gs.length := by omega
      refine x_ixL (SqL.of hpg4) (atI_nV hk) ?_
      generalize gs[20 - i] = g
      walk_at "wx"
      rename_i r
      have e3 : (r : Int) % 21 = ((r % 21 : Nat) : Int) := by simp
      rw [e3]
      have hr21 : r % 21 < 21 := Nat.mod_lt _ (by decide)
      generalize r % 21 = many at hr21
      walk_at "wx"
      refine x_slL (SqL.of hpn4) fun p1 hp1 => ?_
      have e4 : cutV (xs.map nV) none (some (many : Int)) = (xs.take many).map nV := by rw [List.map_take]; exact cut_take
      rw [e4]
      have ex5 := Ex.new (o := .lst ((xs.take many).map nV)) hp1
      have hn5 := ex5.at hpn4
      have h15 := upd_same (H := H4) (a := p1) (o := .lst ((xs.take many).map nV))
      have ex25 := ex2.trans (ex3.trans (ex4.trans ex5))
      generalize upd H4 p1 (.lst ((xs.take many).map nV)) = H5 at hn5 h15 ex25 ⊢
      walk_at "wx"
      refine wc_l_right rfl rfl (SqL.of h15) ⟨fun x hx => hxb x (List.mem_of_mem_take hx), hw2, Nat.le_trans (List.length_take_le' _ _) (by omega)⟩ fun H6 ex6 => ?_
      have hn6 := ex6.at hn5
      walk_at "wx"
      refine x_slL (SqL.of hn6) fun p2 hp2 => ?_
      have e5 : cutV (xs.map nV) (some (many : Int)) none = (xs.drop many).map nV := by rw [List.map_drop]; exact cut_drop
      rw [e5]
      have hn7 := at_new (o := .lst ((xs.drop many).map nV)) hp2 hn6
      walk_at "wx"
      refine x_slL (SqL.of hn7) fun p3 hp3 => ?_
      have e6 : cutV (xs.map nV) none (some 1) = (xs.take 1).map nV := by rw [List.map_take]; exact cut_take (k := 1)
      rw [e6]
      have h28 := at_new (o := .lst ((xs.take 1).map nV)) hp3 (upd_same (H := H6) (a := p2) (o := .lst ((xs.drop many).map nV)))
      have hlen1 : (xs.drop many).length ≤ 20 := by rw [List.length_drop]; omega
      have hlen2 : (xs.take 1).length ≤ 1 := List.length_take_le _ _
      refine x_cat h28 upd_same (by rw [sizeLine_eq, List.length_map, List.length_map]; omega) fun p4 hp4 => ?_
      have h48 := upd_same (H := upd (upd H6 p2 (.lst ((xs.drop many).map nV))) p3 (.lst ((xs.take 1).map nV))) (a := p4) (o := .lst ((xs.drop many).map nV ++ (xs.take 1).map nV))
      have ex8 := (ex25.trans ex6).trans (((Ex.new (o := .lst ((xs.drop many).map nV)) hp2).newT (o := .lst ((xs.take 1).map nV)) hp3).newT (o := .lst ((xs.drop many).map nV ++ (xs.take 1).map nV)) hp4)
      generalize upd (upd (upd H6 p2 (.lst ((xs.drop many).map nV))) p3 (.lst ((xs.take 1).map nV))) p4 (.lst ((xs.drop many).map nV ++ (xs.take 1).map nV)) = H8 at h48 ex8 ⊢
      rw [← List.map_append] at h48
      walk_at "wx"
      refine wc_l_right rfl rfl (SqL.of h48) ⟨fun x hx => ?_, hw2, by rw [List.length_append]; omega⟩ fun H9 ex9 => ?_
      · rcases List.mem_append.mp hx with h | h
        · exact hxb x (List.mem_of_mem_drop h)
        · exact hxb x (List.mem_of_mem_take h)
      · walk_at "wx"
        exact ⟨_, _, _, _, rfl, ex8.trans ex9⟩
    · rintro σ H2 ⟨v2, v3, v4, v5, rfl, ex2⟩
      walk_at "wx"
      refine ⟨len_ok rfl, fun p1 hp1 => ?_⟩
      have h1 := upd_same (H := H2) (a := p1) (o := .lst [])
      walk_at "wx"
      refine wc_by_nearness (g := 0) (names := []) rfl (SqL.of h1) ⟨by decide, by decide⟩ fun p2 H3 hp2 ex3 h2 => ?_
      walk_at "wx"
      refine ⟨len_ok rfl, fun p3 hp3 => ?_⟩
      refine x_eqLN (ys := []) (SqL.of (at_new hp3 h2)) (SqL.of upd_same) ?_
      have e : byN 0 [] = [] := rfl
      rw [e, decide_eq_true rfl]
      exact q _
end
end Nn
namespace Nn
open PySem PySem.Spec PyProof.Rows L2
def dd_far : He.DefD := ⟨("far", none), "far", "far", defArgs s_far, defBody s_far, defScope s_far, [], []⟩
def dd_nearer : He.DefD := ⟨("nearer", none), "nearer", "nearer", defArgs s_nearer, defBody s_nearer, defScope s_nearer, [], []⟩
def dd_by_nearness : He.DefD := ⟨("by_nearness", none), "by_nearness", "by_nearness", defArgs s_by_nearness, defBody s_by_nearness, defScope s_by_nearness, [], []⟩
def dd_l_cell_at : He.DefD := ⟨("_law_cell_at", none), "_law_cell_at", "_law_cell_at", defArgs s_l_cell_at, defBody s_l_cell_at, defScope s_l_cell_at, [], []⟩
def dd_l_wide : He.DefD := ⟨("_law_wide", none), "_law_wide", "_law_wide", defArgs s_l_wide, defBody s_l_wide, defScope s_l_wide, [], []⟩
def dd_l_mixed : He.DefD := ⟨("_law_mixed", none), "_law_mixed", "_law_mixed", defArgs s_l_mixed, defBody s_l_mixed, defScope s_l_mixed, [], []⟩
def dd_l_names : He.DefD := ⟨("_law_names", none), "_law_names", "_law_names", defArgs s_l_names, defBody s_l_names, defScope s_l_names, [], []⟩
def dd_l_nearer : He.DefD := ⟨("_law_nearer", none), "_law_nearer", "_law_nearer", defArgs s_l_nearer, defBody s_l_nearer, defScope s_l_nearer, [], []⟩
def dd_l_right : He.DefD := ⟨("_law_right", none), "_law_right", "_law_right", defArgs s_l_right, defBody s_l_right, defScope s_l_right, [], []⟩
def dd_law : He.DefD := ⟨("law", none), "law", "law", defArgs s_law, defBody s_law, defScope s_law, [], []⟩
def fnL : List He.DefD := [dd_far, dd_nearer, dd_by_nearness, dd_l_cell_at, dd_l_wide, dd_l_mixed, dd_l_names, dd_l_nearer, dd_l_right, dd_law]
def faL : List He.Fa := [.glo "far",
  .glo "nearer",
  .glo "by_nearness",
  .glo "_law_cell_at",
  .glo "_law_wide",
  .glo "_law_mixed",
  .glo "_law_names",
  .glo "_law_nearer",
  .glo "_law_right",
  .glo "law",
  .free "abs",
  .free "bool",
  .free "isinstance",
  .free "len",
  .free "list",
  .free "min",
  .free "range",
  .free "set",
  .free "sorted",
  .free "zip"]
abbrev RW : PySem.W.OpenRow := PySem.W.OpenLaw.row PySem.Challenge.rw_nearnames_k03_by_nearness
abbrev hkX : PySem.W.Hook := He.hookX 6 faL fnL [] tfL (fun _ => true)
def obL (s : PySem.W.SharedT) : He.AlX := He.obsX 6 faL fnL [] tfL (fun _ => true) (HandSHeadRun.getT s)
theorem obL_eq (s : PySem.W.SharedT) : obL s = hkX.obs s.abs := He.obsX_eq (HandSHeadRun.getT_eq s)
def loose0 : List Str := ["far", "nearer", "by_nearness", "_law_cell_at", "_law_wide", "_law_mixed", "_law_names", "_law_nearer", "_law_right"]
def looseL : List Str := loose0
theorem runL (w : World) : HandSHeadRun.RunEq RW (PySem.W.view RW.prog [11]) hkX obL 6000 looseL w := by
  intro os
  kernel_rfl
theorem factsL {w : World} {K : PySem.W.Frag} {h : Heap} {mg : Str → Option Value} {f : Addr} (X : K.In h) (G : h.Ns mainGlobals mg) (hfa : mg ("law" : Str) = some (.ref f)) (c : He.SaysX faL fnL [] tfL (fun _ => true) w h K) :
    LamX.LawAtS PySem.Challenge.rw_nearnames_k03_by_nearness w K CX0 4 63 "_law_script" mg f h := by
  obtain ⟨fd0, F0⟩ := c.t.d.def_ 0 (d := dd_far) rfl
  have b0 := FunD.bindsN (ps := ["one", "other"]) F0 fun _ _ _ _ _ _ us hl => match us, hl with | [_, _], _ => rfl
  obtain ⟨fd1, F1⟩ := c.t.d.def_ 1 (d := dd_nearer) rfl
  have b1 := FunD.bindsN (ps := ["goal", "one", "other"]) F1 fun _ _ _ _ _ _ us hl => match us, hl with | [_, _, _], _ => rfl
  obtain ⟨fd2, F2⟩ := c.t.d.def_ 2 (d := dd_by_nearness) rfl
  have b2 := FunD.bindsN (ps := ["goal", "names"]) F2 fun _ _ _ _ _ _ us hl => match us, hl with | [_, _], _ => rfl
  obtain ⟨fd3, F3⟩ := c.t.d.def_ 3 (d := dd_l_cell_at) rfl
  have b3 := FunD.bindsN (ps := ["_law_script", "_law_k"]) F3 fun _ _ _ _ _ _ us hl => match us, hl with | [_, _], _ => rfl
  obtain ⟨fd4, F4⟩ := c.t.d.def_ 4 (d := dd_l_wide) rfl
  have b4 := FunD.bindsN (ps := ["_law_cell"]) F4 fun _ _ _ _ _ _ us hl => match us, hl with | [_], _ => rfl
  obtain ⟨fd5, F5⟩ := c.t.d.def_ 5 (d := dd_l_mixed) rfl
  have b5 := FunD.bindsN (ps := ["_law_cell", "_law_k"]) F5 fun _ _ _ _ _ _ us hl => match us, hl with | [_, _], _ => rfl
  obtain ⟨fd6, F6⟩ := c.t.d.def_ 6 (d := dd_l_names) rfl
  have b6 := FunD.bindsN (ps := ["_law_cell", "_law_wide_here", "_law_many"]) F6 fun _ _ _ _ _ _ us hl => match us, hl with | [_, _, _], _ => rfl
  obtain ⟨fd7, F7⟩ := c.t.d.def_ 7 (d := dd_l_nearer) rfl
  have b7 := FunD.bindsN (ps := ["_law_goal", "_law_one", "_law_other", "_law_wide_here"]) F7 fun _ _ _ _ _ _ us hl => match us, hl with | [_, _, _, _], _ => rfl
  obtain ⟨fd8, F8⟩ := c.t.d.def_ 8 (d := dd_l_right) rfl
  have b8 := FunD.bindsN (ps := ["_law_goal", "_law_names_here", "_law_wide_here"]) F8 fun _ _ _ _ _ _ us hl => match us, hl with | [_, _, _], _ => rfl
  obtain ⟨fd9, F9⟩ := c.t.d.def_ 9 (d := dd_law) rfl
  have b9 := FunD.bindsN (ps := ["_law_script"]) F9 fun _ _ _ _ _ _ us hl => match us, hl with | [_], _ => rfl
  have e := hfa.symm.trans (He.glo_ok X G (c.t.d.fact 9 (f := .glo "law") rfl))
  cases e
  refine ⟨fd9, tfL.map (He.cT K), spLaw K, List.forall_mem_map.mpr fun p hp => c.empty p hp, List.forall_mem_map.mpr fun p hp => c.out p hp, List.forall_mem_map.mpr fun p hp => PySem.W.codeHd_of_K X (c.hd p hp), fun s v => FunD.bindsA (ps := ["_law_script"]) F9 (fun _ _ _ _ _ _ us hl => match us, hl with | [_], _ => rfl) s [v] rfl, fun H a ns hl _ hT hS => ⟨a, ns, rfl, hS, hl, fun _ => rfl⟩, fun base KB GB hTB => ok_law (K := K) (mg := mg) (base := base) {
      a_far := (He.ga K "far"), d_far := fd0, F_far := F0, b_far := b0,
      m_far := He.glo_ok X G (c.t.d.fact 0 (f := .glo "far") rfl),
      a_nearer := (He.ga K "nearer"), d_nearer := fd1, F_nearer := F1, b_nearer := b1,
      m_nearer := He.glo_ok X G (c.t.d.fact 1 (f := .glo "nearer") rfl),
      a_by_nearness := (He.ga K "by_nearness"), d_by_nearness := fd2, F_by_nearness := F2, b_by_nearness := b2,
      m_by_nearness := He.glo_ok X G (c.t.d.fact 2 (f := .glo "by_nearness") rfl),
      a_l_cell_at := (He.ga K "_law_cell_at"), d_l_cell_at := fd3, F_l_cell_at := F3, b_l_cell_at := b3,
      m_l_cell_at := He.glo_ok X G (c.t.d.fact 3 (f := .glo "_law_cell_at") rfl),
      a_l_wide := (He.ga K "_law_wide"), d_l_wide := fd4, F_l_wide := F4, b_l_wide := b4,
      m_l_wide := He.glo_ok X G (c.t.d.fact 4 (f := .glo "_law_wide") rfl),
      a_l_mixed := (He.ga K "_law_mixed"), d_l_mixed := fd5, F_l_mixed := F5, b_l_mixed := b5,
      m_l_mixed := He.glo_ok X G (c.t.d.fact 5 (f := .glo "_law_mixed") rfl),
      a_l_names := (He.ga K "_law_names"), d_l_names := fd6, F_l_names := F6, b_l_names := b6,
      m_l_names := He.glo_ok X G (c.t.d.fact 6 (f := .glo "_law_names") rfl),
      a_l_nearer := (He.ga K "_law_nearer"), d_l_nearer := fd7, F_l_nearer := F7, b_l_nearer := b7,
      m_l_nearer := He.glo_ok X G (c.t.d.fact 7 (f := .glo "_law_nearer") rfl),
      a_l_right := (He.ga K "_law_right"), d_l_right := fd8, F_l_right := F8, b_l_right := b8,
      m_l_right := He.glo_ok X G (c.t.d.fact 8 (f := .glo "_law_right") rfl),
      a_law := (He.ga K "law"), d_law := fd9, F_law := F9, b_law := b9,
      m_law := He.glo_ok X G (c.t.d.fact 9 (f := .glo "law") rfl),
      z_abs := He.free_ok X G (c.t.d.fact 10 (f := .free "abs") rfl),
      z_bool := He.free_ok X G (c.t.d.fact 11 (f := .free "bool") rfl),
      z_isinstance := He.free_ok X G (c.t.d.fact 12 (f := .free "isinstance") rfl),
      z_len := He.free_ok X G (c.t.d.fact 13 (f := .free "len") rfl),
      z_list := He.free_ok X G (c.t.d.fact 14 (f := .free "list") rfl),
      z_min := He.free_ok X G (c.t.d.fact 15 (f := .free "min") rfl),
      z_range := He.free_ok X G (c.t.d.fact 16 (f := .free "range") rfl),
      z_set := He.free_ok X G (c.t.d.fact 17 (f := .free "set") rfl),
      z_sorted := He.free_ok X G (c.t.d.fact 18 (f := .free "sorted") rfl),
      z_zip := He.free_ok X G (c.t.d.fact 19 (f := .free "zip") rfl) }⟩
end Nn
open PySem PySem.W PySem.Calls PyProof.Rows
theorem PySem.Challenge.cw_nearnames_k03_by_nearness_holds : PySem.Challenge.rw_nearnames_k03_by_nearness.Holds := by
  w_on; o_law
  refine HandSHeadRun.head_any (r := OpenLaw.row PySem.Challenge.rw_nearnames_k03_by_nearness) (q := view (OpenLaw.row PySem.Challenge.rw_nearnames_k03_by_nearness).prog [11]) (H := Nn.hkX) (ob := Nn.obL) (M := 6000) (loose := Nn.looseL) (d := HandSHeadRun.topDef (OpenLaw.row PySem.Challenge.rw_nearnames_k03_by_nearness).prog 11) (kwd := []) Nn.obL_eq
    (by kernel_rfl) (fun s => by kernel_rfl) Nn.runL (by kernel_rfl) (by kernel_rfl) (by kernel_rfl) (by rfl) (by first | assumption | decide +kernel) (by decide +kernel) ⟨rfl, rfl, rfl, rfl, rfl, by decide +kernel⟩ ?hw ?hc
  case hw => w_witness2
  case hc =>
    refine LamX.walk_ofTsE (l := PySem.Challenge.rw_nearnames_k03_by_nearness) (n := 63) (k := 4) (x := "_law_script") (CX := fun _ => L2.CX0) rfl (by decide) (by kernel_rfl) ⟨rfl, by decide, by decide⟩ ?F (fun _ _ _ _ _ z => z)
    intro w mg fa h Y G hmg0
    obtain ⟨K, KX, c⟩ := Y
    have hmg : mg ("law" : PySem.Str) = some (.ref fa) := by
      have e : (HandSHeadRun.topDef (OpenLaw.row PySem.Challenge.rw_nearnames_k03_by_nearness).prog 11).name = ("law" : PySem.Str) := by kernel_rfl
      rw [← e]
      exact hmg0
    exact ⟨K, KX, Nn.factsL KX G hmg c⟩
