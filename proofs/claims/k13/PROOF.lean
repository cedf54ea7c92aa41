import PyProof.Rows.All
import Wide.All
import OpenK.AllK
import Wide.FinOn
import HandS.ForMost
import HandS.Walk
import HandS.Wide
import HandS.WideBits
import HandS.IsInst
import HandS.EndBits
import HandS.SortInts
import HandS.Flow
import HandS.Nested
import HandS.EndTab
import HandS.More
import HandS.SetFor
import HandS.Strs
import HandS.Zip
import HandS.CallLocal
import HandS.Defaults
import HandS.Head0
import HandS.Head1
import HandS.Head2
import HandS.HeadEnd
import HandS.HeadHook1
import HandS.HeadHook2
import HandS.HeadHook3
import HandS.HeadHook4
import HandS.HeadWalk
import PySem.Challenge.RW_nearnames_k13_tables_by_steps
set_option Elab.async false
set_option linter.all false
set_option maxRecDepth 100000
set_option maxHeartbeats 4000000
namespace Nn
open PySem L2
def nmAll (l c : Nat) : Str := if l = 115 ∧ c = 4 then (("_law_others" : Str) ++ ".<locals>.") ++ "_law_answers" else ""
end Nn
/-! Steps through readings. -/
namespace Nn
open PySem L2
section
variable {K : PySem.W.Frag} {σ : L2.St} {H : Hp} {ta tb te tc : TE} {t u : TS} {c c' : TT} {D : Ends} {Q : VK} {x y v : V}

theorem cxK {CX : CXT} {P : Program} {w : World} {K : PySem.W.Frag} {mg : Str → Option Value} {base : Heap} {N : List Str} {q : Str} {sc : Scope} {f : Addr} {cd : Value} {A : Around} {outer : List Env} {s : Shared} {H : Hp} {E : XK} :
    (cxOf CX P w K mg base N q sc f cd A outer s H E).nox.K = K := rfl
theorem cxK' {CX : CXT} {P : Program} {w : World} {K : PySem.W.Frag} {mg : Str → Option Value} {base : Heap} {N : List Str} {q : Str} {sc : Scope} {f : Addr} {cd : Value} {A : Around} {outer : List Env} {s : Shared} {H : Hp} {E : XK} :
    (cxOf CX P w K mg base N q sc f cd A outer s H E).K = K := rfl
theorem x_seq (h : t { D with nx := u D } σ H) : tSeq t u D σ H := h
theorem x_next (h : D.nx σ H) : tNext D σ H := h
theorem x_asg {g : TG} (h : te σ H fun x H1 => g x σ H1 D.nx) : tAsg te g D σ H := h
theorem x_name {i : Nat} {R : L2.St → Hp → Prop} (h : R (σ.set i (some v)) H) : gName i v σ H R := h
theorem x_ret (h : te σ H D.rt) : tRet te D σ H := h
theorem x_retN (h : D.rt .non H) : tRetN D σ H := h
theorem x_drop (h : te σ H fun _ H1 => D.nx σ H1) : tDrop te D σ H := h
/-- the branches as they stand (not walked until the test is known) -/
def IfS (b : Bool) (t u : TS) (D : Ends) (σ : L2.St) (H : Hp) : Prop := if b = true then t D σ H else u D σ H
theorem x_ifD {p : Prop} [Decidable p] (h1 : p → t D σ H) (h2 : ¬ p → u D σ H) : IfS (decide p) t u D σ H := by
  unfold IfS
  by_cases h : p
  · rw [if_pos (decide_eq_true h)]; exact h1 h
  · rw [if_neg (by simp [h])]; exact h2 h
theorem x_ifN {p : Prop} [Decidable p] (h1 : ¬ p → t D σ H) (h2 : p → u D σ H) : IfS (!decide p) t u D σ H := by
  unfold IfS
  by_cases h : p
  · rw [if_neg (by simp [h])]; exact h2 h
  · rw [if_pos (by simp [h])]; exact h1 h
theorem x_ifB {b : Bool} (h1 : b = true → t D σ H) (h2 : b = false → u D σ H) : IfS b t u D σ H := by
  cases b with
  | true => exact h1 rfl
  | false => exact h2 rfl
theorem x_INs {α : Type} [DecidableEq α] {b : α} (h : u D σ H) : IfS (!decide (b = b)) t u D σ H := by
  rw [decide_eq_true rfl]; exact h
theorem x_IEs {α : Type} [DecidableEq α] {b : α} (h : t D σ H) : IfS (decide (b = b)) t u D σ H := by
  rw [decide_eq_true rfl]; exact h
theorem x_if {tt : TT} (h : tt σ H fun b H1 => if b = true then ta σ H1 Q else tb σ H1 Q) : tIf tt ta tb σ H Q := h
theorem x_var {i : Nat} (e : σ[i]? = some (some v)) (h : Q v H) : tVar i σ H Q := ⟨v, e, h⟩
theorem x_c (h : Q v H) : tC v σ H Q := h
theorem x_op {r : R2} (h : ta σ H fun x H1 => tb σ H1 fun y H2 => r x y H2 Q) : tOp r ta tb σ H Q := h
theorem x_un {r : V → Hp → VK → Prop} (h : ta σ H fun x H1 => r x H1 Q) : tUn r ta σ H Q := h
theorem x_cb {r : List V → Hp → VK → Prop} {ts : TA} (h : ts σ H fun vs H1 => r vs H1 Q) : tCB r ts σ H Q := h
theorem x_nil {R : List V → Hp → Prop} (h : R [] H) : tNil σ H R := h
theorem x_cons {ts : TA} {R : List V → Hp → Prop} (h : ta σ H fun x H1 => ts σ H1 fun xs H2 => R (x :: xs) H2) : tCons ta ts σ H R := h
theorem x_call {sp : Sp} {E : XK} {ts : TA} (h : ts σ H fun vs H1 => sp vs H1 Q E) : tCall sp [] E ts σ H Q := by
  unfold tCall; simpa only [List.append_nil] using h
theorem x_calld {sp : Sp} {E : XK} {ds : List V} {ts : TA} (h : ts σ H fun vs H1 => sp (vs ++ ds) H1 Q E) : tCall sp ds E ts σ H Q := h
theorem x_tup {ts : TA} (h : ts σ H fun xs H1 => xs.length ≤ sizeLine ∧ ∀ p, H1 p = none → Q (.ref p) (upd H1 p (.tup xs))) : tTup ts σ H Q := h
theorem x_lst {ts : TA} (h : ts σ H fun xs H1 => xs.length ≤ sizeLine ∧ ∀ p, H1 p = none → Q (.ref p) (upd H1 p (.lst xs))) : tLst ts σ H Q := h

theorem x_test {R : Bool → Hp → Prop} (h : te σ H fun x H' => ∃ k, x = .bl k ∧ R k H') : tTest te σ H R := h
theorem x_B {R : Bool → Hp → Prop} (h : te σ H fun x H' => ∃ k, x = .bl k ∧ R k H') : tB te σ H R := h
theorem x_bl {R : Bool → Prop} {k : Bool} (h : R k) : ∃ k', V.bl k = V.bl k' ∧ R k' := ⟨k, rfl, h⟩
theorem x_and {R : Bool → Hp → Prop} (h : c σ H fun b H1 => if b = true then c' σ H1 R else R false H1) : tAnd c c' σ H R := h
theorem x_or {R : Bool → Hp → Prop} (h : c σ H fun b H1 => if b = true then R true H1 else c' σ H1 R) : tOr c c' σ H R := h
theorem x_not {R : Bool → Hp → Prop} (h : c σ H fun b H1 => R (!b) H1) : tNot c σ H R := h
theorem x_andV (h : ta σ H fun x H1 => ∃ c, x = .bl c ∧ if c = true then tb σ H1 Q else Q (.bl false) H1) : tAndV ta tb σ H Q := h
theorem x_orV (h : ta σ H fun x H1 => ∃ c, x = .bl c ∧ if c = true then Q (.bl true) H1 else tb σ H1 Q) : tOrV ta tb σ H Q := h
theorem x_notV (h : ta σ H fun x H1 => ∃ c, x = .bl c ∧ Q (.bl (!c)) H1) : tNotV ta σ H Q := h
theorem x_chain {r r' : R2} (h : ta σ H fun x H1 => tb σ H1 fun y H2 => r x y H2 fun z H3 => ∃ k, z = .bl k ∧ if k = true then tc σ H3 fun w H4 => r' y w H4 Q else Q (.bl false) H3) : tChain r r' ta tb tc σ H Q := h

theorem x_i0 {g : Int → Int → V} {i j : Int} (h : Q (g i j) H) : rI0 g (.int i) (.int j) H Q := ⟨i, j, rfl, rfl, h⟩
theorem x_i {C : Int → Int → Prop} {g : Int → Int → V} {i j : Int} (hc : C i j) (h : Q (g i j) H) : rI C g (.int i) (.int j) H Q := ⟨i, j, rfl, rfl, hc, h⟩
theorem x_u {g : Int → V} {i : Int} (h : Q (g i) H) : rU g (.int i) H Q := ⟨i, rfl, h⟩
theorem x_eqI {i j : Int} (h : Q (.bl (decide (i = j))) H) : rEq (.int i) (.int j) H Q := ⟨rfl, by
  have e : decide (V.int i = V.int j) = decide (i = j) := by simp
  rw [e]; exact h⟩
theorem x_neI {i j : Int} (h : Q (.bl (!decide (i = j))) H) : rNe (.int i) (.int j) H Q := ⟨rfl, by
  have e : decide (V.int i = V.int j) = decide (i = j) := by simp
  rw [e]; exact h⟩
theorem x_eqB {i j : Bool} (h : Q (.bl (decide (i = j))) H) : rEq (.bl i) (.bl j) H Q := ⟨rfl, by
  have e : decide (V.bl i = V.bl j) = decide (i = j) := by simp
  rw [e]; exact h⟩
theorem x_neB {i j : Bool} (h : Q (.bl (!decide (i = j))) H) : rNe (.bl i) (.bl j) H Q := ⟨rfl, by
  have e : decide (V.bl i = V.bl j) = decide (i = j) := by simp
  rw [e]; exact h⟩
theorem x_eqS {i j : Str} (h : Q (.bl (decide (i = j))) H) : rEq (.str i) (.str j) H Q := ⟨rfl, by
  have e : decide (V.str i = V.str j) = decide (i = j) := by simp
  rw [e]; exact h⟩
theorem x_neS {i j : Str} (h : Q (.bl (!decide (i = j))) H) : rNe (.str i) (.str j) H Q := ⟨rfl, by
  have e : decide (V.str i = V.str j) = decide (i = j) := by simp
  rw [e]; exact h⟩
theorem x_eq (e : scal x y = true) (h : Q (.bl (decide (x = y))) H) : rEq x y H Q := ⟨e, h⟩
theorem x_ne (e : scal x y = true) (h : Q (.bl (!decide (x = y))) H) : rNe x y H Q := ⟨e, h⟩

theorem x_ite {p A B : Prop} [Decidable p] (h1 : p → A) (h2 : ¬ p → B) : if decide p = true then A else B := by
  by_cases h : p
  · rw [if_pos (decide_eq_true h)]; exact h1 h
  · rw [if_neg (by simp [h])]; exact h2 h
theorem x_iteN {p A B : Prop} [Decidable p] (h1 : ¬ p → A) (h2 : p → B) : if (!decide p) = true then A else B := by
  by_cases h : p
  · rw [if_neg (by simp [h])]; exact h2 h
  · rw [if_pos (by simp [h])]; exact h1 h
theorem x_iteB {b : Bool} {A B : Prop} (h1 : b = true → A) (h2 : b = false → B) : if b = true then A else B := by
  cases b with
  | true => rw [if_pos rfl]; exact h1 rfl
  | false => rw [if_neg Bool.false_ne_true]; exact h2 rfl
theorem x_NEs {α : Type} [DecidableEq α] {b : α} {A B : Prop} (h : B) : if (!decide (b = b)) = true then A else B := by
  rw [decide_eq_true rfl]; exact iteF h
theorem x_Es {α : Type} [DecidableEq α] {b : α} {A B : Prop} (h : A) : if decide (b = b) = true then A else B := by
  rw [decide_eq_true rfl]; exact iteT h
theorem x_T {A B : Prop} (h : A) : if true = true then A else B := iteT h
theorem x_F {A B : Prop} (h : B) : if false = true then A else B := iteF h
theorem x_NT {A B : Prop} (h : B) : if (!true) = true then A else B := iteF h
theorem x_NF {A B : Prop} (h : A) : if (!false) = true then A else B := iteT h

/-! the built-ins' readings -/
theorem x_ixL {p : Addr} {xs : List V} {i : Int} (hS : SqL K H p xs) (e : atI xs i = some v) (h : Q v H) : rIxL K (.ref p) (.int i) H Q := ⟨p, xs, i, v, rfl, rfl, hS, e, h⟩
theorem x_ixT {p : Addr} {xs : List V} {i : Int} (hS : SqT K H p xs) (e : atI xs i = some v) (h : Q v H) : rIxT K (.ref p) (.int i) H Q := ⟨p, xs, i, v, rfl, rfl, hS, e, h⟩
def rAbs : List V → Hp → VK → Prop := fun xs H Q => ∃ i, xs = [.int i] ∧ Q (.int (if i < 0 then -i else i)) H
def rMin2 : List V → Hp → VK → Prop := fun xs H Q => ∃ i j, xs = [.int i, .int j] ∧ Q (.int (if j < i then j else i)) H
def rMax2 : List V → Hp → VK → Prop := fun xs H Q => ∃ i j, xs = [.int i, .int j] ∧ Q (.int (if j > i then j else i)) H
def rLenS (K : PySem.W.Frag) : List V → Hp → VK → Prop := fun xs H Q => ∃ p ys, xs = [.ref p] ∧ (SqL K H p ys ∨ SqT K H p ys) ∧ Q (.int ys.length) H
def rLenD : List V → Hp → VK → Prop := fun xs H Q => ∃ a kvs, xs = [V.ref a] ∧ H a = some (.dK kvs) ∧ Q (.int kvs.length) H
def rLenStr : List V → Hp → VK → Prop := fun xs H Q => ∃ z : Str, xs = [.str z] ∧ z.length ≤ sizeLine ∧ Q (.int z.length) H
def rInt1 : List V → Hp → VK → Prop := fun xs H Q => (∃ i, xs = [.int i] ∧ Q (.int i) H) ∨ ∃ k, xs = [.bl k] ∧ Q (.int (if k then 1 else 0)) H
def rListOf (K : PySem.W.Frag) : List V → Hp → VK → Prop := fun xs H Q => ∃ p ys, xs = [.ref p] ∧ (SqL K H p ys ∨ SqT K H p ys) ∧ ∀ l, H l = none → Q (.ref l) (upd H l (.lst ys))
theorem cb_abs {X : Cx} : CallR X (.builtin "abs") rAbs := call_abs
theorem cb_min2 {X : Cx} (hc : X.calm = true) : CallR X (.builtin "min") rMin2 := call_min2 hc
theorem cb_max2 {X : Cx} (hc : X.calm = true) : CallR X (.builtin "max") rMax2 := call_max2 hc
theorem cb_len {X : Cx} : CallR X (.builtin "len") (rLenS X.K) := call_len_seq
theorem cb_lenD {X : Cx} : CallR X (.builtin "len") rLenD := call_lenD
theorem cb_lenStr {X : Cx} : CallR X (.builtin "len") rLenStr := call_len_str
theorem cb_int {X : Cx} : CallR X (.type "int") rInt1 := call_int1
theorem cb_list {X : Cx} : CallR X (.type "list") (rListOf X.K) := call_list_of
theorem x_abs {i : Int} (h : Q (.int (i.natAbs : Int)) H) : rAbs [.int i] H Q :=
  ⟨i, rfl, by
    have e : (if i < 0 then -i else i) = (i.natAbs : Int) := by split <;> omega
    rw [e]; exact h⟩
theorem x_min2 {i j : Int} (h : Q (.int (min i j)) H) : rMin2 [.int i, .int j] H Q :=
  ⟨i, j, rfl, by
    have e : (if j < i then j else i) = min i j := by split <;> omega
    rw [e]; exact h⟩
theorem x_max2 {i j : Int} (h : Q (.int (max i j)) H) : rMax2 [.int i, .int j] H Q :=
  ⟨i, j, rfl, by
    have e : (if j > i then j else i) = max i j := by split <;> omega
    rw [e]; exact h⟩
theorem x_lenL {p : Addr} {ys : List V} (hS : SqL K H p ys) (h : Q (.int ys.length) H) : rLenS K [.ref p] H Q := ⟨p, ys, rfl, .inl hS, h⟩
theorem x_lenT {p : Addr} {ys : List V} (hS : SqT K H p ys) (h : Q (.int ys.length) H) : rLenS K [.ref p] H Q := ⟨p, ys, rfl, .inr hS, h⟩
theorem x_lenD {p : Addr} {kvs : List (Key × V)} (hS : H p = some (.dK kvs)) (h : Q (.int kvs.length) H) : rLenD [.ref p] H Q := ⟨p, kvs, rfl, hS, h⟩
theorem x_intI {i : Int} (h : Q (.int i) H) : rInt1 [.int i] H Q := .inl ⟨i, rfl, h⟩
theorem x_intB {b : Bool} (h : Q (.int (if b then 1 else 0)) H) : rInt1 [.bl b] H Q := .inr ⟨b, rfl, h⟩
theorem x_listL {p : Addr} {ys : List V} (hS : SqL K H p ys) (h : ∀ l, H l = none → Q (.ref l) (upd H l (.lst ys))) : rListOf K [.ref p] H Q := ⟨p, ys, rfl, .inl hS, h⟩
theorem x_sum {a : Addr} {ns : List Int} (hS : SqL K H a (ns.map V.int)) (h : Q (.int ns.sum) H) : rSum K [.ref a] H Q := ⟨a, ns, rfl, hS, h⟩
/-- isinstance of plain values, against built-in types -/
theorem x_isi {c : V} {t u : Value} {b : Bool} (k : ClsV c u) (ty : TyX K H x t) (e : PySem.W.kitOne K t u = some b) (h : Q (.bl b) H) : rIsi K [x, c] H Q := ⟨x, c, t, u, b, rfl, k, ty, e, h⟩
theorem x_isG {vs : List V} (h : rIsi K vs H Q) : rIsi K vs H Q := h
theorem x_isI_int {i : Int} (h : Q (.bl true) H) : rIsi K [.int i, .ty "int"] H Q := x_isi (.ty "int") (.base (.int i)) (kit_ty (by decide +kernel)) h
theorem x_isI_bool {i : Int} (h : Q (.bl false) H) : rIsi K [.int i, .ty "bool"] H Q := x_isi (.ty "bool") (.base (.int i)) (kit_ty (by decide +kernel)) h
theorem x_isI_str {i : Int} (h : Q (.bl false) H) : rIsi K [.int i, .ty "str"] H Q := x_isi (.ty "str") (.base (.int i)) (kit_ty (by decide +kernel)) h
theorem x_isB_int {c : Bool} (h : Q (.bl true) H) : rIsi K [.bl c, .ty "int"] H Q := x_isi (.ty "int") (.base (.bl c)) (kit_ty (by decide +kernel)) h
theorem x_isB_bool {c : Bool} (h : Q (.bl true) H) : rIsi K [.bl c, .ty "bool"] H Q := x_isi (.ty "bool") (.base (.bl c)) (kit_ty (by decide +kernel)) h
theorem x_isB_str {c : Bool} (h : Q (.bl false) H) : rIsi K [.bl c, .ty "str"] H Q := x_isi (.ty "str") (.base (.bl c)) (kit_ty (by decide +kernel)) h
theorem x_isS_int {z : Str} (h : Q (.bl false) H) : rIsi K [.str z, .ty "int"] H Q := x_isi (.ty "int") (.base (.str z)) (kit_ty (by decide +kernel)) h
theorem x_isS_bool {z : Str} (h : Q (.bl false) H) : rIsi K [.str z, .ty "bool"] H Q := x_isi (.ty "bool") (.base (.str z)) (kit_ty (by decide +kernel)) h
theorem x_isS_str {z : Str} (h : Q (.bl true) H) : rIsi K [.str z, .ty "str"] H Q := x_isi (.ty "str") (.base (.str z)) (kit_ty (by decide +kernel)) h
theorem x_isN_int  (h : Q (.bl false) H) : rIsi K [.non, .ty "int"] H Q := x_isi (.ty "int") (.base .non) (kit_ty (by decide +kernel)) h
theorem x_isN_bool  (h : Q (.bl false) H) : rIsi K [.non, .ty "bool"] H Q := x_isi (.ty "bool") (.base .non) (kit_ty (by decide +kernel)) h
theorem x_isN_str  (h : Q (.bl false) H) : rIsi K [.non, .ty "str"] H Q := x_isi (.ty "str") (.base .non) (kit_ty (by decide +kernel)) h
theorem x_isL_int {a : Addr} {xs : List V} (ha : H a = some (.lst xs)) (h : Q (.bl false) H) : rIsi K [.ref a, .ty "int"] H Q := x_isi (.ty "int") (.base (.lst ha)) (kit_ty (by decide +kernel)) h
theorem x_isL_list {a : Addr} {xs : List V} (ha : H a = some (.lst xs)) (h : Q (.bl true) H) : rIsi K [.ref a, .ty "list"] H Q := x_isi (.ty "list") (.base (.lst ha)) (kit_ty (by decide +kernel)) h
theorem x_isL_tuple {a : Addr} {xs : List V} (ha : H a = some (.lst xs)) (h : Q (.bl false) H) : rIsi K [.ref a, .ty "tuple"] H Q := x_isi (.ty "tuple") (.base (.lst ha)) (kit_ty (by decide +kernel)) h
theorem x_isT_int {a : Addr} {xs : List V} (ha : H a = some (.tup xs)) (h : Q (.bl false) H) : rIsi K [.ref a, .ty "int"] H Q := x_isi (.ty "int") (.base (.tup ha)) (kit_ty (by decide +kernel)) h
theorem x_isT_list {a : Addr} {xs : List V} (ha : H a = some (.tup xs)) (h : Q (.bl false) H) : rIsi K [.ref a, .ty "list"] H Q := x_isi (.ty "list") (.base (.tup ha)) (kit_ty (by decide +kernel)) h
theorem x_isT_tuple {a : Addr} {xs : List V} (ha : H a = some (.tup xs)) (h : Q (.bl true) H) : rIsi K [.ref a, .ty "tuple"] H Q := x_isi (.ty "tuple") (.base (.tup ha)) (kit_ty (by decide +kernel)) h
theorem x_isD_int {a : Addr} {kvs : List (Key × V)} (ha : H a = some (.dK kvs)) (h : Q (.bl false) H) : rIsi K [.ref a, .ty "int"] H Q := x_isi (.ty "int") (.base (.dK ha)) (kit_ty (by decide +kernel)) h
theorem x_isD_list {a : Addr} {kvs : List (Key × V)} (ha : H a = some (.dK kvs)) (h : Q (.bl false) H) : rIsi K [.ref a, .ty "list"] H Q := x_isi (.ty "list") (.base (.dK ha)) (kit_ty (by decide +kernel)) h
theorem x_isD_tuple {a : Addr} {kvs : List (Key × V)} (ha : H a = some (.dK kvs)) (h : Q (.bl false) H) : rIsi K [.ref a, .ty "tuple"] H Q := x_isi (.ty "tuple") (.base (.dK ha)) (kit_ty (by decide +kernel)) h

/-! heaps that grow -/
/-- no table of code objects (these grow where a def is made within a def) -/
def NT : HO → Prop | .tbl _ => False | _ => True
/-- no table, nothing told by its object -/
def NX : HO → Prop | .tbl _ => False | .ext _ => False | _ => True
theorem NX.nt {o : HO} (h : NX o) : NT o := by cases o <;> first | trivial | exact h
/-- all but what S names stays; tables stay tables; nothing is lost -/
structure Fr (S : Addr → Prop) (H H' : Hp) : Prop where
  keep : ∀ a o, H a = some o → NT o → ¬ S a → H' a = some o
  tab : ∀ P, NdefX.TabN H P nmAll → NdefX.TabN H' P nmAll
  back : ∀ a, H' a = none → H a = none
abbrev Ex (H H' : Hp) : Prop := Fr (fun _ => False) H H'
theorem atI_hd {x : V} {r : List V} : atI (x :: r) 0 = some x := atI_nat (xs := x :: r) (j := 0) rfl
theorem at_new {H : Hp} {p a : Addr} {o u : HO} (h : H p = none) (k : H a = some u) : upd H p o a = some u := by rw [upd_ne (ne_of_none k h)]; exact k
theorem at_upd {H : Hp} {p a : Addr} {o u v : HO} (h : H p = some v) (k : H a = some u) (d : v ≠ u) : upd H p o a = some u := by rw [upd_ne (ne_of k h (Ne.symm d))]; exact k
theorem Ex.at {H H' : Hp} {a : Addr} {o : HO} (e : Ex H H') (h : H a = some o) (n : NT o := by trivial) : H' a = some o := e.keep a o h n id
theorem Fr.at {S : Addr → Prop} {H H' : Hp} {a : Addr} {o : HO} (e : Fr S H H') (h : H a = some o) (hs : ¬ S a) (n : NT o := by trivial) : H' a = some o := e.keep a o h n hs
theorem Fr.refl {S : Addr → Prop} {H : Hp} : Fr S H H := ⟨fun _ _ h _ _ => h, fun _ h => h, fun _ h => h⟩
theorem Ex.refl {H : Hp} : Ex H H := Fr.refl
theorem Ex.trans {H H1 H2 : Hp} (a : Ex H H1) (b : Ex H1 H2) : Ex H H2 := ⟨fun x o h n _ => b.at (a.at h n) n, fun P h => b.tab P (a.tab P h), fun x h => a.back x (b.back x h)⟩
theorem Fr.trans {S : Addr → Prop} {H H1 H2 : Hp} (a : Fr S H H1) (b : Fr S H1 H2) : Fr S H H2 := ⟨fun x o h n s => b.keep x o (a.keep x o h n s) n s, fun P h => b.tab P (a.tab P h), fun x h => a.back x (b.back x h)⟩
theorem Fr.mono {S S' : Addr → Prop} {H H1 : Hp} (a : Fr S H H1) (h : ∀ x, S x → S' x) : Fr S' H H1 := ⟨fun x o e n s => a.keep x o e n fun z => s (h x z), a.tab, a.back⟩
theorem Ex.fr {S : Addr → Prop} {H H1 : Hp} (a : Ex H H1) : Fr S H H1 := Fr.mono a fun _ z => z.elim
/-- of what S names, all is newer than H -/
theorem Fr.ex {S : Addr → Prop} {H H0 H1 : Hp} (a : Fr S H H1) (e : Ex H0 H) (h : ∀ x, S x → H0 x = none) : Ex H0 H1 :=
  ⟨fun x o q n _ => a.keep x o (e.at q n) n fun z => (by rw [h x z] at q; cases q), fun P q => a.tab P (e.tab P q), fun x q => e.back x (a.back x q)⟩
theorem upd_back {H : Hp} {p x : Addr} {o : HO} (h : upd H p o x = none) : H x = none := by
  unfold upd at h
  split at h
  · cases h
  · exact h
theorem Ex.new {H : Hp} {p : Addr} {o : HO} (h : H p = none) : Ex H (upd H p o) :=
  ⟨fun a u e _ _ => by rw [upd_ne (ne_of_none e h)]; exact e, fun P t => t.ext fun b u e => by rw [upd_ne (ne_of_none e h)]; exact e, fun _ z => upd_back z⟩
theorem Ex.newT {H H1 : Hp} {p : Addr} {o : HO} (a : Ex H H1) (h : H1 p = none) : Ex H (upd H1 p o) := a.trans (Ex.new h)
/-- one object is changed -/
theorem Fr.upd1 {H : Hp} {p : Addr} {o u : HO} (h : H p = some u) (hu : NX u := by trivial) : Fr (fun a => a = p) H (upd H p o) :=
  ⟨fun a v e _ s => by rw [upd_ne s]; exact e, fun P ⟨ps, h1, h2, h3⟩ => by
    have nP : P ≠ p := fun z => by rw [z, h] at h1; cases h1; exact hu
    refine ⟨ps, by rw [upd_ne nP]; exact h1, h2, fun pos cv hc => ?_⟩
    obtain ⟨c, e1, e2⟩ := h3 pos cv hc
    have nc : c ≠ p := fun z => by
      rw [z, h] at e2
      have e2 := Option.some.inj e2
      rw [e2] at hu
      exact hu
    exact ⟨c, e1, by rw [upd_ne nc]; exact e2⟩, fun _ z => upd_back z⟩
/-- an object that H does not know may change -/
theorem Ex.mut {H H' : Hp} {p : Addr} {o u : HO} (e : Ex H H') (h : H p = none) (h' : H' p = some u) (hu : NX u := by trivial) : Ex H (upd H' p o) :=
  (Fr.upd1 h' hu).ex e fun x z => by rw [z]; exact h
theorem Ex.ls {H H' : Hp} {a : Addr} {xs : List V} (e : Ex H H') (h : SqL K H a xs) : SqL K H' a xs := by
  rcases h with (h | ⟨o, h⟩) | h
  · exact .inl (.inl (e.at h))
  · exact .inl (.inr ⟨o, e.at h⟩)
  · exact .inr h
theorem Ex.tu {H H' : Hp} {a : Addr} {xs : List V} (e : Ex H H') (h : SqT K H a xs) : SqT K H' a xs := by
  rcases h with (h | ⟨o, h⟩) | h
  · exact .inl (.inl (e.at h))
  · exact .inl (.inr ⟨o, e.at h⟩)
  · exact .inr h

/-! loops -/
def ForW (g : TG) (tb : TS) (D : Ends) (J : It) (σ : L2.St) (H : Hp) : Prop := ∃ W : Nat → Nat → L2.St → Hp → Prop, (∃ m, W 0 m σ H) ∧ ∀ i m σ H, W i m σ H →
  (J.stop i H ∧ D.nx σ H) ∨ (J.go i H ∧ ∃ N : L2.St → Hp → Prop, (∀ σ' H', N σ' H' → ∃ m', m' < m ∧ W (i + 1) m' σ' H') ∧ ∀ x H', J.yld i H x H' → g x σ H' fun σ2 H2 => tb { D with nx := N, ct := N, bk := D.nx } σ2 H2)
theorem x_for {wi : TI} {g : TG} {tb : TS} (h : wi σ H fun J H1 => ForW g tb D J σ H1) : tFor wi g tb D σ H := h
theorem ForW.by {J : It} {n : Nat} {G : Hp → Prop} {Y : Nat → Hp → V → Hp → Prop} (w : Walk J n G Y) {g : TG} {tb : TS} (Pv : Nat → L2.St → Hp → Prop) (h0 : Pv 0 σ H) (hG : ∀ i σ H, i ≤ n → Pv i σ H → G H)
    (hs : ∀ i x σ H H', i < n → Pv i σ H → Y i H x H' → g x σ H' fun σ2 H2 => tb { D with nx := Pv (i + 1), ct := Pv (i + 1), bk := D.nx } σ2 H2) (hd : ∀ σ H, Pv n σ H → D.nx σ H) : ForW g tb D J σ H :=
  for_it w Pv h0 hG hs hd
def Rg1 (R : It → Hp → Prop) : List V → Hp → Prop := fun vs H1 => ∃ j : Int, vs = [.int j] ∧ -(2 ^ 62) ≤ j ∧ j < 2 ^ 62 ∧ R (Itr 0 j.toNat) H1
def Rg2 (R : It → Hp → Prop) : List V → Hp → Prop := fun vs H1 => ∃ i j : Int, vs = [.int i, .int j] ∧ (-(2 ^ 62) ≤ i ∧ i < 2 ^ 62 ∧ -(2 ^ 62) ≤ j ∧ j < 2 ^ 62) ∧ R (Itr i (j - i).toNat) H1
def RiL (K : PySem.W.Frag) (R : It → Hp → Prop) : VK := fun x H1 => ∃ a, x = .ref a ∧ (∃ xs, SqL K H1 a xs) ∧ R (Itl K a) H1
def RiT (K : PySem.W.Frag) (R : It → Hp → Prop) : VK := fun x H1 => ∃ a, x = .ref a ∧ (∃ xs, SqT K H1 a xs) ∧ R (Itt K a) H1
def RiE (K : PySem.W.Frag) (R : It → Hp → Prop) : List V → Hp → Prop := fun vs H1 => ∃ a xs, vs = [.ref a] ∧ SqL K H1 a xs ∧ R (Ite K a) H1
def RiZ (K : PySem.W.Frag) (R : It → Hp → Prop) : List V → Hp → Prop := fun vs H1 => ∃ a b xs ys, vs = [.ref a, .ref b] ∧ SqL K H1 a xs ∧ SqL K H1 b ys ∧ R (Itz K a b) H1
theorem x_rng1 {ts : TA} {R : It → Hp → Prop} (h : ts σ H (Rg1 R)) : iRng1 ts σ H R := h
theorem x_rng2 {ts : TA} {R : It → Hp → Prop} (h : ts σ H (Rg2 R)) : iRng2 ts σ H R := h
theorem x_rgN {m : Nat} {R : It → Hp → Prop} (hm : (m : Int) < 2 ^ 62) (h : R (Itr 0 m) H) : Rg1 R [V.int (m : Int)] H :=
  ⟨m, rfl, by omega, hm, by rw [Int.toNat_natCast]; exact h⟩
theorem walk_rgN {n : Nat} : Walk (Itr 0 n) n (fun _ => True) (YFn fun i => .int i) :=
  ⟨fun _ _ hi _ => hi, fun _ _ => Nat.le_refl _, fun _ _ _ _ _ _ y => ⟨y.1, by rw [y.2]; simp⟩⟩
theorem x_iList {R : It → Hp → Prop} (h : ta σ H (RiL K R)) : iList K ta σ H R := h
theorem x_iTup {R : It → Hp → Prop} (h : ta σ H (RiT K R)) : iTup K ta σ H R := h
theorem x_itL {a : Addr} {xs : List V} {R : It → Hp → Prop} (hS : SqL K H a xs) (h : R (Itl K a) H) : RiL K R (.ref a) H := ⟨a, rfl, ⟨xs, hS⟩, h⟩
theorem x_itT {a : Addr} {xs : List V} {R : It → Hp → Prop} (hS : SqT K H a xs) (h : R (Itt K a) H) : RiT K R (.ref a) H := ⟨a, rfl, ⟨xs, hS⟩, h⟩
theorem x_iEnum {ts : TA} {R : It → Hp → Prop} (h : ts σ H (RiE K R)) : iEnum K ts σ H R := h
theorem x_enL {a : Addr} {xs : List V} {R : It → Hp → Prop} (hS : SqL K H a xs) (h : R (Ite K a) H) : RiE K R [.ref a] H := ⟨a, xs, rfl, hS, h⟩
theorem x_iZip {ts : TA} {R : It → Hp → Prop} (h : ts σ H (RiZ K R)) : iZip K ts σ H R := h
theorem x_ziL {a b : Addr} {xs ys : List V} {R : It → Hp → Prop} (hS : SqL K H a xs) (hS2 : SqL K H b ys) (h : R (Itz K a b) H) : RiZ K R [.ref a, .ref b] H := ⟨a, b, xs, ys, rfl, hS, hS2, h⟩
theorem x_gTup {n : Nat} {gs : TGs} {R : L2.St → Hp → Prop} {a : Addr} {xs : List V} (hT : SqT K H a xs) (hl : xs.length = n) (h : gs xs σ H R) : gTup K n gs (.ref a) σ H R := ⟨a, xs, rfl, hT, hl, h⟩
theorem x_gCons {g : TG} {gs : TGs} {R : L2.St → Hp → Prop} {xs : List V} (h : g v σ H fun σ' H' => gs xs σ' H' R) : gCons g gs (v :: xs) σ H R := ⟨v, xs, rfl, h⟩
theorem x_gNil {R : L2.St → Hp → Prop} (h : R σ H) : gNil [] σ H R := ⟨rfl, h⟩
/-- a while's turn, or its end -/
def WhS (W : Nat → L2.St → Hp → Prop) (m : Nat) (t : TS) (D : Ends) (b : Bool) (σ : L2.St) (H : Hp) : Prop :=
  if b = true then ∃ N : L2.St → Hp → Prop, (∀ σ' H', N σ' H' → ∃ m', m' < m ∧ W m' σ' H') ∧ t { D with nx := N, ct := N, bk := D.nx } σ H else D.nx σ H
def Less (W : Nat → L2.St → Hp → Prop) (m : Nat) (σ' : L2.St) (H' : Hp) : Prop := ∃ m', m' < m ∧ W m' σ' H'
theorem x_while {W : Nat → L2.St → Hp → Prop} {m : Nat} (h0 : W m σ H) (hs : ∀ m σ H, W m σ H → c σ H fun b H1 => WhS W m t D b σ H1) : tWhile c t D σ H :=
  ⟨W, ⟨m, h0⟩, hs⟩
theorem x_whT {W : Nat → L2.St → Hp → Prop} {m : Nat} (h : t { D with nx := Less W m, ct := Less W m, bk := D.nx } σ H) : WhS W m t D true σ H := by
  unfold WhS; rw [if_pos rfl]; exact ⟨_, fun _ _ h => h, h⟩
theorem x_whF {W : Nat → L2.St → Hp → Prop} {m : Nat} (h : D.nx σ H) : WhS W m t D false σ H := by
  unfold WhS; rw [if_neg Bool.false_ne_true]; exact h
theorem x_whD {W : Nat → L2.St → Hp → Prop} {m : Nat} {p : Prop} [Decidable p] (h1 : p → t { D with nx := Less W m, ct := Less W m, bk := D.nx } σ H) (h2 : ¬ p → D.nx σ H) : WhS W m t D (decide p) σ H := by
  by_cases h : p
  · rw [decide_eq_true h]; exact x_whT (h1 h)
  · rw [decide_eq_false h]; exact x_whF (h2 h)
/-- what follows a statement is shown once, from Mid -/
theorem x_cut (Mid : L2.St → Hp → Prop) (h : t { D with nx := Mid } σ H) (k : ∀ σ' H', Mid σ' H' → u D σ' H') : C8.tCut t u D σ H := ⟨Mid, h, k⟩
theorem x_aug {i : Nat} {ti : TIp} (e : σ[i]? = some (some x)) (h : te σ H fun y H1 => ti x y H1 fun z H2 => D.nx (σ.set i (some z)) H2) : tAug i te ti D σ H := ⟨x, e, h⟩

/-! methods of lists -/
theorem x_bm {T : String} {r : V → List V → Hp → VK → Prop} {ts : TA} (h : ta σ H fun x H1 => tyV K T x H1 ∧ ts σ H1 fun xs H2 => r x xs H2 Q) : tBM K T r ta ts σ H Q := h
theorem x_bm0 {T : String} {r : V → List V → Hp → VK → Prop} (h : ta σ H fun x H1 => tyV K T x H1 ∧ r x [] H1 Q) : tBM0 K T r ta σ H Q := h
theorem x_tyL {p : Addr} {xs : List V} {R : Prop} (hS : SqL K H p xs) (h : R) : tyV K "list" (.ref p) H ∧ R := ⟨.inl ⟨rfl, xs, hS⟩, h⟩
theorem x_append {l : Addr} {xs : List V} (hl : H l = some (.lst xs)) (hz : xs.length < sizeLine) (h : Q .non (upd H l (.lst (xs ++ [y])))) : rAppend (.ref l) [y] H Q := ⟨l, xs, y, rfl, rfl, hl, hz, h⟩

/-! operators of our own -/
theorem opr_imp {X : Cx} {f : Value → Value → Sem Value} {r r' : R2} (h : OpR X f r) (hi : ∀ x y H Q, r' x y H Q → r x y H Q) : OpR X f r' :=
  fun pins s σ H x y v u Q I rx ry hw => h pins s σ H x y v u Q I rx ry (hi x y H Q hw)
def rShl1 : R2 := fun x y H Q => ∃ k : Nat, x = .int 1 ∧ y = .int (k : Int) ∧ k ≤ 134217727 ∧ Q (.int ((2 ^ k : Nat) : Int)) H
theorem op_shl1 {X : Cx} : OpR X (binaryOp .LShift) rShl1 := opr_imp op_oneShl fun x y H Q ⟨k, h1, h2, h3, q⟩ => ⟨k, h1, h2, h3, by
  have e : ((2 ^ k : Nat) : Int) = 2 ^ k := by simp
  rw [← e]; exact q⟩
theorem x_shl1 {j : Int} {k : Nat} (hj : j = k) (hk : k ≤ 134217727) (h : Q (.int ((2 ^ k : Nat) : Int)) H) : rShl1 (.int 1) (.int j) H Q := ⟨k, rfl, by rw [hj], hk, h⟩
def rShrN : R2 := fun x y H Q => ∃ n k : Nat, x = .int n ∧ y = .int k ∧ Q (.int ((n / 2 ^ k : Nat) : Int)) H
def rShlN : R2 := fun x y H Q => ∃ n k : Nat, x = .int n ∧ y = .int k ∧ n < 2 ^ 64 ∧ k ≤ 1000000 ∧ Q (.int ((n * 2 ^ k : Nat) : Int)) H
def rXorN : R2 := fun x y H Q => ∃ n k : Nat, x = .int n ∧ y = .int k ∧ Q (.int ((n ^^^ k : Nat) : Int)) H
theorem op_shrN' {X : Cx} : OpR X (binaryOp .RShift) rShrN := opr_imp op_shr fun x y H Q ⟨n, k, h1, h2, q⟩ => ⟨n, k, h1, h2, by omega, by
  have e : ((n / 2 ^ k : Nat) : Int) = (n : Int) / 2 ^ (k : Int).toNat := by simp
  show Q (.int ((n : Int) / 2 ^ (k : Int).toNat)) H
  rw [← e]; exact q⟩
theorem op_shlN' {X : Cx} : OpR X (binaryOp .LShift) rShlN := opr_imp op_shl fun x y H Q ⟨n, k, h1, h2, h3, h4, q⟩ => ⟨n, k, h1, h2, ⟨by omega, by omega, by omega⟩, by
  have e : ((n * 2 ^ k : Nat) : Int) = (n : Int) * 2 ^ (k : Int).toNat := by simp
  show Q (.int ((n : Int) * 2 ^ (k : Int).toNat)) H
  rw [← e]; exact q⟩
theorem op_xorN {X : Cx} : OpR X (binaryOp .BitXor) rXorN := opr_imp op_xor fun x y H Q ⟨n, k, h1, h2, q⟩ => ⟨n, k, h1, h2, by
  show Q (.int (Builtin.bitXor n k)) H
  rw [Bits.bitXor_pp (Int.natCast_nonneg _) (Int.natCast_nonneg _)]; exact q⟩
theorem x_shrN {i j : Int} {n k : Nat} (hi : i = n) (hj : j = k) (h : Q (.int ((n / 2 ^ k : Nat) : Int)) H) : rShrN (.int i) (.int j) H Q := ⟨n, k, by rw [hi], by rw [hj], h⟩
theorem x_shlN {i j : Int} {n k : Nat} (hi : i = n) (hj : j = k) (hn : n < 2 ^ 64) (hk : k ≤ 1000000) (h : Q (.int ((n * 2 ^ k : Nat) : Int)) H) : rShlN (.int i) (.int j) H Q := ⟨n, k, by rw [hi], by rw [hj], hn, hk, h⟩
theorem x_xorN {i j : Int} {n k : Nat} (hi : i = n) (hj : j = k) (h : Q (.int ((n ^^^ k : Nat) : Int)) H) : rXorN (.int i) (.int j) H Q := ⟨n, k, by rw [hi], by rw [hj], h⟩
def rBits (Q : VK) : VK := fun x H1 => ∃ i, x = .int i ∧ Q (.int (Builtin.Int.intBits i : Nat)) H1
theorem e_bits : tBits ta σ H Q = ta σ H (rBits Q) := rfl
theorem x_bits {n : Nat} (h : Q (.int ((if n = 0 then 0 else n.log2 + 1 : Nat) : Int)) H) : rBits Q (.int (n : Int)) H := ⟨n, rfl, by
  have e : Builtin.Int.intBits (n : Int) = if n = 0 then 0 else n.log2 + 1 := by unfold Builtin.Int.intBits; simp
  rw [e]; exact h⟩
theorem two_pos {k : Nat} : (0 : Int) < ((2 ^ k : Nat) : Int) := by
  have := Nat.two_pow_pos k
  omega
theorem mod_two_lt {z : Int} {k : Nat} : ∃ r : Nat, r < 2 ^ k ∧ z % ((2 ^ k : Nat) : Int) = r := by
  have h0 := two_pos (k := k)
  have h1 := Int.emod_nonneg z (Int.ne_of_gt h0)
  have h2 := Int.emod_lt_of_pos z h0
  exact ⟨(z % ((2 ^ k : Nat) : Int)).toNat, by omega, by omega⟩
theorem div_two_cast {k : Nat} (z : Int) : z / 2 ^ (k : Int).toNat = z / ((2 ^ k : Nat) : Int) := by simp

/-! within a comprehension: the constants told -/
section
variable {X : Cx} {K : PySem.W.Frag}
theorem op_inK (h : X.K = K) : OpR X (compareOp .In) (rIn K false) := h ▸ op_in_seq
theorem op_notInK (h : X.K = K) : OpR X (compareOp .NotIn) (rIn K true) := h ▸ op_notIn_seq
theorem sl_listK (h : X.K = K) : SlR X (rSlL K) := h ▸ sl_list
theorem ix_listK (h : X.K = K) : IxR X (rIxL K) := h ▸ ix_list
theorem ix_tupK (h : X.K = K) : IxR X (rIxT K) := h ▸ ix_tup
theorem cb_lenK (h : X.K = K) : CallR X (.builtin "len") (rLenS K) := h ▸ cb_len
theorem call_isiK (h : X.K = K) : CallR X (.builtin "isinstance") (rIsi K) := h ▸ call_isi
end
/-! the definitional ones as equations, for dsimp -/
section
variable {K : PySem.W.Frag} {σ : L2.St} {H : Hp} {ta tb te tc : TE} {t u : TS} {c c' : TT} {D : Ends} {Q : VK} {x y v : V} {o : Option V}
theorem e_seq : tSeq t u D σ H = t { D with nx := u D } σ H := rfl
theorem e_next : tNext D σ H = D.nx σ H := rfl
theorem e_asg {g : TG} : tAsg te g D σ H = te σ H fun x H1 => g x σ H1 D.nx := rfl
theorem e_name {i : Nat} {R : L2.St → Hp → Prop} : gName i v σ H R = R (σ.set i (some v)) H := rfl
theorem e_ret : tRet te D σ H = te σ H D.rt := rfl
theorem e_retN : tRetN D σ H = D.rt .non H := rfl
theorem e_drop : tDrop te D σ H = te σ H fun _ H1 => D.nx σ H1 := rfl
theorem e_ifS : tIfS c t u D σ H = c σ H fun b H1 => IfS b t u D σ H1 := rfl
theorem e_IT : IfS true t u D σ H = t D σ H := rfl
theorem e_IF : IfS false t u D σ H = u D σ H := rfl
theorem e_INT : IfS (!true) t u D σ H = u D σ H := rfl
theorem e_INF : IfS (!false) t u D σ H = t D σ H := rfl
theorem e_if {tt : TT} : tIf tt ta tb σ H Q = tt σ H fun b H1 => if b = true then ta σ H1 Q else tb σ H1 Q := rfl
theorem e_varS {i : Nat} : tVar (i + 1) (o :: σ) H Q = tVar i σ H Q := rfl
theorem e_c : tC v σ H Q = Q v H := rfl
theorem e_op {r : R2} : tOp r ta tb σ H Q = ta σ H fun x H1 => tb σ H1 fun y H2 => r x y H2 Q := rfl
theorem e_un {r : V → Hp → VK → Prop} : tUn r ta σ H Q = ta σ H fun x H1 => r x H1 Q := rfl
theorem e_cb {r : List V → Hp → VK → Prop} {ts : TA} : tCB r ts σ H Q = ts σ H fun vs H1 => r vs H1 Q := rfl
theorem e_nil {R : List V → Hp → Prop} : tNil σ H R = R [] H := rfl
theorem e_cons {ts : TA} {R : List V → Hp → Prop} : tCons ta ts σ H R = ta σ H fun x H1 => ts σ H1 fun xs H2 => R (x :: xs) H2 := rfl
theorem e_test {R : Bool → Hp → Prop} : tTest te σ H R = te σ H fun x H' => ∃ k, x = .bl k ∧ R k H' := rfl
theorem e_B {R : Bool → Hp → Prop} : tB te σ H R = te σ H fun x H' => ∃ k, x = .bl k ∧ R k H' := rfl
theorem e_and {R : Bool → Hp → Prop} : tAnd c c' σ H R = c σ H fun b H1 => if b = true then c' σ H1 R else R false H1 := rfl
theorem e_or {R : Bool → Hp → Prop} : tOr c c' σ H R = c σ H fun b H1 => if b = true then R true H1 else c' σ H1 R := rfl
theorem e_not {R : Bool → Hp → Prop} : tNot c σ H R = c σ H fun b H1 => R (!b) H1 := rfl
theorem e_andV : tAndV ta tb σ H Q = ta σ H fun x H1 => ∃ c, x = .bl c ∧ if c = true then tb σ H1 Q else Q (.bl false) H1 := rfl
theorem e_orV : tOrV ta tb σ H Q = ta σ H fun x H1 => ∃ c, x = .bl c ∧ if c = true then Q (.bl true) H1 else tb σ H1 Q := rfl
theorem e_notV : tNotV ta σ H Q = ta σ H fun x H1 => ∃ c, x = .bl c ∧ Q (.bl (!c)) H1 := rfl
theorem e_chain {r r' : R2} : tChain r r' ta tb tc σ H Q = ta σ H fun x H1 => tb σ H1 fun y H2 => r x y H2 fun z H3 => ∃ k, z = .bl k ∧ if k = true then tc σ H3 fun w H4 => r' y w H4 Q else Q (.bl false) H3 := rfl
theorem e_for {wi : TI} {g : TG} {tb : TS} : tFor wi g tb D σ H = wi σ H fun J H1 => ForW g tb D J σ H1 := rfl
theorem e_rng1 {ts : TA} {R : It → Hp → Prop} : iRng1 ts σ H R = ts σ H (Rg1 R) := rfl
theorem e_rng2 {ts : TA} {R : It → Hp → Prop} : iRng2 ts σ H R = ts σ H (Rg2 R) := rfl
theorem e_iList {R : It → Hp → Prop} : iList K ta σ H R = ta σ H (RiL K R) := rfl
theorem e_iTup {R : It → Hp → Prop} : iTup K ta σ H R = ta σ H (RiT K R) := rfl
theorem e_iEnum {ts : TA} {R : It → Hp → Prop} : iEnum K ts σ H R = ts σ H (RiE K R) := rfl
theorem e_iZip {ts : TA} {R : It → Hp → Prop} : iZip K ts σ H R = ts σ H (RiZ K R) := rfl
theorem e_bm {T : String} {r : V → List V → Hp → VK → Prop} {ts : TA} : tBM K T r ta ts σ H Q = ta σ H fun x H1 => tyV K T x H1 ∧ ts σ H1 fun xs H2 => r x xs H2 Q := rfl
theorem e_bm0 {T : String} {r : V → List V → Hp → VK → Prop} : tBM0 K T r ta σ H Q = ta σ H fun x H1 => tyV K T x H1 ∧ r x [] H1 Q := rfl
theorem e_tup {ts : TA} : tTup ts σ H Q = ts σ H fun xs H1 => xs.length ≤ sizeLine ∧ ∀ p, H1 p = none → Q (.ref p) (upd H1 p (.tup xs)) := rfl
theorem e_lst {ts : TA} : tLst ts σ H Q = ts σ H fun xs H1 => xs.length ≤ sizeLine ∧ ∀ p, H1 p = none → Q (.ref p) (upd H1 p (.lst xs)) := rfl
theorem e_calld {sp : Sp} {E : XK} {ds : List V} {ts : TA} : tCall sp ds E ts σ H Q = ts σ H fun vs H1 => sp (vs ++ ds) H1 Q E := rfl
theorem e_T {A B : Prop} : (if true = true then A else B) = A := rfl
theorem e_F {A B : Prop} : (if false = true then A else B) = B := rfl
theorem e_NT {A B : Prop} : (if (!true) = true then A else B) = B := rfl
theorem e_NF {A B : Prop} : (if (!false) = true then A else B) = A := rfl
theorem x_v0 (h : Q v H) : tVar 0 (some v :: σ) H Q := ⟨v, rfl, h⟩
end
/-! pairs that an iterator lays -/
def YPairE (xs ys : Nat → Option V) : Nat → Hp → V → Hp → Prop := fun i H v H' => ∃ T x y, v = .ref T ∧ H T = none ∧ Ex H H' ∧ H' T = some (.tup [x, y]) ∧ xs i = some x ∧ ys i = some y
theorem YPair.e {xs ys : Nat → Option V} {i : Nat} {H : Hp} {v : V} {H' : Hp} (h : YPair xs ys i H v H') : YPairE xs ys i H v H' := by
  obtain ⟨T, x, y, h1, h2, rfl, h4, h5⟩ := h
  exact ⟨T, x, y, h1, h2, Ex.new h2, upd_same, h4, h5⟩
theorem walk_enumE {K : PySem.W.Frag} {a : Addr} {xs : List V} : Walk (Ite K a) xs.length (fun H => SqL K H a xs) (YPairE (fun i => some (.int (i : Nat))) (fun i => xs[i]?)) :=
  walk_enum.mono (fun _ h => h) fun _ _ _ _ _ _ y => YPair.e y
theorem walk_zipE {K : PySem.W.Frag} {a b : Addr} {xs ys : List V} {n : Nat} (hn : n = min xs.length ys.length) : Walk (Itz K a b) n (fun H => SqL K H a xs ∧ SqL K H b ys) (YPairE (fun i => xs[i]?) (fun i => ys[i]?)) :=
  (walk_zip hn).mono (fun _ h => h) fun _ _ _ _ _ _ y => YPair.e y

/-! equality of lists of ints -/
abbrev nV (n : Nat) : V := .int (n : Int)
theorem eqv_ints : ∀ (xs ys : List Int), PyData.eqv (.list (xs.map PyData.int)) (.list (ys.map PyData.int)) = decide (xs = ys)
  | [], [] => rfl
  | [], _ :: _ => rfl
  | _ :: _, [] => rfl
  | x :: xs, y :: ys => by
    have ih := eqv_ints xs ys
    have e : PyData.eqv (.list ((x :: xs).map PyData.int)) (.list ((y :: ys).map PyData.int)) = (decide (x = y) && PyData.eqv (.list (xs.map PyData.int)) (.list (ys.map PyData.int))) := by
      show PyData.eqvAll _ _ = _
      rfl
    rw [e, ih]
    by_cases h : x = y <;> by_cases h2 : xs = ys <;> simp [h, h2]
theorem dpAll_ints {K : PySem.W.Frag} {H : Hp} : ∀ xs : List Int, DpAll K H (xs.map V.int) (xs.map PyData.int)
  | [] => .nil
  | x :: xs => .cons (.int x) (dpAll_ints xs)
theorem shaped_ints (xs : List Int) : SeqAt.shaped (.list (xs.map PyData.int)) = true := by
  induction xs with
  | nil => rfl
  | cons x xs ih =>
    exact ih
theorem eqv_bools : ∀ (xs ys : List Bool), PyData.eqv (.list (xs.map PyData.bool)) (.list (ys.map PyData.bool)) = decide (xs = ys)
  | [], [] => rfl
  | [], _ :: _ => rfl
  | _ :: _, [] => rfl
  | x :: xs, y :: ys => by
    have ih := eqv_bools xs ys
    have e : PyData.eqv (.list ((x :: xs).map PyData.bool)) (.list ((y :: ys).map PyData.bool)) = ((x == y) && PyData.eqv (.list (xs.map PyData.bool)) (.list (ys.map PyData.bool))) := by
      show PyData.eqvAll _ _ = _
      rfl
    rw [e, ih]
    by_cases h : x = y <;> by_cases h2 : xs = ys <;> simp [h, h2]
theorem dpAll_bools {K : PySem.W.Frag} {H : Hp} : ∀ xs : List Bool, DpAll K H (xs.map V.bl) (xs.map PyData.bool)
  | [] => .nil
  | x :: xs => .cons (.bl x) (dpAll_bools xs)
theorem shaped_bools (xs : List Bool) : SeqAt.shaped (.list (xs.map PyData.bool)) = true := by
  induction xs with
  | nil => rfl
  | cons x xs ih => exact ih
theorem x_eqLB {K : PySem.W.Frag} {H : Hp} {Q : VK} {a b : Addr} {xs ys : List Bool} (ha : SqL K H a (xs.map V.bl)) (hb : SqL K H b (ys.map V.bl)) (h : Q (.bl (decide (xs = ys))) H) : rEqD K (.ref a) (.ref b) H Q :=
  ⟨_, _, .lst ha (dpAll_bools xs), .lst hb (dpAll_bools ys), shaped_bools xs, shaped_bools ys, by rw [eqv_bools]; exact h⟩
theorem map_nV (xs : List Nat) : xs.map nV = (xs.map fun n : Nat => (n : Int)).map V.int := by rw [List.map_map]; rfl
theorem nat_inj {xs ys : List Nat} : (xs.map fun n : Nat => (n : Int)) = (ys.map fun n : Nat => (n : Int)) ↔ xs = ys :=
  ⟨fun h => List.map_inj_right (f := fun n : Nat => (n : Int)) (fun a b e => Int.ofNat.inj e) |>.mp h, fun h => by rw [h]⟩
section
variable {K : PySem.W.Frag} {H : Hp} {Q : VK}
theorem x_eqLI {a b : Addr} {xs ys : List Int} (ha : SqL K H a (xs.map V.int)) (hb : SqL K H b (ys.map V.int)) (h : Q (.bl (decide (xs = ys))) H) : rEqD K (.ref a) (.ref b) H Q :=
  ⟨_, _, .lst ha (dpAll_ints xs), .lst hb (dpAll_ints ys), shaped_ints xs, shaped_ints ys, by rw [eqv_ints]; exact h⟩
theorem x_neLI {a b : Addr} {xs ys : List Int} (ha : SqL K H a (xs.map V.int)) (hb : SqL K H b (ys.map V.int)) (h : Q (.bl (!decide (xs = ys))) H) : rNeD K (.ref a) (.ref b) H Q :=
  ⟨_, _, .lst ha (dpAll_ints xs), .lst hb (dpAll_ints ys), shaped_ints xs, shaped_ints ys, by rw [eqv_ints]; exact h⟩
theorem x_eqLN {a b : Addr} {xs ys : List Nat} (ha : SqL K H a (xs.map nV)) (hb : SqL K H b (ys.map nV)) (h : Q (.bl (decide (xs = ys))) H) : rEqD K (.ref a) (.ref b) H Q := by
  rw [map_nV] at ha hb
  refine x_eqLI ha hb ?_
  have e : decide ((xs.map fun n : Nat => (n : Int)) = (ys.map fun n : Nat => (n : Int))) = decide (xs = ys) := decide_eq_decide.mpr nat_inj
  rw [e]; exact h
theorem x_neLN {a b : Addr} {xs ys : List Nat} (ha : SqL K H a (xs.map nV)) (hb : SqL K H b (ys.map nV)) (h : Q (.bl (!decide (xs = ys))) H) : rNeD K (.ref a) (.ref b) H Q := by
  rw [map_nV] at ha hb
  refine x_neLI ha hb ?_
  have e : decide ((xs.map fun n : Nat => (n : Int)) = (ys.map fun n : Nat => (n : Int))) = decide (xs = ys) := decide_eq_decide.mpr nat_inj
  rw [e]; exact h
end

/-! comprehensions over a list: one name, one test or none -/
def LcW (g : TG) (tt : TT) (te : TE) (vs : List Nat) (σ : L2.St) (Q : VK) : It → Hp → Prop := fun J H1 => ∀ D, H1 D = none → ∃ W : Nat → Nat → Hp → Prop, (∃ m, W 0 m (upd H1 D (.lst []))) ∧ ∀ i m H, W i m H →
  (J.stop i H ∧ Q (.ref D) H) ∨ (J.go i H ∧ ∃ Nx : Hp → Prop, (∀ H', Nx H' → ∃ m', m' < m ∧ W (i + 1) m' H') ∧ ∀ x H', J.yld i H x H' → g x (wipe σ vs) H' fun σ2 H2 => wipe σ2 vs = wipe σ vs ∧ tt σ2 H2 fun b H3 =>
    if b = true then te σ2 H3 fun y H4 => ∃ acc, H4 D = some (.lst acc) ∧ acc.length < sizeLine ∧ Nx (upd H4 D (.lst (acc ++ [y]))) else Nx H3)
theorem e_lc {wi : TI} {g : TG} {tt : TT} {te : TE} {vs : List Nat} {σ : L2.St} {H : Hp} {Q : VK} : tLc wi g tt te vs σ H Q = wi σ H (LcW g tt te vs σ Q) := rfl
theorem e_wipe0 {σ : L2.St} : wipe σ [] = σ := rfl
theorem e_wipe1 {σ : L2.St} {v : Nat} {vs : List Nat} : wipe σ (v :: vs) = (wipe σ vs).set v none := rfl
theorem e_yes {σ : L2.St} {H : Hp} {R : Bool → Hp → Prop} : tYes σ H R = R true H := rfl
theorem wipe_set1 {σ : L2.St} {i : Nat} {v : Option V} : wipe ((wipe σ [i]).set i v) [i] = wipe σ [i] := by
  show (((σ.set i none).set i v).set i none) = σ.set i none
  rw [List.set_set, List.set_set]
section
variable {K : PySem.W.Frag} {H : Hp} {Q : VK} {σ : L2.St} {tl te : TE} {tt : TT} {k : Nat}
/-- the list stands; test and element are reckoned of each item and change nothing that stood -/
theorem LcW.fmA {α : Type} {emb : α → V} {a : Addr} {xs : List α} (p : α → Bool) (f : α → V) (hS : SqL K H a (xs.map emb)) (hz : xs.length < sizeLine)
    (ht : ∀ x ∈ xs, ∀ H', Ex H H' → ∀ R : Bool → Hp → Prop, (∀ H'', Ex H' H'' → R (p x) H'') → tt ((wipe σ [k]).set k (some (emb x))) H' R)
    (he : ∀ x ∈ xs, p x = true → ∀ H', Ex H H' → ∀ Qe : VK, (∀ H'', Ex H' H'' → Qe (f x) H'') → te ((wipe σ [k]).set k (some (emb x))) H' Qe)
    (hk : ∀ D H', H D = none → Ex H H' → H' D = some (.lst ((xs.filter p).map f)) → Q (.ref D) H') :
    LcW (gName k) tt te [k] σ Q (Itl K a) H := by
  intro D hD
  refine lc_list (K := K) (a := a) (xs := xs.map emb) (Qd := fun H' => Q (.ref D) H') (fun i H' => Ex H H' ∧ H' D = some (.lst (((xs.take i).filter p).map f))) ⟨Ex.new hD, by rw [upd_same]; rfl⟩ (fun i H' _ h => h.1.ls hS) ?_ ?_
  · rintro i y H1 hx ⟨ex, h1⟩
    obtain ⟨x, hxi, rfl⟩ : ∃ x, xs[i]? = some x ∧ y = emb x := by
      rw [List.getElem?_map] at hx
      cases e : xs[i]? with
      | none => rw [e] at hx; cases hx
      | some x => rw [e] at hx; exact ⟨x, rfl, (Option.some.inj hx).symm⟩
    have hm : x ∈ xs := List.mem_of_getElem? hxi
    have et : xs.take (i + 1) = xs.take i ++ [x] := by rw [List.take_add_one, hxi]; rfl
    refine ⟨wipe_set1, ht x hm H1 ex _ fun H2 ex2 => ?_⟩
    cases hp : p x with
    | true =>
      refine iteT (he x hm hp H2 (ex.trans ex2) _ fun H3 ex3 => ⟨_, ex3.at (ex2.at h1), ?_, ?_, ?_⟩)
      · rw [List.length_map]
        exact Nat.lt_of_le_of_lt (Nat.le_trans (List.length_filter_le _ _) (List.length_take_le' _ _)) hz
      · exact ((ex.trans ex2).trans ex3).mut hD (ex3.at (ex2.at h1))
      · rw [upd_same, et, List.filter_append, List.map_append]
        simp [hp]
    | false =>
      refine iteF ⟨ex.trans ex2, ?_⟩
      rw [et, List.filter_append, List.map_append]
      simp [hp]
      simpa using ex2.at h1
  · rintro H1 ⟨ex, h1⟩
    rw [List.length_map, List.take_length] at h1
    exact hk D H1 hD ex h1
theorem LcW.fm {a : Addr} {xs : List V} (p : V → Bool) (f : V → V) (hS : SqL K H a xs) (hz : xs.length < sizeLine)
    (ht : ∀ x ∈ xs, ∀ H', Ex H H' → ∀ R : Bool → Hp → Prop, (∀ H'', Ex H' H'' → R (p x) H'') → tt ((wipe σ [k]).set k (some x)) H' R)
    (he : ∀ x ∈ xs, p x = true → ∀ H', Ex H H' → ∀ Qe : VK, (∀ H'', Ex H' H'' → Qe (f x) H'') → te ((wipe σ [k]).set k (some x)) H' Qe)
    (hk : ∀ D H', H D = none → Ex H H' → H' D = some (.lst ((xs.filter p).map f)) → Q (.ref D) H') :
    LcW (gName k) tt te [k] σ Q (Itl K a) H := LcW.fmA (emb := id) p f (by rw [List.map_id]; exact hS) hz ht he hk
/-- over whatever walks; item, test and element are reckoned and change nothing that stood -/
theorem LcW.fmW {J : It} {n : Nat} {G : Hp → Prop} {Y : Nat → Hp → V → Hp → Prop} (w : Walk J n G Y) (hz : n < sizeLine) (g : Nat → V) (p : Nat → Bool) (f : Nat → V) (hG : ∀ H', Ex H H' → G H') (hY : ∀ i H1 x H2, i < n → Y i H1 x H2 → x = g i ∧ Ex H1 H2)
    (ht : ∀ i, i < n → ∀ H', Ex H H' → ∀ R : Bool → Hp → Prop, (∀ H'', Ex H' H'' → R (p i) H'') → tt ((wipe σ [k]).set k (some (g i))) H' R)
    (he : ∀ i, i < n → p i = true → ∀ H', Ex H H' → ∀ Qe : VK, (∀ H'', Ex H' H'' → Qe (f i) H'') → te ((wipe σ [k]).set k (some (g i))) H' Qe)
    (hk : ∀ D H', H D = none → Ex H H' → H' D = some (.lst (((List.range n).filter p).map f)) → Q (.ref D) H') : LcW (gName k) tt te [k] σ Q J H := by
  intro D hD
  refine lc_it w (Qd := fun H' => Q (.ref D) H') (fun i H' => Ex H H' ∧ H' D = some (.lst (((List.range i).filter p).map f))) ⟨Ex.new hD, by rw [upd_same]; rfl⟩ (fun i H' _ h => hG H' h.1) ?_ ?_
  · rintro i x H1 H2 hi ⟨ex, h1⟩ y
    obtain ⟨rfl, ex12⟩ := hY i H1 x H2 hi y
    have ex2 := ex.trans ex12
    have h2 := ex12.at h1
    refine ⟨wipe_set1, ht i hi H2 ex2 _ fun H3 ex3 => ?_⟩
    have h3 := ex3.at h2
    have ex03 := ex2.trans ex3
    cases hp : p i with
    | true =>
      refine iteT (he i hi hp H3 ex03 _ fun H4 ex4 => ⟨_, ex4.at h3, ?_, (ex03.trans ex4).mut hD (ex4.at h3), ?_⟩)
      · rw [List.length_map]
        exact Nat.lt_of_le_of_lt (Nat.le_trans (List.length_filter_le _ _) (by rw [List.length_range]; omega)) hz
      · rw [upd_same, List.range_succ, List.filter_append, List.map_append]
        simp [hp]
    | false =>
      refine iteF ⟨ex03, ?_⟩
      rw [List.range_succ, List.filter_append, List.map_append]
      simp [hp]
      simpa using h3
  · rintro H1 ⟨ex, h1⟩
    exact hk D H1 hD ex h1
/-- over range(n) -/
theorem LcW.rng {n : Nat} (hz : n < sizeLine) (p : Nat → Bool) (f : Nat → V)
    (ht : ∀ i, i < n → ∀ H', Ex H H' → ∀ R : Bool → Hp → Prop, (∀ H'', Ex H' H'' → R (p i) H'') → tt ((wipe σ [k]).set k (some (nV i))) H' R)
    (he : ∀ i, i < n → p i = true → ∀ H', Ex H H' → ∀ Qe : VK, (∀ H'', Ex H' H'' → Qe (f i) H'') → te ((wipe σ [k]).set k (some (nV i))) H' Qe)
    (hk : ∀ D H', H D = none → Ex H H' → H' D = some (.lst (((List.range n).filter p).map f)) → Q (.ref D) H') : LcW (gName k) tt te [k] σ Q (Itr 0 n) H :=
  LcW.fmW walk_rgN hz nV p f (fun _ _ => trivial) (fun i H1 x H2 _ y => ⟨y.2, by rw [y.1]; exact Ex.refl⟩) ht he hk
/-- a plain map -/
theorem LcW.map {α : Type} {emb : α → V} {a : Addr} {xs : List α} (f : α → V) (hS : SqL K H a (xs.map emb)) (hz : xs.length < sizeLine)
    (he : ∀ x ∈ xs, ∀ H', Ex H H' → ∀ Qe : VK, (∀ H'', Ex H' H'' → Qe (f x) H'') → te ((wipe σ [k]).set k (some (emb x))) H' Qe)
    (hk : ∀ D H', H D = none → Ex H H' → H' D = some (.lst (xs.map f)) → Q (.ref D) H') :
    LcW (gName k) tYes te [k] σ Q (Itl K a) H :=
  LcW.fmA (fun _ => true) f hS hz (fun _ _ _ _ _ h => h _ Ex.refl) (fun x hx _ H' e Qe h => he x hx H' e Qe h) fun D H' h1 h2 h3 => hk D H' h1 h2 (by rw [h3, List.filter_eq_self.mpr fun _ _ => rfl])
/-- a plain filter -/
theorem LcW.filt {α : Type} {emb : α → V} {a : Addr} {xs : List α} (p : α → Bool) (hS : SqL K H a (xs.map emb)) (hz : xs.length < sizeLine)
    (ht : ∀ x ∈ xs, ∀ H', Ex H H' → ∀ R : Bool → Hp → Prop, (∀ H'', Ex H' H'' → R (p x) H'') → tt ((wipe σ [k]).set k (some (emb x))) H' R)
    (he : ∀ x ∈ xs, p x = true → ∀ H', Ex H H' → ∀ Qe : VK, Qe (emb x) H' → te ((wipe σ [k]).set k (some (emb x))) H' Qe)
    (hk : ∀ D H', H D = none → Ex H H' → H' D = some (.lst ((xs.filter p).map emb)) → Q (.ref D) H') :
    LcW (gName k) tt te [k] σ Q (Itl K a) H :=
  LcW.fmA p emb hS hz ht (fun x hx hp H' e Qe h => he x hx hp H' e Qe (h H' Ex.refl)) hk
end

theorem lt_ok {xs : List V} (h : decide (xs.length ≤ 1000) = true) : xs.length < sizeLine := Nat.lt_of_le_of_lt (of_decide_eq_true h) (by decide)
theorem len_ok {xs : List V} (h : decide (xs.length ≤ 1000) = true) : xs.length ≤ sizeLine := Nat.le_trans (of_decide_eq_true h) (by decide)
/-! dicts -/
abbrev nK (n : Nat) : Key := .inl (n : Int)
theorem nK_inj {a b : Nat} (h : nK a = nK b) : a = b := Int.ofNat.inj (Sum.inl.inj h)
def RDg (Q : VK) : V → V → Hp → Prop := fun x y H2 => ∃ a v, x = .ref a ∧ DGet H2 a y (some v) ∧ Q v H2
def RDi (Q : VK) : V → V → Hp → Prop := fun x y H2 => ∃ a o, x = .ref a ∧ DGet H2 a y o ∧ Q (.bl o.isSome) H2
def RDn (Q : VK) : V → V → Hp → Prop := fun x y H2 => ∃ a o, x = .ref a ∧ DGet H2 a y o ∧ Q (.bl (!o.isSome)) H2
def RDp (R : Hp → Prop) : V → V → V → Hp → Prop := fun x y v H3 => ∃ a H4, x = .ref a ∧ DPut H3 a y v H4 ∧ R H4
def RDN (Q : VK) : Hp → Prop := fun H => ∀ p, H p = none → Q (.ref p) (upd H p (.dK []))
section
variable {K : PySem.W.Frag} {σ : L2.St} {H : Hp} {td ty tv tx : TE} {D : Ends} {Q : VK}
theorem e_dget : tDGet td ty σ H Q = td σ H fun x H1 => ty σ H1 fun y H2 => RDg Q x y H2 := rfl
theorem e_din : tDIn ty td σ H Q = ty σ H fun y H1 => td σ H1 fun x H2 => RDi Q x y H2 := rfl
theorem e_dnin : tDNotIn ty td σ H Q = ty σ H fun y H1 => td σ H1 fun x H2 => RDn Q x y H2 := rfl
theorem e_dput : sDPut td ty tv D σ H = tv σ H fun v H1 => td σ H1 fun x H2 => ty σ H2 fun y H3 => RDp (D.nx σ) x y v H3 := rfl
theorem e_dnew : tDNewK σ H Q = RDN Q H := rfl
theorem x_dget {a : Addr} {kvs : List (Key × V)} {i : Int} {v : V} (h : H a = some (.dK kvs)) (e : valV kvs (.inl i) = some v) (k : Q v H) : RDg Q (.ref a) (.int i) H := ⟨a, v, rfl, .inl ⟨kvs, .inl i, .inl h, rfl, e.symm⟩, k⟩
theorem x_din {a : Addr} {kvs : List (Key × V)} {i : Int} (h : H a = some (.dK kvs)) (k : Q (.bl (valV kvs (.inl i)).isSome) H) : RDi Q (.ref a) (.int i) H := ⟨a, _, rfl, .inl ⟨kvs, .inl i, .inl h, rfl, rfl⟩, k⟩
theorem x_dnin {a : Addr} {kvs : List (Key × V)} {i : Int} (h : H a = some (.dK kvs)) (k : Q (.bl (!(valV kvs (.inl i)).isSome)) H) : RDn Q (.ref a) (.int i) H := ⟨a, _, rfl, .inl ⟨kvs, .inl i, .inl h, rfl, rfl⟩, k⟩
theorem x_dput {R : Hp → Prop} {a : Addr} {kvs : List (Key × V)} {i : Int} {v : V} (h : H a = some (.dK kvs)) (hz : kvs.length < sizeLine) (k : R (upd H a (.dK (putK kvs (.inl i) v)))) : RDp R (.ref a) (.int i) v H := ⟨a, _, rfl, .inl ⟨kvs, .inl i, h, rfl, hz, rfl⟩, k⟩
theorem x_dnew (h : ∀ p, H p = none → Q (.ref p) (upd H p (.dK []))) : RDN Q H := h
end
/-- sorted(d), d's keys ints, fewer than 64 -/
def rSortDI : List V → Hp → VK → Prop := fun xs H Q => ∃ (a : Addr) (kvs : List (Key × V)) (ks : List Int), xs = [.ref a] ∧ Rd H a (.dK kvs) ∧ kvs.map (·.1) = ks.map Sum.inl ∧ ks.length < 64 ∧
    ∀ (ys : List Int) (p : Addr), ys.Perm ks → ys.Pairwise (· ≤ ·) → H p = none → Q (.ref p) (upd H p (.lst (ys.map V.int)))
theorem cb_sortD {X : Cx} (hc : X.calm = true) : CallR X (.builtin "sorted") rSortDI := call_sortedDI hc

/-! objects: fields, methods -/
def RFld (K : PySem.W.Frag) (f : Str) (Q : VK) : VK := fun x H1 => ∃ a C dx fs v, x = .ref a ∧ H1 a = some (.ins C dx fs) ∧ Cls K C ∧ NoAttr K C f ∧ fs.lookup f = some v ∧ Q v H1
def RSf (K : PySem.W.Frag) (f : Str) (y : V) (R : Hp → Prop) : VK := fun x H2 => ∃ a C dx fs, x = .ref a ∧ H2 a = some (.ins C dx fs) ∧ Cls K C ∧ NoAttr K C f ∧ fs.length < 1000 ∧ R (upd H2 a (.ins C dx (putF f y fs)))
def RMt (C : Addr) (m : Str) (sp : Sp) (dvs : List V) (E : XK) (t : TA) (σ : L2.St) (Q : VK) : VK := fun x H1 => ∃ a dx fs, x = .ref a ∧ H1 a = some (.ins C dx fs) ∧ fs.lookup m = none ∧ t σ H1 fun vs H2 => sp (x :: (vs ++ dvs)) H2 Q E
section
variable {K : PySem.W.Frag} {σ : L2.St} {H : Hp} {ta tv : TE} {D : Ends} {Q : VK} {v y : V} {f m : Str} {a C dx : Addr} {fs : List (Str × V)} {sp : Sp} {dvs : List V} {E : XK} {t : TA}
theorem e_fld : tFld K ta f σ H Q = ta σ H (RFld K f Q) := rfl
theorem e_sfld : sFld K ta tv f D σ H = tv σ H fun y H1 => ta σ H1 (RSf K f y (D.nx σ)) := rfl
theorem e_meth : tMeth C m sp dvs E ta t σ H Q = ta σ H (RMt C m sp dvs E t σ Q) := rfl
theorem x_fld (h : H a = some (.ins C dx fs)) (c : Cls K C) (n : NoAttr K C f) (l : fs.lookup f = some v) (k : Q v H) : RFld K f Q (.ref a) H := ⟨a, C, dx, fs, v, rfl, h, c, n, l, k⟩
theorem x_sfld {R : Hp → Prop} {fs' : List (Str × V)} (h : H a = some (.ins C dx fs)) (c : Cls K C) (n : NoAttr K C f) (e : putF f y fs = fs') (hz : decide (fs.length < 1000) = true) (k : R (upd H a (.ins C dx fs'))) : RSf K f y R (.ref a) H := ⟨a, C, dx, fs, rfl, h, c, n, of_decide_eq_true hz, by rw [e]; exact k⟩
theorem x_meth (h : H a = some (.ins C dx fs)) (l : fs.lookup m = none) (k : t σ H fun vs H2 => sp (.ref a :: (vs ++ dvs)) H2 Q E) : RMt C m sp dvs E t σ Q (.ref a) H := ⟨a, dx, fs, rfl, h, l, k⟩
end
/-! slices -/
section
variable {K : PySem.W.Frag} {σ : L2.St} {H : Hp} {ta : TE} {tl th : TO} {Q : VK} {R : Option Int → Hp → Prop}
theorem e_sl {r : V → Option Int → Option Int → Hp → VK → Prop} : tSl r ta tl th σ H Q = ta σ H fun x H1 => tl σ H1 fun l H2 => th σ H2 fun u H3 => r x l u H3 Q := rfl
theorem e_nopart : tNoPart σ H R = R none H := rfl
def RPt (R : Option Int → Hp → Prop) : VK := fun x H1 => ∃ i, x = .int i ∧ R (some i) H1
theorem e_part : tPart ta σ H R = ta σ H (RPt R) := rfl
theorem x_part {i : Int} (h : R (some i) H) : RPt R (.int i) H := ⟨i, rfl, h⟩
theorem x_slL {p : Addr} {xs : List V} {lo hi : Option Int} (hS : SqL K H p xs) (h : ∀ q, H q = none → Q (.ref q) (upd H q (.lst (cutV xs lo hi)))) : rSlL K (.ref p) lo hi H Q := ⟨p, xs, rfl, hS, h⟩
theorem cut_take {xs : List V} {k : Nat} : cutV xs none (some (k : Int)) = xs.take k := by
  unfold cutV
  rw [HT.sIx_none, HT.sIx_nat, List.drop_zero, Nat.sub_zero]
  by_cases h : k ≤ xs.length
  · rw [Nat.min_eq_left h]
  · rw [Nat.min_eq_right (by omega), List.take_of_length_le (Nat.le_refl _), List.take_of_length_le (i := k) (by omega)]
theorem cut_drop {xs : List V} {k : Nat} : cutV xs (some (k : Int)) none = xs.drop k := by
  unfold cutV
  rw [HT.sIx_none, HT.sIx_nat]
  by_cases h : k ≤ xs.length
  · rw [Nat.min_eq_left h, List.take_of_length_le (by rw [List.length_drop]; omega)]
  · rw [Nat.min_eq_right (by omega), List.drop_of_length_le (Nat.le_refl _), List.drop_of_length_le (by omega), List.take_nil]
end
/-! members, methods of lists of names -/
theorem inV_nat {n : Nat} : ∀ {ns : List Nat}, inV (nV n) (ns.map nV) = decide (n ∈ ns)
  | [] => rfl
  | m :: r => by
    have ih := inV_nat (n := n) (ns := r)
    unfold inV at ih ⊢
    rw [List.map_cons, List.any_cons, ih]
    show (((m : Int) == (n : Int)) || decide (n ∈ r)) = _
    by_cases e : m = n
    · simp [e]
    · have e' : ¬ (m : Int) = n := fun z => e (Int.ofNat.inj z)
      simp [e', Ne.symm e]
theorem flat_nat (ns : List Nat) : (ns.map nV).all flatV = true := by
  rw [List.all_eq_true]
  intro x hx
  obtain ⟨n, _, rfl⟩ := List.mem_map.mp hx
  rfl
section
variable {K : PySem.W.Frag} {H : Hp} {Q : VK}
theorem x_inN {i : Int} {n : Nat} {p : Addr} {ns : List Nat} (hi : i = n) (hS : SqL K H p (ns.map nV)) (h : Q (.bl (decide (n ∈ ns))) H) : rIn K false (.int i) (.ref p) H Q := by
  subst hi; exact ⟨p, _, rfl, .inl hS, rfl, flat_nat ns, by rw [inV_nat]; exact h⟩
theorem x_ninN {i : Int} {n : Nat} {p : Addr} {ns : List Nat} (hi : i = n) (hS : SqL K H p (ns.map nV)) (h : Q (.bl (!decide (n ∈ ns))) H) : rIn K true (.int i) (.ref p) H Q := by
  subst hi; exact ⟨p, _, rfl, .inl hS, rfl, flat_nat ns, by rw [inV_nat]; exact h⟩
theorem erase_first {n : Nat} : ∀ {ns : List Nat}, n ∈ ns → ∃ j : Nat, (ns.map fun n : Nat => (n : Int))[j]? = some (n : Int) ∧ (∀ m : Nat, m < j → (ns.map fun n : Nat => (n : Int))[m]? ≠ some (n : Int)) ∧ ns.eraseIdx j = ns.erase n
  | [], h => by cases h
  | m :: r, h => by
    by_cases e : m = n
    · refine ⟨0, by simp [e], fun m h => absurd h (Nat.not_lt_zero _), by simp [e]⟩
    · have hr : n ∈ r := by
        rcases List.mem_cons.mp h with z | z
        · exact absurd z.symm e
        · exact z
      obtain ⟨j, h1, h2, h3⟩ := erase_first hr
      refine ⟨j + 1, by simpa using h1, fun k hk => ?_, ?_⟩
      · cases k with
        | zero =>
          intro z
          have z : some ((m : Nat) : Int) = some (n : Int) := z
          exact e (Int.ofNat.inj (Option.some.inj z))
        | succ k => exact h2 k (by omega)
      · rw [List.eraseIdx_cons_succ, h3, List.erase_cons_tail (by simpa using e)]
theorem eraseIdx_mapV {α β : Type} (f : α → β) : ∀ (xs : List α) (j : Nat), (xs.map f).eraseIdx j = (xs.eraseIdx j).map f
  | [], _ => rfl
  | _ :: _, 0 => rfl
  | x :: r, j + 1 => by
    show f x :: (r.map f).eraseIdx j = f x :: (r.eraseIdx j).map f
    rw [eraseIdx_mapV f r j]
theorem x_remove {i : Int} {n : Nat} {l : Addr} {ns : List Nat} (hi : i = n) (hl : H l = some (.lst (ns.map nV))) (hn : n ∈ ns) (h : Q .non (upd H l (.lst ((ns.erase n).map nV)))) : rRemI (.ref l) [.int i] H Q := by
  subst hi
  obtain ⟨j, h1, h2, h3⟩ := erase_first hn
  refine ⟨l, ns.map fun n : Nat => (n : Int), n, j, rfl, rfl, by rw [← map_nV]; exact hl, h1, h2, ?_⟩
  have e : ((ns.map fun n : Nat => (n : Int)).eraseIdx j).map V.int = (ns.erase n).map nV := by
    rw [eraseIdx_mapV, h3, ← map_nV]
  rw [e]; exact h
theorem x_pop0 {l : Addr} {x : V} {xs : List V} (hl : H l = some (.lst (x :: xs))) (h : Q x (upd H l (.lst xs))) : rPopAt (.ref l) [.int 0] H Q :=
  ⟨l, x :: xs, 0, 0, x, rfl, rfl, hl, by decide, by decide, by unfold seqIndex?; simp, rfl, h⟩
end

/-! len(set(names)), [:-1] -/
def RLs (K : PySem.W.Frag) (Q : VK) : VK := fun x H1 => ∃ (l : Addr) (ns : List Int), x = .ref l ∧ SqL K H1 l (ns.map V.int) ∧ ns.Nodup ∧ ns.length ≤ 4000 ∧ Q (.int (ns.length : Nat)) H1
theorem e_lenSet {K : PySem.W.Frag} {σ : L2.St} {H : Hp} {ta : TE} {Q : VK} : RZ.tLenSetI K ta σ H Q = ta σ H (RLs K Q) := rfl
theorem x_lenSet {K : PySem.W.Frag} {H : Hp} {Q : VK} {a : Addr} {ns : List Nat} (hS : SqL K H a (ns.map nV)) (nd : ns.Nodup) (hz : ns.length ≤ 4000) (h : Q (.int (ns.length : Nat)) H) : RLs K Q (.ref a) H :=
  ⟨a, ns.map fun n : Nat => (n : Int), rfl, by rw [← map_nV]; exact hS, List.Pairwise.map _ (fun a b h e => h (Int.ofNat.inj e)) nd, by rw [List.length_map]; exact hz, by rw [List.length_map]; exact h⟩
theorem cut_init {xs : List V} : cutV xs none (some (-1)) = xs.dropLast := by
  unfold cutV
  rw [HT.sIx_none, List.drop_zero, Nat.sub_zero]
  have e : HT.sIx xs.length xs.length (some (-1)) = xs.length - 1 := by
    unfold HT.sIx
    simp
    omega
  rw [e, List.dropLast_eq_take]
theorem x_truB {K : PySem.W.Frag} {H : Hp} {R : Bool → Prop} {b : Bool} (h : R b) : ∃ k, TruV K (.bl b) H k ∧ R k := ⟨b, rfl, h⟩
/-! is None, is not None -/
def rIsNn : R2 := fun x y H Q => y = .non ∧ Q (.bl (decide (x = .non))) H
def rNotNn : R2 := fun x y H Q => y = .non ∧ Q (.bl (!decide (x = .non))) H
theorem op_isNn {X : Cx} : OpR X (compareOp .Is) rIsNn := op_isN
theorem op_notNn {X : Cx} : OpR X (compareOp .IsNot) rNotNn := op_notN
section
variable {H : Hp} {Q : VK} {i : Int} {b : Bool} {z : Str} {a : Addr}
theorem x_isNN (h : Q (.bl true) H) : rIsNn .non .non H Q := ⟨rfl, by rw [decide_eq_true rfl]; exact h⟩
theorem x_isNI (h : Q (.bl false) H) : rIsNn (.int i) .non H Q := ⟨rfl, by rw [decide_eq_false (fun z => by cases z)]; exact h⟩
theorem x_isNB (h : Q (.bl false) H) : rIsNn (.bl b) .non H Q := ⟨rfl, by rw [decide_eq_false (fun z => by cases z)]; exact h⟩
theorem x_isNS (h : Q (.bl false) H) : rIsNn (.str z) .non H Q := ⟨rfl, by rw [decide_eq_false (fun z => by cases z)]; exact h⟩
theorem x_isNR (h : Q (.bl false) H) : rIsNn (.ref a) .non H Q := ⟨rfl, by rw [decide_eq_false (fun z => by cases z)]; exact h⟩
theorem x_notNN (h : Q (.bl false) H) : rNotNn .non .non H Q := ⟨rfl, by rw [decide_eq_true rfl]; exact h⟩
theorem x_notNI (h : Q (.bl true) H) : rNotNn (.int i) .non H Q := ⟨rfl, by rw [decide_eq_false (fun z => by cases z)]; exact h⟩
theorem x_notNB (h : Q (.bl true) H) : rNotNn (.bl b) .non H Q := ⟨rfl, by rw [decide_eq_false (fun z => by cases z)]; exact h⟩
theorem x_notNS (h : Q (.bl true) H) : rNotNn (.str z) .non H Q := ⟨rfl, by rw [decide_eq_false (fun z => by cases z)]; exact h⟩
theorem x_notNR (h : Q (.bl true) H) : rNotNn (.ref a) .non H Q := ⟨rfl, by rw [decide_eq_false (fun z => by cases z)]; exact h⟩
end
/-! new objects -/
theorem x_new {A : Prop} {R : Addr → Prop} (ha : A) (h : ∀ p, H p = none → R p) : A ∧ ∀ p, H p = none → R p := ⟨ha, h⟩
/-- a def with defaults, no exception out -/
theorem _root_.L2.FunD.okD {P : Program} {w : World} {K : PySem.W.Frag} {mg : Str → Option Value} {base : Heap} {x qual : Str} {st : Stmt} {f : Addr} {fd : FuncData} {dvs : List V} {kws : List (Str × V)} {N ps : List Str} {k : Nat} {sp : Sp} (F : FunD K x qual (defArgs st) (defBody st) (defScope st) dvs kws f fd) (S : FnScope N ps (defScope st)) (len : ∀ vs H Q E, sp vs H Q E → vs.length = ps.length)
    (hbody : ∀ (cdv : Value) (A : Around) (outer : List Env) (s : Shared) (H : Hp) (vs : List V) (Q : VK) (E : XK), Room k (A.deeper (PyProof.Rows.envOfC qual (defScope st) s.heap.objs.size f cdv)) → sp vs H Q E →
      ∃ t, PSs (cxOf CX0 P w K mg base N qual (defScope st) f cdv A outer s H E).nox (defBody st) t ∧ t { nx := fun _ H' => Q .non H', rt := Q } (start N vs) H) : FnOk P w K mg base CX0 (k + 1) f fd ps sp :=
  F.ok (CX := CX0) S len fun cdv A outer s H vs Q E hr h => let ⟨t, a, b⟩ := hbody cdv A outer s H vs Q E hr h; ⟨t, a.nox, b⟩
theorem fund_mk {K : PySem.W.Frag} {x qual : Str} {st : Stmt} {f D : Addr} {oc tc : Value} {od an td : Option Addr} {osl tl : Array (Option Value)} {kV doc pm cdv ct : Value} {tn : Nat} {its : List Value} {ds : List V} (l : K.lookup f = some ⟨oc, od, .func (PySem.W.fnOf x qual (defArgs st) (defBody st) (defScope st) (.ref D) kV doc pm an cdv ct), osl⟩)
    (c : PySem.W.codeIn K cdv qual = true) (k : PySem.W.keepIn K (.ref f) = true) (t : K.lookup D = some ⟨tc, td, .seq its.toArray tn, tl⟩) (v : Vals ds its) (hd : ds ≠ [] := by simp) : FunD K x qual (defArgs st) (defBody st) (defScope st) ds [] f (PySem.W.fnOf x qual (defArgs st) (defBody st) (defScope st) (.ref D) kV doc pm an cdv ct) :=
  ⟨⟨oc, od, .ref D, kV, doc, pm, an, cdv, ct, osl, rfl, l, c, .inr ⟨hd, D, _, its, tn, rfl, t, rfl, v⟩, .inl rfl⟩, k⟩
theorem vnil {K : PySem.W.Frag} {fd : FuncData} {ps : List Str} {ds : List Value} (v : Vals [] ds) (b : Binds K fd ps ds) : Binds K fd ps [] := by
  cases v
  exact b
/-! making, sorting, extending; comprehensions over whatever walks -/
def RMk (C : Addr) (sp : Sp) (dvs : List V) (E : XK) (Q : VK) : List V → Hp → Prop := fun vs H1 => ∀ x dx, H1 x = none → H1 dx = none → dx ≠ x → sp (.ref x :: (vs ++ dvs)) (upd (upd H1 dx (.own x)) x (.ins C dx [])) (fun v H2 => v = .non ∧ Q (.ref x) H2) E
theorem e_make {C : Addr} {sp : Sp} {dvs : List V} {E : XK} {t : TA} {σ : L2.St} {H : Hp} {Q : VK} : tMake C sp dvs E t σ H Q = t σ H (RMk C sp dvs E Q) := rfl
theorem x_make {C : Addr} {sp : Sp} {dvs vs : List V} {E : XK} {H : Hp} {Q : VK} (h : ∀ x dx H1, H x = none → Ex H H1 → H1 x = some (.ins C dx []) → sp (.ref x :: (vs ++ dvs)) H1 (fun v H2 => v = .non ∧ Q (.ref x) H2) E) : RMk C sp dvs E Q vs H :=
  fun x dx hx hdx ne => h x dx _ hx ((Ex.new hdx).newT (by rw [upd_ne (Ne.symm ne)]; exact hx)) upd_same
theorem x_extend {H : Hp} {Q : VK} {l b : Addr} {xs zs : List V} (hl : H l = some (.lst xs)) (hb : H b = some (.lst zs)) (hz : xs.length + zs.length ≤ sizeLine) (h : Q .non (upd H l (.lst (xs ++ zs)))) : rExtend (.ref l) [.ref b] H Q := ⟨l, b, xs, zs, rfl, rfl, hl, hb, hz, h⟩
theorem x_clear {H : Hp} {Q : VK} {l : Addr} {xs : List V} (hl : H l = some (.lst xs)) (h : Q .non (upd H l (.lst []))) : rClear (.ref l) [] H Q := ⟨l, xs, rfl, rfl, hl, h⟩
theorem LcW.by1 {J : It} {n : Nat} {G : Hp → Prop} {Y : Nat → Hp → V → Hp → Prop} {te : TE} {k : Nat} {σ : L2.St} {H : Hp} {Q : VK} (w : Walk J n G Y) (hz : n < sizeLine) (Pv : Addr → Nat → List V → Hp → Prop)
    (h0 : ∀ D, H D = none → Pv D 0 [] (upd H D (.lst [])))
    (hG : ∀ D i acc H', H D = none → i ≤ n → Pv D i acc H' → G H')
    (hs : ∀ D i acc x H1 H1', i < n → H D = none → Pv D i acc H1 → H1 D = some (.lst acc) → Y i H1 x H1' → ∀ Qe : VK, (∀ y H4, H4 D = some (.lst acc) → Pv D (i + 1) (acc ++ [y]) (upd H4 D (.lst (acc ++ [y]))) → Qe y H4) → te ((wipe σ [k]).set k (some x)) H1' Qe)
    (hd : ∀ D acc H', H D = none → Pv D n acc H' → H' D = some (.lst acc) → acc.length = n → Q (.ref D) H') : LcW (gName k) tYes te [k] σ Q J H := by
  intro D hD
  refine lc_it w (Qd := fun H' => Q (.ref D) H') (fun i H' => ∃ acc, acc.length = i ∧ H' D = some (.lst acc) ∧ Pv D i acc H') ⟨[], rfl, upd_same, h0 D hD⟩ (fun i H' hi ⟨acc, _, _, p⟩ => hG D i acc H' hD hi p) ?_ ?_
  · rintro i x H1 H1' hi ⟨acc, hl, ha, p⟩ y
    refine ⟨wipe_set1, ?_⟩
    rw [e_yes]
    refine iteT ?_
    refine hs D i acc x H1 H1' hi hD p ha y _ fun y H4 h4 p4 => ⟨acc, h4, by rw [hl]; exact Nat.lt_trans hi hz, acc ++ [y], by simp [hl], upd_same, p4⟩
  · rintro H1 ⟨acc, hl, ha, p⟩
    exact hd D acc H1 hD p ha hl
end
/-! ranges downwards, list + list, insert -/
def Rg3 (R : It → Hp → Prop) : List V → Hp → Prop := fun vs H1 => ∃ (i j c : Int) (n : Nat), vs = [.int i, .int j, .int c] ∧ RgC i j c n ∧ R (Itc i c n) H1
theorem e_rng3 {σ : L2.St} {H : Hp} {ts : TA} {R : It → Hp → Prop} : iRng3 ts σ H R = ts σ H (Rg3 R) := rfl
theorem x_rgDown {m : Nat} {H : Hp} {R : It → Hp → Prop} (hm : (m : Int) < 2 ^ 61) (h : R (Itc ((m : Int) - 1) (-1) m) H) : Rg3 R [V.int ((m : Int) - 1), .int (-1), .int (-1)] H :=
  ⟨_, _, _, m, rfl, by
    have q := RgC.neg (i := (m : Int) - 1) (j := -1) (by omega) (by omega) (by omega) (by omega)
    have e : ((m : Int) - 1 - -1).toNat = m := by omega
    rw [e] at q; exact q, h⟩
theorem walk_down {n : Nat} : Walk (Itc ((n : Int) - 1) (-1) n) n (fun _ => True) (fun i H x H' => H' = H ∧ ∃ k : Nat, k = n - 1 - i ∧ x = .int (k : Int)) :=
  ⟨fun _ _ hi _ => hi, fun _ _ => Nat.le_refl _, fun i H x H' hi _ y => ⟨y.1, n - 1 - i, rfl, by
    rw [y.2]
    have e : (n : Int) - 1 + (i : Nat) * -1 = ((n - 1 - i : Nat) : Int) := by omega
    rw [e]⟩⟩
theorem x_cat {H : Hp} {Q : VK} {a b : Addr} {xs zs : List V} (ha : H a = some (.lst xs)) (hb : H b = some (.lst zs)) (hz : xs.length + zs.length ≤ sizeLine) (h : ∀ p, H p = none → Q (.ref p) (upd H p (.lst (xs ++ zs)))) : rCat (.ref a) (.ref b) H Q := ⟨a, b, xs, zs, rfl, rfl, ha, hb, hz, h⟩
def rInsert : V → List V → Hp → VK → Prop := fun x vs H Q => ∃ (l : Addr) (xs : List V) (i : Int) (y : V), x = .ref l ∧ vs = [.int i, y] ∧ H l = some (.lst xs) ∧ xs.length < sizeLine ∧ 0 ≤ i ∧ i < 2 ^ 63 ∧
    Q .non (upd H l (.lst (xs.take i.toNat ++ [y] ++ xs.drop i.toNat)))
theorem mt_ins {X : Cx} : MtR X "list.insert" rInsert := mt_insert
theorem x_insert {H : Hp} {Q : VK} {l : Addr} {xs : List V} {i : Int} {k : Nat} {y : V} (hi : i = k) (hl : H l = some (.lst xs)) (hz : xs.length < sizeLine) (hk : k < 2 ^ 62) (h : Q .non (upd H l (.lst (xs.take k ++ [y] ++ xs.drop k)))) : rInsert (.ref l) [.int i, y] H Q :=
  ⟨l, xs, i, y, rfl, rfl, hl, hz, by omega, by omega, by rw [hi, Int.toNat_natCast]; exact h⟩
theorem cut_len {xs : List V} {k m : Nat} : (cutV xs (some (k : Int)) (some (m : Int))).length ≤ m - k := by
  unfold cutV
  rw [HT.sIx_nat, HT.sIx_nat, List.length_take]
  omega
theorem cut_mem {xs : List V} {lo hi : Option Int} {x : V} (h : x ∈ cutV xs lo hi) : x ∈ xs := List.mem_of_mem_drop (List.mem_of_mem_take h)
theorem absI (i : Int) : ∃ n : Nat, (if i < 0 then -i else i) = (n : Int) := ⟨i.natAbs, by split <;> omega⟩
/-! equal by what is read -/
def Shp (d : PyData) (k : Nat) : Prop := d.canLay0 = true ∧ d.depth ≤ k
theorem Shp.mono {d : PyData} {k j : Nat} (h : Shp d k) (e : k ≤ j) : Shp d j := ⟨h.1, Nat.le_trans h.2 e⟩
theorem shp_all {k : Nat} : ∀ {xs : List PyData}, (∀ x ∈ xs, Shp x k) → PyData.canLayAll0 xs = true ∧ PyData.depthAll xs ≤ k
  | [], _ => by simp [PyData.canLayAll0, PyData.depthAll]
  | x :: xs, h => by
    have h1 := h x (List.mem_cons_self ..)
    have h2 := shp_all (xs := xs) fun y hy => h y (List.mem_cons_of_mem _ hy)
    simp only [PyData.canLayAll0, PyData.depthAll, h1.1, h2.1, Bool.and_self, true_and]
    exact Nat.max_le.mpr ⟨h1.2, h2.2⟩
theorem Shp.lst {k : Nat} {xs : List PyData} (h : ∀ x ∈ xs, Shp x k) : Shp (.list xs) (k + 1) := by
  have q := shp_all h
  exact ⟨by simp only [PyData.canLay0]; exact q.1, by simp only [PyData.depth]; omega⟩
theorem Shp.tup {k : Nat} {xs : List PyData} (h : ∀ x ∈ xs, Shp x k) : Shp (.tuple xs) (k + 1) := by
  have q := shp_all h
  exact ⟨by simp only [PyData.canLay0]; exact q.1, by simp only [PyData.depth]; omega⟩
theorem Shp.int {i : Int} : Shp (.int i) 0 := ⟨by simp only [PyData.canLay0], by simp only [PyData.depth]; exact Nat.le_refl _⟩
theorem Shp.bl {i : Bool} : Shp (.bool i) 0 := ⟨by simp only [PyData.canLay0], by simp only [PyData.depth]; exact Nat.le_refl _⟩
theorem Shp.non : Shp .none 0 := ⟨by simp only [PyData.canLay0], by simp only [PyData.depth]; exact Nat.le_refl _⟩
theorem Shp.str {x : Str} (h : PyData.canLay0 (.str x) = true) : Shp (.str x) 0 := ⟨h, by simp only [PyData.depth]; exact Nat.le_refl _⟩
theorem Shp.ints {xs : List Int} : Shp (.list (xs.map PyData.int)) 1 := Shp.lst fun x hx => by
  obtain ⟨i, _, rfl⟩ := List.mem_map.mp hx; exact Shp.int
theorem Shp.ok {d : PyData} {k : Nat} (h : Shp d k) (hk : k ≤ 64 := by decide) : SeqAt.shaped d = true := by
  unfold SeqAt.shaped
  rw [h.1, decide_eq_true (Nat.le_trans h.2 hk)]; rfl
theorem Dp.natsL {K : PySem.W.Frag} {H : Hp} {a : Addr} {xs : List Nat} (h : SqL K H a (xs.map nV)) : Dp K H (.ref a) (.list ((xs.map fun n : Nat => (n : Int)).map PyData.int)) := .lst (by rw [map_nV] at h; exact h) (dpAll_ints _)
theorem x_neSame {K : PySem.W.Frag} {H : Hp} {Q : VK} {x y : V} {d : PyData} {k : Nat} (hx : Dp K H x d) (hy : Dp K H y d) (hs : Shp d k) (h : Q (.bl false) H) (hk : k ≤ 64 := by decide) : rNeD K x y H Q := ⟨d, d, hx, hy, hs.ok hk, hs.ok hk, by
  rw [SeqAt.eqv_refl d hs.1]; exact h⟩
theorem x_eqSame {K : PySem.W.Frag} {H : Hp} {Q : VK} {x y : V} {d : PyData} {k : Nat} (hx : Dp K H x d) (hy : Dp K H y d) (hs : Shp d k) (h : Q (.bl true) H) (hk : k ≤ 64 := by decide) : rEqD K x y H Q := ⟨d, d, hx, hy, hs.ok hk, hs.ok hk, by
  rw [SeqAt.eqv_refl d hs.1]; exact h⟩
end Nn
namespace Nn
open PySem L2
def top (i : Nat) : Stmt := PySem.Challenge.pw_nearnames_k13_tables_by_steps.main.body.getD i (.Pass ⟨0, 0, 0, 0⟩)
abbrev s_Bucket_init : Stmt := inClass (top 2) 0
abbrev N_Bucket_init : List Str := ["self", "room"]
theorem st_Bucket_init (v0 v1 : V) : L2.start ["self", "room"] [v0, v1] = [some v0, some v1] := rfl
theorem sc_Bucket_init : FnScope ["self", "room"] ["self", "room"] (defScope s_Bucket_init) := ⟨rfl, rfl, rfl, by decide +kernel, rfl, by decide +kernel, by decide +kernel⟩
abbrev s_Bucket_names : Stmt := inClass (top 2) 1
abbrev N_Bucket_names : List Str := ["self"]
theorem st_Bucket_names (v0 : V) : L2.start ["self"] [v0] = [some v0] := rfl
theorem sc_Bucket_names : FnScope ["self"] ["self"] (defScope s_Bucket_names) := ⟨rfl, rfl, rfl, by decide +kernel, rfl, by decide +kernel, by decide +kernel⟩
abbrev s_Bucket_hears : Stmt := inClass (top 2) 2
abbrev N_Bucket_hears : List Str := ["self", "name", "answers"]
theorem st_Bucket_hears (v0 v1 v2 : V) : L2.start ["self", "name", "answers"] [v0, v1, v2] = [some v0, some v1, some v2] := rfl
theorem sc_Bucket_hears : FnScope ["self", "name", "answers"] ["self", "name", "answers"] (defScope s_Bucket_hears) := ⟨rfl, rfl, rfl, by decide +kernel, rfl, by decide +kernel, by decide +kernel⟩
abbrev s_Bucket_drops : Stmt := inClass (top 2) 3
abbrev N_Bucket_drops : List Str := ["self", "name"]
theorem st_Bucket_drops (v0 v1 : V) : L2.start ["self", "name"] [v0, v1] = [some v0, some v1] := rfl
theorem sc_Bucket_drops : FnScope ["self", "name"] ["self", "name"] (defScope s_Bucket_drops) := ⟨rfl, rfl, rfl, by decide +kernel, rfl, by decide +kernel, by decide +kernel⟩
abbrev s_far : Stmt := top 4
abbrev N_far : List Str := ["one", "other"]
theorem st_far (v0 v1 : V) : L2.start ["one", "other"] [v0, v1] = [some v0, some v1] := rfl
theorem sc_far : FnScope ["one", "other"] ["one", "other"] (defScope s_far) := ⟨rfl, rfl, rfl, by decide +kernel, rfl, by decide +kernel, by decide +kernel⟩
abbrev s_step : Stmt := top 5
abbrev N_step : List Str := ["one", "other"]
theorem st_step (v0 v1 : V) : L2.start ["one", "other"] [v0, v1] = [some v0, some v1] := rfl
theorem sc_step : FnScope ["one", "other"] ["one", "other"] (defScope s_step) := ⟨rfl, rfl, rfl, by decide +kernel, rfl, by decide +kernel, by decide +kernel⟩
abbrev s_Table_init : Stmt := inClass (top 7) 0
abbrev N_Table_init : List Str := ["self", "own", "wide", "room", "k"]
theorem st_Table_init (v0 v1 v2 v3 : V) : L2.start ["self", "own", "wide", "room", "k"] [v0, v1, v2, v3] = [some v0, some v1, some v2, some v3, none] := rfl
theorem sc_Table_init : FnScope ["self", "own", "wide", "room", "k"] ["self", "own", "wide", "room"] (defScope s_Table_init) := ⟨rfl, rfl, rfl, by decide +kernel, rfl, by decide +kernel, by decide +kernel⟩
abbrev s_Table_bucket_for : Stmt := inClass (top 7) 1
abbrev N_Table_bucket_for : List Str := ["self", "name"]
theorem st_Table_bucket_for (v0 v1 : V) : L2.start ["self", "name"] [v0, v1] = [some v0, some v1] := rfl
theorem sc_Table_bucket_for : FnScope ["self", "name"] ["self", "name"] (defScope s_Table_bucket_for) := ⟨rfl, rfl, rfl, by decide +kernel, rfl, by decide +kernel, by decide +kernel⟩
abbrev s_Table_hears : Stmt := inClass (top 7) 2
abbrev N_Table_hears : List Str := ["self", "name", "answers"]
theorem st_Table_hears (v0 v1 v2 : V) : L2.start ["self", "name", "answers"] [v0, v1, v2] = [some v0, some v1, some v2] := rfl
theorem sc_Table_hears : FnScope ["self", "name", "answers"] ["self", "name", "answers"] (defScope s_Table_hears) := ⟨rfl, rfl, rfl, by decide +kernel, rfl, by decide +kernel, by decide +kernel⟩
abbrev s_Table_drops : Stmt := inClass (top 7) 3
abbrev N_Table_drops : List Str := ["self", "name"]
theorem st_Table_drops (v0 v1 : V) : L2.start ["self", "name"] [v0, v1] = [some v0, some v1] := rfl
theorem sc_Table_drops : FnScope ["self", "name"] ["self", "name"] (defScope s_Table_drops) := ⟨rfl, rfl, rfl, by decide +kernel, rfl, by decide +kernel, by decide +kernel⟩
abbrev s_Table_bucket : Stmt := inClass (top 7) 4
abbrev N_Table_bucket : List Str := ["self", "k"]
theorem st_Table_bucket (v0 v1 : V) : L2.start ["self", "k"] [v0, v1] = [some v0, some v1] := rfl
theorem sc_Table_bucket : FnScope ["self", "k"] ["self", "k"] (defScope s_Table_bucket) := ⟨rfl, rfl, rfl, by decide +kernel, rfl, by decide +kernel, by decide +kernel⟩
abbrev s_Table_keeps : Stmt := inClass (top 7) 5
abbrev N_Table_keeps : List Str := ["self", "found", "bucket"]
theorem st_Table_keeps (v0 : V) : L2.start ["self", "found", "bucket"] [v0] = [some v0, none, none] := rfl
theorem sc_Table_keeps : FnScope ["self", "found", "bucket"] ["self"] (defScope s_Table_keeps) := ⟨rfl, rfl, rfl, by decide +kernel, rfl, by decide +kernel, by decide +kernel⟩
abbrev s_Table_nearest : Stmt := inClass (top 7) 6
abbrev N_Table_nearest : List Str := ["self", "goal", "many", "but"]
theorem st_Table_nearest (v0 v1 v2 v3 : V) : L2.start ["self", "goal", "many", "but"] [v0, v1, v2, v3] = [some v0, some v1, some v2, some v3] := rfl
theorem sc_Table_nearest : FnScope ["self", "goal", "many", "but"] ["self", "goal", "many", "but"] (defScope s_Table_nearest) := ⟨rfl, rfl, rfl, by decide +kernel, rfl, by decide +kernel, by decide +kernel⟩
abbrev s_l_cell_at : Stmt := top 9
abbrev N_l_cell_at : List Str := ["_law_script", "_law_k"]
theorem st_l_cell_at (v0 v1 : V) : L2.start ["_law_script", "_law_k"] [v0, v1] = [some v0, some v1] := rfl
theorem sc_l_cell_at : FnScope ["_law_script", "_law_k"] ["_law_script", "_law_k"] (defScope s_l_cell_at) := ⟨rfl, rfl, rfl, by decide +kernel, rfl, by decide +kernel, by decide +kernel⟩
abbrev s_l_wide : Stmt := top 10
abbrev N_l_wide : List Str := ["_law_cell"]
theorem st_l_wide (v0 : V) : L2.start ["_law_cell"] [v0] = [some v0] := rfl
theorem sc_l_wide : FnScope ["_law_cell"] ["_law_cell"] (defScope s_l_wide) := ⟨rfl, rfl, rfl, by decide +kernel, rfl, by decide +kernel, by decide +kernel⟩
abbrev s_l_mixed : Stmt := top 11
abbrev N_l_mixed : List Str := ["_law_cell", "_law_k", "_law_number"]
theorem st_l_mixed (v0 v1 : V) : L2.start ["_law_cell", "_law_k", "_law_number"] [v0, v1] = [some v0, some v1, none] := rfl
theorem sc_l_mixed : FnScope ["_law_cell", "_law_k", "_law_number"] ["_law_cell", "_law_k"] (defScope s_l_mixed) := ⟨rfl, rfl, rfl, by decide +kernel, rfl, by decide +kernel, by decide +kernel⟩
abbrev s_l_names : Stmt := top 12
abbrev N_l_names : List Str := ["_law_cell", "_law_wide_here", "_law_many", "_law_names_here", "_law_k", "_law_base", "_law_near"]
theorem st_l_names (v0 v1 v2 : V) : L2.start ["_law_cell", "_law_wide_here", "_law_many", "_law_names_here", "_law_k", "_law_base", "_law_near"] [v0, v1, v2] = [some v0, some v1, some v2, none, none, none, none] := rfl
theorem sc_l_names : FnScope ["_law_cell", "_law_wide_here", "_law_many", "_law_names_here", "_law_k", "_law_base", "_law_near"] ["_law_cell", "_law_wide_here", "_law_many"] (defScope s_l_names) := ⟨rfl, rfl, rfl, by decide +kernel, rfl, by decide +kernel, by decide +kernel⟩
abbrev s_l_step : Stmt := top 13
abbrev N_l_step : List Str := ["_law_one", "_law_other", "_law_wide_here", "_law_found", "_law_k"]
theorem st_l_step (v0 v1 v2 : V) : L2.start ["_law_one", "_law_other", "_law_wide_here", "_law_found", "_law_k"] [v0, v1, v2] = [some v0, some v1, some v2, none, none] := rfl
theorem sc_l_step : FnScope ["_law_one", "_law_other", "_law_wide_here", "_law_found", "_law_k"] ["_law_one", "_law_other", "_law_wide_here"] (defScope s_l_step) := ⟨rfl, rfl, rfl, by decide +kernel, rfl, by decide +kernel, by decide +kernel⟩
abbrev s_l_heard : Stmt := top 14
abbrev N_l_heard : List Str := ["_law_line", "_law_room", "_law_name", "_law_silent", "_law_eldest"]
theorem st_l_heard (v0 v1 v2 v3 : V) : L2.start ["_law_line", "_law_room", "_law_name", "_law_silent", "_law_eldest"] [v0, v1, v2, v3] = [some v0, some v1, some v2, some v3, none] := rfl
theorem sc_l_heard : FnScope ["_law_line", "_law_room", "_law_name", "_law_silent", "_law_eldest"] ["_law_line", "_law_room", "_law_name", "_law_silent"] (defScope s_l_heard) := ⟨rfl, rfl, rfl, by decide +kernel, rfl, by decide +kernel, by decide +kernel⟩
abbrev s_l_others : Stmt := top 15
abbrev N_l_others : List Str := ["_law_calls", "_law_silent", "_law_answers"]
theorem st_l_others (v0 v1 : V) : L2.start ["_law_calls", "_law_silent", "_law_answers"] [v0, v1] = [some v0, some v1, none] := rfl
theorem sc_l_others : FnScope ["_law_calls", "_law_silent", "_law_answers"] ["_law_calls", "_law_silent"] (defScope s_l_others) := ⟨rfl, rfl, rfl, by decide +kernel, rfl, by decide +kernel, by decide +kernel⟩
abbrev s_l_looked : Stmt := top 16
abbrev N_l_looked : List Str := ["_law_table", "_law_lines", "_law_wide_here", "_law_k", "_law_found", "_law_every", "_law_line"]
theorem st_l_looked (v0 v1 v2 : V) : L2.start ["_law_table", "_law_lines", "_law_wide_here", "_law_k", "_law_found", "_law_every", "_law_line"] [v0, v1, v2] = [some v0, some v1, some v2, none, none, none, none] := rfl
theorem sc_l_looked : FnScope ["_law_table", "_law_lines", "_law_wide_here", "_law_k", "_law_found", "_law_every", "_law_line"] ["_law_table", "_law_lines", "_law_wide_here"] (defScope s_l_looked) := ⟨rfl, rfl, rfl, by decide +kernel, rfl, by decide +kernel, by decide +kernel⟩
abbrev s_law : Stmt := top 17
abbrev N_law : List Str := ["_law_script", "_law_wide_here", "_law_names_here", "_law_own", "_law_room", "_law_table", "_law_lines", "_law_k", "_law_cell", "_law_name", "_law_silent", "_law_place", "_law_due", "_law_found", "_law_calls"]
theorem st_law (v0 : V) : L2.start ["_law_script", "_law_wide_here", "_law_names_here", "_law_own", "_law_room", "_law_table", "_law_lines", "_law_k", "_law_cell", "_law_name", "_law_silent", "_law_place", "_law_due", "_law_found", "_law_calls"] [v0] = [some v0, none, none, none, none, none, none, none, none, none, none, none, none, none, none] := rfl
theorem sc_law : FnScope ["_law_script", "_law_wide_here", "_law_names_here", "_law_own", "_law_room", "_law_table", "_law_lines", "_law_k", "_law_cell", "_law_name", "_law_silent", "_law_place", "_law_due", "_law_found", "_law_calls"] ["_law_script"] (defScope s_law) := ⟨rfl, rfl, rfl, by decide +kernel, rfl, by decide +kernel, by decide +kernel⟩
abbrev s_l_others__law_answers : Stmt := (defBody s_l_others).getD 0 (.Pass ⟨0, 0, 0, 0⟩)
abbrev N_l_others__law_answers : List Str := ["_law_name", "_law_silent", "_law_calls"]
abbrev fr_l_others__law_answers : List Str := ["_law_silent", "_law_calls"]
theorem nsc_l_others__law_answers : NdefX.NScope N_l_others__law_answers ["_law_name"] fr_l_others__law_answers (C8.fnScope s_l_others__law_answers) := NdefX.nscope_by (by decide +kernel)
theorem st_l_others__law_answers (v0 : V) (w0 w1 : Option V) : NdefX.startF ["_law_name", "_law_silent", "_law_calls"] [v0] [w0, w1] = [some v0, w0, w1] := rfl
abbrev nf_l_others__law_answers (cl : List (Str × Addr)) (c : Addr) : NdefX.NF := NdefX.NF.of s_l_others__law_answers "_law_answers" ((("_law_others" : Str) ++ ".<locals>.") ++ "_law_answers") cl c
theorem nm_l_others__law_answers : nmAll 115 4 = (("_law_others" : Str) ++ ".<locals>.") ++ "_law_answers" := by decide +kernel
def tfL : List He.Defn := [("_law_others", none)]
def Tabs0 (K : PySem.W.Frag) (H : Hp) : Prop := ∀ p ∈ tfL.map (He.cT K), H p.2 = some (.tbl #[])
theorem ne_Bucket_room_line : (("room" : Str) == "line") = false := by decide +kernel
theorem eq_Bucket_room : (("room" : Str) == "room") = true := by decide +kernel
theorem ne_Bucket_line_room : (("line" : Str) == "room") = false := by decide +kernel
theorem eq_Bucket_line : (("line" : Str) == "line") = true := by decide +kernel
abbrev f_Bucket (x0 x1 : V) : List (Str × V) := [(("room" : Str), x0), (("line" : Str), x1)]
theorem lk_Bucket_room {x0 x1 : V} : (f_Bucket x0 x1).lookup ("room" : Str) = some x0 := by
  simp only [f_Bucket, List.lookup, ne_Bucket_room_line, eq_Bucket_room]
theorem put_Bucket_room {x0 x1 y : V} : putF "room" y (f_Bucket x0 x1) = f_Bucket y x1 := by
  have e : ∀ a b : Str, (a == b) = false → ¬ a = b := fun a b h z => by rw [z] at h; simp at h
  unfold f_Bucket
  simp only [putF, if_neg (e _ _ ne_Bucket_line_room), if_true]
theorem lk_Bucket_line {x0 x1 : V} : (f_Bucket x0 x1).lookup ("line" : Str) = some x1 := by
  simp only [f_Bucket, List.lookup, ne_Bucket_line_room, eq_Bucket_line]
theorem put_Bucket_line {x0 x1 y : V} : putF "line" y (f_Bucket x0 x1) = f_Bucket x0 y := by
  have e : ∀ a b : Str, (a == b) = false → ¬ a = b := fun a b h z => by rw [z] at h; simp at h
  unfold f_Bucket
  simp only [putF, if_neg (e _ _ ne_Bucket_room_line), if_true]
theorem ini_Bucket_room { y : V} : putF "room" y ([] : List (Str × V)) = [(("room" : Str), y)] := by
  have e : ∀ a b : Str, (a == b) = false → ¬ a = b := fun a b h z => by rw [z] at h; simp at h
  simp only [putF]
theorem ini_Bucket_line {x0 y : V} : putF "line" y ([(("room" : Str), x0)] : List (Str × V)) = [(("room" : Str), x0), (("line" : Str), y)] := by
  have e : ∀ a b : Str, (a == b) = false → ¬ a = b := fun a b h z => by rw [z] at h; simp at h
  simp only [putF, if_neg (e _ _ ne_Bucket_room_line)]
theorem nm_Bucket_names_room : (("names" : Str) == "room") = false := by decide +kernel
theorem nm_Bucket_names_line : (("names" : Str) == "line") = false := by decide +kernel
theorem no_Bucket_names {x0 x1 : V} : (f_Bucket x0 x1).lookup ("names" : Str) = none := by
  simp only [f_Bucket, List.lookup, nm_Bucket_names_room, nm_Bucket_names_line]
theorem nm_Bucket_hears_room : (("hears" : Str) == "room") = false := by decide +kernel
theorem nm_Bucket_hears_line : (("hears" : Str) == "line") = false := by decide +kernel
theorem no_Bucket_hears {x0 x1 : V} : (f_Bucket x0 x1).lookup ("hears" : Str) = none := by
  simp only [f_Bucket, List.lookup, nm_Bucket_hears_room, nm_Bucket_hears_line]
theorem nm_Bucket_drops_room : (("drops" : Str) == "room") = false := by decide +kernel
theorem nm_Bucket_drops_line : (("drops" : Str) == "line") = false := by decide +kernel
theorem no_Bucket_drops {x0 x1 : V} : (f_Bucket x0 x1).lookup ("drops" : Str) = none := by
  simp only [f_Bucket, List.lookup, nm_Bucket_drops_room, nm_Bucket_drops_line]
theorem ne_Table_own_wide : (("own" : Str) == "wide") = false := by decide +kernel
theorem ne_Table_own_room : (("own" : Str) == "room") = false := by decide +kernel
theorem ne_Table_own_buckets : (("own" : Str) == "buckets") = false := by decide +kernel
theorem eq_Table_own : (("own" : Str) == "own") = true := by decide +kernel
theorem ne_Table_wide_own : (("wide" : Str) == "own") = false := by decide +kernel
theorem ne_Table_wide_room : (("wide" : Str) == "room") = false := by decide +kernel
theorem ne_Table_wide_buckets : (("wide" : Str) == "buckets") = false := by decide +kernel
theorem eq_Table_wide : (("wide" : Str) == "wide") = true := by decide +kernel
theorem ne_Table_room_own : (("room" : Str) == "own") = false := by decide +kernel
theorem ne_Table_room_wide : (("room" : Str) == "wide") = false := by decide +kernel
theorem ne_Table_room_buckets : (("room" : Str) == "buckets") = false := by decide +kernel
theorem eq_Table_room : (("room" : Str) == "room") = true := by decide +kernel
theorem ne_Table_buckets_own : (("buckets" : Str) == "own") = false := by decide +kernel
theorem ne_Table_buckets_wide : (("buckets" : Str) == "wide") = false := by decide +kernel
theorem ne_Table_buckets_room : (("buckets" : Str) == "room") = false := by decide +kernel
theorem eq_Table_buckets : (("buckets" : Str) == "buckets") = true := by decide +kernel
abbrev f_Table (x0 x1 x2 x3 : V) : List (Str × V) := [(("own" : Str), x0), (("wide" : Str), x1), (("room" : Str), x2), (("buckets" : Str), x3)]
theorem lk_Table_own {x0 x1 x2 x3 : V} : (f_Table x0 x1 x2 x3).lookup ("own" : Str) = some x0 := by
  simp only [f_Table, List.lookup, ne_Table_own_wide, ne_Table_own_room, ne_Table_own_buckets, eq_Table_own]
theorem put_Table_own {x0 x1 x2 x3 y : V} : putF "own" y (f_Table x0 x1 x2 x3) = f_Table y x1 x2 x3 := by
  have e : ∀ a b : Str, (a == b) = false → ¬ a = b := fun a b h z => by rw [z] at h; simp at h
  unfold f_Table
  simp only [putF, if_neg (e _ _ ne_Table_wide_own), if_neg (e _ _ ne_Table_room_own), if_neg (e _ _ ne_Table_buckets_own), if_true]
theorem lk_Table_wide {x0 x1 x2 x3 : V} : (f_Table x0 x1 x2 x3).lookup ("wide" : Str) = some x1 := by
  simp only [f_Table, List.lookup, ne_Table_wide_own, ne_Table_wide_room, ne_Table_wide_buckets, eq_Table_wide]
theorem put_Table_wide {x0 x1 x2 x3 y : V} : putF "wide" y (f_Table x0 x1 x2 x3) = f_Table x0 y x2 x3 := by
  have e : ∀ a b : Str, (a == b) = false → ¬ a = b := fun a b h z => by rw [z] at h; simp at h
  unfold f_Table
  simp only [putF, if_neg (e _ _ ne_Table_own_wide), if_neg (e _ _ ne_Table_room_wide), if_neg (e _ _ ne_Table_buckets_wide), if_true]
theorem lk_Table_room {x0 x1 x2 x3 : V} : (f_Table x0 x1 x2 x3).lookup ("room" : Str) = some x2 := by
  simp only [f_Table, List.lookup, ne_Table_room_own, ne_Table_room_wide, ne_Table_room_buckets, eq_Table_room]
theorem put_Table_room {x0 x1 x2 x3 y : V} : putF "room" y (f_Table x0 x1 x2 x3) = f_Table x0 x1 y x3 := by
  have e : ∀ a b : Str, (a == b) = false → ¬ a = b := fun a b h z => by rw [z] at h; simp at h
  unfold f_Table
  simp only [putF, if_neg (e _ _ ne_Table_own_room), if_neg (e _ _ ne_Table_wide_room), if_neg (e _ _ ne_Table_buckets_room), if_true]
theorem lk_Table_buckets {x0 x1 x2 x3 : V} : (f_Table x0 x1 x2 x3).lookup ("buckets" : Str) = some x3 := by
  simp only [f_Table, List.lookup, ne_Table_buckets_own, ne_Table_buckets_wide, ne_Table_buckets_room, eq_Table_buckets]
theorem put_Table_buckets {x0 x1 x2 x3 y : V} : putF "buckets" y (f_Table x0 x1 x2 x3) = f_Table x0 x1 x2 y := by
  have e : ∀ a b : Str, (a == b) = false → ¬ a = b := fun a b h z => by rw [z] at h; simp at h
  unfold f_Table
  simp only [putF, if_neg (e _ _ ne_Table_own_buckets), if_neg (e _ _ ne_Table_wide_buckets), if_neg (e _ _ ne_Table_room_buckets), if_true]
theorem ini_Table_own { y : V} : putF "own" y ([] : List (Str × V)) = [(("own" : Str), y)] := by
  have e : ∀ a b : Str, (a == b) = false → ¬ a = b := fun a b h z => by rw [z] at h; simp at h
  simp only [putF]
theorem ini_Table_wide {x0 y : V} : putF "wide" y ([(("own" : Str), x0)] : List (Str × V)) = [(("own" : Str), x0), (("wide" : Str), y)] := by
  have e : ∀ a b : Str, (a == b) = false → ¬ a = b := fun a b h z => by rw [z] at h; simp at h
  simp only [putF, if_neg (e _ _ ne_Table_own_wide)]
theorem ini_Table_room {x0 x1 y : V} : putF "room" y ([(("own" : Str), x0), (("wide" : Str), x1)] : List (Str × V)) = [(("own" : Str), x0), (("wide" : Str), x1), (("room" : Str), y)] := by
  have e : ∀ a b : Str, (a == b) = false → ¬ a = b := fun a b h z => by rw [z] at h; simp at h
  simp only [putF, if_neg (e _ _ ne_Table_own_room), if_neg (e _ _ ne_Table_wide_room)]
theorem ini_Table_buckets {x0 x1 x2 y : V} : putF "buckets" y ([(("own" : Str), x0), (("wide" : Str), x1), (("room" : Str), x2)] : List (Str × V)) = [(("own" : Str), x0), (("wide" : Str), x1), (("room" : Str), x2), (("buckets" : Str), y)] := by
  have e : ∀ a b : Str, (a == b) = false → ¬ a = b := fun a b h z => by rw [z] at h; simp at h
  simp only [putF, if_neg (e _ _ ne_Table_own_buckets), if_neg (e _ _ ne_Table_wide_buckets), if_neg (e _ _ ne_Table_room_buckets)]
theorem nm_Table_bucket_for_own : (("bucket_for" : Str) == "own") = false := by decide +kernel
theorem nm_Table_bucket_for_wide : (("bucket_for" : Str) == "wide") = false := by decide +kernel
theorem nm_Table_bucket_for_room : (("bucket_for" : Str) == "room") = false := by decide +kernel
theorem nm_Table_bucket_for_buckets : (("bucket_for" : Str) == "buckets") = false := by decide +kernel
theorem no_Table_bucket_for {x0 x1 x2 x3 : V} : (f_Table x0 x1 x2 x3).lookup ("bucket_for" : Str) = none := by
  simp only [f_Table, List.lookup, nm_Table_bucket_for_own, nm_Table_bucket_for_wide, nm_Table_bucket_for_room, nm_Table_bucket_for_buckets]
theorem nm_Table_hears_own : (("hears" : Str) == "own") = false := by decide +kernel
theorem nm_Table_hears_wide : (("hears" : Str) == "wide") = false := by decide +kernel
theorem nm_Table_hears_room : (("hears" : Str) == "room") = false := by decide +kernel
theorem nm_Table_hears_buckets : (("hears" : Str) == "buckets") = false := by decide +kernel
theorem no_Table_hears {x0 x1 x2 x3 : V} : (f_Table x0 x1 x2 x3).lookup ("hears" : Str) = none := by
  simp only [f_Table, List.lookup, nm_Table_hears_own, nm_Table_hears_wide, nm_Table_hears_room, nm_Table_hears_buckets]
theorem nm_Table_drops_own : (("drops" : Str) == "own") = false := by decide +kernel
theorem nm_Table_drops_wide : (("drops" : Str) == "wide") = false := by decide +kernel
theorem nm_Table_drops_room : (("drops" : Str) == "room") = false := by decide +kernel
theorem nm_Table_drops_buckets : (("drops" : Str) == "buckets") = false := by decide +kernel
theorem no_Table_drops {x0 x1 x2 x3 : V} : (f_Table x0 x1 x2 x3).lookup ("drops" : Str) = none := by
  simp only [f_Table, List.lookup, nm_Table_drops_own, nm_Table_drops_wide, nm_Table_drops_room, nm_Table_drops_buckets]
theorem nm_Table_bucket_own : (("bucket" : Str) == "own") = false := by decide +kernel
theorem nm_Table_bucket_wide : (("bucket" : Str) == "wide") = false := by decide +kernel
theorem nm_Table_bucket_room : (("bucket" : Str) == "room") = false := by decide +kernel
theorem nm_Table_bucket_buckets : (("bucket" : Str) == "buckets") = false := by decide +kernel
theorem no_Table_bucket {x0 x1 x2 x3 : V} : (f_Table x0 x1 x2 x3).lookup ("bucket" : Str) = none := by
  simp only [f_Table, List.lookup, nm_Table_bucket_own, nm_Table_bucket_wide, nm_Table_bucket_room, nm_Table_bucket_buckets]
theorem nm_Table_keeps_own : (("keeps" : Str) == "own") = false := by decide +kernel
theorem nm_Table_keeps_wide : (("keeps" : Str) == "wide") = false := by decide +kernel
theorem nm_Table_keeps_room : (("keeps" : Str) == "room") = false := by decide +kernel
theorem nm_Table_keeps_buckets : (("keeps" : Str) == "buckets") = false := by decide +kernel
theorem no_Table_keeps {x0 x1 x2 x3 : V} : (f_Table x0 x1 x2 x3).lookup ("keeps" : Str) = none := by
  simp only [f_Table, List.lookup, nm_Table_keeps_own, nm_Table_keeps_wide, nm_Table_keeps_room, nm_Table_keeps_buckets]
theorem nm_Table_nearest_own : (("nearest" : Str) == "own") = false := by decide +kernel
theorem nm_Table_nearest_wide : (("nearest" : Str) == "wide") = false := by decide +kernel
theorem nm_Table_nearest_room : (("nearest" : Str) == "room") = false := by decide +kernel
theorem nm_Table_nearest_buckets : (("nearest" : Str) == "buckets") = false := by decide +kernel
theorem no_Table_nearest {x0 x1 x2 x3 : V} : (f_Table x0 x1 x2 x3).lookup ("nearest" : Str) = none := by
  simp only [f_Table, List.lookup, nm_Table_nearest_own, nm_Table_nearest_wide, nm_Table_nearest_room, nm_Table_nearest_buckets]
end Nn
/-! A made function that outlives the def that made it: its cells are tracked from the maker's end on. -/
namespace Nn
open PySem PySem.Spec PyProof.Rows L2 NdefX LamX
/-- a cell that holds v -/
def CellO (c : Addr) (v : V) : HO := .ext fun h => ∃ u, L2.RelV v u ∧ h.IsCell c (some u)
theorem cellO_ok {P : Program} {w : World} {H : Hp} {h : Heap} {c : Addr} {v : V} {u : Value} (r : L2.RelV v u) (e : h.IsCell c (some u)) : ObjOk P w H h c (CellO c v) := by
  obtain ⟨o, ho, hd⟩ := e
  exact ⟨⟨u, r, o, ho, hd⟩, ⟨o, ho⟩, fun h1 h2 ⟨u1, r1, o1, h3, h4⟩ k => ⟨u1, r1, o1, k _ h3, h4⟩⟩
/-- the cells of a function are tracked: they hold vs -/
structure CellsT (H : Hp) (cl : List (Str × Addr)) (fr : List Str) (vs : List V) : Prop where
  len : vs.length = fr.length
  all : ∀ y c, cl.lookup y = some c → ∃ v, H c = some (CellO c v)
  inj : ∀ x y c, cl.lookup x = some c → cl.lookup y = some c → x = y
  has : ∀ (i : Nat) (y : Str), fr[i]? = some y → ∃ c v, cl.lookup y = some c ∧ vs[i]? = some v ∧ H c = some (CellO c v)
open Classical in
noncomputable def strip (H : Hp) (cl : List (Str × Addr)) : Hp := fun b => if ∃ y, cl.lookup y = some b then none else H b
open Classical in
noncomputable def relay (H H' : Hp) (cl : List (Str × Addr)) : Hp := fun b => if ∃ y, cl.lookup y = some b then H b else H' b
section
variable {H H' : Hp} {cl : List (Str × Addr)} {fr : List Str} {vs : List V} {a : Addr} {o : HO}
theorem strip_in {y : Str} (h : cl.lookup y = some a) : strip H cl a = none := by unfold strip; rw [if_pos ⟨y, h⟩]
theorem strip_out (h : ¬ ∃ y, cl.lookup y = some a) : strip H cl a = H a := by unfold strip; rw [if_neg h]
theorem relay_in {y : Str} (h : cl.lookup y = some a) : relay H H' cl a = H a := by unfold relay; rw [if_pos ⟨y, h⟩]
theorem relay_out (h : ¬ ∃ y, cl.lookup y = some a) : relay H H' cl a = H' a := by unfold relay; rw [if_neg h]
theorem CellsT.no (C : CellsT H cl fr vs) (h : H a = some o) (n : NX o) : ¬ ∃ y, cl.lookup y = some a := fun ⟨y, e⟩ => by
  obtain ⟨v, hv⟩ := C.all y a e
  rw [h] at hv
  have hv := Option.some.inj hv
  rw [hv] at n
  exact n
/-- what is no cell stays in sight -/
theorem strip_at (C : CellsT H cl fr vs) (h : H a = some o) (n : NX o := by trivial) : strip H cl a = some o := by rw [strip_out (C.no h n)]; exact h
theorem strip_none (h : H a = none) : strip H cl a = none := by
  by_cases e : ∃ y, cl.lookup y = some a
  · obtain ⟨y, e⟩ := e; exact strip_in e
  · rw [strip_out e]; exact h
theorem relay_at (C : CellsT H cl fr vs) (f : strip H cl a = none → H' a = none) (h : H' a = some o) : relay H H' cl a = some o := by
  by_cases e : ∃ y, cl.lookup y = some a
  · obtain ⟨y, e⟩ := e
    rw [f (strip_in e)] at h; cases h
  · rw [relay_out e]; exact h
theorem relay_strip : relay H (strip H cl) cl = H := funext fun a => by
  by_cases e : ∃ y, cl.lookup y = some a
  · obtain ⟨y, e⟩ := e; exact relay_in e
  · rw [relay_out e, strip_out e]
/-- no cell is a code object -/
def Sep (H : Hp) (cl : List (Str × Addr)) : Prop := ∀ y a, cl.lookup y = some a → ∀ q, H a ≠ some (CodeO a q)
/-- the call leaves the cells untold -/
def Shut (H' : Hp) (cl : List (Str × Addr)) : Prop := ∀ y a, cl.lookup y = some a → H' a = none
/-- how the heap goes on over a call of the function -/
theorem CellsT.goes {S : Addr → Prop} (C : CellsT H cl fr vs) (se : Sep H cl) (sh : Shut H' cl) (f : Fr S (strip H cl) H') : Fr S H (relay H H' cl) where
  keep := fun a o h n s => by
    by_cases e : ∃ y, cl.lookup y = some a
    · obtain ⟨y, e⟩ := e
      rw [relay_in e]; exact h
    · rw [relay_out e]
      exact f.keep a o (by rw [strip_out e]; exact h) n s
  tab := fun P ⟨ps, h1, h2, h3⟩ => by
    have noP : ∀ {Hx : Hp} {qs : Array Value}, Hx P = some (.tbl qs) → (∀ y, cl.lookup y = some P → Hx P = none ∨ ∃ v, Hx P = some (CellO P v)) → ¬ ∃ y, cl.lookup y = some P := fun {Hx qs} e k ⟨y, hy⟩ => by
      rcases k y hy with z | ⟨v, z⟩
      · rw [e] at z; cases z
      · rw [e] at z
        have z := Option.some.inj z
        unfold CellO at z
        cases z
    have n1 := noP h1 fun y hy => .inr (C.all y P hy)
    have t1 : TabN (strip H cl) P nmAll := ⟨ps, by rw [strip_out n1]; exact h1, h2, fun pos cv hc => by
      obtain ⟨c, e1, e2⟩ := h3 pos cv hc
      refine ⟨c, e1, ?_⟩
      rw [strip_out fun ⟨y, hy⟩ => se y c hy _ e2]
      exact e2⟩
    obtain ⟨qs, g1, g2, g3⟩ := f.tab P t1
    have n2 := noP g1 fun y hy => .inl (sh y P hy)
    refine ⟨qs, by rw [relay_out n2]; exact g1, g2, fun pos cv hc => ?_⟩
    obtain ⟨c, e1, e2⟩ := g3 pos cv hc
    refine ⟨c, e1, ?_⟩
    rw [relay_out fun ⟨y, hy⟩ => by rw [sh y c hy] at e2; cases e2]
    exact e2
  back := fun a h => by
    by_cases e : ∃ y, cl.lookup y = some a
    · obtain ⟨y, e⟩ := e
      rw [relay_in e] at h; exact h
    · rw [relay_out e] at h
      have q := f.back a h
      rw [strip_out e] at q
      exact q
theorem CellsT.ex (C : CellsT H cl fr vs) (e : ∀ a o, H a = some o → NT o → H' a = some o) : CellsT H' cl fr vs :=
  ⟨C.len, fun y c h => let ⟨v, z⟩ := C.all y c h; ⟨v, e _ _ z trivial⟩, C.inj, fun i y h => let ⟨c, v, h1, h2, h3⟩ := C.has i y h; ⟨c, v, h1, h2, e _ _ h3 trivial⟩⟩
end
section
variable {P : Program} {w : World} {K : PySem.W.Frag} {mg : Str → Option Value} {base : Heap} {k : Nat} {f : Addr} {F : NF} {ps fr : List Str} {sp : List (Option V) → Sp}
theorem run_T (Fn : NOk P w K mg base CX0 k f F ps fr sp) {A : Around} {outer : List Env} {s : Shared} {H : Hp} {us : List Value} {vs zs : List V} {Q : VK} {E : XK} (hr : Room k A) (e0 : Env0 P w K mg base A outer s H) (hf : H f = some (FnO f F)) (hc : H F.c = some (CodeO F.c F.qual)) (C : CellsT H F.cl fr zs) (r : Vals vs us)
    (h : Sep H F.cl → sp (zs.map some) vs (strip H F.cl) (fun v H' => Shut H' F.cl → Q v (relay H H' F.cl)) E) : codeAny (model P w) A (.call (.ref f) ⟨us, []⟩) (CR CX0 outer P w H s Q E) s := by
  have cellAt : ∀ y a, F.cl.lookup y = some a → ∃ v u, H a = some (CellO a v) ∧ L2.RelV v u ∧ s.heap.IsCell a (some u) := fun y a e => by
    obtain ⟨v, hv⟩ := C.all y a e
    obtain ⟨⟨u, r1, z⟩, _, _⟩ := e0.hok a _ hv
    exact ⟨v, u, hv, r1, z⟩
  have noFn : ¬ ∃ y, F.cl.lookup y = some f := fun ⟨y, e⟩ => by
    obtain ⟨v, u, _, _, o, ho, hd⟩ := cellAt y f e
    obtain ⟨od, sl, doc, pm, ctv, z⟩ := fnO_at e0.hok hf
    rw [z] at ho; cases ho; cases hd
  have sep : Sep H F.cl := fun y a e q z => by
    obtain ⟨v, u, _, _, o, ho, hd⟩ := cellAt y a e
    obtain ⟨c, oc, ws, t, e1, e2, e3, _⟩ := codeO_at e0.hok z
    cases e1
    rw [e2] at ho; cases ho
    rw [hd] at e3; cases e3
  have noC : ¬ ∃ y, F.cl.lookup y = some F.c := fun ⟨y, e⟩ => sep y _ e _ hc
  have outOf : ∀ {b : Addr} {o : HO}, H b = some o → (∀ v, o ≠ CellO b v) → strip H F.cl b = some o := fun {b o} e n => by
    rw [strip_out fun ⟨y, z⟩ => by
      obtain ⟨v, hv⟩ := C.all y b z
      rw [e] at hv
      exact n v (Option.some.inj hv)]
    exact e
  have hok1 : HOk P w (strip H F.cl) s.heap := fun a o q => by
    have na : ¬ ∃ y, F.cl.lookup y = some a := fun ⟨y, z⟩ => by rw [strip_in z] at q; cases q
    rw [strip_out na] at q
    refine (e0.hok a o q).stay (fun _ _ _ z => z) (fun b z => outOf z fun v q => ?_) (fun b xs z => outOf z fun v q => ?_)
    · unfold CellO at q; cases q
    · unfold CellO at q; cases q
  have e1 : Env0 P w K mg base A outer s (strip H F.cl) := ⟨e0.frames, e0.mod, fun b o q => ⟨(e0.bs b o q).1, strip_none (e0.bs b o q).2⟩, e0.bsz, e0.funs, fun b q => strip_none (e0.frf b q), hok1, e0.bare⟩
  have C1 : CellsAt F.cl fr (zs.map some) s.heap (strip H F.cl) := ⟨by rw [List.length_map]; exact C.len, fun y c e => by
      obtain ⟨v, u, _, _, z⟩ := cellAt y c e
      exact ⟨strip_in e, _, z⟩, C.inj, fun i y e => by
      obtain ⟨c, v, h1, h2, h3⟩ := C.has i y e
      refine ⟨c, h1, fun v' hv' => ?_⟩
      rw [List.getElem?_map, h2] at hv'
      cases hv'
      obtain ⟨⟨u, r1, z⟩, _, _⟩ := e0.hok c _ h3
      exact ⟨u, r1, z⟩⟩
  refine codeAny_mono (Fn.run A outer s (strip H F.cl) us vs (zs.map some) _ E hr e1 (by rw [strip_out noFn]; exact hf) (by rw [strip_out noC]; exact hc) C1 r (h sep)) fun rr s' hq => ?_
  cases rr with
  | error e => exact hq
  | ok fl =>
    cases fl with
    | next => exact hq
    | brk => exact hq
    | cont => exact hq
    | ret u =>
      obtain ⟨v, H', os, bare, un, hok, rv, q⟩ := hq
      have shut : Shut H' F.cl := fun y a e => by
        obtain ⟨_, _, _, _, o, ho, _⟩ := cellAt y a e
        exact un.free a o ho (strip_in e) (by simp)
      have key : ∀ {b : Addr} {o o' : HO}, H b = some o → (∀ v, o ≠ CellO b v) → (strip H F.cl b = some o → H' b = some o') → relay H H' F.cl b = some o' := fun {b o o'} e n g => by
        have z := outOf e n
        have z' : ¬ ∃ y, F.cl.lookup y = some b := fun ⟨y, q⟩ => by rw [strip_in q] at z; cases z
        rw [relay_out z']
        exact g z
      have un2 : Un (frs outer) [] H (relay H H' F.cl) s.heap s'.heap := by
        refine ⟨fun b o e n => un.keep b o e (strip_none n), fun b o e n => un.slot b o e (strip_none n), fun b o e n hx => ?_, un.there, fun b xs e => ?_, fun b o u e => ?_, fun b ps e => ?_⟩
        · by_cases z : ∃ y, F.cl.lookup y = some b
          · obtain ⟨y, z⟩ := z
            rw [relay_in z]; exact n
          · rw [relay_out z]; exact un.free b o e (strip_none n) hx
        · exact key e (fun v q => by unfold CellO at q; cases q) (un.tups b xs)
        · exact key e (fun v q => by unfold CellO at q; cases q) (un.frzs b o u)
        · have z := outOf e fun v q => by unfold CellO at q; cases q
          obtain ⟨more, hm⟩ := un.tbls b ps z
          exact ⟨more, key e (fun v q => by unfold CellO at q; cases q) fun _ => hm⟩
      have inR : ∀ {b : Addr} {o : HO}, H' b = some o → relay H H' F.cl b = some o := fun {b o} e => by
        rw [relay_out fun ⟨y, z⟩ => by rw [shut y b z] at e; cases e]
        exact e
      refine ⟨v, relay H H' F.cl, os, bare, un2, fun a o e => ?_, rv, q shut⟩
      by_cases z : ∃ y, F.cl.lookup y = some a
      · obtain ⟨y, z⟩ := z
        rw [relay_in z] at e
        obtain ⟨v1, u1, h1, r1, ob, ho, hd⟩ := cellAt y a z
        rw [h1] at e; cases e
        have nf : a ∉ frs outer := fun q => by rw [e0.frf a q] at h1; cases h1
        exact cellO_ok r1 ⟨ob, un.keep a ob ho (strip_in z) nf (by simp), hd⟩
      · rw [relay_out z] at e
        exact (hok a o e).stay (fun _ _ _ q => q) (fun b q => inR q) fun b xs q => inR q
/-- f(..), f a name that holds a function whose cells are tracked -/
def tCallT (F : NF) (i : Nat) (fr : List Str) (sp : Addr → List (Option V) → Sp) (t : TA) : TE := fun σ H Q => ∃ f zs, σ[i]? = some (some (.ref f)) ∧ H f = some (FnO f F) ∧
  t σ H fun vs H1 => H1 f = some (FnO f F) ∧ H1 F.c = some (CodeO F.c F.qual) ∧ CellsT H1 F.cl fr zs ∧ (Sep H1 F.cl → sp f (zs.map some) vs (strip H1 F.cl) (fun v H' => Shut H' F.cl → Q v (relay H1 H' F.cl)) E0)
theorem pe_callT {X : Cx} {i j : Nat} {x : Str} {p pos : Pos} {e : Expr} {es : List Expr} {t : TA} {sp : Addr → List (Option V) → Sp} (Fn : ∀ f, NOk X.prog X.w X.K X.mg X.base CX0 k f F ps fr (sp f)) (hr : Room j X.A) (hk : k ≤ j) (hN : X.N[i]? = some x) (hv : Vis X.env.scope x) (ha : PA X (e :: es) t)
    (hd : (x == ("__debug__" : Str)) = false := by decide) (hcd : (x == ("__classdict__" : Str)) = false := by decide)
    (he : starEach (e :: es) X.env = (false, eval e X.env) :: starEach es X.env := by rfl) (hpl : (backTo pos (starEach es X.env)).any (·.1) = false := by rfl) :
    PE X (.Call (.Name x p) (e :: es) [] pos) (tCallT F i fr sp t) := by
  refine ⟨fun pins s σ H Q I h => ?_⟩
  obtain ⟨f, zs, hs, hf, ht⟩ := h
  refine wpAny_Call_Name_kw (thn ((pe_var (pos := p) hN hv hd hcd).run pins s σ H (fun v H1 => v = .ref f ∧ H1 = H) I ⟨.ref f, hs, rfl, rfl⟩) fun u s1 ⟨v, H1, I1, r1, q1⟩ => ?_)
  obtain ⟨ev, eH⟩ := q1
  subst ev
  rw [eH] at I1
  obtain rfl : u = Value.ref f := r1
  refine PySem.W.callWith_F (first := []) (fnAt_of I1 hf) (thn (ha.run pos pins s1 σ H _ I1 ht) fun us s2 ⟨vs, H2, I2, r, h1, h2, C, q⟩ => ⟨fnAt_of I2 h1, ?_⟩) he hpl
  show wpAny _ _ (call (.ref f) us) _ _ _
  refine wpAny_call (codeAny_mono (run_T (Fn f) (hr.mono hk) I2.env0 h1 h2 C r q) fun r s' hq => ?_)
  cases r with
  | error e => exact False.elim hq
  | ok fl =>
    cases fl with
    | ret u => exact I2.after hq
    | next => exact False.elim hq
    | brk => exact False.elim hq
    | cont => exact False.elim hq
end
end Nn

/-! A def that makes a function and tells it. -/
namespace Nn
open PySem PySem.Spec PyProof.Rows L2 NdefX LamX
/-- a def whose code object is known -/
structure FunC (K : PySem.W.Frag) (x qual : Str) (st : Stmt) (f : Addr) (fd : FuncData) (c : Addr) : Prop where
  ex : ∃ (oc : Value) (od : Option Addr) (kV doc pm : Value) (an : Option Addr) (ct : Value) (osl : Array (Option Value)),
    fd = PySem.W.fnOf x qual (defArgs st) (defBody st) (defScope st) .none kV doc pm an (.ref c) ct ∧ K.lookup f = some ⟨oc, od, .func fd, osl⟩ ∧ PySem.W.codeIn K (.ref c) qual = true
theorem func_of {K : PySem.W.Frag} {x qual : Str} {st : Stmt} {p : He.Defn} {fd : FuncData} (F : FunD K x qual (defArgs st) (defBody st) (defScope st) [] [] (He.fAd K p) fd) : FunC K x qual st (He.fAd K p) fd (He.codeOf K p) := by
  obtain ⟨oc, od, dV, kV, doc, pm, an, cdv, ct, osl, rfl, lk, hcd, hD, hK⟩ := F.ex
  rcases hD with ⟨_, rfl⟩ | ⟨e, _⟩
  · obtain ⟨c, rfl⟩ := He.codeIn_ref hcd
    rw [He.codeOf_eq lk rfl]
    exact ⟨oc, od, kV, doc, pm, an, ct, osl, rfl, lk, hcd⟩
  · exact absurd rfl e
theorem FunC.okC {P : Program} {w : World} {K : PySem.W.Frag} {mg : Str → Option Value} {base : Heap} {x qual : Str} {st : Stmt} {f c : Addr} {fd : FuncData} {N ps : List Str} {k : Nat} {sp : Sp} (F : FunC K x qual st f fd c) (S : FnScope N ps (defScope st)) (len : ∀ vs H Q E, sp vs H Q E → vs.length = ps.length)
    (hbody : ∀ (A : Around) (outer : List Env) (s : Shared) (H : Hp) (vs : List V) (Q : VK) (E : XK), Room k (A.deeper (envOfC qual (defScope st) s.heap.objs.size f (.ref c))) → sp vs H Q E →
      ∃ t, PSs (cxOf CX0 P w K mg base N qual (defScope st) f (.ref c) A outer s H E).nox (defBody st) t ∧ t { nx := fun _ H' => Q .non H', rt := Q } (start N vs) H) : FnOk P w K mg base CX0 (k + 1) f fd ps sp := by
  obtain ⟨oc, od, kV, doc, pm, an, ct, osl, rfl, lk, hcd⟩ := F.ex
  refine fn_of lk hcd S len fun A outer s H vs Q E hr hsp => ?_
  obtain ⟨t, h, q⟩ := hbody A outer s H vs Q E hr hsp
  exact ⟨t, h.nox, q⟩
/-- the reading of a nested def: all tables are told of -/
def tNdefA (P : Addr) (i : Nat) (mk : Addr → NF) : TS := fun D σ H => TabN H P nmAll ∧ ∀ (f c' : Addr) (H1 : Hp), Ex H H1 → H f = none → H1 f = some (FnO f (mk c')) → H1 c' = some (CodeO c' (mk c').qual) → D.nx (σ.set i (some (.ref f))) H1
open Classical in
theorem ps_ndefA {X : Cx} {st : Stmt} {c P : Addr} {name : Str} {pos : Pos} {i : Nat} (hst : st = .FunctionDef name (C8.fnArgs st) (C8.fnBody st) [] none [] (C8.fnScope st) none name pos) (TB : TabB X.base X.mg c P) (hcode : X.env.code = .ref c) (hn : nmAll pos.line pos.col = X.env.qual ++ name)
    (hfree : ∀ y ∈ (C8.fnScope st).names, y.2 = .free → X.env.scope.names.lookup y.1 = some .cell ∨ X.env.scope.names.lookup y.1 = some .free) (hd0 : (C8.fnArgs st).defaults = []) (hk0 : (C8.fnArgs st).kw_defaults = []) (ha : annTrees (C8.fnArgs st) none X.env = [])
    (hN : X.N.Nodup) (hi : X.N[i]? = some name) (hx : Loc X.env.scope name) (hf : X.fn name = true ∨ X.env.scope.names.lookup name = some .local) :
    PS X st (tNdefA P i (NF.of st name (X.env.qual ++ name) (cloFrom X.env.cells (C8.fnScope st).names []))) := by
  refine ⟨fun pins s σ H D I h => ?_⟩
  obtain ⟨hT, h⟩ := h
  have lt : ∀ P', TabN H P' nmAll → P' < s.heap.objs.size := fun P' ⟨ps, e, _⟩ => I.hok.lt e
  have mem : ∀ P', TabN H P' nmAll → (P', nmAll) ∈ ((List.range s.heap.objs.size).filter fun P' => decide (TabN H P' nmAll)).map fun P' => (P', nmAll) := fun P' t =>
    List.mem_map.mpr ⟨P', List.mem_filter.mpr ⟨List.mem_range.mpr (lt P' t), decide_eq_true t⟩, rfl⟩
  refine (ps_ndefMS (T := ((List.range s.heap.objs.size).filter fun P' => decide (TabN H P' nmAll)).map fun P' => (P', nmAll)) (nm := nmAll) hst TB hcode (mem P hT) hn (fun p hp _ => ?_) hfree hd0 hk0 ha hN hi hx hf).run pins s σ H D I ⟨fun p hp => ?_, fun f c' H1 eN nn T1 f0 f1 c1 => h f c' H1 ⟨fun a o e n _ => eN a o e fun ps z => by rw [z] at n; exact n, fun P' t => T1 _ (mem P' t), nn⟩ f0 f1 c1⟩
  · obtain ⟨_, _, rfl⟩ := List.mem_map.mp hp; rfl
  · obtain ⟨P', hp2, rfl⟩ := List.mem_map.mp hp
    have q := (List.mem_filter.mp hp2).2
    simpa using q
open Classical in
noncomputable def layC (H : Hp) (cl : List (Str × Addr)) (fr : List Str) (zs : List V) : Hp := fun b =>
  if h : ∃ v, ∃ (i : Nat) (y : Str), fr[i]? = some y ∧ cl.lookup y = some b ∧ zs[i]? = some v then some (CellO b h.choose) else H b
theorem slot_set {σ : L2.St} {i j : Nat} {v : Option V} (h : i ≠ j) : NdefX.slotAt (σ.set i v) j = NdefX.slotAt σ j := by
  unfold NdefX.slotAt
  rw [List.getElem?_set_ne h]
theorem FunC.okMk {P : Program} {w : World} {K : PySem.W.Frag} {mg : Str → Option Value} {base : Heap} {x qual nm : Str} {st st1 : Stmt} {p1 p2 pos : Pos} {f c Pt : Addr} {fd : FuncData} {N ps fr : List Str} {js : List Nat} {i k : Nat} {sp : Sp}
    (F : FunC K x qual st f fd c) (S : FnScope N ps (defScope st)) (hb : defBody st = [st1, .Return (some (.Name nm p1)) p2]) (TB : TabB base mg c Pt) (hst : st1 = .FunctionDef nm (C8.fnArgs st1) (C8.fnBody st1) [] none [] (C8.fnScope st1) none nm pos)
    (hn : nmAll pos.line pos.col = (qual ++ ".<locals>.") ++ nm) (hB : ndefB (defScope st) (C8.fnScope st1) fr = true) (hfa : ∀ y ∈ (C8.fnScope st1).names, y.2 = .free → y.1 ∈ fr) (nd : fr.Nodup) (hd0 : (C8.fnArgs st1).defaults = []) (hk0 : (C8.fnArgs st1).kw_defaults = [])
    (ha : ∀ env, annTrees (C8.fnArgs st1) none env = []) (hi : N[i]? = some nm) (hloc : (defScope st).names.lookup nm = some .local) (hjs : js.map (fun j => N[j]?) = fr.map some) (hji : i ∉ js) (len : ∀ vs H Q E, sp vs H Q E → vs.length = ps.length)
    (hsp : ∀ vs H Q E, sp vs H Q E → TabN H Pt nmAll ∧ ∃ zs : List V, js.map (NdefX.slotAt (start N vs)) = zs.map some ∧ ∀ f' cl c' H', Ex H H' → H f' = none →
      H' f' = some (FnO f' (NF.of st1 nm ((qual ++ ".<locals>.") ++ nm) cl c')) → H' c' = some (CodeO c' ((qual ++ ".<locals>.") ++ nm)) → CellsT H' cl fr zs → Q (.ref f') H')
    (hnd : (nm == ("__debug__" : Str)) = false := by decide) (hcd' : (nm == ("__classdict__" : Str)) = false := by decide) : FnOk P w K mg base CX0 (k + 1) f fd ps sp := by
  obtain ⟨oc, od, kV, doc, pm, an, ct, osl, rfl, lk, hcd⟩ := F.ex
  refine ⟨len, fun A outer s H args us vs Q E hr e0 hbi r hs0 => ?_⟩
  have hl := len _ _ _ _ hs0
  have KX : K.In s.heap := e0.mod.kin.keeps fun b o e => (e0.bs b o e).1
  have lim : s.heap.NoLimit := e0.mod.nolimit.keeps fun b o e => (e0.bs b o e).1
  have hkind : ∀ y ∈ ps.zip us, (defScope st).names.lookup y.1 = some .local ∨ ((defScope st).names.lookup y.1 = some .cell ∧ ((cellsFrom (s.heap.objs.size + 1) (defScope st).names []).lookup y.1).isSome = true) := fun ⟨n, v⟩ hy => by
    rcases S.par n (List.of_mem_zip hy).1 with q | q
    · exact .inl q
    · exact .inr ⟨q, PySem.W.cellsFrom_some _ _ _ (.inl q)⟩
  refine codeAny_call_function hr.depth (KX _ _ lk) rfl S.co S.gen rfl (PySem.W.codeRec_of KX hcd) (hbi _ _ _ _ ?_)
  refine wpAny_newFunctionEnv_cells S.kind hkind fun env he s1 x => ?_
  subst he
  refine ⟨lim.keeps x.toInCall.keep, codeAny_func ?_⟩
  have I : Inv (cxOf CX0 P w K mg base N qual (defScope st) f (.ref c) A outer s H E) [] (start N vs) H s1 := inv_start S hr.hd e0 hl r x
  obtain ⟨hT3, zs, hz, hend⟩ := hsp vs H Q E hs0
  have h1 := ps_ndefA (X := cxOf CX0 P w K mg base N qual (defScope st) f (.ref c) A outer s H E) (i := i) hst TB rfl hn (ndef_free hB) hd0 hk0 (ha _) S.nd hi (.inl hloc) (.inl rfl)
  rw [hb]
  refine wpAny_execs_cons (wpAny_mono (h1.run [] s1 (start N vs) H { nx := fun σ' H1 => ∃ f' c', σ' = (start N vs).set i (some (.ref f')) ∧ Ex H H1 ∧ H f' = none ∧ H1 f' = some (FnO f' (NF.of st1 nm ((qual ++ ".<locals>.") ++ nm) (cloFrom (cellsFrom (s.heap.objs.size + 1) (defScope st).names []) (C8.fnScope st1).names []) c')) ∧ H1 c' = some (CodeO c' ((qual ++ ".<locals>.") ++ nm)), rt := fun _ _ => False } I
    ⟨hT3, fun f' c' H1 eN f0 f1 c1 => ⟨f', c', rfl, eN, f0, f1, c1⟩⟩) (fun fl s2 hs => ?_) fun e s' hs => hs)
  cases fl with
  | ret u => obtain ⟨_, _, _, _, _, q⟩ := hs; exact q.elim
  | brk => obtain ⟨_, _, _, q⟩ := hs; exact q.elim
  | cont => obtain ⟨_, _, _, q⟩ := hs; exact q.elim
  | next =>
    obtain ⟨σ', H1, J, f', c', rfl, eN, f0, f1, c1⟩ := hs
    have hlen : i < (start N vs).length := by
      have q := I.len
      rw [q]
      exact (List.getElem?_eq_some_iff.mp hi).1
    refine wpAny_execs_cons (wpAny_Return_some (thn ((pe_var (X := cxOf CX0 P w K mg base N qual (defScope st) f (.ref c) A outer s H E) (pos := p1) hi (.inl hloc) hnd hcd').run [] s2 _ H1 (fun v H2 => v = .ref f' ∧ H2 = H1) J ⟨.ref f', List.getElem?_set_self hlen, rfl, rfl⟩) fun u s3 ⟨v, H2, J2, rv, ev, eH⟩ => ?_))
    subst ev
    rw [eH] at J2
    have cp : Caps (cxOf CX0 P w K mg base N qual (defScope st) f (.ref c) A outer s H E) (cloFrom (cellsFrom (s.heap.objs.size + 1) (defScope st).names []) (C8.fnScope st1).names []) fr js := Caps.made J2.ok (ndef_free hB) (ndef_fr hB) hjs
    have C := cells_of J2 cp
    have eσ : js.map (NdefX.slotAt ((start N vs).set i (some (.ref f')))) = zs.map some := by
      rw [← hz]
      exact List.map_congr_left fun j hj => slot_set fun e => hji (e ▸ hj)
    rw [eσ] at C
    generalize hcl : cloFrom (cellsFrom (s.heap.objs.size + 1) (defScope st).names []) (C8.fnScope st1).names [] = cl at f1 C cp
    have new : ∀ y b, cl.lookup y = some b → s.heap.objs.size ≤ b := fun y b e => J2.ok.cab y b rfl (cp.sub y b e)
    have hH1 : ∀ y b, cl.lookup y = some b → H1 b = none := fun y b e => (C.all y b e).1
    have spec : ∀ {b : Addr} {v : V}, (∃ (i : Nat) (y : Str), fr[i]? = some y ∧ cl.lookup y = some b ∧ zs[i]? = some v) → ∃ u, L2.RelV v u ∧ s3.heap.IsCell b (some u) := fun {b v} ⟨j, y, h1, h2, h3⟩ => by
      obtain ⟨a, ha, hv⟩ := C.has j y h1
      rw [h2] at ha; cases ha
      exact hv v (by rw [List.getElem?_map, h3]; rfl)
    have outL : ∀ {b : Addr}, (¬ ∃ y, cl.lookup y = some b) → layC H1 cl fr zs b = H1 b := fun {b} n => by
      unfold layC
      rw [dif_neg]
      rintro ⟨v, j, y, _, h2, _⟩
      exact n ⟨y, h2⟩
    have atL : ∀ {b : Addr} {o : HO}, H1 b = some o → layC H1 cl fr zs b = some o := fun {b o} e => by
      rw [outL fun ⟨y, z⟩ => by rw [hH1 y b z] at e; cases e]
      exact e
    have inL : ∀ {b : Addr} {v : V} {j : Nat} {y : Str}, fr[j]? = some y → cl.lookup y = some b → zs[j]? = some v → layC H1 cl fr zs b = some (CellO b v) := fun {b v j y} h1 h2 h3 => by
      have hx : ∃ v, ∃ (i : Nat) (y : Str), fr[i]? = some y ∧ cl.lookup y = some b ∧ zs[i]? = some v := ⟨v, j, y, h1, h2, h3⟩
      unfold layC
      rw [dif_pos hx]
      obtain ⟨j2, y2, g1, g2, g3⟩ := hx.choose_spec
      have ey : y2 = y := C.inj y2 y b g2 h2
      rw [ey] at g1
      have hjl : j < fr.length := (List.getElem?_eq_some_iff.mp h1).1
      have ej : j = j2 := (List.getElem?_inj hjl nd).mp (h1.trans g1.symm)
      rw [← ej, h3] at g3
      rw [Option.some.inj g3]
    have hfull : ∀ y b, cl.lookup y = some b → ∃ (j : Nat) (v : V), fr[j]? = some y ∧ zs[j]? = some v := fun y b e => by
      have hmem : y ∈ fr := by
        rw [← hcl] at e
        rcases cloFrom_mem (PySem.mem_of_lookup e) with hm | ⟨h1, _⟩
        · cases hm
        · exact hfa _ h1 rfl
      obtain ⟨j, hj⟩ := List.getElem?_of_mem hmem
      have hjz : j < zs.length := by
        have q := C.len
        rw [List.length_map] at q
        rw [q]
        exact (List.getElem?_eq_some_iff.mp hj).1
      exact ⟨j, zs[j], hj, List.getElem?_eq_getElem hjz⟩
    have cT : CellsT (layC H1 cl fr zs) cl fr zs := ⟨by have q := C.len; rw [List.length_map] at q; exact q, fun y b e => by
        obtain ⟨j, v, h1, h3⟩ := hfull y b e
        exact ⟨v, inL h1 e h3⟩, C.inj, fun j y h1 => by
        obtain ⟨b, hb, _⟩ := C.has j y h1
        obtain ⟨j2, v, g1, g3⟩ := hfull y b hb
        have hjl : j < fr.length := (List.getElem?_eq_some_iff.mp h1).1
        have ej : j = j2 := (List.getElem?_inj hjl nd).mp (h1.trans g1.symm)
        rw [← ej] at g3
        exact ⟨b, v, hb, g3, inL h1 hb g3⟩⟩
    have un : Un (frs outer) [] H H1 s.heap s3.heap := J2.base
    have un2 : Un (frs outer) [] H (layC H1 cl fr zs) s.heap s3.heap := ⟨un.keep, un.slot, fun b o e n hx => by
        rw [outL fun ⟨y, z⟩ => absurd (Heap.lt_size e) (Nat.not_lt_of_le (new y b z))]
        exact un.free b o e n hx, un.there, fun b xs e => atL (un.tups b xs e), fun b o u e => atL (un.frzs b o u e), fun b ps e => by
        obtain ⟨more, hm⟩ := un.tbls b ps e
        exact ⟨more, atL hm⟩⟩
    refine (show CE outer P w H s Q u s3 from ⟨.ref f', layC H1 cl fr zs, J2.os, J2.bare, un2, fun a o e => ?_, rv, hend f' cl c' _ ⟨fun b o e n s => atL (eN.keep b o e n s), fun P' t => (eN.tab P' t).ext fun b o e => atL e, fun b e => ?_⟩ f0 (atL f1) (atL c1) cT⟩)
    · by_cases z : ∃ y, cl.lookup y = some a
      · obtain ⟨y, z⟩ := z
        obtain ⟨j, v, h1, h3⟩ := hfull y a z
        rw [inL h1 z h3] at e
        cases e
        obtain ⟨u1, r1, hc⟩ := spec ⟨j, y, h1, z, h3⟩
        exact cellO_ok r1 hc
      · rw [outL z] at e
        exact (J2.hok a o e).stay (fun _ _ _ q => q) (fun b q => atL q) fun b xs q => atL q
    · by_cases z : ∃ y, cl.lookup y = some b
      · obtain ⟨y, z⟩ := z
        obtain ⟨j, v, h1, h3⟩ := hfull y b z
        rw [inL h1 z h3] at e
        cases e
      · rw [outL z] at e
        exact eN.back b e
end Nn

namespace Nn
open PySem L2
structure Tx (K : PySem.W.Frag) (mg : Str → Option Value) (base : Heap) where
  a_Bucket_init : Addr
  d_Bucket_init : FuncData
  F_Bucket_init : FunD K "__init__" "Bucket.__init__" (defArgs s_Bucket_init) (defBody s_Bucket_init) (defScope s_Bucket_init) [] [] a_Bucket_init d_Bucket_init
  b_Bucket_init : Binds K d_Bucket_init ["self", "room"] []
  a_Bucket_names : Addr
  d_Bucket_names : FuncData
  F_Bucket_names : FunD K "names" "Bucket.names" (defArgs s_Bucket_names) (defBody s_Bucket_names) (defScope s_Bucket_names) [] [] a_Bucket_names d_Bucket_names
  b_Bucket_names : Binds K d_Bucket_names ["self"] []
  a_Bucket_hears : Addr
  d_Bucket_hears : FuncData
  F_Bucket_hears : FunD K "hears" "Bucket.hears" (defArgs s_Bucket_hears) (defBody s_Bucket_hears) (defScope s_Bucket_hears) [] [] a_Bucket_hears d_Bucket_hears
  b_Bucket_hears : Binds K d_Bucket_hears ["self", "name", "answers"] []
  a_Bucket_drops : Addr
  d_Bucket_drops : FuncData
  F_Bucket_drops : FunD K "drops" "Bucket.drops" (defArgs s_Bucket_drops) (defBody s_Bucket_drops) (defScope s_Bucket_drops) [] [] a_Bucket_drops d_Bucket_drops
  b_Bucket_drops : Binds K d_Bucket_drops ["self", "name"] []
  a_far : Addr
  d_far : FuncData
  F_far : FunD K "far" "far" (defArgs s_far) (defBody s_far) (defScope s_far) [] [] a_far d_far
  b_far : Binds K d_far ["one", "other"] []
  m_far : mg "far" = some (.ref a_far)
  a_step : Addr
  d_step : FuncData
  F_step : FunD K "step" "step" (defArgs s_step) (defBody s_step) (defScope s_step) [] [] a_step d_step
  b_step : Binds K d_step ["one", "other"] []
  m_step : mg "step" = some (.ref a_step)
  a_Table_init : Addr
  d_Table_init : FuncData
  F_Table_init : FunD K "__init__" "Table.__init__" (defArgs s_Table_init) (defBody s_Table_init) (defScope s_Table_init) [] [] a_Table_init d_Table_init
  b_Table_init : Binds K d_Table_init ["self", "own", "wide", "room"] []
  a_Table_bucket_for : Addr
  d_Table_bucket_for : FuncData
  F_Table_bucket_for : FunD K "bucket_for" "Table.bucket_for" (defArgs s_Table_bucket_for) (defBody s_Table_bucket_for) (defScope s_Table_bucket_for) [] [] a_Table_bucket_for d_Table_bucket_for
  b_Table_bucket_for : Binds K d_Table_bucket_for ["self", "name"] []
  a_Table_hears : Addr
  d_Table_hears : FuncData
  F_Table_hears : FunD K "hears" "Table.hears" (defArgs s_Table_hears) (defBody s_Table_hears) (defScope s_Table_hears) [] [] a_Table_hears d_Table_hears
  b_Table_hears : Binds K d_Table_hears ["self", "name", "answers"] []
  a_Table_drops : Addr
  d_Table_drops : FuncData
  F_Table_drops : FunD K "drops" "Table.drops" (defArgs s_Table_drops) (defBody s_Table_drops) (defScope s_Table_drops) [] [] a_Table_drops d_Table_drops
  b_Table_drops : Binds K d_Table_drops ["self", "name"] []
  a_Table_bucket : Addr
  d_Table_bucket : FuncData
  F_Table_bucket : FunD K "bucket" "Table.bucket" (defArgs s_Table_bucket) (defBody s_Table_bucket) (defScope s_Table_bucket) [] [] a_Table_bucket d_Table_bucket
  b_Table_bucket : Binds K d_Table_bucket ["self", "k"] []
  a_Table_keeps : Addr
  d_Table_keeps : FuncData
  F_Table_keeps : FunD K "keeps" "Table.keeps" (defArgs s_Table_keeps) (defBody s_Table_keeps) (defScope s_Table_keeps) [] [] a_Table_keeps d_Table_keeps
  b_Table_keeps : Binds K d_Table_keeps ["self"] []
  a_Table_nearest : Addr
  d_Table_nearest : FuncData
  F_Table_nearest : FunD K "nearest" "Table.nearest" (defArgs s_Table_nearest) (defBody s_Table_nearest) (defScope s_Table_nearest) [.non] [] a_Table_nearest d_Table_nearest
  d_Table_nearest_1 : List Value
  v_Table_nearest_1 : Vals [.non] d_Table_nearest_1
  b_Table_nearest_1 : Binds K d_Table_nearest ["self", "goal", "many", "but"] d_Table_nearest_1
  b_Table_nearest : Binds K d_Table_nearest ["self", "goal", "many", "but"] []
  a_l_cell_at : Addr
  d_l_cell_at : FuncData
  F_l_cell_at : FunD K "_law_cell_at" "_law_cell_at" (defArgs s_l_cell_at) (defBody s_l_cell_at) (defScope s_l_cell_at) [] [] a_l_cell_at d_l_cell_at
  b_l_cell_at : Binds K d_l_cell_at ["_law_script", "_law_k"] []
  m_l_cell_at : mg "_law_cell_at" = some (.ref a_l_cell_at)
  a_l_wide : Addr
  d_l_wide : FuncData
  F_l_wide : FunD K "_law_wide" "_law_wide" (defArgs s_l_wide) (defBody s_l_wide) (defScope s_l_wide) [] [] a_l_wide d_l_wide
  b_l_wide : Binds K d_l_wide ["_law_cell"] []
  m_l_wide : mg "_law_wide" = some (.ref a_l_wide)
  a_l_mixed : Addr
  d_l_mixed : FuncData
  F_l_mixed : FunD K "_law_mixed" "_law_mixed" (defArgs s_l_mixed) (defBody s_l_mixed) (defScope s_l_mixed) [] [] a_l_mixed d_l_mixed
  b_l_mixed : Binds K d_l_mixed ["_law_cell", "_law_k"] []
  m_l_mixed : mg "_law_mixed" = some (.ref a_l_mixed)
  a_l_names : Addr
  d_l_names : FuncData
  F_l_names : FunD K "_law_names" "_law_names" (defArgs s_l_names) (defBody s_l_names) (defScope s_l_names) [] [] a_l_names d_l_names
  b_l_names : Binds K d_l_names ["_law_cell", "_law_wide_here", "_law_many"] []
  m_l_names : mg "_law_names" = some (.ref a_l_names)
  a_l_step : Addr
  d_l_step : FuncData
  F_l_step : FunD K "_law_step" "_law_step" (defArgs s_l_step) (defBody s_l_step) (defScope s_l_step) [] [] a_l_step d_l_step
  b_l_step : Binds K d_l_step ["_law_one", "_law_other", "_law_wide_here"] []
  m_l_step : mg "_law_step" = some (.ref a_l_step)
  a_l_heard : Addr
  d_l_heard : FuncData
  F_l_heard : FunD K "_law_heard" "_law_heard" (defArgs s_l_heard) (defBody s_l_heard) (defScope s_l_heard) [] [] a_l_heard d_l_heard
  b_l_heard : Binds K d_l_heard ["_law_line", "_law_room", "_law_name", "_law_silent"] []
  m_l_heard : mg "_law_heard" = some (.ref a_l_heard)
  a_l_others : Addr
  d_l_others : FuncData
  F_l_others : FunD K "_law_others" "_law_others" (defArgs s_l_others) (defBody s_l_others) (defScope s_l_others) [] [] a_l_others d_l_others
  b_l_others : Binds K d_l_others ["_law_calls", "_law_silent"] []
  m_l_others : mg "_law_others" = some (.ref a_l_others)
  a_l_looked : Addr
  d_l_looked : FuncData
  F_l_looked : FunD K "_law_looked" "_law_looked" (defArgs s_l_looked) (defBody s_l_looked) (defScope s_l_looked) [] [] a_l_looked d_l_looked
  b_l_looked : Binds K d_l_looked ["_law_table", "_law_lines", "_law_wide_here"] []
  m_l_looked : mg "_law_looked" = some (.ref a_l_looked)
  a_law : Addr
  d_law : FuncData
  F_law : FunD K "law" "law" (defArgs s_law) (defBody s_law) (defScope s_law) [] [] a_law d_law
  b_law : Binds K d_law ["_law_script"] []
  m_law : mg "law" = some (.ref a_law)
  C_Bucket : Addr
  c_Bucket : Cls K C_Bucket
  m_Bucket : mg "Bucket" = some (.ref C_Bucket)
  M_Bucket : Mk K C_Bucket a_Bucket_init
  n_Bucket_room : NoAttr K C_Bucket "room"
  n_Bucket_line : NoAttr K C_Bucket "line"
  t_Bucket_names : Meth K C_Bucket "names" a_Bucket_names
  t_Bucket_hears : Meth K C_Bucket "hears" a_Bucket_hears
  t_Bucket_drops : Meth K C_Bucket "drops" a_Bucket_drops
  C_Table : Addr
  c_Table : Cls K C_Table
  m_Table : mg "Table" = some (.ref C_Table)
  M_Table : Mk K C_Table a_Table_init
  n_Table_own : NoAttr K C_Table "own"
  n_Table_wide : NoAttr K C_Table "wide"
  n_Table_room : NoAttr K C_Table "room"
  n_Table_buckets : NoAttr K C_Table "buckets"
  t_Table_bucket_for : Meth K C_Table "bucket_for" a_Table_bucket_for
  t_Table_hears : Meth K C_Table "hears" a_Table_hears
  t_Table_drops : Meth K C_Table "drops" a_Table_drops
  t_Table_bucket : Meth K C_Table "bucket" a_Table_bucket
  t_Table_keeps : Meth K C_Table "keeps" a_Table_keeps
  t_Table_nearest : Meth K C_Table "nearest" a_Table_nearest
  z_abs : mg "abs" = none
  z_bool : mg "bool" = none
  z_isinstance : mg "isinstance" = none
  z_len : mg "len" = none
  z_list : mg "list" = none
  z_min : mg "min" = none
  z_range : mg "range" = none
  z_sorted : mg "sorted" = none
  k_l_others : Addr
  P_l_others : Addr
  tb_l_others : LamX.TabB base mg k_l_others P_l_others
  FC_l_others : FunC K "_law_others" "_law_others" s_l_others a_l_others d_l_others k_l_others
  z0_l_others : ∀ H : Hp, Tabs0 K H → H P_l_others = some (.tbl #[])
def tabsL {K : PySem.W.Frag} {mg : Str → Option Value} {base : Heap} (T : Tx K mg base) : List NdefX.NTab := [(T.P_l_others, nmAll)]
theorem tabm_l_others {K : PySem.W.Frag} {mg : Str → Option Value} {base : Heap} {T : Tx K mg base} : (T.P_l_others, nmAll) ∈ tabsL T := by simp [tabsL]
theorem tabnm {K : PySem.W.Frag} {mg : Str → Option Value} {base : Heap} {T : Tx K mg base} : ∀ p ∈ tabsL T, p.2 = nmAll := by simp [tabsL]
theorem Fr.tabs {K : PySem.W.Frag} {mg : Str → Option Value} {base : Heap} {T : Tx K mg base} {S : Addr → Prop} {H H' : Hp} (f : Fr S H H') (t : NdefX.TabsN (tabsL T) H) : NdefX.TabsN (tabsL T) H' := fun p hp => by
  have e := tabnm p hp
  have q := t p hp
  rw [e] at q ⊢
  exact f.tab p.1 q
theorem tabs0 {K : PySem.W.Frag} {mg : Str → Option Value} {base : Heap} {T : Tx K mg base} {H : Hp} (h : Tabs0 K H) : NdefX.TabsN (tabsL T) H := by
  unfold NdefX.TabsN tabsL
  simp only [List.mem_cons, List.not_mem_nil, or_false, forall_eq_or_imp, forall_eq, false_imp_iff, implies_true]
  exact NdefX.TabN.nil (T.z0_l_others H h)
end Nn
local macro_rules | `(tactic| walk_at "wz") => `(tactic| dsimp only [↓Nn.e_next, ↓Nn.e_asg, ↓Nn.e_name, ↓Nn.e_ret, ↓Nn.e_retN, ↓Nn.e_drop, ↓Nn.e_ifS, ↓Nn.e_IT, ↓Nn.e_IF, ↓Nn.e_INT, ↓Nn.e_INF, ↓Nn.e_if, ↓Nn.e_varS, ↓Nn.e_c, ↓Nn.e_op, ↓Nn.e_un, ↓Nn.e_cb, ↓Nn.e_nil, ↓Nn.e_cons, ↓Nn.e_test, ↓Nn.e_B, ↓Nn.e_and, ↓Nn.e_or, ↓Nn.e_not, ↓Nn.e_andV, ↓Nn.e_orV, ↓Nn.e_notV, ↓Nn.e_chain, ↓Nn.e_for, ↓Nn.e_fld, ↓Nn.e_sfld, ↓Nn.e_meth, ↓Nn.e_make, ↓Nn.e_sl, ↓Nn.e_nopart, ↓Nn.e_part, ↓Nn.e_dget, ↓Nn.e_din, ↓Nn.e_dnin, ↓Nn.e_dput, ↓Nn.e_dnew, ↓Nn.e_bits, ↓Nn.e_lenSet, ↓Nn.e_lc, ↓Nn.e_wipe0, ↓Nn.e_wipe1, ↓Nn.e_yes, ↓Nn.e_rng1, ↓Nn.e_rng2, ↓Nn.e_rng3, ↓Nn.e_iList, ↓Nn.e_iTup, ↓Nn.e_iEnum, ↓Nn.e_iZip, ↓Nn.e_bm, ↓Nn.e_bm0, ↓Nn.e_tup, ↓Nn.e_lst, ↓Nn.e_calld, ↓Nn.e_T, ↓Nn.e_F, ↓Nn.e_NT, ↓Nn.e_NF, ↓List.set_cons_zero, ↓List.set_cons_succ, ↓List.cons_append, ↓List.nil_append])
local macro_rules | `(tactic| walk_at "wx") => `(tactic| repeat (walk_at "wx1"))
local macro_rules | `(tactic| walk_at "wx1") => `(tactic| (first
  | with_reducible refine Nn.x_v0 ?_
  | with_reducible refine Nn.x_seq ?_
  | walk_at "wz"
  | with_reducible refine Nn.x_bl ?_
  | with_reducible refine Nn.x_i0 ?_
  | ((with_reducible refine Nn.x_i ?_ ?_); (focus (walk_at "wside")))
  | with_reducible refine Nn.x_eqI ?_
  | with_reducible refine Nn.x_neI ?_
  | with_reducible refine Nn.x_INs ?_
  | with_reducible refine Nn.x_IEs ?_
  | with_reducible refine Nn.x_NEs ?_
  | with_reducible refine Nn.x_Es ?_
  | with_reducible refine Nn.x_whT ?_
  | with_reducible refine Nn.x_whF ?_
  | walk_at "wx2"))
local macro_rules | `(tactic| walk_at "wx2") => `(tactic| (first
  | ((with_reducible refine' Nn.x_ixL ?hS ?hA ?_); (case hS => walk_at "wsq"); (case hA => walk_at "wat"))
  | ((with_reducible refine' Nn.x_ixT ?hS ?hA ?_); (case hS => walk_at "wsqt"); (case hA => walk_at "wat"))
  | ((with_reducible refine' Nn.x_lenL ?hS ?_); (case hS => walk_at "wsq"))
  | ((with_reducible refine' Nn.x_lenT ?hS ?_); (case hS => walk_at "wsqt"))
  | ((with_reducible refine' Nn.x_tyL ?hS ?_); (case hS => walk_at "wsq"))
  | ((with_reducible refine' Nn.x_append ?hS ?hA ?_); (case hS => walk_at "wob"); (case hA => walk_at "wlen"))
  | ((with_reducible refine' Nn.x_gTup ?hS ?hA ?_); (case hS => walk_at "wsqt"); (case hA => rfl))
  | with_reducible refine Nn.x_gCons ?_
  | with_reducible refine Nn.x_gNil ?_
  | ((with_reducible refine' Nn.x_shl1 ?hS ?hA ?_); (case hS => walk_at "wnat"); (case hA => omega))
  | ((with_reducible refine Nn.x_rgN ?_ ?_); (focus (walk_at "wside")))
  | ((with_reducible refine Nn.x_rgDown ?_ ?_); (focus (walk_at "wside")))
  | ((with_reducible refine' Nn.x_itL ?hS ?_); (case hS => walk_at "wsq"))
  | ((with_reducible refine' Nn.x_itT ?hS ?_); (case hS => walk_at "wsqt"))
  | ((with_reducible refine' Nn.x_enL ?hS ?_); (case hS => walk_at "wsq"))
  | ((with_reducible refine' Nn.x_ziL ?hS ?hA ?_); (case hS => walk_at "wsq"); (case hA => walk_at "wsq"))
  | ((with_reducible refine' Nn.x_lenD ?hS ?_); (case hS => walk_at "wob"))
  | ((with_reducible refine' Nn.x_shrN ?hS ?hA ?_); (case hS => walk_at "wnat"); (case hA => walk_at "wnat"))
  | ((with_reducible refine' Nn.x_xorN ?hS ?hA ?_); (case hS => walk_at "wnat"); (case hA => walk_at "wnat"))
  | ((with_reducible refine' Nn.x_shlN ?hS ?hA ?hB ?hC ?_); (case hS => walk_at "wnat"); (case hA => walk_at "wnat"); (case hB => walk_at "wpre"); (case hC => walk_at "wpre"))
  | with_reducible refine Nn.x_bits ?_
  | ((with_reducible refine' Nn.x_eqLN ?hS ?hA ?_); (case hS => walk_at "wsq"); (case hA => walk_at "wsq"))
  | ((with_reducible refine' Nn.x_neLN ?hS ?hA ?_); (case hS => walk_at "wsq"); (case hA => walk_at "wsq"))
  | ((with_reducible refine' Nn.x_dget ?hS ?hA ?_); (case hS => walk_at "wob"); (case hA => walk_at "wat"))
  | ((with_reducible refine' Nn.x_din ?hS ?_); (case hS => walk_at "wob"))
  | ((with_reducible refine' Nn.x_dnin ?hS ?_); (case hS => walk_at "wob"))
  | ((with_reducible refine' Nn.x_dput ?hS ?hA ?_); (case hS => walk_at "wob"); (case hA => walk_at "wlen"))
  | ((with_reducible refine' Nn.x_fld ?hS ?hA ?hB ?hC ?_); (case hS => walk_at "wob"); (case hA => assumption); (case hB => assumption); (case hC => walk_at "wlk"))
  | ((with_reducible refine' Nn.x_sfld ?hS ?hA ?hB ?hE ?hC ?_); (case hS => walk_at "wob"); (case hA => assumption); (case hB => assumption); (case hE => walk_at "wput"); (case hC => rfl))
  | ((with_reducible refine' Nn.x_meth ?hS ?hA ?_); (case hS => walk_at "wob"); (case hA => walk_at "wnolk"))
  | ((with_reducible refine' Nn.x_inN ?hS ?hA ?_); (case hS => walk_at "wnat"); (case hA => walk_at "wsq"))
  | ((with_reducible refine' Nn.x_ninN ?hS ?hA ?_); (case hS => walk_at "wnat"); (case hA => walk_at "wsq"))
  | with_reducible refine Nn.x_truB ?_
  | with_reducible refine Nn.x_isNN ?_
  | with_reducible refine Nn.x_isNI ?_
  | with_reducible refine Nn.x_isNB ?_
  | with_reducible refine Nn.x_isNS ?_
  | with_reducible refine Nn.x_isNR ?_
  | with_reducible refine Nn.x_notNN ?_
  | with_reducible refine Nn.x_notNI ?_
  | with_reducible refine Nn.x_notNB ?_
  | with_reducible refine Nn.x_notNS ?_
  | with_reducible refine Nn.x_notNR ?_
  | with_reducible refine Nn.x_part ?_
  | with_reducible refine Nn.x_u ?_
  | with_reducible refine Nn.x_min2 ?_
  | with_reducible refine Nn.x_max2 ?_
  | with_reducible refine Nn.x_abs ?_
  | with_reducible refine Nn.x_eqB ?_
  | with_reducible refine Nn.x_neB ?_
  | with_reducible refine Nn.x_eqS ?_
  | with_reducible refine Nn.x_neS ?_
  | with_reducible refine Nn.x_intI ?_
  | with_reducible refine Nn.x_intB ?_
  | walk_at "wisi"
  | walk_at "wc"))
local macro_rules | `(tactic| walk_at "wside") => `(tactic| (first
  | with_reducible assumption
  | with_reducible exact Nn.two_pos
  | omega
  | (show (0 : Int) < _; first | omega | decide +kernel)
  | exact Or.inr ⟨by omega, by omega⟩
  | exact Or.inl ⟨by omega, by omega⟩
  | exact ⟨by omega, by decide +kernel⟩
  | exact ⟨by omega, by omega, by omega⟩
  | (show (0 : Int) ≤ _; first | omega | decide +kernel | exact Int.mul_nonneg (by omega) (by omega))))
local macro_rules | `(tactic| walk_at "wob") => `(tactic| (first
  | assumption
  | exact L2.upd_same
  | ((with_reducible refine' Nn.at_new ?hNone ?hKept); (case hNone => assumption); (case hKept => walk_at "wob"))
  | ((with_reducible refine' Nn.at_upd ?hSome ?hAt ?hDif); (case hSome => assumption); (case hAt => walk_at "wob"); (case hDif => (intro z; cases z)))
  | exact Nn.Ex.at (by assumption) (by assumption)))
local macro_rules | `(tactic| walk_at "wlen") => `(tactic| (rw [PySem.sizeLine_eq]; simp only [List.length_map, List.length_append, List.length_cons, List.length_nil]; omega))
local macro_rules | `(tactic| walk_at "wsqt") => `(tactic| (first
  | assumption
  | ((refine' L2.SqT.of ?hOb); (case hOb => walk_at "wob"))
  | exact Nn.Ex.tu (by assumption) (by assumption)
  | exact L2.SqT.of L2.upd_same))
local macro_rules | `(tactic| walk_at "wnat") => `(tactic| with_unfolding_all rfl)
local macro_rules | `(tactic| walk_at "wsq") => `(tactic| (first
  | assumption
  | ((refine' L2.SqL.of ?hOb); (case hOb => walk_at "wob"))
  | exact Nn.Ex.ls (by assumption) (by assumption)
  | exact Nn.Ex.ls (Nn.Ex.new (by assumption)) (by assumption)
  | exact L2.SqL.of L2.upd_same))
local macro_rules | `(tactic| walk_at "wat") => `(tactic| (first
  | assumption
  | exact Nn.atI_hd
  | with_unfolding_all rfl))
local macro_rules | `(tactic| walk_at "wisi") => `(tactic| ((with_reducible refine Nn.x_isG ?_); (first
  | with_reducible refine Nn.x_isI_int ?_
  | with_reducible refine Nn.x_isI_bool ?_
  | with_reducible refine Nn.x_isI_str ?_
  | with_reducible refine Nn.x_isB_int ?_
  | with_reducible refine Nn.x_isB_bool ?_
  | with_reducible refine Nn.x_isB_str ?_
  | with_reducible refine Nn.x_isS_int ?_
  | with_reducible refine Nn.x_isS_bool ?_
  | with_reducible refine Nn.x_isS_str ?_
  | with_reducible refine Nn.x_isN_int ?_
  | with_reducible refine Nn.x_isN_bool ?_
  | with_reducible refine Nn.x_isN_str ?_
  | ((with_reducible refine' Nn.x_isL_int ?hS ?_); (case hS => walk_at "wob"))
  | ((with_reducible refine' Nn.x_isL_list ?hS ?_); (case hS => walk_at "wob"))
  | ((with_reducible refine' Nn.x_isL_tuple ?hS ?_); (case hS => walk_at "wob"))
  | ((with_reducible refine' Nn.x_isT_int ?hS ?_); (case hS => walk_at "wob"))
  | ((with_reducible refine' Nn.x_isT_list ?hS ?_); (case hS => walk_at "wob"))
  | ((with_reducible refine' Nn.x_isT_tuple ?hS ?_); (case hS => walk_at "wob"))
  | ((with_reducible refine' Nn.x_isD_int ?hS ?_); (case hS => walk_at "wob"))
  | ((with_reducible refine' Nn.x_isD_list ?hS ?_); (case hS => walk_at "wob"))
  | ((with_reducible refine' Nn.x_isD_tuple ?hS ?_); (case hS => walk_at "wob")))))
local macro_rules | `(tactic| walk_at "wpre") => `(tactic| (first
  | with_reducible assumption
  | omega
  | refine ⟨?_, ?_⟩ <;> walk_at "wpre"))
local macro_rules | `(tactic| walk_at "wlk") => `(tactic| (first | exact Nn.lk_Bucket_room | exact Nn.lk_Bucket_line | exact Nn.lk_Table_own | exact Nn.lk_Table_wide | exact Nn.lk_Table_room | exact Nn.lk_Table_buckets))
local macro_rules | `(tactic| walk_at "wnolk") => `(tactic| (first | exact Nn.no_Bucket_names | exact Nn.no_Bucket_hears | exact Nn.no_Bucket_drops | exact Nn.no_Table_bucket_for | exact Nn.no_Table_hears | exact Nn.no_Table_drops | exact Nn.no_Table_bucket | exact Nn.no_Table_keeps | exact Nn.no_Table_nearest))
local macro_rules | `(tactic| walk_at "wput") => `(tactic| (first | exact Nn.ini_Bucket_room | exact Nn.put_Bucket_room | exact Nn.ini_Bucket_line | exact Nn.put_Bucket_line | exact Nn.ini_Table_own | exact Nn.put_Table_own | exact Nn.ini_Table_wide | exact Nn.put_Table_wide | exact Nn.ini_Table_room | exact Nn.put_Table_room | exact Nn.ini_Table_buckets | exact Nn.put_Table_buckets))

namespace Nn
open PySem L2
/-! the bits -/
theorem xor_div_pow (a b k : Nat) : (a ^^^ b) / 2 ^ k = (a / 2 ^ k) ^^^ (b / 2 ^ k) := by
  rw [← Nat.shiftRight_eq_div_pow, ← Nat.shiftRight_eq_div_pow, ← Nat.shiftRight_eq_div_pow, Nat.shiftRight_xor_distrib]
theorem xor_mod_two (a b : Nat) : (a ^^^ b) % 2 = if a % 2 ≠ b % 2 then 1 else 0 := by
  have h := @Nat.xor_mod_two_eq_one a b
  rcases Nat.mod_two_eq_zero_or_one (a ^^^ b) with e | e
  · rw [e]
    split
    · rename_i q
      exact absurd (h.mpr (by omega)) (by omega)
    · rfl
  · rw [e]
    split
    · rfl
    · rename_i q
      exact absurd (h.mp e) (by omega)
theorem mod_pow_succ (x k : Nat) : x % 2 ^ (k + 1) = x % 2 ^ k + 2 ^ k * (x / 2 ^ k % 2) := Nat.mod_pow_succ
theorem xor_add (a b : Nat) : a ^^^ b ≤ a + b := by
  have h := Bits.nat_xor_add_and a b
  omega
theorem xor_tri (a b c : Nat) : a ^^^ c ≤ (a ^^^ b) + (b ^^^ c) := by
  have e : a ^^^ c = (a ^^^ b) ^^^ (b ^^^ c) := by
    rw [Nat.xor_assoc, ← Nat.xor_assoc b b c, Nat.xor_self, Nat.zero_xor]
  rw [e]; exact xor_add _ _

/-! the step, the span -/
def stepN (a b : Nat) : Nat := (a ^^^ b).log2
def lowN (n k : Nat) : Nat := ((n / 2 ^ k) ^^^ 1) * 2 ^ k
theorem xor_ne_zero {a b : Nat} (h : a ≠ b) : a ^^^ b ≠ 0 := fun e => h (by
  have q : a ^^^ (a ^^^ b) = a ^^^ 0 := by rw [e]
  rw [← Nat.xor_assoc, Nat.xor_self, Nat.zero_xor, Nat.xor_zero] at q
  exact q.symm)
theorem xor_eq_one {x y : Nat} : x ^^^ y = 1 ↔ y = x ^^^ 1 := by
  constructor
  · intro h; rw [← h, ← Nat.xor_assoc, Nat.xor_self, Nat.zero_xor]
  · intro h; rw [h, ← Nat.xor_assoc, Nat.xor_self, Nat.zero_xor]
theorem log2_eq {x k : Nat} (h : x ≠ 0) : x.log2 = k ↔ x / 2 ^ k = 1 := by
  have hp := Nat.two_pow_pos k
  constructor
  · intro e
    have h1 := Nat.log2_self_le h
    have h2 := Nat.lt_log2_self (n := x)
    rw [e] at h1 h2
    rw [Nat.pow_succ] at h2
    exact Nat.div_eq_of_lt_le (by omega) (by omega)
  · intro e
    have h1 : 2 ^ k ≤ x := by
      have := Nat.div_mul_le_self x (2 ^ k)
      rw [e] at this; omega
    have h2 : x < 2 ^ (k + 1) := by
      have := Nat.lt_div_mul_add (a := x) hp
      rw [e] at this
      rw [Nat.pow_succ]; omega
    exact (Nat.log2_eq_iff h).mpr ⟨h1, h2⟩
/-- the step is k just where the rest behind k is the one's with its last sign turned -/
theorem stepN_eq {a b k : Nat} (h : a ≠ b) : stepN a b = k ↔ b / 2 ^ k = (a / 2 ^ k) ^^^ 1 := by
  unfold stepN
  rw [log2_eq (xor_ne_zero h), xor_div_pow, xor_eq_one]
theorem xor_one_ne {x : Nat} : x ^^^ 1 ≠ x := fun e => by
  have q : x ^^^ (x ^^^ 1) = x ^^^ x := by rw [e]
  rw [← Nat.xor_assoc, Nat.xor_self, Nat.zero_xor] at q
  exact absurd q (by decide)
/-- in the span just those -/
theorem in_span {n k b : Nat} : (lowN n k ≤ b ∧ b ≤ lowN n k + 2 ^ k - 1) ↔ b / 2 ^ k = (n / 2 ^ k) ^^^ 1 := by
  have hp := Nat.two_pow_pos k
  unfold lowN
  constructor
  · intro ⟨h1, h2⟩
    exact Nat.div_eq_of_lt_le (by omega) (by rw [Nat.succ_mul]; omega)
  · intro e
    have h1 := Nat.div_mul_le_self b (2 ^ k)
    have h2 := Nat.lt_div_mul_add (a := b) hp
    rw [e] at h1 h2
    omega
theorem in_span_ne {n k b : Nat} (h : b / 2 ^ k = (n / 2 ^ k) ^^^ 1) : n ≠ b := fun e => by
  rw [← e] at h
  exact xor_one_ne h.symm
theorem span_step {n k b : Nat} : (lowN n k ≤ b ∧ b ≤ lowN n k + 2 ^ k - 1) ↔ (n ≠ b ∧ stepN n b = k) := by
  rw [in_span]
  constructor
  · intro h
    exact ⟨in_span_ne h, (stepN_eq (in_span_ne h)).mpr h⟩
  · intro ⟨h, e⟩
    exact (stepN_eq h).mp e
theorem low_lt {n k w : Nat} (hn : n < 2 ^ w) (hk : k < w) : lowN n k + 2 ^ k ≤ 2 ^ w := by
  have e : 2 ^ w = 2 ^ (w - k) * 2 ^ k := by rw [← Nat.pow_add]; congr 1; omega
  have h1 : n / 2 ^ k < 2 ^ (w - k) := Nat.div_lt_of_lt_mul (by rw [Nat.mul_comm, ← e]; exact hn)
  have h2 : (n / 2 ^ k) ^^^ 1 < 2 ^ (w - k) := Nat.xor_lt_two_pow h1 (Nat.one_lt_two_pow (by omega))
  unfold lowN
  rw [e, ← Nat.succ_mul]
  exact Nat.mul_le_mul_right _ h2
theorem stepN_lt {a b w : Nat} (ha : a < 2 ^ w) (hb : b < 2 ^ w) (h : a ≠ b) : stepN a b < w := (Nat.log2_lt (xor_ne_zero h)).mpr (Nat.xor_lt_two_pow ha hb)
theorem bitLen {x : Nat} : Builtin.Int.intBits (x : Int) = if x = 0 then 0 else x.log2 + 1 := by
  unfold Builtin.Int.intBits
  simp
/-- who is outside a span stands alike to all of it -/
theorem aside {g o one c k : Nat} (h1 : one / 2 ^ k = c) (h2 : o / 2 ^ k ≠ c) : g ^^^ o < g ^^^ one ↔ (g / 2 ^ k) ^^^ (o / 2 ^ k) < (g / 2 ^ k) ^^^ c := by
  have e1 := xor_div_pow g o k
  have e2 := xor_div_pow g one k
  rw [h1] at e2
  have ne : (g / 2 ^ k) ^^^ (o / 2 ^ k) ≠ (g / 2 ^ k) ^^^ c := fun e => h2 (by
    have q : (g / 2 ^ k) ^^^ ((g / 2 ^ k) ^^^ (o / 2 ^ k)) = (g / 2 ^ k) ^^^ ((g / 2 ^ k) ^^^ c) := by rw [e]
    rw [← Nat.xor_assoc, ← Nat.xor_assoc, Nat.xor_self, Nat.zero_xor, Nat.zero_xor] at q
    exact q)
  rw [← e1, ← e2] at ne ⊢
  constructor
  · intro h
    have := Nat.div_le_div_right (c := 2 ^ k) (Nat.le_of_lt h)
    omega
  · intro h
    exact Nat.lt_of_div_lt_div h
end Nn
namespace Nn
/-! lists without twice, rising; by nearness -/
def insU (x : Nat) : List Nat → List Nat
  | [] => [x]
  | y :: r => if x < y then x :: y :: r else if x = y then y :: r else y :: insU x r
def sortU : List Nat → List Nat
  | [] => []
  | x :: r => insU x (sortU r)
theorem mem_insU {x z : Nat} : ∀ {l : List Nat}, z ∈ insU x l ↔ z = x ∨ z ∈ l
  | [] => by simp [insU]
  | y :: r => by
    unfold insU
    by_cases h : x < y
    · rw [if_pos h]; simp
    · rw [if_neg h]
      by_cases e : x = y
      · rw [if_pos e, e]; simp
      · rw [if_neg e, List.mem_cons, mem_insU (l := r), List.mem_cons]
        constructor
        · rintro (h | h | h)
          · exact .inr (.inl h)
          · exact .inl h
          · exact .inr (.inr h)
        · rintro (h | h | h)
          · exact .inr (.inl h)
          · exact .inl h
          · exact .inr (.inr h)
theorem insU_sorted {x : Nat} : ∀ {l : List Nat}, l.Pairwise (· < ·) → (insU x l).Pairwise (· < ·)
  | [], _ => by simp [insU]
  | y :: r, h => by
    have h1 := List.pairwise_cons.mp h
    unfold insU
    by_cases hx : x < y
    · rw [if_pos hx]
      refine List.pairwise_cons.mpr ⟨fun z hz => ?_, h⟩
      rcases List.mem_cons.mp hz with e | hz
      · omega
      · have := h1.1 z hz; omega
    · rw [if_neg hx]
      by_cases e : x = y
      · rw [if_pos e]; exact h
      · rw [if_neg e]
        refine List.pairwise_cons.mpr ⟨fun z hz => ?_, insU_sorted h1.2⟩
        rcases mem_insU.mp hz with e | hz
        · omega
        · exact h1.1 z hz
theorem mem_sortU {z : Nat} : ∀ {l : List Nat}, z ∈ sortU l ↔ z ∈ l
  | [] => by simp [sortU]
  | x :: r => by unfold sortU; rw [mem_insU, mem_sortU (l := r), List.mem_cons]
theorem sortU_sorted : ∀ l : List Nat, (sortU l).Pairwise (· < ·)
  | [] => by simp [sortU]
  | x :: r => insU_sorted (sortU_sorted r)
/-- two rising lists of the same members are one -/
theorem rising_eq : ∀ {a b : List Nat}, a.Pairwise (· < ·) → b.Pairwise (· < ·) → (∀ z, z ∈ a ↔ z ∈ b) → a = b
  | [], [], _, _, _ => rfl
  | [], y :: r, _, _, h => absurd ((h y).mpr (List.mem_cons_self ..)) (by simp)
  | x :: r, [], _, _, h => absurd ((h x).mp (List.mem_cons_self ..)) (by simp)
  | x :: r, y :: s, ha, hb, h => by
    have h1 := List.pairwise_cons.mp ha
    have h2 := List.pairwise_cons.mp hb
    have e : x = y := by
      have a1 := (h x).mp (List.mem_cons_self ..)
      have a2 := (h y).mpr (List.mem_cons_self ..)
      rcases List.mem_cons.mp a1 with e | a1
      · exact e
      · rcases List.mem_cons.mp a2 with e | a2
        · exact e.symm
        · have b1 := h1.1 y a2
          have b2 := h2.1 x a1
          omega
    subst e
    refine congrArg (x :: ·) (rising_eq h1.2 h2.2 fun z => ?_)
    constructor
    · intro hz
      rcases List.mem_cons.mp ((h z).mp (List.mem_cons_of_mem _ hz)) with e | q
      · have := h1.1 z hz; omega
      · exact q
    · intro hz
      rcases List.mem_cons.mp ((h z).mpr (List.mem_cons_of_mem _ hz)) with e | q
      · have := h2.1 z hz; omega
      · exact q
theorem rising_nodup {l : List Nat} (h : l.Pairwise (· < ·)) : l.Nodup := h.imp fun {a b} q => Nat.ne_of_lt q
theorem sortU_of_rising {l : List Nat} (h : l.Pairwise (· < ·)) : sortU l = l := rising_eq (sortU_sorted l) h fun _ => mem_sortU
theorem sortU_congr {a b : List Nat} (h : ∀ z, z ∈ a ↔ z ∈ b) : sortU a = sortU b := rising_eq (sortU_sorted _) (sortU_sorted _) fun z => by rw [mem_sortU, mem_sortU, h]
theorem nodup_len : ∀ {a b : List Nat}, a.Nodup → (∀ z ∈ a, z ∈ b) → a.length ≤ b.length
  | [], _, _, _ => Nat.zero_le _
  | x :: r, b, h, hs => by
    have h1 := List.nodup_cons.mp h
    have hx := hs x (List.mem_cons_self ..)
    have e := List.length_erase_of_mem hx
    have hp : 0 < b.length := List.length_pos_of_mem hx
    have ih := nodup_len (b := b.erase x) h1.2 fun z hz => by
      have ne : z ≠ x := fun e => h1.1 (e ▸ hz)
      exact (List.mem_erase_of_ne ne).mpr (hs z (List.mem_cons_of_mem _ hz))
    rw [List.length_cons]
    omega
theorem xor_self_left (g n : Nat) : g ^^^ (g ^^^ n) = n := by rw [← Nat.xor_assoc, Nat.xor_self, Nat.zero_xor]
theorem xor_inj {g a b : Nat} (h : g ^^^ a = g ^^^ b) : a = b := by
  have q : g ^^^ (g ^^^ a) = g ^^^ (g ^^^ b) := by rw [h]
  rwa [xor_self_left, xor_self_left] at q
/-- by nearness to g, each once -/
def byN (g : Nat) (ns : List Nat) : List Nat := (sortU (ns.map (g ^^^ ·))).map (g ^^^ ·)
theorem mem_byN {g z : Nat} {ns : List Nat} : z ∈ byN g ns ↔ z ∈ ns := by
  unfold byN
  rw [List.mem_map]
  constructor
  · rintro ⟨k, hk, rfl⟩
    obtain ⟨n, hn, rfl⟩ := List.mem_map.mp (mem_sortU.mp hk)
    rw [xor_self_left]; exact hn
  · intro h
    exact ⟨g ^^^ z, mem_sortU.mpr (List.mem_map.mpr ⟨z, h, rfl⟩), xor_self_left _ _⟩
theorem byN_sorted (g : Nat) (ns : List Nat) : (byN g ns).Pairwise fun a b => g ^^^ a < g ^^^ b := by
  unfold byN
  rw [List.pairwise_map]
  exact (sortU_sorted _).imp fun {a b} h => by rw [xor_self_left, xor_self_left]; exact h
theorem byN_nodup (g : Nat) (ns : List Nat) : (byN g ns).Nodup := (byN_sorted g ns).imp fun {a b} h e => by rw [e] at h; exact Nat.lt_irrefl _ h
/-- the one list that is ordered so, with these members -/
theorem byN_uniq {g : Nat} {ns l : List Nat} (hs : l.Pairwise fun a b => g ^^^ a < g ^^^ b) (hm : ∀ z, z ∈ l ↔ z ∈ ns) : l = byN g ns := by
  have e : l.map (g ^^^ ·) = sortU (ns.map (g ^^^ ·)) := by
    refine rising_eq (List.pairwise_map.mpr hs) (sortU_sorted _) fun z => ?_
    rw [mem_sortU, List.mem_map, List.mem_map]
    constructor
    · rintro ⟨a, h, e⟩; exact ⟨a, (hm a).mp h, e⟩
    · rintro ⟨a, h, e⟩; exact ⟨a, (hm a).mpr h, e⟩
  unfold byN
  rw [← e, List.map_map]
  have : ((g ^^^ ·) ∘ (g ^^^ ·) : Nat → Nat) = id := funext fun n => xor_self_left g n
  rw [this, List.map_id]
theorem byN_congr {g : Nat} {a b : List Nat} (h : ∀ z, z ∈ a ↔ z ∈ b) : byN g a = byN g b := byN_uniq (byN_sorted g a) fun z => by rw [mem_byN, h]
theorem byN_len_le {g : Nat} {ns : List Nat} : (byN g ns).length ≤ ns.length := nodup_len (byN_nodup g ns) fun _ h => mem_byN.mp h
theorem byN_len {g g' : Nat} {ns : List Nat} : (byN g ns).length = (byN g' ns).length :=
  Nat.le_antisymm (nodup_len (byN_nodup _ _) fun _ h => mem_byN.mpr (mem_byN.mp h)) (nodup_len (byN_nodup _ _) fun _ h => mem_byN.mpr (mem_byN.mp h))
end Nn
/-! set(list of ints), as the layer's sets are kept -/
namespace Nn
open PySem PySem.Spec PyProof.Rows L2
section
variable {P : Program} {w : World} {A : Around} {E : Value → Shared → Prop} {s : Shared}
/-- a set's object, just made -/
abbrev newS (w : World) : Obj := { cls := .type "set", dict := none, data := .set #[] 0 (.fresh 0 0 (!w.params.followText "set-order")) }
/-- what the filling of a new set at S by the list at l does -/
def Filled (w : World) (S : Addr) (ns : List Int) (s s2 : Shared) : Prop := ∃ (h2 : Heap) (tk c : Nat), s2 = { s with heap := h2, toks := tk } ∧ SetR w h2 S (fun j => decide (j ∈ ns)) c ∧ c ≤ ns.length ∧ ∀ b o, b ≠ S → s.heap.get? b = some o → h2.get? b = some o
set_option maxRecDepth 100000 in
set_option maxHeartbeats 3200000 in
theorem fill_set {S l : Addr} {items : Array Value} {ns : List Int} {Q : Value → Shared → Prop} (hh : A.handled = none) (hS : s.heap.get? S = some (newS w)) (hl : s.heap.IsList l items) (hit : IntsAre items.toList ns) (hb : ns.length + 1 < scanBound)
    (h : ∀ s2, Filled w S ns s s2 → Q .none s2) : codeAny (model P w) A (.call (.builtin "set.__init__") ⟨[.ref S, .ref l], []⟩) (wants Q E) s := by
  have hT : Shared.TypeIs s (.ref S) "set" := ⟨_, hS, rfl⟩
  have hlen : items.size = ns.length := by
    have q := IntsAre.length hit
    rwa [Array.length_toList] at q
  have hlS : l ≠ S := fun z => by
    obtain ⟨o, ho, _, n, hd⟩ := hl
    rw [z, hS] at ho
    cases ho
    cases hd
  refine codeAny_call_builtin F.called_set.init.plain F.entry_set_init (check_set_init_1 hT ?_)
  obtain ⟨⟨oc, od, ob, osl⟩, hol, hcl, nl, hdl⟩ := id hl
  simp only at hcl hdl
  subst hcl hdl
  have a1 := F.sub_list_set
  have a2 := F.sub_list_frozenset
  have a3 : (Value.type "list" == Value.type "dict") = false := by decide
  unfold Builtin.«set.__init__» noKeywords Builtin.Frozenset.updateFrom
  generalize hPI : pyIter = PI
  wp_walk
  subst hPI
  refine wpAny_pyIter_list hl ?_
  refine wpAny_bind (wpAny_runValue ?_)
  have hi3 : A.in1.in1.handled = none := by simp [hh]
  have low : ∀ {b : Addr} {o : Obj}, s.heap.get? b = some o → b ≠ s.heap.objs.size := fun e => Nat.ne_of_lt (Heap.lt_size e)
  have hfp : S ∉ [s.heap.objs.size, l] := by
    simp only [List.mem_cons, List.not_mem_nil, or_false, not_or]
    exact ⟨low hS, hlS.symm⟩
  have hS2 : ∀ o : Obj, (s.heap.push o).get? S = some (newS w) := fun o => Heap.get?_push_of_some _ hS
  have hv2 : ∀ (i : Nat) (v : Value), items[i]? = some v → ∃ k t, ns[i]? = some k ∧ v = .int k t := fun i v hv => by
    have hi : i < ns.length := by rw [← hlen]; exact (Array.getElem?_eq_some_iff.mp hv).1
    obtain ⟨t, e⟩ := PyProof.Rows.IntsAre.int_at hit i v ((Array.getElem?_toList).trans hv)
    refine ⟨ns[i], t, List.getElem?_eq_getElem hi, e.trans ?_⟩
    rw [List.getD_eq_getElem?_getD, List.getElem?_eq_getElem hi]; rfl
  refine set_update_ints ((Walks.list hi3 _ l (low hol) items).toS) S hfp ns hlen hb hv2 (items.size - 0) 0 _ (by omega) (Nat.zero_le _) ?hSt ?hS0 ?hR
  · exact ⟨⟨_, Heap.get?_push_size _ rfl, rfl, rfl⟩, hl.push _⟩
  · exact ⟨0, Nat.le_refl 0, setR_new_at (w := w) (hS2 _)⟩
  · rintro ⟨h2, g2, d2, tk2, o2⟩ c hm hc hR
    obtain rfl : g2 = s.gens := hm.gens
    obtain rfl : d2 = s.drawn := hm.drawn
    obtain rfl : o2 = s.os := hm.os
    rw [hlen] at hc
    show wpAny (model P w) _ (pure ()) _ _ _
    refine wpAny_pure ?_
    show wpAny (model P w) _ (ret Value.none) _ _ _
    refine wpAny_pure ?_
    refine h _ ⟨h2, tk2, c, rfl, hR, hc, fun b o nb e => hm.heap b o ?_ (Heap.get?_push_of_some _ e)⟩
    simp only [List.mem_cons, List.not_mem_nil, or_false, not_or]
    exact ⟨nb, low e⟩
set_option maxRecDepth 100000 in
set_option maxHeartbeats 3200000 in
theorem call_set_L {l : Addr} {items : Array Value} {ns : List Int} {Q : Value → Shared → Prop} (hh : A.handled = none) (hl : s.heap.IsList l items) (hit : IntsAre items.toList ns) (hb : ns.length + 1 < scanBound)
    (h : ∀ s2, Filled w s.heap.objs.size ns { s with heap := s.heap.push (newS w) } s2 → Q (.ref s.heap.objs.size) s2) : wpAny (model P w) A (call (.type "set") [.ref l]) Q E s := by
  obtain ⟨c, tl, hmro⟩ := F.called_set.mro
  have b1 := F.called_set.made
  have b2 := F.called_set.sub
  have b3 := F.called_set.notType
  have b4 := F.called_set.canCreate
  have b5 := F.typeCall_set_1 (.ref l)
  refine wpAny_call (codeAny_of_tree ?_)
  show wpAny (model P w) _ (callAny (.type "set") ⟨[.ref l], []⟩) _ _ s
  refine wpAny_pure ⟨Code.quiet_builtin _ (by decide +kernel), ?_⟩
  refine codeAny_builtin F.entry_type_call ?_
  rw [Around.under_plain (weight_type_call_type "set" [.ref l] []) rfl]
  repeat (any_goals (first | assumption | wp_step))
  refine codeAny_mono (code_set_led1 (.ref l) (E := E) (Q₁ := fun o s1 => o = .ref s.heap.objs.size ∧ s1 = { s with heap := s.heap.push (newS w) }) ⟨rfl, rfl⟩) fun r s1 hr => ?_
  match r, hr with
  | .error e, hr => exact hr
  | .ok .next, hr => exact hr.elim
  | .ok .brk, hr => exact hr.elim
  | .ok .cont, hr => exact hr.elim
  | .ok (.ret o), hr =>
    obtain ⟨rfl, rfl⟩ := hr
    have hS : (s.heap.push (newS w)).get? s.heap.objs.size = some (newS w) := Heap.get?_push_size _ rfl
    have hT : Shared.TypeIs { s with heap := s.heap.push (newS w) } (.ref s.heap.objs.size) "set" := ⟨_, hS, rfl⟩
    have b6 := F.called_set.init.lookup
    have b7 := F.called_set.init.bind (.ref s.heap.objs.size)
    repeat (any_goals (first | assumption | wp_step))
    refine codeAny_mono (fill_set (S := s.heap.objs.size) (l := l) (ns := ns) (items := items) (E := E) (Q := fun r s2 => r = .none ∧ Filled w s.heap.objs.size ns { s with heap := s.heap.push (newS w) } s2) (by simp [hh]) hS (hl.push _) hit hb fun s2 f => ⟨rfl, f⟩) fun r2 s2 hr2 => ?_
    match r2, hr2 with
    | .error e, hr2 => exact hr2
    | .ok .next, hr2 => exact hr2.elim
    | .ok .brk, hr2 => exact hr2.elim
    | .ok .cont, hr2 => exact hr2.elim
    | .ok (.ret o), hr2 =>
      obtain ⟨rfl, f⟩ := hr2
      obtain ⟨h2, tk, c2, rfl, g1, g2, g3⟩ := id f
      repeat (any_goals (first | assumption | wp_step))
      exact h _ f
end
/-- set(xs), xs a list of ints -/
def rSetL (K : PySem.W.Frag) (w : World) : List V → Hp → VK → Prop := fun xs H Q => ∃ (l : Addr) (ns : List Int), xs = [.ref l] ∧ SqL K H l (ns.map V.int) ∧ ns.length ≤ 4000 ∧ ∀ p c, H p = none → c ≤ ns.length → Q (.ref p) (upd H p (SetO w p (fun j => decide (j ∈ ns)) c))
theorem cr_setL {X : Cx} (hc : X.calm = true) : CallR X (.type "set") (rSetL X.K X.w) := by
  intro pins s σ H xs us Q I r h
  obtain ⟨l, ns, rfl, hq, hz, q⟩ := h
  rw [Vals.ref1 r]
  obtain ⟨its, r2, pl, hz2⟩ := I.list hq
  refine call_set_L (I.ok.hd hc) pl.isList (by simpa using RZ.intsAre_vals r2) (by unfold scanBound; omega) fun s2 f => ?_
  obtain ⟨h2, tk, c, rfl, g1, g2, g3⟩ := f
  have nf : H s.heap.objs.size = none := I.hok.fresh (Nat.le_refl _)
  refine ⟨.ref _, upd H s.heap.objs.size (SetO X.w s.heap.objs.size (fun j => decide (j ∈ ns)) c), I.laid (t' := tk) (fun b u e => g3 b u (Nat.ne_of_lt (Heap.lt_size e)) (Heap.get?_push_of_some _ e)) (Nat.le_refl _) (setO_new g1), rfl, q _ c nf g2⟩
/-- how many members a rising list of them has -/
theorem x_setL {K : PySem.W.Frag} {w : World} {H : Hp} {Q : VK} {l : Addr} {ns : List Nat} (hS : SqL K H l (ns.map nV)) (hz : ns.length ≤ 4000) (h : ∀ p c, H p = none → Q (.ref p) (upd H p (SetO w p (fun j => decide (j ∈ ns.map fun n : Nat => (n : Int))) c))) : rSetL K w [.ref l] H Q :=
  ⟨l, ns.map fun n : Nat => (n : Int), rfl, by rw [← map_nV]; exact hS, by rw [List.length_map]; exact hz, fun p c hp _ => h p c hp⟩
end Nn
/-! the laws' helpers: cells, width, mixed numbers, names -/
namespace Nn
open PySem L2
section
variable {P : Program} {w : World} {K : PySem.W.Frag} {mg : Str → Option Value} {base : Heap} {H : Hp} {Q : VK} {E : XK}
theorem nat_of {z : Int} (h : ∀ r : Nat, Q (.int r) H) (hz : 0 ≤ z) : Q (.int z) H := by
  obtain ⟨r, rfl⟩ := Int.eq_ofNat_of_zero_le hz
  exact h r
theorem atI_map {ns : List Int} {j : Nat} (h : j < ns.length) : atI (ns.map V.int) (j : Int) = some (.int ns[j]) := atI_nat (by simp [h])
theorem atI_nV {ns : List Nat} {j : Nat} (h : j < ns.length) : atI (ns.map nV) (j : Int) = some (nV ns[j]) := atI_nat (by simp [h])
theorem atI_neg1' {ns : List Nat} {j : Nat} (h : j < ns.length) : ∃ z, z ∈ ns ∧ atI (ns.map nV) ((j : Int) - 1) = some (nV z) := by
  unfold atI ixN
  by_cases hj : 0 ≤ (j : Int) - 1
  · rw [if_pos hj, if_pos (by simp; omega)]
    have h2 : ((j : Int) - 1).toNat < ns.length := by omega
    exact ⟨ns[((j : Int) - 1).toNat], List.getElem_mem h2, by
      show (ns.map nV)[_]? = _
      rw [List.getElem?_map, List.getElem?_eq_getElem h2]; rfl⟩
  · rw [if_neg hj, if_pos (by simp; omega)]
    have h2 : ((j : Int) - 1 + ((ns.map nV).length : Int)).toNat < ns.length := by simp; omega
    refine ⟨ns[((j : Int) - 1 + ((ns.map nV).length : Int)).toNat], List.getElem_mem h2, ?_⟩
    show (ns.map nV)[_]? = _
    rw [List.getElem?_map, List.getElem?_eq_getElem h2]; rfl
theorem atI_neg1 {ns : List Nat} {j : Nat} (h : j < ns.length) : ∃ z, atI (ns.map nV) ((j : Int) - 1) = some (nV z) := let ⟨z, _, e⟩ := atI_neg1' h; ⟨z, e⟩
def sp_l_cell_at (_ : Tx K mg base) : Sp := fun vs H Q _ => ∃ (a : Addr) (ns : List Int) (k : Nat), vs = [.ref a, .int k] ∧ SqL K H a (ns.map V.int) ∧ ∀ n : Nat, Q (.int n) H
theorem wc_l_cell_at {T : Tx K mg base} {a : Addr} {ns : List Int} {i : Int} {k : Nat} (hi : i = k) (hS : SqL K H a (ns.map V.int)) (h : ∀ n : Nat, Q (.int n) H) : sp_l_cell_at T [.ref a, .int i] H Q E := by
  subst hi; exact ⟨a, ns, k, rfl, hS, h⟩
theorem ok_l_cell_at (T : Tx K mg base) : FnOk P w K mg base CX0 1 T.a_l_cell_at T.d_l_cell_at ["_law_script", "_law_k"] (sp_l_cell_at T) := by
  refine T.F_l_cell_at.okD sc_l_cell_at (fun vs H Q E h => ?_) (fun cdv A outer s H vs Q E hr h => ?_)
  · obtain ⟨a, ns, k, rfl, _⟩ := h; rfl
  · obtain ⟨a, ns, k, rfl, hS, q⟩ := h
    have c_Bucket := T.c_Bucket; have n_Bucket_room := T.n_Bucket_room; have n_Bucket_line := T.n_Bucket_line; have c_Table := T.c_Table; have n_Table_own := T.n_Table_own; have n_Table_wide := T.n_Table_wide; have n_Table_room := T.n_Table_room; have n_Table_buckets := T.n_Table_buckets
    refine ⟨_, (pss_cons (ps_if (pt_cmpR op_lt (pv 1) (pe_callB cb_len (by rfl) T.z_len PySem.boot_len (pa_cons (pv 0) pa_nil)) (nomark _))
      (pss_one (ps_ret (pe_callB cb_abs (by rfl) T.z_abs (by decide +kernel) (pa_cons (pe_ix ix_list (pv 0) (pv 1) (fun _ _ => rfl)) pa_nil))))
      pss_nil)
      (pss_one (ps_ret pe_int))), ?_⟩
    rw [Nn.st_l_cell_at]; try rw [Nn.cxK]
    walk_at "wx"
    refine x_ifD (fun hk => ?_) (fun hk => ?_)
    · walk_at "wx"
      have hk' : k < ns.length := by simpa using hk
      refine x_ixL hS (atI_map hk') ?_
      walk_at "wx"
      exact q _
    · walk_at "wx"
      exact q 0
def sp_l_wide (_ : Tx K mg base) : Sp := fun vs H Q _ => ∃ n : Nat, vs = [.int n] ∧ ∀ (w : Nat) H', 1 ≤ w → w ≤ 60 → Ex H H' → Q (.int w) H'
theorem wc_l_wide {T : Tx K mg base} {i : Int} {k : Nat} (hi : i = k) (h : ∀ (w : Nat) H', 1 ≤ w → w ≤ 60 → Ex H H' → Q (.int w) H') : sp_l_wide T [.int i] H Q E := by
  subst hi; exact ⟨k, rfl, h⟩
theorem ok_l_wide (T : Tx K mg base) : FnOk P w K mg base CX0 1 T.a_l_wide T.d_l_wide ["_law_cell"] (sp_l_wide T) := by
  refine T.F_l_wide.okD sc_l_wide (fun vs H Q E h => ?_) (fun cdv A outer s H vs Q E hr h => ?_)
  · obtain ⟨n, rfl, _⟩ := h; rfl
  · obtain ⟨n, rfl, q⟩ := h
    have c_Bucket := T.c_Bucket; have n_Bucket_room := T.n_Bucket_room; have n_Bucket_line := T.n_Bucket_line; have c_Table := T.c_Table; have n_Table_own := T.n_Table_own; have n_Table_wide := T.n_Table_wide; have n_Table_room := T.n_Table_room; have n_Table_buckets := T.n_Table_buckets
    refine ⟨_, (pss_one (ps_ret (pe_op op_add pe_int (pe_op op_mod (pe_op op_fdivW (pv 0) pe_int) (pe_ix ix_list (pe_lst (pa_cons pe_int (pa_cons pe_int pa_nil))) (pe_op op_mod (pv 0) pe_int) (fun _ _ => rfl)))))), ?_⟩
    rw [Nn.st_l_wide]; try rw [Nn.cxK]
    walk_at "wx"
    refine ⟨by decide, fun p hp => ?_⟩
    walk_at "wx"
    rcases Int.emod_two_eq (n : Int) with e | e
    · rw [e]
      refine x_ixL (SqL.of upd_same) (by rfl) ?_
      walk_at "wx"
      obtain ⟨r, hr⟩ := Int.eq_ofNat_of_zero_le (Int.emod_nonneg ((n : Int) / 2) (by decide : (60 : Int) ≠ 0))
      have h2 := Int.emod_lt_of_pos ((n : Int) / 2) (by decide : (0 : Int) < 60)
      rw [hr] at h2 ⊢
      exact q (1 + r) _ (by omega) (by omega) (Ex.new hp)
    · rw [e]
      refine x_ixL (SqL.of upd_same) (by rfl) ?_
      walk_at "wx"
      obtain ⟨r, hr⟩ := Int.eq_ofNat_of_zero_le (Int.emod_nonneg ((n : Int) / 2) (by decide : (6 : Int) ≠ 0))
      have h2 := Int.emod_lt_of_pos ((n : Int) / 2) (by decide : (0 : Int) < 6)
      rw [hr] at h2 ⊢
      exact q (1 + r) _ (by omega) (by omega) (Ex.new hp)
def sp_l_mixed (_ : Tx K mg base) : Sp := fun vs H Q _ => ∃ n k : Nat, vs = [.int n, .int k] ∧ ∀ r : Nat, Q (.int r) H
theorem wc_l_mixed {T : Tx K mg base} {i j : Int} {n k : Nat} (hi : i = n) (hj : j = k) (h : ∀ r : Nat, Q (.int r) H) : sp_l_mixed T [.int i, .int j] H Q E := by
  subst hi hj; exact ⟨n, k, rfl, h⟩
theorem ok_l_mixed (T : Tx K mg base) : FnOk P w K mg base CX0 1 T.a_l_mixed T.d_l_mixed ["_law_cell", "_law_k"] (sp_l_mixed T) := by
  refine T.F_l_mixed.okD sc_l_mixed (fun vs H Q E h => ?_) (fun cdv A outer s H vs Q E hr h => ?_)
  · obtain ⟨n, k, rfl, _⟩ := h; rfl
  · obtain ⟨n, k, rfl, q⟩ := h
    have c_Bucket := T.c_Bucket; have n_Bucket_room := T.n_Bucket_room; have n_Bucket_line := T.n_Bucket_line; have c_Table := T.c_Table; have n_Table_own := T.n_Table_own; have n_Table_wide := T.n_Table_wide; have n_Table_room := T.n_Table_room; have n_Table_buckets := T.n_Table_buckets
    refine ⟨_, (pss_cons (ps_set (i := 2) sc_l_mixed.nd rfl (Or.inl rfl) (pe_op op_mod (pe_op op_mul (pe_op op_add (pe_op op_add (pv 0) (pe_op op_mul pe_int (pv 1))) pe_int) pe_int) (pe_op op_sub (pe_op op_pow pe_int pe_int) pe_int)))
      (pss_one (ps_ret (pe_op op_fdivW (pe_op op_mod (pe_op op_mul (pe_op op_add (pe_op op_add (pv 2) (pe_op op_mul pe_int (pv 1))) pe_int) pe_int) (pe_op op_sub (pe_op op_pow pe_int pe_int) pe_int)) pe_int)))), ?_⟩
    rw [Nn.st_l_mixed]; try rw [Nn.cxK]
    walk_at "wx"
    refine nat_of q ?_
    exact Int.ediv_nonneg (Int.emod_nonneg _ (by decide)) (by decide)
def sp_l_names (_ : Tx K mg base) : Sp := fun vs H Q _ => ∃ c w m : Nat, vs = [.int c, .int w, .int m] ∧ w ≤ 60 ∧ m ≤ 100 ∧
  ∀ (p : Addr) (H' : Hp) (ns : List Nat), ns.length = m → (∀ x ∈ ns, x < 2 ^ w) → H p = none → Ex H H' → H' p = some (.lst (ns.map nV)) → Q (.ref p) H'
theorem wc_l_names {T : Tx K mg base} {i j l : Int} {c w m : Nat} (hi : i = c) (hj : j = w) (hl : l = m) (hw : w ≤ 60) (hm : m ≤ 100)
    (h : ∀ (p : Addr) (H' : Hp) (ns : List Nat), ns.length = m → (∀ x ∈ ns, x < 2 ^ w) → H p = none → Ex H H' → H' p = some (.lst (ns.map nV)) → Q (.ref p) H') : sp_l_names T [.int i, .int j, .int l] H Q E := by
  subst hi hj hl; exact ⟨c, w, m, rfl, hw, hm, h⟩
theorem ok_l_names (T : Tx K mg base) : FnOk P w K mg base CX0 2 T.a_l_names T.d_l_names ["_law_cell", "_law_wide_here", "_law_many"] (sp_l_names T) := by
  refine T.F_l_names.okD sc_l_names (fun vs H Q E h => ?_) (fun cdv A outer s H vs Q E hr h => ?_)
  · obtain ⟨c, w, m, rfl, _⟩ := h; rfl
  · obtain ⟨c, w, m, rfl, hw, hm, q⟩ := h
    have c_Bucket := T.c_Bucket; have n_Bucket_room := T.n_Bucket_room; have n_Bucket_line := T.n_Bucket_line; have c_Table := T.c_Table; have n_Table_own := T.n_Table_own; have n_Table_wide := T.n_Table_wide; have n_Table_room := T.n_Table_room; have n_Table_buckets := T.n_Table_buckets
    refine ⟨_, (pss_cons (ps_set (i := 3) sc_l_names.nd rfl (Or.inl rfl) (pe_lst pa_nil))
      (pss_cons (ps_if (pt_cmpR op_eq (pe_op op_mod (pv 0) pe_int) pe_int (nomark _))
      (pss_cons (ps_for PassesOwn.never rfl (pi_range1 rfl T.z_range (pa_cons (pv 2) pa_nil)) (pg_name (i := 4) sc_l_names.nd rfl (Or.inl rfl))
      (pss_one (ps_expr (pe_bm PySem.F.plainAttrs_list PySem.F.slot_list_append PySem.F.type_list_append mt_append (pv 3) (pa_cons (pe_op op_mod (pe_op op_shr (pe_op op_fdivW (pv 0) pe_int) (pe_op op_mul (pv 1) (pv 4))) (pe_op op_shl1 pe_int (pv 1))) pa_nil)))))
      (pss_one (ps_ret (pv 3))))
      pss_nil)
      (pss_cons (ps_set (i := 5) sc_l_names.nd rfl (Or.inl rfl) (pe_op op_mod (pe_op op_mul (pe_call (ok_l_mixed T) hr rfl T.m_l_mixed T.F_l_mixed.kp T.b_l_mixed .nil pass0 (pa_cons (pe_op op_mod (pe_op op_fdivW (pv 0) pe_int) (pe_op op_pow pe_int pe_int)) (pa_cons pe_int pa_nil))) pe_int) (pe_op op_shl1 pe_int (pv 1))))
      (pss_cons (ps_for PassesOwn.never rfl (pi_range1 rfl T.z_range (pa_cons (pv 2) pa_nil)) (pg_name (i := 4) sc_l_names.nd rfl (Or.inl rfl))
      (pss_cons (ps_set (i := 6) sc_l_names.nd rfl (Or.inl rfl) (pe_call (ok_l_mixed T) hr rfl T.m_l_mixed T.F_l_mixed.kp T.b_l_mixed .nil pass0 (pa_cons (pe_op op_mod (pe_op op_fdivW (pv 0) pe_int) (pe_op op_pow pe_int pe_int)) (pa_cons (pe_op op_add (pv 4) pe_int) pa_nil))))
      (pss_one (ps_expr (pe_bm PySem.F.plainAttrs_list PySem.F.slot_list_append PySem.F.type_list_append mt_append (pv 3) (pa_cons (pe_op op_xor (pv 5) (pe_op op_mod (pe_op op_fdivW (pv 6) pe_int) (pe_op op_shl1 pe_int (pe_callB (cb_min2 rfl) (by rfl) T.z_min (by decide +kernel) (pa_cons (pv 1) (pa_cons (pe_op op_add pe_int (pe_op op_mod (pv 6) pe_int)) pa_nil)))))) pa_nil))))))
      (pss_one (ps_ret (pv 3))))))), ?_⟩
    rw [Nn.st_l_names]; try rw [Nn.cxK]
    walk_at "wx"
    refine ⟨by decide, fun p hp => ?_⟩
    walk_at "wx"
    refine x_ifD (fun hk => ?_) (fun hk => ?_)
    · walk_at "wx"
      refine ForW.by walk_rgN (fun i σ H' => ∃ (v : Option V) (ns : List Nat), σ = [some (.int c), some (.int w), some (.int m), some (.ref p), v, none, none] ∧ ns.length = i ∧ (∀ x ∈ ns, x < 2 ^ w) ∧ Ex H H' ∧ H' p = some (.lst (ns.map nV)))
        ⟨none, [], rfl, rfl, by simp, Ex.new hp, upd_same⟩ (fun _ _ _ _ _ => trivial) ?_ ?_
      · rintro i _ σ H1 _ hi ⟨v, ns, rfl, hn, hb, ex, hp1⟩ ⟨rfl, rfl⟩
        walk_at "wx"
        obtain ⟨r, hr, e⟩ := mod_two_lt (z := (c : Int) / 2 / 2 ^ (w * i : Int).toNat) (k := w)
        rw [e]
        refine ⟨_, ns ++ [r], rfl, by simp [hn], ?_, ex.mut hp hp1, by rw [upd_same, List.map_append]; rfl⟩
        intro x hx
        rcases List.mem_append.mp hx with h | h
        · exact hb x h
        · rw [List.mem_singleton.mp h]; exact hr
      · rintro σ H1 ⟨v, ns, rfl, hn, hb, ex, hp1⟩
        walk_at "wx"
        exact q p H1 ns hn hb hp ex hp1
    · walk_at "wx"
      refine wc_l_mixed (n := c / 2 % 10 ^ 60) (by simp) (by rfl) fun b => ?_
      walk_at "wx"
      obtain ⟨b0, hb0, e0⟩ := mod_two_lt (z := (b * 16807 : Int)) (k := w)
      rw [e0]
      refine ForW.by walk_rgN (fun i σ H' => ∃ (v v' : Option V) (ns : List Nat), σ = [some (.int c), some (.int w), some (.int m), some (.ref p), v, some (.int b0), v'] ∧ ns.length = i ∧ (∀ x ∈ ns, x < 2 ^ w) ∧ Ex H H' ∧ H' p = some (.lst (ns.map nV)))
        ⟨none, none, [], rfl, rfl, by simp, Ex.new hp, upd_same⟩ (fun _ _ _ _ _ => trivial) ?_ ?_
      · rintro i _ σ H1 _ hi ⟨v, v', ns, rfl, hn, hb, ex, hp1⟩ ⟨rfl, rfl⟩
        walk_at "wx"
        refine wc_l_mixed (n := c / 2 % 10 ^ 60) (k := i + 1) (by simp) (by simp) fun d => ?_
        walk_at "wx"
        obtain ⟨mm, hmm, em⟩ : ∃ mm : Nat, mm ≤ w ∧ min (w : Int) (1 + (d : Int) % 6) = mm := ⟨(min (w : Int) (1 + (d : Int) % 6)).toNat, by omega, by omega⟩
        rw [em]
        walk_at "wx"
        obtain ⟨r, hr, e⟩ := mod_two_lt (z := (d : Int) / 64) (k := mm)
        rw [e]
        walk_at "wx"
        rw [Bits.bitXor_pp (Int.natCast_nonneg _) (Int.natCast_nonneg _)]
        refine ⟨_, _, ns ++ [b0 ^^^ r], rfl, by simp [hn], ?_, ex.mut hp hp1, by rw [upd_same, List.map_append]; rfl⟩
        intro x hx
        rcases List.mem_append.mp hx with h | h
        · exact hb x h
        · rw [List.mem_singleton.mp h]
          exact Nat.xor_lt_two_pow hb0 (Nat.lt_of_lt_of_le hr (Nat.pow_le_pow_right (by decide) hmm))
      · rintro σ H1 ⟨v, v', ns, rfl, hn, hb, ex, hp1⟩
        walk_at "wx"
        exact q p H1 ns hn hb hp ex hp1
end
end Nn
local macro_rules | `(tactic| walk_at "wc") => `(tactic| ((with_reducible refine' Nn.wc_l_mixed ?hS ?hA (fun _ => ?_)); (case hS => walk_at "wnat"); (case hA => walk_at "wnat")))
local macro_rules | `(tactic| walk_at "wc") => `(tactic| ((with_reducible refine' Nn.wc_l_cell_at ?hS ?hA (fun _ => ?_)); (case hS => walk_at "wnat"); (case hA => walk_at "wsq")))
/-! far: the bits' difference -/
namespace Nn
open PySem L2
section
variable {P : Program} {w : World} {K : PySem.W.Frag} {mg : Str → Option Value} {base : Heap} {H : Hp} {Q : VK} {E : XK}
def sp_far (_ : Tx K mg base) : Sp := fun vs H Q E => ∃ (a : Nat) (b : Nat), vs = [.int a, .int b] ∧ (Q (.int ((a ^^^ b : Nat) : Int)) H)
theorem wc_far {T : Tx K mg base} {a : Nat} {b : Nat} {i0 : Int} {i1 : Int} (e0 : i0 = a) (e1 : i1 = b)  (h : Q (.int ((a ^^^ b : Nat) : Int)) H) : sp_far T [.int i0, .int i1] H Q E := by
  subst e0 e1
  exact ⟨a, b, rfl, h⟩
theorem ok_far (T : Tx K mg base) : FnOk P w K mg base CX0 1 T.a_far T.d_far ["one", "other"] (sp_far T) := by
  refine T.F_far.okD sc_far (fun vs H Q E h => ?_) (fun cdv A outer s H vs Q E hr h => ?_)
  · obtain ⟨a, b, rfl, q⟩ := h; rfl
  · obtain ⟨a, b, rfl, q⟩ := h
    have hu := hu_of hr
    have c_Bucket := T.c_Bucket; have n_Bucket_room := T.n_Bucket_room; have n_Bucket_line := T.n_Bucket_line; have c_Table := T.c_Table; have n_Table_own := T.n_Table_own; have n_Table_wide := T.n_Table_wide; have n_Table_room := T.n_Table_room; have n_Table_buckets := T.n_Table_buckets
    refine ⟨_, (pss_one (ps_ret (pe_op op_xor (pv 0) (pv 1)))), ?_⟩
    rw [Nn.st_far]; try rw [Nn.cxK]
    walk_at "wx"
    rw [Bits.bitXor_pp (Int.natCast_nonneg _) (Int.natCast_nonneg _)]
    exact q
end
end Nn
local macro_rules | `(tactic| walk_at "wc") => `(tactic| ((with_reducible refine' Nn.wc_far ?hE0 ?hE1 (?_)); (case hE0 => walk_at "wnat"); (case hE1 => walk_at "wnat")))
/-! nearer, step, span -/
namespace Nn
open PySem L2
section
variable {P : Program} {w : World} {K : PySem.W.Frag} {mg : Str → Option Value} {base : Heap} {H : Hp} {Q : VK} {E : XK}
def sp_step (_ : Tx K mg base) : Sp := fun vs H Q E => ∃ (a : Nat) (b : Nat), vs = [.int a, .int b] ∧ (a ≠ b) ∧ (Q (.int ((stepN a b : Nat) : Int)) H)
theorem wc_step {T : Tx K mg base} {a : Nat} {b : Nat} {i0 : Int} {i1 : Int} (e0 : i0 = a) (e1 : i1 = b) (c0 : a ≠ b) (h : Q (.int ((stepN a b : Nat) : Int)) H) : sp_step T [.int i0, .int i1] H Q E := by
  subst e0 e1
  exact ⟨a, b, rfl, c0, h⟩
theorem ok_step (T : Tx K mg base) : FnOk P w K mg base CX0 2 T.a_step T.d_step ["one", "other"] (sp_step T) := by
  refine T.F_step.okD sc_step (fun vs H Q E h => ?_) (fun cdv A outer s H vs Q E hr h => ?_)
  · obtain ⟨a, b, rfl, hpre, q⟩ := h; rfl
  · obtain ⟨a, b, rfl, hpre, q⟩ := h
    have hu := hu_of hr
    have c_Bucket := T.c_Bucket; have n_Bucket_room := T.n_Bucket_room; have n_Bucket_line := T.n_Bucket_line; have c_Table := T.c_Table; have n_Table_own := T.n_Table_own; have n_Table_wide := T.n_Table_wide; have n_Table_room := T.n_Table_room; have n_Table_buckets := T.n_Table_buckets
    refine ⟨_, (pss_one (ps_ret (pe_op op_sub (pe_bits (pe_call (ok_far T) hr rfl T.m_far T.F_far.kp T.b_far .nil pass0 (pa_cons (pv 0) (pa_cons (pv 1) pa_nil)))) pe_int))), ?_⟩
    rw [Nn.st_step]; try rw [Nn.cxK]
    walk_at "wx"
    have e : (((if a ^^^ b = 0 then 0 else (a ^^^ b).log2 + 1 : Nat) : Nat) : Int) - 1 = ((stepN a b : Nat) : Int) := by
      rw [if_neg (xor_ne_zero hpre)]
      unfold stepN; omega
    rw [e]; exact q
end
end Nn
local macro_rules | `(tactic| walk_at "wc") => `(tactic| ((with_reducible refine' Nn.wc_step ?hE0 ?hE1 ?hC0 (?_)); (case hE0 => walk_at "wnat"); (case hE1 => walk_at "wnat"); (case hC0 => walk_at "wpre")))
/-! what answers: a function that notes who is asked, made by _law_others -/
namespace Nn
open PySem L2
section
variable {P : Program} {w : World} {K : PySem.W.Frag} {mg : Str → Option Value} {base : Heap} {H : Hp} {Q : VK} {E : XK}
/-- the notes at c, those that are silent at s, what both hold; the function's cells -/
structure An where
  c : Addr
  s : Addr
  cs : List Nat
  ss : List Nat
  cl : List (Str × Addr)
  cd : Addr
def sp_l_others__law_answers (_ : Tx K mg base) : List (Option V) → Sp := fun ws vs H Q _ => ∃ (c s : Addr) (cs ss : List Nat) (n : Nat), ws = [some (.ref s), some (.ref c)] ∧ vs = [.int n] ∧ H c = some (.lst (cs.map nV)) ∧ H s = some (.lst (ss.map nV)) ∧ c ≠ s ∧ cs.length ≤ 100000 ∧
  ∀ H', Fr (fun a => a = c) H H' → H' c = some (.lst ((cs ++ [n]).map nV)) → Q (.bl (!decide (n ∈ ss))) H'
theorem nok_l_others__law_answers (T : Tx K mg base) {cl : List (Str × Addr)} {c : Addr} (f : Addr) : NdefX.NOk P w K mg base CX0 1 f (nf_l_others__law_answers cl c) ["_law_name"] fr_l_others__law_answers (sp_l_others__law_answers T) := by
  refine NdefX.nok_of (N := N_l_others__law_answers) nsc_l_others__law_answers (fun doc pm ctv us hl => match us, hl with | [_], _ => rfl) (fun ws vs H Q E h => ?_) (fun A outer s H vs ws Q E hr hf hc hwl h => ?_)
  · obtain ⟨c, s, cs, ss, n, rfl, rfl, _⟩ := h; rfl
  · obtain ⟨c, s, cs, ss, n, rfl, rfl, hc, hs, hne, hz, q⟩ := h
    have c_Bucket := T.c_Bucket; have n_Bucket_room := T.n_Bucket_room; have n_Bucket_line := T.n_Bucket_line; have c_Table := T.c_Table; have n_Table_own := T.n_Table_own; have n_Table_wide := T.n_Table_wide; have n_Table_room := T.n_Table_room; have n_Table_buckets := T.n_Table_buckets
    refine ⟨_, (pss_cons (ps_expr (pe_bm PySem.F.plainAttrs_list PySem.F.slot_list_append PySem.F.type_list_append mt_append (pv 2) (pa_cons (pv 0) pa_nil)))
      (pss_one (ps_ret (pe_cmpR op_notIn_seq (pv 0) (pv 1) rfl)))), ?_⟩
    rw [Nn.st_l_others__law_answers]; try rw [Nn.cxK]
    walk_at "wx"
    have hs2 : upd H c (.lst (cs.map nV ++ [nV n])) s = some (.lst (ss.map nV)) := by rw [upd_ne hne.symm]; exact hs
    have fr := Fr.upd1 (o := .lst (cs.map nV ++ [nV n])) hc
    refine x_ninN rfl (SqL.of hs2) ?_
    exact q _ fr (by rw [upd_same, List.map_append]; rfl)
def sp_l_others (T : Tx K mg base) : Sp := fun vs H Q _ => ∃ c s : Addr, vs = [.ref c, .ref s] ∧ NdefX.TabsN (tabsL T) H ∧ ∀ f cl cd H', Ex H H' → H f = none → H' f = some (NdefX.FnO f (nf_l_others__law_answers cl cd)) → H' cd = some (LamX.CodeO cd (nf_l_others__law_answers cl cd).qual) → CellsT H' cl fr_l_others__law_answers [.ref s, .ref c] → Q (.ref f) H'
theorem ok_l_others (T : Tx K mg base) : FnOk P w K mg base CX0 1 T.a_l_others T.d_l_others ["_law_calls", "_law_silent"] (sp_l_others T) := by
  refine T.FC_l_others.okMk (st1 := s_l_others__law_answers) (fr := fr_l_others__law_answers) (js := [1, 0]) (i := 2) sc_l_others rfl T.tb_l_others rfl nm_l_others__law_answers (by decide +kernel) (by decide +kernel) (by decide) rfl rfl (fun _ => rfl) rfl rfl rfl (by decide) (fun vs H Q E h => ?_) (fun vs H Q E h => ?_)
  · obtain ⟨c, s, rfl, _⟩ := h; rfl
  · obtain ⟨c, s, rfl, hT, q⟩ := h
    exact ⟨hT _ tabm_l_others, [.ref s, .ref c], rfl, q⟩
def AnsOf (T : Tx K mg base) (H : Hp) (f : Addr) (A : An) : Prop := H f = some (NdefX.FnO f (nf_l_others__law_answers A.cl A.cd)) ∧ H A.cd = some (LamX.CodeO A.cd (nf_l_others__law_answers A.cl A.cd).qual) ∧ CellsT H A.cl fr_l_others__law_answers [.ref A.s, .ref A.c] ∧
  H A.c = some (.lst (A.cs.map nV)) ∧ H A.s = some (.lst (A.ss.map nV)) ∧ A.c ≠ A.s ∧ A.cs.length ≤ 100000
def ansB (A : An) (n : Nat) : Bool := !decide (n ∈ A.ss)
def AnsS (A : An) : Addr → Prop := fun a => a = A.c
def AnsL (A : An) (H : Hp) (asked : List Nat) : Prop := H A.c = some (.lst ((A.cs ++ asked).map nV))
theorem AnsOf.none {T : Tx K mg base} {H : Hp} {f : Addr} {A : An} (h : AnsOf T H f A) : AnsL A H [] := by
  unfold AnsL; rw [List.append_nil]; exact h.2.2.2.1
theorem AnsL.upd {A : An} {H H' : Hp} {as : List Nat} {l : Addr} (h : AnsL A H as) (f : Fr (fun a => a = l) H H') (hs : ¬ AnsS A l) : AnsL A H' as := f.at h fun z => hs z.symm
theorem AnsOf.ins {T : Tx K mg base} {H : Hp} {f a : Addr} {A : An} {C dx : Addr} {fs : List (Str × V)} (h : AnsOf T H f A) (z : AnsS A a) (e : H a = some (.ins C dx fs)) : False := by
  have z : a = A.c := z
  rw [z, h.2.2.2.1] at e; cases e
end
end Nn
/-! buckets -/
namespace Nn
open PySem L2
/-- what a bucket of room has in its line behind hearing of n (a: the eldest answers), and the word -/
def hearL (room : Nat) (xs : List Nat) (n : Nat) (a : Bool) : List Nat :=
  if n ∈ xs then xs.erase n ++ [n] else if xs.length < room then xs ++ [n] else if a = true then xs.tail ++ [xs.headD 0] else xs.tail ++ [n]
def hearW (room : Nat) (xs : List Nat) (n : Nat) (a : Bool) : Str :=
  if n ∈ xs then "again" else if xs.length < room then "new" else if a = true then "full" else "instead"
theorem hear_in {room n : Nat} {xs : List Nat} {a : Bool} (h : n ∈ xs) : hearL room xs n a = xs.erase n ++ [n] ∧ hearW room xs n a = "again" := by
  unfold hearL hearW; rw [if_pos h, if_pos h]; exact ⟨rfl, rfl⟩
theorem hear_new {room n : Nat} {xs : List Nat} {a : Bool} (h : ¬ n ∈ xs) (r : xs.length < room) : hearL room xs n a = xs ++ [n] ∧ hearW room xs n a = "new" := by
  unfold hearL hearW; rw [if_neg h, if_neg h, if_pos r, if_pos r]; exact ⟨rfl, rfl⟩
theorem hear_full {room n x : Nat} {xs : List Nat} {a : Bool} (h : ¬ n ∈ x :: xs) (r : ¬ (x :: xs).length < room) (e : a = true) : hearL room (x :: xs) n a = xs ++ [x] ∧ hearW room (x :: xs) n a = "full" := by
  unfold hearL hearW; rw [if_neg h, if_neg h, if_neg r, if_neg r, if_pos e, if_pos e]; exact ⟨rfl, rfl⟩
theorem hear_inst {room n x : Nat} {xs : List Nat} {a : Bool} (h : ¬ n ∈ x :: xs) (r : ¬ (x :: xs).length < room) (e : a = false) : hearL room (x :: xs) n a = xs ++ [n] ∧ hearW room (x :: xs) n a = "instead" := by
  unfold hearL hearW; rw [if_neg h, if_neg h, if_neg r, if_neg r, if_neg (by simp [e]), if_neg (by simp [e])]; exact ⟨rfl, rfl⟩
theorem hear_len {room n : Nat} {xs : List Nat} {a : Bool} (h : xs.length ≤ room) (r0 : 0 < room) : (hearL room xs n a).length ≤ room := by
  unfold hearL
  by_cases h1 : n ∈ xs
  · rw [if_pos h1, List.length_append, List.length_erase_of_mem h1, List.length_singleton]
    have := List.length_pos_of_mem h1
    omega
  · rw [if_neg h1]
    by_cases h2 : xs.length < room
    · rw [if_pos h2, List.length_append, List.length_singleton]; omega
    · rw [if_neg h2]
      by_cases h3 : a = true
      · rw [if_pos h3, List.length_append, List.length_singleton, List.length_tail]; omega
      · rw [if_neg h3, List.length_append, List.length_singleton, List.length_tail]; omega
section
variable {P : Program} {w : World} {K : PySem.W.Frag} {mg : Str → Option Value} {base : Heap} {H : Hp} {Q : VK} {E : XK}
/-- a bucket at p: its line at l holds xs -/
structure BuckAt (T : Tx K mg base) (H : Hp) (p l : Addr) (room : Nat) : Prop where
  ob : ∃ dx, H p = some (.ins T.C_Bucket dx (f_Bucket (nV room) (.ref l)))
theorem BuckAt.fr {T : Tx K mg base} {S : Addr → Prop} {H H' : Hp} {p l : Addr} {room : Nat} (b : BuckAt T H p l room) (f : Fr S H H') (hs : ¬ S p) : BuckAt T H' p l room := by
  obtain ⟨dx, h⟩ := b.ob
  exact ⟨dx, f.at h hs⟩
def sp_Bucket_init (T : Tx K mg base) : Sp := fun vs H Q _ => ∃ (p dx : Addr) (room : Nat), vs = [.ref p, .int room] ∧ H p = some (.ins T.C_Bucket dx []) ∧ ∀ (l : Addr) (H' : Hp), H l = none → H' l = some (.lst []) → Fr (fun a => a = p) H H' → BuckAt T H' p l room → Q .non H'
theorem ok_Bucket_init (T : Tx K mg base) : FnOk P w K mg base CX0 1 T.a_Bucket_init T.d_Bucket_init ["self", "room"] (sp_Bucket_init T) := by
  refine T.F_Bucket_init.okD sc_Bucket_init (fun vs H Q E h => ?_) (fun cdv A outer s H vs Q E hr h => ?_)
  · obtain ⟨p, dx, room, rfl, _⟩ := h; rfl
  · obtain ⟨p, dx, room, rfl, hp, q⟩ := h
    have c_Bucket := T.c_Bucket; have n_Bucket_room := T.n_Bucket_room; have n_Bucket_line := T.n_Bucket_line; have c_Table := T.c_Table; have n_Table_own := T.n_Table_own; have n_Table_wide := T.n_Table_wide; have n_Table_room := T.n_Table_room; have n_Table_buckets := T.n_Table_buckets
    refine ⟨_, (pss_cons (ps_fld (pv 0) (pv 1) rfl)
      (pss_one (ps_fld (pv 0) (pe_lst pa_nil) rfl))), ?_⟩
    rw [Nn.st_Bucket_init]; try rw [Nn.cxK]
    walk_at "wx"
    refine ⟨len_ok rfl, fun l hl => ?_⟩
    walk_at "wx"
    have hl0 : H l = none := upd_back hl
    have hne : l ≠ p := fun z => by rw [z, hp] at hl0; cases hl0
    refine q l _ hl0 (by rw [upd_ne hne, upd_same]) ?_ ⟨dx, upd_same⟩
    exact ((Fr.upd1 hp).trans (Ex.new hl).fr).trans (Fr.upd1 (u := .ins T.C_Bucket dx [("room", .int room)]) (by rw [upd_ne hne.symm, upd_same]))
def sp_Bucket_names (T : Tx K mg base) : Sp := fun vs H Q _ => ∃ (p l : Addr) (room : Nat) (xs : List V), vs = [.ref p] ∧ BuckAt T H p l room ∧ H l = some (.lst xs) ∧ ∀ q, H q = none → Q (.ref q) (upd H q (.lst xs))
theorem wc_Bucket_names {T : Tx K mg base} {p l : Addr} {room : Nat} {xs : List V} (b : BuckAt T H p l room) (hl : H l = some (.lst xs)) (h : ∀ q, H q = none → Q (.ref q) (upd H q (.lst xs))) : sp_Bucket_names T [.ref p] H Q E := ⟨p, l, room, xs, rfl, b, hl, h⟩
theorem ok_Bucket_names (T : Tx K mg base) : FnOk P w K mg base CX0 1 T.a_Bucket_names T.d_Bucket_names ["self"] (sp_Bucket_names T) := by
  refine T.F_Bucket_names.okD sc_Bucket_names (fun vs H Q E h => ?_) (fun cdv A outer s H vs Q E hr h => ?_)
  · obtain ⟨p, l, room, xs, rfl, _⟩ := h; rfl
  · obtain ⟨p, l, room, xs, rfl, ⟨dx, ob⟩, hl, q⟩ := h
    have c_Bucket := T.c_Bucket; have n_Bucket_room := T.n_Bucket_room; have n_Bucket_line := T.n_Bucket_line; have c_Table := T.c_Table; have n_Table_own := T.n_Table_own; have n_Table_wide := T.n_Table_wide; have n_Table_room := T.n_Table_room; have n_Table_buckets := T.n_Table_buckets
    refine ⟨_, (pss_one (ps_ret (pe_callTy cb_list (by rfl) T.z_list (by decide +kernel) (pa_cons (pe_fld (pv 0) rfl) pa_nil)))), ?_⟩
    rw [Nn.st_Bucket_names]; try rw [Nn.cxK]
    walk_at "wx"
    exact x_listL (SqL.of hl) q
/-- who was asked -/
def askedL (room : Nat) (xs : List Nat) (n : Nat) : List Nat := if n ∈ xs then [] else if xs.length < room then [] else [xs.headD 0]
def sp_Bucket_hears (T : Tx K mg base) : Sp := fun vs H Q _ => ∃ (p l : Addr) (room : Nat) (xs : List Nat) (n : Nat) (f : Addr) (A : An), vs = [.ref p, .int n, .ref f] ∧ BuckAt T H p l room ∧ H l = some (.lst (xs.map nV)) ∧ 0 < room ∧ room ≤ 100000 ∧ xs.length ≤ 100000 ∧ AnsOf T H f A ∧ ¬ AnsS A l ∧
  ∀ H', Fr (fun a => a = l ∨ AnsS A a) H H' → H' l = some (.lst ((hearL room xs n (ansB A (xs.headD 0))).map nV)) → AnsL A H' (askedL room xs n) → Q (.str (hearW room xs n (ansB A (xs.headD 0)))) H'
theorem wc_Bucket_hears {T : Tx K mg base} {p l f : Addr} {room n : Nat} {xs : List Nat} {A : An} (b : BuckAt T H p l room) (hl : H l = some (.lst (xs.map nV))) (r0 : 0 < room) (r1 : room ≤ 100000) (x1 : xs.length ≤ 100000) (a : AnsOf T H f A) (s : ¬ AnsS A l)
    (h : ∀ H', Fr (fun a => a = l ∨ AnsS A a) H H' → H' l = some (.lst ((hearL room xs n (ansB A (xs.headD 0))).map nV)) → AnsL A H' (askedL room xs n) → Q (.str (hearW room xs n (ansB A (xs.headD 0)))) H') : sp_Bucket_hears T [.ref p, .int n, .ref f] H Q E :=
  ⟨p, l, room, xs, n, f, A, rfl, b, hl, r0, r1, x1, a, s, h⟩
theorem ok_Bucket_hears (T : Tx K mg base) : FnOk P w K mg base CX0 2 T.a_Bucket_hears T.d_Bucket_hears ["self", "name", "answers"] (sp_Bucket_hears T) := by
  refine T.F_Bucket_hears.okD sc_Bucket_hears (fun vs H Q E h => ?_) (fun cdv A outer s H vs Q E hr h => ?_)
  · obtain ⟨p, l, room, xs, n, f, A, rfl, _⟩ := h; rfl
  · obtain ⟨p, l, room, xs, n, f, A, rfl, ⟨dx, ob⟩, hl, r0, r1, x1, hans, hsl, q⟩ := h
    have hL0 := AnsOf.none hans
    skip
    have c_Bucket := T.c_Bucket; have n_Bucket_room := T.n_Bucket_room; have n_Bucket_line := T.n_Bucket_line; have c_Table := T.c_Table; have n_Table_own := T.n_Table_own; have n_Table_wide := T.n_Table_wide; have n_Table_room := T.n_Table_room; have n_Table_buckets := T.n_Table_buckets
    refine ⟨_, (pss_cons (ps_if (pt_cmpR op_in_seq (pv 1) (pe_fld (pv 0) rfl) rfl)
      (pss_cons (ps_expr (pe_bm PySem.F.plainAttrs_list PySem.F.slot_list_remove PySem.F.type_list_remove mt_remove (pe_fld (pv 0) rfl) (pa_cons (pv 1) pa_nil)))
      (pss_cons (ps_expr (pe_bm PySem.F.plainAttrs_list PySem.F.slot_list_append PySem.F.type_list_append mt_append (pe_fld (pv 0) rfl) (pa_cons (pv 1) pa_nil)))
      (pss_one (ps_ret pe_str))))
      pss_nil)
      (pss_cons (ps_if (pt_cmpR op_lt (pe_callB cb_len (by rfl) T.z_len PySem.boot_len (pa_cons (pe_fld (pv 0) rfl) pa_nil)) (pe_fld (pv 0) rfl) (nomark _))
      (pss_cons (ps_expr (pe_bm PySem.F.plainAttrs_list PySem.F.slot_list_append PySem.F.type_list_append mt_append (pe_fld (pv 0) rfl) (pa_cons (pv 1) pa_nil)))
      (pss_one (ps_ret pe_str)))
      pss_nil)
      (pss_cons (ps_if (pt_val (pe_callT (F := nf_l_others__law_answers A.cl A.cd) (i := 2) (fun f => nok_l_others__law_answers T f) hr (by decide) rfl (by first | exact Or.inl rfl | exact Or.inr (Or.inl rfl) | exact Or.inr (Or.inr rfl)) (pa_cons (pe_ix ix_list (pe_fld (pv 0) rfl) pe_int (fun _ _ => rfl)) pa_nil)))
      (pss_cons (ps_expr (pe_bm PySem.F.plainAttrs_list PySem.F.slot_list_append PySem.F.type_list_append mt_append (pe_fld (pv 0) rfl) (pa_cons (pe_bm PySem.F.plainAttrs_list PySem.F.slot_list_pop PySem.F.type_list_pop mt_popAt (pe_fld (pv 0) rfl) (pa_cons pe_int pa_nil)) pa_nil)))
      (pss_one (ps_ret pe_str)))
      pss_nil)
      (pss_cons (ps_expr (pe_bm PySem.F.plainAttrs_list PySem.F.slot_list_pop PySem.F.type_list_pop mt_popAt (pe_fld (pv 0) rfl) (pa_cons pe_int pa_nil)))
      (pss_cons (ps_expr (pe_bm PySem.F.plainAttrs_list PySem.F.slot_list_append PySem.F.type_list_append mt_append (pe_fld (pv 0) rfl) (pa_cons (pv 1) pa_nil)))
      (pss_one (ps_ret pe_str))))))), ?_⟩
    rw [Nn.st_Bucket_hears]; try rw [Nn.cxK]
    walk_at "wx"
    refine x_ifD (fun hn => ?_) fun hn => ?_
    · walk_at "wx"
      refine x_remove rfl hl hn ?_
      walk_at "wx"
      refine x_append upd_same (by rw [sizeLine_eq, List.length_map, List.length_erase_of_mem hn]; omega) ?_
      rw [(hear_in hn).1, (hear_in hn).2, List.map_append, show askedL room xs n = [] from if_pos hn] at q
      rw [upd_upd]
      have fr := Fr.upd1 (o := .lst ((xs.erase n).map nV ++ [nV n])) hl
      exact q _ (fr.mono fun a z => .inl z) upd_same (hL0.upd fr hsl)
    · walk_at "wx"
      refine x_ifD (fun hr1 => ?_) fun hr1 => ?_
      · walk_at "wx"
        rw [List.length_map] at hr1
        have e := hear_new (a := ansB A (xs.headD 0)) hn (Int.ofNat_lt.mp hr1)
        rw [e.1, e.2, List.map_append, show askedL room xs n = [] from by unfold askedL; rw [if_neg hn, if_pos (Int.ofNat_lt.mp hr1)]] at q
        have fr := Fr.upd1 (o := .lst (xs.map nV ++ [nV n])) hl
        exact q _ (fr.mono fun a z => .inl z) upd_same (hL0.upd fr hsl)
      · obtain ⟨x, r, rfl⟩ : ∃ x r, xs = x :: r := by
          cases xs with
          | nil => simp at hr1; omega
          | cons x r => exact ⟨x, r, rfl⟩
        rw [List.length_map] at hr1
        have hr2 : ¬ (x :: r).length < room := fun z => hr1 (Int.ofNat_lt.mpr z)
        have hrl : r.length < (x :: r).length := Nat.lt_succ_self _
        rw [show askedL room (x :: r) n = [x] from by unfold askedL; rw [if_neg hn, if_neg hr2]; rfl] at q
        simp only [List.headD_cons] at q
        walk_at "wx"
        refine ⟨f, [.ref A.s, .ref A.c], rfl, hans.1, ?_⟩
        walk_at "wx"
        obtain ⟨hf1, hcd1, hC1, hc1, hs1, hne1, hz1⟩ := id hans
        refine ⟨hf1, hcd1, hC1, fun se => ?_⟩
        refine ⟨A.c, A.s, A.cs, A.ss, x, rfl, rfl, strip_at hC1 hc1, strip_at hC1 hs1, hne1, hz1, fun H2' fr2' hc2 sh => ?_⟩
        have fr2 : Fr (AnsS A) H (relay H H2' (nf_l_others__law_answers A.cl A.cd).cl) := hC1.goes se sh fr2'
        have hL2 : AnsL A (relay H H2' (nf_l_others__law_answers A.cl A.cd).cl) [x] := by
          unfold AnsL
          refine (relay_out (hC1.no hc1 trivial)).trans ?_
          exact hc2
        have hq : (!decide (x ∈ A.ss)) = ansB A x := rfl
        rw [hq]
        generalize relay H H2' (nf_l_others__law_answers A.cl A.cd).cl = H2 at fr2 hL2 ⊢
        walk_at "wx"
        have ob2 := fr2.at ob fun z => AnsOf.ins hans z ob
        have hl2 := fr2.at hl hsl
        refine x_ifB (fun ha => ?_) fun ha => ?_
        · have ha : ansB A x = true := ha
          walk_at "wx"
          have e := hear_full hn hr2 ha
          rw [e.1, e.2, List.map_append] at q
          refine x_pop0 (xs := r.map nV) hl2 ?_
          walk_at "wx"
          rw [upd_upd]
          have fr := Fr.upd1 (o := .lst (r.map nV ++ [nV x])) hl2
          exact q _ ((fr2.mono fun a z => .inr z).trans (fr.mono fun a z => .inl z)) upd_same (hL2.upd fr hsl)
        · have ha : ansB A x = false := ha
          walk_at "wx"
          have e := hear_inst hn hr2 ha
          rw [e.1, e.2, List.map_append] at q
          refine x_pop0 (xs := r.map nV) hl2 ?_
          walk_at "wx"
          rw [upd_upd]
          have fr := Fr.upd1 (o := .lst (r.map nV ++ [nV n])) hl2
          exact q _ ((fr2.mono fun a z => .inr z).trans (fr.mono fun a z => .inl z)) upd_same (hL2.upd fr hsl)
def sp_Bucket_drops (T : Tx K mg base) : Sp := fun vs H Q _ => ∃ (p l : Addr) (room : Nat) (xs : List Nat) (n : Nat), vs = [.ref p, .int n] ∧ BuckAt T H p l room ∧ H l = some (.lst (xs.map nV)) ∧
  (n ∉ xs → Q (.bl false) H) ∧ (n ∈ xs → Fr (fun a => a = l) H (upd H l (.lst ((xs.erase n).map nV))) → Q (.bl true) (upd H l (.lst ((xs.erase n).map nV))))
theorem ok_Bucket_drops (T : Tx K mg base) : FnOk P w K mg base CX0 1 T.a_Bucket_drops T.d_Bucket_drops ["self", "name"] (sp_Bucket_drops T) := by
  refine T.F_Bucket_drops.okD sc_Bucket_drops (fun vs H Q E h => ?_) (fun cdv A outer s H vs Q E hr h => ?_)
  · obtain ⟨p, l, room, xs, n, rfl, _⟩ := h; rfl
  · obtain ⟨p, l, room, xs, n, rfl, ⟨dx, ob⟩, hl, q1, q2⟩ := h
    have c_Bucket := T.c_Bucket; have n_Bucket_room := T.n_Bucket_room; have n_Bucket_line := T.n_Bucket_line; have c_Table := T.c_Table; have n_Table_own := T.n_Table_own; have n_Table_wide := T.n_Table_wide; have n_Table_room := T.n_Table_room; have n_Table_buckets := T.n_Table_buckets
    refine ⟨_, (pss_cons (ps_if (pt_cmpR op_notIn_seq (pv 1) (pe_fld (pv 0) rfl) rfl)
      (pss_one (ps_ret pe_bl))
      pss_nil)
      (pss_cons (ps_expr (pe_bm PySem.F.plainAttrs_list PySem.F.slot_list_remove PySem.F.type_list_remove mt_remove (pe_fld (pv 0) rfl) (pa_cons (pv 1) pa_nil)))
      (pss_one (ps_ret pe_bl)))), ?_⟩
    rw [Nn.st_Bucket_drops]; try rw [Nn.cxK]
    walk_at "wx"
    refine x_ifN (fun hn => ?_) fun hn => ?_
    · walk_at "wx"
      exact q1 hn
    · walk_at "wx"
      refine x_remove rfl hl hn ?_
      walk_at "wx"
      exact q2 hn (Fr.upd1 hl)
end
end Nn
/-! tables -/
namespace Nn
open PySem L2
/-- the line lists of a table -/
structure Lines (H : Hp) (ls : List Addr) (xss : List (List Nat)) : Prop where
  nd : ls.Nodup
  len : ls.length = xss.length
  at_ : ∀ (k : Nat) (l : Addr) (xs : List Nat), ls[k]? = some l → xss[k]? = some xs → H l = some (.lst (xs.map nV))
theorem Lines.fr {S : Addr → Prop} {H H' : Hp} {ls : List Addr} {xss : List (List Nat)} (L : Lines H ls xss) (f : Fr S H H') (h : ∀ l ∈ ls, ¬ S l) : Lines H' ls xss :=
  ⟨L.nd, L.len, fun k l xs h1 h2 => f.at (L.at_ k l xs h1 h2) (h l (List.mem_of_getElem? h1))⟩
theorem Lines.ex {H H' : Hp} {ls : List Addr} {xss : List (List Nat)} (L : Lines H ls xss) (f : Ex H H') : Lines H' ls xss := L.fr f fun _ _ z => z
/-- it is a list of names -/
def IsLine (H : Hp) (a : Addr) : Prop := ∃ xs : List Nat, H a = some (.lst (xs.map nV))
theorem Lines.is {H : Hp} {ls : List Addr} {xss : List (List Nat)} (L : Lines H ls xss) {l : Addr} (h : l ∈ ls) : IsLine H l := by
  obtain ⟨k, hk⟩ := List.getElem?_of_mem h
  have h1 : k < xss.length := by rw [← L.len]; exact (List.getElem?_eq_some_iff.mp hk).1
  exact ⟨xss[k], L.at_ k l _ hk (List.getElem?_eq_getElem h1)⟩
theorem Lines.upd {H H' : Hp} {ls : List Addr} {xss : List (List Nat)} (L : Lines H ls xss) {k : Nat} {l : Addr} {xs : List Nat} (hk : ls[k]? = some l) (f : Fr (fun a => a = l) H H') (e : H' l = some (.lst (xs.map nV))) : Lines H' ls (xss.set k xs) := by
  refine ⟨L.nd, by rw [List.length_set]; exact L.len, fun j l' xs' h1 h2 => ?_⟩
  have hkl : k < ls.length := (List.getElem?_eq_some_iff.mp hk).1
  by_cases hj : k = j
  · subst hj
    rw [hk] at h1; cases h1
    rw [List.getElem?_set_self (by rw [← L.len]; exact hkl)] at h2
    cases h2
    exact e
  · rw [List.getElem?_set_ne hj] at h2
    refine f.at (L.at_ j l' xs' h1 h2) fun z => hj ?_
    rw [z] at h1
    exact (List.getElem?_inj hkl L.nd).mp (hk.trans h1.symm)
theorem Lines.updS {S : Addr → Prop} {H H' : Hp} {ls : List Addr} {xss : List (List Nat)} (L : Lines H ls xss) {k : Nat} {l : Addr} {xs : List Nat} (hk : ls[k]? = some l) (f : Fr S H H') (hs : ∀ y ∈ ls, S y → y = l) (e : H' l = some (.lst (xs.map nV))) : Lines H' ls (xss.set k xs) := by
  refine ⟨L.nd, by rw [List.length_set]; exact L.len, fun j l' xs' h1 h2 => ?_⟩
  have hkl : k < ls.length := (List.getElem?_eq_some_iff.mp hk).1
  by_cases hj : k = j
  · subst hj
    rw [hk] at h1; cases h1
    rw [List.getElem?_set_self (by rw [← L.len]; exact hkl)] at h2
    cases h2
    exact e
  · rw [List.getElem?_set_ne hj] at h2
    refine f.at (L.at_ j l' xs' h1 h2) fun z => hj ?_
    rw [hs l' (List.mem_of_getElem? h1) z] at h1
    exact (List.getElem?_inj hkl L.nd).mp (hk.trans h1.symm)
section
variable {P : Program} {w : World} {K : PySem.W.Frag} {mg : Str → Option Value} {base : Heap} {H : Hp} {Q : VK} {E : XK}
/-- a table at p: what never changes of it -/
structure TabAt (T : Tx K mg base) (H : Hp) (p : Addr) (own wide room : Nat) (ls : List Addr) : Prop where
  w0 : 0 < wide
  w1 : wide ≤ 60
  r0 : 0 < room
  r1 : room ≤ 8
  len : ls.length = wide
  ob : ∃ (dx bl : Addr) (bs : List Addr), H p = some (.ins T.C_Table dx (f_Table (nV own) (nV wide) (nV room) (.ref bl))) ∧ H bl = some (.lst (bs.map V.ref)) ∧ bs.length = wide ∧ ∀ (k : Nat) (b l : Addr), bs[k]? = some b → ls[k]? = some l → BuckAt T H b l room
theorem refs_ne_ints {bs : List Addr} {xs : List Nat} (h : 0 < bs.length) : HO.lst (bs.map V.ref) ≠ HO.lst (xs.map nV) := by
  intro z
  cases bs with
  | nil => simp at h
  | cons b r => cases xs with
    | nil => cases z
    | cons x r => cases z
theorem TabAt.fr {T : Tx K mg base} {S : Addr → Prop} {H H' : Hp} {p : Addr} {own wide room : Nat} {ls : List Addr} (t : TabAt T H p own wide room ls) (f : Fr S H H') (h : ∀ a, S a → IsLine H a ∨ H a = none) : TabAt T H' p own wide room ls := by
  obtain ⟨dx, bl, bs, h1, h2, h3, h4⟩ := t.ob
  refine ⟨t.w0, t.w1, t.r0, t.r1, t.len, dx, bl, bs, f.at h1 ?_, f.at h2 ?_, h3, fun k b l e1 e2 => (h4 k b l e1 e2).fr f ?_⟩
  · intro z
    rcases h _ z with ⟨xs, e⟩ | e <;> rw [h1] at e <;> cases e
  · intro z
    rcases h _ z with ⟨xs, e⟩ | e
    · rw [h2] at e
      exact refs_ne_ints (by rw [h3]; exact t.w0) (Option.some.inj e)
    · rw [h2] at e; cases e
  · intro z
    obtain ⟨dy, hb⟩ := (h4 k b l e1 e2).ob
    rcases h _ z with ⟨xs, e⟩ | e <;> rw [hb] at e <;> cases e
theorem TabAt.ex {T : Tx K mg base} {H H' : Hp} {p : Addr} {own wide room : Nat} {ls : List Addr} (t : TabAt T H p own wide room ls) (f : Ex H H') : TabAt T H' p own wide room ls := t.fr f fun _ z => z.elim
def sp_Table_init (T : Tx K mg base) : Sp := fun vs H Q _ => ∃ (p dx : Addr) (own wide room : Nat), vs = [.ref p, .int own, .int wide, .int room] ∧ H p = some (.ins T.C_Table dx []) ∧ 0 < wide ∧ wide ≤ 60 ∧ 0 < room ∧ room ≤ 8 ∧
  ∀ (ls : List Addr) (H' : Hp), (∀ l ∈ ls, H l = none) → Fr (fun a => a = p) H H' → TabAt T H' p own wide room ls → Lines H' ls (List.replicate wide []) → Q .non H'
theorem ok_Table_init (T : Tx K mg base) : FnOk P w K mg base CX0 3 T.a_Table_init T.d_Table_init ["self", "own", "wide", "room"] (sp_Table_init T) := by
  refine T.F_Table_init.okD sc_Table_init (fun vs H Q E h => ?_) (fun cdv A outer s H vs Q E hr h => ?_)
  · obtain ⟨p, dx, own, wide, room, rfl, _⟩ := h; rfl
  · obtain ⟨p, dx, own, wide, room, rfl, hp, w0, w1, r0, r1, q⟩ := h
    have c_Bucket := T.c_Bucket; have n_Bucket_room := T.n_Bucket_room; have n_Bucket_line := T.n_Bucket_line; have c_Table := T.c_Table; have n_Table_own := T.n_Table_own; have n_Table_wide := T.n_Table_wide; have n_Table_room := T.n_Table_room; have n_Table_buckets := T.n_Table_buckets
    refine ⟨_, (pss_cons (ps_fld (pv 0) (pv 1) rfl)
      (pss_cons (ps_fld (pv 0) (pv 2) rfl)
      (pss_cons (ps_fld (pv 0) (pv 3) rfl)
      (pss_one (ps_fld (pv 0) (pe_lc (own := [("k", 4)]) (g := (gName 4)) (by rfl) sc_Table_init.nd (pi_range1 rfl T.z_range (pa_cons (pv 2) pa_nil)) (blkOk_by (N := N_Table_init) (sc := defScope s_Table_init) (own := [("k", 4)]) (by decide +kernel)) (fun _ _ _ _ _ => (pg_name (i := 4) sc_Table_init.nd rfl (Or.inl rfl))) (fun _ _ _ _ _ => pts_nil) (fun _ _ _ _ _ => (pe_make T.M_Bucket (ok_Bucket_init T) hr rfl T.m_Bucket T.b_Bucket_init .nil pass0 (pa_cons (pv 3) pa_nil)))) rfl))))), ?_⟩
    rw [Nn.st_Table_init]; try rw [Nn.cxK]
    walk_at "wx"
    have f3 : Fr (fun a => a = p) H (upd (upd (upd H p (HO.ins T.C_Table dx [("own", V.int ↑own)])) p (HO.ins T.C_Table dx [("own", V.int ↑own), ("wide", V.int ↑wide)])) p (HO.ins T.C_Table dx [("own", V.int ↑own), ("wide", V.int ↑wide), ("room", V.int ↑room)])) :=
      ((Fr.upd1 hp).trans (Fr.upd1 upd_same)).trans (Fr.upd1 upd_same)
    have h3 : (upd (upd (upd H p (HO.ins T.C_Table dx [("own", V.int ↑own)])) p (HO.ins T.C_Table dx [("own", V.int ↑own), ("wide", V.int ↑wide)])) p (HO.ins T.C_Table dx [("own", V.int ↑own), ("wide", V.int ↑wide), ("room", V.int ↑room)])) p = some (HO.ins T.C_Table dx [("own", V.int ↑own), ("wide", V.int ↑wide), ("room", V.int ↑room)]) := upd_same
    generalize (upd (upd (upd H p (HO.ins T.C_Table dx [("own", V.int ↑own)])) p (HO.ins T.C_Table dx [("own", V.int ↑own), ("wide", V.int ↑wide)])) p (HO.ins T.C_Table dx [("own", V.int ↑own), ("wide", V.int ↑wide), ("room", V.int ↑room)])) = H3 at *
    refine LcW.by1 walk_rgN (by rw [sizeLine_eq]; omega) (fun D i acc H' => Ex H3 H' ∧ ∃ bs ls : List Addr, acc = bs.map V.ref ∧ bs.length = i ∧ ls.length = i ∧ (∀ l ∈ ls, H3 l = none ∧ l ≠ D ∧ H' l = some (.lst [])) ∧ ls.Nodup ∧ ∀ (k : Nat) (b l : Addr), bs[k]? = some b → ls[k]? = some l → BuckAt T H' b l room) ?_ (fun _ _ _ _ _ _ _ => trivial) ?_ ?_
    · intro D hD
      exact ⟨Ex.new hD, [], [], rfl, rfl, rfl, by simp, List.nodup_nil, by simp⟩
    · rintro D i acc x _ H1 hi hD ⟨ex, bs, ls, rfl, hb, hl, hls, nd, hbu⟩ hacc ⟨rfl, rfl⟩ Qe hQ
      walk_at "wx"
      refine x_make fun x dx1 H2 hx ex2 hx2 => ?_
      refine ⟨x, dx1, room, rfl, hx2, fun l H4 hl0 hl4 fr4 bu4 => ⟨rfl, ?_⟩⟩
      have e4 : Ex H1 H4 := fr4.ex ex2 fun y z => by rw [z]; exact hx
      have hD4 : H4 D = some (.lst (bs.map V.ref)) := e4.at hacc
      have lnew : H1 l = none := ex2.back l hl0
      have lD : l ≠ D := fun z => by rw [z, hacc] at lnew; cases lnew
      have hm : Ex H3 (upd H4 D (.lst (bs.map V.ref ++ [.ref x]))) := (ex.trans e4).mut hD hD4
      refine hQ _ _ hD4 ⟨hm, bs ++ [x], ls ++ [l], by simp, by simp [hb], by simp [hl], ?_, nd_snoc nd ?_, ?_⟩
      · intro y hy
        rcases List.mem_append.mp hy with hy | hy
        · obtain ⟨a1, a2, a3⟩ := hls y hy
          exact ⟨a1, a2, by rw [upd_ne a2]; exact e4.at a3⟩
        · rw [List.mem_singleton.mp hy]
          exact ⟨ex.back l lnew, lD, by rw [upd_ne lD]; exact hl4⟩
      · intro hy
        rw [(hls l hy).2.2] at lnew
        cases lnew
      · intro k b l' h1 h2
        have hfr : BuckAt T H4 b l' room := by
          by_cases hk : k < i
          · rw [List.getElem?_append_left (by omega)] at h1 h2
            exact (hbu k b l' h1 h2).fr e4 id
          · rw [List.getElem?_append_right (by omega)] at h1 h2
            have hk0 : k - i = 0 := by
              have := (List.getElem?_eq_some_iff.mp h1).1
              simp at this; omega
            rw [hb, hk0] at h1
            rw [hl, hk0] at h2
            cases h1; cases h2
            exact bu4
        exact hfr.fr (Fr.upd1 hD4) fun z => by
          obtain ⟨dy, hy⟩ := hfr.ob
          rw [z, hD4] at hy; cases hy
    · rintro D acc H4 hD ⟨ex, bs, ls, rfl, hb, hl, hls, nd, hbu⟩ hD4 _
      have hp4 : H4 p = some (HO.ins T.C_Table dx [("own", V.int ↑own), ("wide", V.int ↑wide), ("room", V.int ↑room)]) := ex.at h3
      have hne : ∀ {a : Addr} {o : HO}, H4 a = some o → (HO.ins T.C_Table dx [("own", V.int ↑own), ("wide", V.int ↑wide), ("room", V.int ↑room)]) ≠ o → a ≠ p := fun {a o} h d z => by rw [z, hp4] at h; exact d (Option.some.inj h)
      walk_at "wx"
      refine q ls _ (fun l h => f3.back l (hls l h).1) ((f3.trans ex.fr).trans (Fr.upd1 hp4)) ⟨w0, w1, r0, r1, hl, dx, D, bs, upd_same, ?_, hb, ?_⟩ ⟨nd, by rw [List.length_replicate, hl], ?_⟩
      · rw [upd_ne (hne hD4 (fun z => by cases z))]; exact hD4
      · intro k b l h1 h2
        have h := hbu k b l h1 h2
        refine h.fr (Fr.upd1 hp4) fun z => ?_
        have n0 := (hls l (List.mem_of_getElem? h2))
        obtain ⟨dy, hy⟩ := h.ob
        rw [z, hp4] at hy
        have hy := Option.some.inj hy
        injection hy with e1 e2 e3
        have e4 := congrArg List.length e3
        simp [f_Bucket] at e4
      · intro k l xs h1 h2
        have n0 := (hls l (List.mem_of_getElem? h1))
        have e : xs = [] := by
          rw [List.getElem?_replicate] at h2
          split at h2
          · exact (Option.some.inj h2).symm
          · cases h2
        rw [e, upd_ne (hne n0.2.2 (fun z => by cases z))]
        exact n0.2.2
end
end Nn
/-! tables: what they do -/
namespace Nn
open PySem L2
section
variable {P : Program} {w : World} {K : PySem.W.Frag} {mg : Str → Option Value} {base : Heap} {H : Hp} {Q : VK} {E : XK}
theorem x_sortN {H : Hp} {Q : VK} {a : Addr} {ns : List Nat} (hS : SqL K H a (ns.map nV)) (nd : ns.Nodup) (h : ∀ p, H p = none → Q (.ref p) (upd H p (.lst ((sortU ns).map nV)))) : rSortedI K [.ref a] H Q := by
  refine ⟨a, ns.map fun n : Nat => (n : Int), rfl, by rw [← map_nV]; exact hS, fun ys p hperm hsort hp => ?_⟩
  obtain ⟨zs, rfl⟩ : ∃ zs : List Nat, ys = zs.map fun n : Nat => (n : Int) := by
    refine ⟨ys.map Int.toNat, ?_⟩
    rw [List.map_map]
    refine (List.map_id ys).symm.trans (List.map_congr_left fun y hy => ?_)
    obtain ⟨n, _, rfl⟩ := List.mem_map.mp (hperm.mem_iff.mp hy)
    simp
  have hzs : zs = sortU ns := by
    have hmem : ∀ z, z ∈ zs ↔ z ∈ ns := fun z => by
      constructor
      · intro hz
        obtain ⟨n, hn, e⟩ := List.mem_map.mp (hperm.mem_iff.mp (List.mem_map.mpr ⟨z, hz, rfl⟩))
        rw [← Int.ofNat.inj e]; exact hn
      · intro hz
        obtain ⟨n, hn, e⟩ := List.mem_map.mp (hperm.mem_iff.mpr (List.mem_map.mpr ⟨z, hz, rfl⟩))
        rw [← Int.ofNat.inj e]; exact hn
    refine rising_eq ?_ (sortU_sorted _) fun z => by rw [hmem, mem_sortU]
    have nz : zs.Nodup := by
      have q : (zs.map fun n : Nat => (n : Int)).Nodup := hperm.nodup_iff.mpr (List.Pairwise.map _ (fun a b h e => h (Int.ofNat.inj e)) nd)
      exact (List.pairwise_map.mp q).imp fun h e => h (by rw [e])
    have le : zs.Pairwise (· ≤ ·) := (List.pairwise_map.mp hsort).imp fun h => by omega
    exact (nz.and le).imp fun h => by omega
  rw [hzs, ← map_nV]
  exact h p hp
def sp_Table_bucket_for (T : Tx K mg base) : Sp := fun vs H Q _ => ∃ (p : Addr) (own wide room n : Nat) (ls : List Addr), vs = [.ref p, .int n] ∧ TabAt T H p own wide room ls ∧ n ≠ own ∧ stepN own n < wide ∧
  ∀ b l, ls[stepN own n]? = some l → BuckAt T H b l room → Q (.ref b) H
theorem wc_Table_bucket_for {T : Tx K mg base} {p : Addr} {own wide room n : Nat} {ls : List Addr} (t : TabAt T H p own wide room ls) (hn : n ≠ own) (hs : stepN own n < wide) (h : ∀ b l, ls[stepN own n]? = some l → BuckAt T H b l room → Q (.ref b) H) : sp_Table_bucket_for T [.ref p, .int n] H Q E :=
  ⟨p, own, wide, room, n, ls, rfl, t, hn, hs, h⟩
theorem ok_Table_bucket_for (T : Tx K mg base) : FnOk P w K mg base CX0 3 T.a_Table_bucket_for T.d_Table_bucket_for ["self", "name"] (sp_Table_bucket_for T) := by
  refine T.F_Table_bucket_for.okD sc_Table_bucket_for (fun vs H Q E h => ?_) (fun cdv A outer s H vs Q E hr h => ?_)
  · obtain ⟨p, own, wide, room, n, ls, rfl, _⟩ := h; rfl
  · obtain ⟨p, own, wide, room, n, ls, rfl, ht, hn, hs, q⟩ := h
    obtain ⟨dx, bl, bs, h1, h2, h3, h4⟩ := ht.ob
    have c_Bucket := T.c_Bucket; have n_Bucket_room := T.n_Bucket_room; have n_Bucket_line := T.n_Bucket_line; have c_Table := T.c_Table; have n_Table_own := T.n_Table_own; have n_Table_wide := T.n_Table_wide; have n_Table_room := T.n_Table_room; have n_Table_buckets := T.n_Table_buckets
    refine ⟨_, (pss_one (ps_ret (pe_ix ix_list (pe_fld (pv 0) rfl) (pe_call (ok_step T) hr rfl T.m_step T.F_step.kp T.b_step .nil pass0 (pa_cons (pe_fld (pv 0) rfl) (pa_cons (pv 1) pa_nil))) (fun _ _ => rfl)))), ?_⟩
    rw [Nn.st_Table_bucket_for]; try rw [Nn.cxK]
    have hn' := Ne.symm hn
    walk_at "wx"
    have hk : stepN own n < bs.length := by omega
    refine x_ixL (v := .ref bs[stepN own n]) (SqL.of h2) (atI_nat (by simp [hk])) ?_
    have hl : stepN own n < ls.length := by rw [ht.len]; exact hs
    exact q _ _ (List.getElem?_eq_getElem hl) (h4 _ _ _ (List.getElem?_eq_getElem hk) (List.getElem?_eq_getElem hl))
/-- the lines behind hearing of n -/
def tabL (own room : Nat) (xss : List (List Nat)) (n : Nat) (a : Nat → Bool) : List (List Nat) :=
  if n = own then xss else xss.set (stepN own n) (hearL room (xss.getD (stepN own n) []) n (a ((xss.getD (stepN own n) []).headD 0)))
def tabW (own room : Nat) (xss : List (List Nat)) (n : Nat) (a : Nat → Bool) : Str :=
  if n = own then "own" else hearW room (xss.getD (stepN own n) []) n (a ((xss.getD (stepN own n) []).headD 0))
/-- who was asked -/
def tabA (own room : Nat) (xss : List (List Nat)) (n : Nat) : List Nat := if n = own then [] else askedL room (xss.getD (stepN own n) []) n
def sp_Table_hears (T : Tx K mg base) : Sp := fun vs H Q _ => ∃ (p f : Addr) (own wide room n : Nat) (ls : List Addr) (xss : List (List Nat)) (A : An), vs = [.ref p, .int n, .ref f] ∧ TabAt T H p own wide room ls ∧ Lines H ls xss ∧ own < 2 ^ wide ∧ n < 2 ^ wide ∧ (∀ xs ∈ xss, xs.length ≤ 100000) ∧ AnsOf T H f A ∧ (∀ l ∈ ls, ¬ AnsS A l) ∧
  ∀ H', Fr (fun a => a ∈ ls ∨ AnsS A a) H H' → Lines H' ls (tabL own room xss n (ansB A)) → AnsL A H' (tabA own room xss n) → Q (.str (tabW own room xss n (ansB A))) H'
theorem wc_Table_hears {T : Tx K mg base} {p f : Addr} {own wide room n : Nat} {ls : List Addr} {xss : List (List Nat)} {A : An} (t : TabAt T H p own wide room ls) (L : Lines H ls xss) (ho : own < 2 ^ wide) (hn : n < 2 ^ wide) (hx : ∀ xs ∈ xss, xs.length ≤ 100000) (a : AnsOf T H f A) (s : ∀ l ∈ ls, ¬ AnsS A l)
    (h : ∀ H', Fr (fun a => a ∈ ls ∨ AnsS A a) H H' → Lines H' ls (tabL own room xss n (ansB A)) → AnsL A H' (tabA own room xss n) → Q (.str (tabW own room xss n (ansB A))) H') : sp_Table_hears T [.ref p, .int n, .ref f] H Q E := ⟨p, f, own, wide, room, n, ls, xss, A, rfl, t, L, ho, hn, hx, a, s, h⟩
theorem ok_Table_hears (T : Tx K mg base) : FnOk P w K mg base CX0 4 T.a_Table_hears T.d_Table_hears ["self", "name", "answers"] (sp_Table_hears T) := by
  refine T.F_Table_hears.okD sc_Table_hears (fun vs H Q E h => ?_) (fun cdv A outer s H vs Q E hr h => ?_)
  · obtain ⟨p, f, own, wide, room, n, ls, xss, A, rfl, _⟩ := h; rfl
  · obtain ⟨p, f, own, wide, room, n, ls, xss, A, rfl, ht, L, ho, hn, hx, ha, hs0, q⟩ := h
    obtain ⟨dx, bl, bs, h1, h2, h3, h4⟩ := ht.ob
    have c_Bucket := T.c_Bucket; have n_Bucket_room := T.n_Bucket_room; have n_Bucket_line := T.n_Bucket_line; have c_Table := T.c_Table; have n_Table_own := T.n_Table_own; have n_Table_wide := T.n_Table_wide; have n_Table_room := T.n_Table_room; have n_Table_buckets := T.n_Table_buckets
    refine ⟨_, (pss_cons (ps_if (pt_cmpR op_eq (pv 1) (pe_fld (pv 0) rfl) (nomark _))
      (pss_one (ps_ret pe_str))
      pss_nil)
      (pss_one (ps_ret (pe_meth (pe_meth (pv 0) T.c_Table T.t_Table_bucket_for (ok_Table_bucket_for T) hr T.b_Table_bucket_for .nil pass0 (pa_cons (pv 1) pa_nil)) T.c_Bucket T.t_Bucket_hears (ok_Bucket_hears T) (hr.mono (by decide)) T.b_Bucket_hears .nil pass0 (pa_cons (pv 1) (pa_cons (pv 2) pa_nil)))))), ?_⟩
    rw [Nn.st_Table_hears]; try rw [Nn.cxK]
    walk_at "wx"
    refine x_ifD (fun e => ?_) fun e => ?_
    · walk_at "wx"
      have e : n = own := Int.ofNat.inj e
      have q1 := q H Fr.refl
      unfold tabL tabW tabA at q1
      rw [if_pos e, if_pos e, if_pos e] at q1
      exact q1 L (AnsOf.none ha)
    · have e : n ≠ own := fun z => e (by rw [z])
      have hs : stepN own n < wide := stepN_lt ho hn (Ne.symm e)
      walk_at "wx"
      refine wc_Table_bucket_for ht e hs fun b l hl hb => ?_
      obtain ⟨dy, hob⟩ := hb.ob
      have hk : stepN own n < xss.length := by rw [← L.len, ht.len]; exact hs
      have hL := L.at_ _ l _ hl (List.getElem?_eq_getElem hk)
      have eg : xss.getD (stepN own n) [] = xss[stepN own n] := by rw [List.getD_eq_getElem?_getD, List.getElem?_eq_getElem hk]; rfl
      have hm := List.mem_of_getElem? hl
      walk_at "wx"
      refine wc_Bucket_hears hb hL ht.r0 (Nat.le_trans ht.r1 (by decide)) (hx _ (List.getElem_mem hk)) ha (hs0 l hm) fun H' fr hl' hA' => ?_
      unfold tabL tabW tabA at q
      rw [if_neg e, if_neg e, if_neg e, eg] at q
      exact q _ (fr.mono fun x z => z.imp (fun z => by rw [z]; exact hm) id) (L.updS hl fr (fun y hy z => z.elim id fun z => absurd z (hs0 y hy)) hl') hA'
def sp_Table_keeps (T : Tx K mg base) : Sp := fun vs H Q _ => ∃ (p : Addr) (own wide room : Nat) (ls : List Addr) (xss : List (List Nat)), vs = [.ref p] ∧ TabAt T H p own wide room ls ∧ Lines H ls xss ∧ xss.flatten.Nodup ∧ xss.flatten.length ≤ 100000 ∧
  ∀ q H', H q = none → Ex H H' → H' q = some (.lst ((sortU xss.flatten).map nV)) → Q (.ref q) H'
theorem wc_Table_keeps {T : Tx K mg base} {p : Addr} {own wide room : Nat} {ls : List Addr} {xss : List (List Nat)} (t : TabAt T H p own wide room ls) (L : Lines H ls xss) (nd : xss.flatten.Nodup) (hz : xss.flatten.length ≤ 100000)
    (h : ∀ q H', H q = none → Ex H H' → H' q = some (.lst ((sortU xss.flatten).map nV)) → Q (.ref q) H') : sp_Table_keeps T [.ref p] H Q E := ⟨p, own, wide, room, ls, xss, rfl, t, L, nd, hz, h⟩
theorem flat_le {xss : List (List Nat)} (i : Nat) : (xss.take i).flatten.length ≤ xss.flatten.length := by
  have e : xss.flatten = (xss.take i).flatten ++ (xss.drop i).flatten := by rw [← List.flatten_append, List.take_append_drop]
  rw [e, List.length_append]; omega
theorem ok_Table_keeps (T : Tx K mg base) : FnOk P w K mg base CX0 2 T.a_Table_keeps T.d_Table_keeps ["self"] (sp_Table_keeps T) := by
  refine T.F_Table_keeps.okD sc_Table_keeps (fun vs H Q E h => ?_) (fun cdv A outer s H vs Q E hr h => ?_)
  · obtain ⟨p, own, wide, room, ls, xss, rfl, _⟩ := h; rfl
  · obtain ⟨p, own, wide, room, ls, xss, rfl, ht, L, nd, hz, q⟩ := h
    obtain ⟨dx, bl, bs, h1, h2, h3, h4⟩ := ht.ob
    have c_Bucket := T.c_Bucket; have n_Bucket_room := T.n_Bucket_room; have n_Bucket_line := T.n_Bucket_line; have c_Table := T.c_Table; have n_Table_own := T.n_Table_own; have n_Table_wide := T.n_Table_wide; have n_Table_room := T.n_Table_room; have n_Table_buckets := T.n_Table_buckets
    refine ⟨_, (pss_cons (ps_set (i := 1) sc_Table_keeps.nd rfl (Or.inl rfl) (pe_lst pa_nil))
      (pss_cons (ps_for PassesOwn.never rfl (pi_list (pe_fld (pv 0) rfl)) (pg_name (i := 2) sc_Table_keeps.nd rfl (Or.inl rfl))
      (pss_one (ps_expr (pe_bm PySem.F.plainAttrs_list PySem.F.slot_list_extend PySem.F.type_list_extend mt_extend (pv 1) (pa_cons (pe_meth0 (pv 2) T.c_Bucket T.t_Bucket_names (ok_Bucket_names T) hr T.b_Bucket_names .nil pass0) pa_nil)))))
      (pss_one (ps_ret (pe_callB cr_sortedI (by rfl) T.z_sorted (by decide +kernel) (pa_cons (pv 1) pa_nil)))))), ?_⟩
    rw [Nn.st_Table_keeps]; try rw [Nn.cxK]
    walk_at "wx"
    refine ⟨len_ok rfl, fun d hd => ?_⟩
    walk_at "wx"
    refine ForW.by walk_list (fun i σ H' => ∃ v : Option V, σ = [some (.ref p), some (.ref d), v] ∧ Ex H H' ∧ H' d = some (.lst ((xss.take i).flatten.map nV))) ⟨none, rfl, Ex.new hd, upd_same⟩ (fun i σ H' _ ⟨_, _, e, _⟩ => e.ls (SqL.of h2)) ?_ ?_
    · rintro i x σ _ H1 hi ⟨v, rfl, ex, hd1⟩ ⟨rfl, hx⟩
      rw [List.length_map] at hi
      have hil : i < ls.length := by rw [ht.len]; omega
      have hix : i < xss.length := by rw [← L.len]; exact hil
      obtain rfl : x = .ref bs[i] := by
        rw [List.getElem?_map, List.getElem?_eq_getElem hi] at hx
        exact (Option.some.inj hx).symm
      have hb := (h4 i _ _ (List.getElem?_eq_getElem hi) (List.getElem?_eq_getElem hil)).fr ex id
      obtain ⟨dy, hob⟩ := hb.ob
      have hL := ex.at (L.at_ i _ _ (List.getElem?_eq_getElem hil) (List.getElem?_eq_getElem hix))
      have et : xss.take (i + 1) = xss.take i ++ [xss[i]] := by rw [List.take_add_one, List.getElem?_eq_getElem hix]; rfl
      have hlen := flat_le (xss := xss) (i + 1)
      rw [et, List.flatten_append, List.length_append, List.flatten_singleton] at hlen
      walk_at "wx"
      refine wc_Bucket_names hb hL fun r hr => ?_
      have hd2 : upd H1 r (.lst (xss[i].map nV)) d = some (.lst ((xss.take i).flatten.map nV)) := at_new hr hd1
      walk_at "wx"
      refine x_extend hd2 upd_same (by rw [sizeLine_eq, List.length_map, List.length_map]; omega) ?_
      refine ⟨_, rfl, (ex.newT hr).mut hd hd2, ?_⟩
      rw [upd_same, et, List.flatten_append, List.map_append, List.flatten_singleton]
    · rintro σ H1 ⟨v, rfl, ex, hd1⟩
      rw [List.length_map, h3, ← ht.len, L.len, List.take_length] at hd1
      walk_at "wx"
      refine x_sortN (SqL.of hd1) nd fun r hr => ?_
      exact q r _ (ex.back r hr) (ex.newT hr) upd_same
end
end Nn
/-! tables: drops, bucket, nearest -/
namespace Nn
open PySem L2
def oN : Option Nat → V
  | none => .non
  | some n => nV n
/-- the so many that are nearest of ks but one -/
def nearN (ks : List Nat) (g m : Nat) (b : Option Nat) : List Nat := (byN g (ks.filter fun n => !decide (some n = b))).take m
theorem oN_eq {n : Nat} {b : Option Nat} : decide (nV n = oN b) = decide (some n = b) := by
  cases b with
  | none => simp [oN, nV]
  | some k =>
    refine decide_eq_decide.mpr ⟨fun h => ?_, fun h => ?_⟩
    · have h : V.int (n : Int) = V.int (k : Int) := h
      injection h with h; rw [Int.ofNat.inj h]
    · cases h; rfl
theorem oN_scal {n : Nat} {b : Option Nat} : scal (nV n) (oN b) = true := by
  cases b <;> rfl
theorem cmp_nV (n : Nat) (b : Option Nat) : (!decide (nV n = oN b)) = (!decide (some n = b)) := by rw [oN_eq]
section
variable {P : Program} {w : World} {K : PySem.W.Frag} {mg : Str → Option Value} {base : Heap} {H : Hp} {Q : VK} {E : XK}
/-- the lines behind dropping of n -/
def tabD (own : Nat) (xss : List (List Nat)) (n : Nat) : List (List Nat) :=
  if n = own then xss else xss.set (stepN own n) ((xss.getD (stepN own n) []).erase n)
def tabDW (own : Nat) (xss : List (List Nat)) (n : Nat) : Bool := !decide (n = own) && decide (n ∈ xss.getD (stepN own n) [])
def sp_Table_drops (T : Tx K mg base) : Sp := fun vs H Q _ => ∃ (p : Addr) (own wide room n : Nat) (ls : List Addr) (xss : List (List Nat)), vs = [.ref p, .int n] ∧ TabAt T H p own wide room ls ∧ Lines H ls xss ∧ own < 2 ^ wide ∧ n < 2 ^ wide ∧
  ∀ H', Fr (fun a => a ∈ ls) H H' → Lines H' ls (tabD own xss n) → Q (.bl (tabDW own xss n)) H'
theorem wc_Table_drops {T : Tx K mg base} {p : Addr} {own wide room n : Nat} {ls : List Addr} {xss : List (List Nat)} (t : TabAt T H p own wide room ls) (L : Lines H ls xss) (ho : own < 2 ^ wide) (hn : n < 2 ^ wide)
    (h : ∀ H', Fr (fun a => a ∈ ls) H H' → Lines H' ls (tabD own xss n) → Q (.bl (tabDW own xss n)) H') : sp_Table_drops T [.ref p, .int n] H Q E := ⟨p, own, wide, room, n, ls, xss, rfl, t, L, ho, hn, h⟩
theorem set_self {α : Type} {xs : List α} {k : Nat} {x : α} (h : xs[k]? = some x) : xs.set k x = xs := by
  refine List.ext_getElem? fun j => ?_
  by_cases e : k = j
  · subst e
    rw [List.getElem?_set_self (List.getElem?_eq_some_iff.mp h).1, h]
  · rw [List.getElem?_set_ne e]
theorem ok_Table_drops (T : Tx K mg base) : FnOk P w K mg base CX0 4 T.a_Table_drops T.d_Table_drops ["self", "name"] (sp_Table_drops T) := by
  refine T.F_Table_drops.okD sc_Table_drops (fun vs H Q E h => ?_) (fun cdv A outer s H vs Q E hr h => ?_)
  · obtain ⟨p, own, wide, room, n, ls, xss, rfl, _⟩ := h; rfl
  · obtain ⟨p, own, wide, room, n, ls, xss, rfl, ht, L, ho, hn, q⟩ := h
    obtain ⟨dx, bl, bs, h1, h2, h3, h4⟩ := ht.ob
    have c_Bucket := T.c_Bucket; have n_Bucket_room := T.n_Bucket_room; have n_Bucket_line := T.n_Bucket_line; have c_Table := T.c_Table; have n_Table_own := T.n_Table_own; have n_Table_wide := T.n_Table_wide; have n_Table_room := T.n_Table_room; have n_Table_buckets := T.n_Table_buckets
    refine ⟨_, (pss_cons (ps_if (pt_cmpR op_eq (pv 1) (pe_fld (pv 0) rfl) (nomark _))
      (pss_one (ps_ret pe_bl))
      pss_nil)
      (pss_one (ps_ret (pe_meth (pe_meth (pv 0) T.c_Table T.t_Table_bucket_for (ok_Table_bucket_for T) hr T.b_Table_bucket_for .nil pass0 (pa_cons (pv 1) pa_nil)) T.c_Bucket T.t_Bucket_drops (ok_Bucket_drops T) (hr.mono (by decide)) T.b_Bucket_drops .nil pass0 (pa_cons (pv 1) pa_nil))))), ?_⟩
    rw [Nn.st_Table_drops]; try rw [Nn.cxK]
    walk_at "wx"
    refine x_ifD (fun e => ?_) fun e => ?_
    · walk_at "wx"
      have e : n = own := Int.ofNat.inj e
      have q1 := q H Fr.refl
      unfold tabD tabDW at q1
      rw [if_pos e, decide_eq_true e] at q1
      exact q1 L
    · have e : n ≠ own := fun z => e (by rw [z])
      have hs : stepN own n < wide := stepN_lt ho hn (Ne.symm e)
      walk_at "wx"
      refine wc_Table_bucket_for ht e hs fun b l hl hb => ?_
      obtain ⟨dy, hob⟩ := hb.ob
      have hk : stepN own n < xss.length := by rw [← L.len, ht.len]; exact hs
      have hL := L.at_ _ l _ hl (List.getElem?_eq_getElem hk)
      have eg : xss.getD (stepN own n) [] = xss[stepN own n] := by rw [List.getD_eq_getElem?_getD, List.getElem?_eq_getElem hk]; rfl
      unfold tabD tabDW at q
      rw [if_neg e, decide_eq_false e, eg] at q
      walk_at "wx"
      refine ⟨b, l, room, _, n, rfl, hb, hL, fun hin => ?_, fun hin fr => ?_⟩
      · have q1 := q H Fr.refl
        rw [List.erase_of_not_mem hin, set_self (List.getElem?_eq_getElem hk), decide_eq_false hin] at q1
        exact q1 L
      · rw [decide_eq_true hin] at q
        exact q _ (fr.mono fun x z => by rw [z]; exact List.mem_of_getElem? hl) (L.upd hl fr upd_same)
def sp_Table_bucket (T : Tx K mg base) : Sp := fun vs H Q _ => ∃ (p : Addr) (own wide room k : Nat) (ls : List Addr) (xss : List (List Nat)), vs = [.ref p, .int k] ∧ TabAt T H p own wide room ls ∧ Lines H ls xss ∧ k < wide ∧
  ∀ q, H q = none → Q (.ref q) (upd H q (.lst ((xss.getD k []).map nV)))
theorem wc_Table_bucket {T : Tx K mg base} {p : Addr} {own wide room k : Nat} {ls : List Addr} {xss : List (List Nat)} (t : TabAt T H p own wide room ls) (L : Lines H ls xss) (hk : k < wide)
    (h : ∀ q, H q = none → Q (.ref q) (upd H q (.lst ((xss.getD k []).map nV)))) : sp_Table_bucket T [.ref p, .int k] H Q E := ⟨p, own, wide, room, k, ls, xss, rfl, t, L, hk, h⟩
theorem ok_Table_bucket (T : Tx K mg base) : FnOk P w K mg base CX0 2 T.a_Table_bucket T.d_Table_bucket ["self", "k"] (sp_Table_bucket T) := by
  refine T.F_Table_bucket.okD sc_Table_bucket (fun vs H Q E h => ?_) (fun cdv A outer s H vs Q E hr h => ?_)
  · obtain ⟨p, own, wide, room, k, ls, xss, rfl, _⟩ := h; rfl
  · obtain ⟨p, own, wide, room, k, ls, xss, rfl, ht, L, hk, q⟩ := h
    obtain ⟨dx, bl, bs, h1, h2, h3, h4⟩ := ht.ob
    have hkb : k < bs.length := by omega
    have hkl : k < ls.length := by rw [ht.len]; exact hk
    have hkx : k < xss.length := by rw [← L.len]; exact hkl
    have hb := h4 _ _ _ (List.getElem?_eq_getElem hkb) (List.getElem?_eq_getElem hkl)
    obtain ⟨dy, hob⟩ := hb.ob
    have hL := L.at_ _ _ _ (List.getElem?_eq_getElem hkl) (List.getElem?_eq_getElem hkx)
    have eg : xss.getD k [] = xss[k] := by rw [List.getD_eq_getElem?_getD, List.getElem?_eq_getElem hkx]; rfl
    rw [eg] at q
    have c_Bucket := T.c_Bucket; have n_Bucket_room := T.n_Bucket_room; have n_Bucket_line := T.n_Bucket_line; have c_Table := T.c_Table; have n_Table_own := T.n_Table_own; have n_Table_wide := T.n_Table_wide; have n_Table_room := T.n_Table_room; have n_Table_buckets := T.n_Table_buckets
    refine ⟨_, (pss_one (ps_ret (pe_meth0 (pe_ix ix_list (pe_fld (pv 0) rfl) (pv 1) (fun _ _ => rfl)) T.c_Bucket T.t_Bucket_names (ok_Bucket_names T) hr T.b_Bucket_names .nil pass0))), ?_⟩
    rw [Nn.st_Table_bucket]; try rw [Nn.cxK]
    walk_at "wx"
    refine x_ixL (v := .ref bs[k]) (SqL.of h2) (atI_nat (by simp [hkb])) ?_
    walk_at "wx"
    exact wc_Bucket_names hb hL q
end
end Nn
/-! tables kept well -/
namespace Nn
/-- a table's lines, each name at its own step -/
structure TabOk (own wide room : Nat) (S : Nat → Prop) (xss : List (List Nat)) : Prop where
  len : xss.length = wide
  at_ : ∀ (k : Nat) (xs : List Nat), xss[k]? = some xs → xs.Nodup ∧ xs.length ≤ room ∧ ∀ x ∈ xs, x ≠ own ∧ stepN own x = k ∧ S x
theorem nodup_erase {n : Nat} {xs : List Nat} (h : xs.Nodup) : (xs.erase n).Nodup := h.sublist (List.erase_sublist ..)
theorem hear_mem {room n z : Nat} {xs : List Nat} {a : Bool} (h : z ∈ hearL room xs n a) (h0 : 0 < room) : z ∈ xs ∨ z = n := by
  unfold hearL at h
  split at h
  · rcases List.mem_append.mp h with h | h
    · exact .inl (List.mem_of_mem_erase h)
    · exact .inr (List.mem_singleton.mp h)
  · split at h
    · rcases List.mem_append.mp h with h | h
      · exact .inl h
      · exact .inr (List.mem_singleton.mp h)
    · cases xs with
      | nil => rename_i q; simp at q; omega
      | cons x r =>
        split at h
        · rcases List.mem_append.mp h with h | h
          · exact .inl (List.mem_cons_of_mem _ h)
          · exact .inl (by rw [List.mem_singleton.mp h]; simp)
        · rcases List.mem_append.mp h with h | h
          · exact .inl (List.mem_cons_of_mem _ h)
          · exact .inr (List.mem_singleton.mp h)
theorem nodup_snoc {n : Nat} {xs : List Nat} (h : xs.Nodup) (hn : n ∉ xs) : (xs ++ [n]).Nodup := List.nodup_append.mpr ⟨h, by simp, fun a ha b hb e => hn (by rw [← List.mem_singleton.mp hb, ← e]; exact ha)⟩
theorem hear_ok {room n : Nat} {xs : List Nat} {a : Bool} (h : xs.Nodup) (hl : xs.length ≤ room) (h0 : 0 < room) : (hearL room xs n a).Nodup ∧ (hearL room xs n a).length ≤ room := by
  unfold hearL
  by_cases hn : n ∈ xs
  · rw [if_pos hn]
    refine ⟨nodup_snoc (nodup_erase h) fun z => (h.mem_erase_iff.mp z).1 rfl, ?_⟩
    have hp : 0 < xs.length := List.length_pos_of_mem hn
    rw [List.length_append, List.length_erase_of_mem hn, List.length_singleton]; omega
  · rw [if_neg hn]
    by_cases hr : xs.length < room
    · rw [if_pos hr]
      exact ⟨nodup_snoc h hn, by rw [List.length_append, List.length_singleton]; omega⟩
    · rw [if_neg hr]
      cases xs with
      | nil => simp at hr; omega
      | cons x r =>
        have h1 := List.nodup_cons.mp h
        simp only [List.tail_cons, List.headD_cons]
        cases a with
        | true => exact ⟨nodup_snoc h1.2 h1.1, by simpa using hl⟩
        | false => exact ⟨nodup_snoc h1.2 fun z => hn (List.mem_cons_of_mem _ z), by simpa using hl⟩
theorem TabOk.hear {own wide room n : Nat} {S : Nat → Prop} {xss : List (List Nat)} {a : Nat → Bool} (t : TabOk own wide room S xss) (h0 : 0 < room) (hn : S n) : TabOk own wide room S (tabL own room xss n a) := by
  unfold tabL
  by_cases e : n = own
  · rw [if_pos e]; exact t
  · rw [if_neg e]
    refine ⟨by rw [List.length_set]; exact t.len, fun k xs hk => ?_⟩
    by_cases hs : stepN own n = k
    · subst hs
      have hlt : stepN own n < xss.length := by
        have := (List.getElem?_eq_some_iff.mp hk).1
        simpa using this
      rw [List.getElem?_set_self hlt] at hk
      cases hk
      obtain ⟨h1, h2, h3⟩ := t.at_ _ _ (List.getElem?_eq_getElem hlt)
      have eg : xss.getD (stepN own n) [] = xss[stepN own n] := by rw [List.getD_eq_getElem?_getD, List.getElem?_eq_getElem hlt]; rfl
      rw [eg]
      obtain ⟨a1, a2⟩ := hear_ok (n := n) (a := a (xss[stepN own n].headD 0)) h1 h2 h0
      refine ⟨a1, a2, fun x hx => ?_⟩
      rcases hear_mem hx h0 with z | z
      · exact h3 x z
      · rw [z]; exact ⟨e, rfl, hn⟩
    · rw [List.getElem?_set_ne hs] at hk
      exact t.at_ k xs hk
theorem TabOk.nil {own wide room : Nat} {S : Nat → Prop} : TabOk own wide room S (List.replicate wide []) := ⟨by simp, fun k xs hk => by
  rw [List.getElem?_replicate] at hk
  split at hk
  · cases hk; simp
  · cases hk⟩
theorem TabOk.nodup {own wide room : Nat} {S : Nat → Prop} {xss : List (List Nat)} (t : TabOk own wide room S xss) : xss.flatten.Nodup := by
  refine List.pairwise_flatten.mpr ⟨fun xs hx => ?_, ?_⟩
  · obtain ⟨k, hk⟩ := List.getElem?_of_mem hx
    exact (t.at_ k xs hk).1
  · refine List.pairwise_iff_getElem.mpr fun i j hi hj hij => ?_
    intro a b1 b c1 e
    have h1 := ((t.at_ i _ (List.getElem?_eq_getElem hi)).2.2 a b1).2.1
    have h2 := ((t.at_ j _ (List.getElem?_eq_getElem hj)).2.2 b c1).2.1
    rw [e] at h1; omega
theorem TabOk.mem {own wide room : Nat} {S : Nat → Prop} {xss : List (List Nat)} (t : TabOk own wide room S xss) {x : Nat} (h : x ∈ xss.flatten) : S x := by
  obtain ⟨xs, h1, h2⟩ := List.mem_flatten.mp h
  obtain ⟨k, hk⟩ := List.getElem?_of_mem h1
  exact ((t.at_ k xs hk).2.2 x h2).2.2
theorem TabOk.row {own wide room : Nat} {S : Nat → Prop} {xss : List (List Nat)} (t : TabOk own wide room S xss) : ∀ xs ∈ xss, xs.length ≤ room := fun xs h => by
  obtain ⟨k, hk⟩ := List.getElem?_of_mem h
  exact (t.at_ k xs hk).2.1
theorem TabOk.setL {own wide room k : Nat} {S : Nat → Prop} {xss : List (List Nat)} {ys : List Nat} (t : TabOk own wide room S xss) (h : ∀ xs, xss[k]? = some xs → ys.Nodup ∧ ys.length ≤ room ∧ ∀ x ∈ ys, x ≠ own ∧ stepN own x = k ∧ S x) : TabOk own wide room S (xss.set k ys) := by
  refine ⟨by rw [List.length_set]; exact t.len, fun j xs hj => ?_⟩
  by_cases e : k = j
  · subst e
    have hlt : k < xss.length := by
      have := (List.getElem?_eq_some_iff.mp hj).1
      simpa using this
    rw [List.getElem?_set_self hlt] at hj
    cases hj
    exact h _ (List.getElem?_eq_getElem hlt)
  · rw [List.getElem?_set_ne e] at hj
    exact t.at_ j xs hj
theorem TabOk.drop {own wide room n : Nat} {S : Nat → Prop} {xss : List (List Nat)} (t : TabOk own wide room S xss) : TabOk own wide room S (tabD own xss n) := by
  unfold tabD
  by_cases e : n = own
  · rw [if_pos e]; exact t
  · rw [if_neg e]
    refine t.setL fun xs hx => ?_
    have eg : xss.getD (stepN own n) [] = xs := by rw [List.getD_eq_getElem?_getD, hx]; rfl
    obtain ⟨h1, h2, h3⟩ := t.at_ _ _ hx
    rw [eg]
    exact ⟨h1.erase n, Nat.le_trans (List.length_erase_le ..) h2, fun x hx => h3 x (List.mem_of_mem_erase hx)⟩
end Nn
namespace Nn
open PySem L2
def lastD (x : Nat) : Nat → Option Nat
  | 0 => none
  | i + 1 => if x / 2 ^ i % 2 = 1 then some i else lastD x i
theorem lastD_eq (x : Nat) : ∀ i, lastD x i = if x % 2 ^ i = 0 then none else some (x % 2 ^ i).log2
  | 0 => by simp [lastD, Nat.mod_one]
  | i + 1 => by
    have hp := Nat.two_pow_pos i
    have h1 := mod_pow_succ x i
    have h2 : x % 2 ^ i < 2 ^ i := Nat.mod_lt _ hp
    unfold lastD
    by_cases h : x / 2 ^ i % 2 = 1
    · rw [if_pos h]
      rw [h] at h1
      have hne : x % 2 ^ (i + 1) ≠ 0 := by omega
      rw [if_neg hne]
      congr 1
      refine ((log2_eq hne).mpr ?_).symm
      rw [h1]
      exact Nat.div_eq_of_lt_le (by omega) (by omega)
    · rw [if_neg h, lastD_eq x i]
      have h0 : x / 2 ^ i % 2 = 0 := by omega
      rw [h0] at h1
      have e : x % 2 ^ (i + 1) = x % 2 ^ i := by omega
      rw [e]
theorem lastD_step {a b w : Nat} (ha : a < 2 ^ w) (hb : b < 2 ^ w) : lastD (a ^^^ b) w = if a = b then none else some (stepN a b) := by
  rw [lastD_eq, Nat.mod_eq_of_lt (Nat.xor_lt_two_pow ha hb)]
  by_cases h : a = b
  · rw [if_pos h, h, Nat.xor_self, if_pos rfl]
  · rw [if_neg h, if_neg (xor_ne_zero h)]; rfl
theorem bit_ne (a b i : Nat) : (a : Int) / 2 ^ (i : Int).toNat % 2 = (b : Int) / 2 ^ (i : Int).toNat % 2 ↔ ¬ (a ^^^ b) / 2 ^ i % 2 = 1 := by
  have h1 : (a : Int) / 2 ^ (i : Int).toNat % 2 = ((a / 2 ^ i % 2 : Nat) : Int) := by simp
  have h2 : (b : Int) / 2 ^ (i : Int).toNat % 2 = ((b / 2 ^ i % 2 : Nat) : Int) := by simp
  rw [h1, h2, xor_div_pow, xor_mod_two]
  constructor
  · intro h
    have h : a / 2 ^ i % 2 = b / 2 ^ i % 2 := by omega
    rw [if_neg (by omega)]; omega
  · intro h
    by_cases e : a / 2 ^ i % 2 = b / 2 ^ i % 2
    · rw [e]
    · exact absurd (if_pos e) h
def oV : Option Nat → V
  | none => .non
  | some n => nV n
section
variable {P : Program} {w : World} {K : PySem.W.Frag} {mg : Str → Option Value} {base : Heap} {H : Hp} {Q : VK} {E : XK}
def sp_l_step (_ : Tx K mg base) : Sp := fun vs H Q E => ∃ (a : Nat) (b : Nat) (w : Nat), vs = [.int a, .int b, .int w] ∧ (a < 2 ^ w ∧ b < 2 ^ w ∧ w ≤ 60) ∧ (Q (oV (if a = b then none else some (stepN a b))) H)
theorem wc_l_step {T : Tx K mg base} {a : Nat} {b : Nat} {w : Nat} {i0 : Int} {i1 : Int} {i2 : Int} (e0 : i0 = a) (e1 : i1 = b) (e2 : i2 = w) (c0 : a < 2 ^ w ∧ b < 2 ^ w ∧ w ≤ 60) (h : Q (oV (if a = b then none else some (stepN a b))) H) : sp_l_step T [.int i0, .int i1, .int i2] H Q E := by
  subst e0 e1 e2
  exact ⟨a, b, w, rfl, c0, h⟩
theorem ok_l_step (T : Tx K mg base) : FnOk P w K mg base CX0 1 T.a_l_step T.d_l_step ["_law_one", "_law_other", "_law_wide_here"] (sp_l_step T) := by
  refine T.F_l_step.okD sc_l_step (fun vs H Q E h => ?_) (fun cdv A outer s H vs Q E hr h => ?_)
  · obtain ⟨a, b, w, rfl, hpre, q⟩ := h; rfl
  · obtain ⟨a, b, w, rfl, hpre, q⟩ := h
    have hu := hu_of hr
    have c_Bucket := T.c_Bucket; have n_Bucket_room := T.n_Bucket_room; have n_Bucket_line := T.n_Bucket_line; have c_Table := T.c_Table; have n_Table_own := T.n_Table_own; have n_Table_wide := T.n_Table_wide; have n_Table_room := T.n_Table_room; have n_Table_buckets := T.n_Table_buckets
    refine ⟨_, (pss_cons (ps_set (i := 3) sc_l_step.nd rfl (Or.inl rfl) pe_non)
      (pss_cons (ps_for PassesOwn.never rfl (pi_range1 rfl T.z_range (pa_cons (pv 2) pa_nil)) (pg_name (i := 4) sc_l_step.nd rfl (Or.inl rfl))
      (pss_one (ps_if (pt_cmpR op_ne (pe_op op_mod (pe_op op_shr (pv 0) (pv 4)) pe_int) (pe_op op_mod (pe_op op_shr (pv 1) (pv 4)) pe_int) (nomark _))
      (pss_one (ps_set (i := 3) sc_l_step.nd rfl (Or.inl rfl) (pv 4)))
      pss_nil)))
      (pss_one (ps_ret (pv 3))))), ?_⟩
    rw [Nn.st_l_step]; try rw [Nn.cxK]
    walk_at "wx"
    refine ForW.by walk_rgN (fun i σ H' => ∃ v, σ = [some (.int a), some (.int b), some (.int w), some (oV (lastD (a ^^^ b) i)), v] ∧ H' = H) ⟨none, rfl, rfl⟩ (fun _ _ _ _ _ => trivial) ?_ ?_
    · rintro i _ σ H1 _ hi ⟨v, rfl, rfl⟩ ⟨rfl, rfl⟩
      walk_at "wx"
      refine x_ifN (fun h => ?_) (fun h => ?_)
      · walk_at "wx"
        rw [bit_ne] at h
        have e : lastD (a ^^^ b) (i + 1) = some i := if_pos (Decidable.not_not.mp h)
        refine ⟨some (.int i), ?_, rfl⟩
        rw [e]; rfl
      · walk_at "wx"
        rw [bit_ne] at h
        have e : lastD (a ^^^ b) (i + 1) = lastD (a ^^^ b) i := if_neg h
        refine ⟨some (.int i), ?_, rfl⟩
        rw [e]
    · rintro σ H1 ⟨v, rfl, rfl⟩
      walk_at "wx"
      rw [lastD_step hpre.1 hpre.2.1]
      exact q
end
end Nn
local macro_rules | `(tactic| walk_at "wc") => `(tactic| ((with_reducible refine' Nn.wc_l_step ?hE0 ?hE1 ?hE2 ?hC0 (?_)); (case hE0 => walk_at "wnat"); (case hE1 => walk_at "wnat"); (case hE2 => walk_at "wnat"); (case hC0 => walk_at "wpre")))
/-! what a bucket hears, by a list of the law -/
namespace Nn
open PySem L2
section
variable {P : Program} {w : World} {K : PySem.W.Frag} {mg : Str → Option Value} {base : Heap} {H : Hp} {Q : VK} {E : XK}
def sp_l_heard (_ : Tx K mg base) : Sp := fun vs H Q E => ∃ (p_xs : Addr) (xs : List Nat) (room : Nat) (n : Nat) (p_ss : Addr) (ss : List Nat), vs = [.ref p_xs, .int room, .int n, .ref p_ss] ∧ (SqL K H p_xs (xs.map nV)) ∧ (SqL K H p_ss (ss.map nV)) ∧ (H p_xs = some (.lst (xs.map nV)) ∧ p_xs ≠ p_ss ∧ 0 < room ∧ xs.length ≤ 100000) ∧ (∀ p pl H', H p = none → H pl = none → p ≠ pl → Fr (fun a => a = p_xs) H H' → H' p_xs = some (.lst ((hearL room xs n (!decide (xs.headD 0 ∈ ss))).map nV)) → H' pl = some (.lst ((askedL room xs n).map nV)) → H' p = some (.tup [.str (hearW room xs n (!decide (xs.headD 0 ∈ ss))), .ref pl]) → Q (.ref p) H')
theorem wc_l_heard {T : Tx K mg base} {p_xs : Addr} {xs : List Nat} {room : Nat} {n : Nat} {p_ss : Addr} {ss : List Nat} {i1 : Int} {i2 : Int} (e1 : i1 = room) (e2 : i2 = n) (c0 : SqL K H p_xs (xs.map nV)) (c1 : SqL K H p_ss (ss.map nV)) (c2 : H p_xs = some (.lst (xs.map nV)) ∧ p_xs ≠ p_ss ∧ 0 < room ∧ xs.length ≤ 100000) (h : ∀ p pl H', H p = none → H pl = none → p ≠ pl → Fr (fun a => a = p_xs) H H' → H' p_xs = some (.lst ((hearL room xs n (!decide (xs.headD 0 ∈ ss))).map nV)) → H' pl = some (.lst ((askedL room xs n).map nV)) → H' p = some (.tup [.str (hearW room xs n (!decide (xs.headD 0 ∈ ss))), .ref pl]) → Q (.ref p) H') : sp_l_heard T [.ref p_xs, .int i1, .int i2, .ref p_ss] H Q E := by
  subst e1 e2
  exact ⟨p_xs, xs, room, n, p_ss, ss, rfl, c0, c1, c2, h⟩
theorem ok_l_heard (T : Tx K mg base) : FnOk P w K mg base CX0 1 T.a_l_heard T.d_l_heard ["_law_line", "_law_room", "_law_name", "_law_silent"] (sp_l_heard T) := by
  refine T.F_l_heard.okD sc_l_heard (fun vs H Q E h => ?_) (fun cdv A outer s H vs Q E hr h => ?_)
  · obtain ⟨p_xs, xs, room, n, p_ss, ss, rfl, hS0, hS1, hpre, q⟩ := h; rfl
  · obtain ⟨p_xs, xs, room, n, p_ss, ss, rfl, hS0, hS1, hpre, q⟩ := h
    have hu := hu_of hr
    have c_Bucket := T.c_Bucket; have n_Bucket_room := T.n_Bucket_room; have n_Bucket_line := T.n_Bucket_line; have c_Table := T.c_Table; have n_Table_own := T.n_Table_own; have n_Table_wide := T.n_Table_wide; have n_Table_room := T.n_Table_room; have n_Table_buckets := T.n_Table_buckets
    refine ⟨_, (pss_cons (ps_if (pt_cmpR op_in_seq (pv 2) (pv 0) rfl)
      (pss_cons (ps_expr (pe_bm PySem.F.plainAttrs_list PySem.F.slot_list_remove PySem.F.type_list_remove mt_remove (pv 0) (pa_cons (pv 2) pa_nil)))
      (pss_cons (ps_expr (pe_bm PySem.F.plainAttrs_list PySem.F.slot_list_append PySem.F.type_list_append mt_append (pv 0) (pa_cons (pv 2) pa_nil)))
      (pss_one (ps_ret (pe_tup (pa_cons pe_str (pa_cons (pe_lst pa_nil) pa_nil)))))))
      pss_nil)
      (pss_cons (ps_if (pt_cmpR op_lt (pe_callB cb_len (by rfl) T.z_len PySem.boot_len (pa_cons (pv 0) pa_nil)) (pv 1) (nomark _))
      (pss_cons (ps_expr (pe_bm PySem.F.plainAttrs_list PySem.F.slot_list_append PySem.F.type_list_append mt_append (pv 0) (pa_cons (pv 2) pa_nil)))
      (pss_one (ps_ret (pe_tup (pa_cons pe_str (pa_cons (pe_lst pa_nil) pa_nil))))))
      pss_nil)
      (pss_cons (ps_set (i := 4) sc_l_heard.nd rfl (Or.inl rfl) (pe_bm PySem.F.plainAttrs_list PySem.F.slot_list_pop PySem.F.type_list_pop mt_popAt (pv 0) (pa_cons pe_int pa_nil)))
      (pss_cons (ps_if (pt_cmpR op_in_seq (pv 4) (pv 3) rfl)
      (pss_cons (ps_expr (pe_bm PySem.F.plainAttrs_list PySem.F.slot_list_append PySem.F.type_list_append mt_append (pv 0) (pa_cons (pv 2) pa_nil)))
      (pss_one (ps_ret (pe_tup (pa_cons pe_str (pa_cons (pe_lst (pa_cons (pv 4) pa_nil)) pa_nil))))))
      pss_nil)
      (pss_cons (ps_expr (pe_bm PySem.F.plainAttrs_list PySem.F.slot_list_append PySem.F.type_list_append mt_append (pv 0) (pa_cons (pv 4) pa_nil)))
      (pss_one (ps_ret (pe_tup (pa_cons pe_str (pa_cons (pe_lst (pa_cons (pv 4) pa_nil)) pa_nil)))))))))), ?_⟩
    rw [Nn.st_l_heard]; try rw [Nn.cxK]
    walk_at "wx"
    obtain ⟨hx, hne, r0, x1⟩ := hpre
    have fin : ∀ (ys : List Nat) (z : Str) (as : List Nat) (H1 : Hp), Fr (fun a => a = p_xs) H H1 → H1 p_xs = some (.lst (ys.map nV)) → hearL room xs n (!decide (xs.headD 0 ∈ ss)) = ys → hearW room xs n (!decide (xs.headD 0 ∈ ss)) = z → askedL room xs n = as →
        ∀ pl, H1 pl = none → ∀ p, upd H1 pl (.lst (as.map nV)) p = none → Q (.ref p) (upd (upd H1 pl (.lst (as.map nV))) p (.tup [.str z, .ref pl])) := by
      intro ys z as H1 fr h1 e1 e2 e3 pl hpl p hp
      have hp1 := upd_back hp
      have npl : p ≠ pl := fun e => by rw [e, upd_same] at hp; cases hp
      subst e1 e2 e3
      refine q p pl _ (fr.back p hp1) (fr.back pl hpl) npl ((fr.trans (Ex.new hpl).fr).trans (Ex.new hp).fr) (at_new hp (at_new hpl h1)) (at_new hp upd_same) upd_same
    refine x_ifD (fun hn => ?_) fun hn => ?_
    · walk_at "wx"
      refine x_remove rfl hx hn ?_
      walk_at "wx"
      refine x_append upd_same (by rw [sizeLine_eq, List.length_map, List.length_erase_of_mem hn]; omega) ?_
      rw [upd_upd]
      walk_at "wx"
      refine ⟨len_ok rfl, fun pl hpl => ?_⟩
      refine ⟨len_ok rfl, fun p hp => ?_⟩
      refine fin (xs.erase n ++ [n]) "again" [] _ (Fr.upd1 hx) (by rw [upd_same, List.map_append]; rfl) (hear_in hn).1 (hear_in hn).2 (if_pos hn) pl hpl p hp
    · walk_at "wx"
      refine x_ifD (fun hr1 => ?_) fun hr1 => ?_
      · walk_at "wx"
        rw [List.length_map] at hr1
        have e := hear_new (a := !decide (xs.headD 0 ∈ ss)) hn (Int.ofNat_lt.mp hr1)
        refine ⟨len_ok rfl, fun pl hpl => ?_⟩
        refine ⟨len_ok rfl, fun p hp => ?_⟩
        refine fin (xs ++ [n]) "new" [] _ (Fr.upd1 hx) (by rw [upd_same, List.map_append]; rfl) e.1 e.2 (by unfold askedL; rw [if_neg hn, if_pos (Int.ofNat_lt.mp hr1)]) pl hpl p hp
      · obtain ⟨x, r, rfl⟩ : ∃ x r, xs = x :: r := by
          cases xs with
          | nil => simp at hr1; omega
          | cons x r => exact ⟨x, r, rfl⟩
        rw [List.length_map] at hr1
        have hr2 : ¬ (x :: r).length < room := fun z => hr1 (Int.ofNat_lt.mpr z)
        have hrl : r.length < (x :: r).length := Nat.lt_succ_self _
        have ea : askedL room (x :: r) n = [x] := by unfold askedL; rw [if_neg hn, if_neg hr2]; rfl
        walk_at "wx"
        refine x_pop0 (xs := r.map nV) hx ?_
        walk_at "wx"
        have hSs : SqL K (upd H p_xs (.lst (r.map nV))) p_ss (ss.map nV) := by
          rcases hS1 with (h | ⟨o, h⟩) | h
          · exact .inl (.inl (by rw [upd_ne hne.symm]; exact h))
          · exact .inl (.inr ⟨o, by rw [upd_ne hne.symm]; exact h⟩)
          · exact .inr h
        refine x_inN rfl hSs ?_
        walk_at "wx"
        refine x_ifD (fun ha => ?_) fun ha => ?_
        · walk_at "wx"
          rw [upd_upd]
          have e := hear_inst (a := !decide (x ∈ ss)) hn hr2 (by rw [decide_eq_true ha]; rfl)
          refine ⟨len_ok rfl, fun pl hpl => ?_⟩
          refine ⟨len_ok rfl, fun p hp => ?_⟩
          exact fin (r ++ [n]) "instead" [x] _ (Fr.upd1 hx) (by rw [upd_same, List.map_append]; rfl) e.1 e.2 ea pl hpl p hp
        · walk_at "wx"
          rw [upd_upd]
          have e := hear_full (a := !decide (x ∈ ss)) hn hr2 (by rw [decide_eq_false ha]; rfl)
          refine ⟨len_ok rfl, fun pl hpl => ?_⟩
          refine ⟨len_ok rfl, fun p hp => ?_⟩
          exact fin (r ++ [x]) "full" [x] _ (Fr.upd1 hx) (by rw [upd_same, List.map_append]; rfl) e.1 e.2 ea pl hpl p hp
end
end Nn
/-! k13: tables -/
namespace Nn
open PySem L2
def spLaw (K : PySem.W.Frag) : Sp := fun vs H Q _ => ∃ (a : Addr) (ns : List Int), vs = [.ref a] ∧ SqL K H a (ns.map V.int) ∧ ns.length ≤ 63 ∧ Tabs0 K H ∧ ∀ H', Q (.bl true) H'
def sp_law (_ : Tx K mg base) : Sp := spLaw K
section
variable {P : Program} {w : World} {K : PySem.W.Frag} {mg : Str → Option Value} {base : Heap} {H : Hp} {Q : VK} {E : XK}
theorem flat_row {k : Nat} : ∀ {xss : List (List Nat)}, (∀ xs ∈ xss, xs.length ≤ k) → xss.flatten.length ≤ xss.length * k
  | [], _ => by simp
  | x :: r, h => by
    have h1 := h x (List.mem_cons_self ..)
    have h2 := flat_row (xss := r) fun y hy => h y (List.mem_cons_of_mem _ hy)
    rw [List.flatten_cons, List.length_append, List.length_cons, Nat.succ_mul]
    omega
def sp_l_looked (T : Tx K mg base) : Sp := fun vs H Q _ => ∃ (p pL : Addr) (own wide room : Nat) (ls ms : List Addr) (xss : List (List Nat)), vs = [.ref p, .ref pL, .int wide] ∧ TabAt T H p own wide room ls ∧ Lines H ls xss ∧ H pL = some (.lst (ms.map V.ref)) ∧ Lines H ms xss ∧ xss.flatten.Nodup ∧ xss.flatten.length ≤ 100000 ∧
  ∀ H', Ex H H' → Q (.bl true) H'
theorem wc_l_looked {T : Tx K mg base} {p pL : Addr} {own wide room : Nat} {i : Int} {ls ms : List Addr} {xss : List (List Nat)} (hi : i = wide) (t : TabAt T H p own wide room ls) (L : Lines H ls xss) (hp : H pL = some (.lst (ms.map V.ref))) (M : Lines H ms xss) (nd : xss.flatten.Nodup) (hz : xss.flatten.length ≤ 100000)
    (h : ∀ H', Ex H H' → Q (.bl true) H') : sp_l_looked T [.ref p, .ref pL, .int i] H Q E := ⟨p, pL, own, wide, room, ls, ms, xss, by rw [hi], t, L, hp, M, nd, hz, h⟩
theorem ok_l_looked (T : Tx K mg base) : FnOk P w K mg base CX0 3 T.a_l_looked T.d_l_looked ["_law_table", "_law_lines", "_law_wide_here"] (sp_l_looked T) := by
  refine T.F_l_looked.okD sc_l_looked (fun vs H Q E h => ?_) (fun cdv A outer s H vs Q E hr h => ?_)
  · obtain ⟨p, pL, own, wide, room, ls, ms, xss, rfl, _⟩ := h; rfl
  · obtain ⟨p, pL, own, wide, room, ls, ms, xss, rfl, ht, L, hpL, M, nd, hz, q⟩ := h
    obtain ⟨dx, bl, bs, h1, h2, h3, h4⟩ := ht.ob
    have hw := ht.w1
    have c_Bucket := T.c_Bucket; have n_Bucket_room := T.n_Bucket_room; have n_Bucket_line := T.n_Bucket_line; have c_Table := T.c_Table; have n_Table_own := T.n_Table_own; have n_Table_wide := T.n_Table_wide; have n_Table_room := T.n_Table_room; have n_Table_buckets := T.n_Table_buckets
    refine ⟨_, (pss_cons (ps_for PassesOwn.never rfl (pi_range1 rfl T.z_range (pa_cons (pv 2) pa_nil)) (pg_name (i := 3) sc_l_looked.nd rfl (Or.inl rfl))
      (pss_cons (ps_set (i := 4) sc_l_looked.nd rfl (Or.inl rfl) (pe_meth (pv 0) T.c_Table T.t_Table_bucket (ok_Table_bucket T) hr T.b_Table_bucket .nil pass0 (pa_cons (pv 3) pa_nil)))
      (pss_cons (ps_if (PW.pt (pw_or (pt_not (pt_val (pe_callB call_isi (by rfl) T.z_isinstance (by decide +kernel) (pa_cons (pv 4) (pa_cons (pe_bltn (v := .ty "list") rfl T.z_list (by decide +kernel) rfl) pa_nil))))) (pw_or1 (pt_cmpR (op_neD hr.units) (pv 4) (pe_ix ix_list (pv 1) (pv 3) (fun _ _ => rfl)) (nomark _)))))
      (pss_one (ps_ret pe_bl))
      pss_nil)
      (pss_one (ps_expr (pe_bm PySem.F.plainAttrs_list PySem.F.slot_list_append PySem.F.type_list_append mt_append (pv 4) (pa_cons (pe_un un_neg pe_int) pa_nil)))))))
      (pss_cons (ps_set (i := 5) sc_l_looked.nd rfl (Or.inl rfl) (pe_lst pa_nil))
      (pss_cons (ps_for PassesOwn.never rfl (pi_list (pv 1)) (pg_name (i := 6) sc_l_looked.nd rfl (Or.inl rfl))
      (pss_one (ps_set (i := 5) sc_l_looked.nd rfl (Or.inl rfl) (pe_op op_cat (pv 5) (pv 6)))))
      (pss_cons (ps_set (i := 4) sc_l_looked.nd rfl (Or.inl rfl) (pe_meth0 (pv 0) T.c_Table T.t_Table_keeps (ok_Table_keeps T) hr T.b_Table_keeps .nil pass0))
      (pss_cons (ps_if (PW.pt (pw_or (pt_not (pt_val (pe_callB call_isi (by rfl) T.z_isinstance (by decide +kernel) (pa_cons (pv 4) (pa_cons (pe_bltn (v := .ty "list") rfl T.z_list (by decide +kernel) rfl) pa_nil))))) (pw_or1 (pt_cmpR (op_neD hr.units) (pv 4) (pe_callB cr_sortedI (by rfl) T.z_sorted (by decide +kernel) (pa_cons (pv 5) pa_nil)) (nomark _)))))
      (pss_one (ps_ret pe_bl))
      pss_nil)
      (pss_cons (ps_expr (pe_bm0 PySem.F.plainAttrs_list PySem.F.slot_list_clear PySem.F.type_list_clear mt_clear (pv 4)))
      (pss_one (ps_ret pe_bl)))))))), ?_⟩
    rw [Nn.st_l_looked]; try rw [Nn.cxK]
    walk_at "wx"
    have hlx : xss.length = wide := by rw [← L.len, ht.len]
    have hlm : ms.length = wide := by rw [M.len, hlx]
    refine ForW.by walk_rgN (fun i σ H' => ∃ (v3 v4 : Option V), σ = [some (.ref p), some (.ref pL), some (.int wide), v3, v4, none, none] ∧ Ex H H') ⟨none, none, rfl, Ex.refl⟩ (fun _ _ _ _ _ => trivial) ?_ ?_
    · rintro i _ σ H1 _ hi ⟨v3, v4, rfl, ex⟩ ⟨rfl, rfl⟩
      have ht1 := ht.ex ex
      have L1 := L.ex ex
      have M1 := M.ex ex
      have hp1 := ex.at hpL
      obtain ⟨dx1, bl1, bs1, hob1, _⟩ := ht1.ob
      have hxi : i < xss.length := by omega
      have hmi : i < ms.length := by omega
      have eg : xss.getD i [] = xss[i] := by rw [List.getD_eq_getElem?_getD, List.getElem?_eq_getElem hxi]; rfl
      have hrow : xss[i].length ≤ 100000 := Nat.le_trans (List.sublist_flatten_of_mem (List.getElem_mem hxi)).length_le hz
      walk_at "wx"
      refine wc_Table_bucket ht1 L1 hi fun r hr => ?_
      have ex2 := Ex.new (o := .lst ((xss.getD i []).map nV)) hr
      have hp2 := ex2.at hp1
      have hm2 := ex2.at (M1.at_ i _ _ (List.getElem?_eq_getElem hmi) (List.getElem?_eq_getElem hxi))
      walk_at "wx"
      refine x_ixL (v := .ref ms[i]) (SqL.of hp2) (atI_nat (by simp [hmi])) ?_
      rw [eg] at hm2 ⊢
      walk_at "wx"
      exact ⟨_, _, rfl, (ex.newT hr).mut (ex.back r hr) upd_same⟩
    · rintro σ H1 ⟨v3, v4, rfl, ex⟩
      have hp1 := ex.at hpL
      walk_at "wx"
      refine ⟨len_ok rfl, fun d hd => ?_⟩
      have ex2 := ex.newT (o := .lst []) hd
      have hd2 := upd_same (H := H1) (a := d) (o := .lst [])
      have hp2 := ex2.at hpL
      generalize upd H1 d (.lst []) = H2 at ex2 hd2 hp2 ⊢
      walk_at "wx"
      refine ForW.by walk_list (fun i σ H' => ∃ (v6 : Option V) (d : Addr), σ = [some (.ref p), some (.ref pL), some (.int wide), v3, v4, some (.ref d), v6] ∧ Ex H H' ∧ H' d = some (.lst ((xss.take i).flatten.map nV))) ⟨none, d, rfl, ex2, hd2⟩ (fun i σ H' _ ⟨_, _, _, e, _⟩ => SqL.of (e.at hpL)) ?_ ?_
      · rintro i x σ _ H3 hi ⟨v6, d, rfl, ex3, hd3⟩ ⟨rfl, hx⟩
        rw [List.length_map] at hi
        have hix : i < xss.length := by omega
        obtain rfl : x = .ref ms[i] := by
          rw [List.getElem?_map, List.getElem?_eq_getElem hi] at hx
          exact (Option.some.inj hx).symm
        have hm3 := (M.ex ex3).at_ i _ _ (List.getElem?_eq_getElem hi) (List.getElem?_eq_getElem hix)
        have et : xss.take (i + 1) = xss.take i ++ [xss[i]] := by rw [List.take_add_one, List.getElem?_eq_getElem hix]; rfl
        have hlen := flat_le (xss := xss) (i + 1)
        rw [et, List.flatten_append, List.length_append, List.flatten_singleton] at hlen
        walk_at "wx"
        refine x_cat hd3 hm3 (by rw [sizeLine_eq, List.length_map, List.length_map]; omega) fun r hr => ?_
        refine ⟨_, r, rfl, ex3.newT hr, ?_⟩
        rw [upd_same, et, List.flatten_append, List.map_append, List.flatten_singleton]
      · rintro σ H3 ⟨v6, d, rfl, ex3, hd3⟩
        rw [List.length_map, hlm, ← hlx, List.take_length] at hd3
        have ht3 := ht.ex ex3
        have L3 := L.ex ex3
        obtain ⟨dx3, bl3, bs3, hob3, _⟩ := ht3.ob
        walk_at "wx"
        refine wc_Table_keeps ht3 L3 nd hz fun r H4 hr ex4 hr4 => ?_
        have hd4 := ex4.at hd3
        walk_at "wx"
        refine x_sortN (SqL.of hd4) nd fun r2 hr2 => ?_
        have hr5 := at_new (o := .lst ((sortU xss.flatten).map nV)) hr2 hr4
        walk_at "wx"
        refine x_clear hr5 ?_
        walk_at "wx"
        exact q _ (((ex3.trans ex4).newT hr2).mut ((ex3.back r hr)) hr5)
/-- the names of a table, each in its line -/
structure S13 (T : Tx K mg base) (H : Hp) (tp pL pn own wide room : Nat) (ls ms : List Addr) (xss : List (List Nat)) (ns : List Nat) : Prop where
  ht : TabAt T H tp own wide room ls
  L : Lines H ls xss
  hL : H pL = some (.lst (ms.map V.ref))
  M : Lines H ms xss
  hn : H pn = some (.lst (ns.map nV))
  tb : NdefX.TabsN (tabsL T) H
theorem S13.ex {T : Tx K mg base} {H H' : Hp} {tp pL pn own wide room : Nat} {ls ms : List Addr} {xss : List (List Nat)} {ns : List Nat} (s : S13 T H tp pL pn own wide room ls ms xss ns) (f : Ex H H') : S13 T H' tp pL pn own wide room ls ms xss ns :=
  ⟨s.ht.ex f, s.L.ex f, f.at s.hL, s.M.ex f, f.at s.hn, Fr.tabs f s.tb⟩
theorem S13.line {T : Tx K mg base} {H : Hp} {tp pL pn own wide room : Nat} {ls ms : List Addr} {xss : List (List Nat)} {ns : List Nat} (s : S13 T H tp pL pn own wide room ls ms xss ns) {a : Addr} (h : a ∈ ls ∨ a ∈ ms) : IsLine H a := h.elim s.L.is s.M.is
theorem S13.noL {T : Tx K mg base} {H : Hp} {tp pL pn own wide room : Nat} {ls ms : List Addr} {xss : List (List Nat)} {ns : List Nat} (s : S13 T H tp pL pn own wide room ls ms xss ns) : ¬ (pL ∈ ls ∨ pL ∈ ms) := fun z => by
  obtain ⟨ys, e⟩ := s.line z
  rw [s.hL] at e
  have h0 := s.ht.w0
  have h1 := s.ht.len
  have h2 := s.L.len
  have h3 := s.M.len
  exact refs_ne_ints (by omega) (Option.some.inj e)
theorem S13.fr {T : Tx K mg base} {S : Addr → Prop} {H H' : Hp} {tp pL pn own wide room : Nat} {ls ms : List Addr} {xss xss' : List (List Nat)} {ns : List Nat} (s : S13 T H tp pL pn own wide room ls ms xss ns) (f : Fr S H H') (h : ∀ a, S a → a ∈ ls ∨ a ∈ ms ∨ H a = none) (hn : ∀ a, a ∈ ls ∨ a ∈ ms → a ≠ pn) (L' : Lines H' ls xss') (M' : Lines H' ms xss') : S13 T H' tp pL pn own wide room ls ms xss' ns := by
  have sp : ∀ {a : Addr}, S a → (a ∈ ls ∨ a ∈ ms) ∨ H a = none := fun z => by
    rcases h _ z with z | z | z
    · exact .inl (.inl z)
    · exact .inl (.inr z)
    · exact .inr z
  refine ⟨s.ht.fr f fun a z => (sp z).imp s.line id, L', f.at s.hL fun z => ?_, M', f.at s.hn fun z => ?_, Fr.tabs f s.tb⟩
  · rcases sp z with z | z
    · exact s.noL z
    · rw [s.hL] at z; cases z
  · rcases sp z with z | z
    · exact hn _ z rfl
    · rw [s.hn] at z; cases z
theorem ok_law (T : Tx K mg base) : FnOk P w K mg base CX0 5 T.a_law T.d_law ["_law_script"] (sp_law T) := by
  refine T.F_law.okD sc_law (fun vs H Q E h => ?_) (fun cdv A outer s H vs Q E hr h => ?_)
  · obtain ⟨a, ns, rfl, _⟩ := h; rfl
  · obtain ⟨a, ns, rfl, hS, hlen, hT, q⟩ := h
    have hu := hu_of hr
    have c_Bucket := T.c_Bucket; have n_Bucket_room := T.n_Bucket_room; have n_Bucket_line := T.n_Bucket_line; have c_Table := T.c_Table; have n_Table_own := T.n_Table_own; have n_Table_wide := T.n_Table_wide; have n_Table_room := T.n_Table_room; have n_Table_buckets := T.n_Table_buckets
    refine ⟨_, (pss_cons (ps_set (i := 1) sc_law.nd rfl (Or.inl rfl) (pe_call (ok_l_wide T) (hr.mono (by decide)) rfl T.m_l_wide T.F_l_wide.kp T.b_l_wide .nil pass0 (pa_cons (pe_call (ok_l_cell_at T) (hr.mono (by decide)) rfl T.m_l_cell_at T.F_l_cell_at.kp T.b_l_cell_at .nil pass0 (pa_cons (pv 0) (pa_cons pe_int pa_nil))) pa_nil)))
      (pss_cons (ps_set (i := 2) sc_law.nd rfl (Or.inr rfl) (pe_call (ok_l_names T) (hr.mono (by decide)) rfl T.m_l_names T.F_l_names.kp T.b_l_names .nil pass0 (pa_cons (pe_call (ok_l_cell_at T) (hr.mono (by decide)) rfl T.m_l_cell_at T.F_l_cell_at.kp T.b_l_cell_at .nil pass0 (pa_cons (pv 0) (pa_cons pe_int pa_nil))) (pa_cons (pv 1) (pa_cons pe_int pa_nil)))))
      (pss_cons (ps_set (i := 3) sc_law.nd rfl (Or.inl rfl) (pe_ix ix_list (pv 2) pe_int (fun _ _ => rfl)))
      (pss_cons (ps_set (i := 4) sc_law.nd rfl (Or.inl rfl) (pe_op op_add pe_int (pe_op op_mod (pe_call (ok_l_cell_at T) (hr.mono (by decide)) rfl T.m_l_cell_at T.F_l_cell_at.kp T.b_l_cell_at .nil pass0 (pa_cons (pv 0) (pa_cons pe_int pa_nil))) pe_int)))
      (pss_cons (ps_set (i := 5) sc_law.nd rfl (Or.inl rfl) (pe_make T.M_Table (ok_Table_init T) hr rfl T.m_Table T.b_Table_init .nil pass0 (pa_cons (pv 3) (pa_cons (pv 1) (pa_cons (pv 4) pa_nil)))))
      (pss_cons (ps_setLc (i := 6) (own := [("_law_k", 7)]) (g := (gName 7)) (by rfl) sc_law.nd rfl rfl (sw_true rfl rfl rfl (by decide +kernel)) (pi_range1 rfl T.z_range (pa_cons (pv 1) pa_nil)) (blkOk_by (N := N_law) (sc := defScope s_law) (own := [("_law_k", 7)]) (by decide +kernel)) (fun _ _ _ _ _ => (pg_name (i := 7) sc_law.nd rfl (Or.inl rfl))) (fun _ _ _ _ _ => pts_nil) (fun _ _ _ _ _ => (pe_lst pa_nil)))
      (pss_cons (ps_for PassesOwn.never rfl (pi_list (pe_slice sl_list (pv 0) (po_some pe_int) (po_some pe_int))) (pg_name (i := 8) sc_law.nd rfl (Or.inr rfl))
      (pss_cons (ps_set (i := 8) sc_law.nd rfl (Or.inr rfl) (pe_callB cb_abs (by rfl) T.z_abs (by decide +kernel) (pa_cons (pv 8) pa_nil)))
      (pss_cons (ps_set (i := 9) sc_law.nd rfl (Or.inl rfl) (pe_ix ix_list (pv 2) (pe_op op_mod (pe_op op_fdivW (pv 8) pe_int) pe_int) (fun _ _ => rfl)))
      (pss_cons (ps_setLc (i := 10) (own := [("_law_k", 7)]) (g := (gName 7)) (by rfl) sc_law.nd rfl rfl (sw_true rfl rfl rfl (by decide +kernel)) (pi_range1 rfl T.z_range (pa_cons pe_int pa_nil)) (blkOk_by (N := N_law) (sc := defScope s_law) (own := [("_law_k", 7)]) (by decide +kernel)) (fun _ _ _ _ _ => (pg_name (i := 7) sc_law.nd rfl (Or.inl rfl))) (fun _ _ _ _ _ => pts_one ((pt_cmpR op_eq (pe_op op_mod (pe_op op_shr (pe_op op_fdivW (pv 8) pe_int) (pv 7)) pe_int) pe_int (nomark _)))) (fun _ _ _ _ _ => (pe_ix (ix_listK (K := K) rfl) (pv 2) (pv 7) (fun _ _ => rfl))))
      (pss_cons (ps_set (i := 11) sc_law.nd rfl (Or.inl rfl) (pe_call (ok_l_step T) (hr.mono (by decide)) rfl T.m_l_step T.F_l_step.kp T.b_l_step .nil pass0 (pa_cons (pv 3) (pa_cons (pv 9) (pa_cons (pv 1) pa_nil)))))
      (C8.pss_cut (ps_if (pt_cmpR op_eq (pe_op op_mod (pv 8) pe_int) pe_int (nomark _))
      (pss_cons (ps_set (i := 12) sc_law.nd rfl (Or.inl rfl) (pe_and (pe_cmpR op_notNn (pv 11) pe_non (nomark _)) (pe_one (pe_cmpR op_in_seq (pv 9) (pe_ix ix_list (pv 6) (pv 11) (fun _ _ => rfl)) rfl))))
      (pss_cons (ps_set (i := 13) sc_law.nd rfl (Or.inl rfl) (pe_meth (pv 5) T.c_Table T.t_Table_drops (ok_Table_drops T) hr T.b_Table_drops .nil pass0 (pa_cons (pv 9) pa_nil)))
      (pss_cons (ps_if (PW.pt (pw_or (pt_not (pt_val (pe_callB call_isi (by rfl) T.z_isinstance (by decide +kernel) (pa_cons (pv 13) (pa_cons (pe_bltn (v := .ty "bool") rfl T.z_bool (by decide +kernel) rfl) pa_nil))))) (pw_or1 (pt_cmpR op_ne (pv 13) (pv 12) (nomark _)))))
      (pss_one (ps_ret pe_bl))
      pss_nil)
      (pss_one (ps_if (pt_truth (pv 12) (by intro _; rfl))
      (pss_one (ps_expr (pe_bm PySem.F.plainAttrs_list PySem.F.slot_list_remove PySem.F.type_list_remove mt_remove (pe_ix ix_list (pv 6) (pv 11) (fun _ _ => rfl)) (pa_cons (pv 9) pa_nil))))
      pss_nil)))))
      (pss_cons (ps_set (i := 12) sc_law.nd rfl (Or.inl rfl) (pe_tup (pa_cons pe_str (pa_cons (pe_lst pa_nil) pa_nil))))
      (C8.pss_cut (ps_if (pt_cmpR op_notNn (pv 11) pe_non (nomark _))
      (pss_one (ps_set (i := 12) sc_law.nd rfl (Or.inl rfl) (pe_call (ok_l_heard T) (hr.mono (by decide)) rfl T.m_l_heard T.F_l_heard.kp T.b_l_heard .nil pass0 (pa_cons (pe_ix ix_list (pv 6) (pv 11) (fun _ _ => rfl)) (pa_cons (pv 4) (pa_cons (pv 9) (pa_cons (pv 10) pa_nil)))))))
      pss_nil)
      (pss_cons (ps_set (i := 14) sc_law.nd rfl (Or.inl rfl) (pe_lst pa_nil))
      (pss_one (ps_if (pt_cmpR (op_neD hr.units) (pe_tup (pa_cons (pe_meth (pv 5) T.c_Table T.t_Table_hears (ok_Table_hears T) hr T.b_Table_hears .nil pass0 (pa_cons (pv 9) (pa_cons (pe_call (ok_l_others T) (hr.mono (by decide)) rfl T.m_l_others T.F_l_others.kp T.b_l_others .nil pass0 (pa_cons (pv 14) (pa_cons (pv 10) pa_nil))) pa_nil))) (pa_cons (pv 14) pa_nil))) (pv 12) (nomark _))
      (pss_one (ps_ret pe_bl))
      pss_nil))))))
      (pss_one (ps_if (pt_not (pt_val (pe_call (ok_l_looked T) (hr.mono (by decide)) rfl T.m_l_looked T.F_l_looked.kp T.b_l_looked .nil pass0 (pa_cons (pv 5) (pa_cons (pv 6) (pa_cons (pv 1) pa_nil))))))
      (pss_one (ps_ret pe_bl))
      pss_nil))))))))
      (pss_one (ps_ret (pe_and (pe_cmpR (op_eqD hr.units) (pe_tup (pa_cons (pe_fld (pv 5) rfl) (pa_cons (pe_fld (pv 5) rfl) (pa_cons (pe_fld (pv 5) rfl) pa_nil)))) (pe_tup (pa_cons (pv 3) (pa_cons (pv 1) (pa_cons (pv 4) pa_nil)))) (nomark _)) (pe_one (pe_call (ok_l_looked T) (hr.mono (by decide)) rfl T.m_l_looked T.F_l_looked.kp T.b_l_looked .nil pass0 (pa_cons (pv 5) (pa_cons (pv 6) (pa_cons (pv 1) pa_nil))))))))))))))), ?_⟩
    rw [Nn.st_law]; try rw [Nn.cxK]
    walk_at "wx"
    refine wc_l_wide rfl fun wd H1 hw1 hw2 ex1 => ?_
    walk_at "wx"
    refine wc_l_names rfl rfl (m := 20) rfl hw2 (by decide) fun pn H2 xs hxl hxb hpn ex2 hpn2 => ?_
    have ex02 : Ex H H2 := ex1.trans ex2
    clear ex1 ex2
    walk_at "wx"
    have hx0 : xs[0]? = some (xs[0]'(by omega)) := List.getElem?_eq_getElem (by omega)
    generalize xs[0]'(by omega) = own at hx0
    have ho : own < 2 ^ wd := hxb own (List.mem_of_getElem? hx0)
    refine x_ixL (v := nV own) (SqL.of hpn2) (atI_nat (j := 0) (by rw [List.getElem?_map, hx0]; rfl)) ?_
    have hS2 := ex02.ls hS
    walk_at "wx"
    rename_i c2
    obtain ⟨room, hroom, r0, r1⟩ : ∃ room : Nat, (1 : Int) + (c2 : Int) % 8 = (room : Int) ∧ 0 < room ∧ room ≤ 8 := ⟨1 + c2 % 8, by omega, by omega, by omega⟩
    rw [hroom]
    refine x_make fun tp dx H3 htp ex3 htp3 => ?_
    refine ⟨tp, dx, own, wd, room, rfl, htp3, by omega, hw2, r0, r1, fun ls H4 hls fr4 ht4 hL4 => ⟨rfl, ?_⟩⟩
    have ex24 : Ex H2 H4 := fr4.ex ex3 fun y z => by rw [z]; exact htp
    have lsn : ∀ l ∈ ls, H2 l = none := fun l h => ex3.back l (hls l h)
    have hpn4 := ex24.at hpn2
    walk_at "wx"
    refine LcW.by1 walk_rgN (by rw [sizeLine_eq]; omega) (fun D i acc H' => Ex H4 H' ∧ ∃ ms : List Addr, acc = ms.map V.ref ∧ ms.length = i ∧ ms.Nodup ∧ ∀ m ∈ ms, H4 m = none ∧ m ≠ D ∧ H' m = some (.lst [])) ?_ (fun _ _ _ _ _ _ _ => trivial) ?_ ?_
    · intro D hD
      exact ⟨Ex.new hD, [], rfl, rfl, List.nodup_nil, by simp⟩
    · rintro D i acc x _ H5 hi hD ⟨ex, ms, rfl, hl, nd, hm⟩ hacc ⟨rfl, rfl⟩ Qe hQ
      walk_at "wx"
      refine ⟨len_ok rfl, fun m hm0 => ?_⟩
      have hD5 := at_new (o := .lst []) hm0 hacc
      have mD := ne_of_none hacc hm0
      refine hQ _ _ hD5 ⟨(ex.newT hm0).mut hD hD5, ms ++ [m], by simp, by simp [hl], nd_snoc nd (fun z => ?_), fun y hy => ?_⟩
      · rw [(hm m z).2.2] at hm0; cases hm0
      · rcases List.mem_append.mp hy with hy | hy
        · obtain ⟨a1, a2, a3⟩ := hm y hy
          exact ⟨a1, a2, by rw [upd_ne a2]; exact at_new hm0 a3⟩
        · rw [List.mem_singleton.mp hy]
          exact ⟨ex.back m hm0, mD.symm, by rw [upd_ne mD.symm]; exact upd_same⟩
    rintro pL acc H5 hpL ⟨ex45, ms, rfl, hml, mnd, hm⟩ hpL5 _
    have lm : ∀ l ∈ ls, ∀ m ∈ ms, l ≠ m := fun l hl m hm' z => by
      have e := (hm m hm').1
      obtain ⟨xs', e2⟩ := hL4.is hl
      rw [z, e] at e2; cases e2
    have ln : ∀ l ∈ ls, l ≠ pn := fun l hl z => by
      have e := lsn l hl
      rw [z, hpn2] at e; cases e
    have mn : ∀ m ∈ ms, m ≠ pn := fun m hm' z => by
      have e := (hm m hm').1
      rw [z, hpn4] at e; cases e
    have s5 : S13 T H5 tp pL pn own wd room ls ms (List.replicate wd []) xs := ⟨ht4.ex ex45, hL4.ex ex45, hpL5, ⟨mnd, by rw [hml, List.length_replicate], fun k m ys h1 h2 => by
      have e : ys = [] := by
        rw [List.getElem?_replicate] at h2
        split at h2
        · exact (Option.some.inj h2).symm
        · cases h2
      rw [e]
      exact (hm m (List.mem_of_getElem? h1)).2.2⟩, ex45.at hpn4, Fr.tabs (ex02.trans (ex24.trans ex45)) (tabs0 hT)⟩
    have hS5 := (ex24.trans ex45).ls hS2
    clear hm hls fr4 ht4 hL4 hpL5 hpn4 hpn2 ex45 ex24 lsn
    walk_at "wx"
    refine x_slL hS5 fun r hr => ?_
    have hit : ∀ x ∈ cutV (ns.map V.int) (some 3) (some 53), ∃ i : Int, x = .int i := fun x hx => by
      obtain ⟨i, _, rfl⟩ := List.mem_map.mp (cut_mem hx)
      exact ⟨i, rfl⟩
    generalize cutV (ns.map V.int) (some 3) (some 53) = its at hit ⊢
    have hr6 := upd_same (H := H5) (a := r) (o := .lst its)
    have rl : ∀ l ∈ ls, l ≠ r := fun l hl z => by
      obtain ⟨_, e⟩ := s5.L.is hl
      rw [z, hr] at e; cases e
    have rm : ∀ m ∈ ms, m ≠ r := fun l hl z => by
      obtain ⟨_, e⟩ := s5.M.is hl
      rw [z, hr] at e; cases e
    have ex6 := Ex.new (o := .lst its) hr
    have s6 : S13 T (upd H5 r (.lst its)) tp pL pn own wd room ls ms (List.replicate wd []) xs := ⟨s5.ht.ex ex6, s5.L.ex ex6, ex6.at s5.hL, s5.M.ex ex6, ex6.at s5.hn, Fr.tabs ex6 s5.tb⟩
    generalize upd H5 r (.lst its) = H6 at hr6 s6 ⊢
    walk_at "wx"
    refine ForW.by walk_list (fun i σ H' => ∃ (v7 v8 v9 v10 v11 v12 v13 v14 : Option V) (xss : List (List Nat)), σ = [some (.ref a), some (.int wd), some (.ref pn), some (.int own), some (.int room), some (.ref tp), some (.ref pL), v7, v8, v9, v10, v11, v12, v13, v14] ∧ S13 T H' tp pL pn own wd room ls ms xss xs ∧ H' r = some (.lst its) ∧ TabOk own wd room (· ∈ xs) xss)
      ⟨none, none, none, none, none, none, none, none, _, rfl, s6, hr6, TabOk.nil⟩ (fun i σ H' _ ⟨_, _, _, _, _, _, _, _, _, _, _, e, _⟩ => SqL.of e) ?_ ?_
    · rintro i x σ _ H7 hi ⟨v7, v8, v9, v10, v11, v12, v13, v14, xss, rfl, s7, hr7, ok7⟩ ⟨rfl, hx⟩
      obtain ⟨z, rfl⟩ := hit x (List.mem_of_getElem? hx)
      generalize hc : z.natAbs = c
      have hpn7 := s7.hn
      walk_at "wx"
      have hk20 : z.natAbs / 8 % 20 < xs.length := by rw [hxl]; exact Nat.mod_lt _ (by decide)
      have ek : ((z.natAbs : Int) / 8 % 20) = ((z.natAbs / 8 % 20 : Nat) : Int) := by simp
      rw [ek]
      refine x_ixL (SqL.of hpn7) (atI_nV hk20) ?_
      have hn0 : xs[z.natAbs / 8 % 20] ∈ xs := List.getElem_mem hk20
      have hnb := hxb _ hn0
      generalize xs[z.natAbs / 8 % 20] = n at hn0 hnb
      walk_at "wx"
      refine x_rgN (m := 20) (by decide) ?_
      refine LcW.rng (n := 20) (by rw [sizeLine_eq]; omega) (fun k => decide (z.natAbs / 160 / 2 ^ k % 2 = 1)) (fun k => nV (xs.getD k 0)) (fun k hk H8 ex8 R hR => ?_) (fun k hk _ H8 ex8 Qe hQ => ?_) fun ps H8 hps ex8 hps8 => ?_
      · walk_at "wx"
        have e : decide ((z.natAbs : Int) / 160 / 2 ^ (k : Int).toNat % 2 = 1) = decide (z.natAbs / 160 / 2 ^ k % 2 = 1) := by
          have e0 : (z.natAbs : Int) / 160 / 2 ^ (k : Int).toNat % 2 = ((z.natAbs / 160 / 2 ^ k % 2 : Nat) : Int) := by simp
          rw [e0]
          exact decide_eq_decide.mpr (by omega)
        rw [e]
        exact hR _ Ex.refl
      · have hpn8 := ex8.at hpn7
        walk_at "wx"
        refine x_ixL (SqL.of hpn8) (atI_nV (j := k) (by omega)) ?_
        have e : xs.getD k 0 = xs[k] := by rw [List.getD_eq_getElem?_getD, List.getElem?_eq_getElem (by omega)]; rfl
        rw [← e]
        exact hQ _ Ex.refl
      have hss : ∃ ss : List Nat, ss.length ≤ 20 ∧ (((List.range 20).filter fun k => decide (z.natAbs / 160 / 2 ^ k % 2 = 1)).map fun k => nV (xs.getD k 0)) = ss.map nV := ⟨((List.range 20).filter fun k => decide (z.natAbs / 160 / 2 ^ k % 2 = 1)).map fun k => xs.getD k 0, by
        rw [List.length_map]; exact Nat.le_trans (List.length_filter_le _ _) (by rw [List.length_range]; omega), by rw [List.map_map]; rfl⟩
      obtain ⟨ss, hsl, ess⟩ := hss
      rw [ess] at hps8
      have s8 := s7.ex ex8
      have hr8 := ex8.at hr7
      have psl : ∀ y, y ∈ ls ∨ y ∈ ms → y ≠ ps := fun y hy z => by
        obtain ⟨_, e⟩ := s7.line hy
        rw [z, hps] at e; cases e
      have pnl : ∀ y, y ∈ ls ∨ y ∈ ms → y ≠ pn := fun y hy => hy.elim (ln y) (mn y)
      have prl : ∀ y, y ∈ ls ∨ y ∈ ms → y ≠ r := fun y hy => hy.elim (rl y) (rm y)
      clear hpn7 s7 hr7
      walk_at "wx"
      have row0 := ok7.row
      have nd7 := ok7.nodup
      have hwl : xss.length = wd := ok7.len
      have hml : ms.length = wd := s8.M.len.trans hwl
      have hz : xss.flatten.length ≤ 100000 := by
        have q := flat_row row0
        rw [hwl] at q
        exact Nat.le_trans q (Nat.le_trans (Nat.mul_le_mul hw2 r1) (by decide))
      refine x_cut (fun σ' H' => ∃ (v7 v12 v13 v14 : Option V) (xss : List (List Nat)), σ' = [some (.ref a), some (.int wd), some (.ref pn), some (.int own), some (.int room), some (.ref tp), some (.ref pL), v7, some (.int z.natAbs), some (nV n), some (.ref ps), some (oV (if own = n then none else some (stepN own n))), v12, v13, v14] ∧ S13 T H' tp pL pn own wd room ls ms xss xs ∧ H' r = some (.lst its) ∧ TabOk own wd room (· ∈ xs) xss) ?_ ?_
      · obtain ⟨tdx, tbl, tbs, htob, _⟩ := s8.ht.ob
        have dlm : ∀ m ∈ ms, ¬ m ∈ ls := fun m hm hl => lm m hl m hm rfl
        walk_at "wx"
        refine x_ifD (fun _ => ?_) fun _ => ?_
        · have okd : TabOk own wd room (· ∈ xs) (tabD own xss n) := ok7.drop
          by_cases e : own = n
          · rw [if_pos e]
            have eo : oV none = .non := rfl
            rw [eo]
            have e1 : tabD own xss n = xss := by unfold tabD; rw [if_pos e.symm]
            have e2 : tabDW own xss n = false := by unfold tabDW; rw [decide_eq_true e.symm]; rfl
            walk_at "wx"
            refine wc_Table_drops s8.ht s8.L ho hnb fun H9 fr9 L9 => ?_
            rw [e1] at L9
            rw [e2]
            walk_at "wx"
            exact ⟨_, _, _, _, xss, rfl, s8.fr fr9 (fun a h => .inl h) pnl L9 (s8.M.fr fr9 dlm), fr9.at hr8 fun z => rl r z rfl, ok7⟩
          · rw [if_neg e]
            have eo : oV (some (stepN own n)) = nV (stepN own n) := rfl
            rw [eo]
            have hs : stepN own n < wd := stepN_lt ho hnb e
            have hkx : stepN own n < xss.length := by omega
            have hkm : stepN own n < ms.length := by omega
            have eg : xss.getD (stepN own n) [] = xss[stepN own n] := by rw [List.getD_eq_getElem?_getD, List.getElem?_eq_getElem hkx]; rfl
            have e1 : tabD own xss n = xss.set (stepN own n) (xss[stepN own n].erase n) := by unfold tabD; rw [if_neg (Ne.symm e), eg]
            have e2 : tabDW own xss n = decide (n ∈ xss[stepN own n]) := by unfold tabDW; rw [decide_eq_false (Ne.symm e), eg]; rfl
            have hm8 := s8.M.at_ _ _ _ (List.getElem?_eq_getElem hkm) (List.getElem?_eq_getElem hkx)
            walk_at "wx"
            refine x_ixL (v := .ref ms[stepN own n]) (SqL.of s8.hL) (atI_nat (by simp [hkm])) ?_
            walk_at "wx"
            refine wc_Table_drops s8.ht s8.L ho hnb fun H9 fr9 L9 => ?_
            have M9 := s8.M.fr fr9 dlm
            have hL9 := fr9.at s8.hL fun z => s8.noL (.inl z)
            have hm9 := M9.at_ _ _ _ (List.getElem?_eq_getElem hkm) (List.getElem?_eq_getElem hkx)
            have hr9 := fr9.at hr8 fun z => rl r z rfl
            rw [e1] at L9 okd
            rw [e2]
            walk_at "wx"
            refine x_ifB (fun hin => ?_) fun hin => ?_
            · have hin := of_decide_eq_true hin
              walk_at "wx"
              refine x_ixL (v := .ref ms[stepN own n]) (SqL.of hL9) (atI_nat (by simp [hkm])) ?_
              walk_at "wx"
              refine x_remove rfl hm9 hin ?_
              have fr10 := Fr.upd1 (o := .lst ((xss[stepN own n].erase n).map nV)) hm9
              have hmm := List.getElem_mem (l := ms) hkm
              walk_at "wx"
              refine ⟨_, _, _, _, _, rfl, s8.fr ((fr9.mono (S' := fun a => a ∈ ls ∨ a ∈ ms) fun a h => .inl h).trans (fr10.mono fun a h => .inr (by rw [h]; exact hmm))) (fun a h => h.imp id .inl) pnl (L9.fr fr10 fun l hl z => lm l hl _ hmm z) (M9.upd (List.getElem?_eq_getElem hkm) fr10 upd_same), fr10.at hr9 (rm _ hmm).symm, okd⟩
            · have hin := of_decide_eq_false hin
              rw [List.erase_of_not_mem hin, set_self (List.getElem?_eq_getElem hkx)] at L9
              walk_at "wx"
              exact ⟨_, _, _, _, xss, rfl, s8.fr fr9 (fun a h => .inl h) pnl L9 M9, hr9, ok7⟩
        · walk_at "wx"
          refine ⟨len_ok rfl, fun pa hpa => ?_⟩
          refine ⟨len_ok rfl, fun pt hpt => ?_⟩
          have ex9 := (Ex.new (o := .lst []) hpa).newT (o := .tup [.str "own", .ref pa]) hpt
          have hpa9 := at_new (o := .tup [.str "own", .ref pa]) hpt (upd_same (H := H8) (a := pa) (o := .lst []))
          have hpt9 := upd_same (H := upd H8 pa (.lst [])) (a := pt) (o := .tup [.str "own", .ref pa])
          have s9 := s8.ex ex9
          have hr9 := ex9.at hr8
          have hps9 := ex9.at hps8
          generalize upd (upd H8 pa (.lst [])) pt (.tup [.str "own", .ref pa]) = H9 at hpa9 hpt9 s9 hr9 hps9 ex9 ⊢
          refine x_cut (fun σ' H' => ∃ (pt pa : Addr) (v13 v14 : Option V), σ' = [some (.ref a), some (.int wd), some (.ref pn), some (.int own), some (.int room), some (.ref tp), some (.ref pL), v7, some (.int z.natAbs), some (nV n), some (.ref ps), some (oV (if own = n then none else some (stepN own n))), some (.ref pt), v13, v14] ∧ Fr (fun a => a ∈ ms) H8 H' ∧
              Lines H' ms (tabL own room xss n fun x => !decide (x ∈ ss)) ∧ H' pt = some (.tup [.str (tabW own room xss n fun x => !decide (x ∈ ss)), .ref pa]) ∧ H' pa = some (.lst ((tabA own room xss n).map nV)) ∧ (∀ y, y ∈ ls ∨ y ∈ ms → y ≠ pt ∧ y ≠ pa)) ?_ ?_
          · have oldn : ∀ y, y ∈ ls ∨ y ∈ ms → y ≠ pt ∧ y ≠ pa := fun y hy => by
              obtain ⟨ys, ey⟩ := s8.line hy
              exact ⟨ne_of_none (at_new (o := .lst []) hpa ey) hpt, ne_of_none ey hpa⟩
            by_cases e : own = n
            · rw [if_pos e]
              have eo : oV none = .non := rfl
              rw [eo]
              walk_at "wx"
              refine ⟨pt, pa, _, _, rfl, ex9.fr, ?_, ?_, ?_, oldn⟩
              · unfold tabL; rw [if_pos e.symm]; exact s9.M
              · unfold tabW; rw [if_pos e.symm]; exact hpt9
              · unfold tabA; rw [if_pos e.symm]; exact hpa9
            · rw [if_neg e]
              have eo : oV (some (stepN own n)) = nV (stepN own n) := rfl
              rw [eo]
              have hs : stepN own n < wd := stepN_lt ho hnb e
              have hkx : stepN own n < xss.length := by omega
              have hkm : stepN own n < ms.length := by omega
              have eg : xss.getD (stepN own n) [] = xss[stepN own n] := by rw [List.getD_eq_getElem?_getD, List.getElem?_eq_getElem hkx]; rfl
              have hm9 := s9.M.at_ _ _ _ (List.getElem?_eq_getElem hkm) (List.getElem?_eq_getElem hkx)
              have hmm := List.getElem_mem (l := ms) hkm
              have hrow := row0 _ (List.getElem_mem hkx)
              walk_at "wx"
              refine x_ixL (v := .ref ms[stepN own n]) (SqL.of s9.hL) (atI_nat (by simp [hkm])) ?_
              walk_at "wx"
              refine wc_l_heard rfl rfl (SqL.of hm9) (SqL.of hps9) ⟨hm9, psl _ (.inr hmm), r0, by omega⟩ fun p2 pa2 H10 hp2 hpa2 np2 fr10 hm10 hpa10 hp10 => ?_
              walk_at "wx"
              refine ⟨p2, pa2, _, _, rfl, (ex9.fr (S := fun a => a ∈ ms)).trans (fr10.mono fun a h => by rw [h]; exact hmm), ?_, ?_, ?_, fun y hy => ?_⟩
              · unfold tabL; rw [if_neg (Ne.symm e), eg]; exact s9.M.upd (List.getElem?_eq_getElem hkm) fr10 hm10
              · unfold tabW; rw [if_neg (Ne.symm e), eg]; exact hp10
              · unfold tabA; rw [if_neg (Ne.symm e), eg]; exact hpa10
              · obtain ⟨ys, ey⟩ := s9.line hy
                exact ⟨ne_of_none ey hp2, ne_of_none ey hpa2⟩
          · clear hpt9 hpa9 s9 hr9 hps9 ex9 hpa hpt
            rintro σ' H10 ⟨pt, pa, v13, v14, rfl, fr10, M10, hpt10, hpa10, oldn⟩
            have ht10 := s8.ht.fr fr10 fun a h => .inl (s8.M.is h)
            have L10 := s8.L.fr fr10 fun l hl h => lm l hl l h rfl
            have hL10 := fr10.at s8.hL fun h => s8.noL (.inr h)
            have hn10 := fr10.at s8.hn fun h => mn pn h rfl
            have tb10 := Fr.tabs fr10 s8.tb
            have hr10 := fr10.at hr8 fun h => rm r h rfl
            have hps10 := fr10.at hps8 fun h => psl ps (.inr h) rfl
            walk_at "wx"
            refine ⟨len_ok rfl, fun pc hpc => ?_⟩
            have ex11 := Ex.new (o := .lst []) hpc
            have ht11 := ht10.ex ex11
            obtain ⟨tdx, tbl, tbs, htob, _⟩ := ht11.ob
            walk_at "wx"
            refine ⟨pc, ps, rfl, Fr.tabs ex11 tb10, fun f cl cd H12 ex12 hf0 hf hcd hC => ?_⟩
            have hpc11 := upd_same (H := H10) (a := pc) (o := .lst [])
            have ex1012 := ex11.trans ex12
            have L12 := L10.ex ex1012
            have ht12 := ht10.ex ex1012
            have hpc12 := ex12.at hpc11
            have hps12 := ex1012.at hps10
            have npp := ne_of_none hps10 hpc
            have lpc : ∀ y, y ∈ ls ∨ y ∈ ms → y ≠ pc := fun y hy => by
              rcases hy with hy | hy
              · obtain ⟨_, e⟩ := L10.is hy; exact ne_of_none e hpc
              · obtain ⟨_, e⟩ := M10.is hy; exact ne_of_none e hpc
            obtain ⟨tdx2, tbl2, tbs2, htob2, _⟩ := ht12.ob
            walk_at "wx"
            refine wc_Table_hears (A := ⟨pc, ps, [], ss, cl, cd⟩) ht12 L12 ho hnb (fun ys hy => Nat.le_trans (row0 ys hy) (by omega)) ⟨hf, hcd, hC, hpc12, hps12, npp.symm, Nat.zero_le _⟩ (fun l hl z => lpc l (.inl hl) z) fun H13 fr13 L13 hA13 => ?_
            have hA13 : H13 pc = some (.lst ((tabA own room xss n).map nV)) := hA13
            have fr13 : Fr (fun a => a ∈ ls ∨ a = pc) H12 H13 := fr13
            have eb : ansB (An.mk pc ps [] ss cl cd) = fun x => !decide (x ∈ ss) := rfl
            rw [eb] at L13 ⊢
            have okh : TabOk own wd room (· ∈ xs) (tabL own room xss n fun x => !decide (x ∈ ss)) := ok7.hear r0 hn0
            have no13 : ∀ {y : Addr}, y ∉ ls → y ≠ pc → ¬ (y ∈ ls ∨ y = pc) := fun h1 h2 z => z.elim h1 h2
            have pt13 := fr13.at (ex1012.at hpt10) (no13 (fun z => (oldn pt (.inl z)).1 rfl) (ne_of_none hpt10 hpc))
            have pa13 := fr13.at (ex1012.at hpa10) (no13 (fun z => (oldn pa (.inl z)).2 rfl) (ne_of_none hpa10 hpc))
            have M13 := (M10.ex ex1012).fr fr13 fun m hm => no13 (dlm m hm) (lpc m (.inr hm))
            have r13 := fr13.at (ex1012.at hr10) (no13 (fun z => rl r z rfl) (ne_of_none hr10 hpc))
            have frA : Fr (fun a => a ∈ ls ∨ a ∈ ms ∨ H8 a = none) H8 H13 := ((fr10.mono fun a h => .inr (.inl h)).trans ex1012.fr).trans (fr13.mono fun a h => h.imp id fun h => .inr (by rw [h]; exact fr10.back pc hpc))
            have s13 := s8.fr frA (fun a h => h) pnl L13 M13
            walk_at "wx"
            refine ⟨len_ok rfl, fun t14 ht14 => ?_⟩
            have ex14 := Ex.new (o := .tup [.str (tabW own room xss n fun x => !decide (x ∈ ss)), .ref pc]) ht14
            have t14' := upd_same (H := H13) (a := t14) (o := .tup [.str (tabW own room xss n fun x => !decide (x ∈ ss)), .ref pc])
            generalize upd H13 t14 (.tup [.str (tabW own room xss n fun x => !decide (x ∈ ss)), .ref pc]) = H14 at ex14 t14' ⊢
            have hsh : PyData.canLay0 (.str (tabW own room xss n fun x => !decide (x ∈ ss))) = true := by
              unfold tabW hearW
              repeat' split
              all_goals (simp only [PyData.canLay0]; decide +kernel)
            walk_at "wx"
            refine x_neSame (d := .tuple [.str (tabW own room xss n fun x => !decide (x ∈ ss)), .list (((tabA own room xss n).map fun n : Nat => (n : Int)).map PyData.int)]) (k := 2)
              (.tup (SqT.of t14') (.cons (.str _) (.cons (Dp.natsL (SqL.of (ex14.at hA13))) .nil))) (.tup (SqT.of (ex14.at pt13)) (.cons (.str _) (.cons (Dp.natsL (SqL.of (ex14.at pa13))) .nil))) (Shp.tup fun x hx => ?_) ?_
            · rcases List.mem_cons.mp hx with e | hx
              · rw [e]; exact (Shp.str hsh).mono (by decide)
              · rw [List.mem_singleton.mp hx]; exact Shp.ints
            · walk_at "wx"
              exact ⟨_, _, _, _, _, rfl, s13.ex ex14, ex14.at r13, okh⟩
      · rintro σ' H9 ⟨v7, v12, v13, v14, xss, rfl, s9, hr9, ok9⟩
        walk_at "wx"
        have hz9 : xss.flatten.length ≤ 100000 := by
          have q := flat_row ok9.row
          rw [ok9.len] at q
          exact Nat.le_trans q (Nat.le_trans (Nat.mul_le_mul hw2 r1) (by decide))
        refine wc_l_looked rfl s9.ht s9.L s9.hL s9.M ok9.nodup hz9 fun H10 ex10 => ?_
        walk_at "wx"
        exact ⟨_, _, _, _, _, _, _, _, xss, rfl, s9.ex ex10, ex10.at hr9, ok9⟩
    · rintro σ H7 ⟨v7, v8, v9, v10, v11, v12, v13, v14, xss, rfl, s7, hr7, ok7⟩
      obtain ⟨tdx, tbl, tbs, htob, _⟩ := s7.ht.ob
      walk_at "wx"
      refine ⟨len_ok rfl, fun t1 ht1 => ?_⟩
      walk_at "wx"
      refine ⟨len_ok rfl, fun t2 ht2 => ?_⟩
      have e1 := at_new (o := .tup [nV own, nV wd, nV room]) ht2 (upd_same (H := H7) (a := t1) (o := .tup [nV own, nV wd, nV room]))
      have ex8 := (Ex.new (o := .tup [nV own, nV wd, nV room]) ht1).newT (o := .tup [nV own, nV wd, nV room]) ht2
      have e2 := upd_same (H := upd H7 t1 (.tup [nV own, nV wd, nV room])) (a := t2) (o := .tup [nV own, nV wd, nV room])
      generalize upd (upd H7 t1 (.tup [nV own, nV wd, nV room])) t2 (.tup [nV own, nV wd, nV room]) = H8 at e1 e2 ex8 ⊢
      have s8 := s7.ex ex8
      refine x_eqSame (d := .tuple [.int own, .int wd, .int room]) (k := 1) (.tup (SqT.of e1) (.cons (.int _) (.cons (.int _) (.cons (.int _) .nil)))) (.tup (SqT.of e2) (.cons (.int _) (.cons (.int _) (.cons (.int _) .nil)))) (Shp.tup fun x hx => ?_) ?_
      · simp only [List.mem_cons, List.not_mem_nil, or_false] at hx
        rcases hx with rfl | rfl | rfl <;> exact Shp.int
      · walk_at "wx"
        have hz9 : xss.flatten.length ≤ 100000 := by
          have q := flat_row ok7.row
          rw [ok7.len] at q
          exact Nat.le_trans q (Nat.le_trans (Nat.mul_le_mul hw2 r1) (by decide))
        exact wc_l_looked rfl s8.ht s8.L s8.hL s8.M ok7.nodup hz9 fun H10 ex10 => q _
end
end Nn
namespace Nn
open PySem PySem.Spec PyProof.Rows L2
def dd_Bucket_init : He.DefD := ⟨("Bucket", some "__init__"), "__init__", "Bucket.__init__", defArgs s_Bucket_init, defBody s_Bucket_init, defScope s_Bucket_init, [], []⟩
def dd_Bucket_names : He.DefD := ⟨("Bucket", some "names"), "names", "Bucket.names", defArgs s_Bucket_names, defBody s_Bucket_names, defScope s_Bucket_names, [], []⟩
def dd_Bucket_hears : He.DefD := ⟨("Bucket", some "hears"), "hears", "Bucket.hears", defArgs s_Bucket_hears, defBody s_Bucket_hears, defScope s_Bucket_hears, [], []⟩
def dd_Bucket_drops : He.DefD := ⟨("Bucket", some "drops"), "drops", "Bucket.drops", defArgs s_Bucket_drops, defBody s_Bucket_drops, defScope s_Bucket_drops, [], []⟩
def dd_far : He.DefD := ⟨("far", none), "far", "far", defArgs s_far, defBody s_far, defScope s_far, [], []⟩
def dd_step : He.DefD := ⟨("step", none), "step", "step", defArgs s_step, defBody s_step, defScope s_step, [], []⟩
def dd_Table_init : He.DefD := ⟨("Table", some "__init__"), "__init__", "Table.__init__", defArgs s_Table_init, defBody s_Table_init, defScope s_Table_init, [], []⟩
def dd_Table_bucket_for : He.DefD := ⟨("Table", some "bucket_for"), "bucket_for", "Table.bucket_for", defArgs s_Table_bucket_for, defBody s_Table_bucket_for, defScope s_Table_bucket_for, [], []⟩
def dd_Table_hears : He.DefD := ⟨("Table", some "hears"), "hears", "Table.hears", defArgs s_Table_hears, defBody s_Table_hears, defScope s_Table_hears, [], []⟩
def dd_Table_drops : He.DefD := ⟨("Table", some "drops"), "drops", "Table.drops", defArgs s_Table_drops, defBody s_Table_drops, defScope s_Table_drops, [], []⟩
def dd_Table_bucket : He.DefD := ⟨("Table", some "bucket"), "bucket", "Table.bucket", defArgs s_Table_bucket, defBody s_Table_bucket, defScope s_Table_bucket, [], []⟩
def dd_Table_keeps : He.DefD := ⟨("Table", some "keeps"), "keeps", "Table.keeps", defArgs s_Table_keeps, defBody s_Table_keeps, defScope s_Table_keeps, [], []⟩
def dd_Table_nearest : He.DefD := ⟨("Table", some "nearest"), "nearest", "Table.nearest", defArgs s_Table_nearest, defBody s_Table_nearest, defScope s_Table_nearest, [.non], []⟩
def dd_l_cell_at : He.DefD := ⟨("_law_cell_at", none), "_law_cell_at", "_law_cell_at", defArgs s_l_cell_at, defBody s_l_cell_at, defScope s_l_cell_at, [], []⟩
def dd_l_wide : He.DefD := ⟨("_law_wide", none), "_law_wide", "_law_wide", defArgs s_l_wide, defBody s_l_wide, defScope s_l_wide, [], []⟩
def dd_l_mixed : He.DefD := ⟨("_law_mixed", none), "_law_mixed", "_law_mixed", defArgs s_l_mixed, defBody s_l_mixed, defScope s_l_mixed, [], []⟩
def dd_l_names : He.DefD := ⟨("_law_names", none), "_law_names", "_law_names", defArgs s_l_names, defBody s_l_names, defScope s_l_names, [], []⟩
def dd_l_step : He.DefD := ⟨("_law_step", none), "_law_step", "_law_step", defArgs s_l_step, defBody s_l_step, defScope s_l_step, [], []⟩
def dd_l_heard : He.DefD := ⟨("_law_heard", none), "_law_heard", "_law_heard", defArgs s_l_heard, defBody s_l_heard, defScope s_l_heard, [], []⟩
def dd_l_others : He.DefD := ⟨("_law_others", none), "_law_others", "_law_others", defArgs s_l_others, defBody s_l_others, defScope s_l_others, [], []⟩
def dd_l_looked : He.DefD := ⟨("_law_looked", none), "_law_looked", "_law_looked", defArgs s_l_looked, defBody s_l_looked, defScope s_l_looked, [], []⟩
def dd_law : He.DefD := ⟨("law", none), "law", "law", defArgs s_law, defBody s_law, defScope s_law, [], []⟩
def fnL : List He.DefD := [dd_Bucket_init, dd_Bucket_names, dd_Bucket_hears, dd_Bucket_drops, dd_far, dd_step, dd_Table_init, dd_Table_bucket_for, dd_Table_hears, dd_Table_drops, dd_Table_bucket, dd_Table_keeps, dd_Table_nearest, dd_l_cell_at, dd_l_wide, dd_l_mixed, dd_l_names, dd_l_step, dd_l_heard, dd_l_others, dd_l_looked, dd_law]
def faL : List He.Fa := [.glo "far",
  .glo "step",
  .glo "_law_cell_at",
  .glo "_law_wide",
  .glo "_law_mixed",
  .glo "_law_names",
  .glo "_law_step",
  .glo "_law_heard",
  .glo "_law_others",
  .glo "_law_looked",
  .glo "law",
  .glo "Bucket",
  .cls "Bucket",
  .mkr "Bucket",
  .noat "Bucket" "room",
  .noat "Bucket" "line",
  .meth "Bucket" "names",
  .meth "Bucket" "hears",
  .meth "Bucket" "drops",
  .glo "Table",
  .cls "Table",
  .mkr "Table",
  .noat "Table" "own",
  .noat "Table" "wide",
  .noat "Table" "room",
  .noat "Table" "buckets",
  .meth "Table" "bucket_for",
  .meth "Table" "hears",
  .meth "Table" "drops",
  .meth "Table" "bucket",
  .meth "Table" "keeps",
  .meth "Table" "nearest",
  .free "abs",
  .free "bool",
  .free "isinstance",
  .free "len",
  .free "list",
  .free "min",
  .free "range",
  .free "sorted"]
abbrev RW : PySem.W.OpenRow := PySem.W.OpenLaw.row PySem.Challenge.rw_nearnames_k13_tables_by_steps
abbrev hkX : PySem.W.Hook := He.hookX 6 faL fnL [] tfL (fun _ => true)
def obL (s : PySem.W.SharedT) : He.AlX := He.obsX 6 faL fnL [] tfL (fun _ => true) (HandSHeadRun.getT s)
theorem obL_eq (s : PySem.W.SharedT) : obL s = hkX.obs s.abs := He.obsX_eq (HandSHeadRun.getT_eq s)
def loose0 : List Str := ["_wall", "Bucket", "far", "step", "Table", "_law_cell_at", "_law_wide", "_law_mixed", "_law_names", "_law_step", "_law_heard", "_law_others", "_law_looked"]
def looseL : List Str := loose0
theorem runL (w : World) : HandSHeadRun.RunEq RW (PySem.W.view RW.prog [17]) hkX obL 6000 looseL w := by
  intro os
  kernel_rfl
theorem factsL {w : World} {K : PySem.W.Frag} {h : Heap} {mg : Str → Option Value} {f : Addr} (X : K.In h) (G : h.Ns mainGlobals mg) (hfa : mg ("law" : Str) = some (.ref f)) (c : He.SaysX faL fnL [] tfL (fun _ => true) w h K) :
    LamX.LawAtS PySem.Challenge.rw_nearnames_k13_tables_by_steps w K CX0 5 63 "_law_script" mg f h := by
  obtain ⟨fd0, F0⟩ := c.t.d.def_ 0 (d := dd_Bucket_init) rfl
  have b0 := FunD.bindsN (ps := ["self", "room"]) F0 fun _ _ _ _ _ _ us hl => match us, hl with | [_, _], _ => rfl
  obtain ⟨fd1, F1⟩ := c.t.d.def_ 1 (d := dd_Bucket_names) rfl
  have b1 := FunD.bindsN (ps := ["self"]) F1 fun _ _ _ _ _ _ us hl => match us, hl with | [_], _ => rfl
  obtain ⟨fd2, F2⟩ := c.t.d.def_ 2 (d := dd_Bucket_hears) rfl
  have b2 := FunD.bindsN (ps := ["self", "name", "answers"]) F2 fun _ _ _ _ _ _ us hl => match us, hl with | [_, _, _], _ => rfl
  obtain ⟨fd3, F3⟩ := c.t.d.def_ 3 (d := dd_Bucket_drops) rfl
  have b3 := FunD.bindsN (ps := ["self", "name"]) F3 fun _ _ _ _ _ _ us hl => match us, hl with | [_, _], _ => rfl
  obtain ⟨fd4, F4⟩ := c.t.d.def_ 4 (d := dd_far) rfl
  have b4 := FunD.bindsN (ps := ["one", "other"]) F4 fun _ _ _ _ _ _ us hl => match us, hl with | [_, _], _ => rfl
  obtain ⟨fd5, F5⟩ := c.t.d.def_ 5 (d := dd_step) rfl
  have b5 := FunD.bindsN (ps := ["one", "other"]) F5 fun _ _ _ _ _ _ us hl => match us, hl with | [_, _], _ => rfl
  obtain ⟨fd6, F6⟩ := c.t.d.def_ 6 (d := dd_Table_init) rfl
  have b6 := FunD.bindsN (ps := ["self", "own", "wide", "room"]) F6 fun _ _ _ _ _ _ us hl => match us, hl with | [_, _, _, _], _ => rfl
  obtain ⟨fd7, F7⟩ := c.t.d.def_ 7 (d := dd_Table_bucket_for) rfl
  have b7 := FunD.bindsN (ps := ["self", "name"]) F7 fun _ _ _ _ _ _ us hl => match us, hl with | [_, _], _ => rfl
  obtain ⟨fd8, F8⟩ := c.t.d.def_ 8 (d := dd_Table_hears) rfl
  have b8 := FunD.bindsN (ps := ["self", "name", "answers"]) F8 fun _ _ _ _ _ _ us hl => match us, hl with | [_, _, _], _ => rfl
  obtain ⟨fd9, F9⟩ := c.t.d.def_ 9 (d := dd_Table_drops) rfl
  have b9 := FunD.bindsN (ps := ["self", "name"]) F9 fun _ _ _ _ _ _ us hl => match us, hl with | [_, _], _ => rfl
  obtain ⟨fd10, F10⟩ := c.t.d.def_ 10 (d := dd_Table_bucket) rfl
  have b10 := FunD.bindsN (ps := ["self", "k"]) F10 fun _ _ _ _ _ _ us hl => match us, hl with | [_, _], _ => rfl
  obtain ⟨fd11, F11⟩ := c.t.d.def_ 11 (d := dd_Table_keeps) rfl
  have b11 := FunD.bindsN (ps := ["self"]) F11 fun _ _ _ _ _ _ us hl => match us, hl with | [_], _ => rfl
  obtain ⟨fd12, F12⟩ := c.t.d.def_ 12 (d := dd_Table_nearest) rfl
  obtain ⟨ds12_0, v12_0, b12_0⟩ := F12.binds1 (ps := ["self", "goal", "many", "but"]) 4 1 (List.cons_ne_nil _ _) (by rfl) fun T kV doc pm an cdv ct us its hu hi => match us, its, hu, hi with | [_, _, _, _], [_], _, _ => ⟨_, rfl, rfl⟩
  obtain ⟨ds12_1, v12_1, b12_1⟩ := F12.binds1 (ps := ["self", "goal", "many", "but"]) 3 0 (List.cons_ne_nil _ _) (by rfl) fun T kV doc pm an cdv ct us its hu hi => match us, its, hu, hi with | [_, _, _], [_], _, _ => ⟨_, rfl, rfl⟩
  have b12 := vnil v12_0 b12_0
  obtain ⟨fd13, F13⟩ := c.t.d.def_ 13 (d := dd_l_cell_at) rfl
  have b13 := FunD.bindsN (ps := ["_law_script", "_law_k"]) F13 fun _ _ _ _ _ _ us hl => match us, hl with | [_, _], _ => rfl
  obtain ⟨fd14, F14⟩ := c.t.d.def_ 14 (d := dd_l_wide) rfl
  have b14 := FunD.bindsN (ps := ["_law_cell"]) F14 fun _ _ _ _ _ _ us hl => match us, hl with | [_], _ => rfl
  obtain ⟨fd15, F15⟩ := c.t.d.def_ 15 (d := dd_l_mixed) rfl
  have b15 := FunD.bindsN (ps := ["_law_cell", "_law_k"]) F15 fun _ _ _ _ _ _ us hl => match us, hl with | [_, _], _ => rfl
  obtain ⟨fd16, F16⟩ := c.t.d.def_ 16 (d := dd_l_names) rfl
  have b16 := FunD.bindsN (ps := ["_law_cell", "_law_wide_here", "_law_many"]) F16 fun _ _ _ _ _ _ us hl => match us, hl with | [_, _, _], _ => rfl
  obtain ⟨fd17, F17⟩ := c.t.d.def_ 17 (d := dd_l_step) rfl
  have b17 := FunD.bindsN (ps := ["_law_one", "_law_other", "_law_wide_here"]) F17 fun _ _ _ _ _ _ us hl => match us, hl with | [_, _, _], _ => rfl
  obtain ⟨fd18, F18⟩ := c.t.d.def_ 18 (d := dd_l_heard) rfl
  have b18 := FunD.bindsN (ps := ["_law_line", "_law_room", "_law_name", "_law_silent"]) F18 fun _ _ _ _ _ _ us hl => match us, hl with | [_, _, _, _], _ => rfl
  obtain ⟨fd19, F19⟩ := c.t.d.def_ 19 (d := dd_l_others) rfl
  have b19 := FunD.bindsN (ps := ["_law_calls", "_law_silent"]) F19 fun _ _ _ _ _ _ us hl => match us, hl with | [_, _], _ => rfl
  obtain ⟨fd20, F20⟩ := c.t.d.def_ 20 (d := dd_l_looked) rfl
  have b20 := FunD.bindsN (ps := ["_law_table", "_law_lines", "_law_wide_here"]) F20 fun _ _ _ _ _ _ us hl => match us, hl with | [_, _, _], _ => rfl
  obtain ⟨fd21, F21⟩ := c.t.d.def_ 21 (d := dd_law) rfl
  have b21 := FunD.bindsN (ps := ["_law_script"]) F21 fun _ _ _ _ _ _ us hl => match us, hl with | [_], _ => rfl
  have e := hfa.symm.trans (He.glo_ok X G (c.t.d.fact 10 (f := .glo "law") rfl))
  cases e
  refine ⟨fd21, tfL.map (He.cT K), spLaw K, List.forall_mem_map.mpr fun p hp => c.empty p hp, List.forall_mem_map.mpr fun p hp => c.out p hp, List.forall_mem_map.mpr fun p hp => PySem.W.codeHd_of_K X (c.hd p hp), fun s v => FunD.bindsA (ps := ["_law_script"]) F21 (fun _ _ _ _ _ _ us hl => match us, hl with | [_], _ => rfl) s [v] rfl, fun H a ns hl _ hT hS => ⟨a, ns, rfl, hS, hl, hT, fun _ => rfl⟩, fun base KB GB hTB => ok_law (K := K) (mg := mg) (base := base) {
      a_Bucket_init := (He.ma K (He.ga K "Bucket") "__init__"), d_Bucket_init := fd0, F_Bucket_init := F0, b_Bucket_init := b0,
      a_Bucket_names := (He.ma K (He.ga K "Bucket") "names"), d_Bucket_names := fd1, F_Bucket_names := F1, b_Bucket_names := b1,
      a_Bucket_hears := (He.ma K (He.ga K "Bucket") "hears"), d_Bucket_hears := fd2, F_Bucket_hears := F2, b_Bucket_hears := b2,
      a_Bucket_drops := (He.ma K (He.ga K "Bucket") "drops"), d_Bucket_drops := fd3, F_Bucket_drops := F3, b_Bucket_drops := b3,
      a_far := (He.ga K "far"), d_far := fd4, F_far := F4, b_far := b4,
      m_far := He.glo_ok X G (c.t.d.fact 0 (f := .glo "far") rfl),
      a_step := (He.ga K "step"), d_step := fd5, F_step := F5, b_step := b5,
      m_step := He.glo_ok X G (c.t.d.fact 1 (f := .glo "step") rfl),
      a_Table_init := (He.ma K (He.ga K "Table") "__init__"), d_Table_init := fd6, F_Table_init := F6, b_Table_init := b6,
      a_Table_bucket_for := (He.ma K (He.ga K "Table") "bucket_for"), d_Table_bucket_for := fd7, F_Table_bucket_for := F7, b_Table_bucket_for := b7,
      a_Table_hears := (He.ma K (He.ga K "Table") "hears"), d_Table_hears := fd8, F_Table_hears := F8, b_Table_hears := b8,
      a_Table_drops := (He.ma K (He.ga K "Table") "drops"), d_Table_drops := fd9, F_Table_drops := F9, b_Table_drops := b9,
      a_Table_bucket := (He.ma K (He.ga K "Table") "bucket"), d_Table_bucket := fd10, F_Table_bucket := F10, b_Table_bucket := b10,
      a_Table_keeps := (He.ma K (He.ga K "Table") "keeps"), d_Table_keeps := fd11, F_Table_keeps := F11, b_Table_keeps := b11,
      a_Table_nearest := (He.ma K (He.ga K "Table") "nearest"), d_Table_nearest := fd12, F_Table_nearest := F12, b_Table_nearest := b12,
      d_Table_nearest_1 := ds12_1, v_Table_nearest_1 := v12_1, b_Table_nearest_1 := b12_1,
      a_l_cell_at := (He.ga K "_law_cell_at"), d_l_cell_at := fd13, F_l_cell_at := F13, b_l_cell_at := b13,
      m_l_cell_at := He.glo_ok X G (c.t.d.fact 2 (f := .glo "_law_cell_at") rfl),
      a_l_wide := (He.ga K "_law_wide"), d_l_wide := fd14, F_l_wide := F14, b_l_wide := b14,
      m_l_wide := He.glo_ok X G (c.t.d.fact 3 (f := .glo "_law_wide") rfl),
      a_l_mixed := (He.ga K "_law_mixed"), d_l_mixed := fd15, F_l_mixed := F15, b_l_mixed := b15,
      m_l_mixed := He.glo_ok X G (c.t.d.fact 4 (f := .glo "_law_mixed") rfl),
      a_l_names := (He.ga K "_law_names"), d_l_names := fd16, F_l_names := F16, b_l_names := b16,
      m_l_names := He.glo_ok X G (c.t.d.fact 5 (f := .glo "_law_names") rfl),
      a_l_step := (He.ga K "_law_step"), d_l_step := fd17, F_l_step := F17, b_l_step := b17,
      m_l_step := He.glo_ok X G (c.t.d.fact 6 (f := .glo "_law_step") rfl),
      a_l_heard := (He.ga K "_law_heard"), d_l_heard := fd18, F_l_heard := F18, b_l_heard := b18,
      m_l_heard := He.glo_ok X G (c.t.d.fact 7 (f := .glo "_law_heard") rfl),
      a_l_others := (He.ga K "_law_others"), d_l_others := fd19, F_l_others := F19, b_l_others := b19,
      m_l_others := He.glo_ok X G (c.t.d.fact 8 (f := .glo "_law_others") rfl),
      a_l_looked := (He.ga K "_law_looked"), d_l_looked := fd20, F_l_looked := F20, b_l_looked := b20,
      m_l_looked := He.glo_ok X G (c.t.d.fact 9 (f := .glo "_law_looked") rfl),
      a_law := (He.ga K "law"), d_law := fd21, F_law := F21, b_law := b21,
      m_law := He.glo_ok X G (c.t.d.fact 10 (f := .glo "law") rfl),
      C_Bucket := He.ga K "Bucket", c_Bucket := He.cls_ok (c.t.d.fact 12 (f := .cls "Bucket") rfl), m_Bucket := He.glo_ok X G (c.t.d.fact 11 (f := .glo "Bucket") rfl), M_Bucket := He.mkr_ok (c.t.d.fact 13 (f := .mkr "Bucket") rfl),
      t_Bucket_names := He.meth_ok (c.t.d.fact 16 (f := .meth "Bucket" "names") rfl),
      t_Bucket_hears := He.meth_ok (c.t.d.fact 17 (f := .meth "Bucket" "hears") rfl),
      t_Bucket_drops := He.meth_ok (c.t.d.fact 18 (f := .meth "Bucket" "drops") rfl),
      n_Bucket_room := He.noat_ok (c.t.d.fact 14 (f := .noat "Bucket" "room") rfl),
      n_Bucket_line := He.noat_ok (c.t.d.fact 15 (f := .noat "Bucket" "line") rfl),
      C_Table := He.ga K "Table", c_Table := He.cls_ok (c.t.d.fact 20 (f := .cls "Table") rfl), m_Table := He.glo_ok X G (c.t.d.fact 19 (f := .glo "Table") rfl), M_Table := He.mkr_ok (c.t.d.fact 21 (f := .mkr "Table") rfl),
      t_Table_bucket_for := He.meth_ok (c.t.d.fact 26 (f := .meth "Table" "bucket_for") rfl),
      t_Table_hears := He.meth_ok (c.t.d.fact 27 (f := .meth "Table" "hears") rfl),
      t_Table_drops := He.meth_ok (c.t.d.fact 28 (f := .meth "Table" "drops") rfl),
      t_Table_bucket := He.meth_ok (c.t.d.fact 29 (f := .meth "Table" "bucket") rfl),
      t_Table_keeps := He.meth_ok (c.t.d.fact 30 (f := .meth "Table" "keeps") rfl),
      t_Table_nearest := He.meth_ok (c.t.d.fact 31 (f := .meth "Table" "nearest") rfl),
      n_Table_own := He.noat_ok (c.t.d.fact 22 (f := .noat "Table" "own") rfl),
      n_Table_wide := He.noat_ok (c.t.d.fact 23 (f := .noat "Table" "wide") rfl),
      n_Table_room := He.noat_ok (c.t.d.fact 24 (f := .noat "Table" "room") rfl),
      n_Table_buckets := He.noat_ok (c.t.d.fact 25 (f := .noat "Table" "buckets") rfl),
      z_abs := He.free_ok X G (c.t.d.fact 32 (f := .free "abs") rfl),
      z_bool := He.free_ok X G (c.t.d.fact 33 (f := .free "bool") rfl),
      z_isinstance := He.free_ok X G (c.t.d.fact 34 (f := .free "isinstance") rfl),
      z_len := He.free_ok X G (c.t.d.fact 35 (f := .free "len") rfl),
      z_list := He.free_ok X G (c.t.d.fact 36 (f := .free "list") rfl),
      z_min := He.free_ok X G (c.t.d.fact 37 (f := .free "min") rfl),
      z_range := He.free_ok X G (c.t.d.fact 38 (f := .free "range") rfl),
      z_sorted := He.free_ok X G (c.t.d.fact 39 (f := .free "sorted") rfl),
      k_l_others := He.codeOf K ("_law_others", none), P_l_others := He.tabOf K (He.codeOf K ("_law_others", none)), tb_l_others := hTB _ (List.mem_map.mpr ⟨(("_law_others", none) : He.Defn), by simp [tfL], rfl⟩), FC_l_others := func_of (p := ("_law_others", none)) F19, z0_l_others := fun H h => h _ (List.mem_map.mpr ⟨(("_law_others", none) : He.Defn), by simp [tfL], rfl⟩) }⟩
end Nn
open PySem PySem.W PySem.Calls PyProof.Rows
theorem PySem.Challenge.cw_nearnames_k13_tables_by_steps_holds : PySem.Challenge.rw_nearnames_k13_tables_by_steps.Holds := by
  w_on; o_law
  refine HandSHeadRun.head_any (r := OpenLaw.row PySem.Challenge.rw_nearnames_k13_tables_by_steps) (q := view (OpenLaw.row PySem.Challenge.rw_nearnames_k13_tables_by_steps).prog [17]) (H := Nn.hkX) (ob := Nn.obL) (M := 6000) (loose := Nn.looseL) (d := HandSHeadRun.topDef (OpenLaw.row PySem.Challenge.rw_nearnames_k13_tables_by_steps).prog 17) (kwd := []) Nn.obL_eq
    (by kernel_rfl) (fun s => by kernel_rfl) Nn.runL (by kernel_rfl) (by kernel_rfl) (by kernel_rfl) (by rfl) (by first | assumption | decide +kernel) (by decide +kernel) ⟨rfl, rfl, rfl, rfl, rfl, by decide +kernel⟩ ?hw ?hc
  case hw => w_witness2
  case hc =>
    refine LamX.walk_ofTsE (l := PySem.Challenge.rw_nearnames_k13_tables_by_steps) (n := 63) (k := 5) (x := "_law_script") (CX := fun _ => L2.CX0) rfl (by decide) (by kernel_rfl) ⟨rfl, by decide, by decide⟩ ?F (fun _ _ _ _ _ z => z)
    intro w mg fa h Y G hmg0
    obtain ⟨K, KX, c⟩ := Y
    have hmg : mg ("law" : PySem.Str) = some (.ref fa) := by
      have e : (HandSHeadRun.topDef (OpenLaw.row PySem.Challenge.rw_nearnames_k13_tables_by_steps).prog 17).name = ("law" : PySem.Str) := by kernel_rfl
      rw [← e]
      exact hmg0
    exact ⟨K, KX, Nn.factsL KX G hmg c⟩
