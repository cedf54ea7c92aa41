import PyProof.Rows.All
import Wide.All
import OpenK.AllK
import Wide.FinOn
import HandS.ForMost
import HandS.Walk
import HandS.Wide
import HandS.WideBits
import HandS.IsInst
import HandS.EndBits
import HandS.SortInts
import HandS.Flow
import HandS.Nested
import HandS.EndTab
import HandS.More
import HandS.SetFor
import HandS.Strs
import HandS.Zip
import HandS.CallLocal
import HandS.Defaults
import HandS.Head0
import HandS.Head1
import HandS.Head2
import HandS.HeadEnd
import HandS.HeadHook1
import HandS.HeadHook2
import HandS.HeadHook3
import HandS.HeadHook4
import HandS.HeadWalk
import PySem.Challenge.RW_nearnames_k12_never_forgets
set_option Elab.async false
set_option linter.all false
set_option maxRecDepth 100000
set_option maxHeartbeats 4000000
namespace Nn
open PySem L2
def nmAll (l c : Nat) : Str := if l = 38 ∧ c = 4 then (("_law_among" : Str) ++ ".<locals>.") ++ "_law_answers" else ""
end Nn
/-! Steps through readings. -/
namespace Nn
open PySem L2
section
variable {K : PySem.W.Frag} {σ : L2.St} {H : Hp} {ta tb te tc : TE} {t u : TS} {c c' : TT} {D : Ends} {Q : VK} {x y v : V}

theorem cxK {CX : CXT} {P : Program} {w : World} {K : PySem.W.Frag} {mg : Str → Option Value} {base : Heap} {N : List Str} {q : Str} {sc : Scope} {f : Addr} {cd : Value} {A : Around} {outer : List Env} {s : Shared} {H : Hp} {E : XK} :
    (cxOf CX P w K mg base N q sc f cd A outer s H E).nox.K = K := rfl
theorem cxK' {CX : CXT} {P : Program} {w : World} {K : PySem.W.Frag} {mg : Str → Option Value} {base : Heap} {N : List Str} {q : Str} {sc : Scope} {f : Addr} {cd : Value} {A : Around} {outer : List Env} {s : Shared} {H : Hp} {E : XK} :
    (cxOf CX P w K mg base N q sc f cd A outer s H E).K = K := rfl
theorem x_seq (h : t { D with nx := u D } σ H) : tSeq t u D σ H := h
theorem x_next (h : D.nx σ H) : tNext D σ H := h
theorem x_asg {g : TG} (h : te σ H fun x H1 => g x σ H1 D.nx) : tAsg te g D σ H := h
theorem x_name {i : Nat} {R : L2.St → Hp → Prop} (h : R (σ.set i (some v)) H) : gName i v σ H R := h
theorem x_ret (h : te σ H D.rt) : tRet te D σ H := h
theorem x_retN (h : D.rt .non H) : tRetN D σ H := h
theorem x_drop (h : te σ H fun _ H1 => D.nx σ H1) : tDrop te D σ H := h
/-- the branches as they stand (not walked until the test is known) -/
def IfS (b : Bool) (t u : TS) (D : Ends) (σ : L2.St) (H : Hp) : Prop := if b = true then t D σ H else u D σ H
theorem x_ifD {p : Prop} [Decidable p] (h1 : p → t D σ H) (h2 : ¬ p → u D σ H) : IfS (decide p) t u D σ H := by
  unfold IfS
  by_cases h : p
  · rw [if_pos (decide_eq_true h)]; exact h1 h
  · rw [if_neg (by simp [h])]; exact h2 h
theorem x_ifN {p : Prop} [Decidable p] (h1 : ¬ p → t D σ H) (h2 : p → u D σ H) : IfS (!decide p) t u D σ H := by
  unfold IfS
  by_cases h : p
  · rw [if_neg (by simp [h])]; exact h2 h
  · rw [if_pos (by simp [h])]; exact h1 h
theorem x_ifB {b : Bool} (h1 : b = true → t D σ H) (h2 : b = false → u D σ H) : IfS b t u D σ H := by
  cases b with
  | true => exact h1 rfl
  | false => exact h2 rfl
theorem x_INs {α : Type} [DecidableEq α] {b : α} (h : u D σ H) : IfS (!decide (b = b)) t u D σ H := by
  rw [decide_eq_true rfl]; exact h
theorem x_IEs {α : Type} [DecidableEq α] {b : α} (h : t D σ H) : IfS (decide (b = b)) t u D σ H := by
  rw [decide_eq_true rfl]; exact h
theorem x_if {tt : TT} (h : tt σ H fun b H1 => if b = true then ta σ H1 Q else tb σ H1 Q) : tIf tt ta tb σ H Q := h
theorem x_var {i : Nat} (e : σ[i]? = some (some v)) (h : Q v H) : tVar i σ H Q := ⟨v, e, h⟩
theorem x_c (h : Q v H) : tC v σ H Q := h
theorem x_op {r : R2} (h : ta σ H fun x H1 => tb σ H1 fun y H2 => r x y H2 Q) : tOp r ta tb σ H Q := h
theorem x_un {r : V → Hp → VK → Prop} (h : ta σ H fun x H1 => r x H1 Q) : tUn r ta σ H Q := h
theorem x_cb {r : List V → Hp → VK → Prop} {ts : TA} (h : ts σ H fun vs H1 => r vs H1 Q) : tCB r ts σ H Q := h
theorem x_nil {R : List V → Hp → Prop} (h : R [] H) : tNil σ H R := h
theorem x_cons {ts : TA} {R : List V → Hp → Prop} (h : ta σ H fun x H1 => ts σ H1 fun xs H2 => R (x :: xs) H2) : tCons ta ts σ H R := h
theorem x_call {sp : Sp} {E : XK} {ts : TA} (h : ts σ H fun vs H1 => sp vs H1 Q E) : tCall sp [] E ts σ H Q := by
  unfold tCall; simpa only [List.append_nil] using h
theorem x_calld {sp : Sp} {E : XK} {ds : List V} {ts : TA} (h : ts σ H fun vs H1 => sp (vs ++ ds) H1 Q E) : tCall sp ds E ts σ H Q := h
theorem x_tup {ts : TA} (h : ts σ H fun xs H1 => xs.length ≤ sizeLine ∧ ∀ p, H1 p = none → Q (.ref p) (upd H1 p (.tup xs))) : tTup ts σ H Q := h
theorem x_lst {ts : TA} (h : ts σ H fun xs H1 => xs.length ≤ sizeLine ∧ ∀ p, H1 p = none → Q (.ref p) (upd H1 p (.lst xs))) : tLst ts σ H Q := h

theorem x_test {R : Bool → Hp → Prop} (h : te σ H fun x H' => ∃ k, x = .bl k ∧ R k H') : tTest te σ H R := h
theorem x_B {R : Bool → Hp → Prop} (h : te σ H fun x H' => ∃ k, x = .bl k ∧ R k H') : tB te σ H R := h
theorem x_bl {R : Bool → Prop} {k : Bool} (h : R k) : ∃ k', V.bl k = V.bl k' ∧ R k' := ⟨k, rfl, h⟩
theorem x_and {R : Bool → Hp → Prop} (h : c σ H fun b H1 => if b = true then c' σ H1 R else R false H1) : tAnd c c' σ H R := h
theorem x_or {R : Bool → Hp → Prop} (h : c σ H fun b H1 => if b = true then R true H1 else c' σ H1 R) : tOr c c' σ H R := h
theorem x_not {R : Bool → Hp → Prop} (h : c σ H fun b H1 => R (!b) H1) : tNot c σ H R := h
theorem x_andV (h : ta σ H fun x H1 => ∃ c, x = .bl c ∧ if c = true then tb σ H1 Q else Q (.bl false) H1) : tAndV ta tb σ H Q := h
theorem x_orV (h : ta σ H fun x H1 => ∃ c, x = .bl c ∧ if c = true then Q (.bl true) H1 else tb σ H1 Q) : tOrV ta tb σ H Q := h
theorem x_notV (h : ta σ H fun x H1 => ∃ c, x = .bl c ∧ Q (.bl (!c)) H1) : tNotV ta σ H Q := h
theorem x_chain {r r' : R2} (h : ta σ H fun x H1 => tb σ H1 fun y H2 => r x y H2 fun z H3 => ∃ k, z = .bl k ∧ if k = true then tc σ H3 fun w H4 => r' y w H4 Q else Q (.bl false) H3) : tChain r r' ta tb tc σ H Q := h

theorem x_i0 {g : Int → Int → V} {i j : Int} (h : Q (g i j) H) : rI0 g (.int i) (.int j) H Q := ⟨i, j, rfl, rfl, h⟩
theorem x_i {C : Int → Int → Prop} {g : Int → Int → V} {i j : Int} (hc : C i j) (h : Q (g i j) H) : rI C g (.int i) (.int j) H Q := ⟨i, j, rfl, rfl, hc, h⟩
theorem x_u {g : Int → V} {i : Int} (h : Q (g i) H) : rU g (.int i) H Q := ⟨i, rfl, h⟩
theorem x_eqI {i j : Int} (h : Q (.bl (decide (i = j))) H) : rEq (.int i) (.int j) H Q := ⟨rfl, by
  have e : decide (V.int i = V.int j) = decide (i = j) := by simp
  rw [e]; exact h⟩
theorem x_neI {i j : Int} (h : Q (.bl (!decide (i = j))) H) : rNe (.int i) (.int j) H Q := ⟨rfl, by
  have e : decide (V.int i = V.int j) = decide (i = j) := by simp
  rw [e]; exact h⟩
theorem x_eqB {i j : Bool} (h : Q (.bl (decide (i = j))) H) : rEq (.bl i) (.bl j) H Q := ⟨rfl, by
  have e : decide (V.bl i = V.bl j) = decide (i = j) := by simp
  rw [e]; exact h⟩
theorem x_neB {i j : Bool} (h : Q (.bl (!decide (i = j))) H) : rNe (.bl i) (.bl j) H Q := ⟨rfl, by
  have e : decide (V.bl i = V.bl j) = decide (i = j) := by simp
  rw [e]; exact h⟩
theorem x_eqS {i j : Str} (h : Q (.bl (decide (i = j))) H) : rEq (.str i) (.str j) H Q := ⟨rfl, by
  have e : decide (V.str i = V.str j) = decide (i = j) := by simp
  rw [e]; exact h⟩
theorem x_neS {i j : Str} (h : Q (.bl (!decide (i = j))) H) : rNe (.str i) (.str j) H Q := ⟨rfl, by
  have e : decide (V.str i = V.str j) = decide (i = j) := by simp
  rw [e]; exact h⟩
theorem x_eq (e : scal x y = true) (h : Q (.bl (decide (x = y))) H) : rEq x y H Q := ⟨e, h⟩
theorem x_ne (e : scal x y = true) (h : Q (.bl (!decide (x = y))) H) : rNe x y H Q := ⟨e, h⟩

theorem x_ite {p A B : Prop} [Decidable p] (h1 : p → A) (h2 : ¬ p → B) : if decide p = true then A else B := by
  by_cases h : p
  · rw [if_pos (decide_eq_true h)]; exact h1 h
  · rw [if_neg (by simp [h])]; exact h2 h
theorem x_iteN {p A B : Prop} [Decidable p] (h1 : ¬ p → A) (h2 : p → B) : if (!decide p) = true then A else B := by
  by_cases h : p
  · rw [if_neg (by simp [h])]; exact h2 h
  · rw [if_pos (by simp [h])]; exact h1 h
theorem x_iteB {b : Bool} {A B : Prop} (h1 : b = true → A) (h2 : b = false → B) : if b = true then A else B := by
  cases b with
  | true => rw [if_pos rfl]; exact h1 rfl
  | false => rw [if_neg Bool.false_ne_true]; exact h2 rfl
theorem x_NEs {α : Type} [DecidableEq α] {b : α} {A B : Prop} (h : B) : if (!decide (b = b)) = true then A else B := by
  rw [decide_eq_true rfl]; exact iteF h
theorem x_Es {α : Type} [DecidableEq α] {b : α} {A B : Prop} (h : A) : if decide (b = b) = true then A else B := by
  rw [decide_eq_true rfl]; exact iteT h
theorem x_T {A B : Prop} (h : A) : if true = true then A else B := iteT h
theorem x_F {A B : Prop} (h : B) : if false = true then A else B := iteF h
theorem x_NT {A B : Prop} (h : B) : if (!true) = true then A else B := iteF h
theorem x_NF {A B : Prop} (h : A) : if (!false) = true then A else B := iteT h

/-! the built-ins' readings -/
theorem x_ixL {p : Addr} {xs : List V} {i : Int} (hS : SqL K H p xs) (e : atI xs i = some v) (h : Q v H) : rIxL K (.ref p) (.int i) H Q := ⟨p, xs, i, v, rfl, rfl, hS, e, h⟩
theorem x_ixT {p : Addr} {xs : List V} {i : Int} (hS : SqT K H p xs) (e : atI xs i = some v) (h : Q v H) : rIxT K (.ref p) (.int i) H Q := ⟨p, xs, i, v, rfl, rfl, hS, e, h⟩
def rAbs : List V → Hp → VK → Prop := fun xs H Q => ∃ i, xs = [.int i] ∧ Q (.int (if i < 0 then -i else i)) H
def rMin2 : List V → Hp → VK → Prop := fun xs H Q => ∃ i j, xs = [.int i, .int j] ∧ Q (.int (if j < i then j else i)) H
def rMax2 : List V → Hp → VK → Prop := fun xs H Q => ∃ i j, xs = [.int i, .int j] ∧ Q (.int (if j > i then j else i)) H
def rLenS (K : PySem.W.Frag) : List V → Hp → VK → Prop := fun xs H Q => ∃ p ys, xs = [.ref p] ∧ (SqL K H p ys ∨ SqT K H p ys) ∧ Q (.int ys.length) H
def rLenD : List V → Hp → VK → Prop := fun xs H Q => ∃ a kvs, xs = [V.ref a] ∧ H a = some (.dK kvs) ∧ Q (.int kvs.length) H
def rLenStr : List V → Hp → VK → Prop := fun xs H Q => ∃ z : Str, xs = [.str z] ∧ z.length ≤ sizeLine ∧ Q (.int z.length) H
def rInt1 : List V → Hp → VK → Prop := fun xs H Q => (∃ i, xs = [.int i] ∧ Q (.int i) H) ∨ ∃ k, xs = [.bl k] ∧ Q (.int (if k then 1 else 0)) H
def rListOf (K : PySem.W.Frag) : List V → Hp → VK → Prop := fun xs H Q => ∃ p ys, xs = [.ref p] ∧ (SqL K H p ys ∨ SqT K H p ys) ∧ ∀ l, H l = none → Q (.ref l) (upd H l (.lst ys))
theorem cb_abs {X : Cx} : CallR X (.builtin "abs") rAbs := call_abs
theorem cb_min2 {X : Cx} (hc : X.calm = true) : CallR X (.builtin "min") rMin2 := call_min2 hc
theorem cb_max2 {X : Cx} (hc : X.calm = true) : CallR X (.builtin "max") rMax2 := call_max2 hc
theorem cb_len {X : Cx} : CallR X (.builtin "len") (rLenS X.K) := call_len_seq
theorem cb_lenD {X : Cx} : CallR X (.builtin "len") rLenD := call_lenD
theorem cb_lenStr {X : Cx} : CallR X (.builtin "len") rLenStr := call_len_str
theorem cb_int {X : Cx} : CallR X (.type "int") rInt1 := call_int1
theorem cb_list {X : Cx} : CallR X (.type "list") (rListOf X.K) := call_list_of
theorem x_abs {i : Int} (h : Q (.int (i.natAbs : Int)) H) : rAbs [.int i] H Q :=
  ⟨i, rfl, by
    have e : (if i < 0 then -i else i) = (i.natAbs : Int) := by split <;> omega
    rw [e]; exact h⟩
theorem x_min2 {i j : Int} (h : Q (.int (min i j)) H) : rMin2 [.int i, .int j] H Q :=
  ⟨i, j, rfl, by
    have e : (if j < i then j else i) = min i j := by split <;> omega
    rw [e]; exact h⟩
theorem x_max2 {i j : Int} (h : Q (.int (max i j)) H) : rMax2 [.int i, .int j] H Q :=
  ⟨i, j, rfl, by
    have e : (if j > i then j else i) = max i j := by split <;> omega
    rw [e]; exact h⟩
theorem x_lenL {p : Addr} {ys : List V} (hS : SqL K H p ys) (h : Q (.int ys.length) H) : rLenS K [.ref p] H Q := ⟨p, ys, rfl, .inl hS, h⟩
theorem x_lenT {p : Addr} {ys : List V} (hS : SqT K H p ys) (h : Q (.int ys.length) H) : rLenS K [.ref p] H Q := ⟨p, ys, rfl, .inr hS, h⟩
theorem x_lenD {p : Addr} {kvs : List (Key × V)} (hS : H p = some (.dK kvs)) (h : Q (.int kvs.length) H) : rLenD [.ref p] H Q := ⟨p, kvs, rfl, hS, h⟩
theorem x_intI {i : Int} (h : Q (.int i) H) : rInt1 [.int i] H Q := .inl ⟨i, rfl, h⟩
theorem x_intB {b : Bool} (h : Q (.int (if b then 1 else 0)) H) : rInt1 [.bl b] H Q := .inr ⟨b, rfl, h⟩
theorem x_listL {p : Addr} {ys : List V} (hS : SqL K H p ys) (h : ∀ l, H l = none → Q (.ref l) (upd H l (.lst ys))) : rListOf K [.ref p] H Q := ⟨p, ys, rfl, .inl hS, h⟩
theorem x_sum {a : Addr} {ns : List Int} (hS : SqL K H a (ns.map V.int)) (h : Q (.int ns.sum) H) : rSum K [.ref a] H Q := ⟨a, ns, rfl, hS, h⟩
/-- isinstance of plain values, against built-in types -/
theorem x_isi {c : V} {t u : Value} {b : Bool} (k : ClsV c u) (ty : TyX K H x t) (e : PySem.W.kitOne K t u = some b) (h : Q (.bl b) H) : rIsi K [x, c] H Q := ⟨x, c, t, u, b, rfl, k, ty, e, h⟩
theorem x_isG {vs : List V} (h : rIsi K vs H Q) : rIsi K vs H Q := h
theorem x_isI_int {i : Int} (h : Q (.bl true) H) : rIsi K [.int i, .ty "int"] H Q := x_isi (.ty "int") (.base (.int i)) (kit_ty (by decide +kernel)) h
theorem x_isI_bool {i : Int} (h : Q (.bl false) H) : rIsi K [.int i, .ty "bool"] H Q := x_isi (.ty "bool") (.base (.int i)) (kit_ty (by decide +kernel)) h
theorem x_isI_str {i : Int} (h : Q (.bl false) H) : rIsi K [.int i, .ty "str"] H Q := x_isi (.ty "str") (.base (.int i)) (kit_ty (by decide +kernel)) h
theorem x_isB_int {c : Bool} (h : Q (.bl true) H) : rIsi K [.bl c, .ty "int"] H Q := x_isi (.ty "int") (.base (.bl c)) (kit_ty (by decide +kernel)) h
theorem x_isB_bool {c : Bool} (h : Q (.bl true) H) : rIsi K [.bl c, .ty "bool"] H Q := x_isi (.ty "bool") (.base (.bl c)) (kit_ty (by decide +kernel)) h
theorem x_isB_str {c : Bool} (h : Q (.bl false) H) : rIsi K [.bl c, .ty "str"] H Q := x_isi (.ty "str") (.base (.bl c)) (kit_ty (by decide +kernel)) h
theorem x_isS_int {z : Str} (h : Q (.bl false) H) : rIsi K [.str z, .ty "int"] H Q := x_isi (.ty "int") (.base (.str z)) (kit_ty (by decide +kernel)) h
theorem x_isS_bool {z : Str} (h : Q (.bl false) H) : rIsi K [.str z, .ty "bool"] H Q := x_isi (.ty "bool") (.base (.str z)) (kit_ty (by decide +kernel)) h
theorem x_isS_str {z : Str} (h : Q (.bl true) H) : rIsi K [.str z, .ty "str"] H Q := x_isi (.ty "str") (.base (.str z)) (kit_ty (by decide +kernel)) h
theorem x_isN_int  (h : Q (.bl false) H) : rIsi K [.non, .ty "int"] H Q := x_isi (.ty "int") (.base .non) (kit_ty (by decide +kernel)) h
theorem x_isN_bool  (h : Q (.bl false) H) : rIsi K [.non, .ty "bool"] H Q := x_isi (.ty "bool") (.base .non) (kit_ty (by decide +kernel)) h
theorem x_isN_str  (h : Q (.bl false) H) : rIsi K [.non, .ty "str"] H Q := x_isi (.ty "str") (.base .non) (kit_ty (by decide +kernel)) h
theorem x_isL_int {a : Addr} {xs : List V} (ha : H a = some (.lst xs)) (h : Q (.bl false) H) : rIsi K [.ref a, .ty "int"] H Q := x_isi (.ty "int") (.base (.lst ha)) (kit_ty (by decide +kernel)) h
theorem x_isL_list {a : Addr} {xs : List V} (ha : H a = some (.lst xs)) (h : Q (.bl true) H) : rIsi K [.ref a, .ty "list"] H Q := x_isi (.ty "list") (.base (.lst ha)) (kit_ty (by decide +kernel)) h
theorem x_isL_tuple {a : Addr} {xs : List V} (ha : H a = some (.lst xs)) (h : Q (.bl false) H) : rIsi K [.ref a, .ty "tuple"] H Q := x_isi (.ty "tuple") (.base (.lst ha)) (kit_ty (by decide +kernel)) h
theorem x_isT_int {a : Addr} {xs : List V} (ha : H a = some (.tup xs)) (h : Q (.bl false) H) : rIsi K [.ref a, .ty "int"] H Q := x_isi (.ty "int") (.base (.tup ha)) (kit_ty (by decide +kernel)) h
theorem x_isT_list {a : Addr} {xs : List V} (ha : H a = some (.tup xs)) (h : Q (.bl false) H) : rIsi K [.ref a, .ty "list"] H Q := x_isi (.ty "list") (.base (.tup ha)) (kit_ty (by decide +kernel)) h
theorem x_isT_tuple {a : Addr} {xs : List V} (ha : H a = some (.tup xs)) (h : Q (.bl true) H) : rIsi K [.ref a, .ty "tuple"] H Q := x_isi (.ty "tuple") (.base (.tup ha)) (kit_ty (by decide +kernel)) h
theorem x_isD_int {a : Addr} {kvs : List (Key × V)} (ha : H a = some (.dK kvs)) (h : Q (.bl false) H) : rIsi K [.ref a, .ty "int"] H Q := x_isi (.ty "int") (.base (.dK ha)) (kit_ty (by decide +kernel)) h
theorem x_isD_list {a : Addr} {kvs : List (Key × V)} (ha : H a = some (.dK kvs)) (h : Q (.bl false) H) : rIsi K [.ref a, .ty "list"] H Q := x_isi (.ty "list") (.base (.dK ha)) (kit_ty (by decide +kernel)) h
theorem x_isD_tuple {a : Addr} {kvs : List (Key × V)} (ha : H a = some (.dK kvs)) (h : Q (.bl false) H) : rIsi K [.ref a, .ty "tuple"] H Q := x_isi (.ty "tuple") (.base (.dK ha)) (kit_ty (by decide +kernel)) h

/-! heaps that grow -/
/-- no table of code objects (these grow where a def is made within a def) -/
def NT : HO → Prop | .tbl _ => False | _ => True
/-- no table, nothing told by its object -/
def NX : HO → Prop | .tbl _ => False | .ext _ => False | _ => True
theorem NX.nt {o : HO} (h : NX o) : NT o := by cases o <;> first | trivial | exact h
/-- all but what S names stays; tables stay tables; nothing is lost -/
structure Fr (S : Addr → Prop) (H H' : Hp) : Prop where
  keep : ∀ a o, H a = some o → NT o → ¬ S a → H' a = some o
  tab : ∀ P, NdefX.TabN H P nmAll → NdefX.TabN H' P nmAll
  back : ∀ a, H' a = none → H a = none
abbrev Ex (H H' : Hp) : Prop := Fr (fun _ => False) H H'
theorem atI_hd {x : V} {r : List V} : atI (x :: r) 0 = some x := atI_nat (xs := x :: r) (j := 0) rfl
theorem at_new {H : Hp} {p a : Addr} {o u : HO} (h : H p = none) (k : H a = some u) : upd H p o a = some u := by rw [upd_ne (ne_of_none k h)]; exact k
theorem at_upd {H : Hp} {p a : Addr} {o u v : HO} (h : H p = some v) (k : H a = some u) (d : v ≠ u) : upd H p o a = some u := by rw [upd_ne (ne_of k h (Ne.symm d))]; exact k
theorem Ex.at {H H' : Hp} {a : Addr} {o : HO} (e : Ex H H') (h : H a = some o) (n : NT o := by trivial) : H' a = some o := e.keep a o h n id
theorem Fr.at {S : Addr → Prop} {H H' : Hp} {a : Addr} {o : HO} (e : Fr S H H') (h : H a = some o) (hs : ¬ S a) (n : NT o := by trivial) : H' a = some o := e.keep a o h n hs
theorem Fr.refl {S : Addr → Prop} {H : Hp} : Fr S H H := ⟨fun _ _ h _ _ => h, fun _ h => h, fun _ h => h⟩
theorem Ex.refl {H : Hp} : Ex H H := Fr.refl
theorem Ex.trans {H H1 H2 : Hp} (a : Ex H H1) (b : Ex H1 H2) : Ex H H2 := ⟨fun x o h n _ => b.at (a.at h n) n, fun P h => b.tab P (a.tab P h), fun x h => a.back x (b.back x h)⟩
theorem Fr.trans {S : Addr → Prop} {H H1 H2 : Hp} (a : Fr S H H1) (b : Fr S H1 H2) : Fr S H H2 := ⟨fun x o h n s => b.keep x o (a.keep x o h n s) n s, fun P h => b.tab P (a.tab P h), fun x h => a.back x (b.back x h)⟩
theorem Fr.mono {S S' : Addr → Prop} {H H1 : Hp} (a : Fr S H H1) (h : ∀ x, S x → S' x) : Fr S' H H1 := ⟨fun x o e n s => a.keep x o e n fun z => s (h x z), a.tab, a.back⟩
theorem Ex.fr {S : Addr → Prop} {H H1 : Hp} (a : Ex H H1) : Fr S H H1 := Fr.mono a fun _ z => z.elim
/-- of what S names, all is newer than H -/
theorem Fr.ex {S : Addr → Prop} {H H0 H1 : Hp} (a : Fr S H H1) (e : Ex H0 H) (h : ∀ x, S x → H0 x = none) : Ex H0 H1 :=
  ⟨fun x o q n _ => a.keep x o (e.at q n) n fun z => (by rw [h x z] at q; cases q), fun P q => a.tab P (e.tab P q), fun x q => e.back x (a.back x q)⟩
theorem upd_back {H : Hp} {p x : Addr} {o : HO} (h : upd H p o x = none) : H x = none := by
  unfold upd at h
  split at h
  · cases h
  · exact h
theorem Ex.new {H : Hp} {p : Addr} {o : HO} (h : H p = none) : Ex H (upd H p o) :=
  ⟨fun a u e _ _ => by rw [upd_ne (ne_of_none e h)]; exact e, fun P t => t.ext fun b u e => by rw [upd_ne (ne_of_none e h)]; exact e, fun _ z => upd_back z⟩
theorem Ex.newT {H H1 : Hp} {p : Addr} {o : HO} (a : Ex H H1) (h : H1 p = none) : Ex H (upd H1 p o) := a.trans (Ex.new h)
/-- one object is changed -/
theorem Fr.upd1 {H : Hp} {p : Addr} {o u : HO} (h : H p = some u) (hu : NX u := by trivial) : Fr (fun a => a = p) H (upd H p o) :=
  ⟨fun a v e _ s => by rw [upd_ne s]; exact e, fun P ⟨ps, h1, h2, h3⟩ => by
    have nP : P ≠ p := fun z => by rw [z, h] at h1; cases h1; exact hu
    refine ⟨ps, by rw [upd_ne nP]; exact h1, h2, fun pos cv hc => ?_⟩
    obtain ⟨c, e1, e2⟩ := h3 pos cv hc
    have nc : c ≠ p := fun z => by
      rw [z, h] at e2
      have e2 := Option.some.inj e2
      rw [e2] at hu
      exact hu
    exact ⟨c, e1, by rw [upd_ne nc]; exact e2⟩, fun _ z => upd_back z⟩
/-- an object that H does not know may change -/
theorem Ex.mut {H H' : Hp} {p : Addr} {o u : HO} (e : Ex H H') (h : H p = none) (h' : H' p = some u) (hu : NX u := by trivial) : Ex H (upd H' p o) :=
  (Fr.upd1 h' hu).ex e fun x z => by rw [z]; exact h
theorem Ex.ls {H H' : Hp} {a : Addr} {xs : List V} (e : Ex H H') (h : SqL K H a xs) : SqL K H' a xs := by
  rcases h with (h | ⟨o, h⟩) | h
  · exact .inl (.inl (e.at h))
  · exact .inl (.inr ⟨o, e.at h⟩)
  · exact .inr h
theorem Ex.tu {H H' : Hp} {a : Addr} {xs : List V} (e : Ex H H') (h : SqT K H a xs) : SqT K H' a xs := by
  rcases h with (h | ⟨o, h⟩) | h
  · exact .inl (.inl (e.at h))
  · exact .inl (.inr ⟨o, e.at h⟩)
  · exact .inr h

/-! loops -/
def ForW (g : TG) (tb : TS) (D : Ends) (J : It) (σ : L2.St) (H : Hp) : Prop := ∃ W : Nat → Nat → L2.St → Hp → Prop, (∃ m, W 0 m σ H) ∧ ∀ i m σ H, W i m σ H →
  (J.stop i H ∧ D.nx σ H) ∨ (J.go i H ∧ ∃ N : L2.St → Hp → Prop, (∀ σ' H', N σ' H' → ∃ m', m' < m ∧ W (i + 1) m' σ' H') ∧ ∀ x H', J.yld i H x H' → g x σ H' fun σ2 H2 => tb { D with nx := N, ct := N, bk := D.nx } σ2 H2)
theorem x_for {wi : TI} {g : TG} {tb : TS} (h : wi σ H fun J H1 => ForW g tb D J σ H1) : tFor wi g tb D σ H := h
theorem ForW.by {J : It} {n : Nat} {G : Hp → Prop} {Y : Nat → Hp → V → Hp → Prop} (w : Walk J n G Y) {g : TG} {tb : TS} (Pv : Nat → L2.St → Hp → Prop) (h0 : Pv 0 σ H) (hG : ∀ i σ H, i ≤ n → Pv i σ H → G H)
    (hs : ∀ i x σ H H', i < n → Pv i σ H → Y i H x H' → g x σ H' fun σ2 H2 => tb { D with nx := Pv (i + 1), ct := Pv (i + 1), bk := D.nx } σ2 H2) (hd : ∀ σ H, Pv n σ H → D.nx σ H) : ForW g tb D J σ H :=
  for_it w Pv h0 hG hs hd
def Rg1 (R : It → Hp → Prop) : List V → Hp → Prop := fun vs H1 => ∃ j : Int, vs = [.int j] ∧ -(2 ^ 62) ≤ j ∧ j < 2 ^ 62 ∧ R (Itr 0 j.toNat) H1
def Rg2 (R : It → Hp → Prop) : List V → Hp → Prop := fun vs H1 => ∃ i j : Int, vs = [.int i, .int j] ∧ (-(2 ^ 62) ≤ i ∧ i < 2 ^ 62 ∧ -(2 ^ 62) ≤ j ∧ j < 2 ^ 62) ∧ R (Itr i (j - i).toNat) H1
def RiL (K : PySem.W.Frag) (R : It → Hp → Prop) : VK := fun x H1 => ∃ a, x = .ref a ∧ (∃ xs, SqL K H1 a xs) ∧ R (Itl K a) H1
def RiT (K : PySem.W.Frag) (R : It → Hp → Prop) : VK := fun x H1 => ∃ a, x = .ref a ∧ (∃ xs, SqT K H1 a xs) ∧ R (Itt K a) H1
def RiE (K : PySem.W.Frag) (R : It → Hp → Prop) : List V → Hp → Prop := fun vs H1 => ∃ a xs, vs = [.ref a] ∧ SqL K H1 a xs ∧ R (Ite K a) H1
def RiZ (K : PySem.W.Frag) (R : It → Hp → Prop) : List V → Hp → Prop := fun vs H1 => ∃ a b xs ys, vs = [.ref a, .ref b] ∧ SqL K H1 a xs ∧ SqL K H1 b ys ∧ R (Itz K a b) H1
theorem x_rng1 {ts : TA} {R : It → Hp → Prop} (h : ts σ H (Rg1 R)) : iRng1 ts σ H R := h
theorem x_rng2 {ts : TA} {R : It → Hp → Prop} (h : ts σ H (Rg2 R)) : iRng2 ts σ H R := h
theorem x_rgN {m : Nat} {R : It → Hp → Prop} (hm : (m : Int) < 2 ^ 62) (h : R (Itr 0 m) H) : Rg1 R [V.int (m : Int)] H :=
  ⟨m, rfl, by omega, hm, by rw [Int.toNat_natCast]; exact h⟩
theorem walk_rgN {n : Nat} : Walk (Itr 0 n) n (fun _ => True) (YFn fun i => .int i) :=
  ⟨fun _ _ hi _ => hi, fun _ _ => Nat.le_refl _, fun _ _ _ _ _ _ y => ⟨y.1, by rw [y.2]; simp⟩⟩
theorem x_iList {R : It → Hp → Prop} (h : ta σ H (RiL K R)) : iList K ta σ H R := h
theorem x_iTup {R : It → Hp → Prop} (h : ta σ H (RiT K R)) : iTup K ta σ H R := h
theorem x_itL {a : Addr} {xs : List V} {R : It → Hp → Prop} (hS : SqL K H a xs) (h : R (Itl K a) H) : RiL K R (.ref a) H := ⟨a, rfl, ⟨xs, hS⟩, h⟩
theorem x_itT {a : Addr} {xs : List V} {R : It → Hp → Prop} (hS : SqT K H a xs) (h : R (Itt K a) H) : RiT K R (.ref a) H := ⟨a, rfl, ⟨xs, hS⟩, h⟩
theorem x_iEnum {ts : TA} {R : It → Hp → Prop} (h : ts σ H (RiE K R)) : iEnum K ts σ H R := h
theorem x_enL {a : Addr} {xs : List V} {R : It → Hp → Prop} (hS : SqL K H a xs) (h : R (Ite K a) H) : RiE K R [.ref a] H := ⟨a, xs, rfl, hS, h⟩
theorem x_iZip {ts : TA} {R : It → Hp → Prop} (h : ts σ H (RiZ K R)) : iZip K ts σ H R := h
theorem x_ziL {a b : Addr} {xs ys : List V} {R : It → Hp → Prop} (hS : SqL K H a xs) (hS2 : SqL K H b ys) (h : R (Itz K a b) H) : RiZ K R [.ref a, .ref b] H := ⟨a, b, xs, ys, rfl, hS, hS2, h⟩
theorem x_gTup {n : Nat} {gs : TGs} {R : L2.St → Hp → Prop} {a : Addr} {xs : List V} (hT : SqT K H a xs) (hl : xs.length = n) (h : gs xs σ H R) : gTup K n gs (.ref a) σ H R := ⟨a, xs, rfl, hT, hl, h⟩
theorem x_gCons {g : TG} {gs : TGs} {R : L2.St → Hp → Prop} {xs : List V} (h : g v σ H fun σ' H' => gs xs σ' H' R) : gCons g gs (v :: xs) σ H R := ⟨v, xs, rfl, h⟩
theorem x_gNil {R : L2.St → Hp → Prop} (h : R σ H) : gNil [] σ H R := ⟨rfl, h⟩
/-- a while's turn, or its end -/
def WhS (W : Nat → L2.St → Hp → Prop) (m : Nat) (t : TS) (D : Ends) (b : Bool) (σ : L2.St) (H : Hp) : Prop :=
  if b = true then ∃ N : L2.St → Hp → Prop, (∀ σ' H', N σ' H' → ∃ m', m' < m ∧ W m' σ' H') ∧ t { D with nx := N, ct := N, bk := D.nx } σ H else D.nx σ H
def Less (W : Nat → L2.St → Hp → Prop) (m : Nat) (σ' : L2.St) (H' : Hp) : Prop := ∃ m', m' < m ∧ W m' σ' H'
theorem x_while {W : Nat → L2.St → Hp → Prop} {m : Nat} (h0 : W m σ H) (hs : ∀ m σ H, W m σ H → c σ H fun b H1 => WhS W m t D b σ H1) : tWhile c t D σ H :=
  ⟨W, ⟨m, h0⟩, hs⟩
theorem x_whT {W : Nat → L2.St → Hp → Prop} {m : Nat} (h : t { D with nx := Less W m, ct := Less W m, bk := D.nx } σ H) : WhS W m t D true σ H := by
  unfold WhS; rw [if_pos rfl]; exact ⟨_, fun _ _ h => h, h⟩
theorem x_whF {W : Nat → L2.St → Hp → Prop} {m : Nat} (h : D.nx σ H) : WhS W m t D false σ H := by
  unfold WhS; rw [if_neg Bool.false_ne_true]; exact h
theorem x_whD {W : Nat → L2.St → Hp → Prop} {m : Nat} {p : Prop} [Decidable p] (h1 : p → t { D with nx := Less W m, ct := Less W m, bk := D.nx } σ H) (h2 : ¬ p → D.nx σ H) : WhS W m t D (decide p) σ H := by
  by_cases h : p
  · rw [decide_eq_true h]; exact x_whT (h1 h)
  · rw [decide_eq_false h]; exact x_whF (h2 h)
/-- what follows a statement is shown once, from Mid -/
theorem x_cut (Mid : L2.St → Hp → Prop) (h : t { D with nx := Mid } σ H) (k : ∀ σ' H', Mid σ' H' → u D σ' H') : C8.tCut t u D σ H := ⟨Mid, h, k⟩
theorem x_aug {i : Nat} {ti : TIp} (e : σ[i]? = some (some x)) (h : te σ H fun y H1 => ti x y H1 fun z H2 => D.nx (σ.set i (some z)) H2) : tAug i te ti D σ H := ⟨x, e, h⟩

/-! methods of lists -/
theorem x_bm {T : String} {r : V → List V → Hp → VK → Prop} {ts : TA} (h : ta σ H fun x H1 => tyV K T x H1 ∧ ts σ H1 fun xs H2 => r x xs H2 Q) : tBM K T r ta ts σ H Q := h
theorem x_bm0 {T : String} {r : V → List V → Hp → VK → Prop} (h : ta σ H fun x H1 => tyV K T x H1 ∧ r x [] H1 Q) : tBM0 K T r ta σ H Q := h
theorem x_tyL {p : Addr} {xs : List V} {R : Prop} (hS : SqL K H p xs) (h : R) : tyV K "list" (.ref p) H ∧ R := ⟨.inl ⟨rfl, xs, hS⟩, h⟩
theorem x_append {l : Addr} {xs : List V} (hl : H l = some (.lst xs)) (hz : xs.length < sizeLine) (h : Q .non (upd H l (.lst (xs ++ [y])))) : rAppend (.ref l) [y] H Q := ⟨l, xs, y, rfl, rfl, hl, hz, h⟩

/-! operators of our own -/
theorem opr_imp {X : Cx} {f : Value → Value → Sem Value} {r r' : R2} (h : OpR X f r) (hi : ∀ x y H Q, r' x y H Q → r x y H Q) : OpR X f r' :=
  fun pins s σ H x y v u Q I rx ry hw => h pins s σ H x y v u Q I rx ry (hi x y H Q hw)
def rShl1 : R2 := fun x y H Q => ∃ k : Nat, x = .int 1 ∧ y = .int (k : Int) ∧ k ≤ 134217727 ∧ Q (.int ((2 ^ k : Nat) : Int)) H
theorem op_shl1 {X : Cx} : OpR X (binaryOp .LShift) rShl1 := opr_imp op_oneShl fun x y H Q ⟨k, h1, h2, h3, q⟩ => ⟨k, h1, h2, h3, by
  have e : ((2 ^ k : Nat) : Int) = 2 ^ k := by simp
  rw [← e]; exact q⟩
theorem x_shl1 {j : Int} {k : Nat} (hj : j = k) (hk : k ≤ 134217727) (h : Q (.int ((2 ^ k : Nat) : Int)) H) : rShl1 (.int 1) (.int j) H Q := ⟨k, rfl, by rw [hj], hk, h⟩
def rShrN : R2 := fun x y H Q => ∃ n k : Nat, x = .int n ∧ y = .int k ∧ Q (.int ((n / 2 ^ k : Nat) : Int)) H
def rShlN : R2 := fun x y H Q => ∃ n k : Nat, x = .int n ∧ y = .int k ∧ n < 2 ^ 64 ∧ k ≤ 1000000 ∧ Q (.int ((n * 2 ^ k : Nat) : Int)) H
def rXorN : R2 := fun x y H Q => ∃ n k : Nat, x = .int n ∧ y = .int k ∧ Q (.int ((n ^^^ k : Nat) : Int)) H
theorem op_shrN' {X : Cx} : OpR X (binaryOp .RShift) rShrN := opr_imp op_shr fun x y H Q ⟨n, k, h1, h2, q⟩ => ⟨n, k, h1, h2, by omega, by
  have e : ((n / 2 ^ k : Nat) : Int) = (n : Int) / 2 ^ (k : Int).toNat := by simp
  show Q (.int ((n : Int) / 2 ^ (k : Int).toNat)) H
  rw [← e]; exact q⟩
theorem op_shlN' {X : Cx} : OpR X (binaryOp .LShift) rShlN := opr_imp op_shl fun x y H Q ⟨n, k, h1, h2, h3, h4, q⟩ => ⟨n, k, h1, h2, ⟨by omega, by omega, by omega⟩, by
  have e : ((n * 2 ^ k : Nat) : Int) = (n : Int) * 2 ^ (k : Int).toNat := by simp
  show Q (.int ((n : Int) * 2 ^ (k : Int).toNat)) H
  rw [← e]; exact q⟩
theorem op_xorN {X : Cx} : OpR X (binaryOp .BitXor) rXorN := opr_imp op_xor fun x y H Q ⟨n, k, h1, h2, q⟩ => ⟨n, k, h1, h2, by
  show Q (.int (Builtin.bitXor n k)) H
  rw [Bits.bitXor_pp (Int.natCast_nonneg _) (Int.natCast_nonneg _)]; exact q⟩
theorem x_shrN {i j : Int} {n k : Nat} (hi : i = n) (hj : j = k) (h : Q (.int ((n / 2 ^ k : Nat) : Int)) H) : rShrN (.int i) (.int j) H Q := ⟨n, k, by rw [hi], by rw [hj], h⟩
theorem x_shlN {i j : Int} {n k : Nat} (hi : i = n) (hj : j = k) (hn : n < 2 ^ 64) (hk : k ≤ 1000000) (h : Q (.int ((n * 2 ^ k : Nat) : Int)) H) : rShlN (.int i) (.int j) H Q := ⟨n, k, by rw [hi], by rw [hj], hn, hk, h⟩
theorem x_xorN {i j : Int} {n k : Nat} (hi : i = n) (hj : j = k) (h : Q (.int ((n ^^^ k : Nat) : Int)) H) : rXorN (.int i) (.int j) H Q := ⟨n, k, by rw [hi], by rw [hj], h⟩
def rBits (Q : VK) : VK := fun x H1 => ∃ i, x = .int i ∧ Q (.int (Builtin.Int.intBits i : Nat)) H1
theorem e_bits : tBits ta σ H Q = ta σ H (rBits Q) := rfl
theorem x_bits {n : Nat} (h : Q (.int ((if n = 0 then 0 else n.log2 + 1 : Nat) : Int)) H) : rBits Q (.int (n : Int)) H := ⟨n, rfl, by
  have e : Builtin.Int.intBits (n : Int) = if n = 0 then 0 else n.log2 + 1 := by unfold Builtin.Int.intBits; simp
  rw [e]; exact h⟩
theorem two_pos {k : Nat} : (0 : Int) < ((2 ^ k : Nat) : Int) := by
  have := Nat.two_pow_pos k
  omega
theorem mod_two_lt {z : Int} {k : Nat} : ∃ r : Nat, r < 2 ^ k ∧ z % ((2 ^ k : Nat) : Int) = r := by
  have h0 := two_pos (k := k)
  have h1 := Int.emod_nonneg z (Int.ne_of_gt h0)
  have h2 := Int.emod_lt_of_pos z h0
  exact ⟨(z % ((2 ^ k : Nat) : Int)).toNat, by omega, by omega⟩
theorem div_two_cast {k : Nat} (z : Int) : z / 2 ^ (k : Int).toNat = z / ((2 ^ k : Nat) : Int) := by simp

/-! within a comprehension: the constants told -/
section
variable {X : Cx} {K : PySem.W.Frag}
theorem op_inK (h : X.K = K) : OpR X (compareOp .In) (rIn K false) := h ▸ op_in_seq
theorem op_notInK (h : X.K = K) : OpR X (compareOp .NotIn) (rIn K true) := h ▸ op_notIn_seq
theorem sl_listK (h : X.K = K) : SlR X (rSlL K) := h ▸ sl_list
theorem ix_listK (h : X.K = K) : IxR X (rIxL K) := h ▸ ix_list
theorem ix_tupK (h : X.K = K) : IxR X (rIxT K) := h ▸ ix_tup
theorem cb_lenK (h : X.K = K) : CallR X (.builtin "len") (rLenS K) := h ▸ cb_len
theorem call_isiK (h : X.K = K) : CallR X (.builtin "isinstance") (rIsi K) := h ▸ call_isi
end
/-! the definitional ones as equations, for dsimp -/
section
variable {K : PySem.W.Frag} {σ : L2.St} {H : Hp} {ta tb te tc : TE} {t u : TS} {c c' : TT} {D : Ends} {Q : VK} {x y v : V} {o : Option V}
theorem e_seq : tSeq t u D σ H = t { D with nx := u D } σ H := rfl
theorem e_next : tNext D σ H = D.nx σ H := rfl
theorem e_asg {g : TG} : tAsg te g D σ H = te σ H fun x H1 => g x σ H1 D.nx := rfl
theorem e_name {i : Nat} {R : L2.St → Hp → Prop} : gName i v σ H R = R (σ.set i (some v)) H := rfl
theorem e_ret : tRet te D σ H = te σ H D.rt := rfl
theorem e_retN : tRetN D σ H = D.rt .non H := rfl
theorem e_drop : tDrop te D σ H = te σ H fun _ H1 => D.nx σ H1 := rfl
theorem e_ifS : tIfS c t u D σ H = c σ H fun b H1 => IfS b t u D σ H1 := rfl
theorem e_IT : IfS true t u D σ H = t D σ H := rfl
theorem e_IF : IfS false t u D σ H = u D σ H := rfl
theorem e_INT : IfS (!true) t u D σ H = u D σ H := rfl
theorem e_INF : IfS (!false) t u D σ H = t D σ H := rfl
theorem e_if {tt : TT} : tIf tt ta tb σ H Q = tt σ H fun b H1 => if b = true then ta σ H1 Q else tb σ H1 Q := rfl
theorem e_varS {i : Nat} : tVar (i + 1) (o :: σ) H Q = tVar i σ H Q := rfl
theorem e_c : tC v σ H Q = Q v H := rfl
theorem e_op {r : R2} : tOp r ta tb σ H Q = ta σ H fun x H1 => tb σ H1 fun y H2 => r x y H2 Q := rfl
theorem e_un {r : V → Hp → VK → Prop} : tUn r ta σ H Q = ta σ H fun x H1 => r x H1 Q := rfl
theorem e_cb {r : List V → Hp → VK → Prop} {ts : TA} : tCB r ts σ H Q = ts σ H fun vs H1 => r vs H1 Q := rfl
theorem e_nil {R : List V → Hp → Prop} : tNil σ H R = R [] H := rfl
theorem e_cons {ts : TA} {R : List V → Hp → Prop} : tCons ta ts σ H R = ta σ H fun x H1 => ts σ H1 fun xs H2 => R (x :: xs) H2 := rfl
theorem e_test {R : Bool → Hp → Prop} : tTest te σ H R = te σ H fun x H' => ∃ k, x = .bl k ∧ R k H' := rfl
theorem e_B {R : Bool → Hp → Prop} : tB te σ H R = te σ H fun x H' => ∃ k, x = .bl k ∧ R k H' := rfl
theorem e_and {R : Bool → Hp → Prop} : tAnd c c' σ H R = c σ H fun b H1 => if b = true then c' σ H1 R else R false H1 := rfl
theorem e_or {R : Bool → Hp → Prop} : tOr c c' σ H R = c σ H fun b H1 => if b = true then R true H1 else c' σ H1 R := rfl
theorem e_not {R : Bool → Hp → Prop} : tNot c σ H R = c σ H fun b H1 => R (!b) H1 := rfl
theorem e_andV : tAndV ta tb σ H Q = ta σ H fun x H1 => ∃ c, x = .bl c ∧ if c = true then tb σ H1 Q else Q (.bl false) H1 := rfl
theorem e_orV : tOrV ta tb σ H Q = ta σ H fun x H1 => ∃ c, x = .bl c ∧ if c = true then Q (.bl true) H1 else tb σ H1 Q := rfl
theorem e_notV : tNotV ta σ H Q = ta σ H fun x H1 => ∃ c, x = .bl c ∧ Q (.bl (!c)) H1 := rfl
theorem e_chain {r r' : R2} : tChain r r' ta tb tc σ H Q = ta σ H fun x H1 => tb σ H1 fun y H2 => r x y H2 fun z H3 => ∃ k, z = .bl k ∧ if k = true then tc σ H3 fun w H4 => r' y w H4 Q else Q (.bl false) H3 := rfl
theorem e_for {wi : TI} {g : TG} {tb : TS} : tFor wi g tb D σ H = wi σ H fun J H1 => ForW g tb D J σ H1 := rfl
theorem e_rng1 {ts : TA} {R : It → Hp → Prop} : iRng1 ts σ H R = ts σ H (Rg1 R) := rfl
theorem e_rng2 {ts : TA} {R : It → Hp → Prop} : iRng2 ts σ H R = ts σ H (Rg2 R) := rfl
theorem e_iList {R : It → Hp → Prop} : iList K ta σ H R = ta σ H (RiL K R) := rfl
theorem e_iTup {R : It → Hp → Prop} : iTup K ta σ H R = ta σ H (RiT K R) := rfl
theorem e_iEnum {ts : TA} {R : It → Hp → Prop} : iEnum K ts σ H R = ts σ H (RiE K R) := rfl
theorem e_iZip {ts : TA} {R : It → Hp → Prop} : iZip K ts σ H R = ts σ H (RiZ K R) := rfl
theorem e_bm {T : String} {r : V → List V → Hp → VK → Prop} {ts : TA} : tBM K T r ta ts σ H Q = ta σ H fun x H1 => tyV K T x H1 ∧ ts σ H1 fun xs H2 => r x xs H2 Q := rfl
theorem e_bm0 {T : String} {r : V → List V → Hp → VK → Prop} : tBM0 K T r ta σ H Q = ta σ H fun x H1 => tyV K T x H1 ∧ r x [] H1 Q := rfl
theorem e_tup {ts : TA} : tTup ts σ H Q = ts σ H fun xs H1 => xs.length ≤ sizeLine ∧ ∀ p, H1 p = none → Q (.ref p) (upd H1 p (.tup xs)) := rfl
theorem e_lst {ts : TA} : tLst ts σ H Q = ts σ H fun xs H1 => xs.length ≤ sizeLine ∧ ∀ p, H1 p = none → Q (.ref p) (upd H1 p (.lst xs)) := rfl
theorem e_calld {sp : Sp} {E : XK} {ds : List V} {ts : TA} : tCall sp ds E ts σ H Q = ts σ H fun vs H1 => sp (vs ++ ds) H1 Q E := rfl
theorem e_T {A B : Prop} : (if true = true then A else B) = A := rfl
theorem e_F {A B : Prop} : (if false = true then A else B) = B := rfl
theorem e_NT {A B : Prop} : (if (!true) = true then A else B) = B := rfl
theorem e_NF {A B : Prop} : (if (!false) = true then A else B) = A := rfl
theorem x_v0 (h : Q v H) : tVar 0 (some v :: σ) H Q := ⟨v, rfl, h⟩
end
/-! pairs that an iterator lays -/
def YPairE (xs ys : Nat → Option V) : Nat → Hp → V → Hp → Prop := fun i H v H' => ∃ T x y, v = .ref T ∧ H T = none ∧ Ex H H' ∧ H' T = some (.tup [x, y]) ∧ xs i = some x ∧ ys i = some y
theorem YPair.e {xs ys : Nat → Option V} {i : Nat} {H : Hp} {v : V} {H' : Hp} (h : YPair xs ys i H v H') : YPairE xs ys i H v H' := by
  obtain ⟨T, x, y, h1, h2, rfl, h4, h5⟩ := h
  exact ⟨T, x, y, h1, h2, Ex.new h2, upd_same, h4, h5⟩
theorem walk_enumE {K : PySem.W.Frag} {a : Addr} {xs : List V} : Walk (Ite K a) xs.length (fun H => SqL K H a xs) (YPairE (fun i => some (.int (i : Nat))) (fun i => xs[i]?)) :=
  walk_enum.mono (fun _ h => h) fun _ _ _ _ _ _ y => YPair.e y
theorem walk_zipE {K : PySem.W.Frag} {a b : Addr} {xs ys : List V} {n : Nat} (hn : n = min xs.length ys.length) : Walk (Itz K a b) n (fun H => SqL K H a xs ∧ SqL K H b ys) (YPairE (fun i => xs[i]?) (fun i => ys[i]?)) :=
  (walk_zip hn).mono (fun _ h => h) fun _ _ _ _ _ _ y => YPair.e y

/-! equality of lists of ints -/
abbrev nV (n : Nat) : V := .int (n : Int)
theorem eqv_ints : ∀ (xs ys : List Int), PyData.eqv (.list (xs.map PyData.int)) (.list (ys.map PyData.int)) = decide (xs = ys)
  | [], [] => rfl
  | [], _ :: _ => rfl
  | _ :: _, [] => rfl
  | x :: xs, y :: ys => by
    have ih := eqv_ints xs ys
    have e : PyData.eqv (.list ((x :: xs).map PyData.int)) (.list ((y :: ys).map PyData.int)) = (decide (x = y) && PyData.eqv (.list (xs.map PyData.int)) (.list (ys.map PyData.int))) := by
      show PyData.eqvAll _ _ = _
      rfl
    rw [e, ih]
    by_cases h : x = y <;> by_cases h2 : xs = ys <;> simp [h, h2]
theorem dpAll_ints {K : PySem.W.Frag} {H : Hp} : ∀ xs : List Int, DpAll K H (xs.map V.int) (xs.map PyData.int)
  | [] => .nil
  | x :: xs => .cons (.int x) (dpAll_ints xs)
theorem shaped_ints (xs : List Int) : SeqAt.shaped (.list (xs.map PyData.int)) = true := by
  induction xs with
  | nil => rfl
  | cons x xs ih =>
    exact ih
theorem eqv_bools : ∀ (xs ys : List Bool), PyData.eqv (.list (xs.map PyData.bool)) (.list (ys.map PyData.bool)) = decide (xs = ys)
  | [], [] => rfl
  | [], _ :: _ => rfl
  | _ :: _, [] => rfl
  | x :: xs, y :: ys => by
    have ih := eqv_bools xs ys
    have e : PyData.eqv (.list ((x :: xs).map PyData.bool)) (.list ((y :: ys).map PyData.bool)) = ((x == y) && PyData.eqv (.list (xs.map PyData.bool)) (.list (ys.map PyData.bool))) := by
      show PyData.eqvAll _ _ = _
      rfl
    rw [e, ih]
    by_cases h : x = y <;> by_cases h2 : xs = ys <;> simp [h, h2]
theorem dpAll_bools {K : PySem.W.Frag} {H : Hp} : ∀ xs : List Bool, DpAll K H (xs.map V.bl) (xs.map PyData.bool)
  | [] => .nil
  | x :: xs => .cons (.bl x) (dpAll_bools xs)
theorem shaped_bools (xs : List Bool) : SeqAt.shaped (.list (xs.map PyData.bool)) = true := by
  induction xs with
  | nil => rfl
  | cons x xs ih => exact ih
theorem x_eqLB {K : PySem.W.Frag} {H : Hp} {Q : VK} {a b : Addr} {xs ys : List Bool} (ha : SqL K H a (xs.map V.bl)) (hb : SqL K H b (ys.map V.bl)) (h : Q (.bl (decide (xs = ys))) H) : rEqD K (.ref a) (.ref b) H Q :=
  ⟨_, _, .lst ha (dpAll_bools xs), .lst hb (dpAll_bools ys), shaped_bools xs, shaped_bools ys, by rw [eqv_bools]; exact h⟩
theorem map_nV (xs : List Nat) : xs.map nV = (xs.map fun n : Nat => (n : Int)).map V.int := by rw [List.map_map]; rfl
theorem nat_inj {xs ys : List Nat} : (xs.map fun n : Nat => (n : Int)) = (ys.map fun n : Nat => (n : Int)) ↔ xs = ys :=
  ⟨fun h => List.map_inj_right (f := fun n : Nat => (n : Int)) (fun a b e => Int.ofNat.inj e) |>.mp h, fun h => by rw [h]⟩
section
variable {K : PySem.W.Frag} {H : Hp} {Q : VK}
theorem x_eqLI {a b : Addr} {xs ys : List Int} (ha : SqL K H a (xs.map V.int)) (hb : SqL K H b (ys.map V.int)) (h : Q (.bl (decide (xs = ys))) H) : rEqD K (.ref a) (.ref b) H Q :=
  ⟨_, _, .lst ha (dpAll_ints xs), .lst hb (dpAll_ints ys), shaped_ints xs, shaped_ints ys, by rw [eqv_ints]; exact h⟩
theorem x_neLI {a b : Addr} {xs ys : List Int} (ha : SqL K H a (xs.map V.int)) (hb : SqL K H b (ys.map V.int)) (h : Q (.bl (!decide (xs = ys))) H) : rNeD K (.ref a) (.ref b) H Q :=
  ⟨_, _, .lst ha (dpAll_ints xs), .lst hb (dpAll_ints ys), shaped_ints xs, shaped_ints ys, by rw [eqv_ints]; exact h⟩
theorem x_eqLN {a b : Addr} {xs ys : List Nat} (ha : SqL K H a (xs.map nV)) (hb : SqL K H b (ys.map nV)) (h : Q (.bl (decide (xs = ys))) H) : rEqD K (.ref a) (.ref b) H Q := by
  rw [map_nV] at ha hb
  refine x_eqLI ha hb ?_
  have e : decide ((xs.map fun n : Nat => (n : Int)) = (ys.map fun n : Nat => (n : Int))) = decide (xs = ys) := decide_eq_decide.mpr nat_inj
  rw [e]; exact h
theorem x_neLN {a b : Addr} {xs ys : List Nat} (ha : SqL K H a (xs.map nV)) (hb : SqL K H b (ys.map nV)) (h : Q (.bl (!decide (xs = ys))) H) : rNeD K (.ref a) (.ref b) H Q := by
  rw [map_nV] at ha hb
  refine x_neLI ha hb ?_
  have e : decide ((xs.map fun n : Nat => (n : Int)) = (ys.map fun n : Nat => (n : Int))) = decide (xs = ys) := decide_eq_decide.mpr nat_inj
  rw [e]; exact h
end

/-! comprehensions over a list: one name, one test or none -/
def LcW (g : TG) (tt : TT) (te : TE) (vs : List Nat) (σ : L2.St) (Q : VK) : It → Hp → Prop := fun J H1 => ∀ D, H1 D = none → ∃ W : Nat → Nat → Hp → Prop, (∃ m, W 0 m (upd H1 D (.lst []))) ∧ ∀ i m H, W i m H →
  (J.stop i H ∧ Q (.ref D) H) ∨ (J.go i H ∧ ∃ Nx : Hp → Prop, (∀ H', Nx H' → ∃ m', m' < m ∧ W (i + 1) m' H') ∧ ∀ x H', J.yld i H x H' → g x (wipe σ vs) H' fun σ2 H2 => wipe σ2 vs = wipe σ vs ∧ tt σ2 H2 fun b H3 =>
    if b = true then te σ2 H3 fun y H4 => ∃ acc, H4 D = some (.lst acc) ∧ acc.length < sizeLine ∧ Nx (upd H4 D (.lst (acc ++ [y]))) else Nx H3)
theorem e_lc {wi : TI} {g : TG} {tt : TT} {te : TE} {vs : List Nat} {σ : L2.St} {H : Hp} {Q : VK} : tLc wi g tt te vs σ H Q = wi σ H (LcW g tt te vs σ Q) := rfl
theorem e_wipe0 {σ : L2.St} : wipe σ [] = σ := rfl
theorem e_wipe1 {σ : L2.St} {v : Nat} {vs : List Nat} : wipe σ (v :: vs) = (wipe σ vs).set v none := rfl
theorem e_yes {σ : L2.St} {H : Hp} {R : Bool → Hp → Prop} : tYes σ H R = R true H := rfl
theorem wipe_set1 {σ : L2.St} {i : Nat} {v : Option V} : wipe ((wipe σ [i]).set i v) [i] = wipe σ [i] := by
  show (((σ.set i none).set i v).set i none) = σ.set i none
  rw [List.set_set, List.set_set]
section
variable {K : PySem.W.Frag} {H : Hp} {Q : VK} {σ : L2.St} {tl te : TE} {tt : TT} {k : Nat}
/-- the list stands; test and element are reckoned of each item and change nothing that stood -/
theorem LcW.fmA {α : Type} {emb : α → V} {a : Addr} {xs : List α} (p : α → Bool) (f : α → V) (hS : SqL K H a (xs.map emb)) (hz : xs.length < sizeLine)
    (ht : ∀ x ∈ xs, ∀ H', Ex H H' → ∀ R : Bool → Hp → Prop, (∀ H'', Ex H' H'' → R (p x) H'') → tt ((wipe σ [k]).set k (some (emb x))) H' R)
    (he : ∀ x ∈ xs, p x = true → ∀ H', Ex H H' → ∀ Qe : VK, (∀ H'', Ex H' H'' → Qe (f x) H'') → te ((wipe σ [k]).set k (some (emb x))) H' Qe)
    (hk : ∀ D H', H D = none → Ex H H' → H' D = some (.lst ((xs.filter p).map f)) → Q (.ref D) H') :
    LcW (gName k) tt te [k] σ Q (Itl K a) H := by
  intro D hD
  refine lc_list (K := K) (a := a) (xs := xs.map emb) (Qd := fun H' => Q (.ref D) H') (fun i H' => Ex H H' ∧ H' D = some (.lst (((xs.take i).filter p).map f))) ⟨Ex.new hD, by rw [upd_same]; rfl⟩ (fun i H' _ h => h.1.ls hS) ?_ ?_
  · rintro i y H1 hx ⟨ex, h1⟩
    obtain ⟨x, hxi, rfl⟩ : ∃ x, xs[i]? = some x ∧ y = emb x := by
      rw [List.getElem?_map] at hx
      cases e : xs[i]? with
      | none => rw [e] at hx; cases hx
      | some x => rw [e] at hx; exact ⟨x, rfl, (Option.some.inj hx).symm⟩
    have hm : x ∈ xs := List.mem_of_getElem? hxi
    have et : xs.take (i + 1) = xs.take i ++ [x] := by rw [List.take_add_one, hxi]; rfl
    refine ⟨wipe_set1, ht x hm H1 ex _ fun H2 ex2 => ?_⟩
    cases hp : p x with
    | true =>
      refine iteT (he x hm hp H2 (ex.trans ex2) _ fun H3 ex3 => ⟨_, ex3.at (ex2.at h1), ?_, ?_, ?_⟩)
      · rw [List.length_map]
        exact Nat.lt_of_le_of_lt (Nat.le_trans (List.length_filter_le _ _) (List.length_take_le' _ _)) hz
      · exact ((ex.trans ex2).trans ex3).mut hD (ex3.at (ex2.at h1))
      · rw [upd_same, et, List.filter_append, List.map_append]
        simp [hp]
    | false =>
      refine iteF ⟨ex.trans ex2, ?_⟩
      rw [et, List.filter_append, List.map_append]
      simp [hp]
      simpa using ex2.at h1
  · rintro H1 ⟨ex, h1⟩
    rw [List.length_map, List.take_length] at h1
    exact hk D H1 hD ex h1
theorem LcW.fm {a : Addr} {xs : List V} (p : V → Bool) (f : V → V) (hS : SqL K H a xs) (hz : xs.length < sizeLine)
    (ht : ∀ x ∈ xs, ∀ H', Ex H H' → ∀ R : Bool → Hp → Prop, (∀ H'', Ex H' H'' → R (p x) H'') → tt ((wipe σ [k]).set k (some x)) H' R)
    (he : ∀ x ∈ xs, p x = true → ∀ H', Ex H H' → ∀ Qe : VK, (∀ H'', Ex H' H'' → Qe (f x) H'') → te ((wipe σ [k]).set k (some x)) H' Qe)
    (hk : ∀ D H', H D = none → Ex H H' → H' D = some (.lst ((xs.filter p).map f)) → Q (.ref D) H') :
    LcW (gName k) tt te [k] σ Q (Itl K a) H := LcW.fmA (emb := id) p f (by rw [List.map_id]; exact hS) hz ht he hk
/-- a plain map -/
theorem LcW.map {α : Type} {emb : α → V} {a : Addr} {xs : List α} (f : α → V) (hS : SqL K H a (xs.map emb)) (hz : xs.length < sizeLine)
    (he : ∀ x ∈ xs, ∀ H', Ex H H' → ∀ Qe : VK, (∀ H'', Ex H' H'' → Qe (f x) H'') → te ((wipe σ [k]).set k (some (emb x))) H' Qe)
    (hk : ∀ D H', H D = none → Ex H H' → H' D = some (.lst (xs.map f)) → Q (.ref D) H') :
    LcW (gName k) tYes te [k] σ Q (Itl K a) H :=
  LcW.fmA (fun _ => true) f hS hz (fun _ _ _ _ _ h => h _ Ex.refl) (fun x hx _ H' e Qe h => he x hx H' e Qe h) fun D H' h1 h2 h3 => hk D H' h1 h2 (by rw [h3, List.filter_eq_self.mpr fun _ _ => rfl])
/-- a plain filter -/
theorem LcW.filt {α : Type} {emb : α → V} {a : Addr} {xs : List α} (p : α → Bool) (hS : SqL K H a (xs.map emb)) (hz : xs.length < sizeLine)
    (ht : ∀ x ∈ xs, ∀ H', Ex H H' → ∀ R : Bool → Hp → Prop, (∀ H'', Ex H' H'' → R (p x) H'') → tt ((wipe σ [k]).set k (some (emb x))) H' R)
    (he : ∀ x ∈ xs, p x = true → ∀ H', Ex H H' → ∀ Qe : VK, Qe (emb x) H' → te ((wipe σ [k]).set k (some (emb x))) H' Qe)
    (hk : ∀ D H', H D = none → Ex H H' → H' D = some (.lst ((xs.filter p).map emb)) → Q (.ref D) H') :
    LcW (gName k) tt te [k] σ Q (Itl K a) H :=
  LcW.fmA p emb hS hz ht (fun x hx hp H' e Qe h => he x hx hp H' e Qe (h H' Ex.refl)) hk
end

theorem lt_ok {xs : List V} (h : decide (xs.length ≤ 1000) = true) : xs.length < sizeLine := Nat.lt_of_le_of_lt (of_decide_eq_true h) (by decide)
theorem len_ok {xs : List V} (h : decide (xs.length ≤ 1000) = true) : xs.length ≤ sizeLine := Nat.le_trans (of_decide_eq_true h) (by decide)
/-! dicts -/
abbrev nK (n : Nat) : Key := .inl (n : Int)
theorem nK_inj {a b : Nat} (h : nK a = nK b) : a = b := Int.ofNat.inj (Sum.inl.inj h)
def RDg (Q : VK) : V → V → Hp → Prop := fun x y H2 => ∃ a v, x = .ref a ∧ DGet H2 a y (some v) ∧ Q v H2
def RDi (Q : VK) : V → V → Hp → Prop := fun x y H2 => ∃ a o, x = .ref a ∧ DGet H2 a y o ∧ Q (.bl o.isSome) H2
def RDn (Q : VK) : V → V → Hp → Prop := fun x y H2 => ∃ a o, x = .ref a ∧ DGet H2 a y o ∧ Q (.bl (!o.isSome)) H2
def RDp (R : Hp → Prop) : V → V → V → Hp → Prop := fun x y v H3 => ∃ a H4, x = .ref a ∧ DPut H3 a y v H4 ∧ R H4
def RDN (Q : VK) : Hp → Prop := fun H => ∀ p, H p = none → Q (.ref p) (upd H p (.dK []))
section
variable {K : PySem.W.Frag} {σ : L2.St} {H : Hp} {td ty tv tx : TE} {D : Ends} {Q : VK}
theorem e_dget : tDGet td ty σ H Q = td σ H fun x H1 => ty σ H1 fun y H2 => RDg Q x y H2 := rfl
theorem e_din : tDIn ty td σ H Q = ty σ H fun y H1 => td σ H1 fun x H2 => RDi Q x y H2 := rfl
theorem e_dnin : tDNotIn ty td σ H Q = ty σ H fun y H1 => td σ H1 fun x H2 => RDn Q x y H2 := rfl
theorem e_dput : sDPut td ty tv D σ H = tv σ H fun v H1 => td σ H1 fun x H2 => ty σ H2 fun y H3 => RDp (D.nx σ) x y v H3 := rfl
theorem e_dnew : tDNewK σ H Q = RDN Q H := rfl
theorem x_dget {a : Addr} {kvs : List (Key × V)} {i : Int} {v : V} (h : H a = some (.dK kvs)) (e : valV kvs (.inl i) = some v) (k : Q v H) : RDg Q (.ref a) (.int i) H := ⟨a, v, rfl, .inl ⟨kvs, .inl i, .inl h, rfl, e.symm⟩, k⟩
theorem x_din {a : Addr} {kvs : List (Key × V)} {i : Int} (h : H a = some (.dK kvs)) (k : Q (.bl (valV kvs (.inl i)).isSome) H) : RDi Q (.ref a) (.int i) H := ⟨a, _, rfl, .inl ⟨kvs, .inl i, .inl h, rfl, rfl⟩, k⟩
theorem x_dnin {a : Addr} {kvs : List (Key × V)} {i : Int} (h : H a = some (.dK kvs)) (k : Q (.bl (!(valV kvs (.inl i)).isSome)) H) : RDn Q (.ref a) (.int i) H := ⟨a, _, rfl, .inl ⟨kvs, .inl i, .inl h, rfl, rfl⟩, k⟩
theorem x_dput {R : Hp → Prop} {a : Addr} {kvs : List (Key × V)} {i : Int} {v : V} (h : H a = some (.dK kvs)) (hz : kvs.length < sizeLine) (k : R (upd H a (.dK (putK kvs (.inl i) v)))) : RDp R (.ref a) (.int i) v H := ⟨a, _, rfl, .inl ⟨kvs, .inl i, h, rfl, hz, rfl⟩, k⟩
theorem x_dnew (h : ∀ p, H p = none → Q (.ref p) (upd H p (.dK []))) : RDN Q H := h
end
/-- sorted(d), d's keys ints, fewer than 64 -/
def rSortDI : List V → Hp → VK → Prop := fun xs H Q => ∃ (a : Addr) (kvs : List (Key × V)) (ks : List Int), xs = [.ref a] ∧ Rd H a (.dK kvs) ∧ kvs.map (·.1) = ks.map Sum.inl ∧ ks.length < 64 ∧
    ∀ (ys : List Int) (p : Addr), ys.Perm ks → ys.Pairwise (· ≤ ·) → H p = none → Q (.ref p) (upd H p (.lst (ys.map V.int)))
theorem cb_sortD {X : Cx} (hc : X.calm = true) : CallR X (.builtin "sorted") rSortDI := call_sortedDI hc

/-! objects: fields, methods -/
def RFld (K : PySem.W.Frag) (f : Str) (Q : VK) : VK := fun x H1 => ∃ a C dx fs v, x = .ref a ∧ H1 a = some (.ins C dx fs) ∧ Cls K C ∧ NoAttr K C f ∧ fs.lookup f = some v ∧ Q v H1
def RSf (K : PySem.W.Frag) (f : Str) (y : V) (R : Hp → Prop) : VK := fun x H2 => ∃ a C dx fs, x = .ref a ∧ H2 a = some (.ins C dx fs) ∧ Cls K C ∧ NoAttr K C f ∧ fs.length < 1000 ∧ R (upd H2 a (.ins C dx (putF f y fs)))
def RMt (C : Addr) (m : Str) (sp : Sp) (dvs : List V) (E : XK) (t : TA) (σ : L2.St) (Q : VK) : VK := fun x H1 => ∃ a dx fs, x = .ref a ∧ H1 a = some (.ins C dx fs) ∧ fs.lookup m = none ∧ t σ H1 fun vs H2 => sp (x :: (vs ++ dvs)) H2 Q E
section
variable {K : PySem.W.Frag} {σ : L2.St} {H : Hp} {ta tv : TE} {D : Ends} {Q : VK} {v y : V} {f m : Str} {a C dx : Addr} {fs : List (Str × V)} {sp : Sp} {dvs : List V} {E : XK} {t : TA}
theorem e_fld : tFld K ta f σ H Q = ta σ H (RFld K f Q) := rfl
theorem e_sfld : sFld K ta tv f D σ H = tv σ H fun y H1 => ta σ H1 (RSf K f y (D.nx σ)) := rfl
theorem e_meth : tMeth C m sp dvs E ta t σ H Q = ta σ H (RMt C m sp dvs E t σ Q) := rfl
theorem x_fld (h : H a = some (.ins C dx fs)) (c : Cls K C) (n : NoAttr K C f) (l : fs.lookup f = some v) (k : Q v H) : RFld K f Q (.ref a) H := ⟨a, C, dx, fs, v, rfl, h, c, n, l, k⟩
theorem x_sfld {R : Hp → Prop} {fs' : List (Str × V)} (h : H a = some (.ins C dx fs)) (c : Cls K C) (n : NoAttr K C f) (e : putF f y fs = fs') (hz : decide (fs.length < 1000) = true) (k : R (upd H a (.ins C dx fs'))) : RSf K f y R (.ref a) H := ⟨a, C, dx, fs, rfl, h, c, n, of_decide_eq_true hz, by rw [e]; exact k⟩
theorem x_meth (h : H a = some (.ins C dx fs)) (l : fs.lookup m = none) (k : t σ H fun vs H2 => sp (.ref a :: (vs ++ dvs)) H2 Q E) : RMt C m sp dvs E t σ Q (.ref a) H := ⟨a, dx, fs, rfl, h, l, k⟩
end
/-! slices -/
section
variable {K : PySem.W.Frag} {σ : L2.St} {H : Hp} {ta : TE} {tl th : TO} {Q : VK} {R : Option Int → Hp → Prop}
theorem e_sl {r : V → Option Int → Option Int → Hp → VK → Prop} : tSl r ta tl th σ H Q = ta σ H fun x H1 => tl σ H1 fun l H2 => th σ H2 fun u H3 => r x l u H3 Q := rfl
theorem e_nopart : tNoPart σ H R = R none H := rfl
def RPt (R : Option Int → Hp → Prop) : VK := fun x H1 => ∃ i, x = .int i ∧ R (some i) H1
theorem e_part : tPart ta σ H R = ta σ H (RPt R) := rfl
theorem x_part {i : Int} (h : R (some i) H) : RPt R (.int i) H := ⟨i, rfl, h⟩
theorem x_slL {p : Addr} {xs : List V} {lo hi : Option Int} (hS : SqL K H p xs) (h : ∀ q, H q = none → Q (.ref q) (upd H q (.lst (cutV xs lo hi)))) : rSlL K (.ref p) lo hi H Q := ⟨p, xs, rfl, hS, h⟩
theorem cut_take {xs : List V} {k : Nat} : cutV xs none (some (k : Int)) = xs.take k := by
  unfold cutV
  rw [HT.sIx_none, HT.sIx_nat, List.drop_zero, Nat.sub_zero]
  by_cases h : k ≤ xs.length
  · rw [Nat.min_eq_left h]
  · rw [Nat.min_eq_right (by omega), List.take_of_length_le (Nat.le_refl _), List.take_of_length_le (i := k) (by omega)]
theorem cut_drop {xs : List V} {k : Nat} : cutV xs (some (k : Int)) none = xs.drop k := by
  unfold cutV
  rw [HT.sIx_none, HT.sIx_nat]
  by_cases h : k ≤ xs.length
  · rw [Nat.min_eq_left h, List.take_of_length_le (by rw [List.length_drop]; omega)]
  · rw [Nat.min_eq_right (by omega), List.drop_of_length_le (Nat.le_refl _), List.drop_of_length_le (by omega), List.take_nil]
end
/-! members, methods of lists of names -/
theorem inV_nat {n : Nat} : ∀ {ns : List Nat}, inV (nV n) (ns.map nV) = decide (n ∈ ns)
  | [] => rfl
  | m :: r => by
    have ih := inV_nat (n := n) (ns := r)
    unfold inV at ih ⊢
    rw [List.map_cons, List.any_cons, ih]
    show (((m : Int) == (n : Int)) || decide (n ∈ r)) = _
    by_cases e : m = n
    · simp [e]
    · have e' : ¬ (m : Int) = n := fun z => e (Int.ofNat.inj z)
      simp [e', Ne.symm e]
theorem flat_nat (ns : List Nat) : (ns.map nV).all flatV = true := by
  rw [List.all_eq_true]
  intro x hx
  obtain ⟨n, _, rfl⟩ := List.mem_map.mp hx
  rfl
section
variable {K : PySem.W.Frag} {H : Hp} {Q : VK}
theorem x_inN {i : Int} {n : Nat} {p : Addr} {ns : List Nat} (hi : i = n) (hS : SqL K H p (ns.map nV)) (h : Q (.bl (decide (n ∈ ns))) H) : rIn K false (.int i) (.ref p) H Q := by
  subst hi; exact ⟨p, _, rfl, .inl hS, rfl, flat_nat ns, by rw [inV_nat]; exact h⟩
theorem x_ninN {i : Int} {n : Nat} {p : Addr} {ns : List Nat} (hi : i = n) (hS : SqL K H p (ns.map nV)) (h : Q (.bl (!decide (n ∈ ns))) H) : rIn K true (.int i) (.ref p) H Q := by
  subst hi; exact ⟨p, _, rfl, .inl hS, rfl, flat_nat ns, by rw [inV_nat]; exact h⟩
theorem erase_first {n : Nat} : ∀ {ns : List Nat}, n ∈ ns → ∃ j : Nat, (ns.map fun n : Nat => (n : Int))[j]? = some (n : Int) ∧ (∀ m : Nat, m < j → (ns.map fun n : Nat => (n : Int))[m]? ≠ some (n : Int)) ∧ ns.eraseIdx j = ns.erase n
  | [], h => by cases h
  | m :: r, h => by
    by_cases e : m = n
    · refine ⟨0, by simp [e], fun m h => absurd h (Nat.not_lt_zero _), by simp [e]⟩
    · have hr : n ∈ r := by
        rcases List.mem_cons.mp h with z | z
        · exact absurd z.symm e
        · exact z
      obtain ⟨j, h1, h2, h3⟩ := erase_first hr
      refine ⟨j + 1, by simpa using h1, fun k hk => ?_, ?_⟩
      · cases k with
        | zero =>
          intro z
          have z : some ((m : Nat) : Int) = some (n : Int) := z
          exact e (Int.ofNat.inj (Option.some.inj z))
        | succ k => exact h2 k (by omega)
      · rw [List.eraseIdx_cons_succ, h3, List.erase_cons_tail (by simpa using e)]
theorem eraseIdx_mapV {α β : Type} (f : α → β) : ∀ (xs : List α) (j : Nat), (xs.map f).eraseIdx j = (xs.eraseIdx j).map f
  | [], _ => rfl
  | _ :: _, 0 => rfl
  | x :: r, j + 1 => by
    show f x :: (r.map f).eraseIdx j = f x :: (r.eraseIdx j).map f
    rw [eraseIdx_mapV f r j]
theorem x_remove {i : Int} {n : Nat} {l : Addr} {ns : List Nat} (hi : i = n) (hl : H l = some (.lst (ns.map nV))) (hn : n ∈ ns) (h : Q .non (upd H l (.lst ((ns.erase n).map nV)))) : rRemI (.ref l) [.int i] H Q := by
  subst hi
  obtain ⟨j, h1, h2, h3⟩ := erase_first hn
  refine ⟨l, ns.map fun n : Nat => (n : Int), n, j, rfl, rfl, by rw [← map_nV]; exact hl, h1, h2, ?_⟩
  have e : ((ns.map fun n : Nat => (n : Int)).eraseIdx j).map V.int = (ns.erase n).map nV := by
    rw [eraseIdx_mapV, h3, ← map_nV]
  rw [e]; exact h
theorem x_pop0 {l : Addr} {x : V} {xs : List V} (hl : H l = some (.lst (x :: xs))) (h : Q x (upd H l (.lst xs))) : rPopAt (.ref l) [.int 0] H Q :=
  ⟨l, x :: xs, 0, 0, x, rfl, rfl, hl, by decide, by decide, by unfold seqIndex?; simp, rfl, h⟩
end

/-! len(set(names)), [:-1] -/
def RLs (K : PySem.W.Frag) (Q : VK) : VK := fun x H1 => ∃ (l : Addr) (ns : List Int), x = .ref l ∧ SqL K H1 l (ns.map V.int) ∧ ns.Nodup ∧ ns.length ≤ 4000 ∧ Q (.int (ns.length : Nat)) H1
theorem e_lenSet {K : PySem.W.Frag} {σ : L2.St} {H : Hp} {ta : TE} {Q : VK} : RZ.tLenSetI K ta σ H Q = ta σ H (RLs K Q) := rfl
theorem x_lenSet {K : PySem.W.Frag} {H : Hp} {Q : VK} {a : Addr} {ns : List Nat} (hS : SqL K H a (ns.map nV)) (nd : ns.Nodup) (hz : ns.length ≤ 4000) (h : Q (.int (ns.length : Nat)) H) : RLs K Q (.ref a) H :=
  ⟨a, ns.map fun n : Nat => (n : Int), rfl, by rw [← map_nV]; exact hS, List.Pairwise.map _ (fun a b h e => h (Int.ofNat.inj e)) nd, by rw [List.length_map]; exact hz, by rw [List.length_map]; exact h⟩
theorem cut_init {xs : List V} : cutV xs none (some (-1)) = xs.dropLast := by
  unfold cutV
  rw [HT.sIx_none, List.drop_zero, Nat.sub_zero]
  have e : HT.sIx xs.length xs.length (some (-1)) = xs.length - 1 := by
    unfold HT.sIx
    simp
    omega
  rw [e, List.dropLast_eq_take]
/-! new objects -/
theorem x_new {A : Prop} {R : Addr → Prop} (ha : A) (h : ∀ p, H p = none → R p) : A ∧ ∀ p, H p = none → R p := ⟨ha, h⟩
/-- a def with defaults, no exception out -/
theorem _root_.L2.FunD.okD {P : Program} {w : World} {K : PySem.W.Frag} {mg : Str → Option Value} {base : Heap} {x qual : Str} {st : Stmt} {f : Addr} {fd : FuncData} {dvs : List V} {kws : List (Str × V)} {N ps : List Str} {k : Nat} {sp : Sp} (F : FunD K x qual (defArgs st) (defBody st) (defScope st) dvs kws f fd) (S : FnScope N ps (defScope st)) (len : ∀ vs H Q E, sp vs H Q E → vs.length = ps.length)
    (hbody : ∀ (cdv : Value) (A : Around) (outer : List Env) (s : Shared) (H : Hp) (vs : List V) (Q : VK) (E : XK), Room k (A.deeper (PyProof.Rows.envOfC qual (defScope st) s.heap.objs.size f cdv)) → sp vs H Q E →
      ∃ t, PSs (cxOf CX0 P w K mg base N qual (defScope st) f cdv A outer s H E).nox (defBody st) t ∧ t { nx := fun _ H' => Q .non H', rt := Q } (start N vs) H) : FnOk P w K mg base CX0 (k + 1) f fd ps sp :=
  F.ok (CX := CX0) S len fun cdv A outer s H vs Q E hr h => let ⟨t, a, b⟩ := hbody cdv A outer s H vs Q E hr h; ⟨t, a.nox, b⟩
theorem fund_mk {K : PySem.W.Frag} {x qual : Str} {st : Stmt} {f D : Addr} {oc tc : Value} {od an td : Option Addr} {osl tl : Array (Option Value)} {kV doc pm cdv ct : Value} {tn : Nat} {its : List Value} {ds : List V} (l : K.lookup f = some ⟨oc, od, .func (PySem.W.fnOf x qual (defArgs st) (defBody st) (defScope st) (.ref D) kV doc pm an cdv ct), osl⟩)
    (c : PySem.W.codeIn K cdv qual = true) (k : PySem.W.keepIn K (.ref f) = true) (t : K.lookup D = some ⟨tc, td, .seq its.toArray tn, tl⟩) (v : Vals ds its) (hd : ds ≠ [] := by simp) : FunD K x qual (defArgs st) (defBody st) (defScope st) ds [] f (PySem.W.fnOf x qual (defArgs st) (defBody st) (defScope st) (.ref D) kV doc pm an cdv ct) :=
  ⟨⟨oc, od, .ref D, kV, doc, pm, an, cdv, ct, osl, rfl, l, c, .inr ⟨hd, D, _, its, tn, rfl, t, rfl, v⟩, .inl rfl⟩, k⟩
theorem vnil {K : PySem.W.Frag} {fd : FuncData} {ps : List Str} {ds : List Value} (v : Vals [] ds) (b : Binds K fd ps ds) : Binds K fd ps [] := by
  cases v
  exact b
/-! making, sorting, extending; comprehensions over whatever walks -/
def RMk (C : Addr) (sp : Sp) (dvs : List V) (E : XK) (Q : VK) : List V → Hp → Prop := fun vs H1 => ∀ x dx, H1 x = none → H1 dx = none → dx ≠ x → sp (.ref x :: (vs ++ dvs)) (upd (upd H1 dx (.own x)) x (.ins C dx [])) (fun v H2 => v = .non ∧ Q (.ref x) H2) E
theorem e_make {C : Addr} {sp : Sp} {dvs : List V} {E : XK} {t : TA} {σ : L2.St} {H : Hp} {Q : VK} : tMake C sp dvs E t σ H Q = t σ H (RMk C sp dvs E Q) := rfl
theorem x_make {C : Addr} {sp : Sp} {dvs vs : List V} {E : XK} {H : Hp} {Q : VK} (h : ∀ x dx H1, H x = none → Ex H H1 → H1 x = some (.ins C dx []) → sp (.ref x :: (vs ++ dvs)) H1 (fun v H2 => v = .non ∧ Q (.ref x) H2) E) : RMk C sp dvs E Q vs H :=
  fun x dx hx hdx ne => h x dx _ hx ((Ex.new hdx).newT (by rw [upd_ne (Ne.symm ne)]; exact hx)) upd_same
theorem x_extend {H : Hp} {Q : VK} {l b : Addr} {xs zs : List V} (hl : H l = some (.lst xs)) (hb : H b = some (.lst zs)) (hz : xs.length + zs.length ≤ sizeLine) (h : Q .non (upd H l (.lst (xs ++ zs)))) : rExtend (.ref l) [.ref b] H Q := ⟨l, b, xs, zs, rfl, rfl, hl, hb, hz, h⟩
theorem x_clear {H : Hp} {Q : VK} {l : Addr} {xs : List V} (hl : H l = some (.lst xs)) (h : Q .non (upd H l (.lst []))) : rClear (.ref l) [] H Q := ⟨l, xs, rfl, rfl, hl, h⟩
theorem LcW.by1 {J : It} {n : Nat} {G : Hp → Prop} {Y : Nat → Hp → V → Hp → Prop} {te : TE} {k : Nat} {σ : L2.St} {H : Hp} {Q : VK} (w : Walk J n G Y) (hz : n < sizeLine) (Pv : Addr → Nat → List V → Hp → Prop)
    (h0 : ∀ D, H D = none → Pv D 0 [] (upd H D (.lst [])))
    (hG : ∀ D i acc H', H D = none → i ≤ n → Pv D i acc H' → G H')
    (hs : ∀ D i acc x H1 H1', i < n → H D = none → Pv D i acc H1 → H1 D = some (.lst acc) → Y i H1 x H1' → ∀ Qe : VK, (∀ y H4, H4 D = some (.lst acc) → Pv D (i + 1) (acc ++ [y]) (upd H4 D (.lst (acc ++ [y]))) → Qe y H4) → te ((wipe σ [k]).set k (some x)) H1' Qe)
    (hd : ∀ D acc H', H D = none → Pv D n acc H' → H' D = some (.lst acc) → acc.length = n → Q (.ref D) H') : LcW (gName k) tYes te [k] σ Q J H := by
  intro D hD
  refine lc_it w (Qd := fun H' => Q (.ref D) H') (fun i H' => ∃ acc, acc.length = i ∧ H' D = some (.lst acc) ∧ Pv D i acc H') ⟨[], rfl, upd_same, h0 D hD⟩ (fun i H' hi ⟨acc, _, _, p⟩ => hG D i acc H' hD hi p) ?_ ?_
  · rintro i x H1 H1' hi ⟨acc, hl, ha, p⟩ y
    refine ⟨wipe_set1, ?_⟩
    rw [e_yes]
    refine iteT ?_
    refine hs D i acc x H1 H1' hi hD p ha y _ fun y H4 h4 p4 => ⟨acc, h4, by rw [hl]; exact Nat.lt_trans hi hz, acc ++ [y], by simp [hl], upd_same, p4⟩
  · rintro H1 ⟨acc, hl, ha, p⟩
    exact hd D acc H1 hD p ha hl
end
/-! ranges downwards, list + list, insert -/
def Rg3 (R : It → Hp → Prop) : List V → Hp → Prop := fun vs H1 => ∃ (i j c : Int) (n : Nat), vs = [.int i, .int j, .int c] ∧ RgC i j c n ∧ R (Itc i c n) H1
theorem e_rng3 {σ : L2.St} {H : Hp} {ts : TA} {R : It → Hp → Prop} : iRng3 ts σ H R = ts σ H (Rg3 R) := rfl
theorem x_rgDown {m : Nat} {H : Hp} {R : It → Hp → Prop} (hm : (m : Int) < 2 ^ 61) (h : R (Itc ((m : Int) - 1) (-1) m) H) : Rg3 R [V.int ((m : Int) - 1), .int (-1), .int (-1)] H :=
  ⟨_, _, _, m, rfl, by
    have q := RgC.neg (i := (m : Int) - 1) (j := -1) (by omega) (by omega) (by omega) (by omega)
    have e : ((m : Int) - 1 - -1).toNat = m := by omega
    rw [e] at q; exact q, h⟩
theorem walk_down {n : Nat} : Walk (Itc ((n : Int) - 1) (-1) n) n (fun _ => True) (fun i H x H' => H' = H ∧ ∃ k : Nat, k = n - 1 - i ∧ x = .int (k : Int)) :=
  ⟨fun _ _ hi _ => hi, fun _ _ => Nat.le_refl _, fun i H x H' hi _ y => ⟨y.1, n - 1 - i, rfl, by
    rw [y.2]
    have e : (n : Int) - 1 + (i : Nat) * -1 = ((n - 1 - i : Nat) : Int) := by omega
    rw [e]⟩⟩
theorem x_cat {H : Hp} {Q : VK} {a b : Addr} {xs zs : List V} (ha : H a = some (.lst xs)) (hb : H b = some (.lst zs)) (hz : xs.length + zs.length ≤ sizeLine) (h : ∀ p, H p = none → Q (.ref p) (upd H p (.lst (xs ++ zs)))) : rCat (.ref a) (.ref b) H Q := ⟨a, b, xs, zs, rfl, rfl, ha, hb, hz, h⟩
def rInsert : V → List V → Hp → VK → Prop := fun x vs H Q => ∃ (l : Addr) (xs : List V) (i : Int) (y : V), x = .ref l ∧ vs = [.int i, y] ∧ H l = some (.lst xs) ∧ xs.length < sizeLine ∧ 0 ≤ i ∧ i < 2 ^ 63 ∧
    Q .non (upd H l (.lst (xs.take i.toNat ++ [y] ++ xs.drop i.toNat)))
theorem mt_ins {X : Cx} : MtR X "list.insert" rInsert := mt_insert
theorem x_insert {H : Hp} {Q : VK} {l : Addr} {xs : List V} {i : Int} {k : Nat} {y : V} (hi : i = k) (hl : H l = some (.lst xs)) (hz : xs.length < sizeLine) (hk : k < 2 ^ 62) (h : Q .non (upd H l (.lst (xs.take k ++ [y] ++ xs.drop k)))) : rInsert (.ref l) [.int i, y] H Q :=
  ⟨l, xs, i, y, rfl, rfl, hl, hz, by omega, by omega, by rw [hi, Int.toNat_natCast]; exact h⟩
theorem cut_len {xs : List V} {k m : Nat} : (cutV xs (some (k : Int)) (some (m : Int))).length ≤ m - k := by
  unfold cutV
  rw [HT.sIx_nat, HT.sIx_nat, List.length_take]
  omega
theorem cut_mem {xs : List V} {lo hi : Option Int} {x : V} (h : x ∈ cutV xs lo hi) : x ∈ xs := List.mem_of_mem_drop (List.mem_of_mem_take h)
theorem absI (i : Int) : ∃ n : Nat, (if i < 0 then -i else i) = (n : Int) := ⟨i.natAbs, by split <;> omega⟩
/-! equal by what is read -/
def Shp (d : PyData) (k : Nat) : Prop := d.canLay0 = true ∧ d.depth ≤ k
theorem Shp.mono {d : PyData} {k j : Nat} (h : Shp d k) (e : k ≤ j) : Shp d j := ⟨h.1, Nat.le_trans h.2 e⟩
theorem shp_all {k : Nat} : ∀ {xs : List PyData}, (∀ x ∈ xs, Shp x k) → PyData.canLayAll0 xs = true ∧ PyData.depthAll xs ≤ k
  | [], _ => by simp [PyData.canLayAll0, PyData.depthAll]
  | x :: xs, h => by
    have h1 := h x (List.mem_cons_self ..)
    have h2 := shp_all (xs := xs) fun y hy => h y (List.mem_cons_of_mem _ hy)
    simp only [PyData.canLayAll0, PyData.depthAll, h1.1, h2.1, Bool.and_self, true_and]
    exact Nat.max_le.mpr ⟨h1.2, h2.2⟩
theorem Shp.lst {k : Nat} {xs : List PyData} (h : ∀ x ∈ xs, Shp x k) : Shp (.list xs) (k + 1) := by
  have q := shp_all h
  exact ⟨by simp only [PyData.canLay0]; exact q.1, by simp only [PyData.depth]; omega⟩
theorem Shp.tup {k : Nat} {xs : List PyData} (h : ∀ x ∈ xs, Shp x k) : Shp (.tuple xs) (k + 1) := by
  have q := shp_all h
  exact ⟨by simp only [PyData.canLay0]; exact q.1, by simp only [PyData.depth]; omega⟩
theorem Shp.int {i : Int} : Shp (.int i) 0 := ⟨by simp only [PyData.canLay0], by simp only [PyData.depth]; exact Nat.le_refl _⟩
theorem Shp.bl {i : Bool} : Shp (.bool i) 0 := ⟨by simp only [PyData.canLay0], by simp only [PyData.depth]; exact Nat.le_refl _⟩
theorem Shp.non : Shp .none 0 := ⟨by simp only [PyData.canLay0], by simp only [PyData.depth]; exact Nat.le_refl _⟩
theorem Shp.str {x : Str} (h : PyData.canLay0 (.str x) = true) : Shp (.str x) 0 := ⟨h, by simp only [PyData.depth]; exact Nat.le_refl _⟩
theorem Shp.ints {xs : List Int} : Shp (.list (xs.map PyData.int)) 1 := Shp.lst fun x hx => by
  obtain ⟨i, _, rfl⟩ := List.mem_map.mp hx; exact Shp.int
theorem Shp.ok {d : PyData} {k : Nat} (h : Shp d k) (hk : k ≤ 64 := by decide) : SeqAt.shaped d = true := by
  unfold SeqAt.shaped
  rw [h.1, decide_eq_true (Nat.le_trans h.2 hk)]; rfl
theorem Dp.natsL {K : PySem.W.Frag} {H : Hp} {a : Addr} {xs : List Nat} (h : SqL K H a (xs.map nV)) : Dp K H (.ref a) (.list ((xs.map fun n : Nat => (n : Int)).map PyData.int)) := .lst (by rw [map_nV] at h; exact h) (dpAll_ints _)
theorem x_neSame {K : PySem.W.Frag} {H : Hp} {Q : VK} {x y : V} {d : PyData} {k : Nat} (hx : Dp K H x d) (hy : Dp K H y d) (hs : Shp d k) (h : Q (.bl false) H) (hk : k ≤ 64 := by decide) : rNeD K x y H Q := ⟨d, d, hx, hy, hs.ok hk, hs.ok hk, by
  rw [SeqAt.eqv_refl d hs.1]; exact h⟩
theorem x_eqSame {K : PySem.W.Frag} {H : Hp} {Q : VK} {x y : V} {d : PyData} {k : Nat} (hx : Dp K H x d) (hy : Dp K H y d) (hs : Shp d k) (h : Q (.bl true) H) (hk : k ≤ 64 := by decide) : rEqD K x y H Q := ⟨d, d, hx, hy, hs.ok hk, hs.ok hk, by
  rw [SeqAt.eqv_refl d hs.1]; exact h⟩
end Nn
namespace Nn
open PySem L2
def top (i : Nat) : Stmt := PySem.Challenge.pw_nearnames_k12_never_forgets.main.body.getD i (.Pass ⟨0, 0, 0, 0⟩)
abbrev s_Bucket_init : Stmt := inClass (top 2) 0
abbrev N_Bucket_init : List Str := ["self", "room"]
theorem st_Bucket_init (v0 v1 : V) : L2.start ["self", "room"] [v0, v1] = [some v0, some v1] := rfl
theorem sc_Bucket_init : FnScope ["self", "room"] ["self", "room"] (defScope s_Bucket_init) := ⟨rfl, rfl, rfl, by decide +kernel, rfl, by decide +kernel, by decide +kernel⟩
abbrev s_Bucket_names : Stmt := inClass (top 2) 1
abbrev N_Bucket_names : List Str := ["self"]
theorem st_Bucket_names (v0 : V) : L2.start ["self"] [v0] = [some v0] := rfl
theorem sc_Bucket_names : FnScope ["self"] ["self"] (defScope s_Bucket_names) := ⟨rfl, rfl, rfl, by decide +kernel, rfl, by decide +kernel, by decide +kernel⟩
abbrev s_Bucket_hears : Stmt := inClass (top 2) 2
abbrev N_Bucket_hears : List Str := ["self", "name", "answers"]
theorem st_Bucket_hears (v0 v1 v2 : V) : L2.start ["self", "name", "answers"] [v0, v1, v2] = [some v0, some v1, some v2] := rfl
theorem sc_Bucket_hears : FnScope ["self", "name", "answers"] ["self", "name", "answers"] (defScope s_Bucket_hears) := ⟨rfl, rfl, rfl, by decide +kernel, rfl, by decide +kernel, by decide +kernel⟩
abbrev s_Bucket_drops : Stmt := inClass (top 2) 3
abbrev N_Bucket_drops : List Str := ["self", "name"]
theorem st_Bucket_drops (v0 v1 : V) : L2.start ["self", "name"] [v0, v1] = [some v0, some v1] := rfl
theorem sc_Bucket_drops : FnScope ["self", "name"] ["self", "name"] (defScope s_Bucket_drops) := ⟨rfl, rfl, rfl, by decide +kernel, rfl, by decide +kernel, by decide +kernel⟩
abbrev s_l_cell_at : Stmt := top 4
abbrev N_l_cell_at : List Str := ["_law_script", "_law_k"]
theorem st_l_cell_at (v0 v1 : V) : L2.start ["_law_script", "_law_k"] [v0, v1] = [some v0, some v1] := rfl
theorem sc_l_cell_at : FnScope ["_law_script", "_law_k"] ["_law_script", "_law_k"] (defScope s_l_cell_at) := ⟨rfl, rfl, rfl, by decide +kernel, rfl, by decide +kernel, by decide +kernel⟩
abbrev s_l_among : Stmt := top 5
abbrev N_l_among : List Str := ["_law_number", "_law_answers"]
theorem st_l_among (v0 : V) : L2.start ["_law_number", "_law_answers"] [v0] = [some v0, none] := rfl
theorem sc_l_among : FnScope ["_law_number", "_law_answers"] ["_law_number"] (defScope s_l_among) := ⟨rfl, rfl, rfl, by decide +kernel, rfl, by decide +kernel, by decide +kernel⟩
abbrev s_l_right : Stmt := top 6
abbrev N_l_right : List Str := ["_law_ahead", "_law_behind", "_law_room", "_law_name", "_law_word", "_law_number", "_law_one"]
theorem st_l_right (v0 v1 v2 v3 v4 v5 : V) : L2.start ["_law_ahead", "_law_behind", "_law_room", "_law_name", "_law_word", "_law_number", "_law_one"] [v0, v1, v2, v3, v4, v5] = [some v0, some v1, some v2, some v3, some v4, some v5, none] := rfl
theorem sc_l_right : FnScope ["_law_ahead", "_law_behind", "_law_room", "_law_name", "_law_word", "_law_number", "_law_one"] ["_law_ahead", "_law_behind", "_law_room", "_law_name", "_law_word", "_law_number"] (defScope s_l_right) := ⟨rfl, rfl, rfl, by decide +kernel, rfl, by decide +kernel, by decide +kernel⟩
abbrev s_law : Stmt := top 7
abbrev N_law : List Str := ["_law_script", "_law_room", "_law_bucket", "_law_cell", "_law_name", "_law_number", "_law_ahead", "_law_word"]
theorem st_law (v0 : V) : L2.start ["_law_script", "_law_room", "_law_bucket", "_law_cell", "_law_name", "_law_number", "_law_ahead", "_law_word"] [v0] = [some v0, none, none, none, none, none, none, none] := rfl
theorem sc_law : FnScope ["_law_script", "_law_room", "_law_bucket", "_law_cell", "_law_name", "_law_number", "_law_ahead", "_law_word"] ["_law_script"] (defScope s_law) := ⟨rfl, rfl, rfl, by decide +kernel, rfl, by decide +kernel, by decide +kernel⟩
abbrev s_l_among__law_answers : Stmt := (defBody s_l_among).getD 0 (.Pass ⟨0, 0, 0, 0⟩)
abbrev N_l_among__law_answers : List Str := ["_law_name", "_law_number"]
abbrev fr_l_among__law_answers : List Str := ["_law_number"]
theorem nsc_l_among__law_answers : NdefX.NScope N_l_among__law_answers ["_law_name"] fr_l_among__law_answers (C8.fnScope s_l_among__law_answers) := NdefX.nscope_by (by decide +kernel)
theorem st_l_among__law_answers (v0 : V) (w0 : Option V) : NdefX.startF ["_law_name", "_law_number"] [v0] [w0] = [some v0, w0] := rfl
abbrev nf_l_among__law_answers (cl : List (Str × Addr)) (c : Addr) : NdefX.NF := NdefX.NF.of s_l_among__law_answers "_law_answers" ((("_law_among" : Str) ++ ".<locals>.") ++ "_law_answers") cl c
theorem nm_l_among__law_answers : nmAll 38 4 = (("_law_among" : Str) ++ ".<locals>.") ++ "_law_answers" := by decide +kernel
def tfL : List He.Defn := [("_law_among", none)]
def Tabs0 (K : PySem.W.Frag) (H : Hp) : Prop := ∀ p ∈ tfL.map (He.cT K), H p.2 = some (.tbl #[])
theorem ne_Bucket_room_line : (("room" : Str) == "line") = false := by decide +kernel
theorem eq_Bucket_room : (("room" : Str) == "room") = true := by decide +kernel
theorem ne_Bucket_line_room : (("line" : Str) == "room") = false := by decide +kernel
theorem eq_Bucket_line : (("line" : Str) == "line") = true := by decide +kernel
abbrev f_Bucket (x0 x1 : V) : List (Str × V) := [(("room" : Str), x0), (("line" : Str), x1)]
theorem lk_Bucket_room {x0 x1 : V} : (f_Bucket x0 x1).lookup ("room" : Str) = some x0 := by
  simp only [f_Bucket, List.lookup, ne_Bucket_room_line, eq_Bucket_room]
theorem put_Bucket_room {x0 x1 y : V} : putF "room" y (f_Bucket x0 x1) = f_Bucket y x1 := by
  have e : ∀ a b : Str, (a == b) = false → ¬ a = b := fun a b h z => by rw [z] at h; simp at h
  unfold f_Bucket
  simp only [putF, if_neg (e _ _ ne_Bucket_line_room), if_true]
theorem lk_Bucket_line {x0 x1 : V} : (f_Bucket x0 x1).lookup ("line" : Str) = some x1 := by
  simp only [f_Bucket, List.lookup, ne_Bucket_line_room, eq_Bucket_line]
theorem put_Bucket_line {x0 x1 y : V} : putF "line" y (f_Bucket x0 x1) = f_Bucket x0 y := by
  have e : ∀ a b : Str, (a == b) = false → ¬ a = b := fun a b h z => by rw [z] at h; simp at h
  unfold f_Bucket
  simp only [putF, if_neg (e _ _ ne_Bucket_room_line), if_true]
theorem ini_Bucket_room { y : V} : putF "room" y ([] : List (Str × V)) = [(("room" : Str), y)] := by
  have e : ∀ a b : Str, (a == b) = false → ¬ a = b := fun a b h z => by rw [z] at h; simp at h
  simp only [putF]
theorem ini_Bucket_line {x0 y : V} : putF "line" y ([(("room" : Str), x0)] : List (Str × V)) = [(("room" : Str), x0), (("line" : Str), y)] := by
  have e : ∀ a b : Str, (a == b) = false → ¬ a = b := fun a b h z => by rw [z] at h; simp at h
  simp only [putF, if_neg (e _ _ ne_Bucket_room_line)]
theorem nm_Bucket_names_room : (("names" : Str) == "room") = false := by decide +kernel
theorem nm_Bucket_names_line : (("names" : Str) == "line") = false := by decide +kernel
theorem no_Bucket_names {x0 x1 : V} : (f_Bucket x0 x1).lookup ("names" : Str) = none := by
  simp only [f_Bucket, List.lookup, nm_Bucket_names_room, nm_Bucket_names_line]
theorem nm_Bucket_hears_room : (("hears" : Str) == "room") = false := by decide +kernel
theorem nm_Bucket_hears_line : (("hears" : Str) == "line") = false := by decide +kernel
theorem no_Bucket_hears {x0 x1 : V} : (f_Bucket x0 x1).lookup ("hears" : Str) = none := by
  simp only [f_Bucket, List.lookup, nm_Bucket_hears_room, nm_Bucket_hears_line]
theorem nm_Bucket_drops_room : (("drops" : Str) == "room") = false := by decide +kernel
theorem nm_Bucket_drops_line : (("drops" : Str) == "line") = false := by decide +kernel
theorem no_Bucket_drops {x0 x1 : V} : (f_Bucket x0 x1).lookup ("drops" : Str) = none := by
  simp only [f_Bucket, List.lookup, nm_Bucket_drops_room, nm_Bucket_drops_line]
end Nn
/-! A made function that outlives the def that made it: its cells are tracked from the maker's end on. -/
namespace Nn
open PySem PySem.Spec PyProof.Rows L2 NdefX LamX
/-- a cell that holds v -/
def CellO (c : Addr) (v : V) : HO := .ext fun h => ∃ u, L2.RelV v u ∧ h.IsCell c (some u)
theorem cellO_ok {P : Program} {w : World} {H : Hp} {h : Heap} {c : Addr} {v : V} {u : Value} (r : L2.RelV v u) (e : h.IsCell c (some u)) : ObjOk P w H h c (CellO c v) := by
  obtain ⟨o, ho, hd⟩ := e
  exact ⟨⟨u, r, o, ho, hd⟩, ⟨o, ho⟩, fun h1 h2 ⟨u1, r1, o1, h3, h4⟩ k => ⟨u1, r1, o1, k _ h3, h4⟩⟩
/-- the cells of a function are tracked: they hold vs -/
structure CellsT (H : Hp) (cl : List (Str × Addr)) (fr : List Str) (vs : List V) : Prop where
  len : vs.length = fr.length
  all : ∀ y c, cl.lookup y = some c → ∃ v, H c = some (CellO c v)
  inj : ∀ x y c, cl.lookup x = some c → cl.lookup y = some c → x = y
  has : ∀ (i : Nat) (y : Str), fr[i]? = some y → ∃ c v, cl.lookup y = some c ∧ vs[i]? = some v ∧ H c = some (CellO c v)
open Classical in
noncomputable def strip (H : Hp) (cl : List (Str × Addr)) : Hp := fun b => if ∃ y, cl.lookup y = some b then none else H b
open Classical in
noncomputable def relay (H H' : Hp) (cl : List (Str × Addr)) : Hp := fun b => if ∃ y, cl.lookup y = some b then H b else H' b
section
variable {H H' : Hp} {cl : List (Str × Addr)} {fr : List Str} {vs : List V} {a : Addr} {o : HO}
theorem strip_in {y : Str} (h : cl.lookup y = some a) : strip H cl a = none := by unfold strip; rw [if_pos ⟨y, h⟩]
theorem strip_out (h : ¬ ∃ y, cl.lookup y = some a) : strip H cl a = H a := by unfold strip; rw [if_neg h]
theorem relay_in {y : Str} (h : cl.lookup y = some a) : relay H H' cl a = H a := by unfold relay; rw [if_pos ⟨y, h⟩]
theorem relay_out (h : ¬ ∃ y, cl.lookup y = some a) : relay H H' cl a = H' a := by unfold relay; rw [if_neg h]
theorem CellsT.no (C : CellsT H cl fr vs) (h : H a = some o) (n : NX o) : ¬ ∃ y, cl.lookup y = some a := fun ⟨y, e⟩ => by
  obtain ⟨v, hv⟩ := C.all y a e
  rw [h] at hv
  have hv := Option.some.inj hv
  rw [hv] at n
  exact n
/-- what is no cell stays in sight -/
theorem strip_at (C : CellsT H cl fr vs) (h : H a = some o) (n : NX o := by trivial) : strip H cl a = some o := by rw [strip_out (C.no h n)]; exact h
theorem strip_none (h : H a = none) : strip H cl a = none := by
  by_cases e : ∃ y, cl.lookup y = some a
  · obtain ⟨y, e⟩ := e; exact strip_in e
  · rw [strip_out e]; exact h
theorem relay_at (C : CellsT H cl fr vs) (f : strip H cl a = none → H' a = none) (h : H' a = some o) : relay H H' cl a = some o := by
  by_cases e : ∃ y, cl.lookup y = some a
  · obtain ⟨y, e⟩ := e
    rw [f (strip_in e)] at h; cases h
  · rw [relay_out e]; exact h
theorem relay_strip : relay H (strip H cl) cl = H := funext fun a => by
  by_cases e : ∃ y, cl.lookup y = some a
  · obtain ⟨y, e⟩ := e; exact relay_in e
  · rw [relay_out e, strip_out e]
/-- no cell is a code object -/
def Sep (H : Hp) (cl : List (Str × Addr)) : Prop := ∀ y a, cl.lookup y = some a → ∀ q, H a ≠ some (CodeO a q)
/-- the call leaves the cells untold -/
def Shut (H' : Hp) (cl : List (Str × Addr)) : Prop := ∀ y a, cl.lookup y = some a → H' a = none
/-- how the heap goes on over a call of the function -/
theorem CellsT.goes {S : Addr → Prop} (C : CellsT H cl fr vs) (se : Sep H cl) (sh : Shut H' cl) (f : Fr S (strip H cl) H') : Fr S H (relay H H' cl) where
  keep := fun a o h n s => by
    by_cases e : ∃ y, cl.lookup y = some a
    · obtain ⟨y, e⟩ := e
      rw [relay_in e]; exact h
    · rw [relay_out e]
      exact f.keep a o (by rw [strip_out e]; exact h) n s
  tab := fun P ⟨ps, h1, h2, h3⟩ => by
    have noP : ∀ {Hx : Hp} {qs : Array Value}, Hx P = some (.tbl qs) → (∀ y, cl.lookup y = some P → Hx P = none ∨ ∃ v, Hx P = some (CellO P v)) → ¬ ∃ y, cl.lookup y = some P := fun {Hx qs} e k ⟨y, hy⟩ => by
      rcases k y hy with z | ⟨v, z⟩
      · rw [e] at z; cases z
      · rw [e] at z
        have z := Option.some.inj z
        unfold CellO at z
        cases z
    have n1 := noP h1 fun y hy => .inr (C.all y P hy)
    have t1 : TabN (strip H cl) P nmAll := ⟨ps, by rw [strip_out n1]; exact h1, h2, fun pos cv hc => by
      obtain ⟨c, e1, e2⟩ := h3 pos cv hc
      refine ⟨c, e1, ?_⟩
      rw [strip_out fun ⟨y, hy⟩ => se y c hy _ e2]
      exact e2⟩
    obtain ⟨qs, g1, g2, g3⟩ := f.tab P t1
    have n2 := noP g1 fun y hy => .inl (sh y P hy)
    refine ⟨qs, by rw [relay_out n2]; exact g1, g2, fun pos cv hc => ?_⟩
    obtain ⟨c, e1, e2⟩ := g3 pos cv hc
    refine ⟨c, e1, ?_⟩
    rw [relay_out fun ⟨y, hy⟩ => by rw [sh y c hy] at e2; cases e2]
    exact e2
  back := fun a h => by
    by_cases e : ∃ y, cl.lookup y = some a
    · obtain ⟨y, e⟩ := e
      rw [relay_in e] at h; exact h
    · rw [relay_out e] at h
      have q := f.back a h
      rw [strip_out e] at q
      exact q
theorem CellsT.ex (C : CellsT H cl fr vs) (e : ∀ a o, H a = some o → NT o → H' a = some o) : CellsT H' cl fr vs :=
  ⟨C.len, fun y c h => let ⟨v, z⟩ := C.all y c h; ⟨v, e _ _ z trivial⟩, C.inj, fun i y h => let ⟨c, v, h1, h2, h3⟩ := C.has i y h; ⟨c, v, h1, h2, e _ _ h3 trivial⟩⟩
end
section
variable {P : Program} {w : World} {K : PySem.W.Frag} {mg : Str → Option Value} {base : Heap} {k : Nat} {f : Addr} {F : NF} {ps fr : List Str} {sp : List (Option V) → Sp}
theorem run_T (Fn : NOk P w K mg base CX0 k f F ps fr sp) {A : Around} {outer : List Env} {s : Shared} {H : Hp} {us : List Value} {vs zs : List V} {Q : VK} {E : XK} (hr : Room k A) (e0 : Env0 P w K mg base A outer s H) (hf : H f = some (FnO f F)) (hc : H F.c = some (CodeO F.c F.qual)) (C : CellsT H F.cl fr zs) (r : Vals vs us)
    (h : Sep H F.cl → sp (zs.map some) vs (strip H F.cl) (fun v H' => Shut H' F.cl → Q v (relay H H' F.cl)) E) : codeAny (model P w) A (.call (.ref f) ⟨us, []⟩) (CR CX0 outer P w H s Q E) s := by
  have cellAt : ∀ y a, F.cl.lookup y = some a → ∃ v u, H a = some (CellO a v) ∧ L2.RelV v u ∧ s.heap.IsCell a (some u) := fun y a e => by
    obtain ⟨v, hv⟩ := C.all y a e
    obtain ⟨⟨u, r1, z⟩, _, _⟩ := e0.hok a _ hv
    exact ⟨v, u, hv, r1, z⟩
  have noFn : ¬ ∃ y, F.cl.lookup y = some f := fun ⟨y, e⟩ => by
    obtain ⟨v, u, _, _, o, ho, hd⟩ := cellAt y f e
    obtain ⟨od, sl, doc, pm, ctv, z⟩ := fnO_at e0.hok hf
    rw [z] at ho; cases ho; cases hd
  have sep : Sep H F.cl := fun y a e q z => by
    obtain ⟨v, u, _, _, o, ho, hd⟩ := cellAt y a e
    obtain ⟨c, oc, ws, t, e1, e2, e3, _⟩ := codeO_at e0.hok z
    cases e1
    rw [e2] at ho; cases ho
    rw [hd] at e3; cases e3
  have noC : ¬ ∃ y, F.cl.lookup y = some F.c := fun ⟨y, e⟩ => sep y _ e _ hc
  have outOf : ∀ {b : Addr} {o : HO}, H b = some o → (∀ v, o ≠ CellO b v) → strip H F.cl b = some o := fun {b o} e n => by
    rw [strip_out fun ⟨y, z⟩ => by
      obtain ⟨v, hv⟩ := C.all y b z
      rw [e] at hv
      exact n v (Option.some.inj hv)]
    exact e
  have hok1 : HOk P w (strip H F.cl) s.heap := fun a o q => by
    have na : ¬ ∃ y, F.cl.lookup y = some a := fun ⟨y, z⟩ => by rw [strip_in z] at q; cases q
    rw [strip_out na] at q
    refine (e0.hok a o q).stay (fun _ _ _ z => z) (fun b z => outOf z fun v q => ?_) (fun b xs z => outOf z fun v q => ?_)
    · unfold CellO at q; cases q
    · unfold CellO at q; cases q
  have e1 : Env0 P w K mg base A outer s (strip H F.cl) := ⟨e0.frames, e0.mod, fun b o q => ⟨(e0.bs b o q).1, strip_none (e0.bs b o q).2⟩, e0.bsz, e0.funs, fun b q => strip_none (e0.frf b q), hok1, e0.bare⟩
  have C1 : CellsAt F.cl fr (zs.map some) s.heap (strip H F.cl) := ⟨by rw [List.length_map]; exact C.len, fun y c e => by
      obtain ⟨v, u, _, _, z⟩ := cellAt y c e
      exact ⟨strip_in e, _, z⟩, C.inj, fun i y e => by
      obtain ⟨c, v, h1, h2, h3⟩ := C.has i y e
      refine ⟨c, h1, fun v' hv' => ?_⟩
      rw [List.getElem?_map, h2] at hv'
      cases hv'
      obtain ⟨⟨u, r1, z⟩, _, _⟩ := e0.hok c _ h3
      exact ⟨u, r1, z⟩⟩
  refine codeAny_mono (Fn.run A outer s (strip H F.cl) us vs (zs.map some) _ E hr e1 (by rw [strip_out noFn]; exact hf) (by rw [strip_out noC]; exact hc) C1 r (h sep)) fun rr s' hq => ?_
  cases rr with
  | error e => exact hq
  | ok fl =>
    cases fl with
    | next => exact hq
    | brk => exact hq
    | cont => exact hq
    | ret u =>
      obtain ⟨v, H', os, bare, un, hok, rv, q⟩ := hq
      have shut : Shut H' F.cl := fun y a e => by
        obtain ⟨_, _, _, _, o, ho, _⟩ := cellAt y a e
        exact un.free a o ho (strip_in e) (by simp)
      have key : ∀ {b : Addr} {o o' : HO}, H b = some o → (∀ v, o ≠ CellO b v) → (strip H F.cl b = some o → H' b = some o') → relay H H' F.cl b = some o' := fun {b o o'} e n g => by
        have z := outOf e n
        have z' : ¬ ∃ y, F.cl.lookup y = some b := fun ⟨y, q⟩ => by rw [strip_in q] at z; cases z
        rw [relay_out z']
        exact g z
      have un2 : Un (frs outer) [] H (relay H H' F.cl) s.heap s'.heap := by
        refine ⟨fun b o e n => un.keep b o e (strip_none n), fun b o e n => un.slot b o e (strip_none n), fun b o e n hx => ?_, un.there, fun b xs e => ?_, fun b o u e => ?_, fun b ps e => ?_⟩
        · by_cases z : ∃ y, F.cl.lookup y = some b
          · obtain ⟨y, z⟩ := z
            rw [relay_in z]; exact n
          · rw [relay_out z]; exact un.free b o e (strip_none n) hx
        · exact key e (fun v q => by unfold CellO at q; cases q) (un.tups b xs)
        · exact key e (fun v q => by unfold CellO at q; cases q) (un.frzs b o u)
        · have z := outOf e fun v q => by unfold CellO at q; cases q
          obtain ⟨more, hm⟩ := un.tbls b ps z
          exact ⟨more, key e (fun v q => by unfold CellO at q; cases q) fun _ => hm⟩
      have inR : ∀ {b : Addr} {o : HO}, H' b = some o → relay H H' F.cl b = some o := fun {b o} e => by
        rw [relay_out fun ⟨y, z⟩ => by rw [shut y b z] at e; cases e]
        exact e
      refine ⟨v, relay H H' F.cl, os, bare, un2, fun a o e => ?_, rv, q shut⟩
      by_cases z : ∃ y, F.cl.lookup y = some a
      · obtain ⟨y, z⟩ := z
        rw [relay_in z] at e
        obtain ⟨v1, u1, h1, r1, ob, ho, hd⟩ := cellAt y a z
        rw [h1] at e; cases e
        have nf : a ∉ frs outer := fun q => by rw [e0.frf a q] at h1; cases h1
        exact cellO_ok r1 ⟨ob, un.keep a ob ho (strip_in z) nf (by simp), hd⟩
      · rw [relay_out z] at e
        exact (hok a o e).stay (fun _ _ _ q => q) (fun b q => inR q) fun b xs q => inR q
/-- f(..), f a name that holds a function whose cells are tracked -/
def tCallT (F : NF) (i : Nat) (fr : List Str) (sp : Addr → List (Option V) → Sp) (t : TA) : TE := fun σ H Q => ∃ f zs, σ[i]? = some (some (.ref f)) ∧ H f = some (FnO f F) ∧
  t σ H fun vs H1 => H1 f = some (FnO f F) ∧ H1 F.c = some (CodeO F.c F.qual) ∧ CellsT H1 F.cl fr zs ∧ (Sep H1 F.cl → sp f (zs.map some) vs (strip H1 F.cl) (fun v H' => Shut H' F.cl → Q v (relay H1 H' F.cl)) E0)
theorem pe_callT {X : Cx} {i j : Nat} {x : Str} {p pos : Pos} {e : Expr} {es : List Expr} {t : TA} {sp : Addr → List (Option V) → Sp} (Fn : ∀ f, NOk X.prog X.w X.K X.mg X.base CX0 k f F ps fr (sp f)) (hr : Room j X.A) (hk : k ≤ j) (hN : X.N[i]? = some x) (hv : Vis X.env.scope x) (ha : PA X (e :: es) t)
    (hd : (x == ("__debug__" : Str)) = false := by decide) (hcd : (x == ("__classdict__" : Str)) = false := by decide)
    (he : starEach (e :: es) X.env = (false, eval e X.env) :: starEach es X.env := by rfl) (hpl : (backTo pos (starEach es X.env)).any (·.1) = false := by rfl) :
    PE X (.Call (.Name x p) (e :: es) [] pos) (tCallT F i fr sp t) := by
  refine ⟨fun pins s σ H Q I h => ?_⟩
  obtain ⟨f, zs, hs, hf, ht⟩ := h
  refine wpAny_Call_Name_kw (thn ((pe_var (pos := p) hN hv hd hcd).run pins s σ H (fun v H1 => v = .ref f ∧ H1 = H) I ⟨.ref f, hs, rfl, rfl⟩) fun u s1 ⟨v, H1, I1, r1, q1⟩ => ?_)
  obtain ⟨ev, eH⟩ := q1
  subst ev
  rw [eH] at I1
  obtain rfl : u = Value.ref f := r1
  refine PySem.W.callWith_F (first := []) (fnAt_of I1 hf) (thn (ha.run pos pins s1 σ H _ I1 ht) fun us s2 ⟨vs, H2, I2, r, h1, h2, C, q⟩ => ⟨fnAt_of I2 h1, ?_⟩) he hpl
  show wpAny _ _ (call (.ref f) us) _ _ _
  refine wpAny_call (codeAny_mono (run_T (Fn f) (hr.mono hk) I2.env0 h1 h2 C r q) fun r s' hq => ?_)
  cases r with
  | error e => exact False.elim hq
  | ok fl =>
    cases fl with
    | ret u => exact I2.after hq
    | next => exact False.elim hq
    | brk => exact False.elim hq
    | cont => exact False.elim hq
end
end Nn

/-! A def that makes a function and tells it. -/
namespace Nn
open PySem PySem.Spec PyProof.Rows L2 NdefX LamX
/-- a def whose code object is known -/
structure FunC (K : PySem.W.Frag) (x qual : Str) (st : Stmt) (f : Addr) (fd : FuncData) (c : Addr) : Prop where
  ex : ∃ (oc : Value) (od : Option Addr) (kV doc pm : Value) (an : Option Addr) (ct : Value) (osl : Array (Option Value)),
    fd = PySem.W.fnOf x qual (defArgs st) (defBody st) (defScope st) .none kV doc pm an (.ref c) ct ∧ K.lookup f = some ⟨oc, od, .func fd, osl⟩ ∧ PySem.W.codeIn K (.ref c) qual = true
theorem func_of {K : PySem.W.Frag} {x qual : Str} {st : Stmt} {p : He.Defn} {fd : FuncData} (F : FunD K x qual (defArgs st) (defBody st) (defScope st) [] [] (He.fAd K p) fd) : FunC K x qual st (He.fAd K p) fd (He.codeOf K p) := by
  obtain ⟨oc, od, dV, kV, doc, pm, an, cdv, ct, osl, rfl, lk, hcd, hD, hK⟩ := F.ex
  rcases hD with ⟨_, rfl⟩ | ⟨e, _⟩
  · obtain ⟨c, rfl⟩ := He.codeIn_ref hcd
    rw [He.codeOf_eq lk rfl]
    exact ⟨oc, od, kV, doc, pm, an, ct, osl, rfl, lk, hcd⟩
  · exact absurd rfl e
theorem FunC.okC {P : Program} {w : World} {K : PySem.W.Frag} {mg : Str → Option Value} {base : Heap} {x qual : Str} {st : Stmt} {f c : Addr} {fd : FuncData} {N ps : List Str} {k : Nat} {sp : Sp} (F : FunC K x qual st f fd c) (S : FnScope N ps (defScope st)) (len : ∀ vs H Q E, sp vs H Q E → vs.length = ps.length)
    (hbody : ∀ (A : Around) (outer : List Env) (s : Shared) (H : Hp) (vs : List V) (Q : VK) (E : XK), Room k (A.deeper (envOfC qual (defScope st) s.heap.objs.size f (.ref c))) → sp vs H Q E →
      ∃ t, PSs (cxOf CX0 P w K mg base N qual (defScope st) f (.ref c) A outer s H E).nox (defBody st) t ∧ t { nx := fun _ H' => Q .non H', rt := Q } (start N vs) H) : FnOk P w K mg base CX0 (k + 1) f fd ps sp := by
  obtain ⟨oc, od, kV, doc, pm, an, ct, osl, rfl, lk, hcd⟩ := F.ex
  refine fn_of lk hcd S len fun A outer s H vs Q E hr hsp => ?_
  obtain ⟨t, h, q⟩ := hbody A outer s H vs Q E hr hsp
  exact ⟨t, h.nox, q⟩
/-- the reading of a nested def: all tables are told of -/
def tNdefA (P : Addr) (i : Nat) (mk : Addr → NF) : TS := fun D σ H => TabN H P nmAll ∧ ∀ (f c' : Addr) (H1 : Hp), Ex H H1 → H f = none → H1 f = some (FnO f (mk c')) → H1 c' = some (CodeO c' (mk c').qual) → D.nx (σ.set i (some (.ref f))) H1
open Classical in
theorem ps_ndefA {X : Cx} {st : Stmt} {c P : Addr} {name : Str} {pos : Pos} {i : Nat} (hst : st = .FunctionDef name (C8.fnArgs st) (C8.fnBody st) [] none [] (C8.fnScope st) none name pos) (TB : TabB X.base X.mg c P) (hcode : X.env.code = .ref c) (hn : nmAll pos.line pos.col = X.env.qual ++ name)
    (hfree : ∀ y ∈ (C8.fnScope st).names, y.2 = .free → X.env.scope.names.lookup y.1 = some .cell ∨ X.env.scope.names.lookup y.1 = some .free) (hd0 : (C8.fnArgs st).defaults = []) (hk0 : (C8.fnArgs st).kw_defaults = []) (ha : annTrees (C8.fnArgs st) none X.env = [])
    (hN : X.N.Nodup) (hi : X.N[i]? = some name) (hx : Loc X.env.scope name) (hf : X.fn name = true ∨ X.env.scope.names.lookup name = some .local) :
    PS X st (tNdefA P i (NF.of st name (X.env.qual ++ name) (cloFrom X.env.cells (C8.fnScope st).names []))) := by
  refine ⟨fun pins s σ H D I h => ?_⟩
  obtain ⟨hT, h⟩ := h
  have lt : ∀ P', TabN H P' nmAll → P' < s.heap.objs.size := fun P' ⟨ps, e, _⟩ => I.hok.lt e
  have mem : ∀ P', TabN H P' nmAll → (P', nmAll) ∈ ((List.range s.heap.objs.size).filter fun P' => decide (TabN H P' nmAll)).map fun P' => (P', nmAll) := fun P' t =>
    List.mem_map.mpr ⟨P', List.mem_filter.mpr ⟨List.mem_range.mpr (lt P' t), decide_eq_true t⟩, rfl⟩
  refine (ps_ndefMS (T := ((List.range s.heap.objs.size).filter fun P' => decide (TabN H P' nmAll)).map fun P' => (P', nmAll)) (nm := nmAll) hst TB hcode (mem P hT) hn (fun p hp _ => ?_) hfree hd0 hk0 ha hN hi hx hf).run pins s σ H D I ⟨fun p hp => ?_, fun f c' H1 eN nn T1 f0 f1 c1 => h f c' H1 ⟨fun a o e n _ => eN a o e fun ps z => by rw [z] at n; exact n, fun P' t => T1 _ (mem P' t), nn⟩ f0 f1 c1⟩
  · obtain ⟨_, _, rfl⟩ := List.mem_map.mp hp; rfl
  · obtain ⟨P', hp2, rfl⟩ := List.mem_map.mp hp
    have q := (List.mem_filter.mp hp2).2
    simpa using q
open Classical in
noncomputable def layC (H : Hp) (cl : List (Str × Addr)) (fr : List Str) (zs : List V) : Hp := fun b =>
  if h : ∃ v, ∃ (i : Nat) (y : Str), fr[i]? = some y ∧ cl.lookup y = some b ∧ zs[i]? = some v then some (CellO b h.choose) else H b
theorem slot_set {σ : L2.St} {i j : Nat} {v : Option V} (h : i ≠ j) : NdefX.slotAt (σ.set i v) j = NdefX.slotAt σ j := by
  unfold NdefX.slotAt
  rw [List.getElem?_set_ne h]
theorem FunC.okMk {P : Program} {w : World} {K : PySem.W.Frag} {mg : Str → Option Value} {base : Heap} {x qual nm : Str} {st st1 : Stmt} {p1 p2 pos : Pos} {f c Pt : Addr} {fd : FuncData} {N ps fr : List Str} {js : List Nat} {i k : Nat} {sp : Sp}
    (F : FunC K x qual st f fd c) (S : FnScope N ps (defScope st)) (hb : defBody st = [st1, .Return (some (.Name nm p1)) p2]) (TB : TabB base mg c Pt) (hst : st1 = .FunctionDef nm (C8.fnArgs st1) (C8.fnBody st1) [] none [] (C8.fnScope st1) none nm pos)
    (hn : nmAll pos.line pos.col = (qual ++ ".<locals>.") ++ nm) (hB : ndefB (defScope st) (C8.fnScope st1) fr = true) (hfa : ∀ y ∈ (C8.fnScope st1).names, y.2 = .free → y.1 ∈ fr) (nd : fr.Nodup) (hd0 : (C8.fnArgs st1).defaults = []) (hk0 : (C8.fnArgs st1).kw_defaults = [])
    (ha : ∀ env, annTrees (C8.fnArgs st1) none env = []) (hi : N[i]? = some nm) (hloc : (defScope st).names.lookup nm = some .local) (hjs : js.map (fun j => N[j]?) = fr.map some) (hji : i ∉ js) (len : ∀ vs H Q E, sp vs H Q E → vs.length = ps.length)
    (hsp : ∀ vs H Q E, sp vs H Q E → TabN H Pt nmAll ∧ ∃ zs : List V, js.map (NdefX.slotAt (start N vs)) = zs.map some ∧ ∀ f' cl c' H', Ex H H' → H f' = none →
      H' f' = some (FnO f' (NF.of st1 nm ((qual ++ ".<locals>.") ++ nm) cl c')) → H' c' = some (CodeO c' ((qual ++ ".<locals>.") ++ nm)) → CellsT H' cl fr zs → Q (.ref f') H')
    (hnd : (nm == ("__debug__" : Str)) = false := by decide) (hcd' : (nm == ("__classdict__" : Str)) = false := by decide) : FnOk P w K mg base CX0 (k + 1) f fd ps sp := by
  obtain ⟨oc, od, kV, doc, pm, an, ct, osl, rfl, lk, hcd⟩ := F.ex
  refine ⟨len, fun A outer s H args us vs Q E hr e0 hbi r hs0 => ?_⟩
  have hl := len _ _ _ _ hs0
  have KX : K.In s.heap := e0.mod.kin.keeps fun b o e => (e0.bs b o e).1
  have lim : s.heap.NoLimit := e0.mod.nolimit.keeps fun b o e => (e0.bs b o e).1
  have hkind : ∀ y ∈ ps.zip us, (defScope st).names.lookup y.1 = some .local ∨ ((defScope st).names.lookup y.1 = some .cell ∧ ((cellsFrom (s.heap.objs.size + 1) (defScope st).names []).lookup y.1).isSome = true) := fun ⟨n, v⟩ hy => by
    rcases S.par n (List.of_mem_zip hy).1 with q | q
    · exact .inl q
    · exact .inr ⟨q, PySem.W.cellsFrom_some _ _ _ (.inl q)⟩
  refine codeAny_call_function hr.depth (KX _ _ lk) rfl S.co S.gen rfl (PySem.W.codeRec_of KX hcd) (hbi _ _ _ _ ?_)
  refine wpAny_newFunctionEnv_cells S.kind hkind fun env he s1 x => ?_
  subst he
  refine ⟨lim.keeps x.toInCall.keep, codeAny_func ?_⟩
  have I : Inv (cxOf CX0 P w K mg base N qual (defScope st) f (.ref c) A outer s H E) [] (start N vs) H s1 := inv_start S hr.hd e0 hl r x
  obtain ⟨hT3, zs, hz, hend⟩ := hsp vs H Q E hs0
  have h1 := ps_ndefA (X := cxOf CX0 P w K mg base N qual (defScope st) f (.ref c) A outer s H E) (i := i) hst TB rfl hn (ndef_free hB) hd0 hk0 (ha _) S.nd hi (.inl hloc) (.inl rfl)
  rw [hb]
  refine wpAny_execs_cons (wpAny_mono (h1.run [] s1 (start N vs) H { nx := fun σ' H1 => ∃ f' c', σ' = (start N vs).set i (some (.ref f')) ∧ Ex H H1 ∧ H f' = none ∧ H1 f' = some (FnO f' (NF.of st1 nm ((qual ++ ".<locals>.") ++ nm) (cloFrom (cellsFrom (s.heap.objs.size + 1) (defScope st).names []) (C8.fnScope st1).names []) c')) ∧ H1 c' = some (CodeO c' ((qual ++ ".<locals>.") ++ nm)), rt := fun _ _ => False } I
    ⟨hT3, fun f' c' H1 eN f0 f1 c1 => ⟨f', c', rfl, eN, f0, f1, c1⟩⟩) (fun fl s2 hs => ?_) fun e s' hs => hs)
  cases fl with
  | ret u => obtain ⟨_, _, _, _, _, q⟩ := hs; exact q.elim
  | brk => obtain ⟨_, _, _, q⟩ := hs; exact q.elim
  | cont => obtain ⟨_, _, _, q⟩ := hs; exact q.elim
  | next =>
    obtain ⟨σ', H1, J, f', c', rfl, eN, f0, f1, c1⟩ := hs
    have hlen : i < (start N vs).length := by
      have q := I.len
      rw [q]
      exact (List.getElem?_eq_some_iff.mp hi).1
    refine wpAny_execs_cons (wpAny_Return_some (thn ((pe_var (X := cxOf CX0 P w K mg base N qual (defScope st) f (.ref c) A outer s H E) (pos := p1) hi (.inl hloc) hnd hcd').run [] s2 _ H1 (fun v H2 => v = .ref f' ∧ H2 = H1) J ⟨.ref f', List.getElem?_set_self hlen, rfl, rfl⟩) fun u s3 ⟨v, H2, J2, rv, ev, eH⟩ => ?_))
    subst ev
    rw [eH] at J2
    have cp : Caps (cxOf CX0 P w K mg base N qual (defScope st) f (.ref c) A outer s H E) (cloFrom (cellsFrom (s.heap.objs.size + 1) (defScope st).names []) (C8.fnScope st1).names []) fr js := Caps.made J2.ok (ndef_free hB) (ndef_fr hB) hjs
    have C := cells_of J2 cp
    have eσ : js.map (NdefX.slotAt ((start N vs).set i (some (.ref f')))) = zs.map some := by
      rw [← hz]
      exact List.map_congr_left fun j hj => slot_set fun e => hji (e ▸ hj)
    rw [eσ] at C
    generalize hcl : cloFrom (cellsFrom (s.heap.objs.size + 1) (defScope st).names []) (C8.fnScope st1).names [] = cl at f1 C cp
    have new : ∀ y b, cl.lookup y = some b → s.heap.objs.size ≤ b := fun y b e => J2.ok.cab y b rfl (cp.sub y b e)
    have hH1 : ∀ y b, cl.lookup y = some b → H1 b = none := fun y b e => (C.all y b e).1
    have spec : ∀ {b : Addr} {v : V}, (∃ (i : Nat) (y : Str), fr[i]? = some y ∧ cl.lookup y = some b ∧ zs[i]? = some v) → ∃ u, L2.RelV v u ∧ s3.heap.IsCell b (some u) := fun {b v} ⟨j, y, h1, h2, h3⟩ => by
      obtain ⟨a, ha, hv⟩ := C.has j y h1
      rw [h2] at ha; cases ha
      exact hv v (by rw [List.getElem?_map, h3]; rfl)
    have outL : ∀ {b : Addr}, (¬ ∃ y, cl.lookup y = some b) → layC H1 cl fr zs b = H1 b := fun {b} n => by
      unfold layC
      rw [dif_neg]
      rintro ⟨v, j, y, _, h2, _⟩
      exact n ⟨y, h2⟩
    have atL : ∀ {b : Addr} {o : HO}, H1 b = some o → layC H1 cl fr zs b = some o := fun {b o} e => by
      rw [outL fun ⟨y, z⟩ => by rw [hH1 y b z] at e; cases e]
      exact e
    have inL : ∀ {b : Addr} {v : V} {j : Nat} {y : Str}, fr[j]? = some y → cl.lookup y = some b → zs[j]? = some v → layC H1 cl fr zs b = some (CellO b v) := fun {b v j y} h1 h2 h3 => by
      have hx : ∃ v, ∃ (i : Nat) (y : Str), fr[i]? = some y ∧ cl.lookup y = some b ∧ zs[i]? = some v := ⟨v, j, y, h1, h2, h3⟩
      unfold layC
      rw [dif_pos hx]
      obtain ⟨j2, y2, g1, g2, g3⟩ := hx.choose_spec
      have ey : y2 = y := C.inj y2 y b g2 h2
      rw [ey] at g1
      have hjl : j < fr.length := (List.getElem?_eq_some_iff.mp h1).1
      have ej : j = j2 := (List.getElem?_inj hjl nd).mp (h1.trans g1.symm)
      rw [← ej, h3] at g3
      rw [Option.some.inj g3]
    have hfull : ∀ y b, cl.lookup y = some b → ∃ (j : Nat) (v : V), fr[j]? = some y ∧ zs[j]? = some v := fun y b e => by
      have hmem : y ∈ fr := by
        rw [← hcl] at e
        rcases cloFrom_mem (PySem.mem_of_lookup e) with hm | ⟨h1, _⟩
        · cases hm
        · exact hfa _ h1 rfl
      obtain ⟨j, hj⟩ := List.getElem?_of_mem hmem
      have hjz : j < zs.length := by
        have q := C.len
        rw [List.length_map] at q
        rw [q]
        exact (List.getElem?_eq_some_iff.mp hj).1
      exact ⟨j, zs[j], hj, List.getElem?_eq_getElem hjz⟩
    have cT : CellsT (layC H1 cl fr zs) cl fr zs := ⟨by have q := C.len; rw [List.length_map] at q; exact q, fun y b e => by
        obtain ⟨j, v, h1, h3⟩ := hfull y b e
        exact ⟨v, inL h1 e h3⟩, C.inj, fun j y h1 => by
        obtain ⟨b, hb, _⟩ := C.has j y h1
        obtain ⟨j2, v, g1, g3⟩ := hfull y b hb
        have hjl : j < fr.length := (List.getElem?_eq_some_iff.mp h1).1
        have ej : j = j2 := (List.getElem?_inj hjl nd).mp (h1.trans g1.symm)
        rw [← ej] at g3
        exact ⟨b, v, hb, g3, inL h1 hb g3⟩⟩
    have un : Un (frs outer) [] H H1 s.heap s3.heap := J2.base
    have un2 : Un (frs outer) [] H (layC H1 cl fr zs) s.heap s3.heap := ⟨un.keep, un.slot, fun b o e n hx => by
        rw [outL fun ⟨y, z⟩ => absurd (Heap.lt_size e) (Nat.not_lt_of_le (new y b z))]
        exact un.free b o e n hx, un.there, fun b xs e => atL (un.tups b xs e), fun b o u e => atL (un.frzs b o u e), fun b ps e => by
        obtain ⟨more, hm⟩ := un.tbls b ps e
        exact ⟨more, atL hm⟩⟩
    refine (show CE outer P w H s Q u s3 from ⟨.ref f', layC H1 cl fr zs, J2.os, J2.bare, un2, fun a o e => ?_, rv, hend f' cl c' _ ⟨fun b o e n s => atL (eN.keep b o e n s), fun P' t => (eN.tab P' t).ext fun b o e => atL e, fun b e => ?_⟩ f0 (atL f1) (atL c1) cT⟩)
    · by_cases z : ∃ y, cl.lookup y = some a
      · obtain ⟨y, z⟩ := z
        obtain ⟨j, v, h1, h3⟩ := hfull y a z
        rw [inL h1 z h3] at e
        cases e
        obtain ⟨u1, r1, hc⟩ := spec ⟨j, y, h1, z, h3⟩
        exact cellO_ok r1 hc
      · rw [outL z] at e
        exact (J2.hok a o e).stay (fun _ _ _ q => q) (fun b q => atL q) fun b xs q => atL q
    · by_cases z : ∃ y, cl.lookup y = some b
      · obtain ⟨y, z⟩ := z
        obtain ⟨j, v, h1, h3⟩ := hfull y b z
        rw [inL h1 z h3] at e
        cases e
      · rw [outL z] at e
        exact eN.back b e
end Nn

namespace Nn
open PySem L2
structure Tx (K : PySem.W.Frag) (mg : Str → Option Value) (base : Heap) where
  a_Bucket_init : Addr
  d_Bucket_init : FuncData
  F_Bucket_init : FunD K "__init__" "Bucket.__init__" (defArgs s_Bucket_init) (defBody s_Bucket_init) (defScope s_Bucket_init) [] [] a_Bucket_init d_Bucket_init
  b_Bucket_init : Binds K d_Bucket_init ["self", "room"] []
  a_Bucket_names : Addr
  d_Bucket_names : FuncData
  F_Bucket_names : FunD K "names" "Bucket.names" (defArgs s_Bucket_names) (defBody s_Bucket_names) (defScope s_Bucket_names) [] [] a_Bucket_names d_Bucket_names
  b_Bucket_names : Binds K d_Bucket_names ["self"] []
  a_Bucket_hears : Addr
  d_Bucket_hears : FuncData
  F_Bucket_hears : FunD K "hears" "Bucket.hears" (defArgs s_Bucket_hears) (defBody s_Bucket_hears) (defScope s_Bucket_hears) [] [] a_Bucket_hears d_Bucket_hears
  b_Bucket_hears : Binds K d_Bucket_hears ["self", "name", "answers"] []
  a_Bucket_drops : Addr
  d_Bucket_drops : FuncData
  F_Bucket_drops : FunD K "drops" "Bucket.drops" (defArgs s_Bucket_drops) (defBody s_Bucket_drops) (defScope s_Bucket_drops) [] [] a_Bucket_drops d_Bucket_drops
  b_Bucket_drops : Binds K d_Bucket_drops ["self", "name"] []
  a_l_cell_at : Addr
  d_l_cell_at : FuncData
  F_l_cell_at : FunD K "_law_cell_at" "_law_cell_at" (defArgs s_l_cell_at) (defBody s_l_cell_at) (defScope s_l_cell_at) [] [] a_l_cell_at d_l_cell_at
  b_l_cell_at : Binds K d_l_cell_at ["_law_script", "_law_k"] []
  m_l_cell_at : mg "_law_cell_at" = some (.ref a_l_cell_at)
  a_l_among : Addr
  d_l_among : FuncData
  F_l_among : FunD K "_law_among" "_law_among" (defArgs s_l_among) (defBody s_l_among) (defScope s_l_among) [] [] a_l_among d_l_among
  b_l_among : Binds K d_l_among ["_law_number"] []
  m_l_among : mg "_law_among" = some (.ref a_l_among)
  a_l_right : Addr
  d_l_right : FuncData
  F_l_right : FunD K "_law_right" "_law_right" (defArgs s_l_right) (defBody s_l_right) (defScope s_l_right) [] [] a_l_right d_l_right
  b_l_right : Binds K d_l_right ["_law_ahead", "_law_behind", "_law_room", "_law_name", "_law_word", "_law_number"] []
  m_l_right : mg "_law_right" = some (.ref a_l_right)
  a_law : Addr
  d_law : FuncData
  F_law : FunD K "law" "law" (defArgs s_law) (defBody s_law) (defScope s_law) [] [] a_law d_law
  b_law : Binds K d_law ["_law_script"] []
  m_law : mg "law" = some (.ref a_law)
  C_Bucket : Addr
  c_Bucket : Cls K C_Bucket
  m_Bucket : mg "Bucket" = some (.ref C_Bucket)
  M_Bucket : Mk K C_Bucket a_Bucket_init
  n_Bucket_room : NoAttr K C_Bucket "room"
  n_Bucket_line : NoAttr K C_Bucket "line"
  t_Bucket_names : Meth K C_Bucket "names" a_Bucket_names
  t_Bucket_hears : Meth K C_Bucket "hears" a_Bucket_hears
  t_Bucket_drops : Meth K C_Bucket "drops" a_Bucket_drops
  z_abs : mg "abs" = none
  z_len : mg "len" = none
  z_list : mg "list" = none
  z_set : mg "set" = none
  k_l_among : Addr
  P_l_among : Addr
  tb_l_among : LamX.TabB base mg k_l_among P_l_among
  FC_l_among : FunC K "_law_among" "_law_among" s_l_among a_l_among d_l_among k_l_among
  z0_l_among : ∀ H : Hp, Tabs0 K H → H P_l_among = some (.tbl #[])
def tabsL {K : PySem.W.Frag} {mg : Str → Option Value} {base : Heap} (T : Tx K mg base) : List NdefX.NTab := [(T.P_l_among, nmAll)]
theorem tabm_l_among {K : PySem.W.Frag} {mg : Str → Option Value} {base : Heap} {T : Tx K mg base} : (T.P_l_among, nmAll) ∈ tabsL T := by simp [tabsL]
theorem tabnm {K : PySem.W.Frag} {mg : Str → Option Value} {base : Heap} {T : Tx K mg base} : ∀ p ∈ tabsL T, p.2 = nmAll := by simp [tabsL]
theorem Fr.tabs {K : PySem.W.Frag} {mg : Str → Option Value} {base : Heap} {T : Tx K mg base} {S : Addr → Prop} {H H' : Hp} (f : Fr S H H') (t : NdefX.TabsN (tabsL T) H) : NdefX.TabsN (tabsL T) H' := fun p hp => by
  have e := tabnm p hp
  have q := t p hp
  rw [e] at q ⊢
  exact f.tab p.1 q
theorem tabs0 {K : PySem.W.Frag} {mg : Str → Option Value} {base : Heap} {T : Tx K mg base} {H : Hp} (h : Tabs0 K H) : NdefX.TabsN (tabsL T) H := by
  unfold NdefX.TabsN tabsL
  simp only [List.mem_cons, List.not_mem_nil, or_false, forall_eq_or_imp, forall_eq, false_imp_iff, implies_true]
  exact NdefX.TabN.nil (T.z0_l_among H h)
end Nn
local macro_rules | `(tactic| walk_at "wz") => `(tactic| dsimp only [↓Nn.e_next, ↓Nn.e_asg, ↓Nn.e_name, ↓Nn.e_ret, ↓Nn.e_retN, ↓Nn.e_drop, ↓Nn.e_ifS, ↓Nn.e_IT, ↓Nn.e_IF, ↓Nn.e_INT, ↓Nn.e_INF, ↓Nn.e_if, ↓Nn.e_varS, ↓Nn.e_c, ↓Nn.e_op, ↓Nn.e_un, ↓Nn.e_cb, ↓Nn.e_nil, ↓Nn.e_cons, ↓Nn.e_test, ↓Nn.e_B, ↓Nn.e_and, ↓Nn.e_or, ↓Nn.e_not, ↓Nn.e_andV, ↓Nn.e_orV, ↓Nn.e_notV, ↓Nn.e_chain, ↓Nn.e_for, ↓Nn.e_fld, ↓Nn.e_sfld, ↓Nn.e_meth, ↓Nn.e_make, ↓Nn.e_sl, ↓Nn.e_nopart, ↓Nn.e_part, ↓Nn.e_dget, ↓Nn.e_din, ↓Nn.e_dnin, ↓Nn.e_dput, ↓Nn.e_dnew, ↓Nn.e_bits, ↓Nn.e_lenSet, ↓Nn.e_lc, ↓Nn.e_wipe0, ↓Nn.e_wipe1, ↓Nn.e_yes, ↓Nn.e_rng1, ↓Nn.e_rng2, ↓Nn.e_rng3, ↓Nn.e_iList, ↓Nn.e_iTup, ↓Nn.e_iEnum, ↓Nn.e_iZip, ↓Nn.e_bm, ↓Nn.e_bm0, ↓Nn.e_tup, ↓Nn.e_lst, ↓Nn.e_calld, ↓Nn.e_T, ↓Nn.e_F, ↓Nn.e_NT, ↓Nn.e_NF, ↓List.set_cons_zero, ↓List.set_cons_succ, ↓List.cons_append, ↓List.nil_append])
local macro_rules | `(tactic| walk_at "wx") => `(tactic| repeat (walk_at "wx1"))
local macro_rules | `(tactic| walk_at "wx1") => `(tactic| (first
  | with_reducible refine Nn.x_v0 ?_
  | with_reducible refine Nn.x_seq ?_
  | walk_at "wz"
  | with_reducible refine Nn.x_bl ?_
  | with_reducible refine Nn.x_i0 ?_
  | ((with_reducible refine Nn.x_i ?_ ?_); (focus (walk_at "wside")))
  | with_reducible refine Nn.x_eqI ?_
  | with_reducible refine Nn.x_neI ?_
  | with_reducible refine Nn.x_INs ?_
  | with_reducible refine Nn.x_IEs ?_
  | with_reducible refine Nn.x_NEs ?_
  | with_reducible refine Nn.x_Es ?_
  | with_reducible refine Nn.x_whT ?_
  | with_reducible refine Nn.x_whF ?_
  | walk_at "wx2"))
local macro_rules | `(tactic| walk_at "wx2") => `(tactic| (first
  | ((with_reducible refine' Nn.x_ixL ?hS ?hA ?_); (case hS => walk_at "wsq"); (case hA => walk_at "wat"))
  | ((with_reducible refine' Nn.x_ixT ?hS ?hA ?_); (case hS => walk_at "wsqt"); (case hA => walk_at "wat"))
  | ((with_reducible refine' Nn.x_lenL ?hS ?_); (case hS => walk_at "wsq"))
  | ((with_reducible refine' Nn.x_lenT ?hS ?_); (case hS => walk_at "wsqt"))
  | ((with_reducible refine' Nn.x_tyL ?hS ?_); (case hS => walk_at "wsq"))
  | ((with_reducible refine' Nn.x_append ?hS ?hA ?_); (case hS => walk_at "wob"); (case hA => walk_at "wlen"))
  | ((with_reducible refine' Nn.x_gTup ?hS ?hA ?_); (case hS => walk_at "wsqt"); (case hA => rfl))
  | with_reducible refine Nn.x_gCons ?_
  | with_reducible refine Nn.x_gNil ?_
  | ((with_reducible refine' Nn.x_shl1 ?hS ?hA ?_); (case hS => walk_at "wnat"); (case hA => omega))
  | ((with_reducible refine Nn.x_rgN ?_ ?_); (focus (walk_at "wside")))
  | ((with_reducible refine Nn.x_rgDown ?_ ?_); (focus (walk_at "wside")))
  | ((with_reducible refine' Nn.x_itL ?hS ?_); (case hS => walk_at "wsq"))
  | ((with_reducible refine' Nn.x_itT ?hS ?_); (case hS => walk_at "wsqt"))
  | ((with_reducible refine' Nn.x_enL ?hS ?_); (case hS => walk_at "wsq"))
  | ((with_reducible refine' Nn.x_ziL ?hS ?hA ?_); (case hS => walk_at "wsq"); (case hA => walk_at "wsq"))
  | ((with_reducible refine' Nn.x_lenD ?hS ?_); (case hS => walk_at "wob"))
  | ((with_reducible refine' Nn.x_shrN ?hS ?hA ?_); (case hS => walk_at "wnat"); (case hA => walk_at "wnat"))
  | ((with_reducible refine' Nn.x_xorN ?hS ?hA ?_); (case hS => walk_at "wnat"); (case hA => walk_at "wnat"))
  | ((with_reducible refine' Nn.x_shlN ?hS ?hA ?hB ?hC ?_); (case hS => walk_at "wnat"); (case hA => walk_at "wnat"); (case hB => walk_at "wpre"); (case hC => walk_at "wpre"))
  | with_reducible refine Nn.x_bits ?_
  | ((with_reducible refine' Nn.x_eqLN ?hS ?hA ?_); (case hS => walk_at "wsq"); (case hA => walk_at "wsq"))
  | ((with_reducible refine' Nn.x_neLN ?hS ?hA ?_); (case hS => walk_at "wsq"); (case hA => walk_at "wsq"))
  | ((with_reducible refine' Nn.x_dget ?hS ?hA ?_); (case hS => walk_at "wob"); (case hA => walk_at "wat"))
  | ((with_reducible refine' Nn.x_din ?hS ?_); (case hS => walk_at "wob"))
  | ((with_reducible refine' Nn.x_dnin ?hS ?_); (case hS => walk_at "wob"))
  | ((with_reducible refine' Nn.x_dput ?hS ?hA ?_); (case hS => walk_at "wob"); (case hA => walk_at "wlen"))
  | ((with_reducible refine' Nn.x_fld ?hS ?hA ?hB ?hC ?_); (case hS => walk_at "wob"); (case hA => assumption); (case hB => assumption); (case hC => walk_at "wlk"))
  | ((with_reducible refine' Nn.x_sfld ?hS ?hA ?hB ?hE ?hC ?_); (case hS => walk_at "wob"); (case hA => assumption); (case hB => assumption); (case hE => walk_at "wput"); (case hC => rfl))
  | ((with_reducible refine' Nn.x_meth ?hS ?hA ?_); (case hS => walk_at "wob"); (case hA => walk_at "wnolk"))
  | ((with_reducible refine' Nn.x_inN ?hS ?hA ?_); (case hS => walk_at "wnat"); (case hA => walk_at "wsq"))
  | ((with_reducible refine' Nn.x_ninN ?hS ?hA ?_); (case hS => walk_at "wnat"); (case hA => walk_at "wsq"))
  | with_reducible refine Nn.x_part ?_
  | with_reducible refine Nn.x_u ?_
  | with_reducible refine Nn.x_min2 ?_
  | with_reducible refine Nn.x_max2 ?_
  | with_reducible refine Nn.x_abs ?_
  | with_reducible refine Nn.x_eqB ?_
  | with_reducible refine Nn.x_neB ?_
  | with_reducible refine Nn.x_eqS ?_
  | with_reducible refine Nn.x_neS ?_
  | with_reducible refine Nn.x_intI ?_
  | with_reducible refine Nn.x_intB ?_
  | walk_at "wisi"
  | walk_at "wc"))
local macro_rules | `(tactic| walk_at "wside") => `(tactic| (first
  | with_reducible assumption
  | with_reducible exact Nn.two_pos
  | omega
  | (show (0 : Int) < _; first | omega | decide +kernel)
  | exact Or.inr ⟨by omega, by omega⟩
  | exact Or.inl ⟨by omega, by omega⟩
  | exact ⟨by omega, by decide +kernel⟩
  | exact ⟨by omega, by omega, by omega⟩
  | (show (0 : Int) ≤ _; first | omega | decide +kernel | exact Int.mul_nonneg (by omega) (by omega))))
local macro_rules | `(tactic| walk_at "wob") => `(tactic| (first
  | assumption
  | exact L2.upd_same
  | ((with_reducible refine' Nn.at_new ?hNone ?hKept); (case hNone => assumption); (case hKept => walk_at "wob"))
  | ((with_reducible refine' Nn.at_upd ?hSome ?hAt ?hDif); (case hSome => assumption); (case hAt => walk_at "wob"); (case hDif => (intro z; cases z)))
  | exact Nn.Ex.at (by assumption) (by assumption)))
local macro_rules | `(tactic| walk_at "wlen") => `(tactic| (rw [PySem.sizeLine_eq]; simp only [List.length_map, List.length_append, List.length_cons, List.length_nil]; omega))
local macro_rules | `(tactic| walk_at "wsqt") => `(tactic| (first
  | assumption
  | ((refine' L2.SqT.of ?hOb); (case hOb => walk_at "wob"))
  | exact Nn.Ex.tu (by assumption) (by assumption)
  | exact L2.SqT.of L2.upd_same))
local macro_rules | `(tactic| walk_at "wnat") => `(tactic| with_unfolding_all rfl)
local macro_rules | `(tactic| walk_at "wsq") => `(tactic| (first
  | assumption
  | ((refine' L2.SqL.of ?hOb); (case hOb => walk_at "wob"))
  | exact Nn.Ex.ls (by assumption) (by assumption)
  | exact Nn.Ex.ls (Nn.Ex.new (by assumption)) (by assumption)
  | exact L2.SqL.of L2.upd_same))
local macro_rules | `(tactic| walk_at "wat") => `(tactic| (first
  | assumption
  | exact Nn.atI_hd
  | with_unfolding_all rfl))
local macro_rules | `(tactic| walk_at "wisi") => `(tactic| ((with_reducible refine Nn.x_isG ?_); (first
  | with_reducible refine Nn.x_isI_int ?_
  | with_reducible refine Nn.x_isI_bool ?_
  | with_reducible refine Nn.x_isI_str ?_
  | with_reducible refine Nn.x_isB_int ?_
  | with_reducible refine Nn.x_isB_bool ?_
  | with_reducible refine Nn.x_isB_str ?_
  | with_reducible refine Nn.x_isS_int ?_
  | with_reducible refine Nn.x_isS_bool ?_
  | with_reducible refine Nn.x_isS_str ?_
  | with_reducible refine Nn.x_isN_int ?_
  | with_reducible refine Nn.x_isN_bool ?_
  | with_reducible refine Nn.x_isN_str ?_
  | ((with_reducible refine' Nn.x_isL_int ?hS ?_); (case hS => walk_at "wob"))
  | ((with_reducible refine' Nn.x_isL_list ?hS ?_); (case hS => walk_at "wob"))
  | ((with_reducible refine' Nn.x_isL_tuple ?hS ?_); (case hS => walk_at "wob"))
  | ((with_reducible refine' Nn.x_isT_int ?hS ?_); (case hS => walk_at "wob"))
  | ((with_reducible refine' Nn.x_isT_list ?hS ?_); (case hS => walk_at "wob"))
  | ((with_reducible refine' Nn.x_isT_tuple ?hS ?_); (case hS => walk_at "wob"))
  | ((with_reducible refine' Nn.x_isD_int ?hS ?_); (case hS => walk_at "wob"))
  | ((with_reducible refine' Nn.x_isD_list ?hS ?_); (case hS => walk_at "wob"))
  | ((with_reducible refine' Nn.x_isD_tuple ?hS ?_); (case hS => walk_at "wob")))))
local macro_rules | `(tactic| walk_at "wpre") => `(tactic| (first
  | with_reducible assumption
  | omega
  | refine ⟨?_, ?_⟩ <;> walk_at "wpre"))
local macro_rules | `(tactic| walk_at "wlk") => `(tactic| (first | exact Nn.lk_Bucket_room | exact Nn.lk_Bucket_line))
local macro_rules | `(tactic| walk_at "wnolk") => `(tactic| (first | exact Nn.no_Bucket_names | exact Nn.no_Bucket_hears | exact Nn.no_Bucket_drops))
local macro_rules | `(tactic| walk_at "wput") => `(tactic| (first | exact Nn.ini_Bucket_room | exact Nn.put_Bucket_room | exact Nn.ini_Bucket_line | exact Nn.put_Bucket_line))

namespace Nn
open PySem L2
/-! the bits -/
theorem xor_div_pow (a b k : Nat) : (a ^^^ b) / 2 ^ k = (a / 2 ^ k) ^^^ (b / 2 ^ k) := by
  rw [← Nat.shiftRight_eq_div_pow, ← Nat.shiftRight_eq_div_pow, ← Nat.shiftRight_eq_div_pow, Nat.shiftRight_xor_distrib]
theorem xor_mod_two (a b : Nat) : (a ^^^ b) % 2 = if a % 2 ≠ b % 2 then 1 else 0 := by
  have h := @Nat.xor_mod_two_eq_one a b
  rcases Nat.mod_two_eq_zero_or_one (a ^^^ b) with e | e
  · rw [e]
    split
    · rename_i q
      exact absurd (h.mpr (by omega)) (by omega)
    · rfl
  · rw [e]
    split
    · rfl
    · rename_i q
      exact absurd (h.mp e) (by omega)
theorem mod_pow_succ (x k : Nat) : x % 2 ^ (k + 1) = x % 2 ^ k + 2 ^ k * (x / 2 ^ k % 2) := Nat.mod_pow_succ
theorem xor_add (a b : Nat) : a ^^^ b ≤ a + b := by
  have h := Bits.nat_xor_add_and a b
  omega
theorem xor_tri (a b c : Nat) : a ^^^ c ≤ (a ^^^ b) + (b ^^^ c) := by
  have e : a ^^^ c = (a ^^^ b) ^^^ (b ^^^ c) := by
    rw [Nat.xor_assoc, ← Nat.xor_assoc b b c, Nat.xor_self, Nat.zero_xor]
  rw [e]; exact xor_add _ _

/-! the step, the span -/
def stepN (a b : Nat) : Nat := (a ^^^ b).log2
def lowN (n k : Nat) : Nat := ((n / 2 ^ k) ^^^ 1) * 2 ^ k
theorem xor_ne_zero {a b : Nat} (h : a ≠ b) : a ^^^ b ≠ 0 := fun e => h (by
  have q : a ^^^ (a ^^^ b) = a ^^^ 0 := by rw [e]
  rw [← Nat.xor_assoc, Nat.xor_self, Nat.zero_xor, Nat.xor_zero] at q
  exact q.symm)
theorem xor_eq_one {x y : Nat} : x ^^^ y = 1 ↔ y = x ^^^ 1 := by
  constructor
  · intro h; rw [← h, ← Nat.xor_assoc, Nat.xor_self, Nat.zero_xor]
  · intro h; rw [h, ← Nat.xor_assoc, Nat.xor_self, Nat.zero_xor]
theorem log2_eq {x k : Nat} (h : x ≠ 0) : x.log2 = k ↔ x / 2 ^ k = 1 := by
  have hp := Nat.two_pow_pos k
  constructor
  · intro e
    have h1 := Nat.log2_self_le h
    have h2 := Nat.lt_log2_self (n := x)
    rw [e] at h1 h2
    rw [Nat.pow_succ] at h2
    exact Nat.div_eq_of_lt_le (by omega) (by omega)
  · intro e
    have h1 : 2 ^ k ≤ x := by
      have := Nat.div_mul_le_self x (2 ^ k)
      rw [e] at this; omega
    have h2 : x < 2 ^ (k + 1) := by
      have := Nat.lt_div_mul_add (a := x) hp
      rw [e] at this
      rw [Nat.pow_succ]; omega
    exact (Nat.log2_eq_iff h).mpr ⟨h1, h2⟩
/-- the step is k just where the rest behind k is the one's with its last sign turned -/
theorem stepN_eq {a b k : Nat} (h : a ≠ b) : stepN a b = k ↔ b / 2 ^ k = (a / 2 ^ k) ^^^ 1 := by
  unfold stepN
  rw [log2_eq (xor_ne_zero h), xor_div_pow, xor_eq_one]
theorem xor_one_ne {x : Nat} : x ^^^ 1 ≠ x := fun e => by
  have q : x ^^^ (x ^^^ 1) = x ^^^ x := by rw [e]
  rw [← Nat.xor_assoc, Nat.xor_self, Nat.zero_xor] at q
  exact absurd q (by decide)
/-- in the span just those -/
theorem in_span {n k b : Nat} : (lowN n k ≤ b ∧ b ≤ lowN n k + 2 ^ k - 1) ↔ b / 2 ^ k = (n / 2 ^ k) ^^^ 1 := by
  have hp := Nat.two_pow_pos k
  unfold lowN
  constructor
  · intro ⟨h1, h2⟩
    exact Nat.div_eq_of_lt_le (by omega) (by rw [Nat.succ_mul]; omega)
  · intro e
    have h1 := Nat.div_mul_le_self b (2 ^ k)
    have h2 := Nat.lt_div_mul_add (a := b) hp
    rw [e] at h1 h2
    omega
theorem in_span_ne {n k b : Nat} (h : b / 2 ^ k = (n / 2 ^ k) ^^^ 1) : n ≠ b := fun e => by
  rw [← e] at h
  exact xor_one_ne h.symm
theorem span_step {n k b : Nat} : (lowN n k ≤ b ∧ b ≤ lowN n k + 2 ^ k - 1) ↔ (n ≠ b ∧ stepN n b = k) := by
  rw [in_span]
  constructor
  · intro h
    exact ⟨in_span_ne h, (stepN_eq (in_span_ne h)).mpr h⟩
  · intro ⟨h, e⟩
    exact (stepN_eq h).mp e
theorem low_lt {n k w : Nat} (hn : n < 2 ^ w) (hk : k < w) : lowN n k + 2 ^ k ≤ 2 ^ w := by
  have e : 2 ^ w = 2 ^ (w - k) * 2 ^ k := by rw [← Nat.pow_add]; congr 1; omega
  have h1 : n / 2 ^ k < 2 ^ (w - k) := Nat.div_lt_of_lt_mul (by rw [Nat.mul_comm, ← e]; exact hn)
  have h2 : (n / 2 ^ k) ^^^ 1 < 2 ^ (w - k) := Nat.xor_lt_two_pow h1 (Nat.one_lt_two_pow (by omega))
  unfold lowN
  rw [e, ← Nat.succ_mul]
  exact Nat.mul_le_mul_right _ h2
theorem stepN_lt {a b w : Nat} (ha : a < 2 ^ w) (hb : b < 2 ^ w) (h : a ≠ b) : stepN a b < w := (Nat.log2_lt (xor_ne_zero h)).mpr (Nat.xor_lt_two_pow ha hb)
theorem bitLen {x : Nat} : Builtin.Int.intBits (x : Int) = if x = 0 then 0 else x.log2 + 1 := by
  unfold Builtin.Int.intBits
  simp
/-- who is outside a span stands alike to all of it -/
theorem aside {g o one c k : Nat} (h1 : one / 2 ^ k = c) (h2 : o / 2 ^ k ≠ c) : g ^^^ o < g ^^^ one ↔ (g / 2 ^ k) ^^^ (o / 2 ^ k) < (g / 2 ^ k) ^^^ c := by
  have e1 := xor_div_pow g o k
  have e2 := xor_div_pow g one k
  rw [h1] at e2
  have ne : (g / 2 ^ k) ^^^ (o / 2 ^ k) ≠ (g / 2 ^ k) ^^^ c := fun e => h2 (by
    have q : (g / 2 ^ k) ^^^ ((g / 2 ^ k) ^^^ (o / 2 ^ k)) = (g / 2 ^ k) ^^^ ((g / 2 ^ k) ^^^ c) := by rw [e]
    rw [← Nat.xor_assoc, ← Nat.xor_assoc, Nat.xor_self, Nat.zero_xor, Nat.zero_xor] at q
    exact q)
  rw [← e1, ← e2] at ne ⊢
  constructor
  · intro h
    have := Nat.div_le_div_right (c := 2 ^ k) (Nat.le_of_lt h)
    omega
  · intro h
    exact Nat.lt_of_div_lt_div h
end Nn
/-! set(list of ints), as the layer's sets are kept -/
namespace Nn
open PySem PySem.Spec PyProof.Rows L2
section
variable {P : Program} {w : World} {A : Around} {E : Value → Shared → Prop} {s : Shared}
/-- a set's object, just made -/
abbrev newS (w : World) : Obj := { cls := .type "set", dict := none, data := .set #[] 0 (.fresh 0 0 (!w.params.followText "set-order")) }
/-- what the filling of a new set at S by the list at l does -/
def Filled (w : World) (S : Addr) (ns : List Int) (s s2 : Shared) : Prop := ∃ (h2 : Heap) (tk c : Nat), s2 = { s with heap := h2, toks := tk } ∧ SetR w h2 S (fun j => decide (j ∈ ns)) c ∧ c ≤ ns.length ∧ ∀ b o, b ≠ S → s.heap.get? b = some o → h2.get? b = some o
set_option maxRecDepth 100000 in
set_option maxHeartbeats 3200000 in
theorem fill_set {S l : Addr} {items : Array Value} {ns : List Int} {Q : Value → Shared → Prop} (hh : A.handled = none) (hS : s.heap.get? S = some (newS w)) (hl : s.heap.IsList l items) (hit : IntsAre items.toList ns) (hb : ns.length + 1 < scanBound)
    (h : ∀ s2, Filled w S ns s s2 → Q .none s2) : codeAny (model P w) A (.call (.builtin "set.__init__") ⟨[.ref S, .ref l], []⟩) (wants Q E) s := by
  have hT : Shared.TypeIs s (.ref S) "set" := ⟨_, hS, rfl⟩
  have hlen : items.size = ns.length := by
    have q := IntsAre.length hit
    rwa [Array.length_toList] at q
  have hlS : l ≠ S := fun z => by
    obtain ⟨o, ho, _, n, hd⟩ := hl
    rw [z, hS] at ho
    cases ho
    cases hd
  refine codeAny_call_builtin F.called_set.init.plain F.entry_set_init (check_set_init_1 hT ?_)
  obtain ⟨⟨oc, od, ob, osl⟩, hol, hcl, nl, hdl⟩ := id hl
  simp only at hcl hdl
  subst hcl hdl
  have a1 := F.sub_list_set
  have a2 := F.sub_list_frozenset
  have a3 : (Value.type "list" == Value.type "dict") = false := by decide
  unfold Builtin.«set.__init__» noKeywords Builtin.Frozenset.updateFrom
  generalize hPI : pyIter = PI
  wp_walk
  subst hPI
  refine wpAny_pyIter_list hl ?_
  refine wpAny_bind (wpAny_runValue ?_)
  have hi3 : A.in1.in1.handled = none := by simp [hh]
  have low : ∀ {b : Addr} {o : Obj}, s.heap.get? b = some o → b ≠ s.heap.objs.size := fun e => Nat.ne_of_lt (Heap.lt_size e)
  have hfp : S ∉ [s.heap.objs.size, l] := by
    simp only [List.mem_cons, List.not_mem_nil, or_false, not_or]
    exact ⟨low hS, hlS.symm⟩
  have hS2 : ∀ o : Obj, (s.heap.push o).get? S = some (newS w) := fun o => Heap.get?_push_of_some _ hS
  have hv2 : ∀ (i : Nat) (v : Value), items[i]? = some v → ∃ k t, ns[i]? = some k ∧ v = .int k t := fun i v hv => by
    have hi : i < ns.length := by rw [← hlen]; exact (Array.getElem?_eq_some_iff.mp hv).1
    obtain ⟨t, e⟩ := PyProof.Rows.IntsAre.int_at hit i v ((Array.getElem?_toList).trans hv)
    refine ⟨ns[i], t, List.getElem?_eq_getElem hi, e.trans ?_⟩
    rw [List.getD_eq_getElem?_getD, List.getElem?_eq_getElem hi]; rfl
  refine set_update_ints ((Walks.list hi3 _ l (low hol) items).toS) S hfp ns hlen hb hv2 (items.size - 0) 0 _ (by omega) (Nat.zero_le _) ?hSt ?hS0 ?hR
  · exact ⟨⟨_, Heap.get?_push_size _ rfl, rfl, rfl⟩, hl.push _⟩
  · exact ⟨0, Nat.le_refl 0, setR_new_at (w := w) (hS2 _)⟩
  · rintro ⟨h2, g2, d2, tk2, o2⟩ c hm hc hR
    obtain rfl : g2 = s.gens := hm.gens
    obtain rfl : d2 = s.drawn := hm.drawn
    obtain rfl : o2 = s.os := hm.os
    rw [hlen] at hc
    show wpAny (model P w) _ (pure ()) _ _ _
    refine wpAny_pure ?_
    show wpAny (model P w) _ (ret Value.none) _ _ _
    refine wpAny_pure ?_
    refine h _ ⟨h2, tk2, c, rfl, hR, hc, fun b o nb e => hm.heap b o ?_ (Heap.get?_push_of_some _ e)⟩
    simp only [List.mem_cons, List.not_mem_nil, or_false, not_or]
    exact ⟨nb, low e⟩
set_option maxRecDepth 100000 in
set_option maxHeartbeats 3200000 in
theorem call_set_L {l : Addr} {items : Array Value} {ns : List Int} {Q : Value → Shared → Prop} (hh : A.handled = none) (hl : s.heap.IsList l items) (hit : IntsAre items.toList ns) (hb : ns.length + 1 < scanBound)
    (h : ∀ s2, Filled w s.heap.objs.size ns { s with heap := s.heap.push (newS w) } s2 → Q (.ref s.heap.objs.size) s2) : wpAny (model P w) A (call (.type "set") [.ref l]) Q E s := by
  obtain ⟨c, tl, hmro⟩ := F.called_set.mro
  have b1 := F.called_set.made
  have b2 := F.called_set.sub
  have b3 := F.called_set.notType
  have b4 := F.called_set.canCreate
  have b5 := F.typeCall_set_1 (.ref l)
  refine wpAny_call (codeAny_of_tree ?_)
  show wpAny (model P w) _ (callAny (.type "set") ⟨[.ref l], []⟩) _ _ s
  refine wpAny_pure ⟨Code.quiet_builtin _ (by decide +kernel), ?_⟩
  refine codeAny_builtin F.entry_type_call ?_
  rw [Around.under_plain (weight_type_call_type "set" [.ref l] []) rfl]
  repeat (any_goals (first | assumption | wp_step))
  refine codeAny_mono (code_set_led1 (.ref l) (E := E) (Q₁ := fun o s1 => o = .ref s.heap.objs.size ∧ s1 = { s with heap := s.heap.push (newS w) }) ⟨rfl, rfl⟩) fun r s1 hr => ?_
  match r, hr with
  | .error e, hr => exact hr
  | .ok .next, hr => exact hr.elim
  | .ok .brk, hr => exact hr.elim
  | .ok .cont, hr => exact hr.elim
  | .ok (.ret o), hr =>
    obtain ⟨rfl, rfl⟩ := hr
    have hS : (s.heap.push (newS w)).get? s.heap.objs.size = some (newS w) := Heap.get?_push_size _ rfl
    have hT : Shared.TypeIs { s with heap := s.heap.push (newS w) } (.ref s.heap.objs.size) "set" := ⟨_, hS, rfl⟩
    have b6 := F.called_set.init.lookup
    have b7 := F.called_set.init.bind (.ref s.heap.objs.size)
    repeat (any_goals (first | assumption | wp_step))
    refine codeAny_mono (fill_set (S := s.heap.objs.size) (l := l) (ns := ns) (items := items) (E := E) (Q := fun r s2 => r = .none ∧ Filled w s.heap.objs.size ns { s with heap := s.heap.push (newS w) } s2) (by simp [hh]) hS (hl.push _) hit hb fun s2 f => ⟨rfl, f⟩) fun r2 s2 hr2 => ?_
    match r2, hr2 with
    | .error e, hr2 => exact hr2
    | .ok .next, hr2 => exact hr2.elim
    | .ok .brk, hr2 => exact hr2.elim
    | .ok .cont, hr2 => exact hr2.elim
    | .ok (.ret o), hr2 =>
      obtain ⟨rfl, f⟩ := hr2
      obtain ⟨h2, tk, c2, rfl, g1, g2, g3⟩ := id f
      repeat (any_goals (first | assumption | wp_step))
      exact h _ f
end
/-- set(xs), xs a list of ints -/
def rSetL (K : PySem.W.Frag) (w : World) : List V → Hp → VK → Prop := fun xs H Q => ∃ (l : Addr) (ns : List Int), xs = [.ref l] ∧ SqL K H l (ns.map V.int) ∧ ns.length ≤ 4000 ∧ ∀ p c, H p = none → c ≤ ns.length → Q (.ref p) (upd H p (SetO w p (fun j => decide (j ∈ ns)) c))
theorem cr_setL {X : Cx} (hc : X.calm = true) : CallR X (.type "set") (rSetL X.K X.w) := by
  intro pins s σ H xs us Q I r h
  obtain ⟨l, ns, rfl, hq, hz, q⟩ := h
  rw [Vals.ref1 r]
  obtain ⟨its, r2, pl, hz2⟩ := I.list hq
  refine call_set_L (I.ok.hd hc) pl.isList (by simpa using RZ.intsAre_vals r2) (by unfold scanBound; omega) fun s2 f => ?_
  obtain ⟨h2, tk, c, rfl, g1, g2, g3⟩ := f
  have nf : H s.heap.objs.size = none := I.hok.fresh (Nat.le_refl _)
  refine ⟨.ref _, upd H s.heap.objs.size (SetO X.w s.heap.objs.size (fun j => decide (j ∈ ns)) c), I.laid (t' := tk) (fun b u e => g3 b u (Nat.ne_of_lt (Heap.lt_size e)) (Heap.get?_push_of_some _ e)) (Nat.le_refl _) (setO_new g1), rfl, q _ c nf g2⟩
/-- how many members a rising list of them has -/
theorem x_setL {K : PySem.W.Frag} {w : World} {H : Hp} {Q : VK} {l : Addr} {ns : List Nat} (hS : SqL K H l (ns.map nV)) (hz : ns.length ≤ 4000) (h : ∀ p c, H p = none → Q (.ref p) (upd H p (SetO w p (fun j => decide (j ∈ ns.map fun n : Nat => (n : Int))) c))) : rSetL K w [.ref l] H Q :=
  ⟨l, ns.map fun n : Nat => (n : Int), rfl, by rw [← map_nV]; exact hS, by rw [List.length_map]; exact hz, fun p c hp _ => h p c hp⟩
end Nn
/-! the laws' helpers: cells, width, mixed numbers, names -/
namespace Nn
open PySem L2
section
variable {P : Program} {w : World} {K : PySem.W.Frag} {mg : Str → Option Value} {base : Heap} {H : Hp} {Q : VK} {E : XK}
theorem nat_of {z : Int} (h : ∀ r : Nat, Q (.int r) H) (hz : 0 ≤ z) : Q (.int z) H := by
  obtain ⟨r, rfl⟩ := Int.eq_ofNat_of_zero_le hz
  exact h r
theorem atI_map {ns : List Int} {j : Nat} (h : j < ns.length) : atI (ns.map V.int) (j : Int) = some (.int ns[j]) := atI_nat (by simp [h])
theorem atI_nV {ns : List Nat} {j : Nat} (h : j < ns.length) : atI (ns.map nV) (j : Int) = some (nV ns[j]) := atI_nat (by simp [h])
theorem atI_neg1' {ns : List Nat} {j : Nat} (h : j < ns.length) : ∃ z, z ∈ ns ∧ atI (ns.map nV) ((j : Int) - 1) = some (nV z) := by
  unfold atI ixN
  by_cases hj : 0 ≤ (j : Int) - 1
  · rw [if_pos hj, if_pos (by simp; omega)]
    have h2 : ((j : Int) - 1).toNat < ns.length := by omega
    exact ⟨ns[((j : Int) - 1).toNat], List.getElem_mem h2, by
      show (ns.map nV)[_]? = _
      rw [List.getElem?_map, List.getElem?_eq_getElem h2]; rfl⟩
  · rw [if_neg hj, if_pos (by simp; omega)]
    have h2 : ((j : Int) - 1 + ((ns.map nV).length : Int)).toNat < ns.length := by simp; omega
    refine ⟨ns[((j : Int) - 1 + ((ns.map nV).length : Int)).toNat], List.getElem_mem h2, ?_⟩
    show (ns.map nV)[_]? = _
    rw [List.getElem?_map, List.getElem?_eq_getElem h2]; rfl
theorem atI_neg1 {ns : List Nat} {j : Nat} (h : j < ns.length) : ∃ z, atI (ns.map nV) ((j : Int) - 1) = some (nV z) := let ⟨z, _, e⟩ := atI_neg1' h; ⟨z, e⟩
def sp_l_cell_at (_ : Tx K mg base) : Sp := fun vs H Q _ => ∃ (a : Addr) (ns : List Int) (k : Nat), vs = [.ref a, .int k] ∧ SqL K H a (ns.map V.int) ∧ ∀ n : Nat, Q (.int n) H
theorem wc_l_cell_at {T : Tx K mg base} {a : Addr} {ns : List Int} {i : Int} {k : Nat} (hi : i = k) (hS : SqL K H a (ns.map V.int)) (h : ∀ n : Nat, Q (.int n) H) : sp_l_cell_at T [.ref a, .int i] H Q E := by
  subst hi; exact ⟨a, ns, k, rfl, hS, h⟩
theorem ok_l_cell_at (T : Tx K mg base) : FnOk P w K mg base CX0 1 T.a_l_cell_at T.d_l_cell_at ["_law_script", "_law_k"] (sp_l_cell_at T) := by
  refine T.F_l_cell_at.okD sc_l_cell_at (fun vs H Q E h => ?_) (fun cdv A outer s H vs Q E hr h => ?_)
  · obtain ⟨a, ns, k, rfl, _⟩ := h; rfl
  · obtain ⟨a, ns, k, rfl, hS, q⟩ := h
    have c_Bucket := T.c_Bucket; have n_Bucket_room := T.n_Bucket_room; have n_Bucket_line := T.n_Bucket_line
    refine ⟨_, (pss_cons (ps_if (pt_cmpR op_lt (pv 1) (pe_callB cb_len (by rfl) T.z_len PySem.boot_len (pa_cons (pv 0) pa_nil)) (nomark _))
      (pss_one (ps_ret (pe_callB cb_abs (by rfl) T.z_abs (by decide +kernel) (pa_cons (pe_ix ix_list (pv 0) (pv 1) (fun _ _ => rfl)) pa_nil))))
      pss_nil)
      (pss_one (ps_ret pe_int))), ?_⟩
    rw [Nn.st_l_cell_at]; try rw [Nn.cxK]
    walk_at "wx"
    refine x_ifD (fun hk => ?_) (fun hk => ?_)
    · walk_at "wx"
      have hk' : k < ns.length := by simpa using hk
      refine x_ixL hS (atI_map hk') ?_
      walk_at "wx"
      exact q _
    · walk_at "wx"
      exact q 0
end
end Nn
local macro_rules | `(tactic| walk_at "wc") => `(tactic| ((with_reducible refine' Nn.wc_l_cell_at ?hS ?hA (fun _ => ?_)); (case hS => walk_at "wnat"); (case hA => walk_at "wsq")))
/-! what answers: a function made by _law_among, that reads a number's figures -/
namespace Nn
open PySem L2
section
variable {P : Program} {w : World} {K : PySem.W.Frag} {mg : Str → Option Value} {base : Heap} {H : Hp} {Q : VK} {E : XK}
/-- the number; the function's cells -/
structure An where
  num : Nat
  cl : List (Str × Addr)
  cd : Addr
def sp_l_among__law_answers (_ : Tx K mg base) : List (Option V) → Sp := fun ws vs H Q _ => ∃ (num n : Nat), ws = [some (.int num)] ∧ vs = [.int n] ∧ Q (.bl (decide (num / 2 ^ n % 2 = 1))) H
theorem nok_l_among__law_answers (T : Tx K mg base) {cl : List (Str × Addr)} {c : Addr} (f : Addr) : NdefX.NOk P w K mg base CX0 1 f (nf_l_among__law_answers cl c) ["_law_name"] fr_l_among__law_answers (sp_l_among__law_answers T) := by
  refine NdefX.nok_of (N := N_l_among__law_answers) nsc_l_among__law_answers (fun doc pm ctv us hl => match us, hl with | [_], _ => rfl) (fun ws vs H Q E h => ?_) (fun A outer s H vs ws Q E hr hf hc hwl h => ?_)
  · obtain ⟨num, n, rfl, rfl, _⟩ := h; rfl
  · obtain ⟨num, n, rfl, rfl, q⟩ := h
    have c_Bucket := T.c_Bucket; have n_Bucket_room := T.n_Bucket_room; have n_Bucket_line := T.n_Bucket_line
    refine ⟨_, (pss_one (ps_ret (pe_cmpR op_eq (pe_op op_mod (pe_op op_shr (pv 1) (pv 0)) pe_int) pe_int (nomark _)))), ?_⟩
    rw [Nn.st_l_among__law_answers]; try rw [Nn.cxK]
    walk_at "wx"
    have e : decide ((num : Int) / 2 ^ (n : Int).toNat % 2 = 1) = decide (num / 2 ^ n % 2 = 1) := by
      have e0 : (num : Int) / 2 ^ (n : Int).toNat % 2 = ((num / 2 ^ n % 2 : Nat) : Int) := by simp
      rw [e0]
      exact decide_eq_decide.mpr (by omega)
    rw [e]; exact q
def sp_l_among (T : Tx K mg base) : Sp := fun vs H Q _ => ∃ n : Nat, vs = [.int n] ∧ NdefX.TabsN (tabsL T) H ∧ ∀ f cl cd H', Ex H H' → H f = none → H' f = some (NdefX.FnO f (nf_l_among__law_answers cl cd)) → H' cd = some (LamX.CodeO cd (nf_l_among__law_answers cl cd).qual) → CellsT H' cl fr_l_among__law_answers [.int n] → Q (.ref f) H'
theorem ok_l_among (T : Tx K mg base) : FnOk P w K mg base CX0 1 T.a_l_among T.d_l_among ["_law_number"] (sp_l_among T) := by
  refine T.FC_l_among.okMk (st1 := s_l_among__law_answers) (fr := fr_l_among__law_answers) (js := [0]) (i := 1) sc_l_among rfl T.tb_l_among rfl nm_l_among__law_answers (by decide +kernel) (by decide +kernel) (by decide) rfl rfl (fun _ => rfl) rfl rfl rfl (by decide) (fun vs H Q E h => ?_) (fun vs H Q E h => ?_)
  · obtain ⟨n, rfl, _⟩ := h; rfl
  · obtain ⟨n, rfl, hT, q⟩ := h
    exact ⟨hT _ tabm_l_among, [.int n], rfl, q⟩
def AnsOf (T : Tx K mg base) (H : Hp) (f : Addr) (A : An) : Prop := H f = some (NdefX.FnO f (nf_l_among__law_answers A.cl A.cd)) ∧ H A.cd = some (LamX.CodeO A.cd (nf_l_among__law_answers A.cl A.cd).qual) ∧ CellsT H A.cl fr_l_among__law_answers [.int A.num]
def ansB (A : An) (n : Nat) : Bool := decide (A.num / 2 ^ n % 2 = 1)
def AnsS (_ : An) : Addr → Prop := fun _ => False
def AnsL (_ : An) (_ : Hp) (_ : List Nat) : Prop := True
theorem AnsOf.none {T : Tx K mg base} {H : Hp} {f : Addr} {A : An} (_ : AnsOf T H f A) : AnsL A H [] := trivial
theorem AnsL.upd {A : An} {H H' : Hp} {as : List Nat} {l : Addr} (_ : AnsL A H as) (_ : Fr (fun a => a = l) H H') (_ : ¬ AnsS A l) : AnsL A H' as := trivial
theorem AnsOf.ins {T : Tx K mg base} {H : Hp} {f a : Addr} {A : An} {C dx : Addr} {fs : List (Str × V)} (_ : AnsOf T H f A) (z : AnsS A a) (_ : H a = some (.ins C dx fs)) : False := z
end
end Nn
/-! buckets -/
namespace Nn
open PySem L2
/-- what a bucket of room has in its line behind hearing of n (a: the eldest answers), and the word -/
def hearL (room : Nat) (xs : List Nat) (n : Nat) (a : Bool) : List Nat :=
  if n ∈ xs then xs.erase n ++ [n] else if xs.length < room then xs ++ [n] else if a = true then xs.tail ++ [xs.headD 0] else xs.tail ++ [n]
def hearW (room : Nat) (xs : List Nat) (n : Nat) (a : Bool) : Str :=
  if n ∈ xs then "again" else if xs.length < room then "new" else if a = true then "full" else "instead"
theorem hear_in {room n : Nat} {xs : List Nat} {a : Bool} (h : n ∈ xs) : hearL room xs n a = xs.erase n ++ [n] ∧ hearW room xs n a = "again" := by
  unfold hearL hearW; rw [if_pos h, if_pos h]; exact ⟨rfl, rfl⟩
theorem hear_new {room n : Nat} {xs : List Nat} {a : Bool} (h : ¬ n ∈ xs) (r : xs.length < room) : hearL room xs n a = xs ++ [n] ∧ hearW room xs n a = "new" := by
  unfold hearL hearW; rw [if_neg h, if_neg h, if_pos r, if_pos r]; exact ⟨rfl, rfl⟩
theorem hear_full {room n x : Nat} {xs : List Nat} {a : Bool} (h : ¬ n ∈ x :: xs) (r : ¬ (x :: xs).length < room) (e : a = true) : hearL room (x :: xs) n a = xs ++ [x] ∧ hearW room (x :: xs) n a = "full" := by
  unfold hearL hearW; rw [if_neg h, if_neg h, if_neg r, if_neg r, if_pos e, if_pos e]; exact ⟨rfl, rfl⟩
theorem hear_inst {room n x : Nat} {xs : List Nat} {a : Bool} (h : ¬ n ∈ x :: xs) (r : ¬ (x :: xs).length < room) (e : a = false) : hearL room (x :: xs) n a = xs ++ [n] ∧ hearW room (x :: xs) n a = "instead" := by
  unfold hearL hearW; rw [if_neg h, if_neg h, if_neg r, if_neg r, if_neg (by simp [e]), if_neg (by simp [e])]; exact ⟨rfl, rfl⟩
theorem hear_len {room n : Nat} {xs : List Nat} {a : Bool} (h : xs.length ≤ room) (r0 : 0 < room) : (hearL room xs n a).length ≤ room := by
  unfold hearL
  by_cases h1 : n ∈ xs
  · rw [if_pos h1, List.length_append, List.length_erase_of_mem h1, List.length_singleton]
    have := List.length_pos_of_mem h1
    omega
  · rw [if_neg h1]
    by_cases h2 : xs.length < room
    · rw [if_pos h2, List.length_append, List.length_singleton]; omega
    · rw [if_neg h2]
      by_cases h3 : a = true
      · rw [if_pos h3, List.length_append, List.length_singleton, List.length_tail]; omega
      · rw [if_neg h3, List.length_append, List.length_singleton, List.length_tail]; omega
section
variable {P : Program} {w : World} {K : PySem.W.Frag} {mg : Str → Option Value} {base : Heap} {H : Hp} {Q : VK} {E : XK}
/-- a bucket at p: its line at l holds xs -/
structure BuckAt (T : Tx K mg base) (H : Hp) (p l : Addr) (room : Nat) : Prop where
  ob : ∃ dx, H p = some (.ins T.C_Bucket dx (f_Bucket (nV room) (.ref l)))
theorem BuckAt.fr {T : Tx K mg base} {S : Addr → Prop} {H H' : Hp} {p l : Addr} {room : Nat} (b : BuckAt T H p l room) (f : Fr S H H') (hs : ¬ S p) : BuckAt T H' p l room := by
  obtain ⟨dx, h⟩ := b.ob
  exact ⟨dx, f.at h hs⟩
def sp_Bucket_init (T : Tx K mg base) : Sp := fun vs H Q _ => ∃ (p dx : Addr) (room : Nat), vs = [.ref p, .int room] ∧ H p = some (.ins T.C_Bucket dx []) ∧ ∀ (l : Addr) (H' : Hp), H l = none → H' l = some (.lst []) → Fr (fun a => a = p) H H' → BuckAt T H' p l room → Q .non H'
theorem ok_Bucket_init (T : Tx K mg base) : FnOk P w K mg base CX0 1 T.a_Bucket_init T.d_Bucket_init ["self", "room"] (sp_Bucket_init T) := by
  refine T.F_Bucket_init.okD sc_Bucket_init (fun vs H Q E h => ?_) (fun cdv A outer s H vs Q E hr h => ?_)
  · obtain ⟨p, dx, room, rfl, _⟩ := h; rfl
  · obtain ⟨p, dx, room, rfl, hp, q⟩ := h
    have c_Bucket := T.c_Bucket; have n_Bucket_room := T.n_Bucket_room; have n_Bucket_line := T.n_Bucket_line
    refine ⟨_, (pss_cons (ps_fld (pv 0) (pv 1) rfl)
      (pss_one (ps_fld (pv 0) (pe_lst pa_nil) rfl))), ?_⟩
    rw [Nn.st_Bucket_init]; try rw [Nn.cxK]
    walk_at "wx"
    refine ⟨len_ok rfl, fun l hl => ?_⟩
    walk_at "wx"
    have hl0 : H l = none := upd_back hl
    have hne : l ≠ p := fun z => by rw [z, hp] at hl0; cases hl0
    refine q l _ hl0 (by rw [upd_ne hne, upd_same]) ?_ ⟨dx, upd_same⟩
    exact ((Fr.upd1 hp).trans (Ex.new hl).fr).trans (Fr.upd1 (u := .ins T.C_Bucket dx [("room", .int room)]) (by rw [upd_ne hne.symm, upd_same]))
def sp_Bucket_names (T : Tx K mg base) : Sp := fun vs H Q _ => ∃ (p l : Addr) (room : Nat) (xs : List V), vs = [.ref p] ∧ BuckAt T H p l room ∧ H l = some (.lst xs) ∧ ∀ q, H q = none → Q (.ref q) (upd H q (.lst xs))
theorem wc_Bucket_names {T : Tx K mg base} {p l : Addr} {room : Nat} {xs : List V} (b : BuckAt T H p l room) (hl : H l = some (.lst xs)) (h : ∀ q, H q = none → Q (.ref q) (upd H q (.lst xs))) : sp_Bucket_names T [.ref p] H Q E := ⟨p, l, room, xs, rfl, b, hl, h⟩
theorem ok_Bucket_names (T : Tx K mg base) : FnOk P w K mg base CX0 1 T.a_Bucket_names T.d_Bucket_names ["self"] (sp_Bucket_names T) := by
  refine T.F_Bucket_names.okD sc_Bucket_names (fun vs H Q E h => ?_) (fun cdv A outer s H vs Q E hr h => ?_)
  · obtain ⟨p, l, room, xs, rfl, _⟩ := h; rfl
  · obtain ⟨p, l, room, xs, rfl, ⟨dx, ob⟩, hl, q⟩ := h
    have c_Bucket := T.c_Bucket; have n_Bucket_room := T.n_Bucket_room; have n_Bucket_line := T.n_Bucket_line
    refine ⟨_, (pss_one (ps_ret (pe_callTy cb_list (by rfl) T.z_list (by decide +kernel) (pa_cons (pe_fld (pv 0) rfl) pa_nil)))), ?_⟩
    rw [Nn.st_Bucket_names]; try rw [Nn.cxK]
    walk_at "wx"
    exact x_listL (SqL.of hl) q
/-- who was asked -/
def askedL (room : Nat) (xs : List Nat) (n : Nat) : List Nat := if n ∈ xs then [] else if xs.length < room then [] else [xs.headD 0]
def sp_Bucket_hears (T : Tx K mg base) : Sp := fun vs H Q _ => ∃ (p l : Addr) (room : Nat) (xs : List Nat) (n : Nat) (f : Addr) (A : An), vs = [.ref p, .int n, .ref f] ∧ BuckAt T H p l room ∧ H l = some (.lst (xs.map nV)) ∧ 0 < room ∧ room ≤ 100000 ∧ xs.length ≤ 100000 ∧ AnsOf T H f A ∧ ¬ AnsS A l ∧
  ∀ H', Fr (fun a => a = l ∨ AnsS A a) H H' → H' l = some (.lst ((hearL room xs n (ansB A (xs.headD 0))).map nV)) → AnsL A H' (askedL room xs n) → Q (.str (hearW room xs n (ansB A (xs.headD 0)))) H'
theorem wc_Bucket_hears {T : Tx K mg base} {p l f : Addr} {room n : Nat} {xs : List Nat} {A : An} (b : BuckAt T H p l room) (hl : H l = some (.lst (xs.map nV))) (r0 : 0 < room) (r1 : room ≤ 100000) (x1 : xs.length ≤ 100000) (a : AnsOf T H f A) (s : ¬ AnsS A l)
    (h : ∀ H', Fr (fun a => a = l ∨ AnsS A a) H H' → H' l = some (.lst ((hearL room xs n (ansB A (xs.headD 0))).map nV)) → AnsL A H' (askedL room xs n) → Q (.str (hearW room xs n (ansB A (xs.headD 0)))) H') : sp_Bucket_hears T [.ref p, .int n, .ref f] H Q E :=
  ⟨p, l, room, xs, n, f, A, rfl, b, hl, r0, r1, x1, a, s, h⟩
theorem ok_Bucket_hears (T : Tx K mg base) : FnOk P w K mg base CX0 2 T.a_Bucket_hears T.d_Bucket_hears ["self", "name", "answers"] (sp_Bucket_hears T) := by
  refine T.F_Bucket_hears.okD sc_Bucket_hears (fun vs H Q E h => ?_) (fun cdv A outer s H vs Q E hr h => ?_)
  · obtain ⟨p, l, room, xs, n, f, A, rfl, _⟩ := h; rfl
  · obtain ⟨p, l, room, xs, n, f, A, rfl, ⟨dx, ob⟩, hl, r0, r1, x1, hans, hsl, q⟩ := h
    have hL0 := AnsOf.none hans
    skip
    have c_Bucket := T.c_Bucket; have n_Bucket_room := T.n_Bucket_room; have n_Bucket_line := T.n_Bucket_line
    refine ⟨_, (pss_cons (ps_if (pt_cmpR op_in_seq (pv 1) (pe_fld (pv 0) rfl) rfl)
      (pss_cons (ps_expr (pe_bm PySem.F.plainAttrs_list PySem.F.slot_list_remove PySem.F.type_list_remove mt_remove (pe_fld (pv 0) rfl) (pa_cons (pv 1) pa_nil)))
      (pss_cons (ps_expr (pe_bm PySem.F.plainAttrs_list PySem.F.slot_list_append PySem.F.type_list_append mt_append (pe_fld (pv 0) rfl) (pa_cons (pv 1) pa_nil)))
      (pss_one (ps_ret pe_str))))
      pss_nil)
      (pss_cons (ps_if (pt_cmpR op_lt (pe_callB cb_len (by rfl) T.z_len PySem.boot_len (pa_cons (pe_fld (pv 0) rfl) pa_nil)) (pe_fld (pv 0) rfl) (nomark _))
      (pss_cons (ps_expr (pe_bm PySem.F.plainAttrs_list PySem.F.slot_list_append PySem.F.type_list_append mt_append (pe_fld (pv 0) rfl) (pa_cons (pv 1) pa_nil)))
      (pss_one (ps_ret pe_str)))
      pss_nil)
      (pss_cons (ps_if (pt_val (pe_callT (F := nf_l_among__law_answers A.cl A.cd) (i := 2) (fun f => nok_l_among__law_answers T f) hr (by decide) rfl (by first | exact Or.inl rfl | exact Or.inr (Or.inl rfl) | exact Or.inr (Or.inr rfl)) (pa_cons (pe_ix ix_list (pe_fld (pv 0) rfl) pe_int (fun _ _ => rfl)) pa_nil)))
      (pss_cons (ps_expr (pe_bm PySem.F.plainAttrs_list PySem.F.slot_list_append PySem.F.type_list_append mt_append (pe_fld (pv 0) rfl) (pa_cons (pe_bm PySem.F.plainAttrs_list PySem.F.slot_list_pop PySem.F.type_list_pop mt_popAt (pe_fld (pv 0) rfl) (pa_cons pe_int pa_nil)) pa_nil)))
      (pss_one (ps_ret pe_str)))
      pss_nil)
      (pss_cons (ps_expr (pe_bm PySem.F.plainAttrs_list PySem.F.slot_list_pop PySem.F.type_list_pop mt_popAt (pe_fld (pv 0) rfl) (pa_cons pe_int pa_nil)))
      (pss_cons (ps_expr (pe_bm PySem.F.plainAttrs_list PySem.F.slot_list_append PySem.F.type_list_append mt_append (pe_fld (pv 0) rfl) (pa_cons (pv 1) pa_nil)))
      (pss_one (ps_ret pe_str))))))), ?_⟩
    rw [Nn.st_Bucket_hears]; try rw [Nn.cxK]
    walk_at "wx"
    refine x_ifD (fun hn => ?_) fun hn => ?_
    · walk_at "wx"
      refine x_remove rfl hl hn ?_
      walk_at "wx"
      refine x_append upd_same (by rw [sizeLine_eq, List.length_map, List.length_erase_of_mem hn]; omega) ?_
      rw [(hear_in hn).1, (hear_in hn).2, List.map_append, show askedL room xs n = [] from if_pos hn] at q
      rw [upd_upd]
      have fr := Fr.upd1 (o := .lst ((xs.erase n).map nV ++ [nV n])) hl
      exact q _ (fr.mono fun a z => .inl z) upd_same (hL0.upd fr hsl)
    · walk_at "wx"
      refine x_ifD (fun hr1 => ?_) fun hr1 => ?_
      · walk_at "wx"
        rw [List.length_map] at hr1
        have e := hear_new (a := ansB A (xs.headD 0)) hn (Int.ofNat_lt.mp hr1)
        rw [e.1, e.2, List.map_append, show askedL room xs n = [] from by unfold askedL; rw [if_neg hn, if_pos (Int.ofNat_lt.mp hr1)]] at q
        have fr := Fr.upd1 (o := .lst (xs.map nV ++ [nV n])) hl
        exact q _ (fr.mono fun a z => .inl z) upd_same (hL0.upd fr hsl)
      · obtain ⟨x, r, rfl⟩ : ∃ x r, xs = x :: r := by
          cases xs with
          | nil => simp at hr1; omega
          | cons x r => exact ⟨x, r, rfl⟩
        rw [List.length_map] at hr1
        have hr2 : ¬ (x :: r).length < room := fun z => hr1 (Int.ofNat_lt.mpr z)
        have hrl : r.length < (x :: r).length := Nat.lt_succ_self _
        rw [show askedL room (x :: r) n = [x] from by unfold askedL; rw [if_neg hn, if_neg hr2]; rfl] at q
        simp only [List.headD_cons] at q
        walk_at "wx"
        refine ⟨f, [.int A.num], rfl, hans.1, ?_⟩
        walk_at "wx"
        obtain ⟨hf1, hcd1, hC1⟩ := id hans
        refine ⟨hf1, hcd1, hC1, fun se => ?_⟩
        refine ⟨A.num, x, rfl, rfl, fun sh => ?_⟩
        rw [relay_strip]
        have fr2 : Fr (AnsS A) H H := Fr.refl
        have hL2 : AnsL A H [x] := trivial
        have hq : decide (A.num / 2 ^ x % 2 = 1) = ansB A x := rfl
        rw [hq]
        walk_at "wx"
        have ob2 := fr2.at ob fun z => AnsOf.ins hans z ob
        have hl2 := fr2.at hl hsl
        refine x_ifB (fun ha => ?_) fun ha => ?_
        · have ha : ansB A x = true := ha
          walk_at "wx"
          have e := hear_full hn hr2 ha
          rw [e.1, e.2, List.map_append] at q
          refine x_pop0 (xs := r.map nV) hl2 ?_
          walk_at "wx"
          rw [upd_upd]
          have fr := Fr.upd1 (o := .lst (r.map nV ++ [nV x])) hl2
          exact q _ ((fr2.mono fun a z => .inr z).trans (fr.mono fun a z => .inl z)) upd_same (hL2.upd fr hsl)
        · have ha : ansB A x = false := ha
          walk_at "wx"
          have e := hear_inst hn hr2 ha
          rw [e.1, e.2, List.map_append] at q
          refine x_pop0 (xs := r.map nV) hl2 ?_
          walk_at "wx"
          rw [upd_upd]
          have fr := Fr.upd1 (o := .lst (r.map nV ++ [nV n])) hl2
          exact q _ ((fr2.mono fun a z => .inr z).trans (fr.mono fun a z => .inl z)) upd_same (hL2.upd fr hsl)
end
end Nn
/-! k12: never forgets -/
namespace Nn
open PySem L2
theorem erase_filter {n : Nat} : ∀ {xs : List Nat}, xs.Nodup → xs.filter (fun x => decide (x ∈ xs.erase n)) = xs.erase n := by
  intro xs nd
  rw [nd.erase_eq_filter]
  refine List.filter_congr fun x hx => ?_
  have e : (x ∈ List.filter (fun y => y != n) xs) ↔ x ≠ n := by simp [hx]
  by_cases q : x = n
  · simp [q]
  · rw [decide_eq_true (e.mpr q)]; simp [q]
theorem hear_law {room n : Nat} {xs : List Nat} {a : Bool} (b : Nat → Bool) (nd : xs.Nodup) (hl : xs.length ≤ room) (r0 : 0 < room) (ha : a = b (xs.headD 0)) :
    (hearL room xs n a).Nodup ∧ (∀ x ∈ xs, b x = true → x ∈ hearL room xs n a) ∧ decide (n ∈ hearL room xs n a) = (!decide (hearW room xs n a = "full") || decide (n ∈ xs)) ∧
    (∀ y ∈ hearL room xs n a, y ∈ xs ∨ y = n) ∧ (xs.filter fun x => decide (x ∈ (hearL room xs n a).dropLast)) = (hearL room xs n a).dropLast.filter fun x => decide (x ∈ xs) := by
  have self : ∀ {ys zs : List Nat}, (∀ y ∈ ys, y ∈ zs) → (ys.filter fun x => decide (x ∈ zs)) = ys := fun h => List.filter_eq_self.mpr fun y hy => by simp [h y hy]
  by_cases h : n ∈ xs
  · rw [(hear_in h).1, (hear_in h).2, List.dropLast_concat]
    refine ⟨nd_snoc (nd.erase n) (fun z => (nd.mem_erase_iff.mp z).1 rfl), fun x hx _ => ?_, by simp [h], fun y hy => ?_, ?_⟩
    · by_cases e : x = n
      · simp [e]
      · exact List.mem_append.mpr (.inl (nd.mem_erase_iff.mpr ⟨e, hx⟩))
    · rcases List.mem_append.mp hy with z | z
      · exact .inl (List.mem_of_mem_erase z)
      · exact .inr (List.mem_singleton.mp z)
    · rw [erase_filter nd, self fun y hy => List.mem_of_mem_erase hy]
  · by_cases r : xs.length < room
    · rw [(hear_new h r).1, (hear_new h r).2, List.dropLast_concat]
      refine ⟨nd_snoc nd h, fun x hx _ => List.mem_append.mpr (.inl hx), ?_, fun y hy => ?_, rfl⟩
      · have e : decide (("new" : Str) = "full") = false := by decide +kernel
        simp [e]
      · rcases List.mem_append.mp hy with z | z
        · exact .inl z
        · exact .inr (List.mem_singleton.mp z)
    · obtain ⟨x, t, rfl⟩ : ∃ x t, xs = x :: t := by
        cases xs with
        | nil => exact absurd r0 r
        | cons x t => exact ⟨x, t, rfl⟩
      have nx := List.nodup_cons.mp nd
      have nt : n ∉ t := fun z => h (List.mem_cons_of_mem _ z)
      have nn : n ≠ x := fun z => h (by rw [z]; exact List.mem_cons_self ..)
      have tl : ((x :: t).filter fun y => decide (y ∈ t)) = t.filter fun y => decide (y ∈ x :: t) := by
        rw [List.filter_cons_of_neg (by simp [nx.1]), self fun y hy => hy, self fun y hy => List.mem_cons_of_mem _ hy]
      cases hb : a with
      | true =>
        rw [(hear_full h r rfl).1, (hear_full h r rfl).2, List.dropLast_concat]
        refine ⟨nd_snoc nx.2 nx.1, fun y hy _ => ?_, ?_, fun y hy => ?_, tl⟩
        · rcases List.mem_cons.mp hy with z | z <;> simp [z]
        · simp [nt, nn]
        · rcases List.mem_append.mp hy with z | z
          · exact .inl (List.mem_cons_of_mem _ z)
          · rw [List.mem_singleton.mp z]; exact .inl (List.mem_cons_self ..)
      | false =>
        rw [(hear_inst h r rfl).1, (hear_inst h r rfl).2, List.dropLast_concat]
        refine ⟨nd_snoc nx.2 nt, fun y hy q => ?_, ?_, fun y hy => ?_, tl⟩
        · rcases List.mem_cons.mp hy with z | z
          · have e : b x = false := by rw [← hb, ha]; rfl
            rw [z, e] at q; cases q
          · simp [z]
        · have e : decide (("instead" : Str) = "full") = false := by decide +kernel
          simp [e]
        · rcases List.mem_append.mp hy with z | z
          · exact .inl (List.mem_cons_of_mem _ z)
          · exact .inr (List.mem_singleton.mp z)
def spLaw (K : PySem.W.Frag) : Sp := fun vs H Q _ => ∃ (a : Addr) (ns : List Int), vs = [.ref a] ∧ SqL K H a (ns.map V.int) ∧ ns.length ≤ 63 ∧ Tabs0 K H ∧ ∀ H', Q (.bl true) H'
def sp_law (_ : Tx K mg base) : Sp := spLaw K
section
variable {P : Program} {w : World} {K : PySem.W.Frag} {mg : Str → Option Value} {base : Heap} {H : Hp} {Q : VK} {E : XK}
def sp_l_right (_ : Tx K mg base) : Sp := fun vs H Q E => ∃ (p_xs : Addr) (xs : List Nat) (p_ys : Addr) (ys : List Nat) (room : Nat) (n : Nat) (z : Str) (num : Nat) (a : Bool), vs = [.ref p_xs, .ref p_ys, .int room, .int n, .str z, .int num] ∧ (SqL K H p_xs (xs.map nV)) ∧ (SqL K H p_ys (ys.map nV)) ∧ (ys = hearL room xs n a ∧ z = hearW room xs n a ∧ a = decide (num / 2 ^ xs.headD 0 % 2 = 1) ∧ xs.Nodup ∧ xs.length ≤ room ∧ 0 < room ∧ room ≤ 8) ∧ (∀ H', Ex H H' → Q (.bl true) H')
theorem wc_l_right {T : Tx K mg base} {p_xs : Addr} {xs : List Nat} {p_ys : Addr} {ys : List Nat} {room : Nat} {n : Nat} {z : Str} {num : Nat} {a : Bool} {i2 : Int} {i3 : Int} {i5 : Int} (e2 : i2 = room) (e3 : i3 = n) (e5 : i5 = num) (c0 : SqL K H p_xs (xs.map nV)) (c1 : SqL K H p_ys (ys.map nV)) (c2 : ys = hearL room xs n a ∧ z = hearW room xs n a ∧ a = decide (num / 2 ^ xs.headD 0 % 2 = 1) ∧ xs.Nodup ∧ xs.length ≤ room ∧ 0 < room ∧ room ≤ 8) (h : ∀ H', Ex H H' → Q (.bl true) H') : sp_l_right T [.ref p_xs, .ref p_ys, .int i2, .int i3, .str z, .int i5] H Q E := by
  subst e2 e3 e5
  exact ⟨p_xs, xs, p_ys, ys, room, n, z, num, a, rfl, c0, c1, c2, h⟩
theorem ok_l_right (T : Tx K mg base) : FnOk P w K mg base CX0 1 T.a_l_right T.d_l_right ["_law_ahead", "_law_behind", "_law_room", "_law_name", "_law_word", "_law_number"] (sp_l_right T) := by
  refine T.F_l_right.okD sc_l_right (fun vs H Q E h => ?_) (fun cdv A outer s H vs Q E hr h => ?_)
  · obtain ⟨p_xs, xs, p_ys, ys, room, n, z, num, a, rfl, hS0, hS1, hpre, q⟩ := h; rfl
  · obtain ⟨p_xs, xs, p_ys, ys, room, n, z, num, a, rfl, hS0, hS1, hpre, q⟩ := h
    have hu := hu_of hr
    have c_Bucket := T.c_Bucket; have n_Bucket_room := T.n_Bucket_room; have n_Bucket_line := T.n_Bucket_line
    refine ⟨_, (pss_cons (ps_if (PW.pt (pw_or (pt_cmpR op_gt (pe_callB cb_len (by rfl) T.z_len PySem.boot_len (pa_cons (pv 1) pa_nil)) (pv 2) (nomark _)) (pw_or1 (pt_cmpR op_ne (RZ.pe_lenSetI (by rfl) T.z_len (by rfl) T.z_set (pv 1)) (pe_callB cb_len (by rfl) T.z_len PySem.boot_len (pa_cons (pv 1) pa_nil)) (nomark _)))))
      (pss_one (ps_ret pe_bl))
      pss_nil)
      (pss_cons (ps_if (pt_cmpR op_gt (pe_callB cb_len (by rfl) T.z_len PySem.boot_len (pa_cons (pe_lc (own := [("_law_one", 6)]) (g := (gName 6)) (by rfl) sc_l_right.nd (pi_list (pv 0)) (blkOk_by (N := N_l_right) (sc := defScope s_l_right) (own := [("_law_one", 6)]) (by decide +kernel)) (fun _ _ _ _ _ => (pg_name (i := 6) sc_l_right.nd rfl (Or.inl rfl))) (fun _ _ _ _ _ => pts_one ((PW.pt (pw_and (pt_cmpR op_eq (pe_op op_mod (pe_op op_shr (pv 5) (pv 6)) pe_int) pe_int (nomark _)) (pw_and1 (pt_cmpR (op_notInK (K := K) rfl) (pv 6) (pv 1) rfl)))))) (fun _ _ _ _ _ => (pv 6))) pa_nil)) pe_int (nomark _))
      (pss_one (ps_ret pe_bl))
      pss_nil)
      (C8.pss_cut (ps_if (pt_cmpR op_ne (pe_cmpR op_in_seq (pv 3) (pv 1) rfl) (pe_or (pe_cmpR op_ne (pv 4) pe_str (nomark _)) (pe_one (pe_cmpR op_in_seq (pv 3) (pv 0) rfl))) (nomark _))
      (pss_one (ps_ret pe_bl))
      pss_nil)
      (pss_cons (ps_if (pt_cmpR op_gt (pe_callB cb_len (by rfl) T.z_len PySem.boot_len (pa_cons (pe_lc (own := [("_law_one", 6)]) (g := (gName 6)) (by rfl) sc_l_right.nd (pi_list (pv 1)) (blkOk_by (N := N_l_right) (sc := defScope s_l_right) (own := [("_law_one", 6)]) (by decide +kernel)) (fun _ _ _ _ _ => (pg_name (i := 6) sc_l_right.nd rfl (Or.inl rfl))) (fun _ _ _ _ _ => pts_one ((PW.pt (pw_and (pt_cmpR (op_notInK (K := K) rfl) (pv 6) (pv 0) rfl) (pw_and1 (pt_cmpR op_ne (pv 6) (pv 3) (nomark _))))))) (fun _ _ _ _ _ => (pv 6))) pa_nil)) pe_int (nomark _))
      (pss_one (ps_ret pe_bl))
      pss_nil)
      (pss_one (ps_ret (pe_cmpR (op_eqD hr.units) (pe_lc (own := [("_law_one", 6)]) (g := (gName 6)) (by rfl) sc_l_right.nd (pi_list (pv 0)) (blkOk_by (N := N_l_right) (sc := defScope s_l_right) (own := [("_law_one", 6)]) (by decide +kernel)) (fun _ _ _ _ _ => (pg_name (i := 6) sc_l_right.nd rfl (Or.inl rfl))) (fun _ _ _ _ _ => pts_one ((pt_cmpR (op_inK (K := K) rfl) (pv 6) (pe_slice (sl_listK (K := K) rfl) (pv 1) po_none (po_some (pe_un un_neg pe_int))) rfl))) (fun _ _ _ _ _ => (pv 6))) (pe_lc (own := [("_law_one", 6)]) (g := (gName 6)) (by rfl) sc_l_right.nd (pi_list (pe_slice sl_list (pv 1) po_none (po_some (pe_un un_neg pe_int)))) (blkOk_by (N := N_l_right) (sc := defScope s_l_right) (own := [("_law_one", 6)]) (by decide +kernel)) (fun _ _ _ _ _ => (pg_name (i := 6) sc_l_right.nd rfl (Or.inl rfl))) (fun _ _ _ _ _ => pts_one ((pt_cmpR (op_inK (K := K) rfl) (pv 6) (pv 0) rfl))) (fun _ _ _ _ _ => (pv 6))) (nomark _)))))))), ?_⟩
    rw [Nn.st_l_right]; try rw [Nn.cxK]
    walk_at "wx"
    obtain ⟨ey, ez, ea, nd, hl, r0, r1⟩ := hpre
    obtain ⟨f1, f2, f3, f4, f5⟩ := hear_law (fun x => decide (num / 2 ^ x % 2 = 1)) nd hl r0 ea (n := n)
    have f0 := hear_len (n := n) (a := a) hl r0
    rw [← ey] at f0 f1 f2 f3 f4 f5
    rw [← ez] at f3
    refine x_ite (fun h => absurd h (by rw [List.length_map]; omega)) fun _ => ?_
    walk_at "wx"
    refine x_lenSet hS1 f1 (by omega) ?_
    walk_at "wx"
    rw [List.length_map]
    walk_at "wx"
    refine LcW.filt (emb := nV) (xs := xs) (fun x => decide (num / 2 ^ x % 2 = 1) && !decide (x ∈ ys)) hS0 (by rw [sizeLine_eq]; omega) (fun x hx H2 ex2 R hR => ?_) (fun x _ _ H2 ex2 Qe hQ => ?_) fun D H2 hD ex2 hD2 => ?_
    · have e : decide ((num : Int) / 2 ^ (x : Int).toNat % 2 = 1) = decide (num / 2 ^ x % 2 = 1) := by
        have e0 : (num : Int) / 2 ^ (x : Int).toNat % 2 = ((num / 2 ^ x % 2 : Nat) : Int) := by simp
        rw [e0]
        exact decide_eq_decide.mpr (by omega)
      have hS1' := ex2.ls hS1
      walk_at "wx"
      rw [e]
      refine x_iteB (fun h => ?_) fun h => ?_
      · walk_at "wx"
        have q := hR _ Ex.refl
        rw [h, Bool.true_and] at q
        exact q
      · have q := hR _ Ex.refl
        rw [h, Bool.false_and] at q
        exact q
    · walk_at "wx"
      exact hQ
    · have e0 : (xs.filter fun x => decide (num / 2 ^ x % 2 = 1) && !decide (x ∈ ys)) = [] := List.filter_eq_nil_iff.mpr fun x hx z => by
        simp only [Bool.and_eq_true, Bool.not_eq_true', decide_eq_false_iff_not] at z
        exact z.2 (f2 x hx z.1)
      rw [e0] at hD2
      have hSa := ex2.ls hS0
      have hSb := ex2.ls hS1
      walk_at "wx"
      refine x_ifD (fun h => absurd h (by simp)) fun _ => ?_
      walk_at "wx"
      refine x_cut (fun σ' H' => σ' = [some (.ref p_xs), some (.ref p_ys), some (.int room), some (.int n), some (.str z), some (.int num), none] ∧ H' = H2) ?_ ?_
      · walk_at "wx"
        refine x_iteN (fun h => ?_) fun h => ?_
        · walk_at "wx"
          rw [f3, decide_eq_false h]
          exact x_ifN (fun z => absurd rfl z) fun _ => ⟨rfl, rfl⟩
        · walk_at "wx"
          rw [f3, decide_eq_true h]
          exact x_ifN (fun z => absurd rfl z) fun _ => ⟨rfl, rfl⟩
      · rintro σ' H' ⟨rfl, rfl⟩
        walk_at "wx"
        refine LcW.filt (emb := nV) (xs := ys) (fun x => !decide (x ∈ xs) && !decide (x = n)) hSb (by rw [sizeLine_eq]; omega) (fun x hx H3 ex3 R hR => ?_) (fun x _ _ H3 ex3 Qe hQ => ?_) fun D3 H3 hD3 ex3 hD33 => ?_
        · have hSa' := ex3.ls hSa
          walk_at "wx"
          refine x_iteN (fun h => ?_) fun h => ?_
          · walk_at "wx"
            have q := hR _ Ex.refl
            rw [decide_eq_false h, Bool.not_false, Bool.true_and] at q
            have e : decide ((x : Int) = (n : Int)) = decide (x = n) := decide_eq_decide.mpr ⟨fun z => Int.ofNat.inj z, fun z => by rw [z]⟩
            rw [e]
            exact q
          · have q := hR _ Ex.refl
            rw [decide_eq_true h, Bool.not_true, Bool.false_and] at q
            exact q
        · walk_at "wx"
          exact hQ
        · have e0 : (ys.filter fun x => !decide (x ∈ xs) && !decide (x = n)) = [] := List.filter_eq_nil_iff.mpr fun x hx z => by
            simp only [Bool.and_eq_true, Bool.not_eq_true', decide_eq_false_iff_not] at z
            rcases f4 x hx with h | h
            · exact z.1 h
            · exact z.2 h
          rw [e0] at hD33
          have hSa3 := ex3.ls hSa
          have hSb3 := ex3.ls hSb
          walk_at "wx"
          refine x_ifD (fun h => absurd h (by simp)) fun _ => ?_
          walk_at "wx"
          refine LcW.filt (emb := nV) (xs := xs) (fun x => decide (x ∈ ys.dropLast)) hSa3 (by rw [sizeLine_eq]; omega) (fun x hx H4 ex4 R hR => ?_) (fun x _ _ H4 ex4 Qe hQ => ?_) fun D4 H4 hD4 ex4 hD44 => ?_
          · have hSb' := ex4.ls hSb3
            walk_at "wx"
            refine x_slL hSb' fun r hr => ?_
            have er := upd_same (H := H4) (a := r) (o := .lst (cutV (ys.map nV) none (some (-1))))
            rw [cut_init, ← List.map_dropLast] at er ⊢
            walk_at "wx"
            exact hR _ (Ex.new hr)
          · walk_at "wx"
            exact hQ
          · have hSa4 := ex4.ls hSa3
            have hSb4 := ex4.ls hSb3
            walk_at "wx"
            refine x_slL hSb4 fun r hr => ?_
            have er := upd_same (H := H4) (a := r) (o := .lst (cutV (ys.map nV) none (some (-1))))
            rw [cut_init, ← List.map_dropLast] at er ⊢
            have hSa5 := (Ex.new (o := .lst (ys.dropLast.map nV)) hr).ls hSa4
            have hD5 := at_new (o := .lst (ys.dropLast.map nV)) hr hD44
            walk_at "wx"
            refine LcW.filt (emb := nV) (xs := ys.dropLast) (fun x => decide (x ∈ xs)) (SqL.of er) (by rw [sizeLine_eq, List.length_dropLast]; omega) (fun x hx H5 ex5 R hR => ?_) (fun x _ _ H5 ex5 Qe hQ => ?_) fun D6 H6 hD6 ex6 hD66 => ?_
            · have hSa' := ex5.ls hSa5
              walk_at "wx"
              exact hR _ Ex.refl
            · walk_at "wx"
              exact hQ
            · have hD56 := ex6.at hD5
              walk_at "wx"
              rw [f5, decide_eq_true rfl]
              exact q _ (((ex2.trans ex3).trans ex4).newT hr |>.trans ex6)
theorem ok_law (T : Tx K mg base) : FnOk P w K mg base CX0 3 T.a_law T.d_law ["_law_script"] (sp_law T) := by
  refine T.F_law.okD sc_law (fun vs H Q E h => ?_) (fun cdv A outer s H vs Q E hr h => ?_)
  · obtain ⟨a, ns, rfl, _⟩ := h; rfl
  · obtain ⟨a, ns, rfl, hS, hlen, hT, q⟩ := h
    have hu := hu_of hr
    have c_Bucket := T.c_Bucket; have n_Bucket_room := T.n_Bucket_room; have n_Bucket_line := T.n_Bucket_line
    refine ⟨_, (pss_cons (ps_set (i := 1) sc_law.nd rfl (Or.inl rfl) (pe_op op_add pe_int (pe_op op_mod (pe_call (ok_l_cell_at T) (hr.mono (by decide)) rfl T.m_l_cell_at T.F_l_cell_at.kp T.b_l_cell_at .nil pass0 (pa_cons (pv 0) (pa_cons pe_int pa_nil))) pe_int)))
      (pss_cons (ps_set (i := 2) sc_law.nd rfl (Or.inl rfl) (pe_make T.M_Bucket (ok_Bucket_init T) hr rfl T.m_Bucket T.b_Bucket_init .nil pass0 (pa_cons (pv 1) pa_nil)))
      (pss_cons (ps_for PassesOwn.never rfl (pi_list (pe_slice sl_list (pv 0) (po_some pe_int) (po_some pe_int))) (pg_name (i := 3) sc_law.nd rfl (Or.inl rfl))
      (pss_cons (ps_set (i := 4) sc_law.nd rfl (Or.inl rfl) (pe_op op_mod (pe_callB cb_abs (by rfl) T.z_abs (by decide +kernel) (pa_cons (pv 3) pa_nil)) pe_int))
      (pss_cons (ps_set (i := 5) sc_law.nd rfl (Or.inl rfl) (pe_op op_mod (pe_op op_fdivW (pe_callB cb_abs (by rfl) T.z_abs (by decide +kernel) (pa_cons (pv 3) pa_nil)) pe_int) pe_int))
      (pss_cons (ps_set (i := 6) sc_law.nd rfl (Or.inl rfl) (pe_meth0 (pv 2) T.c_Bucket T.t_Bucket_names (ok_Bucket_names T) (hr.mono (by decide)) T.b_Bucket_names .nil pass0))
      (pss_cons (ps_set (i := 7) sc_law.nd rfl (Or.inl rfl) (pe_meth (pv 2) T.c_Bucket T.t_Bucket_hears (ok_Bucket_hears T) hr T.b_Bucket_hears .nil pass0 (pa_cons (pv 4) (pa_cons (pe_call (ok_l_among T) (hr.mono (by decide)) rfl T.m_l_among T.F_l_among.kp T.b_l_among .nil pass0 (pa_cons (pv 5) pa_nil)) pa_nil))))
      (pss_cons (ps_if (pt_cmpR op_notIn_seq (pv 7) (pe_tup (pa_cons pe_str (pa_cons pe_str (pa_cons pe_str (pa_cons pe_str pa_nil))))) rfl)
      (pss_one (ps_ret pe_bl))
      pss_nil)
      (pss_one (ps_if (pt_not (pt_val (pe_call (ok_l_right T) (hr.mono (by decide)) rfl T.m_l_right T.F_l_right.kp T.b_l_right .nil pass0 (pa_cons (pv 6) (pa_cons (pe_meth0 (pv 2) T.c_Bucket T.t_Bucket_names (ok_Bucket_names T) (hr.mono (by decide)) T.b_Bucket_names .nil pass0) (pa_cons (pv 1) (pa_cons (pv 4) (pa_cons (pv 7) (pa_cons (pv 5) pa_nil)))))))))
      (pss_one (ps_ret pe_bl))
      pss_nil))))))))
      (pss_one (ps_ret pe_bl))))), ?_⟩
    rw [Nn.st_law]; try rw [Nn.cxK]
    walk_at "wx"
    rename_i c0
    obtain ⟨room, hroom, r0, r1⟩ : ∃ room : Nat, (1 : Int) + (c0 : Int) % 8 = (room : Int) ∧ 0 < room ∧ room ≤ 8 := ⟨1 + c0 % 8, by omega, by omega, by omega⟩
    rw [hroom]
    refine x_make fun bp dx H1 hbp ex1 hbp1 => ?_
    refine ⟨bp, dx, room, rfl, hbp1, fun l H2 hl0 hl2 fr2 bu2 => ⟨rfl, ?_⟩⟩
    have ex2 : Ex H H2 := fr2.ex ex1 fun y z => by rw [z]; exact hbp
    have hS2 := ex2.ls hS
    walk_at "wx"
    refine x_slL hS2 fun r hr => ?_
    have hcl : (cutV (ns.map V.int) (some 1) (some 61)).length ≤ 60 := cut_len (xs := ns.map V.int) (k := 1) (m := 61)
    have hit : ∀ x ∈ cutV (ns.map V.int) (some 1) (some 61), ∃ i : Int, x = .int i := fun x hx => by
      obtain ⟨i, _, rfl⟩ := List.mem_map.mp (cut_mem hx)
      exact ⟨i, rfl⟩
    generalize cutV (ns.map V.int) (some 1) (some 61) = its at hcl hit ⊢
    have hl3 := at_new (o := .lst its) hr hl2
    have nlr := ne_of_none hl2 hr
    have bu3 := bu2.fr (Ex.new (o := .lst its) hr) id
    have hr3 := upd_same (H := H2) (a := r) (o := .lst its)
    have ex3 := ex2.newT (o := .lst its) hr
    generalize upd H2 r (.lst its) = H3 at hl3 bu3 hr3 ex3 ⊢
    have hT3 := Fr.tabs ex3 (tabs0 (T := T) hT)
    clear hl2 bu2 hr fr2
    walk_at "wx"
    refine ForW.by walk_list (fun i σ H' => ∃ (v3 v4 v5 v6 v7 : Option V) (xs : List Nat), σ = [some (.ref a), some (.int room), some (.ref bp), v3, v4, v5, v6, v7] ∧ BuckAt T H' bp l room ∧ H' l = some (.lst (xs.map nV)) ∧ H' r = some (.lst its) ∧ NdefX.TabsN (tabsL T) H' ∧ xs.Nodup ∧ xs.length ≤ room)
      ⟨none, none, none, none, none, [], rfl, bu3, hl3, hr3, hT3, List.nodup_nil, Nat.zero_le _⟩ (fun i σ H' _ ⟨_, _, _, _, _, _, _, _, _, e, _⟩ => SqL.of e) ?_ ?_
    · rintro i x σ _ H4 hi ⟨v3, v4, v5, v6, v7, xs, rfl, bu, hl, hr4, hT4, nd, hxl⟩ ⟨rfl, hx⟩
      obtain ⟨z, rfl⟩ := hit x (List.mem_of_getElem? hx)
      obtain ⟨bdx, hob⟩ := bu.ob
      walk_at "wx"
      refine wc_Bucket_names bu hl fun rA hrA => ?_
      have ex5 := Ex.new (o := .lst (xs.map nV)) hrA
      have hr15 := upd_same (H := H4) (a := rA) (o := .lst (xs.map nV))
      have nr1 := ne_of_none hl hrA
      have hl5 := ex5.at hl
      have hr5 := ex5.at hr4
      have bu5 := bu.fr ex5 id
      have hT5 := Fr.tabs ex5 hT4
      generalize upd H4 rA (.lst (xs.map nV)) = H5 at ex5 hr15 hl5 hr5 bu5 hT5 ⊢
      obtain ⟨bdx5, hob5⟩ := bu5.ob
      obtain ⟨n, hn⟩ : ∃ n : Nat, (z.natAbs : Int) % 12 = (n : Int) := ⟨z.natAbs % 12, by omega⟩
      obtain ⟨num, hnum⟩ : ∃ num : Nat, (z.natAbs : Int) / 12 % 4096 = (num : Int) := ⟨z.natAbs / 12 % 4096, by omega⟩
      rw [hn, hnum]
      walk_at "wx"
      refine ⟨num, rfl, hT5, fun f cl cd H6 ex6 hf0 hf hcd hC => ?_⟩
      have bu6 := bu5.fr ex6 id
      have hl6 := ex6.at hl5
      obtain ⟨bdx6, hob6⟩ := bu6.ob
      walk_at "wx"
      refine wc_Bucket_hears (A := ⟨num, cl, cd⟩) bu6 hl6 r0 (by omega) (by omega) ⟨hf, hcd, hC⟩ id fun H7 fr7 hl7 _ => ?_
      have fr7 : Fr (fun a => a = l ∨ False) H6 H7 := fr7
      have noS : ∀ {x : Addr}, x ≠ l → ¬ (x = l ∨ False) := fun h1 z => z.elim h1 id
      have hr7 := fr7.at (ex6.at hr5) (noS nlr.symm)
      have hr17 := fr7.at (ex6.at hr15) (noS nr1.symm)
      have hT7 := Fr.tabs fr7 (Fr.tabs ex6 hT5)
      have bu7 := bu6.fr fr7 (noS fun z => by rw [z, hl6] at hob6; cases hob6)
      obtain ⟨bdx7, hob7⟩ := bu7.ob
      have eb : ansB (An.mk num cl cd) (xs.headD 0) = decide (num / 2 ^ xs.headD 0 % 2 = 1) := rfl
      rw [eb] at hl7 ⊢
      obtain ⟨a1, ea1⟩ : ∃ a1, a1 = decide (num / 2 ^ xs.headD 0 % 2 = 1) := ⟨_, rfl⟩
      rw [← ea1] at hl7 ⊢
      obtain ⟨f1, -, -, -, -⟩ := hear_law (fun x => decide (num / 2 ^ x % 2 = 1)) nd hxl r0 ea1 (n := n)
      have f0 := hear_len (n := n) (a := a1) hxl r0
      walk_at "wx"
      refine ⟨len_ok rfl, fun t8 ht8 => ?_⟩
      have ex8 := Ex.new (o := .tup [.str "again", .str "new", .str "full", .str "instead"]) ht8
      have hin : inV (.str (hearW room xs n a1)) [.str "again", .str "new", .str "full", .str "instead"] = true := by
        unfold hearW
        repeat' split
        all_goals decide +kernel
      refine ⟨t8, _, rfl, .inr (SqT.of upd_same), rfl, by decide +kernel, ?_⟩
      rw [if_pos rfl, hin]
      have hl8 := ex8.at hl7
      have hr8 := ex8.at hr7
      have hr18 := ex8.at hr17
      have hT8 := Fr.tabs ex8 hT7
      have bu8 := bu7.fr ex8 id
      generalize upd H7 t8 (.tup [.str "again", .str "new", .str "full", .str "instead"]) = H8 at hl8 hr8 hr18 hT8 bu8 ⊢
      obtain ⟨bdx8, hob8⟩ := bu8.ob
      walk_at "wx"
      refine wc_Bucket_names bu8 hl8 fun r9 hr9 => ?_
      have ex9 := Ex.new (o := .lst ((hearL room xs n a1).map nV)) hr9
      have hr99 := upd_same (H := H8) (a := r9) (o := .lst ((hearL room xs n a1).map nV))
      have hl9 := ex9.at hl8
      have hr89 := ex9.at hr8
      have hr19 := ex9.at hr18
      have hT9 := Fr.tabs ex9 hT8
      have bu9 := bu8.fr ex9 id
      generalize upd H8 r9 (.lst ((hearL room xs n a1).map nV)) = H9 at hr99 hl9 hr89 hr19 hT9 bu9 ⊢
      walk_at "wx"
      refine wc_l_right rfl rfl rfl (SqL.of hr19) (SqL.of hr99) ⟨rfl, rfl, ea1, nd, hxl, r0, r1⟩ fun H10 ex10 => ?_
      walk_at "wx"
      exact ⟨_, _, _, _, _, hearL room xs n a1, rfl, bu9.fr ex10 id, ex10.at hl9, ex10.at hr89, Fr.tabs ex10 hT9, f1, f0⟩
    · rintro σ H4 ⟨v3, v4, v5, v6, v7, xs, rfl, bu, hl, hr4, hT4, nd, hxl⟩
      walk_at "wx"
      exact q _
end
end Nn
namespace Nn
open PySem PySem.Spec PyProof.Rows L2
def dd_Bucket_init : He.DefD := ⟨("Bucket", some "__init__"), "__init__", "Bucket.__init__", defArgs s_Bucket_init, defBody s_Bucket_init, defScope s_Bucket_init, [], []⟩
def dd_Bucket_names : He.DefD := ⟨("Bucket", some "names"), "names", "Bucket.names", defArgs s_Bucket_names, defBody s_Bucket_names, defScope s_Bucket_names, [], []⟩
def dd_Bucket_hears : He.DefD := ⟨("Bucket", some "hears"), "hears", "Bucket.hears", defArgs s_Bucket_hears, defBody s_Bucket_hears, defScope s_Bucket_hears, [], []⟩
def dd_Bucket_drops : He.DefD := ⟨("Bucket", some "drops"), "drops", "Bucket.drops", defArgs s_Bucket_drops, defBody s_Bucket_drops, defScope s_Bucket_drops, [], []⟩
def dd_l_cell_at : He.DefD := ⟨("_law_cell_at", none), "_law_cell_at", "_law_cell_at", defArgs s_l_cell_at, defBody s_l_cell_at, defScope s_l_cell_at, [], []⟩
def dd_l_among : He.DefD := ⟨("_law_among", none), "_law_among", "_law_among", defArgs s_l_among, defBody s_l_among, defScope s_l_among, [], []⟩
def dd_l_right : He.DefD := ⟨("_law_right", none), "_law_right", "_law_right", defArgs s_l_right, defBody s_l_right, defScope s_l_right, [], []⟩
def dd_law : He.DefD := ⟨("law", none), "law", "law", defArgs s_law, defBody s_law, defScope s_law, [], []⟩
def fnL : List He.DefD := [dd_Bucket_init, dd_Bucket_names, dd_Bucket_hears, dd_Bucket_drops, dd_l_cell_at, dd_l_among, dd_l_right, dd_law]
def faL : List He.Fa := [.glo "_law_cell_at",
  .glo "_law_among",
  .glo "_law_right",
  .glo "law",
  .glo "Bucket",
  .cls "Bucket",
  .mkr "Bucket",
  .noat "Bucket" "room",
  .noat "Bucket" "line",
  .meth "Bucket" "names",
  .meth "Bucket" "hears",
  .meth "Bucket" "drops",
  .free "abs",
  .free "len",
  .free "list",
  .free "set"]
abbrev RW : PySem.W.OpenRow := PySem.W.OpenLaw.row PySem.Challenge.rw_nearnames_k12_never_forgets
abbrev hkX : PySem.W.Hook := He.hookX 6 faL fnL [] tfL (fun _ => true)
def obL (s : PySem.W.SharedT) : He.AlX := He.obsX 6 faL fnL [] tfL (fun _ => true) (HandSHeadRun.getT s)
theorem obL_eq (s : PySem.W.SharedT) : obL s = hkX.obs s.abs := He.obsX_eq (HandSHeadRun.getT_eq s)
def loose0 : List Str := ["_wall", "Bucket", "_law_cell_at", "_law_among", "_law_right"]
def looseL : List Str := loose0
theorem runL (w : World) : HandSHeadRun.RunEq RW (PySem.W.view RW.prog [7]) hkX obL 6000 looseL w := by
  intro os
  kernel_rfl
theorem factsL {w : World} {K : PySem.W.Frag} {h : Heap} {mg : Str → Option Value} {f : Addr} (X : K.In h) (G : h.Ns mainGlobals mg) (hfa : mg ("law" : Str) = some (.ref f)) (c : He.SaysX faL fnL [] tfL (fun _ => true) w h K) :
    LamX.LawAtS PySem.Challenge.rw_nearnames_k12_never_forgets w K CX0 3 63 "_law_script" mg f h := by
  obtain ⟨fd0, F0⟩ := c.t.d.def_ 0 (d := dd_Bucket_init) rfl
  have b0 := FunD.bindsN (ps := ["self", "room"]) F0 fun _ _ _ _ _ _ us hl => match us, hl with | [_, _], _ => rfl
  obtain ⟨fd1, F1⟩ := c.t.d.def_ 1 (d := dd_Bucket_names) rfl
  have b1 := FunD.bindsN (ps := ["self"]) F1 fun _ _ _ _ _ _ us hl => match us, hl with | [_], _ => rfl
  obtain ⟨fd2, F2⟩ := c.t.d.def_ 2 (d := dd_Bucket_hears) rfl
  have b2 := FunD.bindsN (ps := ["self", "name", "answers"]) F2 fun _ _ _ _ _ _ us hl => match us, hl with | [_, _, _], _ => rfl
  obtain ⟨fd3, F3⟩ := c.t.d.def_ 3 (d := dd_Bucket_drops) rfl
  have b3 := FunD.bindsN (ps := ["self", "name"]) F3 fun _ _ _ _ _ _ us hl => match us, hl with | [_, _], _ => rfl
  obtain ⟨fd4, F4⟩ := c.t.d.def_ 4 (d := dd_l_cell_at) rfl
  have b4 := FunD.bindsN (ps := ["_law_script", "_law_k"]) F4 fun _ _ _ _ _ _ us hl => match us, hl with | [_, _], _ => rfl
  obtain ⟨fd5, F5⟩ := c.t.d.def_ 5 (d := dd_l_among) rfl
  have b5 := FunD.bindsN (ps := ["_law_number"]) F5 fun _ _ _ _ _ _ us hl => match us, hl with | [_], _ => rfl
  obtain ⟨fd6, F6⟩ := c.t.d.def_ 6 (d := dd_l_right) rfl
  have b6 := FunD.bindsN (ps := ["_law_ahead", "_law_behind", "_law_room", "_law_name", "_law_word", "_law_number"]) F6 fun _ _ _ _ _ _ us hl => match us, hl with | [_, _, _, _, _, _], _ => rfl
  obtain ⟨fd7, F7⟩ := c.t.d.def_ 7 (d := dd_law) rfl
  have b7 := FunD.bindsN (ps := ["_law_script"]) F7 fun _ _ _ _ _ _ us hl => match us, hl with | [_], _ => rfl
  have e := hfa.symm.trans (He.glo_ok X G (c.t.d.fact 3 (f := .glo "law") rfl))
  cases e
  refine ⟨fd7, tfL.map (He.cT K), spLaw K, List.forall_mem_map.mpr fun p hp => c.empty p hp, List.forall_mem_map.mpr fun p hp => c.out p hp, List.forall_mem_map.mpr fun p hp => PySem.W.codeHd_of_K X (c.hd p hp), fun s v => FunD.bindsA (ps := ["_law_script"]) F7 (fun _ _ _ _ _ _ us hl => match us, hl with | [_], _ => rfl) s [v] rfl, fun H a ns hl _ hT hS => ⟨a, ns, rfl, hS, hl, hT, fun _ => rfl⟩, fun base KB GB hTB => ok_law (K := K) (mg := mg) (base := base) {
      a_Bucket_init := (He.ma K (He.ga K "Bucket") "__init__"), d_Bucket_init := fd0, F_Bucket_init := F0, b_Bucket_init := b0,
      a_Bucket_names := (He.ma K (He.ga K "Bucket") "names"), d_Bucket_names := fd1, F_Bucket_names := F1, b_Bucket_names := b1,
      a_Bucket_hears := (He.ma K (He.ga K "Bucket") "hears"), d_Bucket_hears := fd2, F_Bucket_hears := F2, b_Bucket_hears := b2,
      a_Bucket_drops := (He.ma K (He.ga K "Bucket") "drops"), d_Bucket_drops := fd3, F_Bucket_drops := F3, b_Bucket_drops := b3,
      a_l_cell_at := (He.ga K "_law_cell_at"), d_l_cell_at := fd4, F_l_cell_at := F4, b_l_cell_at := b4,
      m_l_cell_at := He.glo_ok X G (c.t.d.fact 0 (f := .glo "_law_cell_at") rfl),
      a_l_among := (He.ga K "_law_among"), d_l_among := fd5, F_l_among := F5, b_l_among := b5,
      m_l_among := He.glo_ok X G (c.t.d.fact 1 (f := .glo "_law_among") rfl),
      a_l_right := (He.ga K "_law_right"), d_l_right := fd6, F_l_right := F6, b_l_right := b6,
      m_l_right := He.glo_ok X G (c.t.d.fact 2 (f := .glo "_law_right") rfl),
      a_law := (He.ga K "law"), d_law := fd7, F_law := F7, b_law := b7,
      m_law := He.glo_ok X G (c.t.d.fact 3 (f := .glo "law") rfl),
      C_Bucket := He.ga K "Bucket", c_Bucket := He.cls_ok (c.t.d.fact 5 (f := .cls "Bucket") rfl), m_Bucket := He.glo_ok X G (c.t.d.fact 4 (f := .glo "Bucket") rfl), M_Bucket := He.mkr_ok (c.t.d.fact 6 (f := .mkr "Bucket") rfl),
      t_Bucket_names := He.meth_ok (c.t.d.fact 9 (f := .meth "Bucket" "names") rfl),
      t_Bucket_hears := He.meth_ok (c.t.d.fact 10 (f := .meth "Bucket" "hears") rfl),
      t_Bucket_drops := He.meth_ok (c.t.d.fact 11 (f := .meth "Bucket" "drops") rfl),
      n_Bucket_room := He.noat_ok (c.t.d.fact 7 (f := .noat "Bucket" "room") rfl),
      n_Bucket_line := He.noat_ok (c.t.d.fact 8 (f := .noat "Bucket" "line") rfl),
      z_abs := He.free_ok X G (c.t.d.fact 12 (f := .free "abs") rfl),
      z_len := He.free_ok X G (c.t.d.fact 13 (f := .free "len") rfl),
      z_list := He.free_ok X G (c.t.d.fact 14 (f := .free "list") rfl),
      z_set := He.free_ok X G (c.t.d.fact 15 (f := .free "set") rfl),
      k_l_among := He.codeOf K ("_law_among", none), P_l_among := He.tabOf K (He.codeOf K ("_law_among", none)), tb_l_among := hTB _ (List.mem_map.mpr ⟨(("_law_among", none) : He.Defn), by simp [tfL], rfl⟩), FC_l_among := func_of (p := ("_law_among", none)) F5, z0_l_among := fun H h => h _ (List.mem_map.mpr ⟨(("_law_among", none) : He.Defn), by simp [tfL], rfl⟩) }⟩
end Nn
open PySem PySem.W PySem.Calls PyProof.Rows
theorem PySem.Challenge.cw_nearnames_k12_never_forgets_holds : PySem.Challenge.rw_nearnames_k12_never_forgets.Holds := by
  w_on; o_law
  refine HandSHeadRun.head_any (r := OpenLaw.row PySem.Challenge.rw_nearnames_k12_never_forgets) (q := view (OpenLaw.row PySem.Challenge.rw_nearnames_k12_never_forgets).prog [7]) (H := Nn.hkX) (ob := Nn.obL) (M := 6000) (loose := Nn.looseL) (d := HandSHeadRun.topDef (OpenLaw.row PySem.Challenge.rw_nearnames_k12_never_forgets).prog 7) (kwd := []) Nn.obL_eq
    (by kernel_rfl) (fun s => by kernel_rfl) Nn.runL (by kernel_rfl) (by kernel_rfl) (by kernel_rfl) (by rfl) (by first | assumption | decide +kernel) (by decide +kernel) ⟨rfl, rfl, rfl, rfl, rfl, by decide +kernel⟩ ?hw ?hc
  case hw => w_witness2
  case hc =>
    refine LamX.walk_ofTsE (l := PySem.Challenge.rw_nearnames_k12_never_forgets) (n := 63) (k := 3) (x := "_law_script") (CX := fun _ => L2.CX0) rfl (by decide) (by kernel_rfl) ⟨rfl, by decide, by decide⟩ ?F (fun _ _ _ _ _ z => z)
    intro w mg fa h Y G hmg0
    obtain ⟨K, KX, c⟩ := Y
    have hmg : mg ("law" : PySem.Str) = some (.ref fa) := by
      have e : (HandSHeadRun.topDef (OpenLaw.row PySem.Challenge.rw_nearnames_k12_never_forgets).prog 7).name = ("law" : PySem.Str) := by kernel_rfl
      rw [← e]
      exact hmg0
    exact ⟨K, KX, Nn.factsL KX G hmg c⟩
