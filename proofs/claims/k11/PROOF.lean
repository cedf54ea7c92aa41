import PyProof.Rows.All
import Wide.All
import OpenK.AllK
import Wide.FinOn
import HandS.ForMost
import HandS.Walk
import HandS.Wide
import HandS.WideBits
import HandS.IsInst
import HandS.EndBits
import HandS.SortInts
import HandS.Flow
import HandS.Nested
import HandS.EndTab
import HandS.More
import HandS.SetFor
import HandS.CallLocal
import HandS.Defaults
import HandS.Head0
import HandS.Head1
import HandS.Head2
import HandS.HeadEnd
import HandS.HeadHook1
import HandS.HeadHook2
import HandS.HeadHook3
import HandS.HeadHook4
import HandS.HeadWalk
import PySem.Challenge.RW_nearnames_k11_bucket_hears
set_option Elab.async false
set_option linter.all false
set_option maxRecDepth 100000
set_option maxHeartbeats 4000000
namespace Nn
open PySem L2
def nmAll (l c : Nat) : Str := if l = 68 ∧ c = 4 then (("_law_asker" : Str) ++ ".<locals>.") ++ "_law_answers" else ""
end Nn
/-! Steps through readings. -/
namespace Nn
open PySem L2
section
variable {K : PySem.W.Frag} {σ : L2.St} {H : Hp} {ta tb te tc : TE} {t u : TS} {c c' : TT} {D : Ends} {Q : VK} {x y v : V}

theorem cxK {CX : CXT} {P : Program} {w : World} {K : PySem.W.Frag} {mg : Str → Option Value} {base : Heap} {N : List Str} {q : Str} {sc : Scope} {f : Addr} {cd : Value} {A : Around} {outer : List Env} {s : Shared} {H : Hp} {E : XK} :
    (cxOf CX P w K mg base N q sc f cd A outer s H E).nox.K = K := rfl
theorem cxK' {CX : CXT} {P : Program} {w : World} {K : PySem.W.Frag} {mg : Str → Option Value} {base : Heap} {N : List Str} {q : Str} {sc : Scope} {f : Addr} {cd : Value} {A : Around} {outer : List Env} {s : Shared} {H : Hp} {E : XK} :
    (cxOf CX P w K mg base N q sc f cd A outer s H E).K = K := rfl
theorem x_seq (h : t { D with nx := u D } σ H) : tSeq t u D σ H := h
theorem x_next (h : D.nx σ H) : tNext D σ H := h
theorem x_asg {g : TG} (h : te σ H fun x H1 => g x σ H1 D.nx) : tAsg te g D σ H := h
theorem x_name {i : Nat} {R : L2.St → Hp → Prop} (h : R (σ.set i (some v)) H) : gName i v σ H R := h
theorem x_ret (h : te σ H D.rt) : tRet te D σ H := h
theorem x_retN (h : D.rt .non H) : tRetN D σ H := h
theorem x_drop (h : te σ H fun _ H1 => D.nx σ H1) : tDrop te D σ H := h
/-- the branches as they stand (not walked until the test is known) -/
def IfS (b : Bool) (t u : TS) (D : Ends) (σ : L2.St) (H : Hp) : Prop := if b = true then t D σ H else u D σ H
theorem x_ifD {p : Prop} [Decidable p] (h1 : p → t D σ H) (h2 : ¬ p → u D σ H) : IfS (decide p) t u D σ H := by
  unfold IfS
  by_cases h : p
  · rw [if_pos (decide_eq_true h)]; exact h1 h
  · rw [if_neg (by simp [h])]; exact h2 h
theorem x_ifN {p : Prop} [Decidable p] (h1 : ¬ p → t D σ H) (h2 : p → u D σ H) : IfS (!decide p) t u D σ H := by
  unfold IfS
  by_cases h : p
  · rw [if_neg (by simp [h])]; exact h2 h
  · rw [if_pos (by simp [h])]; exact h1 h
theorem x_ifB {b : Bool} (h1 : b = true → t D σ H) (h2 : b = false → u D σ H) : IfS b t u D σ H := by
  cases b with
  | true => exact h1 rfl
  | false => exact h2 rfl
theorem x_INs {α : Type} [DecidableEq α] {b : α} (h : u D σ H) : IfS (!decide (b = b)) t u D σ H := by
  rw [decide_eq_true rfl]; exact h
theorem x_IEs {α : Type} [DecidableEq α] {b : α} (h : t D σ H) : IfS (decide (b = b)) t u D σ H := by
  rw [decide_eq_true rfl]; exact h
theorem x_if {tt : TT} (h : tt σ H fun b H1 => if b = true then ta σ H1 Q else tb σ H1 Q) : tIf tt ta tb σ H Q := h
theorem x_var {i : Nat} (e : σ[i]? = some (some v)) (h : Q v H) : tVar i σ H Q := ⟨v, e, h⟩
theorem x_c (h : Q v H) : tC v σ H Q := h
theorem x_op {r : R2} (h : ta σ H fun x H1 => tb σ H1 fun y H2 => r x y H2 Q) : tOp r ta tb σ H Q := h
theorem x_un {r : V → Hp → VK → Prop} (h : ta σ H fun x H1 => r x H1 Q) : tUn r ta σ H Q := h
theorem x_cb {r : List V → Hp → VK → Prop} {ts : TA} (h : ts σ H fun vs H1 => r vs H1 Q) : tCB r ts σ H Q := h
theorem x_nil {R : List V → Hp → Prop} (h : R [] H) : tNil σ H R := h
theorem x_cons {ts : TA} {R : List V → Hp → Prop} (h : ta σ H fun x H1 => ts σ H1 fun xs H2 => R (x :: xs) H2) : tCons ta ts σ H R := h
theorem x_call {sp : Sp} {E : XK} {ts : TA} (h : ts σ H fun vs H1 => sp vs H1 Q E) : tCall sp [] E ts σ H Q := by
  unfold tCall; simpa only [List.append_nil] using h
theorem x_calld {sp : Sp} {E : XK} {ds : List V} {ts : TA} (h : ts σ H fun vs H1 => sp (vs ++ ds) H1 Q E) : tCall sp ds E ts σ H Q := h
theorem x_tup {ts : TA} (h : ts σ H fun xs H1 => xs.length ≤ sizeLine ∧ ∀ p, H1 p = none → Q (.ref p) (upd H1 p (.tup xs))) : tTup ts σ H Q := h
theorem x_lst {ts : TA} (h : ts σ H fun xs H1 => xs.length ≤ sizeLine ∧ ∀ p, H1 p = none → Q (.ref p) (upd H1 p (.lst xs))) : tLst ts σ H Q := h

theorem x_test {R : Bool → Hp → Prop} (h : te σ H fun x H' => ∃ k, x = .bl k ∧ R k H') : tTest te σ H R := h
theorem x_B {R : Bool → Hp → Prop} (h : te σ H fun x H' => ∃ k, x = .bl k ∧ R k H') : tB te σ H R := h
theorem x_bl {R : Bool → Prop} {k : Bool} (h : R k) : ∃ k', V.bl k = V.bl k' ∧ R k' := ⟨k, rfl, h⟩
theorem x_and {R : Bool → Hp → Prop} (h : c σ H fun b H1 => if b = true then c' σ H1 R else R false H1) : tAnd c c' σ H R := h
theorem x_or {R : Bool → Hp → Prop} (h : c σ H fun b H1 => if b = true then R true H1 else c' σ H1 R) : tOr c c' σ H R := h
theorem x_not {R : Bool → Hp → Prop} (h : c σ H fun b H1 => R (!b) H1) : tNot c σ H R := h
theorem x_andV (h : ta σ H fun x H1 => ∃ c, x = .bl c ∧ if c = true then tb σ H1 Q else Q (.bl false) H1) : tAndV ta tb σ H Q := h
theorem x_orV (h : ta σ H fun x H1 => ∃ c, x = .bl c ∧ if c = true then Q (.bl true) H1 else tb σ H1 Q) : tOrV ta tb σ H Q := h
theorem x_notV (h : ta σ H fun x H1 => ∃ c, x = .bl c ∧ Q (.bl (!c)) H1) : tNotV ta σ H Q := h
theorem x_chain {r r' : R2} (h : ta σ H fun x H1 => tb σ H1 fun y H2 => r x y H2 fun z H3 => ∃ k, z = .bl k ∧ if k = true then tc σ H3 fun w H4 => r' y w H4 Q else Q (.bl false) H3) : tChain r r' ta tb tc σ H Q := h

theorem x_i0 {g : Int → Int → V} {i j : Int} (h : Q (g i j) H) : rI0 g (.int i) (.int j) H Q := ⟨i, j, rfl, rfl, h⟩
theorem x_i {C : Int → Int → Prop} {g : Int → Int → V} {i j : Int} (hc : C i j) (h : Q (g i j) H) : rI C g (.int i) (.int j) H Q := ⟨i, j, rfl, rfl, hc, h⟩
theorem x_u {g : Int → V} {i : Int} (h : Q (g i) H) : rU g (.int i) H Q := ⟨i, rfl, h⟩
theorem x_eqI {i j : Int} (h : Q (.bl (decide (i = j))) H) : rEq (.int i) (.int j) H Q := ⟨rfl, by
  have e : decide (V.int i = V.int j) = decide (i = j) := by simp
  rw [e]; exact h⟩
theorem x_neI {i j : Int} (h : Q (.bl (!decide (i = j))) H) : rNe (.int i) (.int j) H Q := ⟨rfl, by
  have e : decide (V.int i = V.int j) = decide (i = j) := by simp
  rw [e]; exact h⟩
theorem x_eqB {i j : Bool} (h : Q (.bl (decide (i = j))) H) : rEq (.bl i) (.bl j) H Q := ⟨rfl, by
  have e : decide (V.bl i = V.bl j) = decide (i = j) := by simp
  rw [e]; exact h⟩
theorem x_neB {i j : Bool} (h : Q (.bl (!decide (i = j))) H) : rNe (.bl i) (.bl j) H Q := ⟨rfl, by
  have e : decide (V.bl i = V.bl j) = decide (i = j) := by simp
  rw [e]; exact h⟩
theorem x_eqS {i j : Str} (h : Q (.bl (decide (i = j))) H) : rEq (.str i) (.str j) H Q := ⟨rfl, by
  have e : decide (V.str i = V.str j) = decide (i = j) := by simp
  rw [e]; exact h⟩
theorem x_neS {i j : Str} (h : Q (.bl (!decide (i = j))) H) : rNe (.str i) (.str j) H Q := ⟨rfl, by
  have e : decide (V.str i = V.str j) = decide (i = j) := by simp
  rw [e]; exact h⟩
theorem x_eq (e : scal x y = true) (h : Q (.bl (decide (x = y))) H) : rEq x y H Q := ⟨e, h⟩
theorem x_ne (e : scal x y = true) (h : Q (.bl (!decide (x = y))) H) : rNe x y H Q := ⟨e, h⟩

theorem x_ite {p A B : Prop} [Decidable p] (h1 : p → A) (h2 : ¬ p → B) : if decide p = true then A else B := by
  by_cases h : p
  · rw [if_pos (decide_eq_true h)]; exact h1 h
  · rw [if_neg (by simp [h])]; exact h2 h
theorem x_iteN {p A B : Prop} [Decidable p] (h1 : ¬ p → A) (h2 : p → B) : if (!decide p) = true then A else B := by
  by_cases h : p
  · rw [if_neg (by simp [h])]; exact h2 h
  · rw [if_pos (by simp [h])]; exact h1 h
theorem x_iteB {b : Bool} {A B : Prop} (h1 : b = true → A) (h2 : b = false → B) : if b = true then A else B := by
  cases b with
  | true => rw [if_pos rfl]; exact h1 rfl
  | false => rw [if_neg Bool.false_ne_true]; exact h2 rfl
theorem x_NEs {α : Type} [DecidableEq α] {b : α} {A B : Prop} (h : B) : if (!decide (b = b)) = true then A else B := by
  rw [decide_eq_true rfl]; exact iteF h
theorem x_Es {α : Type} [DecidableEq α] {b : α} {A B : Prop} (h : A) : if decide (b = b) = true then A else B := by
  rw [decide_eq_true rfl]; exact iteT h
theorem x_T {A B : Prop} (h : A) : if true = true then A else B := iteT h
theorem x_F {A B : Prop} (h : B) : if false = true then A else B := iteF h
theorem x_NT {A B : Prop} (h : B) : if (!true) = true then A else B := iteF h
theorem x_NF {A B : Prop} (h : A) : if (!false) = true then A else B := iteT h

/-! the built-ins' readings -/
theorem x_ixL {p : Addr} {xs : List V} {i : Int} (hS : SqL K H p xs) (e : atI xs i = some v) (h : Q v H) : rIxL K (.ref p) (.int i) H Q := ⟨p, xs, i, v, rfl, rfl, hS, e, h⟩
theorem x_ixT {p : Addr} {xs : List V} {i : Int} (hS : SqT K H p xs) (e : atI xs i = some v) (h : Q v H) : rIxT K (.ref p) (.int i) H Q := ⟨p, xs, i, v, rfl, rfl, hS, e, h⟩
def rAbs : List V → Hp → VK → Prop := fun xs H Q => ∃ i, xs = [.int i] ∧ Q (.int (if i < 0 then -i else i)) H
def rMin2 : List V → Hp → VK → Prop := fun xs H Q => ∃ i j, xs = [.int i, .int j] ∧ Q (.int (if j < i then j else i)) H
def rMax2 : List V → Hp → VK → Prop := fun xs H Q => ∃ i j, xs = [.int i, .int j] ∧ Q (.int (if j > i then j else i)) H
def rLenS (K : PySem.W.Frag) : List V → Hp → VK → Prop := fun xs H Q => ∃ p ys, xs = [.ref p] ∧ (SqL K H p ys ∨ SqT K H p ys) ∧ Q (.int ys.length) H
def rLenD : List V → Hp → VK → Prop := fun xs H Q => ∃ a kvs, xs = [V.ref a] ∧ H a = some (.dK kvs) ∧ Q (.int kvs.length) H
def rLenStr : List V → Hp → VK → Prop := fun xs H Q => ∃ z : Str, xs = [.str z] ∧ z.length ≤ sizeLine ∧ Q (.int z.length) H
def rInt1 : List V → Hp → VK → Prop := fun xs H Q => (∃ i, xs = [.int i] ∧ Q (.int i) H) ∨ ∃ k, xs = [.bl k] ∧ Q (.int (if k then 1 else 0)) H
def rListOf (K : PySem.W.Frag) : List V → Hp → VK → Prop := fun xs H Q => ∃ p ys, xs = [.ref p] ∧ (SqL K H p ys ∨ SqT K H p ys) ∧ ∀ l, H l = none → Q (.ref l) (upd H l (.lst ys))
theorem cb_abs {X : Cx} : CallR X (.builtin "abs") rAbs := call_abs
theorem cb_min2 {X : Cx} (hc : X.calm = true) : CallR X (.builtin "min") rMin2 := call_min2 hc
theorem cb_max2 {X : Cx} (hc : X.calm = true) : CallR X (.builtin "max") rMax2 := call_max2 hc
theorem cb_len {X : Cx} : CallR X (.builtin "len") (rLenS X.K) := call_len_seq
theorem cb_lenD {X : Cx} : CallR X (.builtin "len") rLenD := call_lenD
theorem cb_lenStr {X : Cx} : CallR X (.builtin "len") rLenStr := call_len_str
theorem cb_int {X : Cx} : CallR X (.type "int") rInt1 := call_int1
theorem cb_list {X : Cx} : CallR X (.type "list") (rListOf X.K) := call_list_of
theorem x_abs {i : Int} (h : Q (.int (i.natAbs : Int)) H) : rAbs [.int i] H Q :=
  ⟨i, rfl, by
    have e : (if i < 0 then -i else i) = (i.natAbs : Int) := by split <;> omega
    rw [e]; exact h⟩
theorem x_min2 {i j : Int} (h : Q (.int (min i j)) H) : rMin2 [.int i, .int j] H Q :=
  ⟨i, j, rfl, by
    have e : (if j < i then j else i) = min i j := by split <;> omega
    rw [e]; exact h⟩
theorem x_max2 {i j : Int} (h : Q (.int (max i j)) H) : rMax2 [.int i, .int j] H Q :=
  ⟨i, j, rfl, by
    have e : (if j > i then j else i) = max i j := by split <;> omega
    rw [e]; exact h⟩
theorem x_lenL {p : Addr} {ys : List V} (hS : SqL K H p ys) (h : Q (.int ys.length) H) : rLenS K [.ref p] H Q := ⟨p, ys, rfl, .inl hS, h⟩
theorem x_lenT {p : Addr} {ys : List V} (hS : SqT K H p ys) (h : Q (.int ys.length) H) : rLenS K [.ref p] H Q := ⟨p, ys, rfl, .inr hS, h⟩
theorem x_lenD {p : Addr} {kvs : List (Key × V)} (hS : H p = some (.dK kvs)) (h : Q (.int kvs.length) H) : rLenD [.ref p] H Q := ⟨p, kvs, rfl, hS, h⟩
theorem x_intI {i : Int} (h : Q (.int i) H) : rInt1 [.int i] H Q := .inl ⟨i, rfl, h⟩
theorem x_intB {b : Bool} (h : Q (.int (if b then 1 else 0)) H) : rInt1 [.bl b] H Q := .inr ⟨b, rfl, h⟩
theorem x_listL {p : Addr} {ys : List V} (hS : SqL K H p ys) (h : ∀ l, H l = none → Q (.ref l) (upd H l (.lst ys))) : rListOf K [.ref p] H Q := ⟨p, ys, rfl, .inl hS, h⟩
theorem x_sum {a : Addr} {ns : List Int} (hS : SqL K H a (ns.map V.int)) (h : Q (.int ns.sum) H) : rSum K [.ref a] H Q := ⟨a, ns, rfl, hS, h⟩
/-- isinstance of plain values, against built-in types -/
theorem x_isi {c : V} {t u : Value} {b : Bool} (k : ClsV c u) (ty : TyX K H x t) (e : PySem.W.kitOne K t u = some b) (h : Q (.bl b) H) : rIsi K [x, c] H Q := ⟨x, c, t, u, b, rfl, k, ty, e, h⟩
theorem x_isG {vs : List V} (h : rIsi K vs H Q) : rIsi K vs H Q := h
theorem x_isI_int {i : Int} (h : Q (.bl true) H) : rIsi K [.int i, .ty "int"] H Q := x_isi (.ty "int") (.base (.int i)) (kit_ty (by decide +kernel)) h
theorem x_isI_bool {i : Int} (h : Q (.bl false) H) : rIsi K [.int i, .ty "bool"] H Q := x_isi (.ty "bool") (.base (.int i)) (kit_ty (by decide +kernel)) h
theorem x_isI_str {i : Int} (h : Q (.bl false) H) : rIsi K [.int i, .ty "str"] H Q := x_isi (.ty "str") (.base (.int i)) (kit_ty (by decide +kernel)) h
theorem x_isB_int {c : Bool} (h : Q (.bl true) H) : rIsi K [.bl c, .ty "int"] H Q := x_isi (.ty "int") (.base (.bl c)) (kit_ty (by decide +kernel)) h
theorem x_isB_bool {c : Bool} (h : Q (.bl true) H) : rIsi K [.bl c, .ty "bool"] H Q := x_isi (.ty "bool") (.base (.bl c)) (kit_ty (by decide +kernel)) h
theorem x_isB_str {c : Bool} (h : Q (.bl false) H) : rIsi K [.bl c, .ty "str"] H Q := x_isi (.ty "str") (.base (.bl c)) (kit_ty (by decide +kernel)) h
theorem x_isS_int {z : Str} (h : Q (.bl false) H) : rIsi K [.str z, .ty "int"] H Q := x_isi (.ty "int") (.base (.str z)) (kit_ty (by decide +kernel)) h
theorem x_isS_bool {z : Str} (h : Q (.bl false) H) : rIsi K [.str z, .ty "bool"] H Q := x_isi (.ty "bool") (.base (.str z)) (kit_ty (by decide +kernel)) h
theorem x_isS_str {z : Str} (h : Q (.bl true) H) : rIsi K [.str z, .ty "str"] H Q := x_isi (.ty "str") (.base (.str z)) (kit_ty (by decide +kernel)) h
theorem x_isN_int  (h : Q (.bl false) H) : rIsi K [.non, .ty "int"] H Q := x_isi (.ty "int") (.base .non) (kit_ty (by decide +kernel)) h
theorem x_isN_bool  (h : Q (.bl false) H) : rIsi K [.non, .ty "bool"] H Q := x_isi (.ty "bool") (.base .non) (kit_ty (by decide +kernel)) h
theorem x_isN_str  (h : Q (.bl false) H) : rIsi K [.non, .ty "str"] H Q := x_isi (.ty "str") (.base .non) (kit_ty (by decide +kernel)) h
theorem x_isL_int {a : Addr} {xs : List V} (ha : H a = some (.lst xs)) (h : Q (.bl false) H) : rIsi K [.ref a, .ty "int"] H Q := x_isi (.ty "int") (.base (.lst ha)) (kit_ty (by decide +kernel)) h
theorem x_isL_list {a : Addr} {xs : List V} (ha : H a = some (.lst xs)) (h : Q (.bl true) H) : rIsi K [.ref a, .ty "list"] H Q := x_isi (.ty "list") (.base (.lst ha)) (kit_ty (by decide +kernel)) h
theorem x_isL_tuple {a : Addr} {xs : List V} (ha : H a = some (.lst xs)) (h : Q (.bl false) H) : rIsi K [.ref a, .ty "tuple"] H Q := x_isi (.ty "tuple") (.base (.lst ha)) (kit_ty (by decide +kernel)) h
theorem x_isT_int {a : Addr} {xs : List V} (ha : H a = some (.tup xs)) (h : Q (.bl false) H) : rIsi K [.ref a, .ty "int"] H Q := x_isi (.ty "int") (.base (.tup ha)) (kit_ty (by decide +kernel)) h
theorem x_isT_list {a : Addr} {xs : List V} (ha : H a = some (.tup xs)) (h : Q (.bl false) H) : rIsi K [.ref a, .ty "list"] H Q := x_isi (.ty "list") (.base (.tup ha)) (kit_ty (by decide +kernel)) h
theorem x_isT_tuple {a : Addr} {xs : List V} (ha : H a = some (.tup xs)) (h : Q (.bl true) H) : rIsi K [.ref a, .ty "tuple"] H Q := x_isi (.ty "tuple") (.base (.tup ha)) (kit_ty (by decide +kernel)) h
theorem x_isD_int {a : Addr} {kvs : List (Key × V)} (ha : H a = some (.dK kvs)) (h : Q (.bl false) H) : rIsi K [.ref a, .ty "int"] H Q := x_isi (.ty "int") (.base (.dK ha)) (kit_ty (by decide +kernel)) h
theorem x_isD_list {a : Addr} {kvs : List (Key × V)} (ha : H a = some (.dK kvs)) (h : Q (.bl false) H) : rIsi K [.ref a, .ty "list"] H Q := x_isi (.ty "list") (.base (.dK ha)) (kit_ty (by decide +kernel)) h
theorem x_isD_tuple {a : Addr} {kvs : List (Key × V)} (ha : H a = some (.dK kvs)) (h : Q (.bl false) H) : rIsi K [.ref a, .ty "tuple"] H Q := x_isi (.ty "tuple") (.base (.dK ha)) (kit_ty (by decide +kernel)) h

/-! heaps that grow -/
/-- no table of code objects (these grow where a def is made within a def) -/
def NT : HO → Prop | .tbl _ => False | _ => True
/-- no table, nothing told by its object -/
def NX : HO → Prop | .tbl _ => False | .ext _ => False | _ => True
theorem NX.nt {o : HO} (h : NX o) : NT o := by cases o <;> first | trivial | exact h
/-- all but what S names stays; tables stay tables; nothing is lost -/
structure Fr (S : Addr → Prop) (H H' : Hp) : Prop where
  keep : ∀ a o, H a = some o → NT o → ¬ S a → H' a = some o
  tab : ∀ P, NdefX.TabN H P nmAll → NdefX.TabN H' P nmAll
  back : ∀ a, H' a = none → H a = none
abbrev Ex (H H' : Hp) : Prop := Fr (fun _ => False) H H'
theorem atI_hd {x : V} {r : List V} : atI (x :: r) 0 = some x := atI_nat (xs := x :: r) (j := 0) rfl
theorem at_new {H : Hp} {p a : Addr} {o u : HO} (h : H p = none) (k : H a = some u) : upd H p o a = some u := by rw [upd_ne (ne_of_none k h)]; exact k
theorem at_upd {H : Hp} {p a : Addr} {o u v : HO} (h : H p = some v) (k : H a = some u) (d : v ≠ u) : upd H p o a = some u := by rw [upd_ne (ne_of k h (Ne.symm d))]; exact k
theorem Ex.at {H H' : Hp} {a : Addr} {o : HO} (e : Ex H H') (h : H a = some o) (n : NT o := by trivial) : H' a = some o := e.keep a o h n id
theorem Fr.at {S : Addr → Prop} {H H' : Hp} {a : Addr} {o : HO} (e : Fr S H H') (h : H a = some o) (hs : ¬ S a) (n : NT o := by trivial) : H' a = some o := e.keep a o h n hs
theorem Fr.refl {S : Addr → Prop} {H : Hp} : Fr S H H := ⟨fun _ _ h _ _ => h, fun _ h => h, fun _ h => h⟩
theorem Ex.refl {H : Hp} : Ex H H := Fr.refl
theorem Ex.trans {H H1 H2 : Hp} (a : Ex H H1) (b : Ex H1 H2) : Ex H H2 := ⟨fun x o h n _ => b.at (a.at h n) n, fun P h => b.tab P (a.tab P h), fun x h => a.back x (b.back x h)⟩
theorem Fr.trans {S : Addr → Prop} {H H1 H2 : Hp} (a : Fr S H H1) (b : Fr S H1 H2) : Fr S H H2 := ⟨fun x o h n s => b.keep x o (a.keep x o h n s) n s, fun P h => b.tab P (a.tab P h), fun x h => a.back x (b.back x h)⟩
theorem Fr.mono {S S' : Addr → Prop} {H H1 : Hp} (a : Fr S H H1) (h : ∀ x, S x → S' x) : Fr S' H H1 := ⟨fun x o e n s => a.keep x o e n fun z => s (h x z), a.tab, a.back⟩
theorem Ex.fr {S : Addr → Prop} {H H1 : Hp} (a : Ex H H1) : Fr S H H1 := Fr.mono a fun _ z => z.elim
/-- of what S names, all is newer than H -/
theorem Fr.ex {S : Addr → Prop} {H H0 H1 : Hp} (a : Fr S H H1) (e : Ex H0 H) (h : ∀ x, S x → H0 x = none) : Ex H0 H1 :=
  ⟨fun x o q n _ => a.keep x o (e.at q n) n fun z => (by rw [h x z] at q; cases q), fun P q => a.tab P (e.tab P q), fun x q => e.back x (a.back x q)⟩
theorem upd_back {H : Hp} {p x : Addr} {o : HO} (h : upd H p o x = none) : H x = none := by
  unfold upd at h
  split at h
  · cases h
  · exact h
theorem Ex.new {H : Hp} {p : Addr} {o : HO} (h : H p = none) : Ex H (upd H p o) :=
  ⟨fun a u e _ _ => by rw [upd_ne (ne_of_none e h)]; exact e, fun P t => t.ext fun b u e => by rw [upd_ne (ne_of_none e h)]; exact e, fun _ z => upd_back z⟩
theorem Ex.newT {H H1 : Hp} {p : Addr} {o : HO} (a : Ex H H1) (h : H1 p = none) : Ex H (upd H1 p o) := a.trans (Ex.new h)
/-- one object is changed -/
theorem Fr.upd1 {H : Hp} {p : Addr} {o u : HO} (h : H p = some u) (hu : NX u := by trivial) : Fr (fun a => a = p) H (upd H p o) :=
  ⟨fun a v e _ s => by rw [upd_ne s]; exact e, fun P ⟨ps, h1, h2, h3⟩ => by
    have nP : P ≠ p := fun z => by rw [z, h] at h1; cases h1; exact hu
    refine ⟨ps, by rw [upd_ne nP]; exact h1, h2, fun pos cv hc => ?_⟩
    obtain ⟨c, e1, e2⟩ := h3 pos cv hc
    have nc : c ≠ p := fun z => by
      rw [z, h] at e2
      have e2 := Option.some.inj e2
      rw [e2] at hu
      exact hu
    exact ⟨c, e1, by rw [upd_ne nc]; exact e2⟩, fun _ z => upd_back z⟩
/-- an object that H does not know may change -/
theorem Ex.mut {H H' : Hp} {p : Addr} {o u : HO} (e : Ex H H') (h : H p = none) (h' : H' p = some u) (hu : NX u := by trivial) : Ex H (upd H' p o) :=
  (Fr.upd1 h' hu).ex e fun x z => by rw [z]; exact h
theorem Ex.ls {H H' : Hp} {a : Addr} {xs : List V} (e : Ex H H') (h : SqL K H a xs) : SqL K H' a xs := by
  rcases h with (h | ⟨o, h⟩) | h
  · exact .inl (.inl (e.at h))
  · exact .inl (.inr ⟨o, e.at h⟩)
  · exact .inr h
theorem Ex.tu {H H' : Hp} {a : Addr} {xs : List V} (e : Ex H H') (h : SqT K H a xs) : SqT K H' a xs := by
  rcases h with (h | ⟨o, h⟩) | h
  · exact .inl (.inl (e.at h))
  · exact .inl (.inr ⟨o, e.at h⟩)
  · exact .inr h

/-! loops -/
def ForW (g : TG) (tb : TS) (D : Ends) (J : It) (σ : L2.St) (H : Hp) : Prop := ∃ W : Nat → Nat → L2.St → Hp → Prop, (∃ m, W 0 m σ H) ∧ ∀ i m σ H, W i m σ H →
  (J.stop i H ∧ D.nx σ H) ∨ (J.go i H ∧ ∃ N : L2.St → Hp → Prop, (∀ σ' H', N σ' H' → ∃ m', m' < m ∧ W (i + 1) m' σ' H') ∧ ∀ x H', J.yld i H x H' → g x σ H' fun σ2 H2 => tb { D with nx := N, ct := N, bk := D.nx } σ2 H2)
theorem x_for {wi : TI} {g : TG} {tb : TS} (h : wi σ H fun J H1 => ForW g tb D J σ H1) : tFor wi g tb D σ H := h
theorem ForW.by {J : It} {n : Nat} {G : Hp → Prop} {Y : Nat → Hp → V → Hp → Prop} (w : Walk J n G Y) {g : TG} {tb : TS} (Pv : Nat → L2.St → Hp → Prop) (h0 : Pv 0 σ H) (hG : ∀ i σ H, i ≤ n → Pv i σ H → G H)
    (hs : ∀ i x σ H H', i < n → Pv i σ H → Y i H x H' → g x σ H' fun σ2 H2 => tb { D with nx := Pv (i + 1), ct := Pv (i + 1), bk := D.nx } σ2 H2) (hd : ∀ σ H, Pv n σ H → D.nx σ H) : ForW g tb D J σ H :=
  for_it w Pv h0 hG hs hd
def Rg1 (R : It → Hp → Prop) : List V → Hp → Prop := fun vs H1 => ∃ j : Int, vs = [.int j] ∧ -(2 ^ 62) ≤ j ∧ j < 2 ^ 62 ∧ R (Itr 0 j.toNat) H1
def Rg2 (R : It → Hp → Prop) : List V → Hp → Prop := fun vs H1 => ∃ i j : Int, vs = [.int i, .int j] ∧ (-(2 ^ 62) ≤ i ∧ i < 2 ^ 62 ∧ -(2 ^ 62) ≤ j ∧ j < 2 ^ 62) ∧ R (Itr i (j - i).toNat) H1
def RiL (K : PySem.W.Frag) (R : It → Hp → Prop) : VK := fun x H1 => ∃ a, x = .ref a ∧ (∃ xs, SqL K H1 a xs) ∧ R (Itl K a) H1
def RiT (K : PySem.W.Frag) (R : It → Hp → Prop) : VK := fun x H1 => ∃ a, x = .ref a ∧ (∃ xs, SqT K H1 a xs) ∧ R (Itt K a) H1
def RiE (K : PySem.W.Frag) (R : It → Hp → Prop) : List V → Hp → Prop := fun vs H1 => ∃ a xs, vs = [.ref a] ∧ SqL K H1 a xs ∧ R (Ite K a) H1
def RiZ (K : PySem.W.Frag) (R : It → Hp → Prop) : List V → Hp → Prop := fun vs H1 => ∃ a b xs ys, vs = [.ref a, .ref b] ∧ SqL K H1 a xs ∧ SqL K H1 b ys ∧ R (Itz K a b) H1
theorem x_rng1 {ts : TA} {R : It → Hp → Prop} (h : ts σ H (Rg1 R)) : iRng1 ts σ H R := h
theorem x_rng2 {ts : TA} {R : It → Hp → Prop} (h : ts σ H (Rg2 R)) : iRng2 ts σ H R := h
theorem x_rgN {m : Nat} {R : It → Hp → Prop} (hm : (m : Int) < 2 ^ 62) (h : R (Itr 0 m) H) : Rg1 R [V.int (m : Int)] H :=
  ⟨m, rfl, by omega, hm, by rw [Int.toNat_natCast]; exact h⟩
theorem walk_rgN {n : Nat} : Walk (Itr 0 n) n (fun _ => True) (YFn fun i => .int i) :=
  ⟨fun _ _ hi _ => hi, fun _ _ => Nat.le_refl _, fun _ _ _ _ _ _ y => ⟨y.1, by rw [y.2]; simp⟩⟩
theorem x_iList {R : It → Hp → Prop} (h : ta σ H (RiL K R)) : iList K ta σ H R := h
theorem x_iTup {R : It → Hp → Prop} (h : ta σ H (RiT K R)) : iTup K ta σ H R := h
theorem x_itL {a : Addr} {xs : List V} {R : It → Hp → Prop} (hS : SqL K H a xs) (h : R (Itl K a) H) : RiL K R (.ref a) H := ⟨a, rfl, ⟨xs, hS⟩, h⟩
theorem x_itT {a : Addr} {xs : List V} {R : It → Hp → Prop} (hS : SqT K H a xs) (h : R (Itt K a) H) : RiT K R (.ref a) H := ⟨a, rfl, ⟨xs, hS⟩, h⟩
theorem x_iEnum {ts : TA} {R : It → Hp → Prop} (h : ts σ H (RiE K R)) : iEnum K ts σ H R := h
theorem x_enL {a : Addr} {xs : List V} {R : It → Hp → Prop} (hS : SqL K H a xs) (h : R (Ite K a) H) : RiE K R [.ref a] H := ⟨a, xs, rfl, hS, h⟩
theorem x_iZip {ts : TA} {R : It → Hp → Prop} (h : ts σ H (RiZ K R)) : iZip K ts σ H R := h
theorem x_ziL {a b : Addr} {xs ys : List V} {R : It → Hp → Prop} (hS : SqL K H a xs) (hS2 : SqL K H b ys) (h : R (Itz K a b) H) : RiZ K R [.ref a, .ref b] H := ⟨a, b, xs, ys, rfl, hS, hS2, h⟩
theorem x_gTup {n : Nat} {gs : TGs} {R : L2.St → Hp → Prop} {a : Addr} {xs : List V} (hT : SqT K H a xs) (hl : xs.length = n) (h : gs xs σ H R) : gTup K n gs (.ref a) σ H R := ⟨a, xs, rfl, hT, hl, h⟩
theorem x_gCons {g : TG} {gs : TGs} {R : L2.St → Hp → Prop} {xs : List V} (h : g v σ H fun σ' H' => gs xs σ' H' R) : gCons g gs (v :: xs) σ H R := ⟨v, xs, rfl, h⟩
theorem x_gNil {R : L2.St → Hp → Prop} (h : R σ H) : gNil [] σ H R := ⟨rfl, h⟩
/-- a while's turn, or its end -/
def WhS (W : Nat → L2.St → Hp → Prop) (m : Nat) (t : TS) (D : Ends) (b : Bool) (σ : L2.St) (H : Hp) : Prop :=
  if b = true then ∃ N : L2.St → Hp → Prop, (∀ σ' H', N σ' H' → ∃ m', m' < m ∧ W m' σ' H') ∧ t { D with nx := N, ct := N, bk := D.nx } σ H else D.nx σ H
def Less (W : Nat → L2.St → Hp → Prop) (m : Nat) (σ' : L2.St) (H' : Hp) : Prop := ∃ m', m' < m ∧ W m' σ' H'
theorem x_while {W : Nat → L2.St → Hp → Prop} {m : Nat} (h0 : W m σ H) (hs : ∀ m σ H, W m σ H → c σ H fun b H1 => WhS W m t D b σ H1) : tWhile c t D σ H :=
  ⟨W, ⟨m, h0⟩, hs⟩
theorem x_whT {W : Nat → L2.St → Hp → Prop} {m : Nat} (h : t { D with nx := Less W m, ct := Less W m, bk := D.nx } σ H) : WhS W m t D true σ H := by
  unfold WhS; rw [if_pos rfl]; exact ⟨_, fun _ _ h => h, h⟩
theorem x_whF {W : Nat → L2.St → Hp → Prop} {m : Nat} (h : D.nx σ H) : WhS W m t D false σ H := by
  unfold WhS; rw [if_neg Bool.false_ne_true]; exact h
theorem x_whD {W : Nat → L2.St → Hp → Prop} {m : Nat} {p : Prop} [Decidable p] (h1 : p → t { D with nx := Less W m, ct := Less W m, bk := D.nx } σ H) (h2 : ¬ p → D.nx σ H) : WhS W m t D (decide p) σ H := by
  by_cases h : p
  · rw [decide_eq_true h]; exact x_whT (h1 h)
  · rw [decide_eq_false h]; exact x_whF (h2 h)
/-- what follows a statement is shown once, from Mid -/
theorem x_cut (Mid : L2.St → Hp → Prop) (h : t { D with nx := Mid } σ H) (k : ∀ σ' H', Mid σ' H' → u D σ' H') : C8.tCut t u D σ H := ⟨Mid, h, k⟩
theorem x_aug {i : Nat} {ti : TIp} (e : σ[i]? = some (some x)) (h : te σ H fun y H1 => ti x y H1 fun z H2 => D.nx (σ.set i (some z)) H2) : tAug i te ti D σ H := ⟨x, e, h⟩

/-! methods of lists -/
theorem x_bm {T : String} {r : V → List V → Hp → VK → Prop} {ts : TA} (h : ta σ H fun x H1 => tyV K T x H1 ∧ ts σ H1 fun xs H2 => r x xs H2 Q) : tBM K T r ta ts σ H Q := h
theorem x_bm0 {T : String} {r : V → List V → Hp → VK → Prop} (h : ta σ H fun x H1 => tyV K T x H1 ∧ r x [] H1 Q) : tBM0 K T r ta σ H Q := h
theorem x_tyL {p : Addr} {xs : List V} {R : Prop} (hS : SqL K H p xs) (h : R) : tyV K "list" (.ref p) H ∧ R := ⟨.inl ⟨rfl, xs, hS⟩, h⟩
theorem x_append {l : Addr} {xs : List V} (hl : H l = some (.lst xs)) (hz : xs.length < sizeLine) (h : Q .non (upd H l (.lst (xs ++ [y])))) : rAppend (.ref l) [y] H Q := ⟨l, xs, y, rfl, rfl, hl, hz, h⟩

/-! operators of our own -/
theorem opr_imp {X : Cx} {f : Value → Value → Sem Value} {r r' : R2} (h : OpR X f r) (hi : ∀ x y H Q, r' x y H Q → r x y H Q) : OpR X f r' :=
  fun pins s σ H x y v u Q I rx ry hw => h pins s σ H x y v u Q I rx ry (hi x y H Q hw)
def rShl1 : R2 := fun x y H Q => ∃ k : Nat, x = .int 1 ∧ y = .int (k : Int) ∧ k ≤ 134217727 ∧ Q (.int ((2 ^ k : Nat) : Int)) H
theorem op_shl1 {X : Cx} : OpR X (binaryOp .LShift) rShl1 := opr_imp op_oneShl fun x y H Q ⟨k, h1, h2, h3, q⟩ => ⟨k, h1, h2, h3, by
  have e : ((2 ^ k : Nat) : Int) = 2 ^ k := by simp
  rw [← e]; exact q⟩
theorem x_shl1 {j : Int} {k : Nat} (hj : j = k) (hk : k ≤ 134217727) (h : Q (.int ((2 ^ k : Nat) : Int)) H) : rShl1 (.int 1) (.int j) H Q := ⟨k, rfl, by rw [hj], hk, h⟩
def rShrN : R2 := fun x y H Q => ∃ n k : Nat, x = .int n ∧ y = .int k ∧ Q (.int ((n / 2 ^ k : Nat) : Int)) H
def rShlN : R2 := fun x y H Q => ∃ n k : Nat, x = .int n ∧ y = .int k ∧ n < 2 ^ 64 ∧ k ≤ 1000000 ∧ Q (.int ((n * 2 ^ k : Nat) : Int)) H
def rXorN : R2 := fun x y H Q => ∃ n k : Nat, x = .int n ∧ y = .int k ∧ Q (.int ((n ^^^ k : Nat) : Int)) H
theorem op_shrN' {X : Cx} : OpR X (binaryOp .RShift) rShrN := opr_imp op_shr fun x y H Q ⟨n, k, h1, h2, q⟩ => ⟨n, k, h1, h2, by omega, by
  have e : ((n / 2 ^ k : Nat) : Int) = (n : Int) / 2 ^ (k : Int).toNat := by simp
  show Q (.int ((n : Int) / 2 ^ (k : Int).toNat)) H
  rw [← e]; exact q⟩
theorem op_shlN' {X : Cx} : OpR X (binaryOp .LShift) rShlN := opr_imp op_shl fun x y H Q ⟨n, k, h1, h2, h3, h4, q⟩ => ⟨n, k, h1, h2, ⟨by omega, by omega, by omega⟩, by
  have e : ((n * 2 ^ k : Nat) : Int) = (n : Int) * 2 ^ (k : Int).toNat := by simp
  show Q (.int ((n : Int) * 2 ^ (k : Int).toNat)) H
  rw [← e]; exact q⟩
theorem op_xorN {X : Cx} : OpR X (binaryOp .BitXor) rXorN := opr_imp op_xor fun x y H Q ⟨n, k, h1, h2, q⟩ => ⟨n, k, h1, h2, by
  show Q (.int (Builtin.bitXor n k)) H
  rw [Bits.bitXor_pp (Int.natCast_nonneg _) (Int.natCast_nonneg _)]; exact q⟩
theorem x_shrN {i j : Int} {n k : Nat} (hi : i = n) (hj : j = k) (h : Q (.int ((n / 2 ^ k : Nat) : Int)) H) : rShrN (.int i) (.int j) H Q := ⟨n, k, by rw [hi], by rw [hj], h⟩
theorem x_shlN {i j : Int} {n k : Nat} (hi : i = n) (hj : j = k) (hn : n < 2 ^ 64) (hk : k ≤ 1000000) (h : Q (.int ((n * 2 ^ k : Nat) : Int)) H) : rShlN (.int i) (.int j) H Q := ⟨n, k, by rw [hi], by rw [hj], hn, hk, h⟩
theorem x_xorN {i j : Int} {n k : Nat} (hi : i = n) (hj : j = k) (h : Q (.int ((n ^^^ k : Nat) : Int)) H) : rXorN (.int i) (.int j) H Q := ⟨n, k, by rw [hi], by rw [hj], h⟩
def rBits (Q : VK) : VK := fun x H1 => ∃ i, x = .int i ∧ Q (.int (Builtin.Int.intBits i : Nat)) H1
theorem e_bits : tBits ta σ H Q = ta σ H (rBits Q) := rfl
theorem x_bits {n : Nat} (h : Q (.int ((if n = 0 then 0 else n.log2 + 1 : Nat) : Int)) H) : rBits Q (.int (n : Int)) H := ⟨n, rfl, by
  have e : Builtin.Int.intBits (n : Int) = if n = 0 then 0 else n.log2 + 1 := by unfold Builtin.Int.intBits; simp
  rw [e]; exact h⟩
theorem two_pos {k : Nat} : (0 : Int) < ((2 ^ k : Nat) : Int) := by
  have := Nat.two_pow_pos k
  omega
theorem mod_two_lt {z : Int} {k : Nat} : ∃ r : Nat, r < 2 ^ k ∧ z % ((2 ^ k : Nat) : Int) = r := by
  have h0 := two_pos (k := k)
  have h1 := Int.emod_nonneg z (Int.ne_of_gt h0)
  have h2 := Int.emod_lt_of_pos z h0
  exact ⟨(z % ((2 ^ k : Nat) : Int)).toNat, by omega, by omega⟩
theorem div_two_cast {k : Nat} (z : Int) : z / 2 ^ (k : Int).toNat = z / ((2 ^ k : Nat) : Int) := by simp

/-! the definitional ones as equations, for dsimp -/
section
variable {K : PySem.W.Frag} {σ : L2.St} {H : Hp} {ta tb te tc : TE} {t u : TS} {c c' : TT} {D : Ends} {Q : VK} {x y v : V} {o : Option V}
theorem e_seq : tSeq t u D σ H = t { D with nx := u D } σ H := rfl
theorem e_next : tNext D σ H = D.nx σ H := rfl
theorem e_asg {g : TG} : tAsg te g D σ H = te σ H fun x H1 => g x σ H1 D.nx := rfl
theorem e_name {i : Nat} {R : L2.St → Hp → Prop} : gName i v σ H R = R (σ.set i (some v)) H := rfl
theorem e_ret : tRet te D σ H = te σ H D.rt := rfl
theorem e_retN : tRetN D σ H = D.rt .non H := rfl
theorem e_drop : tDrop te D σ H = te σ H fun _ H1 => D.nx σ H1 := rfl
theorem e_ifS : tIfS c t u D σ H = c σ H fun b H1 => IfS b t u D σ H1 := rfl
theorem e_IT : IfS true t u D σ H = t D σ H := rfl
theorem e_IF : IfS false t u D σ H = u D σ H := rfl
theorem e_INT : IfS (!true) t u D σ H = u D σ H := rfl
theorem e_INF : IfS (!false) t u D σ H = t D σ H := rfl
theorem e_if {tt : TT} : tIf tt ta tb σ H Q = tt σ H fun b H1 => if b = true then ta σ H1 Q else tb σ H1 Q := rfl
theorem e_varS {i : Nat} : tVar (i + 1) (o :: σ) H Q = tVar i σ H Q := rfl
theorem e_c : tC v σ H Q = Q v H := rfl
theorem e_op {r : R2} : tOp r ta tb σ H Q = ta σ H fun x H1 => tb σ H1 fun y H2 => r x y H2 Q := rfl
theorem e_un {r : V → Hp → VK → Prop} : tUn r ta σ H Q = ta σ H fun x H1 => r x H1 Q := rfl
theorem e_cb {r : List V → Hp → VK → Prop} {ts : TA} : tCB r ts σ H Q = ts σ H fun vs H1 => r vs H1 Q := rfl
theorem e_nil {R : List V → Hp → Prop} : tNil σ H R = R [] H := rfl
theorem e_cons {ts : TA} {R : List V → Hp → Prop} : tCons ta ts σ H R = ta σ H fun x H1 => ts σ H1 fun xs H2 => R (x :: xs) H2 := rfl
theorem e_test {R : Bool → Hp → Prop} : tTest te σ H R = te σ H fun x H' => ∃ k, x = .bl k ∧ R k H' := rfl
theorem e_B {R : Bool → Hp → Prop} : tB te σ H R = te σ H fun x H' => ∃ k, x = .bl k ∧ R k H' := rfl
theorem e_and {R : Bool → Hp → Prop} : tAnd c c' σ H R = c σ H fun b H1 => if b = true then c' σ H1 R else R false H1 := rfl
theorem e_or {R : Bool → Hp → Prop} : tOr c c' σ H R = c σ H fun b H1 => if b = true then R true H1 else c' σ H1 R := rfl
theorem e_not {R : Bool → Hp → Prop} : tNot c σ H R = c σ H fun b H1 => R (!b) H1 := rfl
theorem e_andV : tAndV ta tb σ H Q = ta σ H fun x H1 => ∃ c, x = .bl c ∧ if c = true then tb σ H1 Q else Q (.bl false) H1 := rfl
theorem e_orV : tOrV ta tb σ H Q = ta σ H fun x H1 => ∃ c, x = .bl c ∧ if c = true then Q (.bl true) H1 else tb σ H1 Q := rfl
theorem e_notV : tNotV ta σ H Q = ta σ H fun x H1 => ∃ c, x = .bl c ∧ Q (.bl (!c)) H1 := rfl
theorem e_chain {r r' : R2} : tChain r r' ta tb tc σ H Q = ta σ H fun x H1 => tb σ H1 fun y H2 => r x y H2 fun z H3 => ∃ k, z = .bl k ∧ if k = true then tc σ H3 fun w H4 => r' y w H4 Q else Q (.bl false) H3 := rfl
theorem e_for {wi : TI} {g : TG} {tb : TS} : tFor wi g tb D σ H = wi σ H fun J H1 => ForW g tb D J σ H1 := rfl
theorem e_rng1 {ts : TA} {R : It → Hp → Prop} : iRng1 ts σ H R = ts σ H (Rg1 R) := rfl
theorem e_rng2 {ts : TA} {R : It → Hp → Prop} : iRng2 ts σ H R = ts σ H (Rg2 R) := rfl
theorem e_iList {R : It → Hp → Prop} : iList K ta σ H R = ta σ H (RiL K R) := rfl
theorem e_iTup {R : It → Hp → Prop} : iTup K ta σ H R = ta σ H (RiT K R) := rfl
theorem e_iEnum {ts : TA} {R : It → Hp → Prop} : iEnum K ts σ H R = ts σ H (RiE K R) := rfl
theorem e_iZip {ts : TA} {R : It → Hp → Prop} : iZip K ts σ H R = ts σ H (RiZ K R) := rfl
theorem e_bm {T : String} {r : V → List V → Hp → VK → Prop} {ts : TA} : tBM K T r ta ts σ H Q = ta σ H fun x H1 => tyV K T x H1 ∧ ts σ H1 fun xs H2 => r x xs H2 Q := rfl
theorem e_bm0 {T : String} {r : V → List V → Hp → VK → Prop} : tBM0 K T r ta σ H Q = ta σ H fun x H1 => tyV K T x H1 ∧ r x [] H1 Q := rfl
theorem e_tup {ts : TA} : tTup ts σ H Q = ts σ H fun xs H1 => xs.length ≤ sizeLine ∧ ∀ p, H1 p = none → Q (.ref p) (upd H1 p (.tup xs)) := rfl
theorem e_lst {ts : TA} : tLst ts σ H Q = ts σ H fun xs H1 => xs.length ≤ sizeLine ∧ ∀ p, H1 p = none → Q (.ref p) (upd H1 p (.lst xs)) := rfl
theorem e_calld {sp : Sp} {E : XK} {ds : List V} {ts : TA} : tCall sp ds E ts σ H Q = ts σ H fun vs H1 => sp (vs ++ ds) H1 Q E := rfl
theorem e_T {A B : Prop} : (if true = true then A else B) = A := rfl
theorem e_F {A B : Prop} : (if false = true then A else B) = B := rfl
theorem e_NT {A B : Prop} : (if (!true) = true then A else B) = B := rfl
theorem e_NF {A B : Prop} : (if (!false) = true then A else B) = A := rfl
theorem x_v0 (h : Q v H) : tVar 0 (some v :: σ) H Q := ⟨v, rfl, h⟩
end
/-! pairs that an iterator lays -/
def YPairE (xs ys : Nat → Option V) : Nat → Hp → V → Hp → Prop := fun i H v H' => ∃ T x y, v = .ref T ∧ H T = none ∧ Ex H H' ∧ H' T = some (.tup [x, y]) ∧ xs i = some x ∧ ys i = some y
theorem YPair.e {xs ys : Nat → Option V} {i : Nat} {H : Hp} {v : V} {H' : Hp} (h : YPair xs ys i H v H') : YPairE xs ys i H v H' := by
  obtain ⟨T, x, y, h1, h2, rfl, h4, h5⟩ := h
  exact ⟨T, x, y, h1, h2, Ex.new h2, upd_same, h4, h5⟩
theorem walk_enumE {K : PySem.W.Frag} {a : Addr} {xs : List V} : Walk (Ite K a) xs.length (fun H => SqL K H a xs) (YPairE (fun i => some (.int (i : Nat))) (fun i => xs[i]?)) :=
  walk_enum.mono (fun _ h => h) fun _ _ _ _ _ _ y => YPair.e y
theorem walk_zipE {K : PySem.W.Frag} {a b : Addr} {xs ys : List V} {n : Nat} (hn : n = min xs.length ys.length) : Walk (Itz K a b) n (fun H => SqL K H a xs ∧ SqL K H b ys) (YPairE (fun i => xs[i]?) (fun i => ys[i]?)) :=
  (walk_zip hn).mono (fun _ h => h) fun _ _ _ _ _ _ y => YPair.e y

/-! equality of lists of ints -/
abbrev nV (n : Nat) : V := .int (n : Int)
theorem eqv_ints : ∀ (xs ys : List Int), PyData.eqv (.list (xs.map PyData.int)) (.list (ys.map PyData.int)) = decide (xs = ys)
  | [], [] => rfl
  | [], _ :: _ => rfl
  | _ :: _, [] => rfl
  | x :: xs, y :: ys => by
    have ih := eqv_ints xs ys
    have e : PyData.eqv (.list ((x :: xs).map PyData.int)) (.list ((y :: ys).map PyData.int)) = (decide (x = y) && PyData.eqv (.list (xs.map PyData.int)) (.list (ys.map PyData.int))) := by
      show PyData.eqvAll _ _ = _
      rfl
    rw [e, ih]
    by_cases h : x = y <;> by_cases h2 : xs = ys <;> simp [h, h2]
theorem dpAll_ints {K : PySem.W.Frag} {H : Hp} : ∀ xs : List Int, DpAll K H (xs.map V.int) (xs.map PyData.int)
  | [] => .nil
  | x :: xs => .cons (.int x) (dpAll_ints xs)
theorem shaped_ints (xs : List Int) : SeqAt.shaped (.list (xs.map PyData.int)) = true := by
  induction xs with
  | nil => rfl
  | cons x xs ih =>
    exact ih
theorem eqv_bools : ∀ (xs ys : List Bool), PyData.eqv (.list (xs.map PyData.bool)) (.list (ys.map PyData.bool)) = decide (xs = ys)
  | [], [] => rfl
  | [], _ :: _ => rfl
  | _ :: _, [] => rfl
  | x :: xs, y :: ys => by
    have ih := eqv_bools xs ys
    have e : PyData.eqv (.list ((x :: xs).map PyData.bool)) (.list ((y :: ys).map PyData.bool)) = ((x == y) && PyData.eqv (.list (xs.map PyData.bool)) (.list (ys.map PyData.bool))) := by
      show PyData.eqvAll _ _ = _
      rfl
    rw [e, ih]
    by_cases h : x = y <;> by_cases h2 : xs = ys <;> simp [h, h2]
theorem dpAll_bools {K : PySem.W.Frag} {H : Hp} : ∀ xs : List Bool, DpAll K H (xs.map V.bl) (xs.map PyData.bool)
  | [] => .nil
  | x :: xs => .cons (.bl x) (dpAll_bools xs)
theorem shaped_bools (xs : List Bool) : SeqAt.shaped (.list (xs.map PyData.bool)) = true := by
  induction xs with
  | nil => rfl
  | cons x xs ih => exact ih
theorem x_eqLB {K : PySem.W.Frag} {H : Hp} {Q : VK} {a b : Addr} {xs ys : List Bool} (ha : SqL K H a (xs.map V.bl)) (hb : SqL K H b (ys.map V.bl)) (h : Q (.bl (decide (xs = ys))) H) : rEqD K (.ref a) (.ref b) H Q :=
  ⟨_, _, .lst ha (dpAll_bools xs), .lst hb (dpAll_bools ys), shaped_bools xs, shaped_bools ys, by rw [eqv_bools]; exact h⟩
theorem map_nV (xs : List Nat) : xs.map nV = (xs.map fun n : Nat => (n : Int)).map V.int := by rw [List.map_map]; rfl
theorem nat_inj {xs ys : List Nat} : (xs.map fun n : Nat => (n : Int)) = (ys.map fun n : Nat => (n : Int)) ↔ xs = ys :=
  ⟨fun h => List.map_inj_right (f := fun n : Nat => (n : Int)) (fun a b e => Int.ofNat.inj e) |>.mp h, fun h => by rw [h]⟩
section
variable {K : PySem.W.Frag} {H : Hp} {Q : VK}
theorem x_eqLI {a b : Addr} {xs ys : List Int} (ha : SqL K H a (xs.map V.int)) (hb : SqL K H b (ys.map V.int)) (h : Q (.bl (decide (xs = ys))) H) : rEqD K (.ref a) (.ref b) H Q :=
  ⟨_, _, .lst ha (dpAll_ints xs), .lst hb (dpAll_ints ys), shaped_ints xs, shaped_ints ys, by rw [eqv_ints]; exact h⟩
theorem x_neLI {a b : Addr} {xs ys : List Int} (ha : SqL K H a (xs.map V.int)) (hb : SqL K H b (ys.map V.int)) (h : Q (.bl (!decide (xs = ys))) H) : rNeD K (.ref a) (.ref b) H Q :=
  ⟨_, _, .lst ha (dpAll_ints xs), .lst hb (dpAll_ints ys), shaped_ints xs, shaped_ints ys, by rw [eqv_ints]; exact h⟩
theorem x_eqLN {a b : Addr} {xs ys : List Nat} (ha : SqL K H a (xs.map nV)) (hb : SqL K H b (ys.map nV)) (h : Q (.bl (decide (xs = ys))) H) : rEqD K (.ref a) (.ref b) H Q := by
  rw [map_nV] at ha hb
  refine x_eqLI ha hb ?_
  have e : decide ((xs.map fun n : Nat => (n : Int)) = (ys.map fun n : Nat => (n : Int))) = decide (xs = ys) := decide_eq_decide.mpr nat_inj
  rw [e]; exact h
theorem x_neLN {a b : Addr} {xs ys : List Nat} (ha : SqL K H a (xs.map nV)) (hb : SqL K H b (ys.map nV)) (h : Q (.bl (!decide (xs = ys))) H) : rNeD K (.ref a) (.ref b) H Q := by
  rw [map_nV] at ha hb
  refine x_neLI ha hb ?_
  have e : decide ((xs.map fun n : Nat => (n : Int)) = (ys.map fun n : Nat => (n : Int))) = decide (xs = ys) := decide_eq_decide.mpr nat_inj
  rw [e]; exact h
end

/-! comprehensions over a list: one name, one test or none -/
def LcW (g : TG) (tt : TT) (te : TE) (vs : List Nat) (σ : L2.St) (Q : VK) : It → Hp → Prop := fun J H1 => ∀ D, H1 D = none → ∃ W : Nat → Nat → Hp → Prop, (∃ m, W 0 m (upd H1 D (.lst []))) ∧ ∀ i m H, W i m H →
  (J.stop i H ∧ Q (.ref D) H) ∨ (J.go i H ∧ ∃ Nx : Hp → Prop, (∀ H', Nx H' → ∃ m', m' < m ∧ W (i + 1) m' H') ∧ ∀ x H', J.yld i H x H' → g x (wipe σ vs) H' fun σ2 H2 => wipe σ2 vs = wipe σ vs ∧ tt σ2 H2 fun b H3 =>
    if b = true then te σ2 H3 fun y H4 => ∃ acc, H4 D = some (.lst acc) ∧ acc.length < sizeLine ∧ Nx (upd H4 D (.lst (acc ++ [y]))) else Nx H3)
theorem e_lc {wi : TI} {g : TG} {tt : TT} {te : TE} {vs : List Nat} {σ : L2.St} {H : Hp} {Q : VK} : tLc wi g tt te vs σ H Q = wi σ H (LcW g tt te vs σ Q) := rfl
theorem e_wipe0 {σ : L2.St} : wipe σ [] = σ := rfl
theorem e_wipe1 {σ : L2.St} {v : Nat} {vs : List Nat} : wipe σ (v :: vs) = (wipe σ vs).set v none := rfl
theorem e_yes {σ : L2.St} {H : Hp} {R : Bool → Hp → Prop} : tYes σ H R = R true H := rfl
theorem wipe_set1 {σ : L2.St} {i : Nat} {v : Option V} : wipe ((wipe σ [i]).set i v) [i] = wipe σ [i] := by
  show (((σ.set i none).set i v).set i none) = σ.set i none
  rw [List.set_set, List.set_set]
section
variable {K : PySem.W.Frag} {H : Hp} {Q : VK} {σ : L2.St} {tl te : TE} {tt : TT} {k : Nat}
/-- the list stands; test and element are reckoned of each item and change nothing that stood -/
theorem LcW.fmA {α : Type} {emb : α → V} {a : Addr} {xs : List α} (p : α → Bool) (f : α → V) (hS : SqL K H a (xs.map emb)) (hz : xs.length < sizeLine)
    (ht : ∀ x ∈ xs, ∀ H', Ex H H' → ∀ R : Bool → Hp → Prop, (∀ H'', Ex H' H'' → R (p x) H'') → tt ((wipe σ [k]).set k (some (emb x))) H' R)
    (he : ∀ x ∈ xs, p x = true → ∀ H', Ex H H' → ∀ Qe : VK, (∀ H'', Ex H' H'' → Qe (f x) H'') → te ((wipe σ [k]).set k (some (emb x))) H' Qe)
    (hk : ∀ D H', H D = none → Ex H H' → H' D = some (.lst ((xs.filter p).map f)) → Q (.ref D) H') :
    LcW (gName k) tt te [k] σ Q (Itl K a) H := by
  intro D hD
  refine lc_list (K := K) (a := a) (xs := xs.map emb) (Qd := fun H' => Q (.ref D) H') (fun i H' => Ex H H' ∧ H' D = some (.lst (((xs.take i).filter p).map f))) ⟨Ex.new hD, by rw [upd_same]; rfl⟩ (fun i H' _ h => h.1.ls hS) ?_ ?_
  · rintro i y H1 hx ⟨ex, h1⟩
    obtain ⟨x, hxi, rfl⟩ : ∃ x, xs[i]? = some x ∧ y = emb x := by
      rw [List.getElem?_map] at hx
      cases e : xs[i]? with
      | none => rw [e] at hx; cases hx
      | some x => rw [e] at hx; exact ⟨x, rfl, (Option.some.inj hx).symm⟩
    have hm : x ∈ xs := List.mem_of_getElem? hxi
    have et : xs.take (i + 1) = xs.take i ++ [x] := by rw [List.take_add_one, hxi]; rfl
    refine ⟨wipe_set1, ht x hm H1 ex _ fun H2 ex2 => ?_⟩
    cases hp : p x with
    | true =>
      refine iteT (he x hm hp H2 (ex.trans ex2) _ fun H3 ex3 => ⟨_, ex3.at (ex2.at h1), ?_, ?_, ?_⟩)
      · rw [List.length_map]
        exact Nat.lt_of_le_of_lt (Nat.le_trans (List.length_filter_le _ _) (List.length_take_le' _ _)) hz
      · exact ((ex.trans ex2).trans ex3).mut hD (ex3.at (ex2.at h1))
      · rw [upd_same, et, List.filter_append, List.map_append]
        simp [hp]
    | false =>
      refine iteF ⟨ex.trans ex2, ?_⟩
      rw [et, List.filter_append, List.map_append]
      simp [hp]
      simpa using ex2.at h1
  · rintro H1 ⟨ex, h1⟩
    rw [List.length_map, List.take_length] at h1
    exact hk D H1 hD ex h1
theorem LcW.fm {a : Addr} {xs : List V} (p : V → Bool) (f : V → V) (hS : SqL K H a xs) (hz : xs.length < sizeLine)
    (ht : ∀ x ∈ xs, ∀ H', Ex H H' → ∀ R : Bool → Hp → Prop, (∀ H'', Ex H' H'' → R (p x) H'') → tt ((wipe σ [k]).set k (some x)) H' R)
    (he : ∀ x ∈ xs, p x = true → ∀ H', Ex H H' → ∀ Qe : VK, (∀ H'', Ex H' H'' → Qe (f x) H'') → te ((wipe σ [k]).set k (some x)) H' Qe)
    (hk : ∀ D H', H D = none → Ex H H' → H' D = some (.lst ((xs.filter p).map f)) → Q (.ref D) H') :
    LcW (gName k) tt te [k] σ Q (Itl K a) H := LcW.fmA (emb := id) p f (by rw [List.map_id]; exact hS) hz ht he hk
/-- a plain map -/
theorem LcW.map {α : Type} {emb : α → V} {a : Addr} {xs : List α} (f : α → V) (hS : SqL K H a (xs.map emb)) (hz : xs.length < sizeLine)
    (he : ∀ x ∈ xs, ∀ H', Ex H H' → ∀ Qe : VK, (∀ H'', Ex H' H'' → Qe (f x) H'') → te ((wipe σ [k]).set k (some (emb x))) H' Qe)
    (hk : ∀ D H', H D = none → Ex H H' → H' D = some (.lst (xs.map f)) → Q (.ref D) H') :
    LcW (gName k) tYes te [k] σ Q (Itl K a) H :=
  LcW.fmA (fun _ => true) f hS hz (fun _ _ _ _ _ h => h _ Ex.refl) (fun x hx _ H' e Qe h => he x hx H' e Qe h) fun D H' h1 h2 h3 => hk D H' h1 h2 (by rw [h3, List.filter_eq_self.mpr fun _ _ => rfl])
/-- a plain filter -/
theorem LcW.filt {α : Type} {emb : α → V} {a : Addr} {xs : List α} (p : α → Bool) (hS : SqL K H a (xs.map emb)) (hz : xs.length < sizeLine)
    (ht : ∀ x ∈ xs, ∀ H', Ex H H' → ∀ R : Bool → Hp → Prop, (∀ H'', Ex H' H'' → R (p x) H'') → tt ((wipe σ [k]).set k (some (emb x))) H' R)
    (he : ∀ x ∈ xs, p x = true → ∀ H', Ex H H' → ∀ Qe : VK, Qe (emb x) H' → te ((wipe σ [k]).set k (some (emb x))) H' Qe)
    (hk : ∀ D H', H D = none → Ex H H' → H' D = some (.lst ((xs.filter p).map emb)) → Q (.ref D) H') :
    LcW (gName k) tt te [k] σ Q (Itl K a) H :=
  LcW.fmA p emb hS hz ht (fun x hx hp H' e Qe h => he x hx hp H' e Qe (h H' Ex.refl)) hk
end

theorem lt_ok {xs : List V} (h : decide (xs.length ≤ 1000) = true) : xs.length < sizeLine := Nat.lt_of_le_of_lt (of_decide_eq_true h) (by decide)
theorem len_ok {xs : List V} (h : decide (xs.length ≤ 1000) = true) : xs.length ≤ sizeLine := Nat.le_trans (of_decide_eq_true h) (by decide)
/-! dicts -/
abbrev nK (n : Nat) : Key := .inl (n : Int)
theorem nK_inj {a b : Nat} (h : nK a = nK b) : a = b := Int.ofNat.inj (Sum.inl.inj h)
def RDg (Q : VK) : V → V → Hp → Prop := fun x y H2 => ∃ a v, x = .ref a ∧ DGet H2 a y (some v) ∧ Q v H2
def RDi (Q : VK) : V → V → Hp → Prop := fun x y H2 => ∃ a o, x = .ref a ∧ DGet H2 a y o ∧ Q (.bl o.isSome) H2
def RDn (Q : VK) : V → V → Hp → Prop := fun x y H2 => ∃ a o, x = .ref a ∧ DGet H2 a y o ∧ Q (.bl (!o.isSome)) H2
def RDp (R : Hp → Prop) : V → V → V → Hp → Prop := fun x y v H3 => ∃ a H4, x = .ref a ∧ DPut H3 a y v H4 ∧ R H4
def RDN (Q : VK) : Hp → Prop := fun H => ∀ p, H p = none → Q (.ref p) (upd H p (.dK []))
section
variable {K : PySem.W.Frag} {σ : L2.St} {H : Hp} {td ty tv tx : TE} {D : Ends} {Q : VK}
theorem e_dget : tDGet td ty σ H Q = td σ H fun x H1 => ty σ H1 fun y H2 => RDg Q x y H2 := rfl
theorem e_din : tDIn ty td σ H Q = ty σ H fun y H1 => td σ H1 fun x H2 => RDi Q x y H2 := rfl
theorem e_dnin : tDNotIn ty td σ H Q = ty σ H fun y H1 => td σ H1 fun x H2 => RDn Q x y H2 := rfl
theorem e_dput : sDPut td ty tv D σ H = tv σ H fun v H1 => td σ H1 fun x H2 => ty σ H2 fun y H3 => RDp (D.nx σ) x y v H3 := rfl
theorem e_dnew : tDNewK σ H Q = RDN Q H := rfl
theorem x_dget {a : Addr} {kvs : List (Key × V)} {i : Int} {v : V} (h : H a = some (.dK kvs)) (e : valV kvs (.inl i) = some v) (k : Q v H) : RDg Q (.ref a) (.int i) H := ⟨a, v, rfl, .inl ⟨kvs, .inl i, .inl h, rfl, e.symm⟩, k⟩
theorem x_din {a : Addr} {kvs : List (Key × V)} {i : Int} (h : H a = some (.dK kvs)) (k : Q (.bl (valV kvs (.inl i)).isSome) H) : RDi Q (.ref a) (.int i) H := ⟨a, _, rfl, .inl ⟨kvs, .inl i, .inl h, rfl, rfl⟩, k⟩
theorem x_dnin {a : Addr} {kvs : List (Key × V)} {i : Int} (h : H a = some (.dK kvs)) (k : Q (.bl (!(valV kvs (.inl i)).isSome)) H) : RDn Q (.ref a) (.int i) H := ⟨a, _, rfl, .inl ⟨kvs, .inl i, .inl h, rfl, rfl⟩, k⟩
theorem x_dput {R : Hp → Prop} {a : Addr} {kvs : List (Key × V)} {i : Int} {v : V} (h : H a = some (.dK kvs)) (hz : kvs.length < sizeLine) (k : R (upd H a (.dK (putK kvs (.inl i) v)))) : RDp R (.ref a) (.int i) v H := ⟨a, _, rfl, .inl ⟨kvs, .inl i, h, rfl, hz, rfl⟩, k⟩
theorem x_dnew (h : ∀ p, H p = none → Q (.ref p) (upd H p (.dK []))) : RDN Q H := h
end
/-- sorted(d), d's keys ints, fewer than 64 -/
def rSortDI : List V → Hp → VK → Prop := fun xs H Q => ∃ (a : Addr) (kvs : List (Key × V)) (ks : List Int), xs = [.ref a] ∧ Rd H a (.dK kvs) ∧ kvs.map (·.1) = ks.map Sum.inl ∧ ks.length < 64 ∧
    ∀ (ys : List Int) (p : Addr), ys.Perm ks → ys.Pairwise (· ≤ ·) → H p = none → Q (.ref p) (upd H p (.lst (ys.map V.int)))
theorem cb_sortD {X : Cx} (hc : X.calm = true) : CallR X (.builtin "sorted") rSortDI := call_sortedDI hc

/-! objects: fields, methods -/
def RFld (K : PySem.W.Frag) (f : Str) (Q : VK) : VK := fun x H1 => ∃ a C dx fs v, x = .ref a ∧ H1 a = some (.ins C dx fs) ∧ Cls K C ∧ NoAttr K C f ∧ fs.lookup f = some v ∧ Q v H1
def RSf (K : PySem.W.Frag) (f : Str) (y : V) (R : Hp → Prop) : VK := fun x H2 => ∃ a C dx fs, x = .ref a ∧ H2 a = some (.ins C dx fs) ∧ Cls K C ∧ NoAttr K C f ∧ fs.length < 1000 ∧ R (upd H2 a (.ins C dx (putF f y fs)))
def RMt (C : Addr) (m : Str) (sp : Sp) (dvs : List V) (E : XK) (t : TA) (σ : L2.St) (Q : VK) : VK := fun x H1 => ∃ a dx fs, x = .ref a ∧ H1 a = some (.ins C dx fs) ∧ fs.lookup m = none ∧ t σ H1 fun vs H2 => sp (x :: (vs ++ dvs)) H2 Q E
section
variable {K : PySem.W.Frag} {σ : L2.St} {H : Hp} {ta tv : TE} {D : Ends} {Q : VK} {v y : V} {f m : Str} {a C dx : Addr} {fs : List (Str × V)} {sp : Sp} {dvs : List V} {E : XK} {t : TA}
theorem e_fld : tFld K ta f σ H Q = ta σ H (RFld K f Q) := rfl
theorem e_sfld : sFld K ta tv f D σ H = tv σ H fun y H1 => ta σ H1 (RSf K f y (D.nx σ)) := rfl
theorem e_meth : tMeth C m sp dvs E ta t σ H Q = ta σ H (RMt C m sp dvs E t σ Q) := rfl
theorem x_fld (h : H a = some (.ins C dx fs)) (c : Cls K C) (n : NoAttr K C f) (l : fs.lookup f = some v) (k : Q v H) : RFld K f Q (.ref a) H := ⟨a, C, dx, fs, v, rfl, h, c, n, l, k⟩
theorem x_sfld {R : Hp → Prop} {fs' : List (Str × V)} (h : H a = some (.ins C dx fs)) (c : Cls K C) (n : NoAttr K C f) (e : putF f y fs = fs') (hz : decide (fs.length < 1000) = true) (k : R (upd H a (.ins C dx fs'))) : RSf K f y R (.ref a) H := ⟨a, C, dx, fs, rfl, h, c, n, of_decide_eq_true hz, by rw [e]; exact k⟩
theorem x_meth (h : H a = some (.ins C dx fs)) (l : fs.lookup m = none) (k : t σ H fun vs H2 => sp (.ref a :: (vs ++ dvs)) H2 Q E) : RMt C m sp dvs E t σ Q (.ref a) H := ⟨a, dx, fs, rfl, h, l, k⟩
end
/-! slices -/
section
variable {K : PySem.W.Frag} {σ : L2.St} {H : Hp} {ta : TE} {tl th : TO} {Q : VK} {R : Option Int → Hp → Prop}
theorem e_sl {r : V → Option Int → Option Int → Hp → VK → Prop} : tSl r ta tl th σ H Q = ta σ H fun x H1 => tl σ H1 fun l H2 => th σ H2 fun u H3 => r x l u H3 Q := rfl
theorem e_nopart : tNoPart σ H R = R none H := rfl
def RPt (R : Option Int → Hp → Prop) : VK := fun x H1 => ∃ i, x = .int i ∧ R (some i) H1
theorem e_part : tPart ta σ H R = ta σ H (RPt R) := rfl
theorem x_part {i : Int} (h : R (some i) H) : RPt R (.int i) H := ⟨i, rfl, h⟩
theorem x_slL {p : Addr} {xs : List V} {lo hi : Option Int} (hS : SqL K H p xs) (h : ∀ q, H q = none → Q (.ref q) (upd H q (.lst (cutV xs lo hi)))) : rSlL K (.ref p) lo hi H Q := ⟨p, xs, rfl, hS, h⟩
theorem cut_take {xs : List V} {k : Nat} : cutV xs none (some (k : Int)) = xs.take k := by
  unfold cutV
  rw [HT.sIx_none, HT.sIx_nat, List.drop_zero, Nat.sub_zero]
  by_cases h : k ≤ xs.length
  · rw [Nat.min_eq_left h]
  · rw [Nat.min_eq_right (by omega), List.take_of_length_le (Nat.le_refl _), List.take_of_length_le (i := k) (by omega)]
theorem cut_drop {xs : List V} {k : Nat} : cutV xs (some (k : Int)) none = xs.drop k := by
  unfold cutV
  rw [HT.sIx_none, HT.sIx_nat]
  by_cases h : k ≤ xs.length
  · rw [Nat.min_eq_left h, List.take_of_length_le (by rw [List.length_drop]; omega)]
  · rw [Nat.min_eq_right (by omega), List.drop_of_length_le (Nat.le_refl _), List.drop_of_length_le (by omega), List.take_nil]
end
/-! members, methods of lists of names -/
theorem inV_nat {n : Nat} : ∀ {ns : List Nat}, inV (nV n) (ns.map nV) = decide (n ∈ ns)
  | [] => rfl
  | m :: r => by
    have ih := inV_nat (n := n) (ns := r)
    unfold inV at ih ⊢
    rw [List.map_cons, List.any_cons, ih]
    show (((m : Int) == (n : Int)) || decide (n ∈ r)) = _
    by_cases e : m = n
    · simp [e]
    · have e' : ¬ (m : Int) = n := fun z => e (Int.ofNat.inj z)
      simp [e', Ne.symm e]
theorem flat_nat (ns : List Nat) : (ns.map nV).all flatV = true := by
  rw [List.all_eq_true]
  intro x hx
  obtain ⟨n, _, rfl⟩ := List.mem_map.mp hx
  rfl
section
variable {K : PySem.W.Frag} {H : Hp} {Q : VK}
theorem x_inN {i : Int} {n : Nat} {p : Addr} {ns : List Nat} (hi : i = n) (hS : SqL K H p (ns.map nV)) (h : Q (.bl (decide (n ∈ ns))) H) : rIn K false (.int i) (.ref p) H Q := by
  subst hi; exact ⟨p, _, rfl, .inl hS, rfl, flat_nat ns, by rw [inV_nat]; exact h⟩
theorem x_ninN {i : Int} {n : Nat} {p : Addr} {ns : List Nat} (hi : i = n) (hS : SqL K H p (ns.map nV)) (h : Q (.bl (!decide (n ∈ ns))) H) : rIn K true (.int i) (.ref p) H Q := by
  subst hi; exact ⟨p, _, rfl, .inl hS, rfl, flat_nat ns, by rw [inV_nat]; exact h⟩
theorem erase_first {n : Nat} : ∀ {ns : List Nat}, n ∈ ns → ∃ j : Nat, (ns.map fun n : Nat => (n : Int))[j]? = some (n : Int) ∧ (∀ m : Nat, m < j → (ns.map fun n : Nat => (n : Int))[m]? ≠ some (n : Int)) ∧ ns.eraseIdx j = ns.erase n
  | [], h => by cases h
  | m :: r, h => by
    by_cases e : m = n
    · refine ⟨0, by simp [e], fun m h => absurd h (Nat.not_lt_zero _), by simp [e]⟩
    · have hr : n ∈ r := by
        rcases List.mem_cons.mp h with z | z
        · exact absurd z.symm e
        · exact z
      obtain ⟨j, h1, h2, h3⟩ := erase_first hr
      refine ⟨j + 1, by simpa using h1, fun k hk => ?_, ?_⟩
      · cases k with
        | zero =>
          intro z
          have z : some ((m : Nat) : Int) = some (n : Int) := z
          exact e (Int.ofNat.inj (Option.some.inj z))
        | succ k => exact h2 k (by omega)
      · rw [List.eraseIdx_cons_succ, h3, List.erase_cons_tail (by simpa using e)]
theorem eraseIdx_mapV {α β : Type} (f : α → β) : ∀ (xs : List α) (j : Nat), (xs.map f).eraseIdx j = (xs.eraseIdx j).map f
  | [], _ => rfl
  | _ :: _, 0 => rfl
  | x :: r, j + 1 => by
    show f x :: (r.map f).eraseIdx j = f x :: (r.eraseIdx j).map f
    rw [eraseIdx_mapV f r j]
theorem x_remove {i : Int} {n : Nat} {l : Addr} {ns : List Nat} (hi : i = n) (hl : H l = some (.lst (ns.map nV))) (hn : n ∈ ns) (h : Q .non (upd H l (.lst ((ns.erase n).map nV)))) : rRemI (.ref l) [.int i] H Q := by
  subst hi
  obtain ⟨j, h1, h2, h3⟩ := erase_first hn
  refine ⟨l, ns.map fun n : Nat => (n : Int), n, j, rfl, rfl, by rw [← map_nV]; exact hl, h1, h2, ?_⟩
  have e : ((ns.map fun n : Nat => (n : Int)).eraseIdx j).map V.int = (ns.erase n).map nV := by
    rw [eraseIdx_mapV, h3, ← map_nV]
  rw [e]; exact h
theorem x_pop0 {l : Addr} {x : V} {xs : List V} (hl : H l = some (.lst (x :: xs))) (h : Q x (upd H l (.lst xs))) : rPopAt (.ref l) [.int 0] H Q :=
  ⟨l, x :: xs, 0, 0, x, rfl, rfl, hl, by decide, by decide, by unfold seqIndex?; simp, rfl, h⟩
end

/-! new objects -/
theorem x_new {A : Prop} {R : Addr → Prop} (ha : A) (h : ∀ p, H p = none → R p) : A ∧ ∀ p, H p = none → R p := ⟨ha, h⟩
/-- a def with defaults, no exception out -/
theorem _root_.L2.FunD.okD {P : Program} {w : World} {K : PySem.W.Frag} {mg : Str → Option Value} {base : Heap} {x qual : Str} {st : Stmt} {f : Addr} {fd : FuncData} {dvs : List V} {kws : List (Str × V)} {N ps : List Str} {k : Nat} {sp : Sp} (F : FunD K x qual (defArgs st) (defBody st) (defScope st) dvs kws f fd) (S : FnScope N ps (defScope st)) (len : ∀ vs H Q E, sp vs H Q E → vs.length = ps.length)
    (hbody : ∀ (cdv : Value) (A : Around) (outer : List Env) (s : Shared) (H : Hp) (vs : List V) (Q : VK) (E : XK), Room k (A.deeper (PyProof.Rows.envOfC qual (defScope st) s.heap.objs.size f cdv)) → sp vs H Q E →
      ∃ t, PSs (cxOf CX0 P w K mg base N qual (defScope st) f cdv A outer s H E).nox (defBody st) t ∧ t { nx := fun _ H' => Q .non H', rt := Q } (start N vs) H) : FnOk P w K mg base CX0 (k + 1) f fd ps sp :=
  F.ok (CX := CX0) S len fun cdv A outer s H vs Q E hr h => let ⟨t, a, b⟩ := hbody cdv A outer s H vs Q E hr h; ⟨t, a.nox, b⟩
theorem fund_mk {K : PySem.W.Frag} {x qual : Str} {st : Stmt} {f D : Addr} {oc tc : Value} {od an td : Option Addr} {osl tl : Array (Option Value)} {kV doc pm cdv ct : Value} {tn : Nat} {its : List Value} {ds : List V} (l : K.lookup f = some ⟨oc, od, .func (PySem.W.fnOf x qual (defArgs st) (defBody st) (defScope st) (.ref D) kV doc pm an cdv ct), osl⟩)
    (c : PySem.W.codeIn K cdv qual = true) (k : PySem.W.keepIn K (.ref f) = true) (t : K.lookup D = some ⟨tc, td, .seq its.toArray tn, tl⟩) (v : Vals ds its) (hd : ds ≠ [] := by simp) : FunD K x qual (defArgs st) (defBody st) (defScope st) ds [] f (PySem.W.fnOf x qual (defArgs st) (defBody st) (defScope st) (.ref D) kV doc pm an cdv ct) :=
  ⟨⟨oc, od, .ref D, kV, doc, pm, an, cdv, ct, osl, rfl, l, c, .inr ⟨hd, D, _, its, tn, rfl, t, rfl, v⟩, .inl rfl⟩, k⟩
theorem vnil {K : PySem.W.Frag} {fd : FuncData} {ps : List Str} {ds : List Value} (v : Vals [] ds) (b : Binds K fd ps ds) : Binds K fd ps [] := by
  cases v
  exact b
/-! making, sorting, extending; comprehensions over whatever walks -/
def RMk (C : Addr) (sp : Sp) (dvs : List V) (E : XK) (Q : VK) : List V → Hp → Prop := fun vs H1 => ∀ x dx, H1 x = none → H1 dx = none → dx ≠ x → sp (.ref x :: (vs ++ dvs)) (upd (upd H1 dx (.own x)) x (.ins C dx [])) (fun v H2 => v = .non ∧ Q (.ref x) H2) E
theorem e_make {C : Addr} {sp : Sp} {dvs : List V} {E : XK} {t : TA} {σ : L2.St} {H : Hp} {Q : VK} : tMake C sp dvs E t σ H Q = t σ H (RMk C sp dvs E Q) := rfl
theorem x_make {C : Addr} {sp : Sp} {dvs vs : List V} {E : XK} {H : Hp} {Q : VK} (h : ∀ x dx H1, H x = none → Ex H H1 → H1 x = some (.ins C dx []) → sp (.ref x :: (vs ++ dvs)) H1 (fun v H2 => v = .non ∧ Q (.ref x) H2) E) : RMk C sp dvs E Q vs H :=
  fun x dx hx hdx ne => h x dx _ hx ((Ex.new hdx).newT (by rw [upd_ne (Ne.symm ne)]; exact hx)) upd_same
theorem x_extend {H : Hp} {Q : VK} {l b : Addr} {xs zs : List V} (hl : H l = some (.lst xs)) (hb : H b = some (.lst zs)) (hz : xs.length + zs.length ≤ sizeLine) (h : Q .non (upd H l (.lst (xs ++ zs)))) : rExtend (.ref l) [.ref b] H Q := ⟨l, b, xs, zs, rfl, rfl, hl, hb, hz, h⟩
theorem x_clear {H : Hp} {Q : VK} {l : Addr} {xs : List V} (hl : H l = some (.lst xs)) (h : Q .non (upd H l (.lst []))) : rClear (.ref l) [] H Q := ⟨l, xs, rfl, rfl, hl, h⟩
theorem LcW.by1 {J : It} {n : Nat} {G : Hp → Prop} {Y : Nat → Hp → V → Hp → Prop} {te : TE} {k : Nat} {σ : L2.St} {H : Hp} {Q : VK} (w : Walk J n G Y) (hz : n < sizeLine) (Pv : Addr → Nat → List V → Hp → Prop)
    (h0 : ∀ D, H D = none → Pv D 0 [] (upd H D (.lst [])))
    (hG : ∀ D i acc H', H D = none → i ≤ n → Pv D i acc H' → G H')
    (hs : ∀ D i acc x H1 H1', i < n → H D = none → Pv D i acc H1 → H1 D = some (.lst acc) → Y i H1 x H1' → ∀ Qe : VK, (∀ y H4, H4 D = some (.lst acc) → Pv D (i + 1) (acc ++ [y]) (upd H4 D (.lst (acc ++ [y]))) → Qe y H4) → te ((wipe σ [k]).set k (some x)) H1' Qe)
    (hd : ∀ D acc H', H D = none → Pv D n acc H' → H' D = some (.lst acc) → acc.length = n → Q (.ref D) H') : LcW (gName k) tYes te [k] σ Q J H := by
  intro D hD
  refine lc_it w (Qd := fun H' => Q (.ref D) H') (fun i H' => ∃ acc, acc.length = i ∧ H' D = some (.lst acc) ∧ Pv D i acc H') ⟨[], rfl, upd_same, h0 D hD⟩ (fun i H' hi ⟨acc, _, _, p⟩ => hG D i acc H' hD hi p) ?_ ?_
  · rintro i x H1 H1' hi ⟨acc, hl, ha, p⟩ y
    refine ⟨wipe_set1, ?_⟩
    rw [e_yes]
    refine iteT ?_
    refine hs D i acc x H1 H1' hi hD p ha y _ fun y H4 h4 p4 => ⟨acc, h4, by rw [hl]; exact Nat.lt_trans hi hz, acc ++ [y], by simp [hl], upd_same, p4⟩
  · rintro H1 ⟨acc, hl, ha, p⟩
    exact hd D acc H1 hD p ha hl
end
/-! ranges downwards, list + list, insert -/
def Rg3 (R : It → Hp → Prop) : List V → Hp → Prop := fun vs H1 => ∃ (i j c : Int) (n : Nat), vs = [.int i, .int j, .int c] ∧ RgC i j c n ∧ R (Itc i c n) H1
theorem e_rng3 {σ : L2.St} {H : Hp} {ts : TA} {R : It → Hp → Prop} : iRng3 ts σ H R = ts σ H (Rg3 R) := rfl
theorem x_rgDown {m : Nat} {H : Hp} {R : It → Hp → Prop} (hm : (m : Int) < 2 ^ 61) (h : R (Itc ((m : Int) - 1) (-1) m) H) : Rg3 R [V.int ((m : Int) - 1), .int (-1), .int (-1)] H :=
  ⟨_, _, _, m, rfl, by
    have q := RgC.neg (i := (m : Int) - 1) (j := -1) (by omega) (by omega) (by omega) (by omega)
    have e : ((m : Int) - 1 - -1).toNat = m := by omega
    rw [e] at q; exact q, h⟩
theorem walk_down {n : Nat} : Walk (Itc ((n : Int) - 1) (-1) n) n (fun _ => True) (fun i H x H' => H' = H ∧ ∃ k : Nat, k = n - 1 - i ∧ x = .int (k : Int)) :=
  ⟨fun _ _ hi _ => hi, fun _ _ => Nat.le_refl _, fun i H x H' hi _ y => ⟨y.1, n - 1 - i, rfl, by
    rw [y.2]
    have e : (n : Int) - 1 + (i : Nat) * -1 = ((n - 1 - i : Nat) : Int) := by omega
    rw [e]⟩⟩
theorem x_cat {H : Hp} {Q : VK} {a b : Addr} {xs zs : List V} (ha : H a = some (.lst xs)) (hb : H b = some (.lst zs)) (hz : xs.length + zs.length ≤ sizeLine) (h : ∀ p, H p = none → Q (.ref p) (upd H p (.lst (xs ++ zs)))) : rCat (.ref a) (.ref b) H Q := ⟨a, b, xs, zs, rfl, rfl, ha, hb, hz, h⟩
def rInsert : V → List V → Hp → VK → Prop := fun x vs H Q => ∃ (l : Addr) (xs : List V) (i : Int) (y : V), x = .ref l ∧ vs = [.int i, y] ∧ H l = some (.lst xs) ∧ xs.length < sizeLine ∧ 0 ≤ i ∧ i < 2 ^ 63 ∧
    Q .non (upd H l (.lst (xs.take i.toNat ++ [y] ++ xs.drop i.toNat)))
theorem mt_ins {X : Cx} : MtR X "list.insert" rInsert := mt_insert
theorem x_insert {H : Hp} {Q : VK} {l : Addr} {xs : List V} {i : Int} {k : Nat} {y : V} (hi : i = k) (hl : H l = some (.lst xs)) (hz : xs.length < sizeLine) (hk : k < 2 ^ 62) (h : Q .non (upd H l (.lst (xs.take k ++ [y] ++ xs.drop k)))) : rInsert (.ref l) [.int i, y] H Q :=
  ⟨l, xs, i, y, rfl, rfl, hl, hz, by omega, by omega, by rw [hi, Int.toNat_natCast]; exact h⟩
theorem cut_len {xs : List V} {k m : Nat} : (cutV xs (some (k : Int)) (some (m : Int))).length ≤ m - k := by
  unfold cutV
  rw [HT.sIx_nat, HT.sIx_nat, List.length_take]
  omega
theorem cut_mem {xs : List V} {lo hi : Option Int} {x : V} (h : x ∈ cutV xs lo hi) : x ∈ xs := List.mem_of_mem_drop (List.mem_of_mem_take h)
theorem absI (i : Int) : ∃ n : Nat, (if i < 0 then -i else i) = (n : Int) := ⟨i.natAbs, by split <;> omega⟩
/-! equal by what is read -/
def Shp (d : PyData) (k : Nat) : Prop := d.canLay0 = true ∧ d.depth ≤ k
theorem Shp.mono {d : PyData} {k j : Nat} (h : Shp d k) (e : k ≤ j) : Shp d j := ⟨h.1, Nat.le_trans h.2 e⟩
theorem shp_all {k : Nat} : ∀ {xs : List PyData}, (∀ x ∈ xs, Shp x k) → PyData.canLayAll0 xs = true ∧ PyData.depthAll xs ≤ k
  | [], _ => by simp [PyData.canLayAll0, PyData.depthAll]
  | x :: xs, h => by
    have h1 := h x (List.mem_cons_self ..)
    have h2 := shp_all (xs := xs) fun y hy => h y (List.mem_cons_of_mem _ hy)
    simp only [PyData.canLayAll0, PyData.depthAll, h1.1, h2.1, Bool.and_self, true_and]
    exact Nat.max_le.mpr ⟨h1.2, h2.2⟩
theorem Shp.lst {k : Nat} {xs : List PyData} (h : ∀ x ∈ xs, Shp x k) : Shp (.list xs) (k + 1) := by
  have q := shp_all h
  exact ⟨by simp only [PyData.canLay0]; exact q.1, by simp only [PyData.depth]; omega⟩
theorem Shp.tup {k : Nat} {xs : List PyData} (h : ∀ x ∈ xs, Shp x k) : Shp (.tuple xs) (k + 1) := by
  have q := shp_all h
  exact ⟨by simp only [PyData.canLay0]; exact q.1, by simp only [PyData.depth]; omega⟩
theorem Shp.int {i : Int} : Shp (.int i) 0 := ⟨by simp only [PyData.canLay0], by simp only [PyData.depth]; exact Nat.le_refl _⟩
theorem Shp.bl {i : Bool} : Shp (.bool i) 0 := ⟨by simp only [PyData.canLay0], by simp only [PyData.depth]; exact Nat.le_refl _⟩
theorem Shp.non : Shp .none 0 := ⟨by simp only [PyData.canLay0], by simp only [PyData.depth]; exact Nat.le_refl _⟩
theorem Shp.str {x : Str} (h : PyData.canLay0 (.str x) = true) : Shp (.str x) 0 := ⟨h, by simp only [PyData.depth]; exact Nat.le_refl _⟩
theorem Shp.ints {xs : List Int} : Shp (.list (xs.map PyData.int)) 1 := Shp.lst fun x hx => by
  obtain ⟨i, _, rfl⟩ := List.mem_map.mp hx; exact Shp.int
theorem Shp.ok {d : PyData} {k : Nat} (h : Shp d k) (hk : k ≤ 64 := by decide) : SeqAt.shaped d = true := by
  unfold SeqAt.shaped
  rw [h.1, decide_eq_true (Nat.le_trans h.2 hk)]; rfl
theorem Dp.natsL {K : PySem.W.Frag} {H : Hp} {a : Addr} {xs : List Nat} (h : SqL K H a (xs.map nV)) : Dp K H (.ref a) (.list ((xs.map fun n : Nat => (n : Int)).map PyData.int)) := .lst (by rw [map_nV] at h; exact h) (dpAll_ints _)
theorem x_neSame {K : PySem.W.Frag} {H : Hp} {Q : VK} {x y : V} {d : PyData} {k : Nat} (hx : Dp K H x d) (hy : Dp K H y d) (hs : Shp d k) (h : Q (.bl false) H) (hk : k ≤ 64 := by decide) : rNeD K x y H Q := ⟨d, d, hx, hy, hs.ok hk, hs.ok hk, by
  rw [SeqAt.eqv_refl d hs.1]; exact h⟩
theorem x_eqSame {K : PySem.W.Frag} {H : Hp} {Q : VK} {x y : V} {d : PyData} {k : Nat} (hx : Dp K H x d) (hy : Dp K H y d) (hs : Shp d k) (h : Q (.bl true) H) (hk : k ≤ 64 := by decide) : rEqD K x y H Q := ⟨d, d, hx, hy, hs.ok hk, hs.ok hk, by
  rw [SeqAt.eqv_refl d hs.1]; exact h⟩
end Nn
namespace Nn
open PySem L2
def top (i : Nat) : Stmt := PySem.Challenge.pw_nearnames_k11_bucket_hears.main.body.getD i (.Pass ⟨0, 0, 0, 0⟩)
abbrev s_Bucket_init : Stmt := inClass (top 1) 0
abbrev N_Bucket_init : List Str := ["self", "room"]
theorem st_Bucket_init (v0 v1 : V) : L2.start ["self", "room"] [v0, v1] = [some v0, some v1] := rfl
theorem sc_Bucket_init : FnScope ["self", "room"] ["self", "room"] (defScope s_Bucket_init) := ⟨rfl, rfl, rfl, by decide +kernel, rfl, by decide +kernel, by decide +kernel⟩
abbrev s_Bucket_names : Stmt := inClass (top 1) 1
abbrev N_Bucket_names : List Str := ["self"]
theorem st_Bucket_names (v0 : V) : L2.start ["self"] [v0] = [some v0] := rfl
theorem sc_Bucket_names : FnScope ["self"] ["self"] (defScope s_Bucket_names) := ⟨rfl, rfl, rfl, by decide +kernel, rfl, by decide +kernel, by decide +kernel⟩
abbrev s_Bucket_hears : Stmt := inClass (top 1) 2
abbrev N_Bucket_hears : List Str := ["self", "name", "answers"]
theorem st_Bucket_hears (v0 v1 v2 : V) : L2.start ["self", "name", "answers"] [v0, v1, v2] = [some v0, some v1, some v2] := rfl
theorem sc_Bucket_hears : FnScope ["self", "name", "answers"] ["self", "name", "answers"] (defScope s_Bucket_hears) := ⟨rfl, rfl, rfl, by decide +kernel, rfl, by decide +kernel, by decide +kernel⟩
abbrev s_Bucket_drops : Stmt := inClass (top 1) 3
abbrev N_Bucket_drops : List Str := ["self", "name"]
theorem st_Bucket_drops (v0 v1 : V) : L2.start ["self", "name"] [v0, v1] = [some v0, some v1] := rfl
theorem sc_Bucket_drops : FnScope ["self", "name"] ["self", "name"] (defScope s_Bucket_drops) := ⟨rfl, rfl, rfl, by decide +kernel, rfl, by decide +kernel, by decide +kernel⟩
abbrev s_l_cell_at : Stmt := top 3
abbrev N_l_cell_at : List Str := ["_law_script", "_law_k"]
theorem st_l_cell_at (v0 v1 : V) : L2.start ["_law_script", "_law_k"] [v0, v1] = [some v0, some v1] := rfl
theorem sc_l_cell_at : FnScope ["_law_script", "_law_k"] ["_law_script", "_law_k"] (defScope s_l_cell_at) := ⟨rfl, rfl, rfl, by decide +kernel, rfl, by decide +kernel, by decide +kernel⟩
abbrev s_l_mixed : Stmt := top 4
abbrev N_l_mixed : List Str := ["_law_cell", "_law_k", "_law_number"]
theorem st_l_mixed (v0 v1 : V) : L2.start ["_law_cell", "_law_k", "_law_number"] [v0, v1] = [some v0, some v1, none] := rfl
theorem sc_l_mixed : FnScope ["_law_cell", "_law_k", "_law_number"] ["_law_cell", "_law_k"] (defScope s_l_mixed) := ⟨rfl, rfl, rfl, by decide +kernel, rfl, by decide +kernel, by decide +kernel⟩
abbrev s_l_deeds : Stmt := top 5
abbrev N_l_deeds : List Str := ["_law_script", "_law_room", "_law_first", "_law_many", "_law_deeds_here", "_law_k", "_law_cell"]
theorem st_l_deeds (v0 v1 : V) : L2.start ["_law_script", "_law_room", "_law_first", "_law_many", "_law_deeds_here", "_law_k", "_law_cell"] [v0, v1] = [some v0, some v1, none, none, none, none, none] := rfl
theorem sc_l_deeds : FnScope ["_law_script", "_law_room", "_law_first", "_law_many", "_law_deeds_here", "_law_k", "_law_cell"] ["_law_script", "_law_room"] (defScope s_l_deeds) := ⟨rfl, rfl, rfl, by decide +kernel, rfl, by decide +kernel, by decide +kernel⟩
abbrev s_l_heard : Stmt := top 6
abbrev N_l_heard : List Str := ["_law_line", "_law_room", "_law_name", "_law_silent", "_law_eldest"]
theorem st_l_heard (v0 v1 v2 v3 : V) : L2.start ["_law_line", "_law_room", "_law_name", "_law_silent", "_law_eldest"] [v0, v1, v2, v3] = [some v0, some v1, some v2, some v3, none] := rfl
theorem sc_l_heard : FnScope ["_law_line", "_law_room", "_law_name", "_law_silent", "_law_eldest"] ["_law_line", "_law_room", "_law_name", "_law_silent"] (defScope s_l_heard) := ⟨rfl, rfl, rfl, by decide +kernel, rfl, by decide +kernel, by decide +kernel⟩
abbrev s_l_asker : Stmt := top 7
abbrev N_l_asker : List Str := ["_law_calls", "_law_silent", "_law_answers"]
theorem st_l_asker (v0 v1 : V) : L2.start ["_law_calls", "_law_silent", "_law_answers"] [v0, v1] = [some v0, some v1, none] := rfl
theorem sc_l_asker : FnScope ["_law_calls", "_law_silent", "_law_answers"] ["_law_calls", "_law_silent"] (defScope s_l_asker) := ⟨rfl, rfl, rfl, by decide +kernel, rfl, by decide +kernel, by decide +kernel⟩
abbrev s_law : Stmt := top 8
abbrev N_law : List Str := ["_law_script", "_law_room", "_law_bucket", "_law_line", "_law_calls", "_law_silent", "_law_answers", "_law_deed", "_law_name", "_law_kept_it", "_law_found", "_law_due"]
theorem st_law (v0 : V) : L2.start ["_law_script", "_law_room", "_law_bucket", "_law_line", "_law_calls", "_law_silent", "_law_answers", "_law_deed", "_law_name", "_law_kept_it", "_law_found", "_law_due"] [v0] = [some v0, none, none, none, none, none, none, none, none, none, none, none] := rfl
theorem sc_law : FnScope ["_law_script", "_law_room", "_law_bucket", "_law_line", "_law_calls", "_law_silent", "_law_answers", "_law_deed", "_law_name", "_law_kept_it", "_law_found", "_law_due"] ["_law_script"] (defScope s_law) := ⟨rfl, rfl, rfl, by decide +kernel, rfl, by decide +kernel, by decide +kernel⟩
abbrev s_l_asker__law_answers : Stmt := (defBody s_l_asker).getD 0 (.Pass ⟨0, 0, 0, 0⟩)
abbrev N_l_asker__law_answers : List Str := ["_law_name", "_law_silent", "_law_calls"]
abbrev fr_l_asker__law_answers : List Str := ["_law_silent", "_law_calls"]
theorem nsc_l_asker__law_answers : NdefX.NScope N_l_asker__law_answers ["_law_name"] fr_l_asker__law_answers (C8.fnScope s_l_asker__law_answers) := NdefX.nscope_by (by decide +kernel)
theorem st_l_asker__law_answers (v0 : V) (w0 w1 : Option V) : NdefX.startF ["_law_name", "_law_silent", "_law_calls"] [v0] [w0, w1] = [some v0, w0, w1] := rfl
abbrev nf_l_asker__law_answers (cl : List (Str × Addr)) (c : Addr) : NdefX.NF := NdefX.NF.of s_l_asker__law_answers "_law_answers" ((("_law_asker" : Str) ++ ".<locals>.") ++ "_law_answers") cl c
theorem nm_l_asker__law_answers : nmAll 68 4 = (("_law_asker" : Str) ++ ".<locals>.") ++ "_law_answers" := by decide +kernel
def tfL : List He.Defn := [("_law_asker", none)]
def Tabs0 (K : PySem.W.Frag) (H : Hp) : Prop := ∀ p ∈ tfL.map (He.cT K), H p.2 = some (.tbl #[])
theorem ne_Bucket_room_line : (("room" : Str) == "line") = false := by decide +kernel
theorem eq_Bucket_room : (("room" : Str) == "room") = true := by decide +kernel
theorem ne_Bucket_line_room : (("line" : Str) == "room") = false := by decide +kernel
theorem eq_Bucket_line : (("line" : Str) == "line") = true := by decide +kernel
abbrev f_Bucket (x0 x1 : V) : List (Str × V) := [(("room" : Str), x0), (("line" : Str), x1)]
theorem lk_Bucket_room {x0 x1 : V} : (f_Bucket x0 x1).lookup ("room" : Str) = some x0 := by
  simp only [f_Bucket, List.lookup, ne_Bucket_room_line, eq_Bucket_room]
theorem put_Bucket_room {x0 x1 y : V} : putF "room" y (f_Bucket x0 x1) = f_Bucket y x1 := by
  have e : ∀ a b : Str, (a == b) = false → ¬ a = b := fun a b h z => by rw [z] at h; simp at h
  unfold f_Bucket
  simp only [putF, if_neg (e _ _ ne_Bucket_line_room), if_true]
theorem lk_Bucket_line {x0 x1 : V} : (f_Bucket x0 x1).lookup ("line" : Str) = some x1 := by
  simp only [f_Bucket, List.lookup, ne_Bucket_line_room, eq_Bucket_line]
theorem put_Bucket_line {x0 x1 y : V} : putF "line" y (f_Bucket x0 x1) = f_Bucket x0 y := by
  have e : ∀ a b : Str, (a == b) = false → ¬ a = b := fun a b h z => by rw [z] at h; simp at h
  unfold f_Bucket
  simp only [putF, if_neg (e _ _ ne_Bucket_room_line), if_true]
theorem ini_Bucket_room { y : V} : putF "room" y ([] : List (Str × V)) = [(("room" : Str), y)] := by
  have e : ∀ a b : Str, (a == b) = false → ¬ a = b := fun a b h z => by rw [z] at h; simp at h
  simp only [putF]
theorem ini_Bucket_line {x0 y : V} : putF "line" y ([(("room" : Str), x0)] : List (Str × V)) = [(("room" : Str), x0), (("line" : Str), y)] := by
  have e : ∀ a b : Str, (a == b) = false → ¬ a = b := fun a b h z => by rw [z] at h; simp at h
  simp only [putF, if_neg (e _ _ ne_Bucket_room_line)]
theorem nm_Bucket_names_room : (("names" : Str) == "room") = false := by decide +kernel
theorem nm_Bucket_names_line : (("names" : Str) == "line") = false := by decide +kernel
theorem no_Bucket_names {x0 x1 : V} : (f_Bucket x0 x1).lookup ("names" : Str) = none := by
  simp only [f_Bucket, List.lookup, nm_Bucket_names_room, nm_Bucket_names_line]
theorem nm_Bucket_hears_room : (("hears" : Str) == "room") = false := by decide +kernel
theorem nm_Bucket_hears_line : (("hears" : Str) == "line") = false := by decide +kernel
theorem no_Bucket_hears {x0 x1 : V} : (f_Bucket x0 x1).lookup ("hears" : Str) = none := by
  simp only [f_Bucket, List.lookup, nm_Bucket_hears_room, nm_Bucket_hears_line]
theorem nm_Bucket_drops_room : (("drops" : Str) == "room") = false := by decide +kernel
theorem nm_Bucket_drops_line : (("drops" : Str) == "line") = false := by decide +kernel
theorem no_Bucket_drops {x0 x1 : V} : (f_Bucket x0 x1).lookup ("drops" : Str) = none := by
  simp only [f_Bucket, List.lookup, nm_Bucket_drops_room, nm_Bucket_drops_line]
end Nn
/-! A made function that outlives the def that made it: its cells are tracked from the maker's end on. -/
namespace Nn
open PySem PySem.Spec PyProof.Rows L2 NdefX LamX
/-- a cell that holds v -/
def CellO (c : Addr) (v : V) : HO := .ext fun h => ∃ u, L2.RelV v u ∧ h.IsCell c (some u)
theorem cellO_ok {P : Program} {w : World} {H : Hp} {h : Heap} {c : Addr} {v : V} {u : Value} (r : L2.RelV v u) (e : h.IsCell c (some u)) : ObjOk P w H h c (CellO c v) := by
  obtain ⟨o, ho, hd⟩ := e
  exact ⟨⟨u, r, o, ho, hd⟩, ⟨o, ho⟩, fun h1 h2 ⟨u1, r1, o1, h3, h4⟩ k => ⟨u1, r1, o1, k _ h3, h4⟩⟩
/-- the cells of a function are tracked: they hold vs -/
structure CellsT (H : Hp) (cl : List (Str × Addr)) (fr : List Str) (vs : List V) : Prop where
  len : vs.length = fr.length
  all : ∀ y c, cl.lookup y = some c → ∃ v, H c = some (CellO c v)
  inj : ∀ x y c, cl.lookup x = some c → cl.lookup y = some c → x = y
  has : ∀ (i : Nat) (y : Str), fr[i]? = some y → ∃ c v, cl.lookup y = some c ∧ vs[i]? = some v ∧ H c = some (CellO c v)
open Classical in
noncomputable def strip (H : Hp) (cl : List (Str × Addr)) : Hp := fun b => if ∃ y, cl.lookup y = some b then none else H b
open Classical in
noncomputable def relay (H H' : Hp) (cl : List (Str × Addr)) : Hp := fun b => if ∃ y, cl.lookup y = some b then H b else H' b
section
variable {H H' : Hp} {cl : List (Str × Addr)} {fr : List Str} {vs : List V} {a : Addr} {o : HO}
theorem strip_in {y : Str} (h : cl.lookup y = some a) : strip H cl a = none := by unfold strip; rw [if_pos ⟨y, h⟩]
theorem strip_out (h : ¬ ∃ y, cl.lookup y = some a) : strip H cl a = H a := by unfold strip; rw [if_neg h]
theorem relay_in {y : Str} (h : cl.lookup y = some a) : relay H H' cl a = H a := by unfold relay; rw [if_pos ⟨y, h⟩]
theorem relay_out (h : ¬ ∃ y, cl.lookup y = some a) : relay H H' cl a = H' a := by unfold relay; rw [if_neg h]
theorem CellsT.no (C : CellsT H cl fr vs) (h : H a = some o) (n : NX o) : ¬ ∃ y, cl.lookup y = some a := fun ⟨y, e⟩ => by
  obtain ⟨v, hv⟩ := C.all y a e
  rw [h] at hv
  have hv := Option.some.inj hv
  rw [hv] at n
  exact n
/-- what is no cell stays in sight -/
theorem strip_at (C : CellsT H cl fr vs) (h : H a = some o) (n : NX o := by trivial) : strip H cl a = some o := by rw [strip_out (C.no h n)]; exact h
theorem strip_none (h : H a = none) : strip H cl a = none := by
  by_cases e : ∃ y, cl.lookup y = some a
  · obtain ⟨y, e⟩ := e; exact strip_in e
  · rw [strip_out e]; exact h
theorem relay_at (C : CellsT H cl fr vs) (f : strip H cl a = none → H' a = none) (h : H' a = some o) : relay H H' cl a = some o := by
  by_cases e : ∃ y, cl.lookup y = some a
  · obtain ⟨y, e⟩ := e
    rw [f (strip_in e)] at h; cases h
  · rw [relay_out e]; exact h
/-- no cell is a code object -/
def Sep (H : Hp) (cl : List (Str × Addr)) : Prop := ∀ y a, cl.lookup y = some a → ∀ q, H a ≠ some (CodeO a q)
/-- the call leaves the cells untold -/
def Shut (H' : Hp) (cl : List (Str × Addr)) : Prop := ∀ y a, cl.lookup y = some a → H' a = none
/-- how the heap goes on over a call of the function -/
theorem CellsT.goes {S : Addr → Prop} (C : CellsT H cl fr vs) (se : Sep H cl) (sh : Shut H' cl) (f : Fr S (strip H cl) H') : Fr S H (relay H H' cl) where
  keep := fun a o h n s => by
    by_cases e : ∃ y, cl.lookup y = some a
    · obtain ⟨y, e⟩ := e
      rw [relay_in e]; exact h
    · rw [relay_out e]
      exact f.keep a o (by rw [strip_out e]; exact h) n s
  tab := fun P ⟨ps, h1, h2, h3⟩ => by
    have noP : ∀ {Hx : Hp} {qs : Array Value}, Hx P = some (.tbl qs) → (∀ y, cl.lookup y = some P → Hx P = none ∨ ∃ v, Hx P = some (CellO P v)) → ¬ ∃ y, cl.lookup y = some P := fun {Hx qs} e k ⟨y, hy⟩ => by
      rcases k y hy with z | ⟨v, z⟩
      · rw [e] at z; cases z
      · rw [e] at z
        have z := Option.some.inj z
        unfold CellO at z
        cases z
    have n1 := noP h1 fun y hy => .inr (C.all y P hy)
    have t1 : TabN (strip H cl) P nmAll := ⟨ps, by rw [strip_out n1]; exact h1, h2, fun pos cv hc => by
      obtain ⟨c, e1, e2⟩ := h3 pos cv hc
      refine ⟨c, e1, ?_⟩
      rw [strip_out fun ⟨y, hy⟩ => se y c hy _ e2]
      exact e2⟩
    obtain ⟨qs, g1, g2, g3⟩ := f.tab P t1
    have n2 := noP g1 fun y hy => .inl (sh y P hy)
    refine ⟨qs, by rw [relay_out n2]; exact g1, g2, fun pos cv hc => ?_⟩
    obtain ⟨c, e1, e2⟩ := g3 pos cv hc
    refine ⟨c, e1, ?_⟩
    rw [relay_out fun ⟨y, hy⟩ => by rw [sh y c hy] at e2; cases e2]
    exact e2
  back := fun a h => by
    by_cases e : ∃ y, cl.lookup y = some a
    · obtain ⟨y, e⟩ := e
      rw [relay_in e] at h; exact h
    · rw [relay_out e] at h
      have q := f.back a h
      rw [strip_out e] at q
      exact q
theorem CellsT.ex (C : CellsT H cl fr vs) (e : ∀ a o, H a = some o → NT o → H' a = some o) : CellsT H' cl fr vs :=
  ⟨C.len, fun y c h => let ⟨v, z⟩ := C.all y c h; ⟨v, e _ _ z trivial⟩, C.inj, fun i y h => let ⟨c, v, h1, h2, h3⟩ := C.has i y h; ⟨c, v, h1, h2, e _ _ h3 trivial⟩⟩
end
section
variable {P : Program} {w : World} {K : PySem.W.Frag} {mg : Str → Option Value} {base : Heap} {k : Nat} {f : Addr} {F : NF} {ps fr : List Str} {sp : List (Option V) → Sp}
theorem run_T (Fn : NOk P w K mg base CX0 k f F ps fr sp) {A : Around} {outer : List Env} {s : Shared} {H : Hp} {us : List Value} {vs zs : List V} {Q : VK} {E : XK} (hr : Room k A) (e0 : Env0 P w K mg base A outer s H) (hf : H f = some (FnO f F)) (hc : H F.c = some (CodeO F.c F.qual)) (C : CellsT H F.cl fr zs) (r : Vals vs us)
    (h : Sep H F.cl → sp (zs.map some) vs (strip H F.cl) (fun v H' => Shut H' F.cl → Q v (relay H H' F.cl)) E) : codeAny (model P w) A (.call (.ref f) ⟨us, []⟩) (CR CX0 outer P w H s Q E) s := by
  have cellAt : ∀ y a, F.cl.lookup y = some a → ∃ v u, H a = some (CellO a v) ∧ L2.RelV v u ∧ s.heap.IsCell a (some u) := fun y a e => by
    obtain ⟨v, hv⟩ := C.all y a e
    obtain ⟨⟨u, r1, z⟩, _, _⟩ := e0.hok a _ hv
    exact ⟨v, u, hv, r1, z⟩
  have noFn : ¬ ∃ y, F.cl.lookup y = some f := fun ⟨y, e⟩ => by
    obtain ⟨v, u, _, _, o, ho, hd⟩ := cellAt y f e
    obtain ⟨od, sl, doc, pm, ctv, z⟩ := fnO_at e0.hok hf
    rw [z] at ho; cases ho; cases hd
  have sep : Sep H F.cl := fun y a e q z => by
    obtain ⟨v, u, _, _, o, ho, hd⟩ := cellAt y a e
    obtain ⟨c, oc, ws, t, e1, e2, e3, _⟩ := codeO_at e0.hok z
    cases e1
    rw [e2] at ho; cases ho
    rw [hd] at e3; cases e3
  have noC : ¬ ∃ y, F.cl.lookup y = some F.c := fun ⟨y, e⟩ => sep y _ e _ hc
  have outOf : ∀ {b : Addr} {o : HO}, H b = some o → (∀ v, o ≠ CellO b v) → strip H F.cl b = some o := fun {b o} e n => by
    rw [strip_out fun ⟨y, z⟩ => by
      obtain ⟨v, hv⟩ := C.all y b z
      rw [e] at hv
      exact n v (Option.some.inj hv)]
    exact e
  have hok1 : HOk P w (strip H F.cl) s.heap := fun a o q => by
    have na : ¬ ∃ y, F.cl.lookup y = some a := fun ⟨y, z⟩ => by rw [strip_in z] at q; cases q
    rw [strip_out na] at q
    refine (e0.hok a o q).stay (fun _ _ _ z => z) (fun b z => outOf z fun v q => ?_) (fun b xs z => outOf z fun v q => ?_)
    · unfold CellO at q; cases q
    · unfold CellO at q; cases q
  have e1 : Env0 P w K mg base A outer s (strip H F.cl) := ⟨e0.frames, e0.mod, fun b o q => ⟨(e0.bs b o q).1, strip_none (e0.bs b o q).2⟩, e0.bsz, e0.funs, fun b q => strip_none (e0.frf b q), hok1, e0.bare⟩
  have C1 : CellsAt F.cl fr (zs.map some) s.heap (strip H F.cl) := ⟨by rw [List.length_map]; exact C.len, fun y c e => by
      obtain ⟨v, u, _, _, z⟩ := cellAt y c e
      exact ⟨strip_in e, _, z⟩, C.inj, fun i y e => by
      obtain ⟨c, v, h1, h2, h3⟩ := C.has i y e
      refine ⟨c, h1, fun v' hv' => ?_⟩
      rw [List.getElem?_map, h2] at hv'
      cases hv'
      obtain ⟨⟨u, r1, z⟩, _, _⟩ := e0.hok c _ h3
      exact ⟨u, r1, z⟩⟩
  refine codeAny_mono (Fn.run A outer s (strip H F.cl) us vs (zs.map some) _ E hr e1 (by rw [strip_out noFn]; exact hf) (by rw [strip_out noC]; exact hc) C1 r (h sep)) fun rr s' hq => ?_
  cases rr with
  | error e => exact hq
  | ok fl =>
    cases fl with
    | next => exact hq
    | brk => exact hq
    | cont => exact hq
    | ret u =>
      obtain ⟨v, H', os, bare, un, hok, rv, q⟩ := hq
      have shut : Shut H' F.cl := fun y a e => by
        obtain ⟨_, _, _, _, o, ho, _⟩ := cellAt y a e
        exact un.free a o ho (strip_in e) (by simp)
      have key : ∀ {b : Addr} {o o' : HO}, H b = some o → (∀ v, o ≠ CellO b v) → (strip H F.cl b = some o → H' b = some o') → relay H H' F.cl b = some o' := fun {b o o'} e n g => by
        have z := outOf e n
        have z' : ¬ ∃ y, F.cl.lookup y = some b := fun ⟨y, q⟩ => by rw [strip_in q] at z; cases z
        rw [relay_out z']
        exact g z
      have un2 : Un (frs outer) [] H (relay H H' F.cl) s.heap s'.heap := by
        refine ⟨fun b o e n => un.keep b o e (strip_none n), fun b o e n => un.slot b o e (strip_none n), fun b o e n hx => ?_, un.there, fun b xs e => ?_, fun b o u e => ?_, fun b ps e => ?_⟩
        · by_cases z : ∃ y, F.cl.lookup y = some b
          · obtain ⟨y, z⟩ := z
            rw [relay_in z]; exact n
          · rw [relay_out z]; exact un.free b o e (strip_none n) hx
        · exact key e (fun v q => by unfold CellO at q; cases q) (un.tups b xs)
        · exact key e (fun v q => by unfold CellO at q; cases q) (un.frzs b o u)
        · have z := outOf e fun v q => by unfold CellO at q; cases q
          obtain ⟨more, hm⟩ := un.tbls b ps z
          exact ⟨more, key e (fun v q => by unfold CellO at q; cases q) fun _ => hm⟩
      have inR : ∀ {b : Addr} {o : HO}, H' b = some o → relay H H' F.cl b = some o := fun {b o} e => by
        rw [relay_out fun ⟨y, z⟩ => by rw [shut y b z] at e; cases e]
        exact e
      refine ⟨v, relay H H' F.cl, os, bare, un2, fun a o e => ?_, rv, q shut⟩
      by_cases z : ∃ y, F.cl.lookup y = some a
      · obtain ⟨y, z⟩ := z
        rw [relay_in z] at e
        obtain ⟨v1, u1, h1, r1, ob, ho, hd⟩ := cellAt y a z
        rw [h1] at e; cases e
        have nf : a ∉ frs outer := fun q => by rw [e0.frf a q] at h1; cases h1
        exact cellO_ok r1 ⟨ob, un.keep a ob ho (strip_in z) nf (by simp), hd⟩
      · rw [relay_out z] at e
        exact (hok a o e).stay (fun _ _ _ q => q) (fun b q => inR q) fun b xs q => inR q
/-- f(..), f a name that holds a function whose cells are tracked -/
def tCallT (F : NF) (i : Nat) (fr : List Str) (sp : Addr → List (Option V) → Sp) (t : TA) : TE := fun σ H Q => ∃ f zs, σ[i]? = some (some (.ref f)) ∧ H f = some (FnO f F) ∧
  t σ H fun vs H1 => H1 f = some (FnO f F) ∧ H1 F.c = some (CodeO F.c F.qual) ∧ CellsT H1 F.cl fr zs ∧ (Sep H1 F.cl → sp f (zs.map some) vs (strip H1 F.cl) (fun v H' => Shut H' F.cl → Q v (relay H1 H' F.cl)) E0)
theorem pe_callT {X : Cx} {i j : Nat} {x : Str} {p pos : Pos} {e : Expr} {es : List Expr} {t : TA} {sp : Addr → List (Option V) → Sp} (Fn : ∀ f, NOk X.prog X.w X.K X.mg X.base CX0 k f F ps fr (sp f)) (hr : Room j X.A) (hk : k ≤ j) (hN : X.N[i]? = some x) (hv : Vis X.env.scope x) (ha : PA X (e :: es) t)
    (hd : (x == ("__debug__" : Str)) = false := by decide) (hcd : (x == ("__classdict__" : Str)) = false := by decide)
    (he : starEach (e :: es) X.env = (false, eval e X.env) :: starEach es X.env := by rfl) (hpl : (backTo pos (starEach es X.env)).any (·.1) = false := by rfl) :
    PE X (.Call (.Name x p) (e :: es) [] pos) (tCallT F i fr sp t) := by
  refine ⟨fun pins s σ H Q I h => ?_⟩
  obtain ⟨f, zs, hs, hf, ht⟩ := h
  refine wpAny_Call_Name_kw (thn ((pe_var (pos := p) hN hv hd hcd).run pins s σ H (fun v H1 => v = .ref f ∧ H1 = H) I ⟨.ref f, hs, rfl, rfl⟩) fun u s1 ⟨v, H1, I1, r1, q1⟩ => ?_)
  obtain ⟨ev, eH⟩ := q1
  subst ev
  rw [eH] at I1
  obtain rfl : u = Value.ref f := r1
  refine PySem.W.callWith_F (first := []) (fnAt_of I1 hf) (thn (ha.run pos pins s1 σ H _ I1 ht) fun us s2 ⟨vs, H2, I2, r, h1, h2, C, q⟩ => ⟨fnAt_of I2 h1, ?_⟩) he hpl
  show wpAny _ _ (call (.ref f) us) _ _ _
  refine wpAny_call (codeAny_mono (run_T (Fn f) (hr.mono hk) I2.env0 h1 h2 C r q) fun r s' hq => ?_)
  cases r with
  | error e => exact False.elim hq
  | ok fl =>
    cases fl with
    | ret u => exact I2.after hq
    | next => exact False.elim hq
    | brk => exact False.elim hq
    | cont => exact False.elim hq
end
end Nn

/-! A def that makes a function and tells it. -/
namespace Nn
open PySem PySem.Spec PyProof.Rows L2 NdefX LamX
/-- a def whose code object is known -/
structure FunC (K : PySem.W.Frag) (x qual : Str) (st : Stmt) (f : Addr) (fd : FuncData) (c : Addr) : Prop where
  ex : ∃ (oc : Value) (od : Option Addr) (kV doc pm : Value) (an : Option Addr) (ct : Value) (osl : Array (Option Value)),
    fd = PySem.W.fnOf x qual (defArgs st) (defBody st) (defScope st) .none kV doc pm an (.ref c) ct ∧ K.lookup f = some ⟨oc, od, .func fd, osl⟩ ∧ PySem.W.codeIn K (.ref c) qual = true
theorem func_of {K : PySem.W.Frag} {x qual : Str} {st : Stmt} {p : He.Defn} {fd : FuncData} (F : FunD K x qual (defArgs st) (defBody st) (defScope st) [] [] (He.fAd K p) fd) : FunC K x qual st (He.fAd K p) fd (He.codeOf K p) := by
  obtain ⟨oc, od, dV, kV, doc, pm, an, cdv, ct, osl, rfl, lk, hcd, hD, hK⟩ := F.ex
  rcases hD with ⟨_, rfl⟩ | ⟨e, _⟩
  · obtain ⟨c, rfl⟩ := He.codeIn_ref hcd
    rw [He.codeOf_eq lk rfl]
    exact ⟨oc, od, kV, doc, pm, an, ct, osl, rfl, lk, hcd⟩
  · exact absurd rfl e
theorem FunC.okC {P : Program} {w : World} {K : PySem.W.Frag} {mg : Str → Option Value} {base : Heap} {x qual : Str} {st : Stmt} {f c : Addr} {fd : FuncData} {N ps : List Str} {k : Nat} {sp : Sp} (F : FunC K x qual st f fd c) (S : FnScope N ps (defScope st)) (len : ∀ vs H Q E, sp vs H Q E → vs.length = ps.length)
    (hbody : ∀ (A : Around) (outer : List Env) (s : Shared) (H : Hp) (vs : List V) (Q : VK) (E : XK), Room k (A.deeper (envOfC qual (defScope st) s.heap.objs.size f (.ref c))) → sp vs H Q E →
      ∃ t, PSs (cxOf CX0 P w K mg base N qual (defScope st) f (.ref c) A outer s H E).nox (defBody st) t ∧ t { nx := fun _ H' => Q .non H', rt := Q } (start N vs) H) : FnOk P w K mg base CX0 (k + 1) f fd ps sp := by
  obtain ⟨oc, od, kV, doc, pm, an, ct, osl, rfl, lk, hcd⟩ := F.ex
  refine fn_of lk hcd S len fun A outer s H vs Q E hr hsp => ?_
  obtain ⟨t, h, q⟩ := hbody A outer s H vs Q E hr hsp
  exact ⟨t, h.nox, q⟩
/-- the reading of a nested def: all tables are told of -/
def tNdefA (P : Addr) (i : Nat) (mk : Addr → NF) : TS := fun D σ H => TabN H P nmAll ∧ ∀ (f c' : Addr) (H1 : Hp), Ex H H1 → H f = none → H1 f = some (FnO f (mk c')) → H1 c' = some (CodeO c' (mk c').qual) → D.nx (σ.set i (some (.ref f))) H1
open Classical in
theorem ps_ndefA {X : Cx} {st : Stmt} {c P : Addr} {name : Str} {pos : Pos} {i : Nat} (hst : st = .FunctionDef name (C8.fnArgs st) (C8.fnBody st) [] none [] (C8.fnScope st) none name pos) (TB : TabB X.base X.mg c P) (hcode : X.env.code = .ref c) (hn : nmAll pos.line pos.col = X.env.qual ++ name)
    (hfree : ∀ y ∈ (C8.fnScope st).names, y.2 = .free → X.env.scope.names.lookup y.1 = some .cell ∨ X.env.scope.names.lookup y.1 = some .free) (hd0 : (C8.fnArgs st).defaults = []) (hk0 : (C8.fnArgs st).kw_defaults = []) (ha : annTrees (C8.fnArgs st) none X.env = [])
    (hN : X.N.Nodup) (hi : X.N[i]? = some name) (hx : Loc X.env.scope name) (hf : X.fn name = true ∨ X.env.scope.names.lookup name = some .local) :
    PS X st (tNdefA P i (NF.of st name (X.env.qual ++ name) (cloFrom X.env.cells (C8.fnScope st).names []))) := by
  refine ⟨fun pins s σ H D I h => ?_⟩
  obtain ⟨hT, h⟩ := h
  have lt : ∀ P', TabN H P' nmAll → P' < s.heap.objs.size := fun P' ⟨ps, e, _⟩ => I.hok.lt e
  have mem : ∀ P', TabN H P' nmAll → (P', nmAll) ∈ ((List.range s.heap.objs.size).filter fun P' => decide (TabN H P' nmAll)).map fun P' => (P', nmAll) := fun P' t =>
    List.mem_map.mpr ⟨P', List.mem_filter.mpr ⟨List.mem_range.mpr (lt P' t), decide_eq_true t⟩, rfl⟩
  refine (ps_ndefMS (T := ((List.range s.heap.objs.size).filter fun P' => decide (TabN H P' nmAll)).map fun P' => (P', nmAll)) (nm := nmAll) hst TB hcode (mem P hT) hn (fun p hp _ => ?_) hfree hd0 hk0 ha hN hi hx hf).run pins s σ H D I ⟨fun p hp => ?_, fun f c' H1 eN nn T1 f0 f1 c1 => h f c' H1 ⟨fun a o e n _ => eN a o e fun ps z => by rw [z] at n; exact n, fun P' t => T1 _ (mem P' t), nn⟩ f0 f1 c1⟩
  · obtain ⟨_, _, rfl⟩ := List.mem_map.mp hp; rfl
  · obtain ⟨P', hp2, rfl⟩ := List.mem_map.mp hp
    have q := (List.mem_filter.mp hp2).2
    simpa using q
open Classical in
noncomputable def layC (H : Hp) (cl : List (Str × Addr)) (fr : List Str) (zs : List V) : Hp := fun b =>
  if h : ∃ v, ∃ (i : Nat) (y : Str), fr[i]? = some y ∧ cl.lookup y = some b ∧ zs[i]? = some v then some (CellO b h.choose) else H b
theorem slot_set {σ : L2.St} {i j : Nat} {v : Option V} (h : i ≠ j) : NdefX.slotAt (σ.set i v) j = NdefX.slotAt σ j := by
  unfold NdefX.slotAt
  rw [List.getElem?_set_ne h]
theorem FunC.okMk {P : Program} {w : World} {K : PySem.W.Frag} {mg : Str → Option Value} {base : Heap} {x qual nm : Str} {st st1 : Stmt} {p1 p2 pos : Pos} {f c Pt : Addr} {fd : FuncData} {N ps fr : List Str} {js : List Nat} {i k : Nat} {sp : Sp}
    (F : FunC K x qual st f fd c) (S : FnScope N ps (defScope st)) (hb : defBody st = [st1, .Return (some (.Name nm p1)) p2]) (TB : TabB base mg c Pt) (hst : st1 = .FunctionDef nm (C8.fnArgs st1) (C8.fnBody st1) [] none [] (C8.fnScope st1) none nm pos)
    (hn : nmAll pos.line pos.col = (qual ++ ".<locals>.") ++ nm) (hB : ndefB (defScope st) (C8.fnScope st1) fr = true) (hfa : ∀ y ∈ (C8.fnScope st1).names, y.2 = .free → y.1 ∈ fr) (nd : fr.Nodup) (hd0 : (C8.fnArgs st1).defaults = []) (hk0 : (C8.fnArgs st1).kw_defaults = [])
    (ha : ∀ env, annTrees (C8.fnArgs st1) none env = []) (hi : N[i]? = some nm) (hloc : (defScope st).names.lookup nm = some .local) (hjs : js.map (fun j => N[j]?) = fr.map some) (hji : i ∉ js) (len : ∀ vs H Q E, sp vs H Q E → vs.length = ps.length)
    (hsp : ∀ vs H Q E, sp vs H Q E → TabN H Pt nmAll ∧ ∃ zs : List V, js.map (NdefX.slotAt (start N vs)) = zs.map some ∧ ∀ f' cl c' H', Ex H H' → H f' = none →
      H' f' = some (FnO f' (NF.of st1 nm ((qual ++ ".<locals>.") ++ nm) cl c')) → H' c' = some (CodeO c' ((qual ++ ".<locals>.") ++ nm)) → CellsT H' cl fr zs → Q (.ref f') H')
    (hnd : (nm == ("__debug__" : Str)) = false := by decide) (hcd' : (nm == ("__classdict__" : Str)) = false := by decide) : FnOk P w K mg base CX0 (k + 1) f fd ps sp := by
  obtain ⟨oc, od, kV, doc, pm, an, ct, osl, rfl, lk, hcd⟩ := F.ex
  refine ⟨len, fun A outer s H args us vs Q E hr e0 hbi r hs0 => ?_⟩
  have hl := len _ _ _ _ hs0
  have KX : K.In s.heap := e0.mod.kin.keeps fun b o e => (e0.bs b o e).1
  have lim : s.heap.NoLimit := e0.mod.nolimit.keeps fun b o e => (e0.bs b o e).1
  have hkind : ∀ y ∈ ps.zip us, (defScope st).names.lookup y.1 = some .local ∨ ((defScope st).names.lookup y.1 = some .cell ∧ ((cellsFrom (s.heap.objs.size + 1) (defScope st).names []).lookup y.1).isSome = true) := fun ⟨n, v⟩ hy => by
    rcases S.par n (List.of_mem_zip hy).1 with q | q
    · exact .inl q
    · exact .inr ⟨q, PySem.W.cellsFrom_some _ _ _ (.inl q)⟩
  refine codeAny_call_function hr.depth (KX _ _ lk) rfl S.co S.gen rfl (PySem.W.codeRec_of KX hcd) (hbi _ _ _ _ ?_)
  refine wpAny_newFunctionEnv_cells S.kind hkind fun env he s1 x => ?_
  subst he
  refine ⟨lim.keeps x.toInCall.keep, codeAny_func ?_⟩
  have I : Inv (cxOf CX0 P w K mg base N qual (defScope st) f (.ref c) A outer s H E) [] (start N vs) H s1 := inv_start S hr.hd e0 hl r x
  obtain ⟨hT3, zs, hz, hend⟩ := hsp vs H Q E hs0
  have h1 := ps_ndefA (X := cxOf CX0 P w K mg base N qual (defScope st) f (.ref c) A outer s H E) (i := i) hst TB rfl hn (ndef_free hB) hd0 hk0 (ha _) S.nd hi (.inl hloc) (.inl rfl)
  rw [hb]
  refine wpAny_execs_cons (wpAny_mono (h1.run [] s1 (start N vs) H { nx := fun σ' H1 => ∃ f' c', σ' = (start N vs).set i (some (.ref f')) ∧ Ex H H1 ∧ H f' = none ∧ H1 f' = some (FnO f' (NF.of st1 nm ((qual ++ ".<locals>.") ++ nm) (cloFrom (cellsFrom (s.heap.objs.size + 1) (defScope st).names []) (C8.fnScope st1).names []) c')) ∧ H1 c' = some (CodeO c' ((qual ++ ".<locals>.") ++ nm)), rt := fun _ _ => False } I
    ⟨hT3, fun f' c' H1 eN f0 f1 c1 => ⟨f', c', rfl, eN, f0, f1, c1⟩⟩) (fun fl s2 hs => ?_) fun e s' hs => hs)
  cases fl with
  | ret u => obtain ⟨_, _, _, _, _, q⟩ := hs; exact q.elim
  | brk => obtain ⟨_, _, _, q⟩ := hs; exact q.elim
  | cont => obtain ⟨_, _, _, q⟩ := hs; exact q.elim
  | next =>
    obtain ⟨σ', H1, J, f', c', rfl, eN, f0, f1, c1⟩ := hs
    have hlen : i < (start N vs).length := by
      have q := I.len
      rw [q]
      exact (List.getElem?_eq_some_iff.mp hi).1
    refine wpAny_execs_cons (wpAny_Return_some (thn ((pe_var (X := cxOf CX0 P w K mg base N qual (defScope st) f (.ref c) A outer s H E) (pos := p1) hi (.inl hloc) hnd hcd').run [] s2 _ H1 (fun v H2 => v = .ref f' ∧ H2 = H1) J ⟨.ref f', List.getElem?_set_self hlen, rfl, rfl⟩) fun u s3 ⟨v, H2, J2, rv, ev, eH⟩ => ?_))
    subst ev
    rw [eH] at J2
    have cp : Caps (cxOf CX0 P w K mg base N qual (defScope st) f (.ref c) A outer s H E) (cloFrom (cellsFrom (s.heap.objs.size + 1) (defScope st).names []) (C8.fnScope st1).names []) fr js := Caps.made J2.ok (ndef_free hB) (ndef_fr hB) hjs
    have C := cells_of J2 cp
    have eσ : js.map (NdefX.slotAt ((start N vs).set i (some (.ref f')))) = zs.map some := by
      rw [← hz]
      exact List.map_congr_left fun j hj => slot_set fun e => hji (e ▸ hj)
    rw [eσ] at C
    generalize hcl : cloFrom (cellsFrom (s.heap.objs.size + 1) (defScope st).names []) (C8.fnScope st1).names [] = cl at f1 C cp
    have new : ∀ y b, cl.lookup y = some b → s.heap.objs.size ≤ b := fun y b e => J2.ok.cab y b rfl (cp.sub y b e)
    have hH1 : ∀ y b, cl.lookup y = some b → H1 b = none := fun y b e => (C.all y b e).1
    have spec : ∀ {b : Addr} {v : V}, (∃ (i : Nat) (y : Str), fr[i]? = some y ∧ cl.lookup y = some b ∧ zs[i]? = some v) → ∃ u, L2.RelV v u ∧ s3.heap.IsCell b (some u) := fun {b v} ⟨j, y, h1, h2, h3⟩ => by
      obtain ⟨a, ha, hv⟩ := C.has j y h1
      rw [h2] at ha; cases ha
      exact hv v (by rw [List.getElem?_map, h3]; rfl)
    have outL : ∀ {b : Addr}, (¬ ∃ y, cl.lookup y = some b) → layC H1 cl fr zs b = H1 b := fun {b} n => by
      unfold layC
      rw [dif_neg]
      rintro ⟨v, j, y, _, h2, _⟩
      exact n ⟨y, h2⟩
    have atL : ∀ {b : Addr} {o : HO}, H1 b = some o → layC H1 cl fr zs b = some o := fun {b o} e => by
      rw [outL fun ⟨y, z⟩ => by rw [hH1 y b z] at e; cases e]
      exact e
    have inL : ∀ {b : Addr} {v : V} {j : Nat} {y : Str}, fr[j]? = some y → cl.lookup y = some b → zs[j]? = some v → layC H1 cl fr zs b = some (CellO b v) := fun {b v j y} h1 h2 h3 => by
      have hx : ∃ v, ∃ (i : Nat) (y : Str), fr[i]? = some y ∧ cl.lookup y = some b ∧ zs[i]? = some v := ⟨v, j, y, h1, h2, h3⟩
      unfold layC
      rw [dif_pos hx]
      obtain ⟨j2, y2, g1, g2, g3⟩ := hx.choose_spec
      have ey : y2 = y := C.inj y2 y b g2 h2
      rw [ey] at g1
      have hjl : j < fr.length := (List.getElem?_eq_some_iff.mp h1).1
      have ej : j = j2 := (List.getElem?_inj hjl nd).mp (h1.trans g1.symm)
      rw [← ej, h3] at g3
      rw [Option.some.inj g3]
    have hfull : ∀ y b, cl.lookup y = some b → ∃ (j : Nat) (v : V), fr[j]? = some y ∧ zs[j]? = some v := fun y b e => by
      have hmem : y ∈ fr := by
        rw [← hcl] at e
        rcases cloFrom_mem (PySem.mem_of_lookup e) with hm | ⟨h1, _⟩
        · cases hm
        · exact hfa _ h1 rfl
      obtain ⟨j, hj⟩ := List.getElem?_of_mem hmem
      have hjz : j < zs.length := by
        have q := C.len
        rw [List.length_map] at q
        rw [q]
        exact (List.getElem?_eq_some_iff.mp hj).1
      exact ⟨j, zs[j], hj, List.getElem?_eq_getElem hjz⟩
    have cT : CellsT (layC H1 cl fr zs) cl fr zs := ⟨by have q := C.len; rw [List.length_map] at q; exact q, fun y b e => by
        obtain ⟨j, v, h1, h3⟩ := hfull y b e
        exact ⟨v, inL h1 e h3⟩, C.inj, fun j y h1 => by
        obtain ⟨b, hb, _⟩ := C.has j y h1
        obtain ⟨j2, v, g1, g3⟩ := hfull y b hb
        have hjl : j < fr.length := (List.getElem?_eq_some_iff.mp h1).1
        have ej : j = j2 := (List.getElem?_inj hjl nd).mp (h1.trans g1.symm)
        rw [← ej] at g3
        exact ⟨b, v, hb, g3, inL h1 hb g3⟩⟩
    have un : Un (frs outer) [] H H1 s.heap s3.heap := J2.base
    have un2 : Un (frs outer) [] H (layC H1 cl fr zs) s.heap s3.heap := ⟨un.keep, un.slot, fun b o e n hx => by
        rw [outL fun ⟨y, z⟩ => absurd (Heap.lt_size e) (Nat.not_lt_of_le (new y b z))]
        exact un.free b o e n hx, un.there, fun b xs e => atL (un.tups b xs e), fun b o u e => atL (un.frzs b o u e), fun b ps e => by
        obtain ⟨more, hm⟩ := un.tbls b ps e
        exact ⟨more, atL hm⟩⟩
    refine (show CE outer P w H s Q u s3 from ⟨.ref f', layC H1 cl fr zs, J2.os, J2.bare, un2, fun a o e => ?_, rv, hend f' cl c' _ ⟨fun b o e n s => atL (eN.keep b o e n s), fun P' t => (eN.tab P' t).ext fun b o e => atL e, fun b e => ?_⟩ f0 (atL f1) (atL c1) cT⟩)
    · by_cases z : ∃ y, cl.lookup y = some a
      · obtain ⟨y, z⟩ := z
        obtain ⟨j, v, h1, h3⟩ := hfull y a z
        rw [inL h1 z h3] at e
        cases e
        obtain ⟨u1, r1, hc⟩ := spec ⟨j, y, h1, z, h3⟩
        exact cellO_ok r1 hc
      · rw [outL z] at e
        exact (J2.hok a o e).stay (fun _ _ _ q => q) (fun b q => atL q) fun b xs q => atL q
    · by_cases z : ∃ y, cl.lookup y = some b
      · obtain ⟨y, z⟩ := z
        obtain ⟨j, v, h1, h3⟩ := hfull y b z
        rw [inL h1 z h3] at e
        cases e
      · rw [outL z] at e
        exact eN.back b e
end Nn

namespace Nn
open PySem L2
structure Tx (K : PySem.W.Frag) (mg : Str → Option Value) (base : Heap) where
  a_Bucket_init : Addr
  d_Bucket_init : FuncData
  F_Bucket_init : FunD K "__init__" "Bucket.__init__" (defArgs s_Bucket_init) (defBody s_Bucket_init) (defScope s_Bucket_init) [] [] a_Bucket_init d_Bucket_init
  b_Bucket_init : Binds K d_Bucket_init ["self", "room"] []
  a_Bucket_names : Addr
  d_Bucket_names : FuncData
  F_Bucket_names : FunD K "names" "Bucket.names" (defArgs s_Bucket_names) (defBody s_Bucket_names) (defScope s_Bucket_names) [] [] a_Bucket_names d_Bucket_names
  b_Bucket_names : Binds K d_Bucket_names ["self"] []
  a_Bucket_hears : Addr
  d_Bucket_hears : FuncData
  F_Bucket_hears : FunD K "hears" "Bucket.hears" (defArgs s_Bucket_hears) (defBody s_Bucket_hears) (defScope s_Bucket_hears) [] [] a_Bucket_hears d_Bucket_hears
  b_Bucket_hears : Binds K d_Bucket_hears ["self", "name", "answers"] []
  a_Bucket_drops : Addr
  d_Bucket_drops : FuncData
  F_Bucket_drops : FunD K "drops" "Bucket.drops" (defArgs s_Bucket_drops) (defBody s_Bucket_drops) (defScope s_Bucket_drops) [] [] a_Bucket_drops d_Bucket_drops
  b_Bucket_drops : Binds K d_Bucket_drops ["self", "name"] []
  a_l_cell_at : Addr
  d_l_cell_at : FuncData
  F_l_cell_at : FunD K "_law_cell_at" "_law_cell_at" (defArgs s_l_cell_at) (defBody s_l_cell_at) (defScope s_l_cell_at) [] [] a_l_cell_at d_l_cell_at
  b_l_cell_at : Binds K d_l_cell_at ["_law_script", "_law_k"] []
  m_l_cell_at : mg "_law_cell_at" = some (.ref a_l_cell_at)
  a_l_mixed : Addr
  d_l_mixed : FuncData
  F_l_mixed : FunD K "_law_mixed" "_law_mixed" (defArgs s_l_mixed) (defBody s_l_mixed) (defScope s_l_mixed) [] [] a_l_mixed d_l_mixed
  b_l_mixed : Binds K d_l_mixed ["_law_cell", "_law_k"] []
  m_l_mixed : mg "_law_mixed" = some (.ref a_l_mixed)
  a_l_deeds : Addr
  d_l_deeds : FuncData
  F_l_deeds : FunD K "_law_deeds" "_law_deeds" (defArgs s_l_deeds) (defBody s_l_deeds) (defScope s_l_deeds) [] [] a_l_deeds d_l_deeds
  b_l_deeds : Binds K d_l_deeds ["_law_script", "_law_room"] []
  m_l_deeds : mg "_law_deeds" = some (.ref a_l_deeds)
  a_l_heard : Addr
  d_l_heard : FuncData
  F_l_heard : FunD K "_law_heard" "_law_heard" (defArgs s_l_heard) (defBody s_l_heard) (defScope s_l_heard) [] [] a_l_heard d_l_heard
  b_l_heard : Binds K d_l_heard ["_law_line", "_law_room", "_law_name", "_law_silent"] []
  m_l_heard : mg "_law_heard" = some (.ref a_l_heard)
  a_l_asker : Addr
  d_l_asker : FuncData
  F_l_asker : FunD K "_law_asker" "_law_asker" (defArgs s_l_asker) (defBody s_l_asker) (defScope s_l_asker) [] [] a_l_asker d_l_asker
  b_l_asker : Binds K d_l_asker ["_law_calls", "_law_silent"] []
  m_l_asker : mg "_law_asker" = some (.ref a_l_asker)
  a_law : Addr
  d_law : FuncData
  F_law : FunD K "law" "law" (defArgs s_law) (defBody s_law) (defScope s_law) [] [] a_law d_law
  b_law : Binds K d_law ["_law_script"] []
  m_law : mg "law" = some (.ref a_law)
  C_Bucket : Addr
  c_Bucket : Cls K C_Bucket
  m_Bucket : mg "Bucket" = some (.ref C_Bucket)
  M_Bucket : Mk K C_Bucket a_Bucket_init
  n_Bucket_room : NoAttr K C_Bucket "room"
  n_Bucket_line : NoAttr K C_Bucket "line"
  t_Bucket_names : Meth K C_Bucket "names" a_Bucket_names
  t_Bucket_hears : Meth K C_Bucket "hears" a_Bucket_hears
  t_Bucket_drops : Meth K C_Bucket "drops" a_Bucket_drops
  z_abs : mg "abs" = none
  z_bool : mg "bool" = none
  z_enumerate : mg "enumerate" = none
  z_isinstance : mg "isinstance" = none
  z_len : mg "len" = none
  z_list : mg "list" = none
  k_l_asker : Addr
  P_l_asker : Addr
  tb_l_asker : LamX.TabB base mg k_l_asker P_l_asker
  FC_l_asker : FunC K "_law_asker" "_law_asker" s_l_asker a_l_asker d_l_asker k_l_asker
  z0_l_asker : ∀ H : Hp, Tabs0 K H → H P_l_asker = some (.tbl #[])
def tabsL {K : PySem.W.Frag} {mg : Str → Option Value} {base : Heap} (T : Tx K mg base) : List NdefX.NTab := [(T.P_l_asker, nmAll)]
theorem tabm_l_asker {K : PySem.W.Frag} {mg : Str → Option Value} {base : Heap} {T : Tx K mg base} : (T.P_l_asker, nmAll) ∈ tabsL T := by simp [tabsL]
theorem tabnm {K : PySem.W.Frag} {mg : Str → Option Value} {base : Heap} {T : Tx K mg base} : ∀ p ∈ tabsL T, p.2 = nmAll := by simp [tabsL]
theorem Fr.tabs {K : PySem.W.Frag} {mg : Str → Option Value} {base : Heap} {T : Tx K mg base} {S : Addr → Prop} {H H' : Hp} (f : Fr S H H') (t : NdefX.TabsN (tabsL T) H) : NdefX.TabsN (tabsL T) H' := fun p hp => by
  have e := tabnm p hp
  have q := t p hp
  rw [e] at q ⊢
  exact f.tab p.1 q
theorem tabs0 {K : PySem.W.Frag} {mg : Str → Option Value} {base : Heap} {T : Tx K mg base} {H : Hp} (h : Tabs0 K H) : NdefX.TabsN (tabsL T) H := by
  unfold NdefX.TabsN tabsL
  simp only [List.mem_cons, List.not_mem_nil, or_false, forall_eq_or_imp, forall_eq, false_imp_iff, implies_true]
  exact NdefX.TabN.nil (T.z0_l_asker H h)
end Nn
local macro_rules | `(tactic| walk_at "wz") => `(tactic| dsimp only [↓Nn.e_next, ↓Nn.e_asg, ↓Nn.e_name, ↓Nn.e_ret, ↓Nn.e_retN, ↓Nn.e_drop, ↓Nn.e_ifS, ↓Nn.e_IT, ↓Nn.e_IF, ↓Nn.e_INT, ↓Nn.e_INF, ↓Nn.e_if, ↓Nn.e_varS, ↓Nn.e_c, ↓Nn.e_op, ↓Nn.e_un, ↓Nn.e_cb, ↓Nn.e_nil, ↓Nn.e_cons, ↓Nn.e_test, ↓Nn.e_B, ↓Nn.e_and, ↓Nn.e_or, ↓Nn.e_not, ↓Nn.e_andV, ↓Nn.e_orV, ↓Nn.e_notV, ↓Nn.e_chain, ↓Nn.e_for, ↓Nn.e_fld, ↓Nn.e_sfld, ↓Nn.e_meth, ↓Nn.e_make, ↓Nn.e_sl, ↓Nn.e_nopart, ↓Nn.e_part, ↓Nn.e_dget, ↓Nn.e_din, ↓Nn.e_dnin, ↓Nn.e_dput, ↓Nn.e_dnew, ↓Nn.e_bits, ↓Nn.e_lc, ↓Nn.e_wipe0, ↓Nn.e_wipe1, ↓Nn.e_yes, ↓Nn.e_rng1, ↓Nn.e_rng2, ↓Nn.e_rng3, ↓Nn.e_iList, ↓Nn.e_iTup, ↓Nn.e_iEnum, ↓Nn.e_iZip, ↓Nn.e_bm, ↓Nn.e_bm0, ↓Nn.e_tup, ↓Nn.e_lst, ↓Nn.e_calld, ↓Nn.e_T, ↓Nn.e_F, ↓Nn.e_NT, ↓Nn.e_NF, ↓List.set_cons_zero, ↓List.set_cons_succ, ↓List.cons_append, ↓List.nil_append])
local macro_rules | `(tactic| walk_at "wx") => `(tactic| repeat (walk_at "wx1"))
local macro_rules | `(tactic| walk_at "wx1") => `(tactic| (first
  | with_reducible refine Nn.x_v0 ?_
  | with_reducible refine Nn.x_seq ?_
  | walk_at "wz"
  | with_reducible refine Nn.x_bl ?_
  | with_reducible refine Nn.x_i0 ?_
  | ((with_reducible refine Nn.x_i ?_ ?_); (focus (walk_at "wside")))
  | with_reducible refine Nn.x_eqI ?_
  | with_reducible refine Nn.x_neI ?_
  | with_reducible refine Nn.x_INs ?_
  | with_reducible refine Nn.x_IEs ?_
  | with_reducible refine Nn.x_NEs ?_
  | with_reducible refine Nn.x_Es ?_
  | with_reducible refine Nn.x_whT ?_
  | with_reducible refine Nn.x_whF ?_
  | walk_at "wx2"))
local macro_rules | `(tactic| walk_at "wx2") => `(tactic| (first
  | ((with_reducible refine' Nn.x_ixL ?hS ?hA ?_); (case hS => walk_at "wsq"); (case hA => walk_at "wat"))
  | ((with_reducible refine' Nn.x_ixT ?hS ?hA ?_); (case hS => walk_at "wsqt"); (case hA => walk_at "wat"))
  | ((with_reducible refine' Nn.x_lenL ?hS ?_); (case hS => walk_at "wsq"))
  | ((with_reducible refine' Nn.x_lenT ?hS ?_); (case hS => walk_at "wsqt"))
  | ((with_reducible refine' Nn.x_tyL ?hS ?_); (case hS => walk_at "wsq"))
  | ((with_reducible refine' Nn.x_append ?hS ?hA ?_); (case hS => walk_at "wob"); (case hA => walk_at "wlen"))
  | ((with_reducible refine' Nn.x_gTup ?hS ?hA ?_); (case hS => walk_at "wsqt"); (case hA => rfl))
  | with_reducible refine Nn.x_gCons ?_
  | with_reducible refine Nn.x_gNil ?_
  | ((with_reducible refine' Nn.x_shl1 ?hS ?hA ?_); (case hS => walk_at "wnat"); (case hA => omega))
  | ((with_reducible refine Nn.x_rgN ?_ ?_); (focus (walk_at "wside")))
  | ((with_reducible refine Nn.x_rgDown ?_ ?_); (focus (walk_at "wside")))
  | ((with_reducible refine' Nn.x_itL ?hS ?_); (case hS => walk_at "wsq"))
  | ((with_reducible refine' Nn.x_itT ?hS ?_); (case hS => walk_at "wsqt"))
  | ((with_reducible refine' Nn.x_enL ?hS ?_); (case hS => walk_at "wsq"))
  | ((with_reducible refine' Nn.x_ziL ?hS ?hA ?_); (case hS => walk_at "wsq"); (case hA => walk_at "wsq"))
  | ((with_reducible refine' Nn.x_lenD ?hS ?_); (case hS => walk_at "wob"))
  | ((with_reducible refine' Nn.x_shrN ?hS ?hA ?_); (case hS => walk_at "wnat"); (case hA => walk_at "wnat"))
  | ((with_reducible refine' Nn.x_xorN ?hS ?hA ?_); (case hS => walk_at "wnat"); (case hA => walk_at "wnat"))
  | ((with_reducible refine' Nn.x_shlN ?hS ?hA ?hB ?hC ?_); (case hS => walk_at "wnat"); (case hA => walk_at "wnat"); (case hB => walk_at "wpre"); (case hC => walk_at "wpre"))
  | with_reducible refine Nn.x_bits ?_
  | ((with_reducible refine' Nn.x_eqLN ?hS ?hA ?_); (case hS => walk_at "wsq"); (case hA => walk_at "wsq"))
  | ((with_reducible refine' Nn.x_neLN ?hS ?hA ?_); (case hS => walk_at "wsq"); (case hA => walk_at "wsq"))
  | ((with_reducible refine' Nn.x_dget ?hS ?hA ?_); (case hS => walk_at "wob"); (case hA => walk_at "wat"))
  | ((with_reducible refine' Nn.x_din ?hS ?_); (case hS => walk_at "wob"))
  | ((with_reducible refine' Nn.x_dnin ?hS ?_); (case hS => walk_at "wob"))
  | ((with_reducible refine' Nn.x_dput ?hS ?hA ?_); (case hS => walk_at "wob"); (case hA => walk_at "wlen"))
  | ((with_reducible refine' Nn.x_fld ?hS ?hA ?hB ?hC ?_); (case hS => walk_at "wob"); (case hA => assumption); (case hB => assumption); (case hC => walk_at "wlk"))
  | ((with_reducible refine' Nn.x_sfld ?hS ?hA ?hB ?hE ?hC ?_); (case hS => walk_at "wob"); (case hA => assumption); (case hB => assumption); (case hE => walk_at "wput"); (case hC => rfl))
  | ((with_reducible refine' Nn.x_meth ?hS ?hA ?_); (case hS => walk_at "wob"); (case hA => walk_at "wnolk"))
  | ((with_reducible refine' Nn.x_inN ?hS ?hA ?_); (case hS => walk_at "wnat"); (case hA => walk_at "wsq"))
  | ((with_reducible refine' Nn.x_ninN ?hS ?hA ?_); (case hS => walk_at "wnat"); (case hA => walk_at "wsq"))
  | with_reducible refine Nn.x_part ?_
  | with_reducible refine Nn.x_u ?_
  | with_reducible refine Nn.x_min2 ?_
  | with_reducible refine Nn.x_max2 ?_
  | with_reducible refine Nn.x_abs ?_
  | with_reducible refine Nn.x_eqB ?_
  | with_reducible refine Nn.x_neB ?_
  | with_reducible refine Nn.x_eqS ?_
  | with_reducible refine Nn.x_neS ?_
  | with_reducible refine Nn.x_intI ?_
  | with_reducible refine Nn.x_intB ?_
  | walk_at "wisi"
  | walk_at "wc"))
local macro_rules | `(tactic| walk_at "wside") => `(tactic| (first
  | with_reducible assumption
  | with_reducible exact Nn.two_pos
  | omega
  | (show (0 : Int) < _; first | omega | decide +kernel)
  | exact Or.inr ⟨by omega, by omega⟩
  | exact Or.inl ⟨by omega, by omega⟩
  | exact ⟨by omega, by decide +kernel⟩
  | exact ⟨by omega, by omega, by omega⟩
  | (show (0 : Int) ≤ _; first | omega | decide +kernel | exact Int.mul_nonneg (by omega) (by omega))))
local macro_rules | `(tactic| walk_at "wob") => `(tactic| (first
  | assumption
  | exact L2.upd_same
  | ((with_reducible refine' Nn.at_new ?hNone ?hKept); (case hNone => assumption); (case hKept => walk_at "wob"))
  | ((with_reducible refine' Nn.at_upd ?hSome ?hAt ?hDif); (case hSome => assumption); (case hAt => walk_at "wob"); (case hDif => (intro z; cases z)))
  | exact Nn.Ex.at (by assumption) (by assumption)))
local macro_rules | `(tactic| walk_at "wlen") => `(tactic| (rw [PySem.sizeLine_eq]; simp only [List.length_map, List.length_append, List.length_cons, List.length_nil]; omega))
local macro_rules | `(tactic| walk_at "wsqt") => `(tactic| (first
  | assumption
  | ((refine' L2.SqT.of ?hOb); (case hOb => walk_at "wob"))
  | exact Nn.Ex.tu (by assumption) (by assumption)
  | exact L2.SqT.of L2.upd_same))
local macro_rules | `(tactic| walk_at "wnat") => `(tactic| with_unfolding_all rfl)
local macro_rules | `(tactic| walk_at "wsq") => `(tactic| (first
  | assumption
  | ((refine' L2.SqL.of ?hOb); (case hOb => walk_at "wob"))
  | exact Nn.Ex.ls (by assumption) (by assumption)
  | exact Nn.Ex.ls (Nn.Ex.new (by assumption)) (by assumption)
  | exact L2.SqL.of L2.upd_same))
local macro_rules | `(tactic| walk_at "wat") => `(tactic| (first
  | assumption
  | exact Nn.atI_hd
  | with_unfolding_all rfl))
local macro_rules | `(tactic| walk_at "wisi") => `(tactic| ((with_reducible refine Nn.x_isG ?_); (first
  | with_reducible refine Nn.x_isI_int ?_
  | with_reducible refine Nn.x_isI_bool ?_
  | with_reducible refine Nn.x_isI_str ?_
  | with_reducible refine Nn.x_isB_int ?_
  | with_reducible refine Nn.x_isB_bool ?_
  | with_reducible refine Nn.x_isB_str ?_
  | with_reducible refine Nn.x_isS_int ?_
  | with_reducible refine Nn.x_isS_bool ?_
  | with_reducible refine Nn.x_isS_str ?_
  | with_reducible refine Nn.x_isN_int ?_
  | with_reducible refine Nn.x_isN_bool ?_
  | with_reducible refine Nn.x_isN_str ?_
  | ((with_reducible refine' Nn.x_isL_int ?hS ?_); (case hS => walk_at "wob"))
  | ((with_reducible refine' Nn.x_isL_list ?hS ?_); (case hS => walk_at "wob"))
  | ((with_reducible refine' Nn.x_isL_tuple ?hS ?_); (case hS => walk_at "wob"))
  | ((with_reducible refine' Nn.x_isT_int ?hS ?_); (case hS => walk_at "wob"))
  | ((with_reducible refine' Nn.x_isT_list ?hS ?_); (case hS => walk_at "wob"))
  | ((with_reducible refine' Nn.x_isT_tuple ?hS ?_); (case hS => walk_at "wob"))
  | ((with_reducible refine' Nn.x_isD_int ?hS ?_); (case hS => walk_at "wob"))
  | ((with_reducible refine' Nn.x_isD_list ?hS ?_); (case hS => walk_at "wob"))
  | ((with_reducible refine' Nn.x_isD_tuple ?hS ?_); (case hS => walk_at "wob")))))
local macro_rules | `(tactic| walk_at "wpre") => `(tactic| (first
  | with_reducible assumption
  | omega
  | refine ⟨?_, ?_⟩ <;> walk_at "wpre"))
local macro_rules | `(tactic| walk_at "wlk") => `(tactic| (first | exact Nn.lk_Bucket_room | exact Nn.lk_Bucket_line))
local macro_rules | `(tactic| walk_at "wnolk") => `(tactic| (first | exact Nn.no_Bucket_names | exact Nn.no_Bucket_hears | exact Nn.no_Bucket_drops))
local macro_rules | `(tactic| walk_at "wput") => `(tactic| (first | exact Nn.ini_Bucket_room | exact Nn.put_Bucket_room | exact Nn.ini_Bucket_line | exact Nn.put_Bucket_line))

/-! the laws' helpers: cells, width, mixed numbers, names -/
namespace Nn
open PySem L2
section
variable {P : Program} {w : World} {K : PySem.W.Frag} {mg : Str → Option Value} {base : Heap} {H : Hp} {Q : VK} {E : XK}
theorem nat_of {z : Int} (h : ∀ r : Nat, Q (.int r) H) (hz : 0 ≤ z) : Q (.int z) H := by
  obtain ⟨r, rfl⟩ := Int.eq_ofNat_of_zero_le hz
  exact h r
theorem atI_map {ns : List Int} {j : Nat} (h : j < ns.length) : atI (ns.map V.int) (j : Int) = some (.int ns[j]) := atI_nat (by simp [h])
theorem atI_nV {ns : List Nat} {j : Nat} (h : j < ns.length) : atI (ns.map nV) (j : Int) = some (nV ns[j]) := atI_nat (by simp [h])
theorem atI_neg1' {ns : List Nat} {j : Nat} (h : j < ns.length) : ∃ z, z ∈ ns ∧ atI (ns.map nV) ((j : Int) - 1) = some (nV z) := by
  unfold atI ixN
  by_cases hj : 0 ≤ (j : Int) - 1
  · rw [if_pos hj, if_pos (by simp; omega)]
    have h2 : ((j : Int) - 1).toNat < ns.length := by omega
    exact ⟨ns[((j : Int) - 1).toNat], List.getElem_mem h2, by
      show (ns.map nV)[_]? = _
      rw [List.getElem?_map, List.getElem?_eq_getElem h2]; rfl⟩
  · rw [if_neg hj, if_pos (by simp; omega)]
    have h2 : ((j : Int) - 1 + ((ns.map nV).length : Int)).toNat < ns.length := by simp; omega
    refine ⟨ns[((j : Int) - 1 + ((ns.map nV).length : Int)).toNat], List.getElem_mem h2, ?_⟩
    show (ns.map nV)[_]? = _
    rw [List.getElem?_map, List.getElem?_eq_getElem h2]; rfl
theorem atI_neg1 {ns : List Nat} {j : Nat} (h : j < ns.length) : ∃ z, atI (ns.map nV) ((j : Int) - 1) = some (nV z) := let ⟨z, _, e⟩ := atI_neg1' h; ⟨z, e⟩
def sp_l_cell_at (_ : Tx K mg base) : Sp := fun vs H Q _ => ∃ (a : Addr) (ns : List Int) (k : Nat), vs = [.ref a, .int k] ∧ SqL K H a (ns.map V.int) ∧ ∀ n : Nat, Q (.int n) H
theorem wc_l_cell_at {T : Tx K mg base} {a : Addr} {ns : List Int} {i : Int} {k : Nat} (hi : i = k) (hS : SqL K H a (ns.map V.int)) (h : ∀ n : Nat, Q (.int n) H) : sp_l_cell_at T [.ref a, .int i] H Q E := by
  subst hi; exact ⟨a, ns, k, rfl, hS, h⟩
theorem ok_l_cell_at (T : Tx K mg base) : FnOk P w K mg base CX0 1 T.a_l_cell_at T.d_l_cell_at ["_law_script", "_law_k"] (sp_l_cell_at T) := by
  refine T.F_l_cell_at.okD sc_l_cell_at (fun vs H Q E h => ?_) (fun cdv A outer s H vs Q E hr h => ?_)
  · obtain ⟨a, ns, k, rfl, _⟩ := h; rfl
  · obtain ⟨a, ns, k, rfl, hS, q⟩ := h
    have c_Bucket := T.c_Bucket; have n_Bucket_room := T.n_Bucket_room; have n_Bucket_line := T.n_Bucket_line
    refine ⟨_, (pss_cons (ps_if (pt_cmpR op_lt (pv 1) (pe_callB cb_len (by rfl) T.z_len PySem.boot_len (pa_cons (pv 0) pa_nil)) (nomark _))
      (pss_one (ps_ret (pe_callB cb_abs (by rfl) T.z_abs (by decide +kernel) (pa_cons (pe_ix ix_list (pv 0) (pv 1) (fun _ _ => rfl)) pa_nil))))
      pss_nil)
      (pss_one (ps_ret pe_int))), ?_⟩
    rw [Nn.st_l_cell_at]; try rw [Nn.cxK]
    walk_at "wx"
    refine x_ifD (fun hk => ?_) (fun hk => ?_)
    · walk_at "wx"
      have hk' : k < ns.length := by simpa using hk
      refine x_ixL hS (atI_map hk') ?_
      walk_at "wx"
      exact q _
    · walk_at "wx"
      exact q 0
def sp_l_mixed (_ : Tx K mg base) : Sp := fun vs H Q _ => ∃ n k : Nat, vs = [.int n, .int k] ∧ ∀ r : Nat, Q (.int r) H
theorem wc_l_mixed {T : Tx K mg base} {i j : Int} {n k : Nat} (hi : i = n) (hj : j = k) (h : ∀ r : Nat, Q (.int r) H) : sp_l_mixed T [.int i, .int j] H Q E := by
  subst hi hj; exact ⟨n, k, rfl, h⟩
theorem ok_l_mixed (T : Tx K mg base) : FnOk P w K mg base CX0 1 T.a_l_mixed T.d_l_mixed ["_law_cell", "_law_k"] (sp_l_mixed T) := by
  refine T.F_l_mixed.okD sc_l_mixed (fun vs H Q E h => ?_) (fun cdv A outer s H vs Q E hr h => ?_)
  · obtain ⟨n, k, rfl, _⟩ := h; rfl
  · obtain ⟨n, k, rfl, q⟩ := h
    have c_Bucket := T.c_Bucket; have n_Bucket_room := T.n_Bucket_room; have n_Bucket_line := T.n_Bucket_line
    refine ⟨_, (pss_cons (ps_set (i := 2) sc_l_mixed.nd rfl (Or.inl rfl) (pe_op op_mod (pe_op op_mul (pe_op op_add (pe_op op_add (pv 0) (pe_op op_mul pe_int (pv 1))) pe_int) pe_int) (pe_op op_sub (pe_op op_pow pe_int pe_int) pe_int)))
      (pss_one (ps_ret (pe_op op_fdivW (pe_op op_mod (pe_op op_mul (pe_op op_add (pe_op op_add (pv 2) (pe_op op_mul pe_int (pv 1))) pe_int) pe_int) (pe_op op_sub (pe_op op_pow pe_int pe_int) pe_int)) pe_int)))), ?_⟩
    rw [Nn.st_l_mixed]; try rw [Nn.cxK]
    walk_at "wx"
    refine nat_of q ?_
    exact Int.ediv_nonneg (Int.emod_nonneg _ (by decide)) (by decide)
end
end Nn
local macro_rules | `(tactic| walk_at "wc") => `(tactic| ((with_reducible refine' Nn.wc_l_mixed ?hS ?hA (fun _ => ?_)); (case hS => walk_at "wnat"); (case hA => walk_at "wnat")))
local macro_rules | `(tactic| walk_at "wc") => `(tactic| ((with_reducible refine' Nn.wc_l_cell_at ?hS ?hA (fun _ => ?_)); (case hS => walk_at "wnat"); (case hA => walk_at "wsq")))
/-! what answers: a function that notes who is asked, made by _law_asker -/
namespace Nn
open PySem L2
section
variable {P : Program} {w : World} {K : PySem.W.Frag} {mg : Str → Option Value} {base : Heap} {H : Hp} {Q : VK} {E : XK}
/-- the notes at c, those that are silent at s, what both hold; the function's cells -/
structure An where
  c : Addr
  s : Addr
  cs : List Nat
  ss : List Nat
  cl : List (Str × Addr)
  cd : Addr
def sp_l_asker__law_answers (_ : Tx K mg base) : List (Option V) → Sp := fun ws vs H Q _ => ∃ (c s : Addr) (cs ss : List Nat) (n : Nat), ws = [some (.ref s), some (.ref c)] ∧ vs = [.int n] ∧ H c = some (.lst (cs.map nV)) ∧ H s = some (.lst (ss.map nV)) ∧ c ≠ s ∧ cs.length ≤ 100000 ∧
  ∀ H', Fr (fun a => a = c) H H' → H' c = some (.lst ((cs ++ [n]).map nV)) → Q (.bl (!decide (n ∈ ss))) H'
theorem nok_l_asker__law_answers (T : Tx K mg base) {cl : List (Str × Addr)} {c : Addr} (f : Addr) : NdefX.NOk P w K mg base CX0 1 f (nf_l_asker__law_answers cl c) ["_law_name"] fr_l_asker__law_answers (sp_l_asker__law_answers T) := by
  refine NdefX.nok_of (N := N_l_asker__law_answers) nsc_l_asker__law_answers (fun doc pm ctv us hl => match us, hl with | [_], _ => rfl) (fun ws vs H Q E h => ?_) (fun A outer s H vs ws Q E hr hf hc hwl h => ?_)
  · obtain ⟨c, s, cs, ss, n, rfl, rfl, _⟩ := h; rfl
  · obtain ⟨c, s, cs, ss, n, rfl, rfl, hc, hs, hne, hz, q⟩ := h
    have c_Bucket := T.c_Bucket; have n_Bucket_room := T.n_Bucket_room; have n_Bucket_line := T.n_Bucket_line
    refine ⟨_, (pss_cons (ps_expr (pe_bm PySem.F.plainAttrs_list PySem.F.slot_list_append PySem.F.type_list_append mt_append (pv 2) (pa_cons (pv 0) pa_nil)))
      (pss_one (ps_ret (pe_cmpR op_notIn_seq (pv 0) (pv 1) rfl)))), ?_⟩
    rw [Nn.st_l_asker__law_answers]; try rw [Nn.cxK]
    walk_at "wx"
    have hs2 : upd H c (.lst (cs.map nV ++ [nV n])) s = some (.lst (ss.map nV)) := by rw [upd_ne hne.symm]; exact hs
    have fr := Fr.upd1 (o := .lst (cs.map nV ++ [nV n])) hc
    refine x_ninN rfl (SqL.of hs2) ?_
    exact q _ fr (by rw [upd_same, List.map_append]; rfl)
def sp_l_asker (T : Tx K mg base) : Sp := fun vs H Q _ => ∃ c s : Addr, vs = [.ref c, .ref s] ∧ NdefX.TabsN (tabsL T) H ∧ ∀ f cl cd H', Ex H H' → H f = none → H' f = some (NdefX.FnO f (nf_l_asker__law_answers cl cd)) → H' cd = some (LamX.CodeO cd (nf_l_asker__law_answers cl cd).qual) → CellsT H' cl fr_l_asker__law_answers [.ref s, .ref c] → Q (.ref f) H'
theorem ok_l_asker (T : Tx K mg base) : FnOk P w K mg base CX0 1 T.a_l_asker T.d_l_asker ["_law_calls", "_law_silent"] (sp_l_asker T) := by
  refine T.FC_l_asker.okMk (st1 := s_l_asker__law_answers) (fr := fr_l_asker__law_answers) (js := [1, 0]) (i := 2) sc_l_asker rfl T.tb_l_asker rfl nm_l_asker__law_answers (by decide +kernel) (by decide +kernel) (by decide) rfl rfl (fun _ => rfl) rfl rfl rfl (by decide) (fun vs H Q E h => ?_) (fun vs H Q E h => ?_)
  · obtain ⟨c, s, rfl, _⟩ := h; rfl
  · obtain ⟨c, s, rfl, hT, q⟩ := h
    exact ⟨hT _ tabm_l_asker, [.ref s, .ref c], rfl, q⟩
def AnsOf (T : Tx K mg base) (H : Hp) (f : Addr) (A : An) : Prop := H f = some (NdefX.FnO f (nf_l_asker__law_answers A.cl A.cd)) ∧ H A.cd = some (LamX.CodeO A.cd (nf_l_asker__law_answers A.cl A.cd).qual) ∧ CellsT H A.cl fr_l_asker__law_answers [.ref A.s, .ref A.c] ∧
  H A.c = some (.lst (A.cs.map nV)) ∧ H A.s = some (.lst (A.ss.map nV)) ∧ A.c ≠ A.s ∧ A.cs.length ≤ 100000
def ansB (A : An) (n : Nat) : Bool := !decide (n ∈ A.ss)
def AnsS (A : An) : Addr → Prop := fun a => a = A.c
def AnsL (A : An) (H : Hp) (asked : List Nat) : Prop := H A.c = some (.lst ((A.cs ++ asked).map nV))
theorem AnsOf.none {T : Tx K mg base} {H : Hp} {f : Addr} {A : An} (h : AnsOf T H f A) : AnsL A H [] := by
  unfold AnsL; rw [List.append_nil]; exact h.2.2.2.1
theorem AnsL.upd {A : An} {H H' : Hp} {as : List Nat} {l : Addr} (h : AnsL A H as) (f : Fr (fun a => a = l) H H') (hs : ¬ AnsS A l) : AnsL A H' as := f.at h fun z => hs z.symm
theorem AnsOf.ins {T : Tx K mg base} {H : Hp} {f a : Addr} {A : An} {C dx : Addr} {fs : List (Str × V)} (h : AnsOf T H f A) (z : AnsS A a) (e : H a = some (.ins C dx fs)) : False := by
  have z : a = A.c := z
  rw [z, h.2.2.2.1] at e; cases e
end
end Nn
/-! buckets -/
namespace Nn
open PySem L2
/-- what a bucket of room has in its line behind hearing of n (a: the eldest answers), and the word -/
def hearL (room : Nat) (xs : List Nat) (n : Nat) (a : Bool) : List Nat :=
  if n ∈ xs then xs.erase n ++ [n] else if xs.length < room then xs ++ [n] else if a = true then xs.tail ++ [xs.headD 0] else xs.tail ++ [n]
def hearW (room : Nat) (xs : List Nat) (n : Nat) (a : Bool) : Str :=
  if n ∈ xs then "again" else if xs.length < room then "new" else if a = true then "full" else "instead"
theorem hear_in {room n : Nat} {xs : List Nat} {a : Bool} (h : n ∈ xs) : hearL room xs n a = xs.erase n ++ [n] ∧ hearW room xs n a = "again" := by
  unfold hearL hearW; rw [if_pos h, if_pos h]; exact ⟨rfl, rfl⟩
theorem hear_new {room n : Nat} {xs : List Nat} {a : Bool} (h : ¬ n ∈ xs) (r : xs.length < room) : hearL room xs n a = xs ++ [n] ∧ hearW room xs n a = "new" := by
  unfold hearL hearW; rw [if_neg h, if_neg h, if_pos r, if_pos r]; exact ⟨rfl, rfl⟩
theorem hear_full {room n x : Nat} {xs : List Nat} {a : Bool} (h : ¬ n ∈ x :: xs) (r : ¬ (x :: xs).length < room) (e : a = true) : hearL room (x :: xs) n a = xs ++ [x] ∧ hearW room (x :: xs) n a = "full" := by
  unfold hearL hearW; rw [if_neg h, if_neg h, if_neg r, if_neg r, if_pos e, if_pos e]; exact ⟨rfl, rfl⟩
theorem hear_inst {room n x : Nat} {xs : List Nat} {a : Bool} (h : ¬ n ∈ x :: xs) (r : ¬ (x :: xs).length < room) (e : a = false) : hearL room (x :: xs) n a = xs ++ [n] ∧ hearW room (x :: xs) n a = "instead" := by
  unfold hearL hearW; rw [if_neg h, if_neg h, if_neg r, if_neg r, if_neg (by simp [e]), if_neg (by simp [e])]; exact ⟨rfl, rfl⟩
section
variable {P : Program} {w : World} {K : PySem.W.Frag} {mg : Str → Option Value} {base : Heap} {H : Hp} {Q : VK} {E : XK}
/-- a bucket at p: its line at l holds xs -/
structure BuckAt (T : Tx K mg base) (H : Hp) (p l : Addr) (room : Nat) : Prop where
  ob : ∃ dx, H p = some (.ins T.C_Bucket dx (f_Bucket (nV room) (.ref l)))
theorem BuckAt.fr {T : Tx K mg base} {S : Addr → Prop} {H H' : Hp} {p l : Addr} {room : Nat} (b : BuckAt T H p l room) (f : Fr S H H') (hs : ¬ S p) : BuckAt T H' p l room := by
  obtain ⟨dx, h⟩ := b.ob
  exact ⟨dx, f.at h hs⟩
def sp_Bucket_init (T : Tx K mg base) : Sp := fun vs H Q _ => ∃ (p dx : Addr) (room : Nat), vs = [.ref p, .int room] ∧ H p = some (.ins T.C_Bucket dx []) ∧ ∀ (l : Addr) (H' : Hp), H l = none → H' l = some (.lst []) → Fr (fun a => a = p) H H' → BuckAt T H' p l room → Q .non H'
theorem ok_Bucket_init (T : Tx K mg base) : FnOk P w K mg base CX0 1 T.a_Bucket_init T.d_Bucket_init ["self", "room"] (sp_Bucket_init T) := by
  refine T.F_Bucket_init.okD sc_Bucket_init (fun vs H Q E h => ?_) (fun cdv A outer s H vs Q E hr h => ?_)
  · obtain ⟨p, dx, room, rfl, _⟩ := h; rfl
  · obtain ⟨p, dx, room, rfl, hp, q⟩ := h
    have c_Bucket := T.c_Bucket; have n_Bucket_room := T.n_Bucket_room; have n_Bucket_line := T.n_Bucket_line
    refine ⟨_, (pss_cons (ps_fld (pv 0) (pv 1) rfl)
      (pss_one (ps_fld (pv 0) (pe_lst pa_nil) rfl))), ?_⟩
    rw [Nn.st_Bucket_init]; try rw [Nn.cxK]
    walk_at "wx"
    refine ⟨len_ok rfl, fun l hl => ?_⟩
    walk_at "wx"
    have hl0 : H l = none := upd_back hl
    have hne : l ≠ p := fun z => by rw [z, hp] at hl0; cases hl0
    refine q l _ hl0 (by rw [upd_ne hne, upd_same]) ?_ ⟨dx, upd_same⟩
    exact ((Fr.upd1 hp).trans (Ex.new hl).fr).trans (Fr.upd1 (u := .ins T.C_Bucket dx [("room", .int room)]) (by rw [upd_ne hne.symm, upd_same]))
def sp_Bucket_names (T : Tx K mg base) : Sp := fun vs H Q _ => ∃ (p l : Addr) (room : Nat) (xs : List V), vs = [.ref p] ∧ BuckAt T H p l room ∧ H l = some (.lst xs) ∧ ∀ q, H q = none → Q (.ref q) (upd H q (.lst xs))
theorem wc_Bucket_names {T : Tx K mg base} {p l : Addr} {room : Nat} {xs : List V} (b : BuckAt T H p l room) (hl : H l = some (.lst xs)) (h : ∀ q, H q = none → Q (.ref q) (upd H q (.lst xs))) : sp_Bucket_names T [.ref p] H Q E := ⟨p, l, room, xs, rfl, b, hl, h⟩
theorem ok_Bucket_names (T : Tx K mg base) : FnOk P w K mg base CX0 1 T.a_Bucket_names T.d_Bucket_names ["self"] (sp_Bucket_names T) := by
  refine T.F_Bucket_names.okD sc_Bucket_names (fun vs H Q E h => ?_) (fun cdv A outer s H vs Q E hr h => ?_)
  · obtain ⟨p, l, room, xs, rfl, _⟩ := h; rfl
  · obtain ⟨p, l, room, xs, rfl, ⟨dx, ob⟩, hl, q⟩ := h
    have c_Bucket := T.c_Bucket; have n_Bucket_room := T.n_Bucket_room; have n_Bucket_line := T.n_Bucket_line
    refine ⟨_, (pss_one (ps_ret (pe_callTy cb_list (by rfl) T.z_list (by decide +kernel) (pa_cons (pe_fld (pv 0) rfl) pa_nil)))), ?_⟩
    rw [Nn.st_Bucket_names]; try rw [Nn.cxK]
    walk_at "wx"
    exact x_listL (SqL.of hl) q
/-- who was asked -/
def askedL (room : Nat) (xs : List Nat) (n : Nat) : List Nat := if n ∈ xs then [] else if xs.length < room then [] else [xs.headD 0]
def sp_Bucket_hears (T : Tx K mg base) : Sp := fun vs H Q _ => ∃ (p l : Addr) (room : Nat) (xs : List Nat) (n : Nat) (f : Addr) (A : An), vs = [.ref p, .int n, .ref f] ∧ BuckAt T H p l room ∧ H l = some (.lst (xs.map nV)) ∧ 0 < room ∧ room ≤ 100000 ∧ xs.length ≤ 100000 ∧ AnsOf T H f A ∧ ¬ AnsS A l ∧
  ∀ H', Fr (fun a => a = l ∨ AnsS A a) H H' → H' l = some (.lst ((hearL room xs n (ansB A (xs.headD 0))).map nV)) → AnsL A H' (askedL room xs n) → Q (.str (hearW room xs n (ansB A (xs.headD 0)))) H'
theorem wc_Bucket_hears {T : Tx K mg base} {p l f : Addr} {room n : Nat} {xs : List Nat} {A : An} (b : BuckAt T H p l room) (hl : H l = some (.lst (xs.map nV))) (r0 : 0 < room) (r1 : room ≤ 100000) (x1 : xs.length ≤ 100000) (a : AnsOf T H f A) (s : ¬ AnsS A l)
    (h : ∀ H', Fr (fun a => a = l ∨ AnsS A a) H H' → H' l = some (.lst ((hearL room xs n (ansB A (xs.headD 0))).map nV)) → AnsL A H' (askedL room xs n) → Q (.str (hearW room xs n (ansB A (xs.headD 0)))) H') : sp_Bucket_hears T [.ref p, .int n, .ref f] H Q E :=
  ⟨p, l, room, xs, n, f, A, rfl, b, hl, r0, r1, x1, a, s, h⟩
theorem ok_Bucket_hears (T : Tx K mg base) : FnOk P w K mg base CX0 2 T.a_Bucket_hears T.d_Bucket_hears ["self", "name", "answers"] (sp_Bucket_hears T) := by
  refine T.F_Bucket_hears.okD sc_Bucket_hears (fun vs H Q E h => ?_) (fun cdv A outer s H vs Q E hr h => ?_)
  · obtain ⟨p, l, room, xs, n, f, A, rfl, _⟩ := h; rfl
  · obtain ⟨p, l, room, xs, n, f, A, rfl, ⟨dx, ob⟩, hl, r0, r1, x1, hans, hsl, q⟩ := h
    have hL0 := AnsOf.none hans
    skip
    have c_Bucket := T.c_Bucket; have n_Bucket_room := T.n_Bucket_room; have n_Bucket_line := T.n_Bucket_line
    refine ⟨_, (pss_cons (ps_if (pt_cmpR op_in_seq (pv 1) (pe_fld (pv 0) rfl) rfl)
      (pss_cons (ps_expr (pe_bm PySem.F.plainAttrs_list PySem.F.slot_list_remove PySem.F.type_list_remove mt_remove (pe_fld (pv 0) rfl) (pa_cons (pv 1) pa_nil)))
      (pss_cons (ps_expr (pe_bm PySem.F.plainAttrs_list PySem.F.slot_list_append PySem.F.type_list_append mt_append (pe_fld (pv 0) rfl) (pa_cons (pv 1) pa_nil)))
      (pss_one (ps_ret pe_str))))
      pss_nil)
      (pss_cons (ps_if (pt_cmpR op_lt (pe_callB cb_len (by rfl) T.z_len PySem.boot_len (pa_cons (pe_fld (pv 0) rfl) pa_nil)) (pe_fld (pv 0) rfl) (nomark _))
      (pss_cons (ps_expr (pe_bm PySem.F.plainAttrs_list PySem.F.slot_list_append PySem.F.type_list_append mt_append (pe_fld (pv 0) rfl) (pa_cons (pv 1) pa_nil)))
      (pss_one (ps_ret pe_str)))
      pss_nil)
      (pss_cons (ps_if (pt_val (pe_callT (F := nf_l_asker__law_answers A.cl A.cd) (i := 2) (fun f => nok_l_asker__law_answers T f) hr (by decide) rfl (by first | exact Or.inl rfl | exact Or.inr (Or.inl rfl) | exact Or.inr (Or.inr rfl)) (pa_cons (pe_ix ix_list (pe_fld (pv 0) rfl) pe_int (fun _ _ => rfl)) pa_nil)))
      (pss_cons (ps_expr (pe_bm PySem.F.plainAttrs_list PySem.F.slot_list_append PySem.F.type_list_append mt_append (pe_fld (pv 0) rfl) (pa_cons (pe_bm PySem.F.plainAttrs_list PySem.F.slot_list_pop PySem.F.type_list_pop mt_popAt (pe_fld (pv 0) rfl) (pa_cons pe_int pa_nil)) pa_nil)))
      (pss_one (ps_ret pe_str)))
      pss_nil)
      (pss_cons (ps_expr (pe_bm PySem.F.plainAttrs_list PySem.F.slot_list_pop PySem.F.type_list_pop mt_popAt (pe_fld (pv 0) rfl) (pa_cons pe_int pa_nil)))
      (pss_cons (ps_expr (pe_bm PySem.F.plainAttrs_list PySem.F.slot_list_append PySem.F.type_list_append mt_append (pe_fld (pv 0) rfl) (pa_cons (pv 1) pa_nil)))
      (pss_one (ps_ret pe_str))))))), ?_⟩
    rw [Nn.st_Bucket_hears]; try rw [Nn.cxK]
    walk_at "wx"
    refine x_ifD (fun hn => ?_) fun hn => ?_
    · walk_at "wx"
      refine x_remove rfl hl hn ?_
      walk_at "wx"
      refine x_append upd_same (by rw [sizeLine_eq, List.length_map, List.length_erase_of_mem hn]; omega) ?_
      rw [(hear_in hn).1, (hear_in hn).2, List.map_append, show askedL room xs n = [] from if_pos hn] at q
      rw [upd_upd]
      have fr := Fr.upd1 (o := .lst ((xs.erase n).map nV ++ [nV n])) hl
      exact q _ (fr.mono fun a z => .inl z) upd_same (hL0.upd fr hsl)
    · walk_at "wx"
      refine x_ifD (fun hr1 => ?_) fun hr1 => ?_
      · walk_at "wx"
        rw [List.length_map] at hr1
        have e := hear_new (a := ansB A (xs.headD 0)) hn (Int.ofNat_lt.mp hr1)
        rw [e.1, e.2, List.map_append, show askedL room xs n = [] from by unfold askedL; rw [if_neg hn, if_pos (Int.ofNat_lt.mp hr1)]] at q
        have fr := Fr.upd1 (o := .lst (xs.map nV ++ [nV n])) hl
        exact q _ (fr.mono fun a z => .inl z) upd_same (hL0.upd fr hsl)
      · obtain ⟨x, r, rfl⟩ : ∃ x r, xs = x :: r := by
          cases xs with
          | nil => simp at hr1; omega
          | cons x r => exact ⟨x, r, rfl⟩
        rw [List.length_map] at hr1
        have hr2 : ¬ (x :: r).length < room := fun z => hr1 (Int.ofNat_lt.mpr z)
        have hrl : r.length < (x :: r).length := Nat.lt_succ_self _
        rw [show askedL room (x :: r) n = [x] from by unfold askedL; rw [if_neg hn, if_neg hr2]; rfl] at q
        simp only [List.headD_cons] at q
        walk_at "wx"
        refine ⟨f, [.ref A.s, .ref A.c], rfl, hans.1, ?_⟩
        walk_at "wx"
        obtain ⟨hf1, hcd1, hC1, hc1, hs1, hne1, hz1⟩ := id hans
        refine ⟨hf1, hcd1, hC1, fun se => ?_⟩
        refine ⟨A.c, A.s, A.cs, A.ss, x, rfl, rfl, strip_at hC1 hc1, strip_at hC1 hs1, hne1, hz1, fun H2' fr2' hc2 sh => ?_⟩
        have fr2 : Fr (AnsS A) H (relay H H2' (nf_l_asker__law_answers A.cl A.cd).cl) := hC1.goes se sh fr2'
        have hL2 : AnsL A (relay H H2' (nf_l_asker__law_answers A.cl A.cd).cl) [x] := by
          unfold AnsL
          refine (relay_out (hC1.no hc1 trivial)).trans ?_
          exact hc2
        have hq : (!decide (x ∈ A.ss)) = ansB A x := rfl
        rw [hq]
        generalize relay H H2' (nf_l_asker__law_answers A.cl A.cd).cl = H2 at fr2 hL2 ⊢
        walk_at "wx"
        have ob2 := fr2.at ob fun z => AnsOf.ins hans z ob
        have hl2 := fr2.at hl hsl
        refine x_ifB (fun ha => ?_) fun ha => ?_
        · have ha : ansB A x = true := ha
          walk_at "wx"
          have e := hear_full hn hr2 ha
          rw [e.1, e.2, List.map_append] at q
          refine x_pop0 (xs := r.map nV) hl2 ?_
          walk_at "wx"
          rw [upd_upd]
          have fr := Fr.upd1 (o := .lst (r.map nV ++ [nV x])) hl2
          exact q _ ((fr2.mono fun a z => .inr z).trans (fr.mono fun a z => .inl z)) upd_same (hL2.upd fr hsl)
        · have ha : ansB A x = false := ha
          walk_at "wx"
          have e := hear_inst hn hr2 ha
          rw [e.1, e.2, List.map_append] at q
          refine x_pop0 (xs := r.map nV) hl2 ?_
          walk_at "wx"
          rw [upd_upd]
          have fr := Fr.upd1 (o := .lst (r.map nV ++ [nV n])) hl2
          exact q _ ((fr2.mono fun a z => .inr z).trans (fr.mono fun a z => .inl z)) upd_same (hL2.upd fr hsl)
def sp_Bucket_drops (T : Tx K mg base) : Sp := fun vs H Q _ => ∃ (p l : Addr) (room : Nat) (xs : List Nat) (n : Nat), vs = [.ref p, .int n] ∧ BuckAt T H p l room ∧ H l = some (.lst (xs.map nV)) ∧
  (n ∉ xs → Q (.bl false) H) ∧ (n ∈ xs → Fr (fun a => a = l) H (upd H l (.lst ((xs.erase n).map nV))) → Q (.bl true) (upd H l (.lst ((xs.erase n).map nV))))
theorem ok_Bucket_drops (T : Tx K mg base) : FnOk P w K mg base CX0 1 T.a_Bucket_drops T.d_Bucket_drops ["self", "name"] (sp_Bucket_drops T) := by
  refine T.F_Bucket_drops.okD sc_Bucket_drops (fun vs H Q E h => ?_) (fun cdv A outer s H vs Q E hr h => ?_)
  · obtain ⟨p, l, room, xs, n, rfl, _⟩ := h; rfl
  · obtain ⟨p, l, room, xs, n, rfl, ⟨dx, ob⟩, hl, q1, q2⟩ := h
    have c_Bucket := T.c_Bucket; have n_Bucket_room := T.n_Bucket_room; have n_Bucket_line := T.n_Bucket_line
    refine ⟨_, (pss_cons (ps_if (pt_cmpR op_notIn_seq (pv 1) (pe_fld (pv 0) rfl) rfl)
      (pss_one (ps_ret pe_bl))
      pss_nil)
      (pss_cons (ps_expr (pe_bm PySem.F.plainAttrs_list PySem.F.slot_list_remove PySem.F.type_list_remove mt_remove (pe_fld (pv 0) rfl) (pa_cons (pv 1) pa_nil)))
      (pss_one (ps_ret pe_bl)))), ?_⟩
    rw [Nn.st_Bucket_drops]; try rw [Nn.cxK]
    walk_at "wx"
    refine x_ifN (fun hn => ?_) fun hn => ?_
    · walk_at "wx"
      exact q1 hn
    · walk_at "wx"
      refine x_remove rfl hl hn ?_
      walk_at "wx"
      exact q2 hn (Fr.upd1 hl)
end
end Nn
/-! k11: a bucket and the law's own list -/
namespace Nn
open PySem L2
def spLaw (K : PySem.W.Frag) : Sp := fun vs H Q _ => ∃ (a : Addr) (ns : List Int), vs = [.ref a] ∧ SqL K H a (ns.map V.int) ∧ ns.length ≤ 63 ∧ Tabs0 K H ∧ ∀ H', Q (.bl true) H'
def sp_law (_ : Tx K mg base) : Sp := spLaw K
section
variable {P : Program} {w : World} {K : PySem.W.Frag} {mg : Str → Option Value} {base : Heap} {H : Hp} {Q : VK} {E : XK}
def sp_l_heard (_ : Tx K mg base) : Sp := fun vs H Q E => ∃ (p_xs : Addr) (xs : List Nat) (room : Nat) (n : Nat) (p_ss : Addr) (ss : List Nat), vs = [.ref p_xs, .int room, .int n, .ref p_ss] ∧ (SqL K H p_xs (xs.map nV)) ∧ (SqL K H p_ss (ss.map nV)) ∧ (H p_xs = some (.lst (xs.map nV)) ∧ p_xs ≠ p_ss ∧ 0 < room ∧ xs.length ≤ 100000) ∧ (∀ p pl H', H p = none → H pl = none → p ≠ pl → Fr (fun a => a = p_xs) H H' → H' p_xs = some (.lst ((hearL room xs n (!decide (xs.headD 0 ∈ ss))).map nV)) → H' pl = some (.lst ((askedL room xs n).map nV)) → H' p = some (.tup [.str (hearW room xs n (!decide (xs.headD 0 ∈ ss))), .ref pl]) → Q (.ref p) H')
theorem wc_l_heard {T : Tx K mg base} {p_xs : Addr} {xs : List Nat} {room : Nat} {n : Nat} {p_ss : Addr} {ss : List Nat} {i1 : Int} {i2 : Int} (e1 : i1 = room) (e2 : i2 = n) (c0 : SqL K H p_xs (xs.map nV)) (c1 : SqL K H p_ss (ss.map nV)) (c2 : H p_xs = some (.lst (xs.map nV)) ∧ p_xs ≠ p_ss ∧ 0 < room ∧ xs.length ≤ 100000) (h : ∀ p pl H', H p = none → H pl = none → p ≠ pl → Fr (fun a => a = p_xs) H H' → H' p_xs = some (.lst ((hearL room xs n (!decide (xs.headD 0 ∈ ss))).map nV)) → H' pl = some (.lst ((askedL room xs n).map nV)) → H' p = some (.tup [.str (hearW room xs n (!decide (xs.headD 0 ∈ ss))), .ref pl]) → Q (.ref p) H') : sp_l_heard T [.ref p_xs, .int i1, .int i2, .ref p_ss] H Q E := by
  subst e1 e2
  exact ⟨p_xs, xs, room, n, p_ss, ss, rfl, c0, c1, c2, h⟩
theorem ok_l_heard (T : Tx K mg base) : FnOk P w K mg base CX0 1 T.a_l_heard T.d_l_heard ["_law_line", "_law_room", "_law_name", "_law_silent"] (sp_l_heard T) := by
  refine T.F_l_heard.okD sc_l_heard (fun vs H Q E h => ?_) (fun cdv A outer s H vs Q E hr h => ?_)
  · obtain ⟨p_xs, xs, room, n, p_ss, ss, rfl, hS0, hS1, hpre, q⟩ := h; rfl
  · obtain ⟨p_xs, xs, room, n, p_ss, ss, rfl, hS0, hS1, hpre, q⟩ := h
    have hu := hu_of hr
    have c_Bucket := T.c_Bucket; have n_Bucket_room := T.n_Bucket_room; have n_Bucket_line := T.n_Bucket_line
    refine ⟨_, (pss_cons (ps_if (pt_cmpR op_in_seq (pv 2) (pv 0) rfl)
      (pss_cons (ps_expr (pe_bm PySem.F.plainAttrs_list PySem.F.slot_list_remove PySem.F.type_list_remove mt_remove (pv 0) (pa_cons (pv 2) pa_nil)))
      (pss_cons (ps_expr (pe_bm PySem.F.plainAttrs_list PySem.F.slot_list_append PySem.F.type_list_append mt_append (pv 0) (pa_cons (pv 2) pa_nil)))
      (pss_one (ps_ret (pe_tup (pa_cons pe_str (pa_cons (pe_lst pa_nil) pa_nil)))))))
      pss_nil)
      (pss_cons (ps_if (pt_cmpR op_lt (pe_callB cb_len (by rfl) T.z_len PySem.boot_len (pa_cons (pv 0) pa_nil)) (pv 1) (nomark _))
      (pss_cons (ps_expr (pe_bm PySem.F.plainAttrs_list PySem.F.slot_list_append PySem.F.type_list_append mt_append (pv 0) (pa_cons (pv 2) pa_nil)))
      (pss_one (ps_ret (pe_tup (pa_cons pe_str (pa_cons (pe_lst pa_nil) pa_nil))))))
      pss_nil)
      (pss_cons (ps_set (i := 4) sc_l_heard.nd rfl (Or.inl rfl) (pe_bm PySem.F.plainAttrs_list PySem.F.slot_list_pop PySem.F.type_list_pop mt_popAt (pv 0) (pa_cons pe_int pa_nil)))
      (pss_cons (ps_if (pt_cmpR op_in_seq (pv 4) (pv 3) rfl)
      (pss_cons (ps_expr (pe_bm PySem.F.plainAttrs_list PySem.F.slot_list_append PySem.F.type_list_append mt_append (pv 0) (pa_cons (pv 2) pa_nil)))
      (pss_one (ps_ret (pe_tup (pa_cons pe_str (pa_cons (pe_lst (pa_cons (pv 4) pa_nil)) pa_nil))))))
      pss_nil)
      (pss_cons (ps_expr (pe_bm PySem.F.plainAttrs_list PySem.F.slot_list_append PySem.F.type_list_append mt_append (pv 0) (pa_cons (pv 4) pa_nil)))
      (pss_one (ps_ret (pe_tup (pa_cons pe_str (pa_cons (pe_lst (pa_cons (pv 4) pa_nil)) pa_nil)))))))))), ?_⟩
    rw [Nn.st_l_heard]; try rw [Nn.cxK]
    walk_at "wx"
    obtain ⟨hx, hne, r0, x1⟩ := hpre
    have fin : ∀ (ys : List Nat) (z : Str) (as : List Nat) (H1 : Hp), Fr (fun a => a = p_xs) H H1 → H1 p_xs = some (.lst (ys.map nV)) → hearL room xs n (!decide (xs.headD 0 ∈ ss)) = ys → hearW room xs n (!decide (xs.headD 0 ∈ ss)) = z → askedL room xs n = as →
        ∀ pl, H1 pl = none → ∀ p, upd H1 pl (.lst (as.map nV)) p = none → Q (.ref p) (upd (upd H1 pl (.lst (as.map nV))) p (.tup [.str z, .ref pl])) := by
      intro ys z as H1 fr h1 e1 e2 e3 pl hpl p hp
      have hp1 := upd_back hp
      have npl : p ≠ pl := fun e => by rw [e, upd_same] at hp; cases hp
      subst e1 e2 e3
      refine q p pl _ (fr.back p hp1) (fr.back pl hpl) npl ((fr.trans (Ex.new hpl).fr).trans (Ex.new hp).fr) (at_new hp (at_new hpl h1)) (at_new hp upd_same) upd_same
    refine x_ifD (fun hn => ?_) fun hn => ?_
    · walk_at "wx"
      refine x_remove rfl hx hn ?_
      walk_at "wx"
      refine x_append upd_same (by rw [sizeLine_eq, List.length_map, List.length_erase_of_mem hn]; omega) ?_
      rw [upd_upd]
      walk_at "wx"
      refine ⟨len_ok rfl, fun pl hpl => ?_⟩
      refine ⟨len_ok rfl, fun p hp => ?_⟩
      refine fin (xs.erase n ++ [n]) "again" [] _ (Fr.upd1 hx) (by rw [upd_same, List.map_append]; rfl) (hear_in hn).1 (hear_in hn).2 (if_pos hn) pl hpl p hp
    · walk_at "wx"
      refine x_ifD (fun hr1 => ?_) fun hr1 => ?_
      · walk_at "wx"
        rw [List.length_map] at hr1
        have e := hear_new (a := !decide (xs.headD 0 ∈ ss)) hn (Int.ofNat_lt.mp hr1)
        refine ⟨len_ok rfl, fun pl hpl => ?_⟩
        refine ⟨len_ok rfl, fun p hp => ?_⟩
        refine fin (xs ++ [n]) "new" [] _ (Fr.upd1 hx) (by rw [upd_same, List.map_append]; rfl) e.1 e.2 (by unfold askedL; rw [if_neg hn, if_pos (Int.ofNat_lt.mp hr1)]) pl hpl p hp
      · obtain ⟨x, r, rfl⟩ : ∃ x r, xs = x :: r := by
          cases xs with
          | nil => simp at hr1; omega
          | cons x r => exact ⟨x, r, rfl⟩
        rw [List.length_map] at hr1
        have hr2 : ¬ (x :: r).length < room := fun z => hr1 (Int.ofNat_lt.mpr z)
        have hrl : r.length < (x :: r).length := Nat.lt_succ_self _
        have ea : askedL room (x :: r) n = [x] := by unfold askedL; rw [if_neg hn, if_neg hr2]; rfl
        walk_at "wx"
        refine x_pop0 (xs := r.map nV) hx ?_
        walk_at "wx"
        have hSs : SqL K (upd H p_xs (.lst (r.map nV))) p_ss (ss.map nV) := by
          rcases hS1 with (h | ⟨o, h⟩) | h
          · exact .inl (.inl (by rw [upd_ne hne.symm]; exact h))
          · exact .inl (.inr ⟨o, by rw [upd_ne hne.symm]; exact h⟩)
          · exact .inr h
        refine x_inN rfl hSs ?_
        walk_at "wx"
        refine x_ifD (fun ha => ?_) fun ha => ?_
        · walk_at "wx"
          rw [upd_upd]
          have e := hear_inst (a := !decide (x ∈ ss)) hn hr2 (by rw [decide_eq_true ha]; rfl)
          refine ⟨len_ok rfl, fun pl hpl => ?_⟩
          refine ⟨len_ok rfl, fun p hp => ?_⟩
          exact fin (r ++ [n]) "instead" [x] _ (Fr.upd1 hx) (by rw [upd_same, List.map_append]; rfl) e.1 e.2 ea pl hpl p hp
        · walk_at "wx"
          rw [upd_upd]
          have e := hear_full (a := !decide (x ∈ ss)) hn hr2 (by rw [decide_eq_false ha]; rfl)
          refine ⟨len_ok rfl, fun pl hpl => ?_⟩
          refine ⟨len_ok rfl, fun p hp => ?_⟩
          exact fin (r ++ [x]) "full" [x] _ (Fr.upd1 hx) (by rw [upd_same, List.map_append]; rfl) e.1 e.2 ea pl hpl p hp
def sp_l_deeds (_ : Tx K mg base) : Sp := fun vs H Q E => ∃ (p_ns : Addr) (ns : List Int) (room : Nat), vs = [.ref p_ns, .int room] ∧ (SqL K H p_ns (ns.map V.int)) ∧ (room ≤ 8 ∧ 0 < room) ∧ (∀ p H' (ds : List Nat), ds.length ≤ 60 → H p = none → Ex H H' → H' p = some (.lst (ds.map nV)) → Q (.ref p) H')
theorem wc_l_deeds {T : Tx K mg base} {p_ns : Addr} {ns : List Int} {room : Nat} {i1 : Int} (e1 : i1 = room) (c0 : SqL K H p_ns (ns.map V.int)) (c1 : room ≤ 8 ∧ 0 < room) (h : ∀ p H' (ds : List Nat), ds.length ≤ 60 → H p = none → Ex H H' → H' p = some (.lst (ds.map nV)) → Q (.ref p) H') : sp_l_deeds T [.ref p_ns, .int i1] H Q E := by
  subst e1
  exact ⟨p_ns, ns, room, rfl, c0, c1, h⟩
theorem ok_l_deeds (T : Tx K mg base) : FnOk P w K mg base CX0 2 T.a_l_deeds T.d_l_deeds ["_law_script", "_law_room"] (sp_l_deeds T) := by
  refine T.F_l_deeds.okD sc_l_deeds (fun vs H Q E h => ?_) (fun cdv A outer s H vs Q E hr h => ?_)
  · obtain ⟨p_ns, ns, room, rfl, hS0, hpre, q⟩ := h; rfl
  · obtain ⟨p_ns, ns, room, rfl, hS0, hpre, q⟩ := h
    have hu := hu_of hr
    have c_Bucket := T.c_Bucket; have n_Bucket_room := T.n_Bucket_room; have n_Bucket_line := T.n_Bucket_line
    refine ⟨_, (pss_cons (ps_set (i := 2) sc_l_deeds.nd rfl (Or.inl rfl) (pe_call (ok_l_cell_at T) hr rfl T.m_l_cell_at T.F_l_cell_at.kp T.b_l_cell_at .nil pass0 (pa_cons (pv 0) (pa_cons pe_int pa_nil))))
      (pss_cons (ps_set (i := 3) sc_l_deeds.nd rfl (Or.inl rfl) (pe_op op_mul (pe_op op_mul pe_int (pe_op op_add (pv 1) pe_int)) pe_int))
      (pss_cons (ps_set (i := 4) sc_l_deeds.nd rfl (Or.inl rfl) (pe_lst pa_nil))
      (pss_cons (ps_if (pt_cmpR op_eq (pe_op op_mod (pv 2) pe_int) pe_int (nomark _))
      (pss_cons (ps_set (i := 2) sc_l_deeds.nd rfl (Or.inl rfl) (pe_op op_fdivW (pv 2) pe_int))
      (pss_cons (ps_while PassesOwn.never (PW.pt (pw_and (pt_cmpR op_gt (pv 2) pe_int (nomark _)) (pw_and1 (pt_cmpR op_lt (pe_callB cb_len (by rfl) T.z_len PySem.boot_len (pa_cons (pv 4) pa_nil)) pe_int (nomark _)))))
      (pss_cons (ps_expr (pe_bm PySem.F.plainAttrs_list PySem.F.slot_list_append PySem.F.type_list_append mt_append (pv 4) (pa_cons (pe_op op_mod (pv 2) (pv 3)) pa_nil)))
      (pss_one (ps_set (i := 2) sc_l_deeds.nd rfl (Or.inl rfl) (pe_op op_fdivW (pv 2) (pv 3))))))
      (pss_one (ps_ret (pv 4)))))
      pss_nil)
      (pss_cons (ps_for PassesOwn.never rfl (pi_enum (by rfl) T.z_enumerate (pa_cons (pe_slice sl_list (pv 0) (po_some pe_int) (po_some pe_int)) pa_nil)) (pg_tup (n := 2) rfl (pgs_cons (pg_name (i := 5) sc_l_deeds.nd rfl (Or.inl rfl)) (pgs_cons (pg_name (i := 6) sc_l_deeds.nd rfl (Or.inl rfl)) pgs_nil)))
      (pss_one (ps_expr (pe_bm PySem.F.plainAttrs_list PySem.F.slot_list_append PySem.F.type_list_append mt_append (pv 4) (pa_cons (pe_op op_mod (pe_call (ok_l_mixed T) hr rfl T.m_l_mixed T.F_l_mixed.kp T.b_l_mixed .nil pass0 (pa_cons (pe_op op_mod (pe_callB cb_abs (by rfl) T.z_abs (by decide +kernel) (pa_cons (pv 6) pa_nil)) (pe_op op_pow pe_int pe_int)) (pa_cons (pv 5) pa_nil))) (pv 3)) pa_nil)))))
      (pss_one (ps_ret (pv 4)))))))), ?_⟩
    rw [Nn.st_l_deeds]; try rw [Nn.cxK]
    walk_at "wx"
    obtain ⟨r1, r0⟩ := hpre
    refine ⟨len_ok rfl, fun p hp => ?_⟩
    rename_i c
    obtain ⟨d, hd, hd0, hd1⟩ : ∃ d : Nat, (2 * ((room : Int) + 3) * 2) = (d : Int) ∧ 0 < d ∧ d < 2 ^ 10 := ⟨2 * (room + 3) * 2, by omega, by omega, by omega⟩
    rw [hd]
    walk_at "wx"
    refine x_ifD (fun _ => ?_) fun _ => ?_
    · walk_at "wx"
      obtain ⟨c1, hc1⟩ : ∃ c1 : Nat, (c : Int) / 2 = (c1 : Int) := ⟨c / 2, by omega⟩
      rw [hc1]
      refine x_while (m := 60) (W := fun m σ H' => ∃ (c : Nat) (ds : List Nat), σ = [some (.ref p_ns), some (.int room), some (.int c), some (.int d), some (.ref p), none, none] ∧ ds.length + m = 60 ∧ Ex H H' ∧ H' p = some (.lst (ds.map nV))) ⟨c1, [], rfl, rfl, Ex.new hp, upd_same⟩ ?_
      rintro m σ H1 ⟨c, ds, rfl, hl, ex, h1⟩
      walk_at "wx"
      refine x_ite (fun _ => ?_) fun _ => ?_
      · walk_at "wx"
        refine x_whD (fun h60 => ?_) fun h60 => ?_
        · rw [List.length_map] at h60
          walk_at "wx"
          have e1 : (c : Int) % (d : Int) = ((c % d : Nat) : Int) := by simp
          have e2 : (c : Int) / (d : Int) = ((c / d : Nat) : Int) := by simp
          refine x_i (wide_div (b := 10) (by omega) (by omega) (by decide) (by decide)) ?_
          rw [e1, e2]
          exact ⟨m - 1, by omega, c / d, ds ++ [c % d], rfl, by rw [List.length_append, List.length_singleton]; omega, ex.mut hp h1, by rw [upd_same, List.map_append]; rfl⟩
        · walk_at "wx"
          exact q p H1 ds (by omega) hp ex h1
      · walk_at "wx"
        exact q p H1 ds (by omega) hp ex h1
    · walk_at "wx"
      have hS2 := (Ex.new (o := .lst []) hp).ls hS0
      refine x_slL hS2 fun r hr => ?_
      have hcl : (cutV (ns.map V.int) (some 2) (some 62)).length ≤ 60 := cut_len (xs := ns.map V.int) (k := 2) (m := 62)
      have hit : ∀ x ∈ cutV (ns.map V.int) (some 2) (some 62), ∃ i : Int, x = .int i := fun x hx => by
        obtain ⟨i, _, rfl⟩ := List.mem_map.mp (cut_mem hx)
        exact ⟨i, rfl⟩
      generalize cutV (ns.map V.int) (some 2) (some 62) = its at hcl hit ⊢
      have hp2 := at_new (o := .lst its) hr (upd_same (H := H) (a := p) (o := .lst []))
      walk_at "wx"
      refine ForW.by walk_enumE (fun i σ H' => ∃ (v5 v6 : Option V) (ds : List Nat), σ = [some (.ref p_ns), some (.int room), some (.int c), some (.int d), some (.ref p), v5, v6] ∧ ds.length = i ∧ Ex H H' ∧ H' r = some (.lst its) ∧ H' p = some (.lst (ds.map nV)))
        ⟨none, none, [], rfl, rfl, (Ex.new hp).newT hr, upd_same, hp2⟩ (fun i σ H' _ ⟨_, _, _, _, _, _, e, _⟩ => SqL.of e) ?_ ?_
      · rintro i _ σ H1 H2 hi ⟨v5, v6, ds, rfl, hl, ex, hr1, hp1⟩ ⟨tq, x, y, rfl, htq, ex12, htq2, hx, hy⟩
        obtain ⟨z, rfl⟩ := hit y (List.mem_of_getElem? hy)
        cases hx
        have hr2 := ex12.at hr1
        have hp2 := ex12.at hp1
        have ex2 := ex.trans ex12
        walk_at "wx"
        rename_i b
        have e1 : (b : Int) % (d : Int) = ((b % d : Nat) : Int) := by simp
        rw [e1]
        refine ⟨_, _, ds ++ [b % d], rfl, by simp [hl], ex2.mut hp hp2, ?_, by rw [upd_same, List.map_append]; rfl⟩
        rw [upd_ne (fun z => by
          rw [z, upd_same] at hr
          cases hr)]
        exact hr2
      · rintro σ H1 ⟨v5, v6, ds, rfl, hl, ex, hr1, hp1⟩
        walk_at "wx"
        exact q p H1 ds (by omega) hp ex hp1
/-- where all stands in the law's loop -/
structure S11 (T : Tx K mg base) (H : Hp) (bp l pl pc ps f pd cd : Addr) (cl : List (Str × Addr)) (room : Nat) (xs ys cs ss ds : List Nat) : Prop where
  bu : BuckAt T H bp l room
  hl : H l = some (.lst (xs.map nV))
  hp : H pl = some (.lst (ys.map nV))
  hc : H pc = some (.lst (cs.map nV))
  hs : H ps = some (.lst (ss.map nV))
  hd : H pd = some (.lst (ds.map nV))
  hf : H f = some (NdefX.FnO f (nf_l_asker__law_answers cl cd))
  hcd : H cd = some (LamX.CodeO cd (nf_l_asker__law_answers cl cd).qual)
  hC : CellsT H cl fr_l_asker__law_answers [.ref ps, .ref pc]
def Is4 (l pl pc ps : Addr) (a : Addr) : Prop := a = l ∨ a = pl ∨ a = pc ∨ a = ps
theorem S11.fr {T : Tx K mg base} {H H' : Hp} {bp l pl pc ps f pd cd : Addr} {cl : List (Str × Addr)} {room : Nat} {xs ys cs ss ds xs' ys' cs' ss' : List Nat} {S : Addr → Prop} (s : S11 T H bp l pl pc ps f pd cd cl room xs ys cs ss ds) (fr : Fr S H H') (h4 : ∀ a, S a → Is4 l pl pc ps a) (nd : ¬ Is4 l pl pc ps pd)
    (h1 : H' l = some (.lst (xs'.map nV))) (h2 : H' pl = some (.lst (ys'.map nV))) (h3 : H' pc = some (.lst (cs'.map nV))) (h5 : H' ps = some (.lst (ss'.map nV))) : S11 T H' bp l pl pc ps f pd cd cl room xs' ys' cs' ss' ds := by
  have no : ∀ {a : Addr} {o : HO}, H a = some o → (∀ zs : List V, o ≠ .lst zs) → ¬ S a := fun {a o} e n z => by
    rcases h4 a z with q | q | q | q <;> rw [q] at e
    · rw [s.hl] at e; exact n _ (Option.some.inj e).symm
    · rw [s.hp] at e; exact n _ (Option.some.inj e).symm
    · rw [s.hc] at e; exact n _ (Option.some.inj e).symm
    · rw [s.hs] at e; exact n _ (Option.some.inj e).symm
  refine ⟨s.bu.fr fr ?_, h1, h2, h3, h5, fr.at s.hd fun z => nd (h4 _ z), fr.at s.hf (no s.hf fun zs q => by cases q), fr.at s.hcd (no s.hcd fun zs q => by cases q), ?_⟩
  · obtain ⟨dx, e⟩ := s.bu.ob
    exact no e fun zs q => by cases q
  · refine ⟨s.hC.len, fun y c e => ?_, s.hC.inj, fun i y e => ?_⟩
    · obtain ⟨v, z⟩ := s.hC.all y c e
      exact ⟨v, fr.at z (no z fun zs q => by cases q)⟩
    · obtain ⟨c, v, z1, z2, z3⟩ := s.hC.has i y e
      exact ⟨c, v, z1, z2, fr.at z3 (no z3 fun zs q => by cases q)⟩
theorem hear_len {room n : Nat} {xs : List Nat} {a : Bool} (h : xs.length ≤ room) (r0 : 0 < room) : (hearL room xs n a).length ≤ room := by
  unfold hearL
  by_cases h1 : n ∈ xs
  · rw [if_pos h1, List.length_append, List.length_erase_of_mem h1, List.length_singleton]
    have := List.length_pos_of_mem h1
    omega
  · rw [if_neg h1]
    by_cases h2 : xs.length < room
    · rw [if_pos h2, List.length_append, List.length_singleton]; omega
    · rw [if_neg h2]
      by_cases h3 : a = true
      · rw [if_pos h3, List.length_append, List.length_singleton, List.length_tail]; omega
      · rw [if_neg h3, List.length_append, List.length_singleton, List.length_tail]; omega
theorem ok_law (T : Tx K mg base) : FnOk P w K mg base CX0 3 T.a_law T.d_law ["_law_script"] (sp_law T) := by
  refine T.F_law.okD sc_law (fun vs H Q E h => ?_) (fun cdv A outer s H vs Q E hr h => ?_)
  · obtain ⟨a, ns, rfl, _⟩ := h; rfl
  · obtain ⟨a, ns, rfl, hS, hlen, hT, q⟩ := h
    have hu := hu_of hr
    have c_Bucket := T.c_Bucket; have n_Bucket_room := T.n_Bucket_room; have n_Bucket_line := T.n_Bucket_line
    refine ⟨_, (pss_cons (ps_set (i := 1) sc_law.nd rfl (Or.inl rfl) (pe_op op_add pe_int (pe_op op_mod (pe_call (ok_l_cell_at T) (hr.mono (by decide)) rfl T.m_l_cell_at T.F_l_cell_at.kp T.b_l_cell_at .nil pass0 (pa_cons (pv 0) (pa_cons pe_int pa_nil))) pe_int)))
      (pss_cons (ps_set (i := 2) sc_law.nd rfl (Or.inl rfl) (pe_make T.M_Bucket (ok_Bucket_init T) hr rfl T.m_Bucket T.b_Bucket_init .nil pass0 (pa_cons (pv 1) pa_nil)))
      (pss_cons (ps_set (i := 3) sc_law.nd rfl (Or.inl rfl) (pe_lst pa_nil))
      (pss_cons (ps_set (i := 4) sc_law.nd rfl (Or.inl rfl) (pe_lst pa_nil))
      (pss_cons (ps_set (i := 5) sc_law.nd rfl (Or.inl rfl) (pe_lst pa_nil))
      (pss_cons (ps_set (i := 6) sc_law.nd rfl (Or.inl rfl) (pe_call (ok_l_asker T) (hr.mono (by decide)) rfl T.m_l_asker T.F_l_asker.kp T.b_l_asker .nil pass0 (pa_cons (pv 4) (pa_cons (pv 5) pa_nil))))
      (pss_cons (ps_for PassesOwn.never rfl (pi_list (pe_call (ok_l_deeds T) hr rfl T.m_l_deeds T.F_l_deeds.kp T.b_l_deeds .nil pass0 (pa_cons (pv 0) (pa_cons (pv 1) pa_nil)))) (pg_name (i := 7) sc_law.nd rfl (Or.inl rfl))
      (pss_cons (ps_set (i := 8) sc_law.nd rfl (Or.inl rfl) (pe_op op_add (pe_op op_fdivW (pv 7) pe_int) (pe_op op_mul pe_int (pe_op op_pow pe_int pe_int))))
      (C8.pss_cut (ps_if (pt_cmpR op_eq (pe_op op_mod (pv 7) pe_int) pe_int (nomark _))
      (pss_one (ps_if (pt_cmpR op_in_seq (pv 8) (pv 5) rfl)
      (pss_one (ps_expr (pe_bm PySem.F.plainAttrs_list PySem.F.slot_list_remove PySem.F.type_list_remove mt_remove (pv 5) (pa_cons (pv 8) pa_nil))))
      (pss_one (ps_expr (pe_bm PySem.F.plainAttrs_list PySem.F.slot_list_append PySem.F.type_list_append mt_append (pv 5) (pa_cons (pv 8) pa_nil))))))
      (pss_one (ps_if (pt_cmpR op_eq (pe_op op_mod (pv 7) pe_int) pe_int (nomark _))
      (pss_cons (ps_set (i := 9) sc_law.nd rfl (Or.inl rfl) (pe_cmpR op_in_seq (pv 8) (pv 3) rfl))
      (pss_cons (ps_set (i := 10) sc_law.nd rfl (Or.inl rfl) (pe_meth (pv 2) T.c_Bucket T.t_Bucket_drops (ok_Bucket_drops T) (hr.mono (by decide)) T.b_Bucket_drops .nil pass0 (pa_cons (pv 8) pa_nil)))
      (pss_cons (ps_if (PW.pt (pw_or (pt_not (pt_val (pe_callB call_isi (by rfl) T.z_isinstance (by decide +kernel) (pa_cons (pv 10) (pa_cons (pe_bltn (v := .ty "bool") rfl T.z_bool (by decide +kernel) rfl) pa_nil))))) (pw_or1 (pt_cmpR op_ne (pv 10) (pv 9) (nomark _)))))
      (pss_one (ps_ret pe_bl))
      pss_nil)
      (pss_one (ps_if (pt_val (pv 9))
      (pss_one (ps_expr (pe_bm PySem.F.plainAttrs_list PySem.F.slot_list_remove PySem.F.type_list_remove mt_remove (pv 3) (pa_cons (pv 8) pa_nil))))
      pss_nil)))))
      (pss_cons (ps_set (i := 11) sc_law.nd rfl (Or.inl rfl) (pe_call (ok_l_heard T) (hr.mono (by decide)) rfl T.m_l_heard T.F_l_heard.kp T.b_l_heard .nil pass0 (pa_cons (pv 3) (pa_cons (pv 1) (pa_cons (pv 8) (pa_cons (pv 5) pa_nil))))))
      (pss_cons (ps_expr (pe_bm0 PySem.F.plainAttrs_list PySem.F.slot_list_clear PySem.F.type_list_clear mt_clear (pv 4)))
      (pss_one (ps_if (pt_cmpR (op_neD hr.units) (pe_tup (pa_cons (pe_meth (pv 2) T.c_Bucket T.t_Bucket_hears (ok_Bucket_hears T) hr T.b_Bucket_hears .nil pass0 (pa_cons (pv 8) (pa_cons (pv 6) pa_nil))) (pa_cons (pe_callTy cb_list (by rfl) T.z_list (by decide +kernel) (pa_cons (pv 4) pa_nil)) pa_nil))) (pv 11) (nomark _))
      (pss_one (ps_ret pe_bl))
      pss_nil)))))))
      (pss_cons (ps_set (i := 10) sc_law.nd rfl (Or.inl rfl) (pe_meth0 (pv 2) T.c_Bucket T.t_Bucket_names (ok_Bucket_names T) (hr.mono (by decide)) T.b_Bucket_names .nil pass0))
      (pss_cons (ps_if (PW.pt (pw_or (pt_not (pt_val (pe_callB call_isi (by rfl) T.z_isinstance (by decide +kernel) (pa_cons (pv 10) (pa_cons (pe_bltn (v := .ty "list") rfl T.z_list (by decide +kernel) rfl) pa_nil))))) (pw_or1 (pt_cmpR (op_neD hr.units) (pv 10) (pv 3) (nomark _)))))
      (pss_one (ps_ret pe_bl))
      pss_nil)
      (pss_one (ps_expr (pe_bm PySem.F.plainAttrs_list PySem.F.slot_list_append PySem.F.type_list_append mt_append (pv 10) (pa_cons pe_int pa_nil)))))))))
      (pss_one (ps_ret (pe_cmpR (op_eqD hr.units) (pe_meth0 (pv 2) T.c_Bucket T.t_Bucket_names (ok_Bucket_names T) (hr.mono (by decide)) T.b_Bucket_names .nil pass0) (pv 3) (nomark _))))))))))), ?_⟩
    rw [Nn.st_law]; try rw [Nn.cxK]
    walk_at "wx"
    rename_i c0
    obtain ⟨room, hroom, r0, r1⟩ : ∃ room : Nat, (1 : Int) + (c0 : Int) % 8 = (room : Int) ∧ 0 < room ∧ room ≤ 8 := ⟨1 + c0 % 8, by omega, by omega, by omega⟩
    rw [hroom]
    refine x_make fun bp dx H1 hbp ex1 hbp1 => ?_
    refine ⟨bp, dx, room, rfl, hbp1, fun l H2 hl0 hl2 fr2 bu2 => ⟨rfl, ?_⟩⟩
    have ex2 : Ex H H2 := fr2.ex ex1 fun y z => by rw [z]; exact hbp
    walk_at "wx"
    refine ⟨len_ok rfl, fun pl hpl => ?_⟩
    walk_at "wx"
    refine ⟨len_ok rfl, fun pc hpc => ?_⟩
    walk_at "wx"
    refine ⟨len_ok rfl, fun ps hps => ?_⟩
    walk_at "wx"
    have ex3 := (((Ex.new (o := .lst []) hpl).newT (o := .lst []) hpc).newT (o := .lst []) hps)
    have hl5 := ex3.at hl2
    have hp5 := at_new (o := .lst []) hps (at_new (o := .lst []) hpc (upd_same (H := H2) (a := pl) (o := .lst [])))
    have hc5 := at_new (o := .lst []) hps (upd_same (H := upd H2 pl (.lst [])) (a := pc) (o := .lst []))
    have hs5 := upd_same (H := upd (upd H2 pl (.lst [])) pc (.lst [])) (a := ps) (o := .lst [])
    have n1 := ne_of_none hl2 hpl
    have n2 := ne_of_none (at_new (o := .lst []) hpl hl2) hpc
    have n3 := ne_of_none (at_new (o := .lst []) hpc (at_new (o := .lst []) hpl hl2)) hps
    have n4 := ne_of_none (upd_same (H := H2) (a := pl) (o := .lst [])) hpc
    have n5 := ne_of_none (at_new (o := .lst []) hpc (upd_same (H := H2) (a := pl) (o := .lst []))) hps
    have n6 := ne_of_none (upd_same (H := upd H2 pl (.lst [])) (a := pc) (o := .lst [])) hps
    generalize upd (upd (upd H2 pl (.lst [])) pc (.lst [])) ps (.lst []) = H5 at ex3 hl5 hp5 hc5 hs5 ⊢
    have ex5 : Ex H H5 := ex2.trans ex3
    refine ⟨pc, ps, rfl, Fr.tabs ex5 (tabs0 hT), fun f cl cd H6 ex6 hf0 hf hcd hC => ?_⟩
    walk_at "wx"
    refine wc_l_deeds rfl (ex6.ls (ex5.ls hS)) ⟨r1, r0⟩ fun pd H7 ds hds hpd ex7 hpd7 => ?_
    have ex57 := ex6.trans ex7
    have nd : ¬ Is4 l pl pc ps pd := fun z => by
      rcases z with z | z | z | z <;> rw [z] at hpd
      · rw [ex6.at hl5] at hpd; cases hpd
      · rw [ex6.at hp5] at hpd; cases hpd
      · rw [ex6.at hc5] at hpd; cases hpd
      · rw [ex6.at hs5] at hpd; cases hpd
    have s7 : S11 T H7 bp l pl pc ps f pd cd cl room [] [] [] [] ds := ⟨bu2.fr (ex3.trans ex57) id, ex57.at hl5, ex57.at hp5, ex57.at hc5, ex57.at hs5, hpd7, ex7.at hf, ex7.at hcd, hC.ex fun a o e n => ex7.at e (n := n)⟩
    clear ex1 ex2 ex3 ex5 ex6 ex7 ex57 hl5 hp5 hc5 hs5 hf hcd hC bu2 fr2 hl2
    walk_at "wx"
    refine ForW.by walk_list (fun i σ H' => ∃ (v7 v8 v9 v10 v11 : Option V) (xs cs ss : List Nat), σ = [some (.ref a), some (.int room), some (.ref bp), some (.ref pl), some (.ref pc), some (.ref ps), some (.ref f), v7, v8, v9, v10, v11] ∧ S11 T H' bp l pl pc ps f pd cd cl room xs xs cs ss ds ∧ xs.length ≤ room ∧ cs.length ≤ 1 ∧ ss.length ≤ i)
      ⟨none, none, none, none, none, [], [], [], rfl, s7, Nat.zero_le _, Nat.zero_le _, Nat.zero_le _⟩ (fun i σ H' _ ⟨_, _, _, _, _, _, _, _, _, s, _⟩ => SqL.of s.hd) ?_ ?_
    · rintro i x σ _ H8 hi ⟨v7, v8, v9, v10, v11, xs, cs, ss, rfl, s8, hxl, hcl, hsl⟩ ⟨rfl, hx⟩
      rw [List.length_map] at hi
      obtain rfl : x = nV ds[i] := by
        rw [List.getElem?_map, List.getElem?_eq_getElem hi] at hx
        exact (Option.some.inj hx).symm
      generalize ds[i] = d
      obtain ⟨bu, hl, hp, hc, hs, hd, hf, hcd, hC⟩ := id s8
      obtain ⟨bdx, hob⟩ := bu.ob
      walk_at "wx"
      obtain ⟨n, hn⟩ : ∃ n : Nat, (d : Int) / 4 + 16 * 10 ^ (15 : Int).toNat = (n : Int) := ⟨d / 4 + 16 * 10 ^ 15, by simp⟩
      rw [hn]
      refine x_cut (fun σ' H' => ∃ (v9 v10 v11 : Option V) (xs cs ss : List Nat), σ' = [some (.ref a), some (.int room), some (.ref bp), some (.ref pl), some (.ref pc), some (.ref ps), some (.ref f), some (.int d), some (.int n), v9, v10, v11] ∧ S11 T H' bp l pl pc ps f pd cd cl room xs xs cs ss ds ∧ xs.length ≤ room ∧ cs.length ≤ 1 ∧ ss.length ≤ i + 1) ?_ ?_
      · walk_at "wx"
        refine x_ifD (fun _ => ?_) fun _ => ?_
        · walk_at "wx"
          refine x_ifD (fun hin => ?_) fun hin => ?_
          · walk_at "wx"
            refine x_remove rfl hs hin ?_
            have fr := Fr.upd1 (o := .lst ((ss.erase n).map nV)) hs
            walk_at "wx"
            exact ⟨_, _, _, xs, cs, ss.erase n, rfl, s8.fr fr (fun a z => .inr (.inr (.inr z))) nd (fr.at hl n3) (fr.at hp n5) (fr.at hc n6) upd_same, hxl, hcl, Nat.le_trans (List.length_erase_le ..) (by omega)⟩
          · walk_at "wx"
            have fr := Fr.upd1 (o := .lst (ss.map nV ++ [nV n])) hs
            exact ⟨_, _, _, xs, cs, ss ++ [n], rfl, s8.fr fr (fun a z => .inr (.inr (.inr z))) nd (fr.at hl n3) (fr.at hp n5) (fr.at hc n6) (by rw [upd_same, List.map_append]; rfl), hxl, hcl, by rw [List.length_append, List.length_singleton]; omega⟩
        · walk_at "wx"
          refine x_ifD (fun _ => ?_) fun _ => ?_
          · walk_at "wx"
            refine ⟨bp, l, room, xs, n, rfl, bu, hl, fun hin => ?_, fun hin fr => ?_⟩
            · walk_at "wx"
              rw [decide_eq_false hin]
              walk_at "wx"
              exact ⟨_, _, _, xs, cs, ss, rfl, s8, hxl, hcl, by omega⟩
            · walk_at "wx"
              rw [decide_eq_true hin]
              have hp2 := fr.at hp n1.symm
              have hs2 := fr.at hs n3.symm
              have hc2 := fr.at hc n2.symm
              walk_at "wx"
              refine x_remove rfl hp2 hin ?_
              have fr2 := Fr.upd1 (o := .lst ((xs.erase n).map nV)) hp2
              walk_at "wx"
              refine ⟨_, _, _, xs.erase n, cs, ss, rfl, s8.fr ((fr.mono fun a z => .inl z).trans (fr2.mono fun a z => .inr (.inl z))) (fun a z => z) nd (fr2.at upd_same n1) upd_same (fr2.at hc2 n4.symm) (fr2.at hs2 n5.symm), Nat.le_trans (List.length_erase_le ..) hxl, hcl, by omega⟩
          · walk_at "wx"
            refine wc_l_heard rfl rfl (SqL.of hp) (SqL.of hs) ⟨hp, n5, r0, by omega⟩ fun pt pa H9 hpt hpa npa fr9 hp9 hpa9 hpt9 => ?_
            have hs9 := fr9.at hs n5.symm
            have hc9 := fr9.at hc n4.symm
            have hl9 := fr9.at hl n1
            have s9 : S11 T H9 bp l pl pc ps f pd cd cl room xs (hearL room xs n (!decide (xs.headD 0 ∈ ss))) cs ss ds := s8.fr (fr9.mono fun a z => .inr (.inl z)) (fun a z => z) nd hl9 hp9 hc9 hs9
            walk_at "wx"
            refine x_clear hc9 ?_
            have fr10 := Fr.upd1 (o := .lst []) hc9
            have s10 := s9.fr (cs' := []) (fr10.mono fun a z => .inr (.inr (.inl z))) (fun a z => z) nd (fr10.at hl9 n2) (fr10.at hp9 n4) upd_same (fr10.at hs9 n6.symm)
            have npc : pa ≠ pc := fun z => by rw [z, hc] at hpa; cases hpa
            have npt : pt ≠ pc := fun z => by rw [z, hc] at hpt; cases hpt
            have hpa10 := fr10.at hpa9 npc
            have hpt10 := fr10.at hpt9 npt
            generalize upd H9 pc (.lst []) = H10 at s10 hpa10 hpt10 ⊢
            obtain ⟨bu10, hl10, hp10, hc10, hs10, hd10, hf10, hcd10, hC10⟩ := id s10
            obtain ⟨bdx10, hob10⟩ := bu10.ob
            walk_at "wx"
            refine wc_Bucket_hears (A := ⟨pc, ps, [], ss, cl, cd⟩) bu10 hl10 r0 (by omega) (by omega) ⟨hf10, hcd10, hC10, hc10, hs10, n6, Nat.zero_le _⟩ n2 fun H11 fr11 hl11 hA11 => ?_
            have hA11 : H11 pc = some (.lst ((askedL room xs n).map nV)) := hA11
            have eb : ansB (An.mk pc ps [] ss cl cd) (xs.headD 0) = !decide (xs.headD 0 ∈ ss) := rfl
            rw [eb] at hl11 ⊢
            have fr11 : Fr (fun a => a = l ∨ a = pc) H10 H11 := fr11
            have noS : ∀ {x : Addr}, x ≠ l → x ≠ pc → ¬ (x = l ∨ x = pc) := fun h1 h2 z => z.elim h1 h2
            have hs11 := fr11.at hs10 (noS n3.symm n6.symm)
            have hp11 := fr11.at hp10 (noS n1.symm n4)
            have s11 := s10.fr (fr11.mono fun a z => z.elim .inl fun z => .inr (.inr (.inl z))) (fun a z => z) nd hl11 hp11 hA11 hs11
            have npl : pa ≠ l := fun z => by rw [z, hl] at hpa; cases hpa
            have nptl : pt ≠ l := fun z => by rw [z, hl] at hpt; cases hpt
            have hpa11 := fr11.at hpa10 (noS npl npc)
            have hpt11 := fr11.at hpt10 (noS nptl npt)
            walk_at "wx"
            refine x_listL (SqL.of hA11) fun l12 hl12 => ?_
            walk_at "wx"
            refine ⟨len_ok rfl, fun t12 ht12 => ?_⟩
            have s12 := s11.fr (((Ex.new (o := .lst ((askedL room xs n).map nV)) hl12).newT (o := .tup [.str (hearW room xs n (!decide (xs.headD 0 ∈ ss))), .ref l12]) ht12).fr (S := fun _ => False)) (fun a z => z.elim) nd (at_new ht12 (at_new hl12 hl11)) (at_new ht12 (at_new hl12 hp11)) (at_new ht12 (at_new hl12 hA11)) (at_new ht12 (at_new hl12 hs11))
            have hpa12 := at_new (o := .tup [.str (hearW room xs n (!decide (xs.headD 0 ∈ ss))), .ref l12]) ht12 (at_new (o := .lst ((askedL room xs n).map nV)) hl12 hpa11)
            have hpt12 := at_new (o := .tup [.str (hearW room xs n (!decide (xs.headD 0 ∈ ss))), .ref l12]) ht12 (at_new (o := .lst ((askedL room xs n).map nV)) hl12 hpt11)
            have hl12' := at_new (o := .tup [.str (hearW room xs n (!decide (xs.headD 0 ∈ ss))), .ref l12]) ht12 (upd_same (H := H11) (a := l12) (o := .lst ((askedL room xs n).map nV)))
            have ht12' := upd_same (H := upd H11 l12 (.lst ((askedL room xs n).map nV))) (a := t12) (o := .tup [.str (hearW room xs n (!decide (xs.headD 0 ∈ ss))), .ref l12])
            generalize upd (upd H11 l12 (.lst ((askedL room xs n).map nV))) t12 (.tup [.str (hearW room xs n (!decide (xs.headD 0 ∈ ss))), .ref l12]) = H12 at s12 hpa12 hpt12 hl12' ht12' ⊢
            walk_at "wx"
            have hsh : PyData.canLay0 (.str (hearW room xs n (!decide (xs.headD 0 ∈ ss)))) = true := by
              unfold hearW
              repeat' split
              all_goals (simp only [PyData.canLay0]; decide +kernel)
            refine x_neSame (d := .tuple [.str (hearW room xs n (!decide (xs.headD 0 ∈ ss))), .list (((askedL room xs n).map fun n : Nat => (n : Int)).map PyData.int)]) (k := 2)
              (.tup (SqT.of ht12') (.cons (.str _) (.cons (Dp.natsL (SqL.of hl12')) .nil))) (.tup (SqT.of hpt12) (.cons (.str _) (.cons (Dp.natsL (SqL.of hpa12)) .nil))) (Shp.tup fun x hx => ?_) ?_
            · rcases List.mem_cons.mp hx with e | hx
              · rw [e]; exact (Shp.str hsh).mono (by decide)
              · rw [List.mem_singleton.mp hx]; exact Shp.ints
            · walk_at "wx"
              have hal : (askedL room xs n).length ≤ 1 := by
                unfold askedL
                repeat' split
                all_goals simp
              exact ⟨_, _, _, _, _, ss, rfl, s12, hear_len hxl r0, hal, by omega⟩
      · clear s8 hxl hcl hsl bu hl hp hc hs hd hf hcd hC hob
        rintro σ' H9 ⟨v9, v10, v11, xs, cs, ss, rfl, s8, hxl, hcl, hsl⟩
        obtain ⟨bu, hl, hp, hc, hs, hd, hf, hcd, hC⟩ := id s8
        obtain ⟨bdx, hob⟩ := bu.ob
        walk_at "wx"
        refine wc_Bucket_names bu hl fun r hr => ?_
        have hp9 := at_new (o := .lst (xs.map nV)) hr hp
        walk_at "wx"
        rw [upd_upd]
        have ex := Ex.new (o := .lst (xs.map nV ++ [.int 0])) hr
        exact ⟨_, _, _, _, _, xs, cs, ss, rfl, s8.fr (ex.fr (S := fun _ => False)) (fun a z => z.elim) nd (ex.at hl) (ex.at hp) (ex.at hc) (ex.at hs), hxl, hcl, hsl⟩
    · rintro σ H8 ⟨v7, v8, v9, v10, v11, xs, cs, ss, rfl, s8, hxl, hcl, hsl⟩
      obtain ⟨bu, hl, hp, hc, hs, hd, hf, hcd, hC⟩ := id s8
      obtain ⟨bdx, hob⟩ := bu.ob
      walk_at "wx"
      refine wc_Bucket_names bu hl fun r hr => ?_
      walk_at "wx"
      rw [decide_eq_true rfl]
      exact q _
end
end Nn
namespace Nn
open PySem PySem.Spec PyProof.Rows L2
def dd_Bucket_init : He.DefD := ⟨("Bucket", some "__init__"), "__init__", "Bucket.__init__", defArgs s_Bucket_init, defBody s_Bucket_init, defScope s_Bucket_init, [], []⟩
def dd_Bucket_names : He.DefD := ⟨("Bucket", some "names"), "names", "Bucket.names", defArgs s_Bucket_names, defBody s_Bucket_names, defScope s_Bucket_names, [], []⟩
def dd_Bucket_hears : He.DefD := ⟨("Bucket", some "hears"), "hears", "Bucket.hears", defArgs s_Bucket_hears, defBody s_Bucket_hears, defScope s_Bucket_hears, [], []⟩
def dd_Bucket_drops : He.DefD := ⟨("Bucket", some "drops"), "drops", "Bucket.drops", defArgs s_Bucket_drops, defBody s_Bucket_drops, defScope s_Bucket_drops, [], []⟩
def dd_l_cell_at : He.DefD := ⟨("_law_cell_at", none), "_law_cell_at", "_law_cell_at", defArgs s_l_cell_at, defBody s_l_cell_at, defScope s_l_cell_at, [], []⟩
def dd_l_mixed : He.DefD := ⟨("_law_mixed", none), "_law_mixed", "_law_mixed", defArgs s_l_mixed, defBody s_l_mixed, defScope s_l_mixed, [], []⟩
def dd_l_deeds : He.DefD := ⟨("_law_deeds", none), "_law_deeds", "_law_deeds", defArgs s_l_deeds, defBody s_l_deeds, defScope s_l_deeds, [], []⟩
def dd_l_heard : He.DefD := ⟨("_law_heard", none), "_law_heard", "_law_heard", defArgs s_l_heard, defBody s_l_heard, defScope s_l_heard, [], []⟩
def dd_l_asker : He.DefD := ⟨("_law_asker", none), "_law_asker", "_law_asker", defArgs s_l_asker, defBody s_l_asker, defScope s_l_asker, [], []⟩
def dd_law : He.DefD := ⟨("law", none), "law", "law", defArgs s_law, defBody s_law, defScope s_law, [], []⟩
def fnL : List He.DefD := [dd_Bucket_init, dd_Bucket_names, dd_Bucket_hears, dd_Bucket_drops, dd_l_cell_at, dd_l_mixed, dd_l_deeds, dd_l_heard, dd_l_asker, dd_law]
def faL : List He.Fa := [.glo "_law_cell_at",
  .glo "_law_mixed",
  .glo "_law_deeds",
  .glo "_law_heard",
  .glo "_law_asker",
  .glo "law",
  .glo "Bucket",
  .cls "Bucket",
  .mkr "Bucket",
  .noat "Bucket" "room",
  .noat "Bucket" "line",
  .meth "Bucket" "names",
  .meth "Bucket" "hears",
  .meth "Bucket" "drops",
  .free "abs",
  .free "bool",
  .free "enumerate",
  .free "isinstance",
  .free "len",
  .free "list"]
abbrev RW : PySem.W.OpenRow := PySem.W.OpenLaw.row PySem.Challenge.rw_nearnames_k11_bucket_hears
abbrev hkX : PySem.W.Hook := He.hookX 6 faL fnL [] tfL (fun _ => true)
def obL (s : PySem.W.SharedT) : He.AlX := He.obsX 6 faL fnL [] tfL (fun _ => true) (HandSHeadRun.getT s)
theorem obL_eq (s : PySem.W.SharedT) : obL s = hkX.obs s.abs := He.obsX_eq (HandSHeadRun.getT_eq s)
def loose0 : List Str := ["Bucket", "_law_cell_at", "_law_mixed", "_law_deeds", "_law_heard", "_law_asker"]
def looseL : List Str := loose0
theorem runL (w : World) : HandSHeadRun.RunEq RW (PySem.W.view RW.prog [8]) hkX obL 6000 looseL w := by
  intro os
  kernel_rfl
theorem factsL {w : World} {K : PySem.W.Frag} {h : Heap} {mg : Str → Option Value} {f : Addr} (X : K.In h) (G : h.Ns mainGlobals mg) (hfa : mg ("law" : Str) = some (.ref f)) (c : He.SaysX faL fnL [] tfL (fun _ => true) w h K) :
    LamX.LawAtS PySem.Challenge.rw_nearnames_k11_bucket_hears w K CX0 3 63 "_law_script" mg f h := by
  obtain ⟨fd0, F0⟩ := c.t.d.def_ 0 (d := dd_Bucket_init) rfl
  have b0 := FunD.bindsN (ps := ["self", "room"]) F0 fun _ _ _ _ _ _ us hl => match us, hl with | [_, _], _ => rfl
  obtain ⟨fd1, F1⟩ := c.t.d.def_ 1 (d := dd_Bucket_names) rfl
  have b1 := FunD.bindsN (ps := ["self"]) F1 fun _ _ _ _ _ _ us hl => match us, hl with | [_], _ => rfl
  obtain ⟨fd2, F2⟩ := c.t.d.def_ 2 (d := dd_Bucket_hears) rfl
  have b2 := FunD.bindsN (ps := ["self", "name", "answers"]) F2 fun _ _ _ _ _ _ us hl => match us, hl with | [_, _, _], _ => rfl
  obtain ⟨fd3, F3⟩ := c.t.d.def_ 3 (d := dd_Bucket_drops) rfl
  have b3 := FunD.bindsN (ps := ["self", "name"]) F3 fun _ _ _ _ _ _ us hl => match us, hl with | [_, _], _ => rfl
  obtain ⟨fd4, F4⟩ := c.t.d.def_ 4 (d := dd_l_cell_at) rfl
  have b4 := FunD.bindsN (ps := ["_law_script", "_law_k"]) F4 fun _ _ _ _ _ _ us hl => match us, hl with | [_, _], _ => rfl
  obtain ⟨fd5, F5⟩ := c.t.d.def_ 5 (d := dd_l_mixed) rfl
  have b5 := FunD.bindsN (ps := ["_law_cell", "_law_k"]) F5 fun _ _ _ _ _ _ us hl => match us, hl with | [_, _], _ => rfl
  obtain ⟨fd6, F6⟩ := c.t.d.def_ 6 (d := dd_l_deeds) rfl
  have b6 := FunD.bindsN (ps := ["_law_script", "_law_room"]) F6 fun _ _ _ _ _ _ us hl => match us, hl with | [_, _], _ => rfl
  obtain ⟨fd7, F7⟩ := c.t.d.def_ 7 (d := dd_l_heard) rfl
  have b7 := FunD.bindsN (ps := ["_law_line", "_law_room", "_law_name", "_law_silent"]) F7 fun _ _ _ _ _ _ us hl => match us, hl with | [_, _, _, _], _ => rfl
  obtain ⟨fd8, F8⟩ := c.t.d.def_ 8 (d := dd_l_asker) rfl
  have b8 := FunD.bindsN (ps := ["_law_calls", "_law_silent"]) F8 fun _ _ _ _ _ _ us hl => match us, hl with | [_, _], _ => rfl
  obtain ⟨fd9, F9⟩ := c.t.d.def_ 9 (d := dd_law) rfl
  have b9 := FunD.bindsN (ps := ["_law_script"]) F9 fun _ _ _ _ _ _ us hl => match us, hl with | [_], _ => rfl
  have e := hfa.symm.trans (He.glo_ok X G (c.t.d.fact 5 (f := .glo "law") rfl))
  cases e
  refine ⟨fd9, tfL.map (He.cT K), spLaw K, List.forall_mem_map.mpr fun p hp => c.empty p hp, List.forall_mem_map.mpr fun p hp => c.out p hp, List.forall_mem_map.mpr fun p hp => PySem.W.codeHd_of_K X (c.hd p hp), fun s v => FunD.bindsA (ps := ["_law_script"]) F9 (fun _ _ _ _ _ _ us hl => match us, hl with | [_], _ => rfl) s [v] rfl, fun H a ns hl _ hT hS => ⟨a, ns, rfl, hS, hl, hT, fun _ => rfl⟩, fun base KB GB hTB => ok_law (K := K) (mg := mg) (base := base) {
      a_Bucket_init := (He.ma K (He.ga K "Bucket") "__init__"), d_Bucket_init := fd0, F_Bucket_init := F0, b_Bucket_init := b0,
      a_Bucket_names := (He.ma K (He.ga K "Bucket") "names"), d_Bucket_names := fd1, F_Bucket_names := F1, b_Bucket_names := b1,
      a_Bucket_hears := (He.ma K (He.ga K "Bucket") "hears"), d_Bucket_hears := fd2, F_Bucket_hears := F2, b_Bucket_hears := b2,
      a_Bucket_drops := (He.ma K (He.ga K "Bucket") "drops"), d_Bucket_drops := fd3, F_Bucket_drops := F3, b_Bucket_drops := b3,
      a_l_cell_at := (He.ga K "_law_cell_at"), d_l_cell_at := fd4, F_l_cell_at := F4, b_l_cell_at := b4,
      m_l_cell_at := He.glo_ok X G (c.t.d.fact 0 (f := .glo "_law_cell_at") rfl),
      a_l_mixed := (He.ga K "_law_mixed"), d_l_mixed := fd5, F_l_mixed := F5, b_l_mixed := b5,
      m_l_mixed := He.glo_ok X G (c.t.d.fact 1 (f := .glo "_law_mixed") rfl),
      a_l_deeds := (He.ga K "_law_deeds"), d_l_deeds := fd6, F_l_deeds := F6, b_l_deeds := b6,
      m_l_deeds := He.glo_ok X G (c.t.d.fact 2 (f := .glo "_law_deeds") rfl),
      a_l_heard := (He.ga K "_law_heard"), d_l_heard := fd7, F_l_heard := F7, b_l_heard := b7,
      m_l_heard := He.glo_ok X G (c.t.d.fact 3 (f := .glo "_law_heard") rfl),
      a_l_asker := (He.ga K "_law_asker"), d_l_asker := fd8, F_l_asker := F8, b_l_asker := b8,
      m_l_asker := He.glo_ok X G (c.t.d.fact 4 (f := .glo "_law_asker") rfl),
      a_law := (He.ga K "law"), d_law := fd9, F_law := F9, b_law := b9,
      m_law := He.glo_ok X G (c.t.d.fact 5 (f := .glo "law") rfl),
      C_Bucket := He.ga K "Bucket", c_Bucket := He.cls_ok (c.t.d.fact 7 (f := .cls "Bucket") rfl), m_Bucket := He.glo_ok X G (c.t.d.fact 6 (f := .glo "Bucket") rfl), M_Bucket := He.mkr_ok (c.t.d.fact 8 (f := .mkr "Bucket") rfl),
      t_Bucket_names := He.meth_ok (c.t.d.fact 11 (f := .meth "Bucket" "names") rfl),
      t_Bucket_hears := He.meth_ok (c.t.d.fact 12 (f := .meth "Bucket" "hears") rfl),
      t_Bucket_drops := He.meth_ok (c.t.d.fact 13 (f := .meth "Bucket" "drops") rfl),
      n_Bucket_room := He.noat_ok (c.t.d.fact 9 (f := .noat "Bucket" "room") rfl),
      n_Bucket_line := He.noat_ok (c.t.d.fact 10 (f := .noat "Bucket" "line") rfl),
      z_abs := He.free_ok X G (c.t.d.fact 14 (f := .free "abs") rfl),
      z_bool := He.free_ok X G (c.t.d.fact 15 (f := .free "bool") rfl),
      z_enumerate := He.free_ok X G (c.t.d.fact 16 (f := .free "enumerate") rfl),
      z_isinstance := He.free_ok X G (c.t.d.fact 17 (f := .free "isinstance") rfl),
      z_len := He.free_ok X G (c.t.d.fact 18 (f := .free "len") rfl),
      z_list := He.free_ok X G (c.t.d.fact 19 (f := .free "list") rfl),
      k_l_asker := He.codeOf K ("_law_asker", none), P_l_asker := He.tabOf K (He.codeOf K ("_law_asker", none)), tb_l_asker := hTB _ (List.mem_map.mpr ⟨(("_law_asker", none) : He.Defn), by simp [tfL], rfl⟩), FC_l_asker := func_of (p := ("_law_asker", none)) F8, z0_l_asker := fun H h => h _ (List.mem_map.mpr ⟨(("_law_asker", none) : He.Defn), by simp [tfL], rfl⟩) }⟩
end Nn
open PySem PySem.W PySem.Calls PyProof.Rows
theorem PySem.Challenge.cw_nearnames_k11_bucket_hears_holds : PySem.Challenge.rw_nearnames_k11_bucket_hears.Holds := by
  w_on; o_law
  refine HandSHeadRun.head_any (r := OpenLaw.row PySem.Challenge.rw_nearnames_k11_bucket_hears) (q := view (OpenLaw.row PySem.Challenge.rw_nearnames_k11_bucket_hears).prog [8]) (H := Nn.hkX) (ob := Nn.obL) (M := 6000) (loose := Nn.looseL) (d := HandSHeadRun.topDef (OpenLaw.row PySem.Challenge.rw_nearnames_k11_bucket_hears).prog 8) (kwd := []) Nn.obL_eq
    (by kernel_rfl) (fun s => by kernel_rfl) Nn.runL (by kernel_rfl) (by kernel_rfl) (by kernel_rfl) (by rfl) (by first | assumption | decide +kernel) (by decide +kernel) ⟨rfl, rfl, rfl, rfl, rfl, by decide +kernel⟩ ?hw ?hc
  case hw => w_witness2
  case hc =>
    refine LamX.walk_ofTsE (l := PySem.Challenge.rw_nearnames_k11_bucket_hears) (n := 63) (k := 3) (x := "_law_script") (CX := fun _ => L2.CX0) rfl (by decide) (by kernel_rfl) ⟨rfl, by decide, by decide⟩ ?F (fun _ _ _ _ _ z => z)
    intro w mg fa h Y G hmg0
    obtain ⟨K, KX, c⟩ := Y
    have hmg : mg ("law" : PySem.Str) = some (.ref fa) := by
      have e : (HandSHeadRun.topDef (OpenLaw.row PySem.Challenge.rw_nearnames_k11_bucket_hears).prog 8).name = ("law" : PySem.Str) := by kernel_rfl
      rw [← e]
      exact hmg0
    exact ⟨K, KX, Nn.factsL KX G hmg c⟩
