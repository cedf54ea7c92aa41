import PyProof.Rows.All
import Wide.All
import OpenK.AllK
import Wide.FinOn
import HandS.ForMost
import HandS.Walk
import HandS.Wide
import HandS.WideBits
import HandS.IsInst
import HandS.EndBits
import HandS.SortInts
import HandS.Flow
import HandS.Nested
import HandS.EndTab
import HandS.More
import HandS.SetFor
import HandS.Strs
import HandS.Zip
import HandS.CallLocal
import HandS.Defaults
import HandS.Head0
import HandS.Head1
import HandS.Head2
import HandS.HeadEnd
import HandS.HeadHook1
import HandS.HeadHook2
import HandS.HeadHook3
import HandS.HeadHook4
import HandS.HeadWalk
import HandS.DictComp
import HandS.DeepEq
import KE.SortKeyHeap
import KE.DataMinMax
import HandS.SortRule
import HandS.ClsMeth
import PySem.Challenge.RW_nearnames_k72_whole_losses
set_option Elab.async false
set_option linter.all false
set_option maxRecDepth 100000
set_option maxHeartbeats 4000000
namespace Nn
open PySem L2
def nmAll (l c : Nat) : Str := if l = 206 ∧ c = 8 then (("Town.hears" : Str) ++ ".<locals>.") ++ "answers" else if l = 223 ∧ c = 8 then (("Town.ask" : Str) ++ ".<locals>.") ++ "tells" else if l = 238 ∧ c = 8 then (("Town.way" : Str) ++ ".<locals>.") ++ "tells" else if l = 358 ∧ c = 39 then ("_law_by_nearness" : Str) ++ ".<locals>." ++ "<lambda>" else ""
end Nn
/-! Steps through readings. -/
namespace Nn
open PySem L2
section
variable {K : PySem.W.Frag} {σ : L2.St} {H : Hp} {ta tb te tc : TE} {t u : TS} {c c' : TT} {D : Ends} {Q : VK} {x y v : V}

theorem cxK {CX : CXT} {P : Program} {w : World} {K : PySem.W.Frag} {mg : Str → Option Value} {base : Heap} {N : List Str} {q : Str} {sc : Scope} {f : Addr} {cd : Value} {A : Around} {outer : List Env} {s : Shared} {H : Hp} {E : XK} :
    (cxOf CX P w K mg base N q sc f cd A outer s H E).nox.K = K := rfl
theorem cxK' {CX : CXT} {P : Program} {w : World} {K : PySem.W.Frag} {mg : Str → Option Value} {base : Heap} {N : List Str} {q : Str} {sc : Scope} {f : Addr} {cd : Value} {A : Around} {outer : List Env} {s : Shared} {H : Hp} {E : XK} :
    (cxOf CX P w K mg base N q sc f cd A outer s H E).K = K := rfl
theorem cxW {CX : CXT} {P : Program} {w : World} {K : PySem.W.Frag} {mg : Str → Option Value} {base : Heap} {N : List Str} {q : Str} {sc : Scope} {f : Addr} {cd : Value} {A : Around} {outer : List Env} {s : Shared} {H : Hp} {E : XK} :
    (cxOf CX P w K mg base N q sc f cd A outer s H E).w = w := rfl
theorem x_seq (h : t { D with nx := u D } σ H) : tSeq t u D σ H := h
theorem x_next (h : D.nx σ H) : tNext D σ H := h
theorem x_asg {g : TG} (h : te σ H fun x H1 => g x σ H1 D.nx) : tAsg te g D σ H := h
theorem x_name {i : Nat} {R : L2.St → Hp → Prop} (h : R (σ.set i (some v)) H) : gName i v σ H R := h
theorem x_ret (h : te σ H D.rt) : tRet te D σ H := h
theorem x_retN (h : D.rt .non H) : tRetN D σ H := h
theorem x_drop (h : te σ H fun _ H1 => D.nx σ H1) : tDrop te D σ H := h
/-- the branches as they stand (not walked until the test is known) -/
def IfS (b : Bool) (t u : TS) (D : Ends) (σ : L2.St) (H : Hp) : Prop := if b = true then t D σ H else u D σ H
theorem x_ifD {p : Prop} [Decidable p] (h1 : p → t D σ H) (h2 : ¬ p → u D σ H) : IfS (decide p) t u D σ H := by
  unfold IfS
  by_cases h : p
  · rw [if_pos (decide_eq_true h)]; exact h1 h
  · rw [if_neg (by simp [h])]; exact h2 h
theorem x_ifN {p : Prop} [Decidable p] (h1 : ¬ p → t D σ H) (h2 : p → u D σ H) : IfS (!decide p) t u D σ H := by
  unfold IfS
  by_cases h : p
  · rw [if_neg (by simp [h])]; exact h2 h
  · rw [if_pos (by simp [h])]; exact h1 h
theorem x_ifB {b : Bool} (h1 : b = true → t D σ H) (h2 : b = false → u D σ H) : IfS b t u D σ H := by
  cases b with
  | true => exact h1 rfl
  | false => exact h2 rfl
theorem x_INs {α : Type} [DecidableEq α] {b : α} (h : u D σ H) : IfS (!decide (b = b)) t u D σ H := by
  rw [decide_eq_true rfl]; exact h
theorem x_IEs {α : Type} [DecidableEq α] {b : α} (h : t D σ H) : IfS (decide (b = b)) t u D σ H := by
  rw [decide_eq_true rfl]; exact h
theorem x_if {tt : TT} (h : tt σ H fun b H1 => if b = true then ta σ H1 Q else tb σ H1 Q) : tIf tt ta tb σ H Q := h
theorem x_var {i : Nat} (e : σ[i]? = some (some v)) (h : Q v H) : tVar i σ H Q := ⟨v, e, h⟩
theorem x_c (h : Q v H) : tC v σ H Q := h
theorem x_op {r : R2} (h : ta σ H fun x H1 => tb σ H1 fun y H2 => r x y H2 Q) : tOp r ta tb σ H Q := h
theorem x_un {r : V → Hp → VK → Prop} (h : ta σ H fun x H1 => r x H1 Q) : tUn r ta σ H Q := h
theorem x_cb {r : List V → Hp → VK → Prop} {ts : TA} (h : ts σ H fun vs H1 => r vs H1 Q) : tCB r ts σ H Q := h
theorem x_nil {R : List V → Hp → Prop} (h : R [] H) : tNil σ H R := h
theorem x_cons {ts : TA} {R : List V → Hp → Prop} (h : ta σ H fun x H1 => ts σ H1 fun xs H2 => R (x :: xs) H2) : tCons ta ts σ H R := h
theorem x_call {sp : Sp} {E : XK} {ts : TA} (h : ts σ H fun vs H1 => sp vs H1 Q E) : tCall sp [] E ts σ H Q := by
  unfold tCall; simpa only [List.append_nil] using h
theorem x_calld {sp : Sp} {E : XK} {ds : List V} {ts : TA} (h : ts σ H fun vs H1 => sp (vs ++ ds) H1 Q E) : tCall sp ds E ts σ H Q := h
theorem x_tup {ts : TA} (h : ts σ H fun xs H1 => xs.length ≤ sizeLine ∧ ∀ p, H1 p = none → Q (.ref p) (upd H1 p (.tup xs))) : tTup ts σ H Q := h
theorem x_lst {ts : TA} (h : ts σ H fun xs H1 => xs.length ≤ sizeLine ∧ ∀ p, H1 p = none → Q (.ref p) (upd H1 p (.lst xs))) : tLst ts σ H Q := h

theorem x_test {R : Bool → Hp → Prop} (h : te σ H fun x H' => ∃ k, x = .bl k ∧ R k H') : tTest te σ H R := h
theorem x_B {R : Bool → Hp → Prop} (h : te σ H fun x H' => ∃ k, x = .bl k ∧ R k H') : tB te σ H R := h
theorem x_bl {R : Bool → Prop} {k : Bool} (h : R k) : ∃ k', V.bl k = V.bl k' ∧ R k' := ⟨k, rfl, h⟩
theorem x_and {R : Bool → Hp → Prop} (h : c σ H fun b H1 => if b = true then c' σ H1 R else R false H1) : tAnd c c' σ H R := h
theorem x_or {R : Bool → Hp → Prop} (h : c σ H fun b H1 => if b = true then R true H1 else c' σ H1 R) : tOr c c' σ H R := h
theorem x_not {R : Bool → Hp → Prop} (h : c σ H fun b H1 => R (!b) H1) : tNot c σ H R := h
theorem x_andV (h : ta σ H fun x H1 => ∃ c, x = .bl c ∧ if c = true then tb σ H1 Q else Q (.bl false) H1) : tAndV ta tb σ H Q := h
theorem x_orV (h : ta σ H fun x H1 => ∃ c, x = .bl c ∧ if c = true then Q (.bl true) H1 else tb σ H1 Q) : tOrV ta tb σ H Q := h
theorem x_notV (h : ta σ H fun x H1 => ∃ c, x = .bl c ∧ Q (.bl (!c)) H1) : tNotV ta σ H Q := h
theorem x_chain {r r' : R2} (h : ta σ H fun x H1 => tb σ H1 fun y H2 => r x y H2 fun z H3 => ∃ k, z = .bl k ∧ if k = true then tc σ H3 fun w H4 => r' y w H4 Q else Q (.bl false) H3) : tChain r r' ta tb tc σ H Q := h

theorem x_i0 {g : Int → Int → V} {i j : Int} (h : Q (g i j) H) : rI0 g (.int i) (.int j) H Q := ⟨i, j, rfl, rfl, h⟩
theorem x_i {C : Int → Int → Prop} {g : Int → Int → V} {i j : Int} (hc : C i j) (h : Q (g i j) H) : rI C g (.int i) (.int j) H Q := ⟨i, j, rfl, rfl, hc, h⟩
theorem x_u {g : Int → V} {i : Int} (h : Q (g i) H) : rU g (.int i) H Q := ⟨i, rfl, h⟩
theorem x_eqI {i j : Int} (h : Q (.bl (decide (i = j))) H) : rEq (.int i) (.int j) H Q := ⟨rfl, by
  have e : decide (V.int i = V.int j) = decide (i = j) := by simp
  rw [e]; exact h⟩
theorem x_neI {i j : Int} (h : Q (.bl (!decide (i = j))) H) : rNe (.int i) (.int j) H Q := ⟨rfl, by
  have e : decide (V.int i = V.int j) = decide (i = j) := by simp
  rw [e]; exact h⟩
theorem x_eqB {i j : Bool} (h : Q (.bl (decide (i = j))) H) : rEq (.bl i) (.bl j) H Q := ⟨rfl, by
  have e : decide (V.bl i = V.bl j) = decide (i = j) := by simp
  rw [e]; exact h⟩
theorem x_neB {i j : Bool} (h : Q (.bl (!decide (i = j))) H) : rNe (.bl i) (.bl j) H Q := ⟨rfl, by
  have e : decide (V.bl i = V.bl j) = decide (i = j) := by simp
  rw [e]; exact h⟩
theorem x_eqS {i j : Str} (h : Q (.bl (decide (i = j))) H) : rEq (.str i) (.str j) H Q := ⟨rfl, by
  have e : decide (V.str i = V.str j) = decide (i = j) := by simp
  rw [e]; exact h⟩
theorem x_neS {i j : Str} (h : Q (.bl (!decide (i = j))) H) : rNe (.str i) (.str j) H Q := ⟨rfl, by
  have e : decide (V.str i = V.str j) = decide (i = j) := by simp
  rw [e]; exact h⟩
theorem x_eq (e : scal x y = true) (h : Q (.bl (decide (x = y))) H) : rEq x y H Q := ⟨e, h⟩
theorem x_ne (e : scal x y = true) (h : Q (.bl (!decide (x = y))) H) : rNe x y H Q := ⟨e, h⟩

theorem x_ite {p A B : Prop} [Decidable p] (h1 : p → A) (h2 : ¬ p → B) : if decide p = true then A else B := by
  by_cases h : p
  · rw [if_pos (decide_eq_true h)]; exact h1 h
  · rw [if_neg (by simp [h])]; exact h2 h
theorem x_iteN {p A B : Prop} [Decidable p] (h1 : ¬ p → A) (h2 : p → B) : if (!decide p) = true then A else B := by
  by_cases h : p
  · rw [if_neg (by simp [h])]; exact h2 h
  · rw [if_pos (by simp [h])]; exact h1 h
theorem x_iteB {b : Bool} {A B : Prop} (h1 : b = true → A) (h2 : b = false → B) : if b = true then A else B := by
  cases b with
  | true => rw [if_pos rfl]; exact h1 rfl
  | false => rw [if_neg Bool.false_ne_true]; exact h2 rfl
theorem x_NEs {α : Type} [DecidableEq α] {b : α} {A B : Prop} (h : B) : if (!decide (b = b)) = true then A else B := by
  rw [decide_eq_true rfl]; exact iteF h
theorem x_Es {α : Type} [DecidableEq α] {b : α} {A B : Prop} (h : A) : if decide (b = b) = true then A else B := by
  rw [decide_eq_true rfl]; exact iteT h
theorem x_T {A B : Prop} (h : A) : if true = true then A else B := iteT h
theorem x_F {A B : Prop} (h : B) : if false = true then A else B := iteF h
theorem x_NT {A B : Prop} (h : B) : if (!true) = true then A else B := iteF h
theorem x_NF {A B : Prop} (h : A) : if (!false) = true then A else B := iteT h

/-! the built-ins' readings -/
theorem x_ixL {p : Addr} {xs : List V} {i : Int} (hS : SqL K H p xs) (e : atI xs i = some v) (h : Q v H) : rIxL K (.ref p) (.int i) H Q := ⟨p, xs, i, v, rfl, rfl, hS, e, h⟩
theorem x_ixT {p : Addr} {xs : List V} {i : Int} (hS : SqT K H p xs) (e : atI xs i = some v) (h : Q v H) : rIxT K (.ref p) (.int i) H Q := ⟨p, xs, i, v, rfl, rfl, hS, e, h⟩
def rAbs : List V → Hp → VK → Prop := fun xs H Q => ∃ i, xs = [.int i] ∧ Q (.int (if i < 0 then -i else i)) H
def rMin2 : List V → Hp → VK → Prop := fun xs H Q => ∃ i j, xs = [.int i, .int j] ∧ Q (.int (if j < i then j else i)) H
def rMax2 : List V → Hp → VK → Prop := fun xs H Q => ∃ i j, xs = [.int i, .int j] ∧ Q (.int (if j > i then j else i)) H
def rLenS (K : PySem.W.Frag) : List V → Hp → VK → Prop := fun xs H Q => ∃ p ys, xs = [.ref p] ∧ (SqL K H p ys ∨ SqT K H p ys) ∧ Q (.int ys.length) H
def rLenD : List V → Hp → VK → Prop := fun xs H Q => ∃ a kvs, xs = [V.ref a] ∧ H a = some (.dK kvs) ∧ Q (.int kvs.length) H
def rLenStr : List V → Hp → VK → Prop := fun xs H Q => ∃ z : Str, xs = [.str z] ∧ z.length ≤ sizeLine ∧ Q (.int z.length) H
def rInt1 : List V → Hp → VK → Prop := fun xs H Q => (∃ i, xs = [.int i] ∧ Q (.int i) H) ∨ ∃ k, xs = [.bl k] ∧ Q (.int (if k then 1 else 0)) H
def rListOf (K : PySem.W.Frag) : List V → Hp → VK → Prop := fun xs H Q => ∃ p ys, xs = [.ref p] ∧ (SqL K H p ys ∨ SqT K H p ys) ∧ ∀ l, H l = none → Q (.ref l) (upd H l (.lst ys))
theorem cb_abs {X : Cx} : CallR X (.builtin "abs") rAbs := call_abs
theorem cb_min2 {X : Cx} (hc : X.calm = true) : CallR X (.builtin "min") rMin2 := call_min2 hc
theorem cb_max2 {X : Cx} (hc : X.calm = true) : CallR X (.builtin "max") rMax2 := call_max2 hc
theorem cb_len {X : Cx} : CallR X (.builtin "len") (rLenS X.K) := call_len_seq
theorem cb_lenD {X : Cx} : CallR X (.builtin "len") rLenD := call_lenD
theorem cb_lenStr {X : Cx} : CallR X (.builtin "len") rLenStr := call_len_str
theorem cb_int {X : Cx} : CallR X (.type "int") rInt1 := call_int1
theorem cb_list {X : Cx} : CallR X (.type "list") (rListOf X.K) := call_list_of
theorem x_abs {i : Int} (h : Q (.int (i.natAbs : Int)) H) : rAbs [.int i] H Q :=
  ⟨i, rfl, by
    have e : (if i < 0 then -i else i) = (i.natAbs : Int) := by split <;> omega
    rw [e]; exact h⟩
theorem x_min2 {i j : Int} (h : Q (.int (min i j)) H) : rMin2 [.int i, .int j] H Q :=
  ⟨i, j, rfl, by
    have e : (if j < i then j else i) = min i j := by split <;> omega
    rw [e]; exact h⟩
theorem x_max2 {i j : Int} (h : Q (.int (max i j)) H) : rMax2 [.int i, .int j] H Q :=
  ⟨i, j, rfl, by
    have e : (if j > i then j else i) = max i j := by split <;> omega
    rw [e]; exact h⟩
theorem x_lenL {p : Addr} {ys : List V} (hS : SqL K H p ys) (h : Q (.int ys.length) H) : rLenS K [.ref p] H Q := ⟨p, ys, rfl, .inl hS, h⟩
theorem x_lenT {p : Addr} {ys : List V} (hS : SqT K H p ys) (h : Q (.int ys.length) H) : rLenS K [.ref p] H Q := ⟨p, ys, rfl, .inr hS, h⟩
theorem x_lenD {p : Addr} {kvs : List (Key × V)} (hS : H p = some (.dK kvs)) (h : Q (.int kvs.length) H) : rLenD [.ref p] H Q := ⟨p, kvs, rfl, hS, h⟩
theorem x_intI {i : Int} (h : Q (.int i) H) : rInt1 [.int i] H Q := .inl ⟨i, rfl, h⟩
theorem x_intB {b : Bool} (h : Q (.int (if b then 1 else 0)) H) : rInt1 [.bl b] H Q := .inr ⟨b, rfl, h⟩
theorem x_listL {p : Addr} {ys : List V} (hS : SqL K H p ys) (h : ∀ l, H l = none → Q (.ref l) (upd H l (.lst ys))) : rListOf K [.ref p] H Q := ⟨p, ys, rfl, .inl hS, h⟩
theorem x_sum {a : Addr} {ns : List Int} (hS : SqL K H a (ns.map V.int)) (h : Q (.int ns.sum) H) : rSum K [.ref a] H Q := ⟨a, ns, rfl, hS, h⟩
/-- isinstance of plain values, against built-in types -/
theorem x_isi {c : V} {t u : Value} {b : Bool} (k : ClsV c u) (ty : TyX K H x t) (e : PySem.W.kitOne K t u = some b) (h : Q (.bl b) H) : rIsi K [x, c] H Q := ⟨x, c, t, u, b, rfl, k, ty, e, h⟩
theorem x_isG {vs : List V} (h : rIsi K vs H Q) : rIsi K vs H Q := h
theorem x_isI_int {i : Int} (h : Q (.bl true) H) : rIsi K [.int i, .ty "int"] H Q := x_isi (.ty "int") (.base (.int i)) (kit_ty (by decide +kernel)) h
theorem x_isI_bool {i : Int} (h : Q (.bl false) H) : rIsi K [.int i, .ty "bool"] H Q := x_isi (.ty "bool") (.base (.int i)) (kit_ty (by decide +kernel)) h
theorem x_isI_str {i : Int} (h : Q (.bl false) H) : rIsi K [.int i, .ty "str"] H Q := x_isi (.ty "str") (.base (.int i)) (kit_ty (by decide +kernel)) h
theorem x_isB_int {c : Bool} (h : Q (.bl true) H) : rIsi K [.bl c, .ty "int"] H Q := x_isi (.ty "int") (.base (.bl c)) (kit_ty (by decide +kernel)) h
theorem x_isB_bool {c : Bool} (h : Q (.bl true) H) : rIsi K [.bl c, .ty "bool"] H Q := x_isi (.ty "bool") (.base (.bl c)) (kit_ty (by decide +kernel)) h
theorem x_isB_str {c : Bool} (h : Q (.bl false) H) : rIsi K [.bl c, .ty "str"] H Q := x_isi (.ty "str") (.base (.bl c)) (kit_ty (by decide +kernel)) h
theorem x_isS_int {z : Str} (h : Q (.bl false) H) : rIsi K [.str z, .ty "int"] H Q := x_isi (.ty "int") (.base (.str z)) (kit_ty (by decide +kernel)) h
theorem x_isS_bool {z : Str} (h : Q (.bl false) H) : rIsi K [.str z, .ty "bool"] H Q := x_isi (.ty "bool") (.base (.str z)) (kit_ty (by decide +kernel)) h
theorem x_isS_str {z : Str} (h : Q (.bl true) H) : rIsi K [.str z, .ty "str"] H Q := x_isi (.ty "str") (.base (.str z)) (kit_ty (by decide +kernel)) h
theorem x_isN_int  (h : Q (.bl false) H) : rIsi K [.non, .ty "int"] H Q := x_isi (.ty "int") (.base .non) (kit_ty (by decide +kernel)) h
theorem x_isN_bool  (h : Q (.bl false) H) : rIsi K [.non, .ty "bool"] H Q := x_isi (.ty "bool") (.base .non) (kit_ty (by decide +kernel)) h
theorem x_isN_str  (h : Q (.bl false) H) : rIsi K [.non, .ty "str"] H Q := x_isi (.ty "str") (.base .non) (kit_ty (by decide +kernel)) h
theorem x_isL_int {a : Addr} {xs : List V} (ha : H a = some (.lst xs)) (h : Q (.bl false) H) : rIsi K [.ref a, .ty "int"] H Q := x_isi (.ty "int") (.base (.lst ha)) (kit_ty (by decide +kernel)) h
theorem x_isL_list {a : Addr} {xs : List V} (ha : H a = some (.lst xs)) (h : Q (.bl true) H) : rIsi K [.ref a, .ty "list"] H Q := x_isi (.ty "list") (.base (.lst ha)) (kit_ty (by decide +kernel)) h
theorem x_isL_tuple {a : Addr} {xs : List V} (ha : H a = some (.lst xs)) (h : Q (.bl false) H) : rIsi K [.ref a, .ty "tuple"] H Q := x_isi (.ty "tuple") (.base (.lst ha)) (kit_ty (by decide +kernel)) h
theorem x_isT_int {a : Addr} {xs : List V} (ha : H a = some (.tup xs)) (h : Q (.bl false) H) : rIsi K [.ref a, .ty "int"] H Q := x_isi (.ty "int") (.base (.tup ha)) (kit_ty (by decide +kernel)) h
theorem x_isT_list {a : Addr} {xs : List V} (ha : H a = some (.tup xs)) (h : Q (.bl false) H) : rIsi K [.ref a, .ty "list"] H Q := x_isi (.ty "list") (.base (.tup ha)) (kit_ty (by decide +kernel)) h
theorem x_isT_tuple {a : Addr} {xs : List V} (ha : H a = some (.tup xs)) (h : Q (.bl true) H) : rIsi K [.ref a, .ty "tuple"] H Q := x_isi (.ty "tuple") (.base (.tup ha)) (kit_ty (by decide +kernel)) h
theorem x_isD_int {a : Addr} {kvs : List (Key × V)} (ha : H a = some (.dK kvs)) (h : Q (.bl false) H) : rIsi K [.ref a, .ty "int"] H Q := x_isi (.ty "int") (.base (.dK ha)) (kit_ty (by decide +kernel)) h
theorem x_isD_list {a : Addr} {kvs : List (Key × V)} (ha : H a = some (.dK kvs)) (h : Q (.bl false) H) : rIsi K [.ref a, .ty "list"] H Q := x_isi (.ty "list") (.base (.dK ha)) (kit_ty (by decide +kernel)) h
theorem x_isD_tuple {a : Addr} {kvs : List (Key × V)} (ha : H a = some (.dK kvs)) (h : Q (.bl false) H) : rIsi K [.ref a, .ty "tuple"] H Q := x_isi (.ty "tuple") (.base (.dK ha)) (kit_ty (by decide +kernel)) h

/-! heaps that grow -/
/-- no table of code objects (these grow where a def is made within a def) -/
def NT : HO → Prop | .tbl _ => False | _ => True
/-- no table, nothing told by its object -/
def NX : HO → Prop | .tbl _ => False | .ext _ => False | _ => True
theorem NX.nt {o : HO} (h : NX o) : NT o := by cases o <;> first | trivial | exact h
/-- all but what S names stays; tables stay tables; nothing is lost -/
structure Fr (S : Addr → Prop) (H H' : Hp) : Prop where
  keep : ∀ a o, H a = some o → NT o → ¬ S a → H' a = some o
  tab : ∀ P, NdefX.TabN H P nmAll → NdefX.TabN H' P nmAll
  back : ∀ a, H' a = none → H a = none
abbrev Ex (H H' : Hp) : Prop := Fr (fun _ => False) H H'
theorem atI_hd {x : V} {r : List V} : atI (x :: r) 0 = some x := atI_nat (xs := x :: r) (j := 0) rfl
theorem at_new {H : Hp} {p a : Addr} {o u : HO} (h : H p = none) (k : H a = some u) : upd H p o a = some u := by rw [upd_ne (ne_of_none k h)]; exact k
theorem at_upd {H : Hp} {p a : Addr} {o u v : HO} (h : H p = some v) (k : H a = some u) (d : v ≠ u) : upd H p o a = some u := by rw [upd_ne (ne_of k h (Ne.symm d))]; exact k
theorem Ex.at {H H' : Hp} {a : Addr} {o : HO} (e : Ex H H') (h : H a = some o) (n : NT o := by trivial) : H' a = some o := e.keep a o h n id
theorem Fr.at {S : Addr → Prop} {H H' : Hp} {a : Addr} {o : HO} (e : Fr S H H') (h : H a = some o) (hs : ¬ S a) (n : NT o := by trivial) : H' a = some o := e.keep a o h n hs
theorem Fr.refl {S : Addr → Prop} {H : Hp} : Fr S H H := ⟨fun _ _ h _ _ => h, fun _ h => h, fun _ h => h⟩
theorem Ex.refl {H : Hp} : Ex H H := Fr.refl
theorem Ex.trans {H H1 H2 : Hp} (a : Ex H H1) (b : Ex H1 H2) : Ex H H2 := ⟨fun x o h n _ => b.at (a.at h n) n, fun P h => b.tab P (a.tab P h), fun x h => a.back x (b.back x h)⟩
theorem Fr.trans {S : Addr → Prop} {H H1 H2 : Hp} (a : Fr S H H1) (b : Fr S H1 H2) : Fr S H H2 := ⟨fun x o h n s => b.keep x o (a.keep x o h n s) n s, fun P h => b.tab P (a.tab P h), fun x h => a.back x (b.back x h)⟩
theorem Fr.mono {S S' : Addr → Prop} {H H1 : Hp} (a : Fr S H H1) (h : ∀ x, S x → S' x) : Fr S' H H1 := ⟨fun x o e n s => a.keep x o e n fun z => s (h x z), a.tab, a.back⟩
theorem Ex.fr {S : Addr → Prop} {H H1 : Hp} (a : Ex H H1) : Fr S H H1 := Fr.mono a fun _ z => z.elim
/-- of what S names, all is newer than H -/
theorem Fr.ex {S : Addr → Prop} {H H0 H1 : Hp} (a : Fr S H H1) (e : Ex H0 H) (h : ∀ x, S x → H0 x = none) : Ex H0 H1 :=
  ⟨fun x o q n _ => a.keep x o (e.at q n) n fun z => (by rw [h x z] at q; cases q), fun P q => a.tab P (e.tab P q), fun x q => e.back x (a.back x q)⟩
theorem upd_back {H : Hp} {p x : Addr} {o : HO} (h : upd H p o x = none) : H x = none := by
  unfold upd at h
  split at h
  · cases h
  · exact h
theorem Ex.new {H : Hp} {p : Addr} {o : HO} (h : H p = none) : Ex H (upd H p o) :=
  ⟨fun a u e _ _ => by rw [upd_ne (ne_of_none e h)]; exact e, fun P t => t.ext fun b u e => by rw [upd_ne (ne_of_none e h)]; exact e, fun _ z => upd_back z⟩
theorem Ex.newT {H H1 : Hp} {p : Addr} {o : HO} (a : Ex H H1) (h : H1 p = none) : Ex H (upd H1 p o) := a.trans (Ex.new h)
/-- one object is changed -/
theorem Fr.upd1 {H : Hp} {p : Addr} {o u : HO} (h : H p = some u) (hu : NX u := by trivial) : Fr (fun a => a = p) H (upd H p o) :=
  ⟨fun a v e _ s => by rw [upd_ne s]; exact e, fun P ⟨ps, h1, h2, h3⟩ => by
    have nP : P ≠ p := fun z => by rw [z, h] at h1; cases h1; exact hu
    refine ⟨ps, by rw [upd_ne nP]; exact h1, h2, fun pos cv hc => ?_⟩
    obtain ⟨c, e1, e2⟩ := h3 pos cv hc
    have nc : c ≠ p := fun z => by
      rw [z, h] at e2
      have e2 := Option.some.inj e2
      rw [e2] at hu
      exact hu
    exact ⟨c, e1, by rw [upd_ne nc]; exact e2⟩, fun _ z => upd_back z⟩
/-- an object that H does not know may change -/
theorem Ex.mut {H H' : Hp} {p : Addr} {o u : HO} (e : Ex H H') (h : H p = none) (h' : H' p = some u) (hu : NX u := by trivial) : Ex H (upd H' p o) :=
  (Fr.upd1 h' hu).ex e fun x z => by rw [z]; exact h
theorem Ex.ls {H H' : Hp} {a : Addr} {xs : List V} (e : Ex H H') (h : SqL K H a xs) : SqL K H' a xs := by
  rcases h with (h | ⟨o, h⟩) | h
  · exact .inl (.inl (e.at h))
  · exact .inl (.inr ⟨o, e.at h⟩)
  · exact .inr h
theorem Ex.tu {H H' : Hp} {a : Addr} {xs : List V} (e : Ex H H') (h : SqT K H a xs) : SqT K H' a xs := by
  rcases h with (h | ⟨o, h⟩) | h
  · exact .inl (.inl (e.at h))
  · exact .inl (.inr ⟨o, e.at h⟩)
  · exact .inr h

/-! loops -/
def ForW (g : TG) (tb : TS) (D : Ends) (J : It) (σ : L2.St) (H : Hp) : Prop := ∃ W : Nat → Nat → L2.St → Hp → Prop, (∃ m, W 0 m σ H) ∧ ∀ i m σ H, W i m σ H →
  (J.stop i H ∧ D.nx σ H) ∨ (J.go i H ∧ ∃ N : L2.St → Hp → Prop, (∀ σ' H', N σ' H' → ∃ m', m' < m ∧ W (i + 1) m' σ' H') ∧ ∀ x H', J.yld i H x H' → g x σ H' fun σ2 H2 => tb { D with nx := N, ct := N, bk := D.nx } σ2 H2)
theorem x_for {wi : TI} {g : TG} {tb : TS} (h : wi σ H fun J H1 => ForW g tb D J σ H1) : tFor wi g tb D σ H := h
theorem ForW.by {J : It} {n : Nat} {G : Hp → Prop} {Y : Nat → Hp → V → Hp → Prop} (w : Walk J n G Y) {g : TG} {tb : TS} (Pv : Nat → L2.St → Hp → Prop) (h0 : Pv 0 σ H) (hG : ∀ i σ H, i ≤ n → Pv i σ H → G H)
    (hs : ∀ i x σ H H', i < n → Pv i σ H → Y i H x H' → g x σ H' fun σ2 H2 => tb { D with nx := Pv (i + 1), ct := Pv (i + 1), bk := D.nx } σ2 H2) (hd : ∀ σ H, Pv n σ H → D.nx σ H) : ForW g tb D J σ H :=
  for_it w Pv h0 hG hs hd
def Rg1 (R : It → Hp → Prop) : List V → Hp → Prop := fun vs H1 => ∃ j : Int, vs = [.int j] ∧ -(2 ^ 62) ≤ j ∧ j < 2 ^ 62 ∧ R (Itr 0 j.toNat) H1
def Rg2 (R : It → Hp → Prop) : List V → Hp → Prop := fun vs H1 => ∃ i j : Int, vs = [.int i, .int j] ∧ (-(2 ^ 62) ≤ i ∧ i < 2 ^ 62 ∧ -(2 ^ 62) ≤ j ∧ j < 2 ^ 62) ∧ R (Itr i (j - i).toNat) H1
def RiL (K : PySem.W.Frag) (R : It → Hp → Prop) : VK := fun x H1 => ∃ a, x = .ref a ∧ (∃ xs, SqL K H1 a xs) ∧ R (Itl K a) H1
def RiT (K : PySem.W.Frag) (R : It → Hp → Prop) : VK := fun x H1 => ∃ a, x = .ref a ∧ (∃ xs, SqT K H1 a xs) ∧ R (Itt K a) H1
def RiE (K : PySem.W.Frag) (R : It → Hp → Prop) : List V → Hp → Prop := fun vs H1 => ∃ a xs, vs = [.ref a] ∧ SqL K H1 a xs ∧ R (Ite K a) H1
def RiZ (K : PySem.W.Frag) (R : It → Hp → Prop) : List V → Hp → Prop := fun vs H1 => ∃ a b xs ys, vs = [.ref a, .ref b] ∧ SqL K H1 a xs ∧ SqL K H1 b ys ∧ R (Itz K a b) H1
theorem x_rng1 {ts : TA} {R : It → Hp → Prop} (h : ts σ H (Rg1 R)) : iRng1 ts σ H R := h
theorem x_rng2 {ts : TA} {R : It → Hp → Prop} (h : ts σ H (Rg2 R)) : iRng2 ts σ H R := h
theorem x_rgN {m : Nat} {R : It → Hp → Prop} (hm : (m : Int) < 2 ^ 62) (h : R (Itr 0 m) H) : Rg1 R [V.int (m : Int)] H :=
  ⟨m, rfl, by omega, hm, by rw [Int.toNat_natCast]; exact h⟩
theorem walk_rgN {n : Nat} : Walk (Itr 0 n) n (fun _ => True) (YFn fun i => .int i) :=
  ⟨fun _ _ hi _ => hi, fun _ _ => Nat.le_refl _, fun _ _ _ _ _ _ y => ⟨y.1, by rw [y.2]; simp⟩⟩
theorem x_iList {R : It → Hp → Prop} (h : ta σ H (RiL K R)) : iList K ta σ H R := h
theorem x_iTup {R : It → Hp → Prop} (h : ta σ H (RiT K R)) : iTup K ta σ H R := h
theorem x_itL {a : Addr} {xs : List V} {R : It → Hp → Prop} (hS : SqL K H a xs) (h : R (Itl K a) H) : RiL K R (.ref a) H := ⟨a, rfl, ⟨xs, hS⟩, h⟩
theorem x_itT {a : Addr} {xs : List V} {R : It → Hp → Prop} (hS : SqT K H a xs) (h : R (Itt K a) H) : RiT K R (.ref a) H := ⟨a, rfl, ⟨xs, hS⟩, h⟩
theorem x_iEnum {ts : TA} {R : It → Hp → Prop} (h : ts σ H (RiE K R)) : iEnum K ts σ H R := h
theorem x_enL {a : Addr} {xs : List V} {R : It → Hp → Prop} (hS : SqL K H a xs) (h : R (Ite K a) H) : RiE K R [.ref a] H := ⟨a, xs, rfl, hS, h⟩
theorem x_iZip {ts : TA} {R : It → Hp → Prop} (h : ts σ H (RiZ K R)) : iZip K ts σ H R := h
theorem x_ziL {a b : Addr} {xs ys : List V} {R : It → Hp → Prop} (hS : SqL K H a xs) (hS2 : SqL K H b ys) (h : R (Itz K a b) H) : RiZ K R [.ref a, .ref b] H := ⟨a, b, xs, ys, rfl, hS, hS2, h⟩
theorem x_gTup {n : Nat} {gs : TGs} {R : L2.St → Hp → Prop} {a : Addr} {xs : List V} (hT : SqT K H a xs) (hl : xs.length = n) (h : gs xs σ H R) : gTup K n gs (.ref a) σ H R := ⟨a, xs, rfl, hT, hl, h⟩
theorem x_gCons {g : TG} {gs : TGs} {R : L2.St → Hp → Prop} {xs : List V} (h : g v σ H fun σ' H' => gs xs σ' H' R) : gCons g gs (v :: xs) σ H R := ⟨v, xs, rfl, h⟩
theorem x_gNil {R : L2.St → Hp → Prop} (h : R σ H) : gNil [] σ H R := ⟨rfl, h⟩
/-- a while's turn, or its end -/
def WhS (W : Nat → L2.St → Hp → Prop) (m : Nat) (t : TS) (D : Ends) (b : Bool) (σ : L2.St) (H : Hp) : Prop :=
  if b = true then ∃ N : L2.St → Hp → Prop, (∀ σ' H', N σ' H' → ∃ m', m' < m ∧ W m' σ' H') ∧ t { D with nx := N, ct := N, bk := D.nx } σ H else D.nx σ H
def Less (W : Nat → L2.St → Hp → Prop) (m : Nat) (σ' : L2.St) (H' : Hp) : Prop := ∃ m', m' < m ∧ W m' σ' H'
theorem x_while {W : Nat → L2.St → Hp → Prop} {m : Nat} (h0 : W m σ H) (hs : ∀ m σ H, W m σ H → c σ H fun b H1 => WhS W m t D b σ H1) : tWhile c t D σ H :=
  ⟨W, ⟨m, h0⟩, hs⟩
theorem x_whT {W : Nat → L2.St → Hp → Prop} {m : Nat} (h : t { D with nx := Less W m, ct := Less W m, bk := D.nx } σ H) : WhS W m t D true σ H := by
  unfold WhS; rw [if_pos rfl]; exact ⟨_, fun _ _ h => h, h⟩
theorem x_whF {W : Nat → L2.St → Hp → Prop} {m : Nat} (h : D.nx σ H) : WhS W m t D false σ H := by
  unfold WhS; rw [if_neg Bool.false_ne_true]; exact h
theorem x_whD {W : Nat → L2.St → Hp → Prop} {m : Nat} {p : Prop} [Decidable p] (h1 : p → t { D with nx := Less W m, ct := Less W m, bk := D.nx } σ H) (h2 : ¬ p → D.nx σ H) : WhS W m t D (decide p) σ H := by
  by_cases h : p
  · rw [decide_eq_true h]; exact x_whT (h1 h)
  · rw [decide_eq_false h]; exact x_whF (h2 h)
def RAug (f : Int → Int → Int) (i : Nat) (x : V) (R : L2.St → Hp → Prop) (σ : L2.St) : VK := fun y H => ipI f x y H fun z H2 => R (σ.set i (some z)) H2
theorem x_augI {f : Int → Int → Int} {i : Nat} {k j : Int} {R : L2.St → Hp → Prop} (h : R (σ.set i (some (.int (f k j)))) H) : RAug f i (.int k) R σ (.int j) H := ⟨k, j, rfl, rfl, h⟩
theorem x_aug2 {i : Nat} {f : Int → Int → Int} (e : σ[i]? = some (some x)) (h : te σ H (RAug f i x D.nx σ)) : tAug i te (ipI f) D σ H := ⟨x, e, h⟩
/-- what follows a statement is shown once, from Mid -/
theorem x_cut (Mid : L2.St → Hp → Prop) (h : t { D with nx := Mid } σ H) (k : ∀ σ' H', Mid σ' H' → u D σ' H') : C8.tCut t u D σ H := ⟨Mid, h, k⟩
theorem x_aug {i : Nat} {ti : TIp} (e : σ[i]? = some (some x)) (h : te σ H fun y H1 => ti x y H1 fun z H2 => D.nx (σ.set i (some z)) H2) : tAug i te ti D σ H := ⟨x, e, h⟩

/-! methods of lists -/
theorem x_bm {T : String} {r : V → List V → Hp → VK → Prop} {ts : TA} (h : ta σ H fun x H1 => tyV K T x H1 ∧ ts σ H1 fun xs H2 => r x xs H2 Q) : tBM K T r ta ts σ H Q := h
theorem x_bm0 {T : String} {r : V → List V → Hp → VK → Prop} (h : ta σ H fun x H1 => tyV K T x H1 ∧ r x [] H1 Q) : tBM0 K T r ta σ H Q := h
theorem x_tyL {p : Addr} {xs : List V} {R : Prop} (hS : SqL K H p xs) (h : R) : tyV K "list" (.ref p) H ∧ R := ⟨.inl ⟨rfl, xs, hS⟩, h⟩
theorem x_append {l : Addr} {xs : List V} (hl : H l = some (.lst xs)) (hz : xs.length < sizeLine) (h : Q .non (upd H l (.lst (xs ++ [y])))) : rAppend (.ref l) [y] H Q := ⟨l, xs, y, rfl, rfl, hl, hz, h⟩

/-! operators of our own -/
theorem opr_imp {X : Cx} {f : Value → Value → Sem Value} {r r' : R2} (h : OpR X f r) (hi : ∀ x y H Q, r' x y H Q → r x y H Q) : OpR X f r' :=
  fun pins s σ H x y v u Q I rx ry hw => h pins s σ H x y v u Q I rx ry (hi x y H Q hw)
def rShl1 : R2 := fun x y H Q => ∃ k : Nat, x = .int 1 ∧ y = .int (k : Int) ∧ k ≤ 134217727 ∧ Q (.int ((2 ^ k : Nat) : Int)) H
theorem op_shl1 {X : Cx} : OpR X (binaryOp .LShift) rShl1 := opr_imp op_oneShl fun x y H Q ⟨k, h1, h2, h3, q⟩ => ⟨k, h1, h2, h3, by
  have e : ((2 ^ k : Nat) : Int) = 2 ^ k := by simp
  rw [← e]; exact q⟩
theorem x_shl1 {j : Int} {k : Nat} (hj : j = k) (hk : k ≤ 134217727) (h : Q (.int ((2 ^ k : Nat) : Int)) H) : rShl1 (.int 1) (.int j) H Q := ⟨k, rfl, by rw [hj], hk, h⟩
def rShrN : R2 := fun x y H Q => ∃ n k : Nat, x = .int n ∧ y = .int k ∧ Q (.int ((n / 2 ^ k : Nat) : Int)) H
def rShlN : R2 := fun x y H Q => ∃ n k : Nat, x = .int n ∧ y = .int k ∧ n < 2 ^ 64 ∧ k ≤ 1000000 ∧ Q (.int ((n * 2 ^ k : Nat) : Int)) H
def rXorN : R2 := fun x y H Q => ∃ n k : Nat, x = .int n ∧ y = .int k ∧ Q (.int ((n ^^^ k : Nat) : Int)) H
theorem op_shrN' {X : Cx} : OpR X (binaryOp .RShift) rShrN := opr_imp op_shr fun x y H Q ⟨n, k, h1, h2, q⟩ => ⟨n, k, h1, h2, by omega, by
  have e : ((n / 2 ^ k : Nat) : Int) = (n : Int) / 2 ^ (k : Int).toNat := by simp
  show Q (.int ((n : Int) / 2 ^ (k : Int).toNat)) H
  rw [← e]; exact q⟩
theorem op_shlN' {X : Cx} : OpR X (binaryOp .LShift) rShlN := opr_imp op_shl fun x y H Q ⟨n, k, h1, h2, h3, h4, q⟩ => ⟨n, k, h1, h2, ⟨by omega, by omega, by omega⟩, by
  have e : ((n * 2 ^ k : Nat) : Int) = (n : Int) * 2 ^ (k : Int).toNat := by simp
  show Q (.int ((n : Int) * 2 ^ (k : Int).toNat)) H
  rw [← e]; exact q⟩
theorem op_xorN {X : Cx} : OpR X (binaryOp .BitXor) rXorN := opr_imp op_xor fun x y H Q ⟨n, k, h1, h2, q⟩ => ⟨n, k, h1, h2, by
  show Q (.int (Builtin.bitXor n k)) H
  rw [Bits.bitXor_pp (Int.natCast_nonneg _) (Int.natCast_nonneg _)]; exact q⟩
theorem x_shrN {i j : Int} {n k : Nat} (hi : i = n) (hj : j = k) (h : Q (.int ((n / 2 ^ k : Nat) : Int)) H) : rShrN (.int i) (.int j) H Q := ⟨n, k, by rw [hi], by rw [hj], h⟩
theorem x_shlN {i j : Int} {n k : Nat} (hi : i = n) (hj : j = k) (hn : n < 2 ^ 64) (hk : k ≤ 1000000) (h : Q (.int ((n * 2 ^ k : Nat) : Int)) H) : rShlN (.int i) (.int j) H Q := ⟨n, k, by rw [hi], by rw [hj], hn, hk, h⟩
theorem x_xorN {i j : Int} {n k : Nat} (hi : i = n) (hj : j = k) (h : Q (.int ((n ^^^ k : Nat) : Int)) H) : rXorN (.int i) (.int j) H Q := ⟨n, k, by rw [hi], by rw [hj], h⟩
def rBits (Q : VK) : VK := fun x H1 => ∃ i, x = .int i ∧ Q (.int (Builtin.Int.intBits i : Nat)) H1
theorem e_bits : tBits ta σ H Q = ta σ H (rBits Q) := rfl
theorem x_bits {n : Nat} (h : Q (.int ((if n = 0 then 0 else n.log2 + 1 : Nat) : Int)) H) : rBits Q (.int (n : Int)) H := ⟨n, rfl, by
  have e : Builtin.Int.intBits (n : Int) = if n = 0 then 0 else n.log2 + 1 := by unfold Builtin.Int.intBits; simp
  rw [e]; exact h⟩
theorem two_pos {k : Nat} : (0 : Int) < ((2 ^ k : Nat) : Int) := by
  have := Nat.two_pow_pos k
  omega
theorem mod_two_lt {z : Int} {k : Nat} : ∃ r : Nat, r < 2 ^ k ∧ z % ((2 ^ k : Nat) : Int) = r := by
  have h0 := two_pos (k := k)
  have h1 := Int.emod_nonneg z (Int.ne_of_gt h0)
  have h2 := Int.emod_lt_of_pos z h0
  exact ⟨(z % ((2 ^ k : Nat) : Int)).toNat, by omega, by omega⟩
theorem div_two_cast {k : Nat} (z : Int) : z / 2 ^ (k : Int).toNat = z / ((2 ^ k : Nat) : Int) := by simp

/-! within a comprehension: the constants told -/
section
variable {X : Cx} {K : PySem.W.Frag}
theorem op_eqDK (hu : X.A.units + 64 < cLine) (h : X.K = K) : OpR X (compareOp .Eq) (rEqD K) := h ▸ op_eqD hu
theorem op_neDK (hu : X.A.units + 64 < cLine) (h : X.K = K) : OpR X (compareOp .NotEq) (rNeD K) := h ▸ op_neD hu
theorem op_inK (h : X.K = K) : OpR X (compareOp .In) (rIn K false) := h ▸ op_in_seq
theorem op_notInK (h : X.K = K) : OpR X (compareOp .NotIn) (rIn K true) := h ▸ op_notIn_seq
theorem sl_listK (h : X.K = K) : SlR X (rSlL K) := h ▸ sl_list
theorem ix_listK (h : X.K = K) : IxR X (rIxL K) := h ▸ ix_list
theorem ix_tupK (h : X.K = K) : IxR X (rIxT K) := h ▸ ix_tup
theorem cb_lenK (h : X.K = K) : CallR X (.builtin "len") (rLenS K) := h ▸ cb_len
theorem call_isiK (h : X.K = K) : CallR X (.builtin "isinstance") (rIsi K) := h ▸ call_isi
end
/-! the definitional ones as equations, for dsimp -/
section
variable {K : PySem.W.Frag} {σ : L2.St} {H : Hp} {ta tb te tc : TE} {t u : TS} {c c' : TT} {D : Ends} {Q : VK} {x y v : V} {o : Option V}
theorem e_seq : tSeq t u D σ H = t { D with nx := u D } σ H := rfl
theorem e_next : tNext D σ H = D.nx σ H := rfl
theorem e_asg {g : TG} : tAsg te g D σ H = te σ H fun x H1 => g x σ H1 D.nx := rfl
theorem e_name {i : Nat} {R : L2.St → Hp → Prop} : gName i v σ H R = R (σ.set i (some v)) H := rfl
theorem e_ret : tRet te D σ H = te σ H D.rt := rfl
theorem e_retN : tRetN D σ H = D.rt .non H := rfl
theorem e_drop : tDrop te D σ H = te σ H fun _ H1 => D.nx σ H1 := rfl
theorem e_ifS : tIfS c t u D σ H = c σ H fun b H1 => IfS b t u D σ H1 := rfl
theorem e_IT : IfS true t u D σ H = t D σ H := rfl
theorem e_IF : IfS false t u D σ H = u D σ H := rfl
theorem e_INT : IfS (!true) t u D σ H = u D σ H := rfl
theorem e_INF : IfS (!false) t u D σ H = t D σ H := rfl
theorem e_if {tt : TT} : tIf tt ta tb σ H Q = tt σ H fun b H1 => if b = true then ta σ H1 Q else tb σ H1 Q := rfl
theorem e_varS {i : Nat} : tVar (i + 1) (o :: σ) H Q = tVar i σ H Q := rfl
theorem e_c : tC v σ H Q = Q v H := rfl
theorem e_op {r : R2} : tOp r ta tb σ H Q = ta σ H fun x H1 => tb σ H1 fun y H2 => r x y H2 Q := rfl
theorem e_un {r : V → Hp → VK → Prop} : tUn r ta σ H Q = ta σ H fun x H1 => r x H1 Q := rfl
theorem e_cb {r : List V → Hp → VK → Prop} {ts : TA} : tCB r ts σ H Q = ts σ H fun vs H1 => r vs H1 Q := rfl
theorem e_nil {R : List V → Hp → Prop} : tNil σ H R = R [] H := rfl
theorem e_cons {ts : TA} {R : List V → Hp → Prop} : tCons ta ts σ H R = ta σ H fun x H1 => ts σ H1 fun xs H2 => R (x :: xs) H2 := rfl
theorem e_test {R : Bool → Hp → Prop} : tTest te σ H R = te σ H fun x H' => ∃ k, x = .bl k ∧ R k H' := rfl
theorem e_B {R : Bool → Hp → Prop} : tB te σ H R = te σ H fun x H' => ∃ k, x = .bl k ∧ R k H' := rfl
theorem e_and {R : Bool → Hp → Prop} : tAnd c c' σ H R = c σ H fun b H1 => if b = true then c' σ H1 R else R false H1 := rfl
theorem e_or {R : Bool → Hp → Prop} : tOr c c' σ H R = c σ H fun b H1 => if b = true then R true H1 else c' σ H1 R := rfl
theorem e_not {R : Bool → Hp → Prop} : tNot c σ H R = c σ H fun b H1 => R (!b) H1 := rfl
theorem e_andV : tAndV ta tb σ H Q = ta σ H fun x H1 => ∃ c, x = .bl c ∧ if c = true then tb σ H1 Q else Q (.bl false) H1 := rfl
theorem e_orV : tOrV ta tb σ H Q = ta σ H fun x H1 => ∃ c, x = .bl c ∧ if c = true then Q (.bl true) H1 else tb σ H1 Q := rfl
theorem e_notV : tNotV ta σ H Q = ta σ H fun x H1 => ∃ c, x = .bl c ∧ Q (.bl (!c)) H1 := rfl
theorem e_chain {r r' : R2} : tChain r r' ta tb tc σ H Q = ta σ H fun x H1 => tb σ H1 fun y H2 => r x y H2 fun z H3 => ∃ k, z = .bl k ∧ if k = true then tc σ H3 fun w H4 => r' y w H4 Q else Q (.bl false) H3 := rfl
theorem e_for {wi : TI} {g : TG} {tb : TS} : tFor wi g tb D σ H = wi σ H fun J H1 => ForW g tb D J σ H1 := rfl
theorem e_rng1 {ts : TA} {R : It → Hp → Prop} : iRng1 ts σ H R = ts σ H (Rg1 R) := rfl
theorem e_rng2 {ts : TA} {R : It → Hp → Prop} : iRng2 ts σ H R = ts σ H (Rg2 R) := rfl
theorem e_iList {R : It → Hp → Prop} : iList K ta σ H R = ta σ H (RiL K R) := rfl
theorem e_iTup {R : It → Hp → Prop} : iTup K ta σ H R = ta σ H (RiT K R) := rfl
theorem e_iEnum {ts : TA} {R : It → Hp → Prop} : iEnum K ts σ H R = ts σ H (RiE K R) := rfl
theorem e_iZip {ts : TA} {R : It → Hp → Prop} : iZip K ts σ H R = ts σ H (RiZ K R) := rfl
theorem e_bm {T : String} {r : V → List V → Hp → VK → Prop} {ts : TA} : tBM K T r ta ts σ H Q = ta σ H fun x H1 => tyV K T x H1 ∧ ts σ H1 fun xs H2 => r x xs H2 Q := rfl
theorem e_bm0 {T : String} {r : V → List V → Hp → VK → Prop} : tBM0 K T r ta σ H Q = ta σ H fun x H1 => tyV K T x H1 ∧ r x [] H1 Q := rfl
theorem e_tup {ts : TA} : tTup ts σ H Q = ts σ H fun xs H1 => xs.length ≤ sizeLine ∧ ∀ p, H1 p = none → Q (.ref p) (upd H1 p (.tup xs)) := rfl
theorem e_lst {ts : TA} : tLst ts σ H Q = ts σ H fun xs H1 => xs.length ≤ sizeLine ∧ ∀ p, H1 p = none → Q (.ref p) (upd H1 p (.lst xs)) := rfl
theorem e_calld {sp : Sp} {E : XK} {ds : List V} {ts : TA} : tCall sp ds E ts σ H Q = ts σ H fun vs H1 => sp (vs ++ ds) H1 Q E := rfl
theorem e_T {A B : Prop} : (if true = true then A else B) = A := rfl
theorem e_F {A B : Prop} : (if false = true then A else B) = B := rfl
theorem e_NT {A B : Prop} : (if (!true) = true then A else B) = B := rfl
theorem e_NF {A B : Prop} : (if (!false) = true then A else B) = A := rfl
theorem x_v0 (h : Q v H) : tVar 0 (some v :: σ) H Q := ⟨v, rfl, h⟩
end
/-! pairs that an iterator lays -/
def YPairE (xs ys : Nat → Option V) : Nat → Hp → V → Hp → Prop := fun i H v H' => ∃ T x y, v = .ref T ∧ H T = none ∧ Ex H H' ∧ H' T = some (.tup [x, y]) ∧ xs i = some x ∧ ys i = some y
theorem YPair.e {xs ys : Nat → Option V} {i : Nat} {H : Hp} {v : V} {H' : Hp} (h : YPair xs ys i H v H') : YPairE xs ys i H v H' := by
  obtain ⟨T, x, y, h1, h2, rfl, h4, h5⟩ := h
  exact ⟨T, x, y, h1, h2, Ex.new h2, upd_same, h4, h5⟩
theorem walk_enumE {K : PySem.W.Frag} {a : Addr} {xs : List V} : Walk (Ite K a) xs.length (fun H => SqL K H a xs) (YPairE (fun i => some (.int (i : Nat))) (fun i => xs[i]?)) :=
  walk_enum.mono (fun _ h => h) fun _ _ _ _ _ _ y => YPair.e y
theorem walk_zipE {K : PySem.W.Frag} {a b : Addr} {xs ys : List V} {n : Nat} (hn : n = min xs.length ys.length) : Walk (Itz K a b) n (fun H => SqL K H a xs ∧ SqL K H b ys) (YPairE (fun i => xs[i]?) (fun i => ys[i]?)) :=
  (walk_zip hn).mono (fun _ h => h) fun _ _ _ _ _ _ y => YPair.e y

/-! equality of lists of ints -/
abbrev nV (n : Nat) : V := .int (n : Int)
theorem eqv_ints : ∀ (xs ys : List Int), PyData.eqv (.list (xs.map PyData.int)) (.list (ys.map PyData.int)) = decide (xs = ys)
  | [], [] => rfl
  | [], _ :: _ => rfl
  | _ :: _, [] => rfl
  | x :: xs, y :: ys => by
    have ih := eqv_ints xs ys
    have e : PyData.eqv (.list ((x :: xs).map PyData.int)) (.list ((y :: ys).map PyData.int)) = (decide (x = y) && PyData.eqv (.list (xs.map PyData.int)) (.list (ys.map PyData.int))) := by
      show PyData.eqvAll _ _ = _
      rfl
    rw [e, ih]
    by_cases h : x = y <;> by_cases h2 : xs = ys <;> simp [h, h2]
theorem dpAll_ints {K : PySem.W.Frag} {H : Hp} : ∀ xs : List Int, DpAll K H (xs.map V.int) (xs.map PyData.int)
  | [] => .nil
  | x :: xs => .cons (.int x) (dpAll_ints xs)
theorem shaped_ints (xs : List Int) : SeqAt.shaped (.list (xs.map PyData.int)) = true := by
  induction xs with
  | nil => rfl
  | cons x xs ih =>
    exact ih
theorem eqv_bools : ∀ (xs ys : List Bool), PyData.eqv (.list (xs.map PyData.bool)) (.list (ys.map PyData.bool)) = decide (xs = ys)
  | [], [] => rfl
  | [], _ :: _ => rfl
  | _ :: _, [] => rfl
  | x :: xs, y :: ys => by
    have ih := eqv_bools xs ys
    have e : PyData.eqv (.list ((x :: xs).map PyData.bool)) (.list ((y :: ys).map PyData.bool)) = ((x == y) && PyData.eqv (.list (xs.map PyData.bool)) (.list (ys.map PyData.bool))) := by
      show PyData.eqvAll _ _ = _
      rfl
    rw [e, ih]
    by_cases h : x = y <;> by_cases h2 : xs = ys <;> simp [h, h2]
theorem dpAll_bools {K : PySem.W.Frag} {H : Hp} : ∀ xs : List Bool, DpAll K H (xs.map V.bl) (xs.map PyData.bool)
  | [] => .nil
  | x :: xs => .cons (.bl x) (dpAll_bools xs)
theorem shaped_bools (xs : List Bool) : SeqAt.shaped (.list (xs.map PyData.bool)) = true := by
  induction xs with
  | nil => rfl
  | cons x xs ih => exact ih
theorem x_eqLB {K : PySem.W.Frag} {H : Hp} {Q : VK} {a b : Addr} {xs ys : List Bool} (ha : SqL K H a (xs.map V.bl)) (hb : SqL K H b (ys.map V.bl)) (h : Q (.bl (decide (xs = ys))) H) : rEqD K (.ref a) (.ref b) H Q :=
  ⟨_, _, .lst ha (dpAll_bools xs), .lst hb (dpAll_bools ys), shaped_bools xs, shaped_bools ys, by rw [eqv_bools]; exact h⟩
theorem map_nV (xs : List Nat) : xs.map nV = (xs.map fun n : Nat => (n : Int)).map V.int := by rw [List.map_map]; rfl
theorem nat_inj {xs ys : List Nat} : (xs.map fun n : Nat => (n : Int)) = (ys.map fun n : Nat => (n : Int)) ↔ xs = ys :=
  ⟨fun h => List.map_inj_right (f := fun n : Nat => (n : Int)) (fun a b e => Int.ofNat.inj e) |>.mp h, fun h => by rw [h]⟩
section
variable {K : PySem.W.Frag} {H : Hp} {Q : VK}
theorem x_eqLI {a b : Addr} {xs ys : List Int} (ha : SqL K H a (xs.map V.int)) (hb : SqL K H b (ys.map V.int)) (h : Q (.bl (decide (xs = ys))) H) : rEqD K (.ref a) (.ref b) H Q :=
  ⟨_, _, .lst ha (dpAll_ints xs), .lst hb (dpAll_ints ys), shaped_ints xs, shaped_ints ys, by rw [eqv_ints]; exact h⟩
theorem x_neLI {a b : Addr} {xs ys : List Int} (ha : SqL K H a (xs.map V.int)) (hb : SqL K H b (ys.map V.int)) (h : Q (.bl (!decide (xs = ys))) H) : rNeD K (.ref a) (.ref b) H Q :=
  ⟨_, _, .lst ha (dpAll_ints xs), .lst hb (dpAll_ints ys), shaped_ints xs, shaped_ints ys, by rw [eqv_ints]; exact h⟩
theorem x_eqLN {a b : Addr} {xs ys : List Nat} (ha : SqL K H a (xs.map nV)) (hb : SqL K H b (ys.map nV)) (h : Q (.bl (decide (xs = ys))) H) : rEqD K (.ref a) (.ref b) H Q := by
  rw [map_nV] at ha hb
  refine x_eqLI ha hb ?_
  have e : decide ((xs.map fun n : Nat => (n : Int)) = (ys.map fun n : Nat => (n : Int))) = decide (xs = ys) := decide_eq_decide.mpr nat_inj
  rw [e]; exact h
theorem x_neLN {a b : Addr} {xs ys : List Nat} (ha : SqL K H a (xs.map nV)) (hb : SqL K H b (ys.map nV)) (h : Q (.bl (!decide (xs = ys))) H) : rNeD K (.ref a) (.ref b) H Q := by
  rw [map_nV] at ha hb
  refine x_neLI ha hb ?_
  have e : decide ((xs.map fun n : Nat => (n : Int)) = (ys.map fun n : Nat => (n : Int))) = decide (xs = ys) := decide_eq_decide.mpr nat_inj
  rw [e]; exact h
end

theorem nat_of {H : Hp} {Q : VK} {z : Int} (h : ∀ r : Nat, Q (.int r) H) (hz : 0 ≤ z) : Q (.int z) H := by
  obtain ⟨r, rfl⟩ := Int.eq_ofNat_of_zero_le hz
  exact h r
theorem atI_map {ns : List Int} {j : Nat} (h : j < ns.length) : atI (ns.map V.int) (j : Int) = some (.int ns[j]) := atI_nat (by simp [h])
theorem atI_nV {ns : List Nat} {j : Nat} (h : j < ns.length) : atI (ns.map nV) (j : Int) = some (nV ns[j]) := atI_nat (by simp [h])
theorem atI_neg1' {ns : List Nat} {j : Nat} (h : j < ns.length) : ∃ z, z ∈ ns ∧ atI (ns.map nV) ((j : Int) - 1) = some (nV z) := by
  unfold atI ixN
  by_cases hj : 0 ≤ (j : Int) - 1
  · rw [if_pos hj, if_pos (by simp; omega)]
    have h2 : ((j : Int) - 1).toNat < ns.length := by omega
    exact ⟨ns[((j : Int) - 1).toNat], List.getElem_mem h2, by
      show (ns.map nV)[_]? = _
      rw [List.getElem?_map, List.getElem?_eq_getElem h2]; rfl⟩
  · rw [if_neg hj, if_pos (by simp; omega)]
    have h2 : ((j : Int) - 1 + ((ns.map nV).length : Int)).toNat < ns.length := by simp; omega
    refine ⟨ns[((j : Int) - 1 + ((ns.map nV).length : Int)).toNat], List.getElem_mem h2, ?_⟩
    show (ns.map nV)[_]? = _
    rw [List.getElem?_map, List.getElem?_eq_getElem h2]; rfl
theorem atI_neg1 {ns : List Nat} {j : Nat} (h : j < ns.length) : ∃ z, atI (ns.map nV) ((j : Int) - 1) = some (nV z) := let ⟨z, _, e⟩ := atI_neg1' h; ⟨z, e⟩
/-! comprehensions over a list: one name, one test or none -/
def LcW (g : TG) (tt : TT) (te : TE) (vs : List Nat) (σ : L2.St) (Q : VK) : It → Hp → Prop := fun J H1 => ∀ D, H1 D = none → ∃ W : Nat → Nat → Hp → Prop, (∃ m, W 0 m (upd H1 D (.lst []))) ∧ ∀ i m H, W i m H →
  (J.stop i H ∧ Q (.ref D) H) ∨ (J.go i H ∧ ∃ Nx : Hp → Prop, (∀ H', Nx H' → ∃ m', m' < m ∧ W (i + 1) m' H') ∧ ∀ x H', J.yld i H x H' → g x (wipe σ vs) H' fun σ2 H2 => wipe σ2 vs = wipe σ vs ∧ tt σ2 H2 fun b H3 =>
    if b = true then te σ2 H3 fun y H4 => ∃ acc, H4 D = some (.lst acc) ∧ acc.length < sizeLine ∧ Nx (upd H4 D (.lst (acc ++ [y]))) else Nx H3)
theorem e_lc {wi : TI} {g : TG} {tt : TT} {te : TE} {vs : List Nat} {σ : L2.St} {H : Hp} {Q : VK} : tLc wi g tt te vs σ H Q = wi σ H (LcW g tt te vs σ Q) := rfl
theorem e_wipe0 {σ : L2.St} : wipe σ [] = σ := rfl
theorem e_wipe1 {σ : L2.St} {v : Nat} {vs : List Nat} : wipe σ (v :: vs) = (wipe σ vs).set v none := rfl
theorem e_yes {σ : L2.St} {H : Hp} {R : Bool → Hp → Prop} : tYes σ H R = R true H := rfl
theorem wipe_set1 {σ : L2.St} {i : Nat} {v : Option V} : wipe ((wipe σ [i]).set i v) [i] = wipe σ [i] := by
  show (((σ.set i none).set i v).set i none) = σ.set i none
  rw [List.set_set, List.set_set]
section
variable {K : PySem.W.Frag} {H : Hp} {Q : VK} {σ : L2.St} {tl te : TE} {tt : TT} {k : Nat}
/-- the list stands; test and element are reckoned of each item and change nothing that stood -/
theorem LcW.fmA {α : Type} {emb : α → V} {a : Addr} {xs : List α} (p : α → Bool) (f : α → V) (hS : SqL K H a (xs.map emb)) (hz : xs.length < sizeLine)
    (ht : ∀ x ∈ xs, ∀ H', Ex H H' → ∀ R : Bool → Hp → Prop, (∀ H'', Ex H' H'' → R (p x) H'') → tt ((wipe σ [k]).set k (some (emb x))) H' R)
    (he : ∀ x ∈ xs, p x = true → ∀ H', Ex H H' → ∀ Qe : VK, (∀ H'', Ex H' H'' → Qe (f x) H'') → te ((wipe σ [k]).set k (some (emb x))) H' Qe)
    (hk : ∀ D H', H D = none → Ex H H' → H' D = some (.lst ((xs.filter p).map f)) → Q (.ref D) H') :
    LcW (gName k) tt te [k] σ Q (Itl K a) H := by
  intro D hD
  refine lc_list (K := K) (a := a) (xs := xs.map emb) (Qd := fun H' => Q (.ref D) H') (fun i H' => Ex H H' ∧ H' D = some (.lst (((xs.take i).filter p).map f))) ⟨Ex.new hD, by rw [upd_same]; rfl⟩ (fun i H' _ h => h.1.ls hS) ?_ ?_
  · rintro i y H1 hx ⟨ex, h1⟩
    obtain ⟨x, hxi, rfl⟩ : ∃ x, xs[i]? = some x ∧ y = emb x := by
      rw [List.getElem?_map] at hx
      cases e : xs[i]? with
      | none => rw [e] at hx; cases hx
      | some x => rw [e] at hx; exact ⟨x, rfl, (Option.some.inj hx).symm⟩
    have hm : x ∈ xs := List.mem_of_getElem? hxi
    have et : xs.take (i + 1) = xs.take i ++ [x] := by rw [List.take_add_one, hxi]; rfl
    refine ⟨wipe_set1, ht x hm H1 ex _ fun H2 ex2 => ?_⟩
    cases hp : p x with
    | true =>
      refine iteT (he x hm hp H2 (ex.trans ex2) _ fun H3 ex3 => ⟨_, ex3.at (ex2.at h1), ?_, ?_, ?_⟩)
      · rw [List.length_map]
        exact Nat.lt_of_le_of_lt (Nat.le_trans (List.length_filter_le _ _) (List.length_take_le' _ _)) hz
      · exact ((ex.trans ex2).trans ex3).mut hD (ex3.at (ex2.at h1))
      · rw [upd_same, et, List.filter_append, List.map_append]
        simp [hp]
    | false =>
      refine iteF ⟨ex.trans ex2, ?_⟩
      rw [et, List.filter_append, List.map_append]
      simp [hp]
      simpa using ex2.at h1
  · rintro H1 ⟨ex, h1⟩
    rw [List.length_map, List.take_length] at h1
    exact hk D H1 hD ex h1
theorem LcW.fm {a : Addr} {xs : List V} (p : V → Bool) (f : V → V) (hS : SqL K H a xs) (hz : xs.length < sizeLine)
    (ht : ∀ x ∈ xs, ∀ H', Ex H H' → ∀ R : Bool → Hp → Prop, (∀ H'', Ex H' H'' → R (p x) H'') → tt ((wipe σ [k]).set k (some x)) H' R)
    (he : ∀ x ∈ xs, p x = true → ∀ H', Ex H H' → ∀ Qe : VK, (∀ H'', Ex H' H'' → Qe (f x) H'') → te ((wipe σ [k]).set k (some x)) H' Qe)
    (hk : ∀ D H', H D = none → Ex H H' → H' D = some (.lst ((xs.filter p).map f)) → Q (.ref D) H') :
    LcW (gName k) tt te [k] σ Q (Itl K a) H := LcW.fmA (emb := id) p f (by rw [List.map_id]; exact hS) hz ht he hk
/-- over whatever walks; item, test and element are reckoned and change nothing that stood -/
theorem LcW.fmW {J : It} {n : Nat} {G : Hp → Prop} {Y : Nat → Hp → V → Hp → Prop} (w : Walk J n G Y) (hz : n < sizeLine) (g : Nat → V) (p : Nat → Bool) (f : Nat → V) (hG : ∀ H', Ex H H' → G H') (hY : ∀ i H1 x H2, i < n → Y i H1 x H2 → x = g i ∧ Ex H1 H2)
    (ht : ∀ i, i < n → ∀ H', Ex H H' → ∀ R : Bool → Hp → Prop, (∀ H'', Ex H' H'' → R (p i) H'') → tt ((wipe σ [k]).set k (some (g i))) H' R)
    (he : ∀ i, i < n → p i = true → ∀ H', Ex H H' → ∀ Qe : VK, (∀ H'', Ex H' H'' → Qe (f i) H'') → te ((wipe σ [k]).set k (some (g i))) H' Qe)
    (hk : ∀ D H', H D = none → Ex H H' → H' D = some (.lst (((List.range n).filter p).map f)) → Q (.ref D) H') : LcW (gName k) tt te [k] σ Q J H := by
  intro D hD
  refine lc_it w (Qd := fun H' => Q (.ref D) H') (fun i H' => Ex H H' ∧ H' D = some (.lst (((List.range i).filter p).map f))) ⟨Ex.new hD, by rw [upd_same]; rfl⟩ (fun i H' _ h => hG H' h.1) ?_ ?_
  · rintro i x H1 H2 hi ⟨ex, h1⟩ y
    obtain ⟨rfl, ex12⟩ := hY i H1 x H2 hi y
    have ex2 := ex.trans ex12
    have h2 := ex12.at h1
    refine ⟨wipe_set1, ht i hi H2 ex2 _ fun H3 ex3 => ?_⟩
    have h3 := ex3.at h2
    have ex03 := ex2.trans ex3
    cases hp : p i with
    | true =>
      refine iteT (he i hi hp H3 ex03 _ fun H4 ex4 => ⟨_, ex4.at h3, ?_, (ex03.trans ex4).mut hD (ex4.at h3), ?_⟩)
      · rw [List.length_map]
        exact Nat.lt_of_le_of_lt (Nat.le_trans (List.length_filter_le _ _) (by rw [List.length_range]; omega)) hz
      · rw [upd_same, List.range_succ, List.filter_append, List.map_append]
        simp [hp]
    | false =>
      refine iteF ⟨ex03, ?_⟩
      rw [List.range_succ, List.filter_append, List.map_append]
      simp [hp]
      simpa using h3
  · rintro H1 ⟨ex, h1⟩
    exact hk D H1 hD ex h1
/-- over range(n) -/
theorem LcW.rng {n : Nat} (hz : n < sizeLine) (p : Nat → Bool) (f : Nat → V)
    (ht : ∀ i, i < n → ∀ H', Ex H H' → ∀ R : Bool → Hp → Prop, (∀ H'', Ex H' H'' → R (p i) H'') → tt ((wipe σ [k]).set k (some (nV i))) H' R)
    (he : ∀ i, i < n → p i = true → ∀ H', Ex H H' → ∀ Qe : VK, (∀ H'', Ex H' H'' → Qe (f i) H'') → te ((wipe σ [k]).set k (some (nV i))) H' Qe)
    (hk : ∀ D H', H D = none → Ex H H' → H' D = some (.lst (((List.range n).filter p).map f)) → Q (.ref D) H') : LcW (gName k) tt te [k] σ Q (Itr 0 n) H :=
  LcW.fmW walk_rgN hz nV p f (fun _ _ => trivial) (fun i H1 x H2 _ y => ⟨y.2, by rw [y.1]; exact Ex.refl⟩) ht he hk
/-- a plain map -/
theorem LcW.map {α : Type} {emb : α → V} {a : Addr} {xs : List α} (f : α → V) (hS : SqL K H a (xs.map emb)) (hz : xs.length < sizeLine)
    (he : ∀ x ∈ xs, ∀ H', Ex H H' → ∀ Qe : VK, (∀ H'', Ex H' H'' → Qe (f x) H'') → te ((wipe σ [k]).set k (some (emb x))) H' Qe)
    (hk : ∀ D H', H D = none → Ex H H' → H' D = some (.lst (xs.map f)) → Q (.ref D) H') :
    LcW (gName k) tYes te [k] σ Q (Itl K a) H :=
  LcW.fmA (fun _ => true) f hS hz (fun _ _ _ _ _ h => h _ Ex.refl) (fun x hx _ H' e Qe h => he x hx H' e Qe h) fun D H' h1 h2 h3 => hk D H' h1 h2 (by rw [h3, List.filter_eq_self.mpr fun _ _ => rfl])
/-- a plain filter -/
theorem LcW.filt {α : Type} {emb : α → V} {a : Addr} {xs : List α} (p : α → Bool) (hS : SqL K H a (xs.map emb)) (hz : xs.length < sizeLine)
    (ht : ∀ x ∈ xs, ∀ H', Ex H H' → ∀ R : Bool → Hp → Prop, (∀ H'', Ex H' H'' → R (p x) H'') → tt ((wipe σ [k]).set k (some (emb x))) H' R)
    (he : ∀ x ∈ xs, p x = true → ∀ H', Ex H H' → ∀ Qe : VK, Qe (emb x) H' → te ((wipe σ [k]).set k (some (emb x))) H' Qe)
    (hk : ∀ D H', H D = none → Ex H H' → H' D = some (.lst ((xs.filter p).map emb)) → Q (.ref D) H') :
    LcW (gName k) tt te [k] σ Q (Itl K a) H :=
  LcW.fmA p emb hS hz ht (fun x hx hp H' e Qe h => he x hx hp H' e Qe (h H' Ex.refl)) hk
end

theorem lt_ok {xs : List V} (h : decide (xs.length ≤ 1000) = true) : xs.length < sizeLine := Nat.lt_of_le_of_lt (of_decide_eq_true h) (by decide)
theorem len_ok {xs : List V} (h : decide (xs.length ≤ 1000) = true) : xs.length ≤ sizeLine := Nat.le_trans (of_decide_eq_true h) (by decide)
/-! dicts -/
abbrev nK (n : Nat) : Key := .inl (n : Int)
theorem nK_inj {a b : Nat} (h : nK a = nK b) : a = b := Int.ofNat.inj (Sum.inl.inj h)
def RDg (Q : VK) : V → V → Hp → Prop := fun x y H2 => ∃ a v, x = .ref a ∧ DGet H2 a y (some v) ∧ Q v H2
def RDi (Q : VK) : V → V → Hp → Prop := fun x y H2 => ∃ a o, x = .ref a ∧ DGet H2 a y o ∧ Q (.bl o.isSome) H2
def RDn (Q : VK) : V → V → Hp → Prop := fun x y H2 => ∃ a o, x = .ref a ∧ DGet H2 a y o ∧ Q (.bl (!o.isSome)) H2
def RDp (R : Hp → Prop) : V → V → V → Hp → Prop := fun x y v H3 => ∃ a H4, x = .ref a ∧ DPut H3 a y v H4 ∧ R H4
def RDN (Q : VK) : Hp → Prop := fun H => ∀ p, H p = none → Q (.ref p) (upd H p (.dK []))
section
variable {K : PySem.W.Frag} {σ : L2.St} {H : Hp} {td ty tv tx : TE} {D : Ends} {Q : VK}
theorem e_dget : tDGet td ty σ H Q = td σ H fun x H1 => ty σ H1 fun y H2 => RDg Q x y H2 := rfl
theorem e_din : tDIn ty td σ H Q = ty σ H fun y H1 => td σ H1 fun x H2 => RDi Q x y H2 := rfl
theorem e_dnin : tDNotIn ty td σ H Q = ty σ H fun y H1 => td σ H1 fun x H2 => RDn Q x y H2 := rfl
theorem e_dput : sDPut td ty tv D σ H = tv σ H fun v H1 => td σ H1 fun x H2 => ty σ H2 fun y H3 => RDp (D.nx σ) x y v H3 := rfl
theorem e_dnew : tDNewK σ H Q = RDN Q H := rfl
theorem x_dget {a : Addr} {kvs : List (Key × V)} {i : Int} {v : V} (h : H a = some (.dK kvs)) (e : valV kvs (.inl i) = some v) (k : Q v H) : RDg Q (.ref a) (.int i) H := ⟨a, v, rfl, .inl ⟨kvs, .inl i, .inl h, rfl, e.symm⟩, k⟩
theorem x_din {a : Addr} {kvs : List (Key × V)} {i : Int} (h : H a = some (.dK kvs)) (k : Q (.bl (valV kvs (.inl i)).isSome) H) : RDi Q (.ref a) (.int i) H := ⟨a, _, rfl, .inl ⟨kvs, .inl i, .inl h, rfl, rfl⟩, k⟩
theorem x_dnin {a : Addr} {kvs : List (Key × V)} {i : Int} (h : H a = some (.dK kvs)) (k : Q (.bl (!(valV kvs (.inl i)).isSome)) H) : RDn Q (.ref a) (.int i) H := ⟨a, _, rfl, .inl ⟨kvs, .inl i, .inl h, rfl, rfl⟩, k⟩
theorem x_dput {R : Hp → Prop} {a : Addr} {kvs : List (Key × V)} {i : Int} {v : V} (h : H a = some (.dK kvs)) (hz : kvs.length < sizeLine) (k : R (upd H a (.dK (putK kvs (.inl i) v)))) : RDp R (.ref a) (.int i) v H := ⟨a, _, rfl, .inl ⟨kvs, .inl i, h, rfl, hz, rfl⟩, k⟩
theorem x_dnew (h : ∀ p, H p = none → Q (.ref p) (upd H p (.dK []))) : RDN Q H := h
end
/-- sorted(d), d's keys ints, fewer than 64 -/
def rSortDI : List V → Hp → VK → Prop := fun xs H Q => ∃ (a : Addr) (kvs : List (Key × V)) (ks : List Int), xs = [.ref a] ∧ Rd H a (.dK kvs) ∧ kvs.map (·.1) = ks.map Sum.inl ∧ ks.length < 64 ∧
    ∀ (ys : List Int) (p : Addr), ys.Perm ks → ys.Pairwise (· ≤ ·) → H p = none → Q (.ref p) (upd H p (.lst (ys.map V.int)))
theorem cb_sortD {X : Cx} (hc : X.calm = true) : CallR X (.builtin "sorted") rSortDI := call_sortedDI hc

/-! objects: fields, methods -/
def RFld (K : PySem.W.Frag) (f : Str) (Q : VK) : VK := fun x H1 => ∃ a C dx fs v, x = .ref a ∧ H1 a = some (.ins C dx fs) ∧ Cls K C ∧ NoAttr K C f ∧ fs.lookup f = some v ∧ Q v H1
def RSf (K : PySem.W.Frag) (f : Str) (y : V) (R : Hp → Prop) : VK := fun x H2 => ∃ a C dx fs, x = .ref a ∧ H2 a = some (.ins C dx fs) ∧ Cls K C ∧ NoAttr K C f ∧ fs.length < 1000 ∧ R (upd H2 a (.ins C dx (putF f y fs)))
def RMt (C : Addr) (m : Str) (sp : Sp) (dvs : List V) (E : XK) (t : TA) (σ : L2.St) (Q : VK) : VK := fun x H1 => ∃ a dx fs, x = .ref a ∧ H1 a = some (.ins C dx fs) ∧ fs.lookup m = none ∧ t σ H1 fun vs H2 => sp (x :: (vs ++ dvs)) H2 Q E
section
variable {K : PySem.W.Frag} {σ : L2.St} {H : Hp} {ta tv : TE} {D : Ends} {Q : VK} {v y : V} {f m : Str} {a C dx : Addr} {fs : List (Str × V)} {sp : Sp} {dvs : List V} {E : XK} {t : TA}
theorem e_fld : tFld K ta f σ H Q = ta σ H (RFld K f Q) := rfl
theorem e_sfld : sFld K ta tv f D σ H = tv σ H fun y H1 => ta σ H1 (RSf K f y (D.nx σ)) := rfl
theorem e_meth : tMeth C m sp dvs E ta t σ H Q = ta σ H (RMt C m sp dvs E t σ Q) := rfl
theorem x_fld (h : H a = some (.ins C dx fs)) (c : Cls K C) (n : NoAttr K C f) (l : fs.lookup f = some v) (k : Q v H) : RFld K f Q (.ref a) H := ⟨a, C, dx, fs, v, rfl, h, c, n, l, k⟩
theorem x_sfld {R : Hp → Prop} {fs' : List (Str × V)} (h : H a = some (.ins C dx fs)) (c : Cls K C) (n : NoAttr K C f) (e : putF f y fs = fs') (hz : decide (fs.length < 1000) = true) (k : R (upd H a (.ins C dx fs'))) : RSf K f y R (.ref a) H := ⟨a, C, dx, fs, rfl, h, c, n, of_decide_eq_true hz, by rw [e]; exact k⟩
theorem x_meth (h : H a = some (.ins C dx fs)) (l : fs.lookup m = none) (k : t σ H fun vs H2 => sp (.ref a :: (vs ++ dvs)) H2 Q E) : RMt C m sp dvs E t σ Q (.ref a) H := ⟨a, dx, fs, rfl, h, l, k⟩
end
/-! slices -/
section
variable {K : PySem.W.Frag} {σ : L2.St} {H : Hp} {ta : TE} {tl th : TO} {Q : VK} {R : Option Int → Hp → Prop}
theorem e_sl {r : V → Option Int → Option Int → Hp → VK → Prop} : tSl r ta tl th σ H Q = ta σ H fun x H1 => tl σ H1 fun l H2 => th σ H2 fun u H3 => r x l u H3 Q := rfl
theorem e_nopart : tNoPart σ H R = R none H := rfl
def RPt (R : Option Int → Hp → Prop) : VK := fun x H1 => ∃ i, x = .int i ∧ R (some i) H1
theorem e_part : tPart ta σ H R = ta σ H (RPt R) := rfl
theorem x_part {i : Int} (h : R (some i) H) : RPt R (.int i) H := ⟨i, rfl, h⟩
theorem x_slL {p : Addr} {xs : List V} {lo hi : Option Int} (hS : SqL K H p xs) (h : ∀ q, H q = none → Q (.ref q) (upd H q (.lst (cutV xs lo hi)))) : rSlL K (.ref p) lo hi H Q := ⟨p, xs, rfl, hS, h⟩
theorem cut_take {xs : List V} {k : Nat} : cutV xs none (some (k : Int)) = xs.take k := by
  unfold cutV
  rw [HT.sIx_none, HT.sIx_nat, List.drop_zero, Nat.sub_zero]
  by_cases h : k ≤ xs.length
  · rw [Nat.min_eq_left h]
  · rw [Nat.min_eq_right (by omega), List.take_of_length_le (Nat.le_refl _), List.take_of_length_le (i := k) (by omega)]
theorem cut_drop {xs : List V} {k : Nat} : cutV xs (some (k : Int)) none = xs.drop k := by
  unfold cutV
  rw [HT.sIx_none, HT.sIx_nat]
  by_cases h : k ≤ xs.length
  · rw [Nat.min_eq_left h, List.take_of_length_le (by rw [List.length_drop]; omega)]
  · rw [Nat.min_eq_right (by omega), List.drop_of_length_le (Nat.le_refl _), List.drop_of_length_le (by omega), List.take_nil]
end
/-! members, methods of lists of names -/
theorem inV_nat {n : Nat} : ∀ {ns : List Nat}, inV (nV n) (ns.map nV) = decide (n ∈ ns)
  | [] => rfl
  | m :: r => by
    have ih := inV_nat (n := n) (ns := r)
    unfold inV at ih ⊢
    rw [List.map_cons, List.any_cons, ih]
    show (((m : Int) == (n : Int)) || decide (n ∈ r)) = _
    by_cases e : m = n
    · simp [e]
    · have e' : ¬ (m : Int) = n := fun z => e (Int.ofNat.inj z)
      simp [e', Ne.symm e]
theorem flat_nat (ns : List Nat) : (ns.map nV).all flatV = true := by
  rw [List.all_eq_true]
  intro x hx
  obtain ⟨n, _, rfl⟩ := List.mem_map.mp hx
  rfl
section
variable {K : PySem.W.Frag} {H : Hp} {Q : VK}
theorem x_inN {i : Int} {n : Nat} {p : Addr} {ns : List Nat} (hi : i = n) (hS : SqL K H p (ns.map nV)) (h : Q (.bl (decide (n ∈ ns))) H) : rIn K false (.int i) (.ref p) H Q := by
  subst hi; exact ⟨p, _, rfl, .inl hS, rfl, flat_nat ns, by rw [inV_nat]; exact h⟩
theorem x_ninN {i : Int} {n : Nat} {p : Addr} {ns : List Nat} (hi : i = n) (hS : SqL K H p (ns.map nV)) (h : Q (.bl (!decide (n ∈ ns))) H) : rIn K true (.int i) (.ref p) H Q := by
  subst hi; exact ⟨p, _, rfl, .inl hS, rfl, flat_nat ns, by rw [inV_nat]; exact h⟩
theorem erase_first {n : Nat} : ∀ {ns : List Nat}, n ∈ ns → ∃ j : Nat, (ns.map fun n : Nat => (n : Int))[j]? = some (n : Int) ∧ (∀ m : Nat, m < j → (ns.map fun n : Nat => (n : Int))[m]? ≠ some (n : Int)) ∧ ns.eraseIdx j = ns.erase n
  | [], h => by cases h
  | m :: r, h => by
    by_cases e : m = n
    · refine ⟨0, by simp [e], fun m h => absurd h (Nat.not_lt_zero _), by simp [e]⟩
    · have hr : n ∈ r := by
        rcases List.mem_cons.mp h with z | z
        · exact absurd z.symm e
        · exact z
      obtain ⟨j, h1, h2, h3⟩ := erase_first hr
      refine ⟨j + 1, by simpa using h1, fun k hk => ?_, ?_⟩
      · cases k with
        | zero =>
          intro z
          have z : some ((m : Nat) : Int) = some (n : Int) := z
          exact e (Int.ofNat.inj (Option.some.inj z))
        | succ k => exact h2 k (by omega)
      · rw [List.eraseIdx_cons_succ, h3, List.erase_cons_tail (by simpa using e)]
theorem eraseIdx_mapV {α β : Type} (f : α → β) : ∀ (xs : List α) (j : Nat), (xs.map f).eraseIdx j = (xs.eraseIdx j).map f
  | [], _ => rfl
  | _ :: _, 0 => rfl
  | x :: r, j + 1 => by
    show f x :: (r.map f).eraseIdx j = f x :: (r.eraseIdx j).map f
    rw [eraseIdx_mapV f r j]
theorem x_remove {i : Int} {n : Nat} {l : Addr} {ns : List Nat} (hi : i = n) (hl : H l = some (.lst (ns.map nV))) (hn : n ∈ ns) (h : Q .non (upd H l (.lst ((ns.erase n).map nV)))) : rRemI (.ref l) [.int i] H Q := by
  subst hi
  obtain ⟨j, h1, h2, h3⟩ := erase_first hn
  refine ⟨l, ns.map fun n : Nat => (n : Int), n, j, rfl, rfl, by rw [← map_nV]; exact hl, h1, h2, ?_⟩
  have e : ((ns.map fun n : Nat => (n : Int)).eraseIdx j).map V.int = (ns.erase n).map nV := by
    rw [eraseIdx_mapV, h3, ← map_nV]
  rw [e]; exact h
theorem x_pop0 {l : Addr} {x : V} {xs : List V} (hl : H l = some (.lst (x :: xs))) (h : Q x (upd H l (.lst xs))) : rPopAt (.ref l) [.int 0] H Q :=
  ⟨l, x :: xs, 0, 0, x, rfl, rfl, hl, by decide, by decide, by unfold seqIndex?; simp, rfl, h⟩
end

/-! len(set(names)), [:-1] -/
def RLs (K : PySem.W.Frag) (Q : VK) : VK := fun x H1 => ∃ (l : Addr) (ns : List Int), x = .ref l ∧ SqL K H1 l (ns.map V.int) ∧ ns.Nodup ∧ ns.length ≤ 4000 ∧ Q (.int (ns.length : Nat)) H1
theorem e_lenSet {K : PySem.W.Frag} {σ : L2.St} {H : Hp} {ta : TE} {Q : VK} : RZ.tLenSetI K ta σ H Q = ta σ H (RLs K Q) := rfl
theorem x_lenSet {K : PySem.W.Frag} {H : Hp} {Q : VK} {a : Addr} {ns : List Nat} (hS : SqL K H a (ns.map nV)) (nd : ns.Nodup) (hz : ns.length ≤ 4000) (h : Q (.int (ns.length : Nat)) H) : RLs K Q (.ref a) H :=
  ⟨a, ns.map fun n : Nat => (n : Int), rfl, by rw [← map_nV]; exact hS, List.Pairwise.map _ (fun a b h e => h (Int.ofNat.inj e)) nd, by rw [List.length_map]; exact hz, by rw [List.length_map]; exact h⟩
theorem cut_init {xs : List V} : cutV xs none (some (-1)) = xs.dropLast := by
  unfold cutV
  rw [HT.sIx_none, List.drop_zero, Nat.sub_zero]
  have e : HT.sIx xs.length xs.length (some (-1)) = xs.length - 1 := by
    unfold HT.sIx
    simp
    omega
  rw [e, List.dropLast_eq_take]
theorem x_truB {K : PySem.W.Frag} {H : Hp} {R : Bool → Prop} {b : Bool} (h : R b) : ∃ k, TruV K (.bl b) H k ∧ R k := ⟨b, rfl, h⟩
/-! dicts that are locked while they are walked -/
def LockD (D : Ends) (d : Addr) (od : Obj) (u : HO) : Ends := ⟨fun σ' H' => H' d = some (.frz od u) ∧ D.nx σ' (upd H' d u), fun v H' => H' d = some (.frz od u) ∧ D.rt v (upd H' d u), fun σ' H' => H' d = some (.frz od u) ∧ D.bk σ' (upd H' d u), fun σ' H' => H' d = some (.frz od u) ∧ D.ct σ' (upd H' d u)⟩
theorem x_lock {t : TS} {D : Ends} {σ : L2.St} {H : Hp} {d : Addr} {kvs : List (Key × V)} (h : H d = some (.dK kvs)) (k : ∀ od, t (LockD D d od (.dK kvs)) σ (upd H d (.frz od (.dK kvs)))) : tLock t D σ H := ⟨d, .dK kvs, h, trivial, k⟩
def RiK (R : It → Hp → Prop) : VK := fun x H1 => ∃ d o, x = .ref d ∧ ((∃ kvs, H1 d = some (.frz o (.dK kvs)) ∧ R (Itk d o kvs) H1) ∨ ∃ kvs, H1 d = some (.frz o (.dT kvs)) ∧ R (Itkt d o kvs) H1)
theorem e_keys {td : TE} {σ : L2.St} {H : Hp} {R : It → Hp → Prop} : iKeys td σ H R = td σ H (RiK R) := rfl
theorem x_itK {H : Hp} {R : It → Hp → Prop} {d : Addr} {o : Obj} {kvs : List (Key × V)} (h : H d = some (.frz o (.dK kvs))) (k : R (Itk d o kvs) H) : RiK R (.ref d) H := ⟨d, o, rfl, .inl ⟨kvs, h, k⟩⟩
theorem Fr.less {S : Addr → Prop} {H H1 : Hp} (f : Fr S H H1) (h : ∀ a, S a → H1 a = H a) : Ex H H1 :=
  ⟨fun a o e n _ => by
    by_cases s : S a
    · rw [h a s]; exact e
    · exact f.keep a o e n s, f.tab, f.back⟩
theorem Ex.unlock {H H' : Hp} {d : Addr} {od : Obj} {kvs : List (Key × V)} (h : H d = some (.dK kvs)) (e : Ex (upd H d (.frz od (.dK kvs))) H') : Ex H (upd H' d (.dK kvs)) :=
  (((Fr.upd1 (o := .frz od (.dK kvs)) h).trans (e.fr (S := fun a => a = d))).trans (Fr.upd1 (o := .dK kvs) (e.at upd_same))).less fun a z => by rw [z, upd_same, h]
theorem Rd.fr {S : Addr → Prop} {H H' : Hp} {a : Addr} {kvs : List (Key × V)} (h : Rd H a (.dK kvs)) (f : Fr S H H') (s : ¬ S a) : Rd H' a (.dK kvs) := by
  rcases h with h | ⟨o, h⟩
  · exact .inl (f.at h s)
  · exact .inr ⟨o, f.at h s⟩
section
variable {H : Hp} {Q : VK} {a : Addr} {kvs : List (Key × V)} {i : Int} {z : Str} {v : V}
theorem x_dgetR (h : Rd H a (.dK kvs)) (e : valV kvs (.inl i) = some v) (k : Q v H) : RDg Q (.ref a) (.int i) H := ⟨a, v, rfl, .inl ⟨kvs, .inl i, h, rfl, e.symm⟩, k⟩
theorem x_dgetS (h : Rd H a (.dK kvs)) (e : valV kvs (.inr z) = some v) (k : Q v H) : RDg Q (.ref a) (.str z) H := ⟨a, v, rfl, .inl ⟨kvs, .inr z, h, rfl, e.symm⟩, k⟩
theorem x_dinR (h : Rd H a (.dK kvs)) (k : Q (.bl (valV kvs (.inl i)).isSome) H) : RDi Q (.ref a) (.int i) H := ⟨a, _, rfl, .inl ⟨kvs, .inl i, h, rfl, rfl⟩, k⟩
theorem x_dninR (h : Rd H a (.dK kvs)) (k : Q (.bl (!(valV kvs (.inl i)).isSome)) H) : RDn Q (.ref a) (.int i) H := ⟨a, _, rfl, .inl ⟨kvs, .inl i, h, rfl, rfl⟩, k⟩
end
def RDG2 (ty tx : TE) (σ : L2.St) (Q : VK) : VK := fun x H1 => ∃ a, x = .ref a ∧ IsD H1 a ∧ ty σ H1 fun y H2 => tx σ H2 fun z H3 => ∃ o, DGet H3 a y o ∧ Q (o.getD z) H3
def RG2 (a : Addr) (Q : VK) : V → V → Hp → Prop := fun y z H3 => ∃ o, DGet H3 a y o ∧ Q (o.getD z) H3
theorem e_dget2 {td ty tx : TE} {σ : L2.St} {H : Hp} {Q : VK} : tDGet2 td ty tx σ H Q = td σ H (RDG2 ty tx σ Q) := rfl
theorem x_dget2 {ty tx : TE} {σ : L2.St} {H : Hp} {Q : VK} {a : Addr} {kvs : List (Key × V)} (h : H a = some (.dK kvs)) (k : ty σ H fun y H2 => tx σ H2 fun z H3 => RG2 a Q y z H3) : RDG2 ty tx σ Q (.ref a) H := ⟨a, rfl, .inl ⟨kvs, .inl h⟩, k⟩
theorem x_g2 {H : Hp} {Q : VK} {a : Addr} {kvs : List (Key × V)} {i : Int} {z : V} (h : H a = some (.dK kvs)) (k : Q ((valV kvs (.inl i)).getD z) H) : RG2 a Q (.int i) z H := ⟨_, .inl ⟨kvs, .inl i, .inl h, rfl, rfl⟩, k⟩
def RDP1 (ty : TE) (σ : L2.St) (Q : VK) : VK := fun x H1 => ∃ a, x = .ref a ∧ IsD H1 a ∧ ty σ H1 fun y H2 => ∃ kvs k v, H2 a = some (.dK kvs) ∧ y = kV k ∧ valV kvs k = some v ∧ Q v (upd H2 a (.dK (dropK kvs k)))
def RP1 (a : Addr) (Q : VK) : VK := fun y H2 => ∃ kvs k v, H2 a = some (.dK kvs) ∧ y = kV k ∧ valV kvs k = some v ∧ Q v (upd H2 a (.dK (dropK kvs k)))
theorem e_dpop1 {td ty : TE} {σ : L2.St} {H : Hp} {Q : VK} : tDPop1 td ty σ H Q = td σ H (RDP1 ty σ Q) := rfl
theorem x_dpop1 {ty : TE} {σ : L2.St} {H : Hp} {Q : VK} {a : Addr} {kvs : List (Key × V)} (h : H a = some (.dK kvs)) (k : ty σ H (RP1 a Q)) : RDP1 ty σ Q (.ref a) H := ⟨a, rfl, .inl ⟨kvs, .inl h⟩, k⟩
theorem x_p1 {H : Hp} {Q : VK} {a : Addr} {kvs : List (Key × V)} {i : Int} {v : V} (h : H a = some (.dK kvs)) (e : valV kvs (.inl i) = some v) (k : Q v (upd H a (.dK (dropK kvs (.inl i))))) : RP1 a Q (.int i) H := ⟨kvs, .inl i, v, h, rfl, e, k⟩
def RDP2 (ty tx : TE) (σ : L2.St) (Q : VK) : VK := fun x H1 => ∃ a, x = .ref a ∧ IsD H1 a ∧ ty σ H1 fun y H2 => tx σ H2 fun z H3 => ∃ kvs k, H3 a = some (.dK kvs) ∧ y = kV k ∧ (∀ v, valV kvs k = some v → Q v (upd H3 a (.dK (dropK kvs k)))) ∧ (valV kvs k = none → Q z H3)
def RP2 (a : Addr) (Q : VK) : V → V → Hp → Prop := fun y z H3 => ∃ kvs k, H3 a = some (.dK kvs) ∧ y = kV k ∧ (∀ v, valV kvs k = some v → Q v (upd H3 a (.dK (dropK kvs k)))) ∧ (valV kvs k = none → Q z H3)
theorem e_dpop2 {td ty tx : TE} {σ : L2.St} {H : Hp} {Q : VK} : tDPop2 td ty tx σ H Q = td σ H (RDP2 ty tx σ Q) := rfl
theorem x_dpop2 {ty tx : TE} {σ : L2.St} {H : Hp} {Q : VK} {a : Addr} {kvs : List (Key × V)} (h : H a = some (.dK kvs)) (k : ty σ H fun y H2 => tx σ H2 fun z H3 => RP2 a Q y z H3) : RDP2 ty tx σ Q (.ref a) H := ⟨a, rfl, .inl ⟨kvs, .inl h⟩, k⟩
theorem x_p2 {H : Hp} {Q : VK} {a : Addr} {kvs : List (Key × V)} {i : Int} {z : V} (h : H a = some (.dK kvs)) (k1 : ∀ v, valV kvs (.inl i) = some v → Q v (upd H a (.dK (dropK kvs (.inl i))))) (k2 : valV kvs (.inl i) = none → Q z H) : RP2 a Q (.int i) z H := ⟨kvs, .inl i, h, rfl, k1, k2⟩
def rListD : List V → Hp → VK → Prop := fun xs H Q => ∃ (a : Addr) (kvs : List (Key × V)), xs = [.ref a] ∧ Rd H a (.dK kvs) ∧ ∀ p, H p = none → Q (.ref p) (upd H p (.lst (kvs.map fun kv => kV kv.1)))
theorem cb_listD {X : Cx} (hc : X.calm = true) : CallR X (.type "list") rListD := call_listD hc
/-! is None, is not None -/
def rIsNn : R2 := fun x y H Q => y = .non ∧ Q (.bl (decide (x = .non))) H
def rNotNn : R2 := fun x y H Q => y = .non ∧ Q (.bl (!decide (x = .non))) H
theorem op_isNn {X : Cx} : OpR X (compareOp .Is) rIsNn := op_isN
theorem op_notNn {X : Cx} : OpR X (compareOp .IsNot) rNotNn := op_notN
section
variable {H : Hp} {Q : VK} {i : Int} {b : Bool} {z : Str} {a : Addr}
theorem x_isNN (h : Q (.bl true) H) : rIsNn .non .non H Q := ⟨rfl, by rw [decide_eq_true rfl]; exact h⟩
theorem x_isNI (h : Q (.bl false) H) : rIsNn (.int i) .non H Q := ⟨rfl, by rw [decide_eq_false (fun z => by cases z)]; exact h⟩
theorem x_isNB (h : Q (.bl false) H) : rIsNn (.bl b) .non H Q := ⟨rfl, by rw [decide_eq_false (fun z => by cases z)]; exact h⟩
theorem x_isNS (h : Q (.bl false) H) : rIsNn (.str z) .non H Q := ⟨rfl, by rw [decide_eq_false (fun z => by cases z)]; exact h⟩
theorem x_isNR (h : Q (.bl false) H) : rIsNn (.ref a) .non H Q := ⟨rfl, by rw [decide_eq_false (fun z => by cases z)]; exact h⟩
theorem x_notNN (h : Q (.bl false) H) : rNotNn .non .non H Q := ⟨rfl, by rw [decide_eq_true rfl]; exact h⟩
theorem x_notNI (h : Q (.bl true) H) : rNotNn (.int i) .non H Q := ⟨rfl, by rw [decide_eq_false (fun z => by cases z)]; exact h⟩
theorem x_notNB (h : Q (.bl true) H) : rNotNn (.bl b) .non H Q := ⟨rfl, by rw [decide_eq_false (fun z => by cases z)]; exact h⟩
theorem x_notNS (h : Q (.bl true) H) : rNotNn (.str z) .non H Q := ⟨rfl, by rw [decide_eq_false (fun z => by cases z)]; exact h⟩
theorem x_notNR (h : Q (.bl true) H) : rNotNn (.ref a) .non H Q := ⟨rfl, by rw [decide_eq_false (fun z => by cases z)]; exact h⟩
end
/-! new objects -/
theorem x_new {A : Prop} {R : Addr → Prop} (ha : A) (h : ∀ p, H p = none → R p) : A ∧ ∀ p, H p = none → R p := ⟨ha, h⟩
/-- a def with defaults, no exception out -/
theorem _root_.L2.FunD.okD {P : Program} {w : World} {K : PySem.W.Frag} {mg : Str → Option Value} {base : Heap} {x qual : Str} {st : Stmt} {f : Addr} {fd : FuncData} {dvs : List V} {kws : List (Str × V)} {N ps : List Str} {k : Nat} {sp : Sp} (F : FunD K x qual (defArgs st) (defBody st) (defScope st) dvs kws f fd) (S : FnScope N ps (defScope st)) (len : ∀ vs H Q E, sp vs H Q E → vs.length = ps.length)
    (hbody : ∀ (cdv : Value) (A : Around) (outer : List Env) (s : Shared) (H : Hp) (vs : List V) (Q : VK) (E : XK), Room k (A.deeper (PyProof.Rows.envOfC qual (defScope st) s.heap.objs.size f cdv)) → sp vs H Q E →
      ∃ t, PSs (cxOf CX0 P w K mg base N qual (defScope st) f cdv A outer s H E).nox (defBody st) t ∧ t { nx := fun _ H' => Q .non H', rt := Q } (start N vs) H) : FnOk P w K mg base CX0 (k + 1) f fd ps sp :=
  F.ok (CX := CX0) S len fun cdv A outer s H vs Q E hr h => let ⟨t, a, b⟩ := hbody cdv A outer s H vs Q E hr h; ⟨t, a.nox, b⟩
theorem fund_mk {K : PySem.W.Frag} {x qual : Str} {st : Stmt} {f D : Addr} {oc tc : Value} {od an td : Option Addr} {osl tl : Array (Option Value)} {kV doc pm cdv ct : Value} {tn : Nat} {its : List Value} {ds : List V} (l : K.lookup f = some ⟨oc, od, .func (PySem.W.fnOf x qual (defArgs st) (defBody st) (defScope st) (.ref D) kV doc pm an cdv ct), osl⟩)
    (c : PySem.W.codeIn K cdv qual = true) (k : PySem.W.keepIn K (.ref f) = true) (t : K.lookup D = some ⟨tc, td, .seq its.toArray tn, tl⟩) (v : Vals ds its) (hd : ds ≠ [] := by simp) : FunD K x qual (defArgs st) (defBody st) (defScope st) ds [] f (PySem.W.fnOf x qual (defArgs st) (defBody st) (defScope st) (.ref D) kV doc pm an cdv ct) :=
  ⟨⟨oc, od, .ref D, kV, doc, pm, an, cdv, ct, osl, rfl, l, c, .inr ⟨hd, D, _, its, tn, rfl, t, rfl, v⟩, .inl rfl⟩, k⟩
theorem vnil {K : PySem.W.Frag} {fd : FuncData} {ps : List Str} {ds : List Value} (v : Vals [] ds) (b : Binds K fd ps ds) : Binds K fd ps [] := by
  cases v
  exact b
/-! making, sorting, extending; comprehensions over whatever walks -/
def RMk (C : Addr) (sp : Sp) (dvs : List V) (E : XK) (Q : VK) : List V → Hp → Prop := fun vs H1 => ∀ x dx, H1 x = none → H1 dx = none → dx ≠ x → sp (.ref x :: (vs ++ dvs)) (upd (upd H1 dx (.own x)) x (.ins C dx [])) (fun v H2 => v = .non ∧ Q (.ref x) H2) E
theorem e_make {C : Addr} {sp : Sp} {dvs : List V} {E : XK} {t : TA} {σ : L2.St} {H : Hp} {Q : VK} : tMake C sp dvs E t σ H Q = t σ H (RMk C sp dvs E Q) := rfl
theorem x_make {C : Addr} {sp : Sp} {dvs vs : List V} {E : XK} {H : Hp} {Q : VK} (h : ∀ x dx H1, H x = none → Ex H H1 → H1 x = some (.ins C dx []) → sp (.ref x :: (vs ++ dvs)) H1 (fun v H2 => v = .non ∧ Q (.ref x) H2) E) : RMk C sp dvs E Q vs H :=
  fun x dx hx hdx ne => h x dx _ hx ((Ex.new hdx).newT (by rw [upd_ne (Ne.symm ne)]; exact hx)) upd_same
theorem x_extend {H : Hp} {Q : VK} {l b : Addr} {xs zs : List V} (hl : H l = some (.lst xs)) (hb : H b = some (.lst zs)) (hz : xs.length + zs.length ≤ sizeLine) (h : Q .non (upd H l (.lst (xs ++ zs)))) : rExtend (.ref l) [.ref b] H Q := ⟨l, b, xs, zs, rfl, rfl, hl, hb, hz, h⟩
theorem x_clear {H : Hp} {Q : VK} {l : Addr} {xs : List V} (hl : H l = some (.lst xs)) (h : Q .non (upd H l (.lst []))) : rClear (.ref l) [] H Q := ⟨l, xs, rfl, rfl, hl, h⟩
theorem LcW.by1 {J : It} {n : Nat} {G : Hp → Prop} {Y : Nat → Hp → V → Hp → Prop} {te : TE} {k : Nat} {σ : L2.St} {H : Hp} {Q : VK} (w : Walk J n G Y) (hz : n < sizeLine) (Pv : Addr → Nat → List V → Hp → Prop)
    (h0 : ∀ D, H D = none → Pv D 0 [] (upd H D (.lst [])))
    (hG : ∀ D i acc H', H D = none → i ≤ n → Pv D i acc H' → G H')
    (hs : ∀ D i acc x H1 H1', i < n → H D = none → Pv D i acc H1 → H1 D = some (.lst acc) → Y i H1 x H1' → ∀ Qe : VK, (∀ y H4, H4 D = some (.lst acc) → Pv D (i + 1) (acc ++ [y]) (upd H4 D (.lst (acc ++ [y]))) → Qe y H4) → te ((wipe σ [k]).set k (some x)) H1' Qe)
    (hd : ∀ D acc H', H D = none → Pv D n acc H' → H' D = some (.lst acc) → acc.length = n → Q (.ref D) H') : LcW (gName k) tYes te [k] σ Q J H := by
  intro D hD
  refine lc_it w (Qd := fun H' => Q (.ref D) H') (fun i H' => ∃ acc, acc.length = i ∧ H' D = some (.lst acc) ∧ Pv D i acc H') ⟨[], rfl, upd_same, h0 D hD⟩ (fun i H' hi ⟨acc, _, _, p⟩ => hG D i acc H' hD hi p) ?_ ?_
  · rintro i x H1 H1' hi ⟨acc, hl, ha, p⟩ y
    refine ⟨wipe_set1, ?_⟩
    rw [e_yes]
    refine iteT ?_
    refine hs D i acc x H1 H1' hi hD p ha y _ fun y H4 h4 p4 => ⟨acc, h4, by rw [hl]; exact Nat.lt_trans hi hz, acc ++ [y], by simp [hl], upd_same, p4⟩
  · rintro H1 ⟨acc, hl, ha, p⟩
    exact hd D acc H1 hD p ha hl
end
/-! ranges downwards, list + list, insert -/
def Rg3 (R : It → Hp → Prop) : List V → Hp → Prop := fun vs H1 => ∃ (i j c : Int) (n : Nat), vs = [.int i, .int j, .int c] ∧ RgC i j c n ∧ R (Itc i c n) H1
theorem e_rng3 {σ : L2.St} {H : Hp} {ts : TA} {R : It → Hp → Prop} : iRng3 ts σ H R = ts σ H (Rg3 R) := rfl
theorem x_rgDown {m : Nat} {H : Hp} {R : It → Hp → Prop} (hm : (m : Int) < 2 ^ 61) (h : R (Itc ((m : Int) - 1) (-1) m) H) : Rg3 R [V.int ((m : Int) - 1), .int (-1), .int (-1)] H :=
  ⟨_, _, _, m, rfl, by
    have q := RgC.neg (i := (m : Int) - 1) (j := -1) (by omega) (by omega) (by omega) (by omega)
    have e : ((m : Int) - 1 - -1).toNat = m := by omega
    rw [e] at q; exact q, h⟩
theorem walk_down {n : Nat} : Walk (Itc ((n : Int) - 1) (-1) n) n (fun _ => True) (fun i H x H' => H' = H ∧ ∃ k : Nat, k = n - 1 - i ∧ x = .int (k : Int)) :=
  ⟨fun _ _ hi _ => hi, fun _ _ => Nat.le_refl _, fun i H x H' hi _ y => ⟨y.1, n - 1 - i, rfl, by
    rw [y.2]
    have e : (n : Int) - 1 + (i : Nat) * -1 = ((n - 1 - i : Nat) : Int) := by omega
    rw [e]⟩⟩
theorem x_cat {H : Hp} {Q : VK} {a b : Addr} {xs zs : List V} (ha : H a = some (.lst xs)) (hb : H b = some (.lst zs)) (hz : xs.length + zs.length ≤ sizeLine) (h : ∀ p, H p = none → Q (.ref p) (upd H p (.lst (xs ++ zs)))) : rCat (.ref a) (.ref b) H Q := ⟨a, b, xs, zs, rfl, rfl, ha, hb, hz, h⟩
def rInsert : V → List V → Hp → VK → Prop := fun x vs H Q => ∃ (l : Addr) (xs : List V) (i : Int) (y : V), x = .ref l ∧ vs = [.int i, y] ∧ H l = some (.lst xs) ∧ xs.length < sizeLine ∧ 0 ≤ i ∧ i < 2 ^ 63 ∧
    Q .non (upd H l (.lst (xs.take i.toNat ++ [y] ++ xs.drop i.toNat)))
theorem mt_ins {X : Cx} : MtR X "list.insert" rInsert := mt_insert
theorem x_insert {H : Hp} {Q : VK} {l : Addr} {xs : List V} {i : Int} {k : Nat} {y : V} (hi : i = k) (hl : H l = some (.lst xs)) (hz : xs.length < sizeLine) (hk : k < 2 ^ 62) (h : Q .non (upd H l (.lst (xs.take k ++ [y] ++ xs.drop k)))) : rInsert (.ref l) [.int i, y] H Q :=
  ⟨l, xs, i, y, rfl, rfl, hl, hz, by omega, by omega, by rw [hi, Int.toNat_natCast]; exact h⟩
theorem cut_len {xs : List V} {k m : Nat} : (cutV xs (some (k : Int)) (some (m : Int))).length ≤ m - k := by
  unfold cutV
  rw [HT.sIx_nat, HT.sIx_nat, List.length_take]
  omega
theorem cut_mem {xs : List V} {lo hi : Option Int} {x : V} (h : x ∈ cutV xs lo hi) : x ∈ xs := List.mem_of_mem_drop (List.mem_of_mem_take h)
theorem absI (i : Int) : ∃ n : Nat, (if i < 0 then -i else i) = (n : Int) := ⟨i.natAbs, by split <;> omega⟩
/-! equal by what is read -/
def Shp (d : PyData) (k : Nat) : Prop := d.canLay0 = true ∧ d.depth ≤ k
theorem Shp.mono {d : PyData} {k j : Nat} (h : Shp d k) (e : k ≤ j) : Shp d j := ⟨h.1, Nat.le_trans h.2 e⟩
theorem shp_all {k : Nat} : ∀ {xs : List PyData}, (∀ x ∈ xs, Shp x k) → PyData.canLayAll0 xs = true ∧ PyData.depthAll xs ≤ k
  | [], _ => by simp [PyData.canLayAll0, PyData.depthAll]
  | x :: xs, h => by
    have h1 := h x (List.mem_cons_self ..)
    have h2 := shp_all (xs := xs) fun y hy => h y (List.mem_cons_of_mem _ hy)
    simp only [PyData.canLayAll0, PyData.depthAll, h1.1, h2.1, Bool.and_self, true_and]
    exact Nat.max_le.mpr ⟨h1.2, h2.2⟩
theorem Shp.lst {k : Nat} {xs : List PyData} (h : ∀ x ∈ xs, Shp x k) : Shp (.list xs) (k + 1) := by
  have q := shp_all h
  exact ⟨by simp only [PyData.canLay0]; exact q.1, by simp only [PyData.depth]; omega⟩
theorem Shp.tup {k : Nat} {xs : List PyData} (h : ∀ x ∈ xs, Shp x k) : Shp (.tuple xs) (k + 1) := by
  have q := shp_all h
  exact ⟨by simp only [PyData.canLay0]; exact q.1, by simp only [PyData.depth]; omega⟩
theorem Shp.int {i : Int} : Shp (.int i) 0 := ⟨by simp only [PyData.canLay0], by simp only [PyData.depth]; exact Nat.le_refl _⟩
theorem Shp.bl {i : Bool} : Shp (.bool i) 0 := ⟨by simp only [PyData.canLay0], by simp only [PyData.depth]; exact Nat.le_refl _⟩
theorem Shp.non : Shp .none 0 := ⟨by simp only [PyData.canLay0], by simp only [PyData.depth]; exact Nat.le_refl _⟩
theorem Shp.str {x : Str} (h : PyData.canLay0 (.str x) = true) : Shp (.str x) 0 := ⟨h, by simp only [PyData.depth]; exact Nat.le_refl _⟩
theorem Shp.ints {xs : List Int} : Shp (.list (xs.map PyData.int)) 1 := Shp.lst fun x hx => by
  obtain ⟨i, _, rfl⟩ := List.mem_map.mp hx; exact Shp.int
theorem Shp.ok {d : PyData} {k : Nat} (h : Shp d k) (hk : k ≤ 64 := by decide) : SeqAt.shaped d = true := by
  unfold SeqAt.shaped
  rw [h.1, decide_eq_true (Nat.le_trans h.2 hk)]; rfl
theorem Dp.natsL {K : PySem.W.Frag} {H : Hp} {a : Addr} {xs : List Nat} (h : SqL K H a (xs.map nV)) : Dp K H (.ref a) (.list ((xs.map fun n : Nat => (n : Int)).map PyData.int)) := .lst (by rw [map_nV] at h; exact h) (dpAll_ints _)
theorem x_neSame {K : PySem.W.Frag} {H : Hp} {Q : VK} {x y : V} {d : PyData} {k : Nat} (hx : Dp K H x d) (hy : Dp K H y d) (hs : Shp d k) (h : Q (.bl false) H) (hk : k ≤ 64 := by decide) : rNeD K x y H Q := ⟨d, d, hx, hy, hs.ok hk, hs.ok hk, by
  rw [SeqAt.eqv_refl d hs.1]; exact h⟩
theorem x_eqSame {K : PySem.W.Frag} {H : Hp} {Q : VK} {x y : V} {d : PyData} {k : Nat} (hx : Dp K H x d) (hy : Dp K H y d) (hs : Shp d k) (h : Q (.bl true) H) (hk : k ≤ 64 := by decide) : rEqD K x y H Q := ⟨d, d, hx, hy, hs.ok hk, hs.ok hk, by
  rw [SeqAt.eqv_refl d hs.1]; exact h⟩
end Nn
/-! A made function handed to a def: the cells that it captured lie as they lay at the entry. -/
namespace Nn
open PySem PySem.Spec PyProof.Rows L2 NdefX LamX
section
variable {X : Cx} {pins : List (Addr × Obj)} {σ : L2.St} {H : Hp} {s : Shared} {cl : List (Str × Addr)} {fr : List Str} {ws : List (Option V)} {js : List Nat}
theorem cells_later (C : CellsAt cl fr ws X.s_0.heap X.H_0) (hx : X.ex = []) (I : Inv X pins σ H s) : CellsAt cl fr ws s.heap H := by
  have nx : ∀ c : Addr, c ∉ X.ex := fun c z => by rw [hx] at z; cases z
  have kp : ∀ y c, cl.lookup y = some c → ∀ v, X.s_0.heap.IsCell c v → s.heap.IsCell c v := fun y c e v ⟨o, ho, hd⟩ => by
    obtain ⟨sl, h⟩ := I.base.any ho (C.all y c e).1 (nx c)
    exact ⟨_, h, hd⟩
  refine ⟨C.len, fun y c e => ?_, C.inj, fun i y e => ?_⟩
  · obtain ⟨n, v, z⟩ := C.all y c e
    refine ⟨?_, v, kp y c e v z⟩
    obtain ⟨o, ho, _⟩ := z
    exact I.base.free c o ho n (nx c)
  · obtain ⟨c, hc, hv⟩ := C.has i y e
    refine ⟨c, hc, fun v ev => ?_⟩
    obtain ⟨u, r, z⟩ := hv v ev
    exact ⟨u, r, kp y c hc _ z⟩
/-- where a running def knows what the cells hold -/
structure Prov (X : Cx) (cl : List (Str × Addr)) (fr : List Str) (ws : L2.St → List (Option V)) : Prop where
  at_ : ∀ (pins : List (Addr × Obj)) (σ : L2.St) (H : Hp) (s : Shared), Inv X pins σ H s → CellsAt cl fr (ws σ) s.heap H
theorem Prov.entry (C : CellsAt cl fr ws X.s_0.heap X.H_0) (hx : X.ex = []) : Prov X cl fr fun _ => ws := ⟨fun _ _ _ _ I => cells_later C hx I⟩
theorem Prov.own (c : X.Ok → Caps X cl fr js) : Prov X cl fr fun σ => js.map (slotAt σ) := ⟨fun _ _ _ _ I => cells_of I (c I.ok)⟩
end
/-- a def that is handed a made function whose cells hold ws -/
structure FnOkC (P : Program) (w : World) (K : PySem.W.Frag) (mg : Str → Option Value) (base : Heap) (CX : CXT) (k : Nat) (f : Addr) (fd : FuncData) (ps : List Str) (cl : List (Str × Addr)) (fr : List Str) (ws : List (Option V)) (sp : Sp) : Prop where
  len : ∀ vs H Q E, sp vs H Q E → vs.length = ps.length
  run : ∀ (A : Around) (outer : List Env) (s : Shared) (H : Hp) (args : Args) (us : List Value) (vs : List V) (Q : VK) (E : XK), Room k A → Env0 P w K mg base A outer s H → BindsTo s fd args (ps.zip us) → Vals vs us → CellsAt cl fr ws s.heap H → sp vs H Q E →
    codeAny (model P w) A (.call (.ref f) args) (CR CX outer P w H s Q E) s
theorem fn_ofC {CX : CXT} {P : Program} {w : World} {K : PySem.W.Frag} {mg : Str → Option Value} {base : Heap} {k : Nat} {f : Addr} {name qual : Str} {params : Arguments} {body : List Stmt} {scope : Scope} {dV kV doc pm cdv ct oc : Value} {an od : Option Addr}
    {osl : Array (Option Value)} {N ps : List Str} {cl : List (Str × Addr)} {fr : List Str} {ws : List (Option V)} {sp : Sp} (lk : K.lookup f = some ⟨oc, od, .func (PySem.W.fnOf name qual params body scope dV kV doc pm an cdv ct), osl⟩) (hcd : PySem.W.codeIn K cdv qual = true) (S : FnScope N ps scope)
    (len : ∀ vs H Q E, sp vs H Q E → vs.length = ps.length)
    (hbody : ∀ (A : Around) (outer : List Env) (s : Shared) (H : Hp) (vs : List V) (Q : VK) (E : XK), Room k (A.deeper (envOfC qual scope s.heap.objs.size f cdv)) → CellsAt cl fr ws s.heap H → sp vs H Q E →
      ∃ t, PSs (cxOf CX P w K mg base N qual scope f cdv A outer s H E) body t ∧ t { nx := fun _ H' => Q .non H', rt := Q } (start N vs) H) :
    FnOkC P w K mg base CX (k + 1) f (PySem.W.fnOf name qual params body scope dV kV doc pm an cdv ct) ps cl fr ws sp := by
  refine ⟨len, fun A outer s H args us vs Q E hr e0 hb r hC hsp => ?_⟩
  -- a promise that knows the very heap and state of this entry is not to be had of a def's rule: the rule is gone through once more
  have hl := len _ _ _ _ hsp
  have KX : K.In s.heap := e0.mod.kin.keeps fun b o e => (e0.bs b o e).1
  have lim : s.heap.NoLimit := e0.mod.nolimit.keeps fun b o e => (e0.bs b o e).1
  have hkind : ∀ y ∈ ps.zip us, scope.names.lookup y.1 = some .local ∨ (scope.names.lookup y.1 = some .cell ∧ ((cellsFrom (s.heap.objs.size + 1) scope.names []).lookup y.1).isSome = true) := fun ⟨n, v⟩ hy => by
    rcases S.par n (List.of_mem_zip hy).1 with q | q
    · exact .inl q
    · exact .inr ⟨q, PySem.W.cellsFrom_some _ _ _ (.inl q)⟩
  refine codeAny_call_function hr.depth (KX _ _ lk) rfl S.co S.gen rfl (PySem.W.codeRec_of KX hcd) (hb _ _ _ _ ?_)
  refine wpAny_newFunctionEnv_cells S.kind hkind fun env he s1 x => ?_
  subst he
  refine ⟨lim.keeps x.toInCall.keep, codeAny_func ?_⟩
  obtain ⟨t, ht, hq⟩ := hbody A outer s H vs Q E (hr.deeper _) hC hsp
  have I : Inv (cxOf CX P w K mg base N qual scope f cdv A outer s H E) [] (start N vs) H s1 := inv_start S hr.hd e0 hl r x
  refine wpAny_mono (ht.run [] s1 (start N vs) H _ I hq) (fun fl s' hs => ?_) fun e s' hs => hs
  have fin : ∀ {σ' : L2.St} {H' : Hp} {v : V} {u : Value}, Inv (cxOf CX P w K mg base N qual scope f cdv A outer s H E) [] σ' H' s' → L2.RelV v u → Q v H' → CE outer P w H s Q u s' :=
    fun {σ' H' v u} J rv q => ⟨v, H', J.os, J.bare, J.base, J.hok, rv, q⟩
  cases fl with
  | ret u =>
    obtain ⟨v, σ', H', J, rv, q⟩ := hs
    exact fin J rv q
  | next =>
    obtain ⟨σ', H', J, q⟩ := hs
    exact fin (v := V.non) (u := Value.none) J rfl q
  | brk =>
    obtain ⟨_, _, _, q⟩ := hs
    exact False.elim q
  | cont =>
    obtain ⟨_, _, _, q⟩ := hs
    exact False.elim q
theorem Fun.okC {P : Program} {w : World} {K : PySem.W.Frag} {mg : Str → Option Value} {base : Heap} {x qual : Str} {st : Stmt} {f : Addr} {fd : FuncData} {N ps : List Str} {k : Nat} {cl : List (Str × Addr)} {fr : List Str} {ws : List (Option V)} {sp : Sp} (F : Fun K x qual st f fd) (S : FnScope N ps (defScope st)) (len : ∀ vs H Q E, sp vs H Q E → vs.length = ps.length)
    (hbody : ∀ (cdv : Value) (A : Around) (outer : List Env) (s : Shared) (H : Hp) (vs : List V) (Q : VK) (E : XK), Room k (A.deeper (envOfC qual (defScope st) s.heap.objs.size f cdv)) → CellsAt cl fr ws s.heap H → sp vs H Q E →
      ∃ t, PSs (cxOf CX0 P w K mg base N qual (defScope st) f cdv A outer s H E).nox (defBody st) t ∧ t { nx := fun _ H' => Q .non H', rt := Q } (start N vs) H) : FnOkC P w K mg base CX0 (k + 1) f fd ps cl fr ws sp := by
  obtain ⟨oc, od, kV, doc, pm, an, cdv, ct, osl, rfl, lk, hcd⟩ := F.ex
  refine fn_ofC lk hcd S len fun A outer s H vs Q E hr hC hsp => ?_
  obtain ⟨t, h, q⟩ := hbody cdv A outer s H vs Q E hr hC hsp
  exact ⟨t, h.nox, q⟩
/-- a def that needs no cells serves where they are told -/
theorem FnOkC.of {P : Program} {w : World} {K : PySem.W.Frag} {mg : Str → Option Value} {base : Heap} {CX : CXT} {k : Nat} {f : Addr} {fd : FuncData} {ps : List Str} {cl : List (Str × Addr)} {fr : List Str} {ws : List (Option V)} {sp : Sp} (F : FnOk P w K mg base CX k f fd ps sp) : FnOkC P w K mg base CX k f fd ps cl fr ws sp :=
  ⟨F.len, fun A outer s H args us vs Q E hr e0 hb r _ h => F.run A outer s H args us vs Q E hr e0 hb r h⟩
section
variable {X : Cx} {CX : CXT} {k j i : Nat} {f C : Addr} {fd : FuncData} {ps : List Str} {cl : List (Str × Addr)} {fr : List Str} {ws : L2.St → List (Option V)} {sp : List (Option V) → Sp} {dvs : List V} {ds : List Value} {E : XK} {x m : Str} {p pos apos : Pos} {e o : Expr} {es : List Expr} {ta : TE} {t : TA}
theorem run_fnC {pins : List (Addr × Obj)} {σ : L2.St} {H : Hp} {s : Shared} {Q : VK} {us : List Value} {vs : List V} (F : FnOkC X.prog X.w X.K X.mg X.base CX k f fd ps cl fr (ws σ) (sp (ws σ))) (pr : Prov X cl fr ws) (hr : Room k X.A) (hb : Binds X.K fd ps ds) (hd : Vals dvs ds) (hx : Passes CX X E)
    (I : Inv X pins σ H s) (r : Vals vs us) (h : sp (ws σ) (vs ++ dvs) H Q E) : wpAny (model X.prog X.w) X.A (call (.ref f) us) (EP X pins σ Q) X.xe s := by
  have r2 : Vals (vs ++ dvs) (us ++ ds) := r.append hd
  have hl : (us ++ ds).length = ps.length := by rw [← r2.length]; exact F.len _ _ _ _ h
  refine wpAny_call (codeAny_mono (F.run X.A X.stack s H ⟨us, []⟩ (us ++ ds) (vs ++ dvs) Q E hr I.env0 (hb s us I.kIn hl) r2 (pr.at_ pins σ H s I) h) fun r s' hq => ?_)
  cases r with
  | error e => exact hx pins σ H s e s' I hq
  | ok fl =>
    cases fl with
    | ret u => exact I.after hq
    | next => exact False.elim hq
    | brk => exact False.elim hq
    | cont => exact False.elim hq
def tCallC (ws : L2.St → List (Option V)) (sp : List (Option V) → Sp) (dvs : List V) (E : XK) (t : TA) : TE := fun σ H Q => t σ H fun vs H1 => sp (ws σ) (vs ++ dvs) H1 Q E
theorem pe_callC (F : ∀ ws, FnOkC X.prog X.w X.K X.mg X.base CX k f fd ps cl fr ws (sp ws)) (pr : Prov X cl fr ws) (hr : Room k X.A) (hg : Gl X x) (hm : X.mg x = some (.ref f)) (hk : PySem.W.keepIn X.K (.ref f) = true) (hb : Binds X.K fd ps ds) (hd : Vals dvs ds) (hx : Passes CX X E)
    (ha : PA X (e :: es) t) (hdb : (x == ("__debug__" : Str)) = false := by decide) (he : starEach (e :: es) X.env = (false, eval e X.env) :: starEach es X.env := by rfl) (hpl : (backTo pos (starEach es X.env)).any (·.1) = false := by rfl) :
    PE X (.Call (.Name x p) (e :: es) [] pos) (tCallC ws sp dvs E t) := by
  refine ⟨fun pins s σ H Q I h => ?_⟩
  refine wpAny_Call_Name_kw (ld_glob I hg hm ?_ hdb)
  refine PySem.W.callWith_K (h₀ := X.base) I.ok.mod.kin hk (thn (ha.run pos pins s σ H _ I h) fun us s1 ⟨vs, H1, I1, r, q⟩ => ⟨I1.kIn, ?_⟩) he hpl
  exact run_fnC (F _) pr hr hb hd hx I1 r q
def tMethC (C : Addr) (m : Str) (ws : L2.St → List (Option V)) (sp : List (Option V) → Sp) (dvs : List V) (E : XK) (ta : TE) (t : TA) : TE := fun σ H Q => ta σ H fun x H1 => ∃ a dx fs, x = .ref a ∧ H1 a = some (.ins C dx fs) ∧ fs.lookup m = none ∧
  t σ H1 fun vs H2 => sp (ws σ) (x :: (vs ++ dvs)) H2 Q E
theorem pe_methC {pl : Sem Bool} (he : PE X o ta) (c : Cls X.K C) (hm : Meth X.K C m f) (F : ∀ ws, FnOkC X.prog X.w X.K X.mg X.base CX k f fd ps cl fr ws (sp ws)) (pr : Prov X cl fr ws) (hr : Room k X.A) (hb : Binds X.K fd ps ds) (hd : Vals dvs ds) (hx : Passes CX X E) (ha : PA X (e :: es) t)
    (hst : starEach (e :: es) X.env = (false, eval e X.env) :: starEach es X.env := by rfl) (hpl : (backTo pos (starEach es X.env)).any (·.1) = false := by rfl)
    (ht : eval (.Call (.Attribute o m apos) (e :: es) [] pos) X.env = (do
      let ov ← eval o X.env
      standAt apos.atName
      let (f, first) ← holding [ov] (getMethod ov m pl)
      callWith pos f first (backTo pos (starEach (e :: es) X.env)) (backToKw pos (keywordEach [] X.env))) := by rfl) :
    PE X (.Call (.Attribute o m apos) (e :: es) [] pos) (tMethC C m ws sp dvs E ta t) := by
  refine ⟨fun pins s σ H Q I h => ?_⟩
  refine PySem.W.methodCall_KW (pl := pl) (thn (he.run pins s σ H _ I h) fun u s1 ⟨x, H1, I1, rx, a, dx, fs, ex, ea, l, q⟩ => ?_) ht
  subst ex
  obtain rfl : u = Value.ref a := rx
  refine getmeth_ok I1 ea c hm l ?_
  refine PySem.W.callWith_K (first := [.ref a]) (h₀ := X.base) I.ok.mod.kin hm.kp (thn (ha.run pos pins s1 σ H1 _ I1 q) fun us s2 ⟨vs, H2, I2, r, q2⟩ => ⟨I2.kIn, ?_⟩) hst hpl
  exact run_fnC (us := .ref a :: us) (vs := .ref a :: vs) (F _) pr hr hb hd hx I2 (.cons rfl r) q2
/-- a call of a name that holds the made function F -/
def tCallF (F : NF) (i : Nat) (ws : L2.St → List (Option V)) (sp : Addr → List (Option V) → Sp) (E : XK) (t : TA) : TE := fun σ H Q => ∃ f, σ[i]? = some (some (.ref f)) ∧ H f = some (FnO f F) ∧
  t σ H fun vs H1 => H1 f = some (FnO f F) ∧ H1 F.c = some (CodeO F.c F.qual) ∧ sp f (ws σ) vs H1 Q E
theorem pe_callF {F : NF} {sp : Addr → List (Option V) → Sp} (Fn : ∀ f, NOk X.prog X.w X.K X.mg X.base CX k f F ps fr (sp f)) (pr : Prov X F.cl fr ws) (hr : Room j X.A) (hk : k ≤ j) (hx : Passes CX X E) (hN : X.N[i]? = some x) (hv : Vis X.env.scope x) (ha : PA X (e :: es) t)
    (hd : (x == ("__debug__" : Str)) = false := by decide) (hcd : (x == ("__classdict__" : Str)) = false := by decide)
    (he : starEach (e :: es) X.env = (false, eval e X.env) :: starEach es X.env := by rfl) (hpl : (backTo pos (starEach es X.env)).any (·.1) = false := by rfl) :
    PE X (.Call (.Name x p) (e :: es) [] pos) (tCallF F i ws sp E t) := by
  refine ⟨fun pins s σ H Q I h => ?_⟩
  obtain ⟨f, hs, hf, ht⟩ := h
  refine wpAny_Call_Name_kw (thn ((pe_var (pos := p) hN hv hd hcd).run pins s σ H (fun v H1 => v = .ref f ∧ H1 = H) I ⟨.ref f, hs, rfl, rfl⟩) fun u s1 ⟨v, H1, I1, r1, q1⟩ => ?_)
  obtain ⟨ev, eH⟩ := q1
  subst ev
  rw [eH] at I1
  obtain rfl : u = Value.ref f := r1
  refine PySem.W.callWith_F (first := []) (fnAt_of I1 hf) (thn (ha.run pos pins s1 σ H _ I1 ht) fun us s2 ⟨vs, H2, I2, r, h1, h2, q⟩ => ⟨fnAt_of I2 h1, ?_⟩) he hpl
  show wpAny _ _ (call (.ref f) us) _ _ _
  refine wpAny_call (codeAny_mono ((Fn f).run X.A X.stack s2 H2 us vs _ Q E (hr.mono hk) I2.env0 h1 h2 (pr.at_ pins σ H2 s2 I2) r q) fun r s' hq => ?_)
  cases r with
  | error e => exact hx pins σ H2 s2 e s' I2 hq
  | ok fl =>
    cases fl with
    | ret u => exact I2.after hq
    | next => exact False.elim hq
    | brk => exact False.elim hq
    | cont => exact False.elim hq
end
end Nn

/-! closures in sight: their readings, for the walk -/
namespace Nn
open PySem PySem.Spec PyProof.Rows L2 NdefX LamX
theorem FunD.okC {P : Program} {w : World} {K : PySem.W.Frag} {mg : Str → Option Value} {base : Heap} {x qual : Str} {st : Stmt} {f : Addr} {fd : FuncData} {dvs : List V} {kws : List (Str × V)} {N ps : List Str} {k : Nat} {cl : List (Str × Addr)} {fr : List Str} {ws : List (Option V)} {sp : Sp} (F : FunD K x qual (defArgs st) (defBody st) (defScope st) dvs kws f fd) (S : FnScope N ps (defScope st)) (len : ∀ vs H Q E, sp vs H Q E → vs.length = ps.length)
    (hbody : ∀ (cdv : Value) (A : Around) (outer : List Env) (s : Shared) (H : Hp) (vs : List V) (Q : VK) (E : XK), Room k (A.deeper (envOfC qual (defScope st) s.heap.objs.size f cdv)) → CellsAt cl fr ws s.heap H → sp vs H Q E →
      ∃ t, PSs (cxOf CX0 P w K mg base N qual (defScope st) f cdv A outer s H E).nox (defBody st) t ∧ t { nx := fun _ H' => Q .non H', rt := Q } (start N vs) H) : FnOkC P w K mg base CX0 (k + 1) f fd ps cl fr ws sp := by
  obtain ⟨oc, od, dV, kV, doc, pm, an, cdv, ct, osl, rfl, lk, hcd, _, _⟩ := F.ex
  refine fn_ofC lk hcd S len fun A outer s H vs Q E hr hC hsp => ?_
  obtain ⟨t, h, q⟩ := hbody cdv A outer s H vs Q E hr hC hsp
  exact ⟨t, h.nox, q⟩
def RMtC (C : Addr) (m : Str) (ws : L2.St → List (Option V)) (sp : List (Option V) → Sp) (dvs : List V) (E : XK) (t : TA) (σ : L2.St) (Q : VK) : VK := fun x H1 => ∃ a dx fs, x = .ref a ∧ H1 a = some (.ins C dx fs) ∧ fs.lookup m = none ∧ t σ H1 fun vs H2 => sp (ws σ) (x :: (vs ++ dvs)) H2 Q E
theorem e_methC {C : Addr} {m : Str} {ws : L2.St → List (Option V)} {sp : List (Option V) → Sp} {dvs : List V} {E : XK} {ta : TE} {t : TA} {σ : L2.St} {H : Hp} {Q : VK} : tMethC C m ws sp dvs E ta t σ H Q = ta σ H (RMtC C m ws sp dvs E t σ Q) := rfl
theorem x_methC {C : Addr} {m : Str} {ws : L2.St → List (Option V)} {sp : List (Option V) → Sp} {dvs : List V} {E : XK} {t : TA} {σ : L2.St} {H : Hp} {Q : VK} {a dx : Addr} {fs : List (Str × V)} (h : H a = some (.ins C dx fs)) (l : fs.lookup m = none) (k : t σ H fun vs H2 => sp (ws σ) (.ref a :: (vs ++ dvs)) H2 Q E) : RMtC C m ws sp dvs E t σ Q (.ref a) H := ⟨a, dx, fs, rfl, h, l, k⟩
theorem e_callC {ws : L2.St → List (Option V)} {sp : List (Option V) → Sp} {dvs : List V} {E : XK} {t : TA} {σ : L2.St} {H : Hp} {Q : VK} : tCallC ws sp dvs E t σ H Q = t σ H fun vs H1 => sp (ws σ) (vs ++ dvs) H1 Q E := rfl
/-- a statement that is never come to -/
def tDead : TS := fun _ _ _ => False
theorem ps_dead {X : Cx} {st : Stmt} : PS X st tDead := ⟨fun _ _ _ _ _ _ h => h.elim⟩
end Nn
namespace Nn
open PySem L2
def top (i : Nat) : Stmt := PySem.Challenge.pw_nearnames_k72_whole_losses.main.body.getD i (.Pass ⟨0, 0, 0, 0⟩)
abbrev s_is_name : Stmt := top 9
abbrev N_is_name : List Str := ["thing", "wide"]
theorem st_is_name (v0 v1 : V) : L2.start ["thing", "wide"] [v0, v1] = [some v0, some v1] := rfl
theorem sc_is_name : FnScope ["thing", "wide"] ["thing", "wide"] (defScope s_is_name) := ⟨rfl, rfl, rfl, by decide +kernel, rfl, by decide +kernel, by decide +kernel⟩
abbrev s_far : Stmt := top 10
abbrev N_far : List Str := ["one", "other"]
theorem st_far (v0 v1 : V) : L2.start ["one", "other"] [v0, v1] = [some v0, some v1] := rfl
theorem sc_far : FnScope ["one", "other"] ["one", "other"] (defScope s_far) := ⟨rfl, rfl, rfl, by decide +kernel, rfl, by decide +kernel, by decide +kernel⟩
abbrev s_nearer : Stmt := top 11
abbrev N_nearer : List Str := ["goal", "one", "other"]
theorem st_nearer (v0 v1 v2 : V) : L2.start ["goal", "one", "other"] [v0, v1, v2] = [some v0, some v1, some v2] := rfl
theorem sc_nearer : FnScope ["goal", "one", "other"] ["goal", "one", "other"] (defScope s_nearer) := ⟨rfl, rfl, rfl, by decide +kernel, rfl, by decide +kernel, by decide +kernel⟩
abbrev s_by_nearness : Stmt := top 12
abbrev N_by_nearness : List Str := ["goal", "names", "by_far", "name", "one"]
theorem st_by_nearness (v0 v1 : V) : L2.start ["goal", "names", "by_far", "name", "one"] [v0, v1] = [some v0, some v1, none, none, none] := rfl
theorem sc_by_nearness : FnScope ["goal", "names", "by_far", "name", "one"] ["goal", "names"] (defScope s_by_nearness) := ⟨rfl, rfl, rfl, by decide +kernel, rfl, by decide +kernel, by decide +kernel⟩
abbrev s_step : Stmt := top 13
abbrev N_step : List Str := ["one", "other"]
theorem st_step (v0 v1 : V) : L2.start ["one", "other"] [v0, v1] = [some v0, some v1] := rfl
theorem sc_step : FnScope ["one", "other"] ["one", "other"] (defScope s_step) := ⟨rfl, rfl, rfl, by decide +kernel, rfl, by decide +kernel, by decide +kernel⟩
abbrev s_span : Stmt := top 14
abbrev N_span : List Str := ["name", "k", "low"]
theorem st_span (v0 v1 : V) : L2.start ["name", "k", "low"] [v0, v1] = [some v0, some v1, none] := rfl
theorem sc_span : FnScope ["name", "k", "low"] ["name", "k"] (defScope s_span) := ⟨rfl, rfl, rfl, by decide +kernel, rfl, by decide +kernel, by decide +kernel⟩
abbrev s_of_span : Stmt := top 16
abbrev N_of_span : List Str := ["live", "house", "k", "low", "high", "name"]
theorem st_of_span (v0 v1 v2 : V) : L2.start ["live", "house", "k", "low", "high", "name"] [v0, v1, v2] = [some v0, some v1, some v2, none, none, none] := rfl
theorem sc_of_span : FnScope ["live", "house", "k", "low", "high", "name"] ["live", "house", "k"] (defScope s_of_span) := ⟨rfl, rfl, rfl, by decide +kernel, rfl, by decide +kernel, by decide +kernel⟩
abbrev s_is_faulty : Stmt := top 17
abbrev N_is_faulty : List Str := ["names", "live", "room", "house", "k", "name"]
theorem st_is_faulty (v0 v1 v2 v3 v4 : V) : L2.start ["names", "live", "room", "house", "k", "name"] [v0, v1, v2, v3, v4] = [some v0, some v1, some v2, some v3, some v4, none] := rfl
theorem sc_is_faulty : FnScope ["names", "live", "room", "house", "k", "name"] ["names", "live", "room", "house", "k"] (defScope s_is_faulty) := ⟨rfl, rfl, rfl, by decide +kernel, rfl, by decide +kernel, by decide +kernel⟩
abbrev s_fault : Stmt := top 18
abbrev N_fault : List Str := ["town", "live", "house", "k"]
theorem st_fault (v0 : V) : L2.start ["town", "live", "house", "k"] [v0] = [some v0, none, none, none] := rfl
theorem sc_fault : FnScope ["town", "live", "house", "k"] ["town"] (defScope s_fault) := ⟨rfl, rfl, rfl, by decide +kernel, rfl, by decide +kernel, by decide +kernel⟩
abbrev s_holes : Stmt := top 19
abbrev N_holes : List Str := ["town", "live", "found", "house", "k", "known", "name"]
theorem st_holes (v0 : V) : L2.start ["town", "live", "found", "house", "k", "known", "name"] [v0] = [some v0, none, none, none, none, none, none] := rfl
theorem sc_holes : FnScope ["town", "live", "found", "house", "k", "known", "name"] ["town"] (defScope s_holes) := ⟨rfl, rfl, rfl, by decide +kernel, rfl, by decide +kernel, by decide +kernel⟩
abbrev s_standing : Stmt := top 21
abbrev N_standing : List Str := ["goal", "room", "seen", "quiet", "name"]
theorem st_standing (v0 v1 v2 v3 : V) : L2.start ["goal", "room", "seen", "quiet", "name"] [v0, v1, v2, v3] = [some v0, some v1, some v2, some v3, none] := rfl
theorem sc_standing : FnScope ["goal", "room", "seen", "quiet", "name"] ["goal", "room", "seen", "quiet"] (defScope s_standing) := ⟨rfl, rfl, rfl, by decide +kernel, rfl, by decide +kernel, by decide +kernel⟩
abbrev s_asked : Stmt := top 22
abbrev N_asked : List Str := ["start", "goal", "room", "tells", "row", "seen", "name", "quiet", "left", "house", "told", "done"]
theorem st_asked (v0 v1 v2 v3 : V) : L2.start ["start", "goal", "room", "tells", "row", "seen", "name", "quiet", "left", "house", "told", "done"] [v0, v1, v2, v3] = [some v0, some v1, some v2, some v3, none, none, none, none, none, none, none, none] := rfl
theorem sc_asked : FnScope ["start", "goal", "room", "tells", "row", "seen", "name", "quiet", "left", "house", "told", "done"] ["start", "goal", "room", "tells"] (defScope s_asked) := ⟨rfl, rfl, rfl, by decide +kernel, rfl, by decide +kernel, by decide +kernel⟩
abbrev s_onward : Stmt := top 23
abbrev N_onward : List Str := ["here", "goal", "tells", "name"]
theorem st_onward (v0 v1 v2 : V) : L2.start ["here", "goal", "tells", "name"] [v0, v1, v2] = [some v0, some v1, some v2, none] := rfl
theorem sc_onward : FnScope ["here", "goal", "tells", "name"] ["here", "goal", "tells"] (defScope s_onward) := ⟨rfl, rfl, rfl, by decide +kernel, rfl, by decide +kernel, by decide +kernel⟩
abbrev s_way : Stmt := top 24
abbrev N_way : List Str := ["start", "goal", "tells", "line", "other"]
theorem st_way (v0 v1 v2 : V) : L2.start ["start", "goal", "tells", "line", "other"] [v0, v1, v2] = [some v0, some v1, some v2, none, none] := rfl
theorem sc_way : FnScope ["start", "goal", "tells", "line", "other"] ["start", "goal", "tells"] (defScope s_way) := ⟨rfl, rfl, rfl, by decide +kernel, rfl, by decide +kernel, by decide +kernel⟩
abbrev s_Bucket_init : Stmt := inClass (top 27) 0
abbrev N_Bucket_init : List Str := ["self", "room"]
theorem st_Bucket_init (v0 v1 : V) : L2.start ["self", "room"] [v0, v1] = [some v0, some v1] := rfl
theorem sc_Bucket_init : FnScope ["self", "room"] ["self", "room"] (defScope s_Bucket_init) := ⟨rfl, rfl, rfl, by decide +kernel, rfl, by decide +kernel, by decide +kernel⟩
abbrev s_Bucket_names : Stmt := inClass (top 27) 1
abbrev N_Bucket_names : List Str := ["self"]
theorem st_Bucket_names (v0 : V) : L2.start ["self"] [v0] = [some v0] := rfl
theorem sc_Bucket_names : FnScope ["self"] ["self"] (defScope s_Bucket_names) := ⟨rfl, rfl, rfl, by decide +kernel, rfl, by decide +kernel, by decide +kernel⟩
abbrev s_Bucket_hears : Stmt := inClass (top 27) 2
abbrev N_Bucket_hears : List Str := ["self", "name", "answers"]
theorem st_Bucket_hears (v0 v1 v2 : V) : L2.start ["self", "name", "answers"] [v0, v1, v2] = [some v0, some v1, some v2] := rfl
theorem sc_Bucket_hears : FnScope ["self", "name", "answers"] ["self", "name", "answers"] (defScope s_Bucket_hears) := ⟨rfl, rfl, rfl, by decide +kernel, rfl, by decide +kernel, by decide +kernel⟩
abbrev s_Bucket_drops : Stmt := inClass (top 27) 3
abbrev N_Bucket_drops : List Str := ["self", "name"]
theorem st_Bucket_drops (v0 v1 : V) : L2.start ["self", "name"] [v0, v1] = [some v0, some v1] := rfl
theorem sc_Bucket_drops : FnScope ["self", "name"] ["self", "name"] (defScope s_Bucket_drops) := ⟨rfl, rfl, rfl, by decide +kernel, rfl, by decide +kernel, by decide +kernel⟩
abbrev s_Table_init : Stmt := inClass (top 29) 0
abbrev N_Table_init : List Str := ["self", "own", "wide", "room", "k"]
theorem st_Table_init (v0 v1 v2 v3 : V) : L2.start ["self", "own", "wide", "room", "k"] [v0, v1, v2, v3] = [some v0, some v1, some v2, some v3, none] := rfl
theorem sc_Table_init : FnScope ["self", "own", "wide", "room", "k"] ["self", "own", "wide", "room"] (defScope s_Table_init) := ⟨rfl, rfl, rfl, by decide +kernel, rfl, by decide +kernel, by decide +kernel⟩
abbrev s_Table_bucket_for : Stmt := inClass (top 29) 1
abbrev N_Table_bucket_for : List Str := ["self", "name"]
theorem st_Table_bucket_for (v0 v1 : V) : L2.start ["self", "name"] [v0, v1] = [some v0, some v1] := rfl
theorem sc_Table_bucket_for : FnScope ["self", "name"] ["self", "name"] (defScope s_Table_bucket_for) := ⟨rfl, rfl, rfl, by decide +kernel, rfl, by decide +kernel, by decide +kernel⟩
abbrev s_Table_hears : Stmt := inClass (top 29) 2
abbrev N_Table_hears : List Str := ["self", "name", "answers"]
theorem st_Table_hears (v0 v1 v2 : V) : L2.start ["self", "name", "answers"] [v0, v1, v2] = [some v0, some v1, some v2] := rfl
theorem sc_Table_hears : FnScope ["self", "name", "answers"] ["self", "name", "answers"] (defScope s_Table_hears) := ⟨rfl, rfl, rfl, by decide +kernel, rfl, by decide +kernel, by decide +kernel⟩
abbrev s_Table_drops : Stmt := inClass (top 29) 3
abbrev N_Table_drops : List Str := ["self", "name"]
theorem st_Table_drops (v0 v1 : V) : L2.start ["self", "name"] [v0, v1] = [some v0, some v1] := rfl
theorem sc_Table_drops : FnScope ["self", "name"] ["self", "name"] (defScope s_Table_drops) := ⟨rfl, rfl, rfl, by decide +kernel, rfl, by decide +kernel, by decide +kernel⟩
abbrev s_Table_bucket : Stmt := inClass (top 29) 4
abbrev N_Table_bucket : List Str := ["self", "k"]
theorem st_Table_bucket (v0 v1 : V) : L2.start ["self", "k"] [v0, v1] = [some v0, some v1] := rfl
theorem sc_Table_bucket : FnScope ["self", "k"] ["self", "k"] (defScope s_Table_bucket) := ⟨rfl, rfl, rfl, by decide +kernel, rfl, by decide +kernel, by decide +kernel⟩
abbrev s_Table_keeps : Stmt := inClass (top 29) 5
abbrev N_Table_keeps : List Str := ["self", "found", "bucket"]
theorem st_Table_keeps (v0 : V) : L2.start ["self", "found", "bucket"] [v0] = [some v0, none, none] := rfl
theorem sc_Table_keeps : FnScope ["self", "found", "bucket"] ["self"] (defScope s_Table_keeps) := ⟨rfl, rfl, rfl, by decide +kernel, rfl, by decide +kernel, by decide +kernel⟩
abbrev s_Table_nearest : Stmt := inClass (top 29) 6
abbrev N_Table_nearest : List Str := ["self", "goal", "many", "but", "some", "name"]
theorem st_Table_nearest (v0 v1 v2 v3 : V) : L2.start ["self", "goal", "many", "but", "some", "name"] [v0, v1, v2, v3] = [some v0, some v1, some v2, some v3, none, none] := rfl
theorem sc_Table_nearest : FnScope ["self", "goal", "many", "but", "some", "name"] ["self", "goal", "many", "but"] (defScope s_Table_nearest) := ⟨rfl, rfl, rfl, by decide +kernel, rfl, by decide +kernel, by decide +kernel⟩
abbrev s_is_size : Stmt := top 33
abbrev N_is_size : List Str := ["thing", "most"]
theorem st_is_size (v0 v1 : V) : L2.start ["thing", "most"] [v0, v1] = [some v0, some v1] := rfl
theorem sc_is_size : FnScope ["thing", "most"] ["thing", "most"] (defScope s_is_size) := ⟨rfl, rfl, rfl, by decide +kernel, rfl, by decide +kernel, by decide +kernel⟩
abbrev s_Town_init : Stmt := inClass (top 34) 0
abbrev N_Town_init : List Str := ["self", "wide", "room"]
theorem st_Town_init (v0 v1 v2 : V) : L2.start ["self", "wide", "room"] [v0, v1, v2] = [some v0, some v1, some v2] := rfl
theorem sc_Town_init : FnScope ["self", "wide", "room"] ["self", "wide", "room"] (defScope s_Town_init) := ⟨rfl, rfl, rfl, by decide +kernel, rfl, by decide +kernel, by decide +kernel⟩
abbrev s_Town_houses : Stmt := inClass (top 34) 1
abbrev N_Town_houses : List Str := ["self"]
theorem st_Town_houses (v0 : V) : L2.start ["self"] [v0] = [some v0] := rfl
theorem sc_Town_houses : FnScope ["self"] ["self"] (defScope s_Town_houses) := ⟨rfl, rfl, rfl, by decide +kernel, rfl, by decide +kernel, by decide +kernel⟩
abbrev s_Town_answers : Stmt := inClass (top 34) 2
abbrev N_Town_answers : List Str := ["self", "name"]
theorem st_Town_answers (v0 v1 : V) : L2.start ["self", "name"] [v0, v1] = [some v0, some v1] := rfl
theorem sc_Town_answers : FnScope ["self", "name"] ["self", "name"] (defScope s_Town_answers) := ⟨rfl, rfl, rfl, by decide +kernel, rfl, by decide +kernel, by decide +kernel⟩
abbrev s_Town_answering : Stmt := inClass (top 34) 3
abbrev N_Town_answering : List Str := ["self", "house"]
theorem st_Town_answering (v0 : V) : L2.start ["self", "house"] [v0] = [some v0, none] := rfl
theorem sc_Town_answering : FnScope ["self", "house"] ["self"] (defScope s_Town_answering) := ⟨rfl, rfl, rfl, by decide +kernel, rfl, by decide +kernel, by decide +kernel⟩
abbrev s_Town_table : Stmt := inClass (top 34) 4
abbrev N_Town_table : List Str := ["self", "house"]
theorem st_Town_table (v0 v1 : V) : L2.start ["self", "house"] [v0, v1] = [some v0, some v1] := rfl
theorem sc_Town_table : FnScope ["self", "house"] ["self", "house"] (defScope s_Town_table) := ⟨rfl, rfl, rfl, by decide +kernel, rfl, by decide +kernel, by decide +kernel⟩
abbrev s_Town_look_awake : Stmt := inClass (top 34) 5
abbrev N_Town_look_awake : List Str := ["self", "house"]
theorem st_Town_look_awake (v0 v1 : V) : L2.start ["self", "house"] [v0, v1] = [some v0, some v1] := rfl
theorem sc_Town_look_awake : FnScope ["self", "house"] ["self", "house"] (defScope s_Town_look_awake) := ⟨rfl, rfl, rfl, by decide +kernel, rfl, by decide +kernel, by decide +kernel⟩
abbrev s_Town_look_named : Stmt := inClass (top 34) 6
abbrev N_Town_look_named : List Str := ["self", "name"]
theorem st_Town_look_named (v0 v1 : V) : L2.start ["self", "name"] [v0, v1] = [some v0, some v1] := rfl
theorem sc_Town_look_named : FnScope ["self", "name"] ["self", "name"] (defScope s_Town_look_named) := ⟨rfl, rfl, rfl, by decide +kernel, rfl, by decide +kernel, by decide +kernel⟩
abbrev s_Town_bucket : Stmt := inClass (top 34) 7
abbrev N_Town_bucket : List Str := ["self", "house", "k"]
theorem st_Town_bucket (v0 v1 v2 : V) : L2.start ["self", "house", "k"] [v0, v1, v2] = [some v0, some v1, some v2] := rfl
theorem sc_Town_bucket : FnScope ["self", "house", "k"] ["self", "house", "k"] (defScope s_Town_bucket) := ⟨rfl, rfl, rfl, by decide +kernel, rfl, by decide +kernel, by decide +kernel⟩
abbrev s_Town_keeps : Stmt := inClass (top 34) 8
abbrev N_Town_keeps : List Str := ["self", "house"]
theorem st_Town_keeps (v0 v1 : V) : L2.start ["self", "house"] [v0, v1] = [some v0, some v1] := rfl
theorem sc_Town_keeps : FnScope ["self", "house"] ["self", "house"] (defScope s_Town_keeps) := ⟨rfl, rfl, rfl, by decide +kernel, rfl, by decide +kernel, by decide +kernel⟩
abbrev s_Town_tells : Stmt := inClass (top 34) 9
abbrev N_Town_tells : List Str := ["self", "house", "goal", "asker"]
theorem st_Town_tells (v0 v1 v2 v3 : V) : L2.start ["self", "house", "goal", "asker"] [v0, v1, v2, v3] = [some v0, some v1, some v2, some v3] := rfl
theorem sc_Town_tells : FnScope ["self", "house", "goal", "asker"] ["self", "house", "goal", "asker"] (defScope s_Town_tells) := ⟨rfl, rfl, rfl, by decide +kernel, rfl, by decide +kernel, by decide +kernel⟩
abbrev s_Town_hears : Stmt := inClass (top 34) 10
abbrev N_Town_hears : List Str := ["self", "house", "name", "answers"]
theorem st_Town_hears (v0 v1 v2 : V) : L2.start ["self", "house", "name", "answers"] [v0, v1, v2] = [some v0, some v1, some v2, none] := rfl
theorem sc_Town_hears : FnScope ["self", "house", "name", "answers"] ["self", "house", "name"] (defScope s_Town_hears) := ⟨rfl, rfl, rfl, by decide +kernel, rfl, by decide +kernel, by decide +kernel⟩
abbrev s_Town_come_to : Stmt := inClass (top 34) 11
abbrev N_Town_come_to : List Str := ["self", "house", "found", "at", "other"]
theorem st_Town_come_to (v0 v1 : V) : L2.start ["self", "house", "found", "at", "other"] [v0, v1] = [some v0, some v1, none, none, none] := rfl
theorem sc_Town_come_to : FnScope ["self", "house", "found", "at", "other"] ["self", "house"] (defScope s_Town_come_to) := ⟨rfl, rfl, rfl, by decide +kernel, rfl, by decide +kernel, by decide +kernel⟩
abbrev s_Town_ask : Stmt := inClass (top 34) 12
abbrev N_Town_ask : List Str := ["self", "start", "goal", "tells", "row", "found", "house", "told"]
theorem st_Town_ask (v0 v1 v2 : V) : L2.start ["self", "start", "goal", "tells", "row", "found", "house", "told"] [v0, v1, v2] = [some v0, some v1, some v2, none, none, none, none, none] := rfl
theorem sc_Town_ask : FnScope ["self", "start", "goal", "tells", "row", "found", "house", "told"] ["self", "start", "goal"] (defScope s_Town_ask) := ⟨rfl, rfl, rfl, by decide +kernel, rfl, by decide +kernel, by decide +kernel⟩
abbrev s_Town_way : Stmt := inClass (top 34) 13
abbrev N_Town_way : List Str := ["self", "start", "goal", "tells"]
theorem st_Town_way (v0 v1 v2 : V) : L2.start ["self", "start", "goal", "tells"] [v0, v1, v2] = [some v0, some v1, some v2, none] := rfl
theorem sc_Town_way : FnScope ["self", "start", "goal", "tells"] ["self", "start", "goal"] (defScope s_Town_way) := ⟨rfl, rfl, rfl, by decide +kernel, rfl, by decide +kernel, by decide +kernel⟩
abbrev s_Town_visit : Stmt := inClass (top 34) 14
abbrev N_Town_visit : List Str := ["self", "house", "door", "others", "other"]
theorem st_Town_visit (v0 v1 v2 : V) : L2.start ["self", "house", "door", "others", "other"] [v0, v1, v2] = [some v0, some v1, some v2, none, none] := rfl
theorem sc_Town_visit : FnScope ["self", "house", "door", "others", "other"] ["self", "house", "door"] (defScope s_Town_visit) := ⟨rfl, rfl, rfl, by decide +kernel, rfl, by decide +kernel, by decide +kernel⟩
abbrev s_Town_come : Stmt := inClass (top 34) 15
abbrev N_Town_come : List Str := ["self", "name", "door"]
theorem st_Town_come (v0 v1 v2 : V) : L2.start ["self", "name", "door"] [v0, v1, v2] = [some v0, some v1, some v2] := rfl
theorem sc_Town_come : FnScope ["self", "name", "door"] ["self", "name", "door"] (defScope s_Town_come) := ⟨rfl, rfl, rfl, by decide +kernel, rfl, by decide +kernel, by decide +kernel⟩
abbrev s_Town_go : Stmt := inClass (top 34) 16
abbrev N_Town_go : List Str := ["self", "house"]
theorem st_Town_go (v0 v1 : V) : L2.start ["self", "house"] [v0, v1] = [some v0, some v1] := rfl
theorem sc_Town_go : FnScope ["self", "house"] ["self", "house"] (defScope s_Town_go) := ⟨rfl, rfl, rfl, by decide +kernel, rfl, by decide +kernel, by decide +kernel⟩
abbrev s_Town_hush : Stmt := inClass (top 34) 17
abbrev N_Town_hush : List Str := ["self", "house"]
theorem st_Town_hush (v0 v1 : V) : L2.start ["self", "house"] [v0, v1] = [some v0, some v1] := rfl
theorem sc_Town_hush : FnScope ["self", "house"] ["self", "house"] (defScope s_Town_hush) := ⟨rfl, rfl, rfl, by decide +kernel, rfl, by decide +kernel, by decide +kernel⟩
abbrev s_Town_wake : Stmt := inClass (top 34) 18
abbrev N_Town_wake : List Str := ["self", "house", "door"]
theorem st_Town_wake (v0 v1 v2 : V) : L2.start ["self", "house", "door"] [v0, v1, v2] = [some v0, some v1, some v2] := rfl
theorem sc_Town_wake : FnScope ["self", "house", "door"] ["self", "house", "door"] (defScope s_Town_wake) := ⟨rfl, rfl, rfl, by decide +kernel, rfl, by decide +kernel, by decide +kernel⟩
abbrev s_Market_init : Stmt := inClass (top 36) 0
abbrev N_Market_init : List Str := ["self", "wide", "room"]
theorem st_Market_init (v0 v1 v2 : V) : L2.start ["self", "wide", "room"] [v0, v1, v2] = [some v0, some v1, some v2] := rfl
theorem sc_Market_init : FnScope ["self", "wide", "room"] ["self", "wide", "room"] (defScope s_Market_init) := ⟨rfl, rfl, rfl, by decide +kernel, rfl, by decide +kernel, by decide +kernel⟩
abbrev s_Market_come : Stmt := inClass (top 36) 1
abbrev N_Market_come : List Str := ["self", "name", "door", "visited"]
theorem st_Market_come (v0 v1 v2 : V) : L2.start ["self", "name", "door", "visited"] [v0, v1, v2] = [some v0, some v1, some v2, none] := rfl
theorem sc_Market_come : FnScope ["self", "name", "door", "visited"] ["self", "name", "door"] (defScope s_Market_come) := ⟨rfl, rfl, rfl, by decide +kernel, rfl, by decide +kernel, by decide +kernel⟩
abbrev s_Market_wake : Stmt := inClass (top 36) 2
abbrev N_Market_wake : List Str := ["self", "house", "door"]
theorem st_Market_wake (v0 v1 v2 : V) : L2.start ["self", "house", "door"] [v0, v1, v2] = [some v0, some v1, some v2] := rfl
theorem sc_Market_wake : FnScope ["self", "house", "door"] ["self", "house", "door"] (defScope s_Market_wake) := ⟨rfl, rfl, rfl, by decide +kernel, rfl, by decide +kernel, by decide +kernel⟩
abbrev s_Market_go : Stmt := inClass (top 36) 3
abbrev N_Market_go : List Str := ["self", "house"]
theorem st_Market_go (v0 v1 : V) : L2.start ["self", "house"] [v0, v1] = [some v0, some v1] := rfl
theorem sc_Market_go : FnScope ["self", "house"] ["self", "house"] (defScope s_Market_go) := ⟨rfl, rfl, rfl, by decide +kernel, rfl, by decide +kernel, by decide +kernel⟩
abbrev s_Market_keys_of : Stmt := inClass (top 36) 4
abbrev N_Market_keys_of : List Str := ["self", "houses", "found", "house"]
theorem st_Market_keys_of (v0 v1 : V) : L2.start ["self", "houses", "found", "house"] [v0, v1] = [some v0, some v1, none, none] := rfl
theorem sc_Market_keys_of : FnScope ["self", "houses", "found", "house"] ["self", "houses"] (defScope s_Market_keys_of) := ⟨rfl, rfl, rfl, by decide +kernel, rfl, by decide +kernel, by decide +kernel⟩
abbrev s_Market_newest : Stmt := inClass (top 36) 5
abbrev N_Market_newest : List Str := ["self", "key", "houses", "some", "house"]
theorem st_Market_newest (v0 v1 v2 : V) : L2.start ["self", "key", "houses", "some", "house"] [v0, v1, v2] = [some v0, some v1, some v2, none, none] := rfl
theorem sc_Market_newest : FnScope ["self", "key", "houses", "some", "house"] ["self", "key", "houses"] (defScope s_Market_newest) := ⟨rfl, rfl, rfl, by decide +kernel, rfl, by decide +kernel, by decide +kernel⟩
abbrev s_Market_takes : Stmt := inClass (top 36) 6
abbrev N_Market_takes : List Str := ["self", "house", "visited", "some", "key"]
theorem st_Market_takes (v0 v1 v2 : V) : L2.start ["self", "house", "visited", "some", "key"] [v0, v1, v2] = [some v0, some v1, some v2, none, none] := rfl
theorem sc_Market_takes : FnScope ["self", "house", "visited", "some", "key"] ["self", "house", "visited"] (defScope s_Market_takes) := ⟨rfl, rfl, rfl, by decide +kernel, rfl, by decide +kernel, by decide +kernel⟩
abbrev s_Market_put : Stmt := inClass (top 36) 7
abbrev N_Market_put : List Str := ["self", "houses", "key", "thing", "keepers", "house"]
theorem st_Market_put (v0 v1 v2 v3 : V) : L2.start ["self", "houses", "key", "thing", "keepers", "house"] [v0, v1, v2, v3] = [some v0, some v1, some v2, some v3, none, none] := rfl
theorem sc_Market_put : FnScope ["self", "houses", "key", "thing", "keepers", "house"] ["self", "houses", "key", "thing"] (defScope s_Market_put) := ⟨rfl, rfl, rfl, by decide +kernel, rfl, by decide +kernel, by decide +kernel⟩
abbrev s_Market_lay : Stmt := inClass (top 36) 8
abbrev N_Market_lay : List Str := ["self", "start", "key", "text", "row", "found"]
theorem st_Market_lay (v0 v1 v2 v3 : V) : L2.start ["self", "start", "key", "text", "row", "found"] [v0, v1, v2, v3] = [some v0, some v1, some v2, some v3, none, none] := rfl
theorem sc_Market_lay : FnScope ["self", "start", "key", "text", "row", "found"] ["self", "start", "key", "text"] (defScope s_Market_lay) := ⟨rfl, rfl, rfl, by decide +kernel, rfl, by decide +kernel, by decide +kernel⟩
abbrev s_Market_seek : Stmt := inClass (top 36) 9
abbrev N_Market_seek : List Str := ["self", "start", "key", "row", "found", "met", "house", "told", "thing"]
theorem st_Market_seek (v0 v1 v2 : V) : L2.start ["self", "start", "key", "row", "found", "met", "house", "told", "thing"] [v0, v1, v2] = [some v0, some v1, some v2, none, none, none, none, none, none] := rfl
theorem sc_Market_seek : FnScope ["self", "start", "key", "row", "found", "met", "house", "told", "thing"] ["self", "start", "key"] (defScope s_Market_seek) := ⟨rfl, rfl, rfl, by decide +kernel, rfl, by decide +kernel, by decide +kernel⟩
abbrev s_Market_kept : Stmt := inClass (top 36) 10
abbrev N_Market_kept : List Str := ["self", "house", "shelf", "key"]
theorem st_Market_kept (v0 v1 : V) : L2.start ["self", "house", "shelf", "key"] [v0, v1] = [some v0, some v1, none, none] := rfl
theorem sc_Market_kept : FnScope ["self", "house", "shelf", "key"] ["self", "house"] (defScope s_Market_kept) := ⟨rfl, rfl, rfl, by decide +kernel, rfl, by decide +kernel, by decide +kernel⟩
abbrev s_Market_tide : Stmt := inClass (top 36) 11
abbrev N_Market_tide : List Str := ["self"]
theorem st_Market_tide (v0 : V) : L2.start ["self"] [v0] = [some v0] := rfl
theorem sc_Market_tide : FnScope ["self"] ["self"] (defScope s_Market_tide) := ⟨rfl, rfl, rfl, by decide +kernel, rfl, by decide +kernel, by decide +kernel⟩
abbrev s_l_cell_at : Stmt := top 38
abbrev N_l_cell_at : List Str := ["_law_script", "_law_k"]
theorem st_l_cell_at (v0 v1 : V) : L2.start ["_law_script", "_law_k"] [v0, v1] = [some v0, some v1] := rfl
theorem sc_l_cell_at : FnScope ["_law_script", "_law_k"] ["_law_script", "_law_k"] (defScope s_l_cell_at) := ⟨rfl, rfl, rfl, by decide +kernel, rfl, by decide +kernel, by decide +kernel⟩
abbrev s_l_number : Stmt := top 39
abbrev N_l_number : List Str := ["_law_cell", "_law_k", "_law_plain", "_law_one", "_law_two"]
theorem st_l_number (v0 v1 v2 : V) : L2.start ["_law_cell", "_law_k", "_law_plain", "_law_one", "_law_two"] [v0, v1, v2] = [some v0, some v1, some v2, none, none] := rfl
theorem sc_l_number : FnScope ["_law_cell", "_law_k", "_law_plain", "_law_one", "_law_two"] ["_law_cell", "_law_k", "_law_plain"] (defScope s_l_number) := ⟨rfl, rfl, rfl, by decide +kernel, rfl, by decide +kernel, by decide +kernel⟩
abbrev s_l_names : Stmt := top 40
abbrev N_l_names : List Str := ["_law_number_here", "_law_wide", "_law_many", "_law_names_here", "_law_odd", "_law_low", "_law_k"]
theorem st_l_names (v0 v1 v2 : V) : L2.start ["_law_number_here", "_law_wide", "_law_many", "_law_names_here", "_law_odd", "_law_low", "_law_k"] [v0, v1, v2] = [some v0, some v1, some v2, none, none, none, none] := rfl
theorem sc_l_names : FnScope ["_law_number_here", "_law_wide", "_law_many", "_law_names_here", "_law_odd", "_law_low", "_law_k"] ["_law_number_here", "_law_wide", "_law_many"] (defScope s_l_names) := ⟨rfl, rfl, rfl, by decide +kernel, rfl, by decide +kernel, by decide +kernel⟩
abbrev s_l_by_nearness : Stmt := top 41
abbrev N_l_by_nearness : List Str := ["_law_goal", "_law_names_here"]
theorem st_l_by_nearness (v0 v1 : V) : L2.start ["_law_goal", "_law_names_here"] [v0, v1] = [some v0, some v1] := rfl
theorem sc_l_by_nearness : FnScope ["_law_goal", "_law_names_here"] ["_law_goal", "_law_names_here"] (defScope s_l_by_nearness) := ⟨rfl, rfl, rfl, by decide +kernel, rfl, by decide +kernel, by decide +kernel⟩
abbrev s_l_built : Stmt := top 42
abbrev N_l_built : List Str := ["_law_market", "_law_names_here", "_law_cells", "_law_plain", "_law_here", "_law_k", "_law_cell", "_law_number_here", "_law_left", "_law_name"]
theorem st_l_built (v0 v1 v2 v3 : V) : L2.start ["_law_market", "_law_names_here", "_law_cells", "_law_plain", "_law_here", "_law_k", "_law_cell", "_law_number_here", "_law_left", "_law_name"] [v0, v1, v2, v3] = [some v0, some v1, some v2, some v3, none, none, none, none, none, none] := rfl
theorem sc_l_built : FnScope ["_law_market", "_law_names_here", "_law_cells", "_law_plain", "_law_here", "_law_k", "_law_cell", "_law_number_here", "_law_left", "_law_name"] ["_law_market", "_law_names_here", "_law_cells", "_law_plain"] (defScope s_l_built) := ⟨rfl, rfl, rfl, by decide +kernel, rfl, by decide +kernel, by decide +kernel⟩
abbrev s_l_goes_out : Stmt := top 43
abbrev N_l_goes_out : List Str := ["_law_market", "_law_live", "_law_start", "_law_goal", "_law_others", "_law_name", "_law_found"]
theorem st_l_goes_out (v0 v1 v2 v3 : V) : L2.start ["_law_market", "_law_live", "_law_start", "_law_goal", "_law_others", "_law_name", "_law_found"] [v0, v1, v2, v3] = [some v0, some v1, some v2, some v3, none, none, none] := rfl
theorem sc_l_goes_out : FnScope ["_law_market", "_law_live", "_law_start", "_law_goal", "_law_others", "_law_name", "_law_found"] ["_law_market", "_law_live", "_law_start", "_law_goal"] (defScope s_l_goes_out) := ⟨rfl, rfl, rfl, by decide +kernel, rfl, by decide +kernel, by decide +kernel⟩
abbrev s_l_changed : Stmt := top 44
abbrev N_l_changed : List Str := ["_law_market", "_law_live", "_law_names_here", "_law_number_here", "_law_more", "_law_house", "_law_left", "_law_name"]
theorem st_l_changed (v0 v1 v2 v3 v4 : V) : L2.start ["_law_market", "_law_live", "_law_names_here", "_law_number_here", "_law_more", "_law_house", "_law_left", "_law_name"] [v0, v1, v2, v3, v4] = [some v0, some v1, some v2, some v3, some v4, none, none, none] := rfl
theorem sc_l_changed : FnScope ["_law_market", "_law_live", "_law_names_here", "_law_number_here", "_law_more", "_law_house", "_law_left", "_law_name"] ["_law_market", "_law_live", "_law_names_here", "_law_number_here", "_law_more"] (defScope s_l_changed) := ⟨rfl, rfl, rfl, by decide +kernel, rfl, by decide +kernel, by decide +kernel⟩
abbrev s_law : Stmt := top 45
abbrev N_law : List Str := ["_law_script", "_law_first", "_law_plain", "_law_wide", "_law_market", "_law_names_here", "_law_live", "_law_things", "_law_k", "_law_cell", "_law_number_here", "_law_spot", "_law_lost", "_law_start"]
theorem st_law (v0 : V) : L2.start ["_law_script", "_law_first", "_law_plain", "_law_wide", "_law_market", "_law_names_here", "_law_live", "_law_things", "_law_k", "_law_cell", "_law_number_here", "_law_spot", "_law_lost", "_law_start"] [v0] = [some v0, none, none, none, none, none, none, none, none, none, none, none, none, none] := rfl
theorem sc_law : FnScope ["_law_script", "_law_first", "_law_plain", "_law_wide", "_law_market", "_law_names_here", "_law_live", "_law_things", "_law_k", "_law_cell", "_law_number_here", "_law_spot", "_law_lost", "_law_start"] ["_law_script"] (defScope s_law) := ⟨rfl, rfl, rfl, by decide +kernel, rfl, by decide +kernel, by decide +kernel⟩
abbrev s_Town_hears_answers : Stmt := (defBody s_Town_hears).getD 0 (.Pass ⟨0, 0, 0, 0⟩)
abbrev N_Town_hears_answers : List Str := ["other", "self"]
abbrev fr_Town_hears_answers : List Str := ["self"]
theorem nsc_Town_hears_answers : NdefX.NScope N_Town_hears_answers ["other"] fr_Town_hears_answers (C8.fnScope s_Town_hears_answers) := NdefX.nscope_by (by decide +kernel)
theorem st_Town_hears_answers (v0 : V) (w0 : Option V) : NdefX.startF ["other", "self"] [v0] [w0] = [some v0, w0] := rfl
theorem ndB_Town_hears_answers : NdefX.ndefB (defScope s_Town_hears) (C8.fnScope s_Town_hears_answers) fr_Town_hears_answers = true := by decide +kernel
abbrev nf_Town_hears_answers (cl : List (Str × Addr)) (c : Addr) : NdefX.NF := NdefX.NF.of s_Town_hears_answers "answers" ((("Town.hears" : Str) ++ ".<locals>.") ++ "answers") cl c
abbrev s_Town_ask_tells : Stmt := (defBody s_Town_ask).getD 0 (.Pass ⟨0, 0, 0, 0⟩)
abbrev N_Town_ask_tells : List Str := ["house", "aim", "asker", "self"]
abbrev fr_Town_ask_tells : List Str := ["self"]
theorem nsc_Town_ask_tells : NdefX.NScope N_Town_ask_tells ["house", "aim", "asker"] fr_Town_ask_tells (C8.fnScope s_Town_ask_tells) := NdefX.nscope_by (by decide +kernel)
theorem st_Town_ask_tells (v0 v1 v2 : V) (w0 : Option V) : NdefX.startF ["house", "aim", "asker", "self"] [v0, v1, v2] [w0] = [some v0, some v1, some v2, w0] := rfl
theorem ndB_Town_ask_tells : NdefX.ndefB (defScope s_Town_ask) (C8.fnScope s_Town_ask_tells) fr_Town_ask_tells = true := by decide +kernel
abbrev nf_Town_ask_tells (cl : List (Str × Addr)) (c : Addr) : NdefX.NF := NdefX.NF.of s_Town_ask_tells "tells" ((("Town.ask" : Str) ++ ".<locals>.") ++ "tells") cl c
abbrev s_Town_way_tells : Stmt := (defBody s_Town_way).getD 0 (.Pass ⟨0, 0, 0, 0⟩)
abbrev N_Town_way_tells : List Str := ["house", "aim", "asker", "self"]
abbrev fr_Town_way_tells : List Str := ["self"]
theorem nsc_Town_way_tells : NdefX.NScope N_Town_way_tells ["house", "aim", "asker"] fr_Town_way_tells (C8.fnScope s_Town_way_tells) := NdefX.nscope_by (by decide +kernel)
theorem st_Town_way_tells (v0 v1 v2 : V) (w0 : Option V) : NdefX.startF ["house", "aim", "asker", "self"] [v0, v1, v2] [w0] = [some v0, some v1, some v2, w0] := rfl
theorem ndB_Town_way_tells : NdefX.ndefB (defScope s_Town_way) (C8.fnScope s_Town_way_tells) fr_Town_way_tells = true := by decide +kernel
abbrev nf_Town_way_tells (cl : List (Str × Addr)) (c : Addr) : NdefX.NF := NdefX.NF.of s_Town_way_tells "tells" ((("Town.way" : Str) ++ ".<locals>.") ++ "tells") cl c
theorem nm_Town_hears_answers : nmAll 206 8 = (("Town.hears" : Str) ++ ".<locals>.") ++ "answers" := by decide +kernel
theorem nm_Town_ask_tells : nmAll 223 8 = (("Town.ask" : Str) ++ ".<locals>.") ++ "tells" := by decide +kernel
theorem nm_Town_way_tells : nmAll 238 8 = (("Town.way" : Str) ++ ".<locals>.") ++ "tells" := by decide +kernel
theorem nm_lam_l_by_nearness : nmAll 358 39 = (("_law_by_nearness" : Str) ++ ".<locals>.") ++ "<lambda>" := by decide +kernel
def tfL : List He.Defn := [("Town", some "hears"), ("Town", some "ask"), ("Town", some "way"), ("_law_by_nearness", none)]
def Tabs0 (K : PySem.W.Frag) (H : Hp) : Prop := ∀ p ∈ tfL.map (He.cT K), H p.2 = some (.tbl #[])
theorem ne_Bucket_room_line : (("room" : Str) == "line") = false := by decide +kernel
theorem eq_Bucket_room : (("room" : Str) == "room") = true := by decide +kernel
theorem ne_Bucket_line_room : (("line" : Str) == "room") = false := by decide +kernel
theorem eq_Bucket_line : (("line" : Str) == "line") = true := by decide +kernel
abbrev f_Bucket (x0 x1 : V) : List (Str × V) := [(("room" : Str), x0), (("line" : Str), x1)]
theorem lk_Bucket_room {x0 x1 : V} : (f_Bucket x0 x1).lookup ("room" : Str) = some x0 := by
  simp only [f_Bucket, List.lookup, ne_Bucket_room_line, eq_Bucket_room]
theorem put_Bucket_room {x0 x1 y : V} : putF "room" y (f_Bucket x0 x1) = f_Bucket y x1 := by
  have e : ∀ a b : Str, (a == b) = false → ¬ a = b := fun a b h z => by rw [z] at h; simp at h
  unfold f_Bucket
  simp only [putF, if_neg (e _ _ ne_Bucket_line_room), if_true]
theorem lk_Bucket_line {x0 x1 : V} : (f_Bucket x0 x1).lookup ("line" : Str) = some x1 := by
  simp only [f_Bucket, List.lookup, ne_Bucket_line_room, eq_Bucket_line]
theorem put_Bucket_line {x0 x1 y : V} : putF "line" y (f_Bucket x0 x1) = f_Bucket x0 y := by
  have e : ∀ a b : Str, (a == b) = false → ¬ a = b := fun a b h z => by rw [z] at h; simp at h
  unfold f_Bucket
  simp only [putF, if_neg (e _ _ ne_Bucket_room_line), if_true]
theorem ini_Bucket_room { y : V} : putF "room" y ([] : List (Str × V)) = [(("room" : Str), y)] := by
  have e : ∀ a b : Str, (a == b) = false → ¬ a = b := fun a b h z => by rw [z] at h; simp at h
  simp only [putF]
theorem ini_Bucket_line {x0 y : V} : putF "line" y ([(("room" : Str), x0)] : List (Str × V)) = [(("room" : Str), x0), (("line" : Str), y)] := by
  have e : ∀ a b : Str, (a == b) = false → ¬ a = b := fun a b h z => by rw [z] at h; simp at h
  simp only [putF, if_neg (e _ _ ne_Bucket_room_line)]
theorem nm_Bucket_names_room : (("names" : Str) == "room") = false := by decide +kernel
theorem nm_Bucket_names_line : (("names" : Str) == "line") = false := by decide +kernel
theorem no_Bucket_names {x0 x1 : V} : (f_Bucket x0 x1).lookup ("names" : Str) = none := by
  simp only [f_Bucket, List.lookup, nm_Bucket_names_room, nm_Bucket_names_line]
theorem nm_Bucket_hears_room : (("hears" : Str) == "room") = false := by decide +kernel
theorem nm_Bucket_hears_line : (("hears" : Str) == "line") = false := by decide +kernel
theorem no_Bucket_hears {x0 x1 : V} : (f_Bucket x0 x1).lookup ("hears" : Str) = none := by
  simp only [f_Bucket, List.lookup, nm_Bucket_hears_room, nm_Bucket_hears_line]
theorem nm_Bucket_drops_room : (("drops" : Str) == "room") = false := by decide +kernel
theorem nm_Bucket_drops_line : (("drops" : Str) == "line") = false := by decide +kernel
theorem no_Bucket_drops {x0 x1 : V} : (f_Bucket x0 x1).lookup ("drops" : Str) = none := by
  simp only [f_Bucket, List.lookup, nm_Bucket_drops_room, nm_Bucket_drops_line]
theorem ne_Table_own_wide : (("own" : Str) == "wide") = false := by decide +kernel
theorem ne_Table_own_room : (("own" : Str) == "room") = false := by decide +kernel
theorem ne_Table_own_buckets : (("own" : Str) == "buckets") = false := by decide +kernel
theorem eq_Table_own : (("own" : Str) == "own") = true := by decide +kernel
theorem ne_Table_wide_own : (("wide" : Str) == "own") = false := by decide +kernel
theorem ne_Table_wide_room : (("wide" : Str) == "room") = false := by decide +kernel
theorem ne_Table_wide_buckets : (("wide" : Str) == "buckets") = false := by decide +kernel
theorem eq_Table_wide : (("wide" : Str) == "wide") = true := by decide +kernel
theorem ne_Table_room_own : (("room" : Str) == "own") = false := by decide +kernel
theorem ne_Table_room_wide : (("room" : Str) == "wide") = false := by decide +kernel
theorem ne_Table_room_buckets : (("room" : Str) == "buckets") = false := by decide +kernel
theorem eq_Table_room : (("room" : Str) == "room") = true := by decide +kernel
theorem ne_Table_buckets_own : (("buckets" : Str) == "own") = false := by decide +kernel
theorem ne_Table_buckets_wide : (("buckets" : Str) == "wide") = false := by decide +kernel
theorem ne_Table_buckets_room : (("buckets" : Str) == "room") = false := by decide +kernel
theorem eq_Table_buckets : (("buckets" : Str) == "buckets") = true := by decide +kernel
abbrev f_Table (x0 x1 x2 x3 : V) : List (Str × V) := [(("own" : Str), x0), (("wide" : Str), x1), (("room" : Str), x2), (("buckets" : Str), x3)]
theorem lk_Table_own {x0 x1 x2 x3 : V} : (f_Table x0 x1 x2 x3).lookup ("own" : Str) = some x0 := by
  simp only [f_Table, List.lookup, ne_Table_own_wide, ne_Table_own_room, ne_Table_own_buckets, eq_Table_own]
theorem put_Table_own {x0 x1 x2 x3 y : V} : putF "own" y (f_Table x0 x1 x2 x3) = f_Table y x1 x2 x3 := by
  have e : ∀ a b : Str, (a == b) = false → ¬ a = b := fun a b h z => by rw [z] at h; simp at h
  unfold f_Table
  simp only [putF, if_neg (e _ _ ne_Table_wide_own), if_neg (e _ _ ne_Table_room_own), if_neg (e _ _ ne_Table_buckets_own), if_true]
theorem lk_Table_wide {x0 x1 x2 x3 : V} : (f_Table x0 x1 x2 x3).lookup ("wide" : Str) = some x1 := by
  simp only [f_Table, List.lookup, ne_Table_wide_own, ne_Table_wide_room, ne_Table_wide_buckets, eq_Table_wide]
theorem put_Table_wide {x0 x1 x2 x3 y : V} : putF "wide" y (f_Table x0 x1 x2 x3) = f_Table x0 y x2 x3 := by
  have e : ∀ a b : Str, (a == b) = false → ¬ a = b := fun a b h z => by rw [z] at h; simp at h
  unfold f_Table
  simp only [putF, if_neg (e _ _ ne_Table_own_wide), if_neg (e _ _ ne_Table_room_wide), if_neg (e _ _ ne_Table_buckets_wide), if_true]
theorem lk_Table_room {x0 x1 x2 x3 : V} : (f_Table x0 x1 x2 x3).lookup ("room" : Str) = some x2 := by
  simp only [f_Table, List.lookup, ne_Table_room_own, ne_Table_room_wide, ne_Table_room_buckets, eq_Table_room]
theorem put_Table_room {x0 x1 x2 x3 y : V} : putF "room" y (f_Table x0 x1 x2 x3) = f_Table x0 x1 y x3 := by
  have e : ∀ a b : Str, (a == b) = false → ¬ a = b := fun a b h z => by rw [z] at h; simp at h
  unfold f_Table
  simp only [putF, if_neg (e _ _ ne_Table_own_room), if_neg (e _ _ ne_Table_wide_room), if_neg (e _ _ ne_Table_buckets_room), if_true]
theorem lk_Table_buckets {x0 x1 x2 x3 : V} : (f_Table x0 x1 x2 x3).lookup ("buckets" : Str) = some x3 := by
  simp only [f_Table, List.lookup, ne_Table_buckets_own, ne_Table_buckets_wide, ne_Table_buckets_room, eq_Table_buckets]
theorem put_Table_buckets {x0 x1 x2 x3 y : V} : putF "buckets" y (f_Table x0 x1 x2 x3) = f_Table x0 x1 x2 y := by
  have e : ∀ a b : Str, (a == b) = false → ¬ a = b := fun a b h z => by rw [z] at h; simp at h
  unfold f_Table
  simp only [putF, if_neg (e _ _ ne_Table_own_buckets), if_neg (e _ _ ne_Table_wide_buckets), if_neg (e _ _ ne_Table_room_buckets), if_true]
theorem ini_Table_own { y : V} : putF "own" y ([] : List (Str × V)) = [(("own" : Str), y)] := by
  have e : ∀ a b : Str, (a == b) = false → ¬ a = b := fun a b h z => by rw [z] at h; simp at h
  simp only [putF]
theorem ini_Table_wide {x0 y : V} : putF "wide" y ([(("own" : Str), x0)] : List (Str × V)) = [(("own" : Str), x0), (("wide" : Str), y)] := by
  have e : ∀ a b : Str, (a == b) = false → ¬ a = b := fun a b h z => by rw [z] at h; simp at h
  simp only [putF, if_neg (e _ _ ne_Table_own_wide)]
theorem ini_Table_room {x0 x1 y : V} : putF "room" y ([(("own" : Str), x0), (("wide" : Str), x1)] : List (Str × V)) = [(("own" : Str), x0), (("wide" : Str), x1), (("room" : Str), y)] := by
  have e : ∀ a b : Str, (a == b) = false → ¬ a = b := fun a b h z => by rw [z] at h; simp at h
  simp only [putF, if_neg (e _ _ ne_Table_own_room), if_neg (e _ _ ne_Table_wide_room)]
theorem ini_Table_buckets {x0 x1 x2 y : V} : putF "buckets" y ([(("own" : Str), x0), (("wide" : Str), x1), (("room" : Str), x2)] : List (Str × V)) = [(("own" : Str), x0), (("wide" : Str), x1), (("room" : Str), x2), (("buckets" : Str), y)] := by
  have e : ∀ a b : Str, (a == b) = false → ¬ a = b := fun a b h z => by rw [z] at h; simp at h
  simp only [putF, if_neg (e _ _ ne_Table_own_buckets), if_neg (e _ _ ne_Table_wide_buckets), if_neg (e _ _ ne_Table_room_buckets)]
theorem nm_Table_bucket_for_own : (("bucket_for" : Str) == "own") = false := by decide +kernel
theorem nm_Table_bucket_for_wide : (("bucket_for" : Str) == "wide") = false := by decide +kernel
theorem nm_Table_bucket_for_room : (("bucket_for" : Str) == "room") = false := by decide +kernel
theorem nm_Table_bucket_for_buckets : (("bucket_for" : Str) == "buckets") = false := by decide +kernel
theorem no_Table_bucket_for {x0 x1 x2 x3 : V} : (f_Table x0 x1 x2 x3).lookup ("bucket_for" : Str) = none := by
  simp only [f_Table, List.lookup, nm_Table_bucket_for_own, nm_Table_bucket_for_wide, nm_Table_bucket_for_room, nm_Table_bucket_for_buckets]
theorem nm_Table_hears_own : (("hears" : Str) == "own") = false := by decide +kernel
theorem nm_Table_hears_wide : (("hears" : Str) == "wide") = false := by decide +kernel
theorem nm_Table_hears_room : (("hears" : Str) == "room") = false := by decide +kernel
theorem nm_Table_hears_buckets : (("hears" : Str) == "buckets") = false := by decide +kernel
theorem no_Table_hears {x0 x1 x2 x3 : V} : (f_Table x0 x1 x2 x3).lookup ("hears" : Str) = none := by
  simp only [f_Table, List.lookup, nm_Table_hears_own, nm_Table_hears_wide, nm_Table_hears_room, nm_Table_hears_buckets]
theorem nm_Table_drops_own : (("drops" : Str) == "own") = false := by decide +kernel
theorem nm_Table_drops_wide : (("drops" : Str) == "wide") = false := by decide +kernel
theorem nm_Table_drops_room : (("drops" : Str) == "room") = false := by decide +kernel
theorem nm_Table_drops_buckets : (("drops" : Str) == "buckets") = false := by decide +kernel
theorem no_Table_drops {x0 x1 x2 x3 : V} : (f_Table x0 x1 x2 x3).lookup ("drops" : Str) = none := by
  simp only [f_Table, List.lookup, nm_Table_drops_own, nm_Table_drops_wide, nm_Table_drops_room, nm_Table_drops_buckets]
theorem nm_Table_bucket_own : (("bucket" : Str) == "own") = false := by decide +kernel
theorem nm_Table_bucket_wide : (("bucket" : Str) == "wide") = false := by decide +kernel
theorem nm_Table_bucket_room : (("bucket" : Str) == "room") = false := by decide +kernel
theorem nm_Table_bucket_buckets : (("bucket" : Str) == "buckets") = false := by decide +kernel
theorem no_Table_bucket {x0 x1 x2 x3 : V} : (f_Table x0 x1 x2 x3).lookup ("bucket" : Str) = none := by
  simp only [f_Table, List.lookup, nm_Table_bucket_own, nm_Table_bucket_wide, nm_Table_bucket_room, nm_Table_bucket_buckets]
theorem nm_Table_keeps_own : (("keeps" : Str) == "own") = false := by decide +kernel
theorem nm_Table_keeps_wide : (("keeps" : Str) == "wide") = false := by decide +kernel
theorem nm_Table_keeps_room : (("keeps" : Str) == "room") = false := by decide +kernel
theorem nm_Table_keeps_buckets : (("keeps" : Str) == "buckets") = false := by decide +kernel
theorem no_Table_keeps {x0 x1 x2 x3 : V} : (f_Table x0 x1 x2 x3).lookup ("keeps" : Str) = none := by
  simp only [f_Table, List.lookup, nm_Table_keeps_own, nm_Table_keeps_wide, nm_Table_keeps_room, nm_Table_keeps_buckets]
theorem nm_Table_nearest_own : (("nearest" : Str) == "own") = false := by decide +kernel
theorem nm_Table_nearest_wide : (("nearest" : Str) == "wide") = false := by decide +kernel
theorem nm_Table_nearest_room : (("nearest" : Str) == "room") = false := by decide +kernel
theorem nm_Table_nearest_buckets : (("nearest" : Str) == "buckets") = false := by decide +kernel
theorem no_Table_nearest {x0 x1 x2 x3 : V} : (f_Table x0 x1 x2 x3).lookup ("nearest" : Str) = none := by
  simp only [f_Table, List.lookup, nm_Table_nearest_own, nm_Table_nearest_wide, nm_Table_nearest_room, nm_Table_nearest_buckets]
theorem ne_Town_wide_room : (("wide" : Str) == "room") = false := by decide +kernel
theorem ne_Town_wide_tables : (("wide" : Str) == "tables") = false := by decide +kernel
theorem ne_Town_wide_hushed : (("wide" : Str) == "hushed") = false := by decide +kernel
theorem ne_Town_wide_shelves : (("wide" : Str) == "shelves") = false := by decide +kernel
theorem ne_Town_wide_layings : (("wide" : Str) == "layings") = false := by decide +kernel
theorem eq_Town_wide : (("wide" : Str) == "wide") = true := by decide +kernel
theorem ne_Town_room_wide : (("room" : Str) == "wide") = false := by decide +kernel
theorem ne_Town_room_tables : (("room" : Str) == "tables") = false := by decide +kernel
theorem ne_Town_room_hushed : (("room" : Str) == "hushed") = false := by decide +kernel
theorem ne_Town_room_shelves : (("room" : Str) == "shelves") = false := by decide +kernel
theorem ne_Town_room_layings : (("room" : Str) == "layings") = false := by decide +kernel
theorem eq_Town_room : (("room" : Str) == "room") = true := by decide +kernel
theorem ne_Town_tables_wide : (("tables" : Str) == "wide") = false := by decide +kernel
theorem ne_Town_tables_room : (("tables" : Str) == "room") = false := by decide +kernel
theorem ne_Town_tables_hushed : (("tables" : Str) == "hushed") = false := by decide +kernel
theorem ne_Town_tables_shelves : (("tables" : Str) == "shelves") = false := by decide +kernel
theorem ne_Town_tables_layings : (("tables" : Str) == "layings") = false := by decide +kernel
theorem eq_Town_tables : (("tables" : Str) == "tables") = true := by decide +kernel
theorem ne_Town_hushed_wide : (("hushed" : Str) == "wide") = false := by decide +kernel
theorem ne_Town_hushed_room : (("hushed" : Str) == "room") = false := by decide +kernel
theorem ne_Town_hushed_tables : (("hushed" : Str) == "tables") = false := by decide +kernel
theorem ne_Town_hushed_shelves : (("hushed" : Str) == "shelves") = false := by decide +kernel
theorem ne_Town_hushed_layings : (("hushed" : Str) == "layings") = false := by decide +kernel
theorem eq_Town_hushed : (("hushed" : Str) == "hushed") = true := by decide +kernel
theorem ne_Town_shelves_wide : (("shelves" : Str) == "wide") = false := by decide +kernel
theorem ne_Town_shelves_room : (("shelves" : Str) == "room") = false := by decide +kernel
theorem ne_Town_shelves_tables : (("shelves" : Str) == "tables") = false := by decide +kernel
theorem ne_Town_shelves_hushed : (("shelves" : Str) == "hushed") = false := by decide +kernel
theorem ne_Town_shelves_layings : (("shelves" : Str) == "layings") = false := by decide +kernel
theorem eq_Town_shelves : (("shelves" : Str) == "shelves") = true := by decide +kernel
theorem ne_Town_layings_wide : (("layings" : Str) == "wide") = false := by decide +kernel
theorem ne_Town_layings_room : (("layings" : Str) == "room") = false := by decide +kernel
theorem ne_Town_layings_tables : (("layings" : Str) == "tables") = false := by decide +kernel
theorem ne_Town_layings_hushed : (("layings" : Str) == "hushed") = false := by decide +kernel
theorem ne_Town_layings_shelves : (("layings" : Str) == "shelves") = false := by decide +kernel
theorem eq_Town_layings : (("layings" : Str) == "layings") = true := by decide +kernel
abbrev f_Town (x0 x1 x2 x3 x4 x5 : V) : List (Str × V) := [(("wide" : Str), x0), (("room" : Str), x1), (("tables" : Str), x2), (("hushed" : Str), x3), (("shelves" : Str), x4), (("layings" : Str), x5)]
theorem lk_Town_wide {x0 x1 x2 x3 x4 x5 : V} : (f_Town x0 x1 x2 x3 x4 x5).lookup ("wide" : Str) = some x0 := by
  simp only [f_Town, List.lookup, ne_Town_wide_room, ne_Town_wide_tables, ne_Town_wide_hushed, ne_Town_wide_shelves, ne_Town_wide_layings, eq_Town_wide]
theorem put_Town_wide {x0 x1 x2 x3 x4 x5 y : V} : putF "wide" y (f_Town x0 x1 x2 x3 x4 x5) = f_Town y x1 x2 x3 x4 x5 := by
  have e : ∀ a b : Str, (a == b) = false → ¬ a = b := fun a b h z => by rw [z] at h; simp at h
  unfold f_Town
  simp only [putF, if_neg (e _ _ ne_Town_room_wide), if_neg (e _ _ ne_Town_tables_wide), if_neg (e _ _ ne_Town_hushed_wide), if_neg (e _ _ ne_Town_shelves_wide), if_neg (e _ _ ne_Town_layings_wide), if_true]
theorem lk_Town_room {x0 x1 x2 x3 x4 x5 : V} : (f_Town x0 x1 x2 x3 x4 x5).lookup ("room" : Str) = some x1 := by
  simp only [f_Town, List.lookup, ne_Town_room_wide, ne_Town_room_tables, ne_Town_room_hushed, ne_Town_room_shelves, ne_Town_room_layings, eq_Town_room]
theorem put_Town_room {x0 x1 x2 x3 x4 x5 y : V} : putF "room" y (f_Town x0 x1 x2 x3 x4 x5) = f_Town x0 y x2 x3 x4 x5 := by
  have e : ∀ a b : Str, (a == b) = false → ¬ a = b := fun a b h z => by rw [z] at h; simp at h
  unfold f_Town
  simp only [putF, if_neg (e _ _ ne_Town_wide_room), if_neg (e _ _ ne_Town_tables_room), if_neg (e _ _ ne_Town_hushed_room), if_neg (e _ _ ne_Town_shelves_room), if_neg (e _ _ ne_Town_layings_room), if_true]
theorem lk_Town_tables {x0 x1 x2 x3 x4 x5 : V} : (f_Town x0 x1 x2 x3 x4 x5).lookup ("tables" : Str) = some x2 := by
  simp only [f_Town, List.lookup, ne_Town_tables_wide, ne_Town_tables_room, ne_Town_tables_hushed, ne_Town_tables_shelves, ne_Town_tables_layings, eq_Town_tables]
theorem put_Town_tables {x0 x1 x2 x3 x4 x5 y : V} : putF "tables" y (f_Town x0 x1 x2 x3 x4 x5) = f_Town x0 x1 y x3 x4 x5 := by
  have e : ∀ a b : Str, (a == b) = false → ¬ a = b := fun a b h z => by rw [z] at h; simp at h
  unfold f_Town
  simp only [putF, if_neg (e _ _ ne_Town_wide_tables), if_neg (e _ _ ne_Town_room_tables), if_neg (e _ _ ne_Town_hushed_tables), if_neg (e _ _ ne_Town_shelves_tables), if_neg (e _ _ ne_Town_layings_tables), if_true]
theorem lk_Town_hushed {x0 x1 x2 x3 x4 x5 : V} : (f_Town x0 x1 x2 x3 x4 x5).lookup ("hushed" : Str) = some x3 := by
  simp only [f_Town, List.lookup, ne_Town_hushed_wide, ne_Town_hushed_room, ne_Town_hushed_tables, ne_Town_hushed_shelves, ne_Town_hushed_layings, eq_Town_hushed]
theorem put_Town_hushed {x0 x1 x2 x3 x4 x5 y : V} : putF "hushed" y (f_Town x0 x1 x2 x3 x4 x5) = f_Town x0 x1 x2 y x4 x5 := by
  have e : ∀ a b : Str, (a == b) = false → ¬ a = b := fun a b h z => by rw [z] at h; simp at h
  unfold f_Town
  simp only [putF, if_neg (e _ _ ne_Town_wide_hushed), if_neg (e _ _ ne_Town_room_hushed), if_neg (e _ _ ne_Town_tables_hushed), if_neg (e _ _ ne_Town_shelves_hushed), if_neg (e _ _ ne_Town_layings_hushed), if_true]
theorem lk_Town_shelves {x0 x1 x2 x3 x4 x5 : V} : (f_Town x0 x1 x2 x3 x4 x5).lookup ("shelves" : Str) = some x4 := by
  simp only [f_Town, List.lookup, ne_Town_shelves_wide, ne_Town_shelves_room, ne_Town_shelves_tables, ne_Town_shelves_hushed, ne_Town_shelves_layings, eq_Town_shelves]
theorem put_Town_shelves {x0 x1 x2 x3 x4 x5 y : V} : putF "shelves" y (f_Town x0 x1 x2 x3 x4 x5) = f_Town x0 x1 x2 x3 y x5 := by
  have e : ∀ a b : Str, (a == b) = false → ¬ a = b := fun a b h z => by rw [z] at h; simp at h
  unfold f_Town
  simp only [putF, if_neg (e _ _ ne_Town_wide_shelves), if_neg (e _ _ ne_Town_room_shelves), if_neg (e _ _ ne_Town_tables_shelves), if_neg (e _ _ ne_Town_hushed_shelves), if_neg (e _ _ ne_Town_layings_shelves), if_true]
theorem lk_Town_layings {x0 x1 x2 x3 x4 x5 : V} : (f_Town x0 x1 x2 x3 x4 x5).lookup ("layings" : Str) = some x5 := by
  simp only [f_Town, List.lookup, ne_Town_layings_wide, ne_Town_layings_room, ne_Town_layings_tables, ne_Town_layings_hushed, ne_Town_layings_shelves, eq_Town_layings]
theorem put_Town_layings {x0 x1 x2 x3 x4 x5 y : V} : putF "layings" y (f_Town x0 x1 x2 x3 x4 x5) = f_Town x0 x1 x2 x3 x4 y := by
  have e : ∀ a b : Str, (a == b) = false → ¬ a = b := fun a b h z => by rw [z] at h; simp at h
  unfold f_Town
  simp only [putF, if_neg (e _ _ ne_Town_wide_layings), if_neg (e _ _ ne_Town_room_layings), if_neg (e _ _ ne_Town_tables_layings), if_neg (e _ _ ne_Town_hushed_layings), if_neg (e _ _ ne_Town_shelves_layings), if_true]
theorem ini_Town_wide { y : V} : putF "wide" y ([] : List (Str × V)) = [(("wide" : Str), y)] := by
  have e : ∀ a b : Str, (a == b) = false → ¬ a = b := fun a b h z => by rw [z] at h; simp at h
  simp only [putF]
theorem ini_Town_room {x0 y : V} : putF "room" y ([(("wide" : Str), x0)] : List (Str × V)) = [(("wide" : Str), x0), (("room" : Str), y)] := by
  have e : ∀ a b : Str, (a == b) = false → ¬ a = b := fun a b h z => by rw [z] at h; simp at h
  simp only [putF, if_neg (e _ _ ne_Town_wide_room)]
theorem ini_Town_tables {x0 x1 y : V} : putF "tables" y ([(("wide" : Str), x0), (("room" : Str), x1)] : List (Str × V)) = [(("wide" : Str), x0), (("room" : Str), x1), (("tables" : Str), y)] := by
  have e : ∀ a b : Str, (a == b) = false → ¬ a = b := fun a b h z => by rw [z] at h; simp at h
  simp only [putF, if_neg (e _ _ ne_Town_wide_tables), if_neg (e _ _ ne_Town_room_tables)]
theorem ini_Town_hushed {x0 x1 x2 y : V} : putF "hushed" y ([(("wide" : Str), x0), (("room" : Str), x1), (("tables" : Str), x2)] : List (Str × V)) = [(("wide" : Str), x0), (("room" : Str), x1), (("tables" : Str), x2), (("hushed" : Str), y)] := by
  have e : ∀ a b : Str, (a == b) = false → ¬ a = b := fun a b h z => by rw [z] at h; simp at h
  simp only [putF, if_neg (e _ _ ne_Town_wide_hushed), if_neg (e _ _ ne_Town_room_hushed), if_neg (e _ _ ne_Town_tables_hushed)]
theorem ini_Town_shelves {x0 x1 x2 x3 y : V} : putF "shelves" y ([(("wide" : Str), x0), (("room" : Str), x1), (("tables" : Str), x2), (("hushed" : Str), x3)] : List (Str × V)) = [(("wide" : Str), x0), (("room" : Str), x1), (("tables" : Str), x2), (("hushed" : Str), x3), (("shelves" : Str), y)] := by
  have e : ∀ a b : Str, (a == b) = false → ¬ a = b := fun a b h z => by rw [z] at h; simp at h
  simp only [putF, if_neg (e _ _ ne_Town_wide_shelves), if_neg (e _ _ ne_Town_room_shelves), if_neg (e _ _ ne_Town_tables_shelves), if_neg (e _ _ ne_Town_hushed_shelves)]
theorem ini_Town_layings {x0 x1 x2 x3 x4 y : V} : putF "layings" y ([(("wide" : Str), x0), (("room" : Str), x1), (("tables" : Str), x2), (("hushed" : Str), x3), (("shelves" : Str), x4)] : List (Str × V)) = [(("wide" : Str), x0), (("room" : Str), x1), (("tables" : Str), x2), (("hushed" : Str), x3), (("shelves" : Str), x4), (("layings" : Str), y)] := by
  have e : ∀ a b : Str, (a == b) = false → ¬ a = b := fun a b h z => by rw [z] at h; simp at h
  simp only [putF, if_neg (e _ _ ne_Town_wide_layings), if_neg (e _ _ ne_Town_room_layings), if_neg (e _ _ ne_Town_tables_layings), if_neg (e _ _ ne_Town_hushed_layings), if_neg (e _ _ ne_Town_shelves_layings)]
theorem nm_Town_houses_wide : (("houses" : Str) == "wide") = false := by decide +kernel
theorem nm_Town_houses_room : (("houses" : Str) == "room") = false := by decide +kernel
theorem nm_Town_houses_tables : (("houses" : Str) == "tables") = false := by decide +kernel
theorem nm_Town_houses_hushed : (("houses" : Str) == "hushed") = false := by decide +kernel
theorem nm_Town_houses_shelves : (("houses" : Str) == "shelves") = false := by decide +kernel
theorem nm_Town_houses_layings : (("houses" : Str) == "layings") = false := by decide +kernel
theorem no_Town_houses {x0 x1 x2 x3 x4 x5 : V} : (f_Town x0 x1 x2 x3 x4 x5).lookup ("houses" : Str) = none := by
  simp only [f_Town, List.lookup, nm_Town_houses_wide, nm_Town_houses_room, nm_Town_houses_tables, nm_Town_houses_hushed, nm_Town_houses_shelves, nm_Town_houses_layings]
theorem nm_Town_answers_wide : (("answers" : Str) == "wide") = false := by decide +kernel
theorem nm_Town_answers_room : (("answers" : Str) == "room") = false := by decide +kernel
theorem nm_Town_answers_tables : (("answers" : Str) == "tables") = false := by decide +kernel
theorem nm_Town_answers_hushed : (("answers" : Str) == "hushed") = false := by decide +kernel
theorem nm_Town_answers_shelves : (("answers" : Str) == "shelves") = false := by decide +kernel
theorem nm_Town_answers_layings : (("answers" : Str) == "layings") = false := by decide +kernel
theorem no_Town_answers {x0 x1 x2 x3 x4 x5 : V} : (f_Town x0 x1 x2 x3 x4 x5).lookup ("answers" : Str) = none := by
  simp only [f_Town, List.lookup, nm_Town_answers_wide, nm_Town_answers_room, nm_Town_answers_tables, nm_Town_answers_hushed, nm_Town_answers_shelves, nm_Town_answers_layings]
theorem nm_Town_answering_wide : (("answering" : Str) == "wide") = false := by decide +kernel
theorem nm_Town_answering_room : (("answering" : Str) == "room") = false := by decide +kernel
theorem nm_Town_answering_tables : (("answering" : Str) == "tables") = false := by decide +kernel
theorem nm_Town_answering_hushed : (("answering" : Str) == "hushed") = false := by decide +kernel
theorem nm_Town_answering_shelves : (("answering" : Str) == "shelves") = false := by decide +kernel
theorem nm_Town_answering_layings : (("answering" : Str) == "layings") = false := by decide +kernel
theorem no_Town_answering {x0 x1 x2 x3 x4 x5 : V} : (f_Town x0 x1 x2 x3 x4 x5).lookup ("answering" : Str) = none := by
  simp only [f_Town, List.lookup, nm_Town_answering_wide, nm_Town_answering_room, nm_Town_answering_tables, nm_Town_answering_hushed, nm_Town_answering_shelves, nm_Town_answering_layings]
theorem nm_Town_table_wide : (("table" : Str) == "wide") = false := by decide +kernel
theorem nm_Town_table_room : (("table" : Str) == "room") = false := by decide +kernel
theorem nm_Town_table_tables : (("table" : Str) == "tables") = false := by decide +kernel
theorem nm_Town_table_hushed : (("table" : Str) == "hushed") = false := by decide +kernel
theorem nm_Town_table_shelves : (("table" : Str) == "shelves") = false := by decide +kernel
theorem nm_Town_table_layings : (("table" : Str) == "layings") = false := by decide +kernel
theorem no_Town_table {x0 x1 x2 x3 x4 x5 : V} : (f_Town x0 x1 x2 x3 x4 x5).lookup ("table" : Str) = none := by
  simp only [f_Town, List.lookup, nm_Town_table_wide, nm_Town_table_room, nm_Town_table_tables, nm_Town_table_hushed, nm_Town_table_shelves, nm_Town_table_layings]
theorem nm_Town_look_awake_wide : (("look_awake" : Str) == "wide") = false := by decide +kernel
theorem nm_Town_look_awake_room : (("look_awake" : Str) == "room") = false := by decide +kernel
theorem nm_Town_look_awake_tables : (("look_awake" : Str) == "tables") = false := by decide +kernel
theorem nm_Town_look_awake_hushed : (("look_awake" : Str) == "hushed") = false := by decide +kernel
theorem nm_Town_look_awake_shelves : (("look_awake" : Str) == "shelves") = false := by decide +kernel
theorem nm_Town_look_awake_layings : (("look_awake" : Str) == "layings") = false := by decide +kernel
theorem no_Town_look_awake {x0 x1 x2 x3 x4 x5 : V} : (f_Town x0 x1 x2 x3 x4 x5).lookup ("look_awake" : Str) = none := by
  simp only [f_Town, List.lookup, nm_Town_look_awake_wide, nm_Town_look_awake_room, nm_Town_look_awake_tables, nm_Town_look_awake_hushed, nm_Town_look_awake_shelves, nm_Town_look_awake_layings]
theorem nm_Town_look_named_wide : (("look_named" : Str) == "wide") = false := by decide +kernel
theorem nm_Town_look_named_room : (("look_named" : Str) == "room") = false := by decide +kernel
theorem nm_Town_look_named_tables : (("look_named" : Str) == "tables") = false := by decide +kernel
theorem nm_Town_look_named_hushed : (("look_named" : Str) == "hushed") = false := by decide +kernel
theorem nm_Town_look_named_shelves : (("look_named" : Str) == "shelves") = false := by decide +kernel
theorem nm_Town_look_named_layings : (("look_named" : Str) == "layings") = false := by decide +kernel
theorem no_Town_look_named {x0 x1 x2 x3 x4 x5 : V} : (f_Town x0 x1 x2 x3 x4 x5).lookup ("look_named" : Str) = none := by
  simp only [f_Town, List.lookup, nm_Town_look_named_wide, nm_Town_look_named_room, nm_Town_look_named_tables, nm_Town_look_named_hushed, nm_Town_look_named_shelves, nm_Town_look_named_layings]
theorem nm_Town_bucket_wide : (("bucket" : Str) == "wide") = false := by decide +kernel
theorem nm_Town_bucket_room : (("bucket" : Str) == "room") = false := by decide +kernel
theorem nm_Town_bucket_tables : (("bucket" : Str) == "tables") = false := by decide +kernel
theorem nm_Town_bucket_hushed : (("bucket" : Str) == "hushed") = false := by decide +kernel
theorem nm_Town_bucket_shelves : (("bucket" : Str) == "shelves") = false := by decide +kernel
theorem nm_Town_bucket_layings : (("bucket" : Str) == "layings") = false := by decide +kernel
theorem no_Town_bucket {x0 x1 x2 x3 x4 x5 : V} : (f_Town x0 x1 x2 x3 x4 x5).lookup ("bucket" : Str) = none := by
  simp only [f_Town, List.lookup, nm_Town_bucket_wide, nm_Town_bucket_room, nm_Town_bucket_tables, nm_Town_bucket_hushed, nm_Town_bucket_shelves, nm_Town_bucket_layings]
theorem nm_Town_keeps_wide : (("keeps" : Str) == "wide") = false := by decide +kernel
theorem nm_Town_keeps_room : (("keeps" : Str) == "room") = false := by decide +kernel
theorem nm_Town_keeps_tables : (("keeps" : Str) == "tables") = false := by decide +kernel
theorem nm_Town_keeps_hushed : (("keeps" : Str) == "hushed") = false := by decide +kernel
theorem nm_Town_keeps_shelves : (("keeps" : Str) == "shelves") = false := by decide +kernel
theorem nm_Town_keeps_layings : (("keeps" : Str) == "layings") = false := by decide +kernel
theorem no_Town_keeps {x0 x1 x2 x3 x4 x5 : V} : (f_Town x0 x1 x2 x3 x4 x5).lookup ("keeps" : Str) = none := by
  simp only [f_Town, List.lookup, nm_Town_keeps_wide, nm_Town_keeps_room, nm_Town_keeps_tables, nm_Town_keeps_hushed, nm_Town_keeps_shelves, nm_Town_keeps_layings]
theorem nm_Town_tells_wide : (("tells" : Str) == "wide") = false := by decide +kernel
theorem nm_Town_tells_room : (("tells" : Str) == "room") = false := by decide +kernel
theorem nm_Town_tells_tables : (("tells" : Str) == "tables") = false := by decide +kernel
theorem nm_Town_tells_hushed : (("tells" : Str) == "hushed") = false := by decide +kernel
theorem nm_Town_tells_shelves : (("tells" : Str) == "shelves") = false := by decide +kernel
theorem nm_Town_tells_layings : (("tells" : Str) == "layings") = false := by decide +kernel
theorem no_Town_tells {x0 x1 x2 x3 x4 x5 : V} : (f_Town x0 x1 x2 x3 x4 x5).lookup ("tells" : Str) = none := by
  simp only [f_Town, List.lookup, nm_Town_tells_wide, nm_Town_tells_room, nm_Town_tells_tables, nm_Town_tells_hushed, nm_Town_tells_shelves, nm_Town_tells_layings]
theorem nm_Town_hears_wide : (("hears" : Str) == "wide") = false := by decide +kernel
theorem nm_Town_hears_room : (("hears" : Str) == "room") = false := by decide +kernel
theorem nm_Town_hears_tables : (("hears" : Str) == "tables") = false := by decide +kernel
theorem nm_Town_hears_hushed : (("hears" : Str) == "hushed") = false := by decide +kernel
theorem nm_Town_hears_shelves : (("hears" : Str) == "shelves") = false := by decide +kernel
theorem nm_Town_hears_layings : (("hears" : Str) == "layings") = false := by decide +kernel
theorem no_Town_hears {x0 x1 x2 x3 x4 x5 : V} : (f_Town x0 x1 x2 x3 x4 x5).lookup ("hears" : Str) = none := by
  simp only [f_Town, List.lookup, nm_Town_hears_wide, nm_Town_hears_room, nm_Town_hears_tables, nm_Town_hears_hushed, nm_Town_hears_shelves, nm_Town_hears_layings]
theorem nm_Town_come_to_wide : (("come_to" : Str) == "wide") = false := by decide +kernel
theorem nm_Town_come_to_room : (("come_to" : Str) == "room") = false := by decide +kernel
theorem nm_Town_come_to_tables : (("come_to" : Str) == "tables") = false := by decide +kernel
theorem nm_Town_come_to_hushed : (("come_to" : Str) == "hushed") = false := by decide +kernel
theorem nm_Town_come_to_shelves : (("come_to" : Str) == "shelves") = false := by decide +kernel
theorem nm_Town_come_to_layings : (("come_to" : Str) == "layings") = false := by decide +kernel
theorem no_Town_come_to {x0 x1 x2 x3 x4 x5 : V} : (f_Town x0 x1 x2 x3 x4 x5).lookup ("come_to" : Str) = none := by
  simp only [f_Town, List.lookup, nm_Town_come_to_wide, nm_Town_come_to_room, nm_Town_come_to_tables, nm_Town_come_to_hushed, nm_Town_come_to_shelves, nm_Town_come_to_layings]
theorem nm_Town_ask_wide : (("ask" : Str) == "wide") = false := by decide +kernel
theorem nm_Town_ask_room : (("ask" : Str) == "room") = false := by decide +kernel
theorem nm_Town_ask_tables : (("ask" : Str) == "tables") = false := by decide +kernel
theorem nm_Town_ask_hushed : (("ask" : Str) == "hushed") = false := by decide +kernel
theorem nm_Town_ask_shelves : (("ask" : Str) == "shelves") = false := by decide +kernel
theorem nm_Town_ask_layings : (("ask" : Str) == "layings") = false := by decide +kernel
theorem no_Town_ask {x0 x1 x2 x3 x4 x5 : V} : (f_Town x0 x1 x2 x3 x4 x5).lookup ("ask" : Str) = none := by
  simp only [f_Town, List.lookup, nm_Town_ask_wide, nm_Town_ask_room, nm_Town_ask_tables, nm_Town_ask_hushed, nm_Town_ask_shelves, nm_Town_ask_layings]
theorem nm_Town_way_wide : (("way" : Str) == "wide") = false := by decide +kernel
theorem nm_Town_way_room : (("way" : Str) == "room") = false := by decide +kernel
theorem nm_Town_way_tables : (("way" : Str) == "tables") = false := by decide +kernel
theorem nm_Town_way_hushed : (("way" : Str) == "hushed") = false := by decide +kernel
theorem nm_Town_way_shelves : (("way" : Str) == "shelves") = false := by decide +kernel
theorem nm_Town_way_layings : (("way" : Str) == "layings") = false := by decide +kernel
theorem no_Town_way {x0 x1 x2 x3 x4 x5 : V} : (f_Town x0 x1 x2 x3 x4 x5).lookup ("way" : Str) = none := by
  simp only [f_Town, List.lookup, nm_Town_way_wide, nm_Town_way_room, nm_Town_way_tables, nm_Town_way_hushed, nm_Town_way_shelves, nm_Town_way_layings]
theorem nm_Town_visit_wide : (("visit" : Str) == "wide") = false := by decide +kernel
theorem nm_Town_visit_room : (("visit" : Str) == "room") = false := by decide +kernel
theorem nm_Town_visit_tables : (("visit" : Str) == "tables") = false := by decide +kernel
theorem nm_Town_visit_hushed : (("visit" : Str) == "hushed") = false := by decide +kernel
theorem nm_Town_visit_shelves : (("visit" : Str) == "shelves") = false := by decide +kernel
theorem nm_Town_visit_layings : (("visit" : Str) == "layings") = false := by decide +kernel
theorem no_Town_visit {x0 x1 x2 x3 x4 x5 : V} : (f_Town x0 x1 x2 x3 x4 x5).lookup ("visit" : Str) = none := by
  simp only [f_Town, List.lookup, nm_Town_visit_wide, nm_Town_visit_room, nm_Town_visit_tables, nm_Town_visit_hushed, nm_Town_visit_shelves, nm_Town_visit_layings]
theorem nm_Town_come_wide : (("come" : Str) == "wide") = false := by decide +kernel
theorem nm_Town_come_room : (("come" : Str) == "room") = false := by decide +kernel
theorem nm_Town_come_tables : (("come" : Str) == "tables") = false := by decide +kernel
theorem nm_Town_come_hushed : (("come" : Str) == "hushed") = false := by decide +kernel
theorem nm_Town_come_shelves : (("come" : Str) == "shelves") = false := by decide +kernel
theorem nm_Town_come_layings : (("come" : Str) == "layings") = false := by decide +kernel
theorem no_Town_come {x0 x1 x2 x3 x4 x5 : V} : (f_Town x0 x1 x2 x3 x4 x5).lookup ("come" : Str) = none := by
  simp only [f_Town, List.lookup, nm_Town_come_wide, nm_Town_come_room, nm_Town_come_tables, nm_Town_come_hushed, nm_Town_come_shelves, nm_Town_come_layings]
theorem nm_Town_go_wide : (("go" : Str) == "wide") = false := by decide +kernel
theorem nm_Town_go_room : (("go" : Str) == "room") = false := by decide +kernel
theorem nm_Town_go_tables : (("go" : Str) == "tables") = false := by decide +kernel
theorem nm_Town_go_hushed : (("go" : Str) == "hushed") = false := by decide +kernel
theorem nm_Town_go_shelves : (("go" : Str) == "shelves") = false := by decide +kernel
theorem nm_Town_go_layings : (("go" : Str) == "layings") = false := by decide +kernel
theorem no_Town_go {x0 x1 x2 x3 x4 x5 : V} : (f_Town x0 x1 x2 x3 x4 x5).lookup ("go" : Str) = none := by
  simp only [f_Town, List.lookup, nm_Town_go_wide, nm_Town_go_room, nm_Town_go_tables, nm_Town_go_hushed, nm_Town_go_shelves, nm_Town_go_layings]
theorem nm_Town_hush_wide : (("hush" : Str) == "wide") = false := by decide +kernel
theorem nm_Town_hush_room : (("hush" : Str) == "room") = false := by decide +kernel
theorem nm_Town_hush_tables : (("hush" : Str) == "tables") = false := by decide +kernel
theorem nm_Town_hush_hushed : (("hush" : Str) == "hushed") = false := by decide +kernel
theorem nm_Town_hush_shelves : (("hush" : Str) == "shelves") = false := by decide +kernel
theorem nm_Town_hush_layings : (("hush" : Str) == "layings") = false := by decide +kernel
theorem no_Town_hush {x0 x1 x2 x3 x4 x5 : V} : (f_Town x0 x1 x2 x3 x4 x5).lookup ("hush" : Str) = none := by
  simp only [f_Town, List.lookup, nm_Town_hush_wide, nm_Town_hush_room, nm_Town_hush_tables, nm_Town_hush_hushed, nm_Town_hush_shelves, nm_Town_hush_layings]
theorem nm_Town_wake_wide : (("wake" : Str) == "wide") = false := by decide +kernel
theorem nm_Town_wake_room : (("wake" : Str) == "room") = false := by decide +kernel
theorem nm_Town_wake_tables : (("wake" : Str) == "tables") = false := by decide +kernel
theorem nm_Town_wake_hushed : (("wake" : Str) == "hushed") = false := by decide +kernel
theorem nm_Town_wake_shelves : (("wake" : Str) == "shelves") = false := by decide +kernel
theorem nm_Town_wake_layings : (("wake" : Str) == "layings") = false := by decide +kernel
theorem no_Town_wake {x0 x1 x2 x3 x4 x5 : V} : (f_Town x0 x1 x2 x3 x4 x5).lookup ("wake" : Str) = none := by
  simp only [f_Town, List.lookup, nm_Town_wake_wide, nm_Town_wake_room, nm_Town_wake_tables, nm_Town_wake_hushed, nm_Town_wake_shelves, nm_Town_wake_layings]
theorem nm_Town_keys_of_wide : (("keys_of" : Str) == "wide") = false := by decide +kernel
theorem nm_Town_keys_of_room : (("keys_of" : Str) == "room") = false := by decide +kernel
theorem nm_Town_keys_of_tables : (("keys_of" : Str) == "tables") = false := by decide +kernel
theorem nm_Town_keys_of_hushed : (("keys_of" : Str) == "hushed") = false := by decide +kernel
theorem nm_Town_keys_of_shelves : (("keys_of" : Str) == "shelves") = false := by decide +kernel
theorem nm_Town_keys_of_layings : (("keys_of" : Str) == "layings") = false := by decide +kernel
theorem no_Town_keys_of {x0 x1 x2 x3 x4 x5 : V} : (f_Town x0 x1 x2 x3 x4 x5).lookup ("keys_of" : Str) = none := by
  simp only [f_Town, List.lookup, nm_Town_keys_of_wide, nm_Town_keys_of_room, nm_Town_keys_of_tables, nm_Town_keys_of_hushed, nm_Town_keys_of_shelves, nm_Town_keys_of_layings]
theorem nm_Town_newest_wide : (("newest" : Str) == "wide") = false := by decide +kernel
theorem nm_Town_newest_room : (("newest" : Str) == "room") = false := by decide +kernel
theorem nm_Town_newest_tables : (("newest" : Str) == "tables") = false := by decide +kernel
theorem nm_Town_newest_hushed : (("newest" : Str) == "hushed") = false := by decide +kernel
theorem nm_Town_newest_shelves : (("newest" : Str) == "shelves") = false := by decide +kernel
theorem nm_Town_newest_layings : (("newest" : Str) == "layings") = false := by decide +kernel
theorem no_Town_newest {x0 x1 x2 x3 x4 x5 : V} : (f_Town x0 x1 x2 x3 x4 x5).lookup ("newest" : Str) = none := by
  simp only [f_Town, List.lookup, nm_Town_newest_wide, nm_Town_newest_room, nm_Town_newest_tables, nm_Town_newest_hushed, nm_Town_newest_shelves, nm_Town_newest_layings]
theorem nm_Town_takes_wide : (("takes" : Str) == "wide") = false := by decide +kernel
theorem nm_Town_takes_room : (("takes" : Str) == "room") = false := by decide +kernel
theorem nm_Town_takes_tables : (("takes" : Str) == "tables") = false := by decide +kernel
theorem nm_Town_takes_hushed : (("takes" : Str) == "hushed") = false := by decide +kernel
theorem nm_Town_takes_shelves : (("takes" : Str) == "shelves") = false := by decide +kernel
theorem nm_Town_takes_layings : (("takes" : Str) == "layings") = false := by decide +kernel
theorem no_Town_takes {x0 x1 x2 x3 x4 x5 : V} : (f_Town x0 x1 x2 x3 x4 x5).lookup ("takes" : Str) = none := by
  simp only [f_Town, List.lookup, nm_Town_takes_wide, nm_Town_takes_room, nm_Town_takes_tables, nm_Town_takes_hushed, nm_Town_takes_shelves, nm_Town_takes_layings]
theorem nm_Town_put_wide : (("put" : Str) == "wide") = false := by decide +kernel
theorem nm_Town_put_room : (("put" : Str) == "room") = false := by decide +kernel
theorem nm_Town_put_tables : (("put" : Str) == "tables") = false := by decide +kernel
theorem nm_Town_put_hushed : (("put" : Str) == "hushed") = false := by decide +kernel
theorem nm_Town_put_shelves : (("put" : Str) == "shelves") = false := by decide +kernel
theorem nm_Town_put_layings : (("put" : Str) == "layings") = false := by decide +kernel
theorem no_Town_put {x0 x1 x2 x3 x4 x5 : V} : (f_Town x0 x1 x2 x3 x4 x5).lookup ("put" : Str) = none := by
  simp only [f_Town, List.lookup, nm_Town_put_wide, nm_Town_put_room, nm_Town_put_tables, nm_Town_put_hushed, nm_Town_put_shelves, nm_Town_put_layings]
theorem nm_Town_lay_wide : (("lay" : Str) == "wide") = false := by decide +kernel
theorem nm_Town_lay_room : (("lay" : Str) == "room") = false := by decide +kernel
theorem nm_Town_lay_tables : (("lay" : Str) == "tables") = false := by decide +kernel
theorem nm_Town_lay_hushed : (("lay" : Str) == "hushed") = false := by decide +kernel
theorem nm_Town_lay_shelves : (("lay" : Str) == "shelves") = false := by decide +kernel
theorem nm_Town_lay_layings : (("lay" : Str) == "layings") = false := by decide +kernel
theorem no_Town_lay {x0 x1 x2 x3 x4 x5 : V} : (f_Town x0 x1 x2 x3 x4 x5).lookup ("lay" : Str) = none := by
  simp only [f_Town, List.lookup, nm_Town_lay_wide, nm_Town_lay_room, nm_Town_lay_tables, nm_Town_lay_hushed, nm_Town_lay_shelves, nm_Town_lay_layings]
theorem nm_Town_seek_wide : (("seek" : Str) == "wide") = false := by decide +kernel
theorem nm_Town_seek_room : (("seek" : Str) == "room") = false := by decide +kernel
theorem nm_Town_seek_tables : (("seek" : Str) == "tables") = false := by decide +kernel
theorem nm_Town_seek_hushed : (("seek" : Str) == "hushed") = false := by decide +kernel
theorem nm_Town_seek_shelves : (("seek" : Str) == "shelves") = false := by decide +kernel
theorem nm_Town_seek_layings : (("seek" : Str) == "layings") = false := by decide +kernel
theorem no_Town_seek {x0 x1 x2 x3 x4 x5 : V} : (f_Town x0 x1 x2 x3 x4 x5).lookup ("seek" : Str) = none := by
  simp only [f_Town, List.lookup, nm_Town_seek_wide, nm_Town_seek_room, nm_Town_seek_tables, nm_Town_seek_hushed, nm_Town_seek_shelves, nm_Town_seek_layings]
theorem nm_Town_kept_wide : (("kept" : Str) == "wide") = false := by decide +kernel
theorem nm_Town_kept_room : (("kept" : Str) == "room") = false := by decide +kernel
theorem nm_Town_kept_tables : (("kept" : Str) == "tables") = false := by decide +kernel
theorem nm_Town_kept_hushed : (("kept" : Str) == "hushed") = false := by decide +kernel
theorem nm_Town_kept_shelves : (("kept" : Str) == "shelves") = false := by decide +kernel
theorem nm_Town_kept_layings : (("kept" : Str) == "layings") = false := by decide +kernel
theorem no_Town_kept {x0 x1 x2 x3 x4 x5 : V} : (f_Town x0 x1 x2 x3 x4 x5).lookup ("kept" : Str) = none := by
  simp only [f_Town, List.lookup, nm_Town_kept_wide, nm_Town_kept_room, nm_Town_kept_tables, nm_Town_kept_hushed, nm_Town_kept_shelves, nm_Town_kept_layings]
theorem nm_Town_tide_wide : (("tide" : Str) == "wide") = false := by decide +kernel
theorem nm_Town_tide_room : (("tide" : Str) == "room") = false := by decide +kernel
theorem nm_Town_tide_tables : (("tide" : Str) == "tables") = false := by decide +kernel
theorem nm_Town_tide_hushed : (("tide" : Str) == "hushed") = false := by decide +kernel
theorem nm_Town_tide_shelves : (("tide" : Str) == "shelves") = false := by decide +kernel
theorem nm_Town_tide_layings : (("tide" : Str) == "layings") = false := by decide +kernel
theorem no_Town_tide {x0 x1 x2 x3 x4 x5 : V} : (f_Town x0 x1 x2 x3 x4 x5).lookup ("tide" : Str) = none := by
  simp only [f_Town, List.lookup, nm_Town_tide_wide, nm_Town_tide_room, nm_Town_tide_tables, nm_Town_tide_hushed, nm_Town_tide_shelves, nm_Town_tide_layings]
end Nn
/-! A made function that outlives the def that made it: its cells are tracked from the maker's end on. -/
namespace Nn
open PySem PySem.Spec PyProof.Rows L2 NdefX LamX
/-- a cell that holds v -/
def CellO (c : Addr) (v : V) : HO := .ext fun h => ∃ u, L2.RelV v u ∧ h.IsCell c (some u)
theorem cellO_ok {P : Program} {w : World} {H : Hp} {h : Heap} {c : Addr} {v : V} {u : Value} (r : L2.RelV v u) (e : h.IsCell c (some u)) : ObjOk P w H h c (CellO c v) := by
  obtain ⟨o, ho, hd⟩ := e
  exact ⟨⟨u, r, o, ho, hd⟩, ⟨o, ho⟩, fun h1 h2 ⟨u1, r1, o1, h3, h4⟩ k => ⟨u1, r1, o1, k _ h3, h4⟩⟩
/-- the cells of a function are tracked: they hold vs -/
structure CellsT (H : Hp) (cl : List (Str × Addr)) (fr : List Str) (vs : List V) : Prop where
  len : vs.length = fr.length
  all : ∀ y c, cl.lookup y = some c → ∃ v, H c = some (CellO c v)
  inj : ∀ x y c, cl.lookup x = some c → cl.lookup y = some c → x = y
  has : ∀ (i : Nat) (y : Str), fr[i]? = some y → ∃ c v, cl.lookup y = some c ∧ vs[i]? = some v ∧ H c = some (CellO c v)
open Classical in
noncomputable def strip (H : Hp) (cl : List (Str × Addr)) : Hp := fun b => if ∃ y, cl.lookup y = some b then none else H b
open Classical in
noncomputable def relay (H H' : Hp) (cl : List (Str × Addr)) : Hp := fun b => if ∃ y, cl.lookup y = some b then H b else H' b
section
variable {H H' : Hp} {cl : List (Str × Addr)} {fr : List Str} {vs : List V} {a : Addr} {o : HO}
theorem strip_in {y : Str} (h : cl.lookup y = some a) : strip H cl a = none := by unfold strip; rw [if_pos ⟨y, h⟩]
theorem strip_out (h : ¬ ∃ y, cl.lookup y = some a) : strip H cl a = H a := by unfold strip; rw [if_neg h]
theorem relay_in {y : Str} (h : cl.lookup y = some a) : relay H H' cl a = H a := by unfold relay; rw [if_pos ⟨y, h⟩]
theorem relay_out (h : ¬ ∃ y, cl.lookup y = some a) : relay H H' cl a = H' a := by unfold relay; rw [if_neg h]
theorem CellsT.no (C : CellsT H cl fr vs) (h : H a = some o) (n : NX o) : ¬ ∃ y, cl.lookup y = some a := fun ⟨y, e⟩ => by
  obtain ⟨v, hv⟩ := C.all y a e
  rw [h] at hv
  have hv := Option.some.inj hv
  rw [hv] at n
  exact n
/-- what is no cell stays in sight -/
theorem strip_at (C : CellsT H cl fr vs) (h : H a = some o) (n : NX o := by trivial) : strip H cl a = some o := by rw [strip_out (C.no h n)]; exact h
theorem strip_none (h : H a = none) : strip H cl a = none := by
  by_cases e : ∃ y, cl.lookup y = some a
  · obtain ⟨y, e⟩ := e; exact strip_in e
  · rw [strip_out e]; exact h
theorem relay_at (C : CellsT H cl fr vs) (f : strip H cl a = none → H' a = none) (h : H' a = some o) : relay H H' cl a = some o := by
  by_cases e : ∃ y, cl.lookup y = some a
  · obtain ⟨y, e⟩ := e
    rw [f (strip_in e)] at h; cases h
  · rw [relay_out e]; exact h
theorem relay_strip : relay H (strip H cl) cl = H := funext fun a => by
  by_cases e : ∃ y, cl.lookup y = some a
  · obtain ⟨y, e⟩ := e; exact relay_in e
  · rw [relay_out e, strip_out e]
/-- no cell is a code object -/
def Sep (H : Hp) (cl : List (Str × Addr)) : Prop := ∀ y a, cl.lookup y = some a → ∀ q, H a ≠ some (CodeO a q)
/-- the call leaves the cells untold -/
def Shut (H' : Hp) (cl : List (Str × Addr)) : Prop := ∀ y a, cl.lookup y = some a → H' a = none
/-- how the heap goes on over a call of the function -/
theorem CellsT.goes {S : Addr → Prop} (C : CellsT H cl fr vs) (se : Sep H cl) (sh : Shut H' cl) (f : Fr S (strip H cl) H') : Fr S H (relay H H' cl) where
  keep := fun a o h n s => by
    by_cases e : ∃ y, cl.lookup y = some a
    · obtain ⟨y, e⟩ := e
      rw [relay_in e]; exact h
    · rw [relay_out e]
      exact f.keep a o (by rw [strip_out e]; exact h) n s
  tab := fun P ⟨ps, h1, h2, h3⟩ => by
    have noP : ∀ {Hx : Hp} {qs : Array Value}, Hx P = some (.tbl qs) → (∀ y, cl.lookup y = some P → Hx P = none ∨ ∃ v, Hx P = some (CellO P v)) → ¬ ∃ y, cl.lookup y = some P := fun {Hx qs} e k ⟨y, hy⟩ => by
      rcases k y hy with z | ⟨v, z⟩
      · rw [e] at z; cases z
      · rw [e] at z
        have z := Option.some.inj z
        unfold CellO at z
        cases z
    have n1 := noP h1 fun y hy => .inr (C.all y P hy)
    have t1 : TabN (strip H cl) P nmAll := ⟨ps, by rw [strip_out n1]; exact h1, h2, fun pos cv hc => by
      obtain ⟨c, e1, e2⟩ := h3 pos cv hc
      refine ⟨c, e1, ?_⟩
      rw [strip_out fun ⟨y, hy⟩ => se y c hy _ e2]
      exact e2⟩
    obtain ⟨qs, g1, g2, g3⟩ := f.tab P t1
    have n2 := noP g1 fun y hy => .inl (sh y P hy)
    refine ⟨qs, by rw [relay_out n2]; exact g1, g2, fun pos cv hc => ?_⟩
    obtain ⟨c, e1, e2⟩ := g3 pos cv hc
    refine ⟨c, e1, ?_⟩
    rw [relay_out fun ⟨y, hy⟩ => by rw [sh y c hy] at e2; cases e2]
    exact e2
  back := fun a h => by
    by_cases e : ∃ y, cl.lookup y = some a
    · obtain ⟨y, e⟩ := e
      rw [relay_in e] at h; exact h
    · rw [relay_out e] at h
      have q := f.back a h
      rw [strip_out e] at q
      exact q
theorem CellsT.ex (C : CellsT H cl fr vs) (e : ∀ a o, H a = some o → NT o → H' a = some o) : CellsT H' cl fr vs :=
  ⟨C.len, fun y c h => let ⟨v, z⟩ := C.all y c h; ⟨v, e _ _ z trivial⟩, C.inj, fun i y h => let ⟨c, v, h1, h2, h3⟩ := C.has i y h; ⟨c, v, h1, h2, e _ _ h3 trivial⟩⟩
end
section
variable {P : Program} {w : World} {K : PySem.W.Frag} {mg : Str → Option Value} {base : Heap} {k : Nat} {f : Addr} {F : NF} {ps fr : List Str} {sp : List (Option V) → Sp}
theorem run_T (Fn : NOk P w K mg base CX0 k f F ps fr sp) {A : Around} {outer : List Env} {s : Shared} {H : Hp} {us : List Value} {vs zs : List V} {Q : VK} {E : XK} (hr : Room k A) (e0 : Env0 P w K mg base A outer s H) (hf : H f = some (FnO f F)) (hc : H F.c = some (CodeO F.c F.qual)) (C : CellsT H F.cl fr zs) (r : Vals vs us)
    (h : Sep H F.cl → sp (zs.map some) vs (strip H F.cl) (fun v H' => Shut H' F.cl → Q v (relay H H' F.cl)) E) : codeAny (model P w) A (.call (.ref f) ⟨us, []⟩) (CR CX0 outer P w H s Q E) s := by
  have cellAt : ∀ y a, F.cl.lookup y = some a → ∃ v u, H a = some (CellO a v) ∧ L2.RelV v u ∧ s.heap.IsCell a (some u) := fun y a e => by
    obtain ⟨v, hv⟩ := C.all y a e
    obtain ⟨⟨u, r1, z⟩, _, _⟩ := e0.hok a _ hv
    exact ⟨v, u, hv, r1, z⟩
  have noFn : ¬ ∃ y, F.cl.lookup y = some f := fun ⟨y, e⟩ => by
    obtain ⟨v, u, _, _, o, ho, hd⟩ := cellAt y f e
    obtain ⟨od, sl, doc, pm, ctv, z⟩ := fnO_at e0.hok hf
    rw [z] at ho; cases ho; cases hd
  have sep : Sep H F.cl := fun y a e q z => by
    obtain ⟨v, u, _, _, o, ho, hd⟩ := cellAt y a e
    obtain ⟨c, oc, ws, t, e1, e2, e3, _⟩ := codeO_at e0.hok z
    cases e1
    rw [e2] at ho; cases ho
    rw [hd] at e3; cases e3
  have noC : ¬ ∃ y, F.cl.lookup y = some F.c := fun ⟨y, e⟩ => sep y _ e _ hc
  have outOf : ∀ {b : Addr} {o : HO}, H b = some o → (∀ v, o ≠ CellO b v) → strip H F.cl b = some o := fun {b o} e n => by
    rw [strip_out fun ⟨y, z⟩ => by
      obtain ⟨v, hv⟩ := C.all y b z
      rw [e] at hv
      exact n v (Option.some.inj hv)]
    exact e
  have hok1 : HOk P w (strip H F.cl) s.heap := fun a o q => by
    have na : ¬ ∃ y, F.cl.lookup y = some a := fun ⟨y, z⟩ => by rw [strip_in z] at q; cases q
    rw [strip_out na] at q
    refine (e0.hok a o q).stay (fun _ _ _ z => z) (fun b z => outOf z fun v q => ?_) (fun b xs z => outOf z fun v q => ?_)
    · unfold CellO at q; cases q
    · unfold CellO at q; cases q
  have e1 : Env0 P w K mg base A outer s (strip H F.cl) := ⟨e0.frames, e0.mod, fun b o q => ⟨(e0.bs b o q).1, strip_none (e0.bs b o q).2⟩, e0.bsz, e0.funs, fun b q => strip_none (e0.frf b q), hok1, e0.bare⟩
  have C1 : CellsAt F.cl fr (zs.map some) s.heap (strip H F.cl) := ⟨by rw [List.length_map]; exact C.len, fun y c e => by
      obtain ⟨v, u, _, _, z⟩ := cellAt y c e
      exact ⟨strip_in e, _, z⟩, C.inj, fun i y e => by
      obtain ⟨c, v, h1, h2, h3⟩ := C.has i y e
      refine ⟨c, h1, fun v' hv' => ?_⟩
      rw [List.getElem?_map, h2] at hv'
      cases hv'
      obtain ⟨⟨u, r1, z⟩, _, _⟩ := e0.hok c _ h3
      exact ⟨u, r1, z⟩⟩
  refine codeAny_mono (Fn.run A outer s (strip H F.cl) us vs (zs.map some) _ E hr e1 (by rw [strip_out noFn]; exact hf) (by rw [strip_out noC]; exact hc) C1 r (h sep)) fun rr s' hq => ?_
  cases rr with
  | error e => exact hq
  | ok fl =>
    cases fl with
    | next => exact hq
    | brk => exact hq
    | cont => exact hq
    | ret u =>
      obtain ⟨v, H', os, bare, un, hok, rv, q⟩ := hq
      have shut : Shut H' F.cl := fun y a e => by
        obtain ⟨_, _, _, _, o, ho, _⟩ := cellAt y a e
        exact un.free a o ho (strip_in e) (by simp)
      have key : ∀ {b : Addr} {o o' : HO}, H b = some o → (∀ v, o ≠ CellO b v) → (strip H F.cl b = some o → H' b = some o') → relay H H' F.cl b = some o' := fun {b o o'} e n g => by
        have z := outOf e n
        have z' : ¬ ∃ y, F.cl.lookup y = some b := fun ⟨y, q⟩ => by rw [strip_in q] at z; cases z
        rw [relay_out z']
        exact g z
      have un2 : Un (frs outer) [] H (relay H H' F.cl) s.heap s'.heap := by
        refine ⟨fun b o e n => un.keep b o e (strip_none n), fun b o e n => un.slot b o e (strip_none n), fun b o e n hx => ?_, un.there, fun b xs e => ?_, fun b o u e => ?_, fun b ps e => ?_⟩
        · by_cases z : ∃ y, F.cl.lookup y = some b
          · obtain ⟨y, z⟩ := z
            rw [relay_in z]; exact n
          · rw [relay_out z]; exact un.free b o e (strip_none n) hx
        · exact key e (fun v q => by unfold CellO at q; cases q) (un.tups b xs)
        · exact key e (fun v q => by unfold CellO at q; cases q) (un.frzs b o u)
        · have z := outOf e fun v q => by unfold CellO at q; cases q
          obtain ⟨more, hm⟩ := un.tbls b ps z
          exact ⟨more, key e (fun v q => by unfold CellO at q; cases q) fun _ => hm⟩
      have inR : ∀ {b : Addr} {o : HO}, H' b = some o → relay H H' F.cl b = some o := fun {b o} e => by
        rw [relay_out fun ⟨y, z⟩ => by rw [shut y b z] at e; cases e]
        exact e
      refine ⟨v, relay H H' F.cl, os, bare, un2, fun a o e => ?_, rv, q shut⟩
      by_cases z : ∃ y, F.cl.lookup y = some a
      · obtain ⟨y, z⟩ := z
        rw [relay_in z] at e
        obtain ⟨v1, u1, h1, r1, ob, ho, hd⟩ := cellAt y a z
        rw [h1] at e; cases e
        have nf : a ∉ frs outer := fun q => by rw [e0.frf a q] at h1; cases h1
        exact cellO_ok r1 ⟨ob, un.keep a ob ho (strip_in z) nf (by simp), hd⟩
      · rw [relay_out z] at e
        exact (hok a o e).stay (fun _ _ _ q => q) (fun b q => inR q) fun b xs q => inR q
/-- f(..), f a name that holds a function whose cells are tracked -/
def tCallT (F : NF) (i : Nat) (fr : List Str) (sp : Addr → List (Option V) → Sp) (t : TA) : TE := fun σ H Q => ∃ f zs, σ[i]? = some (some (.ref f)) ∧ H f = some (FnO f F) ∧
  t σ H fun vs H1 => H1 f = some (FnO f F) ∧ H1 F.c = some (CodeO F.c F.qual) ∧ CellsT H1 F.cl fr zs ∧ (Sep H1 F.cl → sp f (zs.map some) vs (strip H1 F.cl) (fun v H' => Shut H' F.cl → Q v (relay H1 H' F.cl)) E0)
theorem pe_callT {X : Cx} {i j : Nat} {x : Str} {p pos : Pos} {e : Expr} {es : List Expr} {t : TA} {sp : Addr → List (Option V) → Sp} (Fn : ∀ f, NOk X.prog X.w X.K X.mg X.base CX0 k f F ps fr (sp f)) (hr : Room j X.A) (hk : k ≤ j) (hN : X.N[i]? = some x) (hv : Vis X.env.scope x) (ha : PA X (e :: es) t)
    (hd : (x == ("__debug__" : Str)) = false := by decide) (hcd : (x == ("__classdict__" : Str)) = false := by decide)
    (he : starEach (e :: es) X.env = (false, eval e X.env) :: starEach es X.env := by rfl) (hpl : (backTo pos (starEach es X.env)).any (·.1) = false := by rfl) :
    PE X (.Call (.Name x p) (e :: es) [] pos) (tCallT F i fr sp t) := by
  refine ⟨fun pins s σ H Q I h => ?_⟩
  obtain ⟨f, zs, hs, hf, ht⟩ := h
  refine wpAny_Call_Name_kw (thn ((pe_var (pos := p) hN hv hd hcd).run pins s σ H (fun v H1 => v = .ref f ∧ H1 = H) I ⟨.ref f, hs, rfl, rfl⟩) fun u s1 ⟨v, H1, I1, r1, q1⟩ => ?_)
  obtain ⟨ev, eH⟩ := q1
  subst ev
  rw [eH] at I1
  obtain rfl : u = Value.ref f := r1
  refine PySem.W.callWith_F (first := []) (fnAt_of I1 hf) (thn (ha.run pos pins s1 σ H _ I1 ht) fun us s2 ⟨vs, H2, I2, r, h1, h2, C, q⟩ => ⟨fnAt_of I2 h1, ?_⟩) he hpl
  show wpAny _ _ (call (.ref f) us) _ _ _
  refine wpAny_call (codeAny_mono (run_T (Fn f) (hr.mono hk) I2.env0 h1 h2 C r q) fun r s' hq => ?_)
  cases r with
  | error e => exact False.elim hq
  | ok fl =>
    cases fl with
    | ret u => exact I2.after hq
    | next => exact False.elim hq
    | brk => exact False.elim hq
    | cont => exact False.elim hq
end
end Nn

/-! A def that makes a function and tells it. -/
namespace Nn
open PySem PySem.Spec PyProof.Rows L2 NdefX LamX
/-- a def whose code object is known -/
structure FunC (K : PySem.W.Frag) (x qual : Str) (st : Stmt) (f : Addr) (fd : FuncData) (c : Addr) : Prop where
  ex : ∃ (oc : Value) (od : Option Addr) (kV doc pm : Value) (an : Option Addr) (ct : Value) (osl : Array (Option Value)),
    fd = PySem.W.fnOf x qual (defArgs st) (defBody st) (defScope st) .none kV doc pm an (.ref c) ct ∧ K.lookup f = some ⟨oc, od, .func fd, osl⟩ ∧ PySem.W.codeIn K (.ref c) qual = true
theorem func_of {K : PySem.W.Frag} {x qual : Str} {st : Stmt} {p : He.Defn} {fd : FuncData} (F : FunD K x qual (defArgs st) (defBody st) (defScope st) [] [] (He.fAd K p) fd) : FunC K x qual st (He.fAd K p) fd (He.codeOf K p) := by
  obtain ⟨oc, od, dV, kV, doc, pm, an, cdv, ct, osl, rfl, lk, hcd, hD, hK⟩ := F.ex
  rcases hD with ⟨_, rfl⟩ | ⟨e, _⟩
  · obtain ⟨c, rfl⟩ := He.codeIn_ref hcd
    rw [He.codeOf_eq lk rfl]
    exact ⟨oc, od, kV, doc, pm, an, ct, osl, rfl, lk, hcd⟩
  · exact absurd rfl e
theorem FunC.okC {P : Program} {w : World} {K : PySem.W.Frag} {mg : Str → Option Value} {base : Heap} {x qual : Str} {st : Stmt} {f c : Addr} {fd : FuncData} {N ps : List Str} {k : Nat} {sp : Sp} (F : FunC K x qual st f fd c) (S : FnScope N ps (defScope st)) (len : ∀ vs H Q E, sp vs H Q E → vs.length = ps.length)
    (hbody : ∀ (A : Around) (outer : List Env) (s : Shared) (H : Hp) (vs : List V) (Q : VK) (E : XK), Room k (A.deeper (envOfC qual (defScope st) s.heap.objs.size f (.ref c))) → sp vs H Q E →
      ∃ t, PSs (cxOf CX0 P w K mg base N qual (defScope st) f (.ref c) A outer s H E).nox (defBody st) t ∧ t { nx := fun _ H' => Q .non H', rt := Q } (start N vs) H) : FnOk P w K mg base CX0 (k + 1) f fd ps sp := by
  obtain ⟨oc, od, kV, doc, pm, an, ct, osl, rfl, lk, hcd⟩ := F.ex
  refine fn_of lk hcd S len fun A outer s H vs Q E hr hsp => ?_
  obtain ⟨t, h, q⟩ := hbody A outer s H vs Q E hr hsp
  exact ⟨t, h.nox, q⟩
/-- the reading of a nested def: all tables are told of -/
def tNdefA (P : Addr) (i : Nat) (mk : Addr → NF) : TS := fun D σ H => TabN H P nmAll ∧ ∀ (f c' : Addr) (H1 : Hp), Ex H H1 → H f = none → H1 f = some (FnO f (mk c')) → H1 c' = some (CodeO c' (mk c').qual) → D.nx (σ.set i (some (.ref f))) H1
open Classical in
theorem ps_ndefA {X : Cx} {st : Stmt} {c P : Addr} {name : Str} {pos : Pos} {i : Nat} (hst : st = .FunctionDef name (C8.fnArgs st) (C8.fnBody st) [] none [] (C8.fnScope st) none name pos) (TB : TabB X.base X.mg c P) (hcode : X.env.code = .ref c) (hn : nmAll pos.line pos.col = X.env.qual ++ name)
    (hfree : ∀ y ∈ (C8.fnScope st).names, y.2 = .free → X.env.scope.names.lookup y.1 = some .cell ∨ X.env.scope.names.lookup y.1 = some .free) (hd0 : (C8.fnArgs st).defaults = []) (hk0 : (C8.fnArgs st).kw_defaults = []) (ha : annTrees (C8.fnArgs st) none X.env = [])
    (hN : X.N.Nodup) (hi : X.N[i]? = some name) (hx : Loc X.env.scope name) (hf : X.fn name = true ∨ X.env.scope.names.lookup name = some .local) :
    PS X st (tNdefA P i (NF.of st name (X.env.qual ++ name) (cloFrom X.env.cells (C8.fnScope st).names []))) := by
  refine ⟨fun pins s σ H D I h => ?_⟩
  obtain ⟨hT, h⟩ := h
  have lt : ∀ P', TabN H P' nmAll → P' < s.heap.objs.size := fun P' ⟨ps, e, _⟩ => I.hok.lt e
  have mem : ∀ P', TabN H P' nmAll → (P', nmAll) ∈ ((List.range s.heap.objs.size).filter fun P' => decide (TabN H P' nmAll)).map fun P' => (P', nmAll) := fun P' t =>
    List.mem_map.mpr ⟨P', List.mem_filter.mpr ⟨List.mem_range.mpr (lt P' t), decide_eq_true t⟩, rfl⟩
  refine (ps_ndefMS (T := ((List.range s.heap.objs.size).filter fun P' => decide (TabN H P' nmAll)).map fun P' => (P', nmAll)) (nm := nmAll) hst TB hcode (mem P hT) hn (fun p hp _ => ?_) hfree hd0 hk0 ha hN hi hx hf).run pins s σ H D I ⟨fun p hp => ?_, fun f c' H1 eN nn T1 f0 f1 c1 => h f c' H1 ⟨fun a o e n _ => eN a o e fun ps z => by rw [z] at n; exact n, fun P' t => T1 _ (mem P' t), nn⟩ f0 f1 c1⟩
  · obtain ⟨_, _, rfl⟩ := List.mem_map.mp hp; rfl
  · obtain ⟨P', hp2, rfl⟩ := List.mem_map.mp hp
    have q := (List.mem_filter.mp hp2).2
    simpa using q
open Classical in
noncomputable def layC (H : Hp) (cl : List (Str × Addr)) (fr : List Str) (zs : List V) : Hp := fun b =>
  if h : ∃ v, ∃ (i : Nat) (y : Str), fr[i]? = some y ∧ cl.lookup y = some b ∧ zs[i]? = some v then some (CellO b h.choose) else H b
theorem slot_set {σ : L2.St} {i j : Nat} {v : Option V} (h : i ≠ j) : NdefX.slotAt (σ.set i v) j = NdefX.slotAt σ j := by
  unfold NdefX.slotAt
  rw [List.getElem?_set_ne h]
theorem FunC.okMk {P : Program} {w : World} {K : PySem.W.Frag} {mg : Str → Option Value} {base : Heap} {x qual nm : Str} {st st1 : Stmt} {p1 p2 pos : Pos} {f c Pt : Addr} {fd : FuncData} {N ps fr : List Str} {js : List Nat} {i k : Nat} {sp : Sp}
    (F : FunC K x qual st f fd c) (S : FnScope N ps (defScope st)) (hb : defBody st = [st1, .Return (some (.Name nm p1)) p2]) (TB : TabB base mg c Pt) (hst : st1 = .FunctionDef nm (C8.fnArgs st1) (C8.fnBody st1) [] none [] (C8.fnScope st1) none nm pos)
    (hn : nmAll pos.line pos.col = (qual ++ ".<locals>.") ++ nm) (hB : ndefB (defScope st) (C8.fnScope st1) fr = true) (hfa : ∀ y ∈ (C8.fnScope st1).names, y.2 = .free → y.1 ∈ fr) (nd : fr.Nodup) (hd0 : (C8.fnArgs st1).defaults = []) (hk0 : (C8.fnArgs st1).kw_defaults = [])
    (ha : ∀ env, annTrees (C8.fnArgs st1) none env = []) (hi : N[i]? = some nm) (hloc : (defScope st).names.lookup nm = some .local) (hjs : js.map (fun j => N[j]?) = fr.map some) (hji : i ∉ js) (len : ∀ vs H Q E, sp vs H Q E → vs.length = ps.length)
    (hsp : ∀ vs H Q E, sp vs H Q E → TabN H Pt nmAll ∧ ∃ zs : List V, js.map (NdefX.slotAt (start N vs)) = zs.map some ∧ ∀ f' cl c' H', Ex H H' → H f' = none →
      H' f' = some (FnO f' (NF.of st1 nm ((qual ++ ".<locals>.") ++ nm) cl c')) → H' c' = some (CodeO c' ((qual ++ ".<locals>.") ++ nm)) → CellsT H' cl fr zs → Q (.ref f') H')
    (hnd : (nm == ("__debug__" : Str)) = false := by decide) (hcd' : (nm == ("__classdict__" : Str)) = false := by decide) : FnOk P w K mg base CX0 (k + 1) f fd ps sp := by
  obtain ⟨oc, od, kV, doc, pm, an, ct, osl, rfl, lk, hcd⟩ := F.ex
  refine ⟨len, fun A outer s H args us vs Q E hr e0 hbi r hs0 => ?_⟩
  have hl := len _ _ _ _ hs0
  have KX : K.In s.heap := e0.mod.kin.keeps fun b o e => (e0.bs b o e).1
  have lim : s.heap.NoLimit := e0.mod.nolimit.keeps fun b o e => (e0.bs b o e).1
  have hkind : ∀ y ∈ ps.zip us, (defScope st).names.lookup y.1 = some .local ∨ ((defScope st).names.lookup y.1 = some .cell ∧ ((cellsFrom (s.heap.objs.size + 1) (defScope st).names []).lookup y.1).isSome = true) := fun ⟨n, v⟩ hy => by
    rcases S.par n (List.of_mem_zip hy).1 with q | q
    · exact .inl q
    · exact .inr ⟨q, PySem.W.cellsFrom_some _ _ _ (.inl q)⟩
  refine codeAny_call_function hr.depth (KX _ _ lk) rfl S.co S.gen rfl (PySem.W.codeRec_of KX hcd) (hbi _ _ _ _ ?_)
  refine wpAny_newFunctionEnv_cells S.kind hkind fun env he s1 x => ?_
  subst he
  refine ⟨lim.keeps x.toInCall.keep, codeAny_func ?_⟩
  have I : Inv (cxOf CX0 P w K mg base N qual (defScope st) f (.ref c) A outer s H E) [] (start N vs) H s1 := inv_start S hr.hd e0 hl r x
  obtain ⟨hT3, zs, hz, hend⟩ := hsp vs H Q E hs0
  have h1 := ps_ndefA (X := cxOf CX0 P w K mg base N qual (defScope st) f (.ref c) A outer s H E) (i := i) hst TB rfl hn (ndef_free hB) hd0 hk0 (ha _) S.nd hi (.inl hloc) (.inl rfl)
  rw [hb]
  refine wpAny_execs_cons (wpAny_mono (h1.run [] s1 (start N vs) H { nx := fun σ' H1 => ∃ f' c', σ' = (start N vs).set i (some (.ref f')) ∧ Ex H H1 ∧ H f' = none ∧ H1 f' = some (FnO f' (NF.of st1 nm ((qual ++ ".<locals>.") ++ nm) (cloFrom (cellsFrom (s.heap.objs.size + 1) (defScope st).names []) (C8.fnScope st1).names []) c')) ∧ H1 c' = some (CodeO c' ((qual ++ ".<locals>.") ++ nm)), rt := fun _ _ => False } I
    ⟨hT3, fun f' c' H1 eN f0 f1 c1 => ⟨f', c', rfl, eN, f0, f1, c1⟩⟩) (fun fl s2 hs => ?_) fun e s' hs => hs)
  cases fl with
  | ret u => obtain ⟨_, _, _, _, _, q⟩ := hs; exact q.elim
  | brk => obtain ⟨_, _, _, q⟩ := hs; exact q.elim
  | cont => obtain ⟨_, _, _, q⟩ := hs; exact q.elim
  | next =>
    obtain ⟨σ', H1, J, f', c', rfl, eN, f0, f1, c1⟩ := hs
    have hlen : i < (start N vs).length := by
      have q := I.len
      rw [q]
      exact (List.getElem?_eq_some_iff.mp hi).1
    refine wpAny_execs_cons (wpAny_Return_some (thn ((pe_var (X := cxOf CX0 P w K mg base N qual (defScope st) f (.ref c) A outer s H E) (pos := p1) hi (.inl hloc) hnd hcd').run [] s2 _ H1 (fun v H2 => v = .ref f' ∧ H2 = H1) J ⟨.ref f', List.getElem?_set_self hlen, rfl, rfl⟩) fun u s3 ⟨v, H2, J2, rv, ev, eH⟩ => ?_))
    subst ev
    rw [eH] at J2
    have cp : Caps (cxOf CX0 P w K mg base N qual (defScope st) f (.ref c) A outer s H E) (cloFrom (cellsFrom (s.heap.objs.size + 1) (defScope st).names []) (C8.fnScope st1).names []) fr js := Caps.made J2.ok (ndef_free hB) (ndef_fr hB) hjs
    have C := cells_of J2 cp
    have eσ : js.map (NdefX.slotAt ((start N vs).set i (some (.ref f')))) = zs.map some := by
      rw [← hz]
      exact List.map_congr_left fun j hj => slot_set fun e => hji (e ▸ hj)
    rw [eσ] at C
    generalize hcl : cloFrom (cellsFrom (s.heap.objs.size + 1) (defScope st).names []) (C8.fnScope st1).names [] = cl at f1 C cp
    have new : ∀ y b, cl.lookup y = some b → s.heap.objs.size ≤ b := fun y b e => J2.ok.cab y b rfl (cp.sub y b e)
    have hH1 : ∀ y b, cl.lookup y = some b → H1 b = none := fun y b e => (C.all y b e).1
    have spec : ∀ {b : Addr} {v : V}, (∃ (i : Nat) (y : Str), fr[i]? = some y ∧ cl.lookup y = some b ∧ zs[i]? = some v) → ∃ u, L2.RelV v u ∧ s3.heap.IsCell b (some u) := fun {b v} ⟨j, y, h1, h2, h3⟩ => by
      obtain ⟨a, ha, hv⟩ := C.has j y h1
      rw [h2] at ha; cases ha
      exact hv v (by rw [List.getElem?_map, h3]; rfl)
    have outL : ∀ {b : Addr}, (¬ ∃ y, cl.lookup y = some b) → layC H1 cl fr zs b = H1 b := fun {b} n => by
      unfold layC
      rw [dif_neg]
      rintro ⟨v, j, y, _, h2, _⟩
      exact n ⟨y, h2⟩
    have atL : ∀ {b : Addr} {o : HO}, H1 b = some o → layC H1 cl fr zs b = some o := fun {b o} e => by
      rw [outL fun ⟨y, z⟩ => by rw [hH1 y b z] at e; cases e]
      exact e
    have inL : ∀ {b : Addr} {v : V} {j : Nat} {y : Str}, fr[j]? = some y → cl.lookup y = some b → zs[j]? = some v → layC H1 cl fr zs b = some (CellO b v) := fun {b v j y} h1 h2 h3 => by
      have hx : ∃ v, ∃ (i : Nat) (y : Str), fr[i]? = some y ∧ cl.lookup y = some b ∧ zs[i]? = some v := ⟨v, j, y, h1, h2, h3⟩
      unfold layC
      rw [dif_pos hx]
      obtain ⟨j2, y2, g1, g2, g3⟩ := hx.choose_spec
      have ey : y2 = y := C.inj y2 y b g2 h2
      rw [ey] at g1
      have hjl : j < fr.length := (List.getElem?_eq_some_iff.mp h1).1
      have ej : j = j2 := (List.getElem?_inj hjl nd).mp (h1.trans g1.symm)
      rw [← ej, h3] at g3
      rw [Option.some.inj g3]
    have hfull : ∀ y b, cl.lookup y = some b → ∃ (j : Nat) (v : V), fr[j]? = some y ∧ zs[j]? = some v := fun y b e => by
      have hmem : y ∈ fr := by
        rw [← hcl] at e
        rcases cloFrom_mem (PySem.mem_of_lookup e) with hm | ⟨h1, _⟩
        · cases hm
        · exact hfa _ h1 rfl
      obtain ⟨j, hj⟩ := List.getElem?_of_mem hmem
      have hjz : j < zs.length := by
        have q := C.len
        rw [List.length_map] at q
        rw [q]
        exact (List.getElem?_eq_some_iff.mp hj).1
      exact ⟨j, zs[j], hj, List.getElem?_eq_getElem hjz⟩
    have cT : CellsT (layC H1 cl fr zs) cl fr zs := ⟨by have q := C.len; rw [List.length_map] at q; exact q, fun y b e => by
        obtain ⟨j, v, h1, h3⟩ := hfull y b e
        exact ⟨v, inL h1 e h3⟩, C.inj, fun j y h1 => by
        obtain ⟨b, hb, _⟩ := C.has j y h1
        obtain ⟨j2, v, g1, g3⟩ := hfull y b hb
        have hjl : j < fr.length := (List.getElem?_eq_some_iff.mp h1).1
        have ej : j = j2 := (List.getElem?_inj hjl nd).mp (h1.trans g1.symm)
        rw [← ej] at g3
        exact ⟨b, v, hb, g3, inL h1 hb g3⟩⟩
    have un : Un (frs outer) [] H H1 s.heap s3.heap := J2.base
    have un2 : Un (frs outer) [] H (layC H1 cl fr zs) s.heap s3.heap := ⟨un.keep, un.slot, fun b o e n hx => by
        rw [outL fun ⟨y, z⟩ => absurd (Heap.lt_size e) (Nat.not_lt_of_le (new y b z))]
        exact un.free b o e n hx, un.there, fun b xs e => atL (un.tups b xs e), fun b o u e => atL (un.frzs b o u e), fun b ps e => by
        obtain ⟨more, hm⟩ := un.tbls b ps e
        exact ⟨more, atL hm⟩⟩
    refine (show CE outer P w H s Q u s3 from ⟨.ref f', layC H1 cl fr zs, J2.os, J2.bare, un2, fun a o e => ?_, rv, hend f' cl c' _ ⟨fun b o e n s => atL (eN.keep b o e n s), fun P' t => (eN.tab P' t).ext fun b o e => atL e, fun b e => ?_⟩ f0 (atL f1) (atL c1) cT⟩)
    · by_cases z : ∃ y, cl.lookup y = some a
      · obtain ⟨y, z⟩ := z
        obtain ⟨j, v, h1, h3⟩ := hfull y a z
        rw [inL h1 z h3] at e
        cases e
        obtain ⟨u1, r1, hc⟩ := spec ⟨j, y, h1, z, h3⟩
        exact cellO_ok r1 hc
      · rw [outL z] at e
        exact (J2.hok a o e).stay (fun _ _ _ q => q) (fun b q => atL q) fun b xs q => atL q
    · by_cases z : ∃ y, cl.lookup y = some b
      · obtain ⟨y, z⟩ := z
        obtain ⟨j, v, h1, h3⟩ := hfull y b z
        rw [inL h1 z h3] at e
        cases e
      · rw [outL z] at e
        exact eN.back b e
end Nn

namespace Nn
open PySem L2
structure Tx (K : PySem.W.Frag) (mg : Str → Option Value) (base : Heap) where
  a_is_name : Addr
  d_is_name : FuncData
  F_is_name : FunD K "is_name" "is_name" (defArgs s_is_name) (defBody s_is_name) (defScope s_is_name) [] [] a_is_name d_is_name
  b_is_name : Binds K d_is_name ["thing", "wide"] []
  m_is_name : mg "is_name" = some (.ref a_is_name)
  a_far : Addr
  d_far : FuncData
  F_far : FunD K "far" "far" (defArgs s_far) (defBody s_far) (defScope s_far) [] [] a_far d_far
  b_far : Binds K d_far ["one", "other"] []
  m_far : mg "far" = some (.ref a_far)
  a_nearer : Addr
  d_nearer : FuncData
  F_nearer : FunD K "nearer" "nearer" (defArgs s_nearer) (defBody s_nearer) (defScope s_nearer) [] [] a_nearer d_nearer
  b_nearer : Binds K d_nearer ["goal", "one", "other"] []
  m_nearer : mg "nearer" = some (.ref a_nearer)
  a_by_nearness : Addr
  d_by_nearness : FuncData
  F_by_nearness : FunD K "by_nearness" "by_nearness" (defArgs s_by_nearness) (defBody s_by_nearness) (defScope s_by_nearness) [] [] a_by_nearness d_by_nearness
  b_by_nearness : Binds K d_by_nearness ["goal", "names"] []
  m_by_nearness : mg "by_nearness" = some (.ref a_by_nearness)
  a_step : Addr
  d_step : FuncData
  F_step : FunD K "step" "step" (defArgs s_step) (defBody s_step) (defScope s_step) [] [] a_step d_step
  b_step : Binds K d_step ["one", "other"] []
  m_step : mg "step" = some (.ref a_step)
  a_span : Addr
  d_span : FuncData
  F_span : FunD K "span" "span" (defArgs s_span) (defBody s_span) (defScope s_span) [] [] a_span d_span
  b_span : Binds K d_span ["name", "k"] []
  m_span : mg "span" = some (.ref a_span)
  a_of_span : Addr
  d_of_span : FuncData
  F_of_span : FunD K "of_span" "of_span" (defArgs s_of_span) (defBody s_of_span) (defScope s_of_span) [] [] a_of_span d_of_span
  b_of_span : Binds K d_of_span ["live", "house", "k"] []
  m_of_span : mg "of_span" = some (.ref a_of_span)
  a_is_faulty : Addr
  d_is_faulty : FuncData
  F_is_faulty : FunD K "is_faulty" "is_faulty" (defArgs s_is_faulty) (defBody s_is_faulty) (defScope s_is_faulty) [] [] a_is_faulty d_is_faulty
  b_is_faulty : Binds K d_is_faulty ["names", "live", "room", "house", "k"] []
  m_is_faulty : mg "is_faulty" = some (.ref a_is_faulty)
  a_fault : Addr
  d_fault : FuncData
  F_fault : FunD K "fault" "fault" (defArgs s_fault) (defBody s_fault) (defScope s_fault) [] [] a_fault d_fault
  b_fault : Binds K d_fault ["town"] []
  m_fault : mg "fault" = some (.ref a_fault)
  a_holes : Addr
  d_holes : FuncData
  F_holes : FunD K "holes" "holes" (defArgs s_holes) (defBody s_holes) (defScope s_holes) [] [] a_holes d_holes
  b_holes : Binds K d_holes ["town"] []
  m_holes : mg "holes" = some (.ref a_holes)
  a_standing : Addr
  d_standing : FuncData
  F_standing : FunD K "standing" "standing" (defArgs s_standing) (defBody s_standing) (defScope s_standing) [] [] a_standing d_standing
  b_standing : Binds K d_standing ["goal", "room", "seen", "quiet"] []
  m_standing : mg "standing" = some (.ref a_standing)
  a_asked : Addr
  d_asked : FuncData
  F_asked : FunD K "asked" "asked" (defArgs s_asked) (defBody s_asked) (defScope s_asked) [] [] a_asked d_asked
  b_asked : Binds K d_asked ["start", "goal", "room", "tells"] []
  m_asked : mg "asked" = some (.ref a_asked)
  a_onward : Addr
  d_onward : FuncData
  F_onward : FunD K "onward" "onward" (defArgs s_onward) (defBody s_onward) (defScope s_onward) [] [] a_onward d_onward
  b_onward : Binds K d_onward ["here", "goal", "tells"] []
  m_onward : mg "onward" = some (.ref a_onward)
  a_way : Addr
  d_way : FuncData
  F_way : FunD K "way" "way" (defArgs s_way) (defBody s_way) (defScope s_way) [] [] a_way d_way
  b_way : Binds K d_way ["start", "goal", "tells"] []
  m_way : mg "way" = some (.ref a_way)
  a_Bucket_init : Addr
  d_Bucket_init : FuncData
  F_Bucket_init : FunD K "__init__" "Bucket.__init__" (defArgs s_Bucket_init) (defBody s_Bucket_init) (defScope s_Bucket_init) [] [] a_Bucket_init d_Bucket_init
  b_Bucket_init : Binds K d_Bucket_init ["self", "room"] []
  a_Bucket_names : Addr
  d_Bucket_names : FuncData
  F_Bucket_names : FunD K "names" "Bucket.names" (defArgs s_Bucket_names) (defBody s_Bucket_names) (defScope s_Bucket_names) [] [] a_Bucket_names d_Bucket_names
  b_Bucket_names : Binds K d_Bucket_names ["self"] []
  a_Bucket_hears : Addr
  d_Bucket_hears : FuncData
  F_Bucket_hears : FunD K "hears" "Bucket.hears" (defArgs s_Bucket_hears) (defBody s_Bucket_hears) (defScope s_Bucket_hears) [] [] a_Bucket_hears d_Bucket_hears
  b_Bucket_hears : Binds K d_Bucket_hears ["self", "name", "answers"] []
  a_Bucket_drops : Addr
  d_Bucket_drops : FuncData
  F_Bucket_drops : FunD K "drops" "Bucket.drops" (defArgs s_Bucket_drops) (defBody s_Bucket_drops) (defScope s_Bucket_drops) [] [] a_Bucket_drops d_Bucket_drops
  b_Bucket_drops : Binds K d_Bucket_drops ["self", "name"] []
  a_Table_init : Addr
  d_Table_init : FuncData
  F_Table_init : FunD K "__init__" "Table.__init__" (defArgs s_Table_init) (defBody s_Table_init) (defScope s_Table_init) [] [] a_Table_init d_Table_init
  b_Table_init : Binds K d_Table_init ["self", "own", "wide", "room"] []
  a_Table_bucket_for : Addr
  d_Table_bucket_for : FuncData
  F_Table_bucket_for : FunD K "bucket_for" "Table.bucket_for" (defArgs s_Table_bucket_for) (defBody s_Table_bucket_for) (defScope s_Table_bucket_for) [] [] a_Table_bucket_for d_Table_bucket_for
  b_Table_bucket_for : Binds K d_Table_bucket_for ["self", "name"] []
  a_Table_hears : Addr
  d_Table_hears : FuncData
  F_Table_hears : FunD K "hears" "Table.hears" (defArgs s_Table_hears) (defBody s_Table_hears) (defScope s_Table_hears) [] [] a_Table_hears d_Table_hears
  b_Table_hears : Binds K d_Table_hears ["self", "name", "answers"] []
  a_Table_drops : Addr
  d_Table_drops : FuncData
  F_Table_drops : FunD K "drops" "Table.drops" (defArgs s_Table_drops) (defBody s_Table_drops) (defScope s_Table_drops) [] [] a_Table_drops d_Table_drops
  b_Table_drops : Binds K d_Table_drops ["self", "name"] []
  a_Table_bucket : Addr
  d_Table_bucket : FuncData
  F_Table_bucket : FunD K "bucket" "Table.bucket" (defArgs s_Table_bucket) (defBody s_Table_bucket) (defScope s_Table_bucket) [] [] a_Table_bucket d_Table_bucket
  b_Table_bucket : Binds K d_Table_bucket ["self", "k"] []
  a_Table_keeps : Addr
  d_Table_keeps : FuncData
  F_Table_keeps : FunD K "keeps" "Table.keeps" (defArgs s_Table_keeps) (defBody s_Table_keeps) (defScope s_Table_keeps) [] [] a_Table_keeps d_Table_keeps
  b_Table_keeps : Binds K d_Table_keeps ["self"] []
  a_Table_nearest : Addr
  d_Table_nearest : FuncData
  F_Table_nearest : FunD K "nearest" "Table.nearest" (defArgs s_Table_nearest) (defBody s_Table_nearest) (defScope s_Table_nearest) [.non] [] a_Table_nearest d_Table_nearest
  d_Table_nearest_1 : List Value
  v_Table_nearest_1 : Vals [.non] d_Table_nearest_1
  b_Table_nearest_1 : Binds K d_Table_nearest ["self", "goal", "many", "but"] d_Table_nearest_1
  b_Table_nearest : Binds K d_Table_nearest ["self", "goal", "many", "but"] []
  a_is_size : Addr
  d_is_size : FuncData
  F_is_size : FunD K "is_size" "is_size" (defArgs s_is_size) (defBody s_is_size) (defScope s_is_size) [] [] a_is_size d_is_size
  b_is_size : Binds K d_is_size ["thing", "most"] []
  m_is_size : mg "is_size" = some (.ref a_is_size)
  a_Town_init : Addr
  d_Town_init : FuncData
  F_Town_init : FunD K "__init__" "Town.__init__" (defArgs s_Town_init) (defBody s_Town_init) (defScope s_Town_init) [] [] a_Town_init d_Town_init
  b_Town_init : Binds K d_Town_init ["self", "wide", "room"] []
  a_Town_houses : Addr
  d_Town_houses : FuncData
  F_Town_houses : FunD K "houses" "Town.houses" (defArgs s_Town_houses) (defBody s_Town_houses) (defScope s_Town_houses) [] [] a_Town_houses d_Town_houses
  b_Town_houses : Binds K d_Town_houses ["self"] []
  a_Town_answers : Addr
  d_Town_answers : FuncData
  F_Town_answers : FunD K "answers" "Town.answers" (defArgs s_Town_answers) (defBody s_Town_answers) (defScope s_Town_answers) [] [] a_Town_answers d_Town_answers
  b_Town_answers : Binds K d_Town_answers ["self", "name"] []
  a_Town_answering : Addr
  d_Town_answering : FuncData
  F_Town_answering : FunD K "answering" "Town.answering" (defArgs s_Town_answering) (defBody s_Town_answering) (defScope s_Town_answering) [] [] a_Town_answering d_Town_answering
  b_Town_answering : Binds K d_Town_answering ["self"] []
  a_Town_table : Addr
  d_Town_table : FuncData
  F_Town_table : FunD K "table" "Town.table" (defArgs s_Town_table) (defBody s_Town_table) (defScope s_Town_table) [] [] a_Town_table d_Town_table
  b_Town_table : Binds K d_Town_table ["self", "house"] []
  a_Town_look_awake : Addr
  d_Town_look_awake : FuncData
  F_Town_look_awake : FunD K "look_awake" "Town.look_awake" (defArgs s_Town_look_awake) (defBody s_Town_look_awake) (defScope s_Town_look_awake) [] [] a_Town_look_awake d_Town_look_awake
  b_Town_look_awake : Binds K d_Town_look_awake ["self", "house"] []
  a_Town_look_named : Addr
  d_Town_look_named : FuncData
  F_Town_look_named : FunD K "look_named" "Town.look_named" (defArgs s_Town_look_named) (defBody s_Town_look_named) (defScope s_Town_look_named) [] [] a_Town_look_named d_Town_look_named
  b_Town_look_named : Binds K d_Town_look_named ["self", "name"] []
  a_Town_bucket : Addr
  d_Town_bucket : FuncData
  F_Town_bucket : FunD K "bucket" "Town.bucket" (defArgs s_Town_bucket) (defBody s_Town_bucket) (defScope s_Town_bucket) [] [] a_Town_bucket d_Town_bucket
  b_Town_bucket : Binds K d_Town_bucket ["self", "house", "k"] []
  a_Town_keeps : Addr
  d_Town_keeps : FuncData
  F_Town_keeps : FunD K "keeps" "Town.keeps" (defArgs s_Town_keeps) (defBody s_Town_keeps) (defScope s_Town_keeps) [] [] a_Town_keeps d_Town_keeps
  b_Town_keeps : Binds K d_Town_keeps ["self", "house"] []
  a_Town_tells : Addr
  d_Town_tells : FuncData
  F_Town_tells : FunD K "tells" "Town.tells" (defArgs s_Town_tells) (defBody s_Town_tells) (defScope s_Town_tells) [] [] a_Town_tells d_Town_tells
  b_Town_tells : Binds K d_Town_tells ["self", "house", "goal", "asker"] []
  a_Town_hears : Addr
  d_Town_hears : FuncData
  F_Town_hears : FunD K "hears" "Town.hears" (defArgs s_Town_hears) (defBody s_Town_hears) (defScope s_Town_hears) [] [] a_Town_hears d_Town_hears
  b_Town_hears : Binds K d_Town_hears ["self", "house", "name"] []
  a_Town_come_to : Addr
  d_Town_come_to : FuncData
  F_Town_come_to : FunD K "come_to" "Town.come_to" (defArgs s_Town_come_to) (defBody s_Town_come_to) (defScope s_Town_come_to) [] [] a_Town_come_to d_Town_come_to
  b_Town_come_to : Binds K d_Town_come_to ["self", "house"] []
  a_Town_ask : Addr
  d_Town_ask : FuncData
  F_Town_ask : FunD K "ask" "Town.ask" (defArgs s_Town_ask) (defBody s_Town_ask) (defScope s_Town_ask) [] [] a_Town_ask d_Town_ask
  b_Town_ask : Binds K d_Town_ask ["self", "start", "goal"] []
  a_Town_way : Addr
  d_Town_way : FuncData
  F_Town_way : FunD K "way" "Town.way" (defArgs s_Town_way) (defBody s_Town_way) (defScope s_Town_way) [] [] a_Town_way d_Town_way
  b_Town_way : Binds K d_Town_way ["self", "start", "goal"] []
  a_Town_visit : Addr
  d_Town_visit : FuncData
  F_Town_visit : FunD K "visit" "Town.visit" (defArgs s_Town_visit) (defBody s_Town_visit) (defScope s_Town_visit) [] [] a_Town_visit d_Town_visit
  b_Town_visit : Binds K d_Town_visit ["self", "house", "door"] []
  a_Town_come : Addr
  d_Town_come : FuncData
  F_Town_come : FunD K "come" "Town.come" (defArgs s_Town_come) (defBody s_Town_come) (defScope s_Town_come) [.non] [] a_Town_come d_Town_come
  d_Town_come_1 : List Value
  v_Town_come_1 : Vals [.non] d_Town_come_1
  b_Town_come_1 : Binds K d_Town_come ["self", "name", "door"] d_Town_come_1
  b_Town_come : Binds K d_Town_come ["self", "name", "door"] []
  a_Town_go : Addr
  d_Town_go : FuncData
  F_Town_go : FunD K "go" "Town.go" (defArgs s_Town_go) (defBody s_Town_go) (defScope s_Town_go) [] [] a_Town_go d_Town_go
  b_Town_go : Binds K d_Town_go ["self", "house"] []
  a_Town_hush : Addr
  d_Town_hush : FuncData
  F_Town_hush : FunD K "hush" "Town.hush" (defArgs s_Town_hush) (defBody s_Town_hush) (defScope s_Town_hush) [] [] a_Town_hush d_Town_hush
  b_Town_hush : Binds K d_Town_hush ["self", "house"] []
  a_Town_wake : Addr
  d_Town_wake : FuncData
  F_Town_wake : FunD K "wake" "Town.wake" (defArgs s_Town_wake) (defBody s_Town_wake) (defScope s_Town_wake) [] [] a_Town_wake d_Town_wake
  b_Town_wake : Binds K d_Town_wake ["self", "house", "door"] []
  a_Market_init : Addr
  d_Market_init : FuncData
  F_Market_init : FunD K "__init__" "Market.__init__" (defArgs s_Market_init) (defBody s_Market_init) (defScope s_Market_init) [] [] a_Market_init d_Market_init
  b_Market_init : Binds K d_Market_init ["self", "wide", "room"] []
  a_Market_come : Addr
  d_Market_come : FuncData
  F_Market_come : FunD K "come" "Market.come" (defArgs s_Market_come) (defBody s_Market_come) (defScope s_Market_come) [.non] [] a_Market_come d_Market_come
  d_Market_come_1 : List Value
  v_Market_come_1 : Vals [.non] d_Market_come_1
  b_Market_come_1 : Binds K d_Market_come ["self", "name", "door"] d_Market_come_1
  b_Market_come : Binds K d_Market_come ["self", "name", "door"] []
  a_Market_wake : Addr
  d_Market_wake : FuncData
  F_Market_wake : FunD K "wake" "Market.wake" (defArgs s_Market_wake) (defBody s_Market_wake) (defScope s_Market_wake) [] [] a_Market_wake d_Market_wake
  b_Market_wake : Binds K d_Market_wake ["self", "house", "door"] []
  a_Market_go : Addr
  d_Market_go : FuncData
  F_Market_go : FunD K "go" "Market.go" (defArgs s_Market_go) (defBody s_Market_go) (defScope s_Market_go) [] [] a_Market_go d_Market_go
  b_Market_go : Binds K d_Market_go ["self", "house"] []
  a_Market_keys_of : Addr
  d_Market_keys_of : FuncData
  F_Market_keys_of : FunD K "keys_of" "Market.keys_of" (defArgs s_Market_keys_of) (defBody s_Market_keys_of) (defScope s_Market_keys_of) [] [] a_Market_keys_of d_Market_keys_of
  b_Market_keys_of : Binds K d_Market_keys_of ["self", "houses"] []
  a_Market_newest : Addr
  d_Market_newest : FuncData
  F_Market_newest : FunD K "newest" "Market.newest" (defArgs s_Market_newest) (defBody s_Market_newest) (defScope s_Market_newest) [] [] a_Market_newest d_Market_newest
  b_Market_newest : Binds K d_Market_newest ["self", "key", "houses"] []
  a_Market_takes : Addr
  d_Market_takes : FuncData
  F_Market_takes : FunD K "takes" "Market.takes" (defArgs s_Market_takes) (defBody s_Market_takes) (defScope s_Market_takes) [] [] a_Market_takes d_Market_takes
  b_Market_takes : Binds K d_Market_takes ["self", "house", "visited"] []
  a_Market_put : Addr
  d_Market_put : FuncData
  F_Market_put : FunD K "put" "Market.put" (defArgs s_Market_put) (defBody s_Market_put) (defScope s_Market_put) [] [] a_Market_put d_Market_put
  b_Market_put : Binds K d_Market_put ["self", "houses", "key", "thing"] []
  a_Market_lay : Addr
  d_Market_lay : FuncData
  F_Market_lay : FunD K "lay" "Market.lay" (defArgs s_Market_lay) (defBody s_Market_lay) (defScope s_Market_lay) [] [] a_Market_lay d_Market_lay
  b_Market_lay : Binds K d_Market_lay ["self", "start", "key", "text"] []
  a_Market_seek : Addr
  d_Market_seek : FuncData
  F_Market_seek : FunD K "seek" "Market.seek" (defArgs s_Market_seek) (defBody s_Market_seek) (defScope s_Market_seek) [] [] a_Market_seek d_Market_seek
  b_Market_seek : Binds K d_Market_seek ["self", "start", "key"] []
  a_Market_kept : Addr
  d_Market_kept : FuncData
  F_Market_kept : FunD K "kept" "Market.kept" (defArgs s_Market_kept) (defBody s_Market_kept) (defScope s_Market_kept) [] [] a_Market_kept d_Market_kept
  b_Market_kept : Binds K d_Market_kept ["self", "house"] []
  a_Market_tide : Addr
  d_Market_tide : FuncData
  F_Market_tide : FunD K "tide" "Market.tide" (defArgs s_Market_tide) (defBody s_Market_tide) (defScope s_Market_tide) [] [] a_Market_tide d_Market_tide
  b_Market_tide : Binds K d_Market_tide ["self"] []
  a_l_cell_at : Addr
  d_l_cell_at : FuncData
  F_l_cell_at : FunD K "_law_cell_at" "_law_cell_at" (defArgs s_l_cell_at) (defBody s_l_cell_at) (defScope s_l_cell_at) [] [] a_l_cell_at d_l_cell_at
  b_l_cell_at : Binds K d_l_cell_at ["_law_script", "_law_k"] []
  m_l_cell_at : mg "_law_cell_at" = some (.ref a_l_cell_at)
  a_l_number : Addr
  d_l_number : FuncData
  F_l_number : FunD K "_law_number" "_law_number" (defArgs s_l_number) (defBody s_l_number) (defScope s_l_number) [] [] a_l_number d_l_number
  b_l_number : Binds K d_l_number ["_law_cell", "_law_k", "_law_plain"] []
  m_l_number : mg "_law_number" = some (.ref a_l_number)
  a_l_names : Addr
  d_l_names : FuncData
  F_l_names : FunD K "_law_names" "_law_names" (defArgs s_l_names) (defBody s_l_names) (defScope s_l_names) [] [] a_l_names d_l_names
  b_l_names : Binds K d_l_names ["_law_number_here", "_law_wide", "_law_many"] []
  m_l_names : mg "_law_names" = some (.ref a_l_names)
  a_l_by_nearness : Addr
  d_l_by_nearness : FuncData
  F_l_by_nearness : FunD K "_law_by_nearness" "_law_by_nearness" (defArgs s_l_by_nearness) (defBody s_l_by_nearness) (defScope s_l_by_nearness) [] [] a_l_by_nearness d_l_by_nearness
  b_l_by_nearness : Binds K d_l_by_nearness ["_law_goal", "_law_names_here"] []
  m_l_by_nearness : mg "_law_by_nearness" = some (.ref a_l_by_nearness)
  a_l_built : Addr
  d_l_built : FuncData
  F_l_built : FunD K "_law_built" "_law_built" (defArgs s_l_built) (defBody s_l_built) (defScope s_l_built) [] [] a_l_built d_l_built
  b_l_built : Binds K d_l_built ["_law_market", "_law_names_here", "_law_cells", "_law_plain"] []
  m_l_built : mg "_law_built" = some (.ref a_l_built)
  a_l_goes_out : Addr
  d_l_goes_out : FuncData
  F_l_goes_out : FunD K "_law_goes_out" "_law_goes_out" (defArgs s_l_goes_out) (defBody s_l_goes_out) (defScope s_l_goes_out) [] [] a_l_goes_out d_l_goes_out
  b_l_goes_out : Binds K d_l_goes_out ["_law_market", "_law_live", "_law_start", "_law_goal"] []
  m_l_goes_out : mg "_law_goes_out" = some (.ref a_l_goes_out)
  a_l_changed : Addr
  d_l_changed : FuncData
  F_l_changed : FunD K "_law_changed" "_law_changed" (defArgs s_l_changed) (defBody s_l_changed) (defScope s_l_changed) [] [] a_l_changed d_l_changed
  b_l_changed : Binds K d_l_changed ["_law_market", "_law_live", "_law_names_here", "_law_number_here", "_law_more"] []
  m_l_changed : mg "_law_changed" = some (.ref a_l_changed)
  a_law : Addr
  d_law : FuncData
  F_law : FunD K "law" "law" (defArgs s_law) (defBody s_law) (defScope s_law) [] [] a_law d_law
  b_law : Binds K d_law ["_law_script"] []
  m_law : mg "law" = some (.ref a_law)
  m_way_asks : mg "way_asks" = some (.ref a_way)
  C_Bucket : Addr
  c_Bucket : Cls K C_Bucket
  m_Bucket : mg "Bucket" = some (.ref C_Bucket)
  M_Bucket : Mk K C_Bucket a_Bucket_init
  n_Bucket_room : NoAttr K C_Bucket "room"
  n_Bucket_line : NoAttr K C_Bucket "line"
  t_Bucket_names : Meth K C_Bucket "names" a_Bucket_names
  t_Bucket_hears : Meth K C_Bucket "hears" a_Bucket_hears
  t_Bucket_drops : Meth K C_Bucket "drops" a_Bucket_drops
  C_Table : Addr
  c_Table : Cls K C_Table
  m_Table : mg "Table" = some (.ref C_Table)
  M_Table : Mk K C_Table a_Table_init
  n_Table_own : NoAttr K C_Table "own"
  n_Table_wide : NoAttr K C_Table "wide"
  n_Table_room : NoAttr K C_Table "room"
  n_Table_buckets : NoAttr K C_Table "buckets"
  t_Table_bucket_for : Meth K C_Table "bucket_for" a_Table_bucket_for
  t_Table_hears : Meth K C_Table "hears" a_Table_hears
  t_Table_drops : Meth K C_Table "drops" a_Table_drops
  t_Table_bucket : Meth K C_Table "bucket" a_Table_bucket
  t_Table_keeps : Meth K C_Table "keeps" a_Table_keeps
  t_Table_nearest : Meth K C_Table "nearest" a_Table_nearest
  C_Town : Addr
  c_Town : Cls K C_Town
  B_Town : Addr
  m_Town : mg "Town" = some (.ref B_Town)
  m_Market : mg "Market" = some (.ref C_Town)
  M_Market : Mk K C_Town a_Market_init
  R_Town : ClX.CRead K B_Town (.type "type")
  q_Town_init : PySem.W.findCls K (.ref B_Town) (.type "type") "__init__" = some (.val (.ref a_Town_init))
  q_Town_come : PySem.W.findCls K (.ref B_Town) (.type "type") "come" = some (.val (.ref a_Town_come))
  q_Town_go : PySem.W.findCls K (.ref B_Town) (.type "type") "go" = some (.val (.ref a_Town_go))
  n_Town_wide : NoAttr K C_Town "wide"
  n_Town_room : NoAttr K C_Town "room"
  n_Town_tables : NoAttr K C_Town "tables"
  n_Town_hushed : NoAttr K C_Town "hushed"
  n_Town_shelves : NoAttr K C_Town "shelves"
  n_Town_layings : NoAttr K C_Town "layings"
  t_Town_houses : Meth K C_Town "houses" a_Town_houses
  t_Town_answers : Meth K C_Town "answers" a_Town_answers
  t_Town_answering : Meth K C_Town "answering" a_Town_answering
  t_Town_table : Meth K C_Town "table" a_Town_table
  t_Town_look_awake : Meth K C_Town "look_awake" a_Town_look_awake
  t_Town_look_named : Meth K C_Town "look_named" a_Town_look_named
  t_Town_bucket : Meth K C_Town "bucket" a_Town_bucket
  t_Town_keeps : Meth K C_Town "keeps" a_Town_keeps
  t_Town_tells : Meth K C_Town "tells" a_Town_tells
  t_Town_hears : Meth K C_Town "hears" a_Town_hears
  t_Town_come_to : Meth K C_Town "come_to" a_Town_come_to
  t_Town_ask : Meth K C_Town "ask" a_Town_ask
  t_Town_way : Meth K C_Town "way" a_Town_way
  t_Town_visit : Meth K C_Town "visit" a_Town_visit
  t_Market_come : Meth K C_Town "come" a_Market_come
  t_Market_go : Meth K C_Town "go" a_Market_go
  t_Town_hush : Meth K C_Town "hush" a_Town_hush
  t_Market_wake : Meth K C_Town "wake" a_Market_wake
  t_Market_keys_of : Meth K C_Town "keys_of" a_Market_keys_of
  t_Market_newest : Meth K C_Town "newest" a_Market_newest
  t_Market_takes : Meth K C_Town "takes" a_Market_takes
  t_Market_put : Meth K C_Town "put" a_Market_put
  t_Market_lay : Meth K C_Town "lay" a_Market_lay
  t_Market_seek : Meth K C_Town "seek" a_Market_seek
  t_Market_kept : Meth K C_Town "kept" a_Market_kept
  t_Market_tide : Meth K C_Town "tide" a_Market_tide
  z_all : mg "all" = none
  z_any : mg "any" = none
  z_bool : mg "bool" = none
  z_enumerate : mg "enumerate" = none
  z_int : mg "int" = none
  z_isinstance : mg "isinstance" = none
  z_len : mg "len" = none
  z_list : mg "list" = none
  z_max : mg "max" = none
  z_range : mg "range" = none
  z_set : mg "set" = none
  z_sorted : mg "sorted" = none
  z_str : mg "str" = none
  t_MOST_WIDE : Tok
  m_MOST_WIDE : mg "MOST_WIDE" = some (.int 60 t_MOST_WIDE)
  t_MOST_ROOM : Tok
  m_MOST_ROOM : mg "MOST_ROOM" = some (.int 8 t_MOST_ROOM)
  k_Town_hears : Addr
  P_Town_hears : Addr
  tb_Town_hears : LamX.TabB base mg k_Town_hears P_Town_hears
  FC_Town_hears : FunC K "hears" "Town.hears" s_Town_hears a_Town_hears d_Town_hears k_Town_hears
  z0_Town_hears : ∀ H : Hp, Tabs0 K H → H P_Town_hears = some (.tbl #[])
  k_Town_ask : Addr
  P_Town_ask : Addr
  tb_Town_ask : LamX.TabB base mg k_Town_ask P_Town_ask
  FC_Town_ask : FunC K "ask" "Town.ask" s_Town_ask a_Town_ask d_Town_ask k_Town_ask
  z0_Town_ask : ∀ H : Hp, Tabs0 K H → H P_Town_ask = some (.tbl #[])
  k_Town_way : Addr
  P_Town_way : Addr
  tb_Town_way : LamX.TabB base mg k_Town_way P_Town_way
  FC_Town_way : FunC K "way" "Town.way" s_Town_way a_Town_way d_Town_way k_Town_way
  z0_Town_way : ∀ H : Hp, Tabs0 K H → H P_Town_way = some (.tbl #[])
  k_l_by_nearness : Addr
  P_l_by_nearness : Addr
  tb_l_by_nearness : LamX.TabB base mg k_l_by_nearness P_l_by_nearness
  FC_l_by_nearness : FunC K "_law_by_nearness" "_law_by_nearness" s_l_by_nearness a_l_by_nearness d_l_by_nearness k_l_by_nearness
  z0_l_by_nearness : ∀ H : Hp, Tabs0 K H → H P_l_by_nearness = some (.tbl #[])
def tabsL {K : PySem.W.Frag} {mg : Str → Option Value} {base : Heap} (T : Tx K mg base) : List NdefX.NTab := [(T.P_Town_hears, nmAll), (T.P_Town_ask, nmAll), (T.P_Town_way, nmAll), (T.P_l_by_nearness, nmAll)]
theorem tabm_Town_hears {K : PySem.W.Frag} {mg : Str → Option Value} {base : Heap} {T : Tx K mg base} : (T.P_Town_hears, nmAll) ∈ tabsL T := by simp [tabsL]
theorem tabm_Town_ask {K : PySem.W.Frag} {mg : Str → Option Value} {base : Heap} {T : Tx K mg base} : (T.P_Town_ask, nmAll) ∈ tabsL T := by simp [tabsL]
theorem tabm_Town_way {K : PySem.W.Frag} {mg : Str → Option Value} {base : Heap} {T : Tx K mg base} : (T.P_Town_way, nmAll) ∈ tabsL T := by simp [tabsL]
theorem tabm_l_by_nearness {K : PySem.W.Frag} {mg : Str → Option Value} {base : Heap} {T : Tx K mg base} : (T.P_l_by_nearness, nmAll) ∈ tabsL T := by simp [tabsL]
theorem tabnm {K : PySem.W.Frag} {mg : Str → Option Value} {base : Heap} {T : Tx K mg base} : ∀ p ∈ tabsL T, p.2 = nmAll := by simp [tabsL]
theorem Fr.tabs {K : PySem.W.Frag} {mg : Str → Option Value} {base : Heap} {T : Tx K mg base} {S : Addr → Prop} {H H' : Hp} (f : Fr S H H') (t : NdefX.TabsN (tabsL T) H) : NdefX.TabsN (tabsL T) H' := fun p hp => by
  have e := tabnm p hp
  have q := t p hp
  rw [e] at q ⊢
  exact f.tab p.1 q
theorem tabs0 {K : PySem.W.Frag} {mg : Str → Option Value} {base : Heap} {T : Tx K mg base} {H : Hp} (h : Tabs0 K H) : NdefX.TabsN (tabsL T) H := by
  unfold NdefX.TabsN tabsL
  simp only [List.mem_cons, List.not_mem_nil, or_false, forall_eq_or_imp, forall_eq, false_imp_iff, implies_true]
  exact ⟨NdefX.TabN.nil (T.z0_Town_hears H h), NdefX.TabN.nil (T.z0_Town_ask H h), NdefX.TabN.nil (T.z0_Town_way H h), NdefX.TabN.nil (T.z0_l_by_nearness H h)⟩
end Nn
namespace Nn
open PySem PySem.Spec PyProof.Rows L2
def dd_is_name : He.DefD := ⟨("is_name", none), "is_name", "is_name", defArgs s_is_name, defBody s_is_name, defScope s_is_name, [], []⟩
def dd_far : He.DefD := ⟨("far", none), "far", "far", defArgs s_far, defBody s_far, defScope s_far, [], []⟩
def dd_nearer : He.DefD := ⟨("nearer", none), "nearer", "nearer", defArgs s_nearer, defBody s_nearer, defScope s_nearer, [], []⟩
def dd_by_nearness : He.DefD := ⟨("by_nearness", none), "by_nearness", "by_nearness", defArgs s_by_nearness, defBody s_by_nearness, defScope s_by_nearness, [], []⟩
def dd_step : He.DefD := ⟨("step", none), "step", "step", defArgs s_step, defBody s_step, defScope s_step, [], []⟩
def dd_span : He.DefD := ⟨("span", none), "span", "span", defArgs s_span, defBody s_span, defScope s_span, [], []⟩
def dd_of_span : He.DefD := ⟨("of_span", none), "of_span", "of_span", defArgs s_of_span, defBody s_of_span, defScope s_of_span, [], []⟩
def dd_is_faulty : He.DefD := ⟨("is_faulty", none), "is_faulty", "is_faulty", defArgs s_is_faulty, defBody s_is_faulty, defScope s_is_faulty, [], []⟩
def dd_fault : He.DefD := ⟨("fault", none), "fault", "fault", defArgs s_fault, defBody s_fault, defScope s_fault, [], []⟩
def dd_holes : He.DefD := ⟨("holes", none), "holes", "holes", defArgs s_holes, defBody s_holes, defScope s_holes, [], []⟩
def dd_standing : He.DefD := ⟨("standing", none), "standing", "standing", defArgs s_standing, defBody s_standing, defScope s_standing, [], []⟩
def dd_asked : He.DefD := ⟨("asked", none), "asked", "asked", defArgs s_asked, defBody s_asked, defScope s_asked, [], []⟩
def dd_onward : He.DefD := ⟨("onward", none), "onward", "onward", defArgs s_onward, defBody s_onward, defScope s_onward, [], []⟩
def dd_way : He.DefD := ⟨("way", none), "way", "way", defArgs s_way, defBody s_way, defScope s_way, [], []⟩
def dd_Bucket_init : He.DefD := ⟨("Bucket", some "__init__"), "__init__", "Bucket.__init__", defArgs s_Bucket_init, defBody s_Bucket_init, defScope s_Bucket_init, [], []⟩
def dd_Bucket_names : He.DefD := ⟨("Bucket", some "names"), "names", "Bucket.names", defArgs s_Bucket_names, defBody s_Bucket_names, defScope s_Bucket_names, [], []⟩
def dd_Bucket_hears : He.DefD := ⟨("Bucket", some "hears"), "hears", "Bucket.hears", defArgs s_Bucket_hears, defBody s_Bucket_hears, defScope s_Bucket_hears, [], []⟩
def dd_Bucket_drops : He.DefD := ⟨("Bucket", some "drops"), "drops", "Bucket.drops", defArgs s_Bucket_drops, defBody s_Bucket_drops, defScope s_Bucket_drops, [], []⟩
def dd_Table_init : He.DefD := ⟨("Table", some "__init__"), "__init__", "Table.__init__", defArgs s_Table_init, defBody s_Table_init, defScope s_Table_init, [], []⟩
def dd_Table_bucket_for : He.DefD := ⟨("Table", some "bucket_for"), "bucket_for", "Table.bucket_for", defArgs s_Table_bucket_for, defBody s_Table_bucket_for, defScope s_Table_bucket_for, [], []⟩
def dd_Table_hears : He.DefD := ⟨("Table", some "hears"), "hears", "Table.hears", defArgs s_Table_hears, defBody s_Table_hears, defScope s_Table_hears, [], []⟩
def dd_Table_drops : He.DefD := ⟨("Table", some "drops"), "drops", "Table.drops", defArgs s_Table_drops, defBody s_Table_drops, defScope s_Table_drops, [], []⟩
def dd_Table_bucket : He.DefD := ⟨("Table", some "bucket"), "bucket", "Table.bucket", defArgs s_Table_bucket, defBody s_Table_bucket, defScope s_Table_bucket, [], []⟩
def dd_Table_keeps : He.DefD := ⟨("Table", some "keeps"), "keeps", "Table.keeps", defArgs s_Table_keeps, defBody s_Table_keeps, defScope s_Table_keeps, [], []⟩
def dd_Table_nearest : He.DefD := ⟨("Table", some "nearest"), "nearest", "Table.nearest", defArgs s_Table_nearest, defBody s_Table_nearest, defScope s_Table_nearest, [.non], []⟩
def dd_is_size : He.DefD := ⟨("is_size", none), "is_size", "is_size", defArgs s_is_size, defBody s_is_size, defScope s_is_size, [], []⟩
def dd_Town_init : He.DefD := ⟨("Town", some "__init__"), "__init__", "Town.__init__", defArgs s_Town_init, defBody s_Town_init, defScope s_Town_init, [], []⟩
def dd_Town_houses : He.DefD := ⟨("Town", some "houses"), "houses", "Town.houses", defArgs s_Town_houses, defBody s_Town_houses, defScope s_Town_houses, [], []⟩
def dd_Town_answers : He.DefD := ⟨("Town", some "answers"), "answers", "Town.answers", defArgs s_Town_answers, defBody s_Town_answers, defScope s_Town_answers, [], []⟩
def dd_Town_answering : He.DefD := ⟨("Town", some "answering"), "answering", "Town.answering", defArgs s_Town_answering, defBody s_Town_answering, defScope s_Town_answering, [], []⟩
def dd_Town_table : He.DefD := ⟨("Town", some "table"), "table", "Town.table", defArgs s_Town_table, defBody s_Town_table, defScope s_Town_table, [], []⟩
def dd_Town_look_awake : He.DefD := ⟨("Town", some "look_awake"), "look_awake", "Town.look_awake", defArgs s_Town_look_awake, defBody s_Town_look_awake, defScope s_Town_look_awake, [], []⟩
def dd_Town_look_named : He.DefD := ⟨("Town", some "look_named"), "look_named", "Town.look_named", defArgs s_Town_look_named, defBody s_Town_look_named, defScope s_Town_look_named, [], []⟩
def dd_Town_bucket : He.DefD := ⟨("Town", some "bucket"), "bucket", "Town.bucket", defArgs s_Town_bucket, defBody s_Town_bucket, defScope s_Town_bucket, [], []⟩
def dd_Town_keeps : He.DefD := ⟨("Town", some "keeps"), "keeps", "Town.keeps", defArgs s_Town_keeps, defBody s_Town_keeps, defScope s_Town_keeps, [], []⟩
def dd_Town_tells : He.DefD := ⟨("Town", some "tells"), "tells", "Town.tells", defArgs s_Town_tells, defBody s_Town_tells, defScope s_Town_tells, [], []⟩
def dd_Town_hears : He.DefD := ⟨("Town", some "hears"), "hears", "Town.hears", defArgs s_Town_hears, defBody s_Town_hears, defScope s_Town_hears, [], []⟩
def dd_Town_come_to : He.DefD := ⟨("Town", some "come_to"), "come_to", "Town.come_to", defArgs s_Town_come_to, defBody s_Town_come_to, defScope s_Town_come_to, [], []⟩
def dd_Town_ask : He.DefD := ⟨("Town", some "ask"), "ask", "Town.ask", defArgs s_Town_ask, defBody s_Town_ask, defScope s_Town_ask, [], []⟩
def dd_Town_way : He.DefD := ⟨("Town", some "way"), "way", "Town.way", defArgs s_Town_way, defBody s_Town_way, defScope s_Town_way, [], []⟩
def dd_Town_visit : He.DefD := ⟨("Town", some "visit"), "visit", "Town.visit", defArgs s_Town_visit, defBody s_Town_visit, defScope s_Town_visit, [], []⟩
def dd_Town_come : He.DefD := ⟨("Town", some "come"), "come", "Town.come", defArgs s_Town_come, defBody s_Town_come, defScope s_Town_come, [.non], []⟩
def dd_Town_go : He.DefD := ⟨("Town", some "go"), "go", "Town.go", defArgs s_Town_go, defBody s_Town_go, defScope s_Town_go, [], []⟩
def dd_Town_hush : He.DefD := ⟨("Town", some "hush"), "hush", "Town.hush", defArgs s_Town_hush, defBody s_Town_hush, defScope s_Town_hush, [], []⟩
def dd_Town_wake : He.DefD := ⟨("Town", some "wake"), "wake", "Town.wake", defArgs s_Town_wake, defBody s_Town_wake, defScope s_Town_wake, [], []⟩
def dd_Market_init : He.DefD := ⟨("Market", some "__init__"), "__init__", "Market.__init__", defArgs s_Market_init, defBody s_Market_init, defScope s_Market_init, [], []⟩
def dd_Market_come : He.DefD := ⟨("Market", some "come"), "come", "Market.come", defArgs s_Market_come, defBody s_Market_come, defScope s_Market_come, [.non], []⟩
def dd_Market_wake : He.DefD := ⟨("Market", some "wake"), "wake", "Market.wake", defArgs s_Market_wake, defBody s_Market_wake, defScope s_Market_wake, [], []⟩
def dd_Market_go : He.DefD := ⟨("Market", some "go"), "go", "Market.go", defArgs s_Market_go, defBody s_Market_go, defScope s_Market_go, [], []⟩
def dd_Market_keys_of : He.DefD := ⟨("Market", some "keys_of"), "keys_of", "Market.keys_of", defArgs s_Market_keys_of, defBody s_Market_keys_of, defScope s_Market_keys_of, [], []⟩
def dd_Market_newest : He.DefD := ⟨("Market", some "newest"), "newest", "Market.newest", defArgs s_Market_newest, defBody s_Market_newest, defScope s_Market_newest, [], []⟩
def dd_Market_takes : He.DefD := ⟨("Market", some "takes"), "takes", "Market.takes", defArgs s_Market_takes, defBody s_Market_takes, defScope s_Market_takes, [], []⟩
def dd_Market_put : He.DefD := ⟨("Market", some "put"), "put", "Market.put", defArgs s_Market_put, defBody s_Market_put, defScope s_Market_put, [], []⟩
def dd_Market_lay : He.DefD := ⟨("Market", some "lay"), "lay", "Market.lay", defArgs s_Market_lay, defBody s_Market_lay, defScope s_Market_lay, [], []⟩
def dd_Market_seek : He.DefD := ⟨("Market", some "seek"), "seek", "Market.seek", defArgs s_Market_seek, defBody s_Market_seek, defScope s_Market_seek, [], []⟩
def dd_Market_kept : He.DefD := ⟨("Market", some "kept"), "kept", "Market.kept", defArgs s_Market_kept, defBody s_Market_kept, defScope s_Market_kept, [], []⟩
def dd_Market_tide : He.DefD := ⟨("Market", some "tide"), "tide", "Market.tide", defArgs s_Market_tide, defBody s_Market_tide, defScope s_Market_tide, [], []⟩
def dd_l_cell_at : He.DefD := ⟨("_law_cell_at", none), "_law_cell_at", "_law_cell_at", defArgs s_l_cell_at, defBody s_l_cell_at, defScope s_l_cell_at, [], []⟩
def dd_l_number : He.DefD := ⟨("_law_number", none), "_law_number", "_law_number", defArgs s_l_number, defBody s_l_number, defScope s_l_number, [], []⟩
def dd_l_names : He.DefD := ⟨("_law_names", none), "_law_names", "_law_names", defArgs s_l_names, defBody s_l_names, defScope s_l_names, [], []⟩
def dd_l_by_nearness : He.DefD := ⟨("_law_by_nearness", none), "_law_by_nearness", "_law_by_nearness", defArgs s_l_by_nearness, defBody s_l_by_nearness, defScope s_l_by_nearness, [], []⟩
def dd_l_built : He.DefD := ⟨("_law_built", none), "_law_built", "_law_built", defArgs s_l_built, defBody s_l_built, defScope s_l_built, [], []⟩
def dd_l_goes_out : He.DefD := ⟨("_law_goes_out", none), "_law_goes_out", "_law_goes_out", defArgs s_l_goes_out, defBody s_l_goes_out, defScope s_l_goes_out, [], []⟩
def dd_l_changed : He.DefD := ⟨("_law_changed", none), "_law_changed", "_law_changed", defArgs s_l_changed, defBody s_l_changed, defScope s_l_changed, [], []⟩
def dd_law : He.DefD := ⟨("law", none), "law", "law", defArgs s_law, defBody s_law, defScope s_law, [], []⟩
def fnL : List He.DefD := [dd_is_name, dd_far, dd_nearer, dd_by_nearness, dd_step, dd_span, dd_of_span, dd_is_faulty, dd_fault, dd_holes, dd_standing, dd_asked, dd_onward, dd_way, dd_Bucket_init, dd_Bucket_names, dd_Bucket_hears, dd_Bucket_drops, dd_Table_init, dd_Table_bucket_for, dd_Table_hears, dd_Table_drops, dd_Table_bucket, dd_Table_keeps, dd_Table_nearest, dd_is_size, dd_Town_init, dd_Town_houses, dd_Town_answers, dd_Town_answering, dd_Town_table, dd_Town_look_awake, dd_Town_look_named, dd_Town_bucket, dd_Town_keeps, dd_Town_tells, dd_Town_hears, dd_Town_come_to, dd_Town_ask, dd_Town_way, dd_Town_visit, dd_Town_come, dd_Town_go, dd_Town_hush, dd_Town_wake, dd_Market_init, dd_Market_come, dd_Market_wake, dd_Market_go, dd_Market_keys_of, dd_Market_newest, dd_Market_takes, dd_Market_put, dd_Market_lay, dd_Market_seek, dd_Market_kept, dd_Market_tide, dd_l_cell_at, dd_l_number, dd_l_names, dd_l_by_nearness, dd_l_built, dd_l_goes_out, dd_l_changed, dd_law]
def faL : List He.Fa := [.glo "is_name",
  .glo "far",
  .glo "nearer",
  .glo "by_nearness",
  .glo "step",
  .glo "span",
  .glo "of_span",
  .glo "is_faulty",
  .glo "fault",
  .glo "holes",
  .glo "standing",
  .glo "asked",
  .glo "onward",
  .glo "way",
  .glo "is_size",
  .glo "_law_cell_at",
  .glo "_law_number",
  .glo "_law_names",
  .glo "_law_by_nearness",
  .glo "_law_built",
  .glo "_law_goes_out",
  .glo "_law_changed",
  .glo "law",
  .glo "Town",
  .glo "Bucket",
  .cls "Bucket",
  .mkr "Bucket",
  .noat "Bucket" "room",
  .noat "Bucket" "line",
  .meth "Bucket" "names",
  .meth "Bucket" "hears",
  .meth "Bucket" "drops",
  .glo "Table",
  .cls "Table",
  .mkr "Table",
  .noat "Table" "own",
  .noat "Table" "wide",
  .noat "Table" "room",
  .noat "Table" "buckets",
  .meth "Table" "bucket_for",
  .meth "Table" "hears",
  .meth "Table" "drops",
  .meth "Table" "bucket",
  .meth "Table" "keeps",
  .meth "Table" "nearest",
  .glo "Market",
  .cls "Market",
  .mkr "Market",
  .noat "Market" "wide",
  .noat "Market" "room",
  .noat "Market" "tables",
  .noat "Market" "hushed",
  .noat "Market" "shelves",
  .noat "Market" "layings",
  .meth "Market" "houses",
  .meth "Market" "answers",
  .meth "Market" "answering",
  .meth "Market" "table",
  .meth "Market" "look_awake",
  .meth "Market" "look_named",
  .meth "Market" "bucket",
  .meth "Market" "keeps",
  .meth "Market" "tells",
  .meth "Market" "hears",
  .meth "Market" "come_to",
  .meth "Market" "ask",
  .meth "Market" "way",
  .meth "Market" "visit",
  .meth "Market" "come",
  .meth "Market" "go",
  .meth "Market" "hush",
  .meth "Market" "wake",
  .meth "Market" "keys_of",
  .meth "Market" "newest",
  .meth "Market" "takes",
  .meth "Market" "put",
  .meth "Market" "lay",
  .meth "Market" "seek",
  .meth "Market" "kept",
  .meth "Market" "tide",
  .glo "way_asks",
  .free "all",
  .free "any",
  .free "bool",
  .free "enumerate",
  .free "int",
  .free "isinstance",
  .free "len",
  .free "list",
  .free "max",
  .free "range",
  .free "set",
  .free "sorted",
  .free "str",
  .int "MOST_WIDE" 60,
  .int "MOST_ROOM" 8]
abbrev RW : PySem.W.OpenRow := PySem.W.OpenLaw.row PySem.Challenge.rw_nearnames_k72_whole_losses
def aliL : List (Str × Str) := [("way_asks", "way")]
def exL (K : PySem.W.Frag) : Bool := aliL.all fun p => decide (He.ga K p.1 = He.ga K p.2)
theorem exL_ok {K : PySem.W.Frag} (h : exL K = true) {p : Str × Str} (hp : p ∈ aliL) : He.ga K p.1 = He.ga K p.2 := of_decide_eq_true (List.all_eq_true.mp h p hp)
def exLK (K : PySem.W.Frag) : Bool := exL K
def inL : List Str := ["houses", "answers", "answering", "table", "look_awake", "look_named", "bucket", "keeps", "tells", "hears", "come_to", "ask", "way", "visit", "hush"]
def cfL : List Str := ["__init__", "come", "go"]
def isVal (o : Option PySem.W.CFound) (a : Addr) : Bool := match o with
  | some (.val v) => decide (v = .ref a)
  | _ => false
theorem isVal_ok {o : Option PySem.W.CFound} {a : Addr} (h : isVal o a = true) : o = some (.val (.ref a)) := by
  unfold isVal at h
  split at h
  · rw [of_decide_eq_true h]
  · cases h
def exM (K : PySem.W.Frag) : Bool := exL K && ((PySem.W.readsIn K (He.ga K "Town") (.type "type") && decide (PySem.W.specialIn K (.ref (He.ga K "Town")) "__getattribute__" = some (some (.builtin "type.__getattribute__")))) && ((cfL.all fun m => isVal (PySem.W.findCls K (.ref (He.ga K "Town")) (.type "type") m) (He.ma K (He.ga K "Town") m)) && inL.all fun m => decide (He.ma K (He.ga K "Market") m = He.ma K (He.ga K "Town") m)))
theorem exM_ex {K : PySem.W.Frag} (h : exM K = true) : exL K = true := (He.ba h).1
theorem clL_ok {K : PySem.W.Frag} (h : exM K = true) : ClX.CRead K (He.ga K "Town") (.type "type") ∧ ∀ {m : Str}, m ∈ cfL → PySem.W.findCls K (.ref (He.ga K "Town")) (.type "type") m = some (.val (.ref (He.ma K (He.ga K "Town") m))) := by
  obtain ⟨h1, h2⟩ := He.ba (He.ba h).2
  obtain ⟨h3, h4⟩ := He.ba h1
  exact ⟨⟨h3, of_decide_eq_true h4⟩, fun hm => isVal_ok (List.all_eq_true.mp (He.ba h2).1 _ hm)⟩
theorem inL_ok {K : PySem.W.Frag} (h : exM K = true) {m : Str} (hm : m ∈ inL) : He.ma K (He.ga K "Market") m = He.ma K (He.ga K "Town") m := of_decide_eq_true (List.all_eq_true.mp (He.ba (He.ba (He.ba h).2).2).2 m hm)
theorem meth_to {K : PySem.W.Frag} {C f g : Addr} {m : Str} (e : f = g) (h : Meth K C m f) : Meth K C m g := e ▸ h
/-- a hook that sees the statics, too -/
def obY (n : Nat) (g : Addr → Option Obj) : He.AlX :=
  let as := He.asD g n ++ [cStatics]
  (He.obsT faL fnL [] (He.frT g as), exM (He.frT g as) && He.tabsB g tfL (He.frT g as))
theorem saysY {w : World} {h : Heap} {as : List Addr} (e : (He.obsT faL fnL [] (He.frT h.get? as), exM (He.frT h.get? as) && He.tabsB h.get? tfL (He.frT h.get? as)) = He.valX fnL [] w) : He.SaysX faL fnL [] tfL exM w h (He.frT h.get? as) := by
  obtain ⟨e1, e2⟩ := Prod.mk.inj e
  obtain ⟨x1, x2⟩ := He.ba e2
  have tabs := List.all_eq_true.mp x2
  have look : ∀ p ∈ tfL, ∃ o, h.get? (He.cT (He.frT h.get? as) p).2 = some o ∧ He.emptyTab o = true := by
    intro p hp
    have y := (He.ba (tabs p hp)).2
    split at y
    · next o ho => exact ⟨o, ho, y⟩
    · cases y
  refine { t := e1, more := x1, hd := fun p hp => (He.ba (tabs p hp)).1, out := ?_, empty := ?_ }
  · intro p hp
    obtain ⟨o, q, z⟩ := look p hp
    exact He.frT_none q z
  · intro p hp
    obtain ⟨o, q, z⟩ := look p hp
    rw [q, He.emptyTab_eq z]
def hkX : PySem.W.Hook where
  α := He.AlX
  obs := fun s => obY 6 s.heap.get?
  val := He.valX fnL []
  says := fun w h => ∃ K, PySem.W.Frag.In K h ∧ He.SaysX faL fnL [] tfL exM w h K
  of := by
    intro w s e
    exact ⟨_, He.frT_in, saysY e⟩
  keeps := by
    intro w h h' ⟨K, i, c⟩ k
    exact ⟨K, i.keeps k, c.t, c.more, c.hd, c.out, fun p hp => k _ _ (c.empty p hp)⟩
def obL (s : PySem.W.SharedT) : He.AlX := obY 6 (HandSHeadRun.getT s)
theorem obL_eq (s : PySem.W.SharedT) : obL s = hkX.obs s.abs := congrArg (obY 6) (funext (HandSHeadRun.getT_eq s))
def loose0 : List Str := ["_wall", "NearError", "NoSize", "NoName", "NoHouse", "Taken", "Silent", "is_name", "far", "nearer", "by_nearness", "step", "span", "of_span", "is_faulty", "fault", "holes", "standing", "asked", "onward", "way", "way_asks", "Bucket", "Table", "MOST_WIDE", "MOST_ROOM", "is_size", "Town", "Market", "_law_cell_at"]
def loose1 : List Str := ["_law_number", "_law_names", "_law_by_nearness", "_law_built", "_law_goes_out", "_law_changed"]
def looseL : List Str := loose0 ++ loose1
theorem runL (w : World) : HandSHeadRun.RunEq RW (PySem.W.view RW.prog [45]) hkX obL 6000 looseL w := by
  intro os
  kernel_rfl
end Nn
local macro_rules | `(tactic| walk_at "wz") => `(tactic| dsimp only [↓Nn.e_next, ↓Nn.e_asg, ↓Nn.e_name, ↓Nn.e_ret, ↓Nn.e_retN, ↓Nn.e_drop, ↓Nn.e_ifS, ↓Nn.e_IT, ↓Nn.e_IF, ↓Nn.e_INT, ↓Nn.e_INF, ↓Nn.e_if, ↓Nn.e_varS, ↓Nn.e_c, ↓Nn.e_op, ↓Nn.e_un, ↓Nn.e_cb, ↓Nn.e_nil, ↓Nn.e_cons, ↓Nn.e_test, ↓Nn.e_B, ↓Nn.e_and, ↓Nn.e_or, ↓Nn.e_not, ↓Nn.e_andV, ↓Nn.e_orV, ↓Nn.e_notV, ↓Nn.e_chain, ↓Nn.e_for, ↓Nn.e_fld, ↓Nn.e_sfld, ↓Nn.e_meth, ↓Nn.e_methC, ↓Nn.e_callC, ↓Nn.e_make, ↓Nn.e_sl, ↓Nn.e_nopart, ↓Nn.e_part, ↓Nn.e_dget, ↓Nn.e_dget2, ↓Nn.e_dpop1, ↓Nn.e_dpop2, ↓Nn.e_din, ↓Nn.e_dnin, ↓Nn.e_dput, ↓Nn.e_dnew, ↓Nn.e_bits, ↓Nn.e_lenSet, ↓Nn.e_lc, ↓Nn.e_wipe0, ↓Nn.e_wipe1, ↓Nn.e_yes, ↓Nn.e_rng1, ↓Nn.e_rng2, ↓Nn.e_rng3, ↓Nn.e_iList, ↓Nn.e_iTup, ↓Nn.e_keys, ↓Nn.e_iEnum, ↓Nn.e_iZip, ↓Nn.e_bm, ↓Nn.e_bm0, ↓Nn.e_tup, ↓Nn.e_lst, ↓Nn.e_calld, ↓Nn.e_T, ↓Nn.e_F, ↓Nn.e_NT, ↓Nn.e_NF, ↓List.set_cons_zero, ↓List.set_cons_succ, ↓List.cons_append, ↓List.nil_append])
local macro_rules | `(tactic| walk_at "wx") => `(tactic| repeat (walk_at "wx1"))
local macro_rules | `(tactic| walk_at "wx1") => `(tactic| (first
  | with_reducible refine Nn.x_v0 ?_
  | with_reducible refine Nn.x_seq ?_
  | walk_at "wz"
  | with_reducible refine Nn.x_bl ?_
  | with_reducible refine Nn.x_i0 ?_
  | ((with_reducible refine Nn.x_i ?_ ?_); (focus (walk_at "wside")))
  | with_reducible refine Nn.x_eqI ?_
  | with_reducible refine Nn.x_neI ?_
  | with_reducible refine Nn.x_INs ?_
  | with_reducible refine Nn.x_IEs ?_
  | with_reducible refine Nn.x_NEs ?_
  | with_reducible refine Nn.x_Es ?_
  | with_reducible refine Nn.x_whT ?_
  | with_reducible refine Nn.x_whF ?_
  | walk_at "wx2"))
local macro_rules | `(tactic| walk_at "wx2") => `(tactic| (first
  | ((with_reducible refine' Nn.x_ixL ?hS ?hA ?_); (case hS => walk_at "wsq"); (case hA => walk_at "wat"))
  | ((with_reducible refine' Nn.x_ixT ?hS ?hA ?_); (case hS => walk_at "wsqt"); (case hA => walk_at "wat"))
  | ((with_reducible refine' Nn.x_lenL ?hS ?_); (case hS => walk_at "wsq"))
  | ((with_reducible refine' Nn.x_lenT ?hS ?_); (case hS => walk_at "wsqt"))
  | ((with_reducible refine' Nn.x_tyL ?hS ?_); (case hS => walk_at "wsq"))
  | ((with_reducible refine' Nn.x_append ?hS ?hA ?_); (case hS => walk_at "wob"); (case hA => walk_at "wlen"))
  | ((with_reducible refine' Nn.x_gTup ?hS ?hA ?_); (case hS => walk_at "wsqt"); (case hA => rfl))
  | with_reducible refine Nn.x_gCons ?_
  | with_reducible refine Nn.x_gNil ?_
  | ((with_reducible refine' Nn.x_shl1 ?hS ?hA ?_); (case hS => walk_at "wnat"); (case hA => omega))
  | ((with_reducible refine Nn.x_rgN ?_ ?_); (focus (walk_at "wside")))
  | ((with_reducible refine Nn.x_rgDown ?_ ?_); (focus (walk_at "wside")))
  | ((with_reducible refine' Nn.x_itL ?hS ?_); (case hS => walk_at "wsq"))
  | ((with_reducible refine' Nn.x_itT ?hS ?_); (case hS => walk_at "wsqt"))
  | ((with_reducible refine' Nn.x_enL ?hS ?_); (case hS => walk_at "wsq"))
  | ((with_reducible refine' Nn.x_ziL ?hS ?hA ?_); (case hS => walk_at "wsq"); (case hA => walk_at "wsq"))
  | ((with_reducible refine' Nn.x_lenD ?hS ?_); (case hS => walk_at "wob"))
  | ((with_reducible refine' Nn.x_shrN ?hS ?hA ?_); (case hS => walk_at "wnat"); (case hA => walk_at "wnat"))
  | ((with_reducible refine' Nn.x_xorN ?hS ?hA ?_); (case hS => walk_at "wnat"); (case hA => walk_at "wnat"))
  | ((with_reducible refine' Nn.x_shlN ?hS ?hA ?hB ?hC ?_); (case hS => walk_at "wnat"); (case hA => walk_at "wnat"); (case hB => walk_at "wpre"); (case hC => walk_at "wpre"))
  | with_reducible refine Nn.x_bits ?_
  | ((with_reducible refine' Nn.x_eqLN ?hS ?hA ?_); (case hS => walk_at "wsq"); (case hA => walk_at "wsq"))
  | ((with_reducible refine' Nn.x_neLN ?hS ?hA ?_); (case hS => walk_at "wsq"); (case hA => walk_at "wsq"))
  | ((with_reducible refine' Nn.x_dget ?hS ?hA ?_); (case hS => walk_at "wob"); (case hA => walk_at "wat"))
  | ((with_reducible refine' Nn.x_din ?hS ?_); (case hS => walk_at "wob"))
  | ((with_reducible refine' Nn.x_dnin ?hS ?_); (case hS => walk_at "wob"))
  | ((with_reducible refine' Nn.x_dgetR ?hS ?hA ?_); (case hS => assumption); (case hA => walk_at "wat"))
  | ((with_reducible refine' Nn.x_dgetS ?hS ?hA ?_); (case hS => walk_at "wrd"); (case hA => assumption))
  | ((with_reducible refine' Nn.x_dinR ?hS ?_); (case hS => assumption))
  | ((with_reducible refine' Nn.x_dninR ?hS ?_); (case hS => assumption))
  | ((with_reducible refine' Nn.x_itK ?hS ?_); (case hS => walk_at "wob"))
  | ((with_reducible refine' Nn.x_dpop1 ?hS ?_); (case hS => walk_at "wob"))
  | ((with_reducible refine' Nn.x_p1 ?hS ?hA ?_); (case hS => walk_at "wob"); (case hA => assumption))
  | ((with_reducible refine' Nn.x_dpop2 ?hS ?_); (case hS => walk_at "wob"))
  | ((with_reducible refine' Nn.x_dget2 ?hS ?_); (case hS => walk_at "wob"))
  | ((with_reducible refine' Nn.x_g2 ?hS ?_); (case hS => walk_at "wob"))
  | ((with_reducible refine' Nn.x_dput ?hS ?hA ?_); (case hS => walk_at "wob"); (case hA => walk_at "wlen"))
  | ((with_reducible refine' Nn.x_fld ?hS ?hA ?hB ?hC ?_); (case hS => walk_at "wob"); (case hA => assumption); (case hB => assumption); (case hC => walk_at "wlk"))
  | ((with_reducible refine' Nn.x_sfld ?hS ?hA ?hB ?hE ?hC ?_); (case hS => walk_at "wob"); (case hA => assumption); (case hB => assumption); (case hE => walk_at "wput"); (case hC => rfl))
  | ((with_reducible refine' Nn.x_meth ?hS ?hA ?_); (case hS => walk_at "wob"); (case hA => walk_at "wnolk"))
  | ((with_reducible refine' Nn.x_methC ?hS ?hA ?_); (case hS => walk_at "wob"); (case hA => walk_at "wnolk"))
  | ((with_reducible refine' Nn.x_inN ?hS ?hA ?_); (case hS => walk_at "wnat"); (case hA => walk_at "wsq"))
  | ((with_reducible refine' Nn.x_ninN ?hS ?hA ?_); (case hS => walk_at "wnat"); (case hA => walk_at "wsq"))
  | with_reducible refine Nn.x_truB ?_
  | ((with_reducible refine' Nn.x_aug2 ?hS ?_); (case hS => rfl))
  | with_reducible refine Nn.x_augI ?_
  | with_reducible refine Nn.x_isNN ?_
  | with_reducible refine Nn.x_isNI ?_
  | with_reducible refine Nn.x_isNB ?_
  | with_reducible refine Nn.x_isNS ?_
  | with_reducible refine Nn.x_isNR ?_
  | with_reducible refine Nn.x_notNN ?_
  | with_reducible refine Nn.x_notNI ?_
  | with_reducible refine Nn.x_notNB ?_
  | with_reducible refine Nn.x_notNS ?_
  | with_reducible refine Nn.x_notNR ?_
  | with_reducible refine Nn.x_part ?_
  | with_reducible refine Nn.x_u ?_
  | with_reducible refine Nn.x_min2 ?_
  | with_reducible refine Nn.x_max2 ?_
  | with_reducible refine Nn.x_abs ?_
  | with_reducible refine Nn.x_eqB ?_
  | with_reducible refine Nn.x_neB ?_
  | with_reducible refine Nn.x_eqS ?_
  | with_reducible refine Nn.x_neS ?_
  | with_reducible refine Nn.x_intI ?_
  | with_reducible refine Nn.x_intB ?_
  | walk_at "wisi"
  | walk_at "wc"))
local macro_rules | `(tactic| walk_at "wside") => `(tactic| (first
  | with_reducible assumption
  | with_reducible exact Nn.two_pos
  | omega
  | (show (0 : Int) < _; first | omega | decide +kernel)
  | exact Or.inr ⟨by omega, by omega⟩
  | exact Or.inl ⟨by omega, by omega⟩
  | exact ⟨by omega, by decide +kernel⟩
  | exact ⟨by omega, by omega, by omega⟩
  | (show (0 : Int) ≤ _; first | omega | decide +kernel | exact Int.mul_nonneg (by omega) (by omega))))
local macro_rules | `(tactic| walk_at "wob") => `(tactic| (first
  | with_reducible assumption
  | exact L2.upd_same
  | ((with_reducible refine' Nn.at_new ?hNone ?hKept); (case hNone => assumption); (case hKept => walk_at "wob"))
  | ((with_reducible refine' Nn.at_upd ?hSome ?hAt ?hDif); (case hSome => assumption); (case hAt => walk_at "wob"); (case hDif => (intro z; cases z)))
  | exact Nn.Ex.at (by assumption) (by assumption)
  | assumption))
local macro_rules | `(tactic| walk_at "wrd") => `(tactic| (first
  | with_reducible assumption
  | ((refine' Or.inl ?hOb); (case hOb => walk_at "wob"))
  | assumption))
local macro_rules | `(tactic| walk_at "wlen") => `(tactic| (rw [PySem.sizeLine_eq]; simp only [List.length_map, List.length_append, List.length_cons, List.length_nil]; omega))
local macro_rules | `(tactic| walk_at "wsqt") => `(tactic| (first
  | with_reducible assumption
  | ((refine' L2.SqT.of ?hOb); (case hOb => walk_at "wob"))
  | exact Nn.Ex.tu (by assumption) (by assumption)
  | exact L2.SqT.of L2.upd_same
  | assumption))
local macro_rules | `(tactic| walk_at "wnat") => `(tactic| with_unfolding_all rfl)
local macro_rules | `(tactic| walk_at "wsq") => `(tactic| (first
  | with_reducible assumption
  | ((refine' L2.SqL.of ?hOb); (case hOb => walk_at "wob"))
  | exact Nn.Ex.ls (by assumption) (by assumption)
  | exact Nn.Ex.ls (Nn.Ex.new (by assumption)) (by assumption)
  | exact L2.SqL.of L2.upd_same
  | assumption))
local macro_rules | `(tactic| walk_at "wat") => `(tactic| (first
  | with_reducible assumption
  | exact Nn.atI_hd
  | with_unfolding_all rfl
  | assumption))
local macro_rules | `(tactic| walk_at "wisi") => `(tactic| ((with_reducible refine Nn.x_isG ?_); (first
  | with_reducible refine Nn.x_isI_int ?_
  | with_reducible refine Nn.x_isI_bool ?_
  | with_reducible refine Nn.x_isI_str ?_
  | with_reducible refine Nn.x_isB_int ?_
  | with_reducible refine Nn.x_isB_bool ?_
  | with_reducible refine Nn.x_isB_str ?_
  | with_reducible refine Nn.x_isS_int ?_
  | with_reducible refine Nn.x_isS_bool ?_
  | with_reducible refine Nn.x_isS_str ?_
  | with_reducible refine Nn.x_isN_int ?_
  | with_reducible refine Nn.x_isN_bool ?_
  | with_reducible refine Nn.x_isN_str ?_
  | ((with_reducible refine' Nn.x_isL_int ?hS ?_); (case hS => walk_at "wob"))
  | ((with_reducible refine' Nn.x_isL_list ?hS ?_); (case hS => walk_at "wob"))
  | ((with_reducible refine' Nn.x_isL_tuple ?hS ?_); (case hS => walk_at "wob"))
  | ((with_reducible refine' Nn.x_isT_int ?hS ?_); (case hS => walk_at "wob"))
  | ((with_reducible refine' Nn.x_isT_list ?hS ?_); (case hS => walk_at "wob"))
  | ((with_reducible refine' Nn.x_isT_tuple ?hS ?_); (case hS => walk_at "wob"))
  | ((with_reducible refine' Nn.x_isD_int ?hS ?_); (case hS => walk_at "wob"))
  | ((with_reducible refine' Nn.x_isD_list ?hS ?_); (case hS => walk_at "wob"))
  | ((with_reducible refine' Nn.x_isD_tuple ?hS ?_); (case hS => walk_at "wob")))))
local macro_rules | `(tactic| walk_at "wpre") => `(tactic| (first
  | with_reducible assumption
  | omega
  | refine ⟨?_, ?_⟩ <;> walk_at "wpre"))
local macro_rules | `(tactic| walk_at "wlk") => `(tactic| (first | with_reducible exact Nn.lk_Bucket_room | with_reducible exact Nn.lk_Bucket_line | with_reducible exact Nn.lk_Table_own | with_reducible exact Nn.lk_Table_wide | with_reducible exact Nn.lk_Table_room | with_reducible exact Nn.lk_Table_buckets | with_reducible exact Nn.lk_Town_wide | with_reducible exact Nn.lk_Town_room | with_reducible exact Nn.lk_Town_tables | with_reducible exact Nn.lk_Town_hushed | with_reducible exact Nn.lk_Town_shelves | with_reducible exact Nn.lk_Town_layings | exact Nn.lk_Bucket_room | exact Nn.lk_Bucket_line | exact Nn.lk_Table_own | exact Nn.lk_Table_wide | exact Nn.lk_Table_room | exact Nn.lk_Table_buckets | exact Nn.lk_Town_wide | exact Nn.lk_Town_room | exact Nn.lk_Town_tables | exact Nn.lk_Town_hushed | exact Nn.lk_Town_shelves | exact Nn.lk_Town_layings))
local macro_rules | `(tactic| walk_at "wnolk") => `(tactic| (first | with_reducible exact Nn.no_Bucket_names | with_reducible exact Nn.no_Bucket_hears | with_reducible exact Nn.no_Bucket_drops | with_reducible exact Nn.no_Table_bucket_for | with_reducible exact Nn.no_Table_hears | with_reducible exact Nn.no_Table_drops | with_reducible exact Nn.no_Table_bucket | with_reducible exact Nn.no_Table_keeps | with_reducible exact Nn.no_Table_nearest | with_reducible exact Nn.no_Town_houses | with_reducible exact Nn.no_Town_answers | with_reducible exact Nn.no_Town_answering | with_reducible exact Nn.no_Town_table | with_reducible exact Nn.no_Town_look_awake | with_reducible exact Nn.no_Town_look_named | with_reducible exact Nn.no_Town_bucket | with_reducible exact Nn.no_Town_keeps | with_reducible exact Nn.no_Town_tells | with_reducible exact Nn.no_Town_hears | with_reducible exact Nn.no_Town_come_to | with_reducible exact Nn.no_Town_ask | with_reducible exact Nn.no_Town_way | with_reducible exact Nn.no_Town_visit | with_reducible exact Nn.no_Town_come | with_reducible exact Nn.no_Town_go | with_reducible exact Nn.no_Town_hush | with_reducible exact Nn.no_Town_wake | with_reducible exact Nn.no_Town_keys_of | with_reducible exact Nn.no_Town_newest | with_reducible exact Nn.no_Town_takes | with_reducible exact Nn.no_Town_put | with_reducible exact Nn.no_Town_lay | with_reducible exact Nn.no_Town_seek | with_reducible exact Nn.no_Town_kept | with_reducible exact Nn.no_Town_tide | exact Nn.no_Bucket_names | exact Nn.no_Bucket_hears | exact Nn.no_Bucket_drops | exact Nn.no_Table_bucket_for | exact Nn.no_Table_hears | exact Nn.no_Table_drops | exact Nn.no_Table_bucket | exact Nn.no_Table_keeps | exact Nn.no_Table_nearest | exact Nn.no_Town_houses | exact Nn.no_Town_answers | exact Nn.no_Town_answering | exact Nn.no_Town_table | exact Nn.no_Town_look_awake | exact Nn.no_Town_look_named | exact Nn.no_Town_bucket | exact Nn.no_Town_keeps | exact Nn.no_Town_tells | exact Nn.no_Town_hears | exact Nn.no_Town_come_to | exact Nn.no_Town_ask | exact Nn.no_Town_way | exact Nn.no_Town_visit | exact Nn.no_Town_come | exact Nn.no_Town_go | exact Nn.no_Town_hush | exact Nn.no_Town_wake | exact Nn.no_Town_keys_of | exact Nn.no_Town_newest | exact Nn.no_Town_takes | exact Nn.no_Town_put | exact Nn.no_Town_lay | exact Nn.no_Town_seek | exact Nn.no_Town_kept | exact Nn.no_Town_tide))
local macro_rules | `(tactic| walk_at "wput") => `(tactic| (first | with_reducible exact Nn.ini_Bucket_room | with_reducible exact Nn.put_Bucket_room | with_reducible exact Nn.ini_Bucket_line | with_reducible exact Nn.put_Bucket_line | with_reducible exact Nn.ini_Table_own | with_reducible exact Nn.put_Table_own | with_reducible exact Nn.ini_Table_wide | with_reducible exact Nn.put_Table_wide | with_reducible exact Nn.ini_Table_room | with_reducible exact Nn.put_Table_room | with_reducible exact Nn.ini_Table_buckets | with_reducible exact Nn.put_Table_buckets | with_reducible exact Nn.ini_Town_wide | with_reducible exact Nn.put_Town_wide | with_reducible exact Nn.ini_Town_room | with_reducible exact Nn.put_Town_room | with_reducible exact Nn.ini_Town_tables | with_reducible exact Nn.put_Town_tables | with_reducible exact Nn.ini_Town_hushed | with_reducible exact Nn.put_Town_hushed | with_reducible exact Nn.ini_Town_shelves | with_reducible exact Nn.put_Town_shelves | with_reducible exact Nn.ini_Town_layings | with_reducible exact Nn.put_Town_layings | exact Nn.ini_Bucket_room | exact Nn.put_Bucket_room | exact Nn.ini_Bucket_line | exact Nn.put_Bucket_line | exact Nn.ini_Table_own | exact Nn.put_Table_own | exact Nn.ini_Table_wide | exact Nn.put_Table_wide | exact Nn.ini_Table_room | exact Nn.put_Table_room | exact Nn.ini_Table_buckets | exact Nn.put_Table_buckets | exact Nn.ini_Town_wide | exact Nn.put_Town_wide | exact Nn.ini_Town_room | exact Nn.put_Town_room | exact Nn.ini_Town_tables | exact Nn.put_Town_tables | exact Nn.ini_Town_hushed | exact Nn.put_Town_hushed | exact Nn.ini_Town_shelves | exact Nn.put_Town_shelves | exact Nn.ini_Town_layings | exact Nn.put_Town_layings))

namespace Nn
open PySem L2
/-! the bits -/
theorem xor_div_pow (a b k : Nat) : (a ^^^ b) / 2 ^ k = (a / 2 ^ k) ^^^ (b / 2 ^ k) := by
  rw [← Nat.shiftRight_eq_div_pow, ← Nat.shiftRight_eq_div_pow, ← Nat.shiftRight_eq_div_pow, Nat.shiftRight_xor_distrib]
theorem xor_mod_two (a b : Nat) : (a ^^^ b) % 2 = if a % 2 ≠ b % 2 then 1 else 0 := by
  have h := @Nat.xor_mod_two_eq_one a b
  rcases Nat.mod_two_eq_zero_or_one (a ^^^ b) with e | e
  · rw [e]
    split
    · rename_i q
      exact absurd (h.mpr (by omega)) (by omega)
    · rfl
  · rw [e]
    split
    · rfl
    · rename_i q
      exact absurd (h.mp e) (by omega)
theorem mod_pow_succ (x k : Nat) : x % 2 ^ (k + 1) = x % 2 ^ k + 2 ^ k * (x / 2 ^ k % 2) := Nat.mod_pow_succ
theorem xor_add (a b : Nat) : a ^^^ b ≤ a + b := by
  have h := Bits.nat_xor_add_and a b
  omega
theorem xor_tri (a b c : Nat) : a ^^^ c ≤ (a ^^^ b) + (b ^^^ c) := by
  have e : a ^^^ c = (a ^^^ b) ^^^ (b ^^^ c) := by
    rw [Nat.xor_assoc, ← Nat.xor_assoc b b c, Nat.xor_self, Nat.zero_xor]
  rw [e]; exact xor_add _ _

/-! the step, the span -/
def stepN (a b : Nat) : Nat := (a ^^^ b).log2
def lowN (n k : Nat) : Nat := ((n / 2 ^ k) ^^^ 1) * 2 ^ k
theorem xor_ne_zero {a b : Nat} (h : a ≠ b) : a ^^^ b ≠ 0 := fun e => h (by
  have q : a ^^^ (a ^^^ b) = a ^^^ 0 := by rw [e]
  rw [← Nat.xor_assoc, Nat.xor_self, Nat.zero_xor, Nat.xor_zero] at q
  exact q.symm)
theorem xor_eq_one {x y : Nat} : x ^^^ y = 1 ↔ y = x ^^^ 1 := by
  constructor
  · intro h; rw [← h, ← Nat.xor_assoc, Nat.xor_self, Nat.zero_xor]
  · intro h; rw [h, ← Nat.xor_assoc, Nat.xor_self, Nat.zero_xor]
theorem log2_eq {x k : Nat} (h : x ≠ 0) : x.log2 = k ↔ x / 2 ^ k = 1 := by
  have hp := Nat.two_pow_pos k
  constructor
  · intro e
    have h1 := Nat.log2_self_le h
    have h2 := Nat.lt_log2_self (n := x)
    rw [e] at h1 h2
    rw [Nat.pow_succ] at h2
    exact Nat.div_eq_of_lt_le (by omega) (by omega)
  · intro e
    have h1 : 2 ^ k ≤ x := by
      have := Nat.div_mul_le_self x (2 ^ k)
      rw [e] at this; omega
    have h2 : x < 2 ^ (k + 1) := by
      have := Nat.lt_div_mul_add (a := x) hp
      rw [e] at this
      rw [Nat.pow_succ]; omega
    exact (Nat.log2_eq_iff h).mpr ⟨h1, h2⟩
/-- the step is k just where the rest behind k is the one's with its last sign turned -/
theorem stepN_eq {a b k : Nat} (h : a ≠ b) : stepN a b = k ↔ b / 2 ^ k = (a / 2 ^ k) ^^^ 1 := by
  unfold stepN
  rw [log2_eq (xor_ne_zero h), xor_div_pow, xor_eq_one]
theorem xor_one_ne {x : Nat} : x ^^^ 1 ≠ x := fun e => by
  have q : x ^^^ (x ^^^ 1) = x ^^^ x := by rw [e]
  rw [← Nat.xor_assoc, Nat.xor_self, Nat.zero_xor] at q
  exact absurd q (by decide)
/-- in the span just those -/
theorem in_span {n k b : Nat} : (lowN n k ≤ b ∧ b ≤ lowN n k + 2 ^ k - 1) ↔ b / 2 ^ k = (n / 2 ^ k) ^^^ 1 := by
  have hp := Nat.two_pow_pos k
  unfold lowN
  constructor
  · intro ⟨h1, h2⟩
    exact Nat.div_eq_of_lt_le (by omega) (by rw [Nat.succ_mul]; omega)
  · intro e
    have h1 := Nat.div_mul_le_self b (2 ^ k)
    have h2 := Nat.lt_div_mul_add (a := b) hp
    rw [e] at h1 h2
    omega
theorem in_span_ne {n k b : Nat} (h : b / 2 ^ k = (n / 2 ^ k) ^^^ 1) : n ≠ b := fun e => by
  rw [← e] at h
  exact xor_one_ne h.symm
theorem span_step {n k b : Nat} : (lowN n k ≤ b ∧ b ≤ lowN n k + 2 ^ k - 1) ↔ (n ≠ b ∧ stepN n b = k) := by
  rw [in_span]
  constructor
  · intro h
    exact ⟨in_span_ne h, (stepN_eq (in_span_ne h)).mpr h⟩
  · intro ⟨h, e⟩
    exact (stepN_eq h).mp e
theorem low_lt {n k w : Nat} (hn : n < 2 ^ w) (hk : k < w) : lowN n k + 2 ^ k ≤ 2 ^ w := by
  have e : 2 ^ w = 2 ^ (w - k) * 2 ^ k := by rw [← Nat.pow_add]; congr 1; omega
  have h1 : n / 2 ^ k < 2 ^ (w - k) := Nat.div_lt_of_lt_mul (by rw [Nat.mul_comm, ← e]; exact hn)
  have h2 : (n / 2 ^ k) ^^^ 1 < 2 ^ (w - k) := Nat.xor_lt_two_pow h1 (Nat.one_lt_two_pow (by omega))
  unfold lowN
  rw [e, ← Nat.succ_mul]
  exact Nat.mul_le_mul_right _ h2
theorem stepN_lt {a b w : Nat} (ha : a < 2 ^ w) (hb : b < 2 ^ w) (h : a ≠ b) : stepN a b < w := (Nat.log2_lt (xor_ne_zero h)).mpr (Nat.xor_lt_two_pow ha hb)
theorem bitLen {x : Nat} : Builtin.Int.intBits (x : Int) = if x = 0 then 0 else x.log2 + 1 := by
  unfold Builtin.Int.intBits
  simp
/-- who is outside a span stands alike to all of it -/
theorem aside {g o one c k : Nat} (h1 : one / 2 ^ k = c) (h2 : o / 2 ^ k ≠ c) : g ^^^ o < g ^^^ one ↔ (g / 2 ^ k) ^^^ (o / 2 ^ k) < (g / 2 ^ k) ^^^ c := by
  have e1 := xor_div_pow g o k
  have e2 := xor_div_pow g one k
  rw [h1] at e2
  have ne : (g / 2 ^ k) ^^^ (o / 2 ^ k) ≠ (g / 2 ^ k) ^^^ c := fun e => h2 (by
    have q : (g / 2 ^ k) ^^^ ((g / 2 ^ k) ^^^ (o / 2 ^ k)) = (g / 2 ^ k) ^^^ ((g / 2 ^ k) ^^^ c) := by rw [e]
    rw [← Nat.xor_assoc, ← Nat.xor_assoc, Nat.xor_self, Nat.zero_xor, Nat.zero_xor] at q
    exact q)
  rw [← e1, ← e2] at ne ⊢
  constructor
  · intro h
    have := Nat.div_le_div_right (c := 2 ^ k) (Nat.le_of_lt h)
    omega
  · intro h
    exact Nat.lt_of_div_lt_div h
end Nn
namespace Nn
/-! lists without twice, rising; by nearness -/
def insU (x : Nat) : List Nat → List Nat
  | [] => [x]
  | y :: r => if x < y then x :: y :: r else if x = y then y :: r else y :: insU x r
def sortU : List Nat → List Nat
  | [] => []
  | x :: r => insU x (sortU r)
theorem mem_insU {x z : Nat} : ∀ {l : List Nat}, z ∈ insU x l ↔ z = x ∨ z ∈ l
  | [] => by simp [insU]
  | y :: r => by
    unfold insU
    by_cases h : x < y
    · rw [if_pos h]; simp
    · rw [if_neg h]
      by_cases e : x = y
      · rw [if_pos e, e]; simp
      · rw [if_neg e, List.mem_cons, mem_insU (l := r), List.mem_cons]
        constructor
        · rintro (h | h | h)
          · exact .inr (.inl h)
          · exact .inl h
          · exact .inr (.inr h)
        · rintro (h | h | h)
          · exact .inr (.inl h)
          · exact .inl h
          · exact .inr (.inr h)
theorem insU_sorted {x : Nat} : ∀ {l : List Nat}, l.Pairwise (· < ·) → (insU x l).Pairwise (· < ·)
  | [], _ => by simp [insU]
  | y :: r, h => by
    have h1 := List.pairwise_cons.mp h
    unfold insU
    by_cases hx : x < y
    · rw [if_pos hx]
      refine List.pairwise_cons.mpr ⟨fun z hz => ?_, h⟩
      rcases List.mem_cons.mp hz with e | hz
      · omega
      · have := h1.1 z hz; omega
    · rw [if_neg hx]
      by_cases e : x = y
      · rw [if_pos e]; exact h
      · rw [if_neg e]
        refine List.pairwise_cons.mpr ⟨fun z hz => ?_, insU_sorted h1.2⟩
        rcases mem_insU.mp hz with e | hz
        · omega
        · exact h1.1 z hz
theorem mem_sortU {z : Nat} : ∀ {l : List Nat}, z ∈ sortU l ↔ z ∈ l
  | [] => by simp [sortU]
  | x :: r => by unfold sortU; rw [mem_insU, mem_sortU (l := r), List.mem_cons]
theorem sortU_sorted : ∀ l : List Nat, (sortU l).Pairwise (· < ·)
  | [] => by simp [sortU]
  | x :: r => insU_sorted (sortU_sorted r)
/-- two rising lists of the same members are one -/
theorem rising_eq : ∀ {a b : List Nat}, a.Pairwise (· < ·) → b.Pairwise (· < ·) → (∀ z, z ∈ a ↔ z ∈ b) → a = b
  | [], [], _, _, _ => rfl
  | [], y :: r, _, _, h => absurd ((h y).mpr (List.mem_cons_self ..)) (by simp)
  | x :: r, [], _, _, h => absurd ((h x).mp (List.mem_cons_self ..)) (by simp)
  | x :: r, y :: s, ha, hb, h => by
    have h1 := List.pairwise_cons.mp ha
    have h2 := List.pairwise_cons.mp hb
    have e : x = y := by
      have a1 := (h x).mp (List.mem_cons_self ..)
      have a2 := (h y).mpr (List.mem_cons_self ..)
      rcases List.mem_cons.mp a1 with e | a1
      · exact e
      · rcases List.mem_cons.mp a2 with e | a2
        · exact e.symm
        · have b1 := h1.1 y a2
          have b2 := h2.1 x a1
          omega
    subst e
    refine congrArg (x :: ·) (rising_eq h1.2 h2.2 fun z => ?_)
    constructor
    · intro hz
      rcases List.mem_cons.mp ((h z).mp (List.mem_cons_of_mem _ hz)) with e | q
      · have := h1.1 z hz; omega
      · exact q
    · intro hz
      rcases List.mem_cons.mp ((h z).mpr (List.mem_cons_of_mem _ hz)) with e | q
      · have := h2.1 z hz; omega
      · exact q
theorem rising_nodup {l : List Nat} (h : l.Pairwise (· < ·)) : l.Nodup := h.imp fun {a b} q => Nat.ne_of_lt q
theorem sortU_of_rising {l : List Nat} (h : l.Pairwise (· < ·)) : sortU l = l := rising_eq (sortU_sorted l) h fun _ => mem_sortU
theorem sortU_congr {a b : List Nat} (h : ∀ z, z ∈ a ↔ z ∈ b) : sortU a = sortU b := rising_eq (sortU_sorted _) (sortU_sorted _) fun z => by rw [mem_sortU, mem_sortU, h]
theorem nodup_len : ∀ {a b : List Nat}, a.Nodup → (∀ z ∈ a, z ∈ b) → a.length ≤ b.length
  | [], _, _, _ => Nat.zero_le _
  | x :: r, b, h, hs => by
    have h1 := List.nodup_cons.mp h
    have hx := hs x (List.mem_cons_self ..)
    have e := List.length_erase_of_mem hx
    have hp : 0 < b.length := List.length_pos_of_mem hx
    have ih := nodup_len (b := b.erase x) h1.2 fun z hz => by
      have ne : z ≠ x := fun e => h1.1 (e ▸ hz)
      exact (List.mem_erase_of_ne ne).mpr (hs z (List.mem_cons_of_mem _ hz))
    rw [List.length_cons]
    omega
theorem xor_self_left (g n : Nat) : g ^^^ (g ^^^ n) = n := by rw [← Nat.xor_assoc, Nat.xor_self, Nat.zero_xor]
theorem xor_inj {g a b : Nat} (h : g ^^^ a = g ^^^ b) : a = b := by
  have q : g ^^^ (g ^^^ a) = g ^^^ (g ^^^ b) := by rw [h]
  rwa [xor_self_left, xor_self_left] at q
/-- by nearness to g, each once -/
def byN (g : Nat) (ns : List Nat) : List Nat := (sortU (ns.map (g ^^^ ·))).map (g ^^^ ·)
theorem mem_byN {g z : Nat} {ns : List Nat} : z ∈ byN g ns ↔ z ∈ ns := by
  unfold byN
  rw [List.mem_map]
  constructor
  · rintro ⟨k, hk, rfl⟩
    obtain ⟨n, hn, rfl⟩ := List.mem_map.mp (mem_sortU.mp hk)
    rw [xor_self_left]; exact hn
  · intro h
    exact ⟨g ^^^ z, mem_sortU.mpr (List.mem_map.mpr ⟨z, h, rfl⟩), xor_self_left _ _⟩
theorem byN_sorted (g : Nat) (ns : List Nat) : (byN g ns).Pairwise fun a b => g ^^^ a < g ^^^ b := by
  unfold byN
  rw [List.pairwise_map]
  exact (sortU_sorted _).imp fun {a b} h => by rw [xor_self_left, xor_self_left]; exact h
theorem byN_nodup (g : Nat) (ns : List Nat) : (byN g ns).Nodup := (byN_sorted g ns).imp fun {a b} h e => by rw [e] at h; exact Nat.lt_irrefl _ h
/-- the one list that is ordered so, with these members -/
theorem byN_uniq {g : Nat} {ns l : List Nat} (hs : l.Pairwise fun a b => g ^^^ a < g ^^^ b) (hm : ∀ z, z ∈ l ↔ z ∈ ns) : l = byN g ns := by
  have e : l.map (g ^^^ ·) = sortU (ns.map (g ^^^ ·)) := by
    refine rising_eq (List.pairwise_map.mpr hs) (sortU_sorted _) fun z => ?_
    rw [mem_sortU, List.mem_map, List.mem_map]
    constructor
    · rintro ⟨a, h, e⟩; exact ⟨a, (hm a).mp h, e⟩
    · rintro ⟨a, h, e⟩; exact ⟨a, (hm a).mpr h, e⟩
  unfold byN
  rw [← e, List.map_map]
  have : ((g ^^^ ·) ∘ (g ^^^ ·) : Nat → Nat) = id := funext fun n => xor_self_left g n
  rw [this, List.map_id]
theorem byN_congr {g : Nat} {a b : List Nat} (h : ∀ z, z ∈ a ↔ z ∈ b) : byN g a = byN g b := byN_uniq (byN_sorted g a) fun z => by rw [mem_byN, h]
theorem byN_len_le {g : Nat} {ns : List Nat} : (byN g ns).length ≤ ns.length := nodup_len (byN_nodup g ns) fun _ h => mem_byN.mp h
theorem byN_len {g g' : Nat} {ns : List Nat} : (byN g ns).length = (byN g' ns).length :=
  Nat.le_antisymm (nodup_len (byN_nodup _ _) fun _ h => mem_byN.mpr (mem_byN.mp h)) (nodup_len (byN_nodup _ _) fun _ h => mem_byN.mpr (mem_byN.mp h))
end Nn
/-! set(list of ints), as the layer's sets are kept -/
namespace Nn
open PySem PySem.Spec PyProof.Rows L2
section
variable {P : Program} {w : World} {A : Around} {E : Value → Shared → Prop} {s : Shared}
/-- a set's object, just made -/
abbrev newS (w : World) : Obj := { cls := .type "set", dict := none, data := .set #[] 0 (.fresh 0 0 (!w.params.followText "set-order")) }
/-- what the filling of a new set at S by the list at l does -/
def Filled (w : World) (S : Addr) (ns : List Int) (s s2 : Shared) : Prop := ∃ (h2 : Heap) (tk c : Nat), s2 = { s with heap := h2, toks := tk } ∧ SetR w h2 S (fun j => decide (j ∈ ns)) c ∧ c ≤ ns.length ∧ ∀ b o, b ≠ S → s.heap.get? b = some o → h2.get? b = some o
set_option maxRecDepth 100000 in
set_option maxHeartbeats 3200000 in
theorem fill_set {S l : Addr} {items : Array Value} {ns : List Int} {Q : Value → Shared → Prop} (hh : A.handled = none) (hS : s.heap.get? S = some (newS w)) (hl : s.heap.IsList l items) (hit : IntsAre items.toList ns) (hb : ns.length + 1 < scanBound)
    (h : ∀ s2, Filled w S ns s s2 → Q .none s2) : codeAny (model P w) A (.call (.builtin "set.__init__") ⟨[.ref S, .ref l], []⟩) (wants Q E) s := by
  have hT : Shared.TypeIs s (.ref S) "set" := ⟨_, hS, rfl⟩
  have hlen : items.size = ns.length := by
    have q := IntsAre.length hit
    rwa [Array.length_toList] at q
  have hlS : l ≠ S := fun z => by
    obtain ⟨o, ho, _, n, hd⟩ := hl
    rw [z, hS] at ho
    cases ho
    cases hd
  refine codeAny_call_builtin F.called_set.init.plain F.entry_set_init (check_set_init_1 hT ?_)
  obtain ⟨⟨oc, od, ob, osl⟩, hol, hcl, nl, hdl⟩ := id hl
  simp only at hcl hdl
  subst hcl hdl
  have a1 := F.sub_list_set
  have a2 := F.sub_list_frozenset
  have a3 : (Value.type "list" == Value.type "dict") = false := by decide
  unfold Builtin.«set.__init__» noKeywords Builtin.Frozenset.updateFrom
  generalize hPI : pyIter = PI
  wp_walk
  subst hPI
  refine wpAny_pyIter_list hl ?_
  refine wpAny_bind (wpAny_runValue ?_)
  have hi3 : A.in1.in1.handled = none := by simp [hh]
  have low : ∀ {b : Addr} {o : Obj}, s.heap.get? b = some o → b ≠ s.heap.objs.size := fun e => Nat.ne_of_lt (Heap.lt_size e)
  have hfp : S ∉ [s.heap.objs.size, l] := by
    simp only [List.mem_cons, List.not_mem_nil, or_false, not_or]
    exact ⟨low hS, hlS.symm⟩
  have hS2 : ∀ o : Obj, (s.heap.push o).get? S = some (newS w) := fun o => Heap.get?_push_of_some _ hS
  have hv2 : ∀ (i : Nat) (v : Value), items[i]? = some v → ∃ k t, ns[i]? = some k ∧ v = .int k t := fun i v hv => by
    have hi : i < ns.length := by rw [← hlen]; exact (Array.getElem?_eq_some_iff.mp hv).1
    obtain ⟨t, e⟩ := PyProof.Rows.IntsAre.int_at hit i v ((Array.getElem?_toList).trans hv)
    refine ⟨ns[i], t, List.getElem?_eq_getElem hi, e.trans ?_⟩
    rw [List.getD_eq_getElem?_getD, List.getElem?_eq_getElem hi]; rfl
  refine set_update_ints ((Walks.list hi3 _ l (low hol) items).toS) S hfp ns hlen hb hv2 (items.size - 0) 0 _ (by omega) (Nat.zero_le _) ?hSt ?hS0 ?hR
  · exact ⟨⟨_, Heap.get?_push_size _ rfl, rfl, rfl⟩, hl.push _⟩
  · exact ⟨0, Nat.le_refl 0, setR_new_at (w := w) (hS2 _)⟩
  · rintro ⟨h2, g2, d2, tk2, o2⟩ c hm hc hR
    obtain rfl : g2 = s.gens := hm.gens
    obtain rfl : d2 = s.drawn := hm.drawn
    obtain rfl : o2 = s.os := hm.os
    rw [hlen] at hc
    show wpAny (model P w) _ (pure ()) _ _ _
    refine wpAny_pure ?_
    show wpAny (model P w) _ (ret Value.none) _ _ _
    refine wpAny_pure ?_
    refine h _ ⟨h2, tk2, c, rfl, hR, hc, fun b o nb e => hm.heap b o ?_ (Heap.get?_push_of_some _ e)⟩
    simp only [List.mem_cons, List.not_mem_nil, or_false, not_or]
    exact ⟨nb, low e⟩
set_option maxRecDepth 100000 in
set_option maxHeartbeats 3200000 in
theorem call_set_L {l : Addr} {items : Array Value} {ns : List Int} {Q : Value → Shared → Prop} (hh : A.handled = none) (hl : s.heap.IsList l items) (hit : IntsAre items.toList ns) (hb : ns.length + 1 < scanBound)
    (h : ∀ s2, Filled w s.heap.objs.size ns { s with heap := s.heap.push (newS w) } s2 → Q (.ref s.heap.objs.size) s2) : wpAny (model P w) A (call (.type "set") [.ref l]) Q E s := by
  obtain ⟨c, tl, hmro⟩ := F.called_set.mro
  have b1 := F.called_set.made
  have b2 := F.called_set.sub
  have b3 := F.called_set.notType
  have b4 := F.called_set.canCreate
  have b5 := F.typeCall_set_1 (.ref l)
  refine wpAny_call (codeAny_of_tree ?_)
  show wpAny (model P w) _ (callAny (.type "set") ⟨[.ref l], []⟩) _ _ s
  refine wpAny_pure ⟨Code.quiet_builtin _ (by decide +kernel), ?_⟩
  refine codeAny_builtin F.entry_type_call ?_
  rw [Around.under_plain (weight_type_call_type "set" [.ref l] []) rfl]
  repeat (any_goals (first | assumption | wp_step))
  refine codeAny_mono (code_set_led1 (.ref l) (E := E) (Q₁ := fun o s1 => o = .ref s.heap.objs.size ∧ s1 = { s with heap := s.heap.push (newS w) }) ⟨rfl, rfl⟩) fun r s1 hr => ?_
  match r, hr with
  | .error e, hr => exact hr
  | .ok .next, hr => exact hr.elim
  | .ok .brk, hr => exact hr.elim
  | .ok .cont, hr => exact hr.elim
  | .ok (.ret o), hr =>
    obtain ⟨rfl, rfl⟩ := hr
    have hS : (s.heap.push (newS w)).get? s.heap.objs.size = some (newS w) := Heap.get?_push_size _ rfl
    have hT : Shared.TypeIs { s with heap := s.heap.push (newS w) } (.ref s.heap.objs.size) "set" := ⟨_, hS, rfl⟩
    have b6 := F.called_set.init.lookup
    have b7 := F.called_set.init.bind (.ref s.heap.objs.size)
    repeat (any_goals (first | assumption | wp_step))
    refine codeAny_mono (fill_set (S := s.heap.objs.size) (l := l) (ns := ns) (items := items) (E := E) (Q := fun r s2 => r = .none ∧ Filled w s.heap.objs.size ns { s with heap := s.heap.push (newS w) } s2) (by simp [hh]) hS (hl.push _) hit hb fun s2 f => ⟨rfl, f⟩) fun r2 s2 hr2 => ?_
    match r2, hr2 with
    | .error e, hr2 => exact hr2
    | .ok .next, hr2 => exact hr2.elim
    | .ok .brk, hr2 => exact hr2.elim
    | .ok .cont, hr2 => exact hr2.elim
    | .ok (.ret o), hr2 =>
      obtain ⟨rfl, f⟩ := hr2
      obtain ⟨h2, tk, c2, rfl, g1, g2, g3⟩ := id f
      repeat (any_goals (first | assumption | wp_step))
      exact h _ f
end
theorem nodup_lenI : ∀ {a b : List Int}, a.Nodup → (∀ z ∈ a, z ∈ b) → a.length ≤ b.length
  | [], _, _, _ => Nat.zero_le _
  | x :: r, b, nd, h => by
    obtain ⟨n1, n2⟩ := List.nodup_cons.mp nd
    have hx := h x List.mem_cons_self
    have e := List.length_erase_of_mem hx
    have p := List.length_pos_of_mem hx
    have q := nodup_lenI (a := r) (b := b.erase x) n2 fun z hz => (List.mem_erase_of_ne fun y => n1 (by rw [← y]; exact hz)).mpr (h z (List.mem_cons_of_mem _ hz))
    rw [List.length_cons]
    omega
theorem setR_le {w : World} {h : Heap} {a : Addr} {S : Int → Bool} {n : Nat} {k : List Int} (R : SetR w h a S n) (hk : ∀ j, S j = true → j ∈ k) : n ≤ k.length := by
  obtain ⟨o, es, ep, t, _, _, _, _, nd, hm, _, _, hn, _⟩ := R
  have q := nodup_lenI nd fun z hz => hk z ((hm z).mpr hz)
  rw [List.length_map, Array.length_toList, hn] at q
  exact q
/-- set(xs), xs a list of ints -/
def rSetL (K : PySem.W.Frag) (w : World) : List V → Hp → VK → Prop := fun xs H Q => ∃ (l : Addr) (ns : List Int), xs = [.ref l] ∧ SqL K H l (ns.map V.int) ∧ ns.length ≤ 4090 ∧ ∀ p c, H p = none → c ≤ ns.length → (∀ k : List Int, (∀ j ∈ ns, j ∈ k) → c ≤ k.length) → Q (.ref p) (upd H p (SetO w p (fun j => decide (j ∈ ns)) c))
theorem cr_setL {X : Cx} (hc : X.calm = true) : CallR X (.type "set") (rSetL X.K X.w) := by
  intro pins s σ H xs us Q I r h
  obtain ⟨l, ns, rfl, hq, hz, q⟩ := h
  rw [Vals.ref1 r]
  obtain ⟨its, r2, pl, hz2⟩ := I.list hq
  refine call_set_L (I.ok.hd hc) pl.isList (by simpa using RZ.intsAre_vals r2) (by unfold scanBound; omega) fun s2 f => ?_
  obtain ⟨h2, tk, c, rfl, g1, g2, g3⟩ := f
  have nf : H s.heap.objs.size = none := I.hok.fresh (Nat.le_refl _)
  refine ⟨.ref _, upd H s.heap.objs.size (SetO X.w s.heap.objs.size (fun j => decide (j ∈ ns)) c), I.laid (t' := tk) (fun b u e => g3 b u (Nat.ne_of_lt (Heap.lt_size e)) (Heap.get?_push_of_some _ e)) (Nat.le_refl _) (setO_new g1), rfl, q _ c nf g2 fun k hk => setR_le g1 fun j hj => hk j (of_decide_eq_true hj)⟩
/-- how many members a rising list of them has -/
theorem x_setL {K : PySem.W.Frag} {w : World} {H : Hp} {Q : VK} {l : Addr} {ns : List Nat} (hS : SqL K H l (ns.map nV)) (hz : ns.length ≤ 4090) (h : ∀ p c, H p = none → c ≤ ns.length → Q (.ref p) (upd H p (SetO w p (fun j => decide (j ∈ ns.map fun n : Nat => (n : Int))) c))) : rSetL K w [.ref l] H Q :=
  ⟨l, ns.map fun n : Nat => (n : Int), rfl, by rw [← map_nV]; exact hS, by rw [List.length_map]; exact hz, fun p c hp hc _ => h p c hp (by rw [List.length_map] at hc; exact hc)⟩
theorem x_setLK {K : PySem.W.Frag} {w : World} {H : Hp} {Q : VK} {l : Addr} {ns k : List Nat} (hS : SqL K H l (ns.map nV)) (hz : ns.length ≤ 4090) (hk : ∀ j ∈ ns, j ∈ k) (h : ∀ p c, H p = none → c ≤ k.length → Q (.ref p) (upd H p (SetO w p (fun j => decide (j ∈ ns.map fun n : Nat => (n : Int))) c))) : rSetL K w [.ref l] H Q :=
  ⟨l, ns.map fun n : Nat => (n : Int), rfl, by rw [← map_nV]; exact hS, by rw [List.length_map]; exact hz, fun p c hp _ hc => h p c hp (by
    have q := hc (k.map fun n : Nat => (n : Int)) fun j hj => by
      obtain ⟨n, hn, rfl⟩ := List.mem_map.mp hj
      exact List.mem_map.mpr ⟨n, hk n hn, rfl⟩
    rw [List.length_map] at q; exact q)⟩
theorem x_sortSet {w : World} {H : Hp} {Q : VK} {p : Addr} {ns : List Nat} {c : Nat} (hp : H p = some (SetO w p (fun j => decide (j ∈ ns.map fun n : Nat => (n : Int))) c)) (hc : c < 64) (h : ∀ q, H q = none → Q (.ref q) (upd H q (.lst ((sortU ns).map nV)))) : rSortedSet w [.ref p] H Q := by
  refine ⟨p, _, c, rfl, hp, hc, fun ys q hr hm hl hq => ?_⟩
  have hmem : ∀ y ∈ ys, ∃ n : Nat, n ∈ ns ∧ y = (n : Int) := fun y hy => by
    obtain ⟨n, hn, e⟩ := List.mem_map.mp (of_decide_eq_true ((hm y).mp hy))
    exact ⟨n, hn, e.symm⟩
  have e : ys = (sortU ns).map fun n : Nat => (n : Int) := by
    have e1 : ys = (ys.map Int.toNat).map fun n : Nat => (n : Int) := by
      rw [List.map_map]
      refine (List.map_id ys).symm.trans (List.map_congr_left fun y hy => ?_)
      obtain ⟨n, _, rfl⟩ := hmem y hy
      simp
    have e2 : ys.map Int.toNat = sortU ns := rising_eq (by
      refine List.pairwise_map.mpr (hr.imp_of_mem fun {a b} ha hb hab => ?_)
      obtain ⟨n, _, rfl⟩ := hmem a ha
      obtain ⟨m, _, rfl⟩ := hmem b hb
      simp; omega) (sortU_sorted _) fun z => by
      rw [mem_sortU]
      constructor
      · intro hz
        obtain ⟨y, hy, e⟩ := List.mem_map.mp hz
        obtain ⟨n, hn, rfl⟩ := hmem y hy
        rw [← e]; simpa using hn
      · intro hz
        exact List.mem_map.mpr ⟨(z : Int), (hm _).mpr (decide_eq_true (List.mem_map.mpr ⟨z, hz, rfl⟩)), by simp⟩
    rw [e1, e2]
  rw [e, ← map_nV]
  exact h q hq
theorem x_sortN {K : PySem.W.Frag} {H : Hp} {Q : VK} {a : Addr} {ns : List Nat} (hS : SqL K H a (ns.map nV)) (nd : ns.Nodup) (h : ∀ p, H p = none → Q (.ref p) (upd H p (.lst ((sortU ns).map nV)))) : rSortedI K [.ref a] H Q := by
  refine ⟨a, ns.map fun n : Nat => (n : Int), rfl, by rw [← map_nV]; exact hS, fun ys p hperm hsort hp => ?_⟩
  obtain ⟨zs, rfl⟩ : ∃ zs : List Nat, ys = zs.map fun n : Nat => (n : Int) := by
    refine ⟨ys.map Int.toNat, ?_⟩
    rw [List.map_map]
    refine (List.map_id ys).symm.trans (List.map_congr_left fun y hy => ?_)
    obtain ⟨n, _, rfl⟩ := List.mem_map.mp (hperm.mem_iff.mp hy)
    simp
  have hzs : zs = sortU ns := by
    have hmem : ∀ z, z ∈ zs ↔ z ∈ ns := fun z => by
      constructor
      · intro hz
        obtain ⟨n, hn, e⟩ := List.mem_map.mp (hperm.mem_iff.mp (List.mem_map.mpr ⟨z, hz, rfl⟩))
        rw [← Int.ofNat.inj e]; exact hn
      · intro hz
        obtain ⟨n, hn, e⟩ := List.mem_map.mp (hperm.mem_iff.mpr (List.mem_map.mpr ⟨z, hz, rfl⟩))
        rw [← Int.ofNat.inj e]; exact hn
    refine rising_eq ?_ (sortU_sorted _) fun z => by rw [hmem, mem_sortU]
    have nz : zs.Nodup := by
      have q : (zs.map fun n : Nat => (n : Int)).Nodup := hperm.nodup_iff.mpr (List.Pairwise.map _ (fun a b h e => h (Int.ofNat.inj e)) nd)
      exact (List.pairwise_map.mp q).imp fun h e => h (by rw [e])
    have le : zs.Pairwise (· ≤ ·) := (List.pairwise_map.mp hsort).imp fun h => by omega
    exact (nz.and le).imp fun h => by omega
  rw [hzs, ← map_nV]
  exact h p hp
end Nn
/-! far: the bits' difference -/
namespace Nn
open PySem L2
section
variable {P : Program} {w : World} {K : PySem.W.Frag} {mg : Str → Option Value} {base : Heap} {H : Hp} {Q : VK} {E : XK}
def sp_far (_ : Tx K mg base) : Sp := fun vs H Q E => ∃ (a : Nat) (b : Nat), vs = [.int a, .int b] ∧ (Q (.int ((a ^^^ b : Nat) : Int)) H)
theorem wc_far {T : Tx K mg base} {a : Nat} {b : Nat} {i0 : Int} {i1 : Int} (e0 : i0 = a) (e1 : i1 = b)  (h : Q (.int ((a ^^^ b : Nat) : Int)) H) : sp_far T [.int i0, .int i1] H Q E := by
  subst e0 e1
  exact ⟨a, b, rfl, h⟩
theorem ok_far (T : Tx K mg base) : FnOk P w K mg base CX0 1 T.a_far T.d_far ["one", "other"] (sp_far T) := by
  refine T.F_far.okD sc_far (fun vs H Q E h => ?_) (fun cdv A outer s H vs Q E hr h => ?_)
  · obtain ⟨a, b, rfl, q⟩ := h; rfl
  · obtain ⟨a, b, rfl, q⟩ := h
    have hu := hu_of hr
    have c_Bucket := T.c_Bucket; have n_Bucket_room := T.n_Bucket_room; have n_Bucket_line := T.n_Bucket_line; have c_Table := T.c_Table; have n_Table_own := T.n_Table_own; have n_Table_wide := T.n_Table_wide; have n_Table_room := T.n_Table_room; have n_Table_buckets := T.n_Table_buckets; have c_Town := T.c_Town; have n_Town_wide := T.n_Town_wide; have n_Town_room := T.n_Town_room; have n_Town_tables := T.n_Town_tables; have n_Town_hushed := T.n_Town_hushed; have n_Town_shelves := T.n_Town_shelves; have n_Town_layings := T.n_Town_layings
    refine ⟨_, (pss_one (ps_ret (pe_op op_xor (pv 0) (pv 1)))), ?_⟩
    rw [Nn.st_far]; try rw [Nn.cxK]
    try rw [Nn.cxW]
    walk_at "wx"
    rw [Bits.bitXor_pp (Int.natCast_nonneg _) (Int.natCast_nonneg _)]
    exact q
end
end Nn
local macro_rules | `(tactic| walk_at "wc") => `(tactic| ((with_reducible refine' Nn.wc_far ?hE0 ?hE1 (?_)); (case hE0 => walk_at "wnat"); (case hE1 => walk_at "wnat")))
/-! nearer, step, span -/
namespace Nn
open PySem L2
section
variable {P : Program} {w : World} {K : PySem.W.Frag} {mg : Str → Option Value} {base : Heap} {H : Hp} {Q : VK} {E : XK}
def sp_nearer (_ : Tx K mg base) : Sp := fun vs H Q E => ∃ (g : Nat) (a : Nat) (b : Nat), vs = [.int g, .int a, .int b] ∧ (Q (.bl (decide (g ^^^ a < g ^^^ b))) H)
theorem wc_nearer {T : Tx K mg base} {g : Nat} {a : Nat} {b : Nat} {i0 : Int} {i1 : Int} {i2 : Int} (e0 : i0 = g) (e1 : i1 = a) (e2 : i2 = b)  (h : Q (.bl (decide (g ^^^ a < g ^^^ b))) H) : sp_nearer T [.int i0, .int i1, .int i2] H Q E := by
  subst e0 e1 e2
  exact ⟨g, a, b, rfl, h⟩
theorem ok_nearer (T : Tx K mg base) : FnOk P w K mg base CX0 2 T.a_nearer T.d_nearer ["goal", "one", "other"] (sp_nearer T) := by
  refine T.F_nearer.okD sc_nearer (fun vs H Q E h => ?_) (fun cdv A outer s H vs Q E hr h => ?_)
  · obtain ⟨g, a, b, rfl, q⟩ := h; rfl
  · obtain ⟨g, a, b, rfl, q⟩ := h
    have hu := hu_of hr
    have c_Bucket := T.c_Bucket; have n_Bucket_room := T.n_Bucket_room; have n_Bucket_line := T.n_Bucket_line; have c_Table := T.c_Table; have n_Table_own := T.n_Table_own; have n_Table_wide := T.n_Table_wide; have n_Table_room := T.n_Table_room; have n_Table_buckets := T.n_Table_buckets; have c_Town := T.c_Town; have n_Town_wide := T.n_Town_wide; have n_Town_room := T.n_Town_room; have n_Town_tables := T.n_Town_tables; have n_Town_hushed := T.n_Town_hushed; have n_Town_shelves := T.n_Town_shelves; have n_Town_layings := T.n_Town_layings
    refine ⟨_, (pss_one (ps_ret (pe_cmpR op_lt (pe_call (ok_far T) hr rfl T.m_far T.F_far.kp T.b_far .nil pass0 (pa_cons (pv 0) (pa_cons (pv 1) pa_nil))) (pe_call (ok_far T) hr rfl T.m_far T.F_far.kp T.b_far .nil pass0 (pa_cons (pv 0) (pa_cons (pv 2) pa_nil))) (nomark _)))), ?_⟩
    rw [Nn.st_nearer]; try rw [Nn.cxK]
    try rw [Nn.cxW]
    walk_at "wx"
    have e : decide (((g ^^^ a : Nat) : Int) < ((g ^^^ b : Nat) : Int)) = decide (g ^^^ a < g ^^^ b) := by simp
    rw [e]; exact q
end
end Nn
local macro_rules | `(tactic| walk_at "wc") => `(tactic| ((with_reducible refine' Nn.wc_nearer ?hE0 ?hE1 ?hE2 (?_)); (case hE0 => walk_at "wnat"); (case hE1 => walk_at "wnat"); (case hE2 => walk_at "wnat")))
namespace Nn
open PySem L2
section
variable {P : Program} {w : World} {K : PySem.W.Frag} {mg : Str → Option Value} {base : Heap} {H : Hp} {Q : VK} {E : XK}
def sp_step (_ : Tx K mg base) : Sp := fun vs H Q E => ∃ (a : Nat) (b : Nat), vs = [.int a, .int b] ∧ (a ≠ b) ∧ (Q (.int ((stepN a b : Nat) : Int)) H)
theorem wc_step {T : Tx K mg base} {a : Nat} {b : Nat} {i0 : Int} {i1 : Int} (e0 : i0 = a) (e1 : i1 = b) (c0 : a ≠ b) (h : Q (.int ((stepN a b : Nat) : Int)) H) : sp_step T [.int i0, .int i1] H Q E := by
  subst e0 e1
  exact ⟨a, b, rfl, c0, h⟩
theorem ok_step (T : Tx K mg base) : FnOk P w K mg base CX0 2 T.a_step T.d_step ["one", "other"] (sp_step T) := by
  refine T.F_step.okD sc_step (fun vs H Q E h => ?_) (fun cdv A outer s H vs Q E hr h => ?_)
  · obtain ⟨a, b, rfl, hpre, q⟩ := h; rfl
  · obtain ⟨a, b, rfl, hpre, q⟩ := h
    have hu := hu_of hr
    have c_Bucket := T.c_Bucket; have n_Bucket_room := T.n_Bucket_room; have n_Bucket_line := T.n_Bucket_line; have c_Table := T.c_Table; have n_Table_own := T.n_Table_own; have n_Table_wide := T.n_Table_wide; have n_Table_room := T.n_Table_room; have n_Table_buckets := T.n_Table_buckets; have c_Town := T.c_Town; have n_Town_wide := T.n_Town_wide; have n_Town_room := T.n_Town_room; have n_Town_tables := T.n_Town_tables; have n_Town_hushed := T.n_Town_hushed; have n_Town_shelves := T.n_Town_shelves; have n_Town_layings := T.n_Town_layings
    refine ⟨_, (pss_one (ps_ret (pe_op op_sub (pe_bits (pe_call (ok_far T) hr rfl T.m_far T.F_far.kp T.b_far .nil pass0 (pa_cons (pv 0) (pa_cons (pv 1) pa_nil)))) pe_int))), ?_⟩
    rw [Nn.st_step]; try rw [Nn.cxK]
    try rw [Nn.cxW]
    walk_at "wx"
    have e : (((if a ^^^ b = 0 then 0 else (a ^^^ b).log2 + 1 : Nat) : Nat) : Int) - 1 = ((stepN a b : Nat) : Int) := by
      rw [if_neg (xor_ne_zero hpre)]
      unfold stepN; omega
    rw [e]; exact q
end
end Nn
local macro_rules | `(tactic| walk_at "wc") => `(tactic| ((with_reducible refine' Nn.wc_step ?hE0 ?hE1 ?hC0 (?_)); (case hE0 => walk_at "wnat"); (case hE1 => walk_at "wnat"); (case hC0 => walk_at "wpre")))
namespace Nn
open PySem L2
section
variable {P : Program} {w : World} {K : PySem.W.Frag} {mg : Str → Option Value} {base : Heap} {H : Hp} {Q : VK} {E : XK}
def sp_span (_ : Tx K mg base) : Sp := fun vs H Q E => ∃ (n : Nat) (k : Nat), vs = [.int n, .int k] ∧ (n < 2 ^ 60 ∧ k ≤ 60) ∧ (∀ p H', H p = none → Ex H H' → H' p = some (.tup [nV (lowN n k), nV (lowN n k + 2 ^ k - 1)]) → Q (.ref p) H')
theorem wc_span {T : Tx K mg base} {n : Nat} {k : Nat} {i0 : Int} {i1 : Int} (e0 : i0 = n) (e1 : i1 = k) (c0 : n < 2 ^ 60 ∧ k ≤ 60) (h : ∀ p H', H p = none → Ex H H' → H' p = some (.tup [nV (lowN n k), nV (lowN n k + 2 ^ k - 1)]) → Q (.ref p) H') : sp_span T [.int i0, .int i1] H Q E := by
  subst e0 e1
  exact ⟨n, k, rfl, c0, h⟩
theorem ok_span (T : Tx K mg base) : FnOk P w K mg base CX0 1 T.a_span T.d_span ["name", "k"] (sp_span T) := by
  refine T.F_span.okD sc_span (fun vs H Q E h => ?_) (fun cdv A outer s H vs Q E hr h => ?_)
  · obtain ⟨n, k, rfl, hpre, q⟩ := h; rfl
  · obtain ⟨n, k, rfl, hpre, q⟩ := h
    have hu := hu_of hr
    have c_Bucket := T.c_Bucket; have n_Bucket_room := T.n_Bucket_room; have n_Bucket_line := T.n_Bucket_line; have c_Table := T.c_Table; have n_Table_own := T.n_Table_own; have n_Table_wide := T.n_Table_wide; have n_Table_room := T.n_Table_room; have n_Table_buckets := T.n_Table_buckets; have c_Town := T.c_Town; have n_Town_wide := T.n_Town_wide; have n_Town_room := T.n_Town_room; have n_Town_tables := T.n_Town_tables; have n_Town_hushed := T.n_Town_hushed; have n_Town_shelves := T.n_Town_shelves; have n_Town_layings := T.n_Town_layings
    refine ⟨_, (pss_cons (ps_set (i := 2) sc_span.nd rfl (Or.inl rfl) (pe_op op_shlN' (pe_op op_xorN (pe_op op_shrN' (pv 0) (pv 1)) pe_int) (pv 1)))
      (pss_one (ps_ret (pe_tup (pa_cons (pv 2) (pa_cons (pe_op op_sub (pe_op op_add (pv 2) (pe_op op_shl1 pe_int (pv 1))) pe_int) pa_nil)))))), ?_⟩
    rw [Nn.st_span]; try rw [Nn.cxK]
    try rw [Nn.cxW]
    walk_at "wx"
    have h1 : n / 2 ^ k ^^^ 1 < 2 ^ 64 := Nat.xor_lt_two_pow (Nat.lt_of_le_of_lt (Nat.div_le_self _ _) (by omega)) (by decide)
    refine x_shlN rfl rfl h1 (by omega) ?_
    walk_at "wx"
    refine ⟨len_ok rfl, fun p hp => ?_⟩
    refine q p _ hp (Ex.new hp) ?_
    rw [upd_same]
    have hp := Nat.two_pow_pos k
    have e : ((lowN n k : Nat) : Int) + ((2 ^ k : Nat) : Int) - 1 = ((lowN n k + 2 ^ k - 1 : Nat) : Int) := by omega
    show some (HO.tup [nV (lowN n k), .int (((lowN n k : Nat) : Int) + ((2 ^ k : Nat) : Int) - 1)]) = _
    rw [e]
end
end Nn
/-! by_nearness -/
namespace Nn
open PySem L2
section
variable {P : Program} {w : World} {K : PySem.W.Frag} {mg : Str → Option Value} {base : Heap} {H : Hp} {Q : VK} {E : XK}
/-- the dict of by_nearness: the keys ks, each with its name -/
def farD (g : Nat) (ks : List Nat) : List (Key × V) := ks.map fun k => (nK k, nV (g ^^^ k))
theorem farD_val {g n : Nat} : ∀ {ks : List Nat}, valV (farD g ks) (nK n) = if n ∈ ks then some (nV (g ^^^ n)) else none
  | [] => rfl
  | k :: r => by
    by_cases e : k = n
    · rw [if_pos (by simp [e])]
      show valV ((nK k, nV (g ^^^ k)) :: farD g r) (nK n) = _
      rw [valV_pos (by rw [e]), e]
    · show valV ((nK k, nV (g ^^^ k)) :: farD g r) (nK n) = _
      rw [valV_neg (by intro z; exact e (nK_inj z)), farD_val]
      simp [e, Ne.symm e]
theorem mem_cast {z : Nat} {l : List Nat} : (z : Int) ∈ l.map (fun n : Nat => (n : Int)) ↔ z ∈ l := by
  rw [List.mem_map]
  exact ⟨fun ⟨a, h, e⟩ => by rw [← Int.ofNat.inj e]; exact h, fun h => ⟨z, h, rfl⟩⟩
theorem farD_put {g n : Nat} {ks : List Nat} : putK (farD g ks) (nK (g ^^^ n)) (nV n) = farD g (if g ^^^ n ∈ ks then ks else ks ++ [g ^^^ n]) := by
  by_cases h : g ^^^ n ∈ ks
  · rw [if_pos h]
    unfold putK
    have e : ((farD g ks).any fun kv => decide (kv.1 = nK (g ^^^ n))) = true := by rw [valV_any, farD_val, if_pos h]; rfl
    rw [if_pos e]
    unfold farD
    rw [List.map_map]
    refine List.map_congr_left fun k _ => ?_
    show (if nK k = nK (g ^^^ n) then (nK k, nV n) else (nK k, nV (g ^^^ k))) = _
    by_cases q : k = g ^^^ n
    · rw [if_pos (by rw [q]), q, xor_self_left]
    · rw [if_neg fun z => q (nK_inj z)]
  · rw [if_neg h, putK_new _ (by rw [farD_val, if_neg h])]
    unfold farD
    rw [List.map_append]
    simp [xor_self_left]
def sp_by_nearness (_ : Tx K mg base) : Sp := fun vs H Q E => ∃ (g : Nat) (p_names : Addr) (names : List Nat), vs = [.int g, .ref p_names] ∧ (SqL K H p_names (names.map nV)) ∧ ((byN g names).length < 64 ∧ names.length ≤ 100000) ∧ (∀ p H', H p = none → Ex H H' → H' p = some (.lst ((byN g names).map nV)) → Q (.ref p) H')
theorem wc_by_nearness {T : Tx K mg base} {g : Nat} {p_names : Addr} {names : List Nat} {i0 : Int} (e0 : i0 = g) (c0 : SqL K H p_names (names.map nV)) (c1 : (byN g names).length < 64 ∧ names.length ≤ 100000) (h : ∀ p H', H p = none → Ex H H' → H' p = some (.lst ((byN g names).map nV)) → Q (.ref p) H') : sp_by_nearness T [.int i0, .ref p_names] H Q E := by
  subst e0
  exact ⟨g, p_names, names, rfl, c0, c1, h⟩
theorem ok_by_nearness (T : Tx K mg base) : FnOk P w K mg base CX0 2 T.a_by_nearness T.d_by_nearness ["goal", "names"] (sp_by_nearness T) := by
  refine T.F_by_nearness.okD sc_by_nearness (fun vs H Q E h => ?_) (fun cdv A outer s H vs Q E hr h => ?_)
  · obtain ⟨g, p_names, names, rfl, hS0, hpre, q⟩ := h; rfl
  · obtain ⟨g, p_names, names, rfl, hS0, hpre, q⟩ := h
    have hu := hu_of hr
    have c_Bucket := T.c_Bucket; have n_Bucket_room := T.n_Bucket_room; have n_Bucket_line := T.n_Bucket_line; have c_Table := T.c_Table; have n_Table_own := T.n_Table_own; have n_Table_wide := T.n_Table_wide; have n_Table_room := T.n_Table_room; have n_Table_buckets := T.n_Table_buckets; have c_Town := T.c_Town; have n_Town_wide := T.n_Town_wide; have n_Town_room := T.n_Town_room; have n_Town_tables := T.n_Town_tables; have n_Town_hushed := T.n_Town_hushed; have n_Town_shelves := T.n_Town_shelves; have n_Town_layings := T.n_Town_layings
    refine ⟨_, (pss_cons (ps_set (i := 2) sc_by_nearness.nd rfl (Or.inr rfl) pe_dnewK)
      (pss_cons (ps_for PassesOwn.never rfl (pi_list (pv 1)) (pg_name (i := 3) sc_by_nearness.nd rfl (Or.inl rfl))
      (pss_one (ps_dput hu (pv 2) (pe_call (ok_far T) hr rfl T.m_far T.F_far.kp T.b_far .nil pass0 (pa_cons (pv 0) (pa_cons (pv 3) pa_nil))) (pv 3) rfl)))
      (pss_one (ps_ret (pe_lc (own := [("one", 4)]) (g := (gName 4)) (by rfl) sc_by_nearness.nd (pi_list (pe_callB (cb_sortD rfl) (by rfl) T.z_sorted (by decide +kernel) (pa_cons (pv 2) pa_nil))) (blkOk_by (N := N_by_nearness) (sc := defScope s_by_nearness) (own := [("one", 4)]) (by decide +kernel)) (fun _ _ _ _ _ => (pg_name (i := 4) sc_by_nearness.nd rfl (Or.inl rfl))) (fun _ _ _ _ _ => pts_nil) (fun _ _ _ _ _ => (pe_dget hu (pv 2) (pv 4) (fun _ _ => rfl)))))))), ?_⟩
    rw [Nn.st_by_nearness]; try rw [Nn.cxK]
    try rw [Nn.cxW]
    walk_at "wx"
    intro d hd
    walk_at "wx"
    obtain ⟨h64, hz⟩ := hpre
    refine ForW.by walk_list (fun i σ H' => ∃ (v : Option V) (ks : List Nat), σ = [some (.int g), some (.ref p_names), some (.ref d), v, none] ∧ Ex H H' ∧ H' d = some (.dK (farD g ks)) ∧ ks.Nodup ∧ (∀ k, k ∈ ks ↔ k ∈ (names.take i).map (g ^^^ ·)))
      ⟨none, [], rfl, Ex.new hd, upd_same, List.nodup_nil, by simp⟩ (fun i σ H' _ ⟨_, _, _, e, _⟩ => e.ls hS0) ?_ ?_
    · rintro i x σ H1 _ hi ⟨v, ks, rfl, ex1, h1, nd, hm⟩ ⟨rfl, hx⟩
      rw [List.length_map] at hi
      obtain rfl : x = nV names[i] := by
        rw [List.getElem?_map, List.getElem?_eq_getElem hi] at hx
        exact (Option.some.inj hx).symm
      have et : names.take (i + 1) = names.take i ++ [names[i]] := by rw [List.take_add_one, List.getElem?_eq_getElem hi]; rfl
      have hk64 : ks.length ≤ (byN g names).length := by
        have e : (byN g names).length = (sortU (names.map (g ^^^ ·))).length := by unfold byN; rw [List.length_map]
        rw [e]
        refine nodup_len nd fun k hk => mem_sortU.mpr ?_
        obtain ⟨n, hn, rfl⟩ := List.mem_map.mp ((hm k).mp hk)
        exact List.mem_map.mpr ⟨n, List.mem_of_mem_take hn, rfl⟩
      walk_at "wx"
      refine x_dput h1 (by unfold farD; rw [sizeLine_eq, List.length_map]; omega) ?_
      have hput : putK (farD g ks) (Sum.inl ((g ^^^ names[i] : Nat) : Int)) (nV names[i]) = farD g (if g ^^^ names[i] ∈ ks then ks else ks ++ [g ^^^ names[i]]) := farD_put
      rw [hput]
      refine ⟨_, _, rfl, ex1.mut hd h1, upd_same, ?_, fun k => ?_⟩
      · by_cases h : g ^^^ names[i] ∈ ks
        · rw [if_pos h]; exact nd
        · rw [if_neg h]; exact nd_snoc nd h
      · rw [et, List.map_append, List.mem_append, ← hm]
        by_cases h : g ^^^ names[i] ∈ ks
        · rw [if_pos h]
          constructor
          · exact .inl
          · rintro (q | q)
            · exact q
            · rw [List.map_singleton, List.mem_singleton] at q; rw [q]; exact h
        · rw [if_neg h, List.mem_append]; simp
    · rintro σ H1 ⟨v, ks, rfl, ex1, h1, nd, hm⟩
      rw [List.length_map, List.take_length] at hm
      have hkeys : (farD g ks).map (·.1) = (ks.map fun n : Nat => (n : Int)).map Sum.inl := by unfold farD; rw [List.map_map, List.map_map]; rfl
      have hk64 : ks.length ≤ (byN g names).length := by
        have e : (byN g names).length = (sortU (names.map (g ^^^ ·))).length := by unfold byN; rw [List.length_map]
        rw [e]
        exact nodup_len nd fun k hk => mem_sortU.mpr ((hm k).mp hk)
      walk_at "wx"
      refine ⟨d, _, _, rfl, .inl h1, hkeys, by rw [List.length_map]; omega, fun ys p hperm hsort hp => ?_⟩
      obtain ⟨zs, rfl⟩ : ∃ zs : List Nat, ys = zs.map fun n : Nat => (n : Int) := by
        refine ⟨ys.map Int.toNat, ?_⟩
        rw [List.map_map]
        refine (List.map_id ys).symm.trans (List.map_congr_left fun y hy => ?_)
        obtain ⟨n, _, rfl⟩ := List.mem_map.mp (hperm.mem_iff.mp hy)
        simp
      have hzs : zs = sortU (names.map (g ^^^ ·)) := by
        have hmem : ∀ z, z ∈ zs ↔ z ∈ ks := fun z => by
          rw [← mem_cast (l := zs), ← mem_cast (l := ks)]
          exact hperm.mem_iff
        refine rising_eq ?_ (sortU_sorted _) fun z => by rw [hmem, hm, mem_sortU]
        have nz : zs.Nodup := by
          have q : (zs.map fun n : Nat => (n : Int)).Nodup := hperm.nodup_iff.mpr (List.Pairwise.map _ (fun a b h e => h (Int.ofNat.inj e)) nd)
          exact (List.pairwise_map.mp q).imp fun h e => h (by rw [e])
        have le : zs.Pairwise (· ≤ ·) := (List.pairwise_map.mp hsort).imp fun h => by omega
        exact (nz.and le).imp fun h => by omega
      walk_at "wx"
      refine LcW.map (emb := nV) (xs := zs) (fun k => nV (g ^^^ k)) (SqL.of (by rw [upd_same, ← map_nV])) ?_ ?_ ?_
      · have e : zs.length = (byN g names).length := by rw [hzs]; unfold byN; rw [List.length_map]
        rw [e, sizeLine_eq]; omega
      · intro k hk H2 ex2 Qe hQ
        have hd2 : H2 d = some (.dK (farD g ks)) := ex2.at ((Ex.new hp).at h1)
        have hkk : k ∈ ks := (hm k).mpr (mem_sortU.mp (by rw [← hzs]; exact hk))
        have hv : valV (farD g ks) (Sum.inl (k : Int)) = some (nV (g ^^^ k)) := by
          have q := farD_val (g := g) (n := k) (ks := ks)
          rw [if_pos hkk] at q
          exact q
        walk_at "wx"
        exact hQ _ Ex.refl
      · intro D H2 hD ex2 hD2
        refine q D H2 ?_ ((ex1.newT hp).trans ex2) ?_
        · exact (ex1.newT hp).back D hD
        · rw [hD2, hzs]; unfold byN; rw [List.map_map]; rfl
end
end Nn
/-! what answers: a town's own -/
namespace Nn
open PySem L2
/-- a dict of names -/
def dOf (hs : List Nat) (f : Nat → V) : List (Key × V) := hs.map fun h => (nK h, f h)
theorem dOf_val {f : Nat → V} {n : Nat} : ∀ {hs : List Nat}, valV (dOf hs f) (nK n) = if n ∈ hs then some (f n) else none
  | [] => rfl
  | k :: r => by
    show valV ((nK k, f k) :: dOf r f) (nK n) = _
    by_cases e : k = n
    · rw [valV_pos (by rw [e]), e, if_pos (by simp)]
    · rw [valV_neg (by intro z; exact e (nK_inj z)), dOf_val]
      simp [Ne.symm e]
theorem dOf_has {f : Nat → V} {n : Nat} {hs : List Nat} : (valV (dOf hs f) (nK n)).isSome = decide (n ∈ hs) := by
  rw [dOf_val]
  by_cases h : n ∈ hs
  · rw [if_pos h, decide_eq_true h]; rfl
  · rw [if_neg h, decide_eq_false h]; rfl
theorem dOf_keys {f : Nat → V} {hs : List Nat} : (dOf hs f).map (·.1) = (hs.map fun n : Nat => (n : Int)).map Sum.inl := by
  unfold dOf; rw [List.map_map, List.map_map]; rfl
theorem dOf_len {f : Nat → V} {hs : List Nat} : (dOf hs f).length = hs.length := by unfold dOf; rw [List.length_map]
theorem dOf_new {f : Nat → V} {hs : List Nat} {n : Nat} (h : n ∉ hs) : putK (dOf hs f) (nK n) (f n) = dOf (hs ++ [n]) f := by
  rw [putK_new _ (by rw [dOf_val, if_neg h])]
  unfold dOf; rw [List.map_append]; rfl
theorem dOf_put {f : Nat → V} {hs : List Nat} {n : Nat} (h : n ∈ hs) : putK (dOf hs f) (nK n) (f n) = dOf hs f := by
  unfold putK
  rw [if_pos (by rw [valV_any, dOf_val, if_pos h]; rfl)]
  unfold dOf
  rw [List.map_map]
  refine List.map_congr_left fun k _ => ?_
  show (if nK k = nK n then (nK k, f n) else (nK k, f k)) = _
  by_cases q : k = n
  · rw [if_pos (by rw [q]), q]
  · rw [if_neg fun z => q (nK_inj z)]
section
variable {P : Program} {w : World} {K : PySem.W.Frag} {mg : Str → Option Value} {base : Heap} {H : Hp} {Q : VK} {E : XK}
/-- a town's object and its two dicts -/
structure TwAt (T : Tx K mg base) (H : Hp) (t td hd : Addr) (x : Addr × Nat) (wide room : Nat) (hs : List Nat) (pa : Nat → Addr) (qs : List Nat) : Prop where
  ob : ∃ dx, H t = some (.ins T.C_Town dx (f_Town (nV wide) (nV room) (.ref td) (.ref hd) (.ref x.1) (nV x.2)))
  tb : H td = some (.dK (dOf hs fun h => .ref (pa h)))
  hb : H hd = some (.dK (dOf qs fun _ => .bl true))
def awB (hs qs : List Nat) (n : Nat) : Bool := decide (n ∈ hs) && !decide (n ∈ qs)
def sp_Town_answers (T : Tx K mg base) : Sp := fun vs H Q _ => ∃ (t td hd : Addr) (x : Addr × Nat) (wide room n : Nat) (hs : List Nat) (pa : Nat → Addr) (qs : List Nat), vs = [.ref t, .int n] ∧ TwAt T H t td hd x wide room hs pa qs ∧ Q (.bl (awB hs qs n)) H
theorem wc_Town_answers {T : Tx K mg base} {t td hd : Addr} {x : Addr × Nat} {wide room n : Nat} {i : Int} {hs : List Nat} {pa : Nat → Addr} {qs : List Nat} (hi : i = n) (a : TwAt T H t td hd x wide room hs pa qs) (h : Q (.bl (awB hs qs n)) H) : sp_Town_answers T [.ref t, .int i] H Q E := by
  subst hi; exact ⟨t, td, hd, x, wide, room, n, hs, pa, qs, rfl, a, h⟩
theorem ok_Town_answers (T : Tx K mg base) : FnOk P w K mg base CX0 1 T.a_Town_answers T.d_Town_answers ["self", "name"] (sp_Town_answers T) := by
  refine T.F_Town_answers.okD sc_Town_answers (fun vs H Q E h => ?_) (fun cdv A outer s H vs Q E hr h => ?_)
  · obtain ⟨t, td, hd, x, wide, room, n, hs, pa, qs, rfl, _⟩ := h; rfl
  · obtain ⟨t, td, hd, x, wide, room, n, hs, pa, qs, rfl, ⟨⟨dx, ob⟩, tb, hb⟩, q⟩ := h
    have hu := hu_of hr
    have c_Bucket := T.c_Bucket; have n_Bucket_room := T.n_Bucket_room; have n_Bucket_line := T.n_Bucket_line; have c_Table := T.c_Table; have n_Table_own := T.n_Table_own; have n_Table_wide := T.n_Table_wide; have n_Table_room := T.n_Table_room; have n_Table_buckets := T.n_Table_buckets; have c_Town := T.c_Town; have n_Town_wide := T.n_Town_wide; have n_Town_room := T.n_Town_room; have n_Town_tables := T.n_Town_tables; have n_Town_hushed := T.n_Town_hushed; have n_Town_shelves := T.n_Town_shelves; have n_Town_layings := T.n_Town_layings
    refine ⟨_, (pss_one (ps_ret (pe_and (pe_cmp (pc_din hu (pv 1) (pe_fld (pv 0) rfl))) (pe_one (pe_cmp (pc_dnotin hu (pv 1) (pe_fld (pv 0) rfl))))))), ?_⟩
    rw [Nn.st_Town_answers]; try rw [Nn.cxK]
    try rw [Nn.cxW]
    walk_at "wx"
    have e1 : (valV (dOf hs fun h => .ref (pa h)) (Sum.inl (n : Int))).isSome = decide (n ∈ hs) := dOf_has
    have e2 : (valV (dOf qs fun _ => .bl true) (Sum.inl (n : Int))).isSome = decide (n ∈ qs) := dOf_has
    rw [e1]
    unfold awB at q
    refine x_iteB (fun h => ?_) fun h => ?_
    · walk_at "wx"
      rw [e2]
      rw [h, Bool.true_and] at q
      exact q
    · rw [h, Bool.false_and] at q
      exact q
/-- a town's word on who answers; the function's cells -/
structure An where
  t : Addr
  td : Addr
  hd : Addr
  x : Addr × Nat
  wide : Nat
  room : Nat
  hs : List Nat
  pa : Nat → Addr
  qs : List Nat
  cl : List (Str × Addr)
  cd : Addr
def An.ws (A : An) : List (Option V) := [some (.ref A.t)]
def ansB (A : An) (n : Nat) : Bool := awB A.hs A.qs n
def sp_Town_hears_answers (T : Tx K mg base) : List (Option V) → Sp := fun ws vs H Q _ => ∃ (A : An) (n : Nat), ws = A.ws ∧ vs = [.int n] ∧ TwAt T H A.t A.td A.hd A.x A.wide A.room A.hs A.pa A.qs ∧ Q (.bl (ansB A n)) H
theorem nok_Town_hears_answers (T : Tx K mg base) {cl : List (Str × Addr)} {c : Addr} (f : Addr) : NdefX.NOk P w K mg base CX0 2 f (nf_Town_hears_answers cl c) ["other"] fr_Town_hears_answers (sp_Town_hears_answers T) := by
  refine NdefX.nok_of (N := N_Town_hears_answers) nsc_Town_hears_answers (fun doc pm ctv us hl => match us, hl with | [_], _ => rfl) (fun ws vs H Q E h => ?_) (fun A outer s H vs ws Q E hr hf hc hwl h => ?_)
  · obtain ⟨A, n, rfl, rfl, _⟩ := h; rfl
  · obtain ⟨A, n, rfl, rfl, a, q⟩ := h
    obtain ⟨dx, ob⟩ := a.ob
    unfold An.ws
    have c_Bucket := T.c_Bucket; have n_Bucket_room := T.n_Bucket_room; have n_Bucket_line := T.n_Bucket_line; have c_Table := T.c_Table; have n_Table_own := T.n_Table_own; have n_Table_wide := T.n_Table_wide; have n_Table_room := T.n_Table_room; have n_Table_buckets := T.n_Table_buckets; have c_Town := T.c_Town; have n_Town_wide := T.n_Town_wide; have n_Town_room := T.n_Town_room; have n_Town_tables := T.n_Town_tables; have n_Town_hushed := T.n_Town_hushed; have n_Town_shelves := T.n_Town_shelves; have n_Town_layings := T.n_Town_layings
    refine ⟨_, (pss_one (ps_ret (pe_meth (pv 1) T.c_Town T.t_Town_answers (ok_Town_answers T) hr T.b_Town_answers .nil pass0 (pa_cons (pv 0) pa_nil)))), ?_⟩
    rw [Nn.st_Town_hears_answers]; try rw [Nn.cxK]
    try rw [Nn.cxW]
    walk_at "wx"
    exact wc_Town_answers rfl a q
def AnsOf (T : Tx K mg base) (H : Hp) (f : Addr) (A : An) : Prop := H f = some (NdefX.FnO f (nf_Town_hears_answers A.cl A.cd)) ∧ H A.cd = some (LamX.CodeO A.cd (nf_Town_hears_answers A.cl A.cd).qual) ∧ TwAt T H A.t A.td A.hd A.x A.wide A.room A.hs A.pa A.qs
def AnsS (_ : An) : Addr → Prop := fun _ => False
def AnsL (_ : An) (_ : Hp) (_ : List Nat) : Prop := True
theorem AnsOf.none {T : Tx K mg base} {H : Hp} {f : Addr} {A : An} (_ : AnsOf T H f A) : AnsL A H [] := trivial
theorem AnsL.upd {A : An} {H H' : Hp} {as : List Nat} {l : Addr} (_ : AnsL A H as) (_ : Fr (fun a => a = l) H H') (_ : ¬ AnsS A l) : AnsL A H' as := trivial
theorem AnsOf.ins {T : Tx K mg base} {H : Hp} {f a : Addr} {A : An} {C dx : Addr} {fs : List (Str × V)} (_ : AnsOf T H f A) (z : AnsS A a) (_ : H a = some (.ins C dx fs)) : False := z
theorem AnsOf.say {T : Tx K mg base} {H : Hp} {f : Addr} {A : An} {x : Nat} {Q : VK} {E : XK} (h : AnsOf T H f A) (k : ∀ H2, Fr (AnsS A) H H2 → AnsL A H2 [x] → Q (.bl (ansB A x)) H2) : sp_Town_hears_answers T A.ws [.int x] H Q E := ⟨A, x, rfl, rfl, h.2.2, k H Fr.refl trivial⟩
end
end Nn
/-! buckets -/
namespace Nn
open PySem L2
/-- what a bucket of room has in its line behind hearing of n (a: the eldest answers), and the word -/
def hearL (room : Nat) (xs : List Nat) (n : Nat) (a : Bool) : List Nat :=
  if n ∈ xs then xs.erase n ++ [n] else if xs.length < room then xs ++ [n] else if a = true then xs.tail ++ [xs.headD 0] else xs.tail ++ [n]
def hearW (room : Nat) (xs : List Nat) (n : Nat) (a : Bool) : Str :=
  if n ∈ xs then "again" else if xs.length < room then "new" else if a = true then "full" else "instead"
theorem hear_in {room n : Nat} {xs : List Nat} {a : Bool} (h : n ∈ xs) : hearL room xs n a = xs.erase n ++ [n] ∧ hearW room xs n a = "again" := by
  unfold hearL hearW; rw [if_pos h, if_pos h]; exact ⟨rfl, rfl⟩
theorem hear_new {room n : Nat} {xs : List Nat} {a : Bool} (h : ¬ n ∈ xs) (r : xs.length < room) : hearL room xs n a = xs ++ [n] ∧ hearW room xs n a = "new" := by
  unfold hearL hearW; rw [if_neg h, if_neg h, if_pos r, if_pos r]; exact ⟨rfl, rfl⟩
theorem hear_full {room n x : Nat} {xs : List Nat} {a : Bool} (h : ¬ n ∈ x :: xs) (r : ¬ (x :: xs).length < room) (e : a = true) : hearL room (x :: xs) n a = xs ++ [x] ∧ hearW room (x :: xs) n a = "full" := by
  unfold hearL hearW; rw [if_neg h, if_neg h, if_neg r, if_neg r, if_pos e, if_pos e]; exact ⟨rfl, rfl⟩
theorem hear_inst {room n x : Nat} {xs : List Nat} {a : Bool} (h : ¬ n ∈ x :: xs) (r : ¬ (x :: xs).length < room) (e : a = false) : hearL room (x :: xs) n a = xs ++ [n] ∧ hearW room (x :: xs) n a = "instead" := by
  unfold hearL hearW; rw [if_neg h, if_neg h, if_neg r, if_neg r, if_neg (by simp [e]), if_neg (by simp [e])]; exact ⟨rfl, rfl⟩
theorem hear_len {room n : Nat} {xs : List Nat} {a : Bool} (h : xs.length ≤ room) (r0 : 0 < room) : (hearL room xs n a).length ≤ room := by
  unfold hearL
  by_cases h1 : n ∈ xs
  · rw [if_pos h1, List.length_append, List.length_erase_of_mem h1, List.length_singleton]
    have := List.length_pos_of_mem h1
    omega
  · rw [if_neg h1]
    by_cases h2 : xs.length < room
    · rw [if_pos h2, List.length_append, List.length_singleton]; omega
    · rw [if_neg h2]
      by_cases h3 : a = true
      · rw [if_pos h3, List.length_append, List.length_singleton, List.length_tail]; omega
      · rw [if_neg h3, List.length_append, List.length_singleton, List.length_tail]; omega
section
variable {P : Program} {w : World} {K : PySem.W.Frag} {mg : Str → Option Value} {base : Heap} {H : Hp} {Q : VK} {E : XK}
/-- a bucket at p: its line at l holds xs -/
structure BuckAt (T : Tx K mg base) (H : Hp) (p l : Addr) (room : Nat) : Prop where
  ob : ∃ dx, H p = some (.ins T.C_Bucket dx (f_Bucket (nV room) (.ref l)))
theorem BuckAt.fr {T : Tx K mg base} {S : Addr → Prop} {H H' : Hp} {p l : Addr} {room : Nat} (b : BuckAt T H p l room) (f : Fr S H H') (hs : ¬ S p) : BuckAt T H' p l room := by
  obtain ⟨dx, h⟩ := b.ob
  exact ⟨dx, f.at h hs⟩
def sp_Bucket_init (T : Tx K mg base) : Sp := fun vs H Q _ => ∃ (p dx : Addr) (room : Nat), vs = [.ref p, .int room] ∧ H p = some (.ins T.C_Bucket dx []) ∧ ∀ (l : Addr) (H' : Hp), H l = none → H' l = some (.lst []) → Fr (fun a => a = p) H H' → BuckAt T H' p l room → Q .non H'
theorem ok_Bucket_init (T : Tx K mg base) : FnOk P w K mg base CX0 1 T.a_Bucket_init T.d_Bucket_init ["self", "room"] (sp_Bucket_init T) := by
  refine T.F_Bucket_init.okD sc_Bucket_init (fun vs H Q E h => ?_) (fun cdv A outer s H vs Q E hr h => ?_)
  · obtain ⟨p, dx, room, rfl, _⟩ := h; rfl
  · obtain ⟨p, dx, room, rfl, hp, q⟩ := h
    have c_Bucket := T.c_Bucket; have n_Bucket_room := T.n_Bucket_room; have n_Bucket_line := T.n_Bucket_line; have c_Table := T.c_Table; have n_Table_own := T.n_Table_own; have n_Table_wide := T.n_Table_wide; have n_Table_room := T.n_Table_room; have n_Table_buckets := T.n_Table_buckets; have c_Town := T.c_Town; have n_Town_wide := T.n_Town_wide; have n_Town_room := T.n_Town_room; have n_Town_tables := T.n_Town_tables; have n_Town_hushed := T.n_Town_hushed; have n_Town_shelves := T.n_Town_shelves; have n_Town_layings := T.n_Town_layings
    refine ⟨_, (pss_cons (ps_fld (pv 0) (pv 1) rfl)
      (pss_one (ps_fld (pv 0) (pe_lst pa_nil) rfl))), ?_⟩
    rw [Nn.st_Bucket_init]; try rw [Nn.cxK]
    try rw [Nn.cxW]
    walk_at "wx"
    refine ⟨len_ok rfl, fun l hl => ?_⟩
    walk_at "wx"
    have hl0 : H l = none := upd_back hl
    have hne : l ≠ p := fun z => by rw [z, hp] at hl0; cases hl0
    refine q l _ hl0 (by rw [upd_ne hne, upd_same]) ?_ ⟨dx, upd_same⟩
    exact ((Fr.upd1 hp).trans (Ex.new hl).fr).trans (Fr.upd1 (u := .ins T.C_Bucket dx [("room", .int room)]) (by rw [upd_ne hne.symm, upd_same]))
def sp_Bucket_names (T : Tx K mg base) : Sp := fun vs H Q _ => ∃ (p l : Addr) (room : Nat) (xs : List V), vs = [.ref p] ∧ BuckAt T H p l room ∧ H l = some (.lst xs) ∧ ∀ q, H q = none → Q (.ref q) (upd H q (.lst xs))
theorem wc_Bucket_names {T : Tx K mg base} {p l : Addr} {room : Nat} {xs : List V} (b : BuckAt T H p l room) (hl : H l = some (.lst xs)) (h : ∀ q, H q = none → Q (.ref q) (upd H q (.lst xs))) : sp_Bucket_names T [.ref p] H Q E := ⟨p, l, room, xs, rfl, b, hl, h⟩
theorem ok_Bucket_names (T : Tx K mg base) : FnOk P w K mg base CX0 1 T.a_Bucket_names T.d_Bucket_names ["self"] (sp_Bucket_names T) := by
  refine T.F_Bucket_names.okD sc_Bucket_names (fun vs H Q E h => ?_) (fun cdv A outer s H vs Q E hr h => ?_)
  · obtain ⟨p, l, room, xs, rfl, _⟩ := h; rfl
  · obtain ⟨p, l, room, xs, rfl, ⟨dx, ob⟩, hl, q⟩ := h
    have c_Bucket := T.c_Bucket; have n_Bucket_room := T.n_Bucket_room; have n_Bucket_line := T.n_Bucket_line; have c_Table := T.c_Table; have n_Table_own := T.n_Table_own; have n_Table_wide := T.n_Table_wide; have n_Table_room := T.n_Table_room; have n_Table_buckets := T.n_Table_buckets; have c_Town := T.c_Town; have n_Town_wide := T.n_Town_wide; have n_Town_room := T.n_Town_room; have n_Town_tables := T.n_Town_tables; have n_Town_hushed := T.n_Town_hushed; have n_Town_shelves := T.n_Town_shelves; have n_Town_layings := T.n_Town_layings
    refine ⟨_, (pss_one (ps_ret (pe_callTy cb_list (by rfl) T.z_list (by decide +kernel) (pa_cons (pe_fld (pv 0) rfl) pa_nil)))), ?_⟩
    rw [Nn.st_Bucket_names]; try rw [Nn.cxK]
    try rw [Nn.cxW]
    walk_at "wx"
    exact x_listL (SqL.of hl) q
/-- who was asked -/
def askedL (room : Nat) (xs : List Nat) (n : Nat) : List Nat := if n ∈ xs then [] else if xs.length < room then [] else [xs.headD 0]
def sp_Bucket_hears (T : Tx K mg base) (cl : List (Str × Addr)) : List (Option V) → Sp := fun ws vs H Q _ => ∃ (p l : Addr) (room : Nat) (xs : List Nat) (n : Nat) (f : Addr) (A : An), cl = A.cl ∧ ws = A.ws ∧ vs = [.ref p, .int n, .ref f] ∧ BuckAt T H p l room ∧ H l = some (.lst (xs.map nV)) ∧ 0 < room ∧ room ≤ 100000 ∧ xs.length ≤ 100000 ∧ AnsOf T H f A ∧ ¬ AnsS A l ∧
  ∀ H', Fr (fun a => a = l ∨ AnsS A a) H H' → H' l = some (.lst ((hearL room xs n (ansB A (xs.headD 0))).map nV)) → AnsL A H' (askedL room xs n) → Q (.str (hearW room xs n (ansB A (xs.headD 0)))) H'
theorem wc_Bucket_hears {T : Tx K mg base} {cl : List (Str × Addr)} {ws : List (Option V)} {p l f : Addr} {room n : Nat} {xs : List Nat} {A : An} (ec : cl = A.cl) (ew : ws = A.ws) (b : BuckAt T H p l room) (hl : H l = some (.lst (xs.map nV))) (r0 : 0 < room) (r1 : room ≤ 100000) (x1 : xs.length ≤ 100000) (a : AnsOf T H f A) (s : ¬ AnsS A l)
    (h : ∀ H', Fr (fun a => a = l ∨ AnsS A a) H H' → H' l = some (.lst ((hearL room xs n (ansB A (xs.headD 0))).map nV)) → AnsL A H' (askedL room xs n) → Q (.str (hearW room xs n (ansB A (xs.headD 0)))) H') : sp_Bucket_hears T cl ws [.ref p, .int n, .ref f] H Q E :=
  ⟨p, l, room, xs, n, f, A, ec, ew, rfl, b, hl, r0, r1, x1, a, s, h⟩
theorem ok_Bucket_hears (T : Tx K mg base) {cl : List (Str × Addr)} (ws : List (Option V)) : FnOkC P w K mg base CX0 3 T.a_Bucket_hears T.d_Bucket_hears ["self", "name", "answers"] cl fr_Town_hears_answers ws (sp_Bucket_hears T cl ws) := by
  refine FunD.okC T.F_Bucket_hears sc_Bucket_hears (fun vs H Q E h => ?_) (fun cdv A outer s H vs Q E hr hC h => ?_)
  · obtain ⟨p, l, room, xs, n, f, A, rfl, rfl, rfl, _⟩ := h; rfl
  · obtain ⟨p, l, room, xs, n, f, A, rfl, rfl, rfl, ⟨dx, ob⟩, hl, r0, r1, x1, hans, hsl, q⟩ := h
    have hL0 := AnsOf.none hans
    skip
    have c_Bucket := T.c_Bucket; have n_Bucket_room := T.n_Bucket_room; have n_Bucket_line := T.n_Bucket_line; have c_Table := T.c_Table; have n_Table_own := T.n_Table_own; have n_Table_wide := T.n_Table_wide; have n_Table_room := T.n_Table_room; have n_Table_buckets := T.n_Table_buckets; have c_Town := T.c_Town; have n_Town_wide := T.n_Town_wide; have n_Town_room := T.n_Town_room; have n_Town_tables := T.n_Town_tables; have n_Town_hushed := T.n_Town_hushed; have n_Town_shelves := T.n_Town_shelves; have n_Town_layings := T.n_Town_layings
    refine ⟨_, (pss_cons (ps_if (pt_cmpR op_in_seq (pv 1) (pe_fld (pv 0) rfl) rfl)
      (pss_cons (ps_expr (pe_bm PySem.F.plainAttrs_list PySem.F.slot_list_remove PySem.F.type_list_remove mt_remove (pe_fld (pv 0) rfl) (pa_cons (pv 1) pa_nil)))
      (pss_cons (ps_expr (pe_bm PySem.F.plainAttrs_list PySem.F.slot_list_append PySem.F.type_list_append mt_append (pe_fld (pv 0) rfl) (pa_cons (pv 1) pa_nil)))
      (pss_one (ps_ret pe_str))))
      pss_nil)
      (pss_cons (ps_if (pt_cmpR op_lt (pe_callB cb_len (by rfl) T.z_len PySem.boot_len (pa_cons (pe_fld (pv 0) rfl) pa_nil)) (pe_fld (pv 0) rfl) (nomark _))
      (pss_cons (ps_expr (pe_bm PySem.F.plainAttrs_list PySem.F.slot_list_append PySem.F.type_list_append mt_append (pe_fld (pv 0) rfl) (pa_cons (pv 1) pa_nil)))
      (pss_one (ps_ret pe_str)))
      pss_nil)
      (pss_cons (ps_if (pt_val (pe_callF (F := nf_Town_hears_answers A.cl A.cd) (i := 2) (fun f => nok_Town_hears_answers T f) (Prov.entry hC rfl) hr (by decide) pass0 rfl (by first | exact Or.inl rfl | exact Or.inr (Or.inl rfl) | exact Or.inr (Or.inr rfl)) (pa_cons (pe_ix ix_list (pe_fld (pv 0) rfl) pe_int (fun _ _ => rfl)) pa_nil)))
      (pss_cons (ps_expr (pe_bm PySem.F.plainAttrs_list PySem.F.slot_list_append PySem.F.type_list_append mt_append (pe_fld (pv 0) rfl) (pa_cons (pe_bm PySem.F.plainAttrs_list PySem.F.slot_list_pop PySem.F.type_list_pop mt_popAt (pe_fld (pv 0) rfl) (pa_cons pe_int pa_nil)) pa_nil)))
      (pss_one (ps_ret pe_str)))
      pss_nil)
      (pss_cons (ps_expr (pe_bm PySem.F.plainAttrs_list PySem.F.slot_list_pop PySem.F.type_list_pop mt_popAt (pe_fld (pv 0) rfl) (pa_cons pe_int pa_nil)))
      (pss_cons (ps_expr (pe_bm PySem.F.plainAttrs_list PySem.F.slot_list_append PySem.F.type_list_append mt_append (pe_fld (pv 0) rfl) (pa_cons (pv 1) pa_nil)))
      (pss_one (ps_ret pe_str))))))), ?_⟩
    rw [Nn.st_Bucket_hears]; try rw [Nn.cxK]
    try rw [Nn.cxW]
    walk_at "wx"
    refine x_ifD (fun hn => ?_) fun hn => ?_
    · walk_at "wx"
      refine x_remove rfl hl hn ?_
      walk_at "wx"
      refine x_append upd_same (by rw [sizeLine_eq, List.length_map, List.length_erase_of_mem hn]; omega) ?_
      rw [(hear_in hn).1, (hear_in hn).2, List.map_append, show askedL room xs n = [] from if_pos hn] at q
      rw [upd_upd]
      have fr := Fr.upd1 (o := .lst ((xs.erase n).map nV ++ [nV n])) hl
      exact q _ (fr.mono fun a z => .inl z) upd_same (hL0.upd fr hsl)
    · walk_at "wx"
      refine x_ifD (fun hr1 => ?_) fun hr1 => ?_
      · walk_at "wx"
        rw [List.length_map] at hr1
        have e := hear_new (a := ansB A (xs.headD 0)) hn (Int.ofNat_lt.mp hr1)
        rw [e.1, e.2, List.map_append, show askedL room xs n = [] from by unfold askedL; rw [if_neg hn, if_pos (Int.ofNat_lt.mp hr1)]] at q
        have fr := Fr.upd1 (o := .lst (xs.map nV ++ [nV n])) hl
        exact q _ (fr.mono fun a z => .inl z) upd_same (hL0.upd fr hsl)
      · obtain ⟨x, r, rfl⟩ : ∃ x r, xs = x :: r := by
          cases xs with
          | nil => simp at hr1; omega
          | cons x r => exact ⟨x, r, rfl⟩
        rw [List.length_map] at hr1
        have hr2 : ¬ (x :: r).length < room := fun z => hr1 (Int.ofNat_lt.mpr z)
        have hrl : r.length < (x :: r).length := Nat.lt_succ_self _
        rw [show askedL room (x :: r) n = [x] from by unfold askedL; rw [if_neg hn, if_neg hr2]; rfl] at q
        simp only [List.headD_cons] at q
        walk_at "wx"
        refine ⟨f, rfl, hans.1, ?_⟩
        walk_at "wx"
        refine ⟨hans.1, hans.2.1, ?_⟩
        refine AnsOf.say hans fun H2 fr2 hL2 => ?_
        walk_at "wx"
        have ob2 := fr2.at ob fun z => AnsOf.ins hans z ob
        have hl2 := fr2.at hl hsl
        refine x_ifB (fun ha => ?_) fun ha => ?_
        · have ha : ansB A x = true := ha
          walk_at "wx"
          have e := hear_full hn hr2 ha
          rw [e.1, e.2, List.map_append] at q
          refine x_pop0 (xs := r.map nV) hl2 ?_
          walk_at "wx"
          rw [upd_upd]
          have fr := Fr.upd1 (o := .lst (r.map nV ++ [nV x])) hl2
          exact q _ ((fr2.mono fun a z => .inr z).trans (fr.mono fun a z => .inl z)) upd_same (hL2.upd fr hsl)
        · have ha : ansB A x = false := ha
          walk_at "wx"
          have e := hear_inst hn hr2 ha
          rw [e.1, e.2, List.map_append] at q
          refine x_pop0 (xs := r.map nV) hl2 ?_
          walk_at "wx"
          rw [upd_upd]
          have fr := Fr.upd1 (o := .lst (r.map nV ++ [nV n])) hl2
          exact q _ ((fr2.mono fun a z => .inr z).trans (fr.mono fun a z => .inl z)) upd_same (hL2.upd fr hsl)
def sp_Bucket_drops (T : Tx K mg base) : Sp := fun vs H Q _ => ∃ (p l : Addr) (room : Nat) (xs : List Nat) (n : Nat), vs = [.ref p, .int n] ∧ BuckAt T H p l room ∧ H l = some (.lst (xs.map nV)) ∧
  (n ∉ xs → Q (.bl false) H) ∧ (n ∈ xs → Fr (fun a => a = l) H (upd H l (.lst ((xs.erase n).map nV))) → Q (.bl true) (upd H l (.lst ((xs.erase n).map nV))))
theorem ok_Bucket_drops (T : Tx K mg base) : FnOk P w K mg base CX0 1 T.a_Bucket_drops T.d_Bucket_drops ["self", "name"] (sp_Bucket_drops T) := by
  refine T.F_Bucket_drops.okD sc_Bucket_drops (fun vs H Q E h => ?_) (fun cdv A outer s H vs Q E hr h => ?_)
  · obtain ⟨p, l, room, xs, n, rfl, _⟩ := h; rfl
  · obtain ⟨p, l, room, xs, n, rfl, ⟨dx, ob⟩, hl, q1, q2⟩ := h
    have c_Bucket := T.c_Bucket; have n_Bucket_room := T.n_Bucket_room; have n_Bucket_line := T.n_Bucket_line; have c_Table := T.c_Table; have n_Table_own := T.n_Table_own; have n_Table_wide := T.n_Table_wide; have n_Table_room := T.n_Table_room; have n_Table_buckets := T.n_Table_buckets; have c_Town := T.c_Town; have n_Town_wide := T.n_Town_wide; have n_Town_room := T.n_Town_room; have n_Town_tables := T.n_Town_tables; have n_Town_hushed := T.n_Town_hushed; have n_Town_shelves := T.n_Town_shelves; have n_Town_layings := T.n_Town_layings
    refine ⟨_, (pss_cons (ps_if (pt_cmpR op_notIn_seq (pv 1) (pe_fld (pv 0) rfl) rfl)
      (pss_one (ps_ret pe_bl))
      pss_nil)
      (pss_cons (ps_expr (pe_bm PySem.F.plainAttrs_list PySem.F.slot_list_remove PySem.F.type_list_remove mt_remove (pe_fld (pv 0) rfl) (pa_cons (pv 1) pa_nil)))
      (pss_one (ps_ret pe_bl)))), ?_⟩
    rw [Nn.st_Bucket_drops]; try rw [Nn.cxK]
    try rw [Nn.cxW]
    walk_at "wx"
    refine x_ifN (fun hn => ?_) fun hn => ?_
    · walk_at "wx"
      exact q1 hn
    · walk_at "wx"
      refine x_remove rfl hl hn ?_
      walk_at "wx"
      exact q2 hn (Fr.upd1 hl)
end
end Nn
/-! tables -/
namespace Nn
open PySem L2
/-- the line lists of a table -/
structure Lines (H : Hp) (ls : List Addr) (xss : List (List Nat)) : Prop where
  nd : ls.Nodup
  len : ls.length = xss.length
  at_ : ∀ (k : Nat) (l : Addr) (xs : List Nat), ls[k]? = some l → xss[k]? = some xs → H l = some (.lst (xs.map nV))
theorem Lines.fr {S : Addr → Prop} {H H' : Hp} {ls : List Addr} {xss : List (List Nat)} (L : Lines H ls xss) (f : Fr S H H') (h : ∀ l ∈ ls, ¬ S l) : Lines H' ls xss :=
  ⟨L.nd, L.len, fun k l xs h1 h2 => f.at (L.at_ k l xs h1 h2) (h l (List.mem_of_getElem? h1))⟩
theorem Lines.ex {H H' : Hp} {ls : List Addr} {xss : List (List Nat)} (L : Lines H ls xss) (f : Ex H H') : Lines H' ls xss := L.fr f fun _ _ z => z
/-- it is a list of names -/
def IsLine (H : Hp) (a : Addr) : Prop := ∃ xs : List Nat, H a = some (.lst (xs.map nV))
theorem Lines.is {H : Hp} {ls : List Addr} {xss : List (List Nat)} (L : Lines H ls xss) {l : Addr} (h : l ∈ ls) : IsLine H l := by
  obtain ⟨k, hk⟩ := List.getElem?_of_mem h
  have h1 : k < xss.length := by rw [← L.len]; exact (List.getElem?_eq_some_iff.mp hk).1
  exact ⟨xss[k], L.at_ k l _ hk (List.getElem?_eq_getElem h1)⟩
theorem Lines.upd {H H' : Hp} {ls : List Addr} {xss : List (List Nat)} (L : Lines H ls xss) {k : Nat} {l : Addr} {xs : List Nat} (hk : ls[k]? = some l) (f : Fr (fun a => a = l) H H') (e : H' l = some (.lst (xs.map nV))) : Lines H' ls (xss.set k xs) := by
  refine ⟨L.nd, by rw [List.length_set]; exact L.len, fun j l' xs' h1 h2 => ?_⟩
  have hkl : k < ls.length := (List.getElem?_eq_some_iff.mp hk).1
  by_cases hj : k = j
  · subst hj
    rw [hk] at h1; cases h1
    rw [List.getElem?_set_self (by rw [← L.len]; exact hkl)] at h2
    cases h2
    exact e
  · rw [List.getElem?_set_ne hj] at h2
    refine f.at (L.at_ j l' xs' h1 h2) fun z => hj ?_
    rw [z] at h1
    exact (List.getElem?_inj hkl L.nd).mp (hk.trans h1.symm)
theorem Lines.updS {S : Addr → Prop} {H H' : Hp} {ls : List Addr} {xss : List (List Nat)} (L : Lines H ls xss) {k : Nat} {l : Addr} {xs : List Nat} (hk : ls[k]? = some l) (f : Fr S H H') (hs : ∀ y ∈ ls, S y → y = l) (e : H' l = some (.lst (xs.map nV))) : Lines H' ls (xss.set k xs) := by
  refine ⟨L.nd, by rw [List.length_set]; exact L.len, fun j l' xs' h1 h2 => ?_⟩
  have hkl : k < ls.length := (List.getElem?_eq_some_iff.mp hk).1
  by_cases hj : k = j
  · subst hj
    rw [hk] at h1; cases h1
    rw [List.getElem?_set_self (by rw [← L.len]; exact hkl)] at h2
    cases h2
    exact e
  · rw [List.getElem?_set_ne hj] at h2
    refine f.at (L.at_ j l' xs' h1 h2) fun z => hj ?_
    rw [hs l' (List.mem_of_getElem? h1) z] at h1
    exact (List.getElem?_inj hkl L.nd).mp (hk.trans h1.symm)
section
variable {P : Program} {w : World} {K : PySem.W.Frag} {mg : Str → Option Value} {base : Heap} {H : Hp} {Q : VK} {E : XK}
/-- a table at p: what never changes of it -/
structure TabAt (T : Tx K mg base) (H : Hp) (p : Addr) (own wide room : Nat) (ls : List Addr) : Prop where
  w0 : 0 < wide
  w1 : wide ≤ 60
  r0 : 0 < room
  r1 : room ≤ 8
  len : ls.length = wide
  ob : ∃ (dx bl : Addr) (bs : List Addr), H p = some (.ins T.C_Table dx (f_Table (nV own) (nV wide) (nV room) (.ref bl))) ∧ H bl = some (.lst (bs.map V.ref)) ∧ bs.length = wide ∧ ∀ (k : Nat) (b l : Addr), bs[k]? = some b → ls[k]? = some l → BuckAt T H b l room
theorem refs_ne_ints {bs : List Addr} {xs : List Nat} (h : 0 < bs.length) : HO.lst (bs.map V.ref) ≠ HO.lst (xs.map nV) := by
  intro z
  cases bs with
  | nil => simp at h
  | cons b r => cases xs with
    | nil => cases z
    | cons x r => cases z
theorem TabAt.fr {T : Tx K mg base} {S : Addr → Prop} {H H' : Hp} {p : Addr} {own wide room : Nat} {ls : List Addr} (t : TabAt T H p own wide room ls) (f : Fr S H H') (h : ∀ a, S a → IsLine H a ∨ H a = none) : TabAt T H' p own wide room ls := by
  obtain ⟨dx, bl, bs, h1, h2, h3, h4⟩ := t.ob
  refine ⟨t.w0, t.w1, t.r0, t.r1, t.len, dx, bl, bs, f.at h1 ?_, f.at h2 ?_, h3, fun k b l e1 e2 => (h4 k b l e1 e2).fr f ?_⟩
  · intro z
    rcases h _ z with ⟨xs, e⟩ | e <;> rw [h1] at e <;> cases e
  · intro z
    rcases h _ z with ⟨xs, e⟩ | e
    · rw [h2] at e
      exact refs_ne_ints (by rw [h3]; exact t.w0) (Option.some.inj e)
    · rw [h2] at e; cases e
  · intro z
    obtain ⟨dy, hb⟩ := (h4 k b l e1 e2).ob
    rcases h _ z with ⟨xs, e⟩ | e <;> rw [hb] at e <;> cases e
theorem TabAt.ex {T : Tx K mg base} {H H' : Hp} {p : Addr} {own wide room : Nat} {ls : List Addr} (t : TabAt T H p own wide room ls) (f : Ex H H') : TabAt T H' p own wide room ls := t.fr f fun _ z => z.elim
/-- what lies beneath a table is of F -/
def TabOwn (T : Tx K mg base) (H : Hp) (p : Addr) (F : Addr → Prop) : Prop := ∀ (dx bl : Addr) (x y z : V) (bs : List Addr), H p = some (.ins T.C_Table dx (f_Table x y z (.ref bl))) → H bl = some (.lst (bs.map V.ref)) → F bl ∧ ∀ b ∈ bs, F b
theorem refs_inj {as bs : List Addr} (h : as.map V.ref = bs.map V.ref) : as = bs := List.map_inj_right (f := V.ref) (fun a b e => V.ref.inj e) |>.mp h
theorem TabOwn.mono {T : Tx K mg base} {F F' : Addr → Prop} {p : Addr} (o : TabOwn T H p F) (h : ∀ a, F a → F' a) : TabOwn T H p F' := fun dx bl x y z bs e1 e2 => ⟨h _ (o dx bl x y z bs e1 e2).1, fun b hb => h b ((o dx bl x y z bs e1 e2).2 b hb)⟩
theorem TabOwn.fr {T : Tx K mg base} {S F : Addr → Prop} {H H' : Hp} {p : Addr} {own wide room : Nat} {ls : List Addr} (o : TabOwn T H p F) (t : TabAt T H p own wide room ls) (f : Fr S H H') (h : ∀ a, S a → ¬ F a ∨ IsLine H a) (hp : ¬ S p) : TabOwn T H' p F := by
  obtain ⟨dx, bl, bs, h1, h2, h3, h4⟩ := t.ob
  have q := o dx bl _ _ _ bs h1 h2
  have hb : ¬ S bl := fun z => by
    rcases h _ z with e | ⟨xs, e⟩
    · exact e q.1
    · rw [h2] at e; exact refs_ne_ints (by rw [h3]; exact t.w0) (Option.some.inj e)
  intro dx' bl' x y z bs' e1 e2
  rw [f.at h1 hp] at e1
  cases e1
  rw [f.at h2 hb] at e2
  have e := HO.lst.inj (Option.some.inj e2)
  rw [← refs_inj e]
  exact q
def sp_Table_init (T : Tx K mg base) : Sp := fun vs H Q _ => ∃ (p dx : Addr) (own wide room : Nat), vs = [.ref p, .int own, .int wide, .int room] ∧ H p = some (.ins T.C_Table dx []) ∧ 0 < wide ∧ wide ≤ 60 ∧ 0 < room ∧ room ≤ 8 ∧
  ∀ (ls : List Addr) (H' : Hp), (∀ l ∈ ls, H l = none) → Fr (fun a => a = p) H H' → TabAt T H' p own wide room ls → Lines H' ls (List.replicate wide []) → TabOwn T H' p (fun a => H a = none) → Q .non H'
theorem ok_Table_init (T : Tx K mg base) : FnOk P w K mg base CX0 3 T.a_Table_init T.d_Table_init ["self", "own", "wide", "room"] (sp_Table_init T) := by
  refine T.F_Table_init.okD sc_Table_init (fun vs H Q E h => ?_) (fun cdv A outer s H vs Q E hr h => ?_)
  · obtain ⟨p, dx, own, wide, room, rfl, _⟩ := h; rfl
  · obtain ⟨p, dx, own, wide, room, rfl, hp, w0, w1, r0, r1, q⟩ := h
    have c_Bucket := T.c_Bucket; have n_Bucket_room := T.n_Bucket_room; have n_Bucket_line := T.n_Bucket_line; have c_Table := T.c_Table; have n_Table_own := T.n_Table_own; have n_Table_wide := T.n_Table_wide; have n_Table_room := T.n_Table_room; have n_Table_buckets := T.n_Table_buckets; have c_Town := T.c_Town; have n_Town_wide := T.n_Town_wide; have n_Town_room := T.n_Town_room; have n_Town_tables := T.n_Town_tables; have n_Town_hushed := T.n_Town_hushed; have n_Town_shelves := T.n_Town_shelves; have n_Town_layings := T.n_Town_layings
    refine ⟨_, (pss_cons (ps_fld (pv 0) (pv 1) rfl)
      (pss_cons (ps_fld (pv 0) (pv 2) rfl)
      (pss_cons (ps_fld (pv 0) (pv 3) rfl)
      (pss_one (ps_fld (pv 0) (pe_lc (own := [("k", 4)]) (g := (gName 4)) (by rfl) sc_Table_init.nd (pi_range1 rfl T.z_range (pa_cons (pv 2) pa_nil)) (blkOk_by (N := N_Table_init) (sc := defScope s_Table_init) (own := [("k", 4)]) (by decide +kernel)) (fun _ _ _ _ _ => (pg_name (i := 4) sc_Table_init.nd rfl (Or.inl rfl))) (fun _ _ _ _ _ => pts_nil) (fun _ _ _ _ _ => (pe_make T.M_Bucket (ok_Bucket_init T) hr rfl T.m_Bucket T.b_Bucket_init .nil pass0 (pa_cons (pv 3) pa_nil)))) rfl))))), ?_⟩
    rw [Nn.st_Table_init]; try rw [Nn.cxK]
    try rw [Nn.cxW]
    walk_at "wx"
    have f3 : Fr (fun a => a = p) H (upd (upd (upd H p (HO.ins T.C_Table dx [("own", V.int ↑own)])) p (HO.ins T.C_Table dx [("own", V.int ↑own), ("wide", V.int ↑wide)])) p (HO.ins T.C_Table dx [("own", V.int ↑own), ("wide", V.int ↑wide), ("room", V.int ↑room)])) :=
      ((Fr.upd1 hp).trans (Fr.upd1 upd_same)).trans (Fr.upd1 upd_same)
    have h3 : (upd (upd (upd H p (HO.ins T.C_Table dx [("own", V.int ↑own)])) p (HO.ins T.C_Table dx [("own", V.int ↑own), ("wide", V.int ↑wide)])) p (HO.ins T.C_Table dx [("own", V.int ↑own), ("wide", V.int ↑wide), ("room", V.int ↑room)])) p = some (HO.ins T.C_Table dx [("own", V.int ↑own), ("wide", V.int ↑wide), ("room", V.int ↑room)]) := upd_same
    generalize (upd (upd (upd H p (HO.ins T.C_Table dx [("own", V.int ↑own)])) p (HO.ins T.C_Table dx [("own", V.int ↑own), ("wide", V.int ↑wide)])) p (HO.ins T.C_Table dx [("own", V.int ↑own), ("wide", V.int ↑wide), ("room", V.int ↑room)])) = H3 at *
    refine LcW.by1 walk_rgN (by rw [sizeLine_eq]; omega) (fun D i acc H' => Ex H3 H' ∧ ∃ bs ls : List Addr, acc = bs.map V.ref ∧ bs.length = i ∧ ls.length = i ∧ (∀ l ∈ ls, H3 l = none ∧ l ≠ D ∧ H' l = some (.lst [])) ∧ ls.Nodup ∧ (∀ b ∈ bs, H3 b = none) ∧ ∀ (k : Nat) (b l : Addr), bs[k]? = some b → ls[k]? = some l → BuckAt T H' b l room) ?_ (fun _ _ _ _ _ _ _ => trivial) ?_ ?_
    · intro D hD
      exact ⟨Ex.new hD, [], [], rfl, rfl, rfl, by simp, List.nodup_nil, by simp, by simp⟩
    · rintro D i acc x _ H1 hi hD ⟨ex, bs, ls, rfl, hb, hl, hls, nd, hbn, hbu⟩ hacc ⟨rfl, rfl⟩ Qe hQ
      walk_at "wx"
      refine x_make fun x dx1 H2 hx ex2 hx2 => ?_
      refine ⟨x, dx1, room, rfl, hx2, fun l H4 hl0 hl4 fr4 bu4 => ⟨rfl, ?_⟩⟩
      have e4 : Ex H1 H4 := fr4.ex ex2 fun y z => by rw [z]; exact hx
      have hD4 : H4 D = some (.lst (bs.map V.ref)) := e4.at hacc
      have lnew : H1 l = none := ex2.back l hl0
      have lD : l ≠ D := fun z => by rw [z, hacc] at lnew; cases lnew
      have hm : Ex H3 (upd H4 D (.lst (bs.map V.ref ++ [.ref x]))) := (ex.trans e4).mut hD hD4
      refine hQ _ _ hD4 ⟨hm, bs ++ [x], ls ++ [l], by simp, by simp [hb], by simp [hl], ?_, nd_snoc nd ?_, fun b hb' => (List.mem_append.mp hb').elim (hbn b) fun z => by rw [List.mem_singleton.mp z]; exact ex.back x hx, ?_⟩
      · intro y hy
        rcases List.mem_append.mp hy with hy | hy
        · obtain ⟨a1, a2, a3⟩ := hls y hy
          exact ⟨a1, a2, by rw [upd_ne a2]; exact e4.at a3⟩
        · rw [List.mem_singleton.mp hy]
          exact ⟨ex.back l lnew, lD, by rw [upd_ne lD]; exact hl4⟩
      · intro hy
        rw [(hls l hy).2.2] at lnew
        cases lnew
      · intro k b l' h1 h2
        have hfr : BuckAt T H4 b l' room := by
          by_cases hk : k < i
          · rw [List.getElem?_append_left (by omega)] at h1 h2
            exact (hbu k b l' h1 h2).fr e4 id
          · rw [List.getElem?_append_right (by omega)] at h1 h2
            have hk0 : k - i = 0 := by
              have := (List.getElem?_eq_some_iff.mp h1).1
              simp at this; omega
            rw [hb, hk0] at h1
            rw [hl, hk0] at h2
            cases h1; cases h2
            exact bu4
        exact hfr.fr (Fr.upd1 hD4) fun z => by
          obtain ⟨dy, hy⟩ := hfr.ob
          rw [z, hD4] at hy; cases hy
    · rintro D acc H4 hD ⟨ex, bs, ls, rfl, hb, hl, hls, nd, hbn, hbu⟩ hD4 _
      have hp4 : H4 p = some (HO.ins T.C_Table dx [("own", V.int ↑own), ("wide", V.int ↑wide), ("room", V.int ↑room)]) := ex.at h3
      have hne : ∀ {a : Addr} {o : HO}, H4 a = some o → (HO.ins T.C_Table dx [("own", V.int ↑own), ("wide", V.int ↑wide), ("room", V.int ↑room)]) ≠ o → a ≠ p := fun {a o} h d z => by rw [z, hp4] at h; exact d (Option.some.inj h)
      walk_at "wx"
      refine q ls _ (fun l h => f3.back l (hls l h).1) ((f3.trans ex.fr).trans (Fr.upd1 hp4)) ⟨w0, w1, r0, r1, hl, dx, D, bs, upd_same, ?_, hb, ?_⟩ ⟨nd, by rw [List.length_replicate, hl], ?_⟩ ?_
      · rw [upd_ne (hne hD4 (fun z => by cases z))]; exact hD4
      · intro k b l h1 h2
        have h := hbu k b l h1 h2
        refine h.fr (Fr.upd1 hp4) fun z => ?_
        have n0 := (hls l (List.mem_of_getElem? h2))
        obtain ⟨dy, hy⟩ := h.ob
        rw [z, hp4] at hy
        have hy := Option.some.inj hy
        injection hy with e1 e2 e3
        have e4 := congrArg List.length e3
        simp [f_Bucket] at e4
      · intro k l xs h1 h2
        have n0 := (hls l (List.mem_of_getElem? h1))
        have e : xs = [] := by
          rw [List.getElem?_replicate] at h2
          split at h2
          · exact (Option.some.inj h2).symm
          · cases h2
        rw [e, upd_ne (hne n0.2.2 (fun z => by cases z))]
        exact n0.2.2
      · intro dx' bl' x y z bs' e1 e2
        rw [upd_same] at e1
        cases e1
        rw [upd_ne (hne hD4 (fun z => by cases z)), hD4] at e2
        have e := HO.lst.inj (Option.some.inj e2)
        rw [← refs_inj e]
        exact ⟨f3.back D hD, fun b hb' => f3.back b (hbn b hb')⟩
end
end Nn
/-! tables: what they do -/
namespace Nn
open PySem L2
section
variable {P : Program} {w : World} {K : PySem.W.Frag} {mg : Str → Option Value} {base : Heap} {H : Hp} {Q : VK} {E : XK}
def sp_Table_bucket_for (T : Tx K mg base) : Sp := fun vs H Q _ => ∃ (p : Addr) (own wide room n : Nat) (ls : List Addr), vs = [.ref p, .int n] ∧ TabAt T H p own wide room ls ∧ n ≠ own ∧ stepN own n < wide ∧
  ∀ b l, ls[stepN own n]? = some l → BuckAt T H b l room → Q (.ref b) H
theorem wc_Table_bucket_for {T : Tx K mg base} {p : Addr} {own wide room n : Nat} {ls : List Addr} (t : TabAt T H p own wide room ls) (hn : n ≠ own) (hs : stepN own n < wide) (h : ∀ b l, ls[stepN own n]? = some l → BuckAt T H b l room → Q (.ref b) H) : sp_Table_bucket_for T [.ref p, .int n] H Q E :=
  ⟨p, own, wide, room, n, ls, rfl, t, hn, hs, h⟩
theorem ok_Table_bucket_for (T : Tx K mg base) : FnOk P w K mg base CX0 3 T.a_Table_bucket_for T.d_Table_bucket_for ["self", "name"] (sp_Table_bucket_for T) := by
  refine T.F_Table_bucket_for.okD sc_Table_bucket_for (fun vs H Q E h => ?_) (fun cdv A outer s H vs Q E hr h => ?_)
  · obtain ⟨p, own, wide, room, n, ls, rfl, _⟩ := h; rfl
  · obtain ⟨p, own, wide, room, n, ls, rfl, ht, hn, hs, q⟩ := h
    obtain ⟨dx, bl, bs, h1, h2, h3, h4⟩ := ht.ob
    have c_Bucket := T.c_Bucket; have n_Bucket_room := T.n_Bucket_room; have n_Bucket_line := T.n_Bucket_line; have c_Table := T.c_Table; have n_Table_own := T.n_Table_own; have n_Table_wide := T.n_Table_wide; have n_Table_room := T.n_Table_room; have n_Table_buckets := T.n_Table_buckets; have c_Town := T.c_Town; have n_Town_wide := T.n_Town_wide; have n_Town_room := T.n_Town_room; have n_Town_tables := T.n_Town_tables; have n_Town_hushed := T.n_Town_hushed; have n_Town_shelves := T.n_Town_shelves; have n_Town_layings := T.n_Town_layings
    refine ⟨_, (pss_one (ps_ret (pe_ix ix_list (pe_fld (pv 0) rfl) (pe_call (ok_step T) hr rfl T.m_step T.F_step.kp T.b_step .nil pass0 (pa_cons (pe_fld (pv 0) rfl) (pa_cons (pv 1) pa_nil))) (fun _ _ => rfl)))), ?_⟩
    rw [Nn.st_Table_bucket_for]; try rw [Nn.cxK]
    try rw [Nn.cxW]
    have hn' := Ne.symm hn
    walk_at "wx"
    have hk : stepN own n < bs.length := by omega
    refine x_ixL (v := .ref bs[stepN own n]) (SqL.of h2) (atI_nat (by simp [hk])) ?_
    have hl : stepN own n < ls.length := by rw [ht.len]; exact hs
    exact q _ _ (List.getElem?_eq_getElem hl) (h4 _ _ _ (List.getElem?_eq_getElem hk) (List.getElem?_eq_getElem hl))
/-- the lines behind hearing of n -/
def tabL (own room : Nat) (xss : List (List Nat)) (n : Nat) (a : Nat → Bool) : List (List Nat) :=
  if n = own then xss else xss.set (stepN own n) (hearL room (xss.getD (stepN own n) []) n (a ((xss.getD (stepN own n) []).headD 0)))
def tabW (own room : Nat) (xss : List (List Nat)) (n : Nat) (a : Nat → Bool) : Str :=
  if n = own then "own" else hearW room (xss.getD (stepN own n) []) n (a ((xss.getD (stepN own n) []).headD 0))
/-- who was asked -/
def tabA (own room : Nat) (xss : List (List Nat)) (n : Nat) : List Nat := if n = own then [] else askedL room (xss.getD (stepN own n) []) n
def sp_Table_hears (T : Tx K mg base) (cl : List (Str × Addr)) : List (Option V) → Sp := fun ws vs H Q _ => ∃ (p f : Addr) (own wide room n : Nat) (ls : List Addr) (xss : List (List Nat)) (A : An), cl = A.cl ∧ ws = A.ws ∧ vs = [.ref p, .int n, .ref f] ∧ TabAt T H p own wide room ls ∧ Lines H ls xss ∧ own < 2 ^ wide ∧ n < 2 ^ wide ∧ (∀ xs ∈ xss, xs.length ≤ 100000) ∧ AnsOf T H f A ∧ (∀ l ∈ ls, ¬ AnsS A l) ∧
  ∀ H', Fr (fun a => a ∈ ls ∨ AnsS A a) H H' → Lines H' ls (tabL own room xss n (ansB A)) → AnsL A H' (tabA own room xss n) → Q (.str (tabW own room xss n (ansB A))) H'
theorem wc_Table_hears {T : Tx K mg base} {cl : List (Str × Addr)} {ws : List (Option V)} {p f : Addr} {own wide room n : Nat} {ls : List Addr} {xss : List (List Nat)} {A : An} (ec : cl = A.cl) (ew : ws = A.ws) (t : TabAt T H p own wide room ls) (L : Lines H ls xss) (ho : own < 2 ^ wide) (hn : n < 2 ^ wide) (hx : ∀ xs ∈ xss, xs.length ≤ 100000) (a : AnsOf T H f A) (s : ∀ l ∈ ls, ¬ AnsS A l)
    (h : ∀ H', Fr (fun a => a ∈ ls ∨ AnsS A a) H H' → Lines H' ls (tabL own room xss n (ansB A)) → AnsL A H' (tabA own room xss n) → Q (.str (tabW own room xss n (ansB A))) H') : sp_Table_hears T cl ws [.ref p, .int n, .ref f] H Q E := ⟨p, f, own, wide, room, n, ls, xss, A, ec, ew, rfl, t, L, ho, hn, hx, a, s, h⟩
theorem ok_Table_hears (T : Tx K mg base) {cl : List (Str × Addr)} (ws : List (Option V)) : FnOkC P w K mg base CX0 4 T.a_Table_hears T.d_Table_hears ["self", "name", "answers"] cl fr_Town_hears_answers ws (sp_Table_hears T cl ws) := by
  refine FunD.okC T.F_Table_hears sc_Table_hears (fun vs H Q E h => ?_) (fun cdv A outer s H vs Q E hr hC h => ?_)
  · obtain ⟨p, f, own, wide, room, n, ls, xss, A, rfl, rfl, rfl, _⟩ := h; rfl
  · obtain ⟨p, f, own, wide, room, n, ls, xss, A, rfl, rfl, rfl, ht, L, ho, hn, hx, ha, hs0, q⟩ := h
    obtain ⟨dx, bl, bs, h1, h2, h3, h4⟩ := ht.ob
    have c_Bucket := T.c_Bucket; have n_Bucket_room := T.n_Bucket_room; have n_Bucket_line := T.n_Bucket_line; have c_Table := T.c_Table; have n_Table_own := T.n_Table_own; have n_Table_wide := T.n_Table_wide; have n_Table_room := T.n_Table_room; have n_Table_buckets := T.n_Table_buckets; have c_Town := T.c_Town; have n_Town_wide := T.n_Town_wide; have n_Town_room := T.n_Town_room; have n_Town_tables := T.n_Town_tables; have n_Town_hushed := T.n_Town_hushed; have n_Town_shelves := T.n_Town_shelves; have n_Town_layings := T.n_Town_layings
    refine ⟨_, (pss_cons (ps_if (pt_cmpR op_eq (pv 1) (pe_fld (pv 0) rfl) (nomark _))
      (pss_one (ps_ret pe_str))
      pss_nil)
      (pss_one (ps_ret (pe_methC (pe_meth (pv 0) T.c_Table T.t_Table_bucket_for (ok_Table_bucket_for T) hr T.b_Table_bucket_for .nil pass0 (pa_cons (pv 1) pa_nil)) T.c_Bucket T.t_Bucket_hears (fun ws => ok_Bucket_hears T ws) (Prov.entry hC rfl) hr T.b_Bucket_hears .nil pass0 (pa_cons (pv 1) (pa_cons (pv 2) pa_nil)))))), ?_⟩
    rw [Nn.st_Table_hears]; try rw [Nn.cxK]
    try rw [Nn.cxW]
    walk_at "wx"
    refine x_ifD (fun e => ?_) fun e => ?_
    · walk_at "wx"
      have e : n = own := Int.ofNat.inj e
      have q1 := q H Fr.refl
      unfold tabL tabW tabA at q1
      rw [if_pos e, if_pos e, if_pos e] at q1
      exact q1 L (AnsOf.none ha)
    · have e : n ≠ own := fun z => e (by rw [z])
      have hs : stepN own n < wide := stepN_lt ho hn (Ne.symm e)
      walk_at "wx"
      refine wc_Table_bucket_for ht e hs fun b l hl hb => ?_
      obtain ⟨dy, hob⟩ := hb.ob
      have hk : stepN own n < xss.length := by rw [← L.len, ht.len]; exact hs
      have hL := L.at_ _ l _ hl (List.getElem?_eq_getElem hk)
      have eg : xss.getD (stepN own n) [] = xss[stepN own n] := by rw [List.getD_eq_getElem?_getD, List.getElem?_eq_getElem hk]; rfl
      have hm := List.mem_of_getElem? hl
      walk_at "wx"
      refine wc_Bucket_hears rfl rfl hb hL ht.r0 (Nat.le_trans ht.r1 (by decide)) (hx _ (List.getElem_mem hk)) ha (hs0 l hm) fun H' fr hl' hA' => ?_
      unfold tabL tabW tabA at q
      rw [if_neg e, if_neg e, if_neg e, eg] at q
      exact q _ (fr.mono fun x z => z.imp (fun z => by rw [z]; exact hm) id) (L.updS hl fr (fun y hy z => z.elim id fun z => absurd z (hs0 y hy)) hl') hA'
def sp_Table_keeps (T : Tx K mg base) : Sp := fun vs H Q _ => ∃ (p : Addr) (own wide room : Nat) (ls : List Addr) (xss : List (List Nat)), vs = [.ref p] ∧ TabAt T H p own wide room ls ∧ Lines H ls xss ∧ xss.flatten.Nodup ∧ xss.flatten.length ≤ 100000 ∧
  ∀ q H', H q = none → Ex H H' → H' q = some (.lst ((sortU xss.flatten).map nV)) → Q (.ref q) H'
theorem wc_Table_keeps {T : Tx K mg base} {p : Addr} {own wide room : Nat} {ls : List Addr} {xss : List (List Nat)} (t : TabAt T H p own wide room ls) (L : Lines H ls xss) (nd : xss.flatten.Nodup) (hz : xss.flatten.length ≤ 100000)
    (h : ∀ q H', H q = none → Ex H H' → H' q = some (.lst ((sortU xss.flatten).map nV)) → Q (.ref q) H') : sp_Table_keeps T [.ref p] H Q E := ⟨p, own, wide, room, ls, xss, rfl, t, L, nd, hz, h⟩
theorem flat_le {xss : List (List Nat)} (i : Nat) : (xss.take i).flatten.length ≤ xss.flatten.length := by
  have e : xss.flatten = (xss.take i).flatten ++ (xss.drop i).flatten := by rw [← List.flatten_append, List.take_append_drop]
  rw [e, List.length_append]; omega
theorem ok_Table_keeps (T : Tx K mg base) : FnOk P w K mg base CX0 2 T.a_Table_keeps T.d_Table_keeps ["self"] (sp_Table_keeps T) := by
  refine T.F_Table_keeps.okD sc_Table_keeps (fun vs H Q E h => ?_) (fun cdv A outer s H vs Q E hr h => ?_)
  · obtain ⟨p, own, wide, room, ls, xss, rfl, _⟩ := h; rfl
  · obtain ⟨p, own, wide, room, ls, xss, rfl, ht, L, nd, hz, q⟩ := h
    obtain ⟨dx, bl, bs, h1, h2, h3, h4⟩ := ht.ob
    have c_Bucket := T.c_Bucket; have n_Bucket_room := T.n_Bucket_room; have n_Bucket_line := T.n_Bucket_line; have c_Table := T.c_Table; have n_Table_own := T.n_Table_own; have n_Table_wide := T.n_Table_wide; have n_Table_room := T.n_Table_room; have n_Table_buckets := T.n_Table_buckets; have c_Town := T.c_Town; have n_Town_wide := T.n_Town_wide; have n_Town_room := T.n_Town_room; have n_Town_tables := T.n_Town_tables; have n_Town_hushed := T.n_Town_hushed; have n_Town_shelves := T.n_Town_shelves; have n_Town_layings := T.n_Town_layings
    refine ⟨_, (pss_cons (ps_set (i := 1) sc_Table_keeps.nd rfl (Or.inl rfl) (pe_lst pa_nil))
      (pss_cons (ps_for PassesOwn.never rfl (pi_list (pe_fld (pv 0) rfl)) (pg_name (i := 2) sc_Table_keeps.nd rfl (Or.inl rfl))
      (pss_one (ps_expr (pe_bm PySem.F.plainAttrs_list PySem.F.slot_list_extend PySem.F.type_list_extend mt_extend (pv 1) (pa_cons (pe_meth0 (pv 2) T.c_Bucket T.t_Bucket_names (ok_Bucket_names T) hr T.b_Bucket_names .nil pass0) pa_nil)))))
      (pss_one (ps_ret (pe_callB cr_sortedI (by rfl) T.z_sorted (by decide +kernel) (pa_cons (pv 1) pa_nil)))))), ?_⟩
    rw [Nn.st_Table_keeps]; try rw [Nn.cxK]
    try rw [Nn.cxW]
    walk_at "wx"
    refine ⟨len_ok rfl, fun d hd => ?_⟩
    walk_at "wx"
    refine ForW.by walk_list (fun i σ H' => ∃ v : Option V, σ = [some (.ref p), some (.ref d), v] ∧ Ex H H' ∧ H' d = some (.lst ((xss.take i).flatten.map nV))) ⟨none, rfl, Ex.new hd, upd_same⟩ (fun i σ H' _ ⟨_, _, e, _⟩ => e.ls (SqL.of h2)) ?_ ?_
    · rintro i x σ _ H1 hi ⟨v, rfl, ex, hd1⟩ ⟨rfl, hx⟩
      rw [List.length_map] at hi
      have hil : i < ls.length := by rw [ht.len]; omega
      have hix : i < xss.length := by rw [← L.len]; exact hil
      obtain rfl : x = .ref bs[i] := by
        rw [List.getElem?_map, List.getElem?_eq_getElem hi] at hx
        exact (Option.some.inj hx).symm
      have hb := (h4 i _ _ (List.getElem?_eq_getElem hi) (List.getElem?_eq_getElem hil)).fr ex id
      obtain ⟨dy, hob⟩ := hb.ob
      have hL := ex.at (L.at_ i _ _ (List.getElem?_eq_getElem hil) (List.getElem?_eq_getElem hix))
      have et : xss.take (i + 1) = xss.take i ++ [xss[i]] := by rw [List.take_add_one, List.getElem?_eq_getElem hix]; rfl
      have hlen := flat_le (xss := xss) (i + 1)
      rw [et, List.flatten_append, List.length_append, List.flatten_singleton] at hlen
      walk_at "wx"
      refine wc_Bucket_names hb hL fun r hr => ?_
      have hd2 : upd H1 r (.lst (xss[i].map nV)) d = some (.lst ((xss.take i).flatten.map nV)) := at_new hr hd1
      walk_at "wx"
      refine x_extend hd2 upd_same (by rw [sizeLine_eq, List.length_map, List.length_map]; omega) ?_
      refine ⟨_, rfl, (ex.newT hr).mut hd hd2, ?_⟩
      rw [upd_same, et, List.flatten_append, List.map_append, List.flatten_singleton]
    · rintro σ H1 ⟨v, rfl, ex, hd1⟩
      rw [List.length_map, h3, ← ht.len, L.len, List.take_length] at hd1
      walk_at "wx"
      refine x_sortN (SqL.of hd1) nd fun r hr => ?_
      exact q r _ (ex.back r hr) (ex.newT hr) upd_same
end
end Nn
/-! tables: drops, bucket, nearest -/
namespace Nn
open PySem L2
/-- the lines behind dropping of n -/
def tabD (own : Nat) (xss : List (List Nat)) (n : Nat) : List (List Nat) :=
  if n = own then xss else xss.set (stepN own n) ((xss.getD (stepN own n) []).erase n)
def tabDW (own : Nat) (xss : List (List Nat)) (n : Nat) : Bool := !decide (n = own) && decide (n ∈ xss.getD (stepN own n) [])
def oN : Option Nat → V
  | none => .non
  | some n => nV n
/-- the so many that are nearest of ks but one -/
def nearN (ks : List Nat) (g m : Nat) (b : Option Nat) : List Nat := (byN g (ks.filter fun n => !decide (some n = b))).take m
theorem oN_eq {n : Nat} {b : Option Nat} : decide (nV n = oN b) = decide (some n = b) := by
  cases b with
  | none => simp [oN, nV]
  | some k =>
    refine decide_eq_decide.mpr ⟨fun h => ?_, fun h => ?_⟩
    · have h : V.int (n : Int) = V.int (k : Int) := h
      injection h with h; rw [Int.ofNat.inj h]
    · cases h; rfl
theorem oN_scal {n : Nat} {b : Option Nat} : scal (nV n) (oN b) = true := by
  cases b <;> rfl
theorem cmp_nV (n : Nat) (b : Option Nat) : (!decide (nV n = oN b)) = (!decide (some n = b)) := by rw [oN_eq]
section
variable {P : Program} {w : World} {K : PySem.W.Frag} {mg : Str → Option Value} {base : Heap} {H : Hp} {Q : VK} {E : XK}
def sp_Table_drops (T : Tx K mg base) : Sp := fun vs H Q _ => ∃ (p : Addr) (own wide room n : Nat) (ls : List Addr) (xss : List (List Nat)), vs = [.ref p, .int n] ∧ TabAt T H p own wide room ls ∧ Lines H ls xss ∧ own < 2 ^ wide ∧ n < 2 ^ wide ∧
  ∀ H', Fr (fun a => a ∈ ls) H H' → Lines H' ls (tabD own xss n) → Q (.bl (tabDW own xss n)) H'
theorem wc_Table_drops {T : Tx K mg base} {p : Addr} {own wide room n : Nat} {ls : List Addr} {xss : List (List Nat)} (t : TabAt T H p own wide room ls) (L : Lines H ls xss) (ho : own < 2 ^ wide) (hn : n < 2 ^ wide)
    (h : ∀ H', Fr (fun a => a ∈ ls) H H' → Lines H' ls (tabD own xss n) → Q (.bl (tabDW own xss n)) H') : sp_Table_drops T [.ref p, .int n] H Q E := ⟨p, own, wide, room, n, ls, xss, rfl, t, L, ho, hn, h⟩
theorem set_self {α : Type} {xs : List α} {k : Nat} {x : α} (h : xs[k]? = some x) : xs.set k x = xs := by
  refine List.ext_getElem? fun j => ?_
  by_cases e : k = j
  · subst e
    rw [List.getElem?_set_self (List.getElem?_eq_some_iff.mp h).1, h]
  · rw [List.getElem?_set_ne e]
theorem ok_Table_drops (T : Tx K mg base) : FnOk P w K mg base CX0 4 T.a_Table_drops T.d_Table_drops ["self", "name"] (sp_Table_drops T) := by
  refine T.F_Table_drops.okD sc_Table_drops (fun vs H Q E h => ?_) (fun cdv A outer s H vs Q E hr h => ?_)
  · obtain ⟨p, own, wide, room, n, ls, xss, rfl, _⟩ := h; rfl
  · obtain ⟨p, own, wide, room, n, ls, xss, rfl, ht, L, ho, hn, q⟩ := h
    obtain ⟨dx, bl, bs, h1, h2, h3, h4⟩ := ht.ob
    have c_Bucket := T.c_Bucket; have n_Bucket_room := T.n_Bucket_room; have n_Bucket_line := T.n_Bucket_line; have c_Table := T.c_Table; have n_Table_own := T.n_Table_own; have n_Table_wide := T.n_Table_wide; have n_Table_room := T.n_Table_room; have n_Table_buckets := T.n_Table_buckets; have c_Town := T.c_Town; have n_Town_wide := T.n_Town_wide; have n_Town_room := T.n_Town_room; have n_Town_tables := T.n_Town_tables; have n_Town_hushed := T.n_Town_hushed; have n_Town_shelves := T.n_Town_shelves; have n_Town_layings := T.n_Town_layings
    refine ⟨_, (pss_cons (ps_if (pt_cmpR op_eq (pv 1) (pe_fld (pv 0) rfl) (nomark _))
      (pss_one (ps_ret pe_bl))
      pss_nil)
      (pss_one (ps_ret (pe_meth (pe_meth (pv 0) T.c_Table T.t_Table_bucket_for (ok_Table_bucket_for T) hr T.b_Table_bucket_for .nil pass0 (pa_cons (pv 1) pa_nil)) T.c_Bucket T.t_Bucket_drops (ok_Bucket_drops T) (hr.mono (by decide)) T.b_Bucket_drops .nil pass0 (pa_cons (pv 1) pa_nil))))), ?_⟩
    rw [Nn.st_Table_drops]; try rw [Nn.cxK]
    try rw [Nn.cxW]
    walk_at "wx"
    refine x_ifD (fun e => ?_) fun e => ?_
    · walk_at "wx"
      have e : n = own := Int.ofNat.inj e
      have q1 := q H Fr.refl
      unfold tabD tabDW at q1
      rw [if_pos e, decide_eq_true e] at q1
      exact q1 L
    · have e : n ≠ own := fun z => e (by rw [z])
      have hs : stepN own n < wide := stepN_lt ho hn (Ne.symm e)
      walk_at "wx"
      refine wc_Table_bucket_for ht e hs fun b l hl hb => ?_
      obtain ⟨dy, hob⟩ := hb.ob
      have hk : stepN own n < xss.length := by rw [← L.len, ht.len]; exact hs
      have hL := L.at_ _ l _ hl (List.getElem?_eq_getElem hk)
      have eg : xss.getD (stepN own n) [] = xss[stepN own n] := by rw [List.getD_eq_getElem?_getD, List.getElem?_eq_getElem hk]; rfl
      unfold tabD tabDW at q
      rw [if_neg e, decide_eq_false e, eg] at q
      walk_at "wx"
      refine ⟨b, l, room, _, n, rfl, hb, hL, fun hin => ?_, fun hin fr => ?_⟩
      · have q1 := q H Fr.refl
        rw [List.erase_of_not_mem hin, set_self (List.getElem?_eq_getElem hk), decide_eq_false hin] at q1
        exact q1 L
      · rw [decide_eq_true hin] at q
        exact q _ (fr.mono fun x z => by rw [z]; exact List.mem_of_getElem? hl) (L.upd hl fr upd_same)
def sp_Table_bucket (T : Tx K mg base) : Sp := fun vs H Q _ => ∃ (p : Addr) (own wide room k : Nat) (ls : List Addr) (xss : List (List Nat)), vs = [.ref p, .int k] ∧ TabAt T H p own wide room ls ∧ Lines H ls xss ∧ k < wide ∧
  ∀ q, H q = none → Q (.ref q) (upd H q (.lst ((xss.getD k []).map nV)))
theorem wc_Table_bucket {T : Tx K mg base} {p : Addr} {own wide room k : Nat} {ls : List Addr} {xss : List (List Nat)} (t : TabAt T H p own wide room ls) (L : Lines H ls xss) (hk : k < wide)
    (h : ∀ q, H q = none → Q (.ref q) (upd H q (.lst ((xss.getD k []).map nV)))) : sp_Table_bucket T [.ref p, .int k] H Q E := ⟨p, own, wide, room, k, ls, xss, rfl, t, L, hk, h⟩
theorem ok_Table_bucket (T : Tx K mg base) : FnOk P w K mg base CX0 2 T.a_Table_bucket T.d_Table_bucket ["self", "k"] (sp_Table_bucket T) := by
  refine T.F_Table_bucket.okD sc_Table_bucket (fun vs H Q E h => ?_) (fun cdv A outer s H vs Q E hr h => ?_)
  · obtain ⟨p, own, wide, room, k, ls, xss, rfl, _⟩ := h; rfl
  · obtain ⟨p, own, wide, room, k, ls, xss, rfl, ht, L, hk, q⟩ := h
    obtain ⟨dx, bl, bs, h1, h2, h3, h4⟩ := ht.ob
    have hkb : k < bs.length := by omega
    have hkl : k < ls.length := by rw [ht.len]; exact hk
    have hkx : k < xss.length := by rw [← L.len]; exact hkl
    have hb := h4 _ _ _ (List.getElem?_eq_getElem hkb) (List.getElem?_eq_getElem hkl)
    obtain ⟨dy, hob⟩ := hb.ob
    have hL := L.at_ _ _ _ (List.getElem?_eq_getElem hkl) (List.getElem?_eq_getElem hkx)
    have eg : xss.getD k [] = xss[k] := by rw [List.getD_eq_getElem?_getD, List.getElem?_eq_getElem hkx]; rfl
    rw [eg] at q
    have c_Bucket := T.c_Bucket; have n_Bucket_room := T.n_Bucket_room; have n_Bucket_line := T.n_Bucket_line; have c_Table := T.c_Table; have n_Table_own := T.n_Table_own; have n_Table_wide := T.n_Table_wide; have n_Table_room := T.n_Table_room; have n_Table_buckets := T.n_Table_buckets; have c_Town := T.c_Town; have n_Town_wide := T.n_Town_wide; have n_Town_room := T.n_Town_room; have n_Town_tables := T.n_Town_tables; have n_Town_hushed := T.n_Town_hushed; have n_Town_shelves := T.n_Town_shelves; have n_Town_layings := T.n_Town_layings
    refine ⟨_, (pss_one (ps_ret (pe_meth0 (pe_ix ix_list (pe_fld (pv 0) rfl) (pv 1) (fun _ _ => rfl)) T.c_Bucket T.t_Bucket_names (ok_Bucket_names T) hr T.b_Bucket_names .nil pass0))), ?_⟩
    rw [Nn.st_Table_bucket]; try rw [Nn.cxK]
    try rw [Nn.cxW]
    walk_at "wx"
    refine x_ixL (v := .ref bs[k]) (SqL.of h2) (atI_nat (by simp [hkb])) ?_
    walk_at "wx"
    exact wc_Bucket_names hb hL q
def sp_Table_nearest (T : Tx K mg base) : Sp := fun vs H Q _ => ∃ (p : Addr) (own wide room g m : Nat) (b : Option Nat) (ls : List Addr) (xss : List (List Nat)), vs = [.ref p, .int g, .int m, oN b] ∧ TabAt T H p own wide room ls ∧ Lines H ls xss ∧ xss.flatten.Nodup ∧ xss.flatten.length < 64 ∧
  ∀ q H', H q = none → Ex H H' → H' q = some (.lst ((nearN (sortU xss.flatten) g m b).map nV)) → Q (.ref q) H'
theorem wc_Table_nearest {T : Tx K mg base} {p : Addr} {own wide room g m : Nat} {b : Option Nat} {v : V} {ls : List Addr} {xss : List (List Nat)} (t : TabAt T H p own wide room ls) (L : Lines H ls xss) (nd : xss.flatten.Nodup) (hz : xss.flatten.length < 64) (hv : v = oN b)
    (h : ∀ q H', H q = none → Ex H H' → H' q = some (.lst ((nearN (sortU xss.flatten) g m b).map nV)) → Q (.ref q) H') : sp_Table_nearest T [.ref p, .int g, .int m, v] H Q E := ⟨p, own, wide, room, g, m, b, ls, xss, by rw [hv], t, L, nd, hz, h⟩
theorem sortU_len {l : List Nat} : (sortU l).length ≤ l.length := nodup_len (rising_nodup (sortU_sorted l)) fun _ h => mem_sortU.mp h
theorem ok_Table_nearest (T : Tx K mg base) : FnOk P w K mg base CX0 3 T.a_Table_nearest T.d_Table_nearest ["self", "goal", "many", "but"] (sp_Table_nearest T) := by
  refine T.F_Table_nearest.okD sc_Table_nearest (fun vs H Q E h => ?_) (fun cdv A outer s H vs Q E hr h => ?_)
  · obtain ⟨p, own, wide, room, g, m, b, ls, xss, rfl, _⟩ := h; rfl
  · obtain ⟨p, own, wide, room, g, m, b, ls, xss, rfl, ht, L, nd, hz, q⟩ := h
    obtain ⟨dx, bl, bs, h1, h2, h3, h4⟩ := ht.ob
    have hlen := sortU_len (l := xss.flatten)
    have c_Bucket := T.c_Bucket; have n_Bucket_room := T.n_Bucket_room; have n_Bucket_line := T.n_Bucket_line; have c_Table := T.c_Table; have n_Table_own := T.n_Table_own; have n_Table_wide := T.n_Table_wide; have n_Table_room := T.n_Table_room; have n_Table_buckets := T.n_Table_buckets; have c_Town := T.c_Town; have n_Town_wide := T.n_Town_wide; have n_Town_room := T.n_Town_room; have n_Town_tables := T.n_Town_tables; have n_Town_hushed := T.n_Town_hushed; have n_Town_shelves := T.n_Town_shelves; have n_Town_layings := T.n_Town_layings
    refine ⟨_, (pss_cons (ps_setLc (i := 4) (own := [("name", 5)]) (g := (gName 5)) (by rfl) sc_Table_nearest.nd rfl rfl (sw_true rfl rfl rfl (by decide +kernel)) (pi_list (pe_meth0 (pv 0) T.c_Table T.t_Table_keeps (ok_Table_keeps T) hr T.b_Table_keeps .nil pass0)) (blkOk_by (N := N_Table_nearest) (sc := defScope s_Table_nearest) (own := [("name", 5)]) (by decide +kernel)) (fun _ _ _ _ _ => (pg_name (i := 5) sc_Table_nearest.nd rfl (Or.inl rfl))) (fun _ _ _ _ _ => pts_one ((pt_cmpR op_ne (pv 5) (pv 3) (nomark _)))) (fun _ _ _ _ _ => (pv 5)))
      (pss_one (ps_ret (pe_slice sl_list (pe_call (ok_by_nearness T) hr rfl T.m_by_nearness T.F_by_nearness.kp T.b_by_nearness .nil pass0 (pa_cons (pv 1) (pa_cons (pv 4) pa_nil))) po_none (po_some (pv 2)))))), ?_⟩
    rw [Nn.st_Table_nearest]; try rw [Nn.cxK]
    try rw [Nn.cxW]
    walk_at "wx"
    refine wc_Table_keeps ht L nd (by omega) fun r H1 hr ex1 hr1 => ?_
    walk_at "wx"
    refine LcW.filt (emb := nV) (xs := sortU xss.flatten) (fun n => !decide (some n = b)) (SqL.of hr1) (by rw [sizeLine_eq]; omega) (fun n _ H2 ex2 R hR => ?_) (fun n _ _ H2 ex2 Qe hQ => ?_) fun D H2 hD ex2 hD2 => ?_
    · walk_at "wx"
      refine x_ne oN_scal ?_
      rw [cmp_nV]
      exact ⟨_, rfl, hR _ Ex.refl⟩
    · walk_at "wx"
      exact hQ
    · walk_at "wx"
      have hfl : ((sortU xss.flatten).filter fun n => !decide (some n = b)).length ≤ (sortU xss.flatten).length := List.length_filter_le _ _
      have hby := byN_len_le (g := g) (ns := (sortU xss.flatten).filter fun n => !decide (some n = b))
      refine wc_by_nearness rfl (SqL.of hD2) ⟨by omega, by omega⟩ fun r3 H3 hr3 ex3 hr33 => ?_
      walk_at "wx"
      refine x_slL (SqL.of hr33) fun r4 hr4 => ?_
      rw [cut_take]
      refine q r4 _ ?_ (((ex1.trans ex2).trans ex3).newT hr4) ?_
      · exact ((ex1.trans ex2).trans ex3).back r4 hr4
      · rw [upd_same]; unfold nearN; rw [List.map_take]
end
end Nn
/-! tables kept well -/
namespace Nn
/-- a table's lines, each name at its own step -/
structure TabOk (own wide room : Nat) (S : Nat → Prop) (xss : List (List Nat)) : Prop where
  len : xss.length = wide
  at_ : ∀ (k : Nat) (xs : List Nat), xss[k]? = some xs → xs.Nodup ∧ xs.length ≤ room ∧ ∀ x ∈ xs, x ≠ own ∧ stepN own x = k ∧ S x
theorem nodup_erase {n : Nat} {xs : List Nat} (h : xs.Nodup) : (xs.erase n).Nodup := h.sublist (List.erase_sublist ..)
theorem hear_mem {room n z : Nat} {xs : List Nat} {a : Bool} (h : z ∈ hearL room xs n a) (h0 : 0 < room) : z ∈ xs ∨ z = n := by
  unfold hearL at h
  split at h
  · rcases List.mem_append.mp h with h | h
    · exact .inl (List.mem_of_mem_erase h)
    · exact .inr (List.mem_singleton.mp h)
  · split at h
    · rcases List.mem_append.mp h with h | h
      · exact .inl h
      · exact .inr (List.mem_singleton.mp h)
    · cases xs with
      | nil => rename_i q; simp at q; omega
      | cons x r =>
        split at h
        · rcases List.mem_append.mp h with h | h
          · exact .inl (List.mem_cons_of_mem _ h)
          · exact .inl (by rw [List.mem_singleton.mp h]; simp)
        · rcases List.mem_append.mp h with h | h
          · exact .inl (List.mem_cons_of_mem _ h)
          · exact .inr (List.mem_singleton.mp h)
theorem nodup_snoc {n : Nat} {xs : List Nat} (h : xs.Nodup) (hn : n ∉ xs) : (xs ++ [n]).Nodup := List.nodup_append.mpr ⟨h, by simp, fun a ha b hb e => hn (by rw [← List.mem_singleton.mp hb, ← e]; exact ha)⟩
theorem hear_ok {room n : Nat} {xs : List Nat} {a : Bool} (h : xs.Nodup) (hl : xs.length ≤ room) (h0 : 0 < room) : (hearL room xs n a).Nodup ∧ (hearL room xs n a).length ≤ room := by
  unfold hearL
  by_cases hn : n ∈ xs
  · rw [if_pos hn]
    refine ⟨nodup_snoc (nodup_erase h) fun z => (h.mem_erase_iff.mp z).1 rfl, ?_⟩
    have hp : 0 < xs.length := List.length_pos_of_mem hn
    rw [List.length_append, List.length_erase_of_mem hn, List.length_singleton]; omega
  · rw [if_neg hn]
    by_cases hr : xs.length < room
    · rw [if_pos hr]
      exact ⟨nodup_snoc h hn, by rw [List.length_append, List.length_singleton]; omega⟩
    · rw [if_neg hr]
      cases xs with
      | nil => simp at hr; omega
      | cons x r =>
        have h1 := List.nodup_cons.mp h
        simp only [List.tail_cons, List.headD_cons]
        cases a with
        | true => exact ⟨nodup_snoc h1.2 h1.1, by simpa using hl⟩
        | false => exact ⟨nodup_snoc h1.2 fun z => hn (List.mem_cons_of_mem _ z), by simpa using hl⟩
theorem TabOk.hear {own wide room n : Nat} {S : Nat → Prop} {xss : List (List Nat)} {a : Nat → Bool} (t : TabOk own wide room S xss) (h0 : 0 < room) (hn : S n) : TabOk own wide room S (tabL own room xss n a) := by
  unfold tabL
  by_cases e : n = own
  · rw [if_pos e]; exact t
  · rw [if_neg e]
    refine ⟨by rw [List.length_set]; exact t.len, fun k xs hk => ?_⟩
    by_cases hs : stepN own n = k
    · subst hs
      have hlt : stepN own n < xss.length := by
        have := (List.getElem?_eq_some_iff.mp hk).1
        simpa using this
      rw [List.getElem?_set_self hlt] at hk
      cases hk
      obtain ⟨h1, h2, h3⟩ := t.at_ _ _ (List.getElem?_eq_getElem hlt)
      have eg : xss.getD (stepN own n) [] = xss[stepN own n] := by rw [List.getD_eq_getElem?_getD, List.getElem?_eq_getElem hlt]; rfl
      rw [eg]
      obtain ⟨a1, a2⟩ := hear_ok (n := n) (a := a (xss[stepN own n].headD 0)) h1 h2 h0
      refine ⟨a1, a2, fun x hx => ?_⟩
      rcases hear_mem hx h0 with z | z
      · exact h3 x z
      · rw [z]; exact ⟨e, rfl, hn⟩
    · rw [List.getElem?_set_ne hs] at hk
      exact t.at_ k xs hk
theorem TabOk.nil {own wide room : Nat} {S : Nat → Prop} : TabOk own wide room S (List.replicate wide []) := ⟨by simp, fun k xs hk => by
  rw [List.getElem?_replicate] at hk
  split at hk
  · cases hk; simp
  · cases hk⟩
theorem TabOk.nodup {own wide room : Nat} {S : Nat → Prop} {xss : List (List Nat)} (t : TabOk own wide room S xss) : xss.flatten.Nodup := by
  refine List.pairwise_flatten.mpr ⟨fun xs hx => ?_, ?_⟩
  · obtain ⟨k, hk⟩ := List.getElem?_of_mem hx
    exact (t.at_ k xs hk).1
  · refine List.pairwise_iff_getElem.mpr fun i j hi hj hij => ?_
    intro a b1 b c1 e
    have h1 := ((t.at_ i _ (List.getElem?_eq_getElem hi)).2.2 a b1).2.1
    have h2 := ((t.at_ j _ (List.getElem?_eq_getElem hj)).2.2 b c1).2.1
    rw [e] at h1; omega
theorem TabOk.mem {own wide room : Nat} {S : Nat → Prop} {xss : List (List Nat)} (t : TabOk own wide room S xss) {x : Nat} (h : x ∈ xss.flatten) : S x := by
  obtain ⟨xs, h1, h2⟩ := List.mem_flatten.mp h
  obtain ⟨k, hk⟩ := List.getElem?_of_mem h1
  exact ((t.at_ k xs hk).2.2 x h2).2.2
theorem TabOk.row {own wide room : Nat} {S : Nat → Prop} {xss : List (List Nat)} (t : TabOk own wide room S xss) : ∀ xs ∈ xss, xs.length ≤ room := fun xs h => by
  obtain ⟨k, hk⟩ := List.getElem?_of_mem h
  exact (t.at_ k xs hk).2.1
theorem TabOk.setL {own wide room k : Nat} {S : Nat → Prop} {xss : List (List Nat)} {ys : List Nat} (t : TabOk own wide room S xss) (h : ∀ xs, xss[k]? = some xs → ys.Nodup ∧ ys.length ≤ room ∧ ∀ x ∈ ys, x ≠ own ∧ stepN own x = k ∧ S x) : TabOk own wide room S (xss.set k ys) := by
  refine ⟨by rw [List.length_set]; exact t.len, fun j xs hj => ?_⟩
  by_cases e : k = j
  · subst e
    have hlt : k < xss.length := by
      have := (List.getElem?_eq_some_iff.mp hj).1
      simpa using this
    rw [List.getElem?_set_self hlt] at hj
    cases hj
    exact h _ (List.getElem?_eq_getElem hlt)
  · rw [List.getElem?_set_ne e] at hj
    exact t.at_ j xs hj
theorem TabOk.drop {own wide room n : Nat} {S : Nat → Prop} {xss : List (List Nat)} (t : TabOk own wide room S xss) : TabOk own wide room S (tabD own xss n) := by
  unfold tabD
  by_cases e : n = own
  · rw [if_pos e]; exact t
  · rw [if_neg e]
    refine t.setL fun xs hx => ?_
    have eg : xss.getD (stepN own n) [] = xs := by rw [List.getD_eq_getElem?_getD, hx]; rfl
    obtain ⟨h1, h2, h3⟩ := t.at_ _ _ hx
    rw [eg]
    exact ⟨h1.erase n, Nat.le_trans (List.length_erase_le ..) h2, fun x hx => h3 x (List.mem_of_mem_erase hx)⟩
end Nn
/-! towns, plainly -/
namespace Nn
open PySem L2
/-- a town: sizes, its houses with their tables' lines in the order of their coming, the silent ones -/
structure TM where
  wide : Nat
  room : Nat
  tabs : List (Nat × List (List Nat))
  hush : List Nat
namespace TM
def houses (m : TM) : List Nat := m.tabs.map (·.1)
def tab (m : TM) (h : Nat) : List (List Nat) := (m.tabs.lookup h).getD []
def aw (m : TM) (n : Nat) : Bool := decide (n ∈ m.houses) && !decide (n ∈ m.hush)
def setTab (m : TM) (h : Nat) (xss : List (List Nat)) : TM := { m with tabs := m.tabs.map fun e => if e.1 = h then (h, xss) else e }
def hears (m : TM) (h n : Nat) : TM := m.setTab h (tabL h m.room (m.tab h) n m.aw)
def drops (m : TM) (h n : Nat) : TM := m.setTab h (tabD h (m.tab h) n)
def keeps (m : TM) (h : Nat) : List Nat := sortU (m.tab h).flatten
def live (m : TM) : List Nat := (sortU m.houses).filter m.aw
inductive Reach (m : TM) (h : Nat) : Nat → Prop
  | self : Reach m h h
  | step {x y : Nat} : Reach m h x → y ∈ (m.tab x).flatten → m.aw y = true → Reach m h y
open Classical in
/-- all to which one comes -/
noncomputable def comeTo (m : TM) (h : Nat) : List Nat := (sortU m.houses).filter fun x => decide (m.Reach h x)
def meet (h : Nat) (m : TM) (o : Nat) : TM := (m.hears h o).hears o h
noncomputable def others (m : TM) (h door : Nat) : List Nat := (m.comeTo door).filter fun x => !decide (x = h)
noncomputable def visit (m : TM) (h door : Nat) : TM := (m.others h door).foldl (meet h) m
def add (m : TM) (n : Nat) : TM := { m with tabs := m.tabs ++ [(n, List.replicate m.wide [])] }
def cut (m : TM) (n : Nat) : TM := { m with tabs := m.tabs.filter fun e => !decide (e.1 = n), hush := m.hush.filter fun x => !decide (x = n) }
def hushed (m : TM) (n : Nat) : TM := if n ∈ m.hush then m else { m with hush := m.hush ++ [n] }
def woken (m : TM) (n : Nat) : TM := { m with hush := m.hush.filter fun x => !decide (x = n) }
variable {m : TM} {h n x : Nat} {xss : List (List Nat)}
theorem setTab_houses : (m.setTab h xss).houses = m.houses := by
  unfold houses setTab
  rw [List.map_map]
  refine List.map_congr_left fun e _ => ?_
  show (if e.1 = h then (h, xss) else e).1 = e.1
  by_cases q : e.1 = h
  · rw [if_pos q, q]
  · rw [if_neg q]
theorem setTab_wide : (m.setTab h xss).wide = m.wide := rfl
theorem setTab_room : (m.setTab h xss).room = m.room := rfl
theorem setTab_hush : (m.setTab h xss).hush = m.hush := rfl
theorem setTab_aw : (m.setTab h xss).aw = m.aw := funext fun n => by
  unfold aw; rw [setTab_houses, setTab_hush]
theorem lookup_ne {k : Nat} {ys : List (List Nat)} {r : List (Nat × List (List Nat))} (e : x ≠ k) : ((k, ys) :: r).lookup x = r.lookup x := by
  rw [List.lookup_cons]
  have e3 : (x == k) = false := by simpa using e
  rw [e3]
theorem lookup_eq {k : Nat} {ys : List (List Nat)} {r : List (Nat × List (List Nat))} : ((k, ys) :: r).lookup k = some ys := by
  rw [List.lookup_cons]
  have e3 : (k == k) = true := by simp
  rw [e3]
theorem lookup_map_set {l : List (Nat × List (List Nat))} : (l.map fun e => if e.1 = h then (h, xss) else e).lookup x = if x = h then (if h ∈ l.map (·.1) then some xss else none) else l.lookup x := by
  induction l with
  | nil => simp
  | cons e r ih =>
    obtain ⟨k, ys⟩ := e
    rw [List.map_cons]
    by_cases q : k = h
    · subst q
      rw [if_pos rfl]
      by_cases e2 : x = k
      · subst e2; rw [lookup_eq]; simp
      · rw [lookup_ne e2, ih, if_neg e2, if_neg e2, lookup_ne e2]
    · rw [if_neg q]
      by_cases e2 : x = k
      · subst e2; rw [lookup_eq, if_neg q, lookup_eq]
      · rw [lookup_ne e2, ih, lookup_ne e2]
        by_cases e4 : x = h
        · rw [if_pos e4, if_pos e4]
          have e5 : (h ∈ ((k, ys) :: r).map (·.1)) ↔ h ∈ r.map (·.1) := by
            rw [List.map_cons, List.mem_cons]
            exact ⟨fun z => z.elim (fun z => absurd z.symm q) id, .inr⟩
          by_cases e6 : h ∈ r.map (·.1)
          · rw [if_pos e6, if_pos (e5.mpr e6)]
          · rw [if_neg e6, if_neg fun z => e6 (e5.mp z)]
        · rw [if_neg e4, if_neg e4]
theorem setTab_tab : (m.setTab h xss).tab x = if x = h ∧ h ∈ m.houses then xss else m.tab x := by
  unfold tab setTab
  show ((m.tabs.map fun e => if e.1 = h then (h, xss) else e).lookup x).getD [] = _
  rw [lookup_map_set]
  by_cases e : x = h
  · rw [if_pos e]
    by_cases q : h ∈ m.tabs.map (·.1)
    · rw [if_pos q, if_pos ⟨e, q⟩]; rfl
    · rw [if_neg q, if_neg fun z => q z.2]
      have : m.tabs.lookup x = none := by
        rw [List.lookup_eq_none_iff]
        intro p hp
        simp only [bne_iff_ne, ne_eq, beq_iff_eq]
        intro z
        exact q (List.mem_map.mpr ⟨p, hp, by rw [← z, e]⟩)
      rw [this]
  · rw [if_neg e, if_neg fun z => e z.1]
theorem lookup_mem {l : List (Nat × List (List Nat))} (nd : (l.map (·.1)).Nodup) {k : Nat} {ys : List (List Nat)} (hm : (k, ys) ∈ l) : l.lookup k = some ys := by
  induction l with
  | nil => cases hm
  | cons e r ih =>
    obtain ⟨k', ys'⟩ := e
    rw [List.map_cons] at nd
    have nd := List.nodup_cons.mp nd
    rw [List.lookup_cons]
    rcases List.mem_cons.mp hm with z | z
    · cases z
      have e3 : (k == k) = true := by simp
      rw [e3]
    · have ne : k ≠ k' := fun q => nd.1 (by rw [← q]; exact List.mem_map.mpr ⟨_, z, rfl⟩)
      have e3 : (k == k') = false := by simpa using ne
      rw [e3]
      exact ih nd.2 z
theorem tab_mem (nd : m.houses.Nodup) {k : Nat} {ys : List (List Nat)} (hm : (k, ys) ∈ m.tabs) : m.tab k = ys := by
  unfold tab; rw [lookup_mem nd hm]; rfl
theorem mem_tab (hm : h ∈ m.houses) (nd : m.houses.Nodup) : (h, m.tab h) ∈ m.tabs := by
  obtain ⟨e, he, rfl⟩ := List.mem_map.mp hm
  have q := tab_mem nd (m := m) (k := e.1) (ys := e.2) he
  rw [q]; exact he
/-- well kept; all names ever are among N -/
structure Ok (N : List Nat) (m : TM) : Prop where
  w0 : 0 < m.wide
  w1 : m.wide ≤ 60
  r0 : 0 < m.room
  r1 : m.room ≤ 8
  nb : ∀ x ∈ N, x < 2 ^ m.wide
  nl : N.length < 64
  hN : ∀ x ∈ m.houses, x ∈ N
  nd : m.houses.Nodup
  hnd : m.hush.Nodup
  hh : ∀ x ∈ m.hush, x ∈ m.houses
  at_ : ∀ h xss, (h, xss) ∈ m.tabs → TabOk h m.wide m.room (· ∈ N) xss
variable {N : List Nat}
theorem Ok.tabOk (k : Ok N m) (hm : h ∈ m.houses) : TabOk h m.wide m.room (· ∈ N) (m.tab h) := k.at_ _ _ (mem_tab hm k.nd)
theorem Ok.setTab (k : Ok N m) (t : h ∈ m.houses → TabOk h m.wide m.room (· ∈ N) xss) : Ok N (m.setTab h xss) := by
  refine ⟨k.w0, k.w1, k.r0, k.r1, k.nb, k.nl, by rw [setTab_houses]; exact k.hN, by rw [setTab_houses]; exact k.nd, k.hnd, by rw [setTab_houses]; exact k.hh, fun h' ys hm => ?_⟩
  obtain ⟨e, he, eq⟩ := List.mem_map.mp hm
  by_cases q : e.1 = h
  · rw [if_pos q] at eq
    cases eq
    exact t (by rw [← q]; exact List.mem_map.mpr ⟨e, he, rfl⟩)
  · rw [if_neg q] at eq
    subst eq
    exact k.at_ _ _ he
theorem Ok.hears (k : Ok N m) (hn : n ∈ N) : Ok N (m.hears h n) := k.setTab fun hm => (k.tabOk hm).hear k.r0 hn
theorem Ok.drops (k : Ok N m) : Ok N (m.drops h n) := k.setTab fun hm => (k.tabOk hm).drop
theorem hears_houses : (m.hears h n).houses = m.houses := setTab_houses
theorem hears_aw : (m.hears h n).aw = m.aw := setTab_aw
theorem hears_wide : (m.hears h n).wide = m.wide := rfl
theorem hears_room : (m.hears h n).room = m.room := rfl
theorem hears_hush : (m.hears h n).hush = m.hush := rfl
theorem meet_houses {o : Nat} : (meet h m o).houses = m.houses := by unfold meet; rw [hears_houses, hears_houses]
theorem meet_aw {o : Nat} : (meet h m o).aw = m.aw := by unfold meet; rw [hears_aw, hears_aw]
theorem Ok.meet {o : Nat} (k : Ok N m) (hn : h ∈ N) (ho : o ∈ N) : Ok N (meet h m o) := (k.hears ho).hears hn
theorem fold_houses : ∀ {l : List Nat} {m : TM}, (l.foldl (TM.meet h) m).houses = m.houses
  | [], _ => rfl
  | o :: r, m => by rw [List.foldl_cons, fold_houses (l := r), meet_houses]
theorem fold_aw : ∀ {l : List Nat} {m : TM}, (l.foldl (TM.meet h) m).aw = m.aw
  | [], _ => rfl
  | o :: r, m => by rw [List.foldl_cons, fold_aw (l := r), meet_aw]
theorem fold_sizes : ∀ {l : List Nat} {m : TM}, (l.foldl (TM.meet h) m).wide = m.wide ∧ (l.foldl (TM.meet h) m).room = m.room ∧ (l.foldl (TM.meet h) m).hush = m.hush
  | [], _ => ⟨rfl, rfl, rfl⟩
  | o :: r, m => by rw [List.foldl_cons]; exact fold_sizes (l := r)
theorem Ok.fold : ∀ {l : List Nat} {m : TM}, Ok N m → h ∈ N → (∀ o ∈ l, o ∈ N) → Ok N (l.foldl (TM.meet h) m)
  | [], _, k, _, _ => k
  | o :: r, m, k, hn, ho => by
    rw [List.foldl_cons]
    exact Ok.fold (l := r) (k.meet hn (ho o (List.mem_cons_self ..))) hn fun x hx => ho x (List.mem_cons_of_mem _ hx)
open Classical in
theorem mem_comeTo : x ∈ m.comeTo h ↔ x ∈ m.houses ∧ m.Reach h x := by
  unfold comeTo
  rw [List.mem_filter, mem_sortU, decide_eq_true_iff]
theorem comeTo_sorted : (m.comeTo h).Pairwise (· < ·) := (sortU_sorted _).filter _
theorem aw_house (e : m.aw x = true) : x ∈ m.houses := by
  unfold aw at e
  rw [Bool.and_eq_true] at e
  exact of_decide_eq_true e.1
theorem Reach.house (r : m.Reach h x) (hm : h ∈ m.houses) : x ∈ m.houses := by
  cases r with
  | self => exact hm
  | step _ _ e => exact aw_house e
/-- a closed list of those come to holds them all -/
theorem Reach.closed {l : List Nat} (r : m.Reach h x) (h0 : h ∈ l) (hc : ∀ y ∈ l, ∀ z ∈ (m.tab y).flatten, m.aw z = true → z ∈ l) : x ∈ l := by
  induction r with
  | self => exact h0
  | step _ hy e ih => exact hc _ ih _ hy e
theorem comeTo_eq {l : List Nat} (hm : h ∈ m.houses) (h0 : h ∈ l) (hr : ∀ x ∈ l, m.Reach h x) (hc : ∀ y ∈ l, ∀ z ∈ (m.tab y).flatten, m.aw z = true → z ∈ l) : sortU l = m.comeTo h :=
  rising_eq (sortU_sorted _) comeTo_sorted fun z => by
    rw [mem_sortU, mem_comeTo]
    exact ⟨fun q => ⟨(hr z q).house hm, hr z q⟩, fun q => q.2.closed h0 hc⟩
theorem mem_live : x ∈ m.live ↔ m.aw x = true := by
  unfold live
  rw [List.mem_filter, mem_sortU]
  exact ⟨fun q => q.2, fun q => ⟨aw_house q, q⟩⟩
theorem mem_keeps : x ∈ m.keeps h ↔ x ∈ (m.tab h).flatten := mem_sortU
theorem Ok.keeps_len (k : Ok N m) (hm : h ∈ m.houses) : (m.tab h).flatten.length < 64 :=
  Nat.lt_of_le_of_lt (nodup_len (k.tabOk hm).nodup fun _ q => (k.tabOk hm).mem q) k.nl
theorem Ok.houses_len (k : Ok N m) : m.houses.length < 64 := Nat.lt_of_le_of_lt (nodup_len k.nd k.hN) k.nl
theorem add_houses : (m.add n).houses = m.houses ++ [n] := by unfold add houses; rw [List.map_append]; rfl
theorem Ok.add (k : Ok N m) (hn : n ∉ m.houses) (hN : n ∈ N) : Ok N (m.add n) := by
  refine ⟨k.w0, k.w1, k.r0, k.r1, k.nb, k.nl, fun x hx => ?_, by rw [add_houses]; exact nd_snoc k.nd hn, k.hnd, fun x hx => by rw [add_houses]; exact List.mem_append.mpr (.inl (k.hh x hx)), fun h xss hm => ?_⟩
  · rw [add_houses] at hx
    rcases List.mem_append.mp hx with q | q
    · exact k.hN x q
    · rw [List.mem_singleton.mp q]; exact hN
  · rcases List.mem_append.mp hm with q | q
    · exact k.at_ _ _ q
    · cases List.mem_singleton.mp q
      exact TabOk.nil
theorem Ok.more {N' : List Nat} (k : Ok N m) (hs : ∀ x ∈ N, x ∈ N') (nb : ∀ x ∈ N', x < 2 ^ m.wide) (nl : N'.length < 64) : Ok N' m :=
  ⟨k.w0, k.w1, k.r0, k.r1, nb, nl, fun x hx => hs x (k.hN x hx), k.nd, k.hnd, k.hh, fun h xss hm => ⟨(k.at_ h xss hm).len, fun i xs e => by
    obtain ⟨a, b, c⟩ := (k.at_ h xss hm).at_ i xs e
    exact ⟨a, b, fun x hx => ⟨(c x hx).1, (c x hx).2.1, hs x (c x hx).2.2⟩⟩⟩⟩
end TM
end Nn
/-! asks and ways, plainly -/
namespace Nn
abbrev Tell := Nat → Nat → Nat → Option (List Nat)
/-- the so many nearest of what was seen and not found silent -/
def standN (g room : Nat) (seen quiet : List Nat) : List Nat := (byN g (seen.filter fun x => !decide (x ∈ quiet))).take room
structure AskSt where
  row : List (Nat × Option (List Nat))
  seen : List Nat
  quiet : List Nat
namespace AskSt
def done (s : AskSt) : List Nat := s.row.map (·.1)
def left (g room : Nat) (s : AskSt) : List Nat := (standN g room s.seen s.quiet).filter fun x => !decide (x ∈ s.done)
def add (start h : Nat) (s : AskSt) : Option (List Nat) → AskSt
  | none => ⟨s.row ++ [(h, none)], s.seen, s.quiet ++ [h]⟩
  | some l => ⟨s.row ++ [(h, some l)], s.seen ++ l.filter fun x => !decide (x = start), s.quiet⟩
def first (t : Nat → Option (List Nat)) (start : Nat) : AskSt := ⟨[(start, t start)], ((t start).getD []).filter fun x => !decide (x = start), []⟩
def nextOf (t : Nat → Option (List Nat)) (start : Nat) (s : AskSt) : List Nat → AskSt
  | [] => s
  | h :: _ => s.add start h (t h)
/-- so many asked behind the start -/
def run (t : Nat → Option (List Nat)) (start g room : Nat) : Nat → AskSt
  | 0 => first t start
  | k + 1 => nextOf t start (run t start g room k) ((run t start g room k).left g room)
structure Ok (t : Nat → Option (List Nat)) (start : Nat) (N : List Nat) (s : AskSt) : Prop where
  nd : s.done.Nodup
  dn : ∀ x ∈ s.done, x = start ∨ x ∈ N
  st : start ∈ s.done
  sn : ∀ x ∈ s.seen, x ∈ N ∧ x ≠ start
  qd : ∀ x, x ∈ s.quiet ↔ x ∈ s.done ∧ t x = none
  ql : s.quiet.length ≤ s.row.length
  sl : s.seen.length ≤ 100 * s.row.length
  rt : ∀ e ∈ s.row, e.2 = t e.1
  sd : ∀ x ∈ s.done, x = start ∨ x ∈ s.seen
  hd : s.row.head? = some (start, t start)
  tl : ∀ y ∈ s.done, ∀ l, t y = some l → ∀ x ∈ l, x = start ∨ x ∈ s.seen
  sf : ∀ x ∈ s.seen, ∃ y ∈ s.done, ∃ l, t y = some l ∧ x ∈ l
variable {t : Nat → Option (List Nat)} {start g room h : Nat} {N : List Nat} {s : AskSt}
theorem mem_stand {x : Nat} {seen quiet : List Nat} (hx : x ∈ standN g room seen quiet) : x ∈ seen ∧ x ∉ quiet := by
  have q := List.mem_filter.mp (mem_byN.mp (List.mem_of_mem_take hx))
  exact ⟨q.1, by simpa using q.2⟩
theorem mem_left {x : Nat} (hx : x ∈ s.left g room) : x ∈ s.seen ∧ x ∉ s.quiet ∧ x ∉ s.done := by
  have q := List.mem_filter.mp hx
  obtain ⟨a, b⟩ := mem_stand q.1
  exact ⟨a, b, by simpa using q.2⟩
theorem Ok.len (k : s.Ok t start N) : s.row.length ≤ N.length + 1 := by
  have q := nodup_len k.nd (b := start :: N) fun x hx => (k.dn x hx).elim (fun e => by rw [e]; simp) fun e => List.mem_cons_of_mem _ e
  unfold done at q
  rw [List.length_map, List.length_cons] at q
  exact q
theorem nd_snoc' {n : Nat} {xs : List Nat} (h : xs.Nodup) (hn : n ∉ xs) : (xs ++ [n]).Nodup := List.nodup_append.mpr ⟨h, by simp, fun a ha b hb e => hn (by rw [← List.mem_singleton.mp hb, ← e]; exact ha)⟩
theorem add_done {o : Option (List Nat)} : (s.add start h o).done = s.done ++ [h] := by
  cases o <;> simp [add, done]
theorem Ok.first (h0 : t start ≠ none) (hl : ∀ h l, t h = some l → l.length ≤ 100 ∧ ∀ x ∈ l, x ∈ N) : (AskSt.first t start).Ok t start N := by
  obtain ⟨l, e⟩ : ∃ l, t start = some l := by
    cases h : t start with
    | none => exact absurd h h0
    | some l => exact ⟨l, rfl⟩
  obtain ⟨q1, q2⟩ := hl _ _ e
  unfold AskSt.first
  rw [e]
  have hsub : ∀ x ∈ l.filter (fun x => !decide (x = start)), x ∈ l ∧ x ≠ start := fun x hx => by
    have q := List.mem_filter.mp hx
    exact ⟨q.1, by simpa using q.2⟩
  refine ⟨by simp [done], by simp [done], by simp [done], fun x hx => ⟨q2 x (hsub x hx).1, (hsub x hx).2⟩, fun x => ?_, by simp, ?_, by simp [e], by simp [done], by simp [e], fun y hy l' e' x hx => ?_, fun x hx => ⟨start, by simp [done], l, e, (hsub x hx).1⟩⟩
  · constructor
    · intro z; cases z
    · rintro ⟨z, z2⟩
      rw [done, List.map_cons, List.map_nil, List.mem_singleton] at z
      rw [z] at z2
      exact absurd z2 h0
  · show (l.filter _).length ≤ 100 * 1
    exact Nat.le_trans (List.length_filter_le _ _) (by omega)
  · simp [done] at hy
    subst hy
    rw [e] at e'
    cases e'
    by_cases z : x = y
    · exact .inl z
    · exact .inr (List.mem_filter.mpr ⟨hx, by simp [z]⟩)
theorem Ok.add (k : s.Ok t start N) (hl : ∀ h l, t h = some l → l.length ≤ 100 ∧ ∀ x ∈ l, x ∈ N) (hh : h ∈ s.left g room) : (s.add start h (t h)).Ok t start N := by
  obtain ⟨h1, h2, h3⟩ := mem_left hh
  have nd : (s.add start h (t h)).done.Nodup := by rw [add_done]; exact nd_snoc' k.nd h3
  have dn : ∀ x ∈ (s.add start h (t h)).done, x = start ∨ x ∈ N := fun x hx => by
    rw [add_done] at hx
    rcases List.mem_append.mp hx with z | z
    · exact k.dn x z
    · rw [List.mem_singleton.mp z]; exact .inr (k.sn h h1).1
  have st : start ∈ (s.add start h (t h)).done := by rw [add_done]; exact List.mem_append.mpr (.inl k.st)
  have hne : s.row ≠ [] := fun z => by
    have q := k.st
    unfold done at q
    rw [z] at q; cases q
  have hdd : ∀ o, (s.add start h o).row.head? = some (start, t start) := fun o => by
    have e : (s.add start h o).row = s.row ++ [(h, o)] := by cases o <;> rfl
    rw [e, ← k.hd]
    cases hr : s.row with
    | nil => exact absurd hr hne
    | cons a b => rfl
  have mdn : ∀ o x, x ∈ (s.add start h o).done ↔ x ∈ s.done ∨ x = h := fun o x => by rw [add_done, List.mem_append, List.mem_singleton]
  cases e : t h with
  | none =>
    rw [e] at nd dn st
    refine ⟨nd, dn, st, k.sn, fun x => ?_, ?_, ?_, fun y hy => ?_, fun x hx => ?_, hdd _, fun y hy l' e' x hx => ?_, fun x hx => ?_⟩
    · rw [mdn]
      show x ∈ s.quiet ++ [h] ↔ _
      rw [List.mem_append, List.mem_singleton, k.qd]
      constructor
      · rintro (z | z)
        · exact ⟨.inl z.1, z.2⟩
        · exact ⟨.inr z, by rw [z]; exact e⟩
      · rintro ⟨z | z, z2⟩
        · exact .inl ⟨z, z2⟩
        · exact .inr z
    · show (s.quiet ++ [h]).length ≤ (s.row ++ [(h, none)]).length
      have := k.ql
      simp only [List.length_append, List.length_cons, List.length_nil]; omega
    · show s.seen.length ≤ 100 * (s.row ++ [(h, none)]).length
      have := k.sl
      simp only [List.length_append, List.length_cons, List.length_nil]; omega
    · rcases List.mem_append.mp hy with z | z
      · exact k.rt y z
      · rw [List.mem_singleton.mp z]; exact e.symm
    · rcases (mdn _ x).mp hx with z | z
      · exact k.sd x z
      · rw [z]; exact .inr h1
    · rcases (mdn _ y).mp hy with z | z
      · exact k.tl y z l' e' x hx
      · rw [z, e] at e'; cases e'
    · obtain ⟨y, hy, q⟩ := k.sf x hx
      exact ⟨y, (mdn _ y).mpr (.inl hy), q⟩
  | some l =>
    rw [e] at nd dn st
    obtain ⟨q1, q2⟩ := hl _ _ e
    have hsub : ∀ x ∈ l.filter (fun x => !decide (x = start)), x ∈ l ∧ x ≠ start := fun x hx => by
      have q := List.mem_filter.mp hx
      exact ⟨q.1, by simpa using q.2⟩
    refine ⟨nd, dn, st, fun x hx => ?_, fun x => ?_, ?_, ?_, fun y hy => ?_, fun x hx => ?_, hdd _, fun y hy l' e' x hx => ?_, fun x hx => ?_⟩
    · rcases List.mem_append.mp hx with z | z
      · exact k.sn x z
      · exact ⟨q2 x (hsub x z).1, (hsub x z).2⟩
    · rw [mdn]
      show x ∈ s.quiet ↔ _
      rw [k.qd]
      constructor
      · rintro ⟨a, b⟩; exact ⟨.inl a, b⟩
      · rintro ⟨z | z, z2⟩
        · exact ⟨z, z2⟩
        · rw [z, e] at z2; cases z2
    · show s.quiet.length ≤ (s.row ++ [(h, some l)]).length
      have := k.ql
      simp only [List.length_append, List.length_cons, List.length_nil]; omega
    · show (s.seen ++ l.filter _).length ≤ 100 * (s.row ++ [(h, some l)]).length
      have := k.sl
      have := List.length_filter_le (fun x => !decide (x = start)) l
      simp only [List.length_append, List.length_cons, List.length_nil]; omega
    · rcases List.mem_append.mp hy with z | z
      · exact k.rt y z
      · rw [List.mem_singleton.mp z]; exact e.symm
    · rcases (mdn _ x).mp hx with z | z
      · exact (k.sd x z).imp id fun z => List.mem_append.mpr (.inl z)
      · rw [z]; exact .inr (List.mem_append.mpr (.inl h1))
    · rcases (mdn _ y).mp hy with z | z
      · exact (k.tl y z l' e' x hx).imp id fun z => List.mem_append.mpr (.inl z)
      · rw [z, e] at e'; cases e'
        by_cases z : x = start
        · exact .inl z
        · exact .inr (List.mem_append.mpr (.inr (List.mem_filter.mpr ⟨hx, by simp [z]⟩)))
    · rcases List.mem_append.mp hx with z | z
      · obtain ⟨y, hy, q⟩ := k.sf x z
        exact ⟨y, (mdn _ y).mpr (.inl hy), q⟩
      · exact ⟨h, (mdn _ h).mpr (.inr rfl), l, e, (hsub x z).1⟩
theorem run_ok {g room : Nat} (h0 : t start ≠ none) (hl : ∀ h l, t h = some l → l.length ≤ 100 ∧ ∀ x ∈ l, x ∈ N) : ∀ k, (run t start g room k).Ok t start N
  | 0 => Ok.first h0 hl
  | k + 1 => by
    have ih := run_ok (g := g) (room := room) h0 hl k
    show (nextOf t start (run t start g room k) ((run t start g room k).left g room)).Ok t start N
    cases e : (run t start g room k).left g room with
    | nil => exact ih
    | cons x r => exact ih.add (g := g) (room := room) hl (by rw [e]; simp)
theorem run_next {k : Nat} {x : Nat} {r : List Nat} (h : (run t start g room k).left g room = x :: r) : run t start g room (k + 1) = (run t start g room k).add start x (t x) := by
  show nextOf t start (run t start g room k) ((run t start g room k).left g room) = _
  rw [h]; rfl
theorem run_end {k : Nat} (h : (run t start g room k).left g room = []) : ∀ j, run t start g room (k + j) = run t start g room k
  | 0 => rfl
  | j + 1 => by
    have ih := run_end h j
    show nextOf t start (run t start g room (k + j)) ((run t start g room (k + j)).left g room) = _
    rw [ih, h]; rfl
end AskSt
/-- the end of an ask -/
@[irreducible] def askEnd (t : Nat → Option (List Nat)) (start g room : Nat) : AskSt := AskSt.run t start g room 64
theorem askEnd_eq {t : Nat → Option (List Nat)} {start g room k : Nat} (hk : k ≤ 64) (h : (AskSt.run t start g room k).left g room = []) : askEnd t start g room = AskSt.run t start g room k := by
  obtain ⟨j, e⟩ : ∃ j, 64 = k + j := ⟨64 - k, by omega⟩
  unfold askEnd
  rw [e]
  exact AskSt.run_end h j
theorem askEnd_ok {t : Nat → Option (List Nat)} {start g room : Nat} {N : List Nat} (h0 : t start ≠ none) (hl : ∀ h l, t h = some l → l.length ≤ 100 ∧ ∀ x ∈ l, x ∈ N) : (askEnd t start g room).Ok t start N := by
  unfold askEnd
  exact AskSt.run_ok h0 hl 64
def askFound (t : Nat → Option (List Nat)) (start g room : Nat) : List Nat := standN g room (askEnd t start g room).seen (askEnd t start g room).quiet
theorem AskSt.run_len {t : Nat → Option (List Nat)} {start g room : Nat} : ∀ {k : Nat}, (AskSt.run t start g room k).left g room ≠ [] → (AskSt.run t start g room k).row.length = k + 1
  | 0, _ => rfl
  | k + 1, h => by
    cases e : (AskSt.run t start g room k).left g room with
    | nil =>
      have q := AskSt.run_end e 1
      rw [q] at h
      exact absurd e h
    | cons x r =>
      have ih := AskSt.run_len (k := k) (by rw [e]; simp)
      rw [AskSt.run_next e]
      have z : ∀ o, ((AskSt.run t start g room k).add start x o).row.length = (AskSt.run t start g room k).row.length + 1 := fun o => by cases o <;> simp [AskSt.add]
      rw [z, ih]
theorem askEnd_left {t : Nat → Option (List Nat)} {start g room : Nat} {N : List Nat} (h0 : t start ≠ none) (hl : ∀ h l, t h = some l → l.length ≤ 100 ∧ ∀ x ∈ l, x ∈ N) (hN : N.length < 64) : (askEnd t start g room).left g room = [] := by
  refine Classical.byContradiction fun z => ?_
  unfold askEnd at z
  have q := AskSt.run_len (k := 64) z
  have := (AskSt.run_ok (start := start) (g := g) (room := room) h0 hl 64).len
  omega
/-! ways -/
def onwN (t : Tell) (x g : Nat) : Option Nat := (byN g ((t x g x).getD [])).find? fun n => (t n g x).isSome
def upTo (p : Nat → Bool) : List Nat → List Nat
  | [] => []
  | x :: r => if p x = true then [x] else x :: upTo p r
def onwC (t : Tell) (x g : Nat) : List (Nat × Nat × Nat) := (x, g, x) :: (upTo (fun n => (t n g x).isSome) (byN g ((t x g x).getD []))).map fun n => (n, g, x)
theorem upTo_hit {p : Nat → Bool} : ∀ {l : List Nat} {i : Nat} (hi : i < l.length), (∀ x ∈ l.take i, p x = false) → p l[i] = true → upTo p l = l.take (i + 1) ∧ l.find? p = some l[i]
  | [], i, hi, _, _ => absurd hi (Nat.not_lt_zero _)
  | x :: r, 0, _, _, h => by
    have h : p x = true := h
    refine ⟨?_, ?_⟩
    · unfold upTo; rw [if_pos h]; rfl
    · rw [List.find?_cons_of_pos h]; rfl
  | x :: r, i + 1, hi, h0, h => by
    have hx : p x = false := h0 x (by simp)
    have hi' : i < r.length := by simpa using hi
    obtain ⟨a, b⟩ := upTo_hit (l := r) (i := i) hi' (fun y hy => h0 y (by simp [hy])) h
    refine ⟨?_, ?_⟩
    · unfold upTo; rw [if_neg (by simp [hx]), a]; rfl
    · rw [List.find?_cons_of_neg (by simp [hx]), b]; rfl
theorem upTo_no {p : Nat → Bool} : ∀ {l : List Nat}, (∀ x ∈ l, p x = false) → upTo p l = l ∧ l.find? p = none
  | [], _ => ⟨rfl, rfl⟩
  | x :: r, h => by
    have hx : p x = false := h x (by simp)
    obtain ⟨a, b⟩ := upTo_no (l := r) fun y hy => h y (by simp [hy])
    exact ⟨by unfold upTo; rw [if_neg (by simp [hx]), a], by rw [List.find?_cons_of_neg (by simp [hx]), b]⟩
def wayN (t : Tell) (g x : Nat) : List Nat :=
  match onwN t x g with
  | none => [x]
  | some y => if g ^^^ y < g ^^^ x then x :: wayN t g y else [x]
termination_by g ^^^ x
def wayC (t : Tell) (g x : Nat) : List (Nat × Nat × Nat) := (wayN t g x).flatMap fun y => onwC t y g
theorem wayN_none {t : Tell} {g x : Nat} (h : onwN t x g = none) : wayN t g x = [x] := by
  rw [wayN, h]
theorem wayN_far {t : Tell} {g x y : Nat} (h : onwN t x g = some y) (h2 : ¬ g ^^^ y < g ^^^ x) : wayN t g x = [x] := by
  rw [wayN, h]
  simp only [if_neg h2]
theorem wayN_on {t : Tell} {g x y : Nat} (h : onwN t x g = some y) (h2 : g ^^^ y < g ^^^ x) : wayN t g x = x :: wayN t g y := by
  rw [wayN, h]
  simp only [if_pos h2]
theorem onwN_mem {t : Tell} {x g y : Nat} (h : onwN t x g = some y) : (∃ l, t x g x = some l ∧ y ∈ l) ∧ (t y g x).isSome = true := by
  unfold onwN at h
  have h1 := List.mem_of_find?_eq_some h
  have h2 := List.find?_some h
  refine ⟨?_, h2⟩
  have h1 := mem_byN.mp h1
  cases e : t x g x with
  | none => rw [e] at h1; cases h1
  | some l => rw [e] at h1; exact ⟨l, rfl, h1⟩
end Nn
/-! functions that tell what houses tell; ways by them -/
namespace Nn
open PySem L2
section
variable {P : Program} {w : World} {K : PySem.W.Frag} {mg : Str → Option Value} {base : Heap} {H H' : Hp} {Q : VK} {E : XK}
/-- a function's words and promise -/
structure Tel (P : Program) (w : World) (K : PySem.W.Frag) (mg : Str → Option Value) (base : Heap) where
  st : Stmt
  name : Str
  qual : Str
  ps : List Str
  fr : List Str
  sp : List (Option V) → Sp
  ok : ∀ (cl : List (Str × Addr)) (cd f : Addr), NdefX.NOk P w K mg base CX0 5 f (NdefX.NF.of st name qual cl cd) ps fr sp
def AnsV (K : PySem.W.Frag) (H : Hp) (v : V) : Option (List Nat) → Prop
  | none => v = .non
  | some l => ∃ p, v = .ref p ∧ SqL K H p (l.map nV)
theorem AnsV.ex {v : V} {o : Option (List Nat)} (e : Ex H H') (a : AnsV K H v o) : AnsV K H' v o := by
  cases o with
  | none => exact a
  | some l => obtain ⟨p, h1, h2⟩ := a; exact ⟨p, h1, e.ls h2⟩
/-- the function f stands, and tells -/
structure TelAt (Z : Tel P w K mg base) (cl : List (Str × Addr)) (ws : List (Option V)) (f : Addr) where
  cd : Addr
  I : Hp → List (Nat × Nat × Nat) → Prop
  FF : Addr → Prop
  S : Addr → Prop
  tell : Tell
  N : List Nat
  fn : ∀ {H : Hp} {cs : List (Nat × Nat × Nat)}, I H cs → H f = some (NdefX.FnO f (NdefX.NF.of Z.st Z.name Z.qual cl cd)) ∧ H cd = some (LamX.CodeO cd (NdefX.NF.of Z.st Z.name Z.qual cl cd).qual)
  fr : ∀ {H H' : Hp} {R : Addr → Prop} {cs : List (Nat × Nat × Nat)}, I H cs → Fr R H H' → (∀ a, R a → ¬ FF a ∧ ∃ xs, H a = some (.lst xs)) → I H' cs
  sub : ∀ a, S a → FF a
  live : ∀ {H : Hp} {cs : List (Nat × Nat × Nat)} {a : Addr}, I H cs → FF a → H a ≠ none
  nl : N.length < 63
  tl : ∀ h g a l, tell h g a = some l → l.length ≤ 100 ∧ ∀ x ∈ l, x ∈ N
  sil : ∀ h g a g' a', (tell h g a).isSome = (tell h g' a').isSome
  say : ∀ {H : Hp} {cs : List (Nat × Nat × Nat)} {h g a : Nat} {Q : VK} {E : XK}, I H cs → cs.length ≤ 1000000 → (h ∈ N ∨ tell h g a ≠ none) → (∀ v H', Fr S H H' → I H' (cs ++ [(h, g, a)]) → AnsV K H' v (tell h g a) → Q v H') → Z.sp ws [.int h, .int g, .int a] H Q E
variable {Z : Tel P w K mg base} {cl : List (Str × Addr)} {ws : List (Option V)} {f : Addr}
theorem TelAt.exI (t : TelAt Z cl ws f) {cs : List (Nat × Nat × Nat)} (h : t.I H cs) (e : Ex H H') : t.I H' cs := t.fr h e fun _ z => z.elim
theorem TelAt.mut (t : TelAt Z cl ws f) {cs : List (Nat × Nat × Nat)} {a : Addr} {xs : List V} {o : HO} (h : t.I H cs) (ha : H a = some (.lst xs)) (n : ¬ t.FF a) : t.I (upd H a o) cs :=
  t.fr h (Fr.upd1 (o := o) ha) fun b z => by rw [z]; exact ⟨n, xs, ha⟩
theorem Fr.mut {S : Addr → Prop} {H H' : Hp} {p : Addr} {o u : HO} (e : Fr S H H') (h : H p = none) (h' : H' p = some u) (hu : NX u := by trivial) : Fr S H (upd H' p o) :=
  have b := Fr.upd1 (o := o) h' hu
  ⟨fun x o1 e1 n s => b.keep x o1 (e.keep x o1 e1 n s) n fun z => (by rw [z, h] at e1; cases e1), fun P t => b.tab P (e.tab P t), fun x e1 => e.back x (b.back x e1)⟩
/-- what is new to H0 is none of the function's own -/
theorem TelAt.new (t : TelAt Z cl ws f) {cs : List (Nat × Nat × Nat)} {a : Addr} (h : t.I H cs) (n : H a = none) : ¬ t.FF a := fun z => t.live h z n
theorem byN_lt {N l : List Nat} {g : Nat} (hl : ∀ x ∈ l, x ∈ N) (hN : N.length < 63) : (byN g l).length < 64 :=
  Nat.lt_of_le_of_lt (nodup_len (byN_nodup g l) fun x hx => hl x (mem_byN.mp hx)) (by omega)
theorem upTo_len {p : Nat → Bool} : ∀ {l : List Nat}, (upTo p l).length ≤ l.length
  | [] => Nat.le_refl _
  | x :: r => by
    unfold upTo
    split
    · simp
    · have := upTo_len (p := p) (l := r)
      simp only [List.length_cons]; omega
end
end Nn
namespace Nn
open PySem L2
section
variable {P : Program} {w : World} {K : PySem.W.Frag} {mg : Str → Option Value} {base : Heap} {H H' : Hp} {Q : VK} {E : XK} {Z : Tel P w K mg base} {cl : List (Str × Addr)} {ws : List (Option V)} {f : Addr}
def sp_onward (_ : Tx K mg base) (Z : Tel P w K mg base) (cl : List (Str × Addr)) (ws : List (Option V)) : Sp := fun vs H Q _ => ∃ (f : Addr) (x g : Nat) (t : TelAt Z cl ws f) (cs : List (Nat × Nat × Nat)), vs = [.int x, .int g, .ref f] ∧ t.I H cs ∧ t.tell x g x ≠ none ∧ cs.length ≤ 900000 ∧
  ∀ H', Fr t.S H H' → t.I H' (cs ++ onwC t.tell x g) → Q (oN (onwN t.tell x g)) H'
theorem wc_onward {T : Tx K mg base} (t : TelAt Z cl ws f) {x g : Nat} {i j : Int} {cs : List (Nat × Nat × Nat)} (hi : i = x) (hj : j = g) (hI : t.I H cs) (h0 : t.tell x g x ≠ none) (hz : cs.length ≤ 900000) (q : ∀ H', Fr t.S H H' → t.I H' (cs ++ onwC t.tell x g) → Q (oN (onwN t.tell x g)) H') : sp_onward T Z cl ws [.int i, .int j, .ref f] H Q E := by
  subst hi hj; exact ⟨f, x, g, t, cs, rfl, hI, h0, hz, q⟩
theorem ok_onward (T : Tx K mg base) (Z : Tel P w K mg base) {cl : List (Str × Addr)} (ws : List (Option V)) : FnOkC P w K mg base CX0 6 T.a_onward T.d_onward ["here", "goal", "tells"] cl Z.fr ws (sp_onward T Z cl ws) := by
  refine FunD.okC T.F_onward sc_onward (fun vs H Q E h => ?_) (fun cdv A outer s H vs Q E hr hC h => ?_)
  · obtain ⟨f, x, g, t, cs, rfl, _⟩ := h; rfl
  · obtain ⟨f, x, g, t, cs, rfl, hI, h0, hcz, q⟩ := h
    have hu := hu_of hr
    have c_Bucket := T.c_Bucket; have n_Bucket_room := T.n_Bucket_room; have n_Bucket_line := T.n_Bucket_line; have c_Table := T.c_Table; have n_Table_own := T.n_Table_own; have n_Table_wide := T.n_Table_wide; have n_Table_room := T.n_Table_room; have n_Table_buckets := T.n_Table_buckets; have c_Town := T.c_Town; have n_Town_wide := T.n_Town_wide; have n_Town_room := T.n_Town_room; have n_Town_tables := T.n_Town_tables; have n_Town_hushed := T.n_Town_hushed; have n_Town_shelves := T.n_Town_shelves; have n_Town_layings := T.n_Town_layings
    refine ⟨_, (pss_cons (ps_for PassesOwn.never rfl (pi_list (pe_call (ok_by_nearness T) (hr.mono (by decide)) rfl T.m_by_nearness T.F_by_nearness.kp T.b_by_nearness .nil pass0 (pa_cons (pv 1) (pa_cons (pe_callF (F := NdefX.NF.of Z.st Z.name Z.qual cl t.cd) (i := 2) (sp := fun _ => Z.sp) (fun f => Z.ok cl t.cd f) (Prov.entry hC rfl) hr (by decide) pass0 rfl (by first | exact Or.inl rfl | exact Or.inr (Or.inl rfl) | exact Or.inr (Or.inr rfl)) (pa_cons (pv 0) (pa_cons (pv 1) (pa_cons (pv 0) pa_nil)))) pa_nil)))) (pg_name (i := 3) sc_onward.nd rfl (Or.inl rfl))
      (pss_one (ps_if (pt_cmpR op_notNn (pe_callF (F := NdefX.NF.of Z.st Z.name Z.qual cl t.cd) (i := 2) (sp := fun _ => Z.sp) (fun f => Z.ok cl t.cd f) (Prov.entry hC rfl) hr (by decide) pass0 rfl (by first | exact Or.inl rfl | exact Or.inr (Or.inl rfl) | exact Or.inr (Or.inr rfl)) (pa_cons (pv 3) (pa_cons (pv 1) (pa_cons (pv 0) pa_nil)))) pe_non (nomark _))
      (pss_one (ps_ret (pv 3)))
      pss_nil)))
      (pss_one (ps_ret pe_non))), ?_⟩
    rw [Nn.st_onward]; try rw [Nn.cxK]
    try rw [Nn.cxW]
    walk_at "wx"
    refine ⟨f, rfl, (t.fn hI).1, ?_⟩
    walk_at "wx"
    refine ⟨(t.fn hI).1, (t.fn hI).2, ?_⟩
    refine t.say hI (by omega) (.inr h0) fun v H1 fr1 hI1 ha => ?_
    obtain ⟨l, hl⟩ : ∃ l, t.tell x g x = some l := by
      cases e : t.tell x g x with
      | none => exact absurd e h0
      | some l => exact ⟨l, rfl⟩
    rw [hl] at ha
    obtain ⟨p, rfl, hp⟩ := ha
    obtain ⟨hl1, hl2⟩ := t.tl _ _ _ _ hl
    have hby := byN_lt (g := g) hl2 t.nl
    walk_at "wx"
    refine wc_by_nearness rfl hp ⟨hby, by omega⟩ fun p2 H2 hp2 ex2 h2 => ?_
    have hI2 := t.exI hI1 ex2
    have nF : ¬ t.FF p2 := t.new hI1 hp2
    have egd : (t.tell x g x).getD [] = l := by rw [hl]; rfl
    walk_at "wx"
    refine ForW.by walk_list (fun i σ H' => ∃ (v : Option V), σ = [some (.int x), some (.int g), some (.ref f), v] ∧ Fr t.S H H' ∧ H' p2 = some (.lst ((byN g l).map nV)) ∧ (∀ n ∈ (byN g l).take i, (t.tell n g x).isSome = false) ∧ t.I H' (cs ++ ((x, g, x) :: ((byN g l).take i).map fun n => (n, g, x))))
      ⟨_, rfl, fr1.trans ex2.fr, h2, by simp, by simpa using hI2⟩ (fun i σ H' _ ⟨_, _, _, e, _⟩ => SqL.of e) ?_ ?_
    · rintro i y σ _ H3 hi ⟨v, rfl, fr3, h3, hno, hI3⟩ ⟨rfl, hx⟩
      rw [List.length_map] at hi
      obtain rfl : y = nV (byN g l)[i] := by
        rw [List.getElem?_map, List.getElem?_eq_getElem hi] at hx
        exact (Option.some.inj hx).symm
      have et : (byN g l).take (i + 1) = (byN g l).take i ++ [(byN g l)[i]] := by rw [List.take_add_one, List.getElem?_eq_getElem hi]; rfl
      have hcl : (cs ++ ((x, g, x) :: ((byN g l).take i).map fun n => (n, g, x))).length ≤ 1000000 := by
        have := List.length_take_le' i (byN g l)
        simp only [List.length_append, List.length_cons, List.length_map]; omega
      walk_at "wx"
      refine ⟨f, rfl, (t.fn hI3).1, ?_⟩
      walk_at "wx"
      refine ⟨(t.fn hI3).1, (t.fn hI3).2, ?_⟩
      refine t.say (h := (byN g l)[i]) (g := g) (a := x) hI3 hcl (.inl (hl2 _ (mem_byN.mp (List.getElem_mem hi)))) fun v4 H4 fr4 hI4 ha4 => ?_
      have ecs : cs ++ ((x, g, x) :: ((byN g l).take i).map fun n => (n, g, x)) ++ [((byN g l)[i], g, x)] = cs ++ ((x, g, x) :: ((byN g l).take (i + 1)).map fun n => (n, g, x)) := by
        rw [et, List.map_append, List.append_assoc, List.cons_append]; rfl
      rw [ecs] at hI4
      have h4 := fr4.at h3 fun z => nF (t.sub _ z)
      cases e : t.tell (byN g l)[i] g x with
      | none =>
        rw [e] at ha4
        obtain rfl : v4 = .non := ha4
        walk_at "wx"
        refine ⟨_, rfl, fr3.trans fr4, h4, fun n hn => ?_, hI4⟩
        rw [et] at hn
        rcases List.mem_append.mp hn with z | z
        · exact hno n z
        · rw [List.mem_singleton.mp z, e]; rfl
      | some l4 =>
        rw [e] at ha4
        obtain ⟨p4, rfl, _⟩ := ha4
        walk_at "wx"
        obtain ⟨a, b⟩ := upTo_hit (p := fun n => (t.tell n g x).isSome) (l := byN g l) hi hno (by rw [e]; rfl)
        have eo : onwN t.tell x g = some (byN g l)[i] := by unfold onwN; rw [egd]; exact b
        have ec : onwC t.tell x g = (x, g, x) :: ((byN g l).take (i + 1)).map fun n => (n, g, x) := by unfold onwC; rw [egd, a]
        have q2 := q H4 (fr3.trans fr4) (by rw [ec]; exact hI4)
        rw [eo] at q2
        exact q2
    · rintro σ H3 ⟨v, rfl, fr3, h3, hno, hI3⟩
      rw [List.length_map, List.take_length] at hno hI3
      walk_at "wx"
      obtain ⟨a, b⟩ := upTo_no (p := fun n => (t.tell n g x).isSome) (l := byN g l) hno
      have eo : onwN t.tell x g = none := by unfold onwN; rw [egd]; exact b
      have ec : onwC t.tell x g = (x, g, x) :: (byN g l).map fun n => (n, g, x) := by unfold onwC; rw [egd, a]
      have q2 := q H3 fr3 (by rw [ec]; exact hI3)
      rw [eo] at q2
      exact q2
def sp_way (_ : Tx K mg base) (Z : Tel P w K mg base) (cl : List (Str × Addr)) (ws : List (Option V)) : Sp := fun vs H Q _ => ∃ (f : Addr) (x g : Nat) (t : TelAt Z cl ws f) (cs : List (Nat × Nat × Nat)), vs = [.int x, .int g, .ref f] ∧ t.I H cs ∧ t.tell x g x ≠ none ∧ cs.length ≤ 500000 ∧
  ∀ p H', H p = none → Fr t.S H H' → H' p = some (.lst ((wayN t.tell g x).map nV)) → ¬ t.FF p → t.I H' (cs ++ wayC t.tell g x) → Q (.ref p) H'
theorem wc_way {T : Tx K mg base} (t : TelAt Z cl ws f) {x g : Nat} {i j : Int} {cs : List (Nat × Nat × Nat)} (hi : i = x) (hj : j = g) (hI : t.I H cs) (h0 : t.tell x g x ≠ none) (hz : cs.length ≤ 500000) (q : ∀ p H', H p = none → Fr t.S H H' → H' p = some (.lst ((wayN t.tell g x).map nV)) → ¬ t.FF p → t.I H' (cs ++ wayC t.tell g x) → Q (.ref p) H') : sp_way T Z cl ws [.int i, .int j, .ref f] H Q E := by
  subst hi hj; exact ⟨f, x, g, t, cs, rfl, hI, h0, hz, q⟩
theorem onwC_len (t : TelAt Z cl ws f) {x g : Nat} : (onwC t.tell x g).length ≤ 101 := by
  unfold onwC
  rw [List.length_cons, List.length_map]
  have h1 := upTo_len (p := fun n => (t.tell n g x).isSome) (l := byN g ((t.tell x g x).getD []))
  have h2 : (byN g ((t.tell x g x).getD [])).length ≤ 100 := by
    refine Nat.le_trans byN_len_le ?_
    cases e : t.tell x g x with
    | none => exact Nat.zero_le _
    | some l => exact (t.tl _ _ _ _ e).1
  omega
theorem flatC_len (t : TelAt Z cl ws f) {g : Nat} : ∀ {l : List Nat}, (l.flatMap fun y => onwC t.tell y g).length ≤ 101 * l.length
  | [] => by simp
  | x :: r => by
    have h1 := onwC_len t (x := x) (g := g)
    have h2 := flatC_len t (g := g) (l := r)
    rw [List.flatMap_cons, List.length_append, List.length_cons]; omega
theorem x_optN {o : Option Nat} {R : V → Prop} (h1 : o = none → R .non) (h2 : ∀ n, o = some n → R (nV n)) : R (oN o) := by
  cases o with
  | none => exact h1 rfl
  | some n => exact h2 n rfl
theorem ok_way (T : Tx K mg base) (Z : Tel P w K mg base) {cl : List (Str × Addr)} (ws : List (Option V)) : FnOkC P w K mg base CX0 7 T.a_way T.d_way ["start", "goal", "tells"] cl Z.fr ws (sp_way T Z cl ws) := by
  refine FunD.okC T.F_way sc_way (fun vs H Q E h => ?_) (fun cdv A outer s H vs Q E hr hC h => ?_)
  · obtain ⟨f, x, g, t, cs, rfl, _⟩ := h; rfl
  · obtain ⟨f, x, g, t, cs, rfl, hI, h0, hcz, q⟩ := h
    have hu := hu_of hr
    have c_Bucket := T.c_Bucket; have n_Bucket_room := T.n_Bucket_room; have n_Bucket_line := T.n_Bucket_line; have c_Table := T.c_Table; have n_Table_own := T.n_Table_own; have n_Table_wide := T.n_Table_wide; have n_Table_room := T.n_Table_room; have n_Table_buckets := T.n_Table_buckets; have c_Town := T.c_Town; have n_Town_wide := T.n_Town_wide; have n_Town_room := T.n_Town_room; have n_Town_tables := T.n_Town_tables; have n_Town_hushed := T.n_Town_hushed; have n_Town_shelves := T.n_Town_shelves; have n_Town_layings := T.n_Town_layings
    refine ⟨_, (pss_cons (ps_set (i := 3) sc_way.nd rfl (Or.inl rfl) (pe_lst (pa_cons (pv 0) pa_nil)))
      (pss_cons (ps_set (i := 4) sc_way.nd rfl (Or.inl rfl) (pe_callC (fun ws => ok_onward T Z ws) (Prov.entry hC rfl) hr rfl T.m_onward T.F_onward.kp T.b_onward .nil pass0 (pa_cons (pv 0) (pa_cons (pv 1) (pa_cons (pv 2) pa_nil)))))
      (pss_cons (ps_while PassesOwn.never (PW.pt (pw_and (pt_cmpR op_notNn (pv 4) pe_non (nomark _)) (pw_and1 (pt_val (pe_call (ok_nearer T) (hr.mono (by decide)) rfl T.m_nearer T.F_nearer.kp T.b_nearer .nil pass0 (pa_cons (pv 1) (pa_cons (pv 4) (pa_cons (pe_ix ix_list (pv 3) (pe_un un_neg pe_int) (fun _ _ => rfl)) pa_nil))))))))
      (pss_cons (ps_expr (pe_bm PySem.F.plainAttrs_list PySem.F.slot_list_append PySem.F.type_list_append mt_append (pv 3) (pa_cons (pv 4) pa_nil)))
      (pss_one (ps_set (i := 4) sc_way.nd rfl (Or.inl rfl) (pe_callC (fun ws => ok_onward T Z ws) (Prov.entry hC rfl) hr rfl T.m_onward T.F_onward.kp T.b_onward .nil pass0 (pa_cons (pv 4) (pa_cons (pv 1) (pa_cons (pv 2) pa_nil))))))))
      (pss_one (ps_ret (pv 3)))))), ?_⟩
    rw [Nn.st_way]; try rw [Nn.cxK]
    try rw [Nn.cxW]
    walk_at "wx"
    refine ⟨len_ok rfl, fun p hp => ?_⟩
    have ex1 := Ex.new (o := .lst [V.int (x : Int)]) hp
    have h1 := upd_same (H := H) (a := p) (o := .lst [V.int (x : Int)])
    have hI1 := t.exI hI ex1
    have nF : ¬ t.FF p := t.new hI hp
    generalize upd H p (.lst [V.int (x : Int)]) = H1 at ex1 h1 hI1 ⊢
    walk_at "wx"
    refine wc_onward t rfl rfl hI1 h0 (by omega) fun H2 fr2 hI2 => ?_
    have h2 := fr2.at h1 fun z => nF (t.sub _ z)
    walk_at "wx"
    refine x_while (W := fun mm σ H' => ∃ (pre : List Nat) (y : Nat), σ = [some (.int x), some (.int g), some (.ref f), some (.ref p), some (oN (onwN t.tell y g))] ∧ Fr t.S H H' ∧ H' p = some (.lst ((pre ++ [y]).map nV)) ∧ t.I H' (cs ++ (pre ++ [y]).flatMap fun y => onwC t.tell y g) ∧ wayN t.tell g x = pre ++ wayN t.tell g y ∧ t.tell y g y ≠ none ∧
        (pre ++ [y]).Nodup ∧ (∀ z ∈ pre ++ [y], z = x ∨ z ∈ t.N) ∧ (∀ z ∈ pre, g ^^^ y < g ^^^ z) ∧ mm + pre.length = 64) (m := 64)
      ⟨[], x, rfl, ex1.fr.trans fr2, by simpa using h2, by simpa using hI2, by simp, h0, by simp, by simp, by simp, rfl⟩ ?_
    rintro mm σ H3 ⟨pre, y, rfl, fr3, h3, hI3, hw, hy0, nd, hN, hnear, hmm⟩
    have hlen : (pre ++ [y]).length ≤ 63 := by
      have := nodup_len nd (b := x :: t.N) fun z hz => (hN z hz).elim (fun e => by rw [e]; simp) fun e => List.mem_cons_of_mem _ e
      have := t.nl
      simp only [List.length_cons] at *
      omega
    have hfl := flatC_len t (g := g) (l := pre ++ [y])
    walk_at "wx"
    cases e : onwN t.tell y g with
    | none =>
      have eo : oN none = .non := rfl
      rw [eo]
      walk_at "wx"
      have ew := wayN_none e
      refine q p H3 hp fr3 (by rw [hw, ew]; exact h3) nF ?_
      have ec : wayC t.tell g x = (pre ++ [y]).flatMap fun y => onwC t.tell y g := by unfold wayC; rw [hw, ew]
      rw [ec]; exact hI3
    | some z =>
      have eo : oN (some z) = nV z := rfl
      rw [eo]
      have hat : atI ((pre ++ [y]).map nV) (-1) = some (nV y) := by
        rw [List.map_append]
        exact atI_last (pre.map nV) (nV y)
      walk_at "wx"
      refine x_whD (fun hlt => ?_) fun hge => ?_
      · obtain ⟨⟨l, hl, hzl⟩, hza⟩ := onwN_mem e
        have hzN := (t.tl _ _ _ _ hl).2 z hzl
        have hz0 : t.tell z g z ≠ none := fun c => by
          have := t.sil z g y g z
          rw [hza, c] at this; cases this
        walk_at "wx"
        have hI4 := t.mut (o := .lst ((pre ++ [y]).map nV ++ [V.int (z : Int)])) hI3 h3 nF
        have fr4 : Fr t.S H (upd H3 p (.lst ((pre ++ [y]).map nV ++ [V.int (z : Int)]))) := fr3.mut hp h3
        have h4 := upd_same (H := H3) (a := p) (o := .lst ((pre ++ [y]).map nV ++ [V.int (z : Int)]))
        generalize upd H3 p (.lst ((pre ++ [y]).map nV ++ [V.int (z : Int)])) = H4 at hI4 fr4 h4 ⊢
        have ee : (pre ++ [y]).map nV ++ [V.int (z : Int)] = ((pre ++ [y]) ++ [z]).map nV := by rw [List.map_append (l₁ := pre ++ [y])]; rfl
        rw [ee] at h4
        refine wc_onward t rfl rfl hI4 hz0 (by simp only [List.length_append] at *; omega) fun H5 fr5 hI5 => ?_
        have h5 := fr5.at h4 fun z => nF (t.sub _ z)
        refine ⟨mm - 1, by simp only [List.length_append, List.length_cons, List.length_nil] at hlen; omega, pre ++ [y], z, rfl, fr4.trans fr5, h5, ?_, ?_, hz0, ?_, ?_, ?_, ?_⟩
        · rw [List.flatMap_append (xs := pre ++ [y]), ← List.append_assoc]
          simpa using hI5
        · rw [hw, wayN_on e hlt, List.append_assoc]; rfl
        · refine nd_snoc nd fun c => ?_
          rcases List.mem_append.mp c with c | c
          · have := hnear z c; omega
          · rw [List.mem_singleton.mp c] at hlt; omega
        · intro u hu
          rcases List.mem_append.mp hu with c | c
          · exact hN u c
          · rw [List.mem_singleton.mp c]; exact .inr hzN
        · intro u hu
          rcases List.mem_append.mp hu with c | c
          · have := hnear u c; omega
          · rw [List.mem_singleton.mp c]; exact hlt
        · simp only [List.length_append, List.length_cons, List.length_nil] at *; omega
      · walk_at "wx"
        have ew := wayN_far e hge
        refine q p H3 hp fr3 (by rw [hw, ew]; exact h3) nF ?_
        have ec : wayC t.tell g x = (pre ++ [y]).flatMap fun y => onwC t.tell y g := by unfold wayC; rw [hw, ew]
        rw [ec]; exact hI3
end
end Nn
/-! asks by functions that tell -/
namespace Nn
open PySem L2
section
variable {P : Program} {w : World} {K : PySem.W.Frag} {mg : Str → Option Value} {base : Heap} {H H' : Hp} {Q : VK} {E : XK}
def sp_standing (_ : Tx K mg base) : Sp := fun vs H Q E => ∃ (g : Nat) (room : Nat) (p_seen : Addr) (seen : List Nat) (p_quiet : Addr) (quiet : List Nat), vs = [.int g, .int room, .ref p_seen, .ref p_quiet] ∧ (SqL K H p_seen (seen.map nV)) ∧ (SqL K H p_quiet (quiet.map nV)) ∧ ((byN g seen).length < 64 ∧ seen.length ≤ 100000 ∧ quiet.length ≤ 100000) ∧ (∀ p H', H p = none → Ex H H' → H' p = some (.lst ((standN g room seen quiet).map nV)) → Q (.ref p) H')
theorem wc_standing {T : Tx K mg base} {g : Nat} {room : Nat} {p_seen : Addr} {seen : List Nat} {p_quiet : Addr} {quiet : List Nat} {i0 : Int} {i1 : Int} (e0 : i0 = g) (e1 : i1 = room) (c0 : SqL K H p_seen (seen.map nV)) (c1 : SqL K H p_quiet (quiet.map nV)) (c2 : (byN g seen).length < 64 ∧ seen.length ≤ 100000 ∧ quiet.length ≤ 100000) (h : ∀ p H', H p = none → Ex H H' → H' p = some (.lst ((standN g room seen quiet).map nV)) → Q (.ref p) H') : sp_standing T [.int i0, .int i1, .ref p_seen, .ref p_quiet] H Q E := by
  subst e0 e1
  exact ⟨g, room, p_seen, seen, p_quiet, quiet, rfl, c0, c1, c2, h⟩
theorem ok_standing (T : Tx K mg base) : FnOk P w K mg base CX0 3 T.a_standing T.d_standing ["goal", "room", "seen", "quiet"] (sp_standing T) := by
  refine T.F_standing.okD sc_standing (fun vs H Q E h => ?_) (fun cdv A outer s H vs Q E hr h => ?_)
  · obtain ⟨g, room, p_seen, seen, p_quiet, quiet, rfl, hS0, hS1, hpre, q⟩ := h; rfl
  · obtain ⟨g, room, p_seen, seen, p_quiet, quiet, rfl, hS0, hS1, hpre, q⟩ := h
    have hu := hu_of hr
    have c_Bucket := T.c_Bucket; have n_Bucket_room := T.n_Bucket_room; have n_Bucket_line := T.n_Bucket_line; have c_Table := T.c_Table; have n_Table_own := T.n_Table_own; have n_Table_wide := T.n_Table_wide; have n_Table_room := T.n_Table_room; have n_Table_buckets := T.n_Table_buckets; have c_Town := T.c_Town; have n_Town_wide := T.n_Town_wide; have n_Town_room := T.n_Town_room; have n_Town_tables := T.n_Town_tables; have n_Town_hushed := T.n_Town_hushed; have n_Town_shelves := T.n_Town_shelves; have n_Town_layings := T.n_Town_layings
    refine ⟨_, (pss_one (ps_ret (pe_slice sl_list (pe_call (ok_by_nearness T) hr rfl T.m_by_nearness T.F_by_nearness.kp T.b_by_nearness .nil pass0 (pa_cons (pv 0) (pa_cons (pe_lc (own := [("name", 4)]) (g := (gName 4)) (by rfl) sc_standing.nd (pi_list (pv 2)) (blkOk_by (N := N_standing) (sc := defScope s_standing) (own := [("name", 4)]) (by decide +kernel)) (fun _ _ _ _ _ => (pg_name (i := 4) sc_standing.nd rfl (Or.inl rfl))) (fun _ _ _ _ _ => pts_one ((pt_cmpR (op_notInK (K := K) rfl) (pv 4) (pv 3) rfl))) (fun _ _ _ _ _ => (pv 4))) pa_nil))) po_none (po_some (pv 1))))), ?_⟩
    rw [Nn.st_standing]; try rw [Nn.cxK]
    try rw [Nn.cxW]
    walk_at "wx"
    obtain ⟨hb, hz1, hz2⟩ := hpre
    refine LcW.filt (emb := nV) (xs := seen) (fun x => !decide (x ∈ quiet)) hS0 (by rw [sizeLine_eq]; omega) (fun x _ H2 ex2 R hR => ?_) (fun x _ _ H2 ex2 Qe hQ => ?_) fun p1 H1 hp1 ex1 h1 => ?_
    · walk_at "wx"
      exact hR _ Ex.refl
    · walk_at "wx"
      exact hQ
    · walk_at "wx"
      have hfl := List.length_filter_le (fun x => !decide (x ∈ quiet)) seen
      have hby : (byN g (seen.filter fun x => !decide (x ∈ quiet))).length ≤ (byN g seen).length := nodup_len (byN_nodup _ _) fun x hx => mem_byN.mpr (List.mem_filter.mp (mem_byN.mp hx)).1
      refine wc_by_nearness rfl (SqL.of h1) ⟨by omega, by omega⟩ fun p2 H2 hp2 ex2 h2 => ?_
      walk_at "wx"
      refine x_slL (SqL.of h2) fun p3 hp3 => ?_
      rw [cut_take]
      refine q p3 _ ((ex1.trans ex2).back p3 hp3) ((ex1.trans ex2).newT hp3) ?_
      rw [upd_same]; unfold standN; rw [List.map_take]
def oA : Option Addr → V
  | none => .non
  | some a => .ref a
theorem _root_.L2.SqL.upd_ne' {K : PySem.W.Frag} {H : Hp} {a r : Addr} {xs ys : List V} {o : HO} (h : SqL K H a xs) (hr : H r = some (.lst ys)) (ne : ys ≠ xs) : SqL K (upd H r o) a xs := by
  rcases h with (h | ⟨od, h⟩) | h
  · exact .inl (.inl (by rw [upd_ne fun z => by rw [z, hr] at h; exact ne (HO.lst.inj (Option.some.inj h))]; exact h))
  · exact .inl (.inr ⟨od, by rw [upd_ne fun z => by rw [z, hr] at h; cases h]; exact h⟩)
  · exact .inr h
/-- a row's tuple; new to H0 -/
structure RowE (H0 H' : Hp) (e : Addr × Option Addr) (x : Nat × Option (List Nat)) : Prop where
  tp : H' e.1 = some (.tup [nV x.1, oA e.2])
  n1 : H0 e.1 = none
  so : ∀ l, x.2 = some l → ∃ a, e.2 = some a ∧ H' a = some (.lst (l.map nV)) ∧ H0 a = none
  no : x.2 = none → e.2 = none
theorem RowE.cell {H0 H' : Hp} {e : Addr × Option Addr} {x : Nat × Option (List Nat)} (r : RowE H0 H' e x) {a : Addr} (h : e.2 = some a) : ∃ l, x.2 = some l ∧ H' a = some (.lst (l.map nV)) ∧ H0 a = none := by
  cases q : x.2 with
  | none => rw [r.no q] at h; cases h
  | some l =>
    obtain ⟨b, h1, h2, h3⟩ := r.so l q
    rw [h] at h1; cases h1
    exact ⟨l, rfl, h2, h3⟩
theorem RowE.keep {H0 H' H2 : Hp} {e : Addr × Option Addr} {x : Nat × Option (List Nat)} (r : RowE H0 H' e x) (h1 : H2 e.1 = H' e.1) (h2 : ∀ a, e.2 = some a → H2 a = H' a) : RowE H0 H2 e x :=
  ⟨by rw [h1]; exact r.tp, r.n1, fun l q => by
    obtain ⟨a, e1, e2, e3⟩ := r.so l q
    exact ⟨a, e1, by rw [h2 a e1]; exact e2, e3⟩, r.no⟩
/-- a row -/
structure RowAt (H0 H' : Hp) (r : Addr) (es : List (Addr × Option Addr)) (row : List (Nat × Option (List Nat))) : Prop where
  ro : H' r = some (.lst (es.map fun e => .ref e.1))
  len : es.length = row.length
  at_ : ∀ (i : Nat) (e : Addr × Option Addr) (x : Nat × Option (List Nat)), es[i]? = some e → row[i]? = some x → RowE H0 H' e x
  nd : (es.filterMap (·.2)).Nodup
  r0 : es ≠ []
  nr : H0 r = none
theorem RowAt.el {H0 : Hp} {r : Addr} {es : List (Addr × Option Addr)} {row : List (Nat × Option (List Nat))} (a : RowAt H0 H' r es row) {e : Addr × Option Addr} (h : e ∈ es) : ∃ x ∈ row, RowE H0 H' e x := by
  obtain ⟨i, hi⟩ := List.getElem?_of_mem h
  have hl : i < row.length := by rw [← a.len]; exact (List.getElem?_eq_some_iff.mp hi).1
  exact ⟨row[i], List.getElem_mem hl, a.at_ i e _ hi (List.getElem?_eq_getElem hl)⟩
theorem refs_ne {es : List (Addr × Option Addr)} {l : List Nat} (h0 : es ≠ []) : (es.map fun e => V.ref e.1) ≠ l.map nV := fun z => by
  cases es with
  | nil => exact h0 rfl
  | cons e r =>
    cases l with
    | nil => cases z
    | cons x l => rw [List.map_cons, List.map_cons] at z; injection z with z1 z2; cases z1
theorem RowAt.fr {H0 H'' : Hp} {R : Addr → Prop} {r : Addr} {es : List (Addr × Option Addr)} {row : List (Nat × Option (List Nat))} (a : RowAt H0 H' r es row) (f : Fr R H' H'') (h : ∀ b, R b → H0 b ≠ none) : RowAt H0 H'' r es row := by
  refine ⟨f.at a.ro fun z => h _ z a.nr, a.len, fun i e x he hx => ?_, a.nd, a.r0, a.nr⟩
  have q := a.at_ i e x he hx
  refine q.keep ?_ fun b hb => ?_
  · rw [q.tp]; exact f.at q.tp fun z => h _ z q.n1
  · obtain ⟨l, _, h2, h3⟩ := q.cell hb
    rw [h2]; exact f.at h2 fun z => h _ z h3
/-- what an ask carries -/
structure AskAt (H0 H' : Hp) (r sa qa : Addr) (es : List (Addr × Option Addr)) (s : AskSt) : Prop where
  ra : RowAt H0 H' r es s.row
  sn : H' sa = some (.lst (s.seen.map nV))
  qt : H' qa = some (.lst (s.quiet.map nV))
  new : H0 sa = none ∧ H0 qa = none
  ne : sa ≠ qa ∧ ∀ e ∈ es, e.2 ≠ some sa ∧ e.2 ≠ some qa
theorem AskAt.fr {H0 H'' : Hp} {R : Addr → Prop} {r sa qa : Addr} {es : List (Addr × Option Addr)} {s : AskSt} (a : AskAt H0 H' r sa qa es s) (f : Fr R H' H'') (h : ∀ b, R b → H0 b ≠ none) : AskAt H0 H'' r sa qa es s :=
  ⟨a.ra.fr f h, f.at a.sn fun z => h _ z a.new.1, f.at a.qt fun z => h _ z a.new.2, a.new, a.ne⟩
theorem AskAt.rne {H0 : Hp} {r sa qa : Addr} {es : List (Addr × Option Addr)} {s : AskSt} (a : AskAt H0 H' r sa qa es s) : r ≠ sa ∧ r ≠ qa :=
  ⟨fun z => by
    have e := a.ra.ro
    rw [z, a.sn] at e
    exact refs_ne a.ra.r0 (HO.lst.inj (Option.some.inj e)).symm, fun z => by
    have e := a.ra.ro
    rw [z, a.qt] at e
    exact refs_ne a.ra.r0 (HO.lst.inj (Option.some.inj e)).symm⟩
/-- one more -/
theorem AskAt.step {H0 H2 : Hp} {r sa qa : Addr} {es : List (Addr × Option Addr)} {s s' : AskSt} {e : Addr × Option Addr} {x : Nat × Option (List Nat)} (a : AskAt H0 H' r sa qa es s) (kp : ∀ b o, NT o → H' b = some o → b ≠ r → b ≠ sa → b ≠ qa → H2 b = some o)
    (hr : H2 r = some (.lst ((es ++ [e]).map fun e => .ref e.1))) (hs : H2 sa = some (.lst (s'.seen.map nV))) (hq : H2 qa = some (.lst (s'.quiet.map nV))) (hrow : s'.row = s.row ++ [x]) (he : RowE H0 H2 e x) (hn : ∀ l, e.2 = some l → l ≠ sa ∧ l ≠ qa ∧ H' l = none) : AskAt H0 H2 r sa qa (es ++ [e]) s' := by
  refine ⟨⟨hr, ?_, fun i e' x' h1 h2 => ?_, ?_, by simp, a.ra.nr⟩, hs, hq, a.new, a.ne.1, fun e' h' => ?_⟩
  · rw [hrow, List.length_append, List.length_append, a.ra.len]; rfl
  · rw [hrow] at h2
    by_cases hi : i < es.length
    · rw [List.getElem?_append_left hi] at h1
      rw [List.getElem?_append_left (by rw [← a.ra.len]; exact hi)] at h2
      have q := a.ra.at_ i e' x' h1 h2
      refine q.keep ?_ fun b hb => ?_
      · rw [q.tp]
        exact kp _ _ trivial q.tp (fun z => by have := q.tp; rw [z, a.ra.ro] at this; cases this) (fun z => by have := q.tp; rw [z, a.sn] at this; cases this) fun z => by have := q.tp; rw [z, a.qt] at this; cases this
      · obtain ⟨l, _, g2, g3⟩ := q.cell hb
        have hm := a.ne.2 e' (List.mem_of_getElem? h1)
        rw [g2]
        exact kp _ _ trivial g2 (fun z => by rw [z, a.ra.ro] at g2; exact refs_ne a.ra.r0 (HO.lst.inj (Option.some.inj g2))) (fun z => hm.1 (by rw [hb, z])) fun z => hm.2 (by rw [hb, z])
    · have hl := (List.getElem?_eq_some_iff.mp h1).1
      have ei : i = es.length := by simp at hl; omega
      rw [ei, List.getElem?_append_right (Nat.le_refl _), Nat.sub_self] at h1
      rw [ei, a.ra.len, List.getElem?_append_right (Nat.le_refl _), Nat.sub_self] at h2
      cases h1; cases h2; exact he
  · rw [List.filterMap_append]
    cases q : e.2 with
    | none =>
      have e0 : List.filterMap (fun x : Addr × Option Addr => x.2) [e] = [] := by simp [q]
      rw [e0, List.append_nil]; exact a.ra.nd
    | some l =>
      have e0 : List.filterMap (fun x : Addr × Option Addr => x.2) [e] = [l] := by simp [q]
      rw [e0]
      refine List.nodup_append.mpr ⟨a.ra.nd, by simp, fun b hb c hc z => ?_⟩
      rw [List.mem_singleton.mp hc] at z
      obtain ⟨e', h1, h2⟩ := List.mem_filterMap.mp hb
      obtain ⟨x', _, q'⟩ := a.ra.el h1
      obtain ⟨_, _, g2, _⟩ := q'.cell h2
      rw [z, (hn l q).2.2] at g2; cases g2
  · rcases List.mem_append.mp h' with z | z
    · exact a.ne.2 e' z
    · rw [List.mem_singleton.mp z]
      exact ⟨fun q => (hn _ q).1 rfl, fun q => (hn _ q).2.1 rfl⟩
/-- [house for house, told in row] -/
theorem LcW.row {σ : L2.St} {i j : Nat} (hij : i ≠ j) {r : Addr} {es : List (Addr × Option Addr)} {row : List (Nat × Option (List Nat))} (hr : H r = some (.lst (es.map fun e => .ref e.1))) (hl : es.length = row.length) (hz : row.length ≤ 1000)
    (ha : ∀ (k : Nat) (e : Addr × Option Addr) (x : Nat × Option (List Nat)), es[k]? = some e → row[k]? = some x → H e.1 = some (.tup [nV x.1, oA e.2])) (hi : i < σ.length) (hk : ∀ D H', H D = none → Ex H H' → H' D = some (.lst ((row.map (·.1)).map nV)) → Q (.ref D) H') :
    LcW (gTup K 2 (gCons (gName i) (gCons (gName j) gNil))) tYes (tVar i) [i, j] σ Q (Itl K r) H := by
  intro D hD
  refine lc_list (K := K) (a := r) (xs := es.map fun e => V.ref e.1) (Qd := fun H' => Q (.ref D) H') (fun n H' => Ex H H' ∧ H' D = some (.lst (((row.take n).map (·.1)).map nV))) ⟨Ex.new hD, by rw [upd_same]; rfl⟩ (fun n H' _ h => SqL.of (h.1.at hr)) ?_ ?_
  · rintro n y H1 hx ⟨ex, h1⟩
    obtain ⟨e, he, rfl⟩ : ∃ e, es[n]? = some e ∧ y = .ref e.1 := by
      rw [List.getElem?_map] at hx
      cases q : es[n]? with
      | none => rw [q] at hx; cases hx
      | some e => rw [q] at hx; exact ⟨e, rfl, (Option.some.inj hx).symm⟩
    have hn : n < row.length := by rw [← hl]; exact (List.getElem?_eq_some_iff.mp he).1
    have tp := ex.at (ha n e row[n] he (List.getElem?_eq_getElem hn))
    have et : row.take (n + 1) = row.take n ++ [row[n]] := by rw [List.take_add_one, List.getElem?_eq_getElem hn]; rfl
    refine x_gTup (SqT.of tp) rfl (x_gCons (x_name (x_gCons (x_name (x_gNil ?_)))))
    have e1 : wipe (((wipe σ [i, j]).set i (some (nV row[n].1))).set j (some (oA e.2))) [i, j] = wipe σ [i, j] := by
      show ((((((σ.set j none).set i none).set i _).set j _).set j none).set i none) = (σ.set j none).set i none
      refine List.ext_getElem? fun k => ?_
      by_cases h1 : i = k
      · subst h1; simp [List.getElem?_set]
      · by_cases h2 : j = k
        · subst h2; simp [List.getElem?_set, hij]
        · simp [List.getElem?_set, h1, h2]
    refine ⟨e1, ?_⟩
    rw [e_yes]
    refine iteT ?_
    refine x_var (v := nV row[n].1) ?_ ⟨_, h1, ?_, ex.mut hD h1, ?_⟩
    · rw [List.getElem?_set_ne (Ne.symm hij)]
      refine List.getElem?_set_self ?_
      show i < ((σ.set j none).set i none).length
      rw [List.length_set, List.length_set]; exact hi
    · rw [sizeLine_eq, List.length_map, List.length_map]
      have := List.length_take_le' n row
      omega
    · rw [upd_same, et, List.map_append, List.map_append]; rfl
  · rintro H1 ⟨ex, h1⟩
    rw [List.length_map, hl, List.take_length] at h1
    exact hk D H1 hD ex h1
end
end Nn
namespace Nn
open PySem L2
section
variable {P : Program} {w : World} {K : PySem.W.Frag} {mg : Str → Option Value} {base : Heap} {H H' : Hp} {Q : VK} {E : XK} {Z : Tel P w K mg base} {cl : List (Str × Addr)} {ws : List (Option V)} {f : Addr}
def rowC (row : List (Nat × Option (List Nat))) (g start : Nat) : List (Nat × Nat × Nat) := row.map fun x => (x.1, g, start)
abbrev TelAt.t1 (t : TelAt Z cl ws f) (g start : Nat) : Nat → Option (List Nat) := fun h => t.tell h g start
theorem TelAt.tl1 (t : TelAt Z cl ws f) {g start : Nat} : ∀ h l, t.t1 g start h = some l → l.length ≤ 100 ∧ ∀ x ∈ l, x ∈ t.N := fun h l e => t.tl h g start l e
def sp_asked (_ : Tx K mg base) (Z : Tel P w K mg base) (cl : List (Str × Addr)) (ws : List (Option V)) : Sp := fun vs H Q _ => ∃ (f : Addr) (start g room : Nat) (t : TelAt Z cl ws f) (cs : List (Nat × Nat × Nat)), vs = [.int start, .int g, .int room, .ref f] ∧ t.I H cs ∧ t.tell start g start ≠ none ∧ cs.length ≤ 500000 ∧
  ∀ p r fd es H', Fr t.S H H' → H p = none → H' p = some (.tup [.ref r, .ref fd]) → RowAt H H' r es (askEnd (t.t1 g start) start g room).row → H fd = none → H' fd = some (.lst ((askFound (t.t1 g start) start g room).map nV)) → (∀ e ∈ es, e.2 ≠ some fd) → t.I H' (cs ++ rowC (askEnd (t.t1 g start) start g room).row g start) → Q (.ref p) H'
theorem wc_asked {T : Tx K mg base} (t : TelAt Z cl ws f) {start g room : Nat} {i j k : Int} {cs : List (Nat × Nat × Nat)} (hi : i = start) (hj : j = g) (hk : k = room) (hI : t.I H cs) (h0 : t.tell start g start ≠ none) (hz : cs.length ≤ 500000)
    (q : ∀ p r fd es H', Fr t.S H H' → H p = none → H' p = some (.tup [.ref r, .ref fd]) → RowAt H H' r es (askEnd (t.t1 g start) start g room).row → H fd = none → H' fd = some (.lst ((askFound (t.t1 g start) start g room).map nV)) → (∀ e ∈ es, e.2 ≠ some fd) → t.I H' (cs ++ rowC (askEnd (t.t1 g start) start g room).row g start) → Q (.ref p) H') : sp_asked T Z cl ws [.int i, .int j, .int k, .ref f] H Q E := by
  subst hi hj hk; exact ⟨f, start, g, room, t, cs, rfl, hI, h0, hz, q⟩
theorem ok_asked (T : Tx K mg base) (Z : Tel P w K mg base) {cl : List (Str × Addr)} (ws : List (Option V)) : FnOkC P w K mg base CX0 6 T.a_asked T.d_asked ["start", "goal", "room", "tells"] cl Z.fr ws (sp_asked T Z cl ws) := by
  refine FunD.okC T.F_asked sc_asked (fun vs H Q E h => ?_) (fun cdv A outer s H vs Q E hr hC h => ?_)
  · obtain ⟨f, start, g, room, t, cs, rfl, _⟩ := h; rfl
  · obtain ⟨f, start, g, room, t, cs, rfl, hI, h0, hcz, q⟩ := h
    have hu := hu_of hr
    have hnl := t.nl
    have hok : ∀ k, (AskSt.run (t.t1 g start) start g room k).Ok (t.t1 g start) start t.N := AskSt.run_ok h0 t.tl1
    obtain ⟨l0, hl0⟩ : ∃ l, t.tell start g start = some l := by
      cases e : t.tell start g start with
      | none => exact absurd e h0
      | some l => exact ⟨l, rfl⟩
    obtain ⟨hl1, hl2⟩ := t.tl _ _ _ _ hl0
    have c_Bucket := T.c_Bucket; have n_Bucket_room := T.n_Bucket_room; have n_Bucket_line := T.n_Bucket_line; have c_Table := T.c_Table; have n_Table_own := T.n_Table_own; have n_Table_wide := T.n_Table_wide; have n_Table_room := T.n_Table_room; have n_Table_buckets := T.n_Table_buckets; have c_Town := T.c_Town; have n_Town_wide := T.n_Town_wide; have n_Town_room := T.n_Town_room; have n_Town_tables := T.n_Town_tables; have n_Town_hushed := T.n_Town_hushed; have n_Town_shelves := T.n_Town_shelves; have n_Town_layings := T.n_Town_layings
    refine ⟨_, (pss_cons (ps_set (i := 4) sc_asked.nd rfl (Or.inl rfl) (pe_lst (pa_cons (pe_tup (pa_cons (pv 0) (pa_cons (pe_callTy cb_list (by rfl) T.z_list (by decide +kernel) (pa_cons (pe_callF (F := NdefX.NF.of Z.st Z.name Z.qual cl t.cd) (i := 3) (sp := fun _ => Z.sp) (fun f => Z.ok cl t.cd f) (Prov.entry hC rfl) hr (by decide) pass0 rfl (by first | exact Or.inl rfl | exact Or.inr (Or.inl rfl) | exact Or.inr (Or.inr rfl)) (pa_cons (pv 0) (pa_cons (pv 1) (pa_cons (pv 0) pa_nil)))) pa_nil)) pa_nil))) pa_nil)))
      (pss_cons (ps_setLc (i := 5) (own := [("name", 6)]) (g := (gName 6)) (by rfl) sc_asked.nd rfl rfl (sw_true rfl rfl rfl (by decide +kernel)) (pi_list (pe_ix ix_tup (pe_ix ix_list (pv 4) pe_int (fun _ _ => rfl)) pe_int (fun _ _ => rfl))) (blkOk_by (N := N_asked) (sc := defScope s_asked) (own := [("name", 6)]) (by decide +kernel)) (fun _ _ _ _ _ => (pg_name (i := 6) sc_asked.nd rfl (Or.inl rfl))) (fun _ _ _ _ _ => pts_one ((pt_cmpR op_ne (pv 6) (pv 0) (nomark _)))) (fun _ _ _ _ _ => (pv 6)))
      (pss_cons (ps_set (i := 7) sc_asked.nd rfl (Or.inl rfl) (pe_lst pa_nil))
      (pss_cons (ps_set (i := 8) sc_asked.nd rfl (Or.inl rfl) (pe_call (ok_standing T) (hr.mono (by decide)) rfl T.m_standing T.F_standing.kp T.b_standing .nil pass0 (pa_cons (pv 1) (pa_cons (pv 2) (pa_cons (pv 5) (pa_cons (pv 7) pa_nil))))))
      (pss_cons (ps_while PassesOwn.never (pt_cmpR op_gt (pe_callB cb_len (by rfl) T.z_len PySem.boot_len (pa_cons (pv 8) pa_nil)) pe_int (nomark _))
      (pss_cons (ps_set (i := 9) sc_asked.nd rfl (Or.inl rfl) (pe_ix ix_list (pv 8) pe_int (fun _ _ => rfl)))
      (pss_cons (ps_set (i := 10) sc_asked.nd rfl (Or.inl rfl) (pe_callF (F := NdefX.NF.of Z.st Z.name Z.qual cl t.cd) (i := 3) (sp := fun _ => Z.sp) (fun f => Z.ok cl t.cd f) (Prov.entry hC rfl) hr (by decide) pass0 rfl (by first | exact Or.inl rfl | exact Or.inr (Or.inl rfl) | exact Or.inr (Or.inr rfl)) (pa_cons (pv 9) (pa_cons (pv 1) (pa_cons (pv 0) pa_nil)))))
      (C8.pss_cut (ps_if (pt_cmpR op_isNn (pv 10) pe_non (nomark _))
      (pss_cons (ps_expr (pe_bm PySem.F.plainAttrs_list PySem.F.slot_list_append PySem.F.type_list_append mt_append (pv 7) (pa_cons (pv 9) pa_nil)))
      (pss_one (ps_expr (pe_bm PySem.F.plainAttrs_list PySem.F.slot_list_append PySem.F.type_list_append mt_append (pv 4) (pa_cons (pe_tup (pa_cons (pv 9) (pa_cons pe_non pa_nil))) pa_nil)))))
      (pss_cons (ps_expr (pe_bm PySem.F.plainAttrs_list PySem.F.slot_list_append PySem.F.type_list_append mt_append (pv 4) (pa_cons (pe_tup (pa_cons (pv 9) (pa_cons (pe_callTy cb_list (by rfl) T.z_list (by decide +kernel) (pa_cons (pv 10) pa_nil)) pa_nil))) pa_nil)))
      (pss_one (ps_expr (pe_bm PySem.F.plainAttrs_list PySem.F.slot_list_extend PySem.F.type_list_extend mt_extend (pv 5) (pa_cons (pe_lc (own := [("name", 6)]) (g := (gName 6)) (by rfl) sc_asked.nd (pi_list (pv 10)) (blkOk_by (N := N_asked) (sc := defScope s_asked) (own := [("name", 6)]) (by decide +kernel)) (fun _ _ _ _ _ => (pg_name (i := 6) sc_asked.nd rfl (Or.inl rfl))) (fun _ _ _ _ _ => pts_one ((pt_cmpR op_ne (pv 6) (pv 0) (nomark _)))) (fun _ _ _ _ _ => (pv 6))) pa_nil))))))
      (pss_cons (ps_set (i := 11) sc_asked.nd rfl (Or.inr rfl) (pe_lc (own := [("house", 9), ("told", 10)]) (g := (gTup K 2 (gCons (gName 9) (gCons (gName 10) gNil)))) (by rfl) sc_asked.nd (pi_list (pv 4)) (blkOk_by (N := N_asked) (sc := defScope s_asked) (own := [("house", 9), ("told", 10)]) (by decide +kernel)) (fun _ _ _ _ _ => (pg_tup (n := 2) rfl (pgs_cons (pg_name (i := 9) sc_asked.nd rfl (Or.inl rfl)) (pgs_cons (pg_name (i := 10) sc_asked.nd rfl (Or.inl rfl)) pgs_nil)))) (fun _ _ _ _ _ => pts_nil) (fun _ _ _ _ _ => (pv 9))))
      (pss_one (ps_setLc (i := 8) (own := [("name", 6)]) (g := (gName 6)) (by rfl) sc_asked.nd rfl rfl (sw_true rfl rfl rfl (by decide +kernel)) (pi_list (pe_call (ok_standing T) (hr.mono (by decide)) rfl T.m_standing T.F_standing.kp T.b_standing .nil pass0 (pa_cons (pv 1) (pa_cons (pv 2) (pa_cons (pv 5) (pa_cons (pv 7) pa_nil)))))) (blkOk_by (N := N_asked) (sc := defScope s_asked) (own := [("name", 6)]) (by decide +kernel)) (fun _ _ _ _ _ => (pg_name (i := 6) sc_asked.nd rfl (Or.inl rfl))) (fun _ _ _ _ _ => pts_one ((pt_cmpR (op_notInK (K := K) rfl) (pv 6) (pv 11) rfl))) (fun _ _ _ _ _ => (pv 6)))))))))
      (pss_one (ps_ret (pe_tup (pa_cons (pv 4) (pa_cons (pe_call (ok_standing T) (hr.mono (by decide)) rfl T.m_standing T.F_standing.kp T.b_standing .nil pass0 (pa_cons (pv 1) (pa_cons (pv 2) (pa_cons (pv 5) (pa_cons (pv 7) pa_nil))))) pa_nil)))))))))), ?_⟩
    rw [Nn.st_asked]; try rw [Nn.cxK]
    try rw [Nn.cxW]
    walk_at "wx"
    refine ⟨f, rfl, (t.fn hI).1, ?_⟩
    walk_at "wx"
    refine ⟨(t.fn hI).1, (t.fn hI).2, ?_⟩
    refine t.say hI (by omega) (.inr h0) fun v H1 fr1 hI1 ha => ?_
    rw [hl0] at ha
    obtain ⟨p0, rfl, hp0⟩ := ha
    walk_at "wx"
    refine x_listL hp0 fun l hl => ?_
    have exl := Ex.new (o := .lst (l0.map nV)) hl
    have h2l := upd_same (H := H1) (a := l) (o := .lst (l0.map nV))
    have hl0' : H l = none := fr1.back l hl
    generalize upd H1 l (.lst (l0.map nV)) = H2 at exl h2l ⊢
    refine ⟨len_ok rfl, fun tp htp => ?_⟩
    have ext := Ex.new (o := .tup [V.int (start : Int), .ref l]) htp
    have h3t := upd_same (H := H2) (a := tp) (o := .tup [V.int (start : Int), .ref l])
    have h3l := ext.at h2l
    have htp0 : H tp = none := fr1.back tp (exl.back tp htp)
    generalize upd H2 tp (.tup [V.int (start : Int), .ref l]) = H3 at ext h3t h3l ⊢
    refine ⟨len_ok rfl, fun r hr' => ?_⟩
    have exr := Ex.new (o := .lst [V.ref tp]) hr'
    have h4r := upd_same (H := H3) (a := r) (o := .lst [V.ref tp])
    have h4t := exr.at h3t
    have h4l := exr.at h3l
    have hr0 : H r = none := fr1.back r (exl.back r (ext.back r hr'))
    generalize upd H3 r (.lst [V.ref tp]) = H4 at exr h4r h4t h4l ⊢
    have ex14 := (exl.trans ext).trans exr
    have hI4 := t.exI hI1 ex14
    have fr4 : Fr t.S H H4 := fr1.trans ex14.fr
    clear hp0 exl ext exr h2l h3t h3l hl htp hr' ex14
    walk_at "wx"
    refine LcW.filt (emb := nV) (xs := l0) (fun x => !decide (x = start)) (SqL.of h4l) (by rw [sizeLine_eq]; omega) (fun x _ H5 ex5 R hR => ?_) (fun x _ _ H5 ex5 Qe hQ => ?_) fun sa H5 hsa ex5 h5 => ?_
    · walk_at "wx"
      have e : decide ((x : Int) = (start : Int)) = decide (x = start) := decide_eq_decide.mpr ⟨fun z => Int.ofNat.inj z, fun z => by rw [z]⟩
      rw [e]
      exact hR _ Ex.refl
    · walk_at "wx"
      exact hQ
    have hsa0 : H sa = none := fr4.back sa hsa
    have h5r := ex5.at h4r
    have h5t := ex5.at h4t
    have h5l := ex5.at h4l
    have nsl : l ≠ sa := ne_of_none h4l hsa
    have hI5 := t.exI hI4 ex5
    have fr5 : Fr t.S H H5 := fr4.trans ex5.fr
    clear h4r h4t h4l hI4 fr4 ex5 hsa
    walk_at "wx"
    refine ⟨len_ok rfl, fun qa hqa => ?_⟩
    have ex6 := Ex.new (o := .lst []) hqa
    have h6q := upd_same (H := H5) (a := qa) (o := .lst [])
    have hqa0 : H qa = none := fr5.back qa hqa
    have nsq : sa ≠ qa := ne_of_none h5 hqa
    have nlq : l ≠ qa := ne_of_none h5l hqa
    generalize upd H5 qa (.lst []) = H6 at ex6 h6q ⊢
    have hI6 := t.exI hI5 ex6
    have fr6 : Fr t.S H H6 := fr5.trans ex6.fr
    have a6 : AskAt H H6 r sa qa [(tp, some l)] (AskSt.run (t.t1 g start) start g room 0) := by
      have e0 : AskSt.run (t.t1 g start) start g room 0 = ⟨[(start, some l0)], l0.filter fun x => !decide (x = start), []⟩ := by
        show AskSt.first (t.t1 g start) start = _
        unfold AskSt.first
        have e1 : t.t1 g start start = some l0 := hl0
        rw [e1]; rfl
      rw [e0]
      refine ⟨⟨ex6.at h5r, rfl, fun i e x he hx => ?_, by simp, by simp, hr0⟩, ex6.at h5, h6q, ⟨hsa0, hqa0⟩, nsq, fun e he => ?_⟩
      · cases i with
        | zero =>
          cases he; cases hx
          exact ⟨ex6.at h5t, htp0, fun l' e => ⟨l, rfl, by cases e; exact ex6.at h5l, hl0'⟩, fun e => by cases e⟩
        | succ i => simp at he
      · rw [List.mem_singleton.mp he]
        exact ⟨fun z => nsl (Option.some.inj z), fun z => nlq (Option.some.inj z)⟩
    have c6 : cs ++ [(start, g, start)] = cs ++ rowC (AskSt.run (t.t1 g start) start g room 0).row g start := rfl
    rw [c6] at hI6
    clear h5r h5t h5l h5 hI5 fr5 ex6 h6q hqa hI1 fr1 c6 nsq nlq nsl hl0'
    have byl : ∀ k, (byN g (AskSt.run (t.t1 g start) start g room k).seen).length < 64 := fun k => byN_lt (fun x hx => ((hok k).sn x hx).1) hnl
    have rl : ∀ k, (AskSt.run (t.t1 g start) start g room k).row.length ≤ 63 := fun k => by have := (hok k).len; omega
    have sl : ∀ k, (AskSt.run (t.t1 g start) start g room k).seen.length ≤ 6300 := fun k => by have := (hok k).sl; have := rl k; omega
    have ql : ∀ k, (AskSt.run (t.t1 g start) start g room k).quiet.length ≤ 63 := fun k => by have := (hok k).ql; have := rl k; omega
    have lst : ∀ k, (standN g room (AskSt.run (t.t1 g start) start g room k).seen (AskSt.run (t.t1 g start) start g room k).quiet).length ≤ 64 := fun k => by
      unfold standN
      refine Nat.le_trans (List.length_take_le' _ _) (Nat.le_trans (nodup_len (byN_nodup _ _) (b := byN g (AskSt.run (t.t1 g start) start g room k).seen) fun x hx => mem_byN.mpr (List.mem_filter.mp (mem_byN.mp hx)).1) ?_)
      have := byl k; omega
    walk_at "wx"
    refine wc_standing rfl rfl (SqL.of a6.sn) (SqL.of a6.qt) ⟨byl 0, by have := sl 0; omega, by have := ql 0; omega⟩ fun la H7 hla ex7 h7 => ?_
    have hS : ∀ b, t.S b → H b ≠ none := fun b z => t.live hI (t.sub _ z)
    have a7 : AskAt H H7 r sa qa [(tp, some l)] (AskSt.run (t.t1 g start) start g room 0) := a6.fr ex7 fun _ z => z.elim
    have hI7 := t.exI hI6 ex7
    have e7 : standN g room (AskSt.run (t.t1 g start) start g room 0).seen (AskSt.run (t.t1 g start) start g room 0).quiet = (AskSt.run (t.t1 g start) start g room 0).left g room := by
      unfold AskSt.left
      refine (List.filter_eq_self.mpr fun x hx => ?_).symm
      have h1 := ((hok 0).sn x (AskSt.mem_stand hx).1).2
      have h2 : (AskSt.run (t.t1 g start) start g room 0).done = [start] := rfl
      rw [h2]; simp [h1]
    rw [e7] at h7
    walk_at "wx"
    refine x_while (W := fun mm σ H' => ∃ (es : List (Addr × Option Addr)) (k : Nat) (la : Addr) (v9 v10 v11 : Option V), σ = [some (.int start), some (.int g), some (.int room), some (.ref f), some (.ref r), some (.ref sa), none, some (.ref qa), some (.ref la), v9, v10, v11] ∧ Fr t.S H H' ∧ AskAt H H' r sa qa es (AskSt.run (t.t1 g start) start g room k) ∧
        H' la = some (.lst (((AskSt.run (t.t1 g start) start g room k).left g room).map nV)) ∧ t.I H' (cs ++ rowC (AskSt.run (t.t1 g start) start g room k).row g start) ∧ mm + k = 64) (m := 64)
      ⟨_, 0, la, _, _, _, rfl, fr6.trans ex7.fr, a7, h7, hI7, rfl⟩ ?_
    clear a6 a7 hI6 hI7 fr6 h7 ex7 hla e7 hl0 hl1 hl2 htp0
    rintro mm σ H8 ⟨es, k, la, v9, v10, v11, rfl, fr8, a8, h8, hI8, hmm⟩
    have hrl := rl k
    have hcsl : (cs ++ rowC (AskSt.run (t.t1 g start) start g room k).row g start).length ≤ 1000000 := by
      unfold rowC; rw [List.length_append, List.length_map]; omega
    walk_at "wx"
    refine x_whD (fun hlt => ?_) fun hge => ?_
    · obtain ⟨x, rest, hx⟩ : ∃ x rest, (AskSt.run (t.t1 g start) start g room k).left g room = x :: rest := by
        cases e : (AskSt.run (t.t1 g start) start g room k).left g room with
        | nil => rw [e] at hlt; simp at hlt
        | cons x rest => exact ⟨x, rest, rfl⟩
      have hkl := AskSt.run_len (k := k) (by rw [hx]; simp)
      have hnext := AskSt.run_next hx
      rw [hx, List.map_cons] at h8
      walk_at "wx"
      refine ⟨f, rfl, (t.fn hI8).1, ?_⟩
      walk_at "wx"
      refine ⟨(t.fn hI8).1, (t.fn hI8).2, ?_⟩
      refine t.say (h := x) (g := g) (a := start) hI8 hcsl (.inl ((hok k).sn x (AskSt.mem_left (by rw [hx]; exact List.mem_cons_self)).1).1) fun v H9 fr9 hI9 ha => ?_
      have a9 := a8.fr fr9 hS
      have fr09 := fr8.trans fr9
      clear hI8 a8 h8 fr8 fr9
      have hqt := a9.qt
      have hro := a9.ra.ro
      have hsn := a9.sn
      have hql := ql k
      have hsl := sl k
      have hel := a9.ra.len
      have nr := a9.rne
      have nF : ∀ b, H b = none → ¬ t.FF b := fun b z => t.new hI z
      walk_at "wx"
      refine x_cut (fun σ' H' => ∃ (es' : List (Addr × Option Addr)), σ' = [some (.int start), some (.int g), some (.int room), some (.ref f), some (.ref r), some (.ref sa), none, some (.ref qa), some (.ref la), some (.int x), some v, v11] ∧ Fr t.S H H' ∧ AskAt H H' r sa qa es' (AskSt.run (t.t1 g start) start g room (k + 1)) ∧ t.I H' (cs ++ rowC (AskSt.run (t.t1 g start) start g room (k + 1)).row g start)) ?_ ?_
      · rw [hnext]
        have e1 : t.t1 g start x = t.tell x g start := rfl
        rw [e1]
        cases e : t.tell x g start with
        | none =>
          rw [e] at ha
          obtain rfl : v = .non := ha
          walk_at "wx"
          have hI10 := t.mut (o := .lst ((AskSt.run (t.t1 g start) start g room k).quiet.map nV ++ [V.int (x : Int)])) hI9 hqt (nF _ a9.new.2)
          have fr10 : Fr t.S H (upd H9 qa (.lst ((AskSt.run (t.t1 g start) start g room k).quiet.map nV ++ [V.int (x : Int)]))) := fr09.mut a9.new.2 hqt
          have h10q := upd_same (H := H9) (a := qa) (o := .lst ((AskSt.run (t.t1 g start) start g room k).quiet.map nV ++ [V.int (x : Int)]))
          have kp10 : ∀ b o, H9 b = some o → b ≠ qa → upd H9 qa (.lst ((AskSt.run (t.t1 g start) start g room k).quiet.map nV ++ [V.int (x : Int)])) b = some o := fun b o h n => by rw [upd_ne n]; exact h
          generalize upd H9 qa (.lst ((AskSt.run (t.t1 g start) start g room k).quiet.map nV ++ [V.int (x : Int)])) = H10 at hI10 fr10 h10q kp10 ⊢
          have h10r := kp10 _ _ hro nr.2
          walk_at "wx"
          refine ⟨len_ok rfl, fun tp htp => ?_⟩
          have ext := Ex.new (o := .tup [V.int (x : Int), .non]) htp
          have h11t := upd_same (H := H10) (a := tp) (o := .tup [V.int (x : Int), .non])
          have htp9 : H9 tp = none := by
            cases z : H9 tp with
            | none => rfl
            | some o =>
              by_cases c : tp = qa
              · rw [c, h10q] at htp; cases htp
              · rw [kp10 _ _ z c] at htp; cases htp
          have kp11 : ∀ b o, H9 b = some o → b ≠ qa → upd H10 tp (.tup [V.int (x : Int), .non]) b = some o := fun b o h n => by
            rw [upd_ne fun z => by rw [z, htp9] at h; cases h]; exact kp10 b o h n
          have h11q := at_new (o := .tup [V.int (x : Int), .non]) htp h10q
          have hI11 := t.exI hI10 ext
          have fr11 := fr10.trans ext.fr
          generalize upd H10 tp (.tup [V.int (x : Int), .non]) = H11 at ext h11t kp11 h11q hI11 fr11 ⊢
          have h11r := kp11 _ _ hro nr.2
          walk_at "wx"
          have ntr : tp ≠ r := fun z => by rw [z, h11r] at h11t; cases h11t
          refine ⟨es ++ [(tp, none)], rfl, fr11.mut a9.ra.nr h11r, ?_, ?_⟩
          · refine a9.step (fun b o _ h n1 n2 n3 => ?_) ?_ ?_ ?_ rfl ⟨?_, fr09.back tp htp9, fun l z => (by cases z), fun _ => rfl⟩ fun l z => by cases z
            · rw [upd_ne n1]; exact kp11 b o h n3
            · rw [upd_same, List.map_append]; rfl
            · rw [upd_ne nr.1.symm]; exact kp11 _ _ hsn a9.ne.1
            · rw [upd_ne nr.2.symm, h11q]
              show _ = some (HO.lst (((AskSt.run (t.t1 g start) start g room k).quiet ++ [x]).map nV))
              rw [List.map_append]; rfl
            · rw [upd_ne ntr]; exact h11t
          · have q2 := t.mut (o := .lst ((es.map fun e => V.ref e.1) ++ [V.ref tp])) hI11 h11r (nF _ a9.ra.nr)
            have ec : cs ++ rowC (AskSt.run (t.t1 g start) start g room k).row g start ++ [(x, g, start)] = cs ++ rowC ((AskSt.run (t.t1 g start) start g room k).add start x none).row g start := by
              show _ = cs ++ rowC ((AskSt.run (t.t1 g start) start g room k).row ++ [(x, none)]) g start
              unfold rowC; rw [List.map_append, List.append_assoc]; rfl
            rw [← ec]; exact q2
        | some l =>
          rw [e] at ha
          obtain ⟨pl, rfl, hpl⟩ := ha
          obtain ⟨hl1, hl2⟩ := t.tl _ _ _ _ e
          walk_at "wx"
          refine x_listL hpl fun lc hlc => ?_
          have ex10 := Ex.new (o := .lst (l.map nV)) hlc
          have h10l := upd_same (H := H9) (a := lc) (o := .lst (l.map nV))
          generalize upd H9 lc (.lst (l.map nV)) = H10 at ex10 h10l ⊢
          refine ⟨len_ok rfl, fun tp htp => ?_⟩
          have ex11 := ex10.newT (o := .tup [nV x, .ref lc]) htp
          have h11t := upd_same (H := H10) (a := tp) (o := .tup [nV x, .ref lc])
          have h11l := at_new (o := .tup [nV x, .ref lc]) htp h10l
          have htp9 : H9 tp = none := ex10.back tp htp
          generalize upd H10 tp (.tup [nV x, .ref lc]) = H11 at ex11 h11t h11l ⊢
          clear h10l ex10 htp
          have h11r := ex11.at hro
          refine x_append h11r (by rw [sizeLine_eq, List.length_map]; omega) ?_
          have ntr : tp ≠ r := fun z => by rw [z, h11r] at h11t; cases h11t
          have nlr : lc ≠ r := fun z => by rw [z, hro] at hlc; cases hlc
          have nls : lc ≠ sa := fun z => by rw [z, hsn] at hlc; cases hlc
          have nlq : lc ≠ qa := fun z => by rw [z, hqt] at hlc; cases hlc
          have nts : tp ≠ sa := fun z => by rw [z, hsn] at htp9; cases htp9
          have hI12 := t.mut (o := .lst ((es.map fun e => V.ref e.1) ++ [V.ref tp])) (t.exI hI9 ex11) h11r (nF _ a9.ra.nr)
          have fr12 : Fr t.S H (upd H11 r (.lst ((es.map fun e => V.ref e.1) ++ [V.ref tp]))) := (fr09.trans ex11.fr).mut a9.ra.nr h11r
          have hpl12 : SqL K (upd H11 r (.lst ((es.map fun e => V.ref e.1) ++ [V.ref tp]))) pl (l.map nV) := (ex11.ls hpl).upd_ne' h11r (refs_ne a9.ra.r0)
          have h12r := upd_same (H := H11) (a := r) (o := .lst ((es.map fun e => V.ref e.1) ++ [V.ref tp]))
          have h12t : upd H11 r (.lst ((es.map fun e => V.ref e.1) ++ [V.ref tp])) tp = _ := (upd_ne ntr).trans h11t
          have h12l : upd H11 r (.lst ((es.map fun e => V.ref e.1) ++ [V.ref tp])) lc = _ := (upd_ne nlr).trans h11l
          have kp12 : ∀ b o, NT o → H9 b = some o → b ≠ r → upd H11 r (.lst ((es.map fun e => V.ref e.1) ++ [V.ref tp])) b = some o := fun b o nt h n => by rw [upd_ne n]; exact ex11.at h nt
          generalize upd H11 r (.lst ((es.map fun e => V.ref e.1) ++ [V.ref tp])) = H12 at hI12 fr12 hpl12 h12r h12t h12l kp12 ⊢
          clear h11r h11t h11l ex11
          have h12s := kp12 _ _ (by trivial) hsn nr.1.symm
          have h12q := kp12 _ _ (by trivial) hqt nr.2.symm
          walk_at "wx"
          refine LcW.filt (emb := nV) (xs := l) (fun y => !decide (y = start)) hpl12 (by rw [sizeLine_eq]; omega) (fun y _ H13 ex13 R hR => ?_) (fun y _ _ H13 ex13 Qe hQ => ?_) fun p5 H13 hp5 ex13 h13 => ?_
          · walk_at "wx"
            have e : decide ((y : Int) = (start : Int)) = decide (y = start) := decide_eq_decide.mpr ⟨fun z => Int.ofNat.inj z, fun z => by rw [z]⟩
            rw [e]
            exact hR _ Ex.refl
          · walk_at "wx"
            exact hQ
          have h13s := ex13.at h12s
          refine x_extend h13s h13 (by rw [sizeLine_eq, List.length_map, List.length_map]; have := List.length_filter_le (fun y => !decide (y = start)) l; omega) ?_
          have fr13 : Fr t.S H H13 := fr12.trans ex13.fr
          refine ⟨es ++ [(tp, some lc)], rfl, fr13.mut a9.new.1 h13s, ?_, ?_⟩
          · refine a9.step (fun b o nt h n1 n2 n3 => ?_) ?_ ?_ ?_ rfl ⟨?_, fr09.back tp htp9, fun l' z => ⟨lc, rfl, ?_, fr09.back lc hlc⟩, fun z => (by cases z)⟩ fun l' z => by cases z; exact ⟨nls, nlq, hlc⟩
            · rw [upd_ne n2]; exact ex13.at (kp12 b o nt h n1) nt
            · rw [upd_ne nr.1, ex13.at h12r, List.map_append]; rfl
            · rw [upd_same]
              show _ = some (HO.lst (((AskSt.run (t.t1 g start) start g room k).seen ++ l.filter fun y => !decide (y = start)).map nV))
              rw [List.map_append]
            · rw [upd_ne a9.ne.1.symm]; exact ex13.at h12q
            · rw [upd_ne nts]; exact ex13.at h12t
            · cases z; rw [upd_ne nls]; exact ex13.at h12l
          · have q2 := t.mut (o := .lst ((AskSt.run (t.t1 g start) start g room k).seen.map nV ++ (l.filter fun y => !decide (y = start)).map nV)) (t.exI hI12 ex13) h13s (nF _ a9.new.1)
            have ec : cs ++ rowC (AskSt.run (t.t1 g start) start g room k).row g start ++ [(x, g, start)] = cs ++ rowC ((AskSt.run (t.t1 g start) start g room k).add start x (some l)).row g start := by
              show _ = cs ++ rowC ((AskSt.run (t.t1 g start) start g room k).row ++ [(x, some l)]) g start
              unfold rowC; rw [List.map_append, List.append_assoc]; rfl
            rw [← ec]; exact q2
      · rintro σ' H12 ⟨es', rfl, fr12, a12, hI12⟩
        have hro2 := a12.ra.ro
        have hrl2 := rl (k + 1)
        have hsl2 := sl (k + 1)
        have hql2 := ql (k + 1)
        clear hI9 a9 fr09 hqt hro hsn
        walk_at "wx"
        refine LcW.row (by decide) hro2 a12.ra.len (by omega) (fun i e y he hy => (a12.ra.at_ i e y he hy).tp) (by simp) fun D H13 hD ex13 h13 => ?_
        have a13 := a12.fr ex13 fun _ z => z.elim
        have hI13 := t.exI hI12 ex13
        walk_at "wx"
        refine wc_standing rfl rfl (SqL.of a13.sn) (SqL.of a13.qt) ⟨byl (k + 1), by omega, by omega⟩ fun p14 H14 hp14 ex14 h14 => ?_
        have a14 := a13.fr ex14 fun _ z => z.elim
        have hI14 := t.exI hI13 ex14
        have h14d := ex14.at h13
        have hdl : (AskSt.run (t.t1 g start) start g room (k + 1)).row.length ≤ 63 := hrl2
        walk_at "wx"
        refine LcW.filt (emb := nV) (xs := standN g room (AskSt.run (t.t1 g start) start g room (k + 1)).seen (AskSt.run (t.t1 g start) start g room (k + 1)).quiet) (fun y => !decide (y ∈ (AskSt.run (t.t1 g start) start g room (k + 1)).row.map (·.1))) (SqL.of h14) (by rw [sizeLine_eq]; have := lst (k + 1); omega) (fun y _ H15 ex15 R hR => ?_) (fun y _ _ H15 ex15 Qe hQ => ?_) fun p15 H15 hp15 ex15 h15 => ?_
        · walk_at "wx"
          exact hR _ Ex.refl
        · walk_at "wx"
          exact hQ
        walk_at "wx"
        exact ⟨mm - 1, by omega, es', k + 1, p15, _, _, _, rfl, ((fr12.trans ex13.fr).trans ex14.fr).trans ex15.fr, a14.fr ex15 fun _ z => z.elim, h15, t.exI hI14 ex15, by omega⟩
    · have hnil : (AskSt.run (t.t1 g start) start g room k).left g room = [] := by
        rw [List.length_map] at hge
        exact List.eq_nil_of_length_eq_zero (by omega)
      have hend := askEnd_eq (by omega) hnil
      have hsl := sl k
      have hql := ql k
      walk_at "wx"
      refine wc_standing rfl rfl (SqL.of a8.sn) (SqL.of a8.qt) ⟨byl k, by omega, by omega⟩ fun fd H9 hfd ex9 h9 => ?_
      refine ⟨len_ok rfl, fun p hp => ?_⟩
      have exp := Ex.new (o := .tup [V.ref r, V.ref fd]) hp
      have ex10 := ex9.trans exp
      refine q p r fd es _ (fr8.trans ex10.fr) (fr8.back p (ex9.back p hp)) upd_same ?_ (fr8.back fd hfd) ?_ (fun e he c => ?_) ?_
      · rw [hend]; exact a8.ra.fr ex10 fun _ z => z.elim
      · unfold askFound; rw [hend]; exact exp.at h9
      · obtain ⟨y, _, re⟩ := a8.ra.el he
        obtain ⟨_, _, g2, _⟩ := re.cell c
        rw [g2] at hfd; cases hfd
      · rw [hend]; exact t.exI hI8 ex10
end
end Nn
/-! Town.come(self, ..): a def called by the class's attribute -/
namespace Nn
open PySem PySem.Spec PyProof.Rows L2
def tClsM (C : Addr) (sp : Sp) (dvs : List V) (E : XK) (ta : TE) (t : L2.TA) : TE := fun σ H Q => ta σ H fun x H1 => x = .ref C ∧ t σ H1 fun vs H2 => sp (vs ++ dvs) H2 Q E
theorem pe_clsm {X : Cx} {CX : CXT} {k : Nat} {C f : Addr} {fd : FuncData} {ps : List Str} {sp : Sp} {dvs : List V} {ds : List Value} {E : XK} {m : Str} {o e : Expr} {es : List Expr} {ta : TE} {t : L2.TA} {pos apos : Pos} {mc : Value} {pl : Sem Bool} (he : PE X o ta) (r : ClX.CRead X.K C mc) (c : PySem.W.findCls X.K (.ref C) mc m = some (.val (.ref f))) (kp : PySem.W.keepIn X.K (.ref f) = true)
    (F : FnOk X.prog X.w X.K X.mg X.base CX k f fd ps sp) (hr : Room k X.A) (hb : Binds X.K fd ps ds) (hd : Vals dvs ds) (hx : Passes CX X E) (ha : PA X (e :: es) t)
    (hst : starEach (e :: es) X.env = (false, eval e X.env) :: starEach es X.env := by rfl) (hpl : (backTo pos (starEach es X.env)).any (·.1) = false := by rfl)
    (ht : eval (.Call (.Attribute o m apos) (e :: es) [] pos) X.env = (do
      let ov ← eval o X.env
      standAt apos.atName
      let (f, first) ← holding [ov] (getMethod ov m pl)
      callWith pos f first (backTo pos (starEach (e :: es) X.env)) (backToKw pos (keywordEach [] X.env))) := by rfl) :
    PE X (.Call (.Attribute o m apos) (e :: es) [] pos) (tClsM C sp dvs E ta t) := by
  refine ⟨fun pins s σ H Q I h => ?_⟩
  refine PySem.W.methodCall_KW (pl := pl) (thn (he.run pins s σ H _ I h) fun u s1 ⟨x, H1, I1, rx, ex, q⟩ => ?_) ht
  subst ex
  obtain rfl : u = Value.ref C := rx
  refine PySem.W.method_cls I1.kIn r.ga (ClX.getcval_ok (v := .ref f) I1 r ⟨c, rfl⟩ fun s2 I2 => ?_)
  refine PySem.W.callWith_K (h₀ := X.base) I2.ok.mod.kin kp (thn (ha.run pos pins s2 σ H1 _ I2 q) fun us s3 ⟨vs, H2, I3, rv, q2⟩ => ⟨I3.kIn, ?_⟩) hst hpl
  exact run_fn F hr hb hd hx I3 rv q2
def RCm (C : Addr) (sp : Sp) (dvs : List V) (E : XK) (t : L2.TA) (σ : L2.St) (Q : VK) : VK := fun x H1 => x = .ref C ∧ t σ H1 fun vs H2 => sp (vs ++ dvs) H2 Q E
theorem e_clsm {C : Addr} {sp : Sp} {dvs : List V} {E : XK} {ta : TE} {t : L2.TA} {σ : L2.St} {H : Hp} {Q : VK} : tClsM C sp dvs E ta t σ H Q = ta σ H (RCm C sp dvs E t σ Q) := rfl
theorem x_clsm {C : Addr} {sp : Sp} {dvs : List V} {E : XK} {t : L2.TA} {σ : L2.St} {H : Hp} {Q : VK} (h : t σ H fun vs H2 => sp (vs ++ dvs) H2 Q E) : RCm C sp dvs E t σ Q (.ref C) H := ⟨rfl, h⟩
theorem op_catTK {X : Cx} {K : PySem.W.Frag} (e : X.K = K) : OpR X (binaryOp .Add) (rCatT K) := by subst e; exact op_catT
end Nn
local macro_rules | `(tactic| walk_at "wc") => `(tactic| dsimp only [↓Nn.e_clsm])
local macro_rules | `(tactic| walk_at "wc") => `(tactic| with_reducible refine Nn.x_clsm ?_)
/-! towns: what they do -/
namespace Nn
open PySem L2
section
variable {P : Program} {w : World} {K : PySem.W.Frag} {mg : Str → Option Value} {base : Heap} {H : Hp} {Q : VK} {E : XK}
/-- what may be handed in, of any kind -/
inductive Thing (H : Hp) : V → Prop
  | int (i : Int) : Thing H (.int i)
  | bl (b : Bool) : Thing H (.bl b)
  | str (z : Str) : Thing H (.str z)
  | non : Thing H .non
  | lst {a : Addr} {xs : List V} : H a = some (.lst xs) → Thing H (.ref a)
  | tup {a : Addr} {xs : List V} : H a = some (.tup xs) → Thing H (.ref a)
  | dict {a : Addr} {kvs : List (Key × V)} : H a = some (.dK kvs) → Thing H (.ref a)
theorem Thing.ex {H' : Hp} {v : V} (t : Thing H v) (e : Ex H H') : Thing H' v := by
  cases t with
  | int i => exact .int i
  | bl b => exact .bl b
  | str z => exact .str z
  | non => exact .non
  | lst h => exact .lst (e.at h)
  | tup h => exact .tup (e.at h)
  | dict h => exact .dict (e.at h)
/-- whether it is a name, a size -/
def isnV (v : V) (wd : Nat) : Bool := match v with
  | .int i => decide (0 ≤ i ∧ i < ((2 ^ wd : Nat) : Int))
  | _ => false
def issV (v : V) (k : Nat) : Bool := match v with
  | .int i => decide (1 ≤ i ∧ i ≤ (k : Int))
  | _ => false
def sp_is_name (_ : Tx K mg base) : Sp := fun vs H Q _ => ∃ (v : V) (wd : Nat), vs = [v, .int wd] ∧ wd ≤ 60 ∧ Thing H v ∧ Q (.bl (isnV v wd)) H
theorem wc_is_name {T : Tx K mg base} {n wd : Nat} {i j : Int} (e0 : i = n) (e1 : j = wd) (c0 : wd ≤ 60) (h : Q (.bl (decide (n < 2 ^ wd))) H) : sp_is_name T [.int i, .int j] H Q E := by
  subst e0 e1
  refine ⟨.int n, wd, rfl, c0, .int _, ?_⟩
  have e : isnV (.int (n : Int)) wd = decide (n < 2 ^ wd) := decide_eq_decide.mpr ⟨fun z => Int.ofNat_lt.mp z.2, fun z => ⟨Int.natCast_nonneg _, Int.ofNat_lt.mpr z⟩⟩
  rw [e]; exact h
theorem wg_is_name {T : Tx K mg base} {v : V} {wd : Nat} {j : Int} (e1 : j = wd) (c0 : wd ≤ 60) (t : Thing H v) (h : Q (.bl (isnV v wd)) H) : sp_is_name T [v, .int j] H Q E := by
  subst e1; exact ⟨v, wd, rfl, c0, t, h⟩
theorem ok_is_name (T : Tx K mg base) : FnOk P w K mg base CX0 1 T.a_is_name T.d_is_name ["thing", "wide"] (sp_is_name T) := by
  refine T.F_is_name.okD sc_is_name (fun vs H Q E h => ?_) (fun cdv A outer s H vs Q E hr h => ?_)
  · obtain ⟨v, wd, rfl, _⟩ := h; rfl
  · obtain ⟨v, wd, rfl, hw, t, q⟩ := h
    have hu := hu_of hr
    have c_Bucket := T.c_Bucket; have n_Bucket_room := T.n_Bucket_room; have n_Bucket_line := T.n_Bucket_line; have c_Table := T.c_Table; have n_Table_own := T.n_Table_own; have n_Table_wide := T.n_Table_wide; have n_Table_room := T.n_Table_room; have n_Table_buckets := T.n_Table_buckets; have c_Town := T.c_Town; have n_Town_wide := T.n_Town_wide; have n_Town_room := T.n_Town_room; have n_Town_tables := T.n_Town_tables; have n_Town_hushed := T.n_Town_hushed; have n_Town_shelves := T.n_Town_shelves; have n_Town_layings := T.n_Town_layings
    refine ⟨_, (pss_one (ps_ret (pe_and (pe_callB call_isi (by rfl) T.z_isinstance (by decide +kernel) (pa_cons (pv 0) (pa_cons (pe_bltn (v := .ty "int") rfl T.z_int (by decide +kernel) rfl) pa_nil))) (pe_and (pe_not (pe_callB call_isi (by rfl) T.z_isinstance (by decide +kernel) (pa_cons (pv 0) (pa_cons (pe_bltn (v := .ty "bool") rfl T.z_bool (by decide +kernel) rfl) pa_nil)))) (pe_one (pe_chain op_le op_lt pe_int (pv 0) (pe_op op_shl1 pe_int (pv 1)))))))), ?_⟩
    rw [Nn.st_is_name]; try rw [Nn.cxK]
    try rw [Nn.cxW]
    cases t with
    | int i =>
      walk_at "wx"
      refine x_ite (fun h => ?_) fun h => ?_
      · walk_at "wx"
        have e : isnV (.int i) wd = decide (i < ((2 ^ wd : Nat) : Int)) := decide_eq_decide.mpr ⟨fun z => z.2, fun z => ⟨h, z⟩⟩
        rw [e] at q; exact q
      · have e : isnV (.int i) wd = false := decide_eq_false fun z => h z.1
        rw [e] at q; exact q
    | bl b => walk_at "wx"; exact q
    | str z => walk_at "wx"; exact q
    | non => walk_at "wx"; exact q
    | lst h => walk_at "wx"; exact q
    | tup h => walk_at "wx"; exact q
    | dict h => walk_at "wx"; exact q
def sp_is_size (_ : Tx K mg base) : Sp := fun vs H Q _ => ∃ (v : V) (k : Nat), vs = [v, .int k] ∧ Thing H v ∧ Q (.bl (issV v k)) H
theorem wc_is_size {T : Tx K mg base} {n k : Nat} {i j : Int} (e0 : i = n) (e1 : j = k) (h : Q (.bl (decide (1 ≤ n ∧ n ≤ k))) H) : sp_is_size T [.int i, .int j] H Q E := by
  subst e0 e1
  refine ⟨.int n, k, rfl, .int _, ?_⟩
  have e : issV (.int (n : Int)) k = decide (1 ≤ n ∧ n ≤ k) := decide_eq_decide.mpr ⟨fun z => ⟨by omega, by omega⟩, fun z => ⟨by omega, by omega⟩⟩
  rw [e]; exact h
theorem wg_is_size {T : Tx K mg base} {v : V} {k : Nat} {j : Int} (e1 : j = k) (t : Thing H v) (h : Q (.bl (issV v k)) H) : sp_is_size T [v, .int j] H Q E := by
  subst e1; exact ⟨v, k, rfl, t, h⟩
theorem ok_is_size (T : Tx K mg base) : FnOk P w K mg base CX0 1 T.a_is_size T.d_is_size ["thing", "most"] (sp_is_size T) := by
  refine T.F_is_size.okD sc_is_size (fun vs H Q E h => ?_) (fun cdv A outer s H vs Q E hr h => ?_)
  · obtain ⟨v, k, rfl, _⟩ := h; rfl
  · obtain ⟨v, k, rfl, t, q⟩ := h
    have hu := hu_of hr
    have c_Bucket := T.c_Bucket; have n_Bucket_room := T.n_Bucket_room; have n_Bucket_line := T.n_Bucket_line; have c_Table := T.c_Table; have n_Table_own := T.n_Table_own; have n_Table_wide := T.n_Table_wide; have n_Table_room := T.n_Table_room; have n_Table_buckets := T.n_Table_buckets; have c_Town := T.c_Town; have n_Town_wide := T.n_Town_wide; have n_Town_room := T.n_Town_room; have n_Town_tables := T.n_Town_tables; have n_Town_hushed := T.n_Town_hushed; have n_Town_shelves := T.n_Town_shelves; have n_Town_layings := T.n_Town_layings
    refine ⟨_, (pss_one (ps_ret (pe_and (pe_callB call_isi (by rfl) T.z_isinstance (by decide +kernel) (pa_cons (pv 0) (pa_cons (pe_bltn (v := .ty "int") rfl T.z_int (by decide +kernel) rfl) pa_nil))) (pe_and (pe_not (pe_callB call_isi (by rfl) T.z_isinstance (by decide +kernel) (pa_cons (pv 0) (pa_cons (pe_bltn (v := .ty "bool") rfl T.z_bool (by decide +kernel) rfl) pa_nil)))) (pe_one (pe_chain op_le op_le pe_int (pv 0) (pv 1))))))), ?_⟩
    rw [Nn.st_is_size]; try rw [Nn.cxK]
    try rw [Nn.cxW]
    cases t with
    | int i =>
      walk_at "wx"
      refine x_ite (fun h => ?_) fun h => ?_
      · walk_at "wx"
        have e : issV (.int i) k = decide (i ≤ (k : Int)) := decide_eq_decide.mpr ⟨fun z => z.2, fun z => ⟨h, z⟩⟩
        rw [e] at q; exact q
      · have e : issV (.int i) k = false := decide_eq_false fun z => h z.1
        rw [e] at q; exact q
    | bl b => walk_at "wx"; exact q
    | str z => walk_at "wx"; exact q
    | non => walk_at "wx"; exact q
    | lst h => walk_at "wx"; exact q
    | tup h => walk_at "wx"; exact q
    | dict h => walk_at "wx"; exact q
end
end Nn
local macro_rules | `(tactic| walk_at "wc") => `(tactic| ((with_reducible refine' Nn.wc_is_name ?hE0 ?hE1 ?hC0 ?_); (case hE0 => walk_at "wnat"); (case hE1 => walk_at "wnat"); (case hC0 => walk_at "wpre")))
local macro_rules | `(tactic| walk_at "wc") => `(tactic| ((with_reducible refine' Nn.wc_is_size ?hE0 ?hE1 ?_); (case hE0 => walk_at "wnat"); (case hE1 => walk_at "wnat")))
namespace Nn
open PySem L2
/-- where a town's things lie -/
structure TA where
  t : Addr
  td : Addr
  hd : Addr
  x : Addr × Nat
  pa : Nat → Addr
  la : Nat → List Addr
section
variable {P : Program} {w : World} {K : PySem.W.Frag} {mg : Str → Option Value} {base : Heap} {H : Hp} {Q : VK} {E : XK}
/-- the town m lies at A; all of it is of F -/
structure TownAt (T : Tx K mg base) (H : Hp) (A : TA) (F : Addr → Prop) (m : TM) : Prop where
  tw : TwAt T H A.t A.td A.hd A.x m.wide m.room m.houses A.pa m.hush
  ft : F A.t ∧ F A.td ∧ F A.hd
  tab : ∀ h ∈ m.houses, TabAt T H (A.pa h) h m.wide m.room (A.la h) ∧ Lines H (A.la h) (m.tab h)
  own : ∀ h ∈ m.houses, F (A.pa h) ∧ TabOwn T H (A.pa h) F ∧ ∀ l ∈ A.la h, F l
  dj : ∀ h1 ∈ m.houses, ∀ h2 ∈ m.houses, h1 ≠ h2 → ∀ l ∈ A.la h1, l ∉ A.la h2
  ex : ∀ a, F a → H a ≠ none
  ne : A.td ≠ A.hd
variable {T : Tx K mg base} {H' : Hp} {A : TA} {F S : Addr → Prop} {m : TM}
theorem TwAt.fr {t td hd : Addr} {x : Addr × Nat} {wide room : Nat} {hs : List Nat} {pa : Nat → Addr} {qs : List Nat} (a : TwAt T H t td hd x wide room hs pa qs) (f : Fr S H H') (h1 : ¬ S t) (h2 : ¬ S td) (h3 : ¬ S hd) : TwAt T H' t td hd x wide room hs pa qs := by
  obtain ⟨dx, ob⟩ := a.ob
  exact ⟨⟨dx, f.at ob h1⟩, f.at a.tb h2, f.at a.hb h3⟩
theorem TownAt.fr (t : TownAt T H A F m) (f : Fr S H H') (h : ∀ a, S a → ¬ F a) : TownAt T H' A F m := by
  have no : ∀ {a : Addr}, F a → ¬ S a := fun x y => h _ y x
  refine ⟨t.tw.fr f (no t.ft.1) (no t.ft.2.1) (no t.ft.2.2), t.ft, fun k hk => ?_, fun k hk => ?_, t.dj, fun a ha e => t.ex a ha (f.back a e), t.ne⟩
  · obtain ⟨t1, t2⟩ := t.tab k hk
    obtain ⟨o1, o2, o3⟩ := t.own k hk
    obtain ⟨dx, bl, bs, h1, h2, h3, h4⟩ := t1.ob
    have q := o2 dx bl _ _ _ bs h1 h2
    refine ⟨⟨t1.w0, t1.w1, t1.r0, t1.r1, t1.len, dx, bl, bs, f.at h1 (no o1), f.at h2 (no q.1), h3, fun i b l e1 e2 => (h4 i b l e1 e2).fr f (no (q.2 b (List.mem_of_getElem? e1)))⟩, t2.fr f fun l hl => no (o3 l hl)⟩
  · obtain ⟨o1, o2, o3⟩ := t.own k hk
    exact ⟨o1, o2.fr (t.tab k hk).1 f (fun a x => .inl (h a x)) (no o1), o3⟩
theorem TownAt.ex' (t : TownAt T H A F m) (f : Ex H H') : TownAt T H' A F m := t.fr f fun _ z => z.elim
/-- the lines of one house change -/
theorem TownAt.line {h : Nat} {xss : List (List Nat)} (t : TownAt T H A F m) (f : Fr S H H') (hs : ∀ a, S a → a ∈ A.la h) (hm : h ∈ m.houses) (L : Lines H' (A.la h) xss) : TownAt T H' A F (m.setTab h xss) := by
  have isl : ∀ {a : Addr}, S a → IsLine H a := fun z => (t.tab h hm).2.is (hs _ z)
  have no : ∀ {a : Addr} {o : HO}, H a = some o → (∀ xs : List Nat, o ≠ .lst (xs.map nV)) → ¬ S a := fun {a o} e n z => by
    obtain ⟨xs, e2⟩ := isl z
    rw [e] at e2
    exact n xs (Option.some.inj e2)
  obtain ⟨dx, ob⟩ := t.tw.ob
  have tw' := t.tw.fr f (no ob fun _ z => by cases z) (no t.tw.tb fun _ z => by cases z) (no t.tw.hb fun _ z => by cases z)
  have pno : ∀ k ∈ m.houses, ¬ S (A.pa k) := fun k hk => by
    obtain ⟨dx, bl, bs, h1, _⟩ := (t.tab k hk).1.ob
    exact no h1 fun _ z => by cases z
  refine ⟨by rw [TM.setTab_houses]; exact tw', t.ft, fun k hk => ?_, fun k hk => ?_, by rw [TM.setTab_houses]; exact t.dj, fun a ha e => t.ex a ha (f.back a e), t.ne⟩
  · rw [TM.setTab_houses] at hk
    refine ⟨(t.tab k hk).1.fr f fun a z => .inl (isl z), ?_⟩
    rw [TM.setTab_tab]
    by_cases e : k = h
    · rw [if_pos ⟨e, hm⟩, e]; exact L
    · rw [if_neg fun z => e z.1]
      exact (t.tab k hk).2.fr f fun l hl z => t.dj k hk h hm e l hl (hs l z)
  · rw [TM.setTab_houses] at hk
    obtain ⟨o1, o2, o3⟩ := t.own k hk
    exact ⟨o1, o2.fr (t.tab k hk).1 f (fun a x => .inr (isl x)) (pno k hk), o3⟩
/-- neither an instance nor a list of objects -/
def Soft (H : Hp) (a : Addr) : Prop := ∀ o, H a = some o → (∀ C dx fs, o ≠ .ins C dx fs) ∧ ∀ b r, o ≠ .lst (.ref b :: r)
theorem Soft.dict {a : Addr} {kvs : List (Key × V)} (h : H a = some (.dK kvs)) : Soft H a := fun o e => by
  rw [h] at e; cases e
  exact ⟨fun _ _ _ z => (by cases z), fun _ _ z => (by cases z)⟩
theorem Soft.line {a : Addr} (h : IsLine H a) : Soft H a := fun o e => by
  obtain ⟨xs, h⟩ := h
  rw [h] at e; cases e
  refine ⟨fun _ _ _ z => (by cases z), fun b r z => ?_⟩
  cases xs with
  | nil => cases z
  | cons x r => cases z
theorem TabAt.soft {p : Addr} {own wide room : Nat} {ls : List Addr} (t : TabAt T H p own wide room ls) (f : Fr S H H') (h : ∀ a, S a → Soft H a) : TabAt T H' p own wide room ls := by
  obtain ⟨dx, bl, bs, h1, h2, h3, h4⟩ := t.ob
  refine ⟨t.w0, t.w1, t.r0, t.r1, t.len, dx, bl, bs, f.at h1 fun z => (h _ z _ h1).1 _ _ _ rfl, f.at h2 fun z => ?_, h3, fun i b l e1 e2 => (h4 i b l e1 e2).fr f fun z => ?_⟩
  · have w0 := t.w0
    cases bs with
    | nil => simp at h3; omega
    | cons b r => exact (h _ z _ h2).2 _ _ rfl
  · obtain ⟨dy, hy⟩ := (h4 i b l e1 e2).ob
    exact (h _ z _ hy).1 _ _ _ rfl
theorem TabOwn.soft {p : Addr} {own wide room : Nat} {ls : List Addr} (o : TabOwn T H p F) (t : TabAt T H p own wide room ls) (f : Fr S H H') (h : ∀ a, S a → Soft H a) : TabOwn T H' p F := by
  obtain ⟨dx, bl, bs, h1, h2, h3, h4⟩ := t.ob
  have q := o dx bl _ _ _ bs h1 h2
  have hb : ¬ S bl := fun z => by
    have w0 := t.w0
    cases bs with
    | nil => simp at h3; omega
    | cons b r => exact (h _ z _ h2).2 _ _ rfl
  intro dx' bl' x y z bs' e1 e2
  rw [f.at h1 fun z => (h _ z _ h1).1 _ _ _ rfl] at e1
  cases e1
  rw [f.at h2 hb] at e2
  have e := HO.lst.inj (Option.some.inj e2)
  rw [← refs_inj e]
  exact q
theorem TabOwn.live {p : Addr} {own wide room : Nat} {ls : List Addr} (o : TabOwn T H p F) (t : TabAt T H p own wide room ls) : TabOwn T H p (fun a => F a ∧ H a ≠ none) := by
  obtain ⟨dx, bl, bs, h1, h2, h3, h4⟩ := t.ob
  have q := o dx bl _ _ _ bs h1 h2
  intro dx' bl' x y z bs' e1 e2
  rw [h1] at e1
  cases e1
  rw [h2] at e2
  have e := HO.lst.inj (Option.some.inj e2)
  rw [← refs_inj e]
  refine ⟨⟨q.1, by rw [h2]; exact fun z => by cases z⟩, fun b hb => ⟨q.2 b hb, ?_⟩⟩
  obtain ⟨i, hi⟩ := List.getElem?_of_mem hb
  have hil : i < ls.length := by rw [t.len, ← h3]; exact (List.getElem?_eq_some_iff.mp hi).1
  obtain ⟨dy, hy⟩ := (h4 i b _ hi (List.getElem?_eq_getElem hil)).ob
  rw [hy]; exact fun z => by cases z
theorem Fr.trans2 {F F' : Addr → Prop} {H H1 H2 : Hp} (a : Fr F H H1) (b : Fr F' H1 H2) (h : ∀ x, F' x → F x ∨ H x = none) : Fr F H H2 :=
  ⟨fun x o e n s => b.keep x o (a.keep x o e n s) n fun z => (h x z).elim s fun z => (by rw [e] at z; cases z), fun P t => b.tab P (a.tab P t), fun x e => a.back x (b.back x e)⟩
def sp_Town_houses (T : Tx K mg base) : Sp := fun vs H Q _ => ∃ (A : TA) (F : Addr → Prop) (m : TM), vs = [.ref A.t] ∧ TownAt T H A F m ∧ m.houses.length < 64 ∧ m.houses.Nodup ∧ ∀ p, H p = none → Q (.ref p) (upd H p (.lst ((sortU m.houses).map nV)))
theorem wc_Town_houses (t : TownAt T H A F m) (hz : m.houses.length < 64) (nd : m.houses.Nodup) (h : ∀ p, H p = none → Q (.ref p) (upd H p (.lst ((sortU m.houses).map nV)))) : sp_Town_houses T [.ref A.t] H Q E := ⟨A, F, m, rfl, t, hz, nd, h⟩
theorem x_sortDN {H : Hp} {Q : VK} {a : Addr} {hs : List Nat} {f : Nat → V} (hd : Rd H a (.dK (dOf hs f))) (hz : hs.length < 64) (nd : hs.Nodup) (h : ∀ p, H p = none → Q (.ref p) (upd H p (.lst ((sortU hs).map nV)))) : rSortDI [.ref a] H Q := by
  refine ⟨a, _, hs.map fun n : Nat => (n : Int), rfl, hd, dOf_keys, by rw [List.length_map]; exact hz, fun ys p hperm hsort hp => ?_⟩
  obtain ⟨zs, rfl⟩ : ∃ zs : List Nat, ys = zs.map fun n : Nat => (n : Int) := by
    refine ⟨ys.map Int.toNat, ?_⟩
    rw [List.map_map]
    refine (List.map_id ys).symm.trans (List.map_congr_left fun y hy => ?_)
    obtain ⟨n, _, rfl⟩ := List.mem_map.mp (hperm.mem_iff.mp hy)
    simp
  have hzs : zs = sortU hs := by
    have hmem : ∀ z, z ∈ zs ↔ z ∈ hs := fun z => by
      rw [← mem_cast (l := zs), ← mem_cast (l := hs)]
      exact hperm.mem_iff
    refine rising_eq ?_ (sortU_sorted _) fun z => by rw [hmem, mem_sortU]
    have nz : zs.Nodup := by
      have q : (zs.map fun n : Nat => (n : Int)).Nodup := hperm.nodup_iff.mpr (List.Pairwise.map _ (fun a b h e => h (Int.ofNat.inj e)) nd)
      exact (List.pairwise_map.mp q).imp fun h e => h (by rw [e])
    have le : zs.Pairwise (· ≤ ·) := (List.pairwise_map.mp hsort).imp fun h => by omega
    exact (nz.and le).imp fun h => by omega
  rw [hzs, ← map_nV]
  exact h p hp
theorem ok_Town_houses (T : Tx K mg base) : FnOk P w K mg base CX0 1 T.a_Town_houses T.d_Town_houses ["self"] (sp_Town_houses T) := by
  refine T.F_Town_houses.okD sc_Town_houses (fun vs H Q E h => ?_) (fun cdv A outer s H vs Q E hr h => ?_)
  · obtain ⟨A, F, m, rfl, _⟩ := h; rfl
  · obtain ⟨A1, F, m, rfl, t, hz, nd, q⟩ := h
    obtain ⟨dx, ob⟩ := t.tw.ob
    have c_Bucket := T.c_Bucket; have n_Bucket_room := T.n_Bucket_room; have n_Bucket_line := T.n_Bucket_line; have c_Table := T.c_Table; have n_Table_own := T.n_Table_own; have n_Table_wide := T.n_Table_wide; have n_Table_room := T.n_Table_room; have n_Table_buckets := T.n_Table_buckets; have c_Town := T.c_Town; have n_Town_wide := T.n_Town_wide; have n_Town_room := T.n_Town_room; have n_Town_tables := T.n_Town_tables; have n_Town_hushed := T.n_Town_hushed; have n_Town_shelves := T.n_Town_shelves; have n_Town_layings := T.n_Town_layings
    refine ⟨_, (pss_one (ps_ret (pe_callB (cb_sortD rfl) (by rfl) T.z_sorted (by decide +kernel) (pa_cons (pe_fld (pv 0) rfl) pa_nil)))), ?_⟩
    rw [Nn.st_Town_houses]; try rw [Nn.cxK]
    try rw [Nn.cxW]
    walk_at "wx"
    exact x_sortDN (.inl t.tw.tb) hz nd q
theorem TM.aw_eq {m : TM} : awB m.houses m.hush = m.aw := rfl
theorem TwAt.ans {T : Tx K mg base} {n : Nat} {i : Int} (hi : i = n) (t : TownAt T H A F m) (h : Q (.bl (m.aw n)) H) : sp_Town_answers T [.ref A.t, .int i] H Q E := wc_Town_answers hi t.tw h
def sp_Town_answering (T : Tx K mg base) : Sp := fun vs H Q _ => ∃ (A : TA) (F : Addr → Prop) (m : TM), vs = [.ref A.t] ∧ TownAt T H A F m ∧ m.houses.length < 64 ∧ m.houses.Nodup ∧ ∀ p H', H p = none → Ex H H' → H' p = some (.lst (m.live.map nV)) → Q (.ref p) H'
theorem wc_Town_answering (t : TownAt T H A F m) (hz : m.houses.length < 64) (nd : m.houses.Nodup) (h : ∀ p H', H p = none → Ex H H' → H' p = some (.lst (m.live.map nV)) → Q (.ref p) H') : sp_Town_answering T [.ref A.t] H Q E := ⟨A, F, m, rfl, t, hz, nd, h⟩
theorem ok_Town_answering (T : Tx K mg base) : FnOk P w K mg base CX0 2 T.a_Town_answering T.d_Town_answering ["self"] (sp_Town_answering T) := by
  refine T.F_Town_answering.okD sc_Town_answering (fun vs H Q E h => ?_) (fun cdv A outer s H vs Q E hr h => ?_)
  · obtain ⟨A, F, m, rfl, _⟩ := h; rfl
  · obtain ⟨A1, F, m, rfl, t, hz, nd, q⟩ := h
    obtain ⟨dx, ob⟩ := t.tw.ob
    have c_Bucket := T.c_Bucket; have n_Bucket_room := T.n_Bucket_room; have n_Bucket_line := T.n_Bucket_line; have c_Table := T.c_Table; have n_Table_own := T.n_Table_own; have n_Table_wide := T.n_Table_wide; have n_Table_room := T.n_Table_room; have n_Table_buckets := T.n_Table_buckets; have c_Town := T.c_Town; have n_Town_wide := T.n_Town_wide; have n_Town_room := T.n_Town_room; have n_Town_tables := T.n_Town_tables; have n_Town_hushed := T.n_Town_hushed; have n_Town_shelves := T.n_Town_shelves; have n_Town_layings := T.n_Town_layings
    refine ⟨_, (pss_one (ps_ret (pe_lc (own := [("house", 1)]) (g := (gName 1)) (by rfl) sc_Town_answering.nd (pi_list (pe_meth0 (pv 0) T.c_Town T.t_Town_houses (ok_Town_houses T) hr T.b_Town_houses .nil pass0)) (blkOk_by (N := N_Town_answering) (sc := defScope s_Town_answering) (own := [("house", 1)]) (by decide +kernel)) (fun _ _ _ _ _ => (pg_name (i := 1) sc_Town_answering.nd rfl (Or.inl rfl))) (fun _ _ _ _ _ => pts_one ((pt_val (pe_meth (pv 0) T.c_Town T.t_Town_answers (ok_Town_answers T) hr T.b_Town_answers .nil pass0 (pa_cons (pv 1) pa_nil))))) (fun _ _ _ _ _ => (pv 1))))), ?_⟩
    rw [Nn.st_Town_answering]; try rw [Nn.cxK]
    try rw [Nn.cxW]
    walk_at "wx"
    refine wc_Town_houses t hz nd fun p hp => ?_
    have hl : (sortU m.houses).length < 64 := Nat.lt_of_le_of_lt (nodup_len (rising_nodup (sortU_sorted _)) fun z hz => mem_sortU.mp hz) hz
    walk_at "wx"
    refine LcW.filt (emb := nV) (xs := sortU m.houses) m.aw (SqL.of upd_same) (by rw [sizeLine_eq]; omega) (fun n _ H2 ex2 R hR => ?_) (fun n _ _ H2 ex2 Qe hQ => ?_) fun D H2 hD ex2 hD2 => ?_
    · have t2 := t.ex' ((Ex.new hp).trans ex2)
      obtain ⟨dx2, ob2⟩ := t2.tw.ob
      walk_at "wx"
      refine TwAt.ans rfl t2 ?_
      walk_at "wx"
      exact hR _ Ex.refl
    · walk_at "wx"
      exact hQ
    · exact q D H2 (upd_back hD) ((Ex.new hp).trans ex2) hD2
def sp_Town_table (T : Tx K mg base) : Sp := fun vs H Q _ => ∃ (A : TA) (F : Addr → Prop) (m : TM) (h : Nat), vs = [.ref A.t, .int h] ∧ TownAt T H A F m ∧ m.wide ≤ 60 ∧ h < 2 ^ m.wide ∧ h ∈ m.houses ∧ Q (.ref (A.pa h)) H
theorem wc_Town_table {h : Nat} {i : Int} (hi : i = h) (t : TownAt T H A F m) (w1 : m.wide ≤ 60) (hb : h < 2 ^ m.wide) (hm : h ∈ m.houses) (q : Q (.ref (A.pa h)) H) : sp_Town_table T [.ref A.t, .int i] H Q E := by
  subst hi; exact ⟨A, F, m, h, rfl, t, w1, hb, hm, q⟩
theorem ok_Town_table (T : Tx K mg base) : FnOk P w K mg base CX0 2 T.a_Town_table T.d_Town_table ["self", "house"] (sp_Town_table T) := by
  refine T.F_Town_table.okD sc_Town_table (fun vs H Q E h => ?_) (fun cdv A outer s H vs Q E hr h => ?_)
  · obtain ⟨A, F, m, n, rfl, _⟩ := h; rfl
  · obtain ⟨A1, F, m, n, rfl, t, w1, hb, hm, q⟩ := h
    obtain ⟨dx, ob⟩ := t.tw.ob
    have tb := t.tw.tb
    have hu := hu_of hr
    have e1 : (valV (dOf m.houses fun h => .ref (A1.pa h)) (Sum.inl (n : Int))).isSome = decide (n ∈ m.houses) := dOf_has
    have e2 : valV (dOf m.houses fun h => .ref (A1.pa h)) (Sum.inl (n : Int)) = some (.ref (A1.pa n)) := by
      have q := dOf_val (f := fun h => V.ref (A1.pa h)) (n := n) (hs := m.houses)
      rw [if_pos hm] at q; exact q
    have c_Bucket := T.c_Bucket; have n_Bucket_room := T.n_Bucket_room; have n_Bucket_line := T.n_Bucket_line; have c_Table := T.c_Table; have n_Table_own := T.n_Table_own; have n_Table_wide := T.n_Table_wide; have n_Table_room := T.n_Table_room; have n_Table_buckets := T.n_Table_buckets; have c_Town := T.c_Town; have n_Town_wide := T.n_Town_wide; have n_Town_room := T.n_Town_room; have n_Town_tables := T.n_Town_tables; have n_Town_hushed := T.n_Town_hushed; have n_Town_shelves := T.n_Town_shelves; have n_Town_layings := T.n_Town_layings
    refine ⟨_, (pss_cons (ps_if (PW.pt (pw_or (pt_not (pt_val (pe_call (ok_is_name T) hr rfl T.m_is_name T.F_is_name.kp T.b_is_name .nil pass0 (pa_cons (pv 1) (pa_cons (pe_fld (pv 0) rfl) pa_nil))))) (pw_or1 (pt_cmp (pc_dnotin hu (pv 1) (pe_fld (pv 0) rfl))))))
      (pss_one ps_dead)
      pss_nil)
      (pss_one (ps_ret (pe_dget hu (pe_fld (pv 0) rfl) (pv 1) (fun _ _ => rfl))))), ?_⟩
    rw [Nn.st_Town_table]; try rw [Nn.cxK]
    try rw [Nn.cxW]
    walk_at "wx"
    rw [decide_eq_true hb]
    walk_at "wx"
    rw [e1, decide_eq_true hm]
    walk_at "wx"
    exact q
def sp_Town_look_awake (T : Tx K mg base) : Sp := fun vs H Q _ => ∃ (A : TA) (F : Addr → Prop) (m : TM) (h : Nat), vs = [.ref A.t, .int h] ∧ TownAt T H A F m ∧ m.wide ≤ 60 ∧ h < 2 ^ m.wide ∧ m.aw h = true ∧ Q .non H
theorem wc_Town_look_awake {h : Nat} {i : Int} (hi : i = h) (t : TownAt T H A F m) (w1 : m.wide ≤ 60) (hb : h < 2 ^ m.wide) (hm : m.aw h = true) (q : Q .non H) : sp_Town_look_awake T [.ref A.t, .int i] H Q E := by
  subst hi; exact ⟨A, F, m, h, rfl, t, w1, hb, hm, q⟩
theorem ok_Town_look_awake (T : Tx K mg base) : FnOk P w K mg base CX0 3 T.a_Town_look_awake T.d_Town_look_awake ["self", "house"] (sp_Town_look_awake T) := by
  refine T.F_Town_look_awake.okD sc_Town_look_awake (fun vs H Q E h => ?_) (fun cdv A outer s H vs Q E hr h => ?_)
  · obtain ⟨A, F, m, n, rfl, _⟩ := h; rfl
  · obtain ⟨A1, F, m, n, rfl, t, w1, hb, hm, q⟩ := h
    obtain ⟨dx, ob⟩ := t.tw.ob
    have hbd := t.tw.hb
    have hu := hu_of hr
    have e1 : (valV (dOf m.hush fun _ => .bl true) (Sum.inl (n : Int))).isSome = decide (n ∈ m.hush) := dOf_has
    have hm2 : n ∉ m.hush := fun z => by
      unfold TM.aw at hm
      rw [decide_eq_true z] at hm
      simp at hm
    have c_Bucket := T.c_Bucket; have n_Bucket_room := T.n_Bucket_room; have n_Bucket_line := T.n_Bucket_line; have c_Table := T.c_Table; have n_Table_own := T.n_Table_own; have n_Table_wide := T.n_Table_wide; have n_Table_room := T.n_Table_room; have n_Table_buckets := T.n_Table_buckets; have c_Town := T.c_Town; have n_Town_wide := T.n_Town_wide; have n_Town_room := T.n_Town_room; have n_Town_tables := T.n_Town_tables; have n_Town_hushed := T.n_Town_hushed; have n_Town_shelves := T.n_Town_shelves; have n_Town_layings := T.n_Town_layings
    refine ⟨_, (pss_cons (ps_expr (pe_meth (pv 0) T.c_Town T.t_Town_table (ok_Town_table T) hr T.b_Town_table .nil pass0 (pa_cons (pv 1) pa_nil)))
      (pss_one (ps_if (pt_cmp (pc_din hu (pv 1) (pe_fld (pv 0) rfl)))
      (pss_one ps_dead)
      pss_nil))), ?_⟩
    rw [Nn.st_Town_look_awake]; try rw [Nn.cxK]
    try rw [Nn.cxW]
    walk_at "wx"
    refine wc_Town_table rfl t w1 hb (TM.aw_house hm) ?_
    walk_at "wx"
    rw [e1, decide_eq_false hm2]
    walk_at "wx"
    exact q
def sp_Town_look_named (T : Tx K mg base) : Sp := fun vs H Q _ => ∃ (A : TA) (F : Addr → Prop) (m : TM) (h : Nat), vs = [.ref A.t, .int h] ∧ TownAt T H A F m ∧ m.wide ≤ 60 ∧ h < 2 ^ m.wide ∧ Q .non H
theorem wc_Town_look_named {h : Nat} {i : Int} (hi : i = h) (t : TownAt T H A F m) (w1 : m.wide ≤ 60) (hb : h < 2 ^ m.wide) (q : Q .non H) : sp_Town_look_named T [.ref A.t, .int i] H Q E := by
  subst hi; exact ⟨A, F, m, h, rfl, t, w1, hb, q⟩
theorem ok_Town_look_named (T : Tx K mg base) : FnOk P w K mg base CX0 2 T.a_Town_look_named T.d_Town_look_named ["self", "name"] (sp_Town_look_named T) := by
  refine T.F_Town_look_named.okD sc_Town_look_named (fun vs H Q E h => ?_) (fun cdv A outer s H vs Q E hr h => ?_)
  · obtain ⟨A, F, m, n, rfl, _⟩ := h; rfl
  · obtain ⟨A1, F, m, n, rfl, t, w1, hb, q⟩ := h
    obtain ⟨dx, ob⟩ := t.tw.ob
    have c_Bucket := T.c_Bucket; have n_Bucket_room := T.n_Bucket_room; have n_Bucket_line := T.n_Bucket_line; have c_Table := T.c_Table; have n_Table_own := T.n_Table_own; have n_Table_wide := T.n_Table_wide; have n_Table_room := T.n_Table_room; have n_Table_buckets := T.n_Table_buckets; have c_Town := T.c_Town; have n_Town_wide := T.n_Town_wide; have n_Town_room := T.n_Town_room; have n_Town_tables := T.n_Town_tables; have n_Town_hushed := T.n_Town_hushed; have n_Town_shelves := T.n_Town_shelves; have n_Town_layings := T.n_Town_layings
    refine ⟨_, (pss_one (ps_if (pt_not (pt_val (pe_call (ok_is_name T) hr rfl T.m_is_name T.F_is_name.kp T.b_is_name .nil pass0 (pa_cons (pv 1) (pa_cons (pe_fld (pv 0) rfl) pa_nil)))))
      (pss_one ps_dead)
      pss_nil)), ?_⟩
    rw [Nn.st_Town_look_named]; try rw [Nn.cxK]
    try rw [Nn.cxW]
    walk_at "wx"
    rw [decide_eq_true hb]
    walk_at "wx"
    exact q
def sp_Town_bucket (T : Tx K mg base) : Sp := fun vs H Q _ => ∃ (A : TA) (F : Addr → Prop) (m : TM) (h k : Nat), vs = [.ref A.t, .int h, .int k] ∧ TownAt T H A F m ∧ m.wide ≤ 60 ∧ h < 2 ^ m.wide ∧ h ∈ m.houses ∧ k < m.wide ∧ ∀ p, H p = none → Q (.ref p) (upd H p (.lst (((m.tab h).getD k []).map nV)))
theorem wc_Town_bucket {h k : Nat} {i j : Int} (hi : i = h) (hj : j = k) (t : TownAt T H A F m) (w1 : m.wide ≤ 60) (hb : h < 2 ^ m.wide) (hm : h ∈ m.houses) (hk : k < m.wide) (q : ∀ p, H p = none → Q (.ref p) (upd H p (.lst (((m.tab h).getD k []).map nV)))) : sp_Town_bucket T [.ref A.t, .int i, .int j] H Q E := by
  subst hi hj; exact ⟨A, F, m, h, k, rfl, t, w1, hb, hm, hk, q⟩
theorem ok_Town_bucket (T : Tx K mg base) : FnOk P w K mg base CX0 3 T.a_Town_bucket T.d_Town_bucket ["self", "house", "k"] (sp_Town_bucket T) := by
  refine T.F_Town_bucket.okD sc_Town_bucket (fun vs H Q E h => ?_) (fun cdv A outer s H vs Q E hr h => ?_)
  · obtain ⟨A, F, m, n, k, rfl, _⟩ := h; rfl
  · obtain ⟨A1, F, m, n, k, rfl, t, w1, hb, hm, hk, q⟩ := h
    obtain ⟨dx, ob⟩ := t.tw.ob
    obtain ⟨t1, t2⟩ := t.tab n hm
    obtain ⟨dx1, bl1, bs1, hob1, _⟩ := t1.ob
    have c_Bucket := T.c_Bucket; have n_Bucket_room := T.n_Bucket_room; have n_Bucket_line := T.n_Bucket_line; have c_Table := T.c_Table; have n_Table_own := T.n_Table_own; have n_Table_wide := T.n_Table_wide; have n_Table_room := T.n_Table_room; have n_Table_buckets := T.n_Table_buckets; have c_Town := T.c_Town; have n_Town_wide := T.n_Town_wide; have n_Town_room := T.n_Town_room; have n_Town_tables := T.n_Town_tables; have n_Town_hushed := T.n_Town_hushed; have n_Town_shelves := T.n_Town_shelves; have n_Town_layings := T.n_Town_layings
    refine ⟨_, (pss_one (ps_ret (pe_meth (pe_meth (pv 0) T.c_Town T.t_Town_table (ok_Town_table T) hr T.b_Town_table .nil pass0 (pa_cons (pv 1) pa_nil)) T.c_Table T.t_Table_bucket (ok_Table_bucket T) hr T.b_Table_bucket .nil pass0 (pa_cons (pv 2) pa_nil)))), ?_⟩
    rw [Nn.st_Town_bucket]; try rw [Nn.cxK]
    try rw [Nn.cxW]
    walk_at "wx"
    refine wc_Town_table rfl t w1 hb hm ?_
    walk_at "wx"
    exact wc_Table_bucket t1 t2 hk q
def sp_Town_keeps (T : Tx K mg base) : Sp := fun vs H Q _ => ∃ (A : TA) (F : Addr → Prop) (m : TM) (h : Nat), vs = [.ref A.t, .int h] ∧ TownAt T H A F m ∧ m.wide ≤ 60 ∧ h < 2 ^ m.wide ∧ h ∈ m.houses ∧ (m.tab h).flatten.Nodup ∧ (m.tab h).flatten.length ≤ 100000 ∧ ∀ p H', H p = none → Ex H H' → H' p = some (.lst ((m.keeps h).map nV)) → Q (.ref p) H'
theorem wc_Town_keeps {h : Nat} {i : Int} (hi : i = h) (t : TownAt T H A F m) (w1 : m.wide ≤ 60) (hb : h < 2 ^ m.wide) (hm : h ∈ m.houses) (nd : (m.tab h).flatten.Nodup) (hz : (m.tab h).flatten.length ≤ 100000) (q : ∀ p H', H p = none → Ex H H' → H' p = some (.lst ((m.keeps h).map nV)) → Q (.ref p) H') : sp_Town_keeps T [.ref A.t, .int i] H Q E := by
  subst hi; exact ⟨A, F, m, h, rfl, t, w1, hb, hm, nd, hz, q⟩
theorem ok_Town_keeps (T : Tx K mg base) : FnOk P w K mg base CX0 3 T.a_Town_keeps T.d_Town_keeps ["self", "house"] (sp_Town_keeps T) := by
  refine T.F_Town_keeps.okD sc_Town_keeps (fun vs H Q E h => ?_) (fun cdv A outer s H vs Q E hr h => ?_)
  · obtain ⟨A, F, m, n, rfl, _⟩ := h; rfl
  · obtain ⟨A1, F, m, n, rfl, t, w1, hb, hm, nd, hz, q⟩ := h
    obtain ⟨dx, ob⟩ := t.tw.ob
    obtain ⟨t1, t2⟩ := t.tab n hm
    obtain ⟨dx1, bl1, bs1, hob1, _⟩ := t1.ob
    have c_Bucket := T.c_Bucket; have n_Bucket_room := T.n_Bucket_room; have n_Bucket_line := T.n_Bucket_line; have c_Table := T.c_Table; have n_Table_own := T.n_Table_own; have n_Table_wide := T.n_Table_wide; have n_Table_room := T.n_Table_room; have n_Table_buckets := T.n_Table_buckets; have c_Town := T.c_Town; have n_Town_wide := T.n_Town_wide; have n_Town_room := T.n_Town_room; have n_Town_tables := T.n_Town_tables; have n_Town_hushed := T.n_Town_hushed; have n_Town_shelves := T.n_Town_shelves; have n_Town_layings := T.n_Town_layings
    refine ⟨_, (pss_one (ps_ret (pe_meth0 (pe_meth (pv 0) T.c_Town T.t_Town_table (ok_Town_table T) hr T.b_Town_table .nil pass0 (pa_cons (pv 1) pa_nil)) T.c_Table T.t_Table_keeps (ok_Table_keeps T) hr T.b_Table_keeps .nil pass0))), ?_⟩
    rw [Nn.st_Town_keeps]; try rw [Nn.cxK]
    try rw [Nn.cxW]
    walk_at "wx"
    refine wc_Town_table rfl t w1 hb hm ?_
    walk_at "wx"
    exact wc_Table_keeps t1 t2 nd hz q
def sp_Town_hears (T : Tx K mg base) : Sp := fun vs H Q _ => ∃ (A : TA) (F : Addr → Prop) (m : TM) (N : List Nat) (h n : Nat), vs = [.ref A.t, .int h, .int n] ∧ TownAt T H A F m ∧ m.Ok N ∧ h ∈ m.houses ∧ n ∈ N ∧ NdefX.TabsN (tabsL T) H ∧ ∀ z H', Fr F H H' → TownAt T H' A F (m.hears h n) → Q (.str z) H'
theorem wc_Town_hears {N : List Nat} {h n : Nat} {i j : Int} (hi : i = h) (hj : j = n) (t : TownAt T H A F m) (k : m.Ok N) (hm : h ∈ m.houses) (hn : n ∈ N) (tb : NdefX.TabsN (tabsL T) H) (q : ∀ z H', Fr F H H' → TownAt T H' A F (m.hears h n) → Q (.str z) H') : sp_Town_hears T [.ref A.t, .int i, .int j] H Q E := by
  subst hi hj; exact ⟨A, F, m, N, h, n, rfl, t, k, hm, hn, tb, q⟩
theorem ok_Town_hears (T : Tx K mg base) : FnOk P w K mg base CX0 5 T.a_Town_hears T.d_Town_hears ["self", "house", "name"] (sp_Town_hears T) := by
  refine T.FC_Town_hears.okC sc_Town_hears (fun vs H Q E h => ?_) (fun A outer s H vs Q E hr h => ?_)
  · obtain ⟨A, F, m, N, h0, n, rfl, _⟩ := h; rfl
  · obtain ⟨A1, F, m, N, h0, n, rfl, t, k, hm, hn, hT, q⟩ := h
    obtain ⟨dx, ob⟩ := t.tw.ob
    have hu := hu_of hr
    have c_Bucket := T.c_Bucket; have n_Bucket_room := T.n_Bucket_room; have n_Bucket_line := T.n_Bucket_line; have c_Table := T.c_Table; have n_Table_own := T.n_Table_own; have n_Table_wide := T.n_Table_wide; have n_Table_room := T.n_Table_room; have n_Table_buckets := T.n_Table_buckets; have c_Town := T.c_Town; have n_Town_wide := T.n_Town_wide; have n_Town_room := T.n_Town_room; have n_Town_tables := T.n_Town_tables; have n_Town_hushed := T.n_Town_hushed; have n_Town_shelves := T.n_Town_shelves; have n_Town_layings := T.n_Town_layings
    refine ⟨_, (pss_cons (ps_ndefA (st := s_Town_hears_answers) (i := 3) rfl T.tb_Town_hears rfl nm_Town_hears_answers (NdefX.ndef_free ndB_Town_hears_answers) rfl rfl rfl sc_Town_hears.nd rfl (Or.inl rfl) (.inl rfl))
      (pss_one (ps_ret (pe_methC (pe_dget hu (pe_fld (pv 0) rfl) (pv 1) (fun _ _ => rfl)) T.c_Table T.t_Table_hears (fun ws => ok_Table_hears T ws) (Prov.own (js := [0]) fun ok => NdefX.Caps.made ok (NdefX.ndef_free ndB_Town_hears_answers) (NdefX.ndef_fr ndB_Town_hears_answers) rfl) hr T.b_Table_hears .nil pass0 (pa_cons (pv 2) (pa_cons (pv 3) pa_nil)))))), ?_⟩
    rw [Nn.st_Town_hears]; try rw [Nn.cxK]
    try rw [Nn.cxW]
    walk_at "wx"
    refine ⟨hT _ tabm_Town_hears, fun f cd H1 ex1 hf0 hf hcd => ?_⟩
    generalize L2.cloFrom _ _ _ = cl at hf hcd ⊢
    have hf : H1 f = some (NdefX.FnO f (nf_Town_hears_answers cl cd)) := hf
    have hcd : H1 cd = some (LamX.CodeO cd (nf_Town_hears_answers cl cd).qual) := hcd
    have t1 := t.ex' ex1
    have td1 := t1.tw.tb
    obtain ⟨dx1, ob1⟩ := t1.tw.ob
    obtain ⟨ta1, L1⟩ := t1.tab h0 hm
    obtain ⟨dxt, bl, bs, hobt, _⟩ := ta1.ob
    have e2 : valV (dOf m.houses fun h => .ref (A1.pa h)) (Sum.inl (h0 : Int)) = some (.ref (A1.pa h0)) := by
      have q := dOf_val (f := fun h => V.ref (A1.pa h)) (n := h0) (hs := m.houses)
      rw [if_pos hm] at q; exact q
    have k0 := k.tabOk hm
    walk_at "wx"
    refine wc_Table_hears (A := ⟨A1.t, A1.td, A1.hd, A1.x, m.wide, m.room, m.houses, A1.pa, m.hush, cl, cd⟩) rfl rfl ta1 L1 (k.nb _ (k.hN _ hm)) (k.nb _ hn) (fun ys hy => Nat.le_trans (k0.row ys hy) (Nat.le_trans k.r1 (by decide))) ⟨hf, hcd, t1.tw⟩ (fun _ _ z => z) fun H2 fr2 L2 _ => ?_
    have fr2 : Fr (fun a => a ∈ A1.la h0 ∨ False) H1 H2 := fr2
    have fr2' := fr2.mono (S' := fun a => a ∈ A1.la h0) fun a z => z.elim id False.elim
    exact q _ _ ((ex1.fr (S := F)).trans (fr2'.mono fun a z => (t.own h0 hm).2.2 a z)) (t1.line fr2' (fun a z => z) hm L2)
end
end Nn
/-! towns: come_to, visit, come -/
namespace Nn
open PySem L2
section
variable {P : Program} {w : World} {K : PySem.W.Frag} {mg : Str → Option Value} {base : Heap} {H H' : Hp} {Q : VK} {E : XK} {T : Tx K mg base} {A : TA} {F S : Addr → Prop} {m : TM}
theorem TM.Ok.bd {N : List Nat} (k : m.Ok N) {h : Nat} (hm : h ∈ m.houses) : h < 2 ^ m.wide := k.nb _ (k.hN _ hm)
def sp_Town_come_to (T : Tx K mg base) : Sp := fun vs H Q _ => ∃ (A : TA) (F : Addr → Prop) (m : TM) (N : List Nat) (h : Nat), vs = [.ref A.t, .int h] ∧ TownAt T H A F m ∧ m.Ok N ∧ m.aw h = true ∧ ∀ p H', H p = none → Ex H H' → H' p = some (.lst ((m.comeTo h).map nV)) → Q (.ref p) H'
theorem wc_Town_come_to {N : List Nat} {h : Nat} {i : Int} (hi : i = h) (t : TownAt T H A F m) (k : m.Ok N) (hm : m.aw h = true) (q : ∀ p H', H p = none → Ex H H' → H' p = some (.lst ((m.comeTo h).map nV)) → Q (.ref p) H') : sp_Town_come_to T [.ref A.t, .int i] H Q E := by
  subst hi; exact ⟨A, F, m, N, h, rfl, t, k, hm, q⟩
theorem ok_Town_come_to (T : Tx K mg base) : FnOk P w K mg base CX0 4 T.a_Town_come_to T.d_Town_come_to ["self", "house"] (sp_Town_come_to T) := by
  refine T.F_Town_come_to.okD sc_Town_come_to (fun vs H Q E h => ?_) (fun cdv A outer s H vs Q E hr h => ?_)
  · obtain ⟨A, F, m, N, h0, rfl, _⟩ := h; rfl
  · obtain ⟨A1, F, m, N, h0, rfl, t, k, haw, q⟩ := h
    obtain ⟨dx, ob⟩ := t.tw.ob
    have hu := hu_of hr
    have hm0 := TM.aw_house haw
    have hz := k.houses_len
    have fl : ∀ {l : List Nat}, l.Nodup → (∀ x ∈ l, m.Reach h0 x) → l.length < 64 := fun nd hr => Nat.lt_of_le_of_lt (nodup_len nd fun x hx => (hr x hx).house hm0) hz
    have c_Bucket := T.c_Bucket; have n_Bucket_room := T.n_Bucket_room; have n_Bucket_line := T.n_Bucket_line; have c_Table := T.c_Table; have n_Table_own := T.n_Table_own; have n_Table_wide := T.n_Table_wide; have n_Table_room := T.n_Table_room; have n_Table_buckets := T.n_Table_buckets; have c_Town := T.c_Town; have n_Town_wide := T.n_Town_wide; have n_Town_room := T.n_Town_room; have n_Town_tables := T.n_Town_tables; have n_Town_hushed := T.n_Town_hushed; have n_Town_shelves := T.n_Town_shelves; have n_Town_layings := T.n_Town_layings
    refine ⟨_, (pss_cons (ps_expr (pe_meth (pv 0) T.c_Town T.t_Town_look_awake (ok_Town_look_awake T) hr T.b_Town_look_awake .nil pass0 (pa_cons (pv 1) pa_nil)))
      (pss_cons (ps_set (i := 2) sc_Town_come_to.nd rfl (Or.inl rfl) (pe_lst (pa_cons (pv 1) pa_nil)))
      (pss_cons (ps_set (i := 3) sc_Town_come_to.nd rfl (Or.inl rfl) pe_int)
      (pss_cons (ps_while PassesOwn.never (pt_cmpR op_lt (pv 3) (pe_callB cb_len (by rfl) T.z_len PySem.boot_len (pa_cons (pv 2) pa_nil)) (nomark _))
      (pss_cons (ps_for PassesOwn.never rfl (pi_list (pe_meth0 (pe_dget hu (pe_fld (pv 0) rfl) (pe_ix ix_list (pv 2) (pv 3) (fun _ _ => rfl)) (fun _ _ => rfl)) T.c_Table T.t_Table_keeps (ok_Table_keeps T) (hr.mono (by decide)) T.b_Table_keeps .nil pass0)) (pg_name (i := 4) sc_Town_come_to.nd rfl (Or.inl rfl))
      (pss_one (ps_if (PW.pt (pw_and (pt_val (pe_meth (pv 0) T.c_Town T.t_Town_answers (ok_Town_answers T) (hr.mono (by decide)) T.b_Town_answers .nil pass0 (pa_cons (pv 4) pa_nil))) (pw_and1 (pt_cmpR op_notIn_seq (pv 4) (pv 2) rfl))))
      (pss_one (ps_expr (pe_bm PySem.F.plainAttrs_list PySem.F.slot_list_append PySem.F.type_list_append mt_append (pv 2) (pa_cons (pv 4) pa_nil))))
      pss_nil)))
      (pss_one (ps_aug (i := 3) sc_Town_come_to.nd rfl (Or.inl rfl) pe_int ip_add))))
      (pss_one (ps_ret (pe_callB cr_sortedI (by rfl) T.z_sorted (by decide +kernel) (pa_cons (pv 2) pa_nil)))))))), ?_⟩
    rw [Nn.st_Town_come_to]; try rw [Nn.cxK]
    try rw [Nn.cxW]
    walk_at "wx"
    refine wc_Town_look_awake rfl t k.w1 (k.bd hm0) haw ?_
    walk_at "wx"
    refine ⟨len_ok rfl, fun d hd => ?_⟩
    walk_at "wx"
    refine x_while (m := 64) (W := fun mm σ H' => ∃ (found : List Nat) (j : Nat) (v : Option V), σ = [some (.ref A1.t), some (.int h0), some (.ref d), some (.int j), v] ∧ Ex H H' ∧ H' d = some (.lst (found.map nV)) ∧ found.Nodup ∧ h0 ∈ found ∧ (∀ x ∈ found, m.Reach h0 x) ∧
        (∀ i, i < j → ∀ x, found[i]? = some x → ∀ z ∈ (m.tab x).flatten, m.aw z = true → z ∈ found) ∧ j ≤ found.length ∧ j + mm = 64)
      ⟨[h0], 0, none, rfl, Ex.new hd, upd_same, by simp, by simp, fun x hx => by rw [List.mem_singleton.mp hx]; exact .self, fun i hi => absurd hi (Nat.not_lt_zero _), Nat.zero_le _, rfl⟩ ?_
    rintro mm σ H1 ⟨found, j, v, rfl, ex1, h1, nd, h0m, hre, hcl, hj, hmm⟩
    have hfl := fl nd hre
    walk_at "wx"
    refine x_whD (fun hlt => ?_) fun hge => ?_
    · rw [List.length_map] at hlt
      have hjl : j < found.length := by omega
      have t1 := t.ex' ex1
      have hy := hre _ (List.getElem_mem hjl)
      have hym := hy.house hm0
      obtain ⟨dx1, ob1⟩ := t1.tw.ob
      have td1 := t1.tw.tb
      obtain ⟨ta1, L1⟩ := t1.tab _ hym
      obtain ⟨dxt, bl, bs, hobt, _⟩ := ta1.ob
      have e2 : valV (dOf m.houses fun h => .ref (A1.pa h)) (Sum.inl (found[j] : Int)) = some (.ref (A1.pa found[j])) := by
        have q := dOf_val (f := fun h => V.ref (A1.pa h)) (n := found[j]) (hs := m.houses)
        rw [if_pos hym] at q; exact q
      have k0 := k.tabOk hym
      walk_at "wx"
      refine x_ixL (SqL.of h1) (atI_nV hjl) ?_
      walk_at "wx"
      refine wc_Table_keeps ta1 L1 k0.nodup (by have := k.keeps_len hym; omega) fun p2 H2 hp2 ex2 h2 => ?_
      have ex02 := ex1.trans ex2
      have hd2 := ex2.at h1
      walk_at "wx"
      refine ForW.by walk_list (fun i σ H' => ∃ (fd : List Nat) (v : Option V), σ = [some (.ref A1.t), some (.int h0), some (.ref d), some (.int j), v] ∧ Ex H H' ∧ H' d = some (.lst (fd.map nV)) ∧ H' p2 = some (.lst ((m.keeps found[j]).map nV)) ∧ fd.Nodup ∧ found <+: fd ∧ (∀ x ∈ fd, m.Reach h0 x) ∧
          (∀ z ∈ (m.keeps found[j]).take i, m.aw z = true → z ∈ fd))
        ⟨found, _, rfl, ex02, hd2, h2, nd, List.prefix_refl _, hre, by simp⟩ (fun i σ H' _ ⟨_, _, _, _, _, e, _⟩ => SqL.of e) ?_ ?_
      · rintro i x σ _ H3 hi ⟨fd, v, rfl, ex3, hd3, hp3, nd3, pre3, hre3, hz3⟩ ⟨rfl, hx⟩
        rw [List.length_map] at hi
        obtain rfl : x = nV (m.keeps found[j])[i] := by
          rw [List.getElem?_map, List.getElem?_eq_getElem hi] at hx
          exact (Option.some.inj hx).symm
        have et : (m.keeps found[j]).take (i + 1) = (m.keeps found[j]).take i ++ [(m.keeps found[j])[i]] := by rw [List.take_add_one, List.getElem?_eq_getElem hi]; rfl
        have hzk := TM.mem_keeps.mp (List.getElem_mem hi)
        rw [et]
        generalize (m.keeps found[j])[i] = z at hzk
        have t3 := t.ex' ex3
        obtain ⟨dx3, ob3⟩ := t3.tw.ob
        have hfd := fl nd3 hre3
        have npd : p2 ≠ d := fun e => by rw [e, h1] at hp2; cases hp2
        walk_at "wx"
        refine TwAt.ans rfl t3 ?_
        walk_at "wx"
        refine x_iteB (fun haz => ?_) fun haz => ?_
        · walk_at "wx"
          refine x_ifN (fun hin => ?_) fun hin => ?_
          · walk_at "wx"
            refine ⟨fd ++ [z], _, rfl, ex3.mut hd hd3, by rw [upd_same, List.map_append]; rfl, by rw [upd_ne npd]; exact hp3, nd_snoc nd3 hin, pre3.trans (List.prefix_append _ _), fun x hx => ?_, fun x hx ha => ?_⟩
            · rcases List.mem_append.mp hx with hx | hx
              · exact hre3 x hx
              · rw [List.mem_singleton.mp hx]; exact .step hy hzk haz
            · rcases List.mem_append.mp hx with hx | hx
              · exact List.mem_append.mpr (.inl (hz3 x hx ha))
              · exact List.mem_append.mpr (.inr hx)
          · walk_at "wx"
            refine ⟨fd, _, rfl, ex3, hd3, hp3, nd3, pre3, hre3, fun x hx ha => ?_⟩
            rcases List.mem_append.mp hx with hx | hx
            · exact hz3 x hx ha
            · rw [List.mem_singleton.mp hx]; exact hin
        · walk_at "wx"
          refine ⟨fd, _, rfl, ex3, hd3, hp3, nd3, pre3, hre3, fun x hx ha => ?_⟩
          rcases List.mem_append.mp hx with hx | hx
          · exact hz3 x hx ha
          · rw [List.mem_singleton.mp hx, haz] at ha; cases ha
      · rintro σ H3 ⟨fd, v, rfl, ex3, hd3, hp3, nd3, pre3, hre3, hz3⟩
        rw [List.length_map, List.take_length] at hz3
        obtain ⟨more, rfl⟩ := pre3
        walk_at "wx"
        refine ⟨mm - 1, by omega, found ++ more, j + 1, _, rfl, ex3, hd3, nd3, List.mem_append.mpr (.inl h0m), hre3, fun i hi x hx z hzt ha => ?_, by rw [List.length_append]; omega, by omega⟩
        by_cases e : i = j
        · subst e
          rw [List.getElem?_append_left hjl, List.getElem?_eq_getElem hjl] at hx
          cases hx
          exact hz3 z (TM.mem_keeps.mpr hzt) ha
        · have hij : i < j := by omega
          rw [List.getElem?_append_left (by omega)] at hx
          exact List.mem_append.mpr (.inl (hcl i hij x hx z hzt ha))
    · rw [List.length_map] at hge
      have hje : j = found.length := by omega
      walk_at "wx"
      refine x_sortN (SqL.of h1) nd fun p hp => ?_
      rw [TM.comeTo_eq hm0 h0m hre fun y hy z hzt ha => by
        obtain ⟨i, hi⟩ := List.getElem?_of_mem hy
        exact hcl i (by rw [hje]; exact (List.getElem?_eq_some_iff.mp hi).1) y hi z hzt ha]
      exact q p _ (ex1.back p hp) (ex1.newT hp) upd_same
def sp_Town_visit (T : Tx K mg base) : Sp := fun vs H Q _ => ∃ (A : TA) (F : Addr → Prop) (m : TM) (N : List Nat) (h door : Nat), vs = [.ref A.t, .int h, .int door] ∧ TownAt T H A F m ∧ m.Ok N ∧ h ∈ m.houses ∧ m.aw door = true ∧ NdefX.TabsN (tabsL T) H ∧
  ∀ p H', H p = none → Fr F H H' → H' p = some (.lst ((m.others h door).map nV)) → TownAt T H' A F (m.visit h door) → Q (.ref p) H'
theorem wc_Town_visit {N : List Nat} {h door : Nat} {i j : Int} (hi : i = h) (hj : j = door) (t : TownAt T H A F m) (k : m.Ok N) (hm : h ∈ m.houses) (hd : m.aw door = true) (tb : NdefX.TabsN (tabsL T) H)
    (q : ∀ p H', H p = none → Fr F H H' → H' p = some (.lst ((m.others h door).map nV)) → TownAt T H' A F (m.visit h door) → Q (.ref p) H') : sp_Town_visit T [.ref A.t, .int i, .int j] H Q E := by
  subst hi hj; exact ⟨A, F, m, N, h, door, rfl, t, k, hm, hd, tb, q⟩
theorem TM.others_mem {h door x : Nat} (hx : x ∈ m.others h door) : x ∈ m.houses ∧ x ≠ h := by
  unfold TM.others at hx
  have q := List.mem_filter.mp hx
  exact ⟨(TM.mem_comeTo.mp q.1).1, by simpa using q.2⟩
theorem ok_Town_visit (T : Tx K mg base) : FnOk P w K mg base CX0 6 T.a_Town_visit T.d_Town_visit ["self", "house", "door"] (sp_Town_visit T) := by
  refine T.F_Town_visit.okD sc_Town_visit (fun vs H Q E h => ?_) (fun cdv A outer s H vs Q E hr h => ?_)
  · obtain ⟨A, F, m, N, h0, door, rfl, _⟩ := h; rfl
  · obtain ⟨A1, F, m, N, h0, door, rfl, t, k, hm, hdo, hT, q⟩ := h
    obtain ⟨dx, ob⟩ := t.tw.ob
    have hu := hu_of hr
    have hz := k.houses_len
    have hcl : (m.comeTo door).length < 64 := Nat.lt_of_le_of_lt (nodup_len (rising_nodup TM.comeTo_sorted) fun x hx => (TM.mem_comeTo.mp hx).1) hz
    have c_Bucket := T.c_Bucket; have n_Bucket_room := T.n_Bucket_room; have n_Bucket_line := T.n_Bucket_line; have c_Table := T.c_Table; have n_Table_own := T.n_Table_own; have n_Table_wide := T.n_Table_wide; have n_Table_room := T.n_Table_room; have n_Table_buckets := T.n_Table_buckets; have c_Town := T.c_Town; have n_Town_wide := T.n_Town_wide; have n_Town_room := T.n_Town_room; have n_Town_tables := T.n_Town_tables; have n_Town_hushed := T.n_Town_hushed; have n_Town_shelves := T.n_Town_shelves; have n_Town_layings := T.n_Town_layings
    refine ⟨_, (pss_cons (ps_setLc (i := 3) (own := [("other", 4)]) (g := (gName 4)) (by rfl) sc_Town_visit.nd rfl rfl (sw_true rfl rfl rfl (by decide +kernel)) (pi_list (pe_meth (pv 0) T.c_Town T.t_Town_come_to (ok_Town_come_to T) (hr.mono (by decide)) T.b_Town_come_to .nil pass0 (pa_cons (pv 2) pa_nil))) (blkOk_by (N := N_Town_visit) (sc := defScope s_Town_visit) (own := [("other", 4)]) (by decide +kernel)) (fun _ _ _ _ _ => (pg_name (i := 4) sc_Town_visit.nd rfl (Or.inl rfl))) (fun _ _ _ _ _ => pts_one ((pt_cmpR op_ne (pv 4) (pv 1) (nomark _)))) (fun _ _ _ _ _ => (pv 4)))
      (pss_cons (ps_for PassesOwn.never rfl (pi_list (pv 3)) (pg_name (i := 4) sc_Town_visit.nd rfl (Or.inl rfl))
      (pss_cons (ps_expr (pe_meth (pv 0) T.c_Town T.t_Town_hears (ok_Town_hears T) hr T.b_Town_hears .nil pass0 (pa_cons (pv 1) (pa_cons (pv 4) pa_nil))))
      (pss_one (ps_expr (pe_meth (pv 0) T.c_Town T.t_Town_hears (ok_Town_hears T) hr T.b_Town_hears .nil pass0 (pa_cons (pv 4) (pa_cons (pv 1) pa_nil)))))))
      (pss_one (ps_ret (pv 3))))), ?_⟩
    rw [Nn.st_Town_visit]; try rw [Nn.cxK]
    try rw [Nn.cxW]
    walk_at "wx"
    refine wc_Town_come_to rfl t k hdo fun p1 H1 hp1 ex1 h1 => ?_
    walk_at "wx"
    refine LcW.filt (emb := nV) (xs := m.comeTo door) (fun x => !decide (x = h0)) (SqL.of h1) (by rw [sizeLine_eq]; omega) (fun x _ H2 ex2 R hR => ?_) (fun x _ _ H2 ex2 Qe hQ => ?_) fun p2 H2 hp2 ex2 h2 => ?_
    · walk_at "wx"
      have e : decide ((x : Int) = (h0 : Int)) = decide (x = h0) := decide_eq_decide.mpr ⟨fun z => Int.ofNat.inj z, fun z => by rw [z]⟩
      rw [e]
      exact hR _ Ex.refl
    · walk_at "wx"
      exact hQ
    have h2 : H2 p2 = some (.lst ((m.others h0 door).map nV)) := h2
    have ex02 := ex1.trans ex2
    have t2 := t.ex' ex02
    have hp20 : H p2 = none := ex1.back p2 hp2
    have nF : ¬ F p2 := fun z => t.ex p2 z hp20
    have ok : ∀ (l : List Nat), (∀ o ∈ l, o ∈ m.others h0 door) → (l.foldl (TM.meet h0) m).Ok N := fun l hl => k.fold (k.hN _ hm) fun o ho => k.hN _ (TM.others_mem (hl o ho)).1
    walk_at "wx"
    refine ForW.by walk_list (fun i σ H' => ∃ (v : Option V), σ = [some (.ref A1.t), some (.int h0), some (.int door), some (.ref p2), v] ∧ Fr F H H' ∧ H' p2 = some (.lst ((m.others h0 door).map nV)) ∧ TownAt T H' A1 F (((m.others h0 door).take i).foldl (TM.meet h0) m))
      ⟨_, rfl, ex02.fr, h2, t2⟩ (fun i σ H' _ ⟨_, _, _, e, _⟩ => SqL.of e) ?_ ?_
    · rintro i x σ _ H3 hi ⟨v, rfl, fr3, hp3, t3⟩ ⟨rfl, hx⟩
      rw [List.length_map] at hi
      obtain rfl : x = nV (m.others h0 door)[i] := by
        rw [List.getElem?_map, List.getElem?_eq_getElem hi] at hx
        exact (Option.some.inj hx).symm
      have et : (m.others h0 door).take (i + 1) = (m.others h0 door).take i ++ [(m.others h0 door)[i]] := by rw [List.take_add_one, List.getElem?_eq_getElem hi]; rfl
      have hom := TM.others_mem (List.getElem_mem hi)
      have k3 := ok ((m.others h0 door).take i) fun o ho => List.mem_of_mem_take ho
      rw [et, List.foldl_append]
      generalize (m.others h0 door)[i] = o at hom
      obtain ⟨dx3, ob3⟩ := t3.tw.ob
      have hh3 : (((m.others h0 door).take i).foldl (TM.meet h0) m).houses = m.houses := TM.fold_houses
      have hmo := k.hN _ hom.1
      have hmh := k.hN _ hm
      generalize ((m.others h0 door).take i).foldl (TM.meet h0) m = m3 at t3 k3 hh3 ⊢
      walk_at "wx"
      refine wc_Town_hears rfl rfl t3 k3 (by rw [hh3]; exact hm) hmo (Fr.tabs fr3 hT) fun z4 H4 fr4 t4 => ?_
      obtain ⟨dx4, ob4⟩ := t4.tw.ob
      have k4 := k3.hears (h := h0) hmo
      walk_at "wx"
      refine wc_Town_hears rfl rfl t4 k4 (by rw [TM.hears_houses, hh3]; exact hom.1) hmh (Fr.tabs fr4 (Fr.tabs fr3 hT)) fun z5 H5 fr5 t5 => ?_
      exact ⟨_, rfl, (fr3.trans fr4).trans fr5, fr5.at (fr4.at hp3 nF) nF, t5⟩
    · rintro σ H3 ⟨v, rfl, fr3, hp3, t3⟩
      rw [List.length_map, List.take_length] at t3
      walk_at "wx"
      exact q p2 H3 hp20 fr3 hp3 t3
/-- the places behind a coming -/
def TA.put (A : TA) (n : Nat) (p : Addr) (ls : List Addr) : TA := { A with pa := fun x => if x = n then p else A.pa x, la := fun x => if x = n then ls else A.la x }
theorem dOf_congr {hs : List Nat} {f g : Nat → V} (h : ∀ x ∈ hs, f x = g x) : dOf hs f = dOf hs g := List.map_congr_left fun x hx => by rw [h x hx]
theorem TM.add_aw {n d : Nat} (h : m.aw d = true) : (m.add n).aw d = true := by
  unfold TM.aw at h ⊢
  rw [Bool.and_eq_true] at h ⊢
  refine ⟨?_, h.2⟩
  rw [TM.add_houses]
  exact decide_eq_true (List.mem_append.mpr (.inl (of_decide_eq_true h.1)))
theorem TM.add_tab {n h : Nat} (hm : n ∉ m.houses) : (m.add n).tab h = if h = n then List.replicate m.wide [] else m.tab h := by
  unfold TM.tab TM.add
  show ((m.tabs ++ [(n, List.replicate m.wide [])]).lookup h).getD [] = _
  have key : ∀ {l : List (Nat × List (List Nat))}, n ∉ l.map (·.1) → (l ++ [(n, List.replicate m.wide [])]).lookup h = if h = n then some (List.replicate m.wide []) else l.lookup h := by
    intro l
    induction l with
    | nil =>
      intro _
      by_cases e : h = n
      · rw [if_pos e, e, List.nil_append, TM.lookup_eq]
      · rw [if_neg e, List.nil_append, TM.lookup_ne e]
    | cons p r ih =>
      intro hl
      obtain ⟨k, ys⟩ := p
      rw [List.map_cons, List.mem_cons, not_or] at hl
      rw [List.cons_append]
      by_cases e : h = k
      · subst e
        rw [TM.lookup_eq, if_neg (Ne.symm hl.1), TM.lookup_eq]
      · rw [TM.lookup_ne e, ih hl.2, TM.lookup_ne e]
  rw [key hm]
  by_cases e : h = n
  · rw [if_pos e, if_pos e]; rfl
  · rw [if_neg e, if_neg e]
noncomputable def TM.comes (m : TM) (n : Nat) : Option Nat → TM
  | none => m.add n
  | some door => (m.add n).visit n door
noncomputable def TM.told (m : TM) (n : Nat) : Option Nat → List Nat
  | none => []
  | some door => (m.add n).others n door
def sp_Town_come (T : Tx K mg base) : Sp := fun vs H Q _ => ∃ (A : TA) (F : Addr → Prop) (m : TM) (N : List Nat) (n : Nat) (door : Option Nat), vs = [.ref A.t, .int n, oN door] ∧ TownAt T H A F m ∧ m.Ok N ∧ n ∈ N ∧ n ∉ m.houses ∧ (∀ d, door = some d → m.aw d = true) ∧ NdefX.TabsN (tabsL T) H ∧
  ∀ p H' A' F', H p = none → Fr F H H' → H' p = some (.lst ((m.told n door).map nV)) → ¬ F' p → A'.t = A.t ∧ A'.x = A.x → (∀ a, F' a → F a ∨ H a = none) → TownAt T H' A' F' (m.comes n door) → Q (.ref p) H'
theorem wc_Town_come {N : List Nat} {n : Nat} {door : Option Nat} {i : Int} {v : V} (hi : i = n) (hv : v = oN door) (t : TownAt T H A F m) (k : m.Ok N) (hn : n ∈ N) (hm : n ∉ m.houses) (hd : ∀ d, door = some d → m.aw d = true) (tb : NdefX.TabsN (tabsL T) H)
    (q : ∀ p H' A' F', H p = none → Fr F H H' → H' p = some (.lst ((m.told n door).map nV)) → ¬ F' p → A'.t = A.t ∧ A'.x = A.x → (∀ a, F' a → F a ∨ H a = none) → TownAt T H' A' F' (m.comes n door) → Q (.ref p) H') : sp_Town_come T [.ref A.t, .int i, v] H Q E := by
  subst hi hv; exact ⟨A, F, m, N, n, door, rfl, t, k, hn, hm, hd, tb, q⟩
theorem ok_Town_come (T : Tx K mg base) : FnOk P w K mg base CX0 7 T.a_Town_come T.d_Town_come ["self", "name", "door"] (sp_Town_come T) := by
  refine T.F_Town_come.okD sc_Town_come (fun vs H Q E h => ?_) (fun cdv A outer s H vs Q E hr h => ?_)
  · obtain ⟨A, F, m, N, n, door, rfl, _⟩ := h; rfl
  · obtain ⟨A1, F, m, N, n, door, rfl, t, k, hn, hm, hdo, hT, q⟩ := h
    obtain ⟨dx, ob⟩ := t.tw.ob
    have hu := hu_of hr
    have td0 := t.tw.tb
    have e1 : (valV (dOf m.houses fun h => .ref (A1.pa h)) (Sum.inl (n : Int))).isSome = decide (n ∈ m.houses) := dOf_has
    have hhl := k.houses_len
    have c_Bucket := T.c_Bucket; have n_Bucket_room := T.n_Bucket_room; have n_Bucket_line := T.n_Bucket_line; have c_Table := T.c_Table; have n_Table_own := T.n_Table_own; have n_Table_wide := T.n_Table_wide; have n_Table_room := T.n_Table_room; have n_Table_buckets := T.n_Table_buckets; have c_Town := T.c_Town; have n_Town_wide := T.n_Town_wide; have n_Town_room := T.n_Town_room; have n_Town_tables := T.n_Town_tables; have n_Town_hushed := T.n_Town_hushed; have n_Town_shelves := T.n_Town_shelves; have n_Town_layings := T.n_Town_layings
    refine ⟨_, (pss_cons (ps_expr (pe_meth (pv 0) T.c_Town T.t_Town_look_named (ok_Town_look_named T) (hr.mono (by decide)) T.b_Town_look_named .nil pass0 (pa_cons (pv 1) pa_nil)))
      (pss_cons (ps_if (pt_cmp (pc_din hu (pv 1) (pe_fld (pv 0) rfl)))
      (pss_one ps_dead)
      pss_nil)
      (C8.pss_cut (ps_if (pt_cmpR op_notNn (pv 2) pe_non (nomark _))
      (pss_one (ps_expr (pe_meth (pv 0) T.c_Town T.t_Town_look_awake (ok_Town_look_awake T) (hr.mono (by decide)) T.b_Town_look_awake .nil pass0 (pa_cons (pv 2) pa_nil))))
      pss_nil)
      (pss_cons (ps_dput hu (pe_fld (pv 0) rfl) (pv 1) (pe_make T.M_Table (ok_Table_init T) (hr.mono (by decide)) rfl T.m_Table T.b_Table_init .nil pass0 (pa_cons (pv 1) (pa_cons (pe_fld (pv 0) rfl) (pa_cons (pe_fld (pv 0) rfl) pa_nil)))) rfl)
      (pss_cons (ps_if (pt_cmpR op_isNn (pv 2) pe_non (nomark _))
      (pss_one (ps_ret (pe_lst pa_nil)))
      pss_nil)
      (pss_one (ps_ret (pe_meth (pv 0) T.c_Town T.t_Town_visit (ok_Town_visit T) hr T.b_Town_visit .nil pass0 (pa_cons (pv 1) (pa_cons (pv 2) pa_nil)))))))))), ?_⟩
    rw [Nn.st_Town_come]; try rw [Nn.cxK]
    try rw [Nn.cxW]
    walk_at "wx"
    refine wc_Town_look_named rfl t k.w1 (k.nb _ hn) ?_
    walk_at "wx"
    rw [e1, decide_eq_false hm]
    walk_at "wx"
    refine x_cut (fun σ' H' => σ' = [some (.ref A1.t), some (.int n), some (oN door)] ∧ H' = H) ?_ ?_
    · cases door with
      | none =>
        have eo : oN none = .non := rfl
        rw [eo]
        walk_at "wx"
        exact ⟨rfl, rfl⟩
      | some d =>
        have eo : oN (some d) = nV d := rfl
        rw [eo]
        walk_at "wx"
        have hda := hdo d rfl
        refine wc_Town_look_awake rfl t k.w1 (k.bd (TM.aw_house hda)) hda ?_
        walk_at "wx"
        exact ⟨rfl, rfl⟩
    · rintro σ' H' ⟨rfl, rfl⟩
      walk_at "wx"
      refine x_make fun p dx1 H1 hp ex1 hp1 => ?_
      refine ⟨p, dx1, n, m.wide, m.room, rfl, hp1, k.w0, k.w1, k.r0, k.r1, fun ls H2 hls fr2 ta2 L2 own2 => ⟨rfl, ?_⟩⟩
      have ex2 := fr2.ex ex1 fun y z => by rw [z]; exact hp
      have t2 := t.ex' ex2
      obtain ⟨dx2, ob2⟩ := t2.tw.ob
      have td2 := t2.tw.tb
      have hb2 := t2.tw.hb
      walk_at "wx"
      refine x_dput td2 (by rw [sizeLine_eq, dOf_len]; omega) ?_
      have ea : ∀ x ∈ m.houses, (A1.put n p ls).pa x = A1.pa x := fun x hx => if_neg fun z => hm (by rw [← z]; exact hx)
      have el : ∀ x ∈ m.houses, (A1.put n p ls).la x = A1.la x := fun x hx => if_neg fun z => hm (by rw [← z]; exact hx)
      have ean : (A1.put n p ls).pa n = p := if_pos rfl
      have eln : (A1.put n p ls).la n = ls := if_pos rfl
      have ed : putK (dOf m.houses fun h => .ref (A1.pa h)) (Sum.inl (n : Int)) (.ref p) = dOf (m.add n).houses fun h => .ref ((A1.put n p ls).pa h) := by
        rw [TM.add_houses, dOf_congr (g := fun h => .ref ((A1.put n p ls).pa h)) fun x hx => by rw [ea x hx]]
        have q := dOf_new (f := fun h => V.ref ((A1.put n p ls).pa h)) hm
        rw [ean] at q
        exact q
      rw [ed]
      have fr3 := Fr.upd1 (o := .dK (dOf (m.add n).houses fun h => .ref ((A1.put n p ls).pa h))) td2
      have td3 := upd_same (H := H2) (a := A1.td) (o := .dK (dOf (m.add n).houses fun h => .ref ((A1.put n p ls).pa h)))
      generalize upd H2 A1.td (.dK (dOf (m.add n).houses fun h => .ref ((A1.put n p ls).pa h))) = H3 at fr3 td3 ⊢
      have soft2 : ∀ a, a = A1.td → Soft H2 a := fun a z => by rw [z]; exact Soft.dict td2
      have ta3 := ta2.soft fr3 soft2
      have own3 := (own2.soft ta2 fr3 soft2).live ta3
      have hp3 : H3 p ≠ none := by
        obtain ⟨dxp, _, _, hpo, _⟩ := ta3.ob
        rw [hpo]; exact fun z => by cases z
      have tne : A1.t ≠ A1.td := fun z => by rw [z, td2] at ob2; cases ob2
      have t3 : TownAt T H3 (A1.put n p ls) (fun a => F a ∨ (H' a = none ∧ H3 a ≠ none)) (m.add n) := by
        refine ⟨⟨⟨dx2, fr3.at ob2 tne⟩, td3, fr3.at hb2 t.ne.symm⟩, ⟨.inl t.ft.1, .inl t.ft.2.1, .inl t.ft.2.2⟩, fun h hh => ?_, fun h hh => ?_, fun h1 hh1 h2 hh2 hne l hl => ?_, fun a ha e => ?_, t.ne⟩
        · rw [TM.add_houses] at hh
          rw [TM.add_tab hm]
          rcases List.mem_append.mp hh with hh | hh
          · have nh : h ≠ n := fun z => hm (by rw [← z]; exact hh)
            rw [ea h hh, el h hh, if_neg nh]
            obtain ⟨a1, a2⟩ := t2.tab h hh
            exact ⟨a1.soft fr3 soft2, a2.fr fr3 fun l hl z => by
              obtain ⟨_, e⟩ := a2.is hl
              rw [z, td2] at e; cases e⟩
          · rw [List.mem_singleton.mp hh, ean, eln, if_pos rfl]
            exact ⟨ta3, L2.fr fr3 fun l hl z => by
              obtain ⟨_, e⟩ := L2.is hl
              rw [z, td2] at e; cases e⟩
        · rw [TM.add_houses] at hh
          rcases List.mem_append.mp hh with hh | hh
          · rw [ea h hh, el h hh]
            obtain ⟨o1, o2, o3⟩ := t2.own h hh
            exact ⟨.inl o1, (o2.soft (t2.tab h hh).1 fr3 soft2).mono fun a z => .inl z, fun l hl => .inl (o3 l hl)⟩
          · rw [List.mem_singleton.mp hh, ean, eln]
            refine ⟨.inr ⟨hp, hp3⟩, own3.mono fun a z => .inr ⟨ex1.back a z.1, z.2⟩, fun l hl => .inr ⟨ex1.back l (hls l hl), fun e => ?_⟩⟩
            obtain ⟨_, e2⟩ := L2.is hl
            have e3 := fr3.back l e
            rw [e2] at e3; cases e3
        · have old : ∀ {h l}, h ∈ m.houses → l ∈ A1.la h → l ∈ ls → False := fun {h l} hh hl hls' => by
            obtain ⟨_, e⟩ := (t.tab h hh).2.is hl
            have e2 := ex1.back l (hls l hls')
            rw [e] at e2; cases e2
          rw [TM.add_houses] at hh1 hh2
          rcases List.mem_append.mp hh1 with hh1 | hh1 <;> rcases List.mem_append.mp hh2 with hh2 | hh2
          · rw [el _ hh1] at hl; rw [el _ hh2]; exact t.dj _ hh1 _ hh2 hne l hl
          · rw [el _ hh1] at hl; rw [List.mem_singleton.mp hh2, eln]; exact old hh1 hl
          · rw [List.mem_singleton.mp hh1, eln] at hl; rw [el _ hh2]; exact fun z => old hh2 z hl
          · exact absurd ((List.mem_singleton.mp hh1).trans (List.mem_singleton.mp hh2).symm) hne
        · rcases ha with ha | ha
          · exact t.ex a ha (ex2.back a (fr3.back a e))
          · exact ha.2 e
      have fr03 : Fr F H' H3 := (ex2.fr (S := F)).trans (fr3.mono fun a z => by rw [z]; exact t.ft.2.1)
      have hF : ∀ a, (F a ∨ (H' a = none ∧ H3 a ≠ none)) → F a ∨ H' a = none := fun a z => z.imp id (·.1)
      generalize hF'd : (fun a => F a ∨ (H' a = none ∧ H3 a ≠ none)) = F' at t3
      have hF : ∀ a, F' a → F a ∨ H' a = none := fun a z => hF a (by rw [← hF'd] at z; exact z)
      have hT3 := Fr.tabs fr03 hT
      clear own3 own2 ta3 ta2 L2 fr2 hls
      obtain ⟨dx3, ob3⟩ := t3.tw.ob
      have et : (A1.put n p ls).t = A1.t := rfl
      rw [et] at ob3
      cases door with
      | none =>
        have eo : oN none = .non := rfl
        rw [eo]
        walk_at "wx"
        refine ⟨len_ok rfl, fun r hr => ?_⟩
        exact q r _ (A1.put n p ls) F' (fr03.back r hr) (fr03.trans (Ex.new hr).fr) upd_same (fun z => t3.ex r z hr) ⟨rfl, rfl⟩ hF (t3.ex' (Ex.new hr))
      | some d =>
        have eo : oN (some d) = nV d := rfl
        rw [eo]
        walk_at "wx"
        have hn' : n ∈ (m.add n).houses := by rw [TM.add_houses]; simp
        refine wc_Town_visit (A := A1.put n p ls) rfl rfl t3 (k.add hm hn) hn' (TM.add_aw (hdo d rfl)) hT3 fun r H4 hr fr4 hr4 t4 => ?_
        exact q r H4 (A1.put n p ls) F' (fr03.back r hr) (fr03.trans2 fr4 hF) hr4 (fun z => t3.ex r z hr) ⟨rfl, rfl⟩ hF t4
def TM.new (wide room : Nat) : TM := ⟨wide, room, [], []⟩
end
end Nn
/-! towns: go, hush, wake -/
namespace Nn
open PySem L2
section
variable {P : Program} {w : World} {K : PySem.W.Frag} {mg : Str → Option Value} {base : Heap} {H H' : Hp} {Q : VK} {E : XK} {T : Tx K mg base} {A : TA} {F S : Addr → Prop} {m : TM}
theorem dOf_drop {hs : List Nat} {f : Nat → V} {n : Nat} : dropK (dOf hs f) (nK n) = dOf (hs.filter fun x => !decide (x = n)) f := by
  unfold dropK dOf
  rw [List.filter_map]
  congr 1
  refine List.filter_congr fun x _ => ?_
  show decide (nK x ≠ nK n) = !decide (x = n)
  by_cases e : x = n
  · simp [e]
  · have q : nK x ≠ nK n := fun z => e (nK_inj z)
    rw [decide_eq_true q, decide_eq_false e]; rfl
def sp_Town_hush (T : Tx K mg base) : Sp := fun vs H Q _ => ∃ (A : TA) (F : Addr → Prop) (m : TM) (h : Nat), vs = [.ref A.t, .int h] ∧ TownAt T H A F m ∧ m.wide ≤ 60 ∧ h < 2 ^ m.wide ∧ h ∈ m.houses ∧ m.hush.length < 100000 ∧ ∀ H', Fr F H H' → TownAt T H' A F (m.hushed h) → Q .non H'
theorem wc_Town_hush {h : Nat} {i : Int} (hi : i = h) (t : TownAt T H A F m) (w1 : m.wide ≤ 60) (hb : h < 2 ^ m.wide) (hm : h ∈ m.houses) (hz : m.hush.length < 100000) (q : ∀ H', Fr F H H' → TownAt T H' A F (m.hushed h) → Q .non H') : sp_Town_hush T [.ref A.t, .int i] H Q E := by
  subst hi; exact ⟨A, F, m, h, rfl, t, w1, hb, hm, hz, q⟩
/-- a dict of the town changes -/
theorem TownAt.hushD {qs : List Nat} (t : TownAt T H A F m) (f : Fr (fun a => a = A.hd) H H') (e : H' A.hd = some (.dK (dOf qs fun _ => .bl true))) : TownAt T H' A F { m with hush := qs } := by
  have hb := t.tw.hb
  have soft : ∀ a, a = A.hd → Soft H a := fun a z => by rw [z]; exact Soft.dict hb
  obtain ⟨dx, ob⟩ := t.tw.ob
  refine ⟨⟨⟨dx, f.at ob fun z => ?_⟩, f.at t.tw.tb t.ne, e⟩, t.ft, fun h hh => ?_, fun h hh => ?_, t.dj, fun a ha z => t.ex a ha (f.back a z), t.ne⟩
  · rw [z, hb] at ob; cases ob
  · obtain ⟨a1, a2⟩ := t.tab h hh
    exact ⟨a1.soft f soft, a2.fr f fun l hl z => by
      obtain ⟨_, e⟩ := a2.is hl
      rw [z, hb] at e; cases e⟩
  · obtain ⟨o1, o2, o3⟩ := t.own h hh
    exact ⟨o1, o2.soft (t.tab h hh).1 f soft, o3⟩
theorem ok_Town_hush (T : Tx K mg base) : FnOk P w K mg base CX0 3 T.a_Town_hush T.d_Town_hush ["self", "house"] (sp_Town_hush T) := by
  refine T.F_Town_hush.okD sc_Town_hush (fun vs H Q E h => ?_) (fun cdv A outer s H vs Q E hr h => ?_)
  · obtain ⟨A, F, m, n, rfl, _⟩ := h; rfl
  · obtain ⟨A1, F, m, n, rfl, t, w1, hb, hm, hz, q⟩ := h
    obtain ⟨dx, ob⟩ := t.tw.ob
    have hd := t.tw.hb
    have hu := hu_of hr
    have c_Bucket := T.c_Bucket; have n_Bucket_room := T.n_Bucket_room; have n_Bucket_line := T.n_Bucket_line; have c_Table := T.c_Table; have n_Table_own := T.n_Table_own; have n_Table_wide := T.n_Table_wide; have n_Table_room := T.n_Table_room; have n_Table_buckets := T.n_Table_buckets; have c_Town := T.c_Town; have n_Town_wide := T.n_Town_wide; have n_Town_room := T.n_Town_room; have n_Town_tables := T.n_Town_tables; have n_Town_hushed := T.n_Town_hushed; have n_Town_shelves := T.n_Town_shelves; have n_Town_layings := T.n_Town_layings
    refine ⟨_, (pss_cons (ps_expr (pe_meth (pv 0) T.c_Town T.t_Town_table (ok_Town_table T) hr T.b_Town_table .nil pass0 (pa_cons (pv 1) pa_nil)))
      (pss_one (ps_dput hu (pe_fld (pv 0) rfl) (pv 1) pe_bl rfl))), ?_⟩
    rw [Nn.st_Town_hush]; try rw [Nn.cxK]
    try rw [Nn.cxW]
    walk_at "wx"
    refine wc_Town_table rfl t w1 hb hm ?_
    walk_at "wx"
    refine x_dput hd (by rw [sizeLine_eq, dOf_len]; omega) ?_
    have ep : putK (dOf m.hush fun _ => .bl true) (Sum.inl (n : Int)) (.bl true) = dOf (m.hushed n).hush fun _ => .bl true := by
      unfold TM.hushed
      by_cases z : n ∈ m.hush
      · rw [if_pos z]; exact dOf_put (f := fun _ => V.bl true) z
      · rw [if_neg z]; exact dOf_new (f := fun _ => V.bl true) z
    rw [ep]
    have f1 := Fr.upd1 (o := .dK (dOf (m.hushed n).hush fun _ => .bl true)) hd
    have e : ({ m with hush := (m.hushed n).hush } : TM) = m.hushed n := by
      unfold TM.hushed
      split <;> rfl
    have t1 := t.hushD f1 upd_same
    rw [e] at t1
    exact q _ (f1.mono fun a z => by rw [z]; exact t.ft.2.2) t1
theorem TM.cut_houses {n : Nat} : (m.cut n).houses = m.houses.filter fun x => !decide (x = n) := by
  unfold TM.cut TM.houses
  rw [List.filter_map]; rfl
theorem TM.cut_tab {n x : Nat} (h : x ≠ n) : (m.cut n).tab x = m.tab x := by
  unfold TM.tab TM.cut
  show ((m.tabs.filter fun e => !decide (e.1 = n)).lookup x).getD [] = _
  congr 1
  induction m.tabs with
  | nil => rfl
  | cons e r ih =>
    obtain ⟨k, ys⟩ := e
    by_cases q : k = n
    · rw [List.filter_cons_of_neg (by simp [q]), ih, TM.lookup_ne (by rw [q]; exact h)]
    · rw [List.filter_cons_of_pos (by simp [q])]
      by_cases e2 : x = k
      · subst e2; rw [TM.lookup_eq, TM.lookup_eq]
      · rw [TM.lookup_ne e2, TM.lookup_ne e2, ih]
theorem TM.Ok.cut {N : List Nat} {n : Nat} (k : m.Ok N) : (m.cut n).Ok N := by
  refine ⟨k.w0, k.w1, k.r0, k.r1, k.nb, k.nl, fun x hx => ?_, by rw [TM.cut_houses]; exact k.nd.filter _, k.hnd.filter _, fun x hx => ?_, fun h xss hm => k.at_ _ _ (List.mem_filter.mp hm).1⟩
  · rw [TM.cut_houses] at hx; exact k.hN x (List.mem_filter.mp hx).1
  · rw [TM.cut_houses]
    have q := List.mem_filter.mp hx
    exact List.mem_filter.mpr ⟨k.hh x q.1, q.2⟩
theorem TM.Ok.woken {N : List Nat} {n : Nat} (k : m.Ok N) : (m.woken n).Ok N :=
  ⟨k.w0, k.w1, k.r0, k.r1, k.nb, k.nl, k.hN, k.nd, k.hnd.filter _, fun x hx => k.hh x (List.mem_filter.mp hx).1, k.at_⟩
theorem TM.Ok.hushed {N : List Nat} {n : Nat} (k : m.Ok N) (hn : n ∈ m.houses) : (m.hushed n).Ok N := by
  unfold TM.hushed
  by_cases z : n ∈ m.hush
  · rw [if_pos z]; exact k
  · rw [if_neg z]
    exact ⟨k.w0, k.w1, k.r0, k.r1, k.nb, k.nl, k.hN, k.nd, nd_snoc k.hnd z, fun x hx => (List.mem_append.mp hx).elim (k.hh x) fun q => by rw [List.mem_singleton.mp q]; exact hn, k.at_⟩
theorem TM.woken_aw {n d : Nat} (h : m.aw d = true) : (m.woken n).aw d = true := by
  unfold TM.aw at h ⊢
  rw [Bool.and_eq_true] at h ⊢
  refine ⟨h.1, ?_⟩
  have h2 : d ∉ m.hush := by simpa using h.2
  have h3 : d ∉ (m.woken n).hush := fun z => h2 (List.mem_filter.mp z).1
  simp [h3]
def sp_Town_go (T : Tx K mg base) : Sp := fun vs H Q _ => ∃ (A : TA) (F : Addr → Prop) (m : TM) (h : Nat), vs = [.ref A.t, .int h] ∧ TownAt T H A F m ∧ m.wide ≤ 60 ∧ h < 2 ^ m.wide ∧ h ∈ m.houses ∧ ∀ H', Fr F H H' → TownAt T H' A F (m.cut h) → Q .non H'
theorem wc_Town_go {h : Nat} {i : Int} (hi : i = h) (t : TownAt T H A F m) (w1 : m.wide ≤ 60) (hb : h < 2 ^ m.wide) (hm : h ∈ m.houses) (q : ∀ H', Fr F H H' → TownAt T H' A F (m.cut h) → Q .non H') : sp_Town_go T [.ref A.t, .int i] H Q E := by
  subst hi; exact ⟨A, F, m, h, rfl, t, w1, hb, hm, q⟩
theorem TownAt.cutD {n : Nat} (t : TownAt T H A F m) (f : Fr (fun a => a = A.td ∨ a = A.hd) H H') (e1 : H' A.td = some (.dK (dOf (m.cut n).houses fun h => .ref (A.pa h)))) (e2 : H' A.hd = some (.dK (dOf (m.cut n).hush fun _ => .bl true))) : TownAt T H' A F (m.cut n) := by
  have hb := t.tw.hb
  have td := t.tw.tb
  have soft : ∀ a, (a = A.td ∨ a = A.hd) → Soft H a := fun a z => by
    rcases z with z | z <;> rw [z]
    · exact Soft.dict td
    · exact Soft.dict hb
  have sub : ∀ x, x ∈ (m.cut n).houses → x ∈ m.houses ∧ x ≠ n := fun x hx => by
    rw [TM.cut_houses] at hx
    have q := List.mem_filter.mp hx
    exact ⟨q.1, by simpa using q.2⟩
  obtain ⟨dx, ob⟩ := t.tw.ob
  refine ⟨⟨⟨dx, f.at ob fun z => ?_⟩, e1, e2⟩, t.ft, fun h hh => ?_, fun h hh => ?_, fun h1 q1 h2 q2 => t.dj h1 (sub h1 q1).1 h2 (sub h2 q2).1, fun a ha z => t.ex a ha (f.back a z), t.ne⟩
  · rcases z with z | z <;> rw [z] at ob
    · rw [td] at ob; cases ob
    · rw [hb] at ob; cases ob
  · obtain ⟨a1, a2⟩ := t.tab h (sub h hh).1
    rw [TM.cut_tab (sub h hh).2]
    exact ⟨a1.soft f soft, a2.fr f fun l hl z => by
      obtain ⟨_, e⟩ := a2.is hl
      rcases z with z | z <;> rw [z] at e
      · rw [td] at e; cases e
      · rw [hb] at e; cases e⟩
  · obtain ⟨o1, o2, o3⟩ := t.own h (sub h hh).1
    exact ⟨o1, o2.soft (t.tab h (sub h hh).1).1 f soft, o3⟩
theorem ok_Town_go (T : Tx K mg base) : FnOk P w K mg base CX0 3 T.a_Town_go T.d_Town_go ["self", "house"] (sp_Town_go T) := by
  refine T.F_Town_go.okD sc_Town_go (fun vs H Q E h => ?_) (fun cdv A outer s H vs Q E hr h => ?_)
  · obtain ⟨A, F, m, n, rfl, _⟩ := h; rfl
  · obtain ⟨A1, F, m, n, rfl, t, w1, hb, hm, q⟩ := h
    obtain ⟨dx, ob⟩ := t.tw.ob
    have td := t.tw.tb
    have hd := t.tw.hb
    have hu := hu_of hr
    have e2 : valV (dOf m.houses fun h => .ref (A1.pa h)) (Sum.inl (n : Int)) = some (.ref (A1.pa n)) := by
      have q := dOf_val (f := fun h => V.ref (A1.pa h)) (n := n) (hs := m.houses)
      rw [if_pos hm] at q; exact q
    have c_Bucket := T.c_Bucket; have n_Bucket_room := T.n_Bucket_room; have n_Bucket_line := T.n_Bucket_line; have c_Table := T.c_Table; have n_Table_own := T.n_Table_own; have n_Table_wide := T.n_Table_wide; have n_Table_room := T.n_Table_room; have n_Table_buckets := T.n_Table_buckets; have c_Town := T.c_Town; have n_Town_wide := T.n_Town_wide; have n_Town_room := T.n_Town_room; have n_Town_tables := T.n_Town_tables; have n_Town_hushed := T.n_Town_hushed; have n_Town_shelves := T.n_Town_shelves; have n_Town_layings := T.n_Town_layings
    refine ⟨_, (pss_cons (ps_expr (pe_meth (pv 0) T.c_Town T.t_Town_table (ok_Town_table T) hr T.b_Town_table .nil pass0 (pa_cons (pv 1) pa_nil)))
      (pss_cons (ps_expr (pe_dpop1 (pe_fld (pv 0) rfl) (pv 1) ⟨rfl, rfl, rfl, rfl⟩))
      (pss_one (ps_expr (pe_dpop2 (pe_fld (pv 0) rfl) (pv 1) pe_bl ⟨rfl, rfl, rfl, rfl⟩))))), ?_⟩
    rw [Nn.st_Town_go]; try rw [Nn.cxK]
    try rw [Nn.cxW]
    walk_at "wx"
    refine wc_Town_table rfl t w1 hb hm ?_
    walk_at "wx"
    have ed : dropK (dOf m.houses fun h => .ref (A1.pa h)) (Sum.inl (n : Int)) = dOf (m.cut n).houses fun h => .ref (A1.pa h) := by rw [TM.cut_houses]; exact dOf_drop
    rw [ed]
    have f1 := Fr.upd1 (o := .dK (dOf (m.cut n).houses fun h => .ref (A1.pa h))) td
    have td1 := upd_same (H := H) (a := A1.td) (o := .dK (dOf (m.cut n).houses fun h => .ref (A1.pa h)))
    have hd1 := f1.at hd t.ne.symm
    generalize upd H A1.td (.dK (dOf (m.cut n).houses fun h => .ref (A1.pa h))) = H1 at f1 td1 hd1 ⊢
    have eh : dropK (dOf m.hush fun _ => .bl true) (Sum.inl (n : Int)) = dOf (m.cut n).hush fun _ => .bl true := dOf_drop
    have f1' := f1.mono (S' := fun a => a = A1.td ∨ a = A1.hd) fun a z => .inl z
    have nF : ∀ a, (a = A1.td ∨ a = A1.hd) → F a := fun a z => z.elim (fun z => by rw [z]; exact t.ft.2.1) fun z => by rw [z]; exact t.ft.2.2
    walk_at "wx"
    refine x_p2 hd1 (fun v _ => ?_) fun hv => ?_
    · rw [eh]
      have f2 := f1'.trans ((Fr.upd1 (o := .dK (dOf (m.cut n).hush fun _ => .bl true)) hd1).mono fun a z => .inr z)
      exact q _ (f2.mono nF) (t.cutD f2 (by rw [upd_ne t.ne]; exact td1) upd_same)
    · have hn : n ∉ m.hush := fun z => by
        have q := dOf_val (f := fun _ => V.bl true) (n := n) (hs := m.hush)
        rw [if_pos z] at q
        have hv : valV (dOf m.hush fun _ => V.bl true) (nK n) = none := hv
        rw [q] at hv; cases hv
      have e : (m.cut n).hush = m.hush := List.filter_eq_self.mpr fun x hx => by
        have : x ≠ n := fun z => hn (by rw [← z]; exact hx)
        simp [this]
      exact q _ (f1'.mono nF) (t.cutD f1' td1 (by rw [e]; exact hd1))
end
end Nn
/-! what comes to a town (for laws without a model) -/
namespace Nn
open PySem L2
theorem TM.comes_houses {m : TM} {n : Nat} {d : Option Nat} : (m.comes n d).houses = m.houses ++ [n] := by
  cases d with
  | none => exact TM.add_houses
  | some d => exact TM.fold_houses.trans TM.add_houses
theorem TM.comes_wide {m : TM} {n : Nat} {d : Option Nat} : (m.comes n d).wide = m.wide := by
  cases d with
  | none => rfl
  | some d => exact TM.fold_sizes.1
theorem TM.Ok.comes {m : TM} {N : List Nat} {n : Nat} {d : Option Nat} (k : m.Ok N) (hm : n ∉ m.houses) (hn : n ∈ N) : (m.comes n d).Ok N := by
  cases d with
  | none => exact k.add hm hn
  | some d => exact (k.add hm hn).fold hn fun o ho => (k.add hm hn).hN o (TM.others_mem ho).1
theorem TM.Ok.new {wd room : Nat} (w1 : 1 ≤ wd) (w2 : wd ≤ 60) (r0 : 0 < room) (r1 : room ≤ 8) : (TM.new wd room).Ok [] :=
  ⟨w1, w2, r0, r1, by simp, by decide, by simp [TM.new, TM.houses], by simp [TM.new, TM.houses], by simp [TM.new], by simp [TM.new], by simp [TM.new]⟩
theorem TM.Ok.one {m : TM} {n : Nat} (k : m.Ok m.houses) (hz : m.houses.length ≤ 40) (hn : n < 2 ^ m.wide) : m.Ok (m.houses ++ [n]) :=
  k.more (fun x hx => List.mem_append.mpr (.inl hx)) (fun x hx => (List.mem_append.mp hx).elim (k.nb x) fun z => by rw [List.mem_singleton.mp z]; exact hn) (by rw [List.length_append, List.length_singleton]; omega)
theorem TM.told_len {m : TM} {n : Nat} {d : Option Nat} : (m.told n d).length ≤ m.houses.length + 1 := by
  cases d with
  | none => exact Nat.zero_le _
  | some d =>
    have q : ((m.add n).others n d).length ≤ (m.add n).houses.length := nodup_len ((rising_nodup TM.comeTo_sorted).filter _) fun x hx => (TM.others_mem hx).1
    rw [TM.add_houses, List.length_append, List.length_singleton] at q
    exact q
theorem TM.Ok.one' {m : TM} {N : List Nat} {n : Nat} (k : m.Ok N) (hz : N.length ≤ 62) (hn : n < 2 ^ m.wide) : m.Ok (N ++ [n]) :=
  k.more (fun x hx => List.mem_append.mpr (.inl hx)) (fun x hx => (List.mem_append.mp hx).elim (k.nb x) fun z => by rw [List.mem_singleton.mp z]; exact hn) (by rw [List.length_append, List.length_singleton]; omega)
end Nn
/-! towns: tells, way, ask -/
namespace Nn
open PySem L2
section
variable {P : Program} {w : World} {K : PySem.W.Frag} {mg : Str → Option Value} {base : Heap} {H H' : Hp} {Q : VK} {E : XK} {T : Tx K mg base} {A : TA} {F S : Addr → Prop} {m : TM}
def TM.tells (m : TM) (h g a : Nat) : Option (List Nat) := if m.aw h = true then some (nearN (m.keeps h) g m.room (some a)) else none
theorem TM.tells_some {N : List Nat} (k : m.Ok N) {h g a : Nat} {l : List Nat} (e : m.tells h g a = some l) : l.length ≤ 100 ∧ ∀ x ∈ l, x ∈ N := by
  unfold TM.tells at e
  split at e
  · rename_i haw
    cases e
    unfold nearN
    refine ⟨Nat.le_trans (List.length_take_le _ _) (Nat.le_trans k.r1 (by decide)), fun x hx => ?_⟩
    have q := (List.mem_filter.mp (mem_byN.mp (List.mem_of_mem_take hx))).1
    exact (k.tabOk (TM.aw_house haw)).mem (TM.mem_keeps.mp q)
  · cases e
theorem TM.tells_isSome {h g a : Nat} : (m.tells h g a).isSome = m.aw h := by
  unfold TM.tells
  cases m.aw h <;> rfl
theorem TM.tells_ne {h g a : Nat} (e : m.aw h = true) : m.tells h g a ≠ none := fun z => by
  have := TM.tells_isSome (m := m) (h := h) (g := g) (a := a)
  rw [z, e] at this; cases this
def sp_Town_tells (T : Tx K mg base) : Sp := fun vs H Q _ => ∃ (A : TA) (F : Addr → Prop) (m : TM) (N : List Nat) (h g a : Nat), vs = [.ref A.t, .int h, .int g, .int a] ∧ TownAt T H A F m ∧ m.Ok N ∧ ∀ v H', Ex H H' → AnsV K H' v (m.tells h g a) → (∀ p, v = .ref p → H p = none) → Q v H'
theorem wc_Town_tells {N : List Nat} {h g a : Nat} {i j k : Int} (hi : i = h) (hj : j = g) (hk : k = a) (t : TownAt T H A F m) (ok : m.Ok N) (q : ∀ v H', Ex H H' → AnsV K H' v (m.tells h g a) → (∀ p, v = .ref p → H p = none) → Q v H') : sp_Town_tells T [.ref A.t, .int i, .int j, .int k] H Q E := by
  subst hi hj hk; exact ⟨A, F, m, N, h, g, a, rfl, t, ok, q⟩
theorem ok_Town_tells (T : Tx K mg base) : FnOk P w K mg base CX0 4 T.a_Town_tells T.d_Town_tells ["self", "house", "goal", "asker"] (sp_Town_tells T) := by
  refine T.F_Town_tells.okD sc_Town_tells (fun vs H Q E h => ?_) (fun cdv A outer s H vs Q E hr h => ?_)
  · obtain ⟨A, F, m, N, h0, g, a, rfl, _⟩ := h; rfl
  · obtain ⟨A1, F, m, N, h0, g, a, rfl, t, k, q⟩ := h
    obtain ⟨dx, ob⟩ := t.tw.ob
    have hu := hu_of hr
    have td := t.tw.tb
    have c_Bucket := T.c_Bucket; have n_Bucket_room := T.n_Bucket_room; have n_Bucket_line := T.n_Bucket_line; have c_Table := T.c_Table; have n_Table_own := T.n_Table_own; have n_Table_wide := T.n_Table_wide; have n_Table_room := T.n_Table_room; have n_Table_buckets := T.n_Table_buckets; have c_Town := T.c_Town; have n_Town_wide := T.n_Town_wide; have n_Town_room := T.n_Town_room; have n_Town_tables := T.n_Town_tables; have n_Town_hushed := T.n_Town_hushed; have n_Town_shelves := T.n_Town_shelves; have n_Town_layings := T.n_Town_layings
    refine ⟨_, (pss_cons (ps_if (pt_not (pt_val (pe_meth (pv 0) T.c_Town T.t_Town_answers (ok_Town_answers T) (hr.mono (by decide)) T.b_Town_answers .nil pass0 (pa_cons (pv 1) pa_nil))))
      (pss_one (ps_ret pe_non))
      pss_nil)
      (pss_one (ps_ret (pe_meth (pe_dget hu (pe_fld (pv 0) rfl) (pv 1) (fun _ _ => rfl)) T.c_Table T.t_Table_nearest (ok_Table_nearest T) hr T.b_Table_nearest .nil pass0 (pa_cons (pv 2) (pa_cons (pe_fld (pv 0) rfl) (pa_cons (pv 3) pa_nil))))))), ?_⟩
    rw [Nn.st_Town_tells]; try rw [Nn.cxK]
    try rw [Nn.cxW]
    walk_at "wx"
    refine TwAt.ans rfl t ?_
    walk_at "wx"
    cases haw : m.aw h0 with
    | false =>
      walk_at "wx"
      have e : m.tells h0 g a = none := by unfold TM.tells; rw [haw]; rfl
      exact q .non H Ex.refl (by rw [e]; rfl) fun p z => by cases z
    | true =>
      have hm := TM.aw_house haw
      obtain ⟨t1, t2⟩ := t.tab h0 hm
      obtain ⟨dx1, bl1, bs1, hob1, _⟩ := t1.ob
      have e2 : valV (dOf m.houses fun h => .ref (A1.pa h)) (Sum.inl (h0 : Int)) = some (.ref (A1.pa h0)) := by
        have q := dOf_val (f := fun h => V.ref (A1.pa h)) (n := h0) (hs := m.houses)
        rw [if_pos hm] at q; exact q
      walk_at "wx"
      refine wc_Table_nearest (b := some a) t1 t2 (k.tabOk hm).nodup (k.keeps_len hm) rfl fun p H1 hp ex1 h1 => ?_
      have e : m.tells h0 g a = some (nearN (m.keeps h0) g m.room (some a)) := by unfold TM.tells; rw [haw]; rfl
      exact q (.ref p) H1 ex1 (by rw [e]; exact ⟨p, rfl, SqL.of h1⟩) fun p' z => by cases z; exact hp
/-- the promise of a function within a town's deed that tells -/
def sp_tellsT (T : Tx K mg base) : List (Option V) → Sp := fun ws vs H Q _ => ∃ (A : TA) (F : Addr → Prop) (m : TM) (N : List Nat) (h g a : Nat), ws = [some (.ref A.t)] ∧ vs = [.int h, .int g, .int a] ∧ TownAt T H A F m ∧ m.Ok N ∧ ∀ v H', Ex H H' → AnsV K H' v (m.tells h g a) → (∀ p, v = .ref p → H p = none) → Q v H'
/-- such a function of the town m at A -/
def telTown (T : Tx K mg base) (Z : Tel P w K mg base) (hz : Z.sp = sp_tellsT T) (A : TA) (F : Addr → Prop) (m : TM) (N : List Nat) (k : m.Ok N) (hN : N.length < 63) (cl : List (Str × Addr)) (f cd : Addr) : TelAt Z cl [some (.ref A.t)] f where
  cd := cd
  I := fun H _ => TownAt T H A F m ∧ H f = some (NdefX.FnO f (NdefX.NF.of Z.st Z.name Z.qual cl cd)) ∧ H cd = some (LamX.CodeO cd (NdefX.NF.of Z.st Z.name Z.qual cl cd).qual)
  FF := fun a => F a ∨ a = f ∨ a = cd
  S := fun _ => False
  tell := m.tells
  N := N
  fn := fun h => h.2
  fr := fun h fr hR => ⟨h.1.fr fr fun a z g => (hR a z).1 (.inl g), fr.at h.2.1 fun z => (hR _ z).1 (.inr (.inl rfl)), fr.at h.2.2 fun z => (hR _ z).1 (.inr (.inr rfl))⟩
  sub := fun _ z => z.elim
  live := fun h z => by
    rcases z with z | z | z
    · exact h.1.ex _ z
    · rw [z, h.2.1]; exact fun c => by cases c
    · rw [z, h.2.2]; exact fun c => by cases c
  nl := hN
  tl := fun h g a l e => TM.tells_some k e
  sil := fun h g a g' a' => by rw [TM.tells_isSome, TM.tells_isSome]
  say := fun {H cs h g a Q E} hI _ _ q => by
    rw [hz]
    refine ⟨A, F, m, N, h, g, a, rfl, rfl, hI.1, k, fun v H' ex ha _ => q v H' ex ⟨hI.1.ex' ex, ex.at hI.2.1, ex.at hI.2.2⟩ ha⟩
def sp_Town_way_tells (T : Tx K mg base) : List (Option V) → Sp := sp_tellsT T
theorem nok_Town_way_tells (T : Tx K mg base) {cl : List (Str × Addr)} {c : Addr} (f : Addr) : NdefX.NOk P w K mg base CX0 5 f (nf_Town_way_tells cl c) ["house", "aim", "asker"] fr_Town_way_tells (sp_Town_way_tells T) := by
  refine NdefX.nok_of (N := N_Town_way_tells) nsc_Town_way_tells (fun doc pm ctv us hl => match us, hl with | [_, _, _], _ => rfl) (fun ws vs H Q E h => ?_) (fun A outer s H vs ws Q E hr hf hc hwl h => ?_)
  · obtain ⟨A, F, m, N, h0, g, a, _, rfl, _⟩ := h; rfl
  · obtain ⟨A1, F, m, N, h0, g, a, rfl, rfl, t, k, q⟩ := h
    obtain ⟨dx, ob⟩ := t.tw.ob
    have c_Bucket := T.c_Bucket; have n_Bucket_room := T.n_Bucket_room; have n_Bucket_line := T.n_Bucket_line; have c_Table := T.c_Table; have n_Table_own := T.n_Table_own; have n_Table_wide := T.n_Table_wide; have n_Table_room := T.n_Table_room; have n_Table_buckets := T.n_Table_buckets; have c_Town := T.c_Town; have n_Town_wide := T.n_Town_wide; have n_Town_room := T.n_Town_room; have n_Town_tables := T.n_Town_tables; have n_Town_hushed := T.n_Town_hushed; have n_Town_shelves := T.n_Town_shelves; have n_Town_layings := T.n_Town_layings
    refine ⟨_, (pss_one (ps_ret (pe_meth (pv 3) T.c_Town T.t_Town_tells (ok_Town_tells T) hr T.b_Town_tells .nil pass0 (pa_cons (pv 0) (pa_cons (pv 1) (pa_cons (pv 2) pa_nil)))))), ?_⟩
    rw [Nn.st_Town_way_tells]; try rw [Nn.cxK]
    try rw [Nn.cxW]
    walk_at "wx"
    exact wc_Town_tells rfl rfl rfl t k q
abbrev tel_Town_way_tells (T : Tx K mg base) : Tel P w K mg base where
  st := s_Town_way_tells
  name := "tells"
  qual := (("Town.way" : Str) ++ ".<locals>.") ++ "tells"
  ps := ["house", "aim", "asker"]
  fr := fr_Town_way_tells
  sp := sp_Town_way_tells T
  ok := fun cl cd f => (nok_Town_way_tells T f).mono (by decide)
def sp_Town_way (T : Tx K mg base) : Sp := fun vs H Q _ => ∃ (A : TA) (F : Addr → Prop) (m : TM) (N : List Nat) (h g : Nat), vs = [.ref A.t, .int h, .int g] ∧ TownAt T H A F m ∧ m.Ok N ∧ N.length < 63 ∧ m.aw h = true ∧ g < 2 ^ m.wide ∧ NdefX.TabsN (tabsL T) H ∧
  ∀ p H', H p = none → Ex H H' → H' p = some (.lst ((wayN m.tells g h).map nV)) → Q (.ref p) H'
theorem wc_Town_way {N : List Nat} {h g : Nat} {i j : Int} (hi : i = h) (hj : j = g) (t : TownAt T H A F m) (k : m.Ok N) (hN : N.length < 63) (hm : m.aw h = true) (hg : g < 2 ^ m.wide) (tb : NdefX.TabsN (tabsL T) H) (q : ∀ p H', H p = none → Ex H H' → H' p = some (.lst ((wayN m.tells g h).map nV)) → Q (.ref p) H') : sp_Town_way T [.ref A.t, .int i, .int j] H Q E := by
  subst hi hj; exact ⟨A, F, m, N, h, g, rfl, t, k, hN, hm, hg, tb, q⟩
theorem ok_Town_way (T : Tx K mg base) : FnOk P w K mg base CX0 8 T.a_Town_way T.d_Town_way ["self", "start", "goal"] (sp_Town_way T) := by
  refine T.FC_Town_way.okC sc_Town_way (fun vs H Q E h => ?_) (fun A outer s H vs Q E hr h => ?_)
  · obtain ⟨A, F, m, N, h0, g, rfl, _⟩ := h; rfl
  · obtain ⟨A1, F, m, N, h0, g, rfl, t, k, hN, haw, hg, hT, q⟩ := h
    obtain ⟨dx, ob⟩ := t.tw.ob
    have hu := hu_of hr
    have c_Bucket := T.c_Bucket; have n_Bucket_room := T.n_Bucket_room; have n_Bucket_line := T.n_Bucket_line; have c_Table := T.c_Table; have n_Table_own := T.n_Table_own; have n_Table_wide := T.n_Table_wide; have n_Table_room := T.n_Table_room; have n_Table_buckets := T.n_Table_buckets; have c_Town := T.c_Town; have n_Town_wide := T.n_Town_wide; have n_Town_room := T.n_Town_room; have n_Town_tables := T.n_Town_tables; have n_Town_hushed := T.n_Town_hushed; have n_Town_shelves := T.n_Town_shelves; have n_Town_layings := T.n_Town_layings
    refine ⟨_, (pss_cons (ps_ndefA (st := s_Town_way_tells) (i := 3) rfl T.tb_Town_way rfl nm_Town_way_tells (NdefX.ndef_free ndB_Town_way_tells) rfl rfl rfl sc_Town_way.nd rfl (Or.inl rfl) (.inl rfl))
      (pss_cons (ps_expr (pe_meth (pv 0) T.c_Town T.t_Town_look_awake (ok_Town_look_awake T) (hr.mono (by decide)) T.b_Town_look_awake .nil pass0 (pa_cons (pv 1) pa_nil)))
      (pss_cons (ps_expr (pe_meth (pv 0) T.c_Town T.t_Town_look_named (ok_Town_look_named T) (hr.mono (by decide)) T.b_Town_look_named .nil pass0 (pa_cons (pv 2) pa_nil)))
      (pss_one (ps_ret (pe_callC (fun ws => ok_way T (tel_Town_way_tells T) ws) (Prov.own (js := [0]) fun ok => NdefX.Caps.made ok (NdefX.ndef_free ndB_Town_way_tells) (NdefX.ndef_fr ndB_Town_way_tells) rfl) hr rfl T.m_way_asks T.F_way.kp T.b_way .nil pass0 (pa_cons (pv 1) (pa_cons (pv 2) (pa_cons (pv 3) pa_nil))))))))), ?_⟩
    rw [Nn.st_Town_way]; try rw [Nn.cxK]
    try rw [Nn.cxW]
    walk_at "wx"
    refine ⟨hT _ tabm_Town_way, fun f cd H1 ex1 hf0 hf hcd => ?_⟩
    generalize L2.cloFrom _ _ _ = cl at hf hcd ⊢
    have hf : H1 f = some (NdefX.FnO f (nf_Town_way_tells cl cd)) := hf
    have hcd : H1 cd = some (LamX.CodeO cd (nf_Town_way_tells cl cd).qual) := hcd
    have t1 := t.ex' ex1
    obtain ⟨dx1, ob1⟩ := t1.tw.ob
    walk_at "wx"
    refine wc_Town_look_awake rfl t1 k.w1 (k.bd (TM.aw_house haw)) haw ?_
    walk_at "wx"
    refine wc_Town_look_named rfl t1 k.w1 hg ?_
    walk_at "wx"
    refine wc_way (telTown T (tel_Town_way_tells T) rfl A1 F m N k hN cl f cd) (cs := []) rfl rfl ⟨t1, hf, hcd⟩ (TM.tells_ne haw) (by simp) fun p H2 hp fr2 h2 nF hI2 => ?_
    have ex2 : Ex H1 H2 := fr2
    exact q p H2 (ex1.back p hp) (ex1.trans ex2) h2
def sp_Town_ask_tells (T : Tx K mg base) : List (Option V) → Sp := sp_tellsT T
theorem nok_Town_ask_tells (T : Tx K mg base) {cl : List (Str × Addr)} {c : Addr} (f : Addr) : NdefX.NOk P w K mg base CX0 5 f (nf_Town_ask_tells cl c) ["house", "aim", "asker"] fr_Town_ask_tells (sp_Town_ask_tells T) := by
  refine NdefX.nok_of (N := N_Town_ask_tells) nsc_Town_ask_tells (fun doc pm ctv us hl => match us, hl with | [_, _, _], _ => rfl) (fun ws vs H Q E h => ?_) (fun A outer s H vs ws Q E hr hf hc hwl h => ?_)
  · obtain ⟨A, F, m, N, h0, g, a, _, rfl, _⟩ := h; rfl
  · obtain ⟨A1, F, m, N, h0, g, a, rfl, rfl, t, k, q⟩ := h
    obtain ⟨dx, ob⟩ := t.tw.ob
    have c_Bucket := T.c_Bucket; have n_Bucket_room := T.n_Bucket_room; have n_Bucket_line := T.n_Bucket_line; have c_Table := T.c_Table; have n_Table_own := T.n_Table_own; have n_Table_wide := T.n_Table_wide; have n_Table_room := T.n_Table_room; have n_Table_buckets := T.n_Table_buckets; have c_Town := T.c_Town; have n_Town_wide := T.n_Town_wide; have n_Town_room := T.n_Town_room; have n_Town_tables := T.n_Town_tables; have n_Town_hushed := T.n_Town_hushed; have n_Town_shelves := T.n_Town_shelves; have n_Town_layings := T.n_Town_layings
    refine ⟨_, (pss_one (ps_ret (pe_meth (pv 3) T.c_Town T.t_Town_tells (ok_Town_tells T) hr T.b_Town_tells .nil pass0 (pa_cons (pv 0) (pa_cons (pv 1) (pa_cons (pv 2) pa_nil)))))), ?_⟩
    rw [Nn.st_Town_ask_tells]; try rw [Nn.cxK]
    try rw [Nn.cxW]
    walk_at "wx"
    exact wc_Town_tells rfl rfl rfl t k q
abbrev tel_Town_ask_tells (T : Tx K mg base) : Tel P w K mg base where
  st := s_Town_ask_tells
  name := "tells"
  qual := (("Town.ask" : Str) ++ ".<locals>.") ++ "tells"
  ps := ["house", "aim", "asker"]
  fr := fr_Town_ask_tells
  sp := sp_Town_ask_tells T
  ok := fun cl cd f => (nok_Town_ask_tells T f).mono (by decide)
def TM.askSt (m : TM) (start g : Nat) : AskSt := askEnd (fun h => m.tells h g start) start g m.room
def TM.askFd (m : TM) (start g : Nat) : List Nat := askFound (fun h => m.tells h g start) start g m.room
def TM.learn1 (start : Nat) (m : TM) (x : Nat × Option (List Nat)) : TM := match x.2 with
  | none => m.drops start x.1
  | some _ => (m.hears start x.1).hears x.1 start
def TM.learn (m : TM) (start g : Nat) : TM := (m.askSt start g).row.tail.foldl (TM.learn1 start) m
theorem TM.learn1_houses {start : Nat} {x : Nat × Option (List Nat)} : (TM.learn1 start m x).houses = m.houses := by
  unfold TM.learn1
  split
  · exact TM.setTab_houses
  · rw [TM.hears_houses, TM.hears_houses]
theorem TM.learn1_aw {start : Nat} {x : Nat × Option (List Nat)} : (TM.learn1 start m x).aw = m.aw := by
  unfold TM.learn1
  split
  · exact TM.setTab_aw
  · rw [TM.hears_aw, TM.hears_aw]
theorem TM.learn1_sizes {start : Nat} {x : Nat × Option (List Nat)} : (TM.learn1 start m x).wide = m.wide ∧ (TM.learn1 start m x).room = m.room ∧ (TM.learn1 start m x).hush = m.hush := by
  unfold TM.learn1
  split <;> exact ⟨rfl, rfl, rfl⟩
theorem TM.foldL_houses {start : Nat} : ∀ {l : List (Nat × Option (List Nat))} {m : TM}, (l.foldl (TM.learn1 start) m).houses = m.houses
  | [], _ => rfl
  | x :: r, m => by rw [List.foldl_cons, TM.foldL_houses (l := r), TM.learn1_houses]
theorem TM.foldL_aw {start : Nat} : ∀ {l : List (Nat × Option (List Nat))} {m : TM}, (l.foldl (TM.learn1 start) m).aw = m.aw
  | [], _ => rfl
  | x :: r, m => by rw [List.foldl_cons, TM.foldL_aw (l := r), TM.learn1_aw]
theorem TM.foldL_sizes {start : Nat} : ∀ {l : List (Nat × Option (List Nat))} {m : TM}, (l.foldl (TM.learn1 start) m).wide = m.wide ∧ (l.foldl (TM.learn1 start) m).room = m.room ∧ (l.foldl (TM.learn1 start) m).hush = m.hush
  | [], _ => ⟨rfl, rfl, rfl⟩
  | x :: r, m => by
    rw [List.foldl_cons]
    obtain ⟨a, b, c⟩ := TM.foldL_sizes (start := start) (l := r) (m := TM.learn1 start m x)
    obtain ⟨a', b', c'⟩ := TM.learn1_sizes (m := m) (start := start) (x := x)
    exact ⟨a.trans a', b.trans b', c.trans c'⟩
theorem TM.Ok.learn1 {N : List Nat} {start : Nat} {x : Nat × Option (List Nat)} (k : m.Ok N) (hs : start ∈ N) (hx : x.1 ∈ N) : (TM.learn1 start m x).Ok N := by
  unfold TM.learn1
  split
  · exact k.drops
  · exact (k.hears hx).hears hs
theorem TM.Ok.foldL {N : List Nat} {start : Nat} (hs : start ∈ N) : ∀ {l : List (Nat × Option (List Nat))} {m : TM}, m.Ok N → (∀ x ∈ l, x.1 ∈ N) → (l.foldl (TM.learn1 start) m).Ok N
  | [], _, k, _ => k
  | x :: r, m, k, h => by
    rw [List.foldl_cons]
    exact TM.Ok.foldL hs (l := r) (k.learn1 hs (h x (by simp))) fun y hy => h y (List.mem_cons_of_mem _ hy)
theorem TM.askSt_ok {N : List Nat} (k : m.Ok N) {start g : Nat} (haw : m.aw start = true) : (m.askSt start g).Ok (fun h => m.tells h g start) start N :=
  askEnd_ok (TM.tells_ne haw) fun _ _ e => TM.tells_some k e
theorem TM.ask_mem {N : List Nat} (k : m.Ok N) {start g : Nat} (haw : m.aw start = true) {x : Nat × Option (List Nat)} (hx : x ∈ (m.askSt start g).row) : x.1 ∈ N ∧ x.2 = m.tells x.1 g start := by
  have q := TM.askSt_ok k (g := g) haw
  refine ⟨?_, q.rt x hx⟩
  rcases q.dn x.1 (List.mem_map.mpr ⟨x, hx, rfl⟩) with z | z
  · rw [z]; exact k.hN _ (TM.aw_house haw)
  · exact z
theorem TM.Ok.learn {N : List Nat} (k : m.Ok N) {start g : Nat} (haw : m.aw start = true) : (m.learn start g).Ok N :=
  TM.Ok.foldL (k.hN _ (TM.aw_house haw)) k fun x hx => (TM.ask_mem k haw (List.mem_of_mem_tail hx)).1
theorem TM.learn_houses {start g : Nat} : (m.learn start g).houses = m.houses := TM.foldL_houses
theorem TM.learn_aw {start g : Nat} : (m.learn start g).aw = m.aw := TM.foldL_aw
theorem TM.learn_sizes {start g : Nat} : (m.learn start g).wide = m.wide ∧ (m.learn start g).room = m.room ∧ (m.learn start g).hush = m.hush := TM.foldL_sizes
def sp_Town_ask (T : Tx K mg base) : Sp := fun vs H Q _ => ∃ (A : TA) (F : Addr → Prop) (m : TM) (N : List Nat) (h g : Nat), vs = [.ref A.t, .int h, .int g] ∧ TownAt T H A F m ∧ m.Ok N ∧ N.length < 63 ∧ m.aw h = true ∧ g < 2 ^ m.wide ∧ NdefX.TabsN (tabsL T) H ∧
  ∀ p r fd es H', Fr F H H' → H p = none → H' p = some (.tup [.ref r, .ref fd]) → RowAt H H' r es (m.askSt h g).row → H fd = none → H' fd = some (.lst ((m.askFd h g).map nV)) → (∀ e ∈ es, e.2 ≠ some fd) → TownAt T H' A F (m.learn h g) → Q (.ref p) H'
theorem wc_Town_ask {N : List Nat} {h g : Nat} {i j : Int} (hi : i = h) (hj : j = g) (t : TownAt T H A F m) (k : m.Ok N) (hN : N.length < 63) (hm : m.aw h = true) (hg : g < 2 ^ m.wide) (tb : NdefX.TabsN (tabsL T) H) (q : ∀ p r fd es H', Fr F H H' → H p = none → H' p = some (.tup [.ref r, .ref fd]) → RowAt H H' r es (m.askSt h g).row → H fd = none → H' fd = some (.lst ((m.askFd h g).map nV)) → (∀ e ∈ es, e.2 ≠ some fd) → TownAt T H' A F (m.learn h g) → Q (.ref p) H') : sp_Town_ask T [.ref A.t, .int i, .int j] H Q E := by
  subst hi hj; exact ⟨A, F, m, N, h, g, rfl, t, k, hN, hm, hg, tb, q⟩
theorem ok_Town_ask (T : Tx K mg base) : FnOk P w K mg base CX0 7 T.a_Town_ask T.d_Town_ask ["self", "start", "goal"] (sp_Town_ask T) := by
  refine T.FC_Town_ask.okC sc_Town_ask (fun vs H Q E h => ?_) (fun A outer s H vs Q E hr h => ?_)
  · obtain ⟨A, F, m, N, h0, g, rfl, _⟩ := h; rfl
  · obtain ⟨A1, F, m, N, h0, g, rfl, t, k, hN, haw, hg, hT, q⟩ := h
    obtain ⟨dx, ob⟩ := t.tw.ob
    have hu := hu_of hr
    have c_Bucket := T.c_Bucket; have n_Bucket_room := T.n_Bucket_room; have n_Bucket_line := T.n_Bucket_line; have c_Table := T.c_Table; have n_Table_own := T.n_Table_own; have n_Table_wide := T.n_Table_wide; have n_Table_room := T.n_Table_room; have n_Table_buckets := T.n_Table_buckets; have c_Town := T.c_Town; have n_Town_wide := T.n_Town_wide; have n_Town_room := T.n_Town_room; have n_Town_tables := T.n_Town_tables; have n_Town_hushed := T.n_Town_hushed; have n_Town_shelves := T.n_Town_shelves; have n_Town_layings := T.n_Town_layings
    refine ⟨_, (pss_cons (ps_ndefA (st := s_Town_ask_tells) (i := 3) rfl T.tb_Town_ask rfl nm_Town_ask_tells (NdefX.ndef_free ndB_Town_ask_tells) rfl rfl rfl sc_Town_ask.nd rfl (Or.inl rfl) (.inl rfl))
      (pss_cons (ps_expr (pe_meth (pv 0) T.c_Town T.t_Town_look_awake (ok_Town_look_awake T) (hr.mono (by decide)) T.b_Town_look_awake .nil pass0 (pa_cons (pv 1) pa_nil)))
      (pss_cons (ps_expr (pe_meth (pv 0) T.c_Town T.t_Town_look_named (ok_Town_look_named T) (hr.mono (by decide)) T.b_Town_look_named .nil pass0 (pa_cons (pv 2) pa_nil)))
      (pss_cons (ps_asg (pe_callC (fun ws => ok_asked T (tel_Town_ask_tells T) ws) (Prov.own (js := [0]) fun ok => NdefX.Caps.made ok (NdefX.ndef_free ndB_Town_ask_tells) (NdefX.ndef_fr ndB_Town_ask_tells) rfl) hr rfl T.m_asked T.F_asked.kp T.b_asked .nil pass0 (pa_cons (pv 1) (pa_cons (pv 2) (pa_cons (pe_fld (pv 0) rfl) (pa_cons (pv 3) pa_nil))))) (pg_tup (n := 2) rfl (pgs_cons (pg_name (i := 4) sc_Town_ask.nd rfl (Or.inl rfl)) (pgs_cons (pg_name (i := 5) sc_Town_ask.nd rfl (Or.inl rfl)) pgs_nil))))
      (pss_cons (ps_for PassesOwn.never rfl (pi_list (pe_slice sl_list (pv 4) (po_some pe_int) po_none)) (pg_tup (n := 2) rfl (pgs_cons (pg_name (i := 6) sc_Town_ask.nd rfl (Or.inl rfl)) (pgs_cons (pg_name (i := 7) sc_Town_ask.nd rfl (Or.inl rfl)) pgs_nil)))
      (pss_one (ps_if (pt_cmpR op_isNn (pv 7) pe_non (nomark _))
      (pss_one (ps_expr (pe_meth (pe_dget hu (pe_fld (pv 0) rfl) (pv 1) (fun _ _ => rfl)) T.c_Table T.t_Table_drops (ok_Table_drops T) (hr.mono (by decide)) T.b_Table_drops .nil pass0 (pa_cons (pv 6) pa_nil))))
      (pss_cons (ps_expr (pe_meth (pv 0) T.c_Town T.t_Town_hears (ok_Town_hears T) (hr.mono (by decide)) T.b_Town_hears .nil pass0 (pa_cons (pv 1) (pa_cons (pv 6) pa_nil))))
      (pss_one (ps_expr (pe_meth (pv 0) T.c_Town T.t_Town_hears (ok_Town_hears T) (hr.mono (by decide)) T.b_Town_hears .nil pass0 (pa_cons (pv 6) (pa_cons (pv 1) pa_nil)))))))))
      (pss_one (ps_ret (pe_tup (pa_cons (pv 4) (pa_cons (pv 5) pa_nil)))))))))), ?_⟩
    rw [Nn.st_Town_ask]; try rw [Nn.cxK]
    try rw [Nn.cxW]
    walk_at "wx"
    refine ⟨hT _ tabm_Town_ask, fun f cd H1 ex1 hf0 hf hcd => ?_⟩
    generalize L2.cloFrom _ _ _ = cl at hf hcd ⊢
    have hf : H1 f = some (NdefX.FnO f (nf_Town_ask_tells cl cd)) := hf
    have hcd : H1 cd = some (LamX.CodeO cd (nf_Town_ask_tells cl cd).qual) := hcd
    have t1 := t.ex' ex1
    obtain ⟨dx1, ob1⟩ := t1.tw.ob
    walk_at "wx"
    refine wc_Town_look_awake rfl t1 k.w1 (k.bd (TM.aw_house haw)) haw ?_
    walk_at "wx"
    refine wc_Town_look_named rfl t1 k.w1 hg ?_
    walk_at "wx"
    refine wc_asked (telTown T (tel_Town_ask_tells T) rfl A1 F m N k hN cl f cd) (cs := []) rfl rfl rfl ⟨t1, hf, hcd⟩ (TM.tells_ne haw) (by simp) fun p r fd es H2 fr2 hp h2 ra2 hfd2 h2f nes hI2 => ?_
    have ex2 : Ex H1 H2 := fr2
    have t2 := t1.ex' ex2
    have ra2 : RowAt H1 H2 r es (m.askSt h0 g).row := ra2
    have h2f : H2 fd = some (.lst ((m.askFd h0 g).map nV)) := h2f
    have ok2 := TM.askSt_ok k (g := g) haw
    have hrl := ok2.len
    clear hf hcd hI2
    walk_at "wx"
    refine x_slL (SqL.of ra2.ro) fun q3 hq3 => ?_
    have ecd : cutV (es.map fun e => V.ref e.1) (some 1) none = (es.map fun e => V.ref e.1).drop 1 := cut_drop (k := 1)
    rw [ecd]
    have ex3 := Ex.new (o := .lst ((es.map fun e => V.ref e.1).drop 1)) hq3
    have h3q := upd_same (H := H2) (a := q3) (o := .lst ((es.map fun e => V.ref e.1).drop 1))
    have ra3 : RowAt H1 (upd H2 q3 (.lst ((es.map fun e => V.ref e.1).drop 1))) r es (m.askSt h0 g).row := ra2.fr ex3 fun _ z => z.elim
    have nF3 : ¬ F q3 := fun z => t2.ex q3 z hq3
    have t3 := t2.ex' ex3
    have h3f := ex3.at h2f
    have hT3 := Fr.tabs ((ex1.trans ex2).trans ex3) hT
    generalize upd H2 q3 (.lst ((es.map fun e => V.ref e.1).drop 1)) = H3 at ex3 h3q ra3 t3 h3f hT3 ⊢
    have ex13 := ex2.trans ex3
    clear h2 h2f t2 hq3 ex2 ex3
    have hsN := k.hN _ (TM.aw_house haw)
    have hsh := TM.aw_house haw
    walk_at "wx"
    refine ForW.by walk_list (fun i σ H' => ∃ (v6 v7 : Option V), σ = [some (.ref A1.t), some (.int h0), some (.int g), some (.ref f), some (.ref r), some (.ref fd), v6, v7] ∧ Fr F H3 H' ∧ H' q3 = some (.lst ((es.map fun e => V.ref e.1).drop 1)) ∧ TownAt T H' A1 F (((m.askSt h0 g).row.tail.take i).foldl (TM.learn1 h0) m))
      ⟨_, _, rfl, Fr.refl, h3q, t3⟩ (fun i σ H' _ ⟨_, _, _, _, e, _⟩ => SqL.of e) ?_ ?_
    · rintro i y σ _ H4 hi ⟨v6, v7, rfl, fr4, h4q, t4⟩ ⟨rfl, hy⟩
      obtain ⟨e, he, rfl⟩ : ∃ e, es[i + 1]? = some e ∧ y = .ref e.1 := by
        rw [List.getElem?_drop, List.getElem?_map, Nat.add_comm] at hy
        cases q : es[i + 1]? with
        | none => rw [q] at hy; cases hy
        | some e => rw [q] at hy; exact ⟨e, rfl, (Option.some.inj hy).symm⟩
      have hr1 : i + 1 < (m.askSt h0 g).row.length := by rw [← ra2.len]; exact (List.getElem?_eq_some_iff.mp he).1
      have re := (ra3.fr fr4 fun b z => t1.ex b z).at_ (i + 1) e _ he (List.getElem?_eq_getElem hr1)
      have hmem := TM.ask_mem k haw (List.getElem_mem hr1)
      have et : (m.askSt h0 g).row.tail.take (i + 1) = (m.askSt h0 g).row.tail.take i ++ [(m.askSt h0 g).row[i + 1]] := by
        rw [List.take_add_one, List.getElem?_tail, List.getElem?_eq_getElem hr1]; rfl
      rw [et, List.foldl_append]
      have k4 : (((m.askSt h0 g).row.tail.take i).foldl (TM.learn1 h0) m).Ok N := TM.Ok.foldL hsN k fun x hx => (TM.ask_mem k haw (List.mem_of_mem_tail (List.mem_of_mem_take hx))).1
      have hh4 : (((m.askSt h0 g).row.tail.take i).foldl (TM.learn1 h0) m).houses = m.houses := TM.foldL_houses
      generalize (m.askSt h0 g).row[i + 1] = x at re hmem et
      generalize ((m.askSt h0 g).row.tail.take i).foldl (TM.learn1 h0) m = m4 at t4 k4 hh4 ⊢
      have e1 : [x].foldl (TM.learn1 h0) m4 = TM.learn1 h0 m4 x := rfl
      rw [e1]
      obtain ⟨e1, e2⟩ := e
      obtain ⟨x1, x2⟩ := x
      have tp := re.tp
      have hrno := re.no
      have hrso := re.so
      clear re he et e1 hy hi
      obtain ⟨dx4, ob4⟩ := t4.tw.ob
      have td4 := t4.tw.tb
      have hT4 := Fr.tabs fr4 hT3
      have hxN : x1 ∈ N := hmem.1
      cases x2 with
      | none =>
        obtain rfl : e2 = none := hrno rfl
        obtain ⟨ta4, L4⟩ := t4.tab h0 (by rw [hh4]; exact hsh)
        obtain ⟨dxt, bl, bs, hobt, _⟩ := ta4.ob
        have ev : valV (dOf m4.houses fun h => .ref (A1.pa h)) (Sum.inl (h0 : Int)) = some (.ref (A1.pa h0)) := by
          have q := dOf_val (f := fun h => V.ref (A1.pa h)) (n := h0) (hs := m4.houses)
          rw [if_pos (by rw [hh4]; exact hsh)] at q; exact q
        have eo : oA none = .non := rfl
        have tp : H4 e1 = some (.tup [nV x1, .non]) := tp
        walk_at "wx"
        refine wc_Table_drops ta4 L4 (k4.nb _ hsN) (k4.nb _ hxN) fun H5 fr5 L5 => ?_
        refine ⟨_, _, rfl, fr4.trans (fr5.mono fun a z => (t4.own h0 (by rw [hh4]; exact hsh)).2.2 a z), fr5.at h4q fun z => nF3 ((t4.own h0 (by rw [hh4]; exact hsh)).2.2 _ z), t4.line fr5 (fun a z => z) (by rw [hh4]; exact hsh) L5⟩
      | some l =>
        obtain ⟨a, rfl, _⟩ := hrso l rfl
        have hxaw : m.aw x1 = true := by
          have q := TM.tells_isSome (m := m) (h := x1) (g := g) (a := h0)
          have z : some l = m.tells x1 g h0 := hmem.2
          rw [← z] at q; exact q.symm
        have tp : H4 e1 = some (.tup [nV x1, .ref a]) := tp
        walk_at "wx"
        refine wc_Town_hears rfl rfl t4 k4 (by rw [hh4]; exact hsh) hxN hT4 fun z5 H5 fr5 t5 => ?_
        obtain ⟨dx5, ob5⟩ := t5.tw.ob
        walk_at "wx"
        refine wc_Town_hears rfl rfl t5 (k4.hears hxN) (by rw [TM.hears_houses, hh4]; exact TM.aw_house hxaw) hsN (Fr.tabs fr5 hT4) fun z6 H6 fr6 t6 => ?_
        exact ⟨_, _, rfl, (fr4.trans fr5).trans fr6, fr6.at (fr5.at h4q nF3) nF3, t6⟩
    · rintro σ H4 ⟨v6, v7, rfl, fr4, h4q, t4⟩
      have etk : (m.askSt h0 g).row.tail.take ((es.map fun e => V.ref e.1).drop 1).length = (m.askSt h0 g).row.tail := by
        rw [List.length_drop, List.length_map, ra2.len, ← List.length_tail, List.take_length]
      rw [etk] at t4
      walk_at "wx"
      refine ⟨len_ok rfl, fun p4 hp4 => ?_⟩
      have exp := Ex.new (o := .tup [V.ref r, V.ref fd]) hp4
      have fr5 : Fr F H1 H4 := ex13.fr.trans fr4
      have ra5 := (ra3.fr fr4 fun b z => t1.ex b z).fr exp fun _ z => z.elim
      have nFf : ¬ F fd := fun z => t1.ex fd z hfd2
      refine q p4 r fd es _ ((ex1.fr.trans fr5).trans exp.fr) (ex1.back p4 (fr5.back p4 hp4)) upd_same ?_ (ex1.back fd hfd2) (exp.at (fr4.at h3f nFf)) nes (t4.ex' exp)
      refine ⟨ra5.ro, ra5.len, fun i e x he hx => ?_, ra5.nd, ra5.r0, ex1.back r ra5.nr⟩
      have z := ra5.at_ i e x he hx
      exact ⟨z.tp, ex1.back _ z.n1, fun l q => by
        obtain ⟨a, b1, b2, b3⟩ := z.so l q
        exact ⟨a, b1, b2, ex1.back a b3⟩, z.no⟩
end
end Nn
/-! comprehensions over whatever walks; the last of a list -/
namespace Nn
open PySem L2
section
variable {K : PySem.W.Frag} {H : Hp} {Q : VK}
theorem LcW.any {J : It} {n : Nat} {G : Hp → Prop} {Y : Nat → Hp → V → Hp → Prop} {g : TG} {te : TE} {vs : List Nat} {σ : L2.St} (w : Walk J n G Y) (hz : n < sizeLine) (f : Nat → V) (hG : ∀ H', Ex H H' → G H')
    (hs : ∀ i x H1 H2, i < n → Ex H H1 → Y i H1 x H2 → ∀ Qe : VK, (∀ H'', Ex H1 H'' → Qe (f i) H'') → g x (wipe σ vs) H2 fun σ2 H3 => wipe σ2 vs = wipe σ vs ∧ te σ2 H3 Qe)
    (hk : ∀ D H', H D = none → Ex H H' → H' D = some (.lst ((List.range n).map f)) → Q (.ref D) H') : LcW g tYes te vs σ Q J H := by
  intro D hD
  refine lc_it w (Qd := fun H' => Q (.ref D) H') (fun i H' => Ex H H' ∧ H' D = some (.lst ((List.range i).map f))) ⟨Ex.new hD, by rw [upd_same]; rfl⟩ (fun i H' _ h => hG H' h.1) ?_ ?_
  · rintro i x H1 H2 hi ⟨ex, h1⟩ y
    exact hs i x H1 H2 hi ex y _ fun H'' ex2 => ⟨_, ex2.at h1, by rw [List.length_map, List.length_range]; omega, (ex.trans ex2).mut hD (ex2.at h1), by rw [upd_same, List.range_succ, List.map_append]; rfl⟩
  · rintro H1 ⟨ex, h1⟩
    exact hk D H1 hD ex h1
theorem range_getD {n : Nat} {l : List Nat} (h : n = l.length) : ((List.range n).map fun i => nV (l.getD i 0)) = l.map nV := by
  subst h
  refine List.ext_getElem (by simp) fun i h1 h2 => ?_
  have h3 : i < l.length := by simpa using h2
  simp [List.getD_eq_getElem?_getD, List.getElem?_eq_getElem h3]
theorem range_true {n : Nat} : ((List.range n).map fun _ => V.bl true) = ((List.range n).map fun _ => true).map V.bl := by rw [List.map_map]; rfl
theorem all_true {n : Nat} : (((List.range n).map fun _ => true).all id) = true := List.all_eq_true.mpr fun x hx => by
  obtain ⟨_, _, rfl⟩ := List.mem_map.mp hx; rfl
theorem atI_lastN {l : List Nat} {n : Nat} (h : l.getLast? = some n) : atI (l.map nV) (-1) = some (nV n) := by
  obtain ⟨pre, rfl⟩ := List.getLast?_eq_some_iff.mp h
  rw [List.map_append]
  exact atI_last (pre.map nV) (nV n)
theorem x_slTo {p : Addr} {l : List Nat} {m : Nat} {i : Int} (hi : i = m) (hS : SqL K H p (l.map nV)) (h : ∀ (q : Addr) (H' : Hp), H q = none → Ex H H' → H' q = some (.lst ((l.take m).map nV)) → Q (.ref q) H') : rSlL K (.ref p) none (some i) H Q := by
  subst hi
  refine x_slL hS fun q hq => ?_
  rw [cut_take, ← List.map_take]
  exact h q _ hq (Ex.new hq) upd_same
theorem x_slFrom {p : Addr} {l : List Nat} {m : Nat} {i : Int} (hi : i = m) (hS : SqL K H p (l.map nV)) (h : ∀ (q : Addr) (H' : Hp), H q = none → Ex H H' → H' q = some (.lst ((l.drop m).map nV)) → Q (.ref q) H') : rSlL K (.ref p) (some i) none H Q := by
  subst hi
  refine x_slL hS fun q hq => ?_
  rw [cut_drop, ← List.map_drop]
  exact h q _ hq (Ex.new hq) upd_same
theorem x_slInit {p : Addr} {l : List Nat} (hS : SqL K H p (l.map nV)) (h : ∀ (q : Addr) (H' : Hp), H q = none → Ex H H' → H' q = some (.lst (l.dropLast.map nV)) → Q (.ref q) H') : rSlL K (.ref p) none (some (-1)) H Q := by
  refine x_slL hS fun q hq => ?_
  rw [cut_init, ← List.map_dropLast]
  exact h q _ hq (Ex.new hq) upd_same
end
end Nn
namespace Nn
open PySem L2
theorem Ex.new' {H H' : Hp} {p : Addr} {o : HO} (h : H p = none) (e : upd H p o = H') : Ex H H' := by rw [← e]; exact Ex.new h
theorem new_at {H H' : Hp} {p : Addr} {o : HO} (e : upd H p o = H') : H' p = some o := by rw [← e]; exact upd_same
end Nn
namespace Nn
open PySem L2
theorem x_allB {K : PySem.W.Frag} {H : Hp} {Q : VK} {a : Addr} {bs : List Bool} (hS : SqL K H a (bs.map V.bl)) (h : Q (.bl (bs.all id)) H) : rAll K [.ref a] H Q := ⟨a, bs, rfl, hS, h⟩
end Nn
/-! markets: towns whose houses keep things -/
namespace Nn
open PySem L2
/-- what a market keeps: where the shelves lie; each house's keys in order, by house and key the thing's number; how many things were laid, where they lie, their texts -/
structure SM where
  sa : Nat → Addr
  ks : Nat → List Nat
  vl : Nat → Nat → Nat
  n : Nat
  ta : Nat → Addr
  tx : Nat → Str
def SM.add (S : SM) (h : Nat) (p : Addr) : SM := { S with sa := fun x => if x = h then p else S.sa x, ks := fun x => if x = h then [] else S.ks x }
def SM.put1 (S : SM) (g i h : Nat) : SM := { S with ks := fun x => if x = h then (if g ∈ S.ks h then S.ks h else S.ks h ++ [g]) else S.ks x, vl := fun x k => if x = h then (if k = g then i else S.vl h k) else S.vl x k }
def SM.put (S : SM) (l : List Nat) (g i : Nat) : SM := l.foldl (fun S h => S.put1 g i h) S
def SM.laid (S : SM) (p : Addr) (z : Str) : SM := { S with n := S.n + 1, ta := fun i => if i = S.n then p else S.ta i, tx := fun i => if i = S.n then z else S.tx i }
theorem SM.put_snoc {S : SM} {l : List Nat} {g i h : Nat} : S.put (l ++ [h]) g i = (S.put l g i).put1 g i h := by unfold SM.put; rw [List.foldl_append]; rfl
theorem SM.put_same {g i : Nat} : ∀ {l : List Nat} {S : SM}, (S.put l g i).n = S.n ∧ (S.put l g i).ta = S.ta ∧ (S.put l g i).tx = S.tx ∧ (S.put l g i).sa = S.sa
  | [], _ => ⟨rfl, rfl, rfl, rfl⟩
  | h :: l, S => SM.put_same (l := l) (S := S.put1 g i h)
theorem dOf_set {hs : List Nat} {f : Nat → V} {n : Nat} {v : V} : putK (dOf hs f) (nK n) v = dOf (if n ∈ hs then hs else hs ++ [n]) fun x => if x = n then v else f x := by
  by_cases h : n ∈ hs
  · rw [if_pos h]
    unfold putK
    rw [if_pos (by rw [valV_any, dOf_val, if_pos h]; rfl)]
    unfold dOf
    rw [List.map_map]
    refine List.map_congr_left fun k _ => ?_
    show (if nK k = nK n then (nK k, v) else (nK k, f k)) = (nK k, if k = n then v else f k)
    by_cases q : k = n
    · rw [if_pos (by rw [q]), if_pos q]
    · rw [if_neg fun z => q (nK_inj z), if_neg q]
  · rw [if_neg h, dOf_congr (g := fun x => if x = n then v else f x) fun x hx => (if_neg fun (z : x = n) => h (by rw [← z]; exact hx)).symm]
    have q := dOf_new (f := fun x => if x = n then v else f x) h
    rw [if_pos rfl] at q
    exact q
section
variable {P : Program} {w : World} {K : PySem.W.Frag} {mg : Str → Option Value} {base : Heap} {H H' : Hp} {Q : VK} {E : XK} {T : Tx K mg base} {A : TA} {F G X : Addr → Prop} {m : TM} {S : SM}
/-- a market: the town m at A, all of it of F; its shelves, of G -/
structure MkAt (T : Tx K mg base) (H : Hp) (A : TA) (F G : Addr → Prop) (m : TM) (S : SM) : Prop where
  ta : TownAt T H A F m
  cn : A.x.2 = S.n
  sh : H A.x.1 = some (.dK (dOf m.houses fun h => .ref (S.sa h)))
  sd : ∀ h ∈ m.houses, H (S.sa h) = some (.dK (dOf (S.ks h) fun k => .ref (S.ta (S.vl h k))))
  th : ∀ i, i < S.n → H (S.ta i) = some (.tup [nV i, .str (S.tx i)])
  nd : ∀ h ∈ m.houses, (S.ks h).Nodup
  lt : ∀ h ∈ m.houses, ∀ k ∈ S.ks h, S.vl h k < S.n
  gx : G A.x.1
  gs : ∀ h ∈ m.houses, G (S.sa h)
  nx : ∀ h ∈ m.houses, S.sa h ≠ A.x.1
  ij : ∀ h1 ∈ m.houses, ∀ h2 ∈ m.houses, S.sa h1 = S.sa h2 → h1 = h2
  fg : ∀ a, F a → ¬ G a
  ft : ∀ i, i < S.n → ¬ F (S.ta i) ∧ ¬ G (S.ta i)
  ex : ∀ a, G a → H a ≠ none
/-- all that is the market's own -/
def Own (F G : Addr → Prop) (S : SM) (a : Addr) : Prop := F a ∨ G a ∨ ∃ i, i < S.n ∧ a = S.ta i
theorem MkAt.live (t : MkAt T H A F G m S) {a : Addr} (h : Own F G S a) : H a ≠ none := by
  rcases h with h | h | ⟨i, hi, rfl⟩
  · exact t.ta.ex a h
  · exact t.ex a h
  · rw [t.th i hi]; exact fun z => by cases z
theorem MkAt.fr (t : MkAt T H A F G m S) (f : Fr X H H') (h : ∀ a, X a → ¬ Own F G S a) : MkAt T H' A F G m S :=
  ⟨t.ta.fr f fun a z y => h a z (.inl y), t.cn, f.at t.sh fun z => h _ z (.inr (.inl t.gx)), fun k hk => f.at (t.sd k hk) fun z => h _ z (.inr (.inl (t.gs k hk))), fun i hi => f.at (t.th i hi) fun z => h _ z (.inr (.inr ⟨i, hi, rfl⟩)), t.nd, t.lt, t.gx, t.gs, t.nx, t.ij, t.fg, t.ft, fun a z e => t.ex a z (f.back a e)⟩
theorem MkAt.ex' (t : MkAt T H A F G m S) (f : Ex H H') : MkAt T H' A F G m S := t.fr f fun _ z => False.elim z
/-- the town goes on, the shelves stay -/
theorem MkAt.town {A' : TA} {F' : Addr → Prop} {m' : TM} (t : MkAt T H A F G m S) (f : Fr F H H') (ta : TownAt T H' A' F' m') (hx : A'.x = A.x) (hF : ∀ a, F' a → F a ∨ H a = none) (hh : m'.houses = m.houses) : MkAt T H' A' F' G m' S := by
  refine ⟨ta, by rw [hx]; exact t.cn, by rw [hx, hh]; exact f.at t.sh fun z => t.fg _ z t.gx, fun k hk => ?_, fun i hi => f.at (t.th i hi) (t.ft i hi).1, by rw [hh]; exact t.nd, by rw [hh]; exact t.lt, by rw [hx]; exact t.gx, by rw [hh]; exact t.gs, by rw [hh, hx]; exact t.nx, by rw [hh]; exact t.ij, fun a z y => (hF a z).elim (fun q => t.fg a q y) fun q => t.ex a y q, fun i hi => ⟨fun z => (hF _ z).elim (t.ft i hi).1 fun q => (by rw [t.th i hi] at q; cases q), (t.ft i hi).2⟩, fun a z e => t.ex a z (f.back a e)⟩
  rw [hh] at hk
  exact f.at (t.sd k hk) fun z => t.fg _ z (t.gs k hk)
/-- one shelf changes: a key gets a thing -/
theorem MkAt.put1 {h g i : Nat} (t : MkAt T H A F G m S) (hm : h ∈ m.houses) (hi : i < S.n) (f : Fr (fun a => a = S.sa h) H H') (e : H' (S.sa h) = some (.dK (putK (dOf (S.ks h) fun k => .ref (S.ta (S.vl h k))) (nK g) (.ref (S.ta i))))) : MkAt T H' A F G m (S.put1 g i h) := by
  have ek : ∀ {x}, x = h → (S.put1 g i h).ks x = if g ∈ S.ks h then S.ks h else S.ks h ++ [g] := fun z => if_pos z
  have en : ∀ {x}, x ≠ h → (S.put1 g i h).ks x = S.ks x := fun z => if_neg z
  refine ⟨t.ta.fr f fun a z y => t.fg a y (by rw [z]; exact t.gs h hm), t.cn, f.at t.sh fun z => t.nx h hm z.symm, fun k hk => ?_, fun j hj => f.at (t.th j hj) fun z => (t.ft j hj).2 (by rw [show S.ta j = S.sa h from z]; exact t.gs h hm), fun k hk => ?_, fun k hk x hx => ?_, t.gx, t.gs, t.nx, t.ij, t.fg, t.ft, fun a z y => t.ex a z (f.back a y)⟩
  · by_cases z : k = h
    · subst z
      rw [ek rfl]
      show H' (S.sa k) = _
      rw [e, dOf_set]
      refine congrArg (fun d => some (HO.dK d)) (dOf_congr fun x _ => ?_)
      show (if x = g then V.ref (S.ta i) else V.ref (S.ta (S.vl k x))) = V.ref (S.ta (if k = k then (if x = g then i else S.vl k x) else S.vl k x))
      rw [if_pos rfl]
      by_cases y : x = g
      · rw [if_pos y, if_pos y]
      · rw [if_neg y, if_neg y]
    · rw [en z]
      show H' (S.sa k) = _
      rw [f.at (t.sd k hk) fun y => z (t.ij k hk h hm y)]
      refine congrArg (fun d => some (HO.dK d)) (dOf_congr fun x _ => ?_)
      show V.ref (S.ta (S.vl k x)) = V.ref (S.ta (if k = h then (if x = g then i else S.vl h x) else S.vl k x))
      rw [if_neg z]
  · by_cases z : k = h
    · rw [ek z]
      by_cases y : g ∈ S.ks h
      · rw [if_pos y]; exact t.nd h hm
      · rw [if_neg y]; exact nd_snoc (t.nd h hm) y
    · rw [en z]; exact t.nd k hk
  · show (if k = h then (if x = g then i else S.vl h x) else S.vl k x) < S.n
    by_cases z : k = h
    · rw [if_pos z]
      by_cases y : x = g
      · rw [if_pos y]; exact hi
      · rw [if_neg y]
        rw [ek z] at hx
        by_cases q : g ∈ S.ks h
        · rw [if_pos q] at hx; exact t.lt h hm x hx
        · rw [if_neg q] at hx
          rcases List.mem_append.mp hx with hx | hx
          · exact t.lt h hm x hx
          · exact absurd (List.mem_singleton.mp hx) y
    · rw [if_neg z]
      rw [en z] at hx
      exact t.lt k hk x hx
/-- a further thing -/
theorem MkAt.laid {p : Addr} {z : Str} {A' : TA} (t : MkAt T H A F G m S) (f : Fr F H H') (ta : TownAt T H' A' F m) (hx : A'.x = (A.x.1, A.x.2 + 1)) (hp : H p = none) (h : H' p = some (.tup [nV S.n, .str z])) : MkAt T H' A' F G m (S.laid p z) := by
  have np : ∀ i, i < S.n → S.ta i ≠ p := fun i hi e => by have q := t.th i hi; rw [e, hp] at q; cases q
  have et : ∀ {i}, i < S.n → (S.laid p z).ta i = S.ta i := fun hi => if_neg (Nat.ne_of_lt hi)
  have ex1 : A'.x.1 = A.x.1 := by rw [hx]
  have hn : S.n < S.n + 1 := Nat.lt_succ_self _
  refine ⟨ta, by rw [hx]; show A.x.2 + 1 = S.n + 1; rw [t.cn], by rw [ex1]; exact f.at t.sh fun z => t.fg _ z t.gx, fun k hk => ?_, fun i hi => ?_, t.nd, fun k hk x hx => Nat.lt_succ_of_lt (t.lt k hk x hx), by rw [ex1]; exact t.gx, t.gs, by rw [ex1]; exact t.nx, t.ij, t.fg, fun i hi => ?_, fun a z e => t.ex a z (f.back a e)⟩
  · show H' (S.sa k) = some (.dK (dOf (S.ks k) fun x => .ref ((S.laid p z).ta (S.vl k x))))
    rw [f.at (t.sd k hk) fun z => t.fg _ z (t.gs k hk), dOf_congr (g := fun x => .ref ((S.laid p z).ta (S.vl k x))) fun x hx => by rw [et (t.lt k hk x hx)]]
  · rcases Nat.lt_or_ge i S.n with q | q
    · rw [et q]
      show H' (S.ta i) = some (.tup [nV i, .str (if i = S.n then z else S.tx i)])
      rw [if_neg (Nat.ne_of_lt q)]
      exact f.at (t.th i q) (t.ft i q).1
    · have hi : i < S.n + 1 := hi
      have e : i = S.n := by omega
      subst e
      show H' (if S.n = S.n then p else S.ta S.n) = some (.tup [nV S.n, .str (if S.n = S.n then z else S.tx S.n)])
      rw [if_pos rfl, if_pos rfl]
      exact h
  · rcases Nat.lt_or_ge i S.n with q | q
    · rw [et q]; exact t.ft i q
    · have hi : i < S.n + 1 := hi
      have e : i = S.n := by omega
      subst e
      show ¬ F (if S.n = S.n then p else S.ta S.n) ∧ ¬ G (if S.n = S.n then p else S.ta S.n)
      rw [if_pos rfl]
      exact ⟨fun y => t.ta.ex p y hp, fun y => t.ex p y hp⟩
/-- the count is stored -/
theorem TownAt.count {dx : Addr} {c : Nat} (t : TownAt T H A F m) (ob : H A.t = some (.ins T.C_Town dx (f_Town (nV m.wide) (nV m.room) (.ref A.td) (.ref A.hd) (.ref A.x.1) (nV A.x.2)))) :
    TownAt T (upd H A.t (.ins T.C_Town dx (f_Town (nV m.wide) (nV m.room) (.ref A.td) (.ref A.hd) (.ref A.x.1) (nV c)))) { A with x := (A.x.1, c) } F m := by
  have f := Fr.upd1 (o := .ins T.C_Town dx (f_Town (nV m.wide) (nV m.room) (.ref A.td) (.ref A.hd) (.ref A.x.1) (nV c))) ob
  have td := t.tw.tb
  have hd := t.tw.hb
  have ntd : A.td ≠ A.t := fun z => by rw [z, ob] at td; cases td
  have nhd : A.hd ≠ A.t := fun z => by rw [z, ob] at hd; cases hd
  have nl : ∀ {a : Addr} {xs : List V}, H a = some (.lst xs) → a ≠ A.t := fun e z => by rw [z, ob] at e; cases e
  have no : ∀ {a C d : Addr} {k : Str} {v : V} {r : List (Str × V)}, H a = some (.ins C d ((k, v) :: r)) → k ≠ "wide" → a ≠ A.t := fun e hk z => by
    rw [z, ob] at e
    have e := Option.some.inj e
    injection e with _ _ e3
    injection e3 with e4 _
    injection e4 with e5 _
    exact hk e5.symm
  refine ⟨⟨⟨dx, upd_same⟩, f.at td ntd, f.at hd nhd⟩, t.ft, fun k hk => ?_, fun k hk => ?_, t.dj, fun a z e => t.ex a z (f.back a e), t.ne⟩
  · obtain ⟨t1, t2⟩ := t.tab k hk
    obtain ⟨dxp, bl, bs, h1, h2, h3, h4⟩ := t1.ob
    refine ⟨⟨t1.w0, t1.w1, t1.r0, t1.r1, t1.len, dxp, bl, bs, f.at h1 (no h1 (by decide)), f.at h2 (nl h2), h3, fun i b l e1 e2 => (h4 i b l e1 e2).fr f ?_⟩, t2.fr f fun l hl => ?_⟩
    · obtain ⟨dy, hy⟩ := (h4 i b l e1 e2).ob
      exact no hy (by decide)
    · obtain ⟨xs, hxs⟩ := t2.is hl
      exact nl hxs
  · obtain ⟨t1, t2⟩ := t.tab k hk
    obtain ⟨dxp, bl, bs, h1, h2, h3, h4⟩ := t1.ob
    obtain ⟨o1, o2, o3⟩ := t.own k hk
    refine ⟨o1, fun dx' bl' x y z bs' e1 e2 => ?_, o3⟩
    have np := no h1 (by decide)
    have e1 := (upd_ne np).symm.trans e1
    have nb : bl' ≠ A.t := fun q => by
      have e2 := e2
      rw [q, upd_same] at e2
      cases e2
    exact o2 dx' bl' x y z bs' e1 ((upd_ne nb).symm.trans e2)
theorem x_listD {H : Hp} {Q : VK} {a : Addr} {kvs : List (Key × V)} (h : Rd H a (.dK kvs)) (k : ∀ p, H p = none → Q (.ref p) (upd H p (.lst (kvs.map fun kv => kV kv.1)))) : rListD [.ref a] H Q := ⟨a, kvs, rfl, h, k⟩
theorem dOf_kV {f : Nat → V} {hs : List Nat} : ((dOf hs f).map fun kv => kV kv.1) = hs.map nV := by unfold dOf; rw [List.map_map]; rfl
theorem dOf_get {f : Nat → V} {hs : List Nat} {n : Nat} (h : n ∈ hs) : valV (dOf hs f) (Sum.inl (n : Int)) = some (f n) := by
  have q := dOf_val (f := f) (n := n) (hs := hs)
  rw [if_pos h] at q; exact q
def sp_Market_keys_of (T : Tx K mg base) : Sp := fun vs H Q _ => ∃ (A : TA) (F G : Addr → Prop) (m : TM) (S : SM) (l : Addr) (ns k : List Nat), vs = [.ref A.t, .ref l] ∧ MkAt T H A F G m S ∧ H l = some (.lst (ns.map nV)) ∧ (∀ x ∈ ns, x ∈ m.houses) ∧ (ns.flatMap S.ks).length ≤ 4090 ∧ (∀ j ∈ ns.flatMap S.ks, j ∈ k) ∧ k.length < 64 ∧
  ∀ p H', H p = none → Ex H H' → H' p = some (.lst ((sortU (ns.flatMap S.ks)).map nV)) → Q (.ref p) H'
theorem wc_Market_keys_of {l : Addr} {ns k : List Nat} (t : MkAt T H A F G m S) (hl : H l = some (.lst (ns.map nV))) (hn : ∀ x ∈ ns, x ∈ m.houses) (hz : (ns.flatMap S.ks).length ≤ 4090) (hk : ∀ j ∈ ns.flatMap S.ks, j ∈ k) (hk2 : k.length < 64)
    (q : ∀ p H', H p = none → Ex H H' → H' p = some (.lst ((sortU (ns.flatMap S.ks)).map nV)) → Q (.ref p) H') : sp_Market_keys_of T [.ref A.t, .ref l] H Q E := ⟨A, F, G, m, S, l, ns, k, rfl, t, hl, hn, hz, hk, hk2, q⟩
theorem ok_Market_keys_of (T : Tx K mg base) : FnOk P w K mg base CX0 1 T.a_Market_keys_of T.d_Market_keys_of ["self", "houses"] (sp_Market_keys_of T) := by
  refine T.F_Market_keys_of.okD sc_Market_keys_of (fun vs H Q E h => ?_) (fun cdv A outer s H vs Q E hr h => ?_)
  · obtain ⟨A, F, G, m, S, l, ns, k, rfl, _⟩ := h; rfl
  · obtain ⟨A1, F, G, m, S, l, ns, k, rfl, t, hl, hn, hz, hk, hk2, q⟩ := h
    obtain ⟨dx, ob⟩ := t.ta.tw.ob
    have hu := hu_of hr
    have c_Bucket := T.c_Bucket; have n_Bucket_room := T.n_Bucket_room; have n_Bucket_line := T.n_Bucket_line; have c_Table := T.c_Table; have n_Table_own := T.n_Table_own; have n_Table_wide := T.n_Table_wide; have n_Table_room := T.n_Table_room; have n_Table_buckets := T.n_Table_buckets; have c_Town := T.c_Town; have n_Town_wide := T.n_Town_wide; have n_Town_room := T.n_Town_room; have n_Town_tables := T.n_Town_tables; have n_Town_hushed := T.n_Town_hushed; have n_Town_shelves := T.n_Town_shelves; have n_Town_layings := T.n_Town_layings
    refine ⟨_, (pss_cons (ps_set (i := 2) sc_Market_keys_of.nd rfl (Or.inl rfl) (pe_lst pa_nil))
      (pss_cons (ps_for PassesOwn.never rfl (pi_list (pv 1)) (pg_name (i := 3) sc_Market_keys_of.nd rfl (Or.inl rfl))
      (pss_one (ps_expr (pe_bm PySem.F.plainAttrs_list PySem.F.slot_list_extend PySem.F.type_list_extend mt_extend (pv 2) (pa_cons (pe_callTy (cb_listD rfl) (by rfl) T.z_list (by decide +kernel) (pa_cons (pe_dget hu (pe_fld (pv 0) rfl) (pv 3) (fun _ _ => rfl)) pa_nil)) pa_nil)))))
      (pss_one (ps_ret (pe_callB (cr_sortedSet rfl) (by rfl) T.z_sorted (by decide +kernel) (pa_cons (pe_callTy (cr_setL rfl) (by rfl) T.z_set (by decide +kernel) (pa_cons (pv 2) pa_nil)) pa_nil)))))), ?_⟩
    rw [Nn.st_Market_keys_of]; try rw [Nn.cxK]
    try rw [Nn.cxW]
    walk_at "wx"
    refine ⟨len_ok rfl, fun d hd => ?_⟩
    generalize hU : upd _ d _ = H1
    have ex1 := Ex.new' hd hU
    have h1 := new_at hU
    clear hU
    have hl1 := ex1.at hl
    walk_at "wx"
    refine ForW.by walk_list (fun j σ H' => ∃ (v : Option V), σ = [some (.ref A1.t), some (.ref l), some (.ref d), v] ∧ Ex H H' ∧ H' d = some (.lst (((ns.take j).flatMap S.ks).map nV)) ∧ H' l = some (.lst (ns.map nV)))
      ⟨_, rfl, ex1, h1, hl1⟩ (fun i σ H' _ ⟨_, _, _, _, e⟩ => SqL.of e) ?_ ?_
    · rintro j x σ _ H2 hj ⟨v, rfl, ex2, h2, hl2⟩ ⟨rfl, hx⟩
      rw [List.length_map] at hj
      obtain rfl : x = nV ns[j] := by
        rw [List.getElem?_map, List.getElem?_eq_getElem hj] at hx
        exact (Option.some.inj hx).symm
      have et : ns.take (j + 1) = ns.take j ++ [ns[j]] := by rw [List.take_add_one, List.getElem?_eq_getElem hj]; rfl
      have hm := hn _ (List.getElem_mem hj)
      have hle : ((ns.take j ++ [ns[j]]).flatMap S.ks).length ≤ 4090 := by
        rw [← et]
        refine Nat.le_trans ?_ hz
        have q := List.take_append_drop (j + 1) ns
        have e : (ns.flatMap S.ks).length = ((ns.take (j + 1)).flatMap S.ks).length + ((ns.drop (j + 1)).flatMap S.ks).length := by rw [← List.length_append, ← List.flatMap_append, q]
        omega
      rw [et]
      generalize ns[j] = y at hm hle
      rw [List.flatMap_append, List.flatMap_cons, List.flatMap_nil, List.append_nil] at hle ⊢
      rw [List.length_append] at hle
      generalize (ns.take j).flatMap S.ks = zs at h2 hle ⊢
      have t2 := t.ex' ex2
      obtain ⟨dx2, ob2⟩ := t2.ta.tw.ob
      have sh2 := t2.sh
      have sd2 := t2.sd y hm
      have e2 := dOf_get (f := fun h => V.ref (S.sa h)) hm
      have ndl : d ≠ l := fun e => by rw [e, hl] at hd; cases hd
      walk_at "wx"
      refine x_listD (.inl sd2) fun p3 hp3 => ?_
      rw [dOf_kV]
      generalize hU : upd H2 p3 (.lst ((S.ks y).map nV)) = H3
      have ex3 := Ex.new' hp3 hU
      have h33 := new_at hU
      clear hU
      have h23 := ex3.at h2
      walk_at "wx"
      refine x_extend h23 h33 (by rw [sizeLine_eq, List.length_map, List.length_map]; omega) ?_
      refine ⟨_, rfl, (ex2.trans ex3).mut hd h23, by rw [upd_same, List.map_append], by rw [upd_ne ndl.symm]; exact ex3.at hl2⟩
    · rintro σ H2 ⟨v, rfl, ex2, h2, hl2⟩
      rw [List.length_map, List.take_length] at h2
      walk_at "wx"
      refine x_setLK (SqL.of h2) hz hk fun pz c hpz hc => ?_
      generalize hU : upd H2 pz _ = H3
      have ex3 := Ex.new' hpz hU
      have h33 := new_at hU
      clear hU
      walk_at "wx"
      refine x_sortSet h33 (by omega) fun p hp => ?_
      exact q p _ (ex2.back p (ex3.back p hp)) ((ex2.trans ex3).newT hp) upd_same
def sp_Market_put (T : Tx K mg base) : Sp := fun vs H Q _ => ∃ (A : TA) (F G : Addr → Prop) (m : TM) (S : SM) (l : Addr) (ns : List Nat) (g i : Nat), vs = [.ref A.t, .ref l, .int g, .ref (S.ta i)] ∧ MkAt T H A F G m S ∧ i < S.n ∧ H l = some (.lst (ns.map nV)) ∧ (∀ x ∈ ns, x ∈ m.houses) ∧ m.houses.length < 64 ∧ ns.length ≤ 4090 ∧ (∀ x ∈ ns, (S.ks x).length ≤ 4090) ∧
  ∀ p H', H p = none → Fr G H H' → H' p = some (.lst (((byN g ns).take m.room).map nV)) → MkAt T H' A F G m (S.put ((byN g ns).take m.room) g i) → Q (.ref p) H'
theorem wc_Market_put {l : Addr} {ns : List Nat} {g i : Nat} {c : Int} {a : Addr} (hc : c = g) (ha : a = S.ta i) (t : MkAt T H A F G m S) (hi : i < S.n) (hl : H l = some (.lst (ns.map nV))) (hn : ∀ x ∈ ns, x ∈ m.houses) (hz : m.houses.length < 64) (hz2 : ns.length ≤ 4090) (hk : ∀ x ∈ ns, (S.ks x).length ≤ 4090)
    (q : ∀ p H', H p = none → Fr G H H' → H' p = some (.lst (((byN g ns).take m.room).map nV)) → MkAt T H' A F G m (S.put ((byN g ns).take m.room) g i) → Q (.ref p) H') : sp_Market_put T [.ref A.t, .ref l, .int c, .ref a] H Q E := by
  subst hc ha; exact ⟨A, F, G, m, S, l, ns, g, i, rfl, t, hi, hl, hn, hz, hz2, hk, q⟩
theorem SM.put_ks {g i x : Nat} : ∀ {l : List Nat} {S : SM}, x ∉ l → (S.put l g i).ks x = S.ks x
  | [], _, _ => rfl
  | h :: l, S, hx => by
    show (SM.put (S.put1 g i h) l g i).ks x = _
    rw [SM.put_ks (l := l) fun z => hx (List.mem_cons_of_mem _ z)]
    exact if_neg fun (z : x = h) => hx (by rw [z]; simp)
theorem ok_Market_put (T : Tx K mg base) : FnOk P w K mg base CX0 3 T.a_Market_put T.d_Market_put ["self", "houses", "key", "thing"] (sp_Market_put T) := by
  refine T.F_Market_put.okD sc_Market_put (fun vs H Q E h => ?_) (fun cdv A outer s H vs Q E hr h => ?_)
  · obtain ⟨A, F, G, m, S, l, ns, g, i, rfl, _⟩ := h; rfl
  · obtain ⟨A1, F, G, m, S, l, ns, g, i, rfl, t, hi, hl, hn, hz, hz2, hks, q⟩ := h
    obtain ⟨dx, ob⟩ := t.ta.tw.ob
    have hu := hu_of hr
    have hb64 : (byN g ns).length < 64 := Nat.lt_of_le_of_lt (nodup_len (byN_nodup g ns) fun z hz => hn z (mem_byN.mp hz)) hz
    have c_Bucket := T.c_Bucket; have n_Bucket_room := T.n_Bucket_room; have n_Bucket_line := T.n_Bucket_line; have c_Table := T.c_Table; have n_Table_own := T.n_Table_own; have n_Table_wide := T.n_Table_wide; have n_Table_room := T.n_Table_room; have n_Table_buckets := T.n_Table_buckets; have c_Town := T.c_Town; have n_Town_wide := T.n_Town_wide; have n_Town_room := T.n_Town_room; have n_Town_tables := T.n_Town_tables; have n_Town_hushed := T.n_Town_hushed; have n_Town_shelves := T.n_Town_shelves; have n_Town_layings := T.n_Town_layings
    refine ⟨_, (pss_cons (ps_set (i := 4) sc_Market_put.nd rfl (Or.inl rfl) (pe_slice sl_list (pe_call (ok_by_nearness T) hr rfl T.m_by_nearness T.F_by_nearness.kp T.b_by_nearness .nil pass0 (pa_cons (pv 2) (pa_cons (pv 1) pa_nil))) po_none (po_some (pe_fld (pv 0) rfl))))
      (pss_cons (ps_for PassesOwn.never rfl (pi_list (pv 4)) (pg_name (i := 5) sc_Market_put.nd rfl (Or.inl rfl))
      (pss_one (ps_dput hu (pe_dget hu (pe_fld (pv 0) rfl) (pv 5) (fun _ _ => rfl)) (pv 2) (pv 3) rfl)))
      (pss_one (ps_ret (pv 4))))), ?_⟩
    rw [Nn.st_Market_put]; try rw [Nn.cxK]
    try rw [Nn.cxW]
    walk_at "wx"
    refine wc_by_nearness rfl (SqL.of hl) ⟨hb64, by omega⟩ fun p1 H1 hp1 ex1 h1 => ?_
    have t1 := t.ex' ex1
    obtain ⟨dx1, ob1⟩ := t1.ta.tw.ob
    walk_at "wx"
    refine x_slTo rfl (SqL.of h1) fun p2 H2 hp2 ex2 h2 => ?_
    have t2 := t1.ex' ex2
    have nG : ¬ G p2 := fun z => t1.ex p2 z hp2
    have hkl : ∀ x ∈ (byN g ns).take m.room, x ∈ ns := fun x hx => mem_byN.mp (List.mem_of_mem_take hx)
    have knd : ((byN g ns).take m.room).Nodup := (byN_nodup g ns).sublist (List.take_sublist _ _)
    generalize hkk : (byN g ns).take m.room = kk at h2 hkl knd q
    walk_at "wx"
    refine ForW.by walk_list (fun j σ H' => ∃ (v : Option V), σ = [some (.ref A1.t), some (.ref l), some (.int g), some (.ref (S.ta i)), some (.ref p2), v] ∧ Fr G H2 H' ∧ H' p2 = some (.lst (kk.map nV)) ∧ MkAt T H' A1 F G m (S.put (kk.take j) g i))
      ⟨_, rfl, Fr.refl, h2, t2⟩ (fun i σ H' _ ⟨_, _, _, e, _⟩ => SqL.of e) ?_ ?_
    · rintro j x σ _ H3 hj ⟨v, rfl, fr3, h3, t3⟩ ⟨rfl, hx⟩
      rw [List.length_map] at hj
      obtain rfl : x = nV kk[j] := by
        rw [List.getElem?_map, List.getElem?_eq_getElem hj] at hx
        exact (Option.some.inj hx).symm
      have et : kk.take (j + 1) = kk.take j ++ [kk[j]] := by rw [List.take_add_one, List.getElem?_eq_getElem hj]; rfl
      have hyn := hkl _ (List.getElem_mem hj)
      have hnin : kk[j] ∉ kk.take j := fun z => by
        have nd := knd
        rw [← List.take_append_drop (j + 1) kk, et] at nd
        have q := (List.nodup_append.mp (List.nodup_append.mp nd).1).2.2 _ z _ (List.mem_singleton.mpr rfl)
        exact q rfl
      rw [et, SM.put_snoc]
      have hsame := SM.put_same (l := kk.take j) (S := S) (g := g) (i := i)
      have hk0 := SM.put_ks (g := g) (i := i) (S := S) hnin
      generalize kk[j] = y at hyn hk0
      generalize S.put (kk.take j) g i = S3 at t3 hsame hk0 ⊢
      obtain ⟨en, eta, etx, esa⟩ := hsame
      have hm := hn y hyn
      obtain ⟨dx3, ob3⟩ := t3.ta.tw.ob
      have sh3 := t3.sh
      have sd3 := t3.sd y hm
      have e3 := dOf_get (f := fun h => V.ref (S3.sa h)) hm
      walk_at "wx"
      refine x_dput sd3 (by rw [sizeLine_eq, dOf_len, hk0]; have := hks y hyn; omega) ?_
      refine ⟨_, rfl, fr3.trans ((Fr.upd1 sd3).mono fun a z => by rw [z]; exact t3.gs y hm), by rw [upd_ne fun z => nG (by rw [z]; exact t3.gs y hm)]; exact h3, t3.put1 hm (by rw [en]; exact hi) (Fr.upd1 sd3) (by rw [upd_same, eta])⟩
    · rintro σ H3 ⟨v, rfl, fr3, h3, t3⟩
      rw [List.length_map, List.take_length] at t3
      walk_at "wx"
      exact q p2 H3 (ex1.back p2 hp2) (((ex1.trans ex2).fr (S := G)).trans fr3) h3 t3
end
end Nn
/-! markets: what they do -/
namespace Nn
open PySem L2
section
variable {K : PySem.W.Frag}
def RFa (K : PySem.W.Frag) (tv : TE) (rd : V → V → Hp → VK → Prop) (f : Str) (D : Ends) (σ : L2.St) : VK := fun x H1 => ∃ a C dx fs v, x = .ref a ∧ H1 a = some (.ins C dx fs) ∧ Cls K C ∧ NoAttr K C f ∧ fs.lookup f = some v ∧
  tv σ H1 fun y H2 => rd v y H2 fun z H3 => ∃ dx' fs', H3 a = some (.ins C dx' fs') ∧ fs'.length < 1000 ∧ D.nx σ (upd H3 a (.ins C dx' (putF f z fs')))
theorem e_fldaug {ta tv : TE} {rd : V → V → Hp → VK → Prop} {f : Str} {D : Ends} {σ : L2.St} {H : Hp} : sFldAug K ta tv rd f D σ H = ta σ H (RFa K tv rd f D σ) := rfl
theorem x_fldaugI {f : Str} {D : Ends} {σ : L2.St} {H : Hp} {a C dx : Addr} {fs fs' : List (Str × V)} {i j : Int} (h : H a = some (.ins C dx fs)) (c : Cls K C) (n : NoAttr K C f) (l : fs.lookup f = some (.int i)) (e : putF f (.int (i + j)) fs = fs') (hz : fs.length < 1000) (k : D.nx σ (upd H a (.ins C dx fs'))) : RFa K (tC (.int j)) rAdd f D σ (.ref a) H :=
  ⟨a, C, dx, fs, _, rfl, h, c, n, l, i, j, rfl, rfl, dx, fs, h, hz, by rw [e]; exact k⟩
theorem x_catT {H : Hp} {Q : VK} {a b : Addr} {xs ys : List V} (ha : SqT K H a xs) (hb : SqT K H b ys) (hx : xs ≠ []) (hy : ys ≠ []) (hz : xs.length + ys.length ≤ sizeLine) (k : ∀ p, H p = none → Q (.ref p) (upd H p (.tup (xs ++ ys)))) : rCatT K (.ref a) (.ref b) H Q := ⟨a, b, xs, ys, rfl, rfl, ha, hb, hx, hz, fun z => absurd z hy, fun _ => k⟩
end
end Nn
local macro_rules | `(tactic| walk_at "wc") => `(tactic| dsimp only [↓Nn.e_fldaug])
namespace Nn
open PySem L2
section
variable {P : Program} {w : World} {K : PySem.W.Frag} {mg : Str → Option Value} {base : Heap} {H H' : Hp} {Q : VK} {E : XK} {T : Tx K mg base} {A : TA} {F G X : Addr → Prop} {m : TM} {S : SM}
def sp_Town_init (T : Tx K mg base) : Sp := fun vs H Q _ => ∃ (t dx : Addr) (wide room : Nat), vs = [.ref t, .int wide, .int room] ∧ H t = some (.ins T.C_Town dx []) ∧ 0 < wide ∧ wide ≤ 60 ∧ 0 < room ∧ room ≤ 8 ∧
  ∀ (td hd : Addr) (H' : Hp), H td = none → H hd = none → td ≠ hd → Fr (fun a => a = t) H H' → H' t = some (.ins T.C_Town dx [("wide", nV wide), ("room", nV room), ("tables", .ref td), ("hushed", .ref hd)]) → H' td = some (.dK []) → H' hd = some (.dK []) → Q .non H'
theorem ok_Town_init (T : Tx K mg base) : FnOk P w K mg base CX0 2 T.a_Town_init T.d_Town_init ["self", "wide", "room"] (sp_Town_init T) := by
  refine T.F_Town_init.okD sc_Town_init (fun vs H Q E h => ?_) (fun cdv A outer s H vs Q E hr h => ?_)
  · obtain ⟨p, dx, wide, room, rfl, _⟩ := h; rfl
  · obtain ⟨p, dx, wide, room, rfl, hp, w0, w1, r0, r1, q⟩ := h
    have c_Bucket := T.c_Bucket; have n_Bucket_room := T.n_Bucket_room; have n_Bucket_line := T.n_Bucket_line; have c_Table := T.c_Table; have n_Table_own := T.n_Table_own; have n_Table_wide := T.n_Table_wide; have n_Table_room := T.n_Table_room; have n_Table_buckets := T.n_Table_buckets; have c_Town := T.c_Town; have n_Town_wide := T.n_Town_wide; have n_Town_room := T.n_Town_room; have n_Town_tables := T.n_Town_tables; have n_Town_hushed := T.n_Town_hushed; have n_Town_shelves := T.n_Town_shelves; have n_Town_layings := T.n_Town_layings
    refine ⟨_, (pss_cons (ps_if (PW.pt (pw_or (pt_not (pt_val (pe_call (ok_is_size T) hr rfl T.m_is_size T.F_is_size.kp T.b_is_size .nil pass0 (pa_cons (pv 1) (pa_cons (pe_glob (v := .int 60) rfl T.m_MOST_WIDE ⟨_, rfl⟩) pa_nil))))) (pw_or1 (pt_not (pt_val (pe_call (ok_is_size T) hr rfl T.m_is_size T.F_is_size.kp T.b_is_size .nil pass0 (pa_cons (pv 2) (pa_cons (pe_glob (v := .int 8) rfl T.m_MOST_ROOM ⟨_, rfl⟩) pa_nil))))))))
      (pss_one ps_dead)
      pss_nil)
      (pss_cons (ps_fld (pv 0) (pv 1) rfl)
      (pss_cons (ps_fld (pv 0) (pv 2) rfl)
      (pss_cons (ps_fld (pv 0) pe_dnewK rfl)
      (pss_one (ps_fld (pv 0) pe_dnewK rfl)))))), ?_⟩
    rw [Nn.st_Town_init]; try rw [Nn.cxK]
    try rw [Nn.cxW]
    walk_at "wx"
    have e1 : decide (1 ≤ wide ∧ wide ≤ 60) = true := decide_eq_true ⟨w0, w1⟩
    have e2 : decide (1 ≤ room ∧ room ≤ 8) = true := decide_eq_true ⟨r0, r1⟩
    rw [e1]
    walk_at "wx"
    rw [e2]
    walk_at "wx"
    refine x_dnew fun td htd => ?_
    have f2 := (Fr.upd1 (o := .ins T.C_Town dx [("wide", .int wide)]) hp).trans (Fr.upd1 (o := .ins T.C_Town dx [("wide", .int wide), ("room", .int room)]) upd_same)
    have hp2 := upd_same (H := upd H p (.ins T.C_Town dx [("wide", .int wide)])) (a := p) (o := .ins T.C_Town dx [("wide", .int wide), ("room", .int room)])
    generalize upd (upd H p (.ins T.C_Town dx [("wide", .int wide)])) p (.ins T.C_Town dx [("wide", .int wide), ("room", .int room)]) = H2 at f2 hp2 htd ⊢
    have hp3 := at_new (o := .dK []) htd hp2
    have ex3 := Ex.new (o := .dK []) htd
    have td3 := upd_same (H := H2) (a := td) (o := .dK [])
    have ntd := ne_of_none hp2 htd
    generalize upd H2 td (.dK []) = H3 at hp3 ex3 td3 ⊢
    walk_at "wx"
    refine x_dnew fun hd hhd => ?_
    have f4 := Fr.upd1 (o := .ins T.C_Town dx [("wide", .int wide), ("room", .int room), ("tables", .ref td)]) hp3
    have hp4 := upd_same (H := H3) (a := p) (o := .ins T.C_Town dx [("wide", .int wide), ("room", .int room), ("tables", .ref td)])
    have td4 := f4.at td3 ntd.symm
    generalize upd H3 p (.ins T.C_Town dx [("wide", .int wide), ("room", .int room), ("tables", .ref td)]) = H4 at f4 hp4 td4 hhd ⊢
    have hp5 := at_new (o := .dK []) hhd hp4
    have ex5 := Ex.new (o := .dK []) hhd
    have td5 := ex5.at td4
    have hd5 := upd_same (H := H4) (a := hd) (o := .dK [])
    have nhd := ne_of_none hp4 hhd
    have nth := ne_of_none td4 hhd
    generalize upd H4 hd (.dK []) = H5 at hp5 ex5 td5 hd5 ⊢
    walk_at "wx"
    have f6 := Fr.upd1 (o := .ins T.C_Town dx [("wide", .int wide), ("room", .int room), ("tables", .ref td), ("hushed", .ref hd)]) hp5
    have fall : Fr (fun a => a = p) H (upd H5 p (.ins T.C_Town dx [("wide", .int wide), ("room", .int room), ("tables", .ref td), ("hushed", .ref hd)])) := (((f2.trans ex3.fr).trans f4).trans ex5.fr).trans f6
    exact q td hd _ (f2.back td htd) (f2.back hd (ex3.back hd (f4.back hd hhd))) nth fall upd_same (f6.at td5 ntd.symm) (f6.at hd5 nhd.symm)
def sp_Market_init (T : Tx K mg base) : Sp := fun vs H Q _ => ∃ (t dx : Addr) (wide room : Nat), vs = [.ref t, .int wide, .int room] ∧ H t = some (.ins T.C_Town dx []) ∧ 0 < wide ∧ wide ≤ 60 ∧ 0 < room ∧ room ≤ 8 ∧
  ∀ (A : TA) (H' : Hp) (F G : Addr → Prop) (S : SM), A.t = t → (∀ a, F a ∨ G a → a = t ∨ H a = none) → Fr (fun a => a = t) H H' → S.n = 0 → MkAt T H' A F G (TM.new wide room) S → Q .non H'
theorem ok_Market_init (T : Tx K mg base) : FnOk P w K mg base CX0 3 T.a_Market_init T.d_Market_init ["self", "wide", "room"] (sp_Market_init T) := by
  refine T.F_Market_init.okD sc_Market_init (fun vs H Q E h => ?_) (fun cdv A outer s H vs Q E hr h => ?_)
  · obtain ⟨p, dx, wide, room, rfl, _⟩ := h; rfl
  · obtain ⟨p, dx, wide, room, rfl, hp, w0, w1, r0, r1, q⟩ := h
    have c_Bucket := T.c_Bucket; have n_Bucket_room := T.n_Bucket_room; have n_Bucket_line := T.n_Bucket_line; have c_Table := T.c_Table; have n_Table_own := T.n_Table_own; have n_Table_wide := T.n_Table_wide; have n_Table_room := T.n_Table_room; have n_Table_buckets := T.n_Table_buckets; have c_Town := T.c_Town; have n_Town_wide := T.n_Town_wide; have n_Town_room := T.n_Town_room; have n_Town_tables := T.n_Town_tables; have n_Town_hushed := T.n_Town_hushed; have n_Town_shelves := T.n_Town_shelves; have n_Town_layings := T.n_Town_layings
    refine ⟨_, (pss_cons (ps_expr (pe_clsm (pe_glob (v := .ref T.B_Town) rfl T.m_Town rfl) T.R_Town T.q_Town_init T.F_Town_init.kp (ok_Town_init T) hr T.b_Town_init .nil pass0 (pa_cons (pv 0) (pa_cons (pv 1) (pa_cons (pv 2) pa_nil)))))
      (pss_cons (ps_fld (pv 0) pe_dnewK rfl)
      (pss_one (ps_fld (pv 0) pe_int rfl)))), ?_⟩
    rw [Nn.st_Market_init]; try rw [Nn.cxK]
    try rw [Nn.cxW]
    walk_at "wx"
    refine ⟨p, dx, wide, room, rfl, hp, w0, w1, r0, r1, fun td hd H1 htd hhd nth fr1 h1 td1 hd1 => ?_⟩
    walk_at "wx"
    refine x_dnew fun sh hsh => ?_
    generalize hU : upd H1 sh (.dK []) = H2
    have ex2 := Ex.new' hsh hU
    have sh2 := new_at hU
    clear hU
    have h2 := ex2.at h1
    have ntd : td ≠ p := fun z => by rw [z, hp] at htd; cases htd
    have nhd : hd ≠ p := fun z => by rw [z, hp] at hhd; cases hhd
    have nsh : sh ≠ p := fun z => by rw [z, h1] at hsh; cases hsh
    walk_at "wx"
    generalize hU : upd H2 p (.ins T.C_Town dx [("wide", nV wide), ("room", nV room), ("tables", .ref td), ("hushed", .ref hd), ("shelves", .ref sh)]) = H3
    have fr3 : Fr (fun a => a = p) H2 H3 := by rw [← hU]; exact Fr.upd1 h2
    have h3 : H3 p = some (.ins T.C_Town dx [("wide", nV wide), ("room", nV room), ("tables", .ref td), ("hushed", .ref hd), ("shelves", .ref sh)]) := new_at hU
    clear hU
    walk_at "wx"
    have fr4 := Fr.upd1 (o := .ins T.C_Town dx (f_Town (nV wide) (nV room) (.ref td) (.ref hd) (.ref sh) (.int 0))) h3
    refine q ⟨p, td, hd, (sh, 0), fun _ => 0, fun _ => []⟩ _ (fun a => a = p ∨ a = td ∨ a = hd) (fun a => a = sh) ⟨fun _ => 0, fun _ => [], fun _ _ => 0, 0, fun _ => 0, fun _ => ""⟩ rfl (fun a z => ?_) (((fr1.trans ex2.fr).trans fr3).trans fr4) rfl ⟨⟨⟨⟨dx, upd_same⟩, fr4.at (fr3.at (ex2.at td1) ntd) ntd, fr4.at (fr3.at (ex2.at hd1) nhd) nhd⟩, ⟨.inl rfl, .inr (.inl rfl), .inr (.inr rfl)⟩, fun h hh => absurd hh (by simp [TM.new, TM.houses]), fun h hh => absurd hh (by simp [TM.new, TM.houses]), fun h hh => absurd hh (by simp [TM.new, TM.houses]), fun a z e => ?_, nth⟩, rfl, fr4.at (fr3.at sh2 nsh) nsh, fun h hh => absurd hh (by simp [TM.new, TM.houses]), fun i hi => absurd hi (Nat.not_lt_zero i), fun h hh => absurd hh (by simp [TM.new, TM.houses]), fun h hh => absurd hh (by simp [TM.new, TM.houses]), rfl, fun h hh => absurd hh (by simp [TM.new, TM.houses]), fun h hh => absurd hh (by simp [TM.new, TM.houses]), fun h hh => absurd hh (by simp [TM.new, TM.houses]), fun a z y => ?_, fun i hi => absurd hi (Nat.not_lt_zero i), fun a z e => ?_⟩
    · rcases z with (z | z | z) | z
      · exact .inl z
      · rw [z]; exact .inr htd
      · rw [z]; exact .inr hhd
      · rw [z]; exact .inr (fr1.back sh hsh)
    · rcases z with z | z | z <;> rw [z] at e
      · rw [upd_same] at e; cases e
      · rw [fr4.at (fr3.at (ex2.at td1) ntd) ntd] at e; cases e
      · rw [fr4.at (fr3.at (ex2.at hd1) nhd) nhd] at e; cases e
    · have y : a = sh := y
      rcases z with z | z | z
      · exact nsh (y.symm.trans z)
      · rw [← y, z, td1] at hsh; cases hsh
      · rw [← y, z, hd1] at hsh; cases hsh
    · have z : a = sh := z
      rw [z, fr4.at (fr3.at sh2 nsh) nsh] at e; cases e

theorem MkAt.come {n q : Nat} {A' : TA} {F' : Addr → Prop} {m' : TM} (t : MkAt T H A F G m S) (f : Fr F H H') (ta : TownAt T H' A' F' m') (hx : A'.x = A.x) (hF : ∀ a, F' a → F a ∨ H a = none) (hh : m'.houses = m.houses ++ [n]) (hn : n ∉ m.houses) (hq : H' q = none) :
    MkAt T (upd (upd H' q (.dK [])) A.x.1 (.dK (dOf m'.houses fun h => .ref ((S.add n q).sa h)))) A' F' (fun a => G a ∨ a = q) m' (S.add n q) := by
  have ex2 := Ex.new (o := .dK []) hq
  have sh1 := f.at t.sh fun z => t.fg _ z t.gx
  have nq : ∀ {a : Addr} {o : HO}, H' a = some o → a ≠ q := fun e z => by rw [z, hq] at e; cases e
  have sh2 := ex2.at sh1
  have fr3 := Fr.upd1 (o := .dK (dOf m'.houses fun h => .ref ((S.add n q).sa h))) sh2
  have q2 := upd_same (H := H') (a := q) (o := .dK [])
  have nF : ¬ F' A.x.1 := fun z => (hF _ z).elim (fun z => t.fg _ z t.gx) fun z => by rw [t.sh] at z; cases z
  have es : ∀ {h}, h ∈ m.houses → (S.add n q).sa h = S.sa h ∧ (S.add n q).ks h = S.ks h := fun hm => by
    have e : ¬ _ = n := fun z => hn (by rw [← z]; exact hm)
    exact ⟨if_neg e, if_neg e⟩
  have en : (S.add n q).sa n = q ∧ (S.add n q).ks n = [] := ⟨if_pos rfl, if_pos rfl⟩
  have hc : ∀ {h}, h ∈ m'.houses → h ∈ m.houses ∨ h = n := fun hm => by
    rw [hh] at hm
    exact (List.mem_append.mp hm).imp id List.mem_singleton.mp
  generalize upd H' q (.dK []) = H2 at ex2 sh2 fr3 q2
  have sd1 : ∀ h ∈ m.houses, H' (S.sa h) = some (.dK (dOf (S.ks h) fun k => .ref (S.ta (S.vl h k)))) := fun h hm => f.at (t.sd h hm) fun z => t.fg _ z (t.gs h hm)
  refine ⟨(ta.ex' ex2).fr fr3 fun a z y => nF (by rw [← z]; exact y), by rw [hx]; exact t.cn, by rw [hx]; exact upd_same, fun h hm => ?_, fun i hi => ?_, fun h hm => ?_, fun h hm k hk => ?_, by rw [hx]; exact .inl t.gx, fun h hm => ?_, fun h hm => ?_, fun h1 hm1 h2 hm2 e => ?_, fun a z y => ?_, fun i hi => ⟨fun z => ?_, fun z => ?_⟩, fun a z e => ?_⟩
  · rcases hc hm with y | y
    · rw [(es y).1, (es y).2]
      exact fr3.at (ex2.at (sd1 h y)) (t.nx h y)
    · rw [y, en.1, en.2]
      exact fr3.at q2 (nq sh1).symm
  · exact fr3.at (ex2.at (f.at (t.th i hi) (t.ft i hi).1)) fun z => (t.ft i hi).2 (by rw [show S.ta i = A.x.1 from z]; exact t.gx)
  · rcases hc hm with y | y
    · rw [(es y).2]; exact t.nd h y
    · rw [y, en.2]; exact List.nodup_nil
  · rcases hc hm with y | y
    · rw [(es y).2] at hk; exact t.lt h y k hk
    · rw [y, en.2] at hk; cases hk
  · rcases hc hm with y | y
    · rw [(es y).1]; exact .inl (t.gs h y)
    · rw [y, en.1]; exact .inr rfl
  · rw [hx]
    rcases hc hm with y | y
    · rw [(es y).1]; exact t.nx h y
    · rw [y, en.1]; exact (nq sh1).symm
  · rcases hc hm1 with y1 | y1 <;> rcases hc hm2 with y2 | y2
    · rw [(es y1).1, (es y2).1] at e; exact t.ij h1 y1 h2 y2 e
    · rw [(es y1).1, y2, en.1] at e; exact absurd e (nq (sd1 h1 y1))
    · rw [y1, en.1, (es y2).1] at e; exact absurd e.symm (nq (sd1 h2 y2))
    · rw [y1, y2]
  · rcases y with y | y
    · exact (hF a z).elim (fun q => t.fg a q y) fun q => t.ex a y q
    · exact ta.ex a z (by rw [y]; exact hq)
  · exact (hF _ z).elim (t.ft i hi).1 fun q => by have e := t.th i hi; rw [show H (S.ta i) = none from q] at e; cases e
  · rcases z with z | z
    · exact (t.ft i hi).2 z
    · exact nq (f.at (t.th i hi) (t.ft i hi).1) z
  · rcases z with z | z
    · exact t.ex a z (f.back a (ex2.back a (fr3.back a e)))
    · rw [z, fr3.at q2 (nq sh1).symm] at e; cases e
theorem TM.told_house {n : Nat} {d : Option Nat} {x : Nat} (h : x ∈ m.told n d) : x ∈ (m.comes n d).houses := by
  rw [TM.comes_houses]
  cases d with
  | none => cases h
  | some d => rw [← TM.add_houses]; exact (TM.others_mem h).1
theorem MkAt.cut {n : Nat} (t : MkAt T H A F G m S) (f : Fr F H H') (ta : TownAt T H' A F (m.cut n)) : MkAt T (upd H' A.x.1 (.dK (dOf (m.cut n).houses fun h => .ref (S.sa h)))) A F G (m.cut n) S := by
  have sh1 := f.at t.sh fun z => t.fg _ z t.gx
  have fr3 := Fr.upd1 (o := .dK (dOf (m.cut n).houses fun h => .ref (S.sa h))) sh1
  have sub : ∀ {h}, h ∈ (m.cut n).houses → h ∈ m.houses := fun hm => by rw [TM.cut_houses] at hm; exact (List.mem_filter.mp hm).1
  exact ⟨ta.fr fr3 fun a z y => t.fg a y (by rw [z]; exact t.gx), t.cn, upd_same, fun h hm => fr3.at (f.at (t.sd h (sub hm)) fun z => t.fg _ z (t.gs h (sub hm))) (t.nx h (sub hm)), fun i hi => fr3.at (f.at (t.th i hi) (t.ft i hi).1) fun z => (t.ft i hi).2 (by rw [z]; exact t.gx), fun h hm => t.nd h (sub hm), fun h hm => t.lt h (sub hm), t.gx, fun h hm => t.gs h (sub hm), fun h hm => t.nx h (sub hm), fun h1 hm1 h2 hm2 => t.ij h1 (sub hm1) h2 (sub hm2), t.fg, t.ft, fun a z e => t.ex a z (f.back a (fr3.back a e))⟩
def sp_Market_go (T : Tx K mg base) : Sp := fun vs H Q _ => ∃ (A : TA) (F G : Addr → Prop) (m : TM) (S : SM) (h : Nat), vs = [.ref A.t, .int h] ∧ MkAt T H A F G m S ∧ m.wide ≤ 60 ∧ h < 2 ^ m.wide ∧ h ∈ m.houses ∧ ∀ H', Fr (fun a => F a ∨ G a) H H' → MkAt T H' A F G (m.cut h) S → Q .non H'
theorem wc_Market_go {h : Nat} {i : Int} (hi : i = h) (t : MkAt T H A F G m S) (w1 : m.wide ≤ 60) (hb : h < 2 ^ m.wide) (hm : h ∈ m.houses) (q : ∀ H', Fr (fun a => F a ∨ G a) H H' → MkAt T H' A F G (m.cut h) S → Q .non H') : sp_Market_go T [.ref A.t, .int i] H Q E := by
  subst hi; exact ⟨A, F, G, m, S, h, rfl, t, w1, hb, hm, q⟩
theorem ok_Market_go (T : Tx K mg base) : FnOk P w K mg base CX0 4 T.a_Market_go T.d_Market_go ["self", "house"] (sp_Market_go T) := by
  refine T.F_Market_go.okD sc_Market_go (fun vs H Q E h => ?_) (fun cdv A outer s H vs Q E hr h => ?_)
  · obtain ⟨A, F, G, m, S, n, rfl, _⟩ := h; rfl
  · obtain ⟨A1, F, G, m, S, n, rfl, t, w1, hb, hm, q⟩ := h
    obtain ⟨dx, ob⟩ := t.ta.tw.ob
    have hu := hu_of hr
    have c_Bucket := T.c_Bucket; have n_Bucket_room := T.n_Bucket_room; have n_Bucket_line := T.n_Bucket_line; have c_Table := T.c_Table; have n_Table_own := T.n_Table_own; have n_Table_wide := T.n_Table_wide; have n_Table_room := T.n_Table_room; have n_Table_buckets := T.n_Table_buckets; have c_Town := T.c_Town; have n_Town_wide := T.n_Town_wide; have n_Town_room := T.n_Town_room; have n_Town_tables := T.n_Town_tables; have n_Town_hushed := T.n_Town_hushed; have n_Town_shelves := T.n_Town_shelves; have n_Town_layings := T.n_Town_layings
    refine ⟨_, (pss_cons (ps_expr (pe_clsm (pe_glob (v := .ref T.B_Town) rfl T.m_Town rfl) T.R_Town T.q_Town_go T.F_Town_go.kp (ok_Town_go T) hr T.b_Town_go .nil pass0 (pa_cons (pv 0) (pa_cons (pv 1) pa_nil))))
      (pss_one (ps_expr (pe_dpop1 (pe_fld (pv 0) rfl) (pv 1) ⟨rfl, rfl, rfl, rfl⟩)))), ?_⟩
    rw [Nn.st_Market_go]; try rw [Nn.cxK]
    try rw [Nn.cxW]
    walk_at "wx"
    refine wc_Town_go rfl t.ta w1 hb hm fun H1 fr1 ta1 => ?_
    obtain ⟨dx1, ob1⟩ := ta1.tw.ob
    have sh1 := fr1.at t.sh fun z => t.fg _ z t.gx
    have e1 := dOf_get (f := fun h => V.ref (S.sa h)) hm
    walk_at "wx"
    have ed : dropK (dOf m.houses fun h => .ref (S.sa h)) (Sum.inl (n : Int)) = dOf (m.cut n).houses fun h => .ref (S.sa h) := by rw [TM.cut_houses]; exact dOf_drop
    rw [ed]
    exact q _ ((fr1.mono fun a z => .inl z).trans ((Fr.upd1 sh1).mono fun a z => .inr (by rw [z]; exact t.gx))) (t.cut fr1 ta1)
theorem TM.askFd_aw {N : List Nat} (k : m.Ok N) (hN : N.length < 64) {s g x : Nat} (haw : m.aw s = true) (hx : x ∈ m.askFd s g) : m.aw x = true := by
  have ok := TM.askSt_ok k (g := g) haw
  have le : (m.askSt s g).left g m.room = [] := askEnd_left (TM.tells_ne haw) (fun h l e => TM.tells_some k e) hN
  have hx2 : x ∈ standN g m.room (m.askSt s g).seen (m.askSt s g).quiet := hx
  have hd : x ∈ (m.askSt s g).done := Classical.byContradiction fun z => by
    have q : x ∈ (m.askSt s g).left g m.room := List.mem_filter.mpr ⟨hx2, by simp [z]⟩
    rw [le] at q; cases q
  have hq := (AskSt.mem_stand hx2).2
  rw [← TM.tells_isSome (m := m) (h := x) (g := g) (a := s)]
  cases e : m.tells x g s with
  | none => exact absurd ((ok.qd x).mpr ⟨hd, e⟩) hq
  | some l => rfl
/-- who keeps what is laid -/
def TM.layTo (m : TM) (st g : Nat) : List Nat := (byN g (m.askFd st g ++ [st])).take m.room
def sp_Market_lay (T : Tx K mg base) : Sp := fun vs H Q _ => ∃ (A : TA) (F G : Addr → Prop) (m : TM) (S : SM) (N : List Nat) (st g : Nat) (z : Str), vs = [.ref A.t, .int st, .int g, .str z] ∧ MkAt T H A F G m S ∧ m.Ok N ∧ N.length < 63 ∧ m.aw st = true ∧ g < 2 ^ m.wide ∧ (∀ x ∈ m.houses, (S.ks x).length ≤ 4090) ∧ NdefX.TabsN (tabsL T) H ∧
  ∀ p q H' A', H p = none → H q = none → Fr (fun a => F a ∨ G a) H H' → H' p = some (.lst ((m.layTo st g).map nV)) → p ≠ q → A'.t = A.t → MkAt T H' A' F G (m.learn st g) ((S.laid q z).put (m.layTo st g) g S.n) → Q (.ref p) H'
theorem wc_Market_lay {N : List Nat} {st g : Nat} {z : Str} {i j : Int} (hi : i = st) (hj : j = g) (t : MkAt T H A F G m S) (k : m.Ok N) (hN : N.length < 63) (hm : m.aw st = true) (hg : g < 2 ^ m.wide) (hk : ∀ x ∈ m.houses, (S.ks x).length ≤ 4090) (tb : NdefX.TabsN (tabsL T) H)
    (q : ∀ p q H' A', H p = none → H q = none → Fr (fun a => F a ∨ G a) H H' → H' p = some (.lst ((m.layTo st g).map nV)) → p ≠ q → A'.t = A.t → MkAt T H' A' F G (m.learn st g) ((S.laid q z).put (m.layTo st g) g S.n) → Q (.ref p) H') : sp_Market_lay T [.ref A.t, .int i, .int j, .str z] H Q E := by
  subst hi hj; exact ⟨A, F, G, m, S, N, st, g, z, rfl, t, k, hN, hm, hg, hk, tb, q⟩
theorem ok_Market_lay (T : Tx K mg base) : FnOk P w K mg base CX0 8 T.a_Market_lay T.d_Market_lay ["self", "start", "key", "text"] (sp_Market_lay T) := by
  refine T.F_Market_lay.okD sc_Market_lay (fun vs H Q E h => ?_) (fun cdv A outer s H vs Q E hr h => ?_)
  · obtain ⟨A, F, G, m, S, N, st, g, z, rfl, _⟩ := h; rfl
  · obtain ⟨A1, F, G, m, S, N, st, g, z, rfl, t, k, hN, haw, hg, hks, hT, q⟩ := h
    obtain ⟨dx, ob⟩ := t.ta.tw.ob
    have hu := hu_of hr
    have c_Bucket := T.c_Bucket; have n_Bucket_room := T.n_Bucket_room; have n_Bucket_line := T.n_Bucket_line; have c_Table := T.c_Table; have n_Table_own := T.n_Table_own; have n_Table_wide := T.n_Table_wide; have n_Table_room := T.n_Table_room; have n_Table_buckets := T.n_Table_buckets; have c_Town := T.c_Town; have n_Town_wide := T.n_Town_wide; have n_Town_room := T.n_Town_room; have n_Town_tables := T.n_Town_tables; have n_Town_hushed := T.n_Town_hushed; have n_Town_shelves := T.n_Town_shelves; have n_Town_layings := T.n_Town_layings
    refine ⟨_, (pss_cons (ps_asg (pe_meth (pv 0) T.c_Town T.t_Town_ask (ok_Town_ask T) hr T.b_Town_ask .nil pass0 (pa_cons (pv 1) (pa_cons (pv 2) pa_nil))) (pg_tup (n := 2) rfl (pgs_cons (pg_name (i := 4) sc_Market_lay.nd rfl (Or.inl rfl)) (pgs_cons (pg_name (i := 5) sc_Market_lay.nd rfl (Or.inl rfl)) pgs_nil))))
      (pss_cons (ps_fldaug (pv 0) pe_int in_add)
      (pss_one (ps_ret (pe_meth (pv 0) T.c_Town T.t_Market_put (ok_Market_put T) (hr.mono (by decide)) T.b_Market_put .nil pass0 (pa_cons (pe_op op_cat (pv 5) (pe_lst (pa_cons (pv 1) pa_nil))) (pa_cons (pv 2) (pa_cons (pe_tup (pa_cons (pe_op op_sub (pe_fld (pv 0) rfl) pe_int) (pa_cons (pv 3) pa_nil))) pa_nil)))))))), ?_⟩
    rw [Nn.st_Market_lay]; try rw [Nn.cxK]
    try rw [Nn.cxW]
    walk_at "wx"
    refine wc_Town_ask rfl rfl t.ta k hN haw hg hT fun p1 r fd es H1 fr1 hp1 h1 ra1 hfd h1f nes ta1 => ?_
    have t1 := t.town fr1 ta1 rfl (fun a z => .inl z) TM.learn_houses
    obtain ⟨dx1, ob1⟩ := ta1.tw.ob
    walk_at "wx"
    have ec : (A1.x.2 : Int) + 1 = ((A1.x.2 + 1 : Nat) : Int) := rfl
    refine x_fldaugI ob1 c_Town n_Town_layings lk_Town_layings put_Town_layings (by simp) ?_
    rw [ec]
    have ta2 := ta1.count (c := A1.x.2 + 1) ob1
    have fr2 : Fr F H1 _ := (Fr.upd1 (o := .ins T.C_Town dx1 (f_Town (nV (m.learn st g).wide) (nV (m.learn st g).room) (.ref A1.td) (.ref A1.hd) (.ref A1.x.1) (nV (A1.x.2 + 1)))) ob1).mono fun a z => by rw [z]; exact t.ta.ft.1
    have h2f := fr2.at h1f fun z => t.ta.ex fd z hfd
    have ob2 := upd_same (H := H1) (a := A1.t) (o := .ins T.C_Town dx1 (f_Town (nV (m.learn st g).wide) (nV (m.learn st g).room) (.ref A1.td) (.ref A1.hd) (.ref A1.x.1) (nV (A1.x.2 + 1))))
    generalize upd H1 A1.t (.ins T.C_Town dx1 (f_Town (nV (m.learn st g).wide) (nV (m.learn st g).room) (.ref A1.td) (.ref A1.hd) (.ref A1.x.1) (nV (A1.x.2 + 1)))) = H2 at ta2 fr2 h2f ob2 ⊢
    walk_at "wx"
    refine ⟨len_ok rfl, fun p3 hp3 => ?_⟩
    generalize hU : upd _ p3 _ = H3
    have ex3 := Ex.new' hp3 hU
    have h3 := new_at hU
    clear hU
    have h3f := ex3.at h2f
    have ob3 := ex3.at ob2
    have hfl : (m.askFd st g).length ≤ 4090 := by
      have q : (m.askFd st g).length ≤ m.houses.length := nodup_len ((byN_nodup _ _).sublist (List.take_sublist _ _)) fun x hx => TM.aw_house (TM.askFd_aw k (by omega) haw hx)
      have := k.houses_len; omega
    walk_at "wx"
    refine x_cat h3f h3 (by rw [sizeLine_eq, List.length_map]; simp only [List.length_cons, List.length_nil]; omega) fun p4 hp4 => ?_
    generalize hU : upd H3 p4 _ = H4
    have ex4 := Ex.new' hp4 hU
    have h4 : H4 p4 = some (.lst ((m.askFd st g ++ [st]).map nV)) := by rw [List.map_append]; exact new_at hU
    clear hU
    have ob4 := ex4.at ob3
    walk_at "wx"
    have ei : ((A1.x.2 + 1 : Nat) : Int) - 1 = (S.n : Int) := by have := t.cn; omega
    rw [ei]
    refine ⟨len_ok rfl, fun p5 hp5 => ?_⟩
    generalize hU : upd _ p5 _ = H5
    have ex5 := Ex.new' hp5 hU
    have h5 := new_at hU
    clear hU
    have h5 : H5 p5 = some (.tup [nV S.n, .str z]) := h5
    have ex25 := (ex3.trans ex4).trans ex5
    have fr15 : Fr F H1 H5 := fr2.trans ex25.fr
    have n5 : H1 p5 = none := fr2.back p5 (ex3.back p5 (ex4.back p5 hp5))
    have t5 := t1.laid (A' := { A1 with x := (A1.x.1, A1.x.2 + 1) }) fr15 (ta2.ex' ex25) rfl n5 h5
    have h45 := ex5.at h4
    have esz := TM.learn_sizes (m := m) (start := st) (g := g)
    walk_at "wx"
    refine wc_Market_put (S := S.laid p5 z) (i := S.n) (A := { A1 with x := (A1.x.1, A1.x.2 + 1) }) rfl (if_pos rfl).symm t5 (Nat.lt_succ_self _) h45 (fun x hx => ?_) (by rw [TM.learn_houses]; exact k.houses_len) (by rw [List.length_append, List.length_singleton]; have := k.houses_len; have q : (m.askFd st g).length ≤ m.houses.length := nodup_len ((byN_nodup _ _).sublist (List.take_sublist _ _)) fun x hx => TM.aw_house (TM.askFd_aw k (by omega) haw hx); omega) (fun x hx => ?_) fun p6 H6 hp6 fr6 h6 t6 => ?_
    · rw [TM.learn_houses]
      rcases List.mem_append.mp hx with z | z
      · exact TM.aw_house (TM.askFd_aw k (by omega) haw z)
      · rw [List.mem_singleton.mp z]; exact TM.aw_house haw
    · refine hks x ?_
      rcases List.mem_append.mp hx with z | z
      · exact TM.aw_house (TM.askFd_aw k (by omega) haw z)
      · rw [List.mem_singleton.mp z]; exact TM.aw_house haw
    · rw [esz.2.1] at h6 t6
      exact q p6 p5 H6 { A1 with x := (A1.x.1, A1.x.2 + 1) } (fr1.back p6 (fr15.back p6 hp6)) (fr1.back p5 n5) (((fr1.trans fr15).mono fun a z => .inl z).trans (fr6.mono fun a z => .inr z)) h6 (fun z => by rw [z, h5] at hp6; cases hp6) rfl t6
def sp_Market_kept (T : Tx K mg base) : Sp := fun vs H Q _ => ∃ (A : TA) (F G : Addr → Prop) (m : TM) (S : SM) (h : Nat), vs = [.ref A.t, .int h] ∧ MkAt T H A F G m S ∧ m.wide ≤ 60 ∧ h < 2 ^ m.wide ∧ h ∈ m.houses ∧ (S.ks h).length < 64 ∧
  ∀ (p : Addr) (ga : Nat → Addr) (H' : Hp), H p = none → Ex H H' → H' p = some (.lst ((sortU (S.ks h)).map fun k => .ref (ga k))) → (∀ k ∈ sortU (S.ks h), H' (ga k) = some (.tup [nV k, nV (S.vl h k), .str (S.tx (S.vl h k))]) ∧ H (ga k) = none) → Q (.ref p) H'
theorem wc_Market_kept {h : Nat} {i : Int} (hi : i = h) (t : MkAt T H A F G m S) (w1 : m.wide ≤ 60) (hb : h < 2 ^ m.wide) (hm : h ∈ m.houses) (hz : (S.ks h).length < 64)
    (q : ∀ (p : Addr) (ga : Nat → Addr) (H' : Hp), H p = none → Ex H H' → H' p = some (.lst ((sortU (S.ks h)).map fun k => .ref (ga k))) → (∀ k ∈ sortU (S.ks h), H' (ga k) = some (.tup [nV k, nV (S.vl h k), .str (S.tx (S.vl h k))]) ∧ H (ga k) = none) → Q (.ref p) H') : sp_Market_kept T [.ref A.t, .int i] H Q E := by
  subst hi; exact ⟨A, F, G, m, S, h, rfl, t, w1, hb, hm, hz, q⟩
theorem take_snoc {α : Type} {l : List α} {i : Nat} (h : i < l.length) : l.take (i + 1) = l.take i ++ [l[i]] := by rw [List.take_add_one, List.getElem?_eq_getElem h]; rfl
theorem not_take {l : List Nat} (nd : l.Nodup) {i : Nat} (h : i < l.length) : l[i] ∉ l.take i := fun z => by
  rw [← List.take_append_drop (i + 1) l, take_snoc h] at nd
  exact (List.nodup_append.mp (List.nodup_append.mp nd).1).2.2 _ z _ (List.mem_singleton.mpr rfl) rfl
theorem ok_Market_kept (T : Tx K mg base) : FnOk P w K mg base CX0 3 T.a_Market_kept T.d_Market_kept ["self", "house"] (sp_Market_kept T) := by
  refine T.F_Market_kept.okD sc_Market_kept (fun vs H Q E h => ?_) (fun cdv A outer s H vs Q E hr h => ?_)
  · obtain ⟨A, F, G, m, S, n, rfl, _⟩ := h; rfl
  · obtain ⟨A1, F, G, m, S, n, rfl, t, w1, hb, hm, hz, q⟩ := h
    obtain ⟨dx, ob⟩ := t.ta.tw.ob
    have hu := hu_of hr
    have sh := t.sh
    have sd := t.sd n hm
    have es := dOf_get (f := fun h => V.ref (S.sa h)) hm
    have c_Bucket := T.c_Bucket; have n_Bucket_room := T.n_Bucket_room; have n_Bucket_line := T.n_Bucket_line; have c_Table := T.c_Table; have n_Table_own := T.n_Table_own; have n_Table_wide := T.n_Table_wide; have n_Table_room := T.n_Table_room; have n_Table_buckets := T.n_Table_buckets; have c_Town := T.c_Town; have n_Town_wide := T.n_Town_wide; have n_Town_room := T.n_Town_room; have n_Town_tables := T.n_Town_tables; have n_Town_hushed := T.n_Town_hushed; have n_Town_shelves := T.n_Town_shelves; have n_Town_layings := T.n_Town_layings
    refine ⟨_, (pss_cons (ps_expr (pe_meth (pv 0) T.c_Town T.t_Town_table (ok_Town_table T) hr T.b_Town_table .nil pass0 (pa_cons (pv 1) pa_nil)))
      (pss_cons (ps_set (i := 2) sc_Market_kept.nd rfl (Or.inr rfl) (pe_dget hu (pe_fld (pv 0) rfl) (pv 1) (fun _ _ => rfl)))
      (pss_one (ps_ret (pe_lc (own := [("key", 3)]) (g := (gName 3)) (by rfl) sc_Market_kept.nd (pi_list (pe_callB (cb_sortD rfl) (by rfl) T.z_sorted (by decide +kernel) (pa_cons (pv 2) pa_nil))) (blkOk_by (N := N_Market_kept) (sc := defScope s_Market_kept) (own := [("key", 3)]) (by decide +kernel)) (fun _ _ _ _ _ => (pg_name (i := 3) sc_Market_kept.nd rfl (Or.inl rfl))) (fun _ _ _ _ _ => pts_nil) (fun _ _ _ _ _ => (pe_op (op_catTK (K := K) rfl) (pe_tup (pa_cons (pv 3) pa_nil)) (pe_dget hu (pv 2) (pv 3) (fun _ _ => rfl))))))))), ?_⟩
    rw [Nn.st_Market_kept]; try rw [Nn.cxK]
    try rw [Nn.cxW]
    walk_at "wx"
    refine wc_Town_table rfl t.ta w1 hb hm ?_
    walk_at "wx"
    refine x_sortDN (.inl sd) hz (t.nd n hm) fun p1 hp1 => ?_
    generalize hU : upd H p1 _ = H1
    have ex1 := Ex.new' hp1 hU
    have h1 := new_at hU
    clear hU
    have hkl : (sortU (S.ks n)).length < 64 := Nat.lt_of_le_of_lt (nodup_len (rising_nodup (sortU_sorted _)) fun z hz => mem_sortU.mp hz) hz
    have knd := rising_nodup (sortU_sorted (S.ks n))
    have hkm : ∀ x ∈ sortU (S.ks n), x ∈ S.ks n := fun x hx => mem_sortU.mp hx
    generalize sortU (S.ks n) = ks at h1 hkl knd hkm q
    walk_at "wx"
    refine LcW.by1 walk_list (by rw [sizeLine_eq, List.length_map]; omega) (fun D j acc H' => ∃ ga : Nat → Addr, acc = (ks.take j).map (fun k => .ref (ga k)) ∧ Ex H1 H' ∧ ∀ k ∈ ks.take j, H' (ga k) = some (.tup [nV k, nV (S.vl n k), .str (S.tx (S.vl n k))]) ∧ H1 (ga k) = none)
      (fun D hD => ⟨fun _ => 0, rfl, Ex.new hD, fun k hk => by simp at hk⟩) (fun D i acc H' hD _ ⟨_, _, e, _⟩ => SqL.of (e.at h1)) ?_ ?_
    · rintro D j acc x H2 _ hj hD ⟨ga, rfl, ex2, hga⟩ h2 ⟨rfl, hx⟩ Qe hQ
      rw [List.length_map] at hj
      obtain rfl : x = nV ks[j] := by
        rw [List.getElem?_map, List.getElem?_eq_getElem hj] at hx
        exact (Option.some.inj hx).symm
      have hkj := hkm _ (List.getElem_mem hj)
      have hnt := not_take knd hj
      rw [take_snoc hj] at hQ
      generalize ks[j] = y at hkj hnt hQ
      have ex02 := ex1.trans ex2
      have sd2 := ex02.at sd
      have ey := dOf_get (f := fun k => V.ref (S.ta (S.vl n k))) hkj
      have th2 := ex02.at (t.th _ (t.lt n hm y hkj))
      walk_at "wx"
      refine ⟨len_ok rfl, fun p3 hp3 => ?_⟩
      generalize hU : upd _ p3 _ = H3
      have ex3 := Ex.new' hp3 hU
      have h3 := new_at hU
      clear hU
      have sd3 := ex3.at sd2
      walk_at "wx"
      refine x_catT (SqT.of h3) (SqT.of (ex3.at th2)) (by simp) (by simp) (by rw [sizeLine_eq]; show 1 + 2 ≤ 16777216; decide) fun p4 hp4 => ?_
      generalize hU : upd H3 p4 _ = H4
      have ex4 := Ex.new' hp4 hU
      have h4 : H4 p4 = some (.tup [nV y, nV (S.vl n y), .str (S.tx (S.vl n y))]) := new_at hU
      clear hU
      have ex24 := ex3.trans ex4
      have hD4 := ex24.at h2
      obtain ⟨gb, eb1, eb2⟩ : ∃ gb : Nat → Addr, gb y = p4 ∧ ∀ k, k ≠ y → gb k = ga k := ⟨fun k => if k = y then p4 else ga k, if_pos rfl, fun k h => if_neg h⟩
      have ny : ∀ k ∈ ks.take j, k ≠ y := fun k hk z => hnt (by rw [← z]; exact hk)
      refine hQ _ _ hD4 ⟨gb, ?_, (ex2.trans ex24).mut hD hD4, fun k hk => ?_⟩
      · rw [List.map_append, List.map_cons, List.map_nil, eb1, List.map_congr_left (f := fun k => V.ref (gb k)) (g := fun k => V.ref (ga k)) fun k hk => by rw [eb2 k (ny k hk)]]
      · rcases List.mem_append.mp hk with hk | hk
        · have e := ex24.at (hga k hk).1
          rw [eb2 k (ny k hk), upd_ne fun z => by rw [z, hD4] at e; cases e]
          exact ⟨e, (hga k hk).2⟩
        · have e := List.mem_singleton.mp hk
          rw [e, eb1, upd_ne fun z => by rw [z, hD4] at h4; cases h4]
          exact ⟨h4, ex2.back p4 (ex3.back p4 hp4)⟩
    · rintro D acc H2 hD ⟨ga, rfl, ex2, hga⟩ h2 hlen
      rw [List.length_map, List.take_length] at h2 hga
      exact q D ga H2 (ex1.back D hD) (ex1.trans ex2) h2 fun k hk => ⟨(hga k hk).1, ex1.back _ (hga k hk).2⟩
end
end Nn
/-! max over tuples (number, text) -/
namespace Nn
open PySem PySem.Spec PyProof.Rows L2
theorem pe_fldK {X : Cx} {K : PySem.W.Frag} {e : Expr} {f : Str} {pos : Pos} {ta : TE} (hk : X.K = K) (he : PE X e ta) (hb : attributeBase e f X.env (eval e X.env) = eval e X.env := by rfl) : PE X (.Attribute e f pos) (tFld K ta f) := by subst hk; exact pe_fld he hb
def thg (i : Nat) (z : Str) : PyData := .tuple [.int i, .str z]
theorem thg_alike {i j : Nat} {y z : Str} : PySem.W.alike (thg i y) (thg j z) = true := by
  simp only [thg, PySem.W.alike, PySem.W.alikeAll, Bool.and_self]
theorem thg_lt {i j : Nat} {y z : Str} (h : i ≠ j) : PySem.W.dataLt (thg i y) (thg j z) = decide (i < j) := by
  have e : PyData.eqv (.int (i : Int)) (.int (j : Int)) = false := by
    have n : (i : Int) ≠ (j : Int) := fun e => h (Int.ofNat.inj e)
    simp [PyData.eqv, n]
  unfold thg
  rw [PySem.W.dataLt_tuple, PySem.W.dataLt_all_no (by simp only [PySem.W.alike]) e, PySem.W.dataLt_int]
  exact decide_eq_decide.mpr Int.ofNat_lt
theorem thg_same {i : Nat} {z : Str} : PySem.W.dataLt (thg i z) (thg i z) = false := PyProof.Rows.lex_irrefl _
theorem maxD_thg {tx : Nat → Str} : ∀ (ns : List Nat) (i : Nat), ∃ j, (j = i ∨ j ∈ ns) ∧ PySem.W.maxD (thg i (tx i)) (ns.map fun n => thg n (tx n)) = thg j (tx j) ∧ i ≤ j ∧ ∀ n ∈ ns, n ≤ j
  | [], i => ⟨i, .inl rfl, rfl, Nat.le_refl _, fun _ h => by cases h⟩
  | n :: r, i => by
    have step : PySem.W.maxD (thg i (tx i)) ((n :: r).map fun n => thg n (tx n)) = PySem.W.maxD (if PySem.W.dataLt (thg i (tx i)) (thg n (tx n)) then thg n (tx n) else thg i (tx i)) (r.map fun n => thg n (tx n)) := rfl
    rw [step]
    rcases Nat.lt_trichotomy i n with h | h | h
    · rw [thg_lt (Nat.ne_of_lt h), decide_eq_true h, if_pos rfl]
      obtain ⟨j, h1, h2, h3, h4⟩ := maxD_thg (tx := tx) r n
      refine ⟨j, .inr ?_, h2, by omega, fun x hx => ?_⟩
      · rcases h1 with e | e
        · rw [e]; simp
        · exact List.mem_cons_of_mem _ e
      · rcases List.mem_cons.mp hx with e | e
        · rw [e]; exact h3
        · exact h4 x e
    · subst h
      rw [thg_same, if_neg Bool.false_ne_true]
      obtain ⟨j, h1, h2, h3, h4⟩ := maxD_thg (tx := tx) r i
      refine ⟨j, h1.imp id (List.mem_cons_of_mem _), h2, h3, fun x hx => ?_⟩
      rcases List.mem_cons.mp hx with e | e
      · rw [e]; exact h3
      · exact h4 x e
    · rw [thg_lt (Nat.ne_of_gt h), decide_eq_false (by omega), if_neg Bool.false_ne_true]
      obtain ⟨j, h1, h2, h3, h4⟩ := maxD_thg (tx := tx) r i
      refine ⟨j, h1.imp id (List.mem_cons_of_mem _), h2, h3, fun x hx => ?_⟩
      rcases List.mem_cons.mp hx with e | e
      · rw [e]; omega
      · exact h4 x e
theorem thgs_all {K : PySem.W.Frag} {H : Hp} {tx : Nat → Str} : ∀ {L : List (Addr × Nat)}, (∀ p ∈ L, H p.1 = some (.tup [nV p.2, .str (tx p.2)])) → DpAll K H (L.map fun p => .ref p.1) ((L.map (·.2)).map fun n => thg n (tx n))
  | [], _ => .nil
  | p :: r, h => .cons (.tup (SqT.of (h p (by simp))) (.cons (.int _) (.cons (.str _) .nil))) (thgs_all fun q hq => h q (List.mem_cons_of_mem _ hq))
theorem thgs_alike {tx : Nat → Str} {ns : List Nat} : PySem.W.AlikeAll (ns.map fun n => thg n (tx n)) := ⟨fun x hx y hy => by
  obtain ⟨i, _, rfl⟩ := List.mem_map.mp hx
  obtain ⟨j, _, rfl⟩ := List.mem_map.mp hy
  exact thg_alike, fun x hx => by
  obtain ⟨i, _, rfl⟩ := List.mem_map.mp hx
  unfold thg
  exact fun e => by cases e⟩
theorem thgs_depth {tx : Nat → Str} : ∀ {ns : List Nat}, PyData.depthAll (ns.map fun n => thg n (tx n)) ≤ 2
  | [] => by simp [PyData.depthAll]
  | n :: r => by
    have q := thgs_depth (tx := tx) (ns := r)
    simp only [List.map_cons, thg, PyData.depthAll, PyData.depth]
    simp only [thg] at q
    omega
section
variable {X : Cx}
/-- the greatest of the tuples at L: by its number -/
theorem max_pick {s : Shared} {its : List Value} {tx : Nat → Str} {p0 : Addr × Nat} {r : List (Addr × Nat)} {i : Nat} {v : Value} {bs as : List Addr} {h' : Heap} (rv : Vals ((p0 :: r).map fun p => V.ref p.1) its) (ra : ReadsAll s.heap its (((p0 :: r).map (·.2)).map fun n => thg n (tx n)) as) (hv : its.toArray[i]? = some v)
    (rm : Reads h' v (PySem.W.maxD (thg p0.2 (tx p0.2)) ((r.map (·.2)).map fun n => thg n (tx n))) bs) (k : ∀ b o, s.heap.get? b = some o → h'.get? b = some o) : ∃ p ∈ p0 :: r, v = .ref p.1 ∧ ∀ q ∈ p0 :: r, q.2 ≤ p.2 := by
  have hv : its[i]? = some v := by
    rw [← Array.getElem?_toList] at hv
    exact hv
  obtain ⟨cs, r1, hlt, _, _⟩ := PySem.W.readsAll_at ra i v hv
  have hlt : i < (p0 :: r).length := by rw [List.length_map, List.length_map] at hlt; exact hlt
  obtain ⟨u, hu, ru⟩ := Vals.get (i := i) (x := V.ref (p0 :: r)[i].1) rv (by rw [List.getElem?_map, List.getElem?_eq_getElem hlt]; rfl)
  rw [hv] at hu
  cases hu
  have ev : v = .ref (p0 :: r)[i].1 := ru
  have ed : (((p0 :: r).map (·.2)).map fun n => thg n (tx n)).getD i .none = thg (p0 :: r)[i].2 (tx (p0 :: r)[i].2) := by
    rw [List.getD_eq_getElem?_getD, List.getElem?_map, List.getElem?_map, List.getElem?_eq_getElem hlt]; rfl
  rw [ed] at r1
  obtain ⟨j, _, e, h1, h2⟩ := maxD_thg (tx := tx) (r.map (·.2)) p0.2
  rw [e] at rm
  have eq := PySem.W.alike_unique _ _ _ _ _ thg_alike (Reads.keeps k r1) rm
  have en : (p0 :: r)[i].2 = j := by
    unfold thg at eq
    injection eq with eq
    injection eq with eq _
    injection eq with eq
    exact Int.ofNat.inj eq
  refine ⟨(p0 :: r)[i], List.getElem_mem hlt, ev, fun q hq => ?_⟩
  rw [en]
  rcases List.mem_cons.mp hq with y | y
  · rw [y]; exact h1
  · exact h2 _ (List.mem_map.mpr ⟨q, y, rfl⟩)
def rMaxT (K : PySem.W.Frag) : List V → Hp → VK → Prop := fun xs H Q => ∃ (a : Addr) (L : List (Addr × Nat)) (tx : Nat → Str), xs = [.ref a] ∧ SqL K H a (L.map fun p => .ref p.1) ∧ L ≠ [] ∧ (∀ p ∈ L, H p.1 = some (.tup [nV p.2, .str (tx p.2)])) ∧ ∀ p ∈ L, (∀ q ∈ L, q.2 ≤ p.2) → Q (.ref p.1) H
theorem cr_maxT {k : Nat} (hc : X.calm = true) (hr : Room k X.A) : CallR X (.builtin "max") (rMaxT X.K) := by
  intro pins s σ H xs us Q I r h
  obtain ⟨a, L, tx, rfl, hs, hne, hL, q⟩ := h
  obtain ⟨its, rv, hl, _⟩ := I.list hs
  rw [Vals.ref1 r]
  obtain ⟨as, ra⟩ := Dp.readsAll I _ _ _ (thgs_all hL) rv
  cases L with
  | nil => exact absurd rfl hne
  | cons p0 r =>
    have hd : PyData.depthAll (thg p0.2 (tx p0.2) :: (r.map Prod.snd).map fun n => thg n (tx n)) ≤ 2 := thgs_depth (tx := tx) (ns := (p0 :: r).map Prod.snd)
    have hal : PySem.W.AlikeAll (thg p0.2 (tx p0.2) :: (r.map Prod.snd).map fun n => thg n (tx n)) := thgs_alike (tx := tx) (ns := (p0 :: r).map Prod.snd)
    have hun := hr.un
    refine PySem.W.max_list_data (x := thg p0.2 (tx p0.2)) (xs := (r.map Prod.snd).map fun n => thg n (tx n)) (I.ok.hd hc) hl.isList ra hal (by omega) fun i v h' tk bs hv rm k => ?_
    obtain ⟨p, hp, rfl, hm⟩ := max_pick rv ra hv rm k
    exact ⟨.ref p.1, H, I.kept k, rfl, q p hp hm⟩
theorem x_maxT {K : PySem.W.Frag} {H : Hp} {Q : VK} {a : Addr} {L : List (Addr × Nat)} {tx : Nat → Str} (hS : SqL K H a (L.map fun p => .ref p.1)) (hne : L ≠ []) (hL : ∀ p ∈ L, H p.1 = some (.tup [nV p.2, .str (tx p.2)])) (q : ∀ p ∈ L, (∀ q ∈ L, q.2 ≤ p.2) → Q (.ref p.1) H) : rMaxT K [.ref a] H Q := ⟨a, L, tx, rfl, hS, hne, hL, q⟩
def RMd (K : PySem.W.Frag) (Q : VK) : VK := fun x H => ∃ (a : Addr) (L : List (Addr × Nat)) (tx : Nat → Str), x = .ref a ∧ SqL K H a (L.map fun p => .ref p.1) ∧ (∀ p ∈ L, H p.1 = some (.tup [nV p.2, .str (tx p.2)])) ∧ (L = [] → Q .non H) ∧ ∀ p ∈ L, (∀ q ∈ L, q.2 ≤ p.2) → Q (.ref p.1) H
def tMaxD (K : PySem.W.Frag) (te : TE) : TE := fun σ H Q => te σ H (RMd K Q)
theorem e_maxD {K : PySem.W.Frag} {te : TE} {σ : L2.St} {H : Hp} {Q : VK} : tMaxD K te σ H Q = te σ H (RMd K Q) := rfl
theorem x_maxD {K : PySem.W.Frag} {H : Hp} {Q : VK} {a : Addr} {L : List (Addr × Nat)} {tx : Nat → Str} (hS : SqL K H a (L.map fun p => .ref p.1)) (hL : ∀ p ∈ L, H p.1 = some (.tup [nV p.2, .str (tx p.2)])) (q0 : L = [] → Q .non H) (q : ∀ p ∈ L, (∀ q ∈ L, q.2 ≤ p.2) → Q (.ref p.1) H) : RMd K Q (.ref a) H := ⟨a, L, tx, rfl, hS, hL, q0, q⟩
theorem pe_maxD {e : Expr} {te : TE} {p pos cp kp : Pos} {k j : Nat} (he : PE X e te) (hr : Room k X.A) (hg : Gl X "max") (hm : X.mg "max" = none) (hc : X.calm = true)
    (hs : starEach [e] X.env = (false, eval e X.env) :: starEach [] X.env := by rfl) (h1 : backTo pos (starEach [e] X.env) = (false, eval e X.env) :: backTo pos (starEach [] X.env) := by rfl) (hpl : (backTo pos (starEach [e] X.env)).any (·.1) = false := by rfl) :
    PE X (.Call (.Name "max" p) [e] [⟨some "default", .Constant .none j cp, kp⟩] pos) (tMaxD X.K te) := by
  refine ⟨fun pins s σ H Q I h => ?_⟩
  refine wpAny_Call_Name_kw (ld_blt I hg hm rfl ?_)
  refine PyProof.Rows.callWith_kw (thn ((pa_cons he pa_nil hs).run pos pins s σ H (fun vs H1 => match vs with
    | [x] => RMd X.K Q x H1
    | _ => False) I h) fun us s1 ⟨vs, H1, I1, r1, q1⟩ => ?_) h1 hpl rfl rfl
  match vs, r1, q1 with
  | [v], r1, ⟨a, L, tx, ev, hS, hL, q0, q⟩ =>
    subst ev
    obtain rfl := Vals.ref1 r1
    show wpAny _ _ (evalAll ((do let v ← eval (.Constant .none j cp) X.env; standAt pos; pure v) :: [])) _ _ s1
    refine wpAny_evalAll_cons (wpAny_bind (Constant_none (wpAny_bind (wpAny_standAt (wpAny_pure (wpAny_evalAll_nil ?_))))))
    show wpAny _ _ (call (.builtin "max") [.ref a] [(Str.ofString "default", .none)]) _ _ s1
    obtain ⟨its, rv, hl, _⟩ := I1.list hS
    obtain ⟨as, ra⟩ := Dp.readsAll I1 _ _ _ (thgs_all hL) rv
    have hd := thgs_depth (tx := tx) (ns := L.map (·.2))
    have hun := hr.un
    refine PySem.W.max_list_default (I1.ok.hd hc) hl.isList ra thgs_alike (by omega) (fun e0 h' tk k => ?_) fun y ys i v h' tk bs e0 hv rm k => ?_
    · have e1 : L = [] := by
        cases L with
        | nil => rfl
        | cons _ _ => cases e0
      exact ⟨.non, H1, I1.kept k, rfl, q0 e1⟩
    · cases L with
      | nil => cases e0
      | cons p0 r =>
        have e0 : thg p0.2 (tx p0.2) :: ((r.map (·.2)).map fun n => thg n (tx n)) = y :: ys := e0
        injection e0 with ea eb
        subst ea eb
        obtain ⟨p, hp, rfl, hm⟩ := max_pick rv ra hv rm k
        exact ⟨.ref p.1, H1, I1.kept k, rfl, q p hp hm⟩
end
/-- any comprehension over what walks -/
theorem LcW.inv {J : It} {n : Nat} {G : Hp → Prop} {Y : Nat → Hp → V → Hp → Prop} {g : TG} {tt : TT} {te : TE} {vs : List Nat} {σ : L2.St} {H : Hp} {Q : VK} (w : Walk J n G Y) (hz : n < sizeLine) (Pv : Addr → Nat → List V → Hp → Prop)
    (h0 : ∀ D, H D = none → Pv D 0 [] (upd H D (.lst []))) (hG : ∀ D i acc H', H D = none → Pv D i acc H' → G H')
    (hs : ∀ D i acc x H1 H2, i < n → H D = none → Pv D i acc H1 → H1 D = some (.lst acc) → Y i H1 x H2 → ∀ (Qe : VK) (R : Hp → Prop), (∀ y H5, H5 D = some (.lst acc) → Pv D (i + 1) (acc ++ [y]) (upd H5 D (.lst (acc ++ [y]))) → Qe y H5) → (∀ H4, H4 D = some (.lst acc) → Pv D (i + 1) acc H4 → R H4) →
      g x (wipe σ vs) H2 fun σ2 H3 => wipe σ2 vs = wipe σ vs ∧ tt σ2 H3 fun b H4 => if b = true then te σ2 H4 Qe else R H4)
    (hd : ∀ D acc H', H D = none → Pv D n acc H' → H' D = some (.lst acc) → Q (.ref D) H') : LcW g tt te vs σ Q J H := by
  intro D hD
  refine lc_it w (Qd := fun H' => Q (.ref D) H') (fun i H' => ∃ acc, acc.length ≤ i ∧ H' D = some (.lst acc) ∧ Pv D i acc H') ⟨[], Nat.le_refl _, upd_same, h0 D hD⟩ (fun i H' _ ⟨acc, _, _, p⟩ => hG D i acc H' hD p) ?_ ?_
  · rintro i x H1 H2 hi ⟨acc, hl, h1, pv⟩ y
    refine hs D i acc x H1 H2 hi hD pv h1 y _ _ (fun y H5 h5 p5 => ⟨acc, h5, by omega, acc ++ [y], by rw [List.length_append, List.length_singleton]; omega, upd_same, p5⟩) fun H4 h4 p4 => ⟨acc, by omega, h4, p4⟩
  · rintro H1 ⟨acc, _, h1, pv⟩
    exact hd D acc H1 hD pv h1
def RDG1 (ty : TE) (σ : L2.St) (Q : VK) : VK := fun x H1 => ∃ a, x = .ref a ∧ IsD H1 a ∧ ty σ H1 fun y H2 => ∃ o, DGet H2 a y o ∧ Q (o.getD .non) H2
theorem e_dget1 {td ty : TE} {σ : L2.St} {H : Hp} {Q : VK} : tDGet1 td ty σ H Q = td σ H (RDG1 ty σ Q) := rfl
theorem x_dget1 {ty : TE} {σ : L2.St} {H : Hp} {Q : VK} {a : Addr} {kvs : List (Key × V)} (h : H a = some (.dK kvs)) (k : ty σ H fun y H2 => ∃ o, DGet H2 a y o ∧ Q (o.getD .non) H2) : RDG1 ty σ Q (.ref a) H := ⟨a, rfl, .inl ⟨kvs, .inl h⟩, k⟩
end Nn
local macro_rules | `(tactic| walk_at "wc") => `(tactic| dsimp only [↓Nn.e_maxD, ↓Nn.e_dget1])
local macro_rules | `(tactic| walk_at "wc") => `(tactic| ((with_reducible refine' Nn.x_dget1 ?hS ?_); (case hS => walk_at "wob")))
/-! what is sought -/
namespace Nn
open PySem L2
section
variable {P : Program} {w : World} {K : PySem.W.Frag} {mg : Str → Option Value} {base : Heap} {H H' : Hp} {Q : VK} {E : XK} {T : Tx K mg base} {A : TA} {F G X : Addr → Prop} {m : TM} {S : SM}
/-- the newest by a key that some houses keep -/
inductive Newest (S : SM) (g : Nat) (hs : List Nat) : Option Nat → Prop
  | non : (∀ h ∈ hs, g ∉ S.ks h) → Newest S g hs none
  | some {h : Nat} : h ∈ hs → g ∈ S.ks h → (∀ x ∈ hs, g ∈ S.ks x → S.vl x g ≤ S.vl h g) → Newest S g hs (some (S.vl h g))
theorem Newest.uniq {g : Nat} {hs : List Nat} {o o' : Option Nat} (a : Newest S g hs o) (b : Newest S g hs o') : o = o' := by
  cases a with
  | non a =>
    cases b with
    | non _ => rfl
    | some hb kb _ => exact absurd kb (a _ hb)
  | some ha ka la =>
    cases b with
    | non b => exact absurd ka (b _ ha)
    | some hb kb lb =>
      have h1 := la _ hb kb
      have h2 := lb _ ha ka
      congr 1
      omega
def sp_Market_newest (T : Tx K mg base) : Sp := fun vs H Q _ => ∃ (A : TA) (F G : Addr → Prop) (m : TM) (S : SM) (g : Nat) (l : Addr) (hs : List Nat), vs = [.ref A.t, .int g, .ref l] ∧ MkAt T H A F G m S ∧ H l = some (.lst (hs.map nV)) ∧ (∀ x ∈ hs, x ∈ m.houses) ∧ hs.length ≤ 4090 ∧
  (∀ H', Ex H H' → Newest S g hs none → Q .non H') ∧ ∀ H' i, Ex H H' → i < S.n → Newest S g hs (some i) → Q (.ref (S.ta i)) H'
theorem wc_Market_newest {g : Nat} {i : Int} {l : Addr} {hs : List Nat} (hi : i = g) (t : MkAt T H A F G m S) (hl : H l = some (.lst (hs.map nV))) (hm : ∀ x ∈ hs, x ∈ m.houses) (hz : hs.length ≤ 4090) (q0 : ∀ H', Ex H H' → Newest S g hs none → Q .non H') (q : ∀ H' i, Ex H H' → i < S.n → Newest S g hs (some i) → Q (.ref (S.ta i)) H') : sp_Market_newest T [.ref A.t, .int i, .ref l] H Q E := by
  subst hi; exact ⟨A, F, G, m, S, g, l, hs, rfl, t, hl, hm, hz, q0, q⟩
theorem ok_Market_newest (T : Tx K mg base) : FnOk P w K mg base CX0 1 T.a_Market_newest T.d_Market_newest ["self", "key", "houses"] (sp_Market_newest T) := by
  refine T.F_Market_newest.okD sc_Market_newest (fun vs H Q E h => ?_) (fun cdv A outer s H vs Q E hr h => ?_)
  · obtain ⟨A, F, G, m, S, g, l, hs, rfl, _⟩ := h; rfl
  · obtain ⟨A1, F, G, m, S, g, l, hs, rfl, t, hl, hm, hz, q0, q⟩ := h
    obtain ⟨dx, ob⟩ := t.ta.tw.ob
    have hu := hu_of hr
    have c_Bucket := T.c_Bucket; have n_Bucket_room := T.n_Bucket_room; have n_Bucket_line := T.n_Bucket_line; have c_Table := T.c_Table; have n_Table_own := T.n_Table_own; have n_Table_wide := T.n_Table_wide; have n_Table_room := T.n_Table_room; have n_Table_buckets := T.n_Table_buckets; have c_Town := T.c_Town; have n_Town_wide := T.n_Town_wide; have n_Town_room := T.n_Town_room; have n_Town_tables := T.n_Town_tables; have n_Town_hushed := T.n_Town_hushed; have n_Town_shelves := T.n_Town_shelves; have n_Town_layings := T.n_Town_layings
    refine ⟨_, (pss_cons (ps_setLc (i := 3) (own := [("house", 4)]) (g := (gName 4)) (by rfl) sc_Market_newest.nd rfl rfl (sw_true rfl rfl rfl (by decide +kernel)) (pi_list (pv 2)) (blkOk_by (N := N_Market_newest) (sc := defScope s_Market_newest) (own := [("house", 4)]) (by decide +kernel)) (fun _ _ _ _ _ => (pg_name (i := 4) sc_Market_newest.nd rfl (Or.inl rfl))) (fun _ _ _ _ _ => pts_one ((pt_cmp (pc_din hu (pv 1) (pe_dget hu (pe_fldK (K := K) rfl (pv 0)) (pv 4) (fun _ _ => rfl)))))) (fun _ _ _ _ _ => (pe_dget hu (pe_dget hu (pe_fldK (K := K) rfl (pv 0)) (pv 4) (fun _ _ => rfl)) (pv 1) (fun _ _ => rfl))))
      (pss_one (ps_ret (pe_maxD (pv 3) hr (by rfl) T.z_max rfl)))), ?_⟩
    rw [Nn.st_Market_newest]; try rw [Nn.cxK]
    try rw [Nn.cxW]
    walk_at "wx"
    refine LcW.fmA (emb := nV) (xs := hs) (fun h => decide (g ∈ S.ks h)) (fun h => .ref (S.ta (S.vl h g))) (SqL.of hl) (by rw [sizeLine_eq]; omega) (fun x hx H2 ex2 R hR => ?_) (fun x hx hp H2 ex2 Qe hQ => ?_) fun p2 H2 hp2 ex2 h2 => ?_
    · have t2 := t.ex' ex2
      obtain ⟨dx2, ob2⟩ := t2.ta.tw.ob
      have sh2 := t2.sh
      have hxm := hm x hx
      have sd2 := t2.sd x hxm
      have e2 := dOf_get (f := fun h => V.ref (S.sa h)) hxm
      have e3 : (valV (dOf (S.ks x) fun k => .ref (S.ta (S.vl x k))) (Sum.inl (g : Int))).isSome = decide (g ∈ S.ks x) := dOf_has
      walk_at "wx"
      rw [e3]
      exact hR _ Ex.refl
    · have t2 := t.ex' ex2
      obtain ⟨dx2, ob2⟩ := t2.ta.tw.ob
      have sh2 := t2.sh
      have hxm := hm x hx
      have sd2 := t2.sd x hxm
      have e2 := dOf_get (f := fun h => V.ref (S.sa h)) hxm
      have e3 := dOf_get (f := fun k => V.ref (S.ta (S.vl x k))) (of_decide_eq_true hp)
      walk_at "wx"
      exact hQ _ Ex.refl
    · have t2 := t.ex' ex2
      have eL : ((hs.filter fun h => decide (g ∈ S.ks h)).map fun h => V.ref (S.ta (S.vl h g))) = ((hs.filter fun h => decide (g ∈ S.ks h)).map fun h => (S.ta (S.vl h g), S.vl h g)).map fun p => V.ref p.1 := by rw [List.map_map]; rfl
      rw [eL] at h2
      have mem : ∀ p ∈ (hs.filter fun h => decide (g ∈ S.ks h)).map (fun h => (S.ta (S.vl h g), S.vl h g)), ∃ h ∈ hs, g ∈ S.ks h ∧ p = (S.ta (S.vl h g), S.vl h g) := fun p hp => by
        obtain ⟨h, hh, e⟩ := List.mem_map.mp hp
        have hh := List.mem_filter.mp hh
        exact ⟨h, hh.1, of_decide_eq_true hh.2, e.symm⟩
      have mem2 : ∀ h ∈ hs, g ∈ S.ks h → (S.ta (S.vl h g), S.vl h g) ∈ (hs.filter fun h => decide (g ∈ S.ks h)).map (fun h => (S.ta (S.vl h g), S.vl h g)) := fun h hh hk => List.mem_map.mpr ⟨h, List.mem_filter.mpr ⟨hh, decide_eq_true hk⟩, rfl⟩
      walk_at "wx"
      refine x_maxD (tx := S.tx) (SqL.of h2) (fun p hp => ?_) (fun e => q0 _ ex2 (.non fun h hh hk => ?_)) fun p hp hmax => ?_
      · obtain ⟨h, hh, hk, rfl⟩ := mem p hp
        exact t2.th _ (t2.lt h (hm h hh) g hk)
      · have z := mem2 h hh hk
        rw [e] at z; cases z
      · obtain ⟨h, hh, hk, rfl⟩ := mem p hp
        exact q _ _ ex2 (t2.lt h (hm h hh) g hk) (.some hh hk fun x hx hxk => hmax _ (mem2 x hx hxk))
/-- who answers an ask -/
def TM.met (m : TM) (st g : Nat) : List Nat := ((m.askSt st g).row.filter (·.2.isSome)).map (·.1)
theorem TM.met_aw {N : List Nat} (k : m.Ok N) {s g x : Nat} (haw : m.aw s = true) (hx : x ∈ m.met s g) : m.aw x = true := by
  obtain ⟨e, he, rfl⟩ := List.mem_map.mp hx
  have he := List.mem_filter.mp he
  have q := (TM.ask_mem k haw he.1).2
  rw [← TM.tells_isSome (m := m) (h := e.1) (g := g) (a := s), ← q]
  exact he.2
def sp_Market_seek (T : Tx K mg base) : Sp := fun vs H Q _ => ∃ (A : TA) (F G : Addr → Prop) (m : TM) (S : SM) (N : List Nat) (st g : Nat), vs = [.ref A.t, .int st, .int g] ∧ MkAt T H A F G m S ∧ m.Ok N ∧ N.length < 63 ∧ m.aw st = true ∧ g < 2 ^ m.wide ∧ NdefX.TabsN (tabsL T) H ∧
  (∀ H', Fr F H H' → MkAt T H' A F G (m.learn st g) S → Newest S g (m.met st g) none → Q .non H') ∧ ∀ H' i, Fr F H H' → MkAt T H' A F G (m.learn st g) S → i < S.n → Newest S g (m.met st g) (some i) → Q (.str (S.tx i)) H'
theorem wc_Market_seek {N : List Nat} {st g : Nat} {i j : Int} (hi : i = st) (hj : j = g) (t : MkAt T H A F G m S) (k : m.Ok N) (hN : N.length < 63) (hm : m.aw st = true) (hg : g < 2 ^ m.wide) (tb : NdefX.TabsN (tabsL T) H)
    (q0 : ∀ H', Fr F H H' → MkAt T H' A F G (m.learn st g) S → Newest S g (m.met st g) none → Q .non H') (q : ∀ H' i, Fr F H H' → MkAt T H' A F G (m.learn st g) S → i < S.n → Newest S g (m.met st g) (some i) → Q (.str (S.tx i)) H') : sp_Market_seek T [.ref A.t, .int i, .int j] H Q E := by
  subst hi hj; exact ⟨A, F, G, m, S, N, st, g, rfl, t, k, hN, hm, hg, tb, q0, q⟩
theorem ok_Market_seek (T : Tx K mg base) : FnOk P w K mg base CX0 8 T.a_Market_seek T.d_Market_seek ["self", "start", "key"] (sp_Market_seek T) := by
  refine T.F_Market_seek.okD sc_Market_seek (fun vs H Q E h => ?_) (fun cdv A outer s H vs Q E hr h => ?_)
  · obtain ⟨A, F, G, m, S, N, st, g, rfl, _⟩ := h; rfl
  · obtain ⟨A1, F, G, m, S, N, st, g, rfl, t, k, hN, haw, hg, hT, q0, q⟩ := h
    obtain ⟨dx, ob⟩ := t.ta.tw.ob
    have hu := hu_of hr
    have hrz : (m.askSt st g).row.length ≤ N.length + 1 := (TM.askSt_ok k haw).len
    have c_Bucket := T.c_Bucket; have n_Bucket_room := T.n_Bucket_room; have n_Bucket_line := T.n_Bucket_line; have c_Table := T.c_Table; have n_Table_own := T.n_Table_own; have n_Table_wide := T.n_Table_wide; have n_Table_room := T.n_Table_room; have n_Table_buckets := T.n_Table_buckets; have c_Town := T.c_Town; have n_Town_wide := T.n_Town_wide; have n_Town_room := T.n_Town_room; have n_Town_tables := T.n_Town_tables; have n_Town_hushed := T.n_Town_hushed; have n_Town_shelves := T.n_Town_shelves; have n_Town_layings := T.n_Town_layings
    refine ⟨_, (pss_cons (ps_asg (pe_meth (pv 0) T.c_Town T.t_Town_ask (ok_Town_ask T) hr T.b_Town_ask .nil pass0 (pa_cons (pv 1) (pa_cons (pv 2) pa_nil))) (pg_tup (n := 2) rfl (pgs_cons (pg_name (i := 3) sc_Market_seek.nd rfl (Or.inl rfl)) (pgs_cons (pg_name (i := 4) sc_Market_seek.nd rfl (Or.inl rfl)) pgs_nil))))
      (pss_cons (ps_setLc (i := 5) (own := [("house", 6), ("told", 7)]) (g := (gTup K 2 (gCons (gName 6) (gCons (gName 7) gNil)))) (by rfl) sc_Market_seek.nd rfl rfl (sw_true rfl rfl rfl (by decide +kernel)) (pi_list (pv 3)) (blkOk_by (N := N_Market_seek) (sc := defScope s_Market_seek) (own := [("house", 6), ("told", 7)]) (by decide +kernel)) (fun _ _ _ _ _ => (pg_tup (n := 2) rfl (pgs_cons (pg_name (i := 6) sc_Market_seek.nd rfl (Or.inl rfl)) (pgs_cons (pg_name (i := 7) sc_Market_seek.nd rfl (Or.inl rfl)) pgs_nil)))) (fun _ _ _ _ _ => pts_one ((pt_cmpR op_notNn (pv 7) pe_non (nomark _)))) (fun _ _ _ _ _ => (pv 6)))
      (pss_cons (ps_set (i := 8) sc_Market_seek.nd rfl (Or.inl rfl) (pe_meth (pv 0) T.c_Town T.t_Market_newest (ok_Market_newest T) (hr.mono (by decide)) T.b_Market_newest .nil pass0 (pa_cons (pv 2) (pa_cons (pv 5) pa_nil))))
      (pss_cons (ps_if (pt_cmpR op_isNn (pv 8) pe_non (nomark _))
      (pss_one (ps_ret pe_non))
      pss_nil)
      (pss_one (ps_ret (pe_ix ix_tup (pv 8) pe_int (fun _ _ => rfl)))))))), ?_⟩
    rw [Nn.st_Market_seek]; try rw [Nn.cxK]
    try rw [Nn.cxW]
    walk_at "wx"
    refine wc_Town_ask rfl rfl t.ta k hN haw hg hT fun p1 r fd es H1 fr1 hp1 h1 ra1 hfd h1f nes ta1 => ?_
    have t1 := t.town fr1 ta1 rfl (fun a z => .inl z) TM.learn_houses
    obtain ⟨dx1, ob1⟩ := t1.ta.tw.ob
    have hro := ra1.ro
    have hel := ra1.len
    walk_at "wx"
    refine LcW.inv (vs := [6, 7]) (walk_list (xs := es.map fun e => V.ref e.1)) (by rw [sizeLine_eq, List.length_map]; omega) (fun D i acc H' => Ex H1 H' ∧ acc = (((m.askSt st g).row.take i).filter (·.2.isSome)).map fun e => nV e.1) (fun D hD => ⟨Ex.new hD, rfl⟩) (fun D i acc H' hD h => SqL.of (h.1.at hro)) ?_ ?_
    · rintro D i acc x _ H2 hi hD ⟨ex2, rfl⟩ h2 ⟨rfl, hx⟩ Qe R hQ hR
      rw [List.length_map] at hi
      obtain rfl : x = .ref es[i].1 := by
        rw [List.getElem?_map, List.getElem?_eq_getElem hi] at hx
        exact (Option.some.inj hx).symm
      have hir : i < (m.askSt st g).row.length := by rw [← hel]; exact hi
      have re := ra1.at_ i es[i] _ (List.getElem?_eq_getElem hi) (List.getElem?_eq_getElem hir)
      have tp := ex2.at re.tp
      have et := take_snoc hir
      have hso := re.so
      have hno := re.no
      rw [et] at hQ hR
      generalize (m.askSt st g).row[i] = e at tp hso hno hQ hR
      obtain ⟨e1, e2⟩ := e
      cases e2 with
      | none =>
        rw [hno rfl] at tp
        have tp : H2 es[i].1 = some (.tup [nV e1, .non]) := tp
        walk_at "wx"
        refine ⟨rfl, ?_⟩
        walk_at "wx"
        exact hR _ h2 ⟨ex2, by rw [List.filter_append, List.map_append]; simp⟩
      | some l =>
        obtain ⟨a, ha, _, _⟩ := hso l rfl
        rw [ha] at tp
        have tp : H2 es[i].1 = some (.tup [nV e1, .ref a]) := tp
        walk_at "wx"
        refine ⟨rfl, ?_⟩
        walk_at "wx"
        refine hQ _ _ h2 ⟨ex2.mut hD h2, by rw [List.filter_append, List.map_append]; simp⟩
    · rintro D acc H2 hD ⟨ex2, rfl⟩ h2
      rw [List.length_map, hel, List.take_length] at h2
      have h2 : H2 D = some (.lst ((m.met st g).map nV)) := by
        unfold TM.met
        rw [List.map_map]; exact h2
      have t2 := t1.ex' ex2
      obtain ⟨dx2, ob2⟩ := t2.ta.tw.ob
      have hml : (m.met st g).length ≤ 4090 := by
        unfold TM.met
        rw [List.length_map]
        have := List.length_filter_le (fun e : Nat × Option (List Nat) => e.2.isSome) (m.askSt st g).row
        omega
      walk_at "wx"
      refine wc_Market_newest rfl t2 h2 (fun x hx => by rw [TM.learn_houses]; exact TM.aw_house (TM.met_aw k haw hx)) hml (fun H3 ex3 nw => ?_) fun H3 i ex3 hi nw => ?_
      · walk_at "wx"
        exact q0 H3 (fr1.trans (ex2.trans ex3).fr) (t2.ex' ex3) nw
      · have th3 := (t2.ex' ex3).th i hi
        walk_at "wx"
        exact q H3 i (fr1.trans (ex2.trans ex3).fr) (t2.ex' ex3) hi nw
end
end Nn
/-! markets: who comes or wakes takes -/
namespace Nn
open PySem L2
open Classical in
/-- the newest's number -/
noncomputable def newN (S : SM) (g : Nat) (hs : List Nat) : Nat := if h : ∃ i, Newest S g hs (some i) then h.choose else 0
theorem newN_eq {S : SM} {g i : Nat} {hs : List Nat} (h : Newest S g hs (some i)) : newN S g hs = i := by
  have ex : ∃ i, Newest S g hs (some i) := ⟨i, h⟩
  unfold newN
  rw [dif_pos ex]
  exact Option.some.inj (ex.choose_spec.uniq h)
noncomputable def SM.take1 (S : SM) (h : Nat) (some : List Nat) (room g : Nat) : SM := if h ∈ (byN g some).take room then S.put1 g (newN S g some) h else S
noncomputable def SM.takeL (S : SM) (h : Nat) (some : List Nat) (room : Nat) (l : List Nat) : SM := l.foldl (fun S' g => S'.take1 h some room g) S
noncomputable def SM.takes (S : SM) (h : Nat) (vis : List Nat) (room : Nat) : SM := S.takeL h (h :: vis) room (sortU ((h :: vis).flatMap S.ks))
theorem SM.take1_same {S : SM} {h room g : Nat} {l : List Nat} : (S.take1 h l room g).n = S.n ∧ (S.take1 h l room g).ta = S.ta ∧ (S.take1 h l room g).tx = S.tx ∧ (S.take1 h l room g).sa = S.sa := by
  unfold SM.take1
  split <;> exact ⟨rfl, rfl, rfl, rfl⟩
theorem SM.takeL_same {h room : Nat} {l : List Nat} : ∀ {us : List Nat} {S : SM}, (S.takeL h l room us).n = S.n ∧ (S.takeL h l room us).ta = S.ta ∧ (S.takeL h l room us).tx = S.tx ∧ (S.takeL h l room us).sa = S.sa
  | [], _ => ⟨rfl, rfl, rfl, rfl⟩
  | g :: us, S => by
    obtain ⟨a, b, c, d⟩ := SM.takeL_same (h := h) (room := room) (l := l) (us := us) (S := S.take1 h l room g)
    obtain ⟨a', b', c', d'⟩ := SM.take1_same (S := S) (h := h) (room := room) (g := g) (l := l)
    exact ⟨a.trans a', b.trans b', c.trans c', d.trans d'⟩
theorem SM.takeL_snoc {S : SM} {h room g : Nat} {l us : List Nat} : S.takeL h l room (us ++ [g]) = (S.takeL h l room us).take1 h l room g := by unfold SM.takeL; rw [List.foldl_append]; rfl
theorem SM.put1_keys {S : SM} {g i h x y : Nat} : y ∈ (S.put1 g i h).ks x ↔ y ∈ S.ks x ∨ (y = g ∧ x = h) := by
  show y ∈ (if x = h then (if g ∈ S.ks h then S.ks h else S.ks h ++ [g]) else S.ks x) ↔ _
  by_cases a : x = h
  · subst a
    rw [if_pos rfl]
    by_cases b : g ∈ S.ks x
    · rw [if_pos b]
      exact ⟨.inl, fun z => z.elim id fun z => by rw [z.1]; exact b⟩
    · rw [if_neg b, List.mem_append, List.mem_singleton]
      simp
  · rw [if_neg a]
    simp [a]
theorem SM.take1_keys {S : SM} {h room g x y : Nat} {l : List Nat} : (y ∈ S.ks x → y ∈ (S.take1 h l room g).ks x) ∧ (y ∈ (S.take1 h l room g).ks x → y ∈ S.ks x ∨ y = g) := by
  unfold SM.take1
  split
  · exact ⟨fun z => SM.put1_keys.mpr (.inl z), fun z => (SM.put1_keys.mp z).imp id (·.1)⟩
  · exact ⟨id, .inl⟩
theorem SM.takeL_keys {h room x y : Nat} {l : List Nat} : ∀ {us : List Nat} {S : SM}, (y ∈ S.ks x → y ∈ (S.takeL h l room us).ks x) ∧ (y ∈ (S.takeL h l room us).ks x → y ∈ S.ks x ∨ y ∈ us)
  | [], _ => ⟨id, .inl⟩
  | g :: us, S => by
    obtain ⟨a, b⟩ := SM.takeL_keys (h := h) (room := room) (l := l) (x := x) (y := y) (us := us) (S := S.take1 h l room g)
    obtain ⟨a', b'⟩ := SM.take1_keys (S := S) (h := h) (room := room) (g := g) (l := l) (x := x) (y := y)
    refine ⟨fun z => a (a' z), fun z => ?_⟩
    rcases b z with z | z
    · rcases b' z with z | z
      · exact .inl z
      · exact .inr (by rw [z]; simp)
    · exact .inr (List.mem_cons_of_mem _ z)
theorem flat_len {S : SM} {k : List Nat} : ∀ {l : List Nat}, (∀ x ∈ l, (S.ks x).Nodup ∧ ∀ j ∈ S.ks x, j ∈ k) → (l.flatMap S.ks).length ≤ l.length * k.length
  | [], _ => Nat.zero_le _
  | x :: r, h => by
    have q := flat_len (S := S) (k := k) (l := r) fun y hy => h y (List.mem_cons_of_mem _ hy)
    have q2 := nodup_len (h x (by simp)).1 (h x (by simp)).2
    rw [List.flatMap_cons, List.length_append, List.length_cons, Nat.succ_mul]
    omega
theorem newest_ex {S : SM} {g : Nat} : ∀ {hs : List Nat}, (∃ h ∈ hs, g ∈ S.ks h) → ∃ i, Newest S g hs (some i)
  | [], h => by obtain ⟨_, z, _⟩ := h; cases z
  | x :: r, h => by
    by_cases hx : g ∈ S.ks x
    · by_cases hr : ∃ h ∈ r, g ∈ S.ks h
      · obtain ⟨i, ni⟩ := newest_ex hr
        cases ni with
        | @some y hy ky my =>
          by_cases c : S.vl y g ≤ S.vl x g
          · exact ⟨_, .some (h := x) (by simp) hx fun w hw kw => (List.mem_cons.mp hw).elim (fun e => by rw [e]; exact Nat.le_refl _) fun e => Nat.le_trans (my w e kw) c⟩
          · exact ⟨_, .some (h := y) (List.mem_cons_of_mem _ hy) ky fun w hw kw => (List.mem_cons.mp hw).elim (fun e => by rw [e]; omega) fun e => my w e kw⟩
      · exact ⟨_, .some (h := x) (by simp) hx fun w hw kw => (List.mem_cons.mp hw).elim (fun e => by rw [e]; exact Nat.le_refl _) fun e => absurd ⟨w, e, kw⟩ hr⟩
    · obtain ⟨h, hh, hk⟩ := h
      have hr : ∃ h ∈ r, g ∈ S.ks h := ⟨h, (List.mem_cons.mp hh).elim (fun e => absurd (by rw [← e]; exact hk) hx) id, hk⟩
      obtain ⟨i, ni⟩ := newest_ex hr
      cases ni with
      | @some y hy ky my => exact ⟨_, .some (h := y) (List.mem_cons_of_mem _ hy) ky fun w hw kw => (List.mem_cons.mp hw).elim (fun e => absurd (by rw [← e]; exact kw) hx) fun e => my w e kw⟩
section
variable {P : Program} {w : World} {K : PySem.W.Frag} {mg : Str → Option Value} {base : Heap} {H H' : Hp} {Q : VK} {E : XK} {T : Tx K mg base} {A : TA} {F G X : Addr → Prop} {m : TM} {S : SM}
def sp_Market_takes (T : Tx K mg base) : Sp := fun vs H Q _ => ∃ (A : TA) (F G : Addr → Prop) (m : TM) (S : SM) (N : List Nat) (h : Nat) (l : Addr) (vis k : List Nat), vs = [.ref A.t, .int h, .ref l] ∧ MkAt T H A F G m S ∧ m.Ok N ∧ H l = some (.lst (vis.map nV)) ∧ (∀ x ∈ h :: vis, x ∈ m.houses) ∧ vis.length ≤ 63 ∧ (∀ x ∈ m.houses, ∀ j ∈ S.ks x, j ∈ k) ∧ k.length < 64 ∧ ∀ H', Fr G H H' → MkAt T H' A F G m (S.takes h vis m.room) → Q .non H'
theorem wc_Market_takes {N : List Nat} {h : Nat} {i : Int} {l : Addr} {vis k : List Nat} (hi : i = h) (t : MkAt T H A F G m S) (ok : m.Ok N) (hl : H l = some (.lst (vis.map nV))) (hm : ∀ x ∈ h :: vis, x ∈ m.houses) (hz : vis.length ≤ 63) (hk : ∀ x ∈ m.houses, ∀ j ∈ S.ks x, j ∈ k) (hk2 : k.length < 64) (q : ∀ H', Fr G H H' → MkAt T H' A F G m (S.takes h vis m.room) → Q .non H') : sp_Market_takes T [.ref A.t, .int i, .ref l] H Q E := by
  subst hi; exact ⟨A, F, G, m, S, N, h, l, vis, k, rfl, t, ok, hl, hm, hz, hk, hk2, q⟩
theorem ok_Market_takes (T : Tx K mg base) : FnOk P w K mg base CX0 3 T.a_Market_takes T.d_Market_takes ["self", "house", "visited"] (sp_Market_takes T) := by
  refine T.F_Market_takes.okD sc_Market_takes (fun vs H Q E h => ?_) (fun cdv A outer s H vs Q E hr h => ?_)
  · obtain ⟨A, F, G, m, S, N, n, l, vis, k, rfl, _⟩ := h; rfl
  · obtain ⟨A1, F, G, m, S, N, n, l, vis, k, rfl, t, ok, hl, hm, hz, hk, hk2, q⟩ := h
    obtain ⟨dx, ob⟩ := t.ta.tw.ob
    have hu := hu_of hr
    have hhl := ok.houses_len
    have hfl : ((n :: vis).flatMap S.ks).length ≤ 4090 := by
      have q := flat_len (S := S) (k := k) (l := n :: vis) fun x hx => ⟨t.nd x (hm x hx), hk x (hm x hx)⟩
      exact Nat.le_trans q (Nat.le_trans (Nat.mul_le_mul (show (n :: vis).length ≤ 64 by rw [List.length_cons]; omega) (show k.length ≤ 63 by omega)) (by decide))
    have hfk : ∀ j ∈ (n :: vis).flatMap S.ks, j ∈ k := fun j hj => by
      obtain ⟨x, hx, hjx⟩ := List.mem_flatMap.mp hj
      exact hk x (hm x hx) j hjx
    unfold SM.takes at q
    have c_Bucket := T.c_Bucket; have n_Bucket_room := T.n_Bucket_room; have n_Bucket_line := T.n_Bucket_line; have c_Table := T.c_Table; have n_Table_own := T.n_Table_own; have n_Table_wide := T.n_Table_wide; have n_Table_room := T.n_Table_room; have n_Table_buckets := T.n_Table_buckets; have c_Town := T.c_Town; have n_Town_wide := T.n_Town_wide; have n_Town_room := T.n_Town_room; have n_Town_tables := T.n_Town_tables; have n_Town_hushed := T.n_Town_hushed; have n_Town_shelves := T.n_Town_shelves; have n_Town_layings := T.n_Town_layings
    refine ⟨_, (pss_cons (ps_set (i := 3) sc_Market_takes.nd rfl (Or.inl rfl) (pe_op op_cat (pe_lst (pa_cons (pv 1) pa_nil)) (pv 2)))
      (pss_one (ps_for PassesOwn.never rfl (pi_list (pe_meth (pv 0) T.c_Town T.t_Market_keys_of (ok_Market_keys_of T) (hr.mono (by decide)) T.b_Market_keys_of .nil pass0 (pa_cons (pv 3) pa_nil))) (pg_name (i := 4) sc_Market_takes.nd rfl (Or.inl rfl))
      (pss_one (ps_if (pt_cmpR op_in_seq (pv 1) (pe_slice sl_list (pe_call (ok_by_nearness T) hr rfl T.m_by_nearness T.F_by_nearness.kp T.b_by_nearness .nil pass0 (pa_cons (pv 4) (pa_cons (pv 3) pa_nil))) po_none (po_some (pe_fld (pv 0) rfl))) rfl)
      (pss_one (ps_dput hu (pe_dget hu (pe_fld (pv 0) rfl) (pv 1) (fun _ _ => rfl)) (pv 4) (pe_meth (pv 0) T.c_Town T.t_Market_newest (ok_Market_newest T) (hr.mono (by decide)) T.b_Market_newest .nil pass0 (pa_cons (pv 4) (pa_cons (pv 3) pa_nil))) rfl))
      pss_nil))))), ?_⟩
    rw [Nn.st_Market_takes]; try rw [Nn.cxK]
    try rw [Nn.cxW]
    walk_at "wx"
    refine ⟨len_ok rfl, fun p1 hp1 => ?_⟩
    generalize hU : upd _ p1 _ = H1
    have ex1 := Ex.new' hp1 hU
    have h1 := new_at hU
    clear hU
    have hl1 := ex1.at hl
    walk_at "wx"
    refine x_cat h1 hl1 (by rw [sizeLine_eq, List.length_map]; simp only [List.length_cons, List.length_nil]; omega) fun p2 hp2 => ?_
    generalize hU : upd H1 p2 _ = H2
    have ex2 := Ex.new' hp2 hU
    have h2 : H2 p2 = some (.lst ((n :: vis).map nV)) := new_at hU
    clear hU
    have ex02 := ex1.trans ex2
    have t2 := t.ex' ex02
    obtain ⟨dx2, ob2⟩ := t2.ta.tw.ob
    walk_at "wx"
    refine wc_Market_keys_of (k := k) t2 h2 hm hfl hfk (by omega) fun p3 H3 hp3 ex3 h3 => ?_
    have hus : ∀ g ∈ sortU ((n :: vis).flatMap S.ks), ∃ x ∈ n :: vis, g ∈ S.ks x := fun g hg => List.mem_flatMap.mp (mem_sortU.mp hg)
    generalize sortU ((n :: vis).flatMap S.ks) = us at h3 hus q
    have hs2 : (n :: vis).length ≤ 64 := by rw [List.length_cons]; omega
    have hsm : ∀ g, (byN g (n :: vis)).length < 64 := fun g => Nat.lt_of_le_of_lt (nodup_len (byN_nodup g _) fun z hz => hm z (mem_byN.mp hz)) hhl
    generalize hsome : n :: vis = sm at h2 hm hus hs2 hsm q
    have h23 := ex3.at h2
    have ex03 := ex02.trans ex3
    have t3 := t2.ex' ex3
    have nG2 : ¬ G p2 := fun z => t.ex p2 z (ex1.back p2 hp2)
    have nG3 : ¬ G p3 := fun z => t2.ex p3 z hp3
    have hnm : n ∈ m.houses := hm n (by rw [← hsome]; simp)
    walk_at "wx"
    refine ForW.by walk_list (fun j σ H' => ∃ (v : Option V), σ = [some (.ref A1.t), some (.int n), some (.ref l), some (.ref p2), v] ∧ Fr G H3 H' ∧ MkAt T H' A1 F G m (S.takeL n sm m.room (us.take j)))
      ⟨_, rfl, Fr.refl, t3⟩ (fun i σ H' _ ⟨_, _, e, _⟩ => SqL.of (e.at h3 nG3)) ?_ ?_
    · rintro j x σ _ H4 hj ⟨v, rfl, fr4, t4⟩ ⟨rfl, hx⟩
      rw [List.length_map] at hj
      obtain rfl : x = nV us[j] := by
        rw [List.getElem?_map, List.getElem?_eq_getElem hj] at hx
        exact (Option.some.inj hx).symm
      obtain ⟨x0, hx0, hk0⟩ := hus _ (List.getElem_mem hj)
      have hkeep := (SM.takeL_keys (h := n) (room := m.room) (l := sm) (x := x0) (y := us[j]) (us := us.take j) (S := S)).1 hk0
      have hsame := SM.takeL_same (h := n) (room := m.room) (l := sm) (us := us.take j) (S := S)
      have hkle : ∀ x ∈ m.houses, ∀ y ∈ (S.takeL n sm m.room (us.take j)).ks x, y ∈ k := fun x hx y hy => by
        rcases (SM.takeL_keys (us := us.take j)).2 hy with z | z
        · exact hk x hx y z
        · obtain ⟨x1, hx1, hk1⟩ := hus y (List.mem_of_mem_take z)
          exact hk x1 (hm x1 hx1) y hk1
      rw [take_snoc hj, SM.takeL_snoc]
      generalize us[j] = g at hkeep
      generalize S.takeL n sm m.room (us.take j) = S4 at t4 hkeep hsame hkle ⊢
      have h24 := fr4.at h23 nG2
      walk_at "wx"
      refine wc_by_nearness rfl (SqL.of h24) ⟨hsm g, by omega⟩ fun p5 H5 hp5 ex5 h5 => ?_
      have t5 := t4.ex' ex5
      obtain ⟨dx5, ob5⟩ := t5.ta.tw.ob
      walk_at "wx"
      refine x_slTo rfl (SqL.of h5) fun p6 H6 hp6 ex6 h6 => ?_
      have t6 := t5.ex' ex6
      have h26 := (ex5.trans ex6).at h24
      obtain ⟨dx6, ob6⟩ := t6.ta.tw.ob
      have fr6 : Fr G H3 H6 := fr4.trans (ex5.trans ex6).fr
      walk_at "wx"
      refine x_ifD (fun hin => ?_) fun hin => ?_
      · have e1 : S4.take1 n sm m.room g = S4.put1 g (newN S4 g sm) n := if_pos hin
        rw [e1]
        walk_at "wx"
        refine wc_Market_newest rfl t6 h26 hm (by omega) (fun H7 ex7 nw => ?_) fun H7 i ex7 hi nw => ?_
        · cases nw with
          | non z => exact absurd hkeep (z x0 hx0)
        · rw [newN_eq nw]
          have t7 := t6.ex' ex7
          obtain ⟨dx7, ob7⟩ := t7.ta.tw.ob
          have sh7 := t7.sh
          have sd7 := t7.sd n hnm
          have e7 := dOf_get (f := fun h => V.ref (S4.sa h)) hnm
          have hkn : (S4.ks n).length ≤ k.length := nodup_len (t4.nd n hnm) (hkle n hnm)
          walk_at "wx"
          refine x_dput sd7 (by rw [sizeLine_eq, dOf_len]; omega) ?_
          refine ⟨_, rfl, (fr6.trans ex7.fr).trans ((Fr.upd1 sd7).mono fun a z => by rw [z]; exact t7.gs n hnm), t7.put1 hnm hi (Fr.upd1 sd7) upd_same⟩
      · have e1 : S4.take1 n sm m.room g = S4 := if_neg hin
        rw [e1]
        walk_at "wx"
        exact ⟨_, rfl, fr6, t6⟩
    · rintro σ H4 ⟨v, rfl, fr4, t4⟩
      rw [List.length_map, List.take_length] at t4
      walk_at "wx"
      exact q _ ((ex03.fr (S := G)).trans fr4) t4
theorem MkAt.own_takes {h room : Nat} {vis : List Nat} {x : Addr} : Own F G (S.takes h vis room) x ↔ Own F G S x := by
  have s := SM.takeL_same (h := h) (room := room) (l := h :: vis) (us := sortU ((h :: vis).flatMap S.ks)) (S := S)
  unfold Own SM.takes
  rw [s.1, s.2.1]
def sp_Market_come (T : Tx K mg base) : Sp := fun vs H Q _ => ∃ (A : TA) (F G : Addr → Prop) (m : TM) (S : SM) (N : List Nat) (n : Nat) (door : Option Nat) (k : List Nat), vs = [.ref A.t, .int n, oN door] ∧ MkAt T H A F G m S ∧ m.Ok N ∧ n ∈ N ∧ n ∉ m.houses ∧ (∀ d, door = some d → m.aw d = true) ∧ (∀ x ∈ m.houses, ∀ j ∈ S.ks x, j ∈ k) ∧ k.length < 64 ∧ NdefX.TabsN (tabsL T) H ∧
  ∀ p q H' A' F', H p = none → Fr (fun a => F a ∨ G a) H H' → H' p = some (.lst ((m.told n door).map nV)) → ¬ Own F' (fun a => G a ∨ a = q) (S.add n q) p → A'.t = A.t → (∀ a, F' a ∨ G a ∨ a = q → F a ∨ G a ∨ H a = none) → MkAt T H' A' F' (fun a => G a ∨ a = q) (m.comes n door) ((S.add n q).takes n (m.told n door) m.room) → Q (.ref p) H'
theorem wc_Market_come {N : List Nat} {n : Nat} {door : Option Nat} {k : List Nat} {i : Int} {v : V} (hi : i = n) (hv : v = oN door) (t : MkAt T H A F G m S) (ok : m.Ok N) (hn : n ∈ N) (hm : n ∉ m.houses) (hd : ∀ d, door = some d → m.aw d = true) (hk : ∀ x ∈ m.houses, ∀ j ∈ S.ks x, j ∈ k) (hk2 : k.length < 64) (tb : NdefX.TabsN (tabsL T) H)
    (q : ∀ p q H' A' F', H p = none → Fr (fun a => F a ∨ G a) H H' → H' p = some (.lst ((m.told n door).map nV)) → ¬ Own F' (fun a => G a ∨ a = q) (S.add n q) p → A'.t = A.t → (∀ a, F' a ∨ G a ∨ a = q → F a ∨ G a ∨ H a = none) → MkAt T H' A' F' (fun a => G a ∨ a = q) (m.comes n door) ((S.add n q).takes n (m.told n door) m.room) → Q (.ref p) H') : sp_Market_come T [.ref A.t, .int i, v] H Q E := by
  subst hi hv; exact ⟨A, F, G, m, S, N, n, door, k, rfl, t, ok, hn, hm, hd, hk, hk2, tb, q⟩
theorem TM.comes_room' {n : Nat} {d : Option Nat} : (m.comes n d).room = m.room := by
  cases d with
  | none => rfl
  | some d => exact TM.fold_sizes.2.1
theorem ok_Market_come (T : Tx K mg base) : FnOk P w K mg base CX0 8 T.a_Market_come T.d_Market_come ["self", "name", "door"] (sp_Market_come T) := by
  refine T.F_Market_come.okD sc_Market_come (fun vs H Q E h => ?_) (fun cdv A outer s H vs Q E hr h => ?_)
  · obtain ⟨A, F, G, m, S, N, n, door, k, rfl, _⟩ := h; rfl
  · obtain ⟨A1, F, G, m, S, N, n, door, k, rfl, t, ok, hn, hm, hdo, hk, hk2, hT, q⟩ := h
    obtain ⟨dx, ob⟩ := t.ta.tw.ob
    have hu := hu_of hr
    have hhl := ok.houses_len
    have okc := ok.comes (d := door) hm hn
    have hcl := okc.houses_len
    have c_Bucket := T.c_Bucket; have n_Bucket_room := T.n_Bucket_room; have n_Bucket_line := T.n_Bucket_line; have c_Table := T.c_Table; have n_Table_own := T.n_Table_own; have n_Table_wide := T.n_Table_wide; have n_Table_room := T.n_Table_room; have n_Table_buckets := T.n_Table_buckets; have c_Town := T.c_Town; have n_Town_wide := T.n_Town_wide; have n_Town_room := T.n_Town_room; have n_Town_tables := T.n_Town_tables; have n_Town_hushed := T.n_Town_hushed; have n_Town_shelves := T.n_Town_shelves; have n_Town_layings := T.n_Town_layings
    refine ⟨_, (pss_cons (ps_set (i := 3) sc_Market_come.nd rfl (Or.inl rfl) (pe_clsm (pe_glob (v := .ref T.B_Town) rfl T.m_Town rfl) T.R_Town T.q_Town_come T.F_Town_come.kp (ok_Town_come T) hr T.b_Town_come .nil pass0 (pa_cons (pv 0) (pa_cons (pv 1) (pa_cons (pv 2) pa_nil)))))
      (pss_cons (ps_dput hu (pe_fld (pv 0) rfl) (pv 1) pe_dnewK rfl)
      (pss_cons (ps_expr (pe_meth (pv 0) T.c_Town T.t_Market_takes (ok_Market_takes T) (hr.mono (by decide)) T.b_Market_takes .nil pass0 (pa_cons (pv 1) (pa_cons (pv 3) pa_nil))))
      (pss_one (ps_ret (pv 3)))))), ?_⟩
    rw [Nn.st_Market_come]; try rw [Nn.cxK]
    try rw [Nn.cxW]
    walk_at "wx"
    refine wc_Town_come rfl rfl t.ta ok hn hm hdo hT fun p1 H1 A2 F2 hp1 fr1 h1 nF1 eA hF2 ta1 => ?_
    obtain ⟨eA, eX⟩ := eA
    obtain ⟨dx1, ob1⟩ := ta1.tw.ob
    rw [eA, eX] at ob1
    have sh1 := fr1.at t.sh fun z => t.fg _ z t.gx
    walk_at "wx"
    refine x_dnew fun q2 hq2 => ?_
    have mk := t.come fr1 ta1 eX hF2 (TM.comes_houses (d := door)) hm hq2
    have e3 : putK (dOf m.houses fun h => .ref (S.sa h)) (Sum.inl (n : Int)) (.ref q2) = dOf (m.comes n door).houses fun h => .ref ((S.add n q2).sa h) := by
      rw [TM.comes_houses, dOf_congr (g := fun h => .ref ((S.add n q2).sa h)) fun x hx => by
        have e : (S.add n q2).sa x = S.sa x := if_neg fun z => hm (by rw [← z]; exact hx)
        rw [e]]
      have q := dOf_new (f := fun h => V.ref ((S.add n q2).sa h)) hm
      have en : (S.add n q2).sa n = q2 := if_pos rfl
      rw [en] at q
      exact q
    have ex2 := Ex.new (o := .dK []) hq2
    have sh2 := ex2.at sh1
    have ob2 := ex2.at ob1
    have h12 := ex2.at h1
    have nq1 : p1 ≠ q2 := fun z => by rw [z, hq2] at h1; cases h1
    generalize upd H1 q2 (.dK []) = H2 at mk ex2 sh2 ob2 h12 ⊢
    walk_at "wx"
    refine x_dput sh2 (by rw [sizeLine_eq, dOf_len]; omega) ?_
    rw [e3]
    have fr3 := Fr.upd1 (o := .dK (dOf (m.comes n door).houses fun h => .ref ((S.add n q2).sa h))) sh2
    have nG : ¬ G p1 := fun z => t.ex p1 z hp1
    have h13 := fr3.at h12 fun z => nG (by rw [z]; exact t.gx)
    generalize upd H2 A1.x.1 (.dK (dOf (m.comes n door).houses fun h => .ref ((S.add n q2).sa h))) = H3 at mk fr3 h13 ⊢
    obtain ⟨dx3, ob3⟩ := mk.ta.tw.ob
    rw [← eA]
    have hsub : ∀ x ∈ n :: m.told n door, x ∈ (m.comes n door).houses := fun x hx => (List.mem_cons.mp hx).elim (fun e => by rw [e, TM.comes_houses]; simp) TM.told_house
    have hk3 : ∀ x ∈ (m.comes n door).houses, ∀ j ∈ (S.add n q2).ks x, j ∈ k := fun x hx j hj => by
      have hj : j ∈ (if x = n then [] else S.ks x) := hj
      by_cases z : x = n
      · rw [if_pos z] at hj; cases hj
      · rw [if_neg z] at hj
        rw [TM.comes_houses] at hx
        exact hk x ((List.mem_append.mp hx).elim id fun y => absurd (List.mem_singleton.mp y) z) j hj
    have nO : ¬ Own F2 (fun a => G a ∨ a = q2) (S.add n q2) p1 := fun z => by
      rcases z with z | (z | z) | ⟨i, hi, z⟩
      · exact nF1 z
      · exact nG z
      · exact nq1 z
      · have e := t.th i hi
        have z : p1 = S.ta i := z
        rw [← z, hp1] at e; cases e
    walk_at "wx"
    refine wc_Market_takes (k := k) rfl mk okc h13 hsub (by
      have q1 := TM.told_len (m := m) (n := n) (d := door)
      rw [TM.comes_houses, List.length_append, List.length_singleton] at hcl
      omega) hk3 hk2 fun H4 fr4 t4 => ?_
    rw [TM.comes_room'] at t4
    have h14 := fr4.at h13 fun z => nO (.inr (.inl z))
    walk_at "wx"
    refine q p1 q2 H4 A2 F2 hp1 ?_ h14 nO eA (fun a z => ?_) t4
    · have fr13 : Fr (fun a => F a ∨ G a) H H3 := ((fr1.mono fun a z => .inl z).trans ex2.fr).trans (fr3.mono fun a z => .inr (by rw [z]; exact t.gx))
      refine fr13.trans2 fr4 fun x z => ?_
      rcases z with z | z
      · exact .inl (.inr z)
      · exact .inr (by rw [z]; exact fr1.back q2 hq2)
    · rcases z with z | z | z
      · exact (hF2 a z).imp id .inr
      · exact .inr (.inl z)
      · rw [z]; exact .inr (.inr (fr1.back q2 hq2))
end
end Nn
/-! rest, plainly -/
namespace Nn
def ofSpanN (live : List Nat) (h k : Nat) : List Nat := live.filter fun n => decide (lowN h k ≤ n ∧ n ≤ lowN h k + 2 ^ k - 1)
def faultB (names live : List Nat) (room h k : Nat) : Bool := !(names.all fun n => decide (n ∈ live)) || (decide (names.length < room) && decide (names.length < (ofSpanN live h k).length))
def holeB (names live : List Nat) (h k : Nat) : Bool := !(names.any fun n => decide (n ∈ live)) && !decide (ofSpanN live h k = [])
def pairsN (l : List Nat) (w : Nat) : List (Nat × Nat) := l.flatMap fun h => (List.range w).map fun k => (h, k)
theorem find_none {α : Type} {p : α → Bool} {l : List α} (h : ∀ x ∈ l, p x = false) : l.find? p = none := List.find?_eq_none.mpr fun x hx => by rw [h x hx]; exact Bool.false_ne_true
theorem find_app {α : Type} {p : α → Bool} {l r : List α} (h : ∀ x ∈ l, p x = false) : (l ++ r).find? p = r.find? p := by rw [List.find?_append, find_none h]; rfl
theorem pairs_hit {p : Nat × Nat → Bool} {l : List Nat} {w i j : Nat} (hi : i < l.length) (hj : j < w) (h0 : ∀ h ∈ l.take i, ∀ k, k < w → p (h, k) = false) (h1 : ∀ k, k < j → p (l[i], k) = false) (h2 : p (l[i], j) = true) : (pairsN l w).find? p = some (l[i], j) := by
  have e : l = l.take i ++ l[i] :: l.drop (i + 1) := by rw [← List.drop_eq_getElem_cons hi, List.take_append_drop]
  have e2 : pairsN l w = pairsN (l.take i) w ++ ((List.range w).map (fun k => (l[i], k)) ++ pairsN (l.drop (i + 1)) w) := by
    have q : pairsN (l.take i ++ l[i] :: l.drop (i + 1)) w = pairsN (l.take i) w ++ ((List.range w).map (fun k => (l[i], k)) ++ pairsN (l.drop (i + 1)) w) := by
      unfold pairsN; rw [List.flatMap_append, List.flatMap_cons]
    rw [← e] at q; exact q
  rw [e2, find_app fun x hx => ?_]
  · obtain ⟨d, rfl⟩ : ∃ d, w = j + (d + 1) := ⟨w - j - 1, by omega⟩
    have e3 : List.range (j + (d + 1)) = List.range j ++ j :: (List.range d).map (fun x => j + 1 + x) := by
      rw [List.range_add, List.range_succ_eq_map, List.map_cons, List.map_map]
      congr 2
      refine List.map_congr_left fun x _ => ?_
      show j + (x + 1) = j + 1 + x
      omega
    rw [e3, List.map_append, List.append_assoc, find_app fun x hx => ?_]
    · rw [List.map_cons, List.cons_append, List.find?_cons_of_pos h2]
    · obtain ⟨k, hk, rfl⟩ := List.mem_map.mp hx
      exact h1 k (List.mem_range.mp hk)
  · obtain ⟨h, hh, hx⟩ := List.mem_flatMap.mp hx
    obtain ⟨k, hk, rfl⟩ := List.mem_map.mp hx
    exact h0 h hh k (List.mem_range.mp hk)
theorem pairs_none {p : Nat × Nat → Bool} {l : List Nat} {w : Nat} (h0 : ∀ h ∈ l, ∀ k, k < w → p (h, k) = false) : (pairsN l w).find? p = none := find_none fun x hx => by
  obtain ⟨h, hh, hx⟩ := List.mem_flatMap.mp hx
  obtain ⟨k, hk, rfl⟩ := List.mem_map.mp hx
  exact h0 h hh k (List.mem_range.mp hk)
theorem pairs_take {l : List Nat} {w i : Nat} (hi : i < l.length) : pairsN (l.take (i + 1)) w = pairsN (l.take i) w ++ (List.range w).map fun k => (l[i], k) := by
  rw [List.take_add_one, List.getElem?_eq_getElem hi]
  unfold pairsN
  rw [List.flatMap_append]
  simp
theorem pairs_len {l : List Nat} {w : Nat} : (pairsN l w).length = l.length * w := by
  unfold pairsN
  induction l with
  | nil => simp
  | cons x r ih => rw [List.flatMap_cons, List.length_append, List.length_map, List.length_range, ih, List.length_cons, Nat.succ_mul]; omega
namespace TM
def row (m : TM) (h k : Nat) : List Nat := (m.tab h).getD k []
def faulty (m : TM) (x : Nat × Nat) : Bool := faultB (m.row x.1 x.2) m.live m.room x.1 x.2
def faultN (m : TM) : Option (Nat × Nat) := (pairsN m.live m.wide).find? m.faulty
def hole (m : TM) (x : Nat × Nat) : Bool := holeB (m.row x.1 x.2) m.live x.1 x.2
def holesN (m : TM) : List (Nat × Nat) := (pairsN m.live m.wide).filter m.hole
variable {m : TM} {N : List Nat}
theorem row_at {h k : Nat} (hk : (m.tab h)[k]? = some (m.row h k) ∨ m.row h k = []) : True := trivial
theorem Ok.row (k : m.Ok N) {h j : Nat} (hm : h ∈ m.houses) : (m.row h j).Nodup ∧ (m.row h j).length ≤ m.room ∧ ∀ x ∈ m.row h j, x ≠ h ∧ stepN h x = j ∧ x ∈ N := by
  unfold TM.row
  rw [List.getD_eq_getElem?_getD]
  cases e : (m.tab h)[j]? with
  | none => exact ⟨List.nodup_nil, Nat.zero_le _, fun x hx => by cases hx⟩
  | some xs => exact (k.tabOk hm).at_ j xs e
theorem live_house {h : Nat} (hl : h ∈ m.live) : h ∈ m.houses := aw_house (mem_live.mp hl)
theorem live_nodup : m.live.Nodup := rising_nodup ((sortU_sorted _).filter _)
theorem Ok.live_len (k : m.Ok N) : m.live.length < 64 := Nat.lt_of_le_of_lt (nodup_len live_nodup fun _ hx => live_house hx) k.houses_len
end TM
/-- the step by the figures' length -/
theorem bit_span {a b k : Nat} : (if a ^^^ b = 0 then 0 else (a ^^^ b).log2 + 1) = k + 1 ↔ (lowN b k ≤ a ∧ a ≤ lowN b k + 2 ^ k - 1) := by
  rw [span_step]
  by_cases h : b = a
  · subst h; simp
  · have ne := xor_ne_zero (Ne.symm h)
    rw [if_neg ne]
    have e : (a ^^^ b).log2 = stepN b a := by unfold stepN; rw [Nat.xor_comm]
    rw [e]
    constructor
    · intro z; exact ⟨h, by omega⟩
    · intro z; omega
end Nn
/-! rest: fault, holes -/
namespace Nn
open PySem L2
section
variable {P : Program} {w : World} {K : PySem.W.Frag} {mg : Str → Option Value} {base : Heap} {H H' : Hp} {Q : VK} {E : XK}
theorem x_all {a : Addr} {bs : List Bool} (hS : SqL K H a (bs.map V.bl)) (h : Q (.bl (bs.all id)) H) : rAll K [.ref a] H Q := ⟨a, bs, rfl, hS, h⟩
theorem x_any {a : Addr} {bs : List Bool} (hS : SqL K H a (bs.map V.bl)) (h : Q (.bl (bs.any id)) H) : rAny K [.ref a] H Q := ⟨a, bs, rfl, hS, h⟩
theorem bools_map {l : List Nat} {p : Nat → Bool} : (l.map fun n => V.bl (p n)) = (l.map p).map V.bl := by rw [List.map_map]; rfl
theorem all_map {l : List Nat} {p : Nat → Bool} : (l.map p).all id = l.all p := by rw [List.all_map]; rfl
theorem any_map {l : List Nat} {p : Nat → Bool} : (l.map p).any id = l.any p := by rw [List.any_map]; rfl
def PairV (H : Hp) (v : V) : Option (Nat × Nat) → Prop
  | none => v = .non
  | some x => ∃ p, v = .ref p ∧ H p = some (.tup [nV x.1, nV x.2])
def sp_of_span (_ : Tx K mg base) : Sp := fun vs H Q E => ∃ (p_live : Addr) (live : List Nat) (ho : Nat) (k : Nat), vs = [.ref p_live, .int ho, .int k] ∧ (SqL K H p_live (live.map nV)) ∧ (ho < 2 ^ 60 ∧ k ≤ 60 ∧ live.length ≤ 1000) ∧ (∀ p H', H p = none → Ex H H' → H' p = some (.lst ((ofSpanN live ho k).map nV)) → Q (.ref p) H')
theorem wc_of_span {T : Tx K mg base} {p_live : Addr} {live : List Nat} {ho : Nat} {k : Nat} {i1 : Int} {i2 : Int} (e1 : i1 = ho) (e2 : i2 = k) (c0 : SqL K H p_live (live.map nV)) (c1 : ho < 2 ^ 60 ∧ k ≤ 60 ∧ live.length ≤ 1000) (h : ∀ p H', H p = none → Ex H H' → H' p = some (.lst ((ofSpanN live ho k).map nV)) → Q (.ref p) H') : sp_of_span T [.ref p_live, .int i1, .int i2] H Q E := by
  subst e1 e2
  exact ⟨p_live, live, ho, k, rfl, c0, c1, h⟩
theorem ok_of_span (T : Tx K mg base) : FnOk P w K mg base CX0 2 T.a_of_span T.d_of_span ["live", "house", "k"] (sp_of_span T) := by
  refine T.F_of_span.okD sc_of_span (fun vs H Q E h => ?_) (fun cdv A outer s H vs Q E hr h => ?_)
  · obtain ⟨p_live, live, ho, k, rfl, hS0, hpre, q⟩ := h; rfl
  · obtain ⟨p_live, live, ho, k, rfl, hS0, hpre, q⟩ := h
    have hu := hu_of hr
    have c_Bucket := T.c_Bucket; have n_Bucket_room := T.n_Bucket_room; have n_Bucket_line := T.n_Bucket_line; have c_Table := T.c_Table; have n_Table_own := T.n_Table_own; have n_Table_wide := T.n_Table_wide; have n_Table_room := T.n_Table_room; have n_Table_buckets := T.n_Table_buckets; have c_Town := T.c_Town; have n_Town_wide := T.n_Town_wide; have n_Town_room := T.n_Town_room; have n_Town_tables := T.n_Town_tables; have n_Town_hushed := T.n_Town_hushed; have n_Town_shelves := T.n_Town_shelves; have n_Town_layings := T.n_Town_layings
    refine ⟨_, (pss_cons (ps_asg (pe_call (ok_span T) hr rfl T.m_span T.F_span.kp T.b_span .nil pass0 (pa_cons (pv 1) (pa_cons (pv 2) pa_nil))) (pg_tup (n := 2) rfl (pgs_cons (pg_name (i := 3) sc_of_span.nd rfl (Or.inr rfl)) (pgs_cons (pg_name (i := 4) sc_of_span.nd rfl (Or.inr rfl)) pgs_nil))))
      (pss_one (ps_ret (pe_lc (own := [("name", 5)]) (g := (gName 5)) (by rfl) sc_of_span.nd (pi_list (pv 0)) (blkOk_by (N := N_of_span) (sc := defScope s_of_span) (own := [("name", 5)]) (by decide +kernel)) (fun _ _ _ _ _ => (pg_name (i := 5) sc_of_span.nd rfl (Or.inl rfl))) (fun _ _ _ _ _ => pts_one ((pt_chain op_le op_le (pv 3) (pv 5) (pv 4)))) (fun _ _ _ _ _ => (pv 5)))))), ?_⟩
    rw [Nn.st_of_span]; try rw [Nn.cxK]
    try rw [Nn.cxW]
    walk_at "wx"
    obtain ⟨h60, hk60, hz⟩ := hpre
    refine wc_span rfl rfl ⟨h60, hk60⟩ fun p1 H1 hp1 ex1 h1 => ?_
    walk_at "wx"
    refine LcW.filt (emb := nV) (xs := live) (fun n => decide (lowN ho k ≤ n ∧ n ≤ lowN ho k + 2 ^ k - 1)) (ex1.ls hS0) (by rw [sizeLine_eq]; omega) (fun n _ H2 ex2 R hR => ?_) (fun n _ _ H2 ex2 Qe hQ => ?_) fun p2 H2 hp2 ex2 h2 => ?_
    · walk_at "wx"
      refine x_ite (fun c1 => ?_) fun c1 => ?_
      · walk_at "wx"
        have e : decide ((n : Int) ≤ ((lowN ho k + 2 ^ k - 1 : Nat) : Int)) = decide (lowN ho k ≤ n ∧ n ≤ lowN ho k + 2 ^ k - 1) := decide_eq_decide.mpr (by omega)
        rw [e]
        exact hR _ Ex.refl
      · have e : decide (lowN ho k ≤ n ∧ n ≤ lowN ho k + 2 ^ k - 1) = false := decide_eq_false (by omega)
        rw [e] at hR
        walk_at "wx"
        exact hR _ Ex.refl
    · walk_at "wx"
      exact hQ
    · exact q p2 H2 (ex1.back p2 hp2) (ex1.trans ex2) h2
end
end Nn
namespace Nn
open PySem L2
section
variable {P : Program} {w : World} {K : PySem.W.Frag} {mg : Str → Option Value} {base : Heap} {H H' : Hp} {Q : VK} {E : XK}
def sp_is_faulty (_ : Tx K mg base) : Sp := fun vs H Q E => ∃ (p_names : Addr) (names : List Nat) (p_live : Addr) (live : List Nat) (room : Nat) (ho : Nat) (k : Nat), vs = [.ref p_names, .ref p_live, .int room, .int ho, .int k] ∧ (SqL K H p_names (names.map nV)) ∧ (SqL K H p_live (live.map nV)) ∧ (ho < 2 ^ 60 ∧ k ≤ 60 ∧ names.length ≤ 1000 ∧ live.length ≤ 1000) ∧ (∀ H', Ex H H' → Q (.bl (faultB names live room ho k)) H')
theorem wc_is_faulty {T : Tx K mg base} {p_names : Addr} {names : List Nat} {p_live : Addr} {live : List Nat} {room : Nat} {ho : Nat} {k : Nat} {i2 : Int} {i3 : Int} {i4 : Int} (e2 : i2 = room) (e3 : i3 = ho) (e4 : i4 = k) (c0 : SqL K H p_names (names.map nV)) (c1 : SqL K H p_live (live.map nV)) (c2 : ho < 2 ^ 60 ∧ k ≤ 60 ∧ names.length ≤ 1000 ∧ live.length ≤ 1000) (h : ∀ H', Ex H H' → Q (.bl (faultB names live room ho k)) H') : sp_is_faulty T [.ref p_names, .ref p_live, .int i2, .int i3, .int i4] H Q E := by
  subst e2 e3 e4
  exact ⟨p_names, names, p_live, live, room, ho, k, rfl, c0, c1, c2, h⟩
theorem ok_is_faulty (T : Tx K mg base) : FnOk P w K mg base CX0 3 T.a_is_faulty T.d_is_faulty ["names", "live", "room", "house", "k"] (sp_is_faulty T) := by
  refine T.F_is_faulty.okD sc_is_faulty (fun vs H Q E h => ?_) (fun cdv A outer s H vs Q E hr h => ?_)
  · obtain ⟨p_names, names, p_live, live, room, ho, k, rfl, hS0, hS1, hpre, q⟩ := h; rfl
  · obtain ⟨p_names, names, p_live, live, room, ho, k, rfl, hS0, hS1, hpre, q⟩ := h
    have hu := hu_of hr
    have c_Bucket := T.c_Bucket; have n_Bucket_room := T.n_Bucket_room; have n_Bucket_line := T.n_Bucket_line; have c_Table := T.c_Table; have n_Table_own := T.n_Table_own; have n_Table_wide := T.n_Table_wide; have n_Table_room := T.n_Table_room; have n_Table_buckets := T.n_Table_buckets; have c_Town := T.c_Town; have n_Town_wide := T.n_Town_wide; have n_Town_room := T.n_Town_room; have n_Town_tables := T.n_Town_tables; have n_Town_hushed := T.n_Town_hushed; have n_Town_shelves := T.n_Town_shelves; have n_Town_layings := T.n_Town_layings
    refine ⟨_, (pss_cons (ps_if (pt_not (pt_val (pe_callB (cr_all rfl) (by rfl) T.z_all (by decide +kernel) (pa_cons (pe_lc (own := [("name", 5)]) (g := (gName 5)) (by rfl) sc_is_faulty.nd (pi_list (pv 0)) (blkOk_by (N := N_is_faulty) (sc := defScope s_is_faulty) (own := [("name", 5)]) (by decide +kernel)) (fun _ _ _ _ _ => (pg_name (i := 5) sc_is_faulty.nd rfl (Or.inl rfl))) (fun _ _ _ _ _ => pts_nil) (fun _ _ _ _ _ => (pe_cmpR (op_inK (K := K) rfl) (pv 5) (pv 1) rfl))) pa_nil))))
      (pss_one (ps_ret pe_bl))
      pss_nil)
      (pss_one (ps_ret (pe_and (pe_cmpR op_lt (pe_callB cb_len (by rfl) T.z_len PySem.boot_len (pa_cons (pv 0) pa_nil)) (pv 2) (nomark _)) (pe_one (pe_cmpR op_lt (pe_callB cb_len (by rfl) T.z_len PySem.boot_len (pa_cons (pv 0) pa_nil)) (pe_callB cb_len (by rfl) T.z_len PySem.boot_len (pa_cons (pe_call (ok_of_span T) hr rfl T.m_of_span T.F_of_span.kp T.b_of_span .nil pass0 (pa_cons (pv 1) (pa_cons (pv 3) (pa_cons (pv 4) pa_nil)))) pa_nil)) (nomark _))))))), ?_⟩
    rw [Nn.st_is_faulty]; try rw [Nn.cxK]
    try rw [Nn.cxW]
    walk_at "wx"
    obtain ⟨h60, hk60, hz1, hz2⟩ := hpre
    refine LcW.map (emb := nV) (xs := names) (fun n => V.bl (decide (n ∈ live))) hS0 (by rw [sizeLine_eq]; omega) (fun n _ H2 ex2 Qe hQ => ?_) fun p1 H1 hp1 ex1 h1 => ?_
    · walk_at "wx"
      exact hQ _ Ex.refl
    · rw [bools_map] at h1
      refine x_all (SqL.of h1) ?_
      rw [all_map]
      walk_at "wx"
      unfold faultB at q
      cases hal : names.all fun n => decide (n ∈ live) with
      | false =>
        rw [hal] at q
        walk_at "wx"
        exact q H1 ex1
      | true =>
        rw [hal] at q
        simp only [Bool.not_true, Bool.false_or] at q
        walk_at "wx"
        rw [List.length_map]
        refine x_ite (fun c1 => ?_) fun c1 => ?_
        · have e : decide (names.length < room) = true := decide_eq_true (by omega)
          rw [e] at q
          walk_at "wx"
          refine wc_of_span rfl rfl (ex1.ls hS1) ⟨h60, hk60, hz2⟩ fun p2 H2 hp2 ex2 h2 => ?_
          walk_at "wx"
          rw [List.length_map, List.length_map]
          have e2 : decide ((names.length : Int) < ((ofSpanN live ho k).length : Int)) = decide (names.length < (ofSpanN live ho k).length) := decide_eq_decide.mpr (by omega)
          rw [e2]
          exact q H2 (ex1.trans ex2)
        · have e : decide (names.length < room) = false := decide_eq_false (by omega)
          rw [e] at q
          exact q H1 ex1
end
end Nn
namespace Nn
open PySem L2
section
variable {P : Program} {w : World} {K : PySem.W.Frag} {mg : Str → Option Value} {base : Heap} {H H' : Hp} {Q : VK} {E : XK} {T : Tx K mg base} {A : TA} {F : Addr → Prop} {m : TM}
theorem ofSpan_len {live : List Nat} {h k : Nat} : (ofSpanN live h k).length ≤ live.length := List.length_filter_le _ _
theorem TM.Ok.b60 {N : List Nat} (k : m.Ok N) {h : Nat} (hm : h ∈ m.houses) : h < 2 ^ 60 := Nat.lt_of_lt_of_le (k.bd hm) (Nat.pow_le_pow_right (by decide) k.w1)
def sp_fault (T : Tx K mg base) : Sp := fun vs H Q _ => ∃ (A : TA) (F : Addr → Prop) (m : TM) (N : List Nat), vs = [.ref A.t] ∧ TownAt T H A F m ∧ m.Ok N ∧ ∀ v H', Ex H H' → PairV H' v m.faultN → Q v H'
theorem wc_fault {N : List Nat} (t : TownAt T H A F m) (k : m.Ok N) (q : ∀ v H', Ex H H' → PairV H' v m.faultN → Q v H') : sp_fault T [.ref A.t] H Q E := ⟨A, F, m, N, rfl, t, k, q⟩
theorem ok_fault (T : Tx K mg base) : FnOk P w K mg base CX0 4 T.a_fault T.d_fault ["town"] (sp_fault T) := by
  refine T.F_fault.okD sc_fault (fun vs H Q E h => ?_) (fun cdv A outer s H vs Q E hr h => ?_)
  · obtain ⟨A, F, m, N, rfl, _⟩ := h; rfl
  · obtain ⟨A1, F, m, N, rfl, t, k, q⟩ := h
    obtain ⟨dx, ob⟩ := t.tw.ob
    have hu := hu_of hr
    have hz := k.houses_len
    have hll := k.live_len
    have hr1 := k.r1
    have c_Bucket := T.c_Bucket; have n_Bucket_room := T.n_Bucket_room; have n_Bucket_line := T.n_Bucket_line; have c_Table := T.c_Table; have n_Table_own := T.n_Table_own; have n_Table_wide := T.n_Table_wide; have n_Table_room := T.n_Table_room; have n_Table_buckets := T.n_Table_buckets; have c_Town := T.c_Town; have n_Town_wide := T.n_Town_wide; have n_Town_room := T.n_Town_room; have n_Town_tables := T.n_Town_tables; have n_Town_hushed := T.n_Town_hushed; have n_Town_shelves := T.n_Town_shelves; have n_Town_layings := T.n_Town_layings
    refine ⟨_, (pss_cons (ps_set (i := 1) sc_fault.nd rfl (Or.inl rfl) (pe_meth0 (pv 0) T.c_Town T.t_Town_answering (ok_Town_answering T) (hr.mono (by decide)) T.b_Town_answering .nil pass0))
      (pss_cons (ps_for PassesOwn.never rfl (pi_list (pv 1)) (pg_name (i := 2) sc_fault.nd rfl (Or.inl rfl))
      (pss_one (ps_for PassesOwn.never rfl (pi_range1 rfl T.z_range (pa_cons (pe_fld (pv 0) rfl) pa_nil)) (pg_name (i := 3) sc_fault.nd rfl (Or.inl rfl))
      (pss_one (ps_if (pt_val (pe_call (ok_is_faulty T) hr rfl T.m_is_faulty T.F_is_faulty.kp T.b_is_faulty .nil pass0 (pa_cons (pe_meth (pv 0) T.c_Town T.t_Town_bucket (ok_Town_bucket T) hr T.b_Town_bucket .nil pass0 (pa_cons (pv 2) (pa_cons (pv 3) pa_nil))) (pa_cons (pv 1) (pa_cons (pe_fld (pv 0) rfl) (pa_cons (pv 2) (pa_cons (pv 3) pa_nil)))))))
      (pss_one (ps_ret (pe_tup (pa_cons (pv 2) (pa_cons (pv 3) pa_nil)))))
      pss_nil)))))
      (pss_one (ps_ret pe_non)))), ?_⟩
    rw [Nn.st_fault]; try rw [Nn.cxK]
    try rw [Nn.cxW]
    walk_at "wx"
    refine wc_Town_answering t hz k.nd fun p1 H1 hp1 ex1 h1 => ?_
    walk_at "wx"
    refine ForW.by walk_list (fun i σ H' => ∃ (v2 v3 : Option V), σ = [some (.ref A1.t), some (.ref p1), v2, v3] ∧ Ex H1 H' ∧ ∀ h ∈ m.live.take i, ∀ j, j < m.wide → m.faulty (h, j) = false) ⟨_, _, rfl, Ex.refl, by simp⟩ (fun i σ H' _ ⟨_, _, _, e, _⟩ => SqL.of (e.at h1)) ?_ ?_
    · rintro i x σ _ H2 hi ⟨v2, v3, rfl, ex2, hno⟩ ⟨rfl, hx⟩
      rw [List.length_map] at hi
      obtain rfl : x = nV m.live[i] := by
        rw [List.getElem?_map, List.getElem?_eq_getElem hi] at hx
        exact (Option.some.inj hx).symm
      have t2 := t.ex' (ex1.trans ex2)
      obtain ⟨dx2, ob2⟩ := t2.tw.ob
      have hwi := k.w1
      walk_at "wx"
      refine ForW.by walk_rgN (fun j σ H' => ∃ (v3 : Option V), σ = [some (.ref A1.t), some (.ref p1), some (nV m.live[i]), v3] ∧ Ex H1 H' ∧ ∀ j', j' < j → m.faulty (m.live[i], j') = false) ⟨_, rfl, ex2, fun _ h => absurd h (Nat.not_lt_zero _)⟩ (fun _ _ _ _ _ => trivial) ?_ ?_
      · rintro j _ σ _ H3 hj ⟨v3, rfl, ex3, hnoj⟩ ⟨rfl, rfl⟩
        have hhm := TM.live_house (List.getElem_mem hi)
        have t3 := t.ex' (ex1.trans ex3)
        obtain ⟨dx3, ob3⟩ := t3.tw.ob
        obtain ⟨rw1, rw2, rw3⟩ := k.row (j := j) hhm
        walk_at "wx"
        refine wc_Town_bucket rfl rfl t3 k.w1 (k.bd hhm) hhm hj fun p4 hp4 => ?_
        have erow : (m.tab m.live[i]).getD j [] = m.row m.live[i] j := rfl
        rw [erow]
        have ex4 := ex3.newT (o := .lst ((m.row m.live[i] j).map nV)) hp4
        have h4 := upd_same (H := H3) (a := p4) (o := .lst ((m.row m.live[i] j).map nV))
        generalize upd H3 p4 (.lst ((m.row m.live[i] j).map nV)) = H4 at ex4 h4 ⊢
        have t4 := t.ex' (ex1.trans ex4)
        have h14 := ex4.at h1
        obtain ⟨dx4, ob4⟩ := t4.tw.ob
        walk_at "wx"
        refine wc_is_faulty rfl rfl rfl (SqL.of h4) (SqL.of h14) ⟨k.b60 hhm, by omega, by omega, by omega⟩ fun H5 ex5 => ?_
        have ex05 := ex4.trans ex5
        have ef : faultB (m.row m.live[i] j) m.live m.room m.live[i] j = m.faulty (m.live[i], j) := rfl
        rw [ef]
        cases hf : m.faulty (m.live[i], j) with
        | false =>
          walk_at "wx"
          exact ⟨_, rfl, ex05, fun j' hj' => by
            by_cases e : j' = j
            · rw [e]; exact hf
            · exact hnoj j' (by omega)⟩
        | true =>
          walk_at "wx"
          refine ⟨len_ok rfl, fun p6 hp6 => ?_⟩
          have e : m.faultN = some (m.live[i], j) := pairs_hit hi hj hno hnoj hf
          exact q (.ref p6) _ (ex1.trans (ex05.newT hp6)) (by rw [e]; exact ⟨p6, rfl, upd_same⟩)
      · rintro σ H3 ⟨v3, rfl, ex3, hnoj⟩
        walk_at "wx"
        refine ⟨_, _, rfl, ex3, fun h hh j hj => ?_⟩
        rw [List.take_add_one, List.getElem?_eq_getElem hi] at hh
        rcases List.mem_append.mp hh with z | z
        · exact hno h z j hj
        · have z : h = m.live[i] := by simpa using z
          rw [z]; exact hnoj j hj
    · rintro σ H2 ⟨v2, v3, rfl, ex2, hno⟩
      rw [List.length_map, List.take_length] at hno
      walk_at "wx"
      have e : m.faultN = none := pairs_none hno
      exact q .non H2 (ex1.trans ex2) (by rw [e]; rfl)
def sp_holes (T : Tx K mg base) : Sp := fun vs H Q _ => ∃ (A : TA) (F : Addr → Prop) (m : TM) (N : List Nat), vs = [.ref A.t] ∧ TownAt T H A F m ∧ m.Ok N ∧ ∀ (p : Addr) (ts : List Addr) (H' : Hp), H p = none → Ex H H' → H' p = some (.lst (ts.map V.ref)) → ts.length = m.holesN.length → (∀ (i : Nat) (a : Addr) (x : Nat × Nat), ts[i]? = some a → m.holesN[i]? = some x → H' a = some (.tup [nV x.1, nV x.2]) ∧ H a = none) → Q (.ref p) H'
theorem wc_holes {N : List Nat} (t : TownAt T H A F m) (k : m.Ok N) (q : ∀ (p : Addr) (ts : List Addr) (H' : Hp), H p = none → Ex H H' → H' p = some (.lst (ts.map V.ref)) → ts.length = m.holesN.length → (∀ (i : Nat) (a : Addr) (x : Nat × Nat), ts[i]? = some a → m.holesN[i]? = some x → H' a = some (.tup [nV x.1, nV x.2]) ∧ H a = none) → Q (.ref p) H') : sp_holes T [.ref A.t] H Q E := ⟨A, F, m, N, rfl, t, k, q⟩
/-- a list of pairs -/
structure PsAt (H0 H : Hp) (p : Addr) (ts : List Addr) (xs : List (Nat × Nat)) : Prop where
  at_ : H p = some (.lst (ts.map V.ref))
  len : ts.length = xs.length
  el : ∀ (i : Nat) (a : Addr) (x : Nat × Nat), ts[i]? = some a → xs[i]? = some x → H a = some (.tup [nV x.1, nV x.2]) ∧ H0 a = none
theorem PsAt.ex {H0 : Hp} {p : Addr} {ts : List Addr} {xs : List (Nat × Nat)} (a : PsAt H0 H p ts xs) (e : Ex H H') : PsAt H0 H' p ts xs := ⟨e.at a.at_, a.len, fun i b x h1 h2 => ⟨e.at (a.el i b x h1 h2).1, (a.el i b x h1 h2).2⟩⟩
theorem PsAt.snoc {H0 : Hp} {p q : Addr} {ts : List Addr} {xs : List (Nat × Nat)} {x : Nat × Nat} (a : PsAt H0 H p ts xs) (hq : H q = some (.tup [nV x.1, nV x.2])) (hn : H0 q = none) : PsAt H0 (upd H p (.lst (ts.map V.ref ++ [.ref q]))) p (ts ++ [q]) (xs ++ [x]) := by
  have ne : ∀ {b : Addr} {l : List V}, H b = some (.tup l) → b ≠ p := fun h z => by rw [z, a.at_] at h; cases h
  refine ⟨by rw [upd_same, List.map_append]; rfl, by simp [a.len], fun i b y h1 h2 => ?_⟩
  by_cases hi : i < ts.length
  · rw [List.getElem?_append_left hi] at h1
    rw [List.getElem?_append_left (by rw [← a.len]; exact hi)] at h2
    obtain ⟨g1, g2⟩ := a.el i b y h1 h2
    exact ⟨by rw [upd_ne (ne g1)]; exact g1, g2⟩
  · have hl := (List.getElem?_eq_some_iff.mp h1).1
    have ei : i = ts.length := by simp at hl; omega
    rw [ei, List.getElem?_append_right (Nat.le_refl _), Nat.sub_self] at h1
    rw [ei, a.len, List.getElem?_append_right (Nat.le_refl _), Nat.sub_self] at h2
    cases h1; cases h2
    exact ⟨by rw [upd_ne (ne hq)]; exact hq, hn⟩
theorem ok_holes (T : Tx K mg base) : FnOk P w K mg base CX0 4 T.a_holes T.d_holes ["town"] (sp_holes T) := by
  refine T.F_holes.okD sc_holes (fun vs H Q E h => ?_) (fun cdv A outer s H vs Q E hr h => ?_)
  · obtain ⟨A, F, m, N, rfl, _⟩ := h; rfl
  · obtain ⟨A1, F, m, N, rfl, t, k, q⟩ := h
    obtain ⟨dx, ob⟩ := t.tw.ob
    have hu := hu_of hr
    have hz := k.houses_len
    have hll := k.live_len
    have hr1 := k.r1
    have hpl := pairs_len (l := m.live) (w := m.wide)
    have hplm : m.live.length * m.wide ≤ 63 * 60 := Nat.mul_le_mul (by omega) k.w1
    have c_Bucket := T.c_Bucket; have n_Bucket_room := T.n_Bucket_room; have n_Bucket_line := T.n_Bucket_line; have c_Table := T.c_Table; have n_Table_own := T.n_Table_own; have n_Table_wide := T.n_Table_wide; have n_Table_room := T.n_Table_room; have n_Table_buckets := T.n_Table_buckets; have c_Town := T.c_Town; have n_Town_wide := T.n_Town_wide; have n_Town_room := T.n_Town_room; have n_Town_tables := T.n_Town_tables; have n_Town_hushed := T.n_Town_hushed; have n_Town_shelves := T.n_Town_shelves; have n_Town_layings := T.n_Town_layings
    refine ⟨_, (pss_cons (ps_set (i := 1) sc_holes.nd rfl (Or.inr rfl) (pe_meth0 (pv 0) T.c_Town T.t_Town_answering (ok_Town_answering T) (hr.mono (by decide)) T.b_Town_answering .nil pass0))
      (pss_cons (ps_set (i := 2) sc_holes.nd rfl (Or.inl rfl) (pe_lst pa_nil))
      (pss_cons (ps_for PassesOwn.never rfl (pi_list (pv 1)) (pg_name (i := 3) sc_holes.nd rfl (Or.inl rfl))
      (pss_one (ps_for PassesOwn.never rfl (pi_range1 rfl T.z_range (pa_cons (pe_fld (pv 0) rfl) pa_nil)) (pg_name (i := 4) sc_holes.nd rfl (Or.inl rfl))
      (pss_cons (ps_set (i := 5) sc_holes.nd rfl (Or.inl rfl) (pe_callB (cr_any rfl) (by rfl) T.z_any (by decide +kernel) (pa_cons (pe_lc (own := [("name", 6)]) (g := (gName 6)) (by rfl) sc_holes.nd (pi_list (pe_meth (pv 0) T.c_Town T.t_Town_bucket (ok_Town_bucket T) hr T.b_Town_bucket .nil pass0 (pa_cons (pv 3) (pa_cons (pv 4) pa_nil)))) (blkOk_by (N := N_holes) (sc := defScope s_holes) (own := [("name", 6)]) (by decide +kernel)) (fun _ _ _ _ _ => (pg_name (i := 6) sc_holes.nd rfl (Or.inl rfl))) (fun _ _ _ _ _ => pts_nil) (fun _ _ _ _ _ => (pe_cmpR (op_inK (K := K) rfl) (pv 6) (pv 1) rfl))) pa_nil)))
      (pss_one (ps_if (PW.pt (pw_and (pt_not (pt_val (pv 5))) (pw_and1 (pt_cmpR (op_neD hr.units) (pe_call (ok_of_span T) (hr.mono (by decide)) rfl T.m_of_span T.F_of_span.kp T.b_of_span .nil pass0 (pa_cons (pv 1) (pa_cons (pv 3) (pa_cons (pv 4) pa_nil)))) (pe_lst pa_nil) (nomark _)))))
      (pss_one (ps_expr (pe_bm PySem.F.plainAttrs_list PySem.F.slot_list_append PySem.F.type_list_append mt_append (pv 2) (pa_cons (pe_tup (pa_cons (pv 3) (pa_cons (pv 4) pa_nil))) pa_nil))))
      pss_nil))))))
      (pss_one (ps_ret (pv 2)))))), ?_⟩
    rw [Nn.st_holes]; try rw [Nn.cxK]
    try rw [Nn.cxW]
    walk_at "wx"
    refine wc_Town_answering t hz k.nd fun p1 H1 hp1 ex1 h1 => ?_
    walk_at "wx"
    refine ⟨len_ok rfl, fun p2 hp2 => ?_⟩
    have ex2 := ex1.newT (o := .lst []) hp2
    have h12 := at_new (o := .lst []) hp2 h1
    have n12 := ne_of_none h1 hp2
    have p02 : PsAt H (upd H1 p2 (.lst [])) p2 [] [] := ⟨upd_same, rfl, fun i a x h => by simp at h⟩
    have hp20 := ex1.back p2 hp2
    generalize upd H1 p2 (.lst []) = H2 at ex2 h12 p02 ⊢
    clear hp2 h1 ex1
    walk_at "wx"
    refine ForW.by walk_list (fun i σ H' => ∃ (v3 v4 v5 v6 : Option V) (ts : List Addr), σ = [some (.ref A1.t), some (.ref p1), some (.ref p2), v3, v4, v5, v6] ∧ Ex H H' ∧ H' p1 = some (.lst (m.live.map nV)) ∧ PsAt H H' p2 ts ((pairsN (m.live.take i) m.wide).filter m.hole)) ⟨_, _, _, _, [], rfl, ex2, h12, p02⟩ (fun i σ H' _ ⟨_, _, _, _, _, _, _, e, _⟩ => SqL.of e) ?_ ?_
    · rintro i x σ _ H3 hi ⟨v3, v4, v5, v6, ts, rfl, ex3, h13, ps3⟩ ⟨rfl, hx⟩
      rw [List.length_map] at hi
      obtain rfl : x = nV m.live[i] := by
        rw [List.getElem?_map, List.getElem?_eq_getElem hi] at hx
        exact (Option.some.inj hx).symm
      have t3 := t.ex' ex3
      obtain ⟨dx3, ob3⟩ := t3.tw.ob
      have hwi := k.w1
      walk_at "wx"
      refine ForW.by walk_rgN (fun j σ H' => ∃ (v4 v5 v6 : Option V) (ts : List Addr), σ = [some (.ref A1.t), some (.ref p1), some (.ref p2), some (nV m.live[i]), v4, v5, v6] ∧ Ex H H' ∧ H' p1 = some (.lst (m.live.map nV)) ∧ PsAt H H' p2 ts ((pairsN (m.live.take i) m.wide).filter m.hole ++ ((List.range j).map fun k => (m.live[i], k)).filter m.hole)) ⟨_, _, _, ts, rfl, ex3, h13, by simpa using ps3⟩ (fun _ _ _ _ _ => trivial) ?_ ?_
      · rintro j _ σ _ H4 hj ⟨v4, v5, v6, ts, rfl, ex4, h14, ps4⟩ ⟨rfl, rfl⟩
        have hhm := TM.live_house (List.getElem_mem hi)
        have t4 := t.ex' ex4
        obtain ⟨dx4, ob4⟩ := t4.tw.ob
        obtain ⟨rw1, rw2, rw3⟩ := k.row (j := j) hhm
        have hts : ts.length < 100000 := by
          rw [ps4.len, List.length_append]
          have q1 := List.length_filter_le m.hole (pairsN (m.live.take i) m.wide)
          have q2 := List.length_filter_le m.hole ((List.range j).map fun k => (m.live[i], k))
          rw [pairs_len] at q1
          rw [List.length_map, List.length_range] at q2
          have q3 : (m.live.take i).length * m.wide ≤ 63 * 60 := Nat.mul_le_mul (by rw [List.length_take]; omega) k.w1
          omega
        walk_at "wx"
        refine wc_Town_bucket rfl rfl t4 k.w1 (k.bd hhm) hhm hj fun p5 hp5 => ?_
        have erow : (m.tab m.live[i]).getD j [] = m.row m.live[i] j := rfl
        rw [erow]
        have ex5 := ex4.newT (o := .lst ((m.row m.live[i] j).map nV)) hp5
        have h5 := upd_same (H := H4) (a := p5) (o := .lst ((m.row m.live[i] j).map nV))
        have h15 := at_new (o := .lst ((m.row m.live[i] j).map nV)) hp5 h14
        have ps5 := ps4.ex (Ex.new (o := .lst ((m.row m.live[i] j).map nV)) hp5)
        generalize upd H4 p5 (.lst ((m.row m.live[i] j).map nV)) = H5 at ex5 h5 h15 ps5 ⊢
        walk_at "wx"
        refine LcW.map (emb := nV) (xs := m.row m.live[i] j) (fun n => V.bl (decide (n ∈ m.live))) (SqL.of h5) (by rw [sizeLine_eq]; omega) (fun n _ H6 ex6 Qe hQ => ?_) fun p6 H6 hp6 ex6 h6 => ?_
        · have h16 := ex6.at h15
          walk_at "wx"
          exact hQ _ Ex.refl
        · rw [bools_map] at h6
          refine x_any (SqL.of h6) ?_
          rw [any_map]
          have h16 := ex6.at h15
          have ps6 := ps5.ex ex6
          have ex06 := ex5.trans ex6
          have hol : m.hole (m.live[i], j) = (!((m.row m.live[i] j).any fun n => decide (n ∈ m.live)) && !decide (ofSpanN m.live m.live[i] j = [])) := rfl
          have stay : m.hole (m.live[i], j) = false → (pairsN (m.live.take i) m.wide).filter m.hole ++ ((List.range (j + 1)).map fun k => (m.live[i], k)).filter m.hole = (pairsN (m.live.take i) m.wide).filter m.hole ++ ((List.range j).map fun k => (m.live[i], k)).filter m.hole := fun e => by
            rw [List.range_succ, List.map_append, List.filter_append, List.map_singleton, List.filter_cons_of_neg (by rw [e]; exact Bool.false_ne_true), List.filter_nil, List.append_nil]
          have more : m.hole (m.live[i], j) = true → (pairsN (m.live.take i) m.wide).filter m.hole ++ ((List.range (j + 1)).map fun k => (m.live[i], k)).filter m.hole = ((pairsN (m.live.take i) m.wide).filter m.hole ++ ((List.range j).map fun k => (m.live[i], k)).filter m.hole) ++ [(m.live[i], j)] := fun e => by
            rw [List.range_succ, List.map_append, List.filter_append, List.map_singleton, List.filter_cons_of_pos e, List.filter_nil, List.append_assoc]
          cases hk : (m.row m.live[i] j).any fun n => decide (n ∈ m.live) with
          | true =>
            rw [hk] at hol
            walk_at "wx"
            exact ⟨_, _, _, ts, rfl, ex06, h16, by rw [stay hol]; exact ps6⟩
          | false =>
            rw [hk] at hol
            walk_at "wx"
            refine wc_of_span rfl rfl (SqL.of h16) ⟨k.b60 hhm, by omega, by omega⟩ fun p7 H7 hp7 ex7 h7 => ?_
            have h17 := ex7.at h16
            have ps7 := ps6.ex ex7
            have ex07 := ex06.trans ex7
            walk_at "wx"
            refine ⟨len_ok rfl, fun p8 hp8 => ?_⟩
            have ex08 := ex07.newT (o := .lst []) hp8
            have h18 := at_new (o := .lst []) hp8 h17
            have h78 := at_new (o := .lst []) hp8 h7
            have h88 := upd_same (H := H7) (a := p8) (o := .lst [])
            have ps8 := ps7.ex (Ex.new (o := .lst []) hp8)
            generalize upd H7 p8 (.lst []) = H8 at ex08 h18 h78 h88 ps8 ⊢
            refine x_neLN (ys := []) (SqL.of h78) (SqL.of h88) ?_
            walk_at "wx"
            refine x_ifN (fun hne => ?_) fun he => ?_
            · have hol : m.hole (m.live[i], j) = true := by rw [hol, decide_eq_false hne]; rfl
              have at8 := ps8.at_
              walk_at "wx"
              refine ⟨len_ok rfl, fun p9 hp9 => ?_⟩
              have ex09 := ex08.newT (o := .tup [nV m.live[i], nV j]) hp9
              have h19 := at_new (o := .tup [nV m.live[i], nV j]) hp9 h18
              have h99 := upd_same (H := H8) (a := p9) (o := .tup [nV m.live[i], nV j])
              have ps9 := ps8.ex (Ex.new (o := .tup [nV m.live[i], nV j]) hp9)
              have n90 : H p9 = none := ex08.back p9 hp9
              generalize upd H8 p9 (.tup [nV m.live[i], nV j]) = H9 at ex09 h19 h99 ps9 ⊢
              have at9 := ps9.at_
              walk_at "wx"
              have ps10 := ps9.snoc (x := (m.live[i], j)) h99 n90
              exact ⟨_, _, _, ts ++ [p9], rfl, ex09.mut hp20 at9, by rw [upd_ne n12]; exact h19, by rw [more hol]; exact ps10⟩
            · have hol : m.hole (m.live[i], j) = false := by rw [hol, decide_eq_true he]; rfl
              walk_at "wx"
              exact ⟨_, _, _, ts, rfl, ex08, h18, by rw [stay hol]; exact ps8⟩
      · rintro σ H4 ⟨v4, v5, v6, ts, rfl, ex4, h14, ps4⟩
        walk_at "wx"
        refine ⟨_, _, _, _, ts, rfl, ex4, h14, ?_⟩
        rw [pairs_take hi, List.filter_append]
        exact ps4
    · rintro σ H3 ⟨v3, v4, v5, v6, ts, rfl, ex3, h13, ps3⟩
      rw [List.length_map, List.take_length] at ps3
      walk_at "wx"
      exact q p2 ts H3 hp20 ex3 ps3.at_ ps3.len ps3.el
end
end Nn
/-! towns where all answer: they come to rest -/
namespace Nn
theorem closer {d x z : Nat} (h1 : d ≠ x) (h2 : d ≠ z) (h : stepN d z = stepN d x) : z ^^^ x < 2 ^ stepN d x ∧ 2 ^ stepN d x ≤ d ^^^ x := by
  have e1 := (stepN_eq h1).mp rfl
  have e2 := (stepN_eq h2).mp h
  have e3 : (z ^^^ x) / 2 ^ stepN d x = 0 := by rw [xor_div_pow, e1, e2, Nat.xor_self]
  have hp := Nat.two_pow_pos (stepN d x)
  refine ⟨?_, Nat.log2_self_le (xor_ne_zero h1)⟩
  rcases Nat.div_eq_zero_iff.mp e3 with q | q
  · omega
  · exact q
theorem hear_cov {room n : Nat} {xs : List Nat} {a : Bool} (h0 : 0 < room) (ha : xs ≠ [] → ¬ xs.length < room → a = true) :
    (∀ z ∈ xs, z ∈ hearL room xs n a) ∧ ((hearL room xs n a).length < room → n ∈ hearL room xs n a) ∧ ((hearL room xs n a).length < room → xs.length < room) ∧ (∀ z ∈ hearL room xs n a, z ∈ xs ∨ z = n) := by
  refine ⟨?_, ?_, ?_, fun z hz => hear_mem hz h0⟩
  all_goals unfold hearL
  all_goals by_cases hn : n ∈ xs
  · rw [if_pos hn]
    intro z hz
    by_cases e : z = n
    · rw [e]; simp
    · exact List.mem_append.mpr (.inl ((List.mem_erase_of_ne e).mpr hz))
  · rw [if_neg hn]
    intro z hz
    by_cases hr : xs.length < room
    · rw [if_pos hr]; exact List.mem_append.mpr (.inl hz)
    · rw [if_neg hr]
      cases xs with
      | nil => cases hz
      | cons x r =>
        rw [if_pos (ha (List.cons_ne_nil _ _) hr)]
        rcases List.mem_cons.mp hz with e | e
        · rw [e]; simp
        · exact List.mem_append.mpr (.inl e)
  · rw [if_pos hn]; intro _; simp
  · rw [if_neg hn]
    by_cases hr : xs.length < room
    · rw [if_pos hr]; intro _; simp
    · rw [if_neg hr]
      cases xs with
      | nil => simp at hr; omega
      | cons x r =>
        rw [if_pos (ha (List.cons_ne_nil _ _) hr)]
        intro z
        simp at hr z
        omega
  · rw [if_pos hn]
    intro z
    have hp : 0 < xs.length := List.length_pos_of_mem hn
    rw [List.length_append, List.length_erase_of_mem hn, List.length_singleton] at z
    omega
  · rw [if_neg hn]
    by_cases hr : xs.length < room
    · intro _; exact hr
    · rw [if_neg hr]
      cases xs with
      | nil => simp at hr; omega
      | cons x r =>
        rw [if_pos (ha (List.cons_ne_nil _ _) hr)]
        intro z
        simp at hr z
        omega
namespace TM
variable {m : TM} {N : List Nat} {S : Nat → Nat → Prop}
theorem row_hears (k : m.Ok N) {h n h' j : Nat} (hh : h ∈ m.houses) (hn : n ∈ N) : (m.hears h n).row h' j = if h' = h ∧ n ≠ h ∧ stepN h n = j then hearL m.room (m.row h j) n (m.aw ((m.row h j).headD 0)) else m.row h' j := by
  show ((m.setTab h (tabL h m.room (m.tab h) n m.aw)).tab h').getD j [] = _
  rw [setTab_tab]
  by_cases e : h' = h
  · subst e
    rw [if_pos ⟨rfl, hh⟩]
    unfold tabL
    by_cases e2 : n = h'
    · rw [if_pos e2, if_neg fun z => z.2.1 e2]; rfl
    · rw [if_neg e2]
      by_cases e3 : stepN h' n = j
      · rw [if_pos ⟨rfl, e2, e3⟩]
        subst e3
        have hl : stepN h' n < (m.tab h').length := by
          rw [(k.tabOk hh).len]
          exact stepN_lt (k.nb _ (k.hN _ hh)) (k.nb _ hn) fun z => e2 z.symm
        rw [List.getD_eq_getElem?_getD, List.getElem?_set_self hl]; rfl
      · rw [if_neg fun z => e3 z.2.2, List.getD_eq_getElem?_getD, List.getElem?_set_ne e3, ← List.getD_eq_getElem?_getD]; rfl
  · rw [if_neg fun z => e z.1, if_neg fun z => e z.1]; rfl
/-- all houses answer; what is kept are houses; a bucket with room keeps all that the house was told of -/
structure Cov (m : TM) (S : Nat → Nat → Prop) : Prop where
  hush : m.hush = []
  kept : ∀ h ∈ m.houses, ∀ j, ∀ x ∈ m.row h j, x ∈ m.houses
  full : ∀ h ∈ m.houses, ∀ j, (m.row h j).length < m.room → ∀ y, S h y → y ≠ h → stepN h y = j → y ∈ m.row h j
theorem Cov.aw (c : m.Cov S) {x : Nat} (hx : x ∈ m.houses) : m.aw x = true := by
  unfold TM.aw; rw [c.hush]; simp [hx]
theorem Cov.mono {S' : Nat → Nat → Prop} (c : m.Cov S) (h : ∀ a ∈ m.houses, ∀ b, b ≠ a → S' a b → S a b) : m.Cov S' := ⟨c.hush, c.kept, fun a ha j hl y hy hne => c.full a ha j hl y (h a ha y hne hy) hne⟩
theorem Cov.hears (k : m.Ok N) (c : m.Cov S) {h n : Nat} (hh : h ∈ m.houses) (hn : n ∈ m.houses) : (m.hears h n).Cov fun a b => S a b ∨ (a = h ∧ b = n) := by
  have ha : ∀ j, m.row h j ≠ [] → ¬ (m.row h j).length < m.room → m.aw ((m.row h j).headD 0) = true := fun j ne _ => by
    cases e : m.row h j with
    | nil => exact absurd e ne
    | cons x r => exact c.aw (c.kept h hh j x (by rw [e]; simp))
  refine ⟨c.hush, fun a haa j x hx => ?_, fun a haa j hl y hy hne hs => ?_⟩
  · rw [hears_houses] at haa ⊢
    rw [row_hears k hh (k.hN _ hn)] at hx
    split at hx
    · rename_i q
      rcases (hear_cov k.r0 (ha j)).2.2.2 x hx with z | z
      · exact c.kept h hh j x z
      · rw [z]; exact hn
    · exact c.kept a haa j x hx
  · rw [hears_houses] at haa
    rw [row_hears k hh (k.hN _ hn)] at hl ⊢
    split at hl
    · rename_i q
      rw [if_pos q]
      obtain ⟨c1, c2, c3, c4⟩ := hear_cov (n := n) k.r0 (ha j)
      obtain ⟨q1, q2, q3⟩ := q
      rcases hy with z | ⟨_, z⟩
      · rw [q1] at z hne hs
        exact c1 y (c.full h hh j (c3 hl) y z hne hs)
      · rw [z]; exact c2 hl
    · rename_i q
      rw [if_neg q]
      rcases hy with z | ⟨z1, z2⟩
      · exact c.full a haa j hl y z hne hs
      · exfalso
        subst z1 z2
        exact q ⟨rfl, hne, hs⟩
theorem Cov.fold {n : Nat} : ∀ {l : List Nat} {m : TM} {S : Nat → Nat → Prop}, m.Ok N → m.Cov S → n ∈ m.houses → (∀ o ∈ l, o ∈ m.houses) → (l.foldl (TM.meet n) m).Cov fun a b => S a b ∨ (a = n ∧ b ∈ l) ∨ (b = n ∧ a ∈ l)
  | [], m, S, _, c, _, _ => c.mono fun a _ b _ h => by
    rcases h with h | ⟨_, h⟩ | ⟨_, h⟩
    · exact h
    · cases h
    · cases h
  | o :: r, m, S, k, c, hn, hl => by
    rw [List.foldl_cons]
    have ho := hl o (List.mem_cons_self ..)
    have k1 := k.hears (h := n) (k.hN _ ho)
    have c1 := c.hears k hn ho
    have c2 := c1.hears k1 (h := o) (n := n) (by rw [hears_houses]; exact ho) (by rw [hears_houses]; exact hn)
    have k2 : (TM.meet n m o).Ok N := k.meet (k.hN _ hn) (k.hN _ ho)
    refine (Cov.fold (l := r) k2 c2 (by rw [meet_houses]; exact hn) fun x hx => by rw [meet_houses]; exact hl x (List.mem_cons_of_mem _ hx)).mono fun a _ b _ h => ?_
    rcases h with h | ⟨h1, h2⟩ | ⟨h1, h2⟩
    · exact .inl (.inl (.inl h))
    · rcases List.mem_cons.mp h2 with z | z
      · exact .inl (.inl (.inr ⟨h1, z⟩))
      · exact .inr (.inl ⟨h1, z⟩)
    · rcases List.mem_cons.mp h2 with z | z
      · exact .inl (.inr ⟨z, h1⟩)
      · exact .inr (.inr ⟨h1, z⟩)
/-- it rests -/
def Calm (m : TM) : Prop := m.Cov fun _ y => y ∈ m.houses
theorem tab_row {x y : Nat} (h : y ∈ (m.tab x).flatten) : ∃ j, y ∈ m.row x j := by
  obtain ⟨xs, h1, h2⟩ := List.mem_flatten.mp h
  obtain ⟨j, hj⟩ := List.getElem?_of_mem h1
  exact ⟨j, by unfold TM.row; rw [List.getD_eq_getElem?_getD, hj]; exact h2⟩
theorem row_tab {x y j : Nat} (h : y ∈ m.row x j) : y ∈ (m.tab x).flatten := by
  unfold TM.row at h
  rw [List.getD_eq_getElem?_getD] at h
  cases e : (m.tab x)[j]? with
  | none => rw [e] at h; cases h
  | some xs => rw [e] at h; exact List.mem_flatten.mpr ⟨xs, List.mem_of_getElem? e, h⟩
/-- in a town at rest each house is come to from each -/
theorem Calm.reach (k : m.Ok N) (c : m.Calm) {x : Nat} (hx : x ∈ m.houses) : ∀ (s d : Nat), d ^^^ x = s → d ∈ m.houses → m.Reach d x := by
  have key : ∀ (s d b : Nat), d ^^^ x < s → d ∈ m.houses → m.Reach b d → m.Reach b x := by
    intro s
    induction s with
    | zero => intro d b h; omega
    | succ s ih =>
      intro d b h hd r
      by_cases e : d = x
      · rw [← e]; exact r
      · by_cases hl : (m.row d (stepN d x)).length < m.room
        · exact .step r (row_tab (c.full d hd _ hl x hx (fun z => e z.symm) rfl)) (c.aw hx)
        · have hr := k.r0
          obtain ⟨z, hz⟩ := List.exists_mem_of_length_pos (by omega : 0 < (m.row d (stepN d x)).length)
          have hzh := c.kept d hd _ z hz
          obtain ⟨q1, q2, q3⟩ := (k.row hd).2.2 z hz
          obtain ⟨g1, g2⟩ := closer e (fun w => q1 w.symm) q2
          exact ih z b (by omega) hzh (.step r (row_tab hz) (c.aw hzh))
  intro s d e hd
  exact key (s + 1) d d (by omega) hd .self
theorem tab_add {n x : Nat} (hn : n ∉ m.houses) (hx : x ∈ m.houses) : (m.add n).tab x = m.tab x := by
  unfold TM.tab TM.add
  rw [List.lookup_append]
  cases e : m.tabs.lookup x with
  | some v => rfl
  | none =>
    exfalso
    obtain ⟨p, hp, rfl⟩ := List.mem_map.mp hx
    exact (List.lookup_eq_none_iff.mp e p hp |> fun z => by simp at z)
theorem tab_add_new {n : Nat} (hn : n ∉ m.houses) : (m.add n).tab n = List.replicate m.wide [] := by
  unfold TM.tab TM.add
  rw [List.lookup_append]
  have e : m.tabs.lookup n = none := List.lookup_eq_none_iff.mpr fun p hp => by
    simp only [bne_iff_ne, ne_eq, beq_iff_eq]
    intro z
    exact hn (List.mem_map.mpr ⟨p, hp, z.symm⟩)
  rw [e]
  show (List.lookup n [(n, List.replicate m.wide [])]).getD [] = _
  rw [lookup_eq]; rfl
theorem row_add {n x j : Nat} (hn : n ∉ m.houses) (hx : x ∈ m.houses) : (m.add n).row x j = m.row x j := by
  unfold TM.row; rw [tab_add hn hx]
theorem row_add_new {n j : Nat} (hn : n ∉ m.houses) : (m.add n).row n j = [] := by
  unfold TM.row; rw [tab_add_new hn, List.getD_eq_getElem?_getD, List.getElem?_replicate]
  split <;> rfl
theorem Reach.add {n h x : Nat} (hn : n ∉ m.houses) (r : m.Reach h x) (hh : h ∈ m.houses) : (m.add n).Reach h x := by
  induction r with
  | self => exact .self
  | step r1 hy e ih => exact .step ih (by rw [tab_add hn (r1.house hh)]; exact hy) (add_aw e)
theorem Calm.add {n : Nat} (c : m.Calm) (hn : n ∉ m.houses) : (m.add n).Cov fun a b => a ∈ m.houses ∧ b ∈ m.houses := by
  refine ⟨c.hush, fun a ha j x hx => ?_, fun a ha j hl y ⟨hy1, hy2⟩ hne hs => ?_⟩
  · rw [add_houses] at ha ⊢
    rcases List.mem_append.mp ha with z | z
    · rw [row_add hn z] at hx
      exact List.mem_append.mpr (.inl (c.kept a z j x hx))
    · rw [List.mem_singleton.mp z, row_add_new hn] at hx; cases hx
  · rw [row_add hn hy1] at hl ⊢
    exact c.full a hy1 j hl y hy2 hne hs
theorem Calm.others (k : m.Ok N) (c : m.Calm) {n d : Nat} (hn : n ∉ m.houses) (hd : d ∈ m.houses) : (m.add n).others n d = sortU m.houses := by
  refine rising_eq (comeTo_sorted.filter _) (sortU_sorted _) fun x => ?_
  unfold TM.others
  rw [List.mem_filter, mem_comeTo, mem_sortU, add_houses]
  constructor
  · rintro ⟨⟨h1, _⟩, h2⟩
    have h2 : x ≠ n := by simpa using h2
    rcases List.mem_append.mp h1 with z | z
    · exact z
    · exact absurd (List.mem_singleton.mp z) h2
  · intro hx
    have hne : x ≠ n := fun z => hn (by rw [← z]; exact hx)
    exact ⟨⟨List.mem_append.mpr (.inl hx), (Calm.reach k c hx _ d rfl hd).add hn hd⟩, by simp [hne]⟩
theorem Calm.comes (k : m.Ok N) (c : m.Calm) {n : Nat} {d : Option Nat} (hn : n ∉ m.houses) (hnN : n ∈ N) (hd : ∀ x, d = some x → x ∈ m.houses) (h0 : d = none → m.houses = []) : (m.comes n d).Calm := by
  have ca := Calm.add c hn
  have ka := k.add hn hnN
  cases d with
  | none =>
    have e := h0 rfl
    show (m.add n).Cov fun _ y => y ∈ (m.add n).houses
    refine ca.mono fun a ha b hne hb => ?_
    rw [add_houses, e] at ha hb
    exact absurd ((List.mem_singleton.mp hb).trans (List.mem_singleton.mp ha).symm) hne
  | some d =>
    have hd' := hd d rfl
    show ((m.add n).visit n d).Calm
    unfold TM.visit
    rw [Calm.others k c hn hd']
    have hnm : n ∈ (m.add n).houses := by rw [add_houses]; simp
    have q := Cov.fold (l := sortU m.houses) ka ca hnm fun o ho => by rw [add_houses]; exact List.mem_append.mpr (.inl (mem_sortU.mp ho))
    refine q.mono fun a ha b hne hb => ?_
    rw [fold_houses, add_houses] at ha hb
    rcases List.mem_append.mp ha with za | za <;> rcases List.mem_append.mp hb with zb | zb
    · exact .inl ⟨za, zb⟩
    · exact .inr (.inr ⟨List.mem_singleton.mp zb, mem_sortU.mpr za⟩)
    · exact .inr (.inl ⟨List.mem_singleton.mp za, mem_sortU.mpr zb⟩)
    · exact absurd ((List.mem_singleton.mp zb).trans (List.mem_singleton.mp za).symm) hne
/-- all names that a resting town keeps are houses -/
theorem Calm.ok (k : m.Ok N) (c : m.Cov S) : m.Ok m.houses :=
  ⟨k.w0, k.w1, k.r0, k.r1, fun x hx => k.nb x (k.hN x hx), k.houses_len, fun _ h => h, k.nd, k.hnd, k.hh, fun h xss hm => by
    have t := k.at_ h xss hm
    have hh : h ∈ m.houses := List.mem_map.mpr ⟨_, hm, rfl⟩
    refine ⟨t.len, fun j xs e => ?_⟩
    obtain ⟨a1, a2, a3⟩ := t.at_ j xs e
    refine ⟨a1, a2, fun x hx => ⟨(a3 x hx).1, (a3 x hx).2.1, c.kept h hh j x ?_⟩⟩
    unfold TM.row
    rw [tab_mem k.nd hm, List.getD_eq_getElem?_getD, e]
    exact hx⟩
theorem Calm.live (c : m.Cov S) : m.live = sortU m.houses := List.filter_eq_self.mpr fun x hx => c.aw (mem_sortU.mp hx)
theorem Calm.faulty (k : m.Ok N) (c : m.Calm) {h j : Nat} (hh : h ∈ m.houses) : m.faulty (h, j) = false := by
  show faultB (m.row h j) m.live m.room h j = false
  have e1 : ((m.row h j).all fun n => decide (n ∈ m.live)) = true := List.all_eq_true.mpr fun x hx => decide_eq_true (mem_live.mpr (c.aw (c.kept h hh j x hx)))
  unfold faultB
  rw [e1]
  by_cases hl : (m.row h j).length < m.room
  · have q : (ofSpanN m.live h j).length ≤ (m.row h j).length := nodup_len (live_nodup.filter _) fun y hy => by
      obtain ⟨h1, h2⟩ := List.mem_filter.mp hy
      have h2 := of_decide_eq_true h2
      obtain ⟨g1, g2⟩ := span_step.mp h2
      exact c.full h hh j hl y (live_house h1) (fun z => g1 z.symm) g2
    simp; omega
  · simp [hl]
theorem Calm.fault (k : m.Ok N) (c : m.Calm) : m.faultN = none := pairs_none fun _ hh _ _ => Calm.faulty k c (live_house hh)
theorem hole_fault {N : List Nat} (k : m.Ok N) {x : Nat × Nat} (h : m.hole x = true) : m.faulty x = true := by
  have h : (!((m.row x.1 x.2).any fun n => decide (n ∈ m.live)) && !decide (ofSpanN m.live x.1 x.2 = [])) = true := h
  show faultB (m.row x.1 x.2) m.live m.room x.1 x.2 = true
  rw [Bool.and_eq_true] at h
  obtain ⟨h1, h2⟩ := h
  have h1 : ((m.row x.1 x.2).any fun n => decide (n ∈ m.live)) = false := by simpa using h1
  have h2 : ofSpanN m.live x.1 x.2 ≠ [] := by simpa using h2
  unfold faultB
  cases e : m.row x.1 x.2 with
  | nil =>
    have r := k.r0
    have p := List.length_pos_iff.mpr h2
    simp [r, p]
  | cons y l =>
    rw [e, List.any_cons] at h1
    have h3 : decide (y ∈ m.live) = false := by
      rw [Bool.or_eq_false_iff] at h1; exact h1.1
    rw [List.all_cons, h3]; rfl
theorem Calm.holes (k : m.Ok N) (c : m.Calm) : m.holesN = [] := List.filter_eq_nil_iff.mpr fun x hx z => by
  obtain ⟨h, hh, hx⟩ := List.mem_flatMap.mp hx
  obtain ⟨j, _, rfl⟩ := List.mem_map.mp hx
  have q := hole_fault k z
  rw [Calm.faulty k c (live_house hh)] at q
  cases q
theorem Cov.foldL {start : Nat} : ∀ {l : List (Nat × Option (List Nat))} {m : TM} {S : Nat → Nat → Prop}, m.Ok N → m.Cov S → start ∈ m.houses → (∀ x ∈ l, x.1 ∈ m.houses ∧ x.2 ≠ none) → (l.foldl (TM.learn1 start) m).Cov S
  | [], _, _, _, c, _, _ => c
  | x :: r, m, S, k, c, hs, hl => by
    rw [List.foldl_cons]
    obtain ⟨hx1, hx2⟩ := hl x (List.mem_cons_self ..)
    have e : TM.learn1 start m x = (m.hears start x.1).hears x.1 start := by
      unfold TM.learn1
      cases e : x.2 with
      | none => exact absurd e hx2
      | some _ => rfl
    have c1 := c.hears k hs hx1
    have c2 := c1.hears (k.hears (h := start) (k.hN _ hx1)) (h := x.1) (n := start) (by rw [hears_houses]; exact hx1) (by rw [hears_houses]; exact hs)
    rw [← e] at c2
    exact Cov.foldL (l := r) (k.learn1 (k.hN _ hs) (k.hN _ hx1)) (c2.mono fun a _ b _ h => .inl (.inl h)) (by rw [learn1_houses]; exact hs) fun y hy => by rw [learn1_houses]; exact hl y (List.mem_cons_of_mem _ hy)
theorem Calm.learn (k : m.Ok N) (c : m.Calm) {s g : Nat} (hs : s ∈ m.houses) : (m.learn s g).Calm := by
  have k' := Calm.ok k c
  have q := Cov.foldL (start := s) (l := (m.askSt s g).row.tail) k c hs fun x hx => by
    obtain ⟨h1, h2⟩ := TM.ask_mem k' (c.aw hs) (List.mem_of_mem_tail hx)
    exact ⟨h1, by rw [h2]; exact tells_ne (c.aw h1)⟩
  show (m.learn s g).Cov fun _ y => y ∈ (m.learn s g).houses
  rw [learn_houses]
  exact q
end TM
end Nn
/-! a town goes on (pieces of M_tide, M_look) -/
namespace Nn
theorem hear_keep {room n z : Nat} {xs : List Nat} {live : Nat → Bool} (h0 : 0 < room) (hz : z ∈ xs) (hl : live z = true) : z ∈ hearL room xs n (live (xs.headD 0)) := by
  unfold hearL
  by_cases hn : n ∈ xs
  · rw [if_pos hn]
    by_cases e : z = n
    · rw [e]; simp
    · exact List.mem_append.mpr (.inl ((List.mem_erase_of_ne e).mpr hz))
  · rw [if_neg hn]
    by_cases hr : xs.length < room
    · rw [if_pos hr]; exact List.mem_append.mpr (.inl hz)
    · rw [if_neg hr]
      cases xs with
      | nil => cases hz
      | cons x r =>
        by_cases e : z = x
        · rw [if_pos (by rw [← e]; exact hl)]
          rw [e]; simp
        · have hzr := (List.mem_cons.mp hz).resolve_left e
          split
          · exact List.mem_append.mpr (.inl hzr)
          · exact List.mem_append.mpr (.inl hzr)
namespace TM
variable {m m1 m2 : TM} {N : List Nat} {h n h0 x j : Nat}
theorem drops_houses : (m.drops h x).houses = m.houses := setTab_houses
theorem drops_aw : (m.drops h x).aw = m.aw := setTab_aw
theorem row_drops (k : m.Ok N) (hh : h ∈ m.houses) (hx : x ∈ N) {h' : Nat} : (m.drops h x).row h' j = if h' = h then (m.row h j).filter (fun y => !decide (y = x)) else m.row h' j := by
  show ((m.setTab h (tabD h (m.tab h) x)).tab h').getD j [] = _
  rw [setTab_tab]
  by_cases e : h' = h
  · subst e
    rw [if_pos ⟨rfl, hh⟩, if_pos rfl]
    obtain ⟨r1, _, r3⟩ := k.row (j := j) hh
    have keep : x ∉ m.row h' j → (m.row h' j).filter (fun y => !decide (y = x)) = m.row h' j := fun hn => List.filter_eq_self.mpr fun y hy => by
      simp only [Bool.not_eq_true', decide_eq_false_iff_not]
      exact fun z => hn (by rw [← z]; exact hy)
    unfold tabD
    by_cases e2 : x = h'
    · rw [if_pos e2, keep fun z => (r3 x z).1 e2]; rfl
    · rw [if_neg e2]
      by_cases e3 : stepN h' x = j
      · subst e3
        have hl : stepN h' x < (m.tab h').length := by
          rw [(k.tabOk hh).len]
          exact stepN_lt (k.nb _ (k.hN _ hh)) (k.nb _ hx) fun z => e2 z.symm
        rw [List.getD_eq_getElem?_getD, List.getElem?_set_self hl]
        show (m.row h' (stepN h' x)).erase x = _
        rw [r1.erase_eq_filter]
        refine List.filter_congr fun y _ => ?_
        by_cases q : y = x <;> simp [q]
      · rw [keep fun z => e3 (r3 x z).2.1, List.getD_eq_getElem?_getD, List.getElem?_set_ne e3, ← List.getD_eq_getElem?_getD]; rfl
  · rw [if_neg fun z => e z.1, if_neg e]; rfl
/-- the town goes on: answering names that are kept stay; silent houses' buckets stay -/
structure Grow (m m' : TM) : Prop where
  hs : m'.houses = m.houses
  aw : m'.aw = m.aw
  wd : m'.wide = m.wide
  rm : m'.room = m.room
  hu : m'.hush = m.hush
  keep : ∀ h j x, x ∈ m.row h j → m.aw x = true → x ∈ m'.row h j
  sil : ∀ h, m.aw h = false → ∀ j, m'.row h j = m.row h j
theorem Grow.refl : Grow m m := ⟨rfl, rfl, rfl, rfl, rfl, fun _ _ _ h _ => h, fun _ _ _ => rfl⟩
theorem Grow.trans (a : Grow m m1) (b : Grow m1 m2) : Grow m m2 :=
  ⟨b.hs.trans a.hs, b.aw.trans a.aw, b.wd.trans a.wd, b.rm.trans a.rm, b.hu.trans a.hu, fun h j x hx ha => b.keep h j x (a.keep h j x hx ha) (by rw [a.aw]; exact ha), fun h e j => (b.sil h (by rw [a.aw]; exact e) j).trans (a.sil h e j)⟩
theorem Grow.live (a : Grow m m1) : m1.live = m.live := by unfold TM.live; rw [a.hs, a.aw]
theorem Grow.hears (k : m.Ok N) (hh : m.aw h = true) (hn : n ∈ N) : Grow m (m.hears h n) := by
  have hm := aw_house hh
  refine ⟨hears_houses, hears_aw, rfl, rfl, rfl, fun h' j x hx ha => ?_, fun h' e j => ?_⟩
  · rw [row_hears k hm hn]
    split
    · rename_i q
      rw [q.1] at hx
      exact hear_keep k.r0 hx ha
    · exact hx
  · rw [row_hears k hm hn, if_neg]
    intro q
    rw [q.1, hh] at e; cases e
theorem Grow.meet (k : m.Ok N) (hh : m.aw h = true) (hn : m.aw n = true) : Grow m (TM.meet h m n) := by
  have g1 := Grow.hears k hh (k.hN _ (aw_house hn))
  exact g1.trans (Grow.hears (k.hears (k.hN _ (aw_house hn))) (by rw [g1.aw]; exact hn) (k.hN _ (aw_house hh)))
theorem Ok.meet' (k : m.Ok N) (hh : m.aw h = true) (hn : m.aw n = true) : (TM.meet h m n).Ok N := k.meet (k.hN _ (aw_house hh)) (k.hN _ (aw_house hn))
theorem Grow.fold : ∀ {l : List Nat} {m : TM}, m.Ok N → m.aw h = true → (∀ o ∈ l, m.aw o = true) → Grow m (l.foldl (TM.meet h) m)
  | [], _, _, _, _ => Grow.refl
  | o :: r, m, k, hh, hl => by
    have ho := hl o (List.mem_cons_self ..)
    have g := Grow.meet k hh ho
    rw [List.foldl_cons]
    exact g.trans (Grow.fold (k.meet' hh ho) (by rw [g.aw]; exact hh) fun x hx => by rw [g.aw]; exact hl x (List.mem_cons_of_mem _ hx))
theorem reach_aw (hh : m.aw h = true) {x : Nat} (r : m.Reach h x) : m.aw x = true := by
  cases r with
  | self => exact hh
  | step _ _ e => exact e
end TM
end Nn
/-! asks find the nearest; ways lead there -/
namespace Nn
/-- who keeps whom; who answers -/
structure Net (pl : List Nat) (K : Nat → List Nat) (live : Nat → Bool) (room : Nat) : Prop where
  sub : ∀ h ∈ pl, ∀ x ∈ K h, x ∈ pl ∧ x ≠ h
  hole : ∀ h ∈ pl, ∀ y ∈ pl, live y = true → y ≠ h → ∃ z ∈ K h, live z = true ∧ stepN h z = stepN h y
  few : ∀ l : List Nat, l.Nodup → (∀ x ∈ l, x ∈ pl) → l.length = room → ∃ w ∈ l, live w = true
  r0 : 0 < room
/-- each tells of what it keeps the room nearest but the asker -/
def tellK (pl : List Nat) (K : Nat → List Nat) (live : Nat → Bool) (room : Nat) : Tell := fun h g a => if h ∈ pl ∧ live h = true then some (((byN g (K h)).filter fun n => !decide (n = a)).take room) else none
theorem byN_filter {g : Nat} {l : List Nat} {p : Nat → Bool} : (byN g l).filter p = byN g (l.filter p) :=
  byN_uniq ((byN_sorted g l).filter _) fun z => by rw [List.mem_filter, mem_byN, List.mem_filter]
theorem sorted_take {g m z : Nat} {l : List Nat} (hs : l.Pairwise fun a b => g ^^^ a < g ^^^ b) (hz : z ∈ l) (hn : z ∉ l.take m) : (l.take m).length = m ∧ ∀ w ∈ l.take m, g ^^^ w < g ^^^ z := by
  have hd : z ∈ l.drop m := by
    rw [← List.take_append_drop m l] at hz
    exact (List.mem_append.mp hz).resolve_left hn
  have hl : m < l.length := by
    have := List.length_pos_of_mem hd
    rw [List.length_drop] at this; omega
  refine ⟨by rw [List.length_take]; omega, fun w hw => ?_⟩
  rw [← List.take_append_drop m l] at hs
  exact (List.pairwise_append.mp hs).2.2 w hw z hd
/-- a name with so many nearer ones is not among the nearest -/
theorem rank_out {g m x : Nat} {D l : List Nat} (hD : D.Nodup) (hm : D.length = m) (hd : ∀ o ∈ D, o ∈ l ∧ g ^^^ o < g ^^^ x) : x ∉ (byN g l).take m := fun hx => by
  obtain ⟨i, hi⟩ := List.getElem?_of_mem hx
  have him : i < m := by
    have := (List.getElem?_eq_some_iff.mp hi).1
    rw [List.length_take] at this; omega
  rw [List.getElem?_take_of_lt him] at hi
  have hs := byN_sorted g l
  have hsub : ∀ o ∈ D, o ∈ (byN g l).take i := fun o ho => by
    obtain ⟨h1, h2⟩ := hd o ho
    have hob := mem_byN (g := g).mpr h1
    refine Classical.byContradiction fun hn => ?_
    have hod : o ∈ (byN g l).drop i := by
      rw [← List.take_append_drop i (byN g l)] at hob
      exact (List.mem_append.mp hob).resolve_left hn
    obtain ⟨hil, hix⟩ := List.getElem?_eq_some_iff.mp hi
    rw [List.drop_eq_getElem_cons hil, hix] at hod
    rcases List.mem_cons.mp hod with e | e
    · rw [e] at h2; omega
    · rw [← List.take_append_drop i (byN g l), List.drop_eq_getElem_cons hil, hix] at hs
      have := (List.pairwise_cons.mp (List.pairwise_append.mp hs).2.1).1 o e
      omega
  have := nodup_len hD hsub
  rw [List.length_take] at this
  omega
theorem take_same {g : Nat} : ∀ (m : Nat) {a b : List Nat}, a.Pairwise (fun x y => g ^^^ x < g ^^^ y) → b.Pairwise (fun x y => g ^^^ x < g ^^^ y) → (∀ x ∈ a, x ∈ b) → (∀ x ∈ b.take m, x ∈ a) → a.take m = b.take m
  | 0, _, _, _, _, _, _ => rfl
  | m + 1, [], [], _, _, _, _ => rfl
  | m + 1, [], y :: b, _, _, _, h => by have := h y (by simp); cases this
  | m + 1, x :: a, [], _, _, h, _ => by have := h x (by simp); cases this
  | m + 1, x :: a, y :: b, ha, hb, h1, h2 => by
    have ha' := List.pairwise_cons.mp ha
    have hb' := List.pairwise_cons.mp hb
    have e : x = y := by
      have q1 := h1 x (by simp)
      have q2 := h2 y (by simp)
      rcases List.mem_cons.mp q1 with e | e
      · exact e
      · rcases List.mem_cons.mp q2 with e2 | e2
        · exact e2.symm
        · have := hb'.1 x e
          have := ha'.1 y e2
          omega
    subst e
    rw [List.take_succ_cons, List.take_succ_cons, take_same m ha'.2 hb'.2 (fun z hz => ?_) fun z hz => ?_]
    · rcases List.mem_cons.mp (h1 z (List.mem_cons_of_mem _ hz)) with e | e
      · have := ha'.1 z hz
        rw [e] at this; omega
      · exact e
    · rcases List.mem_cons.mp (h2 z (by rw [List.take_succ_cons]; exact List.mem_cons_of_mem _ hz)) with e | e
      · have := hb'.1 z (List.mem_of_mem_take hz)
        rw [e] at this; omega
      · exact e
/-- all outside a half are nearer than all of it, or none is -/
theorem aside2 {g o z x k : Nat} (hz : z / 2 ^ k = x / 2 ^ k) (ho : o / 2 ^ k ≠ x / 2 ^ k) : g ^^^ o < g ^^^ z ↔ g ^^^ o < g ^^^ x :=
  (aside hz ho).trans (aside rfl ho).symm
theorem half_ne {y x : Nat} (h : y ≠ x) : y / 2 ^ stepN y x ≠ x / 2 ^ stepN y x := fun e => by
  have q := (stepN_eq h).mp rfl
  rw [← e] at q
  exact xor_one_ne q.symm
theorem half_eq {y x z : Nat} (h : y ≠ x) (h2 : y ≠ z) (e : stepN y z = stepN y x) : z / 2 ^ stepN y x = x / 2 ^ stepN y x := by
  rw [(stepN_eq h2).mp e, (stepN_eq h).mp rfl]
/-- of one half: nearer to one another -/
theorem half_near {y x o : Nat} (h : y ≠ x) (e : o / 2 ^ stepN y x = x / 2 ^ stepN y x) : o ^^^ x < y ^^^ x := by
  have hp := Nat.two_pow_pos (stepN y x)
  have e3 : (o ^^^ x) / 2 ^ stepN y x = 0 := by rw [xor_div_pow, e, Nat.xor_self]
  have h2 : 2 ^ stepN y x ≤ y ^^^ x := Nat.log2_self_le (xor_ne_zero h)
  rcases Nat.div_eq_zero_iff.mp e3 with q | q <;> omega
theorem least_of {f : Nat → Nat} : ∀ {l : List Nat}, l ≠ [] → ∃ y ∈ l, ∀ h ∈ l, f y ≤ f h
  | [], h => absurd rfl h
  | [x], _ => ⟨x, by simp, fun h hh => by rw [List.mem_singleton.mp hh]; exact Nat.le_refl _⟩
  | x :: y :: r, _ => by
    obtain ⟨z, hz, hl⟩ := least_of (f := f) (l := y :: r) (List.cons_ne_nil _ _)
    by_cases e : f x ≤ f z
    · exact ⟨x, by simp, fun h hh => (List.mem_cons.mp hh).elim (fun q => by rw [q]; exact Nat.le_refl _) fun q => Nat.le_trans e (hl h q)⟩
    · exact ⟨z, List.mem_cons_of_mem _ hz, fun h hh => (List.mem_cons.mp hh).elim (fun q => by rw [q]; omega) fun q => hl h q⟩
section
variable {pl : List Nat} {K : Nat → List Nat} {live : Nat → Bool} {room start g : Nat}
abbrev tK (pl : List Nat) (K : Nat → List Nat) (live : Nat → Bool) (room g start : Nat) : Nat → Option (List Nat) := fun h => tellK pl K live room h g start
theorem tellK_mem (n : Net pl K live room) {h a : Nat} {l : List Nat} (e : tellK pl K live room h g a = some l) : ∀ x ∈ l, x ∈ pl := by
  unfold tellK at e
  split at e
  · rename_i q
    cases e
    intro x hx
    exact (n.sub h q.1 x (mem_byN.mp ((List.mem_filter.mp (List.mem_of_mem_take hx)).1))).1
  · cases e
/-- what an ask has seen at its end -/
structure Ended (pl : List Nat) (K : Nat → List Nat) (live : Nat → Bool) (room start g : Nat) (s : AskSt) : Prop where
  ok : s.Ok (tK pl K live room g start) start pl
  lf : s.left g room = []
  st : start ∈ pl
  lv : live start = true
theorem Ended.dnp {s : AskSt} (e : Ended pl K live room start g s) {h : Nat} (hh : h ∈ s.done) : h ∈ pl := (e.ok.dn h hh).elim (fun z => by rw [z]; exact e.st) id
theorem Ended.quiet {s : AskSt} (e : Ended pl K live room start g s) {h : Nat} : h ∈ s.quiet ↔ h ∈ s.done ∧ live h = false := by
  rw [e.ok.qd]
  refine and_congr_right fun hd => ?_
  show tellK pl K live room h g start = none ↔ _
  unfold tellK
  have hp := e.dnp hd
  cases hl : live h with
  | true => rw [if_pos ⟨hp, rfl⟩]; simp
  | false => rw [if_neg fun z => by cases z.2]; simp
theorem Ended.stand {s : AskSt} (e : Ended pl K live room start g s) {x : Nat} (hx : x ∈ standN g room s.seen s.quiet) : x ∈ s.seen ∧ x ∈ s.done ∧ live x = true := by
  have q := AskSt.mem_stand hx
  have hd : x ∈ s.done := Classical.byContradiction fun z => by
    have : x ∈ s.left g room := List.mem_filter.mpr ⟨hx, by simp [z]⟩
    rw [e.lf] at this; cases this
  refine ⟨q.1, hd, ?_⟩
  cases hl : live x with
  | true => rfl
  | false => exact absurd (e.quiet.mpr ⟨hd, hl⟩) q.2
/-- the heart of it: of a living name that was not met, so many living ones that were met are nearer, or at least one -/
theorem Ended.far {s : AskSt} (n : Net pl K live room) (e : Ended pl K live room start g s) {x : Nat} (hx : x ∈ pl) (hlx : live x = true) (hs : x ≠ start) (hn : x ∉ s.seen) :
    ((∀ h ∈ pl, live h = true) → ∃ D : List Nat, D.Nodup ∧ D.length = room ∧ ∀ o ∈ D, (o ∈ pl ∧ o ≠ start) ∧ g ^^^ o < g ^^^ x) ∧ ∃ o, o ∈ pl ∧ o ≠ start ∧ live o = true ∧ g ^^^ o < g ^^^ x := by
  have hxd : x ∉ s.done := fun z => (e.ok.sd x z).elim hs hn
  -- the answering one that was asked and is nearest to x
  have hne : s.done.filter live ≠ [] := fun z => by
    have : start ∈ s.done.filter live := List.mem_filter.mpr ⟨e.ok.st, e.lv⟩
    rw [z] at this; cases this
  obtain ⟨y, hy, hmin⟩ := least_of (f := fun h => h ^^^ x) hne
  obtain ⟨hyd, hyl⟩ := List.mem_filter.mp hy
  have hyp := e.dnp hyd
  have hyx : y ≠ x := fun z => hxd (by rw [← z]; exact hyd)
  obtain ⟨z, hzK, hzl, hzs⟩ := n.hole y hyp x hx hlx (fun w => hyx w.symm)
  obtain ⟨hzp, hzy⟩ := n.sub y hyp z hzK
  have hzh : z / 2 ^ stepN y x = x / 2 ^ stepN y x := half_eq hyx (fun w => hzy w.symm) hzs
  -- who answered is not of x' half
  have hout : ∀ o ∈ s.done, live o = true → o / 2 ^ stepN y x ≠ x / 2 ^ stepN y x := fun o ho hol q => by
    have h1 := half_near hyx q
    have h2 := hmin o (List.mem_filter.mpr ⟨ho, hol⟩)
    omega
  have hzst : z ≠ start := fun w => hout start e.ok.st e.lv (by rw [← w]; exact hzh)
  -- one of x' half that was seen and answers
  have met : ∀ w, w ∈ s.seen → live w = true → w / 2 ^ stepN y x = x / 2 ^ stepN y x → ((∀ h ∈ pl, live h = true) → ∃ D : List Nat, D.Nodup ∧ D.length = room ∧ ∀ o ∈ D, (o ∈ pl ∧ o ≠ start) ∧ g ^^^ o < g ^^^ x) ∧ ∃ o, o ∈ pl ∧ o ≠ start ∧ live o = true ∧ g ^^^ o < g ^^^ x := fun w hw hwl hwh => by
    have hwq : w ∉ s.quiet := fun q => by have := (e.quiet.mp q).2; rw [hwl] at this; cases this
    have hwd : w ∉ s.done := fun q => hout w q hwl hwh
    have hwb : w ∈ byN g (s.seen.filter fun x => !decide (x ∈ s.quiet)) := mem_byN.mpr (List.mem_filter.mpr ⟨hw, by simp [hwq]⟩)
    have hwL : w ∉ (byN g (s.seen.filter fun x => !decide (x ∈ s.quiet))).take room := fun q => hwd (e.stand q).2.1
    obtain ⟨t1, t2⟩ := sorted_take (byN_sorted g _) hwb hwL
    have all : ∀ o ∈ (byN g (s.seen.filter fun x => !decide (x ∈ s.quiet))).take room, ((o ∈ pl ∧ o ≠ start) ∧ g ^^^ o < g ^^^ x) ∧ live o = true := fun o ho => by
      obtain ⟨q1, q2, q3⟩ := e.stand ho
      exact ⟨⟨e.ok.sn o q1, (aside2 hwh (hout o q2 q3)).mp (t2 o ho)⟩, q3⟩
    refine ⟨fun _ => ⟨_, (byN_nodup g _).sublist (List.take_sublist _ _), t1, fun o ho => (all o ho).1⟩, ?_⟩
    obtain ⟨o, ho⟩ := List.exists_mem_of_length_pos (by rw [t1]; exact n.r0 : 0 < ((byN g (s.seen.filter fun x => !decide (x ∈ s.quiet))).take room).length)
    obtain ⟨⟨⟨q1, q2⟩, q3⟩, q4⟩ := all o ho
    exact ⟨o, q1, q2, q4, q3⟩
  have told : ∀ w ∈ ((byN g (K y)).filter fun n => !decide (n = start)).take room, w ∈ s.seen := fun w hw => by
    have hty : tK pl K live room g start y = some (((byN g (K y)).filter fun n => !decide (n = start)).take room) := by
      show tellK pl K live room y g start = _
      unfold tellK; rw [if_pos ⟨hyp, hyl⟩]
    refine (e.ok.tl y hyd _ hty w hw).resolve_left fun q => ?_
    have := (List.mem_filter.mp (List.mem_of_mem_take hw)).2
    simp [q] at this
  have hzM : z ∈ (byN g (K y)).filter fun n => !decide (n = start) := List.mem_filter.mpr ⟨mem_byN.mpr hzK, by simp [hzst]⟩
  by_cases hzt : z ∈ ((byN g (K y)).filter fun n => !decide (n = start)).take room
  · exact met z (told z hzt) hzl hzh
  · obtain ⟨t1, t2⟩ := sorted_take ((byN_sorted g (K y)).filter _) hzM hzt
    have tnd : (((byN g (K y)).filter fun n => !decide (n = start)).take room).Nodup := ((byN_nodup g (K y)).filter _).sublist (List.take_sublist _ _)
    have tp : ∀ w ∈ ((byN g (K y)).filter fun n => !decide (n = start)).take room, w ∈ pl ∧ w ≠ start := fun w hw => by
      obtain ⟨q1, q2⟩ := List.mem_filter.mp (List.mem_of_mem_take hw)
      exact ⟨(n.sub y hyp w (mem_byN.mp q1)).1, by simpa using q2⟩
    by_cases hh : ∃ w ∈ ((byN g (K y)).filter fun n => !decide (n = start)).take room, live w = true ∧ w / 2 ^ stepN y x = x / 2 ^ stepN y x
    · obtain ⟨w, hw, hwl, hwh⟩ := hh
      exact met w (told w hw) hwl hwh
    · obtain ⟨w, hw, hwl⟩ := n.few _ tnd (fun w hw => (tp w hw).1) t1
      have hwn : w / 2 ^ stepN y x ≠ x / 2 ^ stepN y x := fun q => hh ⟨w, hw, hwl, q⟩
      exact ⟨fun hall => ⟨_, tnd, t1, fun o ho => ⟨tp o ho, (aside2 hzh fun q => hh ⟨o, ho, hall o (tp o ho).1, q⟩).mp (t2 o ho)⟩⟩, w, (tp w hw).1, (tp w hw).2, hwl, (aside2 hzh hwn).mp (t2 w hw)⟩
/-- where all answer: so many that are nearest -/
theorem Ended.all {s : AskSt} (n : Net pl K live room) (e : Ended pl K live room start g s) (hall : ∀ h ∈ pl, live h = true) : standN g room s.seen s.quiet = (byN g (pl.filter fun x => !decide (x = start))).take room := by
  have hq : s.quiet = [] := List.eq_nil_iff_forall_not_mem.mpr fun x hx => by
    obtain ⟨q1, q2⟩ := e.quiet.mp hx
    rw [hall x (e.dnp q1)] at q2; cases q2
  unfold standN
  rw [hq]
  have ef : (s.seen.filter fun x => !decide (x ∈ ([] : List Nat))) = s.seen := List.filter_eq_self.mpr fun x _ => by simp
  rw [ef]
  refine take_same room (byN_sorted g _) (byN_sorted g _) (fun x hx => ?_) fun x hx => ?_
  · obtain ⟨q1, q2⟩ := e.ok.sn x (mem_byN.mp hx)
    exact mem_byN.mpr (List.mem_filter.mpr ⟨q1, by simp [q2]⟩)
  · obtain ⟨q1, q2⟩ := List.mem_filter.mp (mem_byN.mp (List.mem_of_mem_take hx))
    have q2 : x ≠ start := by simpa using q2
    refine mem_byN.mpr (Classical.byContradiction fun hn => ?_)
    obtain ⟨D, d1, d2, d3⟩ := (e.far n q1 (hall x q1) q2 hn).1 hall
    refine rank_out (g := g) (x := x) (l := pl.filter fun x => !decide (x = start)) d1 d2 (fun o ho => ?_) hx
    obtain ⟨⟨g1, g2⟩, g3⟩ := d3 o ho
    exact ⟨List.mem_filter.mpr ⟨g1, by simp [g2]⟩, g3⟩
/-- the nearest of all others that answer is found first -/
theorem Ended.first {s : AskSt} (n : Net pl K live room) (e : Ended pl K live room start g s) : (standN g room s.seen s.quiet).head? = (byN g (pl.filter fun x => live x && !decide (x = start))).head? := by
  have sub : ∀ x ∈ standN g room s.seen s.quiet, x ∈ pl.filter fun x => live x && !decide (x = start) := fun x hx => by
    obtain ⟨q1, q2, q3⟩ := e.stand hx
    obtain ⟨q4, q5⟩ := e.ok.sn x q1
    exact List.mem_filter.mpr ⟨q4, by simp [q3, q5]⟩
  cases eb : byN g (pl.filter fun x => live x && !decide (x = start)) with
  | nil =>
    cases es : standN g room s.seen s.quiet with
    | nil => rfl
    | cons x r =>
      have := mem_byN (g := g).mpr (sub x (by rw [es]; simp))
      rw [eb] at this; cases this
  | cons x r =>
    have hxm : x ∈ pl.filter fun x => live x && !decide (x = start) := mem_byN (g := g).mp (by rw [eb]; simp)
    obtain ⟨hxp, hx2⟩ := List.mem_filter.mp hxm
    rw [Bool.and_eq_true] at hx2
    obtain ⟨hxl, hxs⟩ := hx2
    have hxs : x ≠ start := by simpa using hxs
    have hmin : ∀ o, o ∈ pl → o ≠ start → live o = true → g ^^^ x ≤ g ^^^ o := fun o h1 h2 h3 => by
      have ho : o ∈ byN g (pl.filter fun x => live x && !decide (x = start)) := mem_byN.mpr (List.mem_filter.mpr ⟨h1, by simp [h2, h3]⟩)
      have hs := byN_sorted g (pl.filter fun x => live x && !decide (x = start))
      rw [eb] at ho hs
      rcases List.mem_cons.mp ho with q | q
      · rw [q]; exact Nat.le_refl _
      · exact Nat.le_of_lt ((List.pairwise_cons.mp hs).1 o q)
    have hxseen : x ∈ s.seen := Classical.byContradiction fun hn => by
      obtain ⟨o, o1, o2, o3, o4⟩ := (e.far n hxp hxl hxs hn).2
      have := hmin o o1 o2 o3
      omega
    have hxq : x ∉ s.quiet := fun q => by have := (e.quiet.mp q).2; rw [hxl] at this; cases this
    have hxb : x ∈ byN g (s.seen.filter fun x => !decide (x ∈ s.quiet)) := mem_byN.mpr (List.mem_filter.mpr ⟨hxseen, by simp [hxq]⟩)
    cases ea : byN g (s.seen.filter fun x => !decide (x ∈ s.quiet)) with
    | nil => rw [ea] at hxb; cases hxb
    | cons y r' =>
      have hr := n.r0
      obtain ⟨m, rfl⟩ : ∃ m, room = m + 1 := ⟨room - 1, by omega⟩
      have hst : standN g (m + 1) s.seen s.quiet = y :: r'.take m := by unfold standN; rw [ea]; rfl
      rw [hst]
      have hy := sub y (by rw [hst]; simp)
      obtain ⟨y1, y2⟩ := List.mem_filter.mp hy
      rw [Bool.and_eq_true] at y2
      have q1 := hmin y y1 (by simpa using y2.2) y2.1
      have hs := byN_sorted g (s.seen.filter fun x => !decide (x ∈ s.quiet))
      rw [ea] at hxb hs
      have exy : y = x := by
        rcases List.mem_cons.mp hxb with q | q
        · exact q.symm
        · have := (List.pairwise_cons.mp hs).1 x q
          omega
      rw [exy]; rfl
/-- the next house of a way -/
theorem way_next (n : Net pl K live room) {x n0 : Nat} (hx : x ∈ pl) (hxl : live x = true) (h0 : n0 ∈ pl) (hl0 : live n0 = true) (hmin : ∀ o ∈ pl, live o = true → g ^^^ n0 ≤ g ^^^ o) (hne : x ≠ n0) :
    ∃ y, onwN (tellK pl K live room) x g = some y ∧ y ∈ pl ∧ live y = true ∧ g ^^^ y < g ^^^ x ∧ (y = n0 ∨ stepN y n0 < stepN x n0) := by
  obtain ⟨z, hzK, hzl, hzs⟩ := n.hole x hx n0 h0 hl0 (fun w => hne w.symm)
  obtain ⟨hzp, hzx⟩ := n.sub x hx z hzK
  have hzh : z / 2 ^ stepN x n0 = n0 / 2 ^ stepN x n0 := half_eq hne (fun w => hzx w.symm) hzs
  have hxh := half_ne hne
  have h1 : g ^^^ n0 < g ^^^ x := by
    have q := hmin x hx hxl
    have : g ^^^ n0 ≠ g ^^^ x := fun e => hne (xor_inj e).symm
    omega
  have hzlt : g ^^^ z < g ^^^ x := by
    have q : ¬ g ^^^ x < g ^^^ z := fun q => by
      have := (aside2 hzh hxh).mp q
      omega
    have : g ^^^ z ≠ g ^^^ x := fun e => hzx (xor_inj e)
    omega
  have eL : tellK pl K live room x g x = some (((byN g (K x)).filter fun n => !decide (n = x)).take room) := by unfold tellK; rw [if_pos ⟨hx, hxl⟩]
  have tp : ∀ w ∈ ((byN g (K x)).filter fun n => !decide (n = x)).take room, w ∈ pl ∧ w ≠ x := fun w hw => by
    obtain ⟨q1, q2⟩ := List.mem_filter.mp (List.mem_of_mem_take hw)
    exact ⟨(n.sub x hx w (mem_byN.mp q1)).1, by simpa using q2⟩
  have hzM : z ∈ (byN g (K x)).filter fun n => !decide (n = x) := List.mem_filter.mpr ⟨mem_byN.mpr hzK, by simp [hzx]⟩
  have tnd : (((byN g (K x)).filter fun n => !decide (n = x)).take room).Nodup := ((byN_nodup g (K x)).filter _).sublist (List.take_sublist _ _)
  obtain ⟨w, hw, hwl, hwz⟩ : ∃ w ∈ ((byN g (K x)).filter fun n => !decide (n = x)).take room, live w = true ∧ g ^^^ w ≤ g ^^^ z := by
    by_cases hzt : z ∈ ((byN g (K x)).filter fun n => !decide (n = x)).take room
    · exact ⟨z, hzt, hzl, Nat.le_refl _⟩
    · obtain ⟨t1, t2⟩ := sorted_take ((byN_sorted g (K x)).filter _) hzM hzt
      obtain ⟨w, hw, hwl⟩ := n.few _ tnd (fun w hw => (tp w hw).1) t1
      exact ⟨w, hw, hwl, Nat.le_of_lt (t2 w hw)⟩
  generalize hL : ((byN g (K x)).filter fun n => !decide (n = x)).take room = L at eL tp tnd hw
  have eo : onwN (tellK pl K live room) x g = (byN g L).find? fun n => (tellK pl K live room n g x).isSome := by unfold onwN; rw [eL]; rfl
  have hsome : ∀ o ∈ pl, (tellK pl K live room o g x).isSome = live o := fun o ho => by
    unfold tellK
    cases e : live o with
    | true => rw [if_pos ⟨ho, rfl⟩]; rfl
    | false => rw [if_neg fun z => by cases z.2]; rfl
  cases ef : (byN g L).find? fun n => (tellK pl K live room n g x).isSome with
  | none =>
    have q := List.find?_eq_none.mp ef w (mem_byN.mpr hw)
    rw [hsome w (tp w hw).1, hwl] at q
    exact absurd rfl q
  | some y =>
    have hym := mem_byN.mp (List.mem_of_find?_eq_some ef)
    have hyl := List.find?_some ef
    rw [hsome y (tp y hym).1] at hyl
    -- none that answers is ahead of it
    have hyw : g ^^^ y ≤ g ^^^ w := by
      obtain ⟨i, hi, hia, hib⟩ := List.find?_eq_some_iff_getElem.mp ef |>.2
      have hs := byN_sorted g L
      have hwb := mem_byN (g := g).mpr hw
      obtain ⟨j, hj⟩ := List.getElem?_of_mem hwb
      obtain ⟨hjl, hjw⟩ := List.getElem?_eq_some_iff.mp hj
      rcases Nat.lt_trichotomy j i with q | q | q
      · have := hib j q
        rw [hjw, hsome w (tp w hw).1, hwl] at this
        cases this
      · subst q; rw [← hia, hjw]; exact Nat.le_refl _
      · have := List.pairwise_iff_getElem.mp hs i j hi hjl q
        rw [hia, hjw] at this
        exact Nat.le_of_lt this
    refine ⟨y, by rw [eo, ef], (tp y hym).1, hyl, by omega, ?_⟩
    by_cases e : y = n0
    · exact .inl e
    · right
      have hyh : y / 2 ^ stepN x n0 = n0 / 2 ^ stepN x n0 := Classical.byContradiction fun q => by
        have hyz : y ≠ z := fun w => q (by rw [w]; exact hzh)
        have h2 : g ^^^ y < g ^^^ z := by
          have : g ^^^ y ≠ g ^^^ z := fun e => hyz (xor_inj e)
          omega
        have h3 := (aside2 hzh q).mp h2
        have := hmin y (tp y hym).1 hyl
        omega
      have e3 : (y ^^^ n0) / 2 ^ stepN x n0 = 0 := by rw [xor_div_pow, hyh, Nat.xor_self]
      have hp := Nat.two_pow_pos (stepN x n0)
      have h4 : y ^^^ n0 < 2 ^ stepN x n0 := by
        rcases Nat.div_eq_zero_iff.mp e3 with q | q
        · omega
        · exact q
      exact (Nat.log2_lt (xor_ne_zero e)).mpr h4
theorem way_end (n : Net pl K live room) {n0 : Nat} (h0 : n0 ∈ pl) (hl0 : live n0 = true) (hmin : ∀ o ∈ pl, live o = true → g ^^^ n0 ≤ g ^^^ o) : wayN (tellK pl K live room) g n0 = [n0] := by
  cases e : onwN (tellK pl K live room) n0 g with
  | none => exact wayN_none e
  | some y =>
    obtain ⟨⟨l, h1, h2⟩, h3⟩ := onwN_mem e
    have hyp := tellK_mem n h1 y h2
    have hyl : live y = true := by
      unfold tellK at h3
      split at h3
      · rename_i q; exact q.2
      · cases h3
    exact wayN_far e (by have := hmin y hyp hyl; omega)
/-- a way leads to the nearest that answers, in few steps -/
theorem way_leads (n : Net pl K live room) {n0 : Nat} (h0 : n0 ∈ pl) (hl0 : live n0 = true) (hmin : ∀ o ∈ pl, live o = true → g ^^^ n0 ≤ g ^^^ o) : ∀ (s x : Nat), stepN x n0 < s → x ∈ pl → live x = true → x ≠ n0 →
    (∃ r, wayN (tellK pl K live room) g x = x :: r) ∧ (wayN (tellK pl K live room) g x).getLast? = some n0 ∧ (wayN (tellK pl K live room) g x).length ≤ stepN x n0 + 2 ∧ (wayN (tellK pl K live room) g x).Pairwise (fun a b => g ^^^ b < g ^^^ a) ∧ (∀ y ∈ wayN (tellK pl K live room) g x, y ∈ pl ∧ live y = true ∧ g ^^^ y ≤ g ^^^ x)
  | 0, _, h, _, _, _ => absurd h (Nat.not_lt_zero _)
  | s + 1, x, h, hx, hxl, hne => by
    obtain ⟨y, e, hy, hyl, hlt, hor⟩ := way_next n hx hxl h0 hl0 hmin hne
    rw [wayN_on e hlt]
    have hw0 := way_end n h0 hl0 hmin
    by_cases hy0 : y = n0
    · rw [hy0, hw0]
      rw [hy0] at hlt hy hyl
      refine ⟨⟨_, rfl⟩, rfl, by simp, by simp [hlt], fun z hz => ?_⟩
      simp at hz
      rcases hz with q | q
      · rw [q]; exact ⟨hx, hxl, Nat.le_refl _⟩
      · rw [q]; exact ⟨hy, hyl, Nat.le_of_lt hlt⟩
    · have hst := hor.resolve_left hy0
      obtain ⟨⟨r, er⟩, i2, i3, i4, i5⟩ := way_leads n h0 hl0 hmin s y (by omega) hy hyl hy0
      refine ⟨⟨_, rfl⟩, ?_, by rw [List.length_cons]; omega, List.pairwise_cons.mpr ⟨fun z hz => by have := (i5 z hz).2.2; omega, i4⟩, fun z hz => ?_⟩
      · rw [er, List.getLast?_cons_cons, ← er]; exact i2
      · rcases List.mem_cons.mp hz with q | q
        · rw [q]; exact ⟨hx, hxl, Nat.le_refl _⟩
        · obtain ⟨q1, q2, q3⟩ := i5 z q
          exact ⟨q1, q2, by omega⟩
/-- the same of any start -/
theorem way_all (n : Net pl K live room) {n0 x : Nat} (h0 : n0 ∈ pl) (hl0 : live n0 = true) (hmin : ∀ o ∈ pl, live o = true → g ^^^ n0 ≤ g ^^^ o) (hx : x ∈ pl) (hxl : live x = true) :
    (∃ r, wayN (tellK pl K live room) g x = x :: r) ∧ (wayN (tellK pl K live room) g x).getLast? = some n0 ∧ (∀ wd, (∀ y ∈ pl, y < 2 ^ wd) → (wayN (tellK pl K live room) g x).length ≤ wd + 1) ∧ (wayN (tellK pl K live room) g x).Pairwise (fun a b => g ^^^ b < g ^^^ a) ∧ (∀ y ∈ wayN (tellK pl K live room) g x, y ∈ pl ∧ live y = true) := by
  by_cases e : x = n0
  · subst e
    rw [way_end n h0 hl0 hmin]
    exact ⟨⟨_, rfl⟩, rfl, fun wd _ => by simp, by simp, fun y hy => by rw [List.mem_singleton.mp hy]; exact ⟨hx, hxl⟩⟩
  · obtain ⟨a, b, c, d, f⟩ := way_leads n h0 hl0 hmin _ x (Nat.lt_succ_self _) hx hxl e
    exact ⟨a, b, fun wd hb => by have := stepN_lt (hb x hx) (hb n0 h0) e; omega, d, fun y hy => ⟨(f y hy).1, (f y hy).2.1⟩⟩
end
end Nn
/-! asks in towns at rest, and what is laid and sought there -/
namespace Nn
open PySem L2
namespace TM
variable {m : TM} {N : List Nat}
theorem Calm.net (k : m.Ok N) (c : m.Calm) : Net m.houses m.keeps (fun _ => true) m.room := by
  refine ⟨fun h hh x hx => ?_, fun h hh y hy _ hne => ?_, fun l _ _ hl => ?_, k.r0⟩
  · obtain ⟨j, hj⟩ := tab_row (mem_keeps.mp hx)
    exact ⟨c.kept h hh j x hj, ((k.row hh).2.2 x hj).1⟩
  · by_cases hl : (m.row h (stepN h y)).length < m.room
    · have q := c.full h hh _ hl y hy hne rfl
      exact ⟨y, mem_keeps.mpr (row_tab q), rfl, rfl⟩
    · have hr := k.r0
      obtain ⟨z, hz⟩ := List.exists_mem_of_length_pos (by omega : 0 < (m.row h (stepN h y)).length)
      exact ⟨z, mem_keeps.mpr (row_tab hz), rfl, ((k.row hh).2.2 z hz).2.1⟩
  · obtain ⟨w, hw⟩ := List.exists_mem_of_length_pos (by rw [hl]; exact k.r0 : 0 < l.length)
    exact ⟨w, hw, rfl⟩
theorem Calm.tells (c : m.Calm) : m.tells = tellK m.houses m.keeps (fun _ => true) m.room := by
  funext h g a
  unfold TM.tells tellK
  by_cases hh : h ∈ m.houses
  · rw [if_pos (c.aw hh), if_pos ⟨hh, rfl⟩]
    unfold nearN
    rw [byN_filter]
    congr 4
    funext n
    congr 1
    exact decide_eq_decide.mpr ⟨fun e => Option.some.inj e, fun e => by rw [e]⟩
  · have e : m.aw h ≠ true := fun e => hh (aw_house e)
    rw [if_neg e, if_neg fun z => hh z.1]
theorem Calm.found (k : m.Ok N) (c : m.Calm) {s g : Nat} (hs : s ∈ m.houses) : m.askFd s g = (byN g (m.houses.filter fun x => !decide (x = s))).take m.room := by
  have kh := Calm.ok k c
  have ok := TM.askSt_ok kh (g := g) (c.aw hs)
  have hl : (m.askSt s g).left g m.room = [] := askEnd_left (TM.tells_ne (c.aw hs)) (fun _ _ e => TM.tells_some kh e) k.houses_len
  have e : (fun h => m.tells h g s) = tK m.houses m.keeps (fun _ => true) m.room g s := by
    funext h; rw [Calm.tells c]
  rw [e] at ok
  exact Ended.all (Calm.net k c) ⟨ok, hl, hs, rfl⟩ fun _ _ => rfl
/-- the nearest of all houses -/
theorem least_house (hne : m.houses ≠ []) (g : Nat) : ∃ n0 r, byN g m.houses = n0 :: r ∧ n0 ∈ m.houses ∧ ∀ o ∈ m.houses, (fun _ => true) o = true → g ^^^ n0 ≤ g ^^^ o := by
  cases e : byN g m.houses with
  | nil =>
    obtain ⟨x, hx⟩ := List.exists_mem_of_ne_nil _ hne
    have := mem_byN (g := g).mpr hx
    rw [e] at this; cases this
  | cons n0 r =>
    refine ⟨n0, r, rfl, mem_byN (g := g).mp (by rw [e]; simp), fun o ho _ => ?_⟩
    have h1 := mem_byN (g := g).mpr ho
    have hs := byN_sorted g m.houses
    rw [e] at h1 hs
    rcases List.mem_cons.mp h1 with q | q
    · rw [q]; exact Nat.le_refl _
    · exact Nat.le_of_lt ((List.pairwise_cons.mp hs).1 o q)
end TM
/-- who answers an ask, and the nearest of all -/
theorem least_first {hs : List Nat} (hne : hs ≠ []) (g : Nat) : ∃ n0 ∈ hs, ∀ o ∈ hs, g ^^^ n0 ≤ g ^^^ o := least_of (f := fun h => g ^^^ h) hne
theorem near_in {g r n0 : Nat} {hs : List Nat} (hr : 0 < r) (h0 : n0 ∈ hs) (hmin : ∀ o ∈ hs, g ^^^ n0 ≤ g ^^^ o) : n0 ∈ (byN g hs).take r := by
  refine Classical.byContradiction fun z => ?_
  obtain ⟨hl, hn⟩ := sorted_take (byN_sorted g hs) (mem_byN.mpr h0) z
  obtain ⟨w, hw⟩ := List.exists_mem_of_length_pos (by rw [hl]; exact hr : 0 < ((byN g hs).take r).length)
  have h1 := hn w hw
  have h2 := hmin w (mem_byN.mp (List.mem_of_mem_take hw))
  omega
theorem near_join {g r s : Nat} {hs : List Nat} (hsm : s ∈ hs) : (byN g ((byN g (hs.filter fun x => !decide (x = s))).take r ++ [s])).take r = (byN g hs).take r := by
  refine take_same r (byN_sorted g _) (byN_sorted g _) (fun x hx => ?_) fun x hx => ?_
  · rcases List.mem_append.mp (mem_byN.mp hx) with y | y
    · exact mem_byN.mpr (List.mem_filter.mp (mem_byN.mp (List.mem_of_mem_take y))).1
    · rw [List.mem_singleton.mp y]; exact mem_byN.mpr hsm
  · by_cases e : x = s
    · rw [e]; exact mem_byN.mpr (List.mem_append.mpr (.inr (by simp)))
    · refine mem_byN.mpr (List.mem_append.mpr (.inl ?_))
      have hxm := mem_byN.mp (List.mem_of_mem_take hx)
      have hxf : x ∈ byN g (hs.filter fun x => !decide (x = s)) := mem_byN.mpr (List.mem_filter.mpr ⟨hxm, by simp [e]⟩)
      refine Classical.byContradiction fun z => ?_
      obtain ⟨hl, hn⟩ := sorted_take (byN_sorted g _) hxf z
      refine rank_out (g := g) (m := r) (x := x) (D := (byN g (hs.filter fun x => !decide (x = s))).take r) (l := hs) ((byN_nodup _ _).sublist (List.take_sublist _ _)) hl (fun o ho => ⟨(List.mem_filter.mp (mem_byN.mp (List.mem_of_mem_take ho))).1, hn o ho⟩) hx
namespace TM
variable {m : TM} {N : List Nat}
theorem Calm.layTo (k : m.Ok N) (c : m.Calm) {s g : Nat} (hs : s ∈ m.houses) : m.layTo s g = (byN g m.houses).take m.room := by
  unfold TM.layTo
  rw [Calm.found k c hs]
  exact near_join hs
theorem met_of {s g x : Nat} (k : m.Ok N) (hN : N.length < 64) (haw : m.aw s = true) (hx : x = s ∨ x ∈ m.askFd s g) : x ∈ m.met s g := by
  have ok := TM.askSt_ok k (g := g) haw
  have hd : x ∈ (m.askSt s g).done ∧ m.aw x = true := by
    rcases hx with e | hx
    · rw [e]; exact ⟨ok.st, haw⟩
    · have le : (m.askSt s g).left g m.room = [] := askEnd_left (TM.tells_ne haw) (fun h l e => TM.tells_some k e) hN
      have hx2 : x ∈ standN g m.room (m.askSt s g).seen (m.askSt s g).quiet := hx
      refine ⟨Classical.byContradiction fun z => ?_, TM.askFd_aw k hN haw hx⟩
      have q : x ∈ (m.askSt s g).left g m.room := List.mem_filter.mpr ⟨hx2, by simp [z]⟩
      rw [le] at q; cases q
  obtain ⟨e, he, ee⟩ := List.mem_map.mp (show x ∈ (m.askSt s g).row.map (·.1) from hd.1)
  refine List.mem_map.mpr ⟨e, List.mem_filter.mpr ⟨he, ?_⟩, ee⟩
  rw [ok.rt e he, ee]
  show (m.tells x g s).isSome = true
  rw [TM.tells_isSome]; exact hd.2
theorem Calm.meets (k : m.Ok N) (c : m.Calm) {s g n0 : Nat} (hs : s ∈ m.houses) (h0 : n0 ∈ m.houses) (hmin : ∀ o ∈ m.houses, g ^^^ n0 ≤ g ^^^ o) : n0 ∈ m.met s g := by
  have kh := Calm.ok k c
  refine met_of kh kh.nl (c.aw hs) ?_
  by_cases e : n0 = s
  · exact .inl e
  · refine .inr ?_
    rw [Calm.found k c hs]
    exact near_in k.r0 (List.mem_filter.mpr ⟨h0, by simp [e]⟩) fun o ho => hmin o (List.mem_filter.mp ho).1
end TM
/-- what was laid last by each key, while nobody goes or falls silent -/
def LastOk (m : TM) (S : SM) (lst : Nat → Option Nat) : Prop := ∀ g, match lst g with
  | none => ∀ h ∈ m.houses, g ∉ S.ks h
  | some i => i < S.n ∧ ∀ h ∈ m.houses, (g ∈ S.ks h ↔ h ∈ (byN g m.houses).take m.room) ∧ (g ∈ S.ks h → S.vl h g = i)
theorem SM.put_mem {g i x y : Nat} : ∀ {l : List Nat} {S : SM}, (y ∈ (S.put l g i).ks x ↔ y ∈ S.ks x ∨ (y = g ∧ x ∈ l))
  | [], S => by simp [SM.put]
  | h :: l, S => by
    show y ∈ (SM.put (S.put1 g i h) l g i).ks x ↔ _
    rw [SM.put_mem (l := l)]
    have e : y ∈ (S.put1 g i h).ks x ↔ y ∈ S.ks x ∨ (y = g ∧ x = h) := by
      show y ∈ (if x = h then (if g ∈ S.ks h then S.ks h else S.ks h ++ [g]) else S.ks x) ↔ _
      by_cases a : x = h
      · subst a
        rw [if_pos rfl]
        by_cases b : g ∈ S.ks x
        · rw [if_pos b]
          constructor
          · exact .inl
          · rintro (z | ⟨z, _⟩)
            · exact z
            · rw [z]; exact b
        · rw [if_neg b, List.mem_append, List.mem_singleton]
          simp
      · rw [if_neg a]
        simp [a]
    rw [e, List.mem_cons]
    constructor
    · rintro ((z | ⟨z, w⟩) | ⟨z, w⟩)
      · exact .inl z
      · exact .inr ⟨z, .inl w⟩
      · exact .inr ⟨z, .inr w⟩
    · rintro (z | ⟨z, w | w⟩)
      · exact .inl (.inl z)
      · exact .inl (.inr ⟨z, w⟩)
      · exact .inr ⟨z, w⟩
theorem SM.put_vl {g i x y : Nat} : ∀ {l : List Nat} {S : SM}, (S.put l g i).vl x y = if y = g ∧ x ∈ l then i else S.vl x y
  | [], S => by simp [SM.put]
  | h :: l, S => by
    show (SM.put (S.put1 g i h) l g i).vl x y = _
    rw [SM.put_vl (l := l)]
    by_cases a : y = g ∧ x ∈ l
    · rw [if_pos a, if_pos ⟨a.1, List.mem_cons_of_mem _ a.2⟩]
    · rw [if_neg a]
      show (if x = h then (if y = g then i else S.vl h y) else S.vl x y) = _
      by_cases b : x = h
      · by_cases c : y = g
        · rw [if_pos b, if_pos c, if_pos ⟨c, by rw [b]; simp⟩]
        · rw [if_pos b, if_neg c, if_neg fun z => c z.1, b]
      · rw [if_neg b, if_neg fun z => (List.mem_cons.mp z.2).elim b fun w => a ⟨z.1, w⟩]
theorem LastOk.laid {m m' : TM} {N : List Nat} {S : SM} {lst : Nat → Option Nat} (o : LastOk m S lst) (k : m.Ok N) (c : m.Calm) {s g : Nat} (hs : s ∈ m.houses) {p : Addr} {z : Str} (hh : m'.houses = m.houses) (hr : m'.room = m.room) :
    LastOk m' ((S.laid p z).put (m.layTo s g) g S.n) fun y => if y = g then some S.n else lst y := fun y => by
  have en := (SM.put_same (l := m.layTo s g) (S := S.laid p z) (g := g) (i := S.n)).1
  by_cases e : y = g
  · subst e
    simp only [if_pos]
    refine ⟨by rw [en]; exact Nat.lt_succ_self _, fun h hm => ?_⟩
    rw [hh] at hm
    rw [hh, hr, ← TM.Calm.layTo k c hs (g := y), SM.put_mem, SM.put_vl]
    have ek : (S.laid p z).ks h = S.ks h := rfl
    rw [ek]
    have q := o y
    by_cases hin : h ∈ m.layTo s y
    · rw [if_pos ⟨rfl, hin⟩]
      exact ⟨⟨fun _ => hin, fun _ => .inr ⟨rfl, hin⟩⟩, fun _ => rfl⟩
    · have hno : y ∉ S.ks h := by
        cases ey : lst y with
        | none => rw [ey] at q; exact q h hm
        | some i =>
          rw [ey] at q
          exact fun w => hin (by rw [TM.Calm.layTo k c hs]; exact ((q.2 h hm).1.mp w))
      exact ⟨⟨fun w => w.elim (fun w => absurd w hno) fun w => absurd w.2 hin, fun w => absurd w hin⟩, fun w => w.elim (fun w => absurd w hno) fun w => absurd w.2 hin⟩
  · simp only [if_neg e]
    have q := o y
    cases ey : lst y with
    | none =>
      rw [ey] at q
      intro h hm w
      rw [hh] at hm
      rw [SM.put_mem] at w
      rcases w with w | w
      · exact q h hm w
      · exact e w.1
    | some i =>
      rw [ey] at q
      refine ⟨by rw [en]; exact Nat.lt_succ_of_lt q.1, fun h hm => ?_⟩
      rw [hh] at hm
      rw [hh, hr, SM.put_mem, SM.put_vl, if_neg fun w => e w.1]
      have q2 := q.2 h hm
      exact ⟨⟨fun w => w.elim q2.1.mp fun w => absurd w.1 e, fun w => .inl (q2.1.mpr w)⟩, fun w => w.elim q2.2 fun w => absurd w.1 e⟩
theorem LastOk.same {m m' : TM} {S : SM} {lst : Nat → Option Nat} (o : LastOk m S lst) (hh : m'.houses = m.houses) (hr : m'.room = m.room) : LastOk m' S lst := fun y => by
  have q := o y
  cases ey : lst y with
  | none => rw [ey] at q; rw [hh]; exact q
  | some i => rw [ey] at q; rw [hh, hr]; exact q
theorem LastOk.sought {m : TM} {N : List Nat} {S : SM} {lst : Nat → Option Nat} (o : LastOk m S lst) (k : m.Ok N) (c : m.Calm) {s g : Nat} (hs : s ∈ m.houses) : Newest S g (m.met s g) (lst g) := by
  have q := o g
  have hin : ∀ h ∈ m.met s g, h ∈ m.houses := fun h hh => TM.aw_house (TM.met_aw k (c.aw hs) hh)
  cases ey : lst g with
  | none => rw [ey] at q; exact .non fun h hh => q h (hin h hh)
  | some i =>
    rw [ey] at q
    obtain ⟨n0, h0, hmin⟩ := least_first (List.ne_nil_of_mem hs) g
    have hk : g ∈ S.ks n0 := (q.2 n0 h0).1.mpr (near_in k.r0 h0 hmin)
    have e : S.vl n0 g = i := (q.2 n0 h0).2 hk
    rw [← e]
    refine .some (TM.Calm.meets k c hs h0 hmin) hk fun x hx hxk => ?_
    rw [e, (q.2 x (hin x hx)).2 hxk]
    exact Nat.le_refl _
end Nn
/-! fewer lost than room: no hole; who asks finds -/
namespace Nn
theorem hear_room {room n : Nat} {xs : List Nat} {a : Bool} (h0 : 0 < room) (h : n ∉ hearL room xs n a) : room ≤ (hearL room xs n a).length := by
  unfold hearL at h ⊢
  by_cases hn : n ∈ xs
  · rw [if_pos hn] at h
    exact absurd (List.mem_append.mpr (.inr (List.mem_singleton.mpr rfl))) h
  · rw [if_neg hn] at h ⊢
    by_cases hr : xs.length < room
    · rw [if_pos hr] at h
      exact absurd (List.mem_append.mpr (.inr (List.mem_singleton.mpr rfl))) h
    · rw [if_neg hr] at h ⊢
      cases xs with
      | nil => exact absurd h0 (by simpa using hr)
      | cons x r =>
        have hr : ¬ r.length + 1 < room := hr
        cases a with
        | true =>
          show room ≤ (r ++ [x]).length
          rw [List.length_append, List.length_singleton]; omega
        | false => exact absurd (List.mem_append.mpr (.inr (List.mem_singleton.mpr rfl))) h
theorem cnt_all {p : Nat → Bool} {l D : List Nat} (nd : l.Nodup) (h : ∀ x ∈ l, p x = true ∨ x ∈ D) : l.length ≤ (l.filter p).length + D.length := by
  have e : l.length = (l.filter p).length + (l.filter fun x => !p x).length := by
    clear nd h
    induction l with
    | nil => rfl
    | cons x r ih =>
      rw [List.filter_cons, List.filter_cons]
      cases p x
      · simp; omega
      · simp; omega
  have q := nodup_len (nd.filter fun x => !p x) (b := D) fun x hx => by
    have hx := List.mem_filter.mp hx
    refine (h x hx.1).resolve_left fun z => ?_
    have := hx.2
    rw [z] at this; cases this
  omega
namespace TM
variable {m m1 m2 : TM} {N D : List Nat} {h n o c j : Nat} {S : Nat → Nat → Prop}
/-- fewer than room are lost: what is kept answers or is lost; a bucket keeps all that are wished for, or enough that answer -/
structure Few (m : TM) (D : List Nat) (S : Nat → Nat → Prop) : Prop where
  few : D.length < m.room
  only : ∀ h ∈ m.live, ∀ j, ∀ x ∈ m.row h j, m.aw x = true ∨ x ∈ D
  good : ∀ h ∈ m.live, ∀ j, (∀ y, S h y → y ≠ h → stepN h y = j → y ∈ m.row h j) ∨ m.room ≤ ((m.row h j).filter fun x => m.aw x).length + D.length
  aw_ : ∀ h ∈ m.live, ∀ y, S h y → m.aw y = true
def Held (m : TM) (D : List Nat) : Prop := m.Few D fun _ y => y ∈ m.live
theorem Few.mono {S' : Nat → Nat → Prop} (f : m.Few D S) (g : ∀ h ∈ m.live, ∀ y, y ≠ h → S' h y → S h y) (a : ∀ h ∈ m.live, ∀ y, S' h y → m.aw y = true) : m.Few D S' :=
  ⟨f.few, f.only, fun h hh j => (f.good h hh j).imp (fun q y hy hne => q y (g h hh y hne hy) hne) id, a⟩
theorem good_grow {h j c : Nat} {P : Nat → Prop} (k : m.Ok N) (k1 : m1.Ok N) (g : Grow m m1) (hm : h ∈ m.houses) (ha : ∀ y, P y → m.aw y = true) (q : (∀ y, P y → y ≠ h → stepN h y = j → y ∈ m.row h j) ∨ m.room ≤ ((m.row h j).filter fun x => m.aw x).length + c) :
    (∀ y, P y → y ≠ h → stepN h y = j → y ∈ m1.row h j) ∨ m1.room ≤ ((m1.row h j).filter fun x => m1.aw x).length + c := by
  rcases q with q | q
  · exact .inl fun y hy hne hs => g.keep h j y (q y hy hne hs) (ha y hy)
  · refine .inr ?_
    have := nodup_len ((k.row (j := j) hm).1.filter fun x => m.aw x) (b := (m1.row h j).filter fun x => m1.aw x) fun x hx => by
      have hx := List.mem_filter.mp hx
      exact List.mem_filter.mpr ⟨g.keep h j x hx.1 hx.2, by rw [g.aw]; exact hx.2⟩
    rw [g.rm]; omega
theorem Few.hears (k : m.Ok N) (f : m.Few D S) (hh : m.aw h = true) (hn : m.aw n = true) : (m.hears h n).Few D fun a b => S a b ∨ (a = h ∧ b = n) := by
  have hm := aw_house hh
  have hnN := k.hN _ (aw_house hn)
  have g := Grow.hears k hh hnN
  have k1 := k.hears (h := h) hnN
  have on : ∀ a ∈ (m.hears h n).live, ∀ j, ∀ x ∈ (m.hears h n).row a j, m.aw x = true ∨ x ∈ D := fun a haa j x hx => by
    rw [g.live] at haa
    rw [row_hears k hm hnN] at hx
    split at hx
    · rename_i q
      rcases hear_mem hx k.r0 with z | z
      · rw [← q.1] at z; exact f.only a haa j x z
      · rw [z]; exact .inl hn
    · exact f.only a haa j x hx
  refine ⟨by rw [g.rm]; exact f.few, fun a haa j x hx => by rw [g.aw]; exact on a haa j x hx, fun a haa j => ?_, fun a haa y hy => ?_⟩
  · have hal : a ∈ m.live := by rw [← g.live]; exact haa
    have ham := live_house hal
    have base := good_grow k k1 g ham (f.aw_ a hal) (f.good a hal j)
    by_cases q : a = h ∧ n ≠ h ∧ stepN h n = j
    · obtain ⟨q1, q2, q3⟩ := q
      by_cases hi : n ∈ (m.hears h n).row a j
      · refine base.imp (fun w y hy hne hs => ?_) id
        rcases hy with z | ⟨_, z⟩
        · exact w y z hne hs
        · rw [z]; exact hi
      · refine .inr ?_
        have nd := (k1.row (j := j) (aw_house (by rw [hears_aw]; exact mem_live.mp hal) : a ∈ (m.hears h n).houses)).1
        have ca := cnt_all (p := fun x => (m.hears h n).aw x) (D := D) nd fun x hx => by rw [g.aw]; exact on a haa j x hx
        have hfu : m.room ≤ ((m.hears h n).row a j).length := by
          rw [row_hears k hm hnN, if_pos ⟨q1, q2, q3⟩] at hi ⊢
          exact hear_room k.r0 hi
        rw [g.rm]; omega
    · refine base.imp (fun w y hy hne hs => ?_) id
      rcases hy with z | ⟨z1, z2⟩
      · exact w y z hne hs
      · exact absurd ⟨z1, by rw [← z1, ← z2]; exact hne, by rw [← z1, ← z2]; exact hs⟩ q
  · rw [g.live] at haa
    rw [g.aw]
    rcases hy with z | ⟨_, z⟩
    · exact f.aw_ a haa y z
    · rw [z]; exact hn
theorem Few.fold : ∀ {l : List Nat} {m : TM} {S : Nat → Nat → Prop}, m.Ok N → m.Few D S → m.aw n = true → (∀ o ∈ l, m.aw o = true) → (l.foldl (TM.meet n) m).Few D fun a b => S a b ∨ (a = n ∧ b ∈ l) ∨ (b = n ∧ a ∈ l)
  | [], m, S, _, f, _, _ => f.mono (fun a _ b _ h => by
      rcases h with h | ⟨_, h⟩ | ⟨_, h⟩
      · exact h
      · cases h
      · cases h) fun a haa b h => by
      rcases h with h | ⟨_, h⟩ | ⟨_, h⟩
      · exact f.aw_ a haa b h
      · cases h
      · cases h
  | o :: r, m, S, k, f, hn, hl => by
    rw [List.foldl_cons]
    have ho := hl o (List.mem_cons_self ..)
    have g := Grow.meet k hn ho
    have k1 := k.hears (h := n) (k.hN _ (aw_house ho))
    have f1 := f.hears k hn ho
    have f2 := f1.hears k1 (h := o) (n := n) (by rw [hears_aw]; exact ho) (by rw [hears_aw]; exact hn)
    have k2 : (TM.meet n m o).Ok N := k.meet' hn ho
    have awE : (TM.meet n m o).aw = m.aw := g.aw
    have ih := Few.fold (l := r) k2 f2 (by rw [awE]; exact hn) fun x hx => by rw [awE]; exact hl x (List.mem_cons_of_mem _ hx)
    have cv : ∀ a b, (S a b ∨ (a = n ∧ b ∈ o :: r) ∨ (b = n ∧ a ∈ o :: r)) → (((S a b ∨ (a = n ∧ b = o)) ∨ (a = o ∧ b = n)) ∨ (a = n ∧ b ∈ r) ∨ (b = n ∧ a ∈ r)) := fun a b h => by
      rcases h with h | ⟨h1, h2⟩ | ⟨h1, h2⟩
      · exact .inl (.inl (.inl h))
      · rcases List.mem_cons.mp h2 with z | z
        · exact .inl (.inl (.inr ⟨h1, z⟩))
        · exact .inr (.inl ⟨h1, z⟩)
      · rcases List.mem_cons.mp h2 with z | z
        · exact .inl (.inr ⟨z, h1⟩)
        · exact .inr (.inr ⟨h1, z⟩)
    exact ih.mono (fun a _ b _ h => cv a b h) fun a haa b h => ih.aw_ a haa b (cv a b h)
theorem Grow.drops {x : Nat} (k : m.Ok N) (hh : m.aw h = true) (hx : x ∈ N) (na : m.aw x = false) : Grow m (m.drops h x) := by
  have hm := aw_house hh
  refine ⟨drops_houses, drops_aw, rfl, rfl, rfl, fun h' j y hy ha => ?_, fun h' e j => ?_⟩
  · rw [row_drops k hm hx]
    split
    · rename_i q
      rw [q] at hy
      exact List.mem_filter.mpr ⟨hy, by
        have : y ≠ x := fun z => by rw [z, na] at ha; cases ha
        simp [this]⟩
    · exact hy
  · rw [row_drops k hm hx, if_neg]
    intro q
    rw [q, hh] at e; cases e
theorem Few.drops {x : Nat} (k : m.Ok N) (f : m.Few D S) (hh : m.aw h = true) (hx : x ∈ N) (na : m.aw x = false) : (m.drops h x).Few D S := by
  have hm := aw_house hh
  have g := Grow.drops k hh hx na
  have k1 : (m.drops h x).Ok N := k.drops (h := h)
  refine ⟨by rw [g.rm]; exact f.few, fun a haa j y hy => ?_, fun a haa j => ?_, fun a haa y hy => by rw [g.aw]; rw [g.live] at haa; exact f.aw_ a haa y hy⟩
  · rw [g.live] at haa
    rw [g.aw]
    rw [row_drops k hm hx] at hy
    split at hy
    · rename_i q
      exact f.only a haa j y (by rw [q]; exact (List.mem_filter.mp hy).1)
    · exact f.only a haa j y hy
  · rw [g.live] at haa
    exact good_grow k k1 g (live_house haa) (f.aw_ a haa) (f.good a haa j)
theorem Few.foldL {start : Nat} : ∀ {l : List (Nat × Option (List Nat))} {m : TM}, m.Ok N → m.Few D S → m.aw start = true → (∀ x ∈ l, x.1 ∈ N ∧ (x.2 ≠ none ↔ m.aw x.1 = true)) → (l.foldl (TM.learn1 start) m).Few D S
  | [], _, _, f, _, _ => f
  | x :: r, m, k, f, hs, hl => by
    rw [List.foldl_cons]
    obtain ⟨hx1, hx2⟩ := hl x (List.mem_cons_self ..)
    have hsN := k.hN _ (aw_house hs)
    have st : (TM.learn1 start m x).Few D S := by
      unfold TM.learn1
      cases e : x.2 with
      | none =>
        have na : m.aw x.1 = false := by
          cases q : m.aw x.1 with
          | false => rfl
          | true => exact absurd e (hx2.mpr q)
        exact f.drops k hs hx1 na
      | some _ =>
        have ha : m.aw x.1 = true := hx2.mp (by rw [e]; exact fun z => by cases z)
        have f1 := f.hears k hs ha
        have f2 := f1.hears (k.hears (h := start) hx1) (h := x.1) (n := start) (by rw [hears_aw]; exact ha) (by rw [hears_aw]; exact hs)
        have lv : ((m.hears start x.1).hears x.1 start).live = m.live := by unfold TM.live; rw [hears_houses, hears_houses, hears_aw, hears_aw]
        exact f2.mono (fun a _ b _ h => .inl (.inl h)) fun a haa b h => by rw [hears_aw, hears_aw]; rw [lv] at haa; exact f.aw_ a haa b h
    exact Few.foldL (l := r) (k.learn1 hsN hx1) st (by rw [learn1_aw]; exact hs) fun y hy => by rw [learn1_aw]; exact hl y (List.mem_cons_of_mem _ hy)
theorem Held.of (f : m.Few D fun _ y => y ∈ m1.live) (e : m.live = m1.live) : m.Held D := by
  unfold Held
  rw [e]; exact f
theorem learn_live' {s g : Nat} : (m.learn s g).live = m.live := by
  unfold TM.live
  rw [TM.learn_houses, TM.learn_aw]
theorem Held.learn (k : m.Ok N) (f : m.Held D) {s g : Nat} (hs : m.aw s = true) : (m.learn s g).Held D := by
  refine Held.of (m1 := m) (Few.foldL (l := (m.askSt s g).row.tail) k f hs fun x hx => ?_) learn_live'
  obtain ⟨h1, h2⟩ := TM.ask_mem k hs (List.mem_of_mem_tail hx)
  refine ⟨h1, ?_⟩
  rw [h2, ← Option.isSome_iff_ne_none, TM.tells_isSome]
theorem Held.hole (k : m.Ok N) (f : m.Held D) {y : Nat} (hh : h ∈ m.live) (hy : y ∈ m.live) (hne : y ≠ h) : ∃ z ∈ m.row h (stepN h y), m.aw z = true := by
  have few := f.few
  rcases f.good h hh (stepN h y) with q | q
  · exact ⟨y, q y hy hne rfl, mem_live.mp hy⟩
  · obtain ⟨z, hz⟩ := List.exists_mem_of_length_pos (by omega : 0 < ((m.row h (stepN h y)).filter fun x => m.aw x).length)
    have hz := List.mem_filter.mp hz
    exact ⟨z, hz.1, hz.2⟩
theorem Held.holes (k : m.Ok N) (f : m.Held D) : m.holesN = [] := List.filter_eq_nil_iff.mpr fun x hx z => by
  obtain ⟨h, hh, hx⟩ := List.mem_flatMap.mp hx
  obtain ⟨j, _, rfl⟩ := List.mem_map.mp hx
  have z : (!((m.row h j).any fun n => decide (n ∈ m.live)) && !decide (ofSpanN m.live h j = [])) = true := z
  rw [Bool.and_eq_true] at z
  obtain ⟨h1, h2⟩ := z
  have h2 : ofSpanN m.live h j ≠ [] := by simpa using h2
  obtain ⟨y, hy⟩ := List.exists_mem_of_ne_nil _ h2
  have hy := List.mem_filter.mp hy
  obtain ⟨a, b⟩ : h ≠ y ∧ stepN h y = j := span_step.mp (of_decide_eq_true hy.2)
  obtain ⟨w, hw, ha⟩ := f.hole k hh hy.1 (fun z => a z.symm)
  rw [b] at hw
  have : ((m.row h j).any fun n => decide (n ∈ m.live)) = true := List.any_eq_true.mpr ⟨w, hw, decide_eq_true (mem_live.mpr ha)⟩
  rw [this] at h1; cases h1
theorem Held.reach (k : m.Ok N) (f : m.Held D) {x : Nat} (hx : x ∈ m.live) : ∀ (s d : Nat), d ^^^ x = s → d ∈ m.live → m.Reach d x := by
  have key : ∀ (s d b : Nat), d ^^^ x < s → d ∈ m.live → m.Reach b d → m.Reach b x := by
    intro s
    induction s with
    | zero => intro d b h; omega
    | succ s ih =>
      intro d b h hd r
      by_cases e : d = x
      · rw [← e]; exact r
      · obtain ⟨z, hz, ha⟩ := f.hole k hd hx fun z => e z.symm
        obtain ⟨q1, q2, q3⟩ := (k.row (live_house hd)).2.2 z hz
        obtain ⟨g1, g2⟩ := closer e (fun w => q1 w.symm) q2
        exact ih z b (by omega) (mem_live.mpr ha) (.step r (row_tab hz) ha)
  intro s d e hd
  exact key (s + 1) d d (by omega) hd .self
/-- one more is lost -/
theorem Held.lost {x : Nat} (k : m.Ok N) (k1 : m1.Ok N) (f : m.Held D) (hl : ∀ y, y ∈ m1.live ↔ y ∈ m.live ∧ y ≠ x) (hr : ∀ h ∈ m1.live, ∀ j, m1.row h j = m.row h j) (rm : m1.room = m.room) (hc : D.length + 1 < m.room) : m1.Held (x :: D) := by
  have aw1 : ∀ y, m.aw y = true → y ≠ x → m1.aw y = true := fun y hy hne => mem_live.mp ((hl y).mpr ⟨mem_live.mpr hy, hne⟩)
  refine ⟨by rw [rm]; exact hc, fun h hh j y hy => ?_, fun h hh j => ?_, fun _ _ y hy => mem_live.mp hy⟩
  · rw [hr h hh] at hy
    rcases f.only h ((hl h).mp hh).1 j y hy with z | z
    · by_cases e : y = x
      · exact .inr (by rw [e]; simp)
      · exact .inl (aw1 y z e)
    · exact .inr (List.mem_cons_of_mem _ z)
  · have hh0 := ((hl h).mp hh).1
    rw [hr h hh, rm]
    rcases f.good h hh0 j with q | q
    · exact .inl fun y hy hne hs => q y ((hl y).mp hy).1 hne hs
    · refine .inr ?_
      have := nodup_len ((k.row (j := j) (live_house hh0)).1.filter fun x => m.aw x) (b := x :: (m.row h j).filter fun x => m1.aw x) fun y hy => by
        have hy := List.mem_filter.mp hy
        by_cases e : y = x
        · rw [e]; simp
        · exact List.mem_cons_of_mem _ (List.mem_filter.mpr ⟨hy.1, aw1 y hy.2 e⟩)
      rw [List.length_cons] at this
      show m.room ≤ _ + (D.length + 1)
      omega
theorem Held.others (k : m.Ok N) (f : m.Held D) {n d : Nat} (hn : n ∉ m.houses) (hd : d ∈ m.live) : (m.add n).others n d = m.live := by
  refine rising_eq (comeTo_sorted.filter _) ((sortU_sorted _).filter _) fun x => ?_
  unfold TM.others
  rw [List.mem_filter, mem_comeTo, add_houses]
  constructor
  · rintro ⟨⟨h1, h3⟩, h2⟩
    have h2 : x ≠ n := by simpa using h2
    have ha := reach_aw (add_aw (mem_live.mp hd)) h3
    refine mem_live.mpr ?_
    have hxm := (List.mem_append.mp h1).resolve_right fun z => h2 (List.mem_singleton.mp z)
    have e : (m.add n).aw x = true → m.aw x = true := fun z => by
      unfold TM.aw at z ⊢
      rw [Bool.and_eq_true] at z ⊢
      exact ⟨decide_eq_true hxm, z.2⟩
    exact e ha
  · intro hx
    have hne : x ≠ n := fun z => hn (by rw [← z]; exact live_house hx)
    exact ⟨⟨List.mem_append.mpr (.inl (live_house hx)), (f.reach k hx _ d rfl hd).add hn (live_house hd)⟩, by simp [hne]⟩
theorem add_aw_iff {n y : Nat} (k : m.Ok N) (hn : n ∉ m.houses) : (m.add n).aw y = true ↔ m.aw y = true ∨ y = n := by
  constructor
  · intro z
    by_cases e : y = n
    · exact .inr e
    · refine .inl ?_
      have hm := aw_house z
      rw [add_houses] at hm
      have hxm := (List.mem_append.mp hm).resolve_right fun z => e (List.mem_singleton.mp z)
      unfold TM.aw at z ⊢
      rw [Bool.and_eq_true] at z ⊢
      exact ⟨decide_eq_true hxm, z.2⟩
  · rintro (z | z)
    · exact add_aw z
    · rw [z]
      unfold TM.aw
      rw [add_houses, Bool.and_eq_true]
      refine ⟨decide_eq_true (by simp), ?_⟩
      show (!decide (n ∈ m.hush)) = true
      rw [decide_eq_false fun w => hn (k.hh _ w)]; rfl
theorem Held.comes (k : m.Ok N) (f : m.Held D) {n d : Nat} (hn : n ∉ m.houses) (hnN : n ∈ N) (hd : d ∈ m.live) : (m.comes n (some d)).Held D := by
  have ka := k.add hn hnN
  have awI : ∀ y, (m.add n).aw y = true ↔ m.aw y = true ∨ y = n := fun y => add_aw_iff k hn
  have lvI : ∀ y, y ∈ (m.add n).live ↔ y ∈ m.live ∨ y = n := fun y => by rw [mem_live, awI, mem_live]
  have f1 : (m.add n).Few D fun a b => a ∈ m.live ∧ b ∈ m.live := by
    refine ⟨f.few, fun h hh j x hx => ?_, fun h hh j => ?_, fun h _ y hy => (awI y).mpr (.inl (mem_live.mp hy.2))⟩
    · rcases (lvI h).mp hh with z | z
      · rw [row_add hn (live_house z)] at hx
        exact (f.only h z j x hx).imp (fun w => (awI x).mpr (.inl w)) id
      · rw [z, row_add_new hn] at hx; cases hx
    · rcases (lvI h).mp hh with z | z
      · rw [row_add hn (live_house z)]
        rcases f.good h z j with q | q
        · exact .inl fun y hy hne hs => q y hy.2 hne hs
        · refine .inr ?_
          have := nodup_len ((k.row (j := j) (live_house z)).1.filter fun x => m.aw x) (b := (m.row h j).filter fun x => (m.add n).aw x) fun y hy => by
            have hy := List.mem_filter.mp hy
            exact List.mem_filter.mpr ⟨hy.1, (awI y).mpr (.inl hy.2)⟩
          show m.room ≤ _
          omega
      · exact .inl fun y hy => absurd (live_house hy.1) (by rw [z]; exact hn)
  show ((m.add n).visit n d).Held D
  unfold TM.visit
  rw [f.others k hn hd]
  have hna : (m.add n).aw n = true := (awI n).mpr (.inr rfl)
  have hla : ∀ o ∈ m.live, (m.add n).aw o = true := fun o ho => (awI o).mpr (.inl (mem_live.mp ho))
  have q := Few.fold (l := m.live) (n := n) ka f1 hna hla
  have g := Grow.fold (l := m.live) ka hna hla
  refine q.mono (fun a haa b hne hb => ?_) fun a haa b hb => mem_live.mp hb
  rw [g.live] at haa hb
  rcases (lvI a).mp haa with za | za <;> rcases (lvI b).mp hb with zb | zb
  · exact .inl ⟨za, zb⟩
  · exact .inr (.inr ⟨zb, za⟩)
  · exact .inr (.inl ⟨za, zb⟩)
  · exact absurd (zb.trans za.symm) hne
theorem comes_live (k : m.Ok N) {n d : Nat} (hn : n ∉ m.houses) (hnN : n ∈ N) (f : m.Held D) (hd : d ∈ m.live) : ∀ y, y ∈ (m.comes n (some d)).live ↔ y ∈ m.live ∨ y = n := fun y => by
  have ka := k.add hn hnN
  have awI : ∀ y, (m.add n).aw y = true ↔ m.aw y = true ∨ y = n := fun y => add_aw_iff k hn
  have g := Grow.fold (l := m.live) (h := n) ka ((awI n).mpr (.inr rfl)) fun o ho => (awI o).mpr (.inl (mem_live.mp ho))
  have e : (m.comes n (some d)).live = (m.add n).live := by
    show ((m.add n).visit n d).live = _
    unfold TM.visit
    rw [f.others k hn hd]
    exact g.live
  rw [e, mem_live, awI, mem_live]
/-- all that answer or are lost -/
def pool (m : TM) (D : List Nat) : List Nat := m.live ++ D
def kept' (m : TM) (D : List Nat) (h : Nat) : List Nat := if m.aw h = true then m.keeps h else (m.pool D).filter fun y => !decide (y = h)
theorem Held.net (k : m.Ok N) (f : m.Held D) : Net (m.pool D) (m.kept' D) (fun x => m.aw x) m.room := by
  refine ⟨fun h hh x hx => ?_, fun h hh y hy hya hne => ?_, fun l nd hl hlen => ?_, k.r0⟩
  · unfold kept' at hx
    split at hx
    · rename_i ha
      obtain ⟨j, hj⟩ := tab_row (mem_keeps.mp hx)
      refine ⟨?_, ((k.row (aw_house ha)).2.2 x hj).1⟩
      rcases f.only h (mem_live.mpr ha) j x hj with z | z
      · exact List.mem_append.mpr (.inl (mem_live.mpr z))
      · exact List.mem_append.mpr (.inr z)
    · have hx := List.mem_filter.mp hx
      exact ⟨hx.1, by simpa using hx.2⟩
  · unfold kept'
    by_cases ha : m.aw h = true
    · rw [if_pos ha]
      obtain ⟨z, hz, hza⟩ := f.hole k (mem_live.mpr ha) (mem_live.mpr hya) hne
      exact ⟨z, mem_keeps.mpr (row_tab hz), hza, ((k.row (aw_house ha)).2.2 z hz).2.1⟩
    · rw [if_neg ha]
      exact ⟨y, List.mem_filter.mpr ⟨hy, by simp [hne]⟩, hya, rfl⟩
  · refine Classical.byContradiction fun z => ?_
    have few := f.few
    have := nodup_len nd (b := D) fun x hx => by
      rcases List.mem_append.mp (hl x hx) with w | w
      · exact absurd ⟨x, hx, mem_live.mp w⟩ z
      · exact w
    omega
theorem Held.tells (f : m.Held D) : m.tells = tellK (m.pool D) (m.kept' D) (fun x => m.aw x) m.room := by
  funext h g a
  unfold TM.tells tellK
  by_cases hh : m.aw h = true
  · rw [if_pos hh, if_pos ⟨List.mem_append.mpr (.inl (mem_live.mpr hh)), hh⟩]
    unfold kept'
    rw [if_pos hh]
    unfold nearN
    rw [byN_filter]
    congr 4
    funext n
    congr 1
    exact decide_eq_decide.mpr ⟨fun e => Option.some.inj e, fun e => by rw [e]⟩
  · rw [if_neg hh, if_neg fun z => hh z.2]
theorem Held.ends (k : m.Ok N) (hN : N.length ≤ 50) (f : m.Held D) {s g : Nat} (hs : m.aw s = true) : Ended (m.pool D) (m.kept' D) (fun x => m.aw x) m.room s g (m.askSt s g) := by
  have tm : ∀ h l, (fun h => m.tells h g s) h = some l → l.length ≤ 100 ∧ ∀ x ∈ l, x ∈ m.pool D := fun h l e => by
    refine ⟨(TM.tells_some k e).1, ?_⟩
    have e : m.tells h g s = some l := e
    rw [f.tells] at e
    exact tellK_mem (f.net k) e
  have plen : (m.pool D).length < 64 := by
    unfold pool
    rw [List.length_append]
    have := f.few
    have := k.r1
    have : m.live.length ≤ N.length := nodup_len live_nodup fun x hx => k.hN _ (live_house hx)
    omega
  have ok : (m.askSt s g).Ok (fun h => m.tells h g s) s (m.pool D) := askEnd_ok (TM.tells_ne hs) tm
  have hl : (m.askSt s g).left g m.room = [] := askEnd_left (TM.tells_ne hs) tm plen
  have e : (fun h => m.tells h g s) = tK (m.pool D) (m.kept' D) (fun x => m.aw x) m.room g s := by
    funext h; rw [f.tells]
  rw [e] at ok
  exact ⟨ok, hl, List.mem_append.mpr (.inl (mem_live.mpr hs)), hs⟩
theorem Held.first (k : m.Ok N) (hN : N.length ≤ 50) (f : m.Held D) {s g : Nat} (hs : m.aw s = true) : (m.askFd s g).head? = (byN g (m.live.filter fun x => !decide (x = s))).head? := by
  have q := Ended.first (f.net k) (f.ends k hN (g := g) hs)
  have e : byN g ((m.pool D).filter fun x => m.aw x && !decide (x = s)) = byN g (m.live.filter fun x => !decide (x = s)) := byN_uniq (byN_sorted _ _) fun z => by
    rw [mem_byN, List.mem_filter, List.mem_filter]
    unfold pool
    rw [List.mem_append, Bool.and_eq_true, ← mem_live]
    exact ⟨fun w => ⟨w.2.1, w.2.2⟩, fun w => ⟨.inl w.1, w.1, w.2⟩⟩
  rw [e] at q
  exact q
theorem Held.way (k : m.Ok N) (f : m.Held D) {s g n0 : Nat} (hs : m.aw s = true) (h0 : n0 ∈ m.live) (hmin : ∀ o ∈ m.live, g ^^^ n0 ≤ g ^^^ o) : (∃ r, wayN m.tells g s = s :: r) ∧ (wayN m.tells g s).getLast? = some n0 := by
  rw [f.tells]
  obtain ⟨a, b, _⟩ := way_all (g := g) (f.net k) (List.mem_append.mpr (.inl h0)) (mem_live.mp h0) (fun o ho hoa => hmin o (mem_live.mpr hoa)) (List.mem_append.mpr (.inl (mem_live.mpr hs))) hs
  exact ⟨a, b⟩
theorem Held.meets (k : m.Ok N) (hN : N.length ≤ 50) (f : m.Held D) {s g n0 : Nat} (hs : m.aw s = true) (h0 : n0 ∈ m.live) (hmin : ∀ o ∈ m.live, g ^^^ n0 ≤ g ^^^ o) : n0 ∈ m.met s g := by
  refine met_of k k.nl hs ?_
  by_cases e : n0 = s
  · exact .inl e
  · refine .inr ?_
    have hin : n0 ∈ (byN g (m.live.filter fun x => !decide (x = s))).take 1 := near_in (by decide) (List.mem_filter.mpr ⟨h0, by simp [e]⟩) fun o ho => hmin o (List.mem_filter.mp ho).1
    have q := f.first k hN (g := g) hs
    cases e1 : byN g (m.live.filter fun x => !decide (x = s)) with
    | nil => rw [e1] at hin; cases hin
    | cons x r =>
      rw [e1] at hin q
      obtain rfl : n0 = x := by simpa using hin
      cases e2 : m.askFd s g with
      | nil => rw [e2] at q; cases q
      | cons y r2 =>
        rw [e2] at q
        obtain rfl : y = n0 := Option.some.inj q
        simp
theorem Calm.held (k : m.Ok N) (c : m.Calm) : m.Held [] := by
  have r0 := k.r0
  refine ⟨r0, fun h hh j x hx => .inl (c.aw (c.kept h (live_house hh) j x hx)), fun h hh j => ?_, fun _ _ y hy => mem_live.mp hy⟩
  by_cases hl : (m.row h j).length < m.room
  · exact .inl fun y hy hne hs => c.full h (live_house hh) j hl y (live_house hy) hne hs
  · refine .inr ?_
    have e : (m.row h j).filter (fun x => m.aw x) = m.row h j := List.filter_eq_self.mpr fun x hx => c.aw (c.kept h (live_house hh) j x hx)
    rw [e]; omega
end TM
end Nn
/-! things laid at rest are found while fewer than room are lost -/
namespace Nn
/-- what was laid last by each key at rest: the nearest that answer still keep it -/
def StayOk (m : TM) (S : SM) (c : Nat) (lst : Nat → Option Nat) : Prop := ∀ g i, lst g = some i → i < S.n ∧ (∀ h ∈ m.live, g ∈ S.ks h → S.vl h g = i) ∧ ∀ h ∈ (byN g m.live).take (m.room - c), g ∈ S.ks h
variable {m m1 : TM} {S : SM} {N D : List Nat} {lst : Nat → Option Nat} {c : Nat}
theorem LastOk.stay (o : LastOk m S lst) (cm : m.Calm) : StayOk m S 0 lst := fun g i e => by
  have q := o g
  rw [e] at q
  have lv : ∀ x, x ∈ m.live ↔ x ∈ m.houses := fun x => by rw [TM.Calm.live cm, mem_sortU]
  refine ⟨q.1, fun h hh hk => (q.2 h ((lv h).mp hh)).2 hk, fun h hh => ?_⟩
  have e2 : byN g m.live = byN g m.houses := byN_uniq (byN_sorted _ _) fun z => by rw [mem_byN, lv]
  rw [e2] at hh
  exact (q.2 h (mem_byN.mp (List.mem_of_mem_take hh))).1.mpr hh
theorem StayOk.same (o : StayOk m S c lst) (hl : m1.live = m.live) (hr : m1.room = m.room) : StayOk m1 S c lst := fun g i e => by
  rw [hl, hr]; exact o g i e
theorem StayOk.sought (o : StayOk m S D.length lst) (k : m.Ok N) (hN : N.length ≤ 50) (f : m.Held D) {s g i : Nat} (hs : m.aw s = true) (e : lst g = some i) : Newest S g (m.met s g) (some i) := by
  obtain ⟨q1, q2, q3⟩ := o g i e
  have few := f.few
  obtain ⟨n0, h0, hmin⟩ := least_first (List.ne_nil_of_mem (TM.mem_live.mpr hs)) g
  have hk : g ∈ S.ks n0 := q3 n0 (near_in (by omega) h0 hmin)
  have ev : S.vl n0 g = i := q2 n0 h0 hk
  rw [← ev]
  refine .some (f.meets k hN hs h0 hmin) hk fun x hx hxk => ?_
  rw [ev, q2 x (TM.mem_live.mpr (TM.met_aw k hs hx)) hxk]
  exact Nat.le_refl _
theorem take_lost {g x h n : Nat} {a b : List Nat} (hb : ∀ y, y ∈ b ↔ y ∈ a ∧ y ≠ x) (hh : h ∈ (byN g b).take n) : h ∈ (byN g a).take (n + 1) := by
  refine Classical.byContradiction fun z => ?_
  have hm := mem_byN.mp (List.mem_of_mem_take hh)
  obtain ⟨l1, l2⟩ := sorted_take (byN_sorted g a) (mem_byN.mpr ((hb h).mp hm).1) z
  have nd : ((byN g a).take (n + 1)).Nodup := (byN_nodup g a).sublist (List.take_sublist _ _)
  have ln : n + 1 ≤ (((byN g a).take (n + 1)).filter fun y => !decide (y = x)).length + 1 := by
    have q := nodup_len nd (b := x :: ((byN g a).take (n + 1)).filter fun y => !decide (y = x)) fun y hy => by
      by_cases e : y = x
      · rw [e]; simp
      · exact List.mem_cons_of_mem _ (List.mem_filter.mpr ⟨hy, by simp [e]⟩)
    rw [l1, List.length_cons] at q
    exact q
  refine rank_out (g := g) (x := h) (l := b) (m := n) (D := (((byN g a).take (n + 1)).filter fun y => !decide (y = x)).take n) ((nd.filter _).sublist (List.take_sublist _ _)) (by rw [List.length_take]; omega) (fun o ho => ?_) hh
  have ho := List.mem_filter.mp (List.mem_of_mem_take ho)
  exact ⟨(hb o).mpr ⟨mem_byN.mp (List.mem_of_mem_take ho.1), by simpa using ho.2⟩, l2 o ho.1⟩
theorem StayOk.lost {x : Nat} (o : StayOk m S c lst) (hc : c < m.room) (hl : ∀ y, y ∈ m1.live ↔ y ∈ m.live ∧ y ≠ x) (hr : m1.room = m.room) : StayOk m1 S (c + 1) lst := fun g i e => by
  obtain ⟨q1, q2, q3⟩ := o g i e
  refine ⟨q1, fun h hh => q2 h ((hl h).mp hh).1, fun h hh => q3 h ?_⟩
  rw [hr] at hh
  have := take_lost hl hh
  rwa [show m.room - (c + 1) + 1 = m.room - c by omega] at this
theorem take_more {g n h k : Nat} {a b : List Nat} (hb : ∀ y, y ∈ b ↔ y ∈ a ∨ y = n) (hne : h ≠ n) (hh : h ∈ (byN g b).take k) : h ∈ (byN g a).take k := by
  refine Classical.byContradiction fun z => ?_
  have hm := mem_byN.mp (List.mem_of_mem_take hh)
  obtain ⟨l1, l2⟩ := sorted_take (byN_sorted g a) (mem_byN.mpr (((hb h).mp hm).resolve_right hne)) z
  exact rank_out (g := g) (x := h) (l := b) (m := k) (D := (byN g a).take k) ((byN_nodup g a).sublist (List.take_sublist _ _)) l1 (fun o ho => ⟨(hb o).mpr (.inl (mem_byN.mp (List.mem_of_mem_take ho))), l2 o ho⟩) hh
def OneVal (S : SM) (g i : Nat) (l : List Nat) : Prop := (∀ x ∈ l, g ∈ S.ks x → S.vl x g = i) ∧ ∃ x ∈ l, g ∈ S.ks x
theorem OneVal.newest {g i : Nat} {l : List Nat} (o : OneVal S g i l) : newN S g l = i := by
  obtain ⟨x, hx, hk⟩ := o.2
  have e := o.1 x hx hk
  rw [← e]
  exact newN_eq (.some hx hk fun y hy hyk => by rw [e, o.1 y hy hyk]; exact Nat.le_refl _)
theorem OneVal.take1 {g i h room g' : Nat} {l : List Nat} (o : OneVal S g i l) : OneVal (S.take1 h l room g') g i l := by
  unfold SM.take1
  split
  · refine ⟨fun x hx hk => ?_, ?_⟩
    · show (if x = h then (if g = g' then newN S g' l else S.vl h g) else S.vl x g) = i
      by_cases a : x = h
      · rw [if_pos a]
        by_cases b : g = g'
        · rw [if_pos b, ← b]; exact o.newest
        · rw [if_neg b]
          have hk := (SM.put1_keys.mp hk).resolve_right fun z => b z.1
          rw [a] at hk hx
          exact o.1 h hx hk
      · rw [if_neg a]
        exact o.1 x hx ((SM.put1_keys.mp hk).resolve_right fun z => a z.2)
    · obtain ⟨x, hx, hk⟩ := o.2
      exact ⟨x, hx, SM.put1_keys.mpr (.inl hk)⟩
  · exact o
theorem OneVal.takeL {g i h room : Nat} {l : List Nat} : ∀ {us : List Nat} {S : SM}, OneVal S g i l → OneVal (S.takeL h l room us) g i l
  | [], _, o => o
  | _ :: us, _, o => OneVal.takeL (us := us) o.take1
theorem takeL_gets {g h room : Nat} {l : List Nat} (hn : h ∈ (byN g l).take room) : ∀ {us : List Nat} {S : SM}, g ∈ us → g ∈ (S.takeL h l room us).ks h
  | [], _, z => by cases z
  | u :: us, S, z => by
    show g ∈ ((S.take1 h l room u).takeL h l room us).ks h
    rcases List.mem_cons.mp z with e | e
    · refine (SM.takeL_keys).1 ?_
      rw [← e]
      unfold SM.take1
      rw [if_pos hn]
      exact SM.put1_keys.mpr (.inr ⟨rfl, rfl⟩)
    · exact takeL_gets hn e
theorem StayOk.comes {n q : Nat} (o : StayOk m S c lst) (hc : c < m.room) (hn : n ∉ m.live) (hne : m.live ≠ []) (hl : ∀ y, y ∈ m1.live ↔ y ∈ m.live ∨ y = n) (hr : m1.room = m.room) : StayOk m1 ((S.add n q).takes n m.live m.room) c lst := fun g i e => by
  obtain ⟨q1, q2, q3⟩ := o g i e
  have ks0 : ∀ x, (S.add n q).ks x = if x = n then [] else S.ks x := fun _ => rfl
  have vl0 : (S.add n q).vl = S.vl := rfl
  have ksl : ∀ x ∈ m.live, (S.add n q).ks x = S.ks x := fun x hx => by rw [ks0, if_neg fun z => hn (by rw [← z]; exact hx)]
  obtain ⟨n0, h0, hmin⟩ := least_first hne g
  have hk0 : g ∈ S.ks n0 := q3 n0 (near_in (by omega) h0 hmin)
  have ov : OneVal (S.add n q) g i (n :: m.live) := by
    refine ⟨fun x hx hk => ?_, n0, List.mem_cons_of_mem _ h0, by rw [ksl n0 h0]; exact hk0⟩
    rw [vl0]
    rcases List.mem_cons.mp hx with z | z
    · rw [ks0, if_pos z] at hk; cases hk
    · rw [ksl x z] at hk
      exact q2 x z hk
  have ov2 : OneVal ((S.add n q).takes n m.live m.room) g i (n :: m.live) := OneVal.takeL ov
  have mono : ∀ x, g ∈ (S.add n q).ks x → g ∈ ((S.add n q).takes n m.live m.room).ks x := fun x h => (SM.takeL_keys).1 h
  have hin : ∀ x ∈ m1.live, x ∈ n :: m.live := fun x hx => ((hl x).mp hx).elim (fun z => List.mem_cons_of_mem _ z) fun z => by rw [z]; simp
  have sm : ((S.add n q).takes n m.live m.room).n = S.n := SM.takeL_same.1
  refine ⟨by rw [sm]; exact q1, fun x hx hk => ov2.1 x (hin x hx) hk, fun x hx => ?_⟩
  rw [hr] at hx
  by_cases a : x = n
  · subst a
    refine takeL_gets ?_ (mem_sortU.mpr (List.mem_flatMap.mpr ⟨n0, List.mem_cons_of_mem _ h0, by rw [ksl n0 h0]; exact hk0⟩))
    have e2 : byN g (x :: m.live) = byN g m1.live := byN_uniq (byN_sorted _ _) fun z => by
      rw [mem_byN, hl, List.mem_cons]; exact ⟨fun w => w.symm, fun w => w.symm⟩
    rw [e2]
    exact List.mem_of_mem_take (i := m.room - c) (by rwa [List.take_take, Nat.min_eq_left (by omega)])
  · refine mono x ?_
    have hx2 := take_more hl a hx
    rw [ksl x (mem_byN.mp (List.mem_of_mem_take hx2))]
    exact q3 x hx2
end Nn
/-! markets: what A_mkfam, A_duo and L_k53 share with laws that lack their defs -/
namespace Nn
open PySem L2
/-- a text that may be looked at as data -/
def Txt (z : Str) : Prop := PyData.canLay0 (.str z) = true
section
variable {F G : Addr → Prop} {S L : SM} {m : TM}
theorem Own.fg {x : Addr} (h : F x ∨ G x) : Own F G S x := h.elim .inl fun z => .inr (.inl z)
def AlkS (S L : SM) (hs : List Nat) : Prop := ∀ x ∈ hs, (L.ks x).Nodup ∧ (∀ y, y ∈ L.ks x ↔ y ∈ S.ks x) ∧ ∀ k ∈ S.ks x, L.vl x k = S.vl x k ∧ L.tx (S.vl x k) = S.tx (S.vl x k)
theorem AlkS.refl {hs : List Nat} (h : ∀ x ∈ hs, (S.ks x).Nodup) : AlkS S S hs := fun x hx => ⟨h x hx, fun _ => Iff.rfl, fun _ _ => ⟨rfl, rfl⟩⟩
theorem TM.hushed_houses {n : Nat} : (m.hushed n).houses = m.houses := by
  unfold TM.hushed
  split <;> rfl
/-- the one at a place, round and round -/
def pickN (l : List Nat) (x : Nat) : Nat := l.getD (x % l.length) 0
theorem pick_at {l : List Nat} {x : Nat} (hl : l ≠ []) : pickN l x ∈ l ∧ atI (l.map nV) ((x : Int) % ((l.length : Nat) : Int)) = some (nV (pickN l x)) := by
  have hpos : 0 < l.length := List.length_pos_iff.mpr hl
  have hlt : x % l.length < l.length := Nat.mod_lt _ hpos
  have e : pickN l x = l[x % l.length] := by unfold pickN; rw [List.getD_eq_getElem?_getD, List.getElem?_eq_getElem hlt]; rfl
  rw [e]
  exact ⟨List.getElem_mem hlt, by rw [← Int.natCast_emod]; exact atI_nV hlt⟩
end
end Nn
/-! texts -/
namespace Nn
open PySem PySem.Spec PyProof.Rows L2
def rAddS : R2 := fun x y H Q => ∃ i j, x = .str i ∧ y = .str j ∧ i.length + j.length ≤ sizeLine ∧ Q (.str (i ++ j)) H
theorem op_addS {X : Cx} : OpR X (binaryOp .Add) rAddS := op_add_str
theorem x_addS {H : Hp} {Q : VK} {i j : Str} (hz : i.length + j.length ≤ sizeLine) (h : Q (.str (i ++ j)) H) : rAddS (.str i) (.str j) H Q := ⟨i, j, rfl, rfl, hz, h⟩
def rStrI : List V → Hp → VK → Prop := fun xs H Q => ∃ i, xs = [.int i] ∧ i.natAbs.log2 < 1920 ∧ Q (.str (toString i)) H
theorem cb_strI {X : Cx} : CallR X (.type "str") rStrI := call_str_int
theorem x_strI {H : Hp} {Q : VK} {i : Int} (hz : i.natAbs.log2 < 1920) (h : Q (.str (toString i)) H) : rStrI [.int i] H Q := ⟨i, rfl, hz, h⟩
end Nn
/-! sorted(xs, key=lambda x: g ^ x), g a name of the def that the lambda captures -/
namespace Nn
open PySem PySem.Spec PyProof.Rows L2 NdefX LamX
/-- by nearness -/
def sortX (g : Nat) (l : List Nat) : List Nat := l.mergeSort fun a b => decide (g ^^^ a ≤ g ^^^ b)
theorem sortX_byN {g : Nat} {l : List Nat} (nd : l.Nodup) : sortX g l = byN g l := by
  refine byN_uniq ?_ fun z => (List.mergeSort_perm l _).mem_iff
  have hs : (sortX g l).Pairwise fun a b => decide (g ^^^ a ≤ g ^^^ b) = true := List.pairwise_mergeSort (fun a b c h1 h2 => by simp only [decide_eq_true_eq] at h1 h2 ⊢; omega) (fun a b => by simp only [Bool.or_eq_true, decide_eq_true_eq]; omega) l
  have nd2 : (sortX g l).Nodup := (List.mergeSort_perm l _).nodup_iff.mpr nd
  refine (hs.and nd2).imp fun {a b} h => ?_
  obtain ⟨h1, h2⟩ := h
  have h1 := of_decide_eq_true h1
  have h3 : g ^^^ a ≠ g ^^^ b := fun e => h2 (xor_inj e)
  omega
theorem sortX_mem {g z : Nat} {l : List Nat} : z ∈ sortX g l ↔ z ∈ l := (List.mergeSort_perm l _).mem_iff
theorem sortX_len {g : Nat} {l : List Nat} : (sortX g l).length = l.length := List.length_mergeSort l
/-- the call of such a lambda: pure -/
theorem lam_call {prog : Program} {w : World} {A : Around} {s : Shared} {f c' : Addr} {q gx x : Str} {params : Arguments} {body : Expr} {scope : Scope} {cl : List (Str × Addr)} {pm ctv : Value} {cg : Addr} {g n : Nat} {tg tn : Tok} {a b : Str} {pa pb bp : Pos}
    (ho : s.heap.get? f = some (PySem.W.kla_obj "<lambda>" q params body scope cl pm c' ctv)) (hc : s.heap.CodeRec (.ref c') q) (lim : s.heap.NoLimit) (hroom : A.depth < recursionLimit)
    (hk : scope.kind = .function) (hco : scope.isCoroutine = false) (hgen : scope.isGenerator = false) (hcell : ∀ y ∈ scope.names, y.2 ≠ .cell) (hx : scope.names.lookup x = some .local) (hg : scope.names.lookup gx = some .free)
    (hb : ∀ v, bindArgs (PySem.W.kla_fn "<lambda>" q params body scope cl pm (.ref c') ctv) ⟨[v], []⟩ = pure [(x, v)])
    (hbody : body = .BinOp (.Name a pa) .BitXor (.Name b pb) bp) (hab : (a = gx ∧ b = x) ∨ (a = x ∧ b = gx))
    (hcg : cl.lookup gx = some cg) (hgc : s.heap.IsCell cg (some (.int g tg))) (hdx : (x == ("__debug__" : Str)) = false) (hdg : (gx == ("__debug__" : Str)) = false) (hcd : (gx == ("__classdict__" : Str)) = false) :
    wpAny (model prog w) A (call (.ref f) [.int n tn]) (PySem.W.KeyPure (.int ((g ^^^ n : Nat) : Int)) s) (fun _ _ => False) s := by
  refine wpAny_call (PySem.W.kla_callFunE hroom ho rfl hco hgen rfl hc ?_)
  rw [hb]
  refine wpAny_pure (wpAny_newFunctionEnv hcell (fun y hy => ?_) (fun h₁ hns hsb => ⟨lim.fresh _ hsb, ?_⟩) hk)
  · obtain rfl := List.mem_singleton.mp hy; exact hx
  · refine PySem.W.kla_codeExpr ?_
    have kp : ∀ b o, s.heap.get? b = some o → h₁.get? b = some o := fun b o e => hsb.extBut b o (Nat.ne_of_lt (Heap.lt_size e)) (Heap.get?_push_of_some _ e)
    have cellK : h₁.IsCell cg (some (.int g tg)) := by obtain ⟨o, h1, h2⟩ := hgc; exact ⟨o, kp _ _ h1, h2⟩
    have hl : ([(x, Value.int n tn)] : List (Str × Value)).reverse.lookup x = some (.int n tn) := by simp [List.lookup]
    rw [hbody]
    refine wpAny_BinOp ?_
    rcases hab with ⟨rfl, rfl⟩ | ⟨rfl, rfl⟩
    · refine wpAny_Name (wpAny_loadName_free hk hg hcg cellK ?_ hcd) hdg
      refine wpAny_Name (wpAny_loadName_local hk hx hns hl ?_) hdx
      refine xor_int ?_
      refine ⟨_, _, rfl, kp, ?_⟩
      rw [Bits.bitXor_pp (Int.natCast_nonneg _) (Int.natCast_nonneg _)]
      exact .int _ _
    · refine wpAny_Name (wpAny_loadName_local hk hx hns hl ?_) hdx
      refine wpAny_Name (wpAny_loadName_free hk hg hcg cellK ?_ hcd) hdg
      refine xor_int ?_
      refine ⟨_, _, rfl, kp, ?_⟩
      rw [Bits.bitXor_pp (Int.natCast_nonneg _) (Int.natCast_nonneg _), Nat.xor_comm]
      exact .int _ _
section
variable {X : Cx} {pins : List (Addr × Obj)} {σ : L2.St} {H : Hp} {s : Shared}
/-- the lambda is made: its code object is new, or found in the table -/
theorem lam_make {c P : Addr} {params : Arguments} {body : Expr} {scope : Scope} {pos : Pos} {E Q : Value → Shared → Prop} (I : Inv X pins σ H s) (TB : TabB X.base X.mg c P) (hcode : X.env.code = .ref c)
    (hn : nmAll pos.line pos.col = X.env.qual ++ "<lambda>") (hT : TabN H P nmAll) (hdef : defaultsOf params X.env = ([], [])) (hfree : ∀ y ∈ scope.names, y.2 = .free → ∃ c, X.env.cells.lookup y.1 = some c)
    (h : ∀ (f c' : Addr) (pm ctv : Value) (H1 : Hp) (s' : Shared), Inv X pins σ H1 s' → Ex H H1 → s'.heap.get? f = some (PySem.W.kla_obj "<lambda>" (X.env.qual ++ "<lambda>") params body scope (cloFrom X.env.cells scope.names []) pm c' ctv) →
      s'.heap.CodeRec (.ref c') (X.env.qual ++ "<lambda>") → Q (.ref f) s') :
    wpAny (model X.prog X.w) X.A (eval (.Lambda params body scope pos) X.env) Q E s := by
  obtain ⟨ps, hP, ht, ha⟩ := hT
  refine PySem.W.kla_eval hdef ?_
  have bP : s.heap.BuiltinsAt X.mg P := TB.bm.keeps I.bk
  have hP' : s.heap.get? P = some { cls := .none, data := .fields ps } := I.hok P _ hP
  cases hc : codeAmong pos ps.toList with
  | none =>
    refine PySem.W.kla_makeFunction (mg := X.mg) (c := c) (P := P) (ps := ps) (closure_ok hfree) I.ok.glob (I.mod.glob.keeps I.bk) hcode (TB.code.keeps I.bk) hP' ht hc TB.gP bP fun c' ctv h' tk hx hge hlt hrec htb => ?_
    obtain ⟨c2, oc, vs, t, e2, hoc, hd, hv⟩ := hrec
    cases e2
    have nC : H c' = none := I.hok.fresh hge
    have I1 := inv_table (t' := tk) (more := #[rawInt pos.line, rawInt pos.col, .ref c']) (h' := h'.push (PySem.W.kla_obj "<lambda>" (X.env.qual ++ "<lambda>") params body scope (cloFrom X.env.cells scope.names []) ((X.mg "__name__").getD .none) c' ctv)) I hP
      (fun b o hb e => Heap.get?_push_of_some _ (hx b o hb e)) (Heap.get?_push_of_some _ htb) hge ⟨oc, vs, t, Heap.get?_push_of_some _ hoc, hd, hv⟩
    have eL : (ps ++ #[rawInt pos.line, rawInt pos.col, .ref c']).toList = ps.toList ++ [rawInt pos.line, rawInt pos.col, .ref c'] := by simp
    have hE : ExtN H (upd (upd H P (.tbl (ps ++ #[rawInt pos.line, rawInt pos.col, .ref c']))) c' (CodeO c' (X.env.qual ++ "<lambda>"))) := fun b o e n => by
      rw [upd_ne (ne_of_none e nC), upd_ne (fun z => n ps (Option.some.inj (e.symm.trans (by rw [z]; exact hP))))]
      exact e
    refine h h'.objs.size c' ((X.mg "__name__").getD .none) ctv _ _ I1 ⟨fun a o e n _ => hE a o e fun ps z => by rw [z] at n; exact n, fun P' ⟨ps', a1, a2, a3⟩ => ?_, fun b e => upd_none (upd_none e)⟩ (Heap.get?_push_size _ rfl) ⟨c', oc, vs, t, rfl, Heap.get?_push_of_some _ hoc, hd, hv⟩
    by_cases hb : P' = P
    · subst hb
      rw [hP] at a1
      cases a1
      refine ⟨_, by rw [upd_ne (ne_of_none hP nC), upd_same], by rw [eL]; exact PySem.TriplesOk_snoc _ _ _ _ ht, fun p' cv hcv => ?_⟩
      rw [eL] at hcv
      rcases among_app2 _ ht hcv with z | ⟨z, z1, z2⟩
      · obtain ⟨c0, e1, e2⟩ := ha p' cv z
        exact ⟨c0, e1, hE _ _ e2 codeO_ne⟩
      · refine ⟨c', z, ?_⟩
        rw [← z1, ← z2, hn]
        exact upd_same
    · refine ⟨ps', by rw [upd_ne (ne_of_none a1 nC), upd_ne hb]; exact a1, a2, fun p' cv hcv => ?_⟩
      obtain ⟨c0, e1, e2⟩ := a3 p' cv hcv
      exact ⟨c0, e1, hE _ _ e2 codeO_ne⟩
  | some cv =>
    obtain ⟨c', e, hco⟩ := ha pos cv hc
    subst e
    rw [hn] at hco
    refine PySem.W.kla_makeFunctionHit (mg := X.mg) (c := c) (P := P) (ps := ps) (closure_ok hfree) I.ok.glob (I.mod.glob.keeps I.bk) hcode (TB.code.keeps I.bk) hP' ht hc bP fun ctv h' tk hx hsz => ?_
    have I1 : Inv X pins σ H { s with heap := h'.push (PySem.W.kla_obj "<lambda>" (X.env.qual ++ "<lambda>") params body scope (cloFrom X.env.cells scope.names []) ((X.mg "__name__").getD .none) c' ctv), toks := tk } := I.kept fun b o e => Heap.get?_push_of_some _ (hx b o e)
    exact h h'.objs.size c' ((X.mg "__name__").getD .none) ctv H _ I1 Ex.refl (Heap.get?_push_size _ rfl) (codeO_at I1.hok hco)
end
/-- the words of such a lambda -/
structure LamXor (sc : Scope) (scope : Scope) (gx x : Str) : Prop where
  kind : scope.kind = .function
  co : scope.isCoroutine = false
  gen : scope.isGenerator = false
  nocell : ∀ y ∈ scope.names, y.2 ≠ .cell
  loc : scope.names.lookup x = some .local
  free : scope.names.lookup gx = some .free
  frs : ∀ y ∈ scope.names, y.2 = .free → sc.names.lookup y.1 = some .cell ∨ sc.names.lookup y.1 = some .free
  dx : (x == ("__debug__" : Str)) = false
  dg : (gx == ("__debug__" : Str)) = false
  cd : (gx == ("__classdict__" : Str)) = false
def lamXorB (sc : Scope) (scope : Scope) (gx x : Str) : Bool :=
  decide (scope.kind = .function) && !scope.isCoroutine && !scope.isGenerator && scope.names.all (fun y => !decide (y.2 = .cell)) && decide (scope.names.lookup x = some .local) && decide (scope.names.lookup gx = some .free) &&
    scope.names.all (fun y => !decide (y.2 = .free) || decide (sc.names.lookup y.1 = some .cell) || decide (sc.names.lookup y.1 = some .free)) && !(x == ("__debug__" : Str)) && !(gx == ("__debug__" : Str)) && !(gx == ("__classdict__" : Str))
theorem lamxor_by {sc scope : Scope} {gx x : Str} (h : lamXorB sc scope gx x = true) : LamXor sc scope gx x := by
  unfold lamXorB at h
  simp only [Bool.and_eq_true, Bool.or_eq_true, Bool.not_eq_true', decide_eq_true_eq, decide_eq_false_iff_not, List.all_eq_true] at h
  obtain ⟨⟨⟨⟨⟨⟨⟨⟨⟨h1, h2⟩, h3⟩, h4⟩, h5⟩, h6⟩, h7⟩, h8⟩, h9⟩, h10⟩ := h
  exact ⟨h1, h2, h3, h4, h5, h6, fun y hy e => by
    rcases h7 y hy with (z | z) | z
    · exact absurd e z
    · exact .inl z
    · exact .inr z, h8, h9, h10⟩
def RSx (K : PySem.W.Frag) (P : Addr) (gi : Nat) (σ : L2.St) (Q : VK) : VK := fun x H1 => ∃ (a : Addr) (ns : List Nat) (g : Nat), x = .ref a ∧ SqL K H1 a (ns.map nV) ∧ σ[gi]? = some (some (nV g)) ∧ TabN H1 P nmAll ∧ ∀ p H2, H1 p = none → Ex H1 H2 → H2 p = some (.lst ((sortX g ns).map nV)) → Q (.ref p) H2
def tSortX (K : PySem.W.Frag) (P : Addr) (gi : Nat) (te : TE) : TE := fun σ H Q => te σ H (RSx K P gi σ Q)
theorem e_sortx {K : PySem.W.Frag} {P : Addr} {gi : Nat} {te : TE} {σ : L2.St} {H : Hp} {Q : VK} : tSortX K P gi te σ H Q = te σ H (RSx K P gi σ Q) := rfl
theorem x_sortx {K : PySem.W.Frag} {P : Addr} {gi : Nat} {σ : L2.St} {H : Hp} {Q : VK} {a : Addr} {ns : List Nat} {g : Nat} (hS : SqL K H a (ns.map nV)) (hg : σ[gi]? = some (some (nV g))) (hT : TabN H P nmAll) (h : ∀ p H2, H p = none → Ex H H2 → H2 p = some (.lst ((sortX g ns).map nV)) → Q (.ref p) H2) : RSx K P gi σ Q (.ref a) H := ⟨a, ns, g, rfl, hS, hg, hT, h⟩
theorem eachNat : ∀ {ns : List Nat} {us : List Value}, Vals (ns.map nV) us → PySem.W.EachIs (fun (v : Value) (n : Nat) => ∃ t, v = .int n t) us ns
  | [], _, h => by cases h; exact .nil
  | n :: r, _, h => by
    cases h with
    | cons h1 h2 => exact .cons h1 (eachNat h2)
theorem natVals : ∀ {ns : List Nat} {us : List Value}, PySem.W.EachIs (fun (v : Value) (n : Nat) => ∃ t, v = .int n t) us ns → Vals (ns.map nV) us
  | [], _, h => by cases h; exact .nil
  | n :: r, _, h => by
    cases h with
    | cons h1 h2 => exact .cons h1 (natVals h2)
theorem pe_sortX {X : Cx} {e : Expr} {te : TE} {p pos lp kp : Pos} {params : Arguments} {body : Expr} {scope : Scope} {c P : Addr} {gi k : Nat} {gx x a b : Str} {pa pb bp : Pos}
    (he : PE X e te) (TB : TabB X.base X.mg c P) (hcode : X.env.code = .ref c) (hn : nmAll lp.line lp.col = X.env.qual ++ "<lambda>") (hg : Gl X "sorted") (hm : X.mg "sorted" = none) (hr : Room k X.A)
    (L : LamXor X.env.scope scope gx x) (hdef : defaultsOf params X.env = ([], [])) (hb : ∀ q cl pm cdv ctv v, bindArgs (PySem.W.kla_fn "<lambda>" q params body scope cl pm cdv ctv) ⟨[v], []⟩ = pure [(x, v)])
    (hbody : body = .BinOp (.Name a pa) .BitXor (.Name b pb) bp) (hab : (a = gx ∧ b = x) ∨ (a = x ∧ b = gx)) (hgi : X.N[gi]? = some gx)
    (hs : starEach [e] X.env = (false, eval e X.env) :: starEach [] X.env := by rfl)
    (h1 : backTo pos (starEach [e] X.env) = (false, eval e X.env) :: backTo pos (starEach [] X.env) := by rfl) (hpl : (backTo pos (starEach [e] X.env)).any (·.1) = false := by rfl) :
    PE X (.Call (.Name "sorted" p) [e] [⟨some "key", .Lambda params body scope lp, kp⟩] pos) (tSortX X.K P gi te) := by
  refine ⟨fun pins s σ H Q I h => ?_⟩
  refine wpAny_Call_Name_kw (ld_blt I hg hm rfl ?_)
  refine PyProof.Rows.callWith_kw (thn ((pa_cons he pa_nil hs).run pos pins s σ H (fun vs H1 => match vs with
    | [x] => RSx X.K P gi σ Q x H1
    | _ => False) I h) fun us s1 ⟨vs, H1, I1, r1, q1⟩ => ?_) h1 hpl rfl rfl
  match vs, r1, q1 with
  | [v], r1, ⟨la, ns, g, ev, hS, hσ, hT, q⟩ =>
    subst ev
    obtain rfl := Vals.ref1 r1
    have hfree : ∀ y ∈ scope.names, y.2 = .free → ∃ c, X.env.cells.lookup y.1 = some c := fun y hy e => (L.frs y hy e).elim (fun z => I1.ok.has _ (.inl z)) fun z => I1.ok.has _ (.inr z)
    show wpAny _ _ (evalAll ((do let v ← eval (.Lambda params body scope lp) X.env; standAt pos; pure v) :: [])) _ _ s1
    refine wpAny_evalAll_cons (wpAny_bind (lam_make I1 TB hcode hn hT hdef hfree fun f c' pm ctv H2 s2 I2 ex2 ho hcr => wpAny_bind (wpAny_standAt (wpAny_pure (wpAny_evalAll_nil ?_)))))
    show wpAny _ _ (call (.builtin "sorted") [.ref la] [(Str.ofString "key", .ref f)]) _ _ s2
    obtain ⟨its, rv, hl, hz⟩ := I2.list (ex2.ls hS)
    have ei := eachNat rv
    have hmem : (gx, NameKind.free) ∈ scope.names := PySem.mem_of_lookup L.free
    obtain ⟨m, hns, hl2⟩ := I2.loc
    have hv := L.frs _ hmem rfl
    obtain ⟨u, ru, lk⟩ := hl2 gi gx (nV g) hgi hσ (hv.elim (fun z => .inr (.inl z)) fun z => .inr (.inr z))
    obtain ⟨tg, rfl⟩ := ru
    obtain ⟨cg, hcg, hcell⟩ : ∃ cg, X.env.cells.lookup gx = some cg ∧ s2.heap.IsCell cg (some (.int g tg)) := by
      rcases lk with ⟨z, _⟩ | ⟨_, c, e1, e2⟩
      · have z : X.env.scope.names.lookup gx = some .local := z
        rcases hv with k | k <;> rw [show X.env.scope.names.lookup gx = _ from k] at z <;> cases z
      · exact ⟨c, e1, e2⟩
    have hclo := clo_has hfree hmem hcg
    refine PySem.W.sorted_key_data (b := false) (R := fun (v : Value) (n : Nat) => ∃ t, v = .int n t) (fun n : Nat => .int ((g ^^^ n : Nat) : Int)) hl.isList ei (PySem.W.AllAlike.of fun _ _ => by simp [PySem.W.alike]) (PySem.W.Sortable.others fun _ => ⟨by simp, by simp⟩) (by rw [List.length_map] at hz; exact hz)
      (fun n _ => by have := hr.un; simp only [PyData.depth]; omega) (ksk_s1 _ _) (fun _ => ksk_l1 _ _) (fun _ => ksk_t1 _ _) (fun v n ⟨t, hv⟩ _ h tk kp => ?_) fun out c h' tk kp fresh hD hlen eo => ?_
    · subst hv
      refine lam_call (tg := tg) (s := { s2 with heap := h, toks := tk }) (kp _ _ ho) ?_ (I2.nolimit.keeps kp) hr.depth L.kind L.co L.gen L.nocell L.loc L.free (hb _ _ _ _ _) hbody hab hclo ?_ L.dx L.dg L.cd
      · obtain ⟨c2, oc, vs, t, e2, hoc, hd, hv⟩ := hcr
        exact ⟨c2, oc, vs, t, e2, kp _ _ hoc, hd, hv⟩
      · obtain ⟨o, z1, z2⟩ := hcell
        exact ⟨o, kp _ _ z1, z2⟩
    · rw [PySem.W.dataLe_int (fun n : Nat => ((g ^^^ n : Nat) : Int))] at eo
      have e3 : (fun a b : Nat => decide (((g ^^^ a : Nat) : Int) ≤ ((g ^^^ b : Nat) : Int))) = fun a b => decide (g ^^^ a ≤ g ^^^ b) := by
        funext a b; exact decide_eq_decide.mpr Int.ofNat_le
      rw [e3] at eo
      have rv2 := natVals eo
      have nP : H2 (s2.heap.objs.size + 1) = none := I2.hok.fresh (Nat.le_succ _)
      refine ⟨.ref _, upd H2 (s2.heap.objs.size + 1) (.lst ((sortX g ns).map nV)), I2.laid (t' := tk) kp (Nat.le_succ _) ⟨?_, _, c, rv2, hD⟩, rfl, q _ _ (ex2.back _ nP) (ex2.newT nP) upd_same⟩
      rw [List.length_map] at hz ⊢
      unfold sortX
      rw [List.length_mergeSort]
      exact hz
end Nn
/-! o.m(e, k = v): a method called with a keyword -/
namespace Nn
open PySem PySem.Spec PyProof.Rows L2
def tMethK (C : Addr) (m : Str) (n j : Nat) (sp : Sp) (gV : List V → List V → List V) (E : XK) (ta : TE) (t tk : L2.TA) : TE := fun σ H Q => ta σ H fun x H1 => ∃ a dx fs, x = .ref a ∧ H1 a = some (.ins C dx fs) ∧ fs.lookup m = none ∧ t σ H1 fun vs H2 => tk σ H2 fun zs H3 => (x :: vs).length = n ∧ zs.length = j ∧ sp (gV (x :: vs) zs) H3 Q E
theorem pe_methKw {X : Cx} {CX : CXT} {k n : Nat} {C f : Addr} {fd : FuncData} {ps ks : List Str} {sp : Sp} {E : XK} {m : Str} {o e : Expr} {es : List Expr} {kws : List Keyword} {ta : TE} {t tk : L2.TA} {apos pos : Pos} {pl : Sem Bool} {g : List Value → List Value → List Value} {gV : List V → List V → List V}
    (he : PE X o ta) (c : Cls X.K C) (hm : Meth X.K C m f) (F : FnOk X.prog X.w X.K X.mg X.base CX k f fd ps sp) (hr : Room k X.A) (hb : KBn X.K fd ps n ks g gV) (hx : Passes CX X E) (ha : PA X (e :: es) t) (hkw : PK X kws tk)
    (hall : (backToKw pos (keywordEach kws X.env)).all (·.1.isSome) = true := by rfl) (hks : (backToKw pos (keywordEach kws X.env)).filterMap (·.1) = ks := by rfl)
    (hst : starEach (e :: es) X.env = (false, eval e X.env) :: starEach es X.env := by rfl)
    (hpl : ((backTo pos (starEach (e :: es) X.env)).any (·.1) || (backToKw pos (keywordEach kws X.env)).any (·.1.isNone)) = false := by rfl)
    (ht : eval (.Call (.Attribute o m apos) (e :: es) kws pos) X.env = (do
      let ov ← eval o X.env
      standAt apos.atName
      let (f, first) ← holding [ov] (getMethod ov m pl)
      callWith pos f first (backTo pos (starEach (e :: es) X.env)) (backToKw pos (keywordEach kws X.env))) := by rfl) :
    PE X (.Call (.Attribute o m apos) (e :: es) kws pos) (tMethK C m n ks.length sp gV E ta t tk) := by
  refine ⟨fun pins s σ H Q I h => ?_⟩
  refine PySem.W.methodCall_KW (pl := pl) (thn (he.run pins s σ H _ I h) fun u s1 ⟨x, H1, I1, rx, a, dx, fs, ex, ea, l, q⟩ => ?_) ht
  subst ex
  obtain rfl : u = Value.ref a := rx
  refine getmeth_ok I1 ea c hm l ?_
  refine PySem.W.callWith_KW (first := [.ref a]) (h₀ := X.base) I.ok.mod.kin hm.kp hall (thn (ha.run pos pins s1 σ H1 _ I1 q) fun us s2 ⟨vs, H2, I2, r, q2⟩ => ?_) hpl hst
  refine thn (hkw.run pos pins s2 σ H2 _ I2 q2) fun ws s3 ⟨zs, H3, I3, rz, l1, l2, q3⟩ => ⟨I3.kIn, ?_⟩
  rw [hks]
  exact run_fnN (us := .ref a :: us) (vs := .ref a :: vs) F hr hb hx I3 (.cons rfl r) rz l1 l2 q3
/-- the positional values, then the keywords' -/
theorem FunD.bindsK {K : PySem.W.Frag} {x qual : Str} {params : Arguments} {body : List Stmt} {scope : Scope} {dvs : List V} {kws : List (Str × V)} {f : Addr} {fd : FuncData} {ps : List Str} (F : FunD K x qual params body scope dvs kws f fd) (n : Nat) (ks : List Str) (hd : dvs ≠ [])
    (h : ∀ (T : Addr) (kV doc pm : Value) (an : Option Addr) (cdv ct : Value) (us its ws : List Value), us.length = n → its.length = dvs.length → ws.length = ks.length →
      ∃ k, bindArgs (PySem.W.fnOf x qual params body scope (.ref T) kV doc pm an cdv ct) ⟨us, ks.zip ws⟩ = seqItems? (.ref T) >>= k ∧ k (some its.toArray) = pure (ps.zip (us ++ ws))) : KBn K fd ps n ks (fun us ws => us ++ ws) (fun vs zs => vs ++ zs) := by
  obtain ⟨oc, od, dV, kV, doc, pm, an, cdv, ct, osl, rfl, lk, hcd, hD, hK⟩ := F.ex
  rcases hD with ⟨e, _⟩ | ⟨_, T, o, its, m, rfl, lT, oT, rT⟩
  · exact absurd e hd
  · refine ⟨fun s us ws X l1 l2 => ?_, fun r1 r2 => r1.append r2⟩
    obtain ⟨k, e1, e2⟩ := h T kV doc pm an cdv ct us its ws l1 rT.length.symm l2
    refine BindsTo.of_looks fun M => ?_
    rw [e1]
    exact looks_items X lT oT (.of_pure e2)
def RMtK (C : Addr) (m : Str) (n j : Nat) (sp : Sp) (gV : List V → List V → List V) (E : XK) (t tk : L2.TA) (σ : L2.St) (Q : VK) : VK := fun x H1 => ∃ a dx fs, x = .ref a ∧ H1 a = some (.ins C dx fs) ∧ fs.lookup m = none ∧ t σ H1 fun vs H2 => tk σ H2 fun zs H3 => (x :: vs).length = n ∧ zs.length = j ∧ sp (gV (x :: vs) zs) H3 Q E
theorem e_methK {C : Addr} {m : Str} {n j : Nat} {sp : Sp} {gV : List V → List V → List V} {E : XK} {ta : TE} {t tk : L2.TA} {σ : L2.St} {H : Hp} {Q : VK} : tMethK C m n j sp gV E ta t tk σ H Q = ta σ H (RMtK C m n j sp gV E t tk σ Q) := rfl
theorem x_methK {C : Addr} {m : Str} {n j : Nat} {sp : Sp} {gV : List V → List V → List V} {E : XK} {t tk : L2.TA} {σ : L2.St} {H : Hp} {Q : VK} {a dx : Addr} {fs : List (Str × V)} (h : H a = some (.ins C dx fs)) (hl : fs.lookup m = none)
    (k : t σ H fun vs H2 => tk σ H2 fun zs H3 => ((V.ref a) :: vs).length = n ∧ zs.length = j ∧ sp (gV (.ref a :: vs) zs) H3 Q E) : RMtK C m n j sp gV E t tk σ Q (.ref a) H := ⟨a, dx, fs, rfl, h, hl, k⟩
section
variable {K : PySem.W.Frag} {mg : Str → Option Value} {base : Heap}
theorem bK_Town_come (T : Tx K mg base) : KBn K T.d_Town_come ["self", "name", "door"] 2 ["door"] (fun us ws => us ++ ws) (fun vs zs => vs ++ zs) :=
  FunD.bindsK T.F_Town_come 2 ["door"] (List.cons_ne_nil _ _) fun T kV doc pm an cdv ct us its ws hu hi hw => match us, its, ws, hu, hi, hw with | [_, _], [_], [_], _, _, _ => ⟨_, rfl, rfl⟩
end
end Nn
/-! numbers and names of k72, k73 (from A_k71) -/
namespace Nn
open PySem L2
theorem sum_mod_inj {a o w i j : Nat} (ho : o % 2 = 1) (hi : i < 2 ^ w) (hj : j < 2 ^ w) (e : (a + i * o) % 2 ^ w = (a + j * o) % 2 ^ w) : i = j := by
  have key : ∀ {i j : Nat}, i ≤ j → j < 2 ^ w → (a + i * o) % 2 ^ w = (a + j * o) % 2 ^ w → i = j := fun {i j} hle hj e => by
    have hd : 2 ^ w ∣ (j - i) * o := by
      have e2 : a + j * o = (a + i * o) + (j - i) * o := by
        rw [Nat.sub_mul]
        have : i * o ≤ j * o := Nat.mul_le_mul_right _ hle
        omega
      rw [e2] at e
      have q := (Nat.sub_mod_eq_zero_of_mod_eq e.symm)
      rw [Nat.add_sub_cancel_left] at q
      exact Nat.dvd_of_mod_eq_zero q
    have hc : Nat.Coprime (2 ^ w) o := by
      refine Nat.Coprime.pow_left _ ?_
      rw [Nat.coprime_iff_gcd_eq_one, Nat.gcd_rec, ho]
      rfl
    have hd2 := hc.dvd_of_dvd_mul_right hd
    have := Nat.eq_zero_of_dvd_of_lt hd2 (by omega : j - i < 2 ^ w)
    omega
  rcases Nat.le_total i j with h | h
  · exact key h hj e
  · exact (key h hi e.symm).symm
end Nn
namespace Nn
open PySem L2
section
variable {P : Program} {w : World} {K : PySem.W.Frag} {mg : Str → Option Value} {base : Heap} {H H' : Hp} {Q : VK} {E : XK}
def sp_l_cell_at (_ : Tx K mg base) : Sp := fun vs H Q E => ∃ (p_s : Addr) (s : List Int) (k : Nat), vs = [.ref p_s, .int k] ∧ (SqL K H p_s (s.map V.int)) ∧ (∀ z : Int, Q (.int z) H)
theorem wc_l_cell_at {T : Tx K mg base} {p_s : Addr} {s : List Int} {k : Nat} {i1 : Int} (e1 : i1 = k) (c0 : SqL K H p_s (s.map V.int)) (h : ∀ z : Int, Q (.int z) H) : sp_l_cell_at T [.ref p_s, .int i1] H Q E := by
  subst e1
  exact ⟨p_s, s, k, rfl, c0, h⟩
theorem ok_l_cell_at (T : Tx K mg base) : FnOk P w K mg base CX0 1 T.a_l_cell_at T.d_l_cell_at ["_law_script", "_law_k"] (sp_l_cell_at T) := by
  refine T.F_l_cell_at.okD sc_l_cell_at (fun vs H Q E h => ?_) (fun cdv A outer s H vs Q E hr h => ?_)
  · obtain ⟨p_s, s, k, rfl, hS0, q⟩ := h; rfl
  · obtain ⟨p_s, s, k, rfl, hS0, q⟩ := h
    have hu := hu_of hr
    have c_Bucket := T.c_Bucket; have n_Bucket_room := T.n_Bucket_room; have n_Bucket_line := T.n_Bucket_line; have c_Table := T.c_Table; have n_Table_own := T.n_Table_own; have n_Table_wide := T.n_Table_wide; have n_Table_room := T.n_Table_room; have n_Table_buckets := T.n_Table_buckets; have c_Town := T.c_Town; have n_Town_wide := T.n_Town_wide; have n_Town_room := T.n_Town_room; have n_Town_tables := T.n_Town_tables; have n_Town_hushed := T.n_Town_hushed; have n_Town_shelves := T.n_Town_shelves; have n_Town_layings := T.n_Town_layings
    refine ⟨_, (pss_cons (ps_if (pt_cmpR op_lt (pv 1) (pe_callB cb_len (by rfl) T.z_len PySem.boot_len (pa_cons (pv 0) pa_nil)) (nomark _))
      (pss_one (ps_ret (pe_ix ix_list (pv 0) (pv 1) (fun _ _ => rfl))))
      pss_nil)
      (pss_one (ps_ret pe_int))), ?_⟩
    rw [Nn.st_l_cell_at]; try rw [Nn.cxK]
    try rw [Nn.cxW]
    walk_at "wx"
    refine x_ifD (fun hk => ?_) (fun hk => ?_)
    · walk_at "wx"
      have hk' : k < s.length := by simpa using hk
      refine x_ixL hS0 (atI_map hk') ?_
      walk_at "wx"
      exact q _
    · walk_at "wx"
      exact q 0
def sp_l_number (_ : Tx K mg base) : Sp := fun vs H Q E => ∃ (c : Int) (k : Nat) (b : Bool), vs = [.int c, .int k, .bl b] ∧ (k ≤ 1000) ∧ (∀ r : Nat, Q (.int r) H)
theorem wc_l_number {T : Tx K mg base} {c : Int} {k : Nat} {b : Bool} {i1 : Int} (e1 : i1 = k) (c0 : k ≤ 1000) (h : ∀ r : Nat, Q (.int r) H) : sp_l_number T [.int c, .int i1, .bl b] H Q E := by
  subst e1
  exact ⟨c, k, b, rfl, c0, h⟩
theorem ok_l_number (T : Tx K mg base) : FnOk P w K mg base CX0 1 T.a_l_number T.d_l_number ["_law_cell", "_law_k", "_law_plain"] (sp_l_number T) := by
  refine T.F_l_number.okD sc_l_number (fun vs H Q E h => ?_) (fun cdv A outer s H vs Q E hr h => ?_)
  · obtain ⟨c, k, b, rfl, hpre, q⟩ := h; rfl
  · obtain ⟨c, k, b, rfl, hpre, q⟩ := h
    have hu := hu_of hr
    have c_Bucket := T.c_Bucket; have n_Bucket_room := T.n_Bucket_room; have n_Bucket_line := T.n_Bucket_line; have c_Table := T.c_Table; have n_Table_own := T.n_Table_own; have n_Table_wide := T.n_Table_wide; have n_Table_room := T.n_Table_room; have n_Table_buckets := T.n_Table_buckets; have c_Town := T.c_Town; have n_Town_wide := T.n_Town_wide; have n_Town_room := T.n_Town_room; have n_Town_tables := T.n_Town_tables; have n_Town_hushed := T.n_Town_hushed; have n_Town_shelves := T.n_Town_shelves; have n_Town_layings := T.n_Town_layings
    refine ⟨_, (pss_cons (ps_if (pt_val (pv 2))
      (pss_one (ps_ret (pe_op op_mod (pv 0) (pe_op op_pow pe_int pe_int))))
      pss_nil)
      (pss_cons (ps_set (i := 3) sc_l_number.nd rfl (Or.inl rfl) (pe_op op_mod (pe_op op_add (pe_op op_add (pe_op op_add (pe_op op_mul (pv 0) pe_int) (pe_op op_mul pe_int (pv 1))) (pe_op op_mul (pe_op op_mul pe_int (pv 1)) (pv 1))) pe_int) pe_int))
      (pss_cons (ps_set (i := 4) sc_l_number.nd rfl (Or.inl rfl) (pe_op op_mod (pe_op op_mul (pv 3) (pe_op op_add pe_int (pe_op op_mul pe_int (pv 1)))) pe_int))
      (pss_one (ps_ret (pe_op op_add (pe_op op_add (pe_op op_mul (pv 3) pe_int) (pv 4)) (pe_op op_mul (pe_op op_mod (pe_op op_mul (pv 4) pe_int) pe_int) (pe_op op_pow pe_int pe_int)))))))), ?_⟩
    rw [Nn.st_l_number]; try rw [Nn.cxK]
    try rw [Nn.cxW]
    walk_at "wx"
    have h60 : (0 : Int) < 10 ^ (60 : Int).toNat := by decide
    cases b with
    | true =>
      walk_at "wx"
      obtain ⟨x, hx⟩ := Int.eq_ofNat_of_zero_le (Int.emod_nonneg c (Int.ne_of_gt h60))
      rw [hx]
      exact q x
    | false =>
      walk_at "wx"
      generalize (c * 48271 + 69621 * (k : Int) + 7 * (k : Int) * (k : Int) + 11) = z
      obtain ⟨o, ho⟩ := Int.eq_ofNat_of_zero_le (Int.emod_nonneg z (show (2147483647 : Int) ≠ 0 by decide))
      rw [ho]
      have h1 : (o : Int) * (16807 + 2 * (k : Int)) % 2147483629 = ((o * (16807 + 2 * k) % 2147483629 : Nat) : Int) := by
        rw [Int.natCast_emod, Int.natCast_mul, Int.natCast_add, Int.natCast_mul]; rfl
      rw [h1]
      generalize o * (16807 + 2 * k) % 2147483629 = y
      have h2 : (o : Int) * 2147483629 + (y : Int) + (y : Int) * 40692 % 2147483587 * 10 ^ Int.toNat 19 = ((o * 2147483629 + y + y * 40692 % 2147483587 * 10 ^ 19 : Nat) : Int) := by
        rw [show (10 : Int) ^ Int.toNat 19 = 10000000000000000000 by decide, show 10 ^ 19 = 10000000000000000000 by decide]
        omega
      rw [h2]
      exact q _
end
end Nn
/-! k72, k73: a market, well kept -/
namespace Nn
open PySem L2
section
variable {P : Program} {w : World} {K : PySem.W.Frag} {mg : Str → Option Value} {base : Heap} {H H' : Hp} {Q : VK} {E : XK} {T : Tx K mg base} {A : TA} {F G X : Addr → Prop} {m : TM} {S : SM} {N k : List Nat}
/-- a loop that no break leaves: what stands behind it is out of sight -/
theorem ForW.byB {D : Ends} {σ : L2.St} {J : It} {n : Nat} {G : Hp → Prop} {Y : Nat → Hp → V → Hp → Prop} (w : Walk J n G Y) {g : TG} {tb : TS} (Pv : Nat → L2.St → Hp → Prop) (h0 : Pv 0 σ H) (hG : ∀ i σ H, i ≤ n → Pv i σ H → G H)
    (hs : ∀ (B : L2.St → Hp → Prop) i x σ H H', i < n → Pv i σ H → Y i H x H' → g x σ H' fun σ2 H2 => tb { D with nx := Pv (i + 1), ct := Pv (i + 1), bk := B } σ2 H2) (hd : ∀ σ H, Pv n σ H → D.nx σ H) : ForW g tb D J σ H := ForW.by w Pv h0 hG (hs D.nx) hd
theorem put_keys {g i x y : Nat} : ∀ {l : List Nat} {S : SM}, y ∈ (S.put l g i).ks x → y ∈ S.ks x ∨ y = g
  | [], _, h => .inl h
  | z :: l, S, h => by
    rcases put_keys (l := l) (S := S.put1 g i z) h with a | a
    · exact (SM.put1_keys.mp a).imp id (·.1)
    · exact .inr a
theorem takes_keys {h room x y : Nat} {vis : List Nat} (hk : ∀ x ∈ h :: vis, ∀ j ∈ S.ks x, j ∈ k) (hy : y ∈ (S.takes h vis room).ks x) (hx : ∀ j ∈ S.ks x, j ∈ k) : y ∈ k := by
  unfold SM.takes at hy
  rcases (SM.takeL_keys).2 hy with z | z
  · exact hx y z
  · obtain ⟨x1, hx1, hk1⟩ := List.mem_flatMap.mp (mem_sortU.mp z)
    exact hk x1 hx1 y hk1
theorem takes_same {h room : Nat} {vis : List Nat} : (S.takes h vis room).n = S.n ∧ (S.takes h vis room).ta = S.ta ∧ (S.takes h vis room).tx = S.tx := by
  have q := SM.takeL_same (h := h) (room := room) (l := h :: vis) (us := sortU ((h :: vis).flatMap S.ks)) (S := S)
  exact ⟨q.1, q.2.1, q.2.2.1⟩
/-- a market, well kept -/
structure Mk7 (T : Tx K mg base) (H : Hp) (A : TA) (F G : Addr → Prop) (m : TM) (S : SM) (N k : List Nat) : Prop where
  a : MkAt T H A F G m S
  ok : m.Ok N
  kk : ∀ x ∈ m.houses, ∀ j ∈ S.ks x, j ∈ k
  kz : k.length ≤ S.n
  kb : ∀ j ∈ k, j < 2 ^ m.wide
  tx : ∀ i, i < S.n → Txt (S.tx i)
theorem Mk7.ex (u : Mk7 T H A F G m S N k) (e : Ex H H') : Mk7 T H' A F G m S N k := ⟨u.a.ex' e, u.ok, u.kk, u.kz, u.kb, u.tx⟩
def Goes7 (T : Tx K mg base) (A : TA) (F G : Addr → Prop) (m : TM) (S : SM) (N : List Nat) (H : Hp) (R : Hp → Prop) : Prop := ∀ r H' A' F' G' m' S' k', r ≤ 1 → Fr (fun a => F a ∨ G a) H H' → A'.t = A.t → (∀ a, F' a ∨ G' a → F a ∨ G a ∨ H a = none) → Mk7 T H' A' F' G' m' S' N k' → m'.wide = m.wide → S'.n = S.n + r → R H'
theorem Goes7.ex {R : Hp → Prop} (q : Goes7 T A F G m S N H R) (e : Ex H H') : Goes7 T A F G m S N H' R := fun r H2 A' F' G' m' S' k' h1 f h2 h3 => q r H2 A' F' G' m' S' k' h1 (e.fr.trans f) h2 fun x z => (h3 x z).imp id fun y => y.imp id (e.back x)
theorem Mk7.same {m' : TM} (u : Mk7 T H A F G m S N k) (f : Fr F H H') (ta : TownAt T H' A F m') (hh : m'.houses = m.houses) (ok : m'.Ok N) (hw : m'.wide = m.wide) : Mk7 T H' A F G m' S N k :=
  ⟨u.a.town f ta rfl (fun a z => .inl z) hh, ok, by rw [hh]; exact u.kk, u.kz, by rw [hw]; exact u.kb, u.tx⟩
theorem Mk7.come {n q : Nat} {door : Option Nat} {A' : TA} {F' : Addr → Prop} {H2 : Hp} (u : Mk7 T H A F G m S N k) (hn : n ∉ m.houses) (hN : n ∈ N) (mk : MkAt T H2 A' F' (fun a => G a ∨ a = q) (m.comes n door) ((S.add n q).takes n (m.told n door) m.room)) :
    Mk7 T H2 A' F' (fun a => G a ∨ a = q) (m.comes n door) ((S.add n q).takes n (m.told n door) m.room) N k := by
  have ks0 : ∀ x, (S.add n q).ks x = if x = n then [] else S.ks x := fun _ => rfl
  have kx : ∀ x ∈ (m.comes n door).houses, ∀ j ∈ (S.add n q).ks x, j ∈ k := fun x hx j hj => by
    rw [ks0] at hj
    by_cases y : x = n
    · rw [if_pos y] at hj; cases hj
    · rw [if_neg y] at hj
      rw [TM.comes_houses] at hx
      exact u.kk x ((List.mem_append.mp hx).elim id fun w => absurd (List.mem_singleton.mp w) y) j hj
  have sm := takes_same (S := S.add n q) (h := n) (vis := m.told n door) (room := m.room)
  exact ⟨mk, u.ok.comes hn hN, fun x hx j hj => takes_keys (fun y hy => kx y ((List.mem_cons.mp hy).elim (fun e => by rw [e, TM.comes_houses]; simp) TM.told_house)) hj (kx x hx), by rw [sm.1]; exact u.kz, by rw [TM.comes_wide]; exact u.kb, fun i hi => by rw [sm.1] at hi; rw [sm.2.2]; exact u.tx i hi⟩
theorem Mk7.lay {st g q : Nat} {z : Str} {A' : TA} {H2 : Hp} (u : Mk7 T H A F G m S N k) (ha : m.aw st = true) (hg : g < 2 ^ m.wide) (hz : Txt z) (mk : MkAt T H2 A' F G (m.learn st g) ((S.laid q z).put (m.layTo st g) g S.n)) :
    Mk7 T H2 A' F G (m.learn st g) ((S.laid q z).put (m.layTo st g) g S.n) N (k ++ [g]) := by
  have s5 := SM.put_same (l := m.layTo st g) (S := S.laid q z) (g := g) (i := S.n)
  refine ⟨mk, u.ok.learn ha, fun x hx j hj => ?_, by rw [s5.1, List.length_append, List.length_singleton]; exact Nat.succ_le_succ u.kz, fun j hj => by rw [TM.learn_sizes.1]; exact (List.mem_append.mp hj).elim (u.kb j) fun z => by rw [List.mem_singleton.mp z]; exact hg, fun i hi => ?_⟩
  · rw [TM.learn_houses] at hx
    rcases put_keys hj with y | y
    · exact List.mem_append.mpr (.inl (u.kk x hx j y))
    · exact List.mem_append.mpr (.inr (List.mem_singleton.mpr y))
  · rw [s5.1] at hi
    rw [s5.2.2.1]
    have hi : i < S.n + 1 := hi
    show Txt (if i = S.n then z else S.tx i)
    by_cases e : i = S.n
    · rw [if_pos e]; exact hz
    · rw [if_neg e]; exact u.tx i (by omega)
theorem Mk7.cut {n : Nat} {H2 : Hp} (u : Mk7 T H A F G m S N k) (mk : MkAt T H2 A F G (m.cut n) S) : Mk7 T H2 A F G (m.cut n) S N k :=
  ⟨mk, u.ok.cut, fun x hx => by rw [TM.cut_houses] at hx; exact u.kk x (List.mem_filter.mp hx).1, u.kz, u.kb, u.tx⟩
theorem Mk7.wake {h n : Nat} {H2 : Hp} (u : Mk7 T H A F G m S N k) (hh : h ∈ m.hush) (mk : MkAt T H2 A F G ((m.woken h).visit h n) (S.takes h ((m.woken h).others h n) m.room)) : Mk7 T H2 A F G ((m.woken h).visit h n) (S.takes h ((m.woken h).others h n) m.room) N k := by
  have ok2 : ((m.woken h).visit h n).Ok N := u.ok.woken.fold (u.ok.hN _ (u.ok.hh _ hh)) fun o ho => u.ok.hN _ (TM.others_mem ho).1
  have ehs : ((m.woken h).visit h n).houses = m.houses := TM.fold_houses
  have sm := takes_same (S := S) (h := h) (vis := (m.woken h).others h n) (room := m.room)
  refine ⟨mk, ok2, fun x hx j hj => ?_, by rw [sm.1]; exact u.kz, by rw [show ((m.woken h).visit h n).wide = m.wide from TM.fold_sizes.1]; exact u.kb, fun i hi => by rw [sm.1] at hi; rw [sm.2.2]; exact u.tx i hi⟩
  rw [ehs] at hx
  exact takes_keys (fun y hy => u.kk y ((List.mem_cons.mp hy).elim (fun e => by rw [e]; exact u.ok.hh h hh) fun e => (TM.others_mem (m := m.woken h) e).1)) hj (u.kk x hx)
end
end Nn
/-! k72, k73: names; by nearness (from L_k71) -/
namespace Nn
open PySem L2
section
variable {P : Program} {w : World} {K : PySem.W.Frag} {mg : Str → Option Value} {base : Heap} {H H' : Hp} {Q : VK} {E : XK} {T : Tx K mg base} {A : TA} {F : Addr → Prop} {m : TM}
def sp_l_names (_ : Tx K mg base) : Sp := fun vs H Q _ => ∃ (c wd n : Nat), vs = [.int c, .int wd, .int n] ∧ 4 ≤ wd ∧ wd ≤ 60 ∧ n ≤ 16 ∧ ∀ (p : Addr) (pl : List Nat) (H' : Hp), H p = none → Ex H H' → H' p = some (.lst (pl.map nV)) → pl.Nodup → pl.length = n → (∀ x ∈ pl, x < 2 ^ wd) → Q (.ref p) H'
theorem wc_l_names {c wd n : Nat} {i j k : Int} (hi : i = c) (hj : j = wd) (hk : k = n) (h0 : 4 ≤ wd) (h1 : wd ≤ 60) (h2 : n ≤ 16) (q : ∀ (p : Addr) (pl : List Nat) (H' : Hp), H p = none → Ex H H' → H' p = some (.lst (pl.map nV)) → pl.Nodup → pl.length = n → (∀ x ∈ pl, x < 2 ^ wd) → Q (.ref p) H') : sp_l_names T [.int i, .int j, .int k] H Q E := by
  subst hi hj hk; exact ⟨c, wd, n, rfl, h0, h1, h2, q⟩
theorem ok_l_names (T : Tx K mg base) : FnOk P w K mg base CX0 1 T.a_l_names T.d_l_names ["_law_number_here", "_law_wide", "_law_many"] (sp_l_names T) := by
  refine T.F_l_names.okD sc_l_names (fun vs H Q E h => ?_) (fun cdv A outer s H vs Q E hr h => ?_)
  · obtain ⟨c, wd, n, rfl, _⟩ := h; rfl
  · obtain ⟨c, wd, n, rfl, h0, h1, h2, q⟩ := h
    have hu := hu_of hr
    have c_Bucket := T.c_Bucket; have n_Bucket_room := T.n_Bucket_room; have n_Bucket_line := T.n_Bucket_line; have c_Table := T.c_Table; have n_Table_own := T.n_Table_own; have n_Table_wide := T.n_Table_wide; have n_Table_room := T.n_Table_room; have n_Table_buckets := T.n_Table_buckets; have c_Town := T.c_Town; have n_Town_wide := T.n_Town_wide; have n_Town_room := T.n_Town_room; have n_Town_tables := T.n_Town_tables; have n_Town_hushed := T.n_Town_hushed; have n_Town_shelves := T.n_Town_shelves; have n_Town_layings := T.n_Town_layings
    refine ⟨_, (pss_cons (ps_set (i := 3) sc_l_names.nd rfl (Or.inl rfl) (pe_lst pa_nil))
      (pss_cons (ps_set (i := 4) sc_l_names.nd rfl (Or.inl rfl) (pe_op op_add (pe_op op_mul pe_int (pe_op op_fdivW (pv 0) pe_int)) pe_int))
      (pss_cons (ps_set (i := 5) sc_l_names.nd rfl (Or.inl rfl) (pe_op op_mod (pe_op op_fdivW (pv 0) pe_int) (pe_op op_sub (pv 1) pe_int)))
      (pss_cons (ps_for PassesOwn.never rfl (pi_range1 rfl T.z_range (pa_cons (pv 2) pa_nil)) (pg_name (i := 6) sc_l_names.nd rfl (Or.inl rfl))
      (pss_one (ps_if (pt_cmpR op_eq (pe_op op_mod (pv 0) pe_int) pe_int (nomark _))
      (pss_one (ps_expr (pe_bm PySem.F.plainAttrs_list PySem.F.slot_list_append PySem.F.type_list_append mt_append (pv 3) (pa_cons (pe_op op_mod (pe_op op_add (pe_op op_fdivW (pv 0) pe_int) (pe_op op_mul (pv 6) (pv 4))) (pe_op op_shl1 pe_int (pv 1))) pa_nil))))
      (pss_one (ps_expr (pe_bm PySem.F.plainAttrs_list PySem.F.slot_list_append PySem.F.type_list_append mt_append (pv 3) (pa_cons (pe_op op_xorN (pe_op op_mod (pe_op op_fdivW (pv 0) pe_int) (pe_op op_shl1 pe_int (pv 1))) (pe_op op_shlN' (pv 6) (pv 5))) pa_nil)))))))
      (pss_one (ps_ret (pv 3))))))), ?_⟩
    rw [Nn.st_l_names]; try rw [Nn.cxK]
    try rw [Nn.cxW]
    walk_at "wx"
    refine ⟨len_ok rfl, fun p1 hp1 => ?_⟩
    have ex1 := Ex.new (o := .lst []) hp1
    have h11 := upd_same (H := H) (a := p1) (o := .lst [])
    generalize upd H p1 (.lst []) = H1 at ex1 h11 ⊢
    walk_at "wx"
    have e3 : (wd : Int) - 3 = ((wd - 3 : Nat) : Int) := by omega
    have elow : (c : Int) / 3 % ((wd : Int) - 3) = ((c / 3 % (wd - 3) : Nat) : Int) := by rw [e3]; rfl
    have hlow : c / 3 % (wd - 3) < wd - 3 := Nat.mod_lt _ (by omega)
    rw [elow]
    generalize c / 3 % (wd - 3) = low at hlow
    have eodd : (2 : Int) * ((c : Int) / 7) + 1 = ((2 * (c / 7) + 1 : Nat) : Int) := by omega
    rw [eodd]
    have hodd : (2 * (c / 7) + 1) % 2 = 1 := by omega
    generalize 2 * (c / 7) + 1 = odd at hodd
    have e5 : (c : Int) / 5 = ((c / 5 : Nat) : Int) := rfl
    by_cases hc : c % 3 = 0
    · refine ForW.by walk_rgN (fun i σ H' => ∃ (v : Option V), σ = [some (.int c), some (.int wd), some (.int n), some (.ref p1), some (.int odd), some (.int low), v] ∧ Ex H H' ∧ H' p1 = some (.lst (((List.range i).map fun k => (c / 5 + k * odd) % 2 ^ wd).map nV))) ⟨_, rfl, ex1, h11⟩ (fun _ _ _ _ _ => trivial) ?_ ?_
      · rintro i _ σ _ H2 hi ⟨v, rfl, ex2, h2'⟩ ⟨rfl, rfl⟩
        walk_at "wx"
        refine x_ifD (fun _ => ?_) fun hz => absurd (by simpa using (show ((c % 3 : Nat) : Int) = 0 by rw [hc]; rfl)) hz
        walk_at "wx"
        have ez : ((c : Int) / 5 + (i : Int) * (odd : Int)) % ((2 ^ wd : Nat) : Int) = (((c / 5 + i * odd) % 2 ^ wd : Nat) : Int) := by
          rw [Int.natCast_emod, Int.natCast_add, Int.natCast_mul]; rfl
        rw [ez]
        refine x_append h2' (by rw [sizeLine_eq, List.length_map, List.length_map, List.length_range]; omega) ?_
        refine ⟨_, rfl, ex2.mut hp1 h2', ?_⟩
        rw [upd_same, List.range_succ, List.map_append, List.map_append]; rfl
      · rintro σ H2 ⟨v, rfl, ex2, h2'⟩
        walk_at "wx"
        refine q p1 _ H2 hp1 ex2 h2' ?_ (by simp) fun x hx => ?_
        · refine List.pairwise_map.mpr (List.Pairwise.imp_of_mem (fun {a b} ha hb hne e => hne ?_) List.nodup_range)
          have ha := List.mem_range.mp ha
          have hb := List.mem_range.mp hb
          have h16 : 2 ^ 4 ≤ 2 ^ wd := Nat.pow_le_pow_right (by omega) h0
          exact sum_mod_inj hodd (by omega) (by omega) e
        · obtain ⟨k, _, rfl⟩ := List.mem_map.mp hx
          exact Nat.mod_lt _ (Nat.two_pow_pos wd)
    · refine ForW.by walk_rgN (fun i σ H' => ∃ (v : Option V), σ = [some (.int c), some (.int wd), some (.int n), some (.ref p1), some (.int odd), some (.int low), v] ∧ Ex H H' ∧ H' p1 = some (.lst (((List.range i).map fun k => (c / 5 % 2 ^ wd) ^^^ (k * 2 ^ low)).map nV))) ⟨_, rfl, ex1, h11⟩ (fun _ _ _ _ _ => trivial) ?_ ?_
      · rintro i _ σ _ H2 hi ⟨v, rfl, ex2, h2'⟩ ⟨rfl, rfl⟩
        walk_at "wx"
        refine x_ifD (fun hz => absurd hz ?_) fun _ => ?_
        · intro hz
          exact hc (by have : ((c % 3 : Nat) : Int) = 0 := hz
                       omega)
        walk_at "wx"
        rw [Int.natAbs_natCast]
        refine x_append h2' (by rw [sizeLine_eq, List.length_map, List.length_map, List.length_range]; omega) ?_
        refine ⟨_, rfl, ex2.mut hp1 h2', ?_⟩
        rw [upd_same, List.range_succ, List.map_append, List.map_append]; rfl
      · rintro σ H2 ⟨v, rfl, ex2, h2'⟩
        walk_at "wx"
        refine q p1 _ H2 hp1 ex2 h2' ?_ (by simp) fun x hx => ?_
        · refine List.pairwise_map.mpr (List.Pairwise.imp (fun {a b} hne e => hne ?_) List.nodup_range)
          exact Nat.eq_of_mul_eq_mul_right (Nat.two_pow_pos low) (xor_inj e)
        · obtain ⟨k, hk, rfl⟩ := List.mem_map.mp hx
          have hk := List.mem_range.mp hk
          refine Nat.xor_lt_two_pow (Nat.mod_lt _ (Nat.two_pow_pos wd)) ?_
          refine Nat.lt_of_lt_of_le (m := 2 ^ 4 * 2 ^ low) (Nat.mul_lt_mul_of_pos_right (by omega) (Nat.two_pow_pos low)) ?_
          rw [← Nat.pow_add]
          exact Nat.pow_le_pow_right (by omega) (by omega)
def sp_l_by_nearness (T : Tx K mg base) : Sp := fun vs H Q _ => ∃ (a : Addr) (ns : List Nat) (g : Nat), vs = [.int g, .ref a] ∧ SqL K H a (ns.map nV) ∧ NdefX.TabsN (tabsL T) H ∧ ∀ (p : Addr) (H' : Hp), H p = none → Ex H H' → H' p = some (.lst ((sortX g ns).map nV)) → Q (.ref p) H'
theorem wc_l_by_nearness {T : Tx K mg base} {a : Addr} {ns : List Nat} {g : Nat} {i : Int} (hi : i = g) (h : SqL K H a (ns.map nV)) (hT : NdefX.TabsN (tabsL T) H) (q : ∀ (p : Addr) (H' : Hp), H p = none → Ex H H' → H' p = some (.lst ((sortX g ns).map nV)) → Q (.ref p) H') : sp_l_by_nearness T [.int i, .ref a] H Q E := by
  subst hi; exact ⟨a, ns, g, rfl, h, hT, q⟩
theorem ok_l_by_nearness (T : Tx K mg base) : FnOk P w K mg base CX0 1 T.a_l_by_nearness T.d_l_by_nearness ["_law_goal", "_law_names_here"] (sp_l_by_nearness T) := by
  refine T.FC_l_by_nearness.okC sc_l_by_nearness (fun vs H Q E h => ?_) (fun A outer s H vs Q E hr h => ?_)
  · obtain ⟨a, ns, g, rfl, _⟩ := h; rfl
  · obtain ⟨a, ns, g, rfl, hS, hT, q⟩ := h
    have hu := hu_of hr
    have c_Bucket := T.c_Bucket; have n_Bucket_room := T.n_Bucket_room; have n_Bucket_line := T.n_Bucket_line; have c_Table := T.c_Table; have n_Table_own := T.n_Table_own; have n_Table_wide := T.n_Table_wide; have n_Table_room := T.n_Table_room; have n_Table_buckets := T.n_Table_buckets; have c_Town := T.c_Town; have n_Town_wide := T.n_Town_wide; have n_Town_room := T.n_Town_room; have n_Town_tables := T.n_Town_tables; have n_Town_hushed := T.n_Town_hushed; have n_Town_shelves := T.n_Town_shelves; have n_Town_layings := T.n_Town_layings
    refine ⟨_, (pss_one (ps_ret (pe_sortX (gi := 0) (gx := "_law_goal") (x := "_law_name") (a := "_law_name") (b := "_law_goal") (pv 1) T.tb_l_by_nearness rfl nm_lam_l_by_nearness (by rfl) T.z_sorted hr (lamxor_by (by show lamXorB (defScope s_l_by_nearness) _ _ _ = true; decide +kernel)) rfl (fun _ _ _ _ _ _ => rfl) rfl (.inr ⟨rfl, rfl⟩) rfl))), ?_⟩
    rw [Nn.st_l_by_nearness]; try rw [Nn.cxK]
    try rw [Nn.cxW]
    walk_at "wx"
    rw [e_sortx]
    walk_at "wx"
    refine x_sortx (g := g) hS rfl (hT _ tabm_l_by_nearness) fun p3 H3 hp3 ex3 h3 => ?_
    exact q p3 H3 hp3 ex3 h3
end
end Nn
/-! k72: a market built; who goes out; who is lost or comes -/
namespace Nn
open PySem L2
namespace TM
variable {m : TM} {N : List Nat}
theorem hushed_aw {n y : Nat} : (m.hushed n).aw y = true ↔ m.aw y = true ∧ y ≠ n := by
  unfold TM.hushed
  by_cases h : n ∈ m.hush
  · rw [if_pos h]
    refine ⟨fun z => ⟨z, fun e => ?_⟩, fun z => z.1⟩
    unfold TM.aw at z
    rw [e, Bool.and_eq_true] at z
    have := z.2
    simp [h] at this
  · rw [if_neg h]
    show (decide (y ∈ m.houses) && !decide (y ∈ m.hush ++ [n])) = true ↔ (decide (y ∈ m.houses) && !decide (y ∈ m.hush)) = true ∧ y ≠ n
    simp [and_assoc]
theorem hushed_lv {n y : Nat} : y ∈ (m.hushed n).live ↔ y ∈ m.live ∧ y ≠ n := by rw [mem_live, hushed_aw, mem_live]
theorem hushed_row {n h j : Nat} : (m.hushed n).row h j = m.row h j := by
  unfold TM.hushed
  split <;> rfl
theorem hushed_room {n : Nat} : (m.hushed n).room = m.room ∧ (m.hushed n).wide = m.wide := by
  unfold TM.hushed
  split <;> exact ⟨rfl, rfl⟩
theorem cut_lv {n y : Nat} : y ∈ (m.cut n).live ↔ y ∈ m.live ∧ y ≠ n := by
  rw [mem_live, mem_live]
  unfold TM.aw
  rw [TM.cut_houses]
  show (decide (y ∈ m.houses.filter fun x => !decide (x = n)) && !decide (y ∈ m.hush.filter fun x => !decide (x = n))) = true ↔ _
  simp only [Bool.and_eq_true, decide_eq_true_eq, List.mem_filter, Bool.not_eq_true', decide_eq_false_iff_not]
  constructor
  · rintro ⟨⟨a, b⟩, c⟩
    exact ⟨⟨a, fun z => c ⟨z, b⟩⟩, b⟩
  · rintro ⟨⟨a, b⟩, c⟩
    exact ⟨⟨a, c⟩, fun z => b z.1⟩
theorem comes_room {n : Nat} {d : Option Nat} : (m.comes n d).room = m.room := by
  cases d with
  | none => rfl
  | some d => exact TM.fold_sizes.2.1
theorem cut_row {n h j : Nat} (hne : h ≠ n) : (m.cut n).row h j = m.row h j := by
  unfold TM.row
  rw [TM.cut_tab hne]
end TM
section
variable {P : Program} {w : World} {K : PySem.W.Frag} {mg : Str → Option Value} {base : Heap} {H H' : Hp} {Q : VK} {E : XK} {T : Tx K mg base} {A : TA} {F G X : Addr → Prop} {m : TM} {S : SM} {N k D : List Nat}
theorem Fr.drop {S X : Addr → Prop} {H H1 H2 : Hp} (e : Fr X H H1) (f : Fr S H1 H2) (h : ∀ a, S a → X a ∨ H a = none) : Fr X H H2 :=
  ⟨fun a o q n s => f.keep a o (e.keep a o q n s) n fun z => (h a z).elim s fun z => (by rw [z] at q; cases q), fun P q => f.tab P (e.tab P q), fun a q => e.back a (f.back a q)⟩
theorem Mk7.upd {p : Addr} {o o' : HO} (u : Mk7 T H A F G m S N k) (hp : H p = some o) (n : ¬ (F p ∨ G p)) (nx : NX o := by trivial) (ho : ∀ vs, o ≠ .tup vs := by intro _ z; cases z) : Mk7 T (upd H p o') A F G m S N k :=
  ⟨u.a.fr (Fr.upd1 hp nx) (fun x e w => by
    rw [e] at w
    rcases w with w | w | ⟨i, hi, w⟩
    · exact n (.inl w)
    · exact n (.inr w)
    · rw [w, u.a.th i hi] at hp
      exact ho _ (Option.some.inj hp).symm), u.ok, u.kk, u.kz, u.kb, u.tx⟩
def sp_l_built (T : Tx K mg base) : Sp := fun vs H Q _ => ∃ (A : TA) (F G : Addr → Prop) (m : TM) (S : SM) (N : List Nat) (ln pc : Addr) (cs : List V) (b : Bool), vs = [.ref A.t, .ref ln, .ref pc, .bl b] ∧ Mk7 T H A F G m S N [] ∧ N.length = 12 ∧ N.Nodup ∧ H ln = some (.lst (N.map nV)) ∧ H pc = some (.lst cs) ∧ (∀ x ∈ cs, ∃ i : Int, x = .int i) ∧ cs.length ≤ 5 ∧ m.Calm ∧ m.houses = [] ∧ ¬ (F ln ∨ G ln) ∧ NdefX.TabsN (tabsL T) H ∧
  ∀ p H' A' F' G' m' S', Fr (fun a => F a ∨ G a) H H' → A'.t = A.t → (∀ a, F' a ∨ G' a → F a ∨ G a ∨ H a = none) → Mk7 T H' A' F' G' m' S' N [] → m'.Calm → m'.houses ≠ [] → m'.houses.length ≤ 6 → m'.wide = m.wide → m'.room = m.room → S'.n = S.n → H p = none → H' p = some (.lst (m'.houses.map nV)) → ¬ (F' p ∨ G' p) → Q (.ref p) H'
theorem wc_l_built {ln pc : Addr} {cs : List V} {b : Bool} (u : Mk7 T H A F G m S N []) (h12 : N.length = 12) (nd : N.Nodup) (h1 : H ln = some (.lst (N.map nV))) (h2 : H pc = some (.lst cs)) (hc : ∀ x ∈ cs, ∃ i : Int, x = .int i) (hz : cs.length ≤ 5) (c : m.Calm) (h0 : m.houses = []) (nl : ¬ (F ln ∨ G ln)) (tb : NdefX.TabsN (tabsL T) H)
    (q : ∀ p H' A' F' G' m' S', Fr (fun a => F a ∨ G a) H H' → A'.t = A.t → (∀ a, F' a ∨ G' a → F a ∨ G a ∨ H a = none) → Mk7 T H' A' F' G' m' S' N [] → m'.Calm → m'.houses ≠ [] → m'.houses.length ≤ 6 → m'.wide = m.wide → m'.room = m.room → S'.n = S.n → H p = none → H' p = some (.lst (m'.houses.map nV)) → ¬ (F' p ∨ G' p) → Q (.ref p) H') : sp_l_built T [.ref A.t, .ref ln, .ref pc, .bl b] H Q E :=
  ⟨A, F, G, m, S, N, ln, pc, cs, b, rfl, u, h12, nd, h1, h2, hc, hz, c, h0, nl, tb, q⟩
theorem ok_l_built (T : Tx K mg base) : FnOk P w K mg base CX0 9 T.a_l_built T.d_l_built ["_law_market", "_law_names_here", "_law_cells", "_law_plain"] (sp_l_built T) := by
  refine T.F_l_built.okD sc_l_built (fun vs H Q E h => ?_) (fun cdv A outer s H vs Q E hr h => ?_)
  · obtain ⟨A, F, G, m, S, N, ln, pc, cs, b, rfl, _⟩ := h; rfl
  · obtain ⟨A1, F, G, m, S, N, ln, pc, cs, b, rfl, u, h12, ndN, h1, h2, hc, hz, cm, h0, nO1, hT, q⟩ := h
    have hu := hu_of hr
    have c_Bucket := T.c_Bucket; have n_Bucket_room := T.n_Bucket_room; have n_Bucket_line := T.n_Bucket_line; have c_Table := T.c_Table; have n_Table_own := T.n_Table_own; have n_Table_wide := T.n_Table_wide; have n_Table_room := T.n_Table_room; have n_Table_buckets := T.n_Table_buckets; have c_Town := T.c_Town; have n_Town_wide := T.n_Town_wide; have n_Town_room := T.n_Town_room; have n_Town_tables := T.n_Town_tables; have n_Town_hushed := T.n_Town_hushed; have n_Town_shelves := T.n_Town_shelves; have n_Town_layings := T.n_Town_layings
    refine ⟨_, (pss_cons (ps_set (i := 4) sc_l_built.nd rfl (Or.inr rfl) (pe_lst pa_nil))
      (pss_cons (ps_for PassesOwn.never rfl (pi_enum (by rfl) T.z_enumerate (pa_cons (pe_op op_cat (pe_lst (pa_cons pe_int pa_nil)) (pv 2)) pa_nil)) (pg_tup (n := 2) rfl (pgs_cons (pg_name (i := 5) sc_l_built.nd rfl (Or.inl rfl)) (pgs_cons (pg_name (i := 6) sc_l_built.nd rfl (Or.inl rfl)) pgs_nil)))
      (pss_cons (ps_set (i := 7) sc_l_built.nd rfl (Or.inl rfl) (pe_call (ok_l_number T) (hr.mono (by decide)) rfl T.m_l_number T.F_l_number.kp T.b_l_number .nil pass0 (pa_cons (pv 6) (pa_cons (pv 5) (pa_cons (pv 3) pa_nil)))))
      (pss_cons (ps_setLc (i := 8) (own := [("_law_name", 9)]) (g := (gName 9)) (by rfl) sc_l_built.nd rfl rfl (sw_true rfl rfl rfl (by decide +kernel)) (pi_list (pv 1)) (blkOk_by (N := N_l_built) (sc := defScope s_l_built) (own := [("_law_name", 9)]) (by decide +kernel)) (fun _ _ _ _ _ => (pg_name (i := 9) sc_l_built.nd rfl (Or.inl rfl))) (fun _ _ _ _ _ => pts_one ((pt_cmpR (op_notInK (K := K) rfl) (pv 9) (pv 4) rfl))) (fun _ _ _ _ _ => (pv 9)))
      (pss_cons (ps_set (i := 9) sc_l_built.nd rfl (Or.inl rfl) (pe_ix ix_list (pv 8) (pe_op op_mod (pv 7) (pe_callB cb_len (by rfl) T.z_len PySem.boot_len (pa_cons (pv 8) pa_nil))) (fun _ _ => rfl)))
      (pss_cons (ps_if (pt_cmpR (op_eqD hr.units) (pv 4) (pe_lst pa_nil) (nomark _))
      (pss_one (ps_expr (pe_meth (pv 0) T.c_Town T.t_Market_come (ok_Market_come T) hr T.b_Market_come_1 T.v_Market_come_1 pass0 (pa_cons (pv 9) pa_nil))))
      (pss_one (ps_expr (pe_meth (pv 0) T.c_Town T.t_Market_come (ok_Market_come T) hr T.b_Market_come .nil pass0 (pa_cons (pv 9) (pa_cons (pe_ix ix_list (pv 4) (pe_op op_mod (pe_op op_fdivW (pv 7) pe_int) (pe_callB cb_len (by rfl) T.z_len PySem.boot_len (pa_cons (pv 4) pa_nil))) (fun _ _ => rfl)) pa_nil))))))
      (pss_one (ps_expr (pe_bm PySem.F.plainAttrs_list PySem.F.slot_list_append PySem.F.type_list_append mt_append (pv 4) (pa_cons (pv 9) pa_nil)))))))))
      (pss_one (ps_ret (pv 4))))), ?_⟩
    rw [Nn.st_l_built]; try rw [Nn.cxK]
    try rw [Nn.cxW]
    walk_at "wx"
    refine ⟨len_ok rfl, fun p3 hp3 => ?_⟩
    generalize hU : upd _ p3 _ = H3
    have ex3 := Ex.new' hp3 hU
    have h3 := new_at hU
    clear hU
    walk_at "wx"
    refine ⟨len_ok rfl, fun p4 hp4 => ?_⟩
    generalize hU : upd _ p4 _ = H4
    have ex4 := Ex.new' hp4 hU
    have h4 := new_at hU
    clear hU
    have ex34 := ex3.trans ex4
    have h24 := ex34.at h2
    walk_at "wx"
    refine x_cat h4 h24 (by rw [sizeLine_eq]; show 1 + _ ≤ _; omega) fun r hr => ?_
    have hit : ∀ x ∈ [V.int 7] ++ cs, ∃ i : Int, x = .int i := fun x hx => by
      rcases List.mem_append.mp hx with h | h
      · exact ⟨_, List.mem_singleton.mp h⟩
      · exact hc x h
    have hil : 0 < ([V.int 7] ++ cs).length ∧ ([V.int 7] ++ cs).length ≤ 6 := by
      rw [List.length_append]; show 0 < 1 + _ ∧ 1 + _ ≤ _; omega
    generalize [V.int 7] ++ cs = its at hit hil ⊢
    generalize hU : upd H4 r _ = H5
    have ex5 := Ex.new' hr hU
    have hrr := new_at hU
    clear hU
    have ex05 := ex34.trans ex5
    have u5 := u.ex ex05
    have hT5 := Fr.tabs ex05 hT
    have h15 := ex05.at h1
    have h35 := (ex4.trans ex5).at h3
    have nO : ∀ {x : Addr}, H x = none → ¬ (F x ∨ G x) := fun e z => u.a.live (Own.fg z) e
    have nO3 := nO hp3
    have nOr := nO (ex34.back r hr)
    have n3r : p3 ≠ r := fun e => by rw [e] at h3; rw [ex4.at h3] at hr; cases hr
    have n31 : ln ≠ p3 := fun e => by rw [e, hp3] at h1; cases h1
    have hp30 := hp3
    clear hp3 h3 hr h4 h2
    walk_at "wx"
    refine ForW.by walk_enumE (fun i σ H' => ∃ (A' : TA) (F1 G1 : Addr → Prop) (m1 : TM) (S1 : SM) (v5 v6 v7 v8 v9 : Option V), σ = [some (.ref A'.t), some (.ref ln), some (.ref pc), some (.bl b), some (.ref p3), v5, v6, v7, v8, v9] ∧ Fr (fun a => (F a ∨ G a) ∨ a = p3) H5 H' ∧ A'.t = A1.t ∧ (∀ a, F1 a ∨ G1 a → F a ∨ G a ∨ H5 a = none) ∧ Mk7 T H' A' F1 G1 m1 S1 N [] ∧ m1.Calm ∧ m1.houses.length = i ∧ m1.wide = m.wide ∧ m1.room = m.room ∧ S1.n = S.n ∧ H' p3 = some (.lst (m1.houses.map nV)) ∧ H' r = some (.lst its) ∧ H' ln = some (.lst (N.map nV)) ∧ NdefX.TabsN (tabsL T) H')
      ⟨A1, F, G, m, S, _, _, _, _, _, rfl, Fr.refl, rfl, fun a z => z.imp id .inl, u5, cm, by rw [h0]; rfl, rfl, rfl, rfl, by rw [h0]; exact h35, hrr, h15, hT5⟩ (fun i σ H' _ ⟨_, _, _, _, _, _, _, _, _, _, _, _, _, _, _, _, _, _, _, _, _, e, _⟩ => SqL.of e) ?_ ?_
    · rintro i _ σ H6 H7 hi ⟨A', F1, G1, m1, S1, v5, v6, v7, v8, v9, rfl, fr6, eA6, hF6, u6, c6, hl6, ew6, er6, en6, h36, hr6, h16, hT6⟩ ⟨tq, x, y, rfl, htq, ex7, htq7, hx, hy⟩
      obtain ⟨z, rfl⟩ := hit y (List.mem_of_getElem? hy)
      have hi6 : i < its.length := (List.getElem?_eq_some_iff.mp hy).1
      cases hx
      clear hy hi
      have u7 := u6.ex ex7
      have h37 := ex7.at h36
      have hr7 := ex7.at hr6
      have h17 := ex7.at h16
      have hT7 := Fr.tabs ex7 hT6
      have fr7 := fr6.trans ex7.fr
      have hml : (m1.houses.map nV).length = i := by rw [List.length_map, hl6]
      have hhh := u7.ok.houses_len
      clear u6 h36 hr6 h16 hT6 fr6
      walk_at "wx"
      refine wc_l_number (k := i) rfl (by omega) fun nu => ?_
      walk_at "wx"
      refine LcW.filt (emb := nV) (xs := N) (fun n => !decide (n ∈ m1.houses)) (SqL.of h17) (by rw [sizeLine_eq]; omega) (fun n _ H8 ex8 R hR => ?_) (fun n _ _ H8 ex8 Qe hQ => ?_) fun p8 H8 hp8 ex8 h8 => ?_
      · have h38 := ex8.at h37
        walk_at "wx"
        exact hR _ Ex.refl
      · walk_at "wx"
        exact hQ
      have hlne : (N.filter fun n => !decide (n ∈ m1.houses)) ≠ [] := fun z => by
        have := nodup_len ndN (b := m1.houses) fun x hx => by
          have := List.filter_eq_nil_iff.mp z x hx
          simpa using this
        omega
      have hlm : ∀ n ∈ N.filter (fun n => !decide (n ∈ m1.houses)), n ∈ N ∧ n ∉ m1.houses := fun n hn => by
        obtain ⟨q1, q2⟩ := List.mem_filter.mp hn
        exact ⟨q1, by simpa using q2⟩
      generalize (N.filter fun n => !decide (n ∈ m1.houses)) = left at h8 hlne hlm
      have u8 := u7.ex ex8
      have h38 := ex8.at h37
      have hT8 := Fr.tabs ex8 hT7
      have hpos : 0 < left.length := List.length_pos_iff.mpr hlne
      have hlmm : (left.map nV).length = left.length := List.length_map _
      obtain ⟨hn, hat⟩ := pick_at (x := nu) hlne
      walk_at "wx"
      rw [List.length_map]
      refine x_ixL (SqL.of h8) hat ?_
      obtain ⟨hnN, hnin⟩ := hlm _ hn
      generalize pickN left nu = n at hnN hnin
      walk_at "wx"
      refine ⟨len_ok rfl, fun p9 hp9 => ?_⟩
      generalize hU : upd _ p9 _ = H9
      have ex9 := Ex.new' hp9 hU
      have h9 := new_at hU
      clear hU
      have u9 := u8.ex ex9
      have h39 := ex9.at h38
      have hT9 := Fr.tabs ex9 hT8
      have ex79 := ex8.trans ex9
      have fr9 := fr7.trans ex79.fr
      have hr9 := ex79.at hr7
      have h19 := ex79.at h17
      obtain ⟨dx9, ob9⟩ := u9.a.ta.tw.ob
      clear u7 u8 h37 h38 hT7 hT8 fr7 hr7 h17
      have nP : ∀ {x : Addr} {o : HO}, H5 x = some o → ¬ (F x ∨ G x) → ¬ (F1 x ∨ G1 x) := fun e n z => by
        rcases hF6 _ z with w | w | w
        · exact n (.inl w)
        · exact n (.inr w)
        · rw [e] at w; cases w
      have n3 := nP h35 nO3
      have nr := nP hrr nOr
      have n1 := nP h15 nO1
      have hnh : n ∈ m1.houses → False := hnin
      -- behind a coming
      have fin : ∀ (dr : Option Nat) (Hc : Hp) (Ac : TA) (Fc : Addr → Prop) (qc : Addr), (∀ x, dr = some x → x ∈ m1.houses) → (dr = none → m1.houses = []) → Fr (fun a => F1 a ∨ G1 a) H9 Hc → Ac.t = A'.t → (∀ a, Fc a ∨ (G1 a ∨ a = qc) → F1 a ∨ G1 a ∨ H9 a = none) → MkAt T Hc Ac Fc (fun a => G1 a ∨ a = qc) (m1.comes n dr) ((S1.add n qc).takes n (m1.told n dr) m1.room) →
          Hc p3 = some (.lst (m1.houses.map nV)) ∧ Mk7 T (upd Hc p3 (.lst (m1.houses.map nV ++ [nV n]))) Ac Fc (fun a => G1 a ∨ a = qc) (m1.comes n dr) ((S1.add n qc).takes n (m1.told n dr) m1.room) N [] ∧ (m1.comes n dr).Calm ∧ Fr (fun a => (F a ∨ G a) ∨ a = p3) H5 (upd Hc p3 (.lst (m1.houses.map nV ++ [nV n]))) ∧ (∀ a, Fc a ∨ (G1 a ∨ a = qc) → F a ∨ G a ∨ H5 a = none) ∧ upd Hc p3 (.lst (m1.houses.map nV ++ [nV n])) p3 = some (.lst ((m1.comes n dr).houses.map nV)) ∧ upd Hc p3 (.lst (m1.houses.map nV ++ [nV n])) r = some (.lst its) ∧ upd Hc p3 (.lst (m1.houses.map nV ++ [nV n])) ln = some (.lst (N.map nV)) ∧ NdefX.TabsN (tabsL T) (upd Hc p3 (.lst (m1.houses.map nV ++ [nV n]))) := by
        intro dr Hc Ac Fc qc hd h0' frc eA hFc tc
        have h3c := frc.at h39 n3
        have nc3 : ¬ (Fc p3 ∨ (G1 p3 ∨ p3 = qc)) := fun z => by
          rcases hFc _ z with w | w | w
          · exact n3 (.inl w)
          · exact n3 (.inr w)
          · rw [h39] at w; cases w
        have uc := u9.come hnin hnN tc
        have fu := Fr.upd1 (o := .lst (m1.houses.map nV ++ [nV n])) h3c
        have fr59 : Fr (fun a => (F a ∨ G a) ∨ a = p3) H5 Hc := Fr.drop fr9 frc fun a z => by
          rcases hF6 a z with w | w | w
          · exact .inl (.inl (.inl w))
          · exact .inl (.inl (.inr w))
          · exact .inr w
        refine ⟨h3c, uc.upd h3c nc3, TM.Calm.comes u9.ok c6 hnin hnN hd h0', fr59.trans (fu.mono fun a z => .inr z), fun a z => ?_, ?_, ?_, ?_, Fr.tabs fu (Fr.tabs frc hT9)⟩
        · rcases hFc a z with w | w | w
          · exact hF6 a (.inl w)
          · exact hF6 a (.inr w)
          · exact .inr (.inr (fr9.back a w))
        · rw [upd_same, TM.comes_houses, List.map_append]; rfl
        · exact fu.at (frc.at hr9 nr) fun e => n3r e.symm
        · exact fu.at (frc.at h19 n1) n31
      have hch : ∀ d, (m1.comes n d).houses.length = i + 1 := fun d => by rw [TM.comes_houses, List.length_append, List.length_singleton, hl6]
      refine x_eqLN (xs := m1.houses) (ys := []) (SqL.of h39) (SqL.of h9) ?_
      by_cases hE : m1.houses = []
      · rw [decide_eq_true hE]
        walk_at "wx"
        refine wc_Market_come (door := none) (k := []) rfl rfl u9.a u9.ok hnN hnin (by simp) u9.kk (by decide) hT9 fun p10 qc Hc Ac Fc hpc frc hc' nOc eA hFc tc => ?_
        obtain ⟨g1, g2, g3, g4, g5, g6, g7, g8, g9⟩ := fin none Hc Ac Fc qc (fun x z => by cases z) (fun _ => hE) frc eA hFc tc
        walk_at "wx"
        exact ⟨Ac, Fc, _, _, _, _, _, _, _, _, by rw [eA], g4, eA.trans eA6, g5, g2, g3, hch none, TM.comes_wide.trans ew6, TM.comes_room.trans er6, takes_same.1.trans en6, g6, g7, g8, g9⟩
      · rw [decide_eq_false hE]
        obtain ⟨hpk, hatl⟩ := pick_at (x := nu / 8) hE
        have e8 : (nu : Int) / 8 = ((nu / 8 : Nat) : Int) := by simp
        have hpos2 : 0 < m1.houses.length := List.length_pos_iff.mpr hE
        walk_at "wx"
        rw [List.length_map, e8]
        refine x_ixL (SqL.of h39) hatl ?_
        generalize pickN m1.houses (nu / 8) = dr at hpk
        walk_at "wx"
        refine wc_Market_come (door := some dr) (k := []) rfl rfl u9.a u9.ok hnN hnin (fun x e => by cases e; exact c6.aw hpk) u9.kk (by decide) hT9 fun p10 qc Hc Ac Fc hpc frc hc' nOc eA hFc tc => ?_
        obtain ⟨g1, g2, g3, g4, g5, g6, g7, g8, g9⟩ := fin (some dr) Hc Ac Fc qc (fun x z => by cases z; exact hpk) (fun z => by cases z) frc eA hFc tc
        walk_at "wx"
        exact ⟨Ac, Fc, _, _, _, _, _, _, _, _, by rw [eA], g4, eA.trans eA6, g5, g2, g3, hch (some dr), TM.comes_wide.trans ew6, TM.comes_room.trans er6, takes_same.1.trans en6, g6, g7, g8, g9⟩
    · rintro σ H6 ⟨A', F1, G1, m1, S1, v5, v6, v7, v8, v9, rfl, fr6, eA6, hF6, u6, c6, hl6, ew6, er6, en6, h36, hr6, h16, hT6⟩
      walk_at "wx"
      refine q p3 H6 A' F1 G1 m1 S1 (Fr.drop ex05.fr fr6 fun a z => z.elim (fun z => .inl z) fun z => .inr (by rw [z]; exact hp30)) eA6 (fun a z => (hF6 a z).imp id fun w => w.imp id (ex05.back a)) u6 c6 (fun z => ?_) (by omega) ew6 er6 en6 hp30 h36 fun z => ?_
      · rw [z] at hl6
        have : ([] : List Nat).length = 0 := rfl
        omega
      · rcases hF6 _ z with w | w | w
        · exact nO3 (.inl w)
        · exact nO3 (.inr w)
        · rw [h35] at w; cases w
def sp_l_goes_out (T : Tx K mg base) : Sp := fun vs H Q _ => ∃ (A : TA) (F G : Addr → Prop) (m : TM) (S : SM) (N k D L : List Nat) (pl : Addr) (s g : Nat), vs = [.ref A.t, .ref pl, .int s, .int g] ∧ Mk7 T H A F G m S N k ∧ m.Held D ∧ N.length ≤ 12 ∧ H pl = some (.lst (L.map nV)) ∧ L.Nodup ∧ (∀ x, x ∈ L ↔ x ∈ m.live) ∧ s ∈ L ∧ g < 2 ^ m.wide ∧ ¬ (F pl ∨ G pl) ∧ NdefX.TabsN (tabsL T) H ∧ ∀ H', Fr F H H' → Mk7 T H' A F G (m.learn s g) S N k → Q (.bl true) H'
theorem wc_l_goes_out {L : List Nat} {pl : Addr} {s g : Nat} {i j : Int} (hi : i = s) (hj : j = g) (u : Mk7 T H A F G m S N k) (f : m.Held D) (hN : N.length ≤ 12) (hl : H pl = some (.lst (L.map nV))) (nd : L.Nodup) (hm : ∀ x, x ∈ L ↔ x ∈ m.live) (hs : s ∈ L) (hg : g < 2 ^ m.wide) (nO : ¬ (F pl ∨ G pl)) (tb : NdefX.TabsN (tabsL T) H) (q : ∀ H', Fr F H H' → Mk7 T H' A F G (m.learn s g) S N k → Q (.bl true) H') : sp_l_goes_out T [.ref A.t, .ref pl, .int i, .int j] H Q E := by
  subst hi hj; exact ⟨A, F, G, m, S, N, k, D, L, pl, s, g, rfl, u, f, hN, hl, nd, hm, hs, hg, nO, tb, q⟩
theorem ok_l_goes_out (T : Tx K mg base) : FnOk P w K mg base CX0 9 T.a_l_goes_out T.d_l_goes_out ["_law_market", "_law_live", "_law_start", "_law_goal"] (sp_l_goes_out T) := by
  refine T.F_l_goes_out.okD sc_l_goes_out (fun vs H Q E h => ?_) (fun cdv A outer s H vs Q E hr h => ?_)
  · obtain ⟨A, F, G, m, S, N, k, D, L, pl, s, g, rfl, _⟩ := h; rfl
  · obtain ⟨A1, F, G, m, S, N, k, D, L, pl, s, g, rfl, u, f, hN, hl, nd, hm, hs, hg, nO, hT, q⟩ := h
    have hu := hu_of hr
    have hsl := (hm s).mp hs
    have haw := TM.mem_live.mp hsl
    have hLl : L.length ≤ 12 := Nat.le_trans (nodup_len nd fun x hx => u.ok.hN _ (TM.live_house ((hm x).mp hx))) hN
    have eB : ∀ g, byN g L = byN g m.live := fun g => byN_uniq (byN_sorted _ _) fun z => by rw [mem_byN, hm]
    have eB1 : byN g (L.filter fun n => !decide (n = s)) = byN g (m.live.filter fun n => !decide (n = s)) := byN_uniq (byN_sorted _ _) fun z => by rw [mem_byN, List.mem_filter, List.mem_filter, hm]
    obtain ⟨n0, hn0, hmin⟩ := least_first (List.ne_nil_of_mem hsl) g
    have c_Bucket := T.c_Bucket; have n_Bucket_room := T.n_Bucket_room; have n_Bucket_line := T.n_Bucket_line; have c_Table := T.c_Table; have n_Table_own := T.n_Table_own; have n_Table_wide := T.n_Table_wide; have n_Table_room := T.n_Table_room; have n_Table_buckets := T.n_Table_buckets; have c_Town := T.c_Town; have n_Town_wide := T.n_Town_wide; have n_Town_room := T.n_Town_room; have n_Town_tables := T.n_Town_tables; have n_Town_hushed := T.n_Town_hushed; have n_Town_shelves := T.n_Town_shelves; have n_Town_layings := T.n_Town_layings
    refine ⟨_, (pss_cons (ps_set (i := 4) sc_l_goes_out.nd rfl (Or.inl rfl) (pe_call (ok_l_by_nearness T) (hr.mono (by decide)) rfl T.m_l_by_nearness T.F_l_by_nearness.kp T.b_l_by_nearness .nil pass0 (pa_cons (pv 3) (pa_cons (pe_lc (own := [("_law_name", 5)]) (g := (gName 5)) (by rfl) sc_l_goes_out.nd (pi_list (pv 1)) (blkOk_by (N := N_l_goes_out) (sc := defScope s_l_goes_out) (own := [("_law_name", 5)]) (by decide +kernel)) (fun _ _ _ _ _ => (pg_name (i := 5) sc_l_goes_out.nd rfl (Or.inl rfl))) (fun _ _ _ _ _ => pts_one ((pt_cmpR op_ne (pv 5) (pv 2) (nomark _)))) (fun _ _ _ _ _ => (pv 5))) pa_nil))))
      (pss_cons (ps_set (i := 6) sc_l_goes_out.nd rfl (Or.inl rfl) (pe_ix ix_tup (pe_meth (pv 0) T.c_Town T.t_Town_ask (ok_Town_ask T) (hr.mono (by decide)) T.b_Town_ask .nil pass0 (pa_cons (pv 2) (pa_cons (pv 3) pa_nil))) pe_int (fun _ _ => rfl)))
      (C8.pss_cut (ps_if (PW.pt (pw_or (PW.pt (pw_and (pt_cmpR (op_eqD hr.units) (pv 4) (pe_lst pa_nil) (nomark _)) (pw_and1 (pt_cmpR (op_neD hr.units) (pv 6) (pe_lst pa_nil) (nomark _))))) (pw_or1 (PW.pt (pw_and (pt_cmpR (op_neD hr.units) (pv 4) (pe_lst pa_nil) (nomark _)) (pw_and1 (pt_cmpR (op_neD hr.units) (pe_slice sl_list (pv 6) po_none (po_some pe_int)) (pe_slice sl_list (pv 4) po_none (po_some pe_int)) (nomark _))))))))
      (pss_one (ps_ret pe_bl))
      pss_nil)
      (pss_one (ps_ret (pe_cmpR op_eq (pe_ix ix_list (pe_meth (pv 0) T.c_Town T.t_Town_way (ok_Town_way T) hr T.b_Town_way .nil pass0 (pa_cons (pv 2) (pa_cons (pv 3) pa_nil))) (pe_un un_neg pe_int) (fun _ _ => rfl)) (pe_ix ix_list (pe_call (ok_l_by_nearness T) (hr.mono (by decide)) rfl T.m_l_by_nearness T.F_l_by_nearness.kp T.b_l_by_nearness .nil pass0 (pa_cons (pv 3) (pa_cons (pv 1) pa_nil))) pe_int (fun _ _ => rfl)) (nomark _))))))), ?_⟩
    rw [Nn.st_l_goes_out]; try rw [Nn.cxK]
    try rw [Nn.cxW]
    walk_at "wx"
    refine LcW.filt (emb := nV) (xs := L) (fun n => !decide (n = s)) (SqL.of hl) (by rw [sizeLine_eq]; omega) (fun n _ H2 ex2 R hR => ?_) (fun n _ _ H2 ex2 Qe hQ => ?_) fun p2 H2 hp2 ex2 h2 => ?_
    · walk_at "wx"
      have e : decide ((n : Int) = (s : Int)) = decide (n = s) := decide_eq_decide.mpr ⟨fun z => Int.ofNat.inj z, fun z => by rw [z]⟩
      rw [e]
      exact hR _ Ex.refl
    · walk_at "wx"
      exact hQ
    refine wc_l_by_nearness rfl (SqL.of h2) (Fr.tabs ex2 hT) fun p3 H3 hp3 ex3 h3 => ?_
    rw [sortX_byN (nd.filter _), eB1] at h3
    have ex03 := ex2.trans ex3
    have u3 := u.ex ex03
    have hT3 := Fr.tabs ex03 hT
    have hl3 := ex03.at hl
    have nO3 : ¬ F p3 := fun z => u.a.live (.inl z) (ex2.back p3 hp3)
    have first := f.first u.ok (by omega) (g := g) haw
    have hol : (byN g (m.live.filter fun n => !decide (n = s))).length ≤ 63 := by
      have q1 := nodup_len (byN_nodup g (m.live.filter fun n => !decide (n = s))) fun x hx => (List.mem_filter.mp (mem_byN.mp hx)).1
      have q2 := u.ok.live_len
      omega
    generalize byN g (m.live.filter fun n => !decide (n = s)) = oth at h3 first hol
    obtain ⟨dx3, ob3⟩ := u3.a.ta.tw.ob
    walk_at "wx"
    refine wc_Town_ask rfl rfl u3.a.ta u.ok (by omega) haw hg hT3 fun p4 r fd es H4 fr4 hp4 h4 ra4 hfd h4f nes ta4 => ?_
    have u4 : Mk7 T H4 A1 F G (m.learn s g) S N k := u3.same fr4 ta4 TM.learn_houses (u.ok.learn haw) TM.learn_sizes.1
    have h34 := fr4.at h3 nO3
    have hl4 := fr4.at hl3 fun z => nO (.inl z)
    have hT4 := Fr.tabs fr4 hT3
    have f4 := f.learn u.ok (g := g) haw
    have ok4 := u4.ok
    have lv4 : (m.learn s g).live = m.live := TM.learn_live'
    have fr04 : Fr F H H4 := ex03.fr.trans fr4
    generalize m.askFd s g = fnd at h4f first
    walk_at "wx"
    have wy := f4.way ok4 (g := g) (s := s) (n0 := n0) (by rw [TM.learn_aw]; exact haw) (by rw [lv4]; exact hn0) (by rw [lv4]; exact hmin)
    have eb0 : ∃ rr, byN g m.live = n0 :: rr := by
      have hin : n0 ∈ (byN g m.live).take 1 := near_in (by decide) hn0 hmin
      cases e : byN g m.live with
      | nil => rw [e] at hin; cases hin
      | cons x r =>
        rw [e] at hin
        obtain rfl : n0 = x := by simpa using hin
        exact ⟨r, rfl⟩
    obtain ⟨rr, ebr⟩ := eb0
    have e1 : oth = [] ↔ fnd = [] := by
      cases oth with
      | nil => cases fnd with
        | nil => exact ⟨fun _ => rfl, fun _ => rfl⟩
        | cons x r => cases first
      | cons y r2 => cases fnd with
        | nil => cases first
        | cons x r => exact ⟨fun z => (by cases z), fun z => (by cases z)⟩
    have e2 : fnd.take 1 = oth.take 1 := by
      cases oth with
      | nil => cases fnd with
        | nil => rfl
        | cons x r => cases first
      | cons y r2 => cases fnd with
        | nil => cases first
        | cons x r => simp at first; rw [first]; rfl
    refine x_cut (fun σ' H' => σ' = [some (.ref A1.t), some (.ref pl), some (.int s), some (.int g), some (.ref p3), none, some (.ref fd)] ∧ Ex H4 H') ?_ ?_
    · walk_at "wx"
      refine ⟨len_ok rfl, fun p5 hp5 => ?_⟩
      generalize hU : upd _ p5 _ = H5
      have ex5 := Ex.new' hp5 hU
      have h5 := new_at hU
      clear hU
      have h35 := ex5.at h34
      have h4f5 := ex5.at h4f
      refine x_eqLN (xs := oth) (ys := []) (SqL.of h35) (SqL.of h5) ?_
      by_cases hE : oth = []
      · rw [decide_eq_true hE]
        walk_at "wx"
        refine ⟨len_ok rfl, fun p6 hp6 => ?_⟩
        generalize hU : upd _ p6 _ = H6
        have ex6 := Ex.new' hp6 hU
        have h6 := new_at hU
        clear hU
        refine x_neLN (xs := fnd) (ys := []) (SqL.of (ex6.at h4f5)) (SqL.of h6) ?_
        rw [decide_eq_true (e1.mp hE)]
        walk_at "wx"
        refine ⟨len_ok rfl, fun p7 hp7 => ?_⟩
        generalize hU : upd _ p7 _ = H7
        have ex7 := Ex.new' hp7 hU
        have h7 := new_at hU
        clear hU
        refine x_neLN (xs := oth) (ys := []) (SqL.of (ex7.at (ex6.at h35))) (SqL.of h7) ?_
        rw [decide_eq_true hE]
        walk_at "wx"
        exact ⟨rfl, ex5.trans (ex6.trans ex7)⟩
      · rw [decide_eq_false hE]
        walk_at "wx"
        refine ⟨len_ok rfl, fun p6 hp6 => ?_⟩
        generalize hU : upd _ p6 _ = H6
        have ex6 := Ex.new' hp6 hU
        have h6 := new_at hU
        clear hU
        have h36 := ex6.at h35
        have h4f6 := ex6.at h4f5
        refine x_neLN (xs := oth) (ys := []) (SqL.of h36) (SqL.of h6) ?_
        rw [decide_eq_false hE]
        walk_at "wx"
        refine x_slTo (m := 1) rfl (SqL.of h4f6) fun p7 H7 hp7 ex7 h7 => ?_
        have h37 := ex7.at h36
        walk_at "wx"
        refine x_slTo (m := 1) rfl (SqL.of h37) fun p8 H8 hp8 ex8 h8 => ?_
        refine x_neLN (SqL.of (ex8.at h7)) (SqL.of h8) ?_
        rw [decide_eq_true e2]
        walk_at "wx"
        exact ⟨rfl, ex5.trans (ex6.trans (ex7.trans ex8))⟩
    · rintro σ' H5 ⟨rfl, ex5⟩
      have u5 := u4.ex ex5
      have hl5 := ex5.at hl4
      have hT5 := Fr.tabs ex5 hT4
      obtain ⟨dx5, ob5⟩ := u5.a.ta.tw.ob
      walk_at "wx"
      refine wc_Town_way rfl rfl u5.a.ta ok4 (by omega) (by rw [TM.learn_aw]; exact haw) (by rw [TM.learn_sizes.1]; exact hg) hT5 fun p6 H6 hp6 ex6 h6 => ?_
      have hat1 := atI_lastN wy.2
      have hl6 := ex6.at hl5
      have hT6 := Fr.tabs ex6 hT5
      walk_at "wx"
      refine wc_l_by_nearness rfl (SqL.of hl6) hT6 fun p7 H7 hp7 ex7 h7 => ?_
      rw [sortX_byN nd, eB, ebr] at h7
      have hat5 : atI ((n0 :: rr).map nV) 0 = some (nV n0) := atI_hd
      walk_at "wx"
      rw [decide_eq_true rfl]
      exact q H7 (fr04.trans (ex5.trans (ex6.trans ex7)).fr) (u4.ex (ex5.trans (ex6.trans ex7)))
def sp_l_changed (T : Tx K mg base) : Sp := fun vs H Q _ => ∃ (A : TA) (F G : Addr → Prop) (m : TM) (S : SM) (N k D L : List Nat) (lst : Nat → Option Nat) (pl ln : Addr) (nb : Nat) (b : Bool), vs = [.ref A.t, .ref pl, .ref ln, .int nb, .bl b] ∧ Mk7 T H A F G m S N k ∧ m.Held D ∧ StayOk m S D.length lst ∧ N.length = 12 ∧ S.n ≤ 50 ∧ (b = true → D.length + 1 < m.room) ∧ H pl = some (.lst (L.map nV)) ∧ L.Nodup ∧ (∀ x, x ∈ L ↔ x ∈ m.live) ∧ L ≠ [] ∧ H ln = some (.lst (N.map nV)) ∧ ¬ (F pl ∨ G pl) ∧ NdefX.TabsN (tabsL T) H ∧
  ∀ (r : Nat) (H' : Hp) (A' : TA) (F' G' : Addr → Prop) (m' : TM) (S' : SM) (D' L' : List Nat), Fr (fun a => (F a ∨ G a) ∨ a = pl) H H' → A'.t = A.t → (∀ a, F' a ∨ G' a → F a ∨ G a ∨ H a = none) → Mk7 T H' A' F' G' m' S' N k → m'.Held D' → StayOk m' S' D'.length lst → D'.length = D.length + r → m'.wide = m.wide → m'.room = m.room → S'.n = S.n → S'.tx = S.tx → H' pl = some (.lst (L'.map nV)) → L'.Nodup → (∀ x, x ∈ L' ↔ x ∈ m'.live) → L' ≠ [] → Q (.int r) H'
theorem wc_l_changed {L : List Nat} {lst : Nat → Option Nat} {pl ln : Addr} {nb : Nat} {b : Bool} {i : Int} (hi : i = nb) (u : Mk7 T H A F G m S N k) (f : m.Held D) (so : StayOk m S D.length lst) (hN : N.length = 12) (hn : S.n ≤ 50) (hb : b = true → D.length + 1 < m.room) (hl : H pl = some (.lst (L.map nV))) (nd : L.Nodup) (hm : ∀ x, x ∈ L ↔ x ∈ m.live) (hne : L ≠ []) (h1 : H ln = some (.lst (N.map nV))) (nO : ¬ (F pl ∨ G pl)) (tb : NdefX.TabsN (tabsL T) H)
    (q : ∀ (r : Nat) (H' : Hp) (A' : TA) (F' G' : Addr → Prop) (m' : TM) (S' : SM) (D' L' : List Nat), Fr (fun a => (F a ∨ G a) ∨ a = pl) H H' → A'.t = A.t → (∀ a, F' a ∨ G' a → F a ∨ G a ∨ H a = none) → Mk7 T H' A' F' G' m' S' N k → m'.Held D' → StayOk m' S' D'.length lst → D'.length = D.length + r → m'.wide = m.wide → m'.room = m.room → S'.n = S.n → S'.tx = S.tx → H' pl = some (.lst (L'.map nV)) → L'.Nodup → (∀ x, x ∈ L' ↔ x ∈ m'.live) → L' ≠ [] → Q (.int r) H') : sp_l_changed T [.ref A.t, .ref pl, .ref ln, .int i, .bl b] H Q E := by
  subst hi; exact ⟨A, F, G, m, S, N, k, D, L, lst, pl, ln, nb, b, rfl, u, f, so, hN, hn, hb, hl, nd, hm, hne, h1, nO, tb, q⟩
theorem ok_l_changed (T : Tx K mg base) : FnOk P w K mg base CX0 9 T.a_l_changed T.d_l_changed ["_law_market", "_law_live", "_law_names_here", "_law_number_here", "_law_more"] (sp_l_changed T) := by
  refine T.F_l_changed.okD sc_l_changed (fun vs H Q E h => ?_) (fun cdv A outer s H vs Q E hr h => ?_)
  · obtain ⟨A, F, G, m, S, N, k, D, L, lst, pl, ln, nb, b, rfl, _⟩ := h; rfl
  · obtain ⟨A1, F, G, m, S, N, k, D, L, lst, pl, ln, nb, b, rfl, u, f, so, hN, hn, hb, hl, nd, hm, hne, h1, nO, hT, q⟩ := h
    have hu := hu_of hr
    have hz := u.ok.houses_len
    have hkz := u.kz
    have hw1 := u.ok.w1
    have hpos : 0 < L.length := List.length_pos_iff.mpr hne
    have hlm : (L.map nV).length = L.length := List.length_map _
    have hhh : m.hush.length < 64 := Nat.lt_of_le_of_lt (nodup_len u.ok.hnd u.ok.hh) hz
    have hLl : L.length ≤ 12 := Nat.le_trans (nodup_len nd fun x hx => u.ok.hN _ (TM.live_house ((hm x).mp hx))) (by omega)
    obtain ⟨dx, ob⟩ := u.a.ta.tw.ob
    obtain ⟨hpk, hat⟩ := pick_at (x := nb / 3) hne
    have e3 : (nb : Int) / 3 = ((nb / 3 : Nat) : Int) := by simp
    have c_Bucket := T.c_Bucket; have n_Bucket_room := T.n_Bucket_room; have n_Bucket_line := T.n_Bucket_line; have c_Table := T.c_Table; have n_Table_own := T.n_Table_own; have n_Table_wide := T.n_Table_wide; have n_Table_room := T.n_Table_room; have n_Table_buckets := T.n_Table_buckets; have c_Town := T.c_Town; have n_Town_wide := T.n_Town_wide; have n_Town_room := T.n_Town_room; have n_Town_tables := T.n_Town_tables; have n_Town_hushed := T.n_Town_hushed; have n_Town_shelves := T.n_Town_shelves; have n_Town_layings := T.n_Town_layings
    refine ⟨_, (C8.pss_cut (ps_if (PW.pt (pw_and (pt_cmpR op_lt (pe_op op_mod (pv 3) pe_int) pe_int (nomark _)) (pw_and (pt_val (pv 4)) (pw_and1 (pt_cmpR op_gt (pe_callB cb_len (by rfl) T.z_len PySem.boot_len (pa_cons (pv 1) pa_nil)) pe_int (nomark _))))))
      (pss_cons (ps_set (i := 5) sc_l_changed.nd rfl (Or.inl rfl) (pe_ix ix_list (pv 1) (pe_op op_mod (pe_op op_fdivW (pv 3) pe_int) (pe_callB cb_len (by rfl) T.z_len PySem.boot_len (pa_cons (pv 1) pa_nil))) (fun _ _ => rfl)))
      (pss_cons (ps_if (pt_cmpR op_eq (pe_op op_mod (pe_op op_fdivW (pv 3) pe_int) pe_int) pe_int (nomark _))
      (pss_one (ps_expr (pe_meth (pv 0) T.c_Town T.t_Market_go (ok_Market_go T) (hr.mono (by decide)) T.b_Market_go .nil pass0 (pa_cons (pv 5) pa_nil))))
      (pss_one (ps_expr (pe_meth (pv 0) T.c_Town T.t_Town_hush (ok_Town_hush T) (hr.mono (by decide)) T.b_Town_hush .nil pass0 (pa_cons (pv 5) pa_nil)))))
      (pss_cons (ps_expr (pe_bm PySem.F.plainAttrs_list PySem.F.slot_list_remove PySem.F.type_list_remove mt_remove (pv 1) (pa_cons (pv 5) pa_nil)))
      (pss_one (ps_ret pe_int)))))
      pss_nil)
      (pss_cons (ps_setLc (i := 6) (own := [("_law_name", 7)]) (g := (gName 7)) (by rfl) sc_l_changed.nd rfl rfl (sw_true rfl rfl rfl (by decide +kernel)) (pi_list (pv 2)) (blkOk_by (N := N_l_changed) (sc := defScope s_l_changed) (own := [("_law_name", 7)]) (by decide +kernel)) (fun _ _ _ _ _ => (pg_name (i := 7) sc_l_changed.nd rfl (Or.inl rfl))) (fun _ _ _ _ _ => pts_one ((pt_cmpR (op_notInK (K := K) rfl) (pv 7) (pe_meth0 (pv 0) T.c_Town T.t_Town_houses (ok_Town_houses T) (hr.mono (by decide)) T.b_Town_houses .nil pass0) rfl))) (fun _ _ _ _ _ => (pv 7)))
      (pss_cons (ps_if (pt_cmpR (op_neD hr.units) (pv 6) (pe_lst pa_nil) (nomark _))
      (pss_cons (ps_set (i := 7) sc_l_changed.nd rfl (Or.inl rfl) (pe_ix ix_list (pv 6) (pe_op op_mod (pe_op op_fdivW (pv 3) pe_int) (pe_callB cb_len (by rfl) T.z_len PySem.boot_len (pa_cons (pv 6) pa_nil))) (fun _ _ => rfl)))
      (pss_cons (ps_expr (pe_meth (pv 0) T.c_Town T.t_Market_come (ok_Market_come T) hr T.b_Market_come .nil pass0 (pa_cons (pv 7) (pa_cons (pe_ix ix_list (pv 1) (pe_op op_mod (pe_op op_fdivW (pv 3) pe_int) (pe_callB cb_len (by rfl) T.z_len PySem.boot_len (pa_cons (pv 1) pa_nil))) (fun _ _ => rfl)) pa_nil))))
      (pss_one (ps_expr (pe_bm PySem.F.plainAttrs_list PySem.F.slot_list_append PySem.F.type_list_append mt_append (pv 1) (pa_cons (pv 7) pa_nil))))))
      pss_nil)
      (pss_one (ps_ret pe_int))))), ?_⟩
    rw [Nn.st_l_changed]; try rw [Nn.cxK]
    try rw [Nn.cxW]
    have fin : ∀ (x : Nat) (m1 : TM) (H1 : Hp), x ∈ L → 1 < L.length → D.length + 1 < m.room → (∀ y, y ∈ m1.live ↔ y ∈ m.live ∧ y ≠ x) → (∀ h ∈ m1.live, ∀ j, m1.row h j = m.row h j) → m1.room = m.room → m1.wide = m.wide → Fr (fun a => F a ∨ G a) H H1 → Mk7 T H1 A1 F G m1 S N k → Q (.int ((1 : Nat) : Int)) (upd H1 pl (.lst ((L.erase x).map nV))) := by
      intro x m1 H1 hx h2 hd hlv hrw hrm hwd fr1 u1
      have hl1 := fr1.at hl nO
      refine q 1 _ A1 F G m1 S (x :: D) (L.erase x) ((fr1.mono fun a z => .inl z).trans ((Fr.upd1 hl1).mono fun a z => .inr z)) rfl (fun a z => z.imp id .inl) (u1.upd hl1 nO) (f.lost u.ok u1.ok hlv hrw hrm hd) (so.lost f.few hlv hrm) rfl hwd hrm rfl rfl upd_same (nd.erase x) (fun y => ?_) fun z => ?_
      · rw [nd.mem_erase_iff, hlv, hm]; exact and_comm
      · have := List.length_erase_of_mem hx
        rw [z, List.length_nil] at this
        omega
    refine x_cut (fun σ' H' => σ' = [some (.ref A1.t), some (.ref pl), some (.ref ln), some (.int nb), some (.bl b), none, none, none] ∧ H' = H) ?_ ?_
    · walk_at "wx"
      refine x_ite (fun c1 => ?_) fun c1 => ?_
      · walk_at "wx"
        cases b with
        | false =>
          walk_at "wx"
          exact ⟨rfl, rfl⟩
        | true =>
          have hd := hb rfl
          walk_at "wx"
          rw [List.length_map]
          refine x_ifD (fun c2 => ?_) fun c2 => ?_
          · walk_at "wx"
            rw [List.length_map, e3]
            refine x_ixL (SqL.of hl) hat ?_
            generalize pickN L (nb / 3) = x at hpk
            have hxl := (hm x).mp hpk
            have haw := TM.mem_live.mp hxl
            have hxm := TM.aw_house haw
            walk_at "wx"
            refine x_ifD (fun c3 => ?_) fun c3 => ?_
            · walk_at "wx"
              refine wc_Market_go rfl u.a u.ok.w1 (u.ok.bd hxm) hxm fun H6 fr6 a6 => ?_
              have u6 := u.cut a6
              have hl6 := fr6.at hl nO
              walk_at "wx"
              refine x_remove rfl hl6 hpk ?_
              walk_at "wx"
              exact fin x _ H6 hpk (by omega) hd (fun y => TM.cut_lv) (fun h hh j => TM.cut_row ((TM.cut_lv.mp hh).2)) rfl rfl fr6 u6
            · walk_at "wx"
              refine wc_Town_hush rfl u.a.ta u.ok.w1 (u.ok.bd hxm) hxm (by omega) fun H6 fr6 ta6 => ?_
              have u6 := u.same fr6 ta6 TM.hushed_houses (u.ok.hushed hxm) TM.hushed_room.2
              have fr6' : Fr (fun a => F a ∨ G a) H H6 := fr6.mono fun a z => .inl z
              have hl6 := fr6'.at hl nO
              walk_at "wx"
              refine x_remove rfl hl6 hpk ?_
              walk_at "wx"
              exact fin x _ H6 hpk (by omega) hd (fun y => TM.hushed_lv) (fun h hh j => TM.hushed_row) TM.hushed_room.1 TM.hushed_room.2 fr6' u6
          · walk_at "wx"
            exact ⟨rfl, rfl⟩
      · walk_at "wx"
        exact ⟨rfl, rfl⟩
    · rintro σ' H' ⟨rfl, eH⟩
      subst eH
      walk_at "wx"
      refine LcW.filt (emb := nV) (xs := N) (fun n => !decide (n ∈ m.houses)) (SqL.of h1) (by rw [sizeLine_eq]; omega) (fun y _ H5 ex5 R hR => ?_) (fun y _ _ H5 ex5 Qe hQ => ?_) fun p5 H5 hp5 ex5 h5 => ?_
      · have u5 := u.ex ex5
        obtain ⟨dx5, ob5⟩ := u5.a.ta.tw.ob
        walk_at "wx"
        refine wc_Town_houses u5.a.ta hz u.ok.nd fun p6 hp6 => ?_
        generalize hU : upd H5 p6 _ = H6
        have ex6 := Ex.new' hp6 hU
        have h6 := new_at hU
        clear hU
        walk_at "wx"
        have e : decide (y ∈ sortU m.houses) = decide (y ∈ m.houses) := decide_eq_decide.mpr mem_sortU
        have q1 := hR H6 ex6
        rw [← e] at q1
        exact q1
      · walk_at "wx"
        exact hQ
      have haway : ∀ x ∈ N.filter (fun n => !decide (n ∈ m.houses)), x ∈ N ∧ x ∉ m.houses := fun x hx => by
        have q := List.mem_filter.mp hx
        exact ⟨q.1, by simpa using q.2⟩
      have hawl : (N.filter (fun n => !decide (n ∈ m.houses))).length ≤ 12 := by rw [← hN]; exact List.length_filter_le _ _
      generalize N.filter (fun n => !decide (n ∈ m.houses)) = left at h5 haway hawl
      walk_at "wx"
      refine ⟨len_ok rfl, fun p6 hp6 => ?_⟩
      generalize hU : upd _ p6 _ = H6
      have ex6 := Ex.new' hp6 hU
      have h6 := new_at hU
      clear hU
      have ex06 := ex5.trans ex6
      have u6 := u.ex ex06
      have h56 := ex6.at h5
      have hl6 := ex06.at hl
      have hT6 := Fr.tabs ex06 hT
      obtain ⟨dx6, ob6⟩ := u6.a.ta.tw.ob
      refine x_neLN (xs := left) (ys := []) (SqL.of h56) (SqL.of h6) ?_
      by_cases hE : left = []
      · rw [decide_eq_true hE]
        walk_at "wx"
        exact q 0 H6 A1 F G m S D L ex06.fr rfl (fun a z => z.imp id .inl) u6 f so rfl rfl rfl rfl rfl hl6 nd hm hne
      · rw [decide_eq_false hE]
        obtain ⟨hpa, hata⟩ := pick_at (x := nb / 3) hE
        obtain ⟨hpd, hatd⟩ := pick_at (x := nb / 36) hne
        have e36 : (nb : Int) / 36 = ((nb / 36 : Nat) : Int) := by simp
        have hpos2 : 0 < left.length := List.length_pos_iff.mpr hE
        have hlm2 : (left.map nV).length = left.length := List.length_map _
        walk_at "wx"
        rw [List.length_map, e3]
        refine x_ixL (SqL.of h56) hata ?_
        have hin := haway _ hpa
        generalize pickN left (nb / 3) = n at hin
        walk_at "wx"
        rw [List.length_map, e36]
        refine x_ixL (SqL.of hl6) hatd ?_
        have hdl := (hm _).mp hpd
        generalize pickN L (nb / 36) = d at hdl
        walk_at "wx"
        refine wc_Market_come (door := some d) (k := k) rfl rfl u6.a u.ok hin.1 hin.2 (fun x e => by cases e; exact TM.mem_live.mp hdl) u.kk (by omega) hT6 fun pc qc Hc Ac Fc hpc frc hc nOc eA hFc tc => ?_
        have uc := u6.come hin.2 hin.1 tc
        have hlc := frc.at hl6 nO
        have nOc : ¬ (Fc pl ∨ (G pl ∨ pl = qc)) := fun z => by
          rcases hFc _ z with w | w | w
          · exact nO (.inl w)
          · exact nO (.inr w)
          · rw [hl6] at w; cases w
        have hlv := TM.comes_live u.ok hin.2 hin.1 f hdl
        have hnl : n ∉ m.live := fun z => hin.2 (TM.live_house z)
        have etold : m.told n (some d) = m.live := f.others u.ok hin.2 hdl
        rw [etold] at uc
        walk_at "wx"
        refine q 0 _ Ac Fc (fun a => G a ∨ a = qc) (m.comes n (some d)) ((S.add n qc).takes n m.live m.room) D (L ++ [n]) ((ex06.fr.trans (frc.mono fun a z => .inl z)).trans ((Fr.upd1 hlc).mono fun a z => .inr z)) eA (fun a z => (hFc a z).imp id fun y => y.imp id (ex06.back a)) (uc.upd hlc nOc) (f.comes u.ok hin.2 hin.1 hdl) (so.comes f.few hnl (List.ne_nil_of_mem hdl) hlv TM.comes_room) rfl TM.comes_wide TM.comes_room takes_same.1 takes_same.2.2 ?_ ?_ (fun y => ?_) (by simp)
        · rw [upd_same, List.map_append]; rfl
        · exact List.nodup_append.mpr ⟨nd, List.nodup_cons.mpr ⟨by simp, List.nodup_nil⟩, fun a ha b hb e => hnl (by rw [← List.mem_singleton.mp hb, ← e]; exact (hm a).mp ha)⟩
        · rw [List.mem_append, List.mem_singleton, hm, hlv]
end
end Nn
/-! k72: the law -/
namespace Nn
open PySem L2
theorem txt_laid : ∀ n : Nat, n < 100 → PyData.canLay0 (.str (("laid" : Str) ++ toString (n : Int))) = true := by
  have h : ((List.range 100).all fun n => PyData.canLay0 (.str (("laid" : Str) ++ toString (n : Int)))) = true := by decide +kernel
  exact fun n hn => List.all_eq_true.mp h n (List.mem_range.mpr hn)
theorem laid_len : ∀ n : Nat, n < 100 → (toString (n : Int) : Str).length ≤ 100 := by
  have h : ((List.range 100).all fun n => decide ((toString (n : Int) : Str).length ≤ 100)) = true := by decide +kernel
  exact fun n hn => of_decide_eq_true (List.all_eq_true.mp h n (List.mem_range.mpr hn))
section
variable {P : Program} {w : World} {K : PySem.W.Frag} {mg : Str → Option Value} {base : Heap} {H H' : Hp} {Q : VK} {E : XK} {T : Tx K mg base} {A : TA} {F G X : Addr → Prop} {m : TM} {S : SM} {N k D : List Nat}
/-- the law's own list and dict, beside the market -/
structure Side (H : Hp) (F G : Addr → Prop) (m : TM) (S : SM) (pn pl d : Addr) (N L ks : List Nat) (lt : Nat → Str) (lst : Nat → Option Nat) : Prop where
  hl : H pl = some (.lst (L.map nV))
  hn : H pn = some (.lst (N.map nV))
  dd : H d = some (.dK (dOf ks fun g => .str (lt g)))
  np : ¬ (F pl ∨ G pl)
  nn : ¬ (F pn ∨ G pn)
  ndd : ¬ (F d ∨ G d)
  nd : L.Nodup
  mem : ∀ x, x ∈ L ↔ x ∈ m.live
  ne : L ≠ []
  kn : ks.Nodup
  kl : ks.length ≤ 10
  kb : ∀ g ∈ ks, g < 2 ^ m.wide
  tx : ∀ g ∈ ks, ∃ j, lst g = some j ∧ S.tx j = lt g
section
variable {pn pl d : Addr} {L ks : List Nat} {lt : Nat → Str} {lst : Nat → Option Nat}
theorem Side.fr (s : Side H F G m S pn pl d N L ks lt lst) (f : Fr (fun a => F a ∨ G a) H H') : Side H' F G m S pn pl d N L ks lt lst :=
  ⟨f.at s.hl s.np, f.at s.hn s.nn, f.at s.dd s.ndd, s.np, s.nn, s.ndd, s.nd, s.mem, s.ne, s.kn, s.kl, s.kb, s.tx⟩
theorem Side.ex (s : Side H F G m S pn pl d N L ks lt lst) (e : Ex H H') : Side H' F G m S pn pl d N L ks lt lst := s.fr e.fr
theorem Side.to {m' : TM} {S' : SM} (s : Side H F G m S pn pl d N L ks lt lst) (lv : m'.live = m.live) (w : m'.wide = m.wide) (tx : S'.tx = S.tx) : Side H F G m' S' pn pl d N L ks lt lst :=
  ⟨s.hl, s.hn, s.dd, s.np, s.nn, s.ndd, s.nd, by rw [lv]; exact s.mem, s.ne, s.kn, s.kl, by rw [w]; exact s.kb, by rw [tx]; exact s.tx⟩
end
def spLaw (K : PySem.W.Frag) : Sp := fun vs H Q _ => ∃ (a : Addr) (ns : List Int), vs = [.ref a] ∧ SqL K H a (ns.map V.int) ∧ ns.length ≤ 63 ∧ Tabs0 K H ∧ ∀ H', Q (.bl true) H'
def sp_law (_ : Tx K mg base) : Sp := spLaw K
theorem ok_law (T : Tx K mg base) : FnOk P w K mg base CX0 10 T.a_law T.d_law ["_law_script"] (sp_law T) := by
  refine T.F_law.okD sc_law (fun vs H Q E h => ?_) (fun cdv A outer s H vs Q E hr h => ?_)
  · obtain ⟨a, ns, rfl, _⟩ := h; rfl
  · obtain ⟨a, ns, rfl, hS, hlen, hT0, q⟩ := h
    have hu := hu_of hr
    have hT := tabs0 (T := T) hT0
    have c_Bucket := T.c_Bucket; have n_Bucket_room := T.n_Bucket_room; have n_Bucket_line := T.n_Bucket_line; have c_Table := T.c_Table; have n_Table_own := T.n_Table_own; have n_Table_wide := T.n_Table_wide; have n_Table_room := T.n_Table_room; have n_Table_buckets := T.n_Table_buckets; have c_Town := T.c_Town; have n_Town_wide := T.n_Town_wide; have n_Town_room := T.n_Town_room; have n_Town_tables := T.n_Town_tables; have n_Town_hushed := T.n_Town_hushed; have n_Town_shelves := T.n_Town_shelves; have n_Town_layings := T.n_Town_layings
    refine ⟨_, (pss_cons (ps_set (i := 1) sc_law.nd rfl (Or.inl rfl) (pe_call (ok_l_number T) (hr.mono (by decide)) rfl T.m_l_number T.F_l_number.kp T.b_l_number .nil pass0 (pa_cons (pe_call (ok_l_cell_at T) (hr.mono (by decide)) rfl T.m_l_cell_at T.F_l_cell_at.kp T.b_l_cell_at .nil pass0 (pa_cons (pv 0) (pa_cons pe_int pa_nil))) (pa_cons pe_int (pa_cons pe_bl pa_nil)))))
      (pss_cons (ps_set (i := 2) sc_law.nd rfl (Or.inl rfl) (pe_cmpR op_eq (pe_op op_mod (pv 1) pe_int) pe_int (nomark _)))
      (pss_cons (ps_set (i := 3) sc_law.nd rfl (Or.inl rfl) (pe_op op_add pe_int (pe_op op_mod (pe_op op_fdivW (pv 1) pe_int) (pe_ix ix_list (pe_lst (pa_cons pe_int (pa_cons pe_int pa_nil))) (pe_op op_mod (pe_op op_fdivW (pv 1) pe_int) pe_int) (fun _ _ => rfl)))))
      (pss_cons (ps_set (i := 4) sc_law.nd rfl (Or.inl rfl) (pe_make T.M_Market (ok_Market_init T) (hr.mono (by decide)) rfl T.m_Market T.b_Market_init .nil pass0 (pa_cons (pv 3) (pa_cons (pe_op op_add pe_int (pe_op op_mod (pe_op op_fdivW (pv 1) pe_int) pe_int)) pa_nil))))
      (pss_cons (ps_set (i := 5) sc_law.nd rfl (Or.inl rfl) (pe_call (ok_l_names T) (hr.mono (by decide)) rfl T.m_l_names T.F_l_names.kp T.b_l_names .nil pass0 (pa_cons (pe_call (ok_l_number T) (hr.mono (by decide)) rfl T.m_l_number T.F_l_number.kp T.b_l_number .nil pass0 (pa_cons (pe_call (ok_l_cell_at T) (hr.mono (by decide)) rfl T.m_l_cell_at T.F_l_cell_at.kp T.b_l_cell_at .nil pass0 (pa_cons (pv 0) (pa_cons pe_int pa_nil))) (pa_cons pe_int (pa_cons (pv 2) pa_nil)))) (pa_cons (pv 3) (pa_cons pe_int pa_nil)))))
      (pss_cons (ps_set (i := 6) sc_law.nd rfl (Or.inl rfl) (pe_call (ok_l_built T) hr rfl T.m_l_built T.F_l_built.kp T.b_l_built .nil pass0 (pa_cons (pv 4) (pa_cons (pv 5) (pa_cons (pe_slice sl_list (pv 0) (po_some pe_int) (po_some pe_int)) (pa_cons (pv 2) pa_nil))))))
      (pss_cons (ps_set (i := 7) sc_law.nd rfl (Or.inl rfl) pe_dnewK)
      (pss_cons (ps_for PassesOwn.never rfl (pi_enum (by rfl) T.z_enumerate (pa_cons (pe_op op_cat (pe_lst (pa_cons (pv 1) pa_nil)) (pe_slice sl_list (pv 0) (po_some pe_int) (po_some pe_int))) pa_nil)) (pg_tup (n := 2) rfl (pgs_cons (pg_name (i := 8) sc_law.nd rfl (Or.inl rfl)) (pgs_cons (pg_name (i := 9) sc_law.nd rfl (Or.inl rfl)) pgs_nil)))
      (pss_cons (ps_set (i := 10) sc_law.nd rfl (Or.inl rfl) (pe_call (ok_l_number T) (hr.mono (by decide)) rfl T.m_l_number T.F_l_number.kp T.b_l_number .nil pass0 (pa_cons (pv 9) (pa_cons (pv 8) (pa_cons (pv 2) pa_nil)))))
      (pss_cons (ps_set (i := 11) sc_law.nd rfl (Or.inl rfl) (pe_ix ix_list (pe_lst (pa_cons (pe_op op_mod (pe_op op_fdivW (pv 10) pe_int) (pe_op op_shl1 pe_int (pv 3))) (pa_cons (pe_op op_xorN (pe_ix ix_list (pv 6) (pe_op op_mod (pe_op op_fdivW (pv 10) pe_int) (pe_callB cb_len (by rfl) T.z_len PySem.boot_len (pa_cons (pv 6) pa_nil))) (fun _ _ => rfl)) pe_int) (pa_cons (pe_ix ix_list (pv 5) pe_int (fun _ _ => rfl)) pa_nil)))) (pe_op op_mod (pv 10) pe_int) (fun _ _ => rfl)))
      (pss_cons (ps_dput hu (pv 7) (pv 11) (pe_op op_addS pe_str (pe_callTy cb_strI (by rfl) T.z_str (by decide +kernel) (pa_cons (pv 8) pa_nil))) rfl)
      (pss_one (ps_expr (pe_meth (pv 4) T.c_Town T.t_Market_lay (ok_Market_lay T) (hr.mono (by decide)) T.b_Market_lay .nil pass0 (pa_cons (pe_ix ix_list (pv 6) (pe_op op_mod (pe_op op_fdivW (pv 10) pe_int) (pe_callB cb_len (by rfl) T.z_len PySem.boot_len (pa_cons (pv 6) pa_nil))) (fun _ _ => rfl)) (pa_cons (pv 11) (pa_cons (pe_dget hu (pv 7) (pv 11) (fun _ _ => rfl)) pa_nil))))))))))
      (pss_cons (ps_if (pt_cmpR op_notNn (pe_call (ok_fault T) (hr.mono (by decide)) rfl T.m_fault T.F_fault.kp T.b_fault .nil pass0 (pa_cons (pv 4) pa_nil)) pe_non (nomark _))
      (pss_one (ps_ret pe_bl))
      pss_nil)
      (pss_cons (ps_set (i := 12) sc_law.nd rfl (Or.inl rfl) pe_int)
      (pss_cons (ps_for PassesOwn.never rfl (pi_enum (by rfl) T.z_enumerate (pa_cons (pe_slice sl_list (pv 0) (po_some pe_int) (po_some pe_int)) pa_nil)) (pg_tup (n := 2) rfl (pgs_cons (pg_name (i := 8) sc_law.nd rfl (Or.inl rfl)) (pgs_cons (pg_name (i := 9) sc_law.nd rfl (Or.inl rfl)) pgs_nil)))
      (pss_cons (ps_set (i := 10) sc_law.nd rfl (Or.inl rfl) (pe_call (ok_l_number T) (hr.mono (by decide)) rfl T.m_l_number T.F_l_number.kp T.b_l_number .nil pass0 (pa_cons (pv 9) (pa_cons (pv 8) (pa_cons (pv 2) pa_nil)))))
      (pss_cons (ps_set (i := 13) sc_law.nd rfl (Or.inl rfl) (pe_ix ix_list (pv 6) (pe_op op_mod (pe_op op_fdivW (pv 10) pe_int) (pe_callB cb_len (by rfl) T.z_len PySem.boot_len (pa_cons (pv 6) pa_nil))) (fun _ _ => rfl)))
      (pss_one (ps_if (pt_cmpR op_eq (pe_op op_mod (pv 10) pe_int) pe_int (nomark _))
      (pss_cons (ps_set (i := 12) sc_law.nd rfl (Or.inl rfl) (pe_op op_add (pv 12) (pe_call (ok_l_changed T) hr rfl T.m_l_changed T.F_l_changed.kp T.b_l_changed .nil pass0 (pa_cons (pv 4) (pa_cons (pv 6) (pa_cons (pv 5) (pa_cons (pe_op op_fdivW (pv 10) pe_int) (pa_cons (pe_cmpR op_lt (pv 12) (pe_op op_sub (pe_fld (pv 4) rfl) pe_int) (nomark _)) pa_nil))))))))
      (pss_one (ps_if (pt_cmpR (op_neD hr.units) (pe_call (ok_holes T) (hr.mono (by decide)) rfl T.m_holes T.F_holes.kp T.b_holes .nil pass0 (pa_cons (pv 4) pa_nil)) (pe_lst pa_nil) (nomark _))
      (pss_one (ps_ret pe_bl))
      pss_nil)))
      (pss_one (ps_if (pt_cmpR op_eq (pe_op op_mod (pv 10) pe_int) pe_int (nomark _))
      (pss_cons (ps_set (i := 11) sc_law.nd rfl (Or.inl rfl) (pe_ix ix_list (pe_callB (cb_sortD rfl) (by rfl) T.z_sorted (by decide +kernel) (pa_cons (pv 7) pa_nil)) (pe_op op_mod (pe_op op_fdivW (pv 10) pe_int) (pe_callB cb_lenD (by rfl) T.z_len PySem.boot_len (pa_cons (pv 7) pa_nil))) (fun _ _ => rfl)))
      (pss_one (ps_if (pt_cmpR op_ne (pe_meth (pv 4) T.c_Town T.t_Market_seek (ok_Market_seek T) (hr.mono (by decide)) T.b_Market_seek .nil pass0 (pa_cons (pv 13) (pa_cons (pv 11) pa_nil))) (pe_dget hu (pv 7) (pv 11) (fun _ _ => rfl)) (nomark _))
      (pss_one (ps_ret pe_bl))
      pss_nil)))
      (pss_one (ps_if (pt_not (pt_val (pe_call (ok_l_goes_out T) hr rfl T.m_l_goes_out T.F_l_goes_out.kp T.b_l_goes_out .nil pass0 (pa_cons (pv 4) (pa_cons (pv 6) (pa_cons (pv 13) (pa_cons (pe_op op_mod (pe_op op_fdivW (pv 10) pe_int) (pe_op op_shl1 pe_int (pv 3))) pa_nil)))))))
      (pss_one (ps_ret pe_bl))
      pss_nil)))))))))
      (pss_cons (ps_for PassesOwn.never rfl (pi_list (pv 6)) (pg_name (i := 13) sc_law.nd rfl (Or.inl rfl))
      (pss_one (ps_lock (ps_for PassesOwn.never rfl (pi_keys (pv 7)) (pg_name (i := 11) sc_law.nd rfl (Or.inl rfl))
      (pss_one (ps_if (pt_cmpR op_ne (pe_meth (pv 4) T.c_Town T.t_Market_seek (ok_Market_seek T) (hr.mono (by decide)) T.b_Market_seek .nil pass0 (pa_cons (pv 13) (pa_cons (pv 11) pa_nil))) (pe_dget hu (pv 7) (pv 11) (fun _ _ => rfl)) (nomark _))
      (pss_one (ps_ret pe_bl))
      pss_nil))))))
      (pss_one (ps_ret (pe_cmpR (op_eqD hr.units) (pe_meth0 (pv 4) T.c_Town T.t_Town_answering (ok_Town_answering T) (hr.mono (by decide)) T.b_Town_answering .nil pass0) (pe_callB cr_sortedI (by rfl) T.z_sorted (by decide +kernel) (pa_cons (pv 6) pa_nil)) (nomark _)))))))))))))))), ?_⟩
    rw [Nn.st_law]; try rw [Nn.cxK]
    try rw [Nn.cxW]
    walk_at "wx"
    refine wc_l_cell_at (k := 0) rfl hS fun z0 => ?_
    walk_at "wx"
    refine wc_l_number (k := 0) rfl (by omega) fun fst => ?_
    walk_at "wx"
    generalize decide ((fst : Int) % 2 = 0) = pb
    refine ⟨len_ok rfl, fun p1 hp1 => ?_⟩
    generalize hU : upd _ p1 _ = H1
    have ex1 := Ex.new' hp1 hU
    have h1 := new_at hU
    clear hU
    have hS1 := ex1.ls hS
    walk_at "wx"
    obtain ⟨r9, hr9, hat9⟩ : ∃ r : Nat, (r = 9 ∨ r = 57) ∧ atI [V.int 9, V.int 57] ((fst : Int) / 4 % 2) = some (.int (r : Int)) := by
      have hc : (fst : Int) / 4 % 2 = 0 ∨ (fst : Int) / 4 % 2 = 1 := by omega
      rcases hc with e | e <;> rw [e]
      · exact ⟨9, by simp, rfl⟩
      · exact ⟨57, by simp, rfl⟩
    refine x_ixL (SqL.of h1) hat9 ?_
    walk_at "wx"
    have ewd : (4 : Int) + (fst : Int) / 2 % (r9 : Int) = ((4 + fst / 2 % r9 : Nat) : Int) := rfl
    rw [ewd]
    have hwd4 : 4 ≤ 4 + fst / 2 % r9 := Nat.le_add_right _ _
    have hwd60 : 4 + fst / 2 % r9 ≤ 60 := by
      have : fst / 2 % r9 < r9 := Nat.mod_lt _ (by omega)
      omega
    generalize 4 + fst / 2 % r9 = wd at hwd4 hwd60
    walk_at "wx"
    have erm : (1 : Int) + (fst : Int) / 500 % 4 = ((1 + fst / 500 % 4 : Nat) : Int) := rfl
    rw [erm]
    have hr1 : 1 ≤ 1 + fst / 500 % 4 := Nat.le_add_right _ _
    have hr4 : 1 + fst / 500 % 4 ≤ 4 := by omega
    generalize 1 + fst / 500 % 4 = room at hr1 hr4
    refine x_make fun tp dx H3 htp ex3 htp3 => ?_
    refine ⟨tp, dx, wd, room, rfl, htp3, by omega, hwd60, by omega, by omega, fun A H4 F G S et hF fr4 hsn ta4 => ⟨rfl, ?_⟩⟩
    have ex14 : Ex H1 H4 := fr4.ex ex3 fun y z => by rw [z]; exact htp
    have ex04 := ex1.trans ex14
    have k0 : (TM.new wd room).Ok [] := TM.Ok.new (by omega) hwd60 (by omega) (by omega)
    have hS4 := ex04.ls hS
    have hT4 := Fr.tabs ex04 hT
    have hF0 : ∀ a, F a ∨ G a → H a = none := fun a z => (hF a z).elim (fun e => by rw [e]; exact ex1.back tp htp) fun e => ex1.back a (ex3.back a e)
    subst et
    clear htp3 ex3 fr4 hF h1 ex1 hp1 hS1 ex14
    walk_at "wx"
    refine wc_l_cell_at (k := 1) rfl hS4 fun z1 => ?_
    walk_at "wx"
    refine wc_l_number (k := 1) rfl (by omega) fun nn => ?_
    walk_at "wx"
    refine wc_l_names (n := 12) rfl rfl rfl hwd4 hwd60 (by omega) fun pn nms H5 hpn ex5 h5 nnd nlen nb => ?_
    have k1 : (TM.new wd room).Ok nms := k0.more (fun x z => by cases z) nb (by omega)
    have ta5 := ta4.ex' ex5
    have hS5 := ex5.ls hS4
    have hT5 := Fr.tabs ex5 hT4
    have e0 : (TM.new wd room).houses = [] := rfl
    have c0 : (TM.new wd room).Calm := ⟨rfl, (fun h hh => by cases hh), (fun h hh => by cases hh)⟩
    have u5 : Mk7 T H5 A F G (TM.new wd room) S nms [] := ⟨ta5, k1, fun x hx => (by rw [e0] at hx; cases hx), Nat.zero_le _, fun j hj => (by cases hj), fun i hi => absurd hi (by rw [hsn]; exact Nat.not_lt_zero i)⟩
    have nOn : ¬ (F pn ∨ G pn) := fun z => ta4.live (Own.fg z) hpn
    have nO : ∀ {x : Addr}, H4 x = none → ¬ (F x ∨ G x) := fun e z => ta4.live (Own.fg z) e
    have hsn0 := hsn
    clear ta5 k0 k1 hS4 hT4
    walk_at "wx"
    refine x_slL hS5 fun p6 hp6 => ?_
    have hcl : (cutV (ns.map V.int) (some 2) (some 7)).length ≤ 5 := cut_len (xs := ns.map V.int) (k := 2) (m := 7)
    have hcm : ∀ x ∈ cutV (ns.map V.int) (some 2) (some 7), ∃ i : Int, x = .int i := fun x h => by
      obtain ⟨i, _, rfl⟩ := List.mem_map.mp (cut_mem h)
      exact ⟨i, rfl⟩
    generalize cutV (ns.map V.int) (some 2) (some 7) = cs at hcl hcm ⊢
    generalize hU : upd H5 p6 _ = H6
    have ex6 := Ex.new' hp6 hU
    have h6 := new_at hU
    clear hU
    have u6 := u5.ex ex6
    have hT6 := Fr.tabs ex6 hT5
    walk_at "wx"
    refine wc_l_built u6 nlen nnd (ex6.at h5) h6 hcm hcl c0 e0 nOn hT6 fun pl H7 A7 F7 G7 m7 S7 fr7 eA7 hF7' u7 c7 hne7 hl7 ew7 er7 en7 hpl hpl7 nOl => ?_
    have ex06 := ex04.trans (ex5.trans ex6)
    have ex07 : Ex H H7 := fr7.ex ex06 hF0
    have hF7 : ∀ a, F7 a ∨ G7 a → H a = none := fun a z => by
      rcases hF7' a z with w | w | w
      · exact hF0 a (.inl w)
      · exact hF0 a (.inr w)
      · exact ex06.back a w
    have hpn0 : H pn = none := ex04.back pn hpn
    have hpn6 := ex6.at h5
    have hpn7 := fr7.at hpn6 nOn
    have nOn7 : ¬ (F7 pn ∨ G7 pn) := fun z => by
      rcases hF7' _ z with w | w | w
      · exact nOn (.inl w)
      · exact nOn (.inr w)
      · rw [ex6.at h5] at w; cases w
    have hT7 := Fr.tabs ex07 hT
    have hS7 := ex07.ls hS
    have lo7 : LastOk m7 S7 fun _ => none := fun g h hh hg => by cases u7.kk h hh g hg
    have lv7 : ∀ x, x ∈ m7.houses ↔ x ∈ m7.live := fun x => by rw [TM.Calm.live c7, mem_sortU]
    have ew7 : m7.wide = wd := ew7
    have er7 : m7.room = room := er7
    have en7 : S7.n = 0 := en7.trans hsn
    have hl12 : m7.houses.length ≤ 6 := hl7
    clear u5 u6 ta4 hS5 hT5 hT6 h6 fr7 hp6 c0 nO hsn hsn0 ex6 ex5 ex04
    walk_at "wx"
    refine x_dnew fun d hd => ?_
    generalize hU : upd H7 d (.dK []) = H8
    have ex8 := Ex.new' hd hU
    have h8 := new_at hU
    clear hU
    have nOd : ¬ (F7 d ∨ G7 d) := fun z => u7.a.live (Own.fg z) hd
    have hd0 : H d = none := ex07.back d hd
    have ex08 := ex07.trans ex8
    have u8 := u7.ex ex8
    have sd8 : Side H8 F7 G7 m7 S7 pn pl d nms m7.houses [] (fun _ => "") (fun _ => none) := ⟨ex8.at hpl7, ex8.at hpn7, h8, nOl, nOn7, nOd, u7.ok.nd, lv7, hne7, List.nodup_nil, Nat.zero_le _, fun g z => (by cases z), fun g z => (by cases z)⟩
    have hS8 := ex08.ls hS
    have npd : pl ≠ d := fun e => by rw [e, hd] at hpl7; cases hpl7
    have nnd' : pn ≠ d := fun e => by rw [e, hd] at hpn7; cases hpn7
    clear hT7 hS7 u7 hpl7 hpn7 h8
    walk_at "wx"
    refine ⟨len_ok rfl, fun p9 hp9 => ?_⟩
    generalize hU : upd _ p9 _ = H9
    have ex9 := Ex.new' hp9 hU
    have h9 := new_at hU
    clear hU
    have hS9 := ex9.ls hS8
    walk_at "wx"
    refine x_slL hS9 fun p10 hp10 => ?_
    have hcl : (cutV (ns.map V.int) (some 7) (some 10)).length ≤ 3 := cut_len (xs := ns.map V.int) (k := 7) (m := 10)
    generalize hU : upd H9 p10 _ = H10
    have ex10 := Ex.new' hp10 hU
    have h10 := new_at hU
    clear hU
    refine x_cat (ex10.at h9) h10 (by rw [sizeLine_eq]; show 1 + _ ≤ _; omega) fun r hr => ?_
    have hit : ∀ x ∈ [V.int (fst : Int)] ++ cutV (ns.map V.int) (some 7) (some 10), ∃ i : Int, x = .int i := fun x hx => by
      rcases List.mem_append.mp hx with h | h
      · exact ⟨_, List.mem_singleton.mp h⟩
      · obtain ⟨i, _, rfl⟩ := List.mem_map.mp (cut_mem h)
        exact ⟨i, rfl⟩
    have hil : 0 < ([V.int (fst : Int)] ++ cutV (ns.map V.int) (some 7) (some 10)).length ∧ ([V.int (fst : Int)] ++ cutV (ns.map V.int) (some 7) (some 10)).length ≤ 4 := by
      rw [List.length_append]; show 0 < 1 + _ ∧ 1 + _ ≤ _; omega
    generalize [V.int (fst : Int)] ++ cutV (ns.map V.int) (some 7) (some 10) = its at hit hil ⊢
    generalize hU : upd H10 r _ = H11
    have ex11 := Ex.new' hr hU
    have hrr := new_at hU
    clear hU
    have ex811 := (ex9.trans ex10).trans ex11
    have u11 := u8.ex ex811
    have sd11 := sd8.ex ex811
    have hr0 : H8 r = none := (ex9.trans ex10).back r hr
    have nOr : ¬ (F7 r ∨ G7 r) := fun z => u8.a.live (Own.fg z) hr0
    have hpl0 : H pl = none := ex06.back pl hpl
    have npn : pn ≠ pl := fun e => by rw [e, hpl] at hpn6; cases hpn6
    have nrd : r ≠ d := fun e => by rw [e, sd8.dd] at hr0; cases hr0
    have ex011 := ex08.trans ex811
    clear u8 sd8 hS8 hS9 h9 h10
    walk_at "wx"
    refine ForW.byB walk_enumE (fun i σ H' => ∃ (A' : TA) (m : TM) (S : SM) (k ks : List Nat) (lt : Nat → Str) (lst : Nat → Option Nat) (v8 v9 v10 v11 : Option V), σ = [some (.ref a), some (.int fst), some (.bl pb), some (.int wd), some (.ref A'.t), some (.ref pn), some (.ref pl), some (.ref d), v8, v9, v10, v11, none, none] ∧ Mk7 T H' A' F7 G7 m S nms k ∧ m.Calm ∧ m.houses = m7.houses ∧ m.wide = wd ∧ m.room = room ∧ LastOk m S lst ∧ S.n = i ∧ Side H' F7 G7 m S pn pl d nms m7.houses ks lt lst ∧ (0 < i → ks ≠ []) ∧ ks.length ≤ i ∧ Ex H H' ∧ H' r = some (.lst its))
      ⟨A7, m7, S7, [], [], _, _, _, _, _, _, by rw [eA7], u11, c7, rfl, ew7, er7, lo7, en7, sd11, fun z => absurd z (Nat.lt_irrefl _), Nat.zero_le _, ex011, hrr⟩ (fun i σ H' _ ⟨_, _, _, _, _, _, _, _, _, _, _, _, _, _, _, _, _, _, _, _, _, _, _, e⟩ => SqL.of e) ?_ ?_
    · clear u11 sd11 hrr ex011 lo7 c7
      rintro B i _ σ H12 H13 hi ⟨A', m, S, k, ks, lt, lst, v8, v9, v10, v11, rfl, u12, c12, hh12, hw12, hr12, lo12, hn12, sd12, hk12, hkl12, ex12, hrr12⟩ ⟨tq, x, y, rfl, htq, ex13, htq13, hx, hy⟩
      obtain ⟨z, rfl⟩ := hit y (List.mem_of_getElem? hy)
      have hi4 : i < its.length := (List.getElem?_eq_some_iff.mp hy).1
      cases hx
      clear hy hi
      have u13 := u12.ex ex13
      have sd13 := sd12.ex ex13
      have hr13 := ex13.at hrr12
      have ex013 := ex12.trans ex13
      have hT13 := Fr.tabs ex013 hT
      have hpos : 0 < m7.houses.length := List.length_pos_iff.mpr hne7
      have hpl13 := sd13.hl
      have hpn13 := sd13.hn
      have hn0 : 0 < nms.length := by omega
      have hat0 := atI_nV (ns := nms) (j := 0) hn0
      clear u12 sd12 hrr12 ex12
      walk_at "wx"
      have hlm : (m7.houses.map nV).length = m7.houses.length := List.length_map _
      refine wc_l_number (k := i) rfl (by omega) fun nu => ?_
      have e9 : (nu : Int) / 9 = ((nu / 9 : Nat) : Int) := by simp
      have e3 : (nu : Int) / 3 = ((nu / 3 : Nat) : Int) := by simp
      obtain ⟨hpk, hatl⟩ := pick_at (x := nu / 9) hne7
      obtain ⟨hps, hatst⟩ := pick_at (x := nu / 3) hne7
      walk_at "wx"
      rw [List.length_map, e9]
      refine x_ixL (SqL.of hpl13) hatl ?_
      generalize pickN m7.houses (nu / 9) = x9 at hpk
      walk_at "wx"
      refine ⟨len_ok rfl, fun p14 hp14 => ?_⟩
      generalize hU : upd _ p14 _ = H14
      have ex14 := Ex.new' hp14 hU
      have h14 := new_at hU
      clear hU
      have u14 := u13.ex ex14
      have sd14 := sd13.ex ex14
      have hr14 := ex14.at hr13
      have ex014 := ex013.trans ex14
      have hpl14 := sd14.hl
      have hd14 := sd14.dd
      have hx9 : x9 < 2 ^ wd := by rw [← hw12]; exact u14.ok.nb _ (u14.ok.hN _ (by rw [hh12]; exact hpk))
      have hn09 : nms[0] < 2 ^ wd := nb _ (List.getElem_mem hn0)
      obtain ⟨sp, hsp, hats⟩ : ∃ s : Nat, s < 2 ^ wd ∧ atI [V.int (((nu / 9 : Nat) : Int) % ((2 ^ wd : Nat) : Int)), nV (x9 ^^^ 1), nV nms[0]] ((nu : Int) % 3) = some (nV s) := by
        have hc : (nu : Int) % 3 = 0 ∨ (nu : Int) % 3 = 1 ∨ (nu : Int) % 3 = 2 := by omega
        rcases hc with e | e | e <;> rw [e]
        · exact ⟨nu / 9 % 2 ^ wd, Nat.mod_lt _ (Nat.two_pow_pos wd), by rw [← Int.natCast_emod]; rfl⟩
        · exact ⟨x9 ^^^ 1, Nat.xor_lt_two_pow hx9 (Nat.one_lt_two_pow (by omega)), rfl⟩
        · exact ⟨nms[0], hn09, rfl⟩
      walk_at "wx"
      refine x_strI (by rw [Int.natAbs_natCast]; exact Nat.lt_of_le_of_lt (Nat.log2_le_self i) (by omega)) ?_
      walk_at "wx"
      refine x_addS (by rw [sizeLine_eq]; have : ("laid" : Str).length = 4 := by decide +kernel
                        have := laid_len i (by omega)
                        omega) ?_
      have hzt := txt_laid i (by omega)
      generalize ("laid" : Str) ++ toString (i : Int) = zt at hzt
      walk_at "wx"
      refine x_dput hd14 (by rw [sizeLine_eq, dOf_len]; omega) ?_
      have ed : putK (dOf ks fun g => V.str (lt g)) (Sum.inl (sp : Int)) (.str zt) = dOf (if sp ∈ ks then ks else ks ++ [sp]) fun g => .str (if g = sp then zt else lt g) := by
        refine (dOf_set (hs := ks) (f := fun g => V.str (lt g)) (n := sp) (v := .str zt)).trans (dOf_congr fun x _ => ?_)
        by_cases e : x = sp
        · rw [if_pos e, if_pos e]
        · rw [if_neg e, if_neg e]
      rw [ed]
      have hksn := sd14.kn
      have hkin : ∀ y, y ∈ (if sp ∈ ks then ks else ks ++ [sp]) ↔ y ∈ ks ∨ y = sp := fun y => by
        by_cases h : sp ∈ ks
        · rw [if_pos h]
          exact ⟨.inl, fun h2 => h2.elim id fun e => by rw [e]; exact h⟩
        · rw [if_neg h, List.mem_append, List.mem_singleton]
      have hknd : (if sp ∈ ks then ks else ks ++ [sp]).Nodup := by
        by_cases h : sp ∈ ks
        · rw [if_pos h]; exact hksn
        · rw [if_neg h]
          exact List.nodup_append.mpr ⟨hksn, List.nodup_cons.mpr ⟨by simp, List.nodup_nil⟩, fun a ha b hb e => h (by rw [← List.mem_singleton.mp hb, ← e]; exact ha)⟩
      have hkll : (if sp ∈ ks then ks else ks ++ [sp]).length ≤ i + 1 := by
        by_cases h : sp ∈ ks
        · rw [if_pos h]; omega
        · rw [if_neg h, List.length_append, List.length_singleton]; omega
      generalize (if sp ∈ ks then ks else ks ++ [sp]) = ks2 at hkin hknd hkll
      have frd := Fr.upd1 (o := .dK (dOf ks2 fun g => V.str (if g = sp then zt else lt g))) hd14
      have u15 := u14.upd (o' := .dK (dOf ks2 fun g => V.str (if g = sp then zt else lt g))) hd14 nOd
      have hd15 := upd_same (H := H14) (a := d) (o := .dK (dOf ks2 fun g => V.str (if g = sp then zt else lt g)))
      generalize upd H14 d (.dK (dOf ks2 fun g => V.str (if g = sp then zt else lt g))) = H15 at frd u15 hd15 ⊢
      have hpl15 := frd.at hpl14 npd
      have hpn15 := frd.at sd14.hn nnd'
      have hr15 := frd.at hr14 nrd
      have ex015 : Ex H H15 := frd.ex ex014 fun a z => by rw [z]; exact hd0
      have hT15 := Fr.tabs ex015 hT
      have egt : valV (dOf ks2 fun g => V.str (if g = sp then zt else lt g)) (Sum.inl (sp : Int)) = some (.str zt) := by
        have q := dOf_get (f := fun g => V.str (if g = sp then zt else lt g)) ((hkin sp).mpr (.inr rfl))
        rw [if_pos rfl] at q
        exact q
      have hstm : pickN m7.houses (nu / 3) ∈ m.houses := by rw [hh12]; exact hps
      generalize pickN m7.houses (nu / 3) = st at hatst hstm
      have haw := c12.aw hstm
      obtain ⟨dx15, ob15⟩ := u15.a.ta.tw.ob
      have hkz := u15.kz
      walk_at "wx"
      rw [List.length_map, e3]
      refine x_ixL (SqL.of hpl15) hatst ?_
      walk_at "wx"
      refine wc_Market_lay rfl rfl u15.a u15.ok (by omega) haw (by rw [hw12]; exact hsp) (fun x hx => Nat.le_trans (nodup_len (u15.a.nd x hx) (u15.kk x hx)) (by omega)) hT15 fun p16 qz H16 A16 hp16 hq16 fr16 h16 npq eA t16 => ?_
      have u16 := u15.lay haw (by rw [hw12]; exact hsp) hzt t16
      have sp5 := SM.put_same (l := m.layTo st sp) (S := S.laid qz zt) (g := sp) (i := S.n)
      rw [← eA]
      walk_at "wx"
      refine ⟨A16, _, _, _, ks2, _, _, _, _, _, _, rfl, u16, TM.Calm.learn u15.ok c12 hstm, TM.learn_houses.trans hh12, TM.learn_sizes.1.trans hw12, TM.learn_sizes.2.1.trans hr12, lo12.laid u15.ok c12 hstm TM.learn_houses TM.learn_sizes.2.1, by rw [sp5.1]; exact congrArg (· + 1) hn12, ⟨fr16.at hpl15 nOl, fr16.at hpn15 nOn7, fr16.at hd15 nOd, nOl, nOn7, nOd, sd14.nd, fun x => by rw [TM.learn_live']; exact sd14.mem x, hne7, hknd, by omega, fun g hg => ?_, fun g hg => ?_⟩, fun _ z => ?_, hkll, fr16.ex ex015 hF7, fr16.at hr15 nOr⟩
      · rw [TM.learn_sizes.1]
        rcases (hkin g).mp hg with z | z
        · exact sd14.kb g z
        · rw [z, hw12]; exact hsp
      · by_cases e : g = sp
        · refine ⟨S.n, by simp only [if_pos e], ?_⟩
          rw [sp5.2.2.1, if_pos e]
          show (if S.n = S.n then zt else S.tx S.n) = zt
          rw [if_pos rfl]
        · obtain ⟨j, hj1, hj2⟩ := sd14.tx g (((hkin g).mp hg).resolve_right e)
          refine ⟨j, by simp only [if_neg e]; exact hj1, ?_⟩
          rw [sp5.2.2.1, if_neg e, ← hj2]
          have lo := lo12 g
          rw [hj1] at lo
          show (if j = S.n then zt else S.tx j) = S.tx j
          rw [if_neg (Nat.ne_of_lt lo.1)]
      · have := (hkin sp).mpr (.inr rfl)
        rw [z] at this; cases this
    · clear u11 sd11 hrr ex011 lo7
      rintro σ H12 ⟨A', m, S, k, ks, lt, lst, v8, v9, v10, v11, rfl, u12, c12, hh12, hw12, hr12, lo12, hn12, sd12, hk12, hkl12, ex12, _⟩
      have hkne : ks ≠ [] := hk12 hil.1
      have hkz := u12.kz
      have hn4 : S.n ≤ 4 := by omega
      walk_at "wx"
      refine wc_fault u12.a.ta u12.ok fun v13 H13 ex13 pv13 => ?_
      rw [TM.Calm.fault u12.ok c12] at pv13
      obtain rfl : v13 = .non := pv13
      have u13 := u12.ex ex13
      have sd13 := sd12.ex ex13
      have ex013 := ex12.trans ex13
      have hS13 := ex013.ls hS
      walk_at "wx"
      refine x_slL hS13 fun r2 hr2 => ?_
      have hcl2 : (cutV (ns.map V.int) (some 10) (some 63)).length ≤ 53 := cut_len (xs := ns.map V.int) (k := 10) (m := 63)
      have hit2 : ∀ x ∈ cutV (ns.map V.int) (some 10) (some 63), ∃ i : Int, x = .int i := fun x h => by
        obtain ⟨i, _, rfl⟩ := List.mem_map.mp (cut_mem h)
        exact ⟨i, rfl⟩
      generalize cutV (ns.map V.int) (some 10) (some 63) = its2 at hcl2 hit2 ⊢
      generalize hU : upd H13 r2 _ = H14
      have ex14 := Ex.new' hr2 hU
      have hrr2 := new_at hU
      clear hU
      have u14 := u13.ex ex14
      have sd14 := sd13.ex ex14
      have ex014 := ex013.trans ex14
      have nOr2 : ¬ (F7 r2 ∨ G7 r2) := fun z => u13.a.live (Own.fg z) hr2
      have nr2l : r2 ≠ pl := fun e => by rw [e, sd13.hl] at hr2; cases hr2
      have f14 := TM.Calm.held u14.ok c12
      have so14 : StayOk m S ([] : List Nat).length lst := lo12.stay c12
      have hN50 : nms.length ≤ 50 := by omega
      clear u12 sd12 ex12 u13 sd13 ex013 hS13
      walk_at "wx"
      refine ForW.byB walk_enumE (fun i σ H' => ∃ (A' : TA) (F G : Addr → Prop) (m' : TM) (S' : SM) (D L : List Nat) (v8 v9 v10 v11 v13 : Option V), σ = [some (.ref a), some (.int fst), some (.bl pb), some (.int wd), some (.ref A'.t), some (.ref pn), some (.ref pl), some (.ref d), v8, v9, v10, v11, some (.int ((D.length : Nat) : Int)), v13] ∧ Mk7 T H' A' F G m' S' nms k ∧ m'.Held D ∧ StayOk m' S' D.length lst ∧ S'.n = S.n ∧ m'.wide = wd ∧ m'.room = room ∧ Side H' F G m' S' pn pl d nms L ks lt lst ∧ Ex H H' ∧ (∀ a, F a ∨ G a → H a = none) ∧ H' r2 = some (.lst its2) ∧ ¬ (F r2 ∨ G r2))
        ⟨A', F7, G7, m, S, [], m7.houses, _, _, _, _, _, rfl, u14, f14, so14, rfl, hw12, hr12, sd14, ex014, hF7, hrr2, nOr2⟩ (fun i σ H' _ ⟨_, _, _, _, _, _, _, _, _, _, _, _, _, _, _, _, _, _, _, _, _, _, e, _⟩ => SqL.of e) ?_ ?_
      · clear u14 sd14 ex014 f14 so14 hrr2 nOr2 c12 lo12 hh12
        rintro B i _ σ H15 H16 hi ⟨A', F, G, m', S', D, L, v8, v9, v10, v11, v13, rfl, u15, f15, so15, hn15, hw15, hr15, sd15, ex15, hF15, hrr15, nOr15⟩ ⟨tq, x, y, rfl, htq, ex16, htq16, hx, hy⟩
        obtain ⟨z, rfl⟩ := hit2 y (List.mem_of_getElem? hy)
        have hi53 : i < its2.length := (List.getElem?_eq_some_iff.mp hy).1
        cases hx
        clear hy hi
        have u16 := u15.ex ex16
        have sd16 := sd15.ex ex16
        have ex016 := ex15.trans ex16
        have hrr16 := ex16.at hrr15
        have hT16 := Fr.tabs ex016 hT
        have hpl16 := sd16.hl
        have hpn16 := sd16.hn
        have hd16 := sd16.dd
        have hLne := sd16.ne
        have hpos : 0 < L.length := List.length_pos_iff.mpr hLne
        have hlm : (L.map nV).length = L.length := List.length_map _
        have hkl16 := sd16.kl
        have few := f15.few
        obtain ⟨dx16, ob16⟩ := u16.a.ta.tw.ob
        clear u15 sd15 ex15 hrr15
        walk_at "wx"
        refine wc_l_number (k := i) rfl (by omega) fun nu => ?_
        have e4 : (nu : Int) / 4 = ((nu / 4 : Nat) : Int) := by simp
        have e48 : (nu : Int) / 48 = ((nu / 48 : Nat) : Int) := by simp
        obtain ⟨hpk, hatl⟩ := pick_at (x := nu / 4) hLne
        walk_at "wx"
        rw [List.length_map, e4]
        refine x_ixL (SqL.of hpl16) hatl ?_
        generalize pickN L (nu / 4) = st at hpk
        have hstl := (sd16.mem st).mp hpk
        have haw := TM.mem_live.mp hstl
        walk_at "wx"
        refine x_ifD (fun c1 => ?_) fun c1 => ?_
        · walk_at "wx"
          rw [e4]
          refine wc_l_changed rfl u16 f15 so15 nlen (by omega) (fun hb => ?_) hpl16 sd16.nd sd16.mem hLne hpn16 sd16.np hT16 fun r3 H17 A17 F17 G17 m17 S17 D17 L17 fr17 eA17 hF17 u17 f17 so17 hD17 hw17 hr17 hn17 htx17 hl17 nd17 mem17 ne17 => ?_
          · have hb := of_decide_eq_true hb
            omega
          · have nx : ∀ {x : Addr} {o : HO}, H16 x = some o → ¬ (F x ∨ G x) → ¬ (F17 x ∨ G17 x) := fun e n z => by
              rcases hF17 _ z with w | w | w
              · exact n (.inl w)
              · exact n (.inr w)
              · rw [e] at w; cases w
            have ex017 : Ex H H17 := fr17.ex ex016 fun a z => z.elim (hF15 a) fun z => by rw [z]; exact hpl0
            have hF170 : ∀ a, F17 a ∨ G17 a → H a = none := fun a z => by
              rcases hF17 a z with w | w | w
              · exact hF15 a (.inl w)
              · exact hF15 a (.inr w)
              · exact ex016.back a w
            have sd17 : Side H17 F17 G17 m17 S17 pn pl d nms L17 ks lt lst := ⟨hl17, fr17.at hpn16 fun z => z.elim sd16.nn npn, fr17.at hd16 fun z => z.elim sd16.ndd fun z => npd z.symm, nx hpl16 sd16.np, nx hpn16 sd16.nn, nx hd16 sd16.ndd, nd17, mem17, ne17, sd16.kn, sd16.kl, by rw [hw17]; exact sd16.kb, by rw [htx17]; exact sd16.tx⟩
            have hrr17 := fr17.at hrr16 fun z => z.elim nOr15 nr2l
            have nOr17 := nx hrr16 nOr15
            have elost : ((D.length : Nat) : Int) + ((r3 : Nat) : Int) = ((D17.length : Nat) : Int) := by rw [hD17]; simp
            rw [← eA17]
            walk_at "wx"
            refine wc_holes u17.a.ta u17.ok fun p18 ts H18 hp18 ex18 h18 hl18 _ => ?_
            rw [TM.Held.holes u17.ok f17] at hl18
            obtain rfl : ts = [] := List.length_eq_zero_iff.mp hl18
            walk_at "wx"
            refine ⟨len_ok rfl, fun p19 hp19 => ?_⟩
            generalize hU : upd _ p19 _ = H19
            have ex19 := Ex.new' hp19 hU
            have h19 := new_at hU
            clear hU
            have ex1719 := ex18.trans ex19
            refine x_neLN (xs := []) (ys := []) (SqL.of (ex19.at h18)) (SqL.of h19) ?_
            rw [decide_eq_true rfl]
            walk_at "wx"
            exact ⟨A17, F17, G17, m17, S17, D17, L17, _, _, _, _, _, by rw [elost], u17.ex ex1719, f17, so17, hn17.trans hn15, hw17.trans hw15, hr17.trans hr15, sd17.ex ex1719, ex017.trans ex1719, hF170, ex1719.at hrr17, nOr17⟩
        · walk_at "wx"
          refine x_ifD (fun c2 => ?_) fun c2 => ?_
          · have hsne : sortU ks ≠ [] := fun z => by
              obtain ⟨g, r, e⟩ := List.exists_cons_of_ne_nil hkne
              have : g ∈ sortU ks := mem_sortU.mpr (by rw [e]; simp)
              rw [z] at this; cases this
            have hsl : (sortU ks).length = ks.length := Nat.le_antisymm (nodup_len (rising_nodup (sortU_sorted _)) fun z hz => mem_sortU.mp hz) (nodup_len sd16.kn fun z hz => mem_sortU.mpr hz)
            walk_at "wx"
            refine x_sortDN (.inl hd16) (by omega) sd16.kn fun p17 hp17 => ?_
            generalize hU : upd H16 p17 _ = H17
            have ex17 := Ex.new' hp17 hU
            have h17 := new_at hU
            clear hU
            have u17 := u16.ex ex17
            have sd17 := sd16.ex ex17
            have ex017 := ex016.trans ex17
            have hT17 := Fr.tabs ex017 hT
            have hd17 := sd17.dd
            have hkpos : 0 < ks.length := List.length_pos_iff.mpr hkne
            have hdl : (dOf ks fun g => V.str (lt g)).length = ks.length := dOf_len
            obtain ⟨dx17, ob17⟩ := u17.a.ta.tw.ob
            obtain ⟨hpg, hatg⟩ := pick_at (x := nu / 48) hsne
            rw [hsl, ← hdl] at hatg
            have hgk := mem_sortU.mp hpg
            generalize pickN (sortU ks) (nu / 48) = g at hgk hatg
            obtain ⟨j, hj1, hj2⟩ := sd17.tx g hgk
            have e3 := dOf_get (f := fun g => V.str (lt g)) hgk
            walk_at "wx"
            refine wc_Market_seek rfl rfl u17.a u17.ok (by omega) haw (sd17.kb g hgk) hT17 (fun H18 fr18 a18 n18 => ?_) fun H18 i2 fr18 a18 hi2 n18 => ?_
            · have := n18.uniq (so15.sought u17.ok hN50 f15 haw hj1)
              cases this
            · obtain rfl : i2 = j := Option.some.inj (n18.uniq (so15.sought u17.ok hN50 f15 haw hj1))
              have fr18' : Fr (fun a => F a ∨ G a) H17 H18 := fr18.mono fun a z => .inl z
              have sd18 := (sd17.fr fr18').to (m' := m'.learn st g) (S' := S') TM.learn_live' TM.learn_sizes.1 rfl
              have hd18 := sd18.dd
              have u18 : Mk7 T H18 A' F G (m'.learn st g) S' nms k := ⟨a18, u17.ok.learn haw, by rw [TM.learn_houses]; exact u17.kk, u17.kz, by rw [TM.learn_sizes.1]; exact u17.kb, u17.tx⟩
              walk_at "wx"
              rw [decide_eq_true hj2]
              walk_at "wx"
              exact ⟨A', F, G, _, S', D, L, _, _, _, _, _, rfl, u18, f15.learn u17.ok haw, so15.same TM.learn_live' TM.learn_sizes.2.1, hn15, TM.learn_sizes.1.trans hw15, TM.learn_sizes.2.1.trans hr15, sd18, fr18'.ex ex017 hF15, hF15, fr18'.at (ex17.at hrr16) nOr15, nOr15⟩
          · walk_at "wx"
            have e48b : (nu : Int) / 48 % ((2 ^ wd : Nat) : Int) = ((nu / 48 % 2 ^ wd : Nat) : Int) := by rw [Int.natCast_emod]; rfl
            rw [e48b]
            have hgl : nu / 48 % 2 ^ wd < 2 ^ wd := Nat.mod_lt _ (Nat.two_pow_pos wd)
            generalize nu / 48 % 2 ^ wd = g at hgl
            refine wc_l_goes_out rfl rfl u16 f15 (by omega) hpl16 sd16.nd sd16.mem hpk (by rw [hw15]; exact hgl) sd16.np hT16 fun H18 fr18 u18 => ?_
            have fr18' : Fr (fun a => F a ∨ G a) H16 H18 := fr18.mono fun a z => .inl z
            have sd18 := (sd16.fr fr18').to (m' := m'.learn st g) (S' := S') TM.learn_live' TM.learn_sizes.1 rfl
            walk_at "wx"
            exact ⟨A', F, G, _, S', D, L, _, _, _, _, _, rfl, u18, f15.learn u16.ok haw, so15.same TM.learn_live' TM.learn_sizes.2.1, hn15, TM.learn_sizes.1.trans hw15, TM.learn_sizes.2.1.trans hr15, sd18, fr18'.ex ex016 hF15, hF15, fr18'.at hrr16 nOr15, nOr15⟩
      · clear u14 sd14 ex014 f14 so14 hrr2 nOr2 c12 lo12 hh12
        rintro σ H15 ⟨A', F, G, m', S', D, L, v8, v9, v10, v11, v13, rfl, u15, f15, so15, hn15, hw15, hr15, sd15, ex15, hF15, _, _⟩
        have hpl15 := sd15.hl
        walk_at "wx"
        refine ForW.byB walk_list (fun i σ H' => ∃ (m2 : TM) (v11 v13 : Option V), σ = [some (.ref a), some (.int fst), some (.bl pb), some (.int wd), some (.ref A'.t), some (.ref pn), some (.ref pl), some (.ref d), v8, v9, v10, v11, some (.int ((D.length : Nat) : Int)), v13] ∧ Mk7 T H' A' F G m2 S' nms k ∧ m2.Held D ∧ StayOk m2 S' D.length lst ∧ m2.wide = wd ∧ m2.live = m'.live ∧ Side H' F G m2 S' pn pl d nms L ks lt lst ∧ Ex H H')
          ⟨m', _, _, rfl, u15, f15, so15, hw15, rfl, sd15, ex15⟩ (fun i σ H' _ ⟨_, _, _, _, _, _, _, _, _, s, _⟩ => SqL.of s.hl) ?_ ?_
        · clear u15 f15 so15 sd15 ex15
          rintro B i x σ _ H16 hi ⟨m2, v11, v13, rfl, u16, f16, so16, hw16, lv16, sd16, ex16⟩ ⟨rfl, hx⟩
          rw [List.length_map] at hi
          obtain rfl : x = nV L[i] := by
            rw [List.getElem?_map, List.getElem?_eq_getElem hi] at hx
            exact (Option.some.inj hx).symm
          have hstL := List.getElem_mem hi
          generalize L[i] = st at hstL
          have haw0 := TM.mem_live.mp ((sd16.mem st).mp hstL)
          have hd16 := sd16.dd
          have hT16 := Fr.tabs ex16 hT
          have hsl16 := (sd16.mem st).mp hstL
          walk_at "wx"
          refine x_lock hd16 fun od => ?_
          have frl := Fr.upd1 (o := .frz od (.dK (dOf ks fun g => V.str (lt g)))) hd16
          have hfz := upd_same (H := H16) (a := d) (o := .frz od (.dK (dOf ks fun g => V.str (lt g))))
          have u17 := u16.upd (o' := .frz od (.dK (dOf ks fun g => V.str (lt g)))) hd16 sd16.ndd
          generalize hH17 : upd H16 d (.frz od (.dK (dOf ks fun g => V.str (lt g)))) = H17 at frl hfz u17 ⊢
          have hpl17 := frl.at sd16.hl npd
          have hpn17 := frl.at sd16.hn nnd'
          have ex17 : Ex H H17 := frl.ex ex16 fun a z => by rw [z]; exact hd0
          have hndd := sd16.ndd
          have hnp := sd16.np
          have hnn := sd16.nn
          walk_at "wx"
          refine ForW.byB walk_keys (fun j σ H' => ∃ (m3 : TM) (v11 : Option V), σ = [some (.ref a), some (.int fst), some (.bl pb), some (.int wd), some (.ref A'.t), some (.ref pn), some (.ref pl), some (.ref d), v8, v9, v10, v11, some (.int ((D.length : Nat) : Int)), some (nV st)] ∧ Mk7 T H' A' F G m3 S' nms k ∧ m3.Held D ∧ StayOk m3 S' D.length lst ∧ m3.wide = wd ∧ m3.live = m'.live ∧ Fr (fun a => F a ∨ G a) H17 H')
            ⟨m2, _, rfl, u17, f16, so16, hw16, lv16, Fr.refl⟩ (fun i σ H' _ ⟨_, _, _, _, _, _, _, _, e⟩ => e.at hfz hndd) ?_ ?_
          · clear u16 u17 f16 so16
            rintro B j x σ _ H18 hj ⟨m3, v11, rfl, u18, f18, so18, hw18, lv18, fr18⟩ ⟨rfl, kk, vv, hkv, rfl⟩
            rw [dOf_len] at hj
            have ek : kk = nK ks[j] := by
              unfold dOf at hkv
              rw [List.getElem?_map, List.getElem?_eq_getElem hj] at hkv
              exact (congrArg Prod.fst (Option.some.inj hkv)).symm
            subst ek
            have hgk := List.getElem_mem hj
            generalize ks[j] = g at hgk
            have ekv : kV (nK g) = .int (g : Int) := rfl
            rw [ekv]
            have hd18 : Rd H18 d (.dK (dOf ks fun g => V.str (lt g))) := .inr ⟨od, fr18.at hfz hndd⟩
            have hT18 := Fr.tabs fr18 (Fr.tabs ex17 hT)
            have hgw : g < 2 ^ m3.wide := by rw [hw18, ← hw16]; exact sd16.kb g hgk
            obtain ⟨j2, hj1, hj2⟩ := sd16.tx g hgk
            have e3 := dOf_get (f := fun g => V.str (lt g)) hgk
            have haw : m3.aw st = true := TM.mem_live.mp (by rw [lv18, ← lv16]; exact hsl16)
            have sg := so18.sought u18.ok hN50 f18 haw hj1
            obtain ⟨dx18, ob18⟩ := u18.a.ta.tw.ob
            walk_at "wx"
            refine wc_Market_seek rfl rfl u18.a u18.ok (by omega) haw hgw hT18 (fun H19 fr19 a19 n19 => ?_) fun H19 i2 fr19 a19 hi2 n19 => ?_
            · have := n19.uniq sg
              cases this
            · obtain rfl : i2 = j2 := Option.some.inj (n19.uniq sg)
              have fr19' := fr18.trans (fr19.mono fun a z => .inl z)
              have hd19 : Rd H19 d (.dK (dOf ks fun g => V.str (lt g))) := .inr ⟨od, fr19'.at hfz hndd⟩
              walk_at "wx"
              rw [decide_eq_true hj2]
              walk_at "wx"
              exact ⟨m3.learn st g, _, rfl, ⟨a19, u18.ok.learn haw, by rw [TM.learn_houses]; exact u18.kk, u18.kz, by rw [TM.learn_sizes.1]; exact u18.kb, u18.tx⟩, f18.learn u18.ok haw, so18.same TM.learn_live' TM.learn_sizes.2.1, TM.learn_sizes.1.trans hw18, TM.learn_live'.trans lv18, fr19'⟩
          · rintro σ H18 ⟨m3, v11, rfl, u18, f18, so18, hw18, lv18, fr18⟩
            have hfz18 := fr18.at hfz hndd
            have fru := Fr.upd1 (o := .dK (dOf ks fun g => V.str (lt g))) hfz18
            refine ⟨hfz18, ?_⟩
            have ex18 : Ex H H18 := fr18.ex ex17 hF15
            exact ⟨m3, _, _, rfl, u18.upd hfz18 hndd, f18, so18, hw18, lv18, ⟨fru.at (fr18.at hpl17 hnp) npd, fru.at (fr18.at hpn17 hnn) nnd', upd_same, hnp, hnn, hndd, sd16.nd, by rw [lv18, ← lv16]; exact sd16.mem, sd16.ne, sd16.kn, sd16.kl, by rw [hw18, ← hw16]; exact sd16.kb, sd16.tx⟩, fru.ex ex18 fun a z => by rw [z]; exact hd0⟩
        · clear u15 f15 so15 sd15 ex15
          rintro σ H16 ⟨m2, v11, v13, rfl, u16, _, _, _, _, sd16, _⟩
          obtain ⟨dx16, ob16⟩ := u16.a.ta.tw.ob
          walk_at "wx"
          refine wc_Town_answering u16.a.ta u16.ok.houses_len u16.ok.nd fun p17 H17 hp17 ex17 h17 => ?_
          have hpl17 := ex17.at sd16.hl
          walk_at "wx"
          refine x_sortN (SqL.of hpl17) sd16.nd fun p18 hp18 => ?_
          generalize hU : upd H17 p18 _ = H18
          have ex18 := Ex.new' hp18 hU
          have h18 := new_at hU
          clear hU
          have eL : m2.live = sortU L := rising_eq ((sortU_sorted _).filter _) (sortU_sorted _) fun z => by
            rw [mem_sortU, sd16.mem]
          refine x_eqLN (SqL.of (ex18.at h17)) (SqL.of h18) ?_
          rw [decide_eq_true eL]
          exact q H18
end
end Nn
namespace Nn
open PySem PySem.Spec PyProof.Rows L2
theorem factsL {w : World} {K : PySem.W.Frag} {h : Heap} {mg : Str → Option Value} {f : Addr} (X : K.In h) (G : h.Ns mainGlobals mg) (hfa : mg ("law" : Str) = some (.ref f)) (c : He.SaysX faL fnL [] tfL exM w h K) :
    LamX.LawAtS PySem.Challenge.rw_nearnames_k72_whole_losses w K CX0 10 63 "_law_script" mg f h := by
  obtain ⟨fd0, F0⟩ := c.t.d.def_ 0 (d := dd_is_name) rfl
  have b0 := FunD.bindsN (ps := ["thing", "wide"]) F0 fun _ _ _ _ _ _ us hl => match us, hl with | [_, _], _ => rfl
  obtain ⟨fd1, F1⟩ := c.t.d.def_ 1 (d := dd_far) rfl
  have b1 := FunD.bindsN (ps := ["one", "other"]) F1 fun _ _ _ _ _ _ us hl => match us, hl with | [_, _], _ => rfl
  obtain ⟨fd2, F2⟩ := c.t.d.def_ 2 (d := dd_nearer) rfl
  have b2 := FunD.bindsN (ps := ["goal", "one", "other"]) F2 fun _ _ _ _ _ _ us hl => match us, hl with | [_, _, _], _ => rfl
  obtain ⟨fd3, F3⟩ := c.t.d.def_ 3 (d := dd_by_nearness) rfl
  have b3 := FunD.bindsN (ps := ["goal", "names"]) F3 fun _ _ _ _ _ _ us hl => match us, hl with | [_, _], _ => rfl
  obtain ⟨fd4, F4⟩ := c.t.d.def_ 4 (d := dd_step) rfl
  have b4 := FunD.bindsN (ps := ["one", "other"]) F4 fun _ _ _ _ _ _ us hl => match us, hl with | [_, _], _ => rfl
  obtain ⟨fd5, F5⟩ := c.t.d.def_ 5 (d := dd_span) rfl
  have b5 := FunD.bindsN (ps := ["name", "k"]) F5 fun _ _ _ _ _ _ us hl => match us, hl with | [_, _], _ => rfl
  obtain ⟨fd6, F6⟩ := c.t.d.def_ 6 (d := dd_of_span) rfl
  have b6 := FunD.bindsN (ps := ["live", "house", "k"]) F6 fun _ _ _ _ _ _ us hl => match us, hl with | [_, _, _], _ => rfl
  obtain ⟨fd7, F7⟩ := c.t.d.def_ 7 (d := dd_is_faulty) rfl
  have b7 := FunD.bindsN (ps := ["names", "live", "room", "house", "k"]) F7 fun _ _ _ _ _ _ us hl => match us, hl with | [_, _, _, _, _], _ => rfl
  obtain ⟨fd8, F8⟩ := c.t.d.def_ 8 (d := dd_fault) rfl
  have b8 := FunD.bindsN (ps := ["town"]) F8 fun _ _ _ _ _ _ us hl => match us, hl with | [_], _ => rfl
  obtain ⟨fd9, F9⟩ := c.t.d.def_ 9 (d := dd_holes) rfl
  have b9 := FunD.bindsN (ps := ["town"]) F9 fun _ _ _ _ _ _ us hl => match us, hl with | [_], _ => rfl
  obtain ⟨fd10, F10⟩ := c.t.d.def_ 10 (d := dd_standing) rfl
  have b10 := FunD.bindsN (ps := ["goal", "room", "seen", "quiet"]) F10 fun _ _ _ _ _ _ us hl => match us, hl with | [_, _, _, _], _ => rfl
  obtain ⟨fd11, F11⟩ := c.t.d.def_ 11 (d := dd_asked) rfl
  have b11 := FunD.bindsN (ps := ["start", "goal", "room", "tells"]) F11 fun _ _ _ _ _ _ us hl => match us, hl with | [_, _, _, _], _ => rfl
  obtain ⟨fd12, F12⟩ := c.t.d.def_ 12 (d := dd_onward) rfl
  have b12 := FunD.bindsN (ps := ["here", "goal", "tells"]) F12 fun _ _ _ _ _ _ us hl => match us, hl with | [_, _, _], _ => rfl
  obtain ⟨fd13, F13⟩ := c.t.d.def_ 13 (d := dd_way) rfl
  have b13 := FunD.bindsN (ps := ["start", "goal", "tells"]) F13 fun _ _ _ _ _ _ us hl => match us, hl with | [_, _, _], _ => rfl
  obtain ⟨fd14, F14⟩ := c.t.d.def_ 14 (d := dd_Bucket_init) rfl
  have b14 := FunD.bindsN (ps := ["self", "room"]) F14 fun _ _ _ _ _ _ us hl => match us, hl with | [_, _], _ => rfl
  obtain ⟨fd15, F15⟩ := c.t.d.def_ 15 (d := dd_Bucket_names) rfl
  have b15 := FunD.bindsN (ps := ["self"]) F15 fun _ _ _ _ _ _ us hl => match us, hl with | [_], _ => rfl
  obtain ⟨fd16, F16⟩ := c.t.d.def_ 16 (d := dd_Bucket_hears) rfl
  have b16 := FunD.bindsN (ps := ["self", "name", "answers"]) F16 fun _ _ _ _ _ _ us hl => match us, hl with | [_, _, _], _ => rfl
  obtain ⟨fd17, F17⟩ := c.t.d.def_ 17 (d := dd_Bucket_drops) rfl
  have b17 := FunD.bindsN (ps := ["self", "name"]) F17 fun _ _ _ _ _ _ us hl => match us, hl with | [_, _], _ => rfl
  obtain ⟨fd18, F18⟩ := c.t.d.def_ 18 (d := dd_Table_init) rfl
  have b18 := FunD.bindsN (ps := ["self", "own", "wide", "room"]) F18 fun _ _ _ _ _ _ us hl => match us, hl with | [_, _, _, _], _ => rfl
  obtain ⟨fd19, F19⟩ := c.t.d.def_ 19 (d := dd_Table_bucket_for) rfl
  have b19 := FunD.bindsN (ps := ["self", "name"]) F19 fun _ _ _ _ _ _ us hl => match us, hl with | [_, _], _ => rfl
  obtain ⟨fd20, F20⟩ := c.t.d.def_ 20 (d := dd_Table_hears) rfl
  have b20 := FunD.bindsN (ps := ["self", "name", "answers"]) F20 fun _ _ _ _ _ _ us hl => match us, hl with | [_, _, _], _ => rfl
  obtain ⟨fd21, F21⟩ := c.t.d.def_ 21 (d := dd_Table_drops) rfl
  have b21 := FunD.bindsN (ps := ["self", "name"]) F21 fun _ _ _ _ _ _ us hl => match us, hl with | [_, _], _ => rfl
  obtain ⟨fd22, F22⟩ := c.t.d.def_ 22 (d := dd_Table_bucket) rfl
  have b22 := FunD.bindsN (ps := ["self", "k"]) F22 fun _ _ _ _ _ _ us hl => match us, hl with | [_, _], _ => rfl
  obtain ⟨fd23, F23⟩ := c.t.d.def_ 23 (d := dd_Table_keeps) rfl
  have b23 := FunD.bindsN (ps := ["self"]) F23 fun _ _ _ _ _ _ us hl => match us, hl with | [_], _ => rfl
  obtain ⟨fd24, F24⟩ := c.t.d.def_ 24 (d := dd_Table_nearest) rfl
  obtain ⟨ds24_0, v24_0, b24_0⟩ := F24.binds1 (ps := ["self", "goal", "many", "but"]) 4 1 (List.cons_ne_nil _ _) (by rfl) fun T kV doc pm an cdv ct us its hu hi => match us, its, hu, hi with | [_, _, _, _], [_], _, _ => ⟨_, rfl, rfl⟩
  obtain ⟨ds24_1, v24_1, b24_1⟩ := F24.binds1 (ps := ["self", "goal", "many", "but"]) 3 0 (List.cons_ne_nil _ _) (by rfl) fun T kV doc pm an cdv ct us its hu hi => match us, its, hu, hi with | [_, _, _], [_], _, _ => ⟨_, rfl, rfl⟩
  have b24 := vnil v24_0 b24_0
  obtain ⟨fd25, F25⟩ := c.t.d.def_ 25 (d := dd_is_size) rfl
  have b25 := FunD.bindsN (ps := ["thing", "most"]) F25 fun _ _ _ _ _ _ us hl => match us, hl with | [_, _], _ => rfl
  obtain ⟨fd26, F26⟩ := c.t.d.def_ 26 (d := dd_Town_init) rfl
  have b26 := FunD.bindsN (ps := ["self", "wide", "room"]) F26 fun _ _ _ _ _ _ us hl => match us, hl with | [_, _, _], _ => rfl
  obtain ⟨fd27, F27⟩ := c.t.d.def_ 27 (d := dd_Town_houses) rfl
  have b27 := FunD.bindsN (ps := ["self"]) F27 fun _ _ _ _ _ _ us hl => match us, hl with | [_], _ => rfl
  obtain ⟨fd28, F28⟩ := c.t.d.def_ 28 (d := dd_Town_answers) rfl
  have b28 := FunD.bindsN (ps := ["self", "name"]) F28 fun _ _ _ _ _ _ us hl => match us, hl with | [_, _], _ => rfl
  obtain ⟨fd29, F29⟩ := c.t.d.def_ 29 (d := dd_Town_answering) rfl
  have b29 := FunD.bindsN (ps := ["self"]) F29 fun _ _ _ _ _ _ us hl => match us, hl with | [_], _ => rfl
  obtain ⟨fd30, F30⟩ := c.t.d.def_ 30 (d := dd_Town_table) rfl
  have b30 := FunD.bindsN (ps := ["self", "house"]) F30 fun _ _ _ _ _ _ us hl => match us, hl with | [_, _], _ => rfl
  obtain ⟨fd31, F31⟩ := c.t.d.def_ 31 (d := dd_Town_look_awake) rfl
  have b31 := FunD.bindsN (ps := ["self", "house"]) F31 fun _ _ _ _ _ _ us hl => match us, hl with | [_, _], _ => rfl
  obtain ⟨fd32, F32⟩ := c.t.d.def_ 32 (d := dd_Town_look_named) rfl
  have b32 := FunD.bindsN (ps := ["self", "name"]) F32 fun _ _ _ _ _ _ us hl => match us, hl with | [_, _], _ => rfl
  obtain ⟨fd33, F33⟩ := c.t.d.def_ 33 (d := dd_Town_bucket) rfl
  have b33 := FunD.bindsN (ps := ["self", "house", "k"]) F33 fun _ _ _ _ _ _ us hl => match us, hl with | [_, _, _], _ => rfl
  obtain ⟨fd34, F34⟩ := c.t.d.def_ 34 (d := dd_Town_keeps) rfl
  have b34 := FunD.bindsN (ps := ["self", "house"]) F34 fun _ _ _ _ _ _ us hl => match us, hl with | [_, _], _ => rfl
  obtain ⟨fd35, F35⟩ := c.t.d.def_ 35 (d := dd_Town_tells) rfl
  have b35 := FunD.bindsN (ps := ["self", "house", "goal", "asker"]) F35 fun _ _ _ _ _ _ us hl => match us, hl with | [_, _, _, _], _ => rfl
  obtain ⟨fd36, F36⟩ := c.t.d.def_ 36 (d := dd_Town_hears) rfl
  have b36 := FunD.bindsN (ps := ["self", "house", "name"]) F36 fun _ _ _ _ _ _ us hl => match us, hl with | [_, _, _], _ => rfl
  obtain ⟨fd37, F37⟩ := c.t.d.def_ 37 (d := dd_Town_come_to) rfl
  have b37 := FunD.bindsN (ps := ["self", "house"]) F37 fun _ _ _ _ _ _ us hl => match us, hl with | [_, _], _ => rfl
  obtain ⟨fd38, F38⟩ := c.t.d.def_ 38 (d := dd_Town_ask) rfl
  have b38 := FunD.bindsN (ps := ["self", "start", "goal"]) F38 fun _ _ _ _ _ _ us hl => match us, hl with | [_, _, _], _ => rfl
  obtain ⟨fd39, F39⟩ := c.t.d.def_ 39 (d := dd_Town_way) rfl
  have b39 := FunD.bindsN (ps := ["self", "start", "goal"]) F39 fun _ _ _ _ _ _ us hl => match us, hl with | [_, _, _], _ => rfl
  obtain ⟨fd40, F40⟩ := c.t.d.def_ 40 (d := dd_Town_visit) rfl
  have b40 := FunD.bindsN (ps := ["self", "house", "door"]) F40 fun _ _ _ _ _ _ us hl => match us, hl with | [_, _, _], _ => rfl
  obtain ⟨fd41, F41⟩ := c.t.d.def_ 41 (d := dd_Town_come) rfl
  obtain ⟨ds41_0, v41_0, b41_0⟩ := F41.binds1 (ps := ["self", "name", "door"]) 3 1 (List.cons_ne_nil _ _) (by rfl) fun T kV doc pm an cdv ct us its hu hi => match us, its, hu, hi with | [_, _, _], [_], _, _ => ⟨_, rfl, rfl⟩
  obtain ⟨ds41_1, v41_1, b41_1⟩ := F41.binds1 (ps := ["self", "name", "door"]) 2 0 (List.cons_ne_nil _ _) (by rfl) fun T kV doc pm an cdv ct us its hu hi => match us, its, hu, hi with | [_, _], [_], _, _ => ⟨_, rfl, rfl⟩
  have b41 := vnil v41_0 b41_0
  obtain ⟨fd42, F42⟩ := c.t.d.def_ 42 (d := dd_Town_go) rfl
  have b42 := FunD.bindsN (ps := ["self", "house"]) F42 fun _ _ _ _ _ _ us hl => match us, hl with | [_, _], _ => rfl
  obtain ⟨fd43, F43⟩ := c.t.d.def_ 43 (d := dd_Town_hush) rfl
  have b43 := FunD.bindsN (ps := ["self", "house"]) F43 fun _ _ _ _ _ _ us hl => match us, hl with | [_, _], _ => rfl
  obtain ⟨fd44, F44⟩ := c.t.d.def_ 44 (d := dd_Town_wake) rfl
  have b44 := FunD.bindsN (ps := ["self", "house", "door"]) F44 fun _ _ _ _ _ _ us hl => match us, hl with | [_, _, _], _ => rfl
  obtain ⟨fd45, F45⟩ := c.t.d.def_ 45 (d := dd_Market_init) rfl
  have b45 := FunD.bindsN (ps := ["self", "wide", "room"]) F45 fun _ _ _ _ _ _ us hl => match us, hl with | [_, _, _], _ => rfl
  obtain ⟨fd46, F46⟩ := c.t.d.def_ 46 (d := dd_Market_come) rfl
  obtain ⟨ds46_0, v46_0, b46_0⟩ := F46.binds1 (ps := ["self", "name", "door"]) 3 1 (List.cons_ne_nil _ _) (by rfl) fun T kV doc pm an cdv ct us its hu hi => match us, its, hu, hi with | [_, _, _], [_], _, _ => ⟨_, rfl, rfl⟩
  obtain ⟨ds46_1, v46_1, b46_1⟩ := F46.binds1 (ps := ["self", "name", "door"]) 2 0 (List.cons_ne_nil _ _) (by rfl) fun T kV doc pm an cdv ct us its hu hi => match us, its, hu, hi with | [_, _], [_], _, _ => ⟨_, rfl, rfl⟩
  have b46 := vnil v46_0 b46_0
  obtain ⟨fd47, F47⟩ := c.t.d.def_ 47 (d := dd_Market_wake) rfl
  have b47 := FunD.bindsN (ps := ["self", "house", "door"]) F47 fun _ _ _ _ _ _ us hl => match us, hl with | [_, _, _], _ => rfl
  obtain ⟨fd48, F48⟩ := c.t.d.def_ 48 (d := dd_Market_go) rfl
  have b48 := FunD.bindsN (ps := ["self", "house"]) F48 fun _ _ _ _ _ _ us hl => match us, hl with | [_, _], _ => rfl
  obtain ⟨fd49, F49⟩ := c.t.d.def_ 49 (d := dd_Market_keys_of) rfl
  have b49 := FunD.bindsN (ps := ["self", "houses"]) F49 fun _ _ _ _ _ _ us hl => match us, hl with | [_, _], _ => rfl
  obtain ⟨fd50, F50⟩ := c.t.d.def_ 50 (d := dd_Market_newest) rfl
  have b50 := FunD.bindsN (ps := ["self", "key", "houses"]) F50 fun _ _ _ _ _ _ us hl => match us, hl with | [_, _, _], _ => rfl
  obtain ⟨fd51, F51⟩ := c.t.d.def_ 51 (d := dd_Market_takes) rfl
  have b51 := FunD.bindsN (ps := ["self", "house", "visited"]) F51 fun _ _ _ _ _ _ us hl => match us, hl with | [_, _, _], _ => rfl
  obtain ⟨fd52, F52⟩ := c.t.d.def_ 52 (d := dd_Market_put) rfl
  have b52 := FunD.bindsN (ps := ["self", "houses", "key", "thing"]) F52 fun _ _ _ _ _ _ us hl => match us, hl with | [_, _, _, _], _ => rfl
  obtain ⟨fd53, F53⟩ := c.t.d.def_ 53 (d := dd_Market_lay) rfl
  have b53 := FunD.bindsN (ps := ["self", "start", "key", "text"]) F53 fun _ _ _ _ _ _ us hl => match us, hl with | [_, _, _, _], _ => rfl
  obtain ⟨fd54, F54⟩ := c.t.d.def_ 54 (d := dd_Market_seek) rfl
  have b54 := FunD.bindsN (ps := ["self", "start", "key"]) F54 fun _ _ _ _ _ _ us hl => match us, hl with | [_, _, _], _ => rfl
  obtain ⟨fd55, F55⟩ := c.t.d.def_ 55 (d := dd_Market_kept) rfl
  have b55 := FunD.bindsN (ps := ["self", "house"]) F55 fun _ _ _ _ _ _ us hl => match us, hl with | [_, _], _ => rfl
  obtain ⟨fd56, F56⟩ := c.t.d.def_ 56 (d := dd_Market_tide) rfl
  have b56 := FunD.bindsN (ps := ["self"]) F56 fun _ _ _ _ _ _ us hl => match us, hl with | [_], _ => rfl
  obtain ⟨fd57, F57⟩ := c.t.d.def_ 57 (d := dd_l_cell_at) rfl
  have b57 := FunD.bindsN (ps := ["_law_script", "_law_k"]) F57 fun _ _ _ _ _ _ us hl => match us, hl with | [_, _], _ => rfl
  obtain ⟨fd58, F58⟩ := c.t.d.def_ 58 (d := dd_l_number) rfl
  have b58 := FunD.bindsN (ps := ["_law_cell", "_law_k", "_law_plain"]) F58 fun _ _ _ _ _ _ us hl => match us, hl with | [_, _, _], _ => rfl
  obtain ⟨fd59, F59⟩ := c.t.d.def_ 59 (d := dd_l_names) rfl
  have b59 := FunD.bindsN (ps := ["_law_number_here", "_law_wide", "_law_many"]) F59 fun _ _ _ _ _ _ us hl => match us, hl with | [_, _, _], _ => rfl
  obtain ⟨fd60, F60⟩ := c.t.d.def_ 60 (d := dd_l_by_nearness) rfl
  have b60 := FunD.bindsN (ps := ["_law_goal", "_law_names_here"]) F60 fun _ _ _ _ _ _ us hl => match us, hl with | [_, _], _ => rfl
  obtain ⟨fd61, F61⟩ := c.t.d.def_ 61 (d := dd_l_built) rfl
  have b61 := FunD.bindsN (ps := ["_law_market", "_law_names_here", "_law_cells", "_law_plain"]) F61 fun _ _ _ _ _ _ us hl => match us, hl with | [_, _, _, _], _ => rfl
  obtain ⟨fd62, F62⟩ := c.t.d.def_ 62 (d := dd_l_goes_out) rfl
  have b62 := FunD.bindsN (ps := ["_law_market", "_law_live", "_law_start", "_law_goal"]) F62 fun _ _ _ _ _ _ us hl => match us, hl with | [_, _, _, _], _ => rfl
  obtain ⟨fd63, F63⟩ := c.t.d.def_ 63 (d := dd_l_changed) rfl
  have b63 := FunD.bindsN (ps := ["_law_market", "_law_live", "_law_names_here", "_law_number_here", "_law_more"]) F63 fun _ _ _ _ _ _ us hl => match us, hl with | [_, _, _, _, _], _ => rfl
  obtain ⟨fd64, F64⟩ := c.t.d.def_ 64 (d := dd_law) rfl
  have b64 := FunD.bindsN (ps := ["_law_script"]) F64 fun _ _ _ _ _ _ us hl => match us, hl with | [_], _ => rfl
  obtain ⟨tk0, ek0⟩ := He.int_ok X G (c.t.d.fact 94 (f := .int "MOST_WIDE" 60) rfl)
  obtain ⟨tk1, ek1⟩ := He.int_ok X G (c.t.d.fact 95 (f := .int "MOST_ROOM" 8) rfl)
  have e := hfa.symm.trans (He.glo_ok X G (c.t.d.fact 22 (f := .glo "law") rfl))
  cases e
  refine ⟨fd64, tfL.map (He.cT K), spLaw K, List.forall_mem_map.mpr fun p hp => c.empty p hp, List.forall_mem_map.mpr fun p hp => c.out p hp, List.forall_mem_map.mpr fun p hp => PySem.W.codeHd_of_K X (c.hd p hp), fun s v => FunD.bindsA (ps := ["_law_script"]) F64 (fun _ _ _ _ _ _ us hl => match us, hl with | [_], _ => rfl) s [v] rfl, fun H a ns hl _ hT hS => ⟨a, ns, rfl, hS, hl, hT, fun _ => rfl⟩, fun base KB GB hTB => ok_law (K := K) (mg := mg) (base := base) {
      a_is_name := (He.ga K "is_name"), d_is_name := fd0, F_is_name := F0, b_is_name := b0,
      m_is_name := He.glo_ok X G (c.t.d.fact 0 (f := .glo "is_name") rfl),
      a_far := (He.ga K "far"), d_far := fd1, F_far := F1, b_far := b1,
      m_far := He.glo_ok X G (c.t.d.fact 1 (f := .glo "far") rfl),
      a_nearer := (He.ga K "nearer"), d_nearer := fd2, F_nearer := F2, b_nearer := b2,
      m_nearer := He.glo_ok X G (c.t.d.fact 2 (f := .glo "nearer") rfl),
      a_by_nearness := (He.ga K "by_nearness"), d_by_nearness := fd3, F_by_nearness := F3, b_by_nearness := b3,
      m_by_nearness := He.glo_ok X G (c.t.d.fact 3 (f := .glo "by_nearness") rfl),
      a_step := (He.ga K "step"), d_step := fd4, F_step := F4, b_step := b4,
      m_step := He.glo_ok X G (c.t.d.fact 4 (f := .glo "step") rfl),
      a_span := (He.ga K "span"), d_span := fd5, F_span := F5, b_span := b5,
      m_span := He.glo_ok X G (c.t.d.fact 5 (f := .glo "span") rfl),
      a_of_span := (He.ga K "of_span"), d_of_span := fd6, F_of_span := F6, b_of_span := b6,
      m_of_span := He.glo_ok X G (c.t.d.fact 6 (f := .glo "of_span") rfl),
      a_is_faulty := (He.ga K "is_faulty"), d_is_faulty := fd7, F_is_faulty := F7, b_is_faulty := b7,
      m_is_faulty := He.glo_ok X G (c.t.d.fact 7 (f := .glo "is_faulty") rfl),
      a_fault := (He.ga K "fault"), d_fault := fd8, F_fault := F8, b_fault := b8,
      m_fault := He.glo_ok X G (c.t.d.fact 8 (f := .glo "fault") rfl),
      a_holes := (He.ga K "holes"), d_holes := fd9, F_holes := F9, b_holes := b9,
      m_holes := He.glo_ok X G (c.t.d.fact 9 (f := .glo "holes") rfl),
      a_standing := (He.ga K "standing"), d_standing := fd10, F_standing := F10, b_standing := b10,
      m_standing := He.glo_ok X G (c.t.d.fact 10 (f := .glo "standing") rfl),
      a_asked := (He.ga K "asked"), d_asked := fd11, F_asked := F11, b_asked := b11,
      m_asked := He.glo_ok X G (c.t.d.fact 11 (f := .glo "asked") rfl),
      a_onward := (He.ga K "onward"), d_onward := fd12, F_onward := F12, b_onward := b12,
      m_onward := He.glo_ok X G (c.t.d.fact 12 (f := .glo "onward") rfl),
      a_way := (He.ga K "way"), d_way := fd13, F_way := F13, b_way := b13,
      m_way := He.glo_ok X G (c.t.d.fact 13 (f := .glo "way") rfl),
      a_Bucket_init := (He.ma K (He.ga K "Bucket") "__init__"), d_Bucket_init := fd14, F_Bucket_init := F14, b_Bucket_init := b14,
      a_Bucket_names := (He.ma K (He.ga K "Bucket") "names"), d_Bucket_names := fd15, F_Bucket_names := F15, b_Bucket_names := b15,
      a_Bucket_hears := (He.ma K (He.ga K "Bucket") "hears"), d_Bucket_hears := fd16, F_Bucket_hears := F16, b_Bucket_hears := b16,
      a_Bucket_drops := (He.ma K (He.ga K "Bucket") "drops"), d_Bucket_drops := fd17, F_Bucket_drops := F17, b_Bucket_drops := b17,
      a_Table_init := (He.ma K (He.ga K "Table") "__init__"), d_Table_init := fd18, F_Table_init := F18, b_Table_init := b18,
      a_Table_bucket_for := (He.ma K (He.ga K "Table") "bucket_for"), d_Table_bucket_for := fd19, F_Table_bucket_for := F19, b_Table_bucket_for := b19,
      a_Table_hears := (He.ma K (He.ga K "Table") "hears"), d_Table_hears := fd20, F_Table_hears := F20, b_Table_hears := b20,
      a_Table_drops := (He.ma K (He.ga K "Table") "drops"), d_Table_drops := fd21, F_Table_drops := F21, b_Table_drops := b21,
      a_Table_bucket := (He.ma K (He.ga K "Table") "bucket"), d_Table_bucket := fd22, F_Table_bucket := F22, b_Table_bucket := b22,
      a_Table_keeps := (He.ma K (He.ga K "Table") "keeps"), d_Table_keeps := fd23, F_Table_keeps := F23, b_Table_keeps := b23,
      a_Table_nearest := (He.ma K (He.ga K "Table") "nearest"), d_Table_nearest := fd24, F_Table_nearest := F24, b_Table_nearest := b24,
      d_Table_nearest_1 := ds24_1, v_Table_nearest_1 := v24_1, b_Table_nearest_1 := b24_1,
      a_is_size := (He.ga K "is_size"), d_is_size := fd25, F_is_size := F25, b_is_size := b25,
      m_is_size := He.glo_ok X G (c.t.d.fact 14 (f := .glo "is_size") rfl),
      a_Town_init := (He.ma K (He.ga K "Town") "__init__"), d_Town_init := fd26, F_Town_init := F26, b_Town_init := b26,
      a_Town_houses := (He.ma K (He.ga K "Town") "houses"), d_Town_houses := fd27, F_Town_houses := F27, b_Town_houses := b27,
      a_Town_answers := (He.ma K (He.ga K "Town") "answers"), d_Town_answers := fd28, F_Town_answers := F28, b_Town_answers := b28,
      a_Town_answering := (He.ma K (He.ga K "Town") "answering"), d_Town_answering := fd29, F_Town_answering := F29, b_Town_answering := b29,
      a_Town_table := (He.ma K (He.ga K "Town") "table"), d_Town_table := fd30, F_Town_table := F30, b_Town_table := b30,
      a_Town_look_awake := (He.ma K (He.ga K "Town") "look_awake"), d_Town_look_awake := fd31, F_Town_look_awake := F31, b_Town_look_awake := b31,
      a_Town_look_named := (He.ma K (He.ga K "Town") "look_named"), d_Town_look_named := fd32, F_Town_look_named := F32, b_Town_look_named := b32,
      a_Town_bucket := (He.ma K (He.ga K "Town") "bucket"), d_Town_bucket := fd33, F_Town_bucket := F33, b_Town_bucket := b33,
      a_Town_keeps := (He.ma K (He.ga K "Town") "keeps"), d_Town_keeps := fd34, F_Town_keeps := F34, b_Town_keeps := b34,
      a_Town_tells := (He.ma K (He.ga K "Town") "tells"), d_Town_tells := fd35, F_Town_tells := F35, b_Town_tells := b35,
      a_Town_hears := (He.ma K (He.ga K "Town") "hears"), d_Town_hears := fd36, F_Town_hears := F36, b_Town_hears := b36,
      a_Town_come_to := (He.ma K (He.ga K "Town") "come_to"), d_Town_come_to := fd37, F_Town_come_to := F37, b_Town_come_to := b37,
      a_Town_ask := (He.ma K (He.ga K "Town") "ask"), d_Town_ask := fd38, F_Town_ask := F38, b_Town_ask := b38,
      a_Town_way := (He.ma K (He.ga K "Town") "way"), d_Town_way := fd39, F_Town_way := F39, b_Town_way := b39,
      a_Town_visit := (He.ma K (He.ga K "Town") "visit"), d_Town_visit := fd40, F_Town_visit := F40, b_Town_visit := b40,
      a_Town_come := (He.ma K (He.ga K "Town") "come"), d_Town_come := fd41, F_Town_come := F41, b_Town_come := b41,
      d_Town_come_1 := ds41_1, v_Town_come_1 := v41_1, b_Town_come_1 := b41_1,
      a_Town_go := (He.ma K (He.ga K "Town") "go"), d_Town_go := fd42, F_Town_go := F42, b_Town_go := b42,
      a_Town_hush := (He.ma K (He.ga K "Town") "hush"), d_Town_hush := fd43, F_Town_hush := F43, b_Town_hush := b43,
      a_Town_wake := (He.ma K (He.ga K "Town") "wake"), d_Town_wake := fd44, F_Town_wake := F44, b_Town_wake := b44,
      a_Market_init := (He.ma K (He.ga K "Market") "__init__"), d_Market_init := fd45, F_Market_init := F45, b_Market_init := b45,
      a_Market_come := (He.ma K (He.ga K "Market") "come"), d_Market_come := fd46, F_Market_come := F46, b_Market_come := b46,
      d_Market_come_1 := ds46_1, v_Market_come_1 := v46_1, b_Market_come_1 := b46_1,
      a_Market_wake := (He.ma K (He.ga K "Market") "wake"), d_Market_wake := fd47, F_Market_wake := F47, b_Market_wake := b47,
      a_Market_go := (He.ma K (He.ga K "Market") "go"), d_Market_go := fd48, F_Market_go := F48, b_Market_go := b48,
      a_Market_keys_of := (He.ma K (He.ga K "Market") "keys_of"), d_Market_keys_of := fd49, F_Market_keys_of := F49, b_Market_keys_of := b49,
      a_Market_newest := (He.ma K (He.ga K "Market") "newest"), d_Market_newest := fd50, F_Market_newest := F50, b_Market_newest := b50,
      a_Market_takes := (He.ma K (He.ga K "Market") "takes"), d_Market_takes := fd51, F_Market_takes := F51, b_Market_takes := b51,
      a_Market_put := (He.ma K (He.ga K "Market") "put"), d_Market_put := fd52, F_Market_put := F52, b_Market_put := b52,
      a_Market_lay := (He.ma K (He.ga K "Market") "lay"), d_Market_lay := fd53, F_Market_lay := F53, b_Market_lay := b53,
      a_Market_seek := (He.ma K (He.ga K "Market") "seek"), d_Market_seek := fd54, F_Market_seek := F54, b_Market_seek := b54,
      a_Market_kept := (He.ma K (He.ga K "Market") "kept"), d_Market_kept := fd55, F_Market_kept := F55, b_Market_kept := b55,
      a_Market_tide := (He.ma K (He.ga K "Market") "tide"), d_Market_tide := fd56, F_Market_tide := F56, b_Market_tide := b56,
      a_l_cell_at := (He.ga K "_law_cell_at"), d_l_cell_at := fd57, F_l_cell_at := F57, b_l_cell_at := b57,
      m_l_cell_at := He.glo_ok X G (c.t.d.fact 15 (f := .glo "_law_cell_at") rfl),
      a_l_number := (He.ga K "_law_number"), d_l_number := fd58, F_l_number := F58, b_l_number := b58,
      m_l_number := He.glo_ok X G (c.t.d.fact 16 (f := .glo "_law_number") rfl),
      a_l_names := (He.ga K "_law_names"), d_l_names := fd59, F_l_names := F59, b_l_names := b59,
      m_l_names := He.glo_ok X G (c.t.d.fact 17 (f := .glo "_law_names") rfl),
      a_l_by_nearness := (He.ga K "_law_by_nearness"), d_l_by_nearness := fd60, F_l_by_nearness := F60, b_l_by_nearness := b60,
      m_l_by_nearness := He.glo_ok X G (c.t.d.fact 18 (f := .glo "_law_by_nearness") rfl),
      a_l_built := (He.ga K "_law_built"), d_l_built := fd61, F_l_built := F61, b_l_built := b61,
      m_l_built := He.glo_ok X G (c.t.d.fact 19 (f := .glo "_law_built") rfl),
      a_l_goes_out := (He.ga K "_law_goes_out"), d_l_goes_out := fd62, F_l_goes_out := F62, b_l_goes_out := b62,
      m_l_goes_out := He.glo_ok X G (c.t.d.fact 20 (f := .glo "_law_goes_out") rfl),
      a_l_changed := (He.ga K "_law_changed"), d_l_changed := fd63, F_l_changed := F63, b_l_changed := b63,
      m_l_changed := He.glo_ok X G (c.t.d.fact 21 (f := .glo "_law_changed") rfl),
      a_law := (He.ga K "law"), d_law := fd64, F_law := F64, b_law := b64,
      m_law := He.glo_ok X G (c.t.d.fact 22 (f := .glo "law") rfl),
      C_Bucket := He.ga K "Bucket", c_Bucket := He.cls_ok (c.t.d.fact 25 (f := .cls "Bucket") rfl), m_Bucket := He.glo_ok X G (c.t.d.fact 24 (f := .glo "Bucket") rfl), M_Bucket := He.mkr_ok (c.t.d.fact 26 (f := .mkr "Bucket") rfl),
      t_Bucket_names := He.meth_ok (c.t.d.fact 29 (f := .meth "Bucket" "names") rfl),
      t_Bucket_hears := He.meth_ok (c.t.d.fact 30 (f := .meth "Bucket" "hears") rfl),
      t_Bucket_drops := He.meth_ok (c.t.d.fact 31 (f := .meth "Bucket" "drops") rfl),
      n_Bucket_room := He.noat_ok (c.t.d.fact 27 (f := .noat "Bucket" "room") rfl),
      n_Bucket_line := He.noat_ok (c.t.d.fact 28 (f := .noat "Bucket" "line") rfl),
      C_Table := He.ga K "Table", c_Table := He.cls_ok (c.t.d.fact 33 (f := .cls "Table") rfl), m_Table := He.glo_ok X G (c.t.d.fact 32 (f := .glo "Table") rfl), M_Table := He.mkr_ok (c.t.d.fact 34 (f := .mkr "Table") rfl),
      t_Table_bucket_for := He.meth_ok (c.t.d.fact 39 (f := .meth "Table" "bucket_for") rfl),
      t_Table_hears := He.meth_ok (c.t.d.fact 40 (f := .meth "Table" "hears") rfl),
      t_Table_drops := He.meth_ok (c.t.d.fact 41 (f := .meth "Table" "drops") rfl),
      t_Table_bucket := He.meth_ok (c.t.d.fact 42 (f := .meth "Table" "bucket") rfl),
      t_Table_keeps := He.meth_ok (c.t.d.fact 43 (f := .meth "Table" "keeps") rfl),
      t_Table_nearest := He.meth_ok (c.t.d.fact 44 (f := .meth "Table" "nearest") rfl),
      n_Table_own := He.noat_ok (c.t.d.fact 35 (f := .noat "Table" "own") rfl),
      n_Table_wide := He.noat_ok (c.t.d.fact 36 (f := .noat "Table" "wide") rfl),
      n_Table_room := He.noat_ok (c.t.d.fact 37 (f := .noat "Table" "room") rfl),
      n_Table_buckets := He.noat_ok (c.t.d.fact 38 (f := .noat "Table" "buckets") rfl),
      C_Town := He.ga K "Market", c_Town := He.cls_ok (c.t.d.fact 46 (f := .cls "Market") rfl), m_Market := He.glo_ok X G (c.t.d.fact 45 (f := .glo "Market") rfl), M_Market := He.mkr_ok (c.t.d.fact 47 (f := .mkr "Market") rfl),
      B_Town := He.ga K "Town", m_Town := He.glo_ok X G (c.t.d.fact 23 (f := .glo "Town") rfl), R_Town := (clL_ok c.more).1,
      q_Town_init := (clL_ok c.more).2 (m := "__init__") (List.mem_of_getElem? (l := cfL) (i := 0) rfl),
      q_Town_come := (clL_ok c.more).2 (m := "come") (List.mem_of_getElem? (l := cfL) (i := 1) rfl),
      q_Town_go := (clL_ok c.more).2 (m := "go") (List.mem_of_getElem? (l := cfL) (i := 2) rfl),
      t_Town_houses := meth_to (inL_ok c.more (m := "houses") (List.mem_of_getElem? (l := inL) (i := 0) rfl)) (He.meth_ok (c.t.d.fact 54 (f := .meth "Market" "houses") rfl)),
      t_Town_answers := meth_to (inL_ok c.more (m := "answers") (List.mem_of_getElem? (l := inL) (i := 1) rfl)) (He.meth_ok (c.t.d.fact 55 (f := .meth "Market" "answers") rfl)),
      t_Town_answering := meth_to (inL_ok c.more (m := "answering") (List.mem_of_getElem? (l := inL) (i := 2) rfl)) (He.meth_ok (c.t.d.fact 56 (f := .meth "Market" "answering") rfl)),
      t_Town_table := meth_to (inL_ok c.more (m := "table") (List.mem_of_getElem? (l := inL) (i := 3) rfl)) (He.meth_ok (c.t.d.fact 57 (f := .meth "Market" "table") rfl)),
      t_Town_look_awake := meth_to (inL_ok c.more (m := "look_awake") (List.mem_of_getElem? (l := inL) (i := 4) rfl)) (He.meth_ok (c.t.d.fact 58 (f := .meth "Market" "look_awake") rfl)),
      t_Town_look_named := meth_to (inL_ok c.more (m := "look_named") (List.mem_of_getElem? (l := inL) (i := 5) rfl)) (He.meth_ok (c.t.d.fact 59 (f := .meth "Market" "look_named") rfl)),
      t_Town_bucket := meth_to (inL_ok c.more (m := "bucket") (List.mem_of_getElem? (l := inL) (i := 6) rfl)) (He.meth_ok (c.t.d.fact 60 (f := .meth "Market" "bucket") rfl)),
      t_Town_keeps := meth_to (inL_ok c.more (m := "keeps") (List.mem_of_getElem? (l := inL) (i := 7) rfl)) (He.meth_ok (c.t.d.fact 61 (f := .meth "Market" "keeps") rfl)),
      t_Town_tells := meth_to (inL_ok c.more (m := "tells") (List.mem_of_getElem? (l := inL) (i := 8) rfl)) (He.meth_ok (c.t.d.fact 62 (f := .meth "Market" "tells") rfl)),
      t_Town_hears := meth_to (inL_ok c.more (m := "hears") (List.mem_of_getElem? (l := inL) (i := 9) rfl)) (He.meth_ok (c.t.d.fact 63 (f := .meth "Market" "hears") rfl)),
      t_Town_come_to := meth_to (inL_ok c.more (m := "come_to") (List.mem_of_getElem? (l := inL) (i := 10) rfl)) (He.meth_ok (c.t.d.fact 64 (f := .meth "Market" "come_to") rfl)),
      t_Town_ask := meth_to (inL_ok c.more (m := "ask") (List.mem_of_getElem? (l := inL) (i := 11) rfl)) (He.meth_ok (c.t.d.fact 65 (f := .meth "Market" "ask") rfl)),
      t_Town_way := meth_to (inL_ok c.more (m := "way") (List.mem_of_getElem? (l := inL) (i := 12) rfl)) (He.meth_ok (c.t.d.fact 66 (f := .meth "Market" "way") rfl)),
      t_Town_visit := meth_to (inL_ok c.more (m := "visit") (List.mem_of_getElem? (l := inL) (i := 13) rfl)) (He.meth_ok (c.t.d.fact 67 (f := .meth "Market" "visit") rfl)),
      t_Market_come := He.meth_ok (c.t.d.fact 68 (f := .meth "Market" "come") rfl),
      t_Market_go := He.meth_ok (c.t.d.fact 69 (f := .meth "Market" "go") rfl),
      t_Town_hush := meth_to (inL_ok c.more (m := "hush") (List.mem_of_getElem? (l := inL) (i := 14) rfl)) (He.meth_ok (c.t.d.fact 70 (f := .meth "Market" "hush") rfl)),
      t_Market_wake := He.meth_ok (c.t.d.fact 71 (f := .meth "Market" "wake") rfl),
      t_Market_keys_of := He.meth_ok (c.t.d.fact 72 (f := .meth "Market" "keys_of") rfl),
      t_Market_newest := He.meth_ok (c.t.d.fact 73 (f := .meth "Market" "newest") rfl),
      t_Market_takes := He.meth_ok (c.t.d.fact 74 (f := .meth "Market" "takes") rfl),
      t_Market_put := He.meth_ok (c.t.d.fact 75 (f := .meth "Market" "put") rfl),
      t_Market_lay := He.meth_ok (c.t.d.fact 76 (f := .meth "Market" "lay") rfl),
      t_Market_seek := He.meth_ok (c.t.d.fact 77 (f := .meth "Market" "seek") rfl),
      t_Market_kept := He.meth_ok (c.t.d.fact 78 (f := .meth "Market" "kept") rfl),
      t_Market_tide := He.meth_ok (c.t.d.fact 79 (f := .meth "Market" "tide") rfl),
      n_Town_wide := He.noat_ok (c.t.d.fact 48 (f := .noat "Market" "wide") rfl),
      n_Town_room := He.noat_ok (c.t.d.fact 49 (f := .noat "Market" "room") rfl),
      n_Town_tables := He.noat_ok (c.t.d.fact 50 (f := .noat "Market" "tables") rfl),
      n_Town_hushed := He.noat_ok (c.t.d.fact 51 (f := .noat "Market" "hushed") rfl),
      n_Town_shelves := He.noat_ok (c.t.d.fact 52 (f := .noat "Market" "shelves") rfl),
      n_Town_layings := He.noat_ok (c.t.d.fact 53 (f := .noat "Market" "layings") rfl),
      m_way_asks := (He.glo_ok X G (c.t.d.fact 80 (f := .glo "way_asks") rfl)).trans (congrArg (fun z => some (Value.ref z)) (exL_ok (exM_ex c.more) (p := ("way_asks", "way")) (List.mem_of_getElem? (i := 0) rfl))),
      z_all := He.free_ok X G (c.t.d.fact 81 (f := .free "all") rfl),
      z_any := He.free_ok X G (c.t.d.fact 82 (f := .free "any") rfl),
      z_bool := He.free_ok X G (c.t.d.fact 83 (f := .free "bool") rfl),
      z_enumerate := He.free_ok X G (c.t.d.fact 84 (f := .free "enumerate") rfl),
      z_int := He.free_ok X G (c.t.d.fact 85 (f := .free "int") rfl),
      z_isinstance := He.free_ok X G (c.t.d.fact 86 (f := .free "isinstance") rfl),
      z_len := He.free_ok X G (c.t.d.fact 87 (f := .free "len") rfl),
      z_list := He.free_ok X G (c.t.d.fact 88 (f := .free "list") rfl),
      z_max := He.free_ok X G (c.t.d.fact 89 (f := .free "max") rfl),
      z_range := He.free_ok X G (c.t.d.fact 90 (f := .free "range") rfl),
      z_set := He.free_ok X G (c.t.d.fact 91 (f := .free "set") rfl),
      z_sorted := He.free_ok X G (c.t.d.fact 92 (f := .free "sorted") rfl),
      z_str := He.free_ok X G (c.t.d.fact 93 (f := .free "str") rfl),
      t_MOST_WIDE := tk0, m_MOST_WIDE := ek0,
      t_MOST_ROOM := tk1, m_MOST_ROOM := ek1,
      k_Town_hears := He.codeOf K ("Town", some "hears"), P_Town_hears := He.tabOf K (He.codeOf K ("Town", some "hears")), tb_Town_hears := hTB _ (List.mem_map.mpr ⟨(("Town", some "hears") : He.Defn), by simp [tfL], rfl⟩), FC_Town_hears := func_of (p := ("Town", some "hears")) F36, z0_Town_hears := fun H h => h _ (List.mem_map.mpr ⟨(("Town", some "hears") : He.Defn), by simp [tfL], rfl⟩),
      k_Town_ask := He.codeOf K ("Town", some "ask"), P_Town_ask := He.tabOf K (He.codeOf K ("Town", some "ask")), tb_Town_ask := hTB _ (List.mem_map.mpr ⟨(("Town", some "ask") : He.Defn), by simp [tfL], rfl⟩), FC_Town_ask := func_of (p := ("Town", some "ask")) F38, z0_Town_ask := fun H h => h _ (List.mem_map.mpr ⟨(("Town", some "ask") : He.Defn), by simp [tfL], rfl⟩),
      k_Town_way := He.codeOf K ("Town", some "way"), P_Town_way := He.tabOf K (He.codeOf K ("Town", some "way")), tb_Town_way := hTB _ (List.mem_map.mpr ⟨(("Town", some "way") : He.Defn), by simp [tfL], rfl⟩), FC_Town_way := func_of (p := ("Town", some "way")) F39, z0_Town_way := fun H h => h _ (List.mem_map.mpr ⟨(("Town", some "way") : He.Defn), by simp [tfL], rfl⟩),
      k_l_by_nearness := He.codeOf K ("_law_by_nearness", none), P_l_by_nearness := He.tabOf K (He.codeOf K ("_law_by_nearness", none)), tb_l_by_nearness := hTB _ (List.mem_map.mpr ⟨(("_law_by_nearness", none) : He.Defn), by simp [tfL], rfl⟩), FC_l_by_nearness := func_of (p := ("_law_by_nearness", none)) F60, z0_l_by_nearness := fun H h => h _ (List.mem_map.mpr ⟨(("_law_by_nearness", none) : He.Defn), by simp [tfL], rfl⟩) }⟩
end Nn
open PySem PySem.W PySem.Calls PyProof.Rows
theorem PySem.Challenge.cw_nearnames_k72_whole_losses_holds : PySem.Challenge.rw_nearnames_k72_whole_losses.Holds := by
  w_on; o_law
  refine HandSHeadRun.head_any (r := OpenLaw.row PySem.Challenge.rw_nearnames_k72_whole_losses) (q := view (OpenLaw.row PySem.Challenge.rw_nearnames_k72_whole_losses).prog [45]) (H := Nn.hkX) (ob := Nn.obL) (M := 6000) (loose := Nn.looseL) (d := HandSHeadRun.topDef (OpenLaw.row PySem.Challenge.rw_nearnames_k72_whole_losses).prog 45) (kwd := []) Nn.obL_eq
    (by kernel_rfl) (fun s => by kernel_rfl) Nn.runL (by kernel_rfl) (by kernel_rfl) (by kernel_rfl) (by rfl) (by first | assumption | decide +kernel) (by decide +kernel) ⟨rfl, rfl, rfl, rfl, rfl, by decide +kernel⟩ ?hw ?hc
  case hw => w_witness2
  case hc =>
    refine LamX.walk_ofTsE (l := PySem.Challenge.rw_nearnames_k72_whole_losses) (n := 63) (k := 10) (x := "_law_script") (CX := fun _ => L2.CX0) rfl (by decide) (by kernel_rfl) ⟨rfl, by decide, by decide⟩ ?F (fun _ _ _ _ _ z => z)
    intro w mg fa h Y G hmg0
    obtain ⟨K, KX, c⟩ := Y
    have hmg : mg ("law" : PySem.Str) = some (.ref fa) := by
      have e : (HandSHeadRun.topDef (OpenLaw.row PySem.Challenge.rw_nearnames_k72_whole_losses).prog 45).name = ("law" : PySem.Str) := by kernel_rfl
      rw [← e]
      exact hmg0
    exact ⟨K, KX, Nn.factsL KX G hmg c⟩
