import PyProof.Rows.All
import Wide.All
import OpenK.AllK
import Wide.FinOn
import HandS.ForMost
import HandS.Walk
import HandS.Wide
import HandS.WideBits
import HandS.IsInst
import HandS.EndBits
import HandS.SortInts
import HandS.Flow
import HandS.Nested
import HandS.EndTab
import HandS.More
import HandS.SetFor
import HandS.Strs
import HandS.Zip
import HandS.CallLocal
import HandS.Defaults
import HandS.Head0
import HandS.Head1
import HandS.Head2
import HandS.HeadEnd
import HandS.HeadHook1
import HandS.HeadHook2
import HandS.HeadHook3
import HandS.HeadHook4
import HandS.HeadWalk
import HandS.DictComp
import HandS.DeepEq
import PySem.Challenge.RW_nearnames_k45_whole_tide_rests
set_option Elab.async false
set_option linter.all false
set_option maxRecDepth 100000
set_option maxHeartbeats 4000000
namespace Nn
open PySem L2
def nmAll (l c : Nat) : Str := if l = 215 ∧ c = 8 then (("Town.hears" : Str) ++ ".<locals>.") ++ "answers" else if l = 232 ∧ c = 8 then (("Town.ask" : Str) ++ ".<locals>.") ++ "tells" else if l = 247 ∧ c = 8 then (("Town.way" : Str) ++ ".<locals>.") ++ "tells" else if l = 365 ∧ c = 4 then (("_law_as_it_is" : Str) ++ ".<locals>.") ++ "_law_tells" else ""
end Nn
/-! Steps through readings. -/
namespace Nn
open PySem L2
section
variable {K : PySem.W.Frag} {σ : L2.St} {H : Hp} {ta tb te tc : TE} {t u : TS} {c c' : TT} {D : Ends} {Q : VK} {x y v : V}

theorem cxK {CX : CXT} {P : Program} {w : World} {K : PySem.W.Frag} {mg : Str → Option Value} {base : Heap} {N : List Str} {q : Str} {sc : Scope} {f : Addr} {cd : Value} {A : Around} {outer : List Env} {s : Shared} {H : Hp} {E : XK} :
    (cxOf CX P w K mg base N q sc f cd A outer s H E).nox.K = K := rfl
theorem cxK' {CX : CXT} {P : Program} {w : World} {K : PySem.W.Frag} {mg : Str → Option Value} {base : Heap} {N : List Str} {q : Str} {sc : Scope} {f : Addr} {cd : Value} {A : Around} {outer : List Env} {s : Shared} {H : Hp} {E : XK} :
    (cxOf CX P w K mg base N q sc f cd A outer s H E).K = K := rfl
theorem cxW {CX : CXT} {P : Program} {w : World} {K : PySem.W.Frag} {mg : Str → Option Value} {base : Heap} {N : List Str} {q : Str} {sc : Scope} {f : Addr} {cd : Value} {A : Around} {outer : List Env} {s : Shared} {H : Hp} {E : XK} :
    (cxOf CX P w K mg base N q sc f cd A outer s H E).w = w := rfl
theorem x_seq (h : t { D with nx := u D } σ H) : tSeq t u D σ H := h
theorem x_next (h : D.nx σ H) : tNext D σ H := h
theorem x_asg {g : TG} (h : te σ H fun x H1 => g x σ H1 D.nx) : tAsg te g D σ H := h
theorem x_name {i : Nat} {R : L2.St → Hp → Prop} (h : R (σ.set i (some v)) H) : gName i v σ H R := h
theorem x_ret (h : te σ H D.rt) : tRet te D σ H := h
theorem x_retN (h : D.rt .non H) : tRetN D σ H := h
theorem x_drop (h : te σ H fun _ H1 => D.nx σ H1) : tDrop te D σ H := h
/-- the branches as they stand (not walked until the test is known) -/
def IfS (b : Bool) (t u : TS) (D : Ends) (σ : L2.St) (H : Hp) : Prop := if b = true then t D σ H else u D σ H
theorem x_ifD {p : Prop} [Decidable p] (h1 : p → t D σ H) (h2 : ¬ p → u D σ H) : IfS (decide p) t u D σ H := by
  unfold IfS
  by_cases h : p
  · rw [if_pos (decide_eq_true h)]; exact h1 h
  · rw [if_neg (by simp [h])]; exact h2 h
theorem x_ifN {p : Prop} [Decidable p] (h1 : ¬ p → t D σ H) (h2 : p → u D σ H) : IfS (!decide p) t u D σ H := by
  unfold IfS
  by_cases h : p
  · rw [if_neg (by simp [h])]; exact h2 h
  · rw [if_pos (by simp [h])]; exact h1 h
theorem x_ifB {b : Bool} (h1 : b = true → t D σ H) (h2 : b = false → u D σ H) : IfS b t u D σ H := by
  cases b with
  | true => exact h1 rfl
  | false => exact h2 rfl
theorem x_INs {α : Type} [DecidableEq α] {b : α} (h : u D σ H) : IfS (!decide (b = b)) t u D σ H := by
  rw [decide_eq_true rfl]; exact h
theorem x_IEs {α : Type} [DecidableEq α] {b : α} (h : t D σ H) : IfS (decide (b = b)) t u D σ H := by
  rw [decide_eq_true rfl]; exact h
theorem x_if {tt : TT} (h : tt σ H fun b H1 => if b = true then ta σ H1 Q else tb σ H1 Q) : tIf tt ta tb σ H Q := h
theorem x_var {i : Nat} (e : σ[i]? = some (some v)) (h : Q v H) : tVar i σ H Q := ⟨v, e, h⟩
theorem x_c (h : Q v H) : tC v σ H Q := h
theorem x_op {r : R2} (h : ta σ H fun x H1 => tb σ H1 fun y H2 => r x y H2 Q) : tOp r ta tb σ H Q := h
theorem x_un {r : V → Hp → VK → Prop} (h : ta σ H fun x H1 => r x H1 Q) : tUn r ta σ H Q := h
theorem x_cb {r : List V → Hp → VK → Prop} {ts : TA} (h : ts σ H fun vs H1 => r vs H1 Q) : tCB r ts σ H Q := h
theorem x_nil {R : List V → Hp → Prop} (h : R [] H) : tNil σ H R := h
theorem x_cons {ts : TA} {R : List V → Hp → Prop} (h : ta σ H fun x H1 => ts σ H1 fun xs H2 => R (x :: xs) H2) : tCons ta ts σ H R := h
theorem x_call {sp : Sp} {E : XK} {ts : TA} (h : ts σ H fun vs H1 => sp vs H1 Q E) : tCall sp [] E ts σ H Q := by
  unfold tCall; simpa only [List.append_nil] using h
theorem x_calld {sp : Sp} {E : XK} {ds : List V} {ts : TA} (h : ts σ H fun vs H1 => sp (vs ++ ds) H1 Q E) : tCall sp ds E ts σ H Q := h
theorem x_tup {ts : TA} (h : ts σ H fun xs H1 => xs.length ≤ sizeLine ∧ ∀ p, H1 p = none → Q (.ref p) (upd H1 p (.tup xs))) : tTup ts σ H Q := h
theorem x_lst {ts : TA} (h : ts σ H fun xs H1 => xs.length ≤ sizeLine ∧ ∀ p, H1 p = none → Q (.ref p) (upd H1 p (.lst xs))) : tLst ts σ H Q := h

theorem x_test {R : Bool → Hp → Prop} (h : te σ H fun x H' => ∃ k, x = .bl k ∧ R k H') : tTest te σ H R := h
theorem x_B {R : Bool → Hp → Prop} (h : te σ H fun x H' => ∃ k, x = .bl k ∧ R k H') : tB te σ H R := h
theorem x_bl {R : Bool → Prop} {k : Bool} (h : R k) : ∃ k', V.bl k = V.bl k' ∧ R k' := ⟨k, rfl, h⟩
theorem x_and {R : Bool → Hp → Prop} (h : c σ H fun b H1 => if b = true then c' σ H1 R else R false H1) : tAnd c c' σ H R := h
theorem x_or {R : Bool → Hp → Prop} (h : c σ H fun b H1 => if b = true then R true H1 else c' σ H1 R) : tOr c c' σ H R := h
theorem x_not {R : Bool → Hp → Prop} (h : c σ H fun b H1 => R (!b) H1) : tNot c σ H R := h
theorem x_andV (h : ta σ H fun x H1 => ∃ c, x = .bl c ∧ if c = true then tb σ H1 Q else Q (.bl false) H1) : tAndV ta tb σ H Q := h
theorem x_orV (h : ta σ H fun x H1 => ∃ c, x = .bl c ∧ if c = true then Q (.bl true) H1 else tb σ H1 Q) : tOrV ta tb σ H Q := h
theorem x_notV (h : ta σ H fun x H1 => ∃ c, x = .bl c ∧ Q (.bl (!c)) H1) : tNotV ta σ H Q := h
theorem x_chain {r r' : R2} (h : ta σ H fun x H1 => tb σ H1 fun y H2 => r x y H2 fun z H3 => ∃ k, z = .bl k ∧ if k = true then tc σ H3 fun w H4 => r' y w H4 Q else Q (.bl false) H3) : tChain r r' ta tb tc σ H Q := h

theorem x_i0 {g : Int → Int → V} {i j : Int} (h : Q (g i j) H) : rI0 g (.int i) (.int j) H Q := ⟨i, j, rfl, rfl, h⟩
theorem x_i {C : Int → Int → Prop} {g : Int → Int → V} {i j : Int} (hc : C i j) (h : Q (g i j) H) : rI C g (.int i) (.int j) H Q := ⟨i, j, rfl, rfl, hc, h⟩
theorem x_u {g : Int → V} {i : Int} (h : Q (g i) H) : rU g (.int i) H Q := ⟨i, rfl, h⟩
theorem x_eqI {i j : Int} (h : Q (.bl (decide (i = j))) H) : rEq (.int i) (.int j) H Q := ⟨rfl, by
  have e : decide (V.int i = V.int j) = decide (i = j) := by simp
  rw [e]; exact h⟩
theorem x_neI {i j : Int} (h : Q (.bl (!decide (i = j))) H) : rNe (.int i) (.int j) H Q := ⟨rfl, by
  have e : decide (V.int i = V.int j) = decide (i = j) := by simp
  rw [e]; exact h⟩
theorem x_eqB {i j : Bool} (h : Q (.bl (decide (i = j))) H) : rEq (.bl i) (.bl j) H Q := ⟨rfl, by
  have e : decide (V.bl i = V.bl j) = decide (i = j) := by simp
  rw [e]; exact h⟩
theorem x_neB {i j : Bool} (h : Q (.bl (!decide (i = j))) H) : rNe (.bl i) (.bl j) H Q := ⟨rfl, by
  have e : decide (V.bl i = V.bl j) = decide (i = j) := by simp
  rw [e]; exact h⟩
theorem x_eqS {i j : Str} (h : Q (.bl (decide (i = j))) H) : rEq (.str i) (.str j) H Q := ⟨rfl, by
  have e : decide (V.str i = V.str j) = decide (i = j) := by simp
  rw [e]; exact h⟩
theorem x_neS {i j : Str} (h : Q (.bl (!decide (i = j))) H) : rNe (.str i) (.str j) H Q := ⟨rfl, by
  have e : decide (V.str i = V.str j) = decide (i = j) := by simp
  rw [e]; exact h⟩
theorem x_eq (e : scal x y = true) (h : Q (.bl (decide (x = y))) H) : rEq x y H Q := ⟨e, h⟩
theorem x_ne (e : scal x y = true) (h : Q (.bl (!decide (x = y))) H) : rNe x y H Q := ⟨e, h⟩

theorem x_ite {p A B : Prop} [Decidable p] (h1 : p → A) (h2 : ¬ p → B) : if decide p = true then A else B := by
  by_cases h : p
  · rw [if_pos (decide_eq_true h)]; exact h1 h
  · rw [if_neg (by simp [h])]; exact h2 h
theorem x_iteN {p A B : Prop} [Decidable p] (h1 : ¬ p → A) (h2 : p → B) : if (!decide p) = true then A else B := by
  by_cases h : p
  · rw [if_neg (by simp [h])]; exact h2 h
  · rw [if_pos (by simp [h])]; exact h1 h
theorem x_iteB {b : Bool} {A B : Prop} (h1 : b = true → A) (h2 : b = false → B) : if b = true then A else B := by
  cases b with
  | true => rw [if_pos rfl]; exact h1 rfl
  | false => rw [if_neg Bool.false_ne_true]; exact h2 rfl
theorem x_NEs {α : Type} [DecidableEq α] {b : α} {A B : Prop} (h : B) : if (!decide (b = b)) = true then A else B := by
  rw [decide_eq_true rfl]; exact iteF h
theorem x_Es {α : Type} [DecidableEq α] {b : α} {A B : Prop} (h : A) : if decide (b = b) = true then A else B := by
  rw [decide_eq_true rfl]; exact iteT h
theorem x_T {A B : Prop} (h : A) : if true = true then A else B := iteT h
theorem x_F {A B : Prop} (h : B) : if false = true then A else B := iteF h
theorem x_NT {A B : Prop} (h : B) : if (!true) = true then A else B := iteF h
theorem x_NF {A B : Prop} (h : A) : if (!false) = true then A else B := iteT h

/-! the built-ins' readings -/
theorem x_ixL {p : Addr} {xs : List V} {i : Int} (hS : SqL K H p xs) (e : atI xs i = some v) (h : Q v H) : rIxL K (.ref p) (.int i) H Q := ⟨p, xs, i, v, rfl, rfl, hS, e, h⟩
theorem x_ixT {p : Addr} {xs : List V} {i : Int} (hS : SqT K H p xs) (e : atI xs i = some v) (h : Q v H) : rIxT K (.ref p) (.int i) H Q := ⟨p, xs, i, v, rfl, rfl, hS, e, h⟩
def rAbs : List V → Hp → VK → Prop := fun xs H Q => ∃ i, xs = [.int i] ∧ Q (.int (if i < 0 then -i else i)) H
def rMin2 : List V → Hp → VK → Prop := fun xs H Q => ∃ i j, xs = [.int i, .int j] ∧ Q (.int (if j < i then j else i)) H
def rMax2 : List V → Hp → VK → Prop := fun xs H Q => ∃ i j, xs = [.int i, .int j] ∧ Q (.int (if j > i then j else i)) H
def rLenS (K : PySem.W.Frag) : List V → Hp → VK → Prop := fun xs H Q => ∃ p ys, xs = [.ref p] ∧ (SqL K H p ys ∨ SqT K H p ys) ∧ Q (.int ys.length) H
def rLenD : List V → Hp → VK → Prop := fun xs H Q => ∃ a kvs, xs = [V.ref a] ∧ H a = some (.dK kvs) ∧ Q (.int kvs.length) H
def rLenStr : List V → Hp → VK → Prop := fun xs H Q => ∃ z : Str, xs = [.str z] ∧ z.length ≤ sizeLine ∧ Q (.int z.length) H
def rInt1 : List V → Hp → VK → Prop := fun xs H Q => (∃ i, xs = [.int i] ∧ Q (.int i) H) ∨ ∃ k, xs = [.bl k] ∧ Q (.int (if k then 1 else 0)) H
def rListOf (K : PySem.W.Frag) : List V → Hp → VK → Prop := fun xs H Q => ∃ p ys, xs = [.ref p] ∧ (SqL K H p ys ∨ SqT K H p ys) ∧ ∀ l, H l = none → Q (.ref l) (upd H l (.lst ys))
theorem cb_abs {X : Cx} : CallR X (.builtin "abs") rAbs := call_abs
theorem cb_min2 {X : Cx} (hc : X.calm = true) : CallR X (.builtin "min") rMin2 := call_min2 hc
theorem cb_max2 {X : Cx} (hc : X.calm = true) : CallR X (.builtin "max") rMax2 := call_max2 hc
theorem cb_len {X : Cx} : CallR X (.builtin "len") (rLenS X.K) := call_len_seq
theorem cb_lenD {X : Cx} : CallR X (.builtin "len") rLenD := call_lenD
theorem cb_lenStr {X : Cx} : CallR X (.builtin "len") rLenStr := call_len_str
theorem cb_int {X : Cx} : CallR X (.type "int") rInt1 := call_int1
theorem cb_list {X : Cx} : CallR X (.type "list") (rListOf X.K) := call_list_of
theorem x_abs {i : Int} (h : Q (.int (i.natAbs : Int)) H) : rAbs [.int i] H Q :=
  ⟨i, rfl, by
    have e : (if i < 0 then -i else i) = (i.natAbs : Int) := by split <;> omega
    rw [e]; exact h⟩
theorem x_min2 {i j : Int} (h : Q (.int (min i j)) H) : rMin2 [.int i, .int j] H Q :=
  ⟨i, j, rfl, by
    have e : (if j < i then j else i) = min i j := by split <;> omega
    rw [e]; exact h⟩
theorem x_max2 {i j : Int} (h : Q (.int (max i j)) H) : rMax2 [.int i, .int j] H Q :=
  ⟨i, j, rfl, by
    have e : (if j > i then j else i) = max i j := by split <;> omega
    rw [e]; exact h⟩
theorem x_lenL {p : Addr} {ys : List V} (hS : SqL K H p ys) (h : Q (.int ys.length) H) : rLenS K [.ref p] H Q := ⟨p, ys, rfl, .inl hS, h⟩
theorem x_lenT {p : Addr} {ys : List V} (hS : SqT K H p ys) (h : Q (.int ys.length) H) : rLenS K [.ref p] H Q := ⟨p, ys, rfl, .inr hS, h⟩
theorem x_lenD {p : Addr} {kvs : List (Key × V)} (hS : H p = some (.dK kvs)) (h : Q (.int kvs.length) H) : rLenD [.ref p] H Q := ⟨p, kvs, rfl, hS, h⟩
theorem x_intI {i : Int} (h : Q (.int i) H) : rInt1 [.int i] H Q := .inl ⟨i, rfl, h⟩
theorem x_intB {b : Bool} (h : Q (.int (if b then 1 else 0)) H) : rInt1 [.bl b] H Q := .inr ⟨b, rfl, h⟩
theorem x_listL {p : Addr} {ys : List V} (hS : SqL K H p ys) (h : ∀ l, H l = none → Q (.ref l) (upd H l (.lst ys))) : rListOf K [.ref p] H Q := ⟨p, ys, rfl, .inl hS, h⟩
theorem x_sum {a : Addr} {ns : List Int} (hS : SqL K H a (ns.map V.int)) (h : Q (.int ns.sum) H) : rSum K [.ref a] H Q := ⟨a, ns, rfl, hS, h⟩
/-- isinstance of plain values, against built-in types -/
theorem x_isi {c : V} {t u : Value} {b : Bool} (k : ClsV c u) (ty : TyX K H x t) (e : PySem.W.kitOne K t u = some b) (h : Q (.bl b) H) : rIsi K [x, c] H Q := ⟨x, c, t, u, b, rfl, k, ty, e, h⟩
theorem x_isG {vs : List V} (h : rIsi K vs H Q) : rIsi K vs H Q := h
theorem x_isI_int {i : Int} (h : Q (.bl true) H) : rIsi K [.int i, .ty "int"] H Q := x_isi (.ty "int") (.base (.int i)) (kit_ty (by decide +kernel)) h
theorem x_isI_bool {i : Int} (h : Q (.bl false) H) : rIsi K [.int i, .ty "bool"] H Q := x_isi (.ty "bool") (.base (.int i)) (kit_ty (by decide +kernel)) h
theorem x_isI_str {i : Int} (h : Q (.bl false) H) : rIsi K [.int i, .ty "str"] H Q := x_isi (.ty "str") (.base (.int i)) (kit_ty (by decide +kernel)) h
theorem x_isB_int {c : Bool} (h : Q (.bl true) H) : rIsi K [.bl c, .ty "int"] H Q := x_isi (.ty "int") (.base (.bl c)) (kit_ty (by decide +kernel)) h
theorem x_isB_bool {c : Bool} (h : Q (.bl true) H) : rIsi K [.bl c, .ty "bool"] H Q := x_isi (.ty "bool") (.base (.bl c)) (kit_ty (by decide +kernel)) h
theorem x_isB_str {c : Bool} (h : Q (.bl false) H) : rIsi K [.bl c, .ty "str"] H Q := x_isi (.ty "str") (.base (.bl c)) (kit_ty (by decide +kernel)) h
theorem x_isS_int {z : Str} (h : Q (.bl false) H) : rIsi K [.str z, .ty "int"] H Q := x_isi (.ty "int") (.base (.str z)) (kit_ty (by decide +kernel)) h
theorem x_isS_bool {z : Str} (h : Q (.bl false) H) : rIsi K [.str z, .ty "bool"] H Q := x_isi (.ty "bool") (.base (.str z)) (kit_ty (by decide +kernel)) h
theorem x_isS_str {z : Str} (h : Q (.bl true) H) : rIsi K [.str z, .ty "str"] H Q := x_isi (.ty "str") (.base (.str z)) (kit_ty (by decide +kernel)) h
theorem x_isN_int  (h : Q (.bl false) H) : rIsi K [.non, .ty "int"] H Q := x_isi (.ty "int") (.base .non) (kit_ty (by decide +kernel)) h
theorem x_isN_bool  (h : Q (.bl false) H) : rIsi K [.non, .ty "bool"] H Q := x_isi (.ty "bool") (.base .non) (kit_ty (by decide +kernel)) h
theorem x_isN_str  (h : Q (.bl false) H) : rIsi K [.non, .ty "str"] H Q := x_isi (.ty "str") (.base .non) (kit_ty (by decide +kernel)) h
theorem x_isL_int {a : Addr} {xs : List V} (ha : H a = some (.lst xs)) (h : Q (.bl false) H) : rIsi K [.ref a, .ty "int"] H Q := x_isi (.ty "int") (.base (.lst ha)) (kit_ty (by decide +kernel)) h
theorem x_isL_list {a : Addr} {xs : List V} (ha : H a = some (.lst xs)) (h : Q (.bl true) H) : rIsi K [.ref a, .ty "list"] H Q := x_isi (.ty "list") (.base (.lst ha)) (kit_ty (by decide +kernel)) h
theorem x_isL_tuple {a : Addr} {xs : List V} (ha : H a = some (.lst xs)) (h : Q (.bl false) H) : rIsi K [.ref a, .ty "tuple"] H Q := x_isi (.ty "tuple") (.base (.lst ha)) (kit_ty (by decide +kernel)) h
theorem x_isT_int {a : Addr} {xs : List V} (ha : H a = some (.tup xs)) (h : Q (.bl false) H) : rIsi K [.ref a, .ty "int"] H Q := x_isi (.ty "int") (.base (.tup ha)) (kit_ty (by decide +kernel)) h
theorem x_isT_list {a : Addr} {xs : List V} (ha : H a = some (.tup xs)) (h : Q (.bl false) H) : rIsi K [.ref a, .ty "list"] H Q := x_isi (.ty "list") (.base (.tup ha)) (kit_ty (by decide +kernel)) h
theorem x_isT_tuple {a : Addr} {xs : List V} (ha : H a = some (.tup xs)) (h : Q (.bl true) H) : rIsi K [.ref a, .ty "tuple"] H Q := x_isi (.ty "tuple") (.base (.tup ha)) (kit_ty (by decide +kernel)) h
theorem x_isD_int {a : Addr} {kvs : List (Key × V)} (ha : H a = some (.dK kvs)) (h : Q (.bl false) H) : rIsi K [.ref a, .ty "int"] H Q := x_isi (.ty "int") (.base (.dK ha)) (kit_ty (by decide +kernel)) h
theorem x_isD_list {a : Addr} {kvs : List (Key × V)} (ha : H a = some (.dK kvs)) (h : Q (.bl false) H) : rIsi K [.ref a, .ty "list"] H Q := x_isi (.ty "list") (.base (.dK ha)) (kit_ty (by decide +kernel)) h
theorem x_isD_tuple {a : Addr} {kvs : List (Key × V)} (ha : H a = some (.dK kvs)) (h : Q (.bl false) H) : rIsi K [.ref a, .ty "tuple"] H Q := x_isi (.ty "tuple") (.base (.dK ha)) (kit_ty (by decide +kernel)) h

/-! heaps that grow -/
/-- no table of code objects (these grow where a def is made within a def) -/
def NT : HO → Prop | .tbl _ => False | _ => True
/-- no table, nothing told by its object -/
def NX : HO → Prop | .tbl _ => False | .ext _ => False | _ => True
theorem NX.nt {o : HO} (h : NX o) : NT o := by cases o <;> first | trivial | exact h
/-- all but what S names stays; tables stay tables; nothing is lost -/
structure Fr (S : Addr → Prop) (H H' : Hp) : Prop where
  keep : ∀ a o, H a = some o → NT o → ¬ S a → H' a = some o
  tab : ∀ P, NdefX.TabN H P nmAll → NdefX.TabN H' P nmAll
  back : ∀ a, H' a = none → H a = none
abbrev Ex (H H' : Hp) : Prop := Fr (fun _ => False) H H'
theorem atI_hd {x : V} {r : List V} : atI (x :: r) 0 = some x := atI_nat (xs := x :: r) (j := 0) rfl
theorem at_new {H : Hp} {p a : Addr} {o u : HO} (h : H p = none) (k : H a = some u) : upd H p o a = some u := by rw [upd_ne (ne_of_none k h)]; exact k
theorem at_upd {H : Hp} {p a : Addr} {o u v : HO} (h : H p = some v) (k : H a = some u) (d : v ≠ u) : upd H p o a = some u := by rw [upd_ne (ne_of k h (Ne.symm d))]; exact k
theorem Ex.at {H H' : Hp} {a : Addr} {o : HO} (e : Ex H H') (h : H a = some o) (n : NT o := by trivial) : H' a = some o := e.keep a o h n id
theorem Fr.at {S : Addr → Prop} {H H' : Hp} {a : Addr} {o : HO} (e : Fr S H H') (h : H a = some o) (hs : ¬ S a) (n : NT o := by trivial) : H' a = some o := e.keep a o h n hs
theorem Fr.refl {S : Addr → Prop} {H : Hp} : Fr S H H := ⟨fun _ _ h _ _ => h, fun _ h => h, fun _ h => h⟩
theorem Ex.refl {H : Hp} : Ex H H := Fr.refl
theorem Ex.trans {H H1 H2 : Hp} (a : Ex H H1) (b : Ex H1 H2) : Ex H H2 := ⟨fun x o h n _ => b.at (a.at h n) n, fun P h => b.tab P (a.tab P h), fun x h => a.back x (b.back x h)⟩
theorem Fr.trans {S : Addr → Prop} {H H1 H2 : Hp} (a : Fr S H H1) (b : Fr S H1 H2) : Fr S H H2 := ⟨fun x o h n s => b.keep x o (a.keep x o h n s) n s, fun P h => b.tab P (a.tab P h), fun x h => a.back x (b.back x h)⟩
theorem Fr.mono {S S' : Addr → Prop} {H H1 : Hp} (a : Fr S H H1) (h : ∀ x, S x → S' x) : Fr S' H H1 := ⟨fun x o e n s => a.keep x o e n fun z => s (h x z), a.tab, a.back⟩
theorem Ex.fr {S : Addr → Prop} {H H1 : Hp} (a : Ex H H1) : Fr S H H1 := Fr.mono a fun _ z => z.elim
/-- of what S names, all is newer than H -/
theorem Fr.ex {S : Addr → Prop} {H H0 H1 : Hp} (a : Fr S H H1) (e : Ex H0 H) (h : ∀ x, S x → H0 x = none) : Ex H0 H1 :=
  ⟨fun x o q n _ => a.keep x o (e.at q n) n fun z => (by rw [h x z] at q; cases q), fun P q => a.tab P (e.tab P q), fun x q => e.back x (a.back x q)⟩
theorem upd_back {H : Hp} {p x : Addr} {o : HO} (h : upd H p o x = none) : H x = none := by
  unfold upd at h
  split at h
  · cases h
  · exact h
theorem Ex.new {H : Hp} {p : Addr} {o : HO} (h : H p = none) : Ex H (upd H p o) :=
  ⟨fun a u e _ _ => by rw [upd_ne (ne_of_none e h)]; exact e, fun P t => t.ext fun b u e => by rw [upd_ne (ne_of_none e h)]; exact e, fun _ z => upd_back z⟩
theorem Ex.newT {H H1 : Hp} {p : Addr} {o : HO} (a : Ex H H1) (h : H1 p = none) : Ex H (upd H1 p o) := a.trans (Ex.new h)
/-- one object is changed -/
theorem Fr.upd1 {H : Hp} {p : Addr} {o u : HO} (h : H p = some u) (hu : NX u := by trivial) : Fr (fun a => a = p) H (upd H p o) :=
  ⟨fun a v e _ s => by rw [upd_ne s]; exact e, fun P ⟨ps, h1, h2, h3⟩ => by
    have nP : P ≠ p := fun z => by rw [z, h] at h1; cases h1; exact hu
    refine ⟨ps, by rw [upd_ne nP]; exact h1, h2, fun pos cv hc => ?_⟩
    obtain ⟨c, e1, e2⟩ := h3 pos cv hc
    have nc : c ≠ p := fun z => by
      rw [z, h] at e2
      have e2 := Option.some.inj e2
      rw [e2] at hu
      exact hu
    exact ⟨c, e1, by rw [upd_ne nc]; exact e2⟩, fun _ z => upd_back z⟩
/-- an object that H does not know may change -/
theorem Ex.mut {H H' : Hp} {p : Addr} {o u : HO} (e : Ex H H') (h : H p = none) (h' : H' p = some u) (hu : NX u := by trivial) : Ex H (upd H' p o) :=
  (Fr.upd1 h' hu).ex e fun x z => by rw [z]; exact h
theorem Ex.ls {H H' : Hp} {a : Addr} {xs : List V} (e : Ex H H') (h : SqL K H a xs) : SqL K H' a xs := by
  rcases h with (h | ⟨o, h⟩) | h
  · exact .inl (.inl (e.at h))
  · exact .inl (.inr ⟨o, e.at h⟩)
  · exact .inr h
theorem Ex.tu {H H' : Hp} {a : Addr} {xs : List V} (e : Ex H H') (h : SqT K H a xs) : SqT K H' a xs := by
  rcases h with (h | ⟨o, h⟩) | h
  · exact .inl (.inl (e.at h))
  · exact .inl (.inr ⟨o, e.at h⟩)
  · exact .inr h

/-! loops -/
def ForW (g : TG) (tb : TS) (D : Ends) (J : It) (σ : L2.St) (H : Hp) : Prop := ∃ W : Nat → Nat → L2.St → Hp → Prop, (∃ m, W 0 m σ H) ∧ ∀ i m σ H, W i m σ H →
  (J.stop i H ∧ D.nx σ H) ∨ (J.go i H ∧ ∃ N : L2.St → Hp → Prop, (∀ σ' H', N σ' H' → ∃ m', m' < m ∧ W (i + 1) m' σ' H') ∧ ∀ x H', J.yld i H x H' → g x σ H' fun σ2 H2 => tb { D with nx := N, ct := N, bk := D.nx } σ2 H2)
theorem x_for {wi : TI} {g : TG} {tb : TS} (h : wi σ H fun J H1 => ForW g tb D J σ H1) : tFor wi g tb D σ H := h
theorem ForW.by {J : It} {n : Nat} {G : Hp → Prop} {Y : Nat → Hp → V → Hp → Prop} (w : Walk J n G Y) {g : TG} {tb : TS} (Pv : Nat → L2.St → Hp → Prop) (h0 : Pv 0 σ H) (hG : ∀ i σ H, i ≤ n → Pv i σ H → G H)
    (hs : ∀ i x σ H H', i < n → Pv i σ H → Y i H x H' → g x σ H' fun σ2 H2 => tb { D with nx := Pv (i + 1), ct := Pv (i + 1), bk := D.nx } σ2 H2) (hd : ∀ σ H, Pv n σ H → D.nx σ H) : ForW g tb D J σ H :=
  for_it w Pv h0 hG hs hd
def Rg1 (R : It → Hp → Prop) : List V → Hp → Prop := fun vs H1 => ∃ j : Int, vs = [.int j] ∧ -(2 ^ 62) ≤ j ∧ j < 2 ^ 62 ∧ R (Itr 0 j.toNat) H1
def Rg2 (R : It → Hp → Prop) : List V → Hp → Prop := fun vs H1 => ∃ i j : Int, vs = [.int i, .int j] ∧ (-(2 ^ 62) ≤ i ∧ i < 2 ^ 62 ∧ -(2 ^ 62) ≤ j ∧ j < 2 ^ 62) ∧ R (Itr i (j - i).toNat) H1
def RiL (K : PySem.W.Frag) (R : It → Hp → Prop) : VK := fun x H1 => ∃ a, x = .ref a ∧ (∃ xs, SqL K H1 a xs) ∧ R (Itl K a) H1
def RiT (K : PySem.W.Frag) (R : It → Hp → Prop) : VK := fun x H1 => ∃ a, x = .ref a ∧ (∃ xs, SqT K H1 a xs) ∧ R (Itt K a) H1
def RiE (K : PySem.W.Frag) (R : It → Hp → Prop) : List V → Hp → Prop := fun vs H1 => ∃ a xs, vs = [.ref a] ∧ SqL K H1 a xs ∧ R (Ite K a) H1
def RiZ (K : PySem.W.Frag) (R : It → Hp → Prop) : List V → Hp → Prop := fun vs H1 => ∃ a b xs ys, vs = [.ref a, .ref b] ∧ SqL K H1 a xs ∧ SqL K H1 b ys ∧ R (Itz K a b) H1
theorem x_rng1 {ts : TA} {R : It → Hp → Prop} (h : ts σ H (Rg1 R)) : iRng1 ts σ H R := h
theorem x_rng2 {ts : TA} {R : It → Hp → Prop} (h : ts σ H (Rg2 R)) : iRng2 ts σ H R := h
theorem x_rgN {m : Nat} {R : It → Hp → Prop} (hm : (m : Int) < 2 ^ 62) (h : R (Itr 0 m) H) : Rg1 R [V.int (m : Int)] H :=
  ⟨m, rfl, by omega, hm, by rw [Int.toNat_natCast]; exact h⟩
theorem walk_rgN {n : Nat} : Walk (Itr 0 n) n (fun _ => True) (YFn fun i => .int i) :=
  ⟨fun _ _ hi _ => hi, fun _ _ => Nat.le_refl _, fun _ _ _ _ _ _ y => ⟨y.1, by rw [y.2]; simp⟩⟩
theorem x_iList {R : It → Hp → Prop} (h : ta σ H (RiL K R)) : iList K ta σ H R := h
theorem x_iTup {R : It → Hp → Prop} (h : ta σ H (RiT K R)) : iTup K ta σ H R := h
theorem x_itL {a : Addr} {xs : List V} {R : It → Hp → Prop} (hS : SqL K H a xs) (h : R (Itl K a) H) : RiL K R (.ref a) H := ⟨a, rfl, ⟨xs, hS⟩, h⟩
theorem x_itT {a : Addr} {xs : List V} {R : It → Hp → Prop} (hS : SqT K H a xs) (h : R (Itt K a) H) : RiT K R (.ref a) H := ⟨a, rfl, ⟨xs, hS⟩, h⟩
theorem x_iEnum {ts : TA} {R : It → Hp → Prop} (h : ts σ H (RiE K R)) : iEnum K ts σ H R := h
theorem x_enL {a : Addr} {xs : List V} {R : It → Hp → Prop} (hS : SqL K H a xs) (h : R (Ite K a) H) : RiE K R [.ref a] H := ⟨a, xs, rfl, hS, h⟩
theorem x_iZip {ts : TA} {R : It → Hp → Prop} (h : ts σ H (RiZ K R)) : iZip K ts σ H R := h
theorem x_ziL {a b : Addr} {xs ys : List V} {R : It → Hp → Prop} (hS : SqL K H a xs) (hS2 : SqL K H b ys) (h : R (Itz K a b) H) : RiZ K R [.ref a, .ref b] H := ⟨a, b, xs, ys, rfl, hS, hS2, h⟩
theorem x_gTup {n : Nat} {gs : TGs} {R : L2.St → Hp → Prop} {a : Addr} {xs : List V} (hT : SqT K H a xs) (hl : xs.length = n) (h : gs xs σ H R) : gTup K n gs (.ref a) σ H R := ⟨a, xs, rfl, hT, hl, h⟩
theorem x_gCons {g : TG} {gs : TGs} {R : L2.St → Hp → Prop} {xs : List V} (h : g v σ H fun σ' H' => gs xs σ' H' R) : gCons g gs (v :: xs) σ H R := ⟨v, xs, rfl, h⟩
theorem x_gNil {R : L2.St → Hp → Prop} (h : R σ H) : gNil [] σ H R := ⟨rfl, h⟩
/-- a while's turn, or its end -/
def WhS (W : Nat → L2.St → Hp → Prop) (m : Nat) (t : TS) (D : Ends) (b : Bool) (σ : L2.St) (H : Hp) : Prop :=
  if b = true then ∃ N : L2.St → Hp → Prop, (∀ σ' H', N σ' H' → ∃ m', m' < m ∧ W m' σ' H') ∧ t { D with nx := N, ct := N, bk := D.nx } σ H else D.nx σ H
def Less (W : Nat → L2.St → Hp → Prop) (m : Nat) (σ' : L2.St) (H' : Hp) : Prop := ∃ m', m' < m ∧ W m' σ' H'
theorem x_while {W : Nat → L2.St → Hp → Prop} {m : Nat} (h0 : W m σ H) (hs : ∀ m σ H, W m σ H → c σ H fun b H1 => WhS W m t D b σ H1) : tWhile c t D σ H :=
  ⟨W, ⟨m, h0⟩, hs⟩
theorem x_whT {W : Nat → L2.St → Hp → Prop} {m : Nat} (h : t { D with nx := Less W m, ct := Less W m, bk := D.nx } σ H) : WhS W m t D true σ H := by
  unfold WhS; rw [if_pos rfl]; exact ⟨_, fun _ _ h => h, h⟩
theorem x_whF {W : Nat → L2.St → Hp → Prop} {m : Nat} (h : D.nx σ H) : WhS W m t D false σ H := by
  unfold WhS; rw [if_neg Bool.false_ne_true]; exact h
theorem x_whD {W : Nat → L2.St → Hp → Prop} {m : Nat} {p : Prop} [Decidable p] (h1 : p → t { D with nx := Less W m, ct := Less W m, bk := D.nx } σ H) (h2 : ¬ p → D.nx σ H) : WhS W m t D (decide p) σ H := by
  by_cases h : p
  · rw [decide_eq_true h]; exact x_whT (h1 h)
  · rw [decide_eq_false h]; exact x_whF (h2 h)
def RAug (f : Int → Int → Int) (i : Nat) (x : V) (R : L2.St → Hp → Prop) (σ : L2.St) : VK := fun y H => ipI f x y H fun z H2 => R (σ.set i (some z)) H2
theorem x_augI {f : Int → Int → Int} {i : Nat} {k j : Int} {R : L2.St → Hp → Prop} (h : R (σ.set i (some (.int (f k j)))) H) : RAug f i (.int k) R σ (.int j) H := ⟨k, j, rfl, rfl, h⟩
theorem x_aug2 {i : Nat} {f : Int → Int → Int} (e : σ[i]? = some (some x)) (h : te σ H (RAug f i x D.nx σ)) : tAug i te (ipI f) D σ H := ⟨x, e, h⟩
/-- what follows a statement is shown once, from Mid -/
theorem x_cut (Mid : L2.St → Hp → Prop) (h : t { D with nx := Mid } σ H) (k : ∀ σ' H', Mid σ' H' → u D σ' H') : C8.tCut t u D σ H := ⟨Mid, h, k⟩
theorem x_aug {i : Nat} {ti : TIp} (e : σ[i]? = some (some x)) (h : te σ H fun y H1 => ti x y H1 fun z H2 => D.nx (σ.set i (some z)) H2) : tAug i te ti D σ H := ⟨x, e, h⟩

/-! methods of lists -/
theorem x_bm {T : String} {r : V → List V → Hp → VK → Prop} {ts : TA} (h : ta σ H fun x H1 => tyV K T x H1 ∧ ts σ H1 fun xs H2 => r x xs H2 Q) : tBM K T r ta ts σ H Q := h
theorem x_bm0 {T : String} {r : V → List V → Hp → VK → Prop} (h : ta σ H fun x H1 => tyV K T x H1 ∧ r x [] H1 Q) : tBM0 K T r ta σ H Q := h
theorem x_tyL {p : Addr} {xs : List V} {R : Prop} (hS : SqL K H p xs) (h : R) : tyV K "list" (.ref p) H ∧ R := ⟨.inl ⟨rfl, xs, hS⟩, h⟩
theorem x_append {l : Addr} {xs : List V} (hl : H l = some (.lst xs)) (hz : xs.length < sizeLine) (h : Q .non (upd H l (.lst (xs ++ [y])))) : rAppend (.ref l) [y] H Q := ⟨l, xs, y, rfl, rfl, hl, hz, h⟩

/-! operators of our own -/
theorem opr_imp {X : Cx} {f : Value → Value → Sem Value} {r r' : R2} (h : OpR X f r) (hi : ∀ x y H Q, r' x y H Q → r x y H Q) : OpR X f r' :=
  fun pins s σ H x y v u Q I rx ry hw => h pins s σ H x y v u Q I rx ry (hi x y H Q hw)
def rShl1 : R2 := fun x y H Q => ∃ k : Nat, x = .int 1 ∧ y = .int (k : Int) ∧ k ≤ 134217727 ∧ Q (.int ((2 ^ k : Nat) : Int)) H
theorem op_shl1 {X : Cx} : OpR X (binaryOp .LShift) rShl1 := opr_imp op_oneShl fun x y H Q ⟨k, h1, h2, h3, q⟩ => ⟨k, h1, h2, h3, by
  have e : ((2 ^ k : Nat) : Int) = 2 ^ k := by simp
  rw [← e]; exact q⟩
theorem x_shl1 {j : Int} {k : Nat} (hj : j = k) (hk : k ≤ 134217727) (h : Q (.int ((2 ^ k : Nat) : Int)) H) : rShl1 (.int 1) (.int j) H Q := ⟨k, rfl, by rw [hj], hk, h⟩
def rShrN : R2 := fun x y H Q => ∃ n k : Nat, x = .int n ∧ y = .int k ∧ Q (.int ((n / 2 ^ k : Nat) : Int)) H
def rShlN : R2 := fun x y H Q => ∃ n k : Nat, x = .int n ∧ y = .int k ∧ n < 2 ^ 64 ∧ k ≤ 1000000 ∧ Q (.int ((n * 2 ^ k : Nat) : Int)) H
def rXorN : R2 := fun x y H Q => ∃ n k : Nat, x = .int n ∧ y = .int k ∧ Q (.int ((n ^^^ k : Nat) : Int)) H
theorem op_shrN' {X : Cx} : OpR X (binaryOp .RShift) rShrN := opr_imp op_shr fun x y H Q ⟨n, k, h1, h2, q⟩ => ⟨n, k, h1, h2, by omega, by
  have e : ((n / 2 ^ k : Nat) : Int) = (n : Int) / 2 ^ (k : Int).toNat := by simp
  show Q (.int ((n : Int) / 2 ^ (k : Int).toNat)) H
  rw [← e]; exact q⟩
theorem op_shlN' {X : Cx} : OpR X (binaryOp .LShift) rShlN := opr_imp op_shl fun x y H Q ⟨n, k, h1, h2, h3, h4, q⟩ => ⟨n, k, h1, h2, ⟨by omega, by omega, by omega⟩, by
  have e : ((n * 2 ^ k : Nat) : Int) = (n : Int) * 2 ^ (k : Int).toNat := by simp
  show Q (.int ((n : Int) * 2 ^ (k : Int).toNat)) H
  rw [← e]; exact q⟩
theorem op_xorN {X : Cx} : OpR X (binaryOp .BitXor) rXorN := opr_imp op_xor fun x y H Q ⟨n, k, h1, h2, q⟩ => ⟨n, k, h1, h2, by
  show Q (.int (Builtin.bitXor n k)) H
  rw [Bits.bitXor_pp (Int.natCast_nonneg _) (Int.natCast_nonneg _)]; exact q⟩
theorem x_shrN {i j : Int} {n k : Nat} (hi : i = n) (hj : j = k) (h : Q (.int ((n / 2 ^ k : Nat) : Int)) H) : rShrN (.int i) (.int j) H Q := ⟨n, k, by rw [hi], by rw [hj], h⟩
theorem x_shlN {i j : Int} {n k : Nat} (hi : i = n) (hj : j = k) (hn : n < 2 ^ 64) (hk : k ≤ 1000000) (h : Q (.int ((n * 2 ^ k : Nat) : Int)) H) : rShlN (.int i) (.int j) H Q := ⟨n, k, by rw [hi], by rw [hj], hn, hk, h⟩
theorem x_xorN {i j : Int} {n k : Nat} (hi : i = n) (hj : j = k) (h : Q (.int ((n ^^^ k : Nat) : Int)) H) : rXorN (.int i) (.int j) H Q := ⟨n, k, by rw [hi], by rw [hj], h⟩
def rBits (Q : VK) : VK := fun x H1 => ∃ i, x = .int i ∧ Q (.int (Builtin.Int.intBits i : Nat)) H1
theorem e_bits : tBits ta σ H Q = ta σ H (rBits Q) := rfl
theorem x_bits {n : Nat} (h : Q (.int ((if n = 0 then 0 else n.log2 + 1 : Nat) : Int)) H) : rBits Q (.int (n : Int)) H := ⟨n, rfl, by
  have e : Builtin.Int.intBits (n : Int) = if n = 0 then 0 else n.log2 + 1 := by unfold Builtin.Int.intBits; simp
  rw [e]; exact h⟩
theorem two_pos {k : Nat} : (0 : Int) < ((2 ^ k : Nat) : Int) := by
  have := Nat.two_pow_pos k
  omega
theorem mod_two_lt {z : Int} {k : Nat} : ∃ r : Nat, r < 2 ^ k ∧ z % ((2 ^ k : Nat) : Int) = r := by
  have h0 := two_pos (k := k)
  have h1 := Int.emod_nonneg z (Int.ne_of_gt h0)
  have h2 := Int.emod_lt_of_pos z h0
  exact ⟨(z % ((2 ^ k : Nat) : Int)).toNat, by omega, by omega⟩
theorem div_two_cast {k : Nat} (z : Int) : z / 2 ^ (k : Int).toNat = z / ((2 ^ k : Nat) : Int) := by simp

/-! within a comprehension: the constants told -/
section
variable {X : Cx} {K : PySem.W.Frag}
theorem op_eqDK (hu : X.A.units + 64 < cLine) (h : X.K = K) : OpR X (compareOp .Eq) (rEqD K) := h ▸ op_eqD hu
theorem op_neDK (hu : X.A.units + 64 < cLine) (h : X.K = K) : OpR X (compareOp .NotEq) (rNeD K) := h ▸ op_neD hu
theorem op_inK (h : X.K = K) : OpR X (compareOp .In) (rIn K false) := h ▸ op_in_seq
theorem op_notInK (h : X.K = K) : OpR X (compareOp .NotIn) (rIn K true) := h ▸ op_notIn_seq
theorem sl_listK (h : X.K = K) : SlR X (rSlL K) := h ▸ sl_list
theorem ix_listK (h : X.K = K) : IxR X (rIxL K) := h ▸ ix_list
theorem ix_tupK (h : X.K = K) : IxR X (rIxT K) := h ▸ ix_tup
theorem cb_lenK (h : X.K = K) : CallR X (.builtin "len") (rLenS K) := h ▸ cb_len
theorem call_isiK (h : X.K = K) : CallR X (.builtin "isinstance") (rIsi K) := h ▸ call_isi
end
/-! the definitional ones as equations, for dsimp -/
section
variable {K : PySem.W.Frag} {σ : L2.St} {H : Hp} {ta tb te tc : TE} {t u : TS} {c c' : TT} {D : Ends} {Q : VK} {x y v : V} {o : Option V}
theorem e_seq : tSeq t u D σ H = t { D with nx := u D } σ H := rfl
theorem e_next : tNext D σ H = D.nx σ H := rfl
theorem e_asg {g : TG} : tAsg te g D σ H = te σ H fun x H1 => g x σ H1 D.nx := rfl
theorem e_name {i : Nat} {R : L2.St → Hp → Prop} : gName i v σ H R = R (σ.set i (some v)) H := rfl
theorem e_ret : tRet te D σ H = te σ H D.rt := rfl
theorem e_retN : tRetN D σ H = D.rt .non H := rfl
theorem e_drop : tDrop te D σ H = te σ H fun _ H1 => D.nx σ H1 := rfl
theorem e_ifS : tIfS c t u D σ H = c σ H fun b H1 => IfS b t u D σ H1 := rfl
theorem e_IT : IfS true t u D σ H = t D σ H := rfl
theorem e_IF : IfS false t u D σ H = u D σ H := rfl
theorem e_INT : IfS (!true) t u D σ H = u D σ H := rfl
theorem e_INF : IfS (!false) t u D σ H = t D σ H := rfl
theorem e_if {tt : TT} : tIf tt ta tb σ H Q = tt σ H fun b H1 => if b = true then ta σ H1 Q else tb σ H1 Q := rfl
theorem e_varS {i : Nat} : tVar (i + 1) (o :: σ) H Q = tVar i σ H Q := rfl
theorem e_c : tC v σ H Q = Q v H := rfl
theorem e_op {r : R2} : tOp r ta tb σ H Q = ta σ H fun x H1 => tb σ H1 fun y H2 => r x y H2 Q := rfl
theorem e_un {r : V → Hp → VK → Prop} : tUn r ta σ H Q = ta σ H fun x H1 => r x H1 Q := rfl
theorem e_cb {r : List V → Hp → VK → Prop} {ts : TA} : tCB r ts σ H Q = ts σ H fun vs H1 => r vs H1 Q := rfl
theorem e_nil {R : List V → Hp → Prop} : tNil σ H R = R [] H := rfl
theorem e_cons {ts : TA} {R : List V → Hp → Prop} : tCons ta ts σ H R = ta σ H fun x H1 => ts σ H1 fun xs H2 => R (x :: xs) H2 := rfl
theorem e_test {R : Bool → Hp → Prop} : tTest te σ H R = te σ H fun x H' => ∃ k, x = .bl k ∧ R k H' := rfl
theorem e_B {R : Bool → Hp → Prop} : tB te σ H R = te σ H fun x H' => ∃ k, x = .bl k ∧ R k H' := rfl
theorem e_and {R : Bool → Hp → Prop} : tAnd c c' σ H R = c σ H fun b H1 => if b = true then c' σ H1 R else R false H1 := rfl
theorem e_or {R : Bool → Hp → Prop} : tOr c c' σ H R = c σ H fun b H1 => if b = true then R true H1 else c' σ H1 R := rfl
theorem e_not {R : Bool → Hp → Prop} : tNot c σ H R = c σ H fun b H1 => R (!b) H1 := rfl
theorem e_andV : tAndV ta tb σ H Q = ta σ H fun x H1 => ∃ c, x = .bl c ∧ if c = true then tb σ H1 Q else Q (.bl false) H1 := rfl
theorem e_orV : tOrV ta tb σ H Q = ta σ H fun x H1 => ∃ c, x = .bl c ∧ if c = true then Q (.bl true) H1 else tb σ H1 Q := rfl
theorem e_notV : tNotV ta σ H Q = ta σ H fun x H1 => ∃ c, x = .bl c ∧ Q (.bl (!c)) H1 := rfl
theorem e_chain {r r' : R2} : tChain r r' ta tb tc σ H Q = ta σ H fun x H1 => tb σ H1 fun y H2 => r x y H2 fun z H3 => ∃ k, z = .bl k ∧ if k = true then tc σ H3 fun w H4 => r' y w H4 Q else Q (.bl false) H3 := rfl
theorem e_for {wi : TI} {g : TG} {tb : TS} : tFor wi g tb D σ H = wi σ H fun J H1 => ForW g tb D J σ H1 := rfl
theorem e_rng1 {ts : TA} {R : It → Hp → Prop} : iRng1 ts σ H R = ts σ H (Rg1 R) := rfl
theorem e_rng2 {ts : TA} {R : It → Hp → Prop} : iRng2 ts σ H R = ts σ H (Rg2 R) := rfl
theorem e_iList {R : It → Hp → Prop} : iList K ta σ H R = ta σ H (RiL K R) := rfl
theorem e_iTup {R : It → Hp → Prop} : iTup K ta σ H R = ta σ H (RiT K R) := rfl
theorem e_iEnum {ts : TA} {R : It → Hp → Prop} : iEnum K ts σ H R = ts σ H (RiE K R) := rfl
theorem e_iZip {ts : TA} {R : It → Hp → Prop} : iZip K ts σ H R = ts σ H (RiZ K R) := rfl
theorem e_bm {T : String} {r : V → List V → Hp → VK → Prop} {ts : TA} : tBM K T r ta ts σ H Q = ta σ H fun x H1 => tyV K T x H1 ∧ ts σ H1 fun xs H2 => r x xs H2 Q := rfl
theorem e_bm0 {T : String} {r : V → List V → Hp → VK → Prop} : tBM0 K T r ta σ H Q = ta σ H fun x H1 => tyV K T x H1 ∧ r x [] H1 Q := rfl
theorem e_tup {ts : TA} : tTup ts σ H Q = ts σ H fun xs H1 => xs.length ≤ sizeLine ∧ ∀ p, H1 p = none → Q (.ref p) (upd H1 p (.tup xs)) := rfl
theorem e_lst {ts : TA} : tLst ts σ H Q = ts σ H fun xs H1 => xs.length ≤ sizeLine ∧ ∀ p, H1 p = none → Q (.ref p) (upd H1 p (.lst xs)) := rfl
theorem e_calld {sp : Sp} {E : XK} {ds : List V} {ts : TA} : tCall sp ds E ts σ H Q = ts σ H fun vs H1 => sp (vs ++ ds) H1 Q E := rfl
theorem e_T {A B : Prop} : (if true = true then A else B) = A := rfl
theorem e_F {A B : Prop} : (if false = true then A else B) = B := rfl
theorem e_NT {A B : Prop} : (if (!true) = true then A else B) = B := rfl
theorem e_NF {A B : Prop} : (if (!false) = true then A else B) = A := rfl
theorem x_v0 (h : Q v H) : tVar 0 (some v :: σ) H Q := ⟨v, rfl, h⟩
end
/-! pairs that an iterator lays -/
def YPairE (xs ys : Nat → Option V) : Nat → Hp → V → Hp → Prop := fun i H v H' => ∃ T x y, v = .ref T ∧ H T = none ∧ Ex H H' ∧ H' T = some (.tup [x, y]) ∧ xs i = some x ∧ ys i = some y
theorem YPair.e {xs ys : Nat → Option V} {i : Nat} {H : Hp} {v : V} {H' : Hp} (h : YPair xs ys i H v H') : YPairE xs ys i H v H' := by
  obtain ⟨T, x, y, h1, h2, rfl, h4, h5⟩ := h
  exact ⟨T, x, y, h1, h2, Ex.new h2, upd_same, h4, h5⟩
theorem walk_enumE {K : PySem.W.Frag} {a : Addr} {xs : List V} : Walk (Ite K a) xs.length (fun H => SqL K H a xs) (YPairE (fun i => some (.int (i : Nat))) (fun i => xs[i]?)) :=
  walk_enum.mono (fun _ h => h) fun _ _ _ _ _ _ y => YPair.e y
theorem walk_zipE {K : PySem.W.Frag} {a b : Addr} {xs ys : List V} {n : Nat} (hn : n = min xs.length ys.length) : Walk (Itz K a b) n (fun H => SqL K H a xs ∧ SqL K H b ys) (YPairE (fun i => xs[i]?) (fun i => ys[i]?)) :=
  (walk_zip hn).mono (fun _ h => h) fun _ _ _ _ _ _ y => YPair.e y

/-! equality of lists of ints -/
abbrev nV (n : Nat) : V := .int (n : Int)
theorem eqv_ints : ∀ (xs ys : List Int), PyData.eqv (.list (xs.map PyData.int)) (.list (ys.map PyData.int)) = decide (xs = ys)
  | [], [] => rfl
  | [], _ :: _ => rfl
  | _ :: _, [] => rfl
  | x :: xs, y :: ys => by
    have ih := eqv_ints xs ys
    have e : PyData.eqv (.list ((x :: xs).map PyData.int)) (.list ((y :: ys).map PyData.int)) = (decide (x = y) && PyData.eqv (.list (xs.map PyData.int)) (.list (ys.map PyData.int))) := by
      show PyData.eqvAll _ _ = _
      rfl
    rw [e, ih]
    by_cases h : x = y <;> by_cases h2 : xs = ys <;> simp [h, h2]
theorem dpAll_ints {K : PySem.W.Frag} {H : Hp} : ∀ xs : List Int, DpAll K H (xs.map V.int) (xs.map PyData.int)
  | [] => .nil
  | x :: xs => .cons (.int x) (dpAll_ints xs)
theorem shaped_ints (xs : List Int) : SeqAt.shaped (.list (xs.map PyData.int)) = true := by
  induction xs with
  | nil => rfl
  | cons x xs ih =>
    exact ih
theorem eqv_bools : ∀ (xs ys : List Bool), PyData.eqv (.list (xs.map PyData.bool)) (.list (ys.map PyData.bool)) = decide (xs = ys)
  | [], [] => rfl
  | [], _ :: _ => rfl
  | _ :: _, [] => rfl
  | x :: xs, y :: ys => by
    have ih := eqv_bools xs ys
    have e : PyData.eqv (.list ((x :: xs).map PyData.bool)) (.list ((y :: ys).map PyData.bool)) = ((x == y) && PyData.eqv (.list (xs.map PyData.bool)) (.list (ys.map PyData.bool))) := by
      show PyData.eqvAll _ _ = _
      rfl
    rw [e, ih]
    by_cases h : x = y <;> by_cases h2 : xs = ys <;> simp [h, h2]
theorem dpAll_bools {K : PySem.W.Frag} {H : Hp} : ∀ xs : List Bool, DpAll K H (xs.map V.bl) (xs.map PyData.bool)
  | [] => .nil
  | x :: xs => .cons (.bl x) (dpAll_bools xs)
theorem shaped_bools (xs : List Bool) : SeqAt.shaped (.list (xs.map PyData.bool)) = true := by
  induction xs with
  | nil => rfl
  | cons x xs ih => exact ih
theorem x_eqLB {K : PySem.W.Frag} {H : Hp} {Q : VK} {a b : Addr} {xs ys : List Bool} (ha : SqL K H a (xs.map V.bl)) (hb : SqL K H b (ys.map V.bl)) (h : Q (.bl (decide (xs = ys))) H) : rEqD K (.ref a) (.ref b) H Q :=
  ⟨_, _, .lst ha (dpAll_bools xs), .lst hb (dpAll_bools ys), shaped_bools xs, shaped_bools ys, by rw [eqv_bools]; exact h⟩
theorem map_nV (xs : List Nat) : xs.map nV = (xs.map fun n : Nat => (n : Int)).map V.int := by rw [List.map_map]; rfl
theorem nat_inj {xs ys : List Nat} : (xs.map fun n : Nat => (n : Int)) = (ys.map fun n : Nat => (n : Int)) ↔ xs = ys :=
  ⟨fun h => List.map_inj_right (f := fun n : Nat => (n : Int)) (fun a b e => Int.ofNat.inj e) |>.mp h, fun h => by rw [h]⟩
section
variable {K : PySem.W.Frag} {H : Hp} {Q : VK}
theorem x_eqLI {a b : Addr} {xs ys : List Int} (ha : SqL K H a (xs.map V.int)) (hb : SqL K H b (ys.map V.int)) (h : Q (.bl (decide (xs = ys))) H) : rEqD K (.ref a) (.ref b) H Q :=
  ⟨_, _, .lst ha (dpAll_ints xs), .lst hb (dpAll_ints ys), shaped_ints xs, shaped_ints ys, by rw [eqv_ints]; exact h⟩
theorem x_neLI {a b : Addr} {xs ys : List Int} (ha : SqL K H a (xs.map V.int)) (hb : SqL K H b (ys.map V.int)) (h : Q (.bl (!decide (xs = ys))) H) : rNeD K (.ref a) (.ref b) H Q :=
  ⟨_, _, .lst ha (dpAll_ints xs), .lst hb (dpAll_ints ys), shaped_ints xs, shaped_ints ys, by rw [eqv_ints]; exact h⟩
theorem x_eqLN {a b : Addr} {xs ys : List Nat} (ha : SqL K H a (xs.map nV)) (hb : SqL K H b (ys.map nV)) (h : Q (.bl (decide (xs = ys))) H) : rEqD K (.ref a) (.ref b) H Q := by
  rw [map_nV] at ha hb
  refine x_eqLI ha hb ?_
  have e : decide ((xs.map fun n : Nat => (n : Int)) = (ys.map fun n : Nat => (n : Int))) = decide (xs = ys) := decide_eq_decide.mpr nat_inj
  rw [e]; exact h
theorem x_neLN {a b : Addr} {xs ys : List Nat} (ha : SqL K H a (xs.map nV)) (hb : SqL K H b (ys.map nV)) (h : Q (.bl (!decide (xs = ys))) H) : rNeD K (.ref a) (.ref b) H Q := by
  rw [map_nV] at ha hb
  refine x_neLI ha hb ?_
  have e : decide ((xs.map fun n : Nat => (n : Int)) = (ys.map fun n : Nat => (n : Int))) = decide (xs = ys) := decide_eq_decide.mpr nat_inj
  rw [e]; exact h
end

theorem nat_of {H : Hp} {Q : VK} {z : Int} (h : ∀ r : Nat, Q (.int r) H) (hz : 0 ≤ z) : Q (.int z) H := by
  obtain ⟨r, rfl⟩ := Int.eq_ofNat_of_zero_le hz
  exact h r
theorem atI_map {ns : List Int} {j : Nat} (h : j < ns.length) : atI (ns.map V.int) (j : Int) = some (.int ns[j]) := atI_nat (by simp [h])
theorem atI_nV {ns : List Nat} {j : Nat} (h : j < ns.length) : atI (ns.map nV) (j : Int) = some (nV ns[j]) := atI_nat (by simp [h])
theorem atI_neg1' {ns : List Nat} {j : Nat} (h : j < ns.length) : ∃ z, z ∈ ns ∧ atI (ns.map nV) ((j : Int) - 1) = some (nV z) := by
  unfold atI ixN
  by_cases hj : 0 ≤ (j : Int) - 1
  · rw [if_pos hj, if_pos (by simp; omega)]
    have h2 : ((j : Int) - 1).toNat < ns.length := by omega
    exact ⟨ns[((j : Int) - 1).toNat], List.getElem_mem h2, by
      show (ns.map nV)[_]? = _
      rw [List.getElem?_map, List.getElem?_eq_getElem h2]; rfl⟩
  · rw [if_neg hj, if_pos (by simp; omega)]
    have h2 : ((j : Int) - 1 + ((ns.map nV).length : Int)).toNat < ns.length := by simp; omega
    refine ⟨ns[((j : Int) - 1 + ((ns.map nV).length : Int)).toNat], List.getElem_mem h2, ?_⟩
    show (ns.map nV)[_]? = _
    rw [List.getElem?_map, List.getElem?_eq_getElem h2]; rfl
theorem atI_neg1 {ns : List Nat} {j : Nat} (h : j < ns.length) : ∃ z, atI (ns.map nV) ((j : Int) - 1) = some (nV z) := let ⟨z, _, e⟩ := atI_neg1' h; ⟨z, e⟩
/-! comprehensions over a list: one name, one test or none -/
def LcW (g : TG) (tt : TT) (te : TE) (vs : List Nat) (σ : L2.St) (Q : VK) : It → Hp → Prop := fun J H1 => ∀ D, H1 D = none → ∃ W : Nat → Nat → Hp → Prop, (∃ m, W 0 m (upd H1 D (.lst []))) ∧ ∀ i m H, W i m H →
  (J.stop i H ∧ Q (.ref D) H) ∨ (J.go i H ∧ ∃ Nx : Hp → Prop, (∀ H', Nx H' → ∃ m', m' < m ∧ W (i + 1) m' H') ∧ ∀ x H', J.yld i H x H' → g x (wipe σ vs) H' fun σ2 H2 => wipe σ2 vs = wipe σ vs ∧ tt σ2 H2 fun b H3 =>
    if b = true then te σ2 H3 fun y H4 => ∃ acc, H4 D = some (.lst acc) ∧ acc.length < sizeLine ∧ Nx (upd H4 D (.lst (acc ++ [y]))) else Nx H3)
theorem e_lc {wi : TI} {g : TG} {tt : TT} {te : TE} {vs : List Nat} {σ : L2.St} {H : Hp} {Q : VK} : tLc wi g tt te vs σ H Q = wi σ H (LcW g tt te vs σ Q) := rfl
theorem e_wipe0 {σ : L2.St} : wipe σ [] = σ := rfl
theorem e_wipe1 {σ : L2.St} {v : Nat} {vs : List Nat} : wipe σ (v :: vs) = (wipe σ vs).set v none := rfl
theorem e_yes {σ : L2.St} {H : Hp} {R : Bool → Hp → Prop} : tYes σ H R = R true H := rfl
theorem wipe_set1 {σ : L2.St} {i : Nat} {v : Option V} : wipe ((wipe σ [i]).set i v) [i] = wipe σ [i] := by
  show (((σ.set i none).set i v).set i none) = σ.set i none
  rw [List.set_set, List.set_set]
section
variable {K : PySem.W.Frag} {H : Hp} {Q : VK} {σ : L2.St} {tl te : TE} {tt : TT} {k : Nat}
/-- the list stands; test and element are reckoned of each item and change nothing that stood -/
theorem LcW.fmA {α : Type} {emb : α → V} {a : Addr} {xs : List α} (p : α → Bool) (f : α → V) (hS : SqL K H a (xs.map emb)) (hz : xs.length < sizeLine)
    (ht : ∀ x ∈ xs, ∀ H', Ex H H' → ∀ R : Bool → Hp → Prop, (∀ H'', Ex H' H'' → R (p x) H'') → tt ((wipe σ [k]).set k (some (emb x))) H' R)
    (he : ∀ x ∈ xs, p x = true → ∀ H', Ex H H' → ∀ Qe : VK, (∀ H'', Ex H' H'' → Qe (f x) H'') → te ((wipe σ [k]).set k (some (emb x))) H' Qe)
    (hk : ∀ D H', H D = none → Ex H H' → H' D = some (.lst ((xs.filter p).map f)) → Q (.ref D) H') :
    LcW (gName k) tt te [k] σ Q (Itl K a) H := by
  intro D hD
  refine lc_list (K := K) (a := a) (xs := xs.map emb) (Qd := fun H' => Q (.ref D) H') (fun i H' => Ex H H' ∧ H' D = some (.lst (((xs.take i).filter p).map f))) ⟨Ex.new hD, by rw [upd_same]; rfl⟩ (fun i H' _ h => h.1.ls hS) ?_ ?_
  · rintro i y H1 hx ⟨ex, h1⟩
    obtain ⟨x, hxi, rfl⟩ : ∃ x, xs[i]? = some x ∧ y = emb x := by
      rw [List.getElem?_map] at hx
      cases e : xs[i]? with
      | none => rw [e] at hx; cases hx
      | some x => rw [e] at hx; exact ⟨x, rfl, (Option.some.inj hx).symm⟩
    have hm : x ∈ xs := List.mem_of_getElem? hxi
    have et : xs.take (i + 1) = xs.take i ++ [x] := by rw [List.take_add_one, hxi]; rfl
    refine ⟨wipe_set1, ht x hm H1 ex _ fun H2 ex2 => ?_⟩
    cases hp : p x with
    | true =>
      refine iteT (he x hm hp H2 (ex.trans ex2) _ fun H3 ex3 => ⟨_, ex3.at (ex2.at h1), ?_, ?_, ?_⟩)
      · rw [List.length_map]
        exact Nat.lt_of_le_of_lt (Nat.le_trans (List.length_filter_le _ _) (List.length_take_le' _ _)) hz
      · exact ((ex.trans ex2).trans ex3).mut hD (ex3.at (ex2.at h1))
      · rw [upd_same, et, List.filter_append, List.map_append]
        simp [hp]
    | false =>
      refine iteF ⟨ex.trans ex2, ?_⟩
      rw [et, List.filter_append, List.map_append]
      simp [hp]
      simpa using ex2.at h1
  · rintro H1 ⟨ex, h1⟩
    rw [List.length_map, List.take_length] at h1
    exact hk D H1 hD ex h1
theorem LcW.fm {a : Addr} {xs : List V} (p : V → Bool) (f : V → V) (hS : SqL K H a xs) (hz : xs.length < sizeLine)
    (ht : ∀ x ∈ xs, ∀ H', Ex H H' → ∀ R : Bool → Hp → Prop, (∀ H'', Ex H' H'' → R (p x) H'') → tt ((wipe σ [k]).set k (some x)) H' R)
    (he : ∀ x ∈ xs, p x = true → ∀ H', Ex H H' → ∀ Qe : VK, (∀ H'', Ex H' H'' → Qe (f x) H'') → te ((wipe σ [k]).set k (some x)) H' Qe)
    (hk : ∀ D H', H D = none → Ex H H' → H' D = some (.lst ((xs.filter p).map f)) → Q (.ref D) H') :
    LcW (gName k) tt te [k] σ Q (Itl K a) H := LcW.fmA (emb := id) p f (by rw [List.map_id]; exact hS) hz ht he hk
/-- over whatever walks; item, test and element are reckoned and change nothing that stood -/
theorem LcW.fmW {J : It} {n : Nat} {G : Hp → Prop} {Y : Nat → Hp → V → Hp → Prop} (w : Walk J n G Y) (hz : n < sizeLine) (g : Nat → V) (p : Nat → Bool) (f : Nat → V) (hG : ∀ H', Ex H H' → G H') (hY : ∀ i H1 x H2, i < n → Y i H1 x H2 → x = g i ∧ Ex H1 H2)
    (ht : ∀ i, i < n → ∀ H', Ex H H' → ∀ R : Bool → Hp → Prop, (∀ H'', Ex H' H'' → R (p i) H'') → tt ((wipe σ [k]).set k (some (g i))) H' R)
    (he : ∀ i, i < n → p i = true → ∀ H', Ex H H' → ∀ Qe : VK, (∀ H'', Ex H' H'' → Qe (f i) H'') → te ((wipe σ [k]).set k (some (g i))) H' Qe)
    (hk : ∀ D H', H D = none → Ex H H' → H' D = some (.lst (((List.range n).filter p).map f)) → Q (.ref D) H') : LcW (gName k) tt te [k] σ Q J H := by
  intro D hD
  refine lc_it w (Qd := fun H' => Q (.ref D) H') (fun i H' => Ex H H' ∧ H' D = some (.lst (((List.range i).filter p).map f))) ⟨Ex.new hD, by rw [upd_same]; rfl⟩ (fun i H' _ h => hG H' h.1) ?_ ?_
  · rintro i x H1 H2 hi ⟨ex, h1⟩ y
    obtain ⟨rfl, ex12⟩ := hY i H1 x H2 hi y
    have ex2 := ex.trans ex12
    have h2 := ex12.at h1
    refine ⟨wipe_set1, ht i hi H2 ex2 _ fun H3 ex3 => ?_⟩
    have h3 := ex3.at h2
    have ex03 := ex2.trans ex3
    cases hp : p i with
    | true =>
      refine iteT (he i hi hp H3 ex03 _ fun H4 ex4 => ⟨_, ex4.at h3, ?_, (ex03.trans ex4).mut hD (ex4.at h3), ?_⟩)
      · rw [List.length_map]
        exact Nat.lt_of_le_of_lt (Nat.le_trans (List.length_filter_le _ _) (by rw [List.length_range]; omega)) hz
      · rw [upd_same, List.range_succ, List.filter_append, List.map_append]
        simp [hp]
    | false =>
      refine iteF ⟨ex03, ?_⟩
      rw [List.range_succ, List.filter_append, List.map_append]
      simp [hp]
      simpa using h3
  · rintro H1 ⟨ex, h1⟩
    exact hk D H1 hD ex h1
/-- over range(n) -/
theorem LcW.rng {n : Nat} (hz : n < sizeLine) (p : Nat → Bool) (f : Nat → V)
    (ht : ∀ i, i < n → ∀ H', Ex H H' → ∀ R : Bool → Hp → Prop, (∀ H'', Ex H' H'' → R (p i) H'') → tt ((wipe σ [k]).set k (some (nV i))) H' R)
    (he : ∀ i, i < n → p i = true → ∀ H', Ex H H' → ∀ Qe : VK, (∀ H'', Ex H' H'' → Qe (f i) H'') → te ((wipe σ [k]).set k (some (nV i))) H' Qe)
    (hk : ∀ D H', H D = none → Ex H H' → H' D = some (.lst (((List.range n).filter p).map f)) → Q (.ref D) H') : LcW (gName k) tt te [k] σ Q (Itr 0 n) H :=
  LcW.fmW walk_rgN hz nV p f (fun _ _ => trivial) (fun i H1 x H2 _ y => ⟨y.2, by rw [y.1]; exact Ex.refl⟩) ht he hk
/-- a plain map -/
theorem LcW.map {α : Type} {emb : α → V} {a : Addr} {xs : List α} (f : α → V) (hS : SqL K H a (xs.map emb)) (hz : xs.length < sizeLine)
    (he : ∀ x ∈ xs, ∀ H', Ex H H' → ∀ Qe : VK, (∀ H'', Ex H' H'' → Qe (f x) H'') → te ((wipe σ [k]).set k (some (emb x))) H' Qe)
    (hk : ∀ D H', H D = none → Ex H H' → H' D = some (.lst (xs.map f)) → Q (.ref D) H') :
    LcW (gName k) tYes te [k] σ Q (Itl K a) H :=
  LcW.fmA (fun _ => true) f hS hz (fun _ _ _ _ _ h => h _ Ex.refl) (fun x hx _ H' e Qe h => he x hx H' e Qe h) fun D H' h1 h2 h3 => hk D H' h1 h2 (by rw [h3, List.filter_eq_self.mpr fun _ _ => rfl])
/-- a plain filter -/
theorem LcW.filt {α : Type} {emb : α → V} {a : Addr} {xs : List α} (p : α → Bool) (hS : SqL K H a (xs.map emb)) (hz : xs.length < sizeLine)
    (ht : ∀ x ∈ xs, ∀ H', Ex H H' → ∀ R : Bool → Hp → Prop, (∀ H'', Ex H' H'' → R (p x) H'') → tt ((wipe σ [k]).set k (some (emb x))) H' R)
    (he : ∀ x ∈ xs, p x = true → ∀ H', Ex H H' → ∀ Qe : VK, Qe (emb x) H' → te ((wipe σ [k]).set k (some (emb x))) H' Qe)
    (hk : ∀ D H', H D = none → Ex H H' → H' D = some (.lst ((xs.filter p).map emb)) → Q (.ref D) H') :
    LcW (gName k) tt te [k] σ Q (Itl K a) H :=
  LcW.fmA p emb hS hz ht (fun x hx hp H' e Qe h => he x hx hp H' e Qe (h H' Ex.refl)) hk
end

theorem lt_ok {xs : List V} (h : decide (xs.length ≤ 1000) = true) : xs.length < sizeLine := Nat.lt_of_le_of_lt (of_decide_eq_true h) (by decide)
theorem len_ok {xs : List V} (h : decide (xs.length ≤ 1000) = true) : xs.length ≤ sizeLine := Nat.le_trans (of_decide_eq_true h) (by decide)
/-! dicts -/
abbrev nK (n : Nat) : Key := .inl (n : Int)
theorem nK_inj {a b : Nat} (h : nK a = nK b) : a = b := Int.ofNat.inj (Sum.inl.inj h)
def RDg (Q : VK) : V → V → Hp → Prop := fun x y H2 => ∃ a v, x = .ref a ∧ DGet H2 a y (some v) ∧ Q v H2
def RDi (Q : VK) : V → V → Hp → Prop := fun x y H2 => ∃ a o, x = .ref a ∧ DGet H2 a y o ∧ Q (.bl o.isSome) H2
def RDn (Q : VK) : V → V → Hp → Prop := fun x y H2 => ∃ a o, x = .ref a ∧ DGet H2 a y o ∧ Q (.bl (!o.isSome)) H2
def RDp (R : Hp → Prop) : V → V → V → Hp → Prop := fun x y v H3 => ∃ a H4, x = .ref a ∧ DPut H3 a y v H4 ∧ R H4
def RDN (Q : VK) : Hp → Prop := fun H => ∀ p, H p = none → Q (.ref p) (upd H p (.dK []))
section
variable {K : PySem.W.Frag} {σ : L2.St} {H : Hp} {td ty tv tx : TE} {D : Ends} {Q : VK}
theorem e_dget : tDGet td ty σ H Q = td σ H fun x H1 => ty σ H1 fun y H2 => RDg Q x y H2 := rfl
theorem e_din : tDIn ty td σ H Q = ty σ H fun y H1 => td σ H1 fun x H2 => RDi Q x y H2 := rfl
theorem e_dnin : tDNotIn ty td σ H Q = ty σ H fun y H1 => td σ H1 fun x H2 => RDn Q x y H2 := rfl
theorem e_dput : sDPut td ty tv D σ H = tv σ H fun v H1 => td σ H1 fun x H2 => ty σ H2 fun y H3 => RDp (D.nx σ) x y v H3 := rfl
theorem e_dnew : tDNewK σ H Q = RDN Q H := rfl
theorem x_dget {a : Addr} {kvs : List (Key × V)} {i : Int} {v : V} (h : H a = some (.dK kvs)) (e : valV kvs (.inl i) = some v) (k : Q v H) : RDg Q (.ref a) (.int i) H := ⟨a, v, rfl, .inl ⟨kvs, .inl i, .inl h, rfl, e.symm⟩, k⟩
theorem x_din {a : Addr} {kvs : List (Key × V)} {i : Int} (h : H a = some (.dK kvs)) (k : Q (.bl (valV kvs (.inl i)).isSome) H) : RDi Q (.ref a) (.int i) H := ⟨a, _, rfl, .inl ⟨kvs, .inl i, .inl h, rfl, rfl⟩, k⟩
theorem x_dnin {a : Addr} {kvs : List (Key × V)} {i : Int} (h : H a = some (.dK kvs)) (k : Q (.bl (!(valV kvs (.inl i)).isSome)) H) : RDn Q (.ref a) (.int i) H := ⟨a, _, rfl, .inl ⟨kvs, .inl i, .inl h, rfl, rfl⟩, k⟩
theorem x_dput {R : Hp → Prop} {a : Addr} {kvs : List (Key × V)} {i : Int} {v : V} (h : H a = some (.dK kvs)) (hz : kvs.length < sizeLine) (k : R (upd H a (.dK (putK kvs (.inl i) v)))) : RDp R (.ref a) (.int i) v H := ⟨a, _, rfl, .inl ⟨kvs, .inl i, h, rfl, hz, rfl⟩, k⟩
theorem x_dnew (h : ∀ p, H p = none → Q (.ref p) (upd H p (.dK []))) : RDN Q H := h
end
/-- sorted(d), d's keys ints, fewer than 64 -/
def rSortDI : List V → Hp → VK → Prop := fun xs H Q => ∃ (a : Addr) (kvs : List (Key × V)) (ks : List Int), xs = [.ref a] ∧ Rd H a (.dK kvs) ∧ kvs.map (·.1) = ks.map Sum.inl ∧ ks.length < 64 ∧
    ∀ (ys : List Int) (p : Addr), ys.Perm ks → ys.Pairwise (· ≤ ·) → H p = none → Q (.ref p) (upd H p (.lst (ys.map V.int)))
theorem cb_sortD {X : Cx} (hc : X.calm = true) : CallR X (.builtin "sorted") rSortDI := call_sortedDI hc

/-! objects: fields, methods -/
def RFld (K : PySem.W.Frag) (f : Str) (Q : VK) : VK := fun x H1 => ∃ a C dx fs v, x = .ref a ∧ H1 a = some (.ins C dx fs) ∧ Cls K C ∧ NoAttr K C f ∧ fs.lookup f = some v ∧ Q v H1
def RSf (K : PySem.W.Frag) (f : Str) (y : V) (R : Hp → Prop) : VK := fun x H2 => ∃ a C dx fs, x = .ref a ∧ H2 a = some (.ins C dx fs) ∧ Cls K C ∧ NoAttr K C f ∧ fs.length < 1000 ∧ R (upd H2 a (.ins C dx (putF f y fs)))
def RMt (C : Addr) (m : Str) (sp : Sp) (dvs : List V) (E : XK) (t : TA) (σ : L2.St) (Q : VK) : VK := fun x H1 => ∃ a dx fs, x = .ref a ∧ H1 a = some (.ins C dx fs) ∧ fs.lookup m = none ∧ t σ H1 fun vs H2 => sp (x :: (vs ++ dvs)) H2 Q E
section
variable {K : PySem.W.Frag} {σ : L2.St} {H : Hp} {ta tv : TE} {D : Ends} {Q : VK} {v y : V} {f m : Str} {a C dx : Addr} {fs : List (Str × V)} {sp : Sp} {dvs : List V} {E : XK} {t : TA}
theorem e_fld : tFld K ta f σ H Q = ta σ H (RFld K f Q) := rfl
theorem e_sfld : sFld K ta tv f D σ H = tv σ H fun y H1 => ta σ H1 (RSf K f y (D.nx σ)) := rfl
theorem e_meth : tMeth C m sp dvs E ta t σ H Q = ta σ H (RMt C m sp dvs E t σ Q) := rfl
theorem x_fld (h : H a = some (.ins C dx fs)) (c : Cls K C) (n : NoAttr K C f) (l : fs.lookup f = some v) (k : Q v H) : RFld K f Q (.ref a) H := ⟨a, C, dx, fs, v, rfl, h, c, n, l, k⟩
theorem x_sfld {R : Hp → Prop} {fs' : List (Str × V)} (h : H a = some (.ins C dx fs)) (c : Cls K C) (n : NoAttr K C f) (e : putF f y fs = fs') (hz : decide (fs.length < 1000) = true) (k : R (upd H a (.ins C dx fs'))) : RSf K f y R (.ref a) H := ⟨a, C, dx, fs, rfl, h, c, n, of_decide_eq_true hz, by rw [e]; exact k⟩
theorem x_meth (h : H a = some (.ins C dx fs)) (l : fs.lookup m = none) (k : t σ H fun vs H2 => sp (.ref a :: (vs ++ dvs)) H2 Q E) : RMt C m sp dvs E t σ Q (.ref a) H := ⟨a, dx, fs, rfl, h, l, k⟩
end
/-! slices -/
section
variable {K : PySem.W.Frag} {σ : L2.St} {H : Hp} {ta : TE} {tl th : TO} {Q : VK} {R : Option Int → Hp → Prop}
theorem e_sl {r : V → Option Int → Option Int → Hp → VK → Prop} : tSl r ta tl th σ H Q = ta σ H fun x H1 => tl σ H1 fun l H2 => th σ H2 fun u H3 => r x l u H3 Q := rfl
theorem e_nopart : tNoPart σ H R = R none H := rfl
def RPt (R : Option Int → Hp → Prop) : VK := fun x H1 => ∃ i, x = .int i ∧ R (some i) H1
theorem e_part : tPart ta σ H R = ta σ H (RPt R) := rfl
theorem x_part {i : Int} (h : R (some i) H) : RPt R (.int i) H := ⟨i, rfl, h⟩
theorem x_slL {p : Addr} {xs : List V} {lo hi : Option Int} (hS : SqL K H p xs) (h : ∀ q, H q = none → Q (.ref q) (upd H q (.lst (cutV xs lo hi)))) : rSlL K (.ref p) lo hi H Q := ⟨p, xs, rfl, hS, h⟩
theorem cut_take {xs : List V} {k : Nat} : cutV xs none (some (k : Int)) = xs.take k := by
  unfold cutV
  rw [HT.sIx_none, HT.sIx_nat, List.drop_zero, Nat.sub_zero]
  by_cases h : k ≤ xs.length
  · rw [Nat.min_eq_left h]
  · rw [Nat.min_eq_right (by omega), List.take_of_length_le (Nat.le_refl _), List.take_of_length_le (i := k) (by omega)]
theorem cut_drop {xs : List V} {k : Nat} : cutV xs (some (k : Int)) none = xs.drop k := by
  unfold cutV
  rw [HT.sIx_none, HT.sIx_nat]
  by_cases h : k ≤ xs.length
  · rw [Nat.min_eq_left h, List.take_of_length_le (by rw [List.length_drop]; omega)]
  · rw [Nat.min_eq_right (by omega), List.drop_of_length_le (Nat.le_refl _), List.drop_of_length_le (by omega), List.take_nil]
end
/-! members, methods of lists of names -/
theorem inV_nat {n : Nat} : ∀ {ns : List Nat}, inV (nV n) (ns.map nV) = decide (n ∈ ns)
  | [] => rfl
  | m :: r => by
    have ih := inV_nat (n := n) (ns := r)
    unfold inV at ih ⊢
    rw [List.map_cons, List.any_cons, ih]
    show (((m : Int) == (n : Int)) || decide (n ∈ r)) = _
    by_cases e : m = n
    · simp [e]
    · have e' : ¬ (m : Int) = n := fun z => e (Int.ofNat.inj z)
      simp [e', Ne.symm e]
theorem flat_nat (ns : List Nat) : (ns.map nV).all flatV = true := by
  rw [List.all_eq_true]
  intro x hx
  obtain ⟨n, _, rfl⟩ := List.mem_map.mp hx
  rfl
section
variable {K : PySem.W.Frag} {H : Hp} {Q : VK}
theorem x_inN {i : Int} {n : Nat} {p : Addr} {ns : List Nat} (hi : i = n) (hS : SqL K H p (ns.map nV)) (h : Q (.bl (decide (n ∈ ns))) H) : rIn K false (.int i) (.ref p) H Q := by
  subst hi; exact ⟨p, _, rfl, .inl hS, rfl, flat_nat ns, by rw [inV_nat]; exact h⟩
theorem x_ninN {i : Int} {n : Nat} {p : Addr} {ns : List Nat} (hi : i = n) (hS : SqL K H p (ns.map nV)) (h : Q (.bl (!decide (n ∈ ns))) H) : rIn K true (.int i) (.ref p) H Q := by
  subst hi; exact ⟨p, _, rfl, .inl hS, rfl, flat_nat ns, by rw [inV_nat]; exact h⟩
theorem erase_first {n : Nat} : ∀ {ns : List Nat}, n ∈ ns → ∃ j : Nat, (ns.map fun n : Nat => (n : Int))[j]? = some (n : Int) ∧ (∀ m : Nat, m < j → (ns.map fun n : Nat => (n : Int))[m]? ≠ some (n : Int)) ∧ ns.eraseIdx j = ns.erase n
  | [], h => by cases h
  | m :: r, h => by
    by_cases e : m = n
    · refine ⟨0, by simp [e], fun m h => absurd h (Nat.not_lt_zero _), by simp [e]⟩
    · have hr : n ∈ r := by
        rcases List.mem_cons.mp h with z | z
        · exact absurd z.symm e
        · exact z
      obtain ⟨j, h1, h2, h3⟩ := erase_first hr
      refine ⟨j + 1, by simpa using h1, fun k hk => ?_, ?_⟩
      · cases k with
        | zero =>
          intro z
          have z : some ((m : Nat) : Int) = some (n : Int) := z
          exact e (Int.ofNat.inj (Option.some.inj z))
        | succ k => exact h2 k (by omega)
      · rw [List.eraseIdx_cons_succ, h3, List.erase_cons_tail (by simpa using e)]
theorem eraseIdx_mapV {α β : Type} (f : α → β) : ∀ (xs : List α) (j : Nat), (xs.map f).eraseIdx j = (xs.eraseIdx j).map f
  | [], _ => rfl
  | _ :: _, 0 => rfl
  | x :: r, j + 1 => by
    show f x :: (r.map f).eraseIdx j = f x :: (r.eraseIdx j).map f
    rw [eraseIdx_mapV f r j]
theorem x_remove {i : Int} {n : Nat} {l : Addr} {ns : List Nat} (hi : i = n) (hl : H l = some (.lst (ns.map nV))) (hn : n ∈ ns) (h : Q .non (upd H l (.lst ((ns.erase n).map nV)))) : rRemI (.ref l) [.int i] H Q := by
  subst hi
  obtain ⟨j, h1, h2, h3⟩ := erase_first hn
  refine ⟨l, ns.map fun n : Nat => (n : Int), n, j, rfl, rfl, by rw [← map_nV]; exact hl, h1, h2, ?_⟩
  have e : ((ns.map fun n : Nat => (n : Int)).eraseIdx j).map V.int = (ns.erase n).map nV := by
    rw [eraseIdx_mapV, h3, ← map_nV]
  rw [e]; exact h
theorem x_pop0 {l : Addr} {x : V} {xs : List V} (hl : H l = some (.lst (x :: xs))) (h : Q x (upd H l (.lst xs))) : rPopAt (.ref l) [.int 0] H Q :=
  ⟨l, x :: xs, 0, 0, x, rfl, rfl, hl, by decide, by decide, by unfold seqIndex?; simp, rfl, h⟩
end

/-! len(set(names)), [:-1] -/
def RLs (K : PySem.W.Frag) (Q : VK) : VK := fun x H1 => ∃ (l : Addr) (ns : List Int), x = .ref l ∧ SqL K H1 l (ns.map V.int) ∧ ns.Nodup ∧ ns.length ≤ 4000 ∧ Q (.int (ns.length : Nat)) H1
theorem e_lenSet {K : PySem.W.Frag} {σ : L2.St} {H : Hp} {ta : TE} {Q : VK} : RZ.tLenSetI K ta σ H Q = ta σ H (RLs K Q) := rfl
theorem x_lenSet {K : PySem.W.Frag} {H : Hp} {Q : VK} {a : Addr} {ns : List Nat} (hS : SqL K H a (ns.map nV)) (nd : ns.Nodup) (hz : ns.length ≤ 4000) (h : Q (.int (ns.length : Nat)) H) : RLs K Q (.ref a) H :=
  ⟨a, ns.map fun n : Nat => (n : Int), rfl, by rw [← map_nV]; exact hS, List.Pairwise.map _ (fun a b h e => h (Int.ofNat.inj e)) nd, by rw [List.length_map]; exact hz, by rw [List.length_map]; exact h⟩
theorem cut_init {xs : List V} : cutV xs none (some (-1)) = xs.dropLast := by
  unfold cutV
  rw [HT.sIx_none, List.drop_zero, Nat.sub_zero]
  have e : HT.sIx xs.length xs.length (some (-1)) = xs.length - 1 := by
    unfold HT.sIx
    simp
    omega
  rw [e, List.dropLast_eq_take]
theorem x_truB {K : PySem.W.Frag} {H : Hp} {R : Bool → Prop} {b : Bool} (h : R b) : ∃ k, TruV K (.bl b) H k ∧ R k := ⟨b, rfl, h⟩
/-! dicts that are locked while they are walked -/
def LockD (D : Ends) (d : Addr) (od : Obj) (u : HO) : Ends := ⟨fun σ' H' => H' d = some (.frz od u) ∧ D.nx σ' (upd H' d u), fun v H' => H' d = some (.frz od u) ∧ D.rt v (upd H' d u), fun σ' H' => H' d = some (.frz od u) ∧ D.bk σ' (upd H' d u), fun σ' H' => H' d = some (.frz od u) ∧ D.ct σ' (upd H' d u)⟩
theorem x_lock {t : TS} {D : Ends} {σ : L2.St} {H : Hp} {d : Addr} {kvs : List (Key × V)} (h : H d = some (.dK kvs)) (k : ∀ od, t (LockD D d od (.dK kvs)) σ (upd H d (.frz od (.dK kvs)))) : tLock t D σ H := ⟨d, .dK kvs, h, trivial, k⟩
def RiK (R : It → Hp → Prop) : VK := fun x H1 => ∃ d o, x = .ref d ∧ ((∃ kvs, H1 d = some (.frz o (.dK kvs)) ∧ R (Itk d o kvs) H1) ∨ ∃ kvs, H1 d = some (.frz o (.dT kvs)) ∧ R (Itkt d o kvs) H1)
theorem e_keys {td : TE} {σ : L2.St} {H : Hp} {R : It → Hp → Prop} : iKeys td σ H R = td σ H (RiK R) := rfl
theorem x_itK {H : Hp} {R : It → Hp → Prop} {d : Addr} {o : Obj} {kvs : List (Key × V)} (h : H d = some (.frz o (.dK kvs))) (k : R (Itk d o kvs) H) : RiK R (.ref d) H := ⟨d, o, rfl, .inl ⟨kvs, h, k⟩⟩
theorem Fr.less {S : Addr → Prop} {H H1 : Hp} (f : Fr S H H1) (h : ∀ a, S a → H1 a = H a) : Ex H H1 :=
  ⟨fun a o e n _ => by
    by_cases s : S a
    · rw [h a s]; exact e
    · exact f.keep a o e n s, f.tab, f.back⟩
theorem Ex.unlock {H H' : Hp} {d : Addr} {od : Obj} {kvs : List (Key × V)} (h : H d = some (.dK kvs)) (e : Ex (upd H d (.frz od (.dK kvs))) H') : Ex H (upd H' d (.dK kvs)) :=
  (((Fr.upd1 (o := .frz od (.dK kvs)) h).trans (e.fr (S := fun a => a = d))).trans (Fr.upd1 (o := .dK kvs) (e.at upd_same))).less fun a z => by rw [z, upd_same, h]
theorem Rd.fr {S : Addr → Prop} {H H' : Hp} {a : Addr} {kvs : List (Key × V)} (h : Rd H a (.dK kvs)) (f : Fr S H H') (s : ¬ S a) : Rd H' a (.dK kvs) := by
  rcases h with h | ⟨o, h⟩
  · exact .inl (f.at h s)
  · exact .inr ⟨o, f.at h s⟩
section
variable {H : Hp} {Q : VK} {a : Addr} {kvs : List (Key × V)} {i : Int} {z : Str} {v : V}
theorem x_dgetR (h : Rd H a (.dK kvs)) (e : valV kvs (.inl i) = some v) (k : Q v H) : RDg Q (.ref a) (.int i) H := ⟨a, v, rfl, .inl ⟨kvs, .inl i, h, rfl, e.symm⟩, k⟩
theorem x_dgetS (h : Rd H a (.dK kvs)) (e : valV kvs (.inr z) = some v) (k : Q v H) : RDg Q (.ref a) (.str z) H := ⟨a, v, rfl, .inl ⟨kvs, .inr z, h, rfl, e.symm⟩, k⟩
theorem x_dinR (h : Rd H a (.dK kvs)) (k : Q (.bl (valV kvs (.inl i)).isSome) H) : RDi Q (.ref a) (.int i) H := ⟨a, _, rfl, .inl ⟨kvs, .inl i, h, rfl, rfl⟩, k⟩
theorem x_dninR (h : Rd H a (.dK kvs)) (k : Q (.bl (!(valV kvs (.inl i)).isSome)) H) : RDn Q (.ref a) (.int i) H := ⟨a, _, rfl, .inl ⟨kvs, .inl i, h, rfl, rfl⟩, k⟩
end
def RDG2 (ty tx : TE) (σ : L2.St) (Q : VK) : VK := fun x H1 => ∃ a, x = .ref a ∧ IsD H1 a ∧ ty σ H1 fun y H2 => tx σ H2 fun z H3 => ∃ o, DGet H3 a y o ∧ Q (o.getD z) H3
def RG2 (a : Addr) (Q : VK) : V → V → Hp → Prop := fun y z H3 => ∃ o, DGet H3 a y o ∧ Q (o.getD z) H3
theorem e_dget2 {td ty tx : TE} {σ : L2.St} {H : Hp} {Q : VK} : tDGet2 td ty tx σ H Q = td σ H (RDG2 ty tx σ Q) := rfl
theorem x_dget2 {ty tx : TE} {σ : L2.St} {H : Hp} {Q : VK} {a : Addr} {kvs : List (Key × V)} (h : H a = some (.dK kvs)) (k : ty σ H fun y H2 => tx σ H2 fun z H3 => RG2 a Q y z H3) : RDG2 ty tx σ Q (.ref a) H := ⟨a, rfl, .inl ⟨kvs, .inl h⟩, k⟩
theorem x_g2 {H : Hp} {Q : VK} {a : Addr} {kvs : List (Key × V)} {i : Int} {z : V} (h : H a = some (.dK kvs)) (k : Q ((valV kvs (.inl i)).getD z) H) : RG2 a Q (.int i) z H := ⟨_, .inl ⟨kvs, .inl i, .inl h, rfl, rfl⟩, k⟩
def RDP1 (ty : TE) (σ : L2.St) (Q : VK) : VK := fun x H1 => ∃ a, x = .ref a ∧ IsD H1 a ∧ ty σ H1 fun y H2 => ∃ kvs k v, H2 a = some (.dK kvs) ∧ y = kV k ∧ valV kvs k = some v ∧ Q v (upd H2 a (.dK (dropK kvs k)))
def RP1 (a : Addr) (Q : VK) : VK := fun y H2 => ∃ kvs k v, H2 a = some (.dK kvs) ∧ y = kV k ∧ valV kvs k = some v ∧ Q v (upd H2 a (.dK (dropK kvs k)))
theorem e_dpop1 {td ty : TE} {σ : L2.St} {H : Hp} {Q : VK} : tDPop1 td ty σ H Q = td σ H (RDP1 ty σ Q) := rfl
theorem x_dpop1 {ty : TE} {σ : L2.St} {H : Hp} {Q : VK} {a : Addr} {kvs : List (Key × V)} (h : H a = some (.dK kvs)) (k : ty σ H (RP1 a Q)) : RDP1 ty σ Q (.ref a) H := ⟨a, rfl, .inl ⟨kvs, .inl h⟩, k⟩
theorem x_p1 {H : Hp} {Q : VK} {a : Addr} {kvs : List (Key × V)} {i : Int} {v : V} (h : H a = some (.dK kvs)) (e : valV kvs (.inl i) = some v) (k : Q v (upd H a (.dK (dropK kvs (.inl i))))) : RP1 a Q (.int i) H := ⟨kvs, .inl i, v, h, rfl, e, k⟩
def RDP2 (ty tx : TE) (σ : L2.St) (Q : VK) : VK := fun x H1 => ∃ a, x = .ref a ∧ IsD H1 a ∧ ty σ H1 fun y H2 => tx σ H2 fun z H3 => ∃ kvs k, H3 a = some (.dK kvs) ∧ y = kV k ∧ (∀ v, valV kvs k = some v → Q v (upd H3 a (.dK (dropK kvs k)))) ∧ (valV kvs k = none → Q z H3)
def RP2 (a : Addr) (Q : VK) : V → V → Hp → Prop := fun y z H3 => ∃ kvs k, H3 a = some (.dK kvs) ∧ y = kV k ∧ (∀ v, valV kvs k = some v → Q v (upd H3 a (.dK (dropK kvs k)))) ∧ (valV kvs k = none → Q z H3)
theorem e_dpop2 {td ty tx : TE} {σ : L2.St} {H : Hp} {Q : VK} : tDPop2 td ty tx σ H Q = td σ H (RDP2 ty tx σ Q) := rfl
theorem x_dpop2 {ty tx : TE} {σ : L2.St} {H : Hp} {Q : VK} {a : Addr} {kvs : List (Key × V)} (h : H a = some (.dK kvs)) (k : ty σ H fun y H2 => tx σ H2 fun z H3 => RP2 a Q y z H3) : RDP2 ty tx σ Q (.ref a) H := ⟨a, rfl, .inl ⟨kvs, .inl h⟩, k⟩
theorem x_p2 {H : Hp} {Q : VK} {a : Addr} {kvs : List (Key × V)} {i : Int} {z : V} (h : H a = some (.dK kvs)) (k1 : ∀ v, valV kvs (.inl i) = some v → Q v (upd H a (.dK (dropK kvs (.inl i))))) (k2 : valV kvs (.inl i) = none → Q z H) : RP2 a Q (.int i) z H := ⟨kvs, .inl i, h, rfl, k1, k2⟩
def rListD : List V → Hp → VK → Prop := fun xs H Q => ∃ (a : Addr) (kvs : List (Key × V)), xs = [.ref a] ∧ Rd H a (.dK kvs) ∧ ∀ p, H p = none → Q (.ref p) (upd H p (.lst (kvs.map fun kv => kV kv.1)))
theorem cb_listD {X : Cx} (hc : X.calm = true) : CallR X (.type "list") rListD := call_listD hc
/-! is None, is not None -/
def rIsNn : R2 := fun x y H Q => y = .non ∧ Q (.bl (decide (x = .non))) H
def rNotNn : R2 := fun x y H Q => y = .non ∧ Q (.bl (!decide (x = .non))) H
theorem op_isNn {X : Cx} : OpR X (compareOp .Is) rIsNn := op_isN
theorem op_notNn {X : Cx} : OpR X (compareOp .IsNot) rNotNn := op_notN
section
variable {H : Hp} {Q : VK} {i : Int} {b : Bool} {z : Str} {a : Addr}
theorem x_isNN (h : Q (.bl true) H) : rIsNn .non .non H Q := ⟨rfl, by rw [decide_eq_true rfl]; exact h⟩
theorem x_isNI (h : Q (.bl false) H) : rIsNn (.int i) .non H Q := ⟨rfl, by rw [decide_eq_false (fun z => by cases z)]; exact h⟩
theorem x_isNB (h : Q (.bl false) H) : rIsNn (.bl b) .non H Q := ⟨rfl, by rw [decide_eq_false (fun z => by cases z)]; exact h⟩
theorem x_isNS (h : Q (.bl false) H) : rIsNn (.str z) .non H Q := ⟨rfl, by rw [decide_eq_false (fun z => by cases z)]; exact h⟩
theorem x_isNR (h : Q (.bl false) H) : rIsNn (.ref a) .non H Q := ⟨rfl, by rw [decide_eq_false (fun z => by cases z)]; exact h⟩
theorem x_notNN (h : Q (.bl false) H) : rNotNn .non .non H Q := ⟨rfl, by rw [decide_eq_true rfl]; exact h⟩
theorem x_notNI (h : Q (.bl true) H) : rNotNn (.int i) .non H Q := ⟨rfl, by rw [decide_eq_false (fun z => by cases z)]; exact h⟩
theorem x_notNB (h : Q (.bl true) H) : rNotNn (.bl b) .non H Q := ⟨rfl, by rw [decide_eq_false (fun z => by cases z)]; exact h⟩
theorem x_notNS (h : Q (.bl true) H) : rNotNn (.str z) .non H Q := ⟨rfl, by rw [decide_eq_false (fun z => by cases z)]; exact h⟩
theorem x_notNR (h : Q (.bl true) H) : rNotNn (.ref a) .non H Q := ⟨rfl, by rw [decide_eq_false (fun z => by cases z)]; exact h⟩
end
/-! new objects -/
theorem x_new {A : Prop} {R : Addr → Prop} (ha : A) (h : ∀ p, H p = none → R p) : A ∧ ∀ p, H p = none → R p := ⟨ha, h⟩
/-- a def with defaults, no exception out -/
theorem _root_.L2.FunD.okD {P : Program} {w : World} {K : PySem.W.Frag} {mg : Str → Option Value} {base : Heap} {x qual : Str} {st : Stmt} {f : Addr} {fd : FuncData} {dvs : List V} {kws : List (Str × V)} {N ps : List Str} {k : Nat} {sp : Sp} (F : FunD K x qual (defArgs st) (defBody st) (defScope st) dvs kws f fd) (S : FnScope N ps (defScope st)) (len : ∀ vs H Q E, sp vs H Q E → vs.length = ps.length)
    (hbody : ∀ (cdv : Value) (A : Around) (outer : List Env) (s : Shared) (H : Hp) (vs : List V) (Q : VK) (E : XK), Room k (A.deeper (PyProof.Rows.envOfC qual (defScope st) s.heap.objs.size f cdv)) → sp vs H Q E →
      ∃ t, PSs (cxOf CX0 P w K mg base N qual (defScope st) f cdv A outer s H E).nox (defBody st) t ∧ t { nx := fun _ H' => Q .non H', rt := Q } (start N vs) H) : FnOk P w K mg base CX0 (k + 1) f fd ps sp :=
  F.ok (CX := CX0) S len fun cdv A outer s H vs Q E hr h => let ⟨t, a, b⟩ := hbody cdv A outer s H vs Q E hr h; ⟨t, a.nox, b⟩
theorem fund_mk {K : PySem.W.Frag} {x qual : Str} {st : Stmt} {f D : Addr} {oc tc : Value} {od an td : Option Addr} {osl tl : Array (Option Value)} {kV doc pm cdv ct : Value} {tn : Nat} {its : List Value} {ds : List V} (l : K.lookup f = some ⟨oc, od, .func (PySem.W.fnOf x qual (defArgs st) (defBody st) (defScope st) (.ref D) kV doc pm an cdv ct), osl⟩)
    (c : PySem.W.codeIn K cdv qual = true) (k : PySem.W.keepIn K (.ref f) = true) (t : K.lookup D = some ⟨tc, td, .seq its.toArray tn, tl⟩) (v : Vals ds its) (hd : ds ≠ [] := by simp) : FunD K x qual (defArgs st) (defBody st) (defScope st) ds [] f (PySem.W.fnOf x qual (defArgs st) (defBody st) (defScope st) (.ref D) kV doc pm an cdv ct) :=
  ⟨⟨oc, od, .ref D, kV, doc, pm, an, cdv, ct, osl, rfl, l, c, .inr ⟨hd, D, _, its, tn, rfl, t, rfl, v⟩, .inl rfl⟩, k⟩
theorem vnil {K : PySem.W.Frag} {fd : FuncData} {ps : List Str} {ds : List Value} (v : Vals [] ds) (b : Binds K fd ps ds) : Binds K fd ps [] := by
  cases v
  exact b
/-! making, sorting, extending; comprehensions over whatever walks -/
def RMk (C : Addr) (sp : Sp) (dvs : List V) (E : XK) (Q : VK) : List V → Hp → Prop := fun vs H1 => ∀ x dx, H1 x = none → H1 dx = none → dx ≠ x → sp (.ref x :: (vs ++ dvs)) (upd (upd H1 dx (.own x)) x (.ins C dx [])) (fun v H2 => v = .non ∧ Q (.ref x) H2) E
theorem e_make {C : Addr} {sp : Sp} {dvs : List V} {E : XK} {t : TA} {σ : L2.St} {H : Hp} {Q : VK} : tMake C sp dvs E t σ H Q = t σ H (RMk C sp dvs E Q) := rfl
theorem x_make {C : Addr} {sp : Sp} {dvs vs : List V} {E : XK} {H : Hp} {Q : VK} (h : ∀ x dx H1, H x = none → Ex H H1 → H1 x = some (.ins C dx []) → sp (.ref x :: (vs ++ dvs)) H1 (fun v H2 => v = .non ∧ Q (.ref x) H2) E) : RMk C sp dvs E Q vs H :=
  fun x dx hx hdx ne => h x dx _ hx ((Ex.new hdx).newT (by rw [upd_ne (Ne.symm ne)]; exact hx)) upd_same
theorem x_extend {H : Hp} {Q : VK} {l b : Addr} {xs zs : List V} (hl : H l = some (.lst xs)) (hb : H b = some (.lst zs)) (hz : xs.length + zs.length ≤ sizeLine) (h : Q .non (upd H l (.lst (xs ++ zs)))) : rExtend (.ref l) [.ref b] H Q := ⟨l, b, xs, zs, rfl, rfl, hl, hb, hz, h⟩
theorem x_clear {H : Hp} {Q : VK} {l : Addr} {xs : List V} (hl : H l = some (.lst xs)) (h : Q .non (upd H l (.lst []))) : rClear (.ref l) [] H Q := ⟨l, xs, rfl, rfl, hl, h⟩
theorem LcW.by1 {J : It} {n : Nat} {G : Hp → Prop} {Y : Nat → Hp → V → Hp → Prop} {te : TE} {k : Nat} {σ : L2.St} {H : Hp} {Q : VK} (w : Walk J n G Y) (hz : n < sizeLine) (Pv : Addr → Nat → List V → Hp → Prop)
    (h0 : ∀ D, H D = none → Pv D 0 [] (upd H D (.lst [])))
    (hG : ∀ D i acc H', H D = none → i ≤ n → Pv D i acc H' → G H')
    (hs : ∀ D i acc x H1 H1', i < n → H D = none → Pv D i acc H1 → H1 D = some (.lst acc) → Y i H1 x H1' → ∀ Qe : VK, (∀ y H4, H4 D = some (.lst acc) → Pv D (i + 1) (acc ++ [y]) (upd H4 D (.lst (acc ++ [y]))) → Qe y H4) → te ((wipe σ [k]).set k (some x)) H1' Qe)
    (hd : ∀ D acc H', H D = none → Pv D n acc H' → H' D = some (.lst acc) → acc.length = n → Q (.ref D) H') : LcW (gName k) tYes te [k] σ Q J H := by
  intro D hD
  refine lc_it w (Qd := fun H' => Q (.ref D) H') (fun i H' => ∃ acc, acc.length = i ∧ H' D = some (.lst acc) ∧ Pv D i acc H') ⟨[], rfl, upd_same, h0 D hD⟩ (fun i H' hi ⟨acc, _, _, p⟩ => hG D i acc H' hD hi p) ?_ ?_
  · rintro i x H1 H1' hi ⟨acc, hl, ha, p⟩ y
    refine ⟨wipe_set1, ?_⟩
    rw [e_yes]
    refine iteT ?_
    refine hs D i acc x H1 H1' hi hD p ha y _ fun y H4 h4 p4 => ⟨acc, h4, by rw [hl]; exact Nat.lt_trans hi hz, acc ++ [y], by simp [hl], upd_same, p4⟩
  · rintro H1 ⟨acc, hl, ha, p⟩
    exact hd D acc H1 hD p ha hl
end
/-! ranges downwards, list + list, insert -/
def Rg3 (R : It → Hp → Prop) : List V → Hp → Prop := fun vs H1 => ∃ (i j c : Int) (n : Nat), vs = [.int i, .int j, .int c] ∧ RgC i j c n ∧ R (Itc i c n) H1
theorem e_rng3 {σ : L2.St} {H : Hp} {ts : TA} {R : It → Hp → Prop} : iRng3 ts σ H R = ts σ H (Rg3 R) := rfl
theorem x_rgDown {m : Nat} {H : Hp} {R : It → Hp → Prop} (hm : (m : Int) < 2 ^ 61) (h : R (Itc ((m : Int) - 1) (-1) m) H) : Rg3 R [V.int ((m : Int) - 1), .int (-1), .int (-1)] H :=
  ⟨_, _, _, m, rfl, by
    have q := RgC.neg (i := (m : Int) - 1) (j := -1) (by omega) (by omega) (by omega) (by omega)
    have e : ((m : Int) - 1 - -1).toNat = m := by omega
    rw [e] at q; exact q, h⟩
theorem walk_down {n : Nat} : Walk (Itc ((n : Int) - 1) (-1) n) n (fun _ => True) (fun i H x H' => H' = H ∧ ∃ k : Nat, k = n - 1 - i ∧ x = .int (k : Int)) :=
  ⟨fun _ _ hi _ => hi, fun _ _ => Nat.le_refl _, fun i H x H' hi _ y => ⟨y.1, n - 1 - i, rfl, by
    rw [y.2]
    have e : (n : Int) - 1 + (i : Nat) * -1 = ((n - 1 - i : Nat) : Int) := by omega
    rw [e]⟩⟩
theorem x_cat {H : Hp} {Q : VK} {a b : Addr} {xs zs : List V} (ha : H a = some (.lst xs)) (hb : H b = some (.lst zs)) (hz : xs.length + zs.length ≤ sizeLine) (h : ∀ p, H p = none → Q (.ref p) (upd H p (.lst (xs ++ zs)))) : rCat (.ref a) (.ref b) H Q := ⟨a, b, xs, zs, rfl, rfl, ha, hb, hz, h⟩
def rInsert : V → List V → Hp → VK → Prop := fun x vs H Q => ∃ (l : Addr) (xs : List V) (i : Int) (y : V), x = .ref l ∧ vs = [.int i, y] ∧ H l = some (.lst xs) ∧ xs.length < sizeLine ∧ 0 ≤ i ∧ i < 2 ^ 63 ∧
    Q .non (upd H l (.lst (xs.take i.toNat ++ [y] ++ xs.drop i.toNat)))
theorem mt_ins {X : Cx} : MtR X "list.insert" rInsert := mt_insert
theorem x_insert {H : Hp} {Q : VK} {l : Addr} {xs : List V} {i : Int} {k : Nat} {y : V} (hi : i = k) (hl : H l = some (.lst xs)) (hz : xs.length < sizeLine) (hk : k < 2 ^ 62) (h : Q .non (upd H l (.lst (xs.take k ++ [y] ++ xs.drop k)))) : rInsert (.ref l) [.int i, y] H Q :=
  ⟨l, xs, i, y, rfl, rfl, hl, hz, by omega, by omega, by rw [hi, Int.toNat_natCast]; exact h⟩
theorem cut_len {xs : List V} {k m : Nat} : (cutV xs (some (k : Int)) (some (m : Int))).length ≤ m - k := by
  unfold cutV
  rw [HT.sIx_nat, HT.sIx_nat, List.length_take]
  omega
theorem cut_mem {xs : List V} {lo hi : Option Int} {x : V} (h : x ∈ cutV xs lo hi) : x ∈ xs := List.mem_of_mem_drop (List.mem_of_mem_take h)
theorem absI (i : Int) : ∃ n : Nat, (if i < 0 then -i else i) = (n : Int) := ⟨i.natAbs, by split <;> omega⟩
/-! equal by what is read -/
def Shp (d : PyData) (k : Nat) : Prop := d.canLay0 = true ∧ d.depth ≤ k
theorem Shp.mono {d : PyData} {k j : Nat} (h : Shp d k) (e : k ≤ j) : Shp d j := ⟨h.1, Nat.le_trans h.2 e⟩
theorem shp_all {k : Nat} : ∀ {xs : List PyData}, (∀ x ∈ xs, Shp x k) → PyData.canLayAll0 xs = true ∧ PyData.depthAll xs ≤ k
  | [], _ => by simp [PyData.canLayAll0, PyData.depthAll]
  | x :: xs, h => by
    have h1 := h x (List.mem_cons_self ..)
    have h2 := shp_all (xs := xs) fun y hy => h y (List.mem_cons_of_mem _ hy)
    simp only [PyData.canLayAll0, PyData.depthAll, h1.1, h2.1, Bool.and_self, true_and]
    exact Nat.max_le.mpr ⟨h1.2, h2.2⟩
theorem Shp.lst {k : Nat} {xs : List PyData} (h : ∀ x ∈ xs, Shp x k) : Shp (.list xs) (k + 1) := by
  have q := shp_all h
  exact ⟨by simp only [PyData.canLay0]; exact q.1, by simp only [PyData.depth]; omega⟩
theorem Shp.tup {k : Nat} {xs : List PyData} (h : ∀ x ∈ xs, Shp x k) : Shp (.tuple xs) (k + 1) := by
  have q := shp_all h
  exact ⟨by simp only [PyData.canLay0]; exact q.1, by simp only [PyData.depth]; omega⟩
theorem Shp.int {i : Int} : Shp (.int i) 0 := ⟨by simp only [PyData.canLay0], by simp only [PyData.depth]; exact Nat.le_refl _⟩
theorem Shp.bl {i : Bool} : Shp (.bool i) 0 := ⟨by simp only [PyData.canLay0], by simp only [PyData.depth]; exact Nat.le_refl _⟩
theorem Shp.non : Shp .none 0 := ⟨by simp only [PyData.canLay0], by simp only [PyData.depth]; exact Nat.le_refl _⟩
theorem Shp.str {x : Str} (h : PyData.canLay0 (.str x) = true) : Shp (.str x) 0 := ⟨h, by simp only [PyData.depth]; exact Nat.le_refl _⟩
theorem Shp.ints {xs : List Int} : Shp (.list (xs.map PyData.int)) 1 := Shp.lst fun x hx => by
  obtain ⟨i, _, rfl⟩ := List.mem_map.mp hx; exact Shp.int
theorem Shp.ok {d : PyData} {k : Nat} (h : Shp d k) (hk : k ≤ 64 := by decide) : SeqAt.shaped d = true := by
  unfold SeqAt.shaped
  rw [h.1, decide_eq_true (Nat.le_trans h.2 hk)]; rfl
theorem Dp.natsL {K : PySem.W.Frag} {H : Hp} {a : Addr} {xs : List Nat} (h : SqL K H a (xs.map nV)) : Dp K H (.ref a) (.list ((xs.map fun n : Nat => (n : Int)).map PyData.int)) := .lst (by rw [map_nV] at h; exact h) (dpAll_ints _)
theorem x_neSame {K : PySem.W.Frag} {H : Hp} {Q : VK} {x y : V} {d : PyData} {k : Nat} (hx : Dp K H x d) (hy : Dp K H y d) (hs : Shp d k) (h : Q (.bl false) H) (hk : k ≤ 64 := by decide) : rNeD K x y H Q := ⟨d, d, hx, hy, hs.ok hk, hs.ok hk, by
  rw [SeqAt.eqv_refl d hs.1]; exact h⟩
theorem x_eqSame {K : PySem.W.Frag} {H : Hp} {Q : VK} {x y : V} {d : PyData} {k : Nat} (hx : Dp K H x d) (hy : Dp K H y d) (hs : Shp d k) (h : Q (.bl true) H) (hk : k ≤ 64 := by decide) : rEqD K x y H Q := ⟨d, d, hx, hy, hs.ok hk, hs.ok hk, by
  rw [SeqAt.eqv_refl d hs.1]; exact h⟩
end Nn
/-! A made function handed to a def: the cells that it captured lie as they lay at the entry. -/
namespace Nn
open PySem PySem.Spec PyProof.Rows L2 NdefX LamX
section
variable {X : Cx} {pins : List (Addr × Obj)} {σ : L2.St} {H : Hp} {s : Shared} {cl : List (Str × Addr)} {fr : List Str} {ws : List (Option V)} {js : List Nat}
theorem cells_later (C : CellsAt cl fr ws X.s_0.heap X.H_0) (hx : X.ex = []) (I : Inv X pins σ H s) : CellsAt cl fr ws s.heap H := by
  have nx : ∀ c : Addr, c ∉ X.ex := fun c z => by rw [hx] at z; cases z
  have kp : ∀ y c, cl.lookup y = some c → ∀ v, X.s_0.heap.IsCell c v → s.heap.IsCell c v := fun y c e v ⟨o, ho, hd⟩ => by
    obtain ⟨sl, h⟩ := I.base.any ho (C.all y c e).1 (nx c)
    exact ⟨_, h, hd⟩
  refine ⟨C.len, fun y c e => ?_, C.inj, fun i y e => ?_⟩
  · obtain ⟨n, v, z⟩ := C.all y c e
    refine ⟨?_, v, kp y c e v z⟩
    obtain ⟨o, ho, _⟩ := z
    exact I.base.free c o ho n (nx c)
  · obtain ⟨c, hc, hv⟩ := C.has i y e
    refine ⟨c, hc, fun v ev => ?_⟩
    obtain ⟨u, r, z⟩ := hv v ev
    exact ⟨u, r, kp y c hc _ z⟩
/-- where a running def knows what the cells hold -/
structure Prov (X : Cx) (cl : List (Str × Addr)) (fr : List Str) (ws : L2.St → List (Option V)) : Prop where
  at_ : ∀ (pins : List (Addr × Obj)) (σ : L2.St) (H : Hp) (s : Shared), Inv X pins σ H s → CellsAt cl fr (ws σ) s.heap H
theorem Prov.entry (C : CellsAt cl fr ws X.s_0.heap X.H_0) (hx : X.ex = []) : Prov X cl fr fun _ => ws := ⟨fun _ _ _ _ I => cells_later C hx I⟩
theorem Prov.own (c : X.Ok → Caps X cl fr js) : Prov X cl fr fun σ => js.map (slotAt σ) := ⟨fun _ _ _ _ I => cells_of I (c I.ok)⟩
end
/-- a def that is handed a made function whose cells hold ws -/
structure FnOkC (P : Program) (w : World) (K : PySem.W.Frag) (mg : Str → Option Value) (base : Heap) (CX : CXT) (k : Nat) (f : Addr) (fd : FuncData) (ps : List Str) (cl : List (Str × Addr)) (fr : List Str) (ws : List (Option V)) (sp : Sp) : Prop where
  len : ∀ vs H Q E, sp vs H Q E → vs.length = ps.length
  run : ∀ (A : Around) (outer : List Env) (s : Shared) (H : Hp) (args : Args) (us : List Value) (vs : List V) (Q : VK) (E : XK), Room k A → Env0 P w K mg base A outer s H → BindsTo s fd args (ps.zip us) → Vals vs us → CellsAt cl fr ws s.heap H → sp vs H Q E →
    codeAny (model P w) A (.call (.ref f) args) (CR CX outer P w H s Q E) s
theorem fn_ofC {CX : CXT} {P : Program} {w : World} {K : PySem.W.Frag} {mg : Str → Option Value} {base : Heap} {k : Nat} {f : Addr} {name qual : Str} {params : Arguments} {body : List Stmt} {scope : Scope} {dV kV doc pm cdv ct oc : Value} {an od : Option Addr}
    {osl : Array (Option Value)} {N ps : List Str} {cl : List (Str × Addr)} {fr : List Str} {ws : List (Option V)} {sp : Sp} (lk : K.lookup f = some ⟨oc, od, .func (PySem.W.fnOf name qual params body scope dV kV doc pm an cdv ct), osl⟩) (hcd : PySem.W.codeIn K cdv qual = true) (S : FnScope N ps scope)
    (len : ∀ vs H Q E, sp vs H Q E → vs.length = ps.length)
    (hbody : ∀ (A : Around) (outer : List Env) (s : Shared) (H : Hp) (vs : List V) (Q : VK) (E : XK), Room k (A.deeper (envOfC qual scope s.heap.objs.size f cdv)) → CellsAt cl fr ws s.heap H → sp vs H Q E →
      ∃ t, PSs (cxOf CX P w K mg base N qual scope f cdv A outer s H E) body t ∧ t { nx := fun _ H' => Q .non H', rt := Q } (start N vs) H) :
    FnOkC P w K mg base CX (k + 1) f (PySem.W.fnOf name qual params body scope dV kV doc pm an cdv ct) ps cl fr ws sp := by
  refine ⟨len, fun A outer s H args us vs Q E hr e0 hb r hC hsp => ?_⟩
  -- a promise that knows the very heap and state of this entry is not to be had of a def's rule: the rule is gone through once more
  have hl := len _ _ _ _ hsp
  have KX : K.In s.heap := e0.mod.kin.keeps fun b o e => (e0.bs b o e).1
  have lim : s.heap.NoLimit := e0.mod.nolimit.keeps fun b o e => (e0.bs b o e).1
  have hkind : ∀ y ∈ ps.zip us, scope.names.lookup y.1 = some .local ∨ (scope.names.lookup y.1 = some .cell ∧ ((cellsFrom (s.heap.objs.size + 1) scope.names []).lookup y.1).isSome = true) := fun ⟨n, v⟩ hy => by
    rcases S.par n (List.of_mem_zip hy).1 with q | q
    · exact .inl q
    · exact .inr ⟨q, PySem.W.cellsFrom_some _ _ _ (.inl q)⟩
  refine codeAny_call_function hr.depth (KX _ _ lk) rfl S.co S.gen rfl (PySem.W.codeRec_of KX hcd) (hb _ _ _ _ ?_)
  refine wpAny_newFunctionEnv_cells S.kind hkind fun env he s1 x => ?_
  subst he
  refine ⟨lim.keeps x.toInCall.keep, codeAny_func ?_⟩
  obtain ⟨t, ht, hq⟩ := hbody A outer s H vs Q E (hr.deeper _) hC hsp
  have I : Inv (cxOf CX P w K mg base N qual scope f cdv A outer s H E) [] (start N vs) H s1 := inv_start S hr.hd e0 hl r x
  refine wpAny_mono (ht.run [] s1 (start N vs) H _ I hq) (fun fl s' hs => ?_) fun e s' hs => hs
  have fin : ∀ {σ' : L2.St} {H' : Hp} {v : V} {u : Value}, Inv (cxOf CX P w K mg base N qual scope f cdv A outer s H E) [] σ' H' s' → L2.RelV v u → Q v H' → CE outer P w H s Q u s' :=
    fun {σ' H' v u} J rv q => ⟨v, H', J.os, J.bare, J.base, J.hok, rv, q⟩
  cases fl with
  | ret u =>
    obtain ⟨v, σ', H', J, rv, q⟩ := hs
    exact fin J rv q
  | next =>
    obtain ⟨σ', H', J, q⟩ := hs
    exact fin (v := V.non) (u := Value.none) J rfl q
  | brk =>
    obtain ⟨_, _, _, q⟩ := hs
    exact False.elim q
  | cont =>
    obtain ⟨_, _, _, q⟩ := hs
    exact False.elim q
theorem Fun.okC {P : Program} {w : World} {K : PySem.W.Frag} {mg : Str → Option Value} {base : Heap} {x qual : Str} {st : Stmt} {f : Addr} {fd : FuncData} {N ps : List Str} {k : Nat} {cl : List (Str × Addr)} {fr : List Str} {ws : List (Option V)} {sp : Sp} (F : Fun K x qual st f fd) (S : FnScope N ps (defScope st)) (len : ∀ vs H Q E, sp vs H Q E → vs.length = ps.length)
    (hbody : ∀ (cdv : Value) (A : Around) (outer : List Env) (s : Shared) (H : Hp) (vs : List V) (Q : VK) (E : XK), Room k (A.deeper (envOfC qual (defScope st) s.heap.objs.size f cdv)) → CellsAt cl fr ws s.heap H → sp vs H Q E →
      ∃ t, PSs (cxOf CX0 P w K mg base N qual (defScope st) f cdv A outer s H E).nox (defBody st) t ∧ t { nx := fun _ H' => Q .non H', rt := Q } (start N vs) H) : FnOkC P w K mg base CX0 (k + 1) f fd ps cl fr ws sp := by
  obtain ⟨oc, od, kV, doc, pm, an, cdv, ct, osl, rfl, lk, hcd⟩ := F.ex
  refine fn_ofC lk hcd S len fun A outer s H vs Q E hr hC hsp => ?_
  obtain ⟨t, h, q⟩ := hbody cdv A outer s H vs Q E hr hC hsp
  exact ⟨t, h.nox, q⟩
/-- a def that needs no cells serves where they are told -/
theorem FnOkC.of {P : Program} {w : World} {K : PySem.W.Frag} {mg : Str → Option Value} {base : Heap} {CX : CXT} {k : Nat} {f : Addr} {fd : FuncData} {ps : List Str} {cl : List (Str × Addr)} {fr : List Str} {ws : List (Option V)} {sp : Sp} (F : FnOk P w K mg base CX k f fd ps sp) : FnOkC P w K mg base CX k f fd ps cl fr ws sp :=
  ⟨F.len, fun A outer s H args us vs Q E hr e0 hb r _ h => F.run A outer s H args us vs Q E hr e0 hb r h⟩
section
variable {X : Cx} {CX : CXT} {k j i : Nat} {f C : Addr} {fd : FuncData} {ps : List Str} {cl : List (Str × Addr)} {fr : List Str} {ws : L2.St → List (Option V)} {sp : List (Option V) → Sp} {dvs : List V} {ds : List Value} {E : XK} {x m : Str} {p pos apos : Pos} {e o : Expr} {es : List Expr} {ta : TE} {t : TA}
theorem run_fnC {pins : List (Addr × Obj)} {σ : L2.St} {H : Hp} {s : Shared} {Q : VK} {us : List Value} {vs : List V} (F : FnOkC X.prog X.w X.K X.mg X.base CX k f fd ps cl fr (ws σ) (sp (ws σ))) (pr : Prov X cl fr ws) (hr : Room k X.A) (hb : Binds X.K fd ps ds) (hd : Vals dvs ds) (hx : Passes CX X E)
    (I : Inv X pins σ H s) (r : Vals vs us) (h : sp (ws σ) (vs ++ dvs) H Q E) : wpAny (model X.prog X.w) X.A (call (.ref f) us) (EP X pins σ Q) X.xe s := by
  have r2 : Vals (vs ++ dvs) (us ++ ds) := r.append hd
  have hl : (us ++ ds).length = ps.length := by rw [← r2.length]; exact F.len _ _ _ _ h
  refine wpAny_call (codeAny_mono (F.run X.A X.stack s H ⟨us, []⟩ (us ++ ds) (vs ++ dvs) Q E hr I.env0 (hb s us I.kIn hl) r2 (pr.at_ pins σ H s I) h) fun r s' hq => ?_)
  cases r with
  | error e => exact hx pins σ H s e s' I hq
  | ok fl =>
    cases fl with
    | ret u => exact I.after hq
    | next => exact False.elim hq
    | brk => exact False.elim hq
    | cont => exact False.elim hq
def tCallC (ws : L2.St → List (Option V)) (sp : List (Option V) → Sp) (dvs : List V) (E : XK) (t : TA) : TE := fun σ H Q => t σ H fun vs H1 => sp (ws σ) (vs ++ dvs) H1 Q E
theorem pe_callC (F : ∀ ws, FnOkC X.prog X.w X.K X.mg X.base CX k f fd ps cl fr ws (sp ws)) (pr : Prov X cl fr ws) (hr : Room k X.A) (hg : Gl X x) (hm : X.mg x = some (.ref f)) (hk : PySem.W.keepIn X.K (.ref f) = true) (hb : Binds X.K fd ps ds) (hd : Vals dvs ds) (hx : Passes CX X E)
    (ha : PA X (e :: es) t) (hdb : (x == ("__debug__" : Str)) = false := by decide) (he : starEach (e :: es) X.env = (false, eval e X.env) :: starEach es X.env := by rfl) (hpl : (backTo pos (starEach es X.env)).any (·.1) = false := by rfl) :
    PE X (.Call (.Name x p) (e :: es) [] pos) (tCallC ws sp dvs E t) := by
  refine ⟨fun pins s σ H Q I h => ?_⟩
  refine wpAny_Call_Name_kw (ld_glob I hg hm ?_ hdb)
  refine PySem.W.callWith_K (h₀ := X.base) I.ok.mod.kin hk (thn (ha.run pos pins s σ H _ I h) fun us s1 ⟨vs, H1, I1, r, q⟩ => ⟨I1.kIn, ?_⟩) he hpl
  exact run_fnC (F _) pr hr hb hd hx I1 r q
def tMethC (C : Addr) (m : Str) (ws : L2.St → List (Option V)) (sp : List (Option V) → Sp) (dvs : List V) (E : XK) (ta : TE) (t : TA) : TE := fun σ H Q => ta σ H fun x H1 => ∃ a dx fs, x = .ref a ∧ H1 a = some (.ins C dx fs) ∧ fs.lookup m = none ∧
  t σ H1 fun vs H2 => sp (ws σ) (x :: (vs ++ dvs)) H2 Q E
theorem pe_methC {pl : Sem Bool} (he : PE X o ta) (c : Cls X.K C) (hm : Meth X.K C m f) (F : ∀ ws, FnOkC X.prog X.w X.K X.mg X.base CX k f fd ps cl fr ws (sp ws)) (pr : Prov X cl fr ws) (hr : Room k X.A) (hb : Binds X.K fd ps ds) (hd : Vals dvs ds) (hx : Passes CX X E) (ha : PA X (e :: es) t)
    (hst : starEach (e :: es) X.env = (false, eval e X.env) :: starEach es X.env := by rfl) (hpl : (backTo pos (starEach es X.env)).any (·.1) = false := by rfl)
    (ht : eval (.Call (.Attribute o m apos) (e :: es) [] pos) X.env = (do
      let ov ← eval o X.env
      standAt apos.atName
      let (f, first) ← holding [ov] (getMethod ov m pl)
      callWith pos f first (backTo pos (starEach (e :: es) X.env)) (backToKw pos (keywordEach [] X.env))) := by rfl) :
    PE X (.Call (.Attribute o m apos) (e :: es) [] pos) (tMethC C m ws sp dvs E ta t) := by
  refine ⟨fun pins s σ H Q I h => ?_⟩
  refine PySem.W.methodCall_KW (pl := pl) (thn (he.run pins s σ H _ I h) fun u s1 ⟨x, H1, I1, rx, a, dx, fs, ex, ea, l, q⟩ => ?_) ht
  subst ex
  obtain rfl : u = Value.ref a := rx
  refine getmeth_ok I1 ea c hm l ?_
  refine PySem.W.callWith_K (first := [.ref a]) (h₀ := X.base) I.ok.mod.kin hm.kp (thn (ha.run pos pins s1 σ H1 _ I1 q) fun us s2 ⟨vs, H2, I2, r, q2⟩ => ⟨I2.kIn, ?_⟩) hst hpl
  exact run_fnC (us := .ref a :: us) (vs := .ref a :: vs) (F _) pr hr hb hd hx I2 (.cons rfl r) q2
/-- a call of a name that holds the made function F -/
def tCallF (F : NF) (i : Nat) (ws : L2.St → List (Option V)) (sp : Addr → List (Option V) → Sp) (E : XK) (t : TA) : TE := fun σ H Q => ∃ f, σ[i]? = some (some (.ref f)) ∧ H f = some (FnO f F) ∧
  t σ H fun vs H1 => H1 f = some (FnO f F) ∧ H1 F.c = some (CodeO F.c F.qual) ∧ sp f (ws σ) vs H1 Q E
theorem pe_callF {F : NF} {sp : Addr → List (Option V) → Sp} (Fn : ∀ f, NOk X.prog X.w X.K X.mg X.base CX k f F ps fr (sp f)) (pr : Prov X F.cl fr ws) (hr : Room j X.A) (hk : k ≤ j) (hx : Passes CX X E) (hN : X.N[i]? = some x) (hv : Vis X.env.scope x) (ha : PA X (e :: es) t)
    (hd : (x == ("__debug__" : Str)) = false := by decide) (hcd : (x == ("__classdict__" : Str)) = false := by decide)
    (he : starEach (e :: es) X.env = (false, eval e X.env) :: starEach es X.env := by rfl) (hpl : (backTo pos (starEach es X.env)).any (·.1) = false := by rfl) :
    PE X (.Call (.Name x p) (e :: es) [] pos) (tCallF F i ws sp E t) := by
  refine ⟨fun pins s σ H Q I h => ?_⟩
  obtain ⟨f, hs, hf, ht⟩ := h
  refine wpAny_Call_Name_kw (thn ((pe_var (pos := p) hN hv hd hcd).run pins s σ H (fun v H1 => v = .ref f ∧ H1 = H) I ⟨.ref f, hs, rfl, rfl⟩) fun u s1 ⟨v, H1, I1, r1, q1⟩ => ?_)
  obtain ⟨ev, eH⟩ := q1
  subst ev
  rw [eH] at I1
  obtain rfl : u = Value.ref f := r1
  refine PySem.W.callWith_F (first := []) (fnAt_of I1 hf) (thn (ha.run pos pins s1 σ H _ I1 ht) fun us s2 ⟨vs, H2, I2, r, h1, h2, q⟩ => ⟨fnAt_of I2 h1, ?_⟩) he hpl
  show wpAny _ _ (call (.ref f) us) _ _ _
  refine wpAny_call (codeAny_mono ((Fn f).run X.A X.stack s2 H2 us vs _ Q E (hr.mono hk) I2.env0 h1 h2 (pr.at_ pins σ H2 s2 I2) r q) fun r s' hq => ?_)
  cases r with
  | error e => exact hx pins σ H2 s2 e s' I2 hq
  | ok fl =>
    cases fl with
    | ret u => exact I2.after hq
    | next => exact False.elim hq
    | brk => exact False.elim hq
    | cont => exact False.elim hq
end
end Nn

/-! closures in sight: their readings, for the walk -/
namespace Nn
open PySem PySem.Spec PyProof.Rows L2 NdefX LamX
theorem FunD.okC {P : Program} {w : World} {K : PySem.W.Frag} {mg : Str → Option Value} {base : Heap} {x qual : Str} {st : Stmt} {f : Addr} {fd : FuncData} {dvs : List V} {kws : List (Str × V)} {N ps : List Str} {k : Nat} {cl : List (Str × Addr)} {fr : List Str} {ws : List (Option V)} {sp : Sp} (F : FunD K x qual (defArgs st) (defBody st) (defScope st) dvs kws f fd) (S : FnScope N ps (defScope st)) (len : ∀ vs H Q E, sp vs H Q E → vs.length = ps.length)
    (hbody : ∀ (cdv : Value) (A : Around) (outer : List Env) (s : Shared) (H : Hp) (vs : List V) (Q : VK) (E : XK), Room k (A.deeper (envOfC qual (defScope st) s.heap.objs.size f cdv)) → CellsAt cl fr ws s.heap H → sp vs H Q E →
      ∃ t, PSs (cxOf CX0 P w K mg base N qual (defScope st) f cdv A outer s H E).nox (defBody st) t ∧ t { nx := fun _ H' => Q .non H', rt := Q } (start N vs) H) : FnOkC P w K mg base CX0 (k + 1) f fd ps cl fr ws sp := by
  obtain ⟨oc, od, dV, kV, doc, pm, an, cdv, ct, osl, rfl, lk, hcd, _, _⟩ := F.ex
  refine fn_ofC lk hcd S len fun A outer s H vs Q E hr hC hsp => ?_
  obtain ⟨t, h, q⟩ := hbody cdv A outer s H vs Q E hr hC hsp
  exact ⟨t, h.nox, q⟩
def RMtC (C : Addr) (m : Str) (ws : L2.St → List (Option V)) (sp : List (Option V) → Sp) (dvs : List V) (E : XK) (t : TA) (σ : L2.St) (Q : VK) : VK := fun x H1 => ∃ a dx fs, x = .ref a ∧ H1 a = some (.ins C dx fs) ∧ fs.lookup m = none ∧ t σ H1 fun vs H2 => sp (ws σ) (x :: (vs ++ dvs)) H2 Q E
theorem e_methC {C : Addr} {m : Str} {ws : L2.St → List (Option V)} {sp : List (Option V) → Sp} {dvs : List V} {E : XK} {ta : TE} {t : TA} {σ : L2.St} {H : Hp} {Q : VK} : tMethC C m ws sp dvs E ta t σ H Q = ta σ H (RMtC C m ws sp dvs E t σ Q) := rfl
theorem x_methC {C : Addr} {m : Str} {ws : L2.St → List (Option V)} {sp : List (Option V) → Sp} {dvs : List V} {E : XK} {t : TA} {σ : L2.St} {H : Hp} {Q : VK} {a dx : Addr} {fs : List (Str × V)} (h : H a = some (.ins C dx fs)) (l : fs.lookup m = none) (k : t σ H fun vs H2 => sp (ws σ) (.ref a :: (vs ++ dvs)) H2 Q E) : RMtC C m ws sp dvs E t σ Q (.ref a) H := ⟨a, dx, fs, rfl, h, l, k⟩
theorem e_callC {ws : L2.St → List (Option V)} {sp : List (Option V) → Sp} {dvs : List V} {E : XK} {t : TA} {σ : L2.St} {H : Hp} {Q : VK} : tCallC ws sp dvs E t σ H Q = t σ H fun vs H1 => sp (ws σ) (vs ++ dvs) H1 Q E := rfl
/-- a statement that is never come to -/
def tDead : TS := fun _ _ _ => False
theorem ps_dead {X : Cx} {st : Stmt} : PS X st tDead := ⟨fun _ _ _ _ _ _ h => h.elim⟩
end Nn
namespace Nn
open PySem L2
def top (i : Nat) : Stmt := PySem.Challenge.pw_nearnames_k45_whole_tide_rests.main.body.getD i (.Pass ⟨0, 0, 0, 0⟩)
abbrev s_is_name : Stmt := top 8
abbrev N_is_name : List Str := ["thing", "wide"]
theorem st_is_name (v0 v1 : V) : L2.start ["thing", "wide"] [v0, v1] = [some v0, some v1] := rfl
theorem sc_is_name : FnScope ["thing", "wide"] ["thing", "wide"] (defScope s_is_name) := ⟨rfl, rfl, rfl, by decide +kernel, rfl, by decide +kernel, by decide +kernel⟩
abbrev s_far : Stmt := top 9
abbrev N_far : List Str := ["one", "other"]
theorem st_far (v0 v1 : V) : L2.start ["one", "other"] [v0, v1] = [some v0, some v1] := rfl
theorem sc_far : FnScope ["one", "other"] ["one", "other"] (defScope s_far) := ⟨rfl, rfl, rfl, by decide +kernel, rfl, by decide +kernel, by decide +kernel⟩
abbrev s_nearer : Stmt := top 10
abbrev N_nearer : List Str := ["goal", "one", "other"]
theorem st_nearer (v0 v1 v2 : V) : L2.start ["goal", "one", "other"] [v0, v1, v2] = [some v0, some v1, some v2] := rfl
theorem sc_nearer : FnScope ["goal", "one", "other"] ["goal", "one", "other"] (defScope s_nearer) := ⟨rfl, rfl, rfl, by decide +kernel, rfl, by decide +kernel, by decide +kernel⟩
abbrev s_by_nearness : Stmt := top 11
abbrev N_by_nearness : List Str := ["goal", "names", "by_far", "name", "one"]
theorem st_by_nearness (v0 v1 : V) : L2.start ["goal", "names", "by_far", "name", "one"] [v0, v1] = [some v0, some v1, none, none, none] := rfl
theorem sc_by_nearness : FnScope ["goal", "names", "by_far", "name", "one"] ["goal", "names"] (defScope s_by_nearness) := ⟨rfl, rfl, rfl, by decide +kernel, rfl, by decide +kernel, by decide +kernel⟩
abbrev s_step : Stmt := top 12
abbrev N_step : List Str := ["one", "other"]
theorem st_step (v0 v1 : V) : L2.start ["one", "other"] [v0, v1] = [some v0, some v1] := rfl
theorem sc_step : FnScope ["one", "other"] ["one", "other"] (defScope s_step) := ⟨rfl, rfl, rfl, by decide +kernel, rfl, by decide +kernel, by decide +kernel⟩
abbrev s_span : Stmt := top 13
abbrev N_span : List Str := ["name", "k", "low"]
theorem st_span (v0 v1 : V) : L2.start ["name", "k", "low"] [v0, v1] = [some v0, some v1, none] := rfl
theorem sc_span : FnScope ["name", "k", "low"] ["name", "k"] (defScope s_span) := ⟨rfl, rfl, rfl, by decide +kernel, rfl, by decide +kernel, by decide +kernel⟩
abbrev s_of_span : Stmt := top 15
abbrev N_of_span : List Str := ["live", "house", "k", "low", "high", "name"]
theorem st_of_span (v0 v1 v2 : V) : L2.start ["live", "house", "k", "low", "high", "name"] [v0, v1, v2] = [some v0, some v1, some v2, none, none, none] := rfl
theorem sc_of_span : FnScope ["live", "house", "k", "low", "high", "name"] ["live", "house", "k"] (defScope s_of_span) := ⟨rfl, rfl, rfl, by decide +kernel, rfl, by decide +kernel, by decide +kernel⟩
abbrev s_is_faulty : Stmt := top 16
abbrev N_is_faulty : List Str := ["names", "live", "room", "house", "k", "name"]
theorem st_is_faulty (v0 v1 v2 v3 v4 : V) : L2.start ["names", "live", "room", "house", "k", "name"] [v0, v1, v2, v3, v4] = [some v0, some v1, some v2, some v3, some v4, none] := rfl
theorem sc_is_faulty : FnScope ["names", "live", "room", "house", "k", "name"] ["names", "live", "room", "house", "k"] (defScope s_is_faulty) := ⟨rfl, rfl, rfl, by decide +kernel, rfl, by decide +kernel, by decide +kernel⟩
abbrev s_fault : Stmt := top 17
abbrev N_fault : List Str := ["town", "live", "house", "k"]
theorem st_fault (v0 : V) : L2.start ["town", "live", "house", "k"] [v0] = [some v0, none, none, none] := rfl
theorem sc_fault : FnScope ["town", "live", "house", "k"] ["town"] (defScope s_fault) := ⟨rfl, rfl, rfl, by decide +kernel, rfl, by decide +kernel, by decide +kernel⟩
abbrev s_holes : Stmt := top 18
abbrev N_holes : List Str := ["town", "live", "found", "house", "k", "known", "name"]
theorem st_holes (v0 : V) : L2.start ["town", "live", "found", "house", "k", "known", "name"] [v0] = [some v0, none, none, none, none, none, none] := rfl
theorem sc_holes : FnScope ["town", "live", "found", "house", "k", "known", "name"] ["town"] (defScope s_holes) := ⟨rfl, rfl, rfl, by decide +kernel, rfl, by decide +kernel, by decide +kernel⟩
abbrev s_look_round : Stmt := top 19
abbrev N_look_round : List Str := ["town", "house", "others", "name"]
theorem st_look_round (v0 v1 : V) : L2.start ["town", "house", "others", "name"] [v0, v1] = [some v0, some v1, none, none] := rfl
theorem sc_look_round : FnScope ["town", "house", "others", "name"] ["town", "house"] (defScope s_look_round) := ⟨rfl, rfl, rfl, by decide +kernel, rfl, by decide +kernel, by decide +kernel⟩
abbrev s_tide : Stmt := top 20
abbrev N_tide : List Str := ["town", "house"]
theorem st_tide (v0 : V) : L2.start ["town", "house"] [v0] = [some v0, none] := rfl
theorem sc_tide : FnScope ["town", "house"] ["town"] (defScope s_tide) := ⟨rfl, rfl, rfl, by decide +kernel, rfl, by decide +kernel, by decide +kernel⟩
abbrev s_standing : Stmt := top 22
abbrev N_standing : List Str := ["goal", "room", "seen", "quiet", "name"]
theorem st_standing (v0 v1 v2 v3 : V) : L2.start ["goal", "room", "seen", "quiet", "name"] [v0, v1, v2, v3] = [some v0, some v1, some v2, some v3, none] := rfl
theorem sc_standing : FnScope ["goal", "room", "seen", "quiet", "name"] ["goal", "room", "seen", "quiet"] (defScope s_standing) := ⟨rfl, rfl, rfl, by decide +kernel, rfl, by decide +kernel, by decide +kernel⟩
abbrev s_asked : Stmt := top 23
abbrev N_asked : List Str := ["start", "goal", "room", "tells", "row", "seen", "name", "quiet", "left", "house", "told", "done"]
theorem st_asked (v0 v1 v2 v3 : V) : L2.start ["start", "goal", "room", "tells", "row", "seen", "name", "quiet", "left", "house", "told", "done"] [v0, v1, v2, v3] = [some v0, some v1, some v2, some v3, none, none, none, none, none, none, none, none] := rfl
theorem sc_asked : FnScope ["start", "goal", "room", "tells", "row", "seen", "name", "quiet", "left", "house", "told", "done"] ["start", "goal", "room", "tells"] (defScope s_asked) := ⟨rfl, rfl, rfl, by decide +kernel, rfl, by decide +kernel, by decide +kernel⟩
abbrev s_onward : Stmt := top 24
abbrev N_onward : List Str := ["here", "goal", "tells", "name"]
theorem st_onward (v0 v1 v2 : V) : L2.start ["here", "goal", "tells", "name"] [v0, v1, v2] = [some v0, some v1, some v2, none] := rfl
theorem sc_onward : FnScope ["here", "goal", "tells", "name"] ["here", "goal", "tells"] (defScope s_onward) := ⟨rfl, rfl, rfl, by decide +kernel, rfl, by decide +kernel, by decide +kernel⟩
abbrev s_way : Stmt := top 25
abbrev N_way : List Str := ["start", "goal", "tells", "line", "other"]
theorem st_way (v0 v1 v2 : V) : L2.start ["start", "goal", "tells", "line", "other"] [v0, v1, v2] = [some v0, some v1, some v2, none, none] := rfl
theorem sc_way : FnScope ["start", "goal", "tells", "line", "other"] ["start", "goal", "tells"] (defScope s_way) := ⟨rfl, rfl, rfl, by decide +kernel, rfl, by decide +kernel, by decide +kernel⟩
abbrev s_Bucket_init : Stmt := inClass (top 28) 0
abbrev N_Bucket_init : List Str := ["self", "room"]
theorem st_Bucket_init (v0 v1 : V) : L2.start ["self", "room"] [v0, v1] = [some v0, some v1] := rfl
theorem sc_Bucket_init : FnScope ["self", "room"] ["self", "room"] (defScope s_Bucket_init) := ⟨rfl, rfl, rfl, by decide +kernel, rfl, by decide +kernel, by decide +kernel⟩
abbrev s_Bucket_names : Stmt := inClass (top 28) 1
abbrev N_Bucket_names : List Str := ["self"]
theorem st_Bucket_names (v0 : V) : L2.start ["self"] [v0] = [some v0] := rfl
theorem sc_Bucket_names : FnScope ["self"] ["self"] (defScope s_Bucket_names) := ⟨rfl, rfl, rfl, by decide +kernel, rfl, by decide +kernel, by decide +kernel⟩
abbrev s_Bucket_hears : Stmt := inClass (top 28) 2
abbrev N_Bucket_hears : List Str := ["self", "name", "answers"]
theorem st_Bucket_hears (v0 v1 v2 : V) : L2.start ["self", "name", "answers"] [v0, v1, v2] = [some v0, some v1, some v2] := rfl
theorem sc_Bucket_hears : FnScope ["self", "name", "answers"] ["self", "name", "answers"] (defScope s_Bucket_hears) := ⟨rfl, rfl, rfl, by decide +kernel, rfl, by decide +kernel, by decide +kernel⟩
abbrev s_Bucket_drops : Stmt := inClass (top 28) 3
abbrev N_Bucket_drops : List Str := ["self", "name"]
theorem st_Bucket_drops (v0 v1 : V) : L2.start ["self", "name"] [v0, v1] = [some v0, some v1] := rfl
theorem sc_Bucket_drops : FnScope ["self", "name"] ["self", "name"] (defScope s_Bucket_drops) := ⟨rfl, rfl, rfl, by decide +kernel, rfl, by decide +kernel, by decide +kernel⟩
abbrev s_Table_init : Stmt := inClass (top 30) 0
abbrev N_Table_init : List Str := ["self", "own", "wide", "room", "k"]
theorem st_Table_init (v0 v1 v2 v3 : V) : L2.start ["self", "own", "wide", "room", "k"] [v0, v1, v2, v3] = [some v0, some v1, some v2, some v3, none] := rfl
theorem sc_Table_init : FnScope ["self", "own", "wide", "room", "k"] ["self", "own", "wide", "room"] (defScope s_Table_init) := ⟨rfl, rfl, rfl, by decide +kernel, rfl, by decide +kernel, by decide +kernel⟩
abbrev s_Table_bucket_for : Stmt := inClass (top 30) 1
abbrev N_Table_bucket_for : List Str := ["self", "name"]
theorem st_Table_bucket_for (v0 v1 : V) : L2.start ["self", "name"] [v0, v1] = [some v0, some v1] := rfl
theorem sc_Table_bucket_for : FnScope ["self", "name"] ["self", "name"] (defScope s_Table_bucket_for) := ⟨rfl, rfl, rfl, by decide +kernel, rfl, by decide +kernel, by decide +kernel⟩
abbrev s_Table_hears : Stmt := inClass (top 30) 2
abbrev N_Table_hears : List Str := ["self", "name", "answers"]
theorem st_Table_hears (v0 v1 v2 : V) : L2.start ["self", "name", "answers"] [v0, v1, v2] = [some v0, some v1, some v2] := rfl
theorem sc_Table_hears : FnScope ["self", "name", "answers"] ["self", "name", "answers"] (defScope s_Table_hears) := ⟨rfl, rfl, rfl, by decide +kernel, rfl, by decide +kernel, by decide +kernel⟩
abbrev s_Table_drops : Stmt := inClass (top 30) 3
abbrev N_Table_drops : List Str := ["self", "name"]
theorem st_Table_drops (v0 v1 : V) : L2.start ["self", "name"] [v0, v1] = [some v0, some v1] := rfl
theorem sc_Table_drops : FnScope ["self", "name"] ["self", "name"] (defScope s_Table_drops) := ⟨rfl, rfl, rfl, by decide +kernel, rfl, by decide +kernel, by decide +kernel⟩
abbrev s_Table_bucket : Stmt := inClass (top 30) 4
abbrev N_Table_bucket : List Str := ["self", "k"]
theorem st_Table_bucket (v0 v1 : V) : L2.start ["self", "k"] [v0, v1] = [some v0, some v1] := rfl
theorem sc_Table_bucket : FnScope ["self", "k"] ["self", "k"] (defScope s_Table_bucket) := ⟨rfl, rfl, rfl, by decide +kernel, rfl, by decide +kernel, by decide +kernel⟩
abbrev s_Table_keeps : Stmt := inClass (top 30) 5
abbrev N_Table_keeps : List Str := ["self", "found", "bucket"]
theorem st_Table_keeps (v0 : V) : L2.start ["self", "found", "bucket"] [v0] = [some v0, none, none] := rfl
theorem sc_Table_keeps : FnScope ["self", "found", "bucket"] ["self"] (defScope s_Table_keeps) := ⟨rfl, rfl, rfl, by decide +kernel, rfl, by decide +kernel, by decide +kernel⟩
abbrev s_Table_nearest : Stmt := inClass (top 30) 6
abbrev N_Table_nearest : List Str := ["self", "goal", "many", "but", "some", "name"]
theorem st_Table_nearest (v0 v1 v2 v3 : V) : L2.start ["self", "goal", "many", "but", "some", "name"] [v0, v1, v2, v3] = [some v0, some v1, some v2, some v3, none, none] := rfl
theorem sc_Table_nearest : FnScope ["self", "goal", "many", "but", "some", "name"] ["self", "goal", "many", "but"] (defScope s_Table_nearest) := ⟨rfl, rfl, rfl, by decide +kernel, rfl, by decide +kernel, by decide +kernel⟩
abbrev s_is_size : Stmt := top 34
abbrev N_is_size : List Str := ["thing", "most"]
theorem st_is_size (v0 v1 : V) : L2.start ["thing", "most"] [v0, v1] = [some v0, some v1] := rfl
theorem sc_is_size : FnScope ["thing", "most"] ["thing", "most"] (defScope s_is_size) := ⟨rfl, rfl, rfl, by decide +kernel, rfl, by decide +kernel, by decide +kernel⟩
abbrev s_Town_init : Stmt := inClass (top 35) 0
abbrev N_Town_init : List Str := ["self", "wide", "room"]
theorem st_Town_init (v0 v1 v2 : V) : L2.start ["self", "wide", "room"] [v0, v1, v2] = [some v0, some v1, some v2] := rfl
theorem sc_Town_init : FnScope ["self", "wide", "room"] ["self", "wide", "room"] (defScope s_Town_init) := ⟨rfl, rfl, rfl, by decide +kernel, rfl, by decide +kernel, by decide +kernel⟩
abbrev s_Town_houses : Stmt := inClass (top 35) 1
abbrev N_Town_houses : List Str := ["self"]
theorem st_Town_houses (v0 : V) : L2.start ["self"] [v0] = [some v0] := rfl
theorem sc_Town_houses : FnScope ["self"] ["self"] (defScope s_Town_houses) := ⟨rfl, rfl, rfl, by decide +kernel, rfl, by decide +kernel, by decide +kernel⟩
abbrev s_Town_answers : Stmt := inClass (top 35) 2
abbrev N_Town_answers : List Str := ["self", "name"]
theorem st_Town_answers (v0 v1 : V) : L2.start ["self", "name"] [v0, v1] = [some v0, some v1] := rfl
theorem sc_Town_answers : FnScope ["self", "name"] ["self", "name"] (defScope s_Town_answers) := ⟨rfl, rfl, rfl, by decide +kernel, rfl, by decide +kernel, by decide +kernel⟩
abbrev s_Town_answering : Stmt := inClass (top 35) 3
abbrev N_Town_answering : List Str := ["self", "house"]
theorem st_Town_answering (v0 : V) : L2.start ["self", "house"] [v0] = [some v0, none] := rfl
theorem sc_Town_answering : FnScope ["self", "house"] ["self"] (defScope s_Town_answering) := ⟨rfl, rfl, rfl, by decide +kernel, rfl, by decide +kernel, by decide +kernel⟩
abbrev s_Town_table : Stmt := inClass (top 35) 4
abbrev N_Town_table : List Str := ["self", "house"]
theorem st_Town_table (v0 v1 : V) : L2.start ["self", "house"] [v0, v1] = [some v0, some v1] := rfl
theorem sc_Town_table : FnScope ["self", "house"] ["self", "house"] (defScope s_Town_table) := ⟨rfl, rfl, rfl, by decide +kernel, rfl, by decide +kernel, by decide +kernel⟩
abbrev s_Town_look_awake : Stmt := inClass (top 35) 5
abbrev N_Town_look_awake : List Str := ["self", "house"]
theorem st_Town_look_awake (v0 v1 : V) : L2.start ["self", "house"] [v0, v1] = [some v0, some v1] := rfl
theorem sc_Town_look_awake : FnScope ["self", "house"] ["self", "house"] (defScope s_Town_look_awake) := ⟨rfl, rfl, rfl, by decide +kernel, rfl, by decide +kernel, by decide +kernel⟩
abbrev s_Town_look_named : Stmt := inClass (top 35) 6
abbrev N_Town_look_named : List Str := ["self", "name"]
theorem st_Town_look_named (v0 v1 : V) : L2.start ["self", "name"] [v0, v1] = [some v0, some v1] := rfl
theorem sc_Town_look_named : FnScope ["self", "name"] ["self", "name"] (defScope s_Town_look_named) := ⟨rfl, rfl, rfl, by decide +kernel, rfl, by decide +kernel, by decide +kernel⟩
abbrev s_Town_bucket : Stmt := inClass (top 35) 7
abbrev N_Town_bucket : List Str := ["self", "house", "k"]
theorem st_Town_bucket (v0 v1 v2 : V) : L2.start ["self", "house", "k"] [v0, v1, v2] = [some v0, some v1, some v2] := rfl
theorem sc_Town_bucket : FnScope ["self", "house", "k"] ["self", "house", "k"] (defScope s_Town_bucket) := ⟨rfl, rfl, rfl, by decide +kernel, rfl, by decide +kernel, by decide +kernel⟩
abbrev s_Town_keeps : Stmt := inClass (top 35) 8
abbrev N_Town_keeps : List Str := ["self", "house"]
theorem st_Town_keeps (v0 v1 : V) : L2.start ["self", "house"] [v0, v1] = [some v0, some v1] := rfl
theorem sc_Town_keeps : FnScope ["self", "house"] ["self", "house"] (defScope s_Town_keeps) := ⟨rfl, rfl, rfl, by decide +kernel, rfl, by decide +kernel, by decide +kernel⟩
abbrev s_Town_tells : Stmt := inClass (top 35) 9
abbrev N_Town_tells : List Str := ["self", "house", "goal", "asker"]
theorem st_Town_tells (v0 v1 v2 v3 : V) : L2.start ["self", "house", "goal", "asker"] [v0, v1, v2, v3] = [some v0, some v1, some v2, some v3] := rfl
theorem sc_Town_tells : FnScope ["self", "house", "goal", "asker"] ["self", "house", "goal", "asker"] (defScope s_Town_tells) := ⟨rfl, rfl, rfl, by decide +kernel, rfl, by decide +kernel, by decide +kernel⟩
abbrev s_Town_hears : Stmt := inClass (top 35) 10
abbrev N_Town_hears : List Str := ["self", "house", "name", "answers"]
theorem st_Town_hears (v0 v1 v2 : V) : L2.start ["self", "house", "name", "answers"] [v0, v1, v2] = [some v0, some v1, some v2, none] := rfl
theorem sc_Town_hears : FnScope ["self", "house", "name", "answers"] ["self", "house", "name"] (defScope s_Town_hears) := ⟨rfl, rfl, rfl, by decide +kernel, rfl, by decide +kernel, by decide +kernel⟩
abbrev s_Town_come_to : Stmt := inClass (top 35) 11
abbrev N_Town_come_to : List Str := ["self", "house", "found", "at", "other"]
theorem st_Town_come_to (v0 v1 : V) : L2.start ["self", "house", "found", "at", "other"] [v0, v1] = [some v0, some v1, none, none, none] := rfl
theorem sc_Town_come_to : FnScope ["self", "house", "found", "at", "other"] ["self", "house"] (defScope s_Town_come_to) := ⟨rfl, rfl, rfl, by decide +kernel, rfl, by decide +kernel, by decide +kernel⟩
abbrev s_Town_ask : Stmt := inClass (top 35) 12
abbrev N_Town_ask : List Str := ["self", "start", "goal", "tells", "row", "found", "house", "told"]
theorem st_Town_ask (v0 v1 v2 : V) : L2.start ["self", "start", "goal", "tells", "row", "found", "house", "told"] [v0, v1, v2] = [some v0, some v1, some v2, none, none, none, none, none] := rfl
theorem sc_Town_ask : FnScope ["self", "start", "goal", "tells", "row", "found", "house", "told"] ["self", "start", "goal"] (defScope s_Town_ask) := ⟨rfl, rfl, rfl, by decide +kernel, rfl, by decide +kernel, by decide +kernel⟩
abbrev s_Town_way : Stmt := inClass (top 35) 13
abbrev N_Town_way : List Str := ["self", "start", "goal", "tells"]
theorem st_Town_way (v0 v1 v2 : V) : L2.start ["self", "start", "goal", "tells"] [v0, v1, v2] = [some v0, some v1, some v2, none] := rfl
theorem sc_Town_way : FnScope ["self", "start", "goal", "tells"] ["self", "start", "goal"] (defScope s_Town_way) := ⟨rfl, rfl, rfl, by decide +kernel, rfl, by decide +kernel, by decide +kernel⟩
abbrev s_Town_visit : Stmt := inClass (top 35) 14
abbrev N_Town_visit : List Str := ["self", "house", "door", "others", "other"]
theorem st_Town_visit (v0 v1 v2 : V) : L2.start ["self", "house", "door", "others", "other"] [v0, v1, v2] = [some v0, some v1, some v2, none, none] := rfl
theorem sc_Town_visit : FnScope ["self", "house", "door", "others", "other"] ["self", "house", "door"] (defScope s_Town_visit) := ⟨rfl, rfl, rfl, by decide +kernel, rfl, by decide +kernel, by decide +kernel⟩
abbrev s_Town_come : Stmt := inClass (top 35) 15
abbrev N_Town_come : List Str := ["self", "name", "door"]
theorem st_Town_come (v0 v1 v2 : V) : L2.start ["self", "name", "door"] [v0, v1, v2] = [some v0, some v1, some v2] := rfl
theorem sc_Town_come : FnScope ["self", "name", "door"] ["self", "name", "door"] (defScope s_Town_come) := ⟨rfl, rfl, rfl, by decide +kernel, rfl, by decide +kernel, by decide +kernel⟩
abbrev s_Town_go : Stmt := inClass (top 35) 16
abbrev N_Town_go : List Str := ["self", "house"]
theorem st_Town_go (v0 v1 : V) : L2.start ["self", "house"] [v0, v1] = [some v0, some v1] := rfl
theorem sc_Town_go : FnScope ["self", "house"] ["self", "house"] (defScope s_Town_go) := ⟨rfl, rfl, rfl, by decide +kernel, rfl, by decide +kernel, by decide +kernel⟩
abbrev s_Town_hush : Stmt := inClass (top 35) 17
abbrev N_Town_hush : List Str := ["self", "house"]
theorem st_Town_hush (v0 v1 : V) : L2.start ["self", "house"] [v0, v1] = [some v0, some v1] := rfl
theorem sc_Town_hush : FnScope ["self", "house"] ["self", "house"] (defScope s_Town_hush) := ⟨rfl, rfl, rfl, by decide +kernel, rfl, by decide +kernel, by decide +kernel⟩
abbrev s_Town_wake : Stmt := inClass (top 35) 18
abbrev N_Town_wake : List Str := ["self", "house", "door"]
theorem st_Town_wake (v0 v1 v2 : V) : L2.start ["self", "house", "door"] [v0, v1, v2] = [some v0, some v1, some v2] := rfl
theorem sc_Town_wake : FnScope ["self", "house", "door"] ["self", "house", "door"] (defScope s_Town_wake) := ⟨rfl, rfl, rfl, by decide +kernel, rfl, by decide +kernel, by decide +kernel⟩
abbrev s_l_cell_at : Stmt := top 37
abbrev N_l_cell_at : List Str := ["_law_script", "_law_k"]
theorem st_l_cell_at (v0 v1 : V) : L2.start ["_law_script", "_law_k"] [v0, v1] = [some v0, some v1] := rfl
theorem sc_l_cell_at : FnScope ["_law_script", "_law_k"] ["_law_script", "_law_k"] (defScope s_l_cell_at) := ⟨rfl, rfl, rfl, by decide +kernel, rfl, by decide +kernel, by decide +kernel⟩
abbrev s_l_mixed : Stmt := top 38
abbrev N_l_mixed : List Str := ["_law_cell", "_law_k", "_law_number"]
theorem st_l_mixed (v0 v1 : V) : L2.start ["_law_cell", "_law_k", "_law_number"] [v0, v1] = [some v0, some v1, none] := rfl
theorem sc_l_mixed : FnScope ["_law_cell", "_law_k", "_law_number"] ["_law_cell", "_law_k"] (defScope s_l_mixed) := ⟨rfl, rfl, rfl, by decide +kernel, rfl, by decide +kernel, by decide +kernel⟩
abbrev s_l_draw : Stmt := top 39
abbrev N_l_draw : List Str := ["_law_cell", "_law_k", "_law_plain", "_law_number"]
theorem st_l_draw (v0 v1 v2 : V) : L2.start ["_law_cell", "_law_k", "_law_plain", "_law_number"] [v0, v1, v2] = [some v0, some v1, some v2, none] := rfl
theorem sc_l_draw : FnScope ["_law_cell", "_law_k", "_law_plain", "_law_number"] ["_law_cell", "_law_k", "_law_plain"] (defScope s_l_draw) := ⟨rfl, rfl, rfl, by decide +kernel, rfl, by decide +kernel, by decide +kernel⟩
abbrev s_l_sizes : Stmt := top 40
abbrev N_l_sizes : List Str := ["_law_script", "_law_x"]
theorem st_l_sizes (v0 : V) : L2.start ["_law_script", "_law_x"] [v0] = [some v0, none] := rfl
theorem sc_l_sizes : FnScope ["_law_script", "_law_x"] ["_law_script"] (defScope s_l_sizes) := ⟨rfl, rfl, rfl, by decide +kernel, rfl, by decide +kernel, by decide +kernel⟩
abbrev s_l_name : Stmt := top 41
abbrev N_l_name : List Str := ["_law_x", "_law_wide", "_law_base", "_law_many"]
theorem st_l_name (v0 v1 v2 : V) : L2.start ["_law_x", "_law_wide", "_law_base", "_law_many"] [v0, v1, v2] = [some v0, some v1, some v2, none] := rfl
theorem sc_l_name : FnScope ["_law_x", "_law_wide", "_law_base", "_law_many"] ["_law_x", "_law_wide", "_law_base"] (defScope s_l_name) := ⟨rfl, rfl, rfl, by decide +kernel, rfl, by decide +kernel, by decide +kernel⟩
abbrev s_l_come : Stmt := top 42
abbrev N_l_come : List Str := ["_law_town", "_law_x", "_law_base", "_law_most", "_law_live", "_law_name_here"]
theorem st_l_come (v0 v1 v2 v3 : V) : L2.start ["_law_town", "_law_x", "_law_base", "_law_most", "_law_live", "_law_name_here"] [v0, v1, v2, v3] = [some v0, some v1, some v2, some v3, none, none] := rfl
theorem sc_l_come : FnScope ["_law_town", "_law_x", "_law_base", "_law_most", "_law_live", "_law_name_here"] ["_law_town", "_law_x", "_law_base", "_law_most"] (defScope s_l_come) := ⟨rfl, rfl, rfl, by decide +kernel, rfl, by decide +kernel, by decide +kernel⟩
abbrev s_l_deed : Stmt := top 43
abbrev N_l_deed : List Str := ["_law_town", "_law_x", "_law_base", "_law_most", "_law_live", "_law_houses", "_law_deed_here", "_law_other", "_law_name_here", "_law_silent", "_law_house"]
theorem st_l_deed (v0 v1 v2 v3 : V) : L2.start ["_law_town", "_law_x", "_law_base", "_law_most", "_law_live", "_law_houses", "_law_deed_here", "_law_other", "_law_name_here", "_law_silent", "_law_house"] [v0, v1, v2, v3] = [some v0, some v1, some v2, some v3, none, none, none, none, none, none, none] := rfl
theorem sc_l_deed : FnScope ["_law_town", "_law_x", "_law_base", "_law_most", "_law_live", "_law_houses", "_law_deed_here", "_law_other", "_law_name_here", "_law_silent", "_law_house"] ["_law_town", "_law_x", "_law_base", "_law_most"] (defScope s_l_deed) := ⟨rfl, rfl, rfl, by decide +kernel, rfl, by decide +kernel, by decide +kernel⟩
abbrev s_l_fault : Stmt := top 44
abbrev N_l_fault : List Str := ["_law_town", "_law_live", "_law_house", "_law_k", "_law_names", "_law_spanned", "_law_name_here"]
theorem st_l_fault (v0 : V) : L2.start ["_law_town", "_law_live", "_law_house", "_law_k", "_law_names", "_law_spanned", "_law_name_here"] [v0] = [some v0, none, none, none, none, none, none] := rfl
theorem sc_l_fault : FnScope ["_law_town", "_law_live", "_law_house", "_law_k", "_law_names", "_law_spanned", "_law_name_here"] ["_law_town"] (defScope s_l_fault) := ⟨rfl, rfl, rfl, by decide +kernel, rfl, by decide +kernel, by decide +kernel⟩
abbrev s_l_holes : Stmt := top 45
abbrev N_l_holes : List Str := ["_law_town", "_law_live", "_law_found", "_law_house", "_law_k", "_law_spanned", "_law_name_here", "_law_awake"]
theorem st_l_holes (v0 : V) : L2.start ["_law_town", "_law_live", "_law_found", "_law_house", "_law_k", "_law_spanned", "_law_name_here", "_law_awake"] [v0] = [some v0, none, none, none, none, none, none, none] := rfl
theorem sc_l_holes : FnScope ["_law_town", "_law_live", "_law_found", "_law_house", "_law_k", "_law_spanned", "_law_name_here", "_law_awake"] ["_law_town"] (defScope s_l_holes) := ⟨rfl, rfl, rfl, by decide +kernel, rfl, by decide +kernel, by decide +kernel⟩
abbrev s_l_as_it_is : Stmt := top 46
abbrev N_l_as_it_is : List Str := ["_law_town", "_law_tells", "_law_live", "_law_start", "_law_goal"]
theorem st_l_as_it_is (v0 : V) : L2.start ["_law_town", "_law_tells", "_law_live", "_law_start", "_law_goal"] [v0] = [some v0, none, none, none, none] := rfl
theorem sc_l_as_it_is : FnScope ["_law_town", "_law_tells", "_law_live", "_law_start", "_law_goal"] ["_law_town"] (defScope s_l_as_it_is) := ⟨rfl, rfl, rfl, by decide +kernel, rfl, by decide +kernel, by decide +kernel⟩
abbrev s_l_reach : Stmt := top 47
abbrev N_l_reach : List Str := ["_law_town", "_law_house", "_law_live", "_law_found", "_law_turn", "_law_one", "_law_name_here"]
theorem st_l_reach (v0 v1 : V) : L2.start ["_law_town", "_law_house", "_law_live", "_law_found", "_law_turn", "_law_one", "_law_name_here"] [v0, v1] = [some v0, some v1, none, none, none, none, none] := rfl
theorem sc_l_reach : FnScope ["_law_town", "_law_house", "_law_live", "_law_found", "_law_turn", "_law_one", "_law_name_here"] ["_law_town", "_law_house"] (defScope s_l_reach) := ⟨rfl, rfl, rfl, by decide +kernel, rfl, by decide +kernel, by decide +kernel⟩
abbrev s_l_tables : Stmt := top 48
abbrev N_l_tables : List Str := ["_law_town", "_law_tables_here", "_law_house", "_law_k"]
theorem st_l_tables (v0 : V) : L2.start ["_law_town", "_law_tables_here", "_law_house", "_law_k"] [v0] = [some v0, none, none, none] := rfl
theorem sc_l_tables : FnScope ["_law_town", "_law_tables_here", "_law_house", "_law_k"] ["_law_town"] (defScope s_l_tables) := ⟨rfl, rfl, rfl, by decide +kernel, rfl, by decide +kernel, by decide +kernel⟩
abbrev s_l_stays : Stmt := top 49
abbrev N_l_stays : List Str := ["_law_town", "_law_tables_here", "_law_live", "_law_house", "_law_names", "_law_k", "_law_name_here", "_law_bucket"]
theorem st_l_stays (v0 v1 v2 : V) : L2.start ["_law_town", "_law_tables_here", "_law_live", "_law_house", "_law_names", "_law_k", "_law_name_here", "_law_bucket"] [v0, v1, v2] = [some v0, some v1, some v2, none, none, none, none, none] := rfl
theorem sc_l_stays : FnScope ["_law_town", "_law_tables_here", "_law_live", "_law_house", "_law_names", "_law_k", "_law_name_here", "_law_bucket"] ["_law_town", "_law_tables_here", "_law_live"] (defScope s_l_stays) := ⟨rfl, rfl, rfl, by decide +kernel, rfl, by decide +kernel, by decide +kernel⟩
abbrev s_l_washed : Stmt := top 50
abbrev N_l_washed : List Str := ["_law_town", "_law_other", "_law_house"]
theorem st_l_washed (v0 v1 : V) : L2.start ["_law_town", "_law_other", "_law_house"] [v0, v1] = [some v0, some v1, none] := rfl
theorem sc_l_washed : FnScope ["_law_town", "_law_other", "_law_house"] ["_law_town", "_law_other"] (defScope s_l_washed) := ⟨rfl, rfl, rfl, by decide +kernel, rfl, by decide +kernel, by decide +kernel⟩
abbrev s_l_right : Stmt := top 51
abbrev N_l_right : List Str := ["_law_town", "_law_other", "_law_live", "_law_tables_here", "_law_whole", "_law_house", "_law_kept"]
theorem st_l_right (v0 v1 : V) : L2.start ["_law_town", "_law_other", "_law_live", "_law_tables_here", "_law_whole", "_law_house", "_law_kept"] [v0, v1] = [some v0, some v1, none, none, none, none, none] := rfl
theorem sc_l_right : FnScope ["_law_town", "_law_other", "_law_live", "_law_tables_here", "_law_whole", "_law_house", "_law_kept"] ["_law_town", "_law_other"] (defScope s_l_right) := ⟨rfl, rfl, rfl, by decide +kernel, rfl, by decide +kernel, by decide +kernel⟩
abbrev s_law : Stmt := top 52
abbrev N_law : List Str := ["_law_script", "_law_wide", "_law_room", "_law_plain", "_law_town", "_law_other", "_law_base", "_law_cells", "_law_k", "_law_cell"]
theorem st_law (v0 : V) : L2.start ["_law_script", "_law_wide", "_law_room", "_law_plain", "_law_town", "_law_other", "_law_base", "_law_cells", "_law_k", "_law_cell"] [v0] = [some v0, none, none, none, none, none, none, none, none, none] := rfl
theorem sc_law : FnScope ["_law_script", "_law_wide", "_law_room", "_law_plain", "_law_town", "_law_other", "_law_base", "_law_cells", "_law_k", "_law_cell"] ["_law_script"] (defScope s_law) := ⟨rfl, rfl, rfl, by decide +kernel, rfl, by decide +kernel, by decide +kernel⟩
abbrev s_Town_hears_answers : Stmt := (defBody s_Town_hears).getD 0 (.Pass ⟨0, 0, 0, 0⟩)
abbrev N_Town_hears_answers : List Str := ["other", "self"]
abbrev fr_Town_hears_answers : List Str := ["self"]
theorem nsc_Town_hears_answers : NdefX.NScope N_Town_hears_answers ["other"] fr_Town_hears_answers (C8.fnScope s_Town_hears_answers) := NdefX.nscope_by (by decide +kernel)
theorem st_Town_hears_answers (v0 : V) (w0 : Option V) : NdefX.startF ["other", "self"] [v0] [w0] = [some v0, w0] := rfl
theorem ndB_Town_hears_answers : NdefX.ndefB (defScope s_Town_hears) (C8.fnScope s_Town_hears_answers) fr_Town_hears_answers = true := by decide +kernel
abbrev nf_Town_hears_answers (cl : List (Str × Addr)) (c : Addr) : NdefX.NF := NdefX.NF.of s_Town_hears_answers "answers" ((("Town.hears" : Str) ++ ".<locals>.") ++ "answers") cl c
abbrev s_Town_ask_tells : Stmt := (defBody s_Town_ask).getD 0 (.Pass ⟨0, 0, 0, 0⟩)
abbrev N_Town_ask_tells : List Str := ["house", "aim", "asker", "self"]
abbrev fr_Town_ask_tells : List Str := ["self"]
theorem nsc_Town_ask_tells : NdefX.NScope N_Town_ask_tells ["house", "aim", "asker"] fr_Town_ask_tells (C8.fnScope s_Town_ask_tells) := NdefX.nscope_by (by decide +kernel)
theorem st_Town_ask_tells (v0 v1 v2 : V) (w0 : Option V) : NdefX.startF ["house", "aim", "asker", "self"] [v0, v1, v2] [w0] = [some v0, some v1, some v2, w0] := rfl
theorem ndB_Town_ask_tells : NdefX.ndefB (defScope s_Town_ask) (C8.fnScope s_Town_ask_tells) fr_Town_ask_tells = true := by decide +kernel
abbrev nf_Town_ask_tells (cl : List (Str × Addr)) (c : Addr) : NdefX.NF := NdefX.NF.of s_Town_ask_tells "tells" ((("Town.ask" : Str) ++ ".<locals>.") ++ "tells") cl c
abbrev s_Town_way_tells : Stmt := (defBody s_Town_way).getD 0 (.Pass ⟨0, 0, 0, 0⟩)
abbrev N_Town_way_tells : List Str := ["house", "aim", "asker", "self"]
abbrev fr_Town_way_tells : List Str := ["self"]
theorem nsc_Town_way_tells : NdefX.NScope N_Town_way_tells ["house", "aim", "asker"] fr_Town_way_tells (C8.fnScope s_Town_way_tells) := NdefX.nscope_by (by decide +kernel)
theorem st_Town_way_tells (v0 v1 v2 : V) (w0 : Option V) : NdefX.startF ["house", "aim", "asker", "self"] [v0, v1, v2] [w0] = [some v0, some v1, some v2, w0] := rfl
theorem ndB_Town_way_tells : NdefX.ndefB (defScope s_Town_way) (C8.fnScope s_Town_way_tells) fr_Town_way_tells = true := by decide +kernel
abbrev nf_Town_way_tells (cl : List (Str × Addr)) (c : Addr) : NdefX.NF := NdefX.NF.of s_Town_way_tells "tells" ((("Town.way" : Str) ++ ".<locals>.") ++ "tells") cl c
abbrev s_l_as_it_is__law_tells : Stmt := (defBody s_l_as_it_is).getD 0 (.Pass ⟨0, 0, 0, 0⟩)
abbrev N_l_as_it_is__law_tells : List Str := ["_law_house", "_law_aim", "_law_asker", "_law_town"]
abbrev fr_l_as_it_is__law_tells : List Str := ["_law_town"]
theorem nsc_l_as_it_is__law_tells : NdefX.NScope N_l_as_it_is__law_tells ["_law_house", "_law_aim", "_law_asker"] fr_l_as_it_is__law_tells (C8.fnScope s_l_as_it_is__law_tells) := NdefX.nscope_by (by decide +kernel)
theorem st_l_as_it_is__law_tells (v0 v1 v2 : V) (w0 : Option V) : NdefX.startF ["_law_house", "_law_aim", "_law_asker", "_law_town"] [v0, v1, v2] [w0] = [some v0, some v1, some v2, w0] := rfl
theorem ndB_l_as_it_is__law_tells : NdefX.ndefB (defScope s_l_as_it_is) (C8.fnScope s_l_as_it_is__law_tells) fr_l_as_it_is__law_tells = true := by decide +kernel
abbrev nf_l_as_it_is__law_tells (cl : List (Str × Addr)) (c : Addr) : NdefX.NF := NdefX.NF.of s_l_as_it_is__law_tells "_law_tells" ((("_law_as_it_is" : Str) ++ ".<locals>.") ++ "_law_tells") cl c
theorem nm_Town_hears_answers : nmAll 215 8 = (("Town.hears" : Str) ++ ".<locals>.") ++ "answers" := by decide +kernel
theorem nm_Town_ask_tells : nmAll 232 8 = (("Town.ask" : Str) ++ ".<locals>.") ++ "tells" := by decide +kernel
theorem nm_Town_way_tells : nmAll 247 8 = (("Town.way" : Str) ++ ".<locals>.") ++ "tells" := by decide +kernel
theorem nm_l_as_it_is__law_tells : nmAll 365 4 = (("_law_as_it_is" : Str) ++ ".<locals>.") ++ "_law_tells" := by decide +kernel
def tfL : List He.Defn := [("Town", some "hears"), ("Town", some "ask"), ("Town", some "way"), ("_law_as_it_is", none)]
def Tabs0 (K : PySem.W.Frag) (H : Hp) : Prop := ∀ p ∈ tfL.map (He.cT K), H p.2 = some (.tbl #[])
theorem ne_Bucket_room_line : (("room" : Str) == "line") = false := by decide +kernel
theorem eq_Bucket_room : (("room" : Str) == "room") = true := by decide +kernel
theorem ne_Bucket_line_room : (("line" : Str) == "room") = false := by decide +kernel
theorem eq_Bucket_line : (("line" : Str) == "line") = true := by decide +kernel
abbrev f_Bucket (x0 x1 : V) : List (Str × V) := [(("room" : Str), x0), (("line" : Str), x1)]
theorem lk_Bucket_room {x0 x1 : V} : (f_Bucket x0 x1).lookup ("room" : Str) = some x0 := by
  simp only [f_Bucket, List.lookup, ne_Bucket_room_line, eq_Bucket_room]
theorem put_Bucket_room {x0 x1 y : V} : putF "room" y (f_Bucket x0 x1) = f_Bucket y x1 := by
  have e : ∀ a b : Str, (a == b) = false → ¬ a = b := fun a b h z => by rw [z] at h; simp at h
  unfold f_Bucket
  simp only [putF, if_neg (e _ _ ne_Bucket_line_room), if_true]
theorem lk_Bucket_line {x0 x1 : V} : (f_Bucket x0 x1).lookup ("line" : Str) = some x1 := by
  simp only [f_Bucket, List.lookup, ne_Bucket_line_room, eq_Bucket_line]
theorem put_Bucket_line {x0 x1 y : V} : putF "line" y (f_Bucket x0 x1) = f_Bucket x0 y := by
  have e : ∀ a b : Str, (a == b) = false → ¬ a = b := fun a b h z => by rw [z] at h; simp at h
  unfold f_Bucket
  simp only [putF, if_neg (e _ _ ne_Bucket_room_line), if_true]
theorem ini_Bucket_room { y : V} : putF "room" y ([] : List (Str × V)) = [(("room" : Str), y)] := by
  have e : ∀ a b : Str, (a == b) = false → ¬ a = b := fun a b h z => by rw [z] at h; simp at h
  simp only [putF]
theorem ini_Bucket_line {x0 y : V} : putF "line" y ([(("room" : Str), x0)] : List (Str × V)) = [(("room" : Str), x0), (("line" : Str), y)] := by
  have e : ∀ a b : Str, (a == b) = false → ¬ a = b := fun a b h z => by rw [z] at h; simp at h
  simp only [putF, if_neg (e _ _ ne_Bucket_room_line)]
theorem nm_Bucket_names_room : (("names" : Str) == "room") = false := by decide +kernel
theorem nm_Bucket_names_line : (("names" : Str) == "line") = false := by decide +kernel
theorem no_Bucket_names {x0 x1 : V} : (f_Bucket x0 x1).lookup ("names" : Str) = none := by
  simp only [f_Bucket, List.lookup, nm_Bucket_names_room, nm_Bucket_names_line]
theorem nm_Bucket_hears_room : (("hears" : Str) == "room") = false := by decide +kernel
theorem nm_Bucket_hears_line : (("hears" : Str) == "line") = false := by decide +kernel
theorem no_Bucket_hears {x0 x1 : V} : (f_Bucket x0 x1).lookup ("hears" : Str) = none := by
  simp only [f_Bucket, List.lookup, nm_Bucket_hears_room, nm_Bucket_hears_line]
theorem nm_Bucket_drops_room : (("drops" : Str) == "room") = false := by decide +kernel
theorem nm_Bucket_drops_line : (("drops" : Str) == "line") = false := by decide +kernel
theorem no_Bucket_drops {x0 x1 : V} : (f_Bucket x0 x1).lookup ("drops" : Str) = none := by
  simp only [f_Bucket, List.lookup, nm_Bucket_drops_room, nm_Bucket_drops_line]
theorem ne_Table_own_wide : (("own" : Str) == "wide") = false := by decide +kernel
theorem ne_Table_own_room : (("own" : Str) == "room") = false := by decide +kernel
theorem ne_Table_own_buckets : (("own" : Str) == "buckets") = false := by decide +kernel
theorem eq_Table_own : (("own" : Str) == "own") = true := by decide +kernel
theorem ne_Table_wide_own : (("wide" : Str) == "own") = false := by decide +kernel
theorem ne_Table_wide_room : (("wide" : Str) == "room") = false := by decide +kernel
theorem ne_Table_wide_buckets : (("wide" : Str) == "buckets") = false := by decide +kernel
theorem eq_Table_wide : (("wide" : Str) == "wide") = true := by decide +kernel
theorem ne_Table_room_own : (("room" : Str) == "own") = false := by decide +kernel
theorem ne_Table_room_wide : (("room" : Str) == "wide") = false := by decide +kernel
theorem ne_Table_room_buckets : (("room" : Str) == "buckets") = false := by decide +kernel
theorem eq_Table_room : (("room" : Str) == "room") = true := by decide +kernel
theorem ne_Table_buckets_own : (("buckets" : Str) == "own") = false := by decide +kernel
theorem ne_Table_buckets_wide : (("buckets" : Str) == "wide") = false := by decide +kernel
theorem ne_Table_buckets_room : (("buckets" : Str) == "room") = false := by decide +kernel
theorem eq_Table_buckets : (("buckets" : Str) == "buckets") = true := by decide +kernel
abbrev f_Table (x0 x1 x2 x3 : V) : List (Str × V) := [(("own" : Str), x0), (("wide" : Str), x1), (("room" : Str), x2), (("buckets" : Str), x3)]
theorem lk_Table_own {x0 x1 x2 x3 : V} : (f_Table x0 x1 x2 x3).lookup ("own" : Str) = some x0 := by
  simp only [f_Table, List.lookup, ne_Table_own_wide, ne_Table_own_room, ne_Table_own_buckets, eq_Table_own]
theorem put_Table_own {x0 x1 x2 x3 y : V} : putF "own" y (f_Table x0 x1 x2 x3) = f_Table y x1 x2 x3 := by
  have e : ∀ a b : Str, (a == b) = false → ¬ a = b := fun a b h z => by rw [z] at h; simp at h
  unfold f_Table
  simp only [putF, if_neg (e _ _ ne_Table_wide_own), if_neg (e _ _ ne_Table_room_own), if_neg (e _ _ ne_Table_buckets_own), if_true]
theorem lk_Table_wide {x0 x1 x2 x3 : V} : (f_Table x0 x1 x2 x3).lookup ("wide" : Str) = some x1 := by
  simp only [f_Table, List.lookup, ne_Table_wide_own, ne_Table_wide_room, ne_Table_wide_buckets, eq_Table_wide]
theorem put_Table_wide {x0 x1 x2 x3 y : V} : putF "wide" y (f_Table x0 x1 x2 x3) = f_Table x0 y x2 x3 := by
  have e : ∀ a b : Str, (a == b) = false → ¬ a = b := fun a b h z => by rw [z] at h; simp at h
  unfold f_Table
  simp only [putF, if_neg (e _ _ ne_Table_own_wide), if_neg (e _ _ ne_Table_room_wide), if_neg (e _ _ ne_Table_buckets_wide), if_true]
theorem lk_Table_room {x0 x1 x2 x3 : V} : (f_Table x0 x1 x2 x3).lookup ("room" : Str) = some x2 := by
  simp only [f_Table, List.lookup, ne_Table_room_own, ne_Table_room_wide, ne_Table_room_buckets, eq_Table_room]
theorem put_Table_room {x0 x1 x2 x3 y : V} : putF "room" y (f_Table x0 x1 x2 x3) = f_Table x0 x1 y x3 := by
  have e : ∀ a b : Str, (a == b) = false → ¬ a = b := fun a b h z => by rw [z] at h; simp at h
  unfold f_Table
  simp only [putF, if_neg (e _ _ ne_Table_own_room), if_neg (e _ _ ne_Table_wide_room), if_neg (e _ _ ne_Table_buckets_room), if_true]
theorem lk_Table_buckets {x0 x1 x2 x3 : V} : (f_Table x0 x1 x2 x3).lookup ("buckets" : Str) = some x3 := by
  simp only [f_Table, List.lookup, ne_Table_buckets_own, ne_Table_buckets_wide, ne_Table_buckets_room, eq_Table_buckets]
theorem put_Table_buckets {x0 x1 x2 x3 y : V} : putF "buckets" y (f_Table x0 x1 x2 x3) = f_Table x0 x1 x2 y := by
  have e : ∀ a b : Str, (a == b) = false → ¬ a = b := fun a b h z => by rw [z] at h; simp at h
  unfold f_Table
  simp only [putF, if_neg (e _ _ ne_Table_own_buckets), if_neg (e _ _ ne_Table_wide_buckets), if_neg (e _ _ ne_Table_room_buckets), if_true]
theorem ini_Table_own { y : V} : putF "own" y ([] : List (Str × V)) = [(("own" : Str), y)] := by
  have e : ∀ a b : Str, (a == b) = false → ¬ a = b := fun a b h z => by rw [z] at h; simp at h
  simp only [putF]
theorem ini_Table_wide {x0 y : V} : putF "wide" y ([(("own" : Str), x0)] : List (Str × V)) = [(("own" : Str), x0), (("wide" : Str), y)] := by
  have e : ∀ a b : Str, (a == b) = false → ¬ a = b := fun a b h z => by rw [z] at h; simp at h
  simp only [putF, if_neg (e _ _ ne_Table_own_wide)]
theorem ini_Table_room {x0 x1 y : V} : putF "room" y ([(("own" : Str), x0), (("wide" : Str), x1)] : List (Str × V)) = [(("own" : Str), x0), (("wide" : Str), x1), (("room" : Str), y)] := by
  have e : ∀ a b : Str, (a == b) = false → ¬ a = b := fun a b h z => by rw [z] at h; simp at h
  simp only [putF, if_neg (e _ _ ne_Table_own_room), if_neg (e _ _ ne_Table_wide_room)]
theorem ini_Table_buckets {x0 x1 x2 y : V} : putF "buckets" y ([(("own" : Str), x0), (("wide" : Str), x1), (("room" : Str), x2)] : List (Str × V)) = [(("own" : Str), x0), (("wide" : Str), x1), (("room" : Str), x2), (("buckets" : Str), y)] := by
  have e : ∀ a b : Str, (a == b) = false → ¬ a = b := fun a b h z => by rw [z] at h; simp at h
  simp only [putF, if_neg (e _ _ ne_Table_own_buckets), if_neg (e _ _ ne_Table_wide_buckets), if_neg (e _ _ ne_Table_room_buckets)]
theorem nm_Table_bucket_for_own : (("bucket_for" : Str) == "own") = false := by decide +kernel
theorem nm_Table_bucket_for_wide : (("bucket_for" : Str) == "wide") = false := by decide +kernel
theorem nm_Table_bucket_for_room : (("bucket_for" : Str) == "room") = false := by decide +kernel
theorem nm_Table_bucket_for_buckets : (("bucket_for" : Str) == "buckets") = false := by decide +kernel
theorem no_Table_bucket_for {x0 x1 x2 x3 : V} : (f_Table x0 x1 x2 x3).lookup ("bucket_for" : Str) = none := by
  simp only [f_Table, List.lookup, nm_Table_bucket_for_own, nm_Table_bucket_for_wide, nm_Table_bucket_for_room, nm_Table_bucket_for_buckets]
theorem nm_Table_hears_own : (("hears" : Str) == "own") = false := by decide +kernel
theorem nm_Table_hears_wide : (("hears" : Str) == "wide") = false := by decide +kernel
theorem nm_Table_hears_room : (("hears" : Str) == "room") = false := by decide +kernel
theorem nm_Table_hears_buckets : (("hears" : Str) == "buckets") = false := by decide +kernel
theorem no_Table_hears {x0 x1 x2 x3 : V} : (f_Table x0 x1 x2 x3).lookup ("hears" : Str) = none := by
  simp only [f_Table, List.lookup, nm_Table_hears_own, nm_Table_hears_wide, nm_Table_hears_room, nm_Table_hears_buckets]
theorem nm_Table_drops_own : (("drops" : Str) == "own") = false := by decide +kernel
theorem nm_Table_drops_wide : (("drops" : Str) == "wide") = false := by decide +kernel
theorem nm_Table_drops_room : (("drops" : Str) == "room") = false := by decide +kernel
theorem nm_Table_drops_buckets : (("drops" : Str) == "buckets") = false := by decide +kernel
theorem no_Table_drops {x0 x1 x2 x3 : V} : (f_Table x0 x1 x2 x3).lookup ("drops" : Str) = none := by
  simp only [f_Table, List.lookup, nm_Table_drops_own, nm_Table_drops_wide, nm_Table_drops_room, nm_Table_drops_buckets]
theorem nm_Table_bucket_own : (("bucket" : Str) == "own") = false := by decide +kernel
theorem nm_Table_bucket_wide : (("bucket" : Str) == "wide") = false := by decide +kernel
theorem nm_Table_bucket_room : (("bucket" : Str) == "room") = false := by decide +kernel
theorem nm_Table_bucket_buckets : (("bucket" : Str) == "buckets") = false := by decide +kernel
theorem no_Table_bucket {x0 x1 x2 x3 : V} : (f_Table x0 x1 x2 x3).lookup ("bucket" : Str) = none := by
  simp only [f_Table, List.lookup, nm_Table_bucket_own, nm_Table_bucket_wide, nm_Table_bucket_room, nm_Table_bucket_buckets]
theorem nm_Table_keeps_own : (("keeps" : Str) == "own") = false := by decide +kernel
theorem nm_Table_keeps_wide : (("keeps" : Str) == "wide") = false := by decide +kernel
theorem nm_Table_keeps_room : (("keeps" : Str) == "room") = false := by decide +kernel
theorem nm_Table_keeps_buckets : (("keeps" : Str) == "buckets") = false := by decide +kernel
theorem no_Table_keeps {x0 x1 x2 x3 : V} : (f_Table x0 x1 x2 x3).lookup ("keeps" : Str) = none := by
  simp only [f_Table, List.lookup, nm_Table_keeps_own, nm_Table_keeps_wide, nm_Table_keeps_room, nm_Table_keeps_buckets]
theorem nm_Table_nearest_own : (("nearest" : Str) == "own") = false := by decide +kernel
theorem nm_Table_nearest_wide : (("nearest" : Str) == "wide") = false := by decide +kernel
theorem nm_Table_nearest_room : (("nearest" : Str) == "room") = false := by decide +kernel
theorem nm_Table_nearest_buckets : (("nearest" : Str) == "buckets") = false := by decide +kernel
theorem no_Table_nearest {x0 x1 x2 x3 : V} : (f_Table x0 x1 x2 x3).lookup ("nearest" : Str) = none := by
  simp only [f_Table, List.lookup, nm_Table_nearest_own, nm_Table_nearest_wide, nm_Table_nearest_room, nm_Table_nearest_buckets]
theorem ne_Town_wide_room : (("wide" : Str) == "room") = false := by decide +kernel
theorem ne_Town_wide_tables : (("wide" : Str) == "tables") = false := by decide +kernel
theorem ne_Town_wide_hushed : (("wide" : Str) == "hushed") = false := by decide +kernel
theorem eq_Town_wide : (("wide" : Str) == "wide") = true := by decide +kernel
theorem ne_Town_room_wide : (("room" : Str) == "wide") = false := by decide +kernel
theorem ne_Town_room_tables : (("room" : Str) == "tables") = false := by decide +kernel
theorem ne_Town_room_hushed : (("room" : Str) == "hushed") = false := by decide +kernel
theorem eq_Town_room : (("room" : Str) == "room") = true := by decide +kernel
theorem ne_Town_tables_wide : (("tables" : Str) == "wide") = false := by decide +kernel
theorem ne_Town_tables_room : (("tables" : Str) == "room") = false := by decide +kernel
theorem ne_Town_tables_hushed : (("tables" : Str) == "hushed") = false := by decide +kernel
theorem eq_Town_tables : (("tables" : Str) == "tables") = true := by decide +kernel
theorem ne_Town_hushed_wide : (("hushed" : Str) == "wide") = false := by decide +kernel
theorem ne_Town_hushed_room : (("hushed" : Str) == "room") = false := by decide +kernel
theorem ne_Town_hushed_tables : (("hushed" : Str) == "tables") = false := by decide +kernel
theorem eq_Town_hushed : (("hushed" : Str) == "hushed") = true := by decide +kernel
abbrev f_Town (x0 x1 x2 x3 : V) : List (Str × V) := [(("wide" : Str), x0), (("room" : Str), x1), (("tables" : Str), x2), (("hushed" : Str), x3)]
theorem lk_Town_wide {x0 x1 x2 x3 : V} : (f_Town x0 x1 x2 x3).lookup ("wide" : Str) = some x0 := by
  simp only [f_Town, List.lookup, ne_Town_wide_room, ne_Town_wide_tables, ne_Town_wide_hushed, eq_Town_wide]
theorem put_Town_wide {x0 x1 x2 x3 y : V} : putF "wide" y (f_Town x0 x1 x2 x3) = f_Town y x1 x2 x3 := by
  have e : ∀ a b : Str, (a == b) = false → ¬ a = b := fun a b h z => by rw [z] at h; simp at h
  unfold f_Town
  simp only [putF, if_neg (e _ _ ne_Town_room_wide), if_neg (e _ _ ne_Town_tables_wide), if_neg (e _ _ ne_Town_hushed_wide), if_true]
theorem lk_Town_room {x0 x1 x2 x3 : V} : (f_Town x0 x1 x2 x3).lookup ("room" : Str) = some x1 := by
  simp only [f_Town, List.lookup, ne_Town_room_wide, ne_Town_room_tables, ne_Town_room_hushed, eq_Town_room]
theorem put_Town_room {x0 x1 x2 x3 y : V} : putF "room" y (f_Town x0 x1 x2 x3) = f_Town x0 y x2 x3 := by
  have e : ∀ a b : Str, (a == b) = false → ¬ a = b := fun a b h z => by rw [z] at h; simp at h
  unfold f_Town
  simp only [putF, if_neg (e _ _ ne_Town_wide_room), if_neg (e _ _ ne_Town_tables_room), if_neg (e _ _ ne_Town_hushed_room), if_true]
theorem lk_Town_tables {x0 x1 x2 x3 : V} : (f_Town x0 x1 x2 x3).lookup ("tables" : Str) = some x2 := by
  simp only [f_Town, List.lookup, ne_Town_tables_wide, ne_Town_tables_room, ne_Town_tables_hushed, eq_Town_tables]
theorem put_Town_tables {x0 x1 x2 x3 y : V} : putF "tables" y (f_Town x0 x1 x2 x3) = f_Town x0 x1 y x3 := by
  have e : ∀ a b : Str, (a == b) = false → ¬ a = b := fun a b h z => by rw [z] at h; simp at h
  unfold f_Town
  simp only [putF, if_neg (e _ _ ne_Town_wide_tables), if_neg (e _ _ ne_Town_room_tables), if_neg (e _ _ ne_Town_hushed_tables), if_true]
theorem lk_Town_hushed {x0 x1 x2 x3 : V} : (f_Town x0 x1 x2 x3).lookup ("hushed" : Str) = some x3 := by
  simp only [f_Town, List.lookup, ne_Town_hushed_wide, ne_Town_hushed_room, ne_Town_hushed_tables, eq_Town_hushed]
theorem put_Town_hushed {x0 x1 x2 x3 y : V} : putF "hushed" y (f_Town x0 x1 x2 x3) = f_Town x0 x1 x2 y := by
  have e : ∀ a b : Str, (a == b) = false → ¬ a = b := fun a b h z => by rw [z] at h; simp at h
  unfold f_Town
  simp only [putF, if_neg (e _ _ ne_Town_wide_hushed), if_neg (e _ _ ne_Town_room_hushed), if_neg (e _ _ ne_Town_tables_hushed), if_true]
theorem ini_Town_wide { y : V} : putF "wide" y ([] : List (Str × V)) = [(("wide" : Str), y)] := by
  have e : ∀ a b : Str, (a == b) = false → ¬ a = b := fun a b h z => by rw [z] at h; simp at h
  simp only [putF]
theorem ini_Town_room {x0 y : V} : putF "room" y ([(("wide" : Str), x0)] : List (Str × V)) = [(("wide" : Str), x0), (("room" : Str), y)] := by
  have e : ∀ a b : Str, (a == b) = false → ¬ a = b := fun a b h z => by rw [z] at h; simp at h
  simp only [putF, if_neg (e _ _ ne_Town_wide_room)]
theorem ini_Town_tables {x0 x1 y : V} : putF "tables" y ([(("wide" : Str), x0), (("room" : Str), x1)] : List (Str × V)) = [(("wide" : Str), x0), (("room" : Str), x1), (("tables" : Str), y)] := by
  have e : ∀ a b : Str, (a == b) = false → ¬ a = b := fun a b h z => by rw [z] at h; simp at h
  simp only [putF, if_neg (e _ _ ne_Town_wide_tables), if_neg (e _ _ ne_Town_room_tables)]
theorem ini_Town_hushed {x0 x1 x2 y : V} : putF "hushed" y ([(("wide" : Str), x0), (("room" : Str), x1), (("tables" : Str), x2)] : List (Str × V)) = [(("wide" : Str), x0), (("room" : Str), x1), (("tables" : Str), x2), (("hushed" : Str), y)] := by
  have e : ∀ a b : Str, (a == b) = false → ¬ a = b := fun a b h z => by rw [z] at h; simp at h
  simp only [putF, if_neg (e _ _ ne_Town_wide_hushed), if_neg (e _ _ ne_Town_room_hushed), if_neg (e _ _ ne_Town_tables_hushed)]
theorem nm_Town_houses_wide : (("houses" : Str) == "wide") = false := by decide +kernel
theorem nm_Town_houses_room : (("houses" : Str) == "room") = false := by decide +kernel
theorem nm_Town_houses_tables : (("houses" : Str) == "tables") = false := by decide +kernel
theorem nm_Town_houses_hushed : (("houses" : Str) == "hushed") = false := by decide +kernel
theorem no_Town_houses {x0 x1 x2 x3 : V} : (f_Town x0 x1 x2 x3).lookup ("houses" : Str) = none := by
  simp only [f_Town, List.lookup, nm_Town_houses_wide, nm_Town_houses_room, nm_Town_houses_tables, nm_Town_houses_hushed]
theorem nm_Town_answers_wide : (("answers" : Str) == "wide") = false := by decide +kernel
theorem nm_Town_answers_room : (("answers" : Str) == "room") = false := by decide +kernel
theorem nm_Town_answers_tables : (("answers" : Str) == "tables") = false := by decide +kernel
theorem nm_Town_answers_hushed : (("answers" : Str) == "hushed") = false := by decide +kernel
theorem no_Town_answers {x0 x1 x2 x3 : V} : (f_Town x0 x1 x2 x3).lookup ("answers" : Str) = none := by
  simp only [f_Town, List.lookup, nm_Town_answers_wide, nm_Town_answers_room, nm_Town_answers_tables, nm_Town_answers_hushed]
theorem nm_Town_answering_wide : (("answering" : Str) == "wide") = false := by decide +kernel
theorem nm_Town_answering_room : (("answering" : Str) == "room") = false := by decide +kernel
theorem nm_Town_answering_tables : (("answering" : Str) == "tables") = false := by decide +kernel
theorem nm_Town_answering_hushed : (("answering" : Str) == "hushed") = false := by decide +kernel
theorem no_Town_answering {x0 x1 x2 x3 : V} : (f_Town x0 x1 x2 x3).lookup ("answering" : Str) = none := by
  simp only [f_Town, List.lookup, nm_Town_answering_wide, nm_Town_answering_room, nm_Town_answering_tables, nm_Town_answering_hushed]
theorem nm_Town_table_wide : (("table" : Str) == "wide") = false := by decide +kernel
theorem nm_Town_table_room : (("table" : Str) == "room") = false := by decide +kernel
theorem nm_Town_table_tables : (("table" : Str) == "tables") = false := by decide +kernel
theorem nm_Town_table_hushed : (("table" : Str) == "hushed") = false := by decide +kernel
theorem no_Town_table {x0 x1 x2 x3 : V} : (f_Town x0 x1 x2 x3).lookup ("table" : Str) = none := by
  simp only [f_Town, List.lookup, nm_Town_table_wide, nm_Town_table_room, nm_Town_table_tables, nm_Town_table_hushed]
theorem nm_Town_look_awake_wide : (("look_awake" : Str) == "wide") = false := by decide +kernel
theorem nm_Town_look_awake_room : (("look_awake" : Str) == "room") = false := by decide +kernel
theorem nm_Town_look_awake_tables : (("look_awake" : Str) == "tables") = false := by decide +kernel
theorem nm_Town_look_awake_hushed : (("look_awake" : Str) == "hushed") = false := by decide +kernel
theorem no_Town_look_awake {x0 x1 x2 x3 : V} : (f_Town x0 x1 x2 x3).lookup ("look_awake" : Str) = none := by
  simp only [f_Town, List.lookup, nm_Town_look_awake_wide, nm_Town_look_awake_room, nm_Town_look_awake_tables, nm_Town_look_awake_hushed]
theorem nm_Town_look_named_wide : (("look_named" : Str) == "wide") = false := by decide +kernel
theorem nm_Town_look_named_room : (("look_named" : Str) == "room") = false := by decide +kernel
theorem nm_Town_look_named_tables : (("look_named" : Str) == "tables") = false := by decide +kernel
theorem nm_Town_look_named_hushed : (("look_named" : Str) == "hushed") = false := by decide +kernel
theorem no_Town_look_named {x0 x1 x2 x3 : V} : (f_Town x0 x1 x2 x3).lookup ("look_named" : Str) = none := by
  simp only [f_Town, List.lookup, nm_Town_look_named_wide, nm_Town_look_named_room, nm_Town_look_named_tables, nm_Town_look_named_hushed]
theorem nm_Town_bucket_wide : (("bucket" : Str) == "wide") = false := by decide +kernel
theorem nm_Town_bucket_room : (("bucket" : Str) == "room") = false := by decide +kernel
theorem nm_Town_bucket_tables : (("bucket" : Str) == "tables") = false := by decide +kernel
theorem nm_Town_bucket_hushed : (("bucket" : Str) == "hushed") = false := by decide +kernel
theorem no_Town_bucket {x0 x1 x2 x3 : V} : (f_Town x0 x1 x2 x3).lookup ("bucket" : Str) = none := by
  simp only [f_Town, List.lookup, nm_Town_bucket_wide, nm_Town_bucket_room, nm_Town_bucket_tables, nm_Town_bucket_hushed]
theorem nm_Town_keeps_wide : (("keeps" : Str) == "wide") = false := by decide +kernel
theorem nm_Town_keeps_room : (("keeps" : Str) == "room") = false := by decide +kernel
theorem nm_Town_keeps_tables : (("keeps" : Str) == "tables") = false := by decide +kernel
theorem nm_Town_keeps_hushed : (("keeps" : Str) == "hushed") = false := by decide +kernel
theorem no_Town_keeps {x0 x1 x2 x3 : V} : (f_Town x0 x1 x2 x3).lookup ("keeps" : Str) = none := by
  simp only [f_Town, List.lookup, nm_Town_keeps_wide, nm_Town_keeps_room, nm_Town_keeps_tables, nm_Town_keeps_hushed]
theorem nm_Town_tells_wide : (("tells" : Str) == "wide") = false := by decide +kernel
theorem nm_Town_tells_room : (("tells" : Str) == "room") = false := by decide +kernel
theorem nm_Town_tells_tables : (("tells" : Str) == "tables") = false := by decide +kernel
theorem nm_Town_tells_hushed : (("tells" : Str) == "hushed") = false := by decide +kernel
theorem no_Town_tells {x0 x1 x2 x3 : V} : (f_Town x0 x1 x2 x3).lookup ("tells" : Str) = none := by
  simp only [f_Town, List.lookup, nm_Town_tells_wide, nm_Town_tells_room, nm_Town_tells_tables, nm_Town_tells_hushed]
theorem nm_Town_hears_wide : (("hears" : Str) == "wide") = false := by decide +kernel
theorem nm_Town_hears_room : (("hears" : Str) == "room") = false := by decide +kernel
theorem nm_Town_hears_tables : (("hears" : Str) == "tables") = false := by decide +kernel
theorem nm_Town_hears_hushed : (("hears" : Str) == "hushed") = false := by decide +kernel
theorem no_Town_hears {x0 x1 x2 x3 : V} : (f_Town x0 x1 x2 x3).lookup ("hears" : Str) = none := by
  simp only [f_Town, List.lookup, nm_Town_hears_wide, nm_Town_hears_room, nm_Town_hears_tables, nm_Town_hears_hushed]
theorem nm_Town_come_to_wide : (("come_to" : Str) == "wide") = false := by decide +kernel
theorem nm_Town_come_to_room : (("come_to" : Str) == "room") = false := by decide +kernel
theorem nm_Town_come_to_tables : (("come_to" : Str) == "tables") = false := by decide +kernel
theorem nm_Town_come_to_hushed : (("come_to" : Str) == "hushed") = false := by decide +kernel
theorem no_Town_come_to {x0 x1 x2 x3 : V} : (f_Town x0 x1 x2 x3).lookup ("come_to" : Str) = none := by
  simp only [f_Town, List.lookup, nm_Town_come_to_wide, nm_Town_come_to_room, nm_Town_come_to_tables, nm_Town_come_to_hushed]
theorem nm_Town_ask_wide : (("ask" : Str) == "wide") = false := by decide +kernel
theorem nm_Town_ask_room : (("ask" : Str) == "room") = false := by decide +kernel
theorem nm_Town_ask_tables : (("ask" : Str) == "tables") = false := by decide +kernel
theorem nm_Town_ask_hushed : (("ask" : Str) == "hushed") = false := by decide +kernel
theorem no_Town_ask {x0 x1 x2 x3 : V} : (f_Town x0 x1 x2 x3).lookup ("ask" : Str) = none := by
  simp only [f_Town, List.lookup, nm_Town_ask_wide, nm_Town_ask_room, nm_Town_ask_tables, nm_Town_ask_hushed]
theorem nm_Town_way_wide : (("way" : Str) == "wide") = false := by decide +kernel
theorem nm_Town_way_room : (("way" : Str) == "room") = false := by decide +kernel
theorem nm_Town_way_tables : (("way" : Str) == "tables") = false := by decide +kernel
theorem nm_Town_way_hushed : (("way" : Str) == "hushed") = false := by decide +kernel
theorem no_Town_way {x0 x1 x2 x3 : V} : (f_Town x0 x1 x2 x3).lookup ("way" : Str) = none := by
  simp only [f_Town, List.lookup, nm_Town_way_wide, nm_Town_way_room, nm_Town_way_tables, nm_Town_way_hushed]
theorem nm_Town_visit_wide : (("visit" : Str) == "wide") = false := by decide +kernel
theorem nm_Town_visit_room : (("visit" : Str) == "room") = false := by decide +kernel
theorem nm_Town_visit_tables : (("visit" : Str) == "tables") = false := by decide +kernel
theorem nm_Town_visit_hushed : (("visit" : Str) == "hushed") = false := by decide +kernel
theorem no_Town_visit {x0 x1 x2 x3 : V} : (f_Town x0 x1 x2 x3).lookup ("visit" : Str) = none := by
  simp only [f_Town, List.lookup, nm_Town_visit_wide, nm_Town_visit_room, nm_Town_visit_tables, nm_Town_visit_hushed]
theorem nm_Town_come_wide : (("come" : Str) == "wide") = false := by decide +kernel
theorem nm_Town_come_room : (("come" : Str) == "room") = false := by decide +kernel
theorem nm_Town_come_tables : (("come" : Str) == "tables") = false := by decide +kernel
theorem nm_Town_come_hushed : (("come" : Str) == "hushed") = false := by decide +kernel
theorem no_Town_come {x0 x1 x2 x3 : V} : (f_Town x0 x1 x2 x3).lookup ("come" : Str) = none := by
  simp only [f_Town, List.lookup, nm_Town_come_wide, nm_Town_come_room, nm_Town_come_tables, nm_Town_come_hushed]
theorem nm_Town_go_wide : (("go" : Str) == "wide") = false := by decide +kernel
theorem nm_Town_go_room : (("go" : Str) == "room") = false := by decide +kernel
theorem nm_Town_go_tables : (("go" : Str) == "tables") = false := by decide +kernel
theorem nm_Town_go_hushed : (("go" : Str) == "hushed") = false := by decide +kernel
theorem no_Town_go {x0 x1 x2 x3 : V} : (f_Town x0 x1 x2 x3).lookup ("go" : Str) = none := by
  simp only [f_Town, List.lookup, nm_Town_go_wide, nm_Town_go_room, nm_Town_go_tables, nm_Town_go_hushed]
theorem nm_Town_hush_wide : (("hush" : Str) == "wide") = false := by decide +kernel
theorem nm_Town_hush_room : (("hush" : Str) == "room") = false := by decide +kernel
theorem nm_Town_hush_tables : (("hush" : Str) == "tables") = false := by decide +kernel
theorem nm_Town_hush_hushed : (("hush" : Str) == "hushed") = false := by decide +kernel
theorem no_Town_hush {x0 x1 x2 x3 : V} : (f_Town x0 x1 x2 x3).lookup ("hush" : Str) = none := by
  simp only [f_Town, List.lookup, nm_Town_hush_wide, nm_Town_hush_room, nm_Town_hush_tables, nm_Town_hush_hushed]
theorem nm_Town_wake_wide : (("wake" : Str) == "wide") = false := by decide +kernel
theorem nm_Town_wake_room : (("wake" : Str) == "room") = false := by decide +kernel
theorem nm_Town_wake_tables : (("wake" : Str) == "tables") = false := by decide +kernel
theorem nm_Town_wake_hushed : (("wake" : Str) == "hushed") = false := by decide +kernel
theorem no_Town_wake {x0 x1 x2 x3 : V} : (f_Town x0 x1 x2 x3).lookup ("wake" : Str) = none := by
  simp only [f_Town, List.lookup, nm_Town_wake_wide, nm_Town_wake_room, nm_Town_wake_tables, nm_Town_wake_hushed]
end Nn
/-! A made function that outlives the def that made it: its cells are tracked from the maker's end on. -/
namespace Nn
open PySem PySem.Spec PyProof.Rows L2 NdefX LamX
/-- a cell that holds v -/
def CellO (c : Addr) (v : V) : HO := .ext fun h => ∃ u, L2.RelV v u ∧ h.IsCell c (some u)
theorem cellO_ok {P : Program} {w : World} {H : Hp} {h : Heap} {c : Addr} {v : V} {u : Value} (r : L2.RelV v u) (e : h.IsCell c (some u)) : ObjOk P w H h c (CellO c v) := by
  obtain ⟨o, ho, hd⟩ := e
  exact ⟨⟨u, r, o, ho, hd⟩, ⟨o, ho⟩, fun h1 h2 ⟨u1, r1, o1, h3, h4⟩ k => ⟨u1, r1, o1, k _ h3, h4⟩⟩
/-- the cells of a function are tracked: they hold vs -/
structure CellsT (H : Hp) (cl : List (Str × Addr)) (fr : List Str) (vs : List V) : Prop where
  len : vs.length = fr.length
  all : ∀ y c, cl.lookup y = some c → ∃ v, H c = some (CellO c v)
  inj : ∀ x y c, cl.lookup x = some c → cl.lookup y = some c → x = y
  has : ∀ (i : Nat) (y : Str), fr[i]? = some y → ∃ c v, cl.lookup y = some c ∧ vs[i]? = some v ∧ H c = some (CellO c v)
open Classical in
noncomputable def strip (H : Hp) (cl : List (Str × Addr)) : Hp := fun b => if ∃ y, cl.lookup y = some b then none else H b
open Classical in
noncomputable def relay (H H' : Hp) (cl : List (Str × Addr)) : Hp := fun b => if ∃ y, cl.lookup y = some b then H b else H' b
section
variable {H H' : Hp} {cl : List (Str × Addr)} {fr : List Str} {vs : List V} {a : Addr} {o : HO}
theorem strip_in {y : Str} (h : cl.lookup y = some a) : strip H cl a = none := by unfold strip; rw [if_pos ⟨y, h⟩]
theorem strip_out (h : ¬ ∃ y, cl.lookup y = some a) : strip H cl a = H a := by unfold strip; rw [if_neg h]
theorem relay_in {y : Str} (h : cl.lookup y = some a) : relay H H' cl a = H a := by unfold relay; rw [if_pos ⟨y, h⟩]
theorem relay_out (h : ¬ ∃ y, cl.lookup y = some a) : relay H H' cl a = H' a := by unfold relay; rw [if_neg h]
theorem CellsT.no (C : CellsT H cl fr vs) (h : H a = some o) (n : NX o) : ¬ ∃ y, cl.lookup y = some a := fun ⟨y, e⟩ => by
  obtain ⟨v, hv⟩ := C.all y a e
  rw [h] at hv
  have hv := Option.some.inj hv
  rw [hv] at n
  exact n
/-- what is no cell stays in sight -/
theorem strip_at (C : CellsT H cl fr vs) (h : H a = some o) (n : NX o := by trivial) : strip H cl a = some o := by rw [strip_out (C.no h n)]; exact h
theorem strip_none (h : H a = none) : strip H cl a = none := by
  by_cases e : ∃ y, cl.lookup y = some a
  · obtain ⟨y, e⟩ := e; exact strip_in e
  · rw [strip_out e]; exact h
theorem relay_at (C : CellsT H cl fr vs) (f : strip H cl a = none → H' a = none) (h : H' a = some o) : relay H H' cl a = some o := by
  by_cases e : ∃ y, cl.lookup y = some a
  · obtain ⟨y, e⟩ := e
    rw [f (strip_in e)] at h; cases h
  · rw [relay_out e]; exact h
theorem relay_strip : relay H (strip H cl) cl = H := funext fun a => by
  by_cases e : ∃ y, cl.lookup y = some a
  · obtain ⟨y, e⟩ := e; exact relay_in e
  · rw [relay_out e, strip_out e]
/-- no cell is a code object -/
def Sep (H : Hp) (cl : List (Str × Addr)) : Prop := ∀ y a, cl.lookup y = some a → ∀ q, H a ≠ some (CodeO a q)
/-- the call leaves the cells untold -/
def Shut (H' : Hp) (cl : List (Str × Addr)) : Prop := ∀ y a, cl.lookup y = some a → H' a = none
/-- how the heap goes on over a call of the function -/
theorem CellsT.goes {S : Addr → Prop} (C : CellsT H cl fr vs) (se : Sep H cl) (sh : Shut H' cl) (f : Fr S (strip H cl) H') : Fr S H (relay H H' cl) where
  keep := fun a o h n s => by
    by_cases e : ∃ y, cl.lookup y = some a
    · obtain ⟨y, e⟩ := e
      rw [relay_in e]; exact h
    · rw [relay_out e]
      exact f.keep a o (by rw [strip_out e]; exact h) n s
  tab := fun P ⟨ps, h1, h2, h3⟩ => by
    have noP : ∀ {Hx : Hp} {qs : Array Value}, Hx P = some (.tbl qs) → (∀ y, cl.lookup y = some P → Hx P = none ∨ ∃ v, Hx P = some (CellO P v)) → ¬ ∃ y, cl.lookup y = some P := fun {Hx qs} e k ⟨y, hy⟩ => by
      rcases k y hy with z | ⟨v, z⟩
      · rw [e] at z; cases z
      · rw [e] at z
        have z := Option.some.inj z
        unfold CellO at z
        cases z
    have n1 := noP h1 fun y hy => .inr (C.all y P hy)
    have t1 : TabN (strip H cl) P nmAll := ⟨ps, by rw [strip_out n1]; exact h1, h2, fun pos cv hc => by
      obtain ⟨c, e1, e2⟩ := h3 pos cv hc
      refine ⟨c, e1, ?_⟩
      rw [strip_out fun ⟨y, hy⟩ => se y c hy _ e2]
      exact e2⟩
    obtain ⟨qs, g1, g2, g3⟩ := f.tab P t1
    have n2 := noP g1 fun y hy => .inl (sh y P hy)
    refine ⟨qs, by rw [relay_out n2]; exact g1, g2, fun pos cv hc => ?_⟩
    obtain ⟨c, e1, e2⟩ := g3 pos cv hc
    refine ⟨c, e1, ?_⟩
    rw [relay_out fun ⟨y, hy⟩ => by rw [sh y c hy] at e2; cases e2]
    exact e2
  back := fun a h => by
    by_cases e : ∃ y, cl.lookup y = some a
    · obtain ⟨y, e⟩ := e
      rw [relay_in e] at h; exact h
    · rw [relay_out e] at h
      have q := f.back a h
      rw [strip_out e] at q
      exact q
theorem CellsT.ex (C : CellsT H cl fr vs) (e : ∀ a o, H a = some o → NT o → H' a = some o) : CellsT H' cl fr vs :=
  ⟨C.len, fun y c h => let ⟨v, z⟩ := C.all y c h; ⟨v, e _ _ z trivial⟩, C.inj, fun i y h => let ⟨c, v, h1, h2, h3⟩ := C.has i y h; ⟨c, v, h1, h2, e _ _ h3 trivial⟩⟩
end
section
variable {P : Program} {w : World} {K : PySem.W.Frag} {mg : Str → Option Value} {base : Heap} {k : Nat} {f : Addr} {F : NF} {ps fr : List Str} {sp : List (Option V) → Sp}
theorem run_T (Fn : NOk P w K mg base CX0 k f F ps fr sp) {A : Around} {outer : List Env} {s : Shared} {H : Hp} {us : List Value} {vs zs : List V} {Q : VK} {E : XK} (hr : Room k A) (e0 : Env0 P w K mg base A outer s H) (hf : H f = some (FnO f F)) (hc : H F.c = some (CodeO F.c F.qual)) (C : CellsT H F.cl fr zs) (r : Vals vs us)
    (h : Sep H F.cl → sp (zs.map some) vs (strip H F.cl) (fun v H' => Shut H' F.cl → Q v (relay H H' F.cl)) E) : codeAny (model P w) A (.call (.ref f) ⟨us, []⟩) (CR CX0 outer P w H s Q E) s := by
  have cellAt : ∀ y a, F.cl.lookup y = some a → ∃ v u, H a = some (CellO a v) ∧ L2.RelV v u ∧ s.heap.IsCell a (some u) := fun y a e => by
    obtain ⟨v, hv⟩ := C.all y a e
    obtain ⟨⟨u, r1, z⟩, _, _⟩ := e0.hok a _ hv
    exact ⟨v, u, hv, r1, z⟩
  have noFn : ¬ ∃ y, F.cl.lookup y = some f := fun ⟨y, e⟩ => by
    obtain ⟨v, u, _, _, o, ho, hd⟩ := cellAt y f e
    obtain ⟨od, sl, doc, pm, ctv, z⟩ := fnO_at e0.hok hf
    rw [z] at ho; cases ho; cases hd
  have sep : Sep H F.cl := fun y a e q z => by
    obtain ⟨v, u, _, _, o, ho, hd⟩ := cellAt y a e
    obtain ⟨c, oc, ws, t, e1, e2, e3, _⟩ := codeO_at e0.hok z
    cases e1
    rw [e2] at ho; cases ho
    rw [hd] at e3; cases e3
  have noC : ¬ ∃ y, F.cl.lookup y = some F.c := fun ⟨y, e⟩ => sep y _ e _ hc
  have outOf : ∀ {b : Addr} {o : HO}, H b = some o → (∀ v, o ≠ CellO b v) → strip H F.cl b = some o := fun {b o} e n => by
    rw [strip_out fun ⟨y, z⟩ => by
      obtain ⟨v, hv⟩ := C.all y b z
      rw [e] at hv
      exact n v (Option.some.inj hv)]
    exact e
  have hok1 : HOk P w (strip H F.cl) s.heap := fun a o q => by
    have na : ¬ ∃ y, F.cl.lookup y = some a := fun ⟨y, z⟩ => by rw [strip_in z] at q; cases q
    rw [strip_out na] at q
    refine (e0.hok a o q).stay (fun _ _ _ z => z) (fun b z => outOf z fun v q => ?_) (fun b xs z => outOf z fun v q => ?_)
    · unfold CellO at q; cases q
    · unfold CellO at q; cases q
  have e1 : Env0 P w K mg base A outer s (strip H F.cl) := ⟨e0.frames, e0.mod, fun b o q => ⟨(e0.bs b o q).1, strip_none (e0.bs b o q).2⟩, e0.bsz, e0.funs, fun b q => strip_none (e0.frf b q), hok1, e0.bare⟩
  have C1 : CellsAt F.cl fr (zs.map some) s.heap (strip H F.cl) := ⟨by rw [List.length_map]; exact C.len, fun y c e => by
      obtain ⟨v, u, _, _, z⟩ := cellAt y c e
      exact ⟨strip_in e, _, z⟩, C.inj, fun i y e => by
      obtain ⟨c, v, h1, h2, h3⟩ := C.has i y e
      refine ⟨c, h1, fun v' hv' => ?_⟩
      rw [List.getElem?_map, h2] at hv'
      cases hv'
      obtain ⟨⟨u, r1, z⟩, _, _⟩ := e0.hok c _ h3
      exact ⟨u, r1, z⟩⟩
  refine codeAny_mono (Fn.run A outer s (strip H F.cl) us vs (zs.map some) _ E hr e1 (by rw [strip_out noFn]; exact hf) (by rw [strip_out noC]; exact hc) C1 r (h sep)) fun rr s' hq => ?_
  cases rr with
  | error e => exact hq
  | ok fl =>
    cases fl with
    | next => exact hq
    | brk => exact hq
    | cont => exact hq
    | ret u =>
      obtain ⟨v, H', os, bare, un, hok, rv, q⟩ := hq
      have shut : Shut H' F.cl := fun y a e => by
        obtain ⟨_, _, _, _, o, ho, _⟩ := cellAt y a e
        exact un.free a o ho (strip_in e) (by simp)
      have key : ∀ {b : Addr} {o o' : HO}, H b = some o → (∀ v, o ≠ CellO b v) → (strip H F.cl b = some o → H' b = some o') → relay H H' F.cl b = some o' := fun {b o o'} e n g => by
        have z := outOf e n
        have z' : ¬ ∃ y, F.cl.lookup y = some b := fun ⟨y, q⟩ => by rw [strip_in q] at z; cases z
        rw [relay_out z']
        exact g z
      have un2 : Un (frs outer) [] H (relay H H' F.cl) s.heap s'.heap := by
        refine ⟨fun b o e n => un.keep b o e (strip_none n), fun b o e n => un.slot b o e (strip_none n), fun b o e n hx => ?_, un.there, fun b xs e => ?_, fun b o u e => ?_, fun b ps e => ?_⟩
        · by_cases z : ∃ y, F.cl.lookup y = some b
          · obtain ⟨y, z⟩ := z
            rw [relay_in z]; exact n
          · rw [relay_out z]; exact un.free b o e (strip_none n) hx
        · exact key e (fun v q => by unfold CellO at q; cases q) (un.tups b xs)
        · exact key e (fun v q => by unfold CellO at q; cases q) (un.frzs b o u)
        · have z := outOf e fun v q => by unfold CellO at q; cases q
          obtain ⟨more, hm⟩ := un.tbls b ps z
          exact ⟨more, key e (fun v q => by unfold CellO at q; cases q) fun _ => hm⟩
      have inR : ∀ {b : Addr} {o : HO}, H' b = some o → relay H H' F.cl b = some o := fun {b o} e => by
        rw [relay_out fun ⟨y, z⟩ => by rw [shut y b z] at e; cases e]
        exact e
      refine ⟨v, relay H H' F.cl, os, bare, un2, fun a o e => ?_, rv, q shut⟩
      by_cases z : ∃ y, F.cl.lookup y = some a
      · obtain ⟨y, z⟩ := z
        rw [relay_in z] at e
        obtain ⟨v1, u1, h1, r1, ob, ho, hd⟩ := cellAt y a z
        rw [h1] at e; cases e
        have nf : a ∉ frs outer := fun q => by rw [e0.frf a q] at h1; cases h1
        exact cellO_ok r1 ⟨ob, un.keep a ob ho (strip_in z) nf (by simp), hd⟩
      · rw [relay_out z] at e
        exact (hok a o e).stay (fun _ _ _ q => q) (fun b q => inR q) fun b xs q => inR q
/-- f(..), f a name that holds a function whose cells are tracked -/
def tCallT (F : NF) (i : Nat) (fr : List Str) (sp : Addr → List (Option V) → Sp) (t : TA) : TE := fun σ H Q => ∃ f zs, σ[i]? = some (some (.ref f)) ∧ H f = some (FnO f F) ∧
  t σ H fun vs H1 => H1 f = some (FnO f F) ∧ H1 F.c = some (CodeO F.c F.qual) ∧ CellsT H1 F.cl fr zs ∧ (Sep H1 F.cl → sp f (zs.map some) vs (strip H1 F.cl) (fun v H' => Shut H' F.cl → Q v (relay H1 H' F.cl)) E0)
theorem pe_callT {X : Cx} {i j : Nat} {x : Str} {p pos : Pos} {e : Expr} {es : List Expr} {t : TA} {sp : Addr → List (Option V) → Sp} (Fn : ∀ f, NOk X.prog X.w X.K X.mg X.base CX0 k f F ps fr (sp f)) (hr : Room j X.A) (hk : k ≤ j) (hN : X.N[i]? = some x) (hv : Vis X.env.scope x) (ha : PA X (e :: es) t)
    (hd : (x == ("__debug__" : Str)) = false := by decide) (hcd : (x == ("__classdict__" : Str)) = false := by decide)
    (he : starEach (e :: es) X.env = (false, eval e X.env) :: starEach es X.env := by rfl) (hpl : (backTo pos (starEach es X.env)).any (·.1) = false := by rfl) :
    PE X (.Call (.Name x p) (e :: es) [] pos) (tCallT F i fr sp t) := by
  refine ⟨fun pins s σ H Q I h => ?_⟩
  obtain ⟨f, zs, hs, hf, ht⟩ := h
  refine wpAny_Call_Name_kw (thn ((pe_var (pos := p) hN hv hd hcd).run pins s σ H (fun v H1 => v = .ref f ∧ H1 = H) I ⟨.ref f, hs, rfl, rfl⟩) fun u s1 ⟨v, H1, I1, r1, q1⟩ => ?_)
  obtain ⟨ev, eH⟩ := q1
  subst ev
  rw [eH] at I1
  obtain rfl : u = Value.ref f := r1
  refine PySem.W.callWith_F (first := []) (fnAt_of I1 hf) (thn (ha.run pos pins s1 σ H _ I1 ht) fun us s2 ⟨vs, H2, I2, r, h1, h2, C, q⟩ => ⟨fnAt_of I2 h1, ?_⟩) he hpl
  show wpAny _ _ (call (.ref f) us) _ _ _
  refine wpAny_call (codeAny_mono (run_T (Fn f) (hr.mono hk) I2.env0 h1 h2 C r q) fun r s' hq => ?_)
  cases r with
  | error e => exact False.elim hq
  | ok fl =>
    cases fl with
    | ret u => exact I2.after hq
    | next => exact False.elim hq
    | brk => exact False.elim hq
    | cont => exact False.elim hq
end
end Nn

/-! A def that makes a function and tells it. -/
namespace Nn
open PySem PySem.Spec PyProof.Rows L2 NdefX LamX
/-- a def whose code object is known -/
structure FunC (K : PySem.W.Frag) (x qual : Str) (st : Stmt) (f : Addr) (fd : FuncData) (c : Addr) : Prop where
  ex : ∃ (oc : Value) (od : Option Addr) (kV doc pm : Value) (an : Option Addr) (ct : Value) (osl : Array (Option Value)),
    fd = PySem.W.fnOf x qual (defArgs st) (defBody st) (defScope st) .none kV doc pm an (.ref c) ct ∧ K.lookup f = some ⟨oc, od, .func fd, osl⟩ ∧ PySem.W.codeIn K (.ref c) qual = true
theorem func_of {K : PySem.W.Frag} {x qual : Str} {st : Stmt} {p : He.Defn} {fd : FuncData} (F : FunD K x qual (defArgs st) (defBody st) (defScope st) [] [] (He.fAd K p) fd) : FunC K x qual st (He.fAd K p) fd (He.codeOf K p) := by
  obtain ⟨oc, od, dV, kV, doc, pm, an, cdv, ct, osl, rfl, lk, hcd, hD, hK⟩ := F.ex
  rcases hD with ⟨_, rfl⟩ | ⟨e, _⟩
  · obtain ⟨c, rfl⟩ := He.codeIn_ref hcd
    rw [He.codeOf_eq lk rfl]
    exact ⟨oc, od, kV, doc, pm, an, ct, osl, rfl, lk, hcd⟩
  · exact absurd rfl e
theorem FunC.okC {P : Program} {w : World} {K : PySem.W.Frag} {mg : Str → Option Value} {base : Heap} {x qual : Str} {st : Stmt} {f c : Addr} {fd : FuncData} {N ps : List Str} {k : Nat} {sp : Sp} (F : FunC K x qual st f fd c) (S : FnScope N ps (defScope st)) (len : ∀ vs H Q E, sp vs H Q E → vs.length = ps.length)
    (hbody : ∀ (A : Around) (outer : List Env) (s : Shared) (H : Hp) (vs : List V) (Q : VK) (E : XK), Room k (A.deeper (envOfC qual (defScope st) s.heap.objs.size f (.ref c))) → sp vs H Q E →
      ∃ t, PSs (cxOf CX0 P w K mg base N qual (defScope st) f (.ref c) A outer s H E).nox (defBody st) t ∧ t { nx := fun _ H' => Q .non H', rt := Q } (start N vs) H) : FnOk P w K mg base CX0 (k + 1) f fd ps sp := by
  obtain ⟨oc, od, kV, doc, pm, an, ct, osl, rfl, lk, hcd⟩ := F.ex
  refine fn_of lk hcd S len fun A outer s H vs Q E hr hsp => ?_
  obtain ⟨t, h, q⟩ := hbody A outer s H vs Q E hr hsp
  exact ⟨t, h.nox, q⟩
/-- the reading of a nested def: all tables are told of -/
def tNdefA (P : Addr) (i : Nat) (mk : Addr → NF) : TS := fun D σ H => TabN H P nmAll ∧ ∀ (f c' : Addr) (H1 : Hp), Ex H H1 → H f = none → H1 f = some (FnO f (mk c')) → H1 c' = some (CodeO c' (mk c').qual) → D.nx (σ.set i (some (.ref f))) H1
open Classical in
theorem ps_ndefA {X : Cx} {st : Stmt} {c P : Addr} {name : Str} {pos : Pos} {i : Nat} (hst : st = .FunctionDef name (C8.fnArgs st) (C8.fnBody st) [] none [] (C8.fnScope st) none name pos) (TB : TabB X.base X.mg c P) (hcode : X.env.code = .ref c) (hn : nmAll pos.line pos.col = X.env.qual ++ name)
    (hfree : ∀ y ∈ (C8.fnScope st).names, y.2 = .free → X.env.scope.names.lookup y.1 = some .cell ∨ X.env.scope.names.lookup y.1 = some .free) (hd0 : (C8.fnArgs st).defaults = []) (hk0 : (C8.fnArgs st).kw_defaults = []) (ha : annTrees (C8.fnArgs st) none X.env = [])
    (hN : X.N.Nodup) (hi : X.N[i]? = some name) (hx : Loc X.env.scope name) (hf : X.fn name = true ∨ X.env.scope.names.lookup name = some .local) :
    PS X st (tNdefA P i (NF.of st name (X.env.qual ++ name) (cloFrom X.env.cells (C8.fnScope st).names []))) := by
  refine ⟨fun pins s σ H D I h => ?_⟩
  obtain ⟨hT, h⟩ := h
  have lt : ∀ P', TabN H P' nmAll → P' < s.heap.objs.size := fun P' ⟨ps, e, _⟩ => I.hok.lt e
  have mem : ∀ P', TabN H P' nmAll → (P', nmAll) ∈ ((List.range s.heap.objs.size).filter fun P' => decide (TabN H P' nmAll)).map fun P' => (P', nmAll) := fun P' t =>
    List.mem_map.mpr ⟨P', List.mem_filter.mpr ⟨List.mem_range.mpr (lt P' t), decide_eq_true t⟩, rfl⟩
  refine (ps_ndefMS (T := ((List.range s.heap.objs.size).filter fun P' => decide (TabN H P' nmAll)).map fun P' => (P', nmAll)) (nm := nmAll) hst TB hcode (mem P hT) hn (fun p hp _ => ?_) hfree hd0 hk0 ha hN hi hx hf).run pins s σ H D I ⟨fun p hp => ?_, fun f c' H1 eN nn T1 f0 f1 c1 => h f c' H1 ⟨fun a o e n _ => eN a o e fun ps z => by rw [z] at n; exact n, fun P' t => T1 _ (mem P' t), nn⟩ f0 f1 c1⟩
  · obtain ⟨_, _, rfl⟩ := List.mem_map.mp hp; rfl
  · obtain ⟨P', hp2, rfl⟩ := List.mem_map.mp hp
    have q := (List.mem_filter.mp hp2).2
    simpa using q
open Classical in
noncomputable def layC (H : Hp) (cl : List (Str × Addr)) (fr : List Str) (zs : List V) : Hp := fun b =>
  if h : ∃ v, ∃ (i : Nat) (y : Str), fr[i]? = some y ∧ cl.lookup y = some b ∧ zs[i]? = some v then some (CellO b h.choose) else H b
theorem slot_set {σ : L2.St} {i j : Nat} {v : Option V} (h : i ≠ j) : NdefX.slotAt (σ.set i v) j = NdefX.slotAt σ j := by
  unfold NdefX.slotAt
  rw [List.getElem?_set_ne h]
theorem FunC.okMk {P : Program} {w : World} {K : PySem.W.Frag} {mg : Str → Option Value} {base : Heap} {x qual nm : Str} {st st1 : Stmt} {p1 p2 pos : Pos} {f c Pt : Addr} {fd : FuncData} {N ps fr : List Str} {js : List Nat} {i k : Nat} {sp : Sp}
    (F : FunC K x qual st f fd c) (S : FnScope N ps (defScope st)) (hb : defBody st = [st1, .Return (some (.Name nm p1)) p2]) (TB : TabB base mg c Pt) (hst : st1 = .FunctionDef nm (C8.fnArgs st1) (C8.fnBody st1) [] none [] (C8.fnScope st1) none nm pos)
    (hn : nmAll pos.line pos.col = (qual ++ ".<locals>.") ++ nm) (hB : ndefB (defScope st) (C8.fnScope st1) fr = true) (hfa : ∀ y ∈ (C8.fnScope st1).names, y.2 = .free → y.1 ∈ fr) (nd : fr.Nodup) (hd0 : (C8.fnArgs st1).defaults = []) (hk0 : (C8.fnArgs st1).kw_defaults = [])
    (ha : ∀ env, annTrees (C8.fnArgs st1) none env = []) (hi : N[i]? = some nm) (hloc : (defScope st).names.lookup nm = some .local) (hjs : js.map (fun j => N[j]?) = fr.map some) (hji : i ∉ js) (len : ∀ vs H Q E, sp vs H Q E → vs.length = ps.length)
    (hsp : ∀ vs H Q E, sp vs H Q E → TabN H Pt nmAll ∧ ∃ zs : List V, js.map (NdefX.slotAt (start N vs)) = zs.map some ∧ ∀ f' cl c' H', Ex H H' → H f' = none →
      H' f' = some (FnO f' (NF.of st1 nm ((qual ++ ".<locals>.") ++ nm) cl c')) → H' c' = some (CodeO c' ((qual ++ ".<locals>.") ++ nm)) → CellsT H' cl fr zs → Q (.ref f') H')
    (hnd : (nm == ("__debug__" : Str)) = false := by decide) (hcd' : (nm == ("__classdict__" : Str)) = false := by decide) : FnOk P w K mg base CX0 (k + 1) f fd ps sp := by
  obtain ⟨oc, od, kV, doc, pm, an, ct, osl, rfl, lk, hcd⟩ := F.ex
  refine ⟨len, fun A outer s H args us vs Q E hr e0 hbi r hs0 => ?_⟩
  have hl := len _ _ _ _ hs0
  have KX : K.In s.heap := e0.mod.kin.keeps fun b o e => (e0.bs b o e).1
  have lim : s.heap.NoLimit := e0.mod.nolimit.keeps fun b o e => (e0.bs b o e).1
  have hkind : ∀ y ∈ ps.zip us, (defScope st).names.lookup y.1 = some .local ∨ ((defScope st).names.lookup y.1 = some .cell ∧ ((cellsFrom (s.heap.objs.size + 1) (defScope st).names []).lookup y.1).isSome = true) := fun ⟨n, v⟩ hy => by
    rcases S.par n (List.of_mem_zip hy).1 with q | q
    · exact .inl q
    · exact .inr ⟨q, PySem.W.cellsFrom_some _ _ _ (.inl q)⟩
  refine codeAny_call_function hr.depth (KX _ _ lk) rfl S.co S.gen rfl (PySem.W.codeRec_of KX hcd) (hbi _ _ _ _ ?_)
  refine wpAny_newFunctionEnv_cells S.kind hkind fun env he s1 x => ?_
  subst he
  refine ⟨lim.keeps x.toInCall.keep, codeAny_func ?_⟩
  have I : Inv (cxOf CX0 P w K mg base N qual (defScope st) f (.ref c) A outer s H E) [] (start N vs) H s1 := inv_start S hr.hd e0 hl r x
  obtain ⟨hT3, zs, hz, hend⟩ := hsp vs H Q E hs0
  have h1 := ps_ndefA (X := cxOf CX0 P w K mg base N qual (defScope st) f (.ref c) A outer s H E) (i := i) hst TB rfl hn (ndef_free hB) hd0 hk0 (ha _) S.nd hi (.inl hloc) (.inl rfl)
  rw [hb]
  refine wpAny_execs_cons (wpAny_mono (h1.run [] s1 (start N vs) H { nx := fun σ' H1 => ∃ f' c', σ' = (start N vs).set i (some (.ref f')) ∧ Ex H H1 ∧ H f' = none ∧ H1 f' = some (FnO f' (NF.of st1 nm ((qual ++ ".<locals>.") ++ nm) (cloFrom (cellsFrom (s.heap.objs.size + 1) (defScope st).names []) (C8.fnScope st1).names []) c')) ∧ H1 c' = some (CodeO c' ((qual ++ ".<locals>.") ++ nm)), rt := fun _ _ => False } I
    ⟨hT3, fun f' c' H1 eN f0 f1 c1 => ⟨f', c', rfl, eN, f0, f1, c1⟩⟩) (fun fl s2 hs => ?_) fun e s' hs => hs)
  cases fl with
  | ret u => obtain ⟨_, _, _, _, _, q⟩ := hs; exact q.elim
  | brk => obtain ⟨_, _, _, q⟩ := hs; exact q.elim
  | cont => obtain ⟨_, _, _, q⟩ := hs; exact q.elim
  | next =>
    obtain ⟨σ', H1, J, f', c', rfl, eN, f0, f1, c1⟩ := hs
    have hlen : i < (start N vs).length := by
      have q := I.len
      rw [q]
      exact (List.getElem?_eq_some_iff.mp hi).1
    refine wpAny_execs_cons (wpAny_Return_some (thn ((pe_var (X := cxOf CX0 P w K mg base N qual (defScope st) f (.ref c) A outer s H E) (pos := p1) hi (.inl hloc) hnd hcd').run [] s2 _ H1 (fun v H2 => v = .ref f' ∧ H2 = H1) J ⟨.ref f', List.getElem?_set_self hlen, rfl, rfl⟩) fun u s3 ⟨v, H2, J2, rv, ev, eH⟩ => ?_))
    subst ev
    rw [eH] at J2
    have cp : Caps (cxOf CX0 P w K mg base N qual (defScope st) f (.ref c) A outer s H E) (cloFrom (cellsFrom (s.heap.objs.size + 1) (defScope st).names []) (C8.fnScope st1).names []) fr js := Caps.made J2.ok (ndef_free hB) (ndef_fr hB) hjs
    have C := cells_of J2 cp
    have eσ : js.map (NdefX.slotAt ((start N vs).set i (some (.ref f')))) = zs.map some := by
      rw [← hz]
      exact List.map_congr_left fun j hj => slot_set fun e => hji (e ▸ hj)
    rw [eσ] at C
    generalize hcl : cloFrom (cellsFrom (s.heap.objs.size + 1) (defScope st).names []) (C8.fnScope st1).names [] = cl at f1 C cp
    have new : ∀ y b, cl.lookup y = some b → s.heap.objs.size ≤ b := fun y b e => J2.ok.cab y b rfl (cp.sub y b e)
    have hH1 : ∀ y b, cl.lookup y = some b → H1 b = none := fun y b e => (C.all y b e).1
    have spec : ∀ {b : Addr} {v : V}, (∃ (i : Nat) (y : Str), fr[i]? = some y ∧ cl.lookup y = some b ∧ zs[i]? = some v) → ∃ u, L2.RelV v u ∧ s3.heap.IsCell b (some u) := fun {b v} ⟨j, y, h1, h2, h3⟩ => by
      obtain ⟨a, ha, hv⟩ := C.has j y h1
      rw [h2] at ha; cases ha
      exact hv v (by rw [List.getElem?_map, h3]; rfl)
    have outL : ∀ {b : Addr}, (¬ ∃ y, cl.lookup y = some b) → layC H1 cl fr zs b = H1 b := fun {b} n => by
      unfold layC
      rw [dif_neg]
      rintro ⟨v, j, y, _, h2, _⟩
      exact n ⟨y, h2⟩
    have atL : ∀ {b : Addr} {o : HO}, H1 b = some o → layC H1 cl fr zs b = some o := fun {b o} e => by
      rw [outL fun ⟨y, z⟩ => by rw [hH1 y b z] at e; cases e]
      exact e
    have inL : ∀ {b : Addr} {v : V} {j : Nat} {y : Str}, fr[j]? = some y → cl.lookup y = some b → zs[j]? = some v → layC H1 cl fr zs b = some (CellO b v) := fun {b v j y} h1 h2 h3 => by
      have hx : ∃ v, ∃ (i : Nat) (y : Str), fr[i]? = some y ∧ cl.lookup y = some b ∧ zs[i]? = some v := ⟨v, j, y, h1, h2, h3⟩
      unfold layC
      rw [dif_pos hx]
      obtain ⟨j2, y2, g1, g2, g3⟩ := hx.choose_spec
      have ey : y2 = y := C.inj y2 y b g2 h2
      rw [ey] at g1
      have hjl : j < fr.length := (List.getElem?_eq_some_iff.mp h1).1
      have ej : j = j2 := (List.getElem?_inj hjl nd).mp (h1.trans g1.symm)
      rw [← ej, h3] at g3
      rw [Option.some.inj g3]
    have hfull : ∀ y b, cl.lookup y = some b → ∃ (j : Nat) (v : V), fr[j]? = some y ∧ zs[j]? = some v := fun y b e => by
      have hmem : y ∈ fr := by
        rw [← hcl] at e
        rcases cloFrom_mem (PySem.mem_of_lookup e) with hm | ⟨h1, _⟩
        · cases hm
        · exact hfa _ h1 rfl
      obtain ⟨j, hj⟩ := List.getElem?_of_mem hmem
      have hjz : j < zs.length := by
        have q := C.len
        rw [List.length_map] at q
        rw [q]
        exact (List.getElem?_eq_some_iff.mp hj).1
      exact ⟨j, zs[j], hj, List.getElem?_eq_getElem hjz⟩
    have cT : CellsT (layC H1 cl fr zs) cl fr zs := ⟨by have q := C.len; rw [List.length_map] at q; exact q, fun y b e => by
        obtain ⟨j, v, h1, h3⟩ := hfull y b e
        exact ⟨v, inL h1 e h3⟩, C.inj, fun j y h1 => by
        obtain ⟨b, hb, _⟩ := C.has j y h1
        obtain ⟨j2, v, g1, g3⟩ := hfull y b hb
        have hjl : j < fr.length := (List.getElem?_eq_some_iff.mp h1).1
        have ej : j = j2 := (List.getElem?_inj hjl nd).mp (h1.trans g1.symm)
        rw [← ej] at g3
        exact ⟨b, v, hb, g3, inL h1 hb g3⟩⟩
    have un : Un (frs outer) [] H H1 s.heap s3.heap := J2.base
    have un2 : Un (frs outer) [] H (layC H1 cl fr zs) s.heap s3.heap := ⟨un.keep, un.slot, fun b o e n hx => by
        rw [outL fun ⟨y, z⟩ => absurd (Heap.lt_size e) (Nat.not_lt_of_le (new y b z))]
        exact un.free b o e n hx, un.there, fun b xs e => atL (un.tups b xs e), fun b o u e => atL (un.frzs b o u e), fun b ps e => by
        obtain ⟨more, hm⟩ := un.tbls b ps e
        exact ⟨more, atL hm⟩⟩
    refine (show CE outer P w H s Q u s3 from ⟨.ref f', layC H1 cl fr zs, J2.os, J2.bare, un2, fun a o e => ?_, rv, hend f' cl c' _ ⟨fun b o e n s => atL (eN.keep b o e n s), fun P' t => (eN.tab P' t).ext fun b o e => atL e, fun b e => ?_⟩ f0 (atL f1) (atL c1) cT⟩)
    · by_cases z : ∃ y, cl.lookup y = some a
      · obtain ⟨y, z⟩ := z
        obtain ⟨j, v, h1, h3⟩ := hfull y a z
        rw [inL h1 z h3] at e
        cases e
        obtain ⟨u1, r1, hc⟩ := spec ⟨j, y, h1, z, h3⟩
        exact cellO_ok r1 hc
      · rw [outL z] at e
        exact (J2.hok a o e).stay (fun _ _ _ q => q) (fun b q => atL q) fun b xs q => atL q
    · by_cases z : ∃ y, cl.lookup y = some b
      · obtain ⟨y, z⟩ := z
        obtain ⟨j, v, h1, h3⟩ := hfull y b z
        rw [inL h1 z h3] at e
        cases e
      · rw [outL z] at e
        exact eN.back b e
end Nn

namespace Nn
open PySem L2
structure Tx (K : PySem.W.Frag) (mg : Str → Option Value) (base : Heap) where
  a_is_name : Addr
  d_is_name : FuncData
  F_is_name : FunD K "is_name" "is_name" (defArgs s_is_name) (defBody s_is_name) (defScope s_is_name) [] [] a_is_name d_is_name
  b_is_name : Binds K d_is_name ["thing", "wide"] []
  m_is_name : mg "is_name" = some (.ref a_is_name)
  a_far : Addr
  d_far : FuncData
  F_far : FunD K "far" "far" (defArgs s_far) (defBody s_far) (defScope s_far) [] [] a_far d_far
  b_far : Binds K d_far ["one", "other"] []
  m_far : mg "far" = some (.ref a_far)
  a_nearer : Addr
  d_nearer : FuncData
  F_nearer : FunD K "nearer" "nearer" (defArgs s_nearer) (defBody s_nearer) (defScope s_nearer) [] [] a_nearer d_nearer
  b_nearer : Binds K d_nearer ["goal", "one", "other"] []
  m_nearer : mg "nearer" = some (.ref a_nearer)
  a_by_nearness : Addr
  d_by_nearness : FuncData
  F_by_nearness : FunD K "by_nearness" "by_nearness" (defArgs s_by_nearness) (defBody s_by_nearness) (defScope s_by_nearness) [] [] a_by_nearness d_by_nearness
  b_by_nearness : Binds K d_by_nearness ["goal", "names"] []
  m_by_nearness : mg "by_nearness" = some (.ref a_by_nearness)
  a_step : Addr
  d_step : FuncData
  F_step : FunD K "step" "step" (defArgs s_step) (defBody s_step) (defScope s_step) [] [] a_step d_step
  b_step : Binds K d_step ["one", "other"] []
  m_step : mg "step" = some (.ref a_step)
  a_span : Addr
  d_span : FuncData
  F_span : FunD K "span" "span" (defArgs s_span) (defBody s_span) (defScope s_span) [] [] a_span d_span
  b_span : Binds K d_span ["name", "k"] []
  m_span : mg "span" = some (.ref a_span)
  a_of_span : Addr
  d_of_span : FuncData
  F_of_span : FunD K "of_span" "of_span" (defArgs s_of_span) (defBody s_of_span) (defScope s_of_span) [] [] a_of_span d_of_span
  b_of_span : Binds K d_of_span ["live", "house", "k"] []
  m_of_span : mg "of_span" = some (.ref a_of_span)
  a_is_faulty : Addr
  d_is_faulty : FuncData
  F_is_faulty : FunD K "is_faulty" "is_faulty" (defArgs s_is_faulty) (defBody s_is_faulty) (defScope s_is_faulty) [] [] a_is_faulty d_is_faulty
  b_is_faulty : Binds K d_is_faulty ["names", "live", "room", "house", "k"] []
  m_is_faulty : mg "is_faulty" = some (.ref a_is_faulty)
  a_fault : Addr
  d_fault : FuncData
  F_fault : FunD K "fault" "fault" (defArgs s_fault) (defBody s_fault) (defScope s_fault) [] [] a_fault d_fault
  b_fault : Binds K d_fault ["town"] []
  m_fault : mg "fault" = some (.ref a_fault)
  a_holes : Addr
  d_holes : FuncData
  F_holes : FunD K "holes" "holes" (defArgs s_holes) (defBody s_holes) (defScope s_holes) [] [] a_holes d_holes
  b_holes : Binds K d_holes ["town"] []
  m_holes : mg "holes" = some (.ref a_holes)
  a_look_round : Addr
  d_look_round : FuncData
  F_look_round : FunD K "look_round" "look_round" (defArgs s_look_round) (defBody s_look_round) (defScope s_look_round) [] [] a_look_round d_look_round
  b_look_round : Binds K d_look_round ["town", "house"] []
  m_look_round : mg "look_round" = some (.ref a_look_round)
  a_tide : Addr
  d_tide : FuncData
  F_tide : FunD K "tide" "tide" (defArgs s_tide) (defBody s_tide) (defScope s_tide) [] [] a_tide d_tide
  b_tide : Binds K d_tide ["town"] []
  m_tide : mg "tide" = some (.ref a_tide)
  a_standing : Addr
  d_standing : FuncData
  F_standing : FunD K "standing" "standing" (defArgs s_standing) (defBody s_standing) (defScope s_standing) [] [] a_standing d_standing
  b_standing : Binds K d_standing ["goal", "room", "seen", "quiet"] []
  m_standing : mg "standing" = some (.ref a_standing)
  a_asked : Addr
  d_asked : FuncData
  F_asked : FunD K "asked" "asked" (defArgs s_asked) (defBody s_asked) (defScope s_asked) [] [] a_asked d_asked
  b_asked : Binds K d_asked ["start", "goal", "room", "tells"] []
  m_asked : mg "asked" = some (.ref a_asked)
  a_onward : Addr
  d_onward : FuncData
  F_onward : FunD K "onward" "onward" (defArgs s_onward) (defBody s_onward) (defScope s_onward) [] [] a_onward d_onward
  b_onward : Binds K d_onward ["here", "goal", "tells"] []
  m_onward : mg "onward" = some (.ref a_onward)
  a_way : Addr
  d_way : FuncData
  F_way : FunD K "way" "way" (defArgs s_way) (defBody s_way) (defScope s_way) [] [] a_way d_way
  b_way : Binds K d_way ["start", "goal", "tells"] []
  m_way : mg "way" = some (.ref a_way)
  a_Bucket_init : Addr
  d_Bucket_init : FuncData
  F_Bucket_init : FunD K "__init__" "Bucket.__init__" (defArgs s_Bucket_init) (defBody s_Bucket_init) (defScope s_Bucket_init) [] [] a_Bucket_init d_Bucket_init
  b_Bucket_init : Binds K d_Bucket_init ["self", "room"] []
  a_Bucket_names : Addr
  d_Bucket_names : FuncData
  F_Bucket_names : FunD K "names" "Bucket.names" (defArgs s_Bucket_names) (defBody s_Bucket_names) (defScope s_Bucket_names) [] [] a_Bucket_names d_Bucket_names
  b_Bucket_names : Binds K d_Bucket_names ["self"] []
  a_Bucket_hears : Addr
  d_Bucket_hears : FuncData
  F_Bucket_hears : FunD K "hears" "Bucket.hears" (defArgs s_Bucket_hears) (defBody s_Bucket_hears) (defScope s_Bucket_hears) [] [] a_Bucket_hears d_Bucket_hears
  b_Bucket_hears : Binds K d_Bucket_hears ["self", "name", "answers"] []
  a_Bucket_drops : Addr
  d_Bucket_drops : FuncData
  F_Bucket_drops : FunD K "drops" "Bucket.drops" (defArgs s_Bucket_drops) (defBody s_Bucket_drops) (defScope s_Bucket_drops) [] [] a_Bucket_drops d_Bucket_drops
  b_Bucket_drops : Binds K d_Bucket_drops ["self", "name"] []
  a_Table_init : Addr
  d_Table_init : FuncData
  F_Table_init : FunD K "__init__" "Table.__init__" (defArgs s_Table_init) (defBody s_Table_init) (defScope s_Table_init) [] [] a_Table_init d_Table_init
  b_Table_init : Binds K d_Table_init ["self", "own", "wide", "room"] []
  a_Table_bucket_for : Addr
  d_Table_bucket_for : FuncData
  F_Table_bucket_for : FunD K "bucket_for" "Table.bucket_for" (defArgs s_Table_bucket_for) (defBody s_Table_bucket_for) (defScope s_Table_bucket_for) [] [] a_Table_bucket_for d_Table_bucket_for
  b_Table_bucket_for : Binds K d_Table_bucket_for ["self", "name"] []
  a_Table_hears : Addr
  d_Table_hears : FuncData
  F_Table_hears : FunD K "hears" "Table.hears" (defArgs s_Table_hears) (defBody s_Table_hears) (defScope s_Table_hears) [] [] a_Table_hears d_Table_hears
  b_Table_hears : Binds K d_Table_hears ["self", "name", "answers"] []
  a_Table_drops : Addr
  d_Table_drops : FuncData
  F_Table_drops : FunD K "drops" "Table.drops" (defArgs s_Table_drops) (defBody s_Table_drops) (defScope s_Table_drops) [] [] a_Table_drops d_Table_drops
  b_Table_drops : Binds K d_Table_drops ["self", "name"] []
  a_Table_bucket : Addr
  d_Table_bucket : FuncData
  F_Table_bucket : FunD K "bucket" "Table.bucket" (defArgs s_Table_bucket) (defBody s_Table_bucket) (defScope s_Table_bucket) [] [] a_Table_bucket d_Table_bucket
  b_Table_bucket : Binds K d_Table_bucket ["self", "k"] []
  a_Table_keeps : Addr
  d_Table_keeps : FuncData
  F_Table_keeps : FunD K "keeps" "Table.keeps" (defArgs s_Table_keeps) (defBody s_Table_keeps) (defScope s_Table_keeps) [] [] a_Table_keeps d_Table_keeps
  b_Table_keeps : Binds K d_Table_keeps ["self"] []
  a_Table_nearest : Addr
  d_Table_nearest : FuncData
  F_Table_nearest : FunD K "nearest" "Table.nearest" (defArgs s_Table_nearest) (defBody s_Table_nearest) (defScope s_Table_nearest) [.non] [] a_Table_nearest d_Table_nearest
  d_Table_nearest_1 : List Value
  v_Table_nearest_1 : Vals [.non] d_Table_nearest_1
  b_Table_nearest_1 : Binds K d_Table_nearest ["self", "goal", "many", "but"] d_Table_nearest_1
  b_Table_nearest : Binds K d_Table_nearest ["self", "goal", "many", "but"] []
  a_is_size : Addr
  d_is_size : FuncData
  F_is_size : FunD K "is_size" "is_size" (defArgs s_is_size) (defBody s_is_size) (defScope s_is_size) [] [] a_is_size d_is_size
  b_is_size : Binds K d_is_size ["thing", "most"] []
  m_is_size : mg "is_size" = some (.ref a_is_size)
  a_Town_init : Addr
  d_Town_init : FuncData
  F_Town_init : FunD K "__init__" "Town.__init__" (defArgs s_Town_init) (defBody s_Town_init) (defScope s_Town_init) [] [] a_Town_init d_Town_init
  b_Town_init : Binds K d_Town_init ["self", "wide", "room"] []
  a_Town_houses : Addr
  d_Town_houses : FuncData
  F_Town_houses : FunD K "houses" "Town.houses" (defArgs s_Town_houses) (defBody s_Town_houses) (defScope s_Town_houses) [] [] a_Town_houses d_Town_houses
  b_Town_houses : Binds K d_Town_houses ["self"] []
  a_Town_answers : Addr
  d_Town_answers : FuncData
  F_Town_answers : FunD K "answers" "Town.answers" (defArgs s_Town_answers) (defBody s_Town_answers) (defScope s_Town_answers) [] [] a_Town_answers d_Town_answers
  b_Town_answers : Binds K d_Town_answers ["self", "name"] []
  a_Town_answering : Addr
  d_Town_answering : FuncData
  F_Town_answering : FunD K "answering" "Town.answering" (defArgs s_Town_answering) (defBody s_Town_answering) (defScope s_Town_answering) [] [] a_Town_answering d_Town_answering
  b_Town_answering : Binds K d_Town_answering ["self"] []
  a_Town_table : Addr
  d_Town_table : FuncData
  F_Town_table : FunD K "table" "Town.table" (defArgs s_Town_table) (defBody s_Town_table) (defScope s_Town_table) [] [] a_Town_table d_Town_table
  b_Town_table : Binds K d_Town_table ["self", "house"] []
  a_Town_look_awake : Addr
  d_Town_look_awake : FuncData
  F_Town_look_awake : FunD K "look_awake" "Town.look_awake" (defArgs s_Town_look_awake) (defBody s_Town_look_awake) (defScope s_Town_look_awake) [] [] a_Town_look_awake d_Town_look_awake
  b_Town_look_awake : Binds K d_Town_look_awake ["self", "house"] []
  a_Town_look_named : Addr
  d_Town_look_named : FuncData
  F_Town_look_named : FunD K "look_named" "Town.look_named" (defArgs s_Town_look_named) (defBody s_Town_look_named) (defScope s_Town_look_named) [] [] a_Town_look_named d_Town_look_named
  b_Town_look_named : Binds K d_Town_look_named ["self", "name"] []
  a_Town_bucket : Addr
  d_Town_bucket : FuncData
  F_Town_bucket : FunD K "bucket" "Town.bucket" (defArgs s_Town_bucket) (defBody s_Town_bucket) (defScope s_Town_bucket) [] [] a_Town_bucket d_Town_bucket
  b_Town_bucket : Binds K d_Town_bucket ["self", "house", "k"] []
  a_Town_keeps : Addr
  d_Town_keeps : FuncData
  F_Town_keeps : FunD K "keeps" "Town.keeps" (defArgs s_Town_keeps) (defBody s_Town_keeps) (defScope s_Town_keeps) [] [] a_Town_keeps d_Town_keeps
  b_Town_keeps : Binds K d_Town_keeps ["self", "house"] []
  a_Town_tells : Addr
  d_Town_tells : FuncData
  F_Town_tells : FunD K "tells" "Town.tells" (defArgs s_Town_tells) (defBody s_Town_tells) (defScope s_Town_tells) [] [] a_Town_tells d_Town_tells
  b_Town_tells : Binds K d_Town_tells ["self", "house", "goal", "asker"] []
  a_Town_hears : Addr
  d_Town_hears : FuncData
  F_Town_hears : FunD K "hears" "Town.hears" (defArgs s_Town_hears) (defBody s_Town_hears) (defScope s_Town_hears) [] [] a_Town_hears d_Town_hears
  b_Town_hears : Binds K d_Town_hears ["self", "house", "name"] []
  a_Town_come_to : Addr
  d_Town_come_to : FuncData
  F_Town_come_to : FunD K "come_to" "Town.come_to" (defArgs s_Town_come_to) (defBody s_Town_come_to) (defScope s_Town_come_to) [] [] a_Town_come_to d_Town_come_to
  b_Town_come_to : Binds K d_Town_come_to ["self", "house"] []
  a_Town_ask : Addr
  d_Town_ask : FuncData
  F_Town_ask : FunD K "ask" "Town.ask" (defArgs s_Town_ask) (defBody s_Town_ask) (defScope s_Town_ask) [] [] a_Town_ask d_Town_ask
  b_Town_ask : Binds K d_Town_ask ["self", "start", "goal"] []
  a_Town_way : Addr
  d_Town_way : FuncData
  F_Town_way : FunD K "way" "Town.way" (defArgs s_Town_way) (defBody s_Town_way) (defScope s_Town_way) [] [] a_Town_way d_Town_way
  b_Town_way : Binds K d_Town_way ["self", "start", "goal"] []
  a_Town_visit : Addr
  d_Town_visit : FuncData
  F_Town_visit : FunD K "visit" "Town.visit" (defArgs s_Town_visit) (defBody s_Town_visit) (defScope s_Town_visit) [] [] a_Town_visit d_Town_visit
  b_Town_visit : Binds K d_Town_visit ["self", "house", "door"] []
  a_Town_come : Addr
  d_Town_come : FuncData
  F_Town_come : FunD K "come" "Town.come" (defArgs s_Town_come) (defBody s_Town_come) (defScope s_Town_come) [.non] [] a_Town_come d_Town_come
  d_Town_come_1 : List Value
  v_Town_come_1 : Vals [.non] d_Town_come_1
  b_Town_come_1 : Binds K d_Town_come ["self", "name", "door"] d_Town_come_1
  b_Town_come : Binds K d_Town_come ["self", "name", "door"] []
  a_Town_go : Addr
  d_Town_go : FuncData
  F_Town_go : FunD K "go" "Town.go" (defArgs s_Town_go) (defBody s_Town_go) (defScope s_Town_go) [] [] a_Town_go d_Town_go
  b_Town_go : Binds K d_Town_go ["self", "house"] []
  a_Town_hush : Addr
  d_Town_hush : FuncData
  F_Town_hush : FunD K "hush" "Town.hush" (defArgs s_Town_hush) (defBody s_Town_hush) (defScope s_Town_hush) [] [] a_Town_hush d_Town_hush
  b_Town_hush : Binds K d_Town_hush ["self", "house"] []
  a_Town_wake : Addr
  d_Town_wake : FuncData
  F_Town_wake : FunD K "wake" "Town.wake" (defArgs s_Town_wake) (defBody s_Town_wake) (defScope s_Town_wake) [] [] a_Town_wake d_Town_wake
  b_Town_wake : Binds K d_Town_wake ["self", "house", "door"] []
  a_l_cell_at : Addr
  d_l_cell_at : FuncData
  F_l_cell_at : FunD K "_law_cell_at" "_law_cell_at" (defArgs s_l_cell_at) (defBody s_l_cell_at) (defScope s_l_cell_at) [] [] a_l_cell_at d_l_cell_at
  b_l_cell_at : Binds K d_l_cell_at ["_law_script", "_law_k"] []
  m_l_cell_at : mg "_law_cell_at" = some (.ref a_l_cell_at)
  a_l_mixed : Addr
  d_l_mixed : FuncData
  F_l_mixed : FunD K "_law_mixed" "_law_mixed" (defArgs s_l_mixed) (defBody s_l_mixed) (defScope s_l_mixed) [] [] a_l_mixed d_l_mixed
  b_l_mixed : Binds K d_l_mixed ["_law_cell", "_law_k"] []
  m_l_mixed : mg "_law_mixed" = some (.ref a_l_mixed)
  a_l_draw : Addr
  d_l_draw : FuncData
  F_l_draw : FunD K "_law_draw" "_law_draw" (defArgs s_l_draw) (defBody s_l_draw) (defScope s_l_draw) [] [] a_l_draw d_l_draw
  b_l_draw : Binds K d_l_draw ["_law_cell", "_law_k", "_law_plain"] []
  m_l_draw : mg "_law_draw" = some (.ref a_l_draw)
  a_l_sizes : Addr
  d_l_sizes : FuncData
  F_l_sizes : FunD K "_law_sizes" "_law_sizes" (defArgs s_l_sizes) (defBody s_l_sizes) (defScope s_l_sizes) [] [] a_l_sizes d_l_sizes
  b_l_sizes : Binds K d_l_sizes ["_law_script"] []
  m_l_sizes : mg "_law_sizes" = some (.ref a_l_sizes)
  a_l_name : Addr
  d_l_name : FuncData
  F_l_name : FunD K "_law_name" "_law_name" (defArgs s_l_name) (defBody s_l_name) (defScope s_l_name) [] [] a_l_name d_l_name
  b_l_name : Binds K d_l_name ["_law_x", "_law_wide", "_law_base"] []
  m_l_name : mg "_law_name" = some (.ref a_l_name)
  a_l_come : Addr
  d_l_come : FuncData
  F_l_come : FunD K "_law_come" "_law_come" (defArgs s_l_come) (defBody s_l_come) (defScope s_l_come) [] [] a_l_come d_l_come
  b_l_come : Binds K d_l_come ["_law_town", "_law_x", "_law_base", "_law_most"] []
  m_l_come : mg "_law_come" = some (.ref a_l_come)
  a_l_deed : Addr
  d_l_deed : FuncData
  F_l_deed : FunD K "_law_deed" "_law_deed" (defArgs s_l_deed) (defBody s_l_deed) (defScope s_l_deed) [] [] a_l_deed d_l_deed
  b_l_deed : Binds K d_l_deed ["_law_town", "_law_x", "_law_base", "_law_most"] []
  m_l_deed : mg "_law_deed" = some (.ref a_l_deed)
  a_l_fault : Addr
  d_l_fault : FuncData
  F_l_fault : FunD K "_law_fault" "_law_fault" (defArgs s_l_fault) (defBody s_l_fault) (defScope s_l_fault) [] [] a_l_fault d_l_fault
  b_l_fault : Binds K d_l_fault ["_law_town"] []
  m_l_fault : mg "_law_fault" = some (.ref a_l_fault)
  a_l_holes : Addr
  d_l_holes : FuncData
  F_l_holes : FunD K "_law_holes" "_law_holes" (defArgs s_l_holes) (defBody s_l_holes) (defScope s_l_holes) [] [] a_l_holes d_l_holes
  b_l_holes : Binds K d_l_holes ["_law_town"] []
  m_l_holes : mg "_law_holes" = some (.ref a_l_holes)
  a_l_as_it_is : Addr
  d_l_as_it_is : FuncData
  F_l_as_it_is : FunD K "_law_as_it_is" "_law_as_it_is" (defArgs s_l_as_it_is) (defBody s_l_as_it_is) (defScope s_l_as_it_is) [] [] a_l_as_it_is d_l_as_it_is
  b_l_as_it_is : Binds K d_l_as_it_is ["_law_town"] []
  m_l_as_it_is : mg "_law_as_it_is" = some (.ref a_l_as_it_is)
  a_l_reach : Addr
  d_l_reach : FuncData
  F_l_reach : FunD K "_law_reach" "_law_reach" (defArgs s_l_reach) (defBody s_l_reach) (defScope s_l_reach) [] [] a_l_reach d_l_reach
  b_l_reach : Binds K d_l_reach ["_law_town", "_law_house"] []
  m_l_reach : mg "_law_reach" = some (.ref a_l_reach)
  a_l_tables : Addr
  d_l_tables : FuncData
  F_l_tables : FunD K "_law_tables" "_law_tables" (defArgs s_l_tables) (defBody s_l_tables) (defScope s_l_tables) [] [] a_l_tables d_l_tables
  b_l_tables : Binds K d_l_tables ["_law_town"] []
  m_l_tables : mg "_law_tables" = some (.ref a_l_tables)
  a_l_stays : Addr
  d_l_stays : FuncData
  F_l_stays : FunD K "_law_stays" "_law_stays" (defArgs s_l_stays) (defBody s_l_stays) (defScope s_l_stays) [] [] a_l_stays d_l_stays
  b_l_stays : Binds K d_l_stays ["_law_town", "_law_tables_here", "_law_live"] []
  m_l_stays : mg "_law_stays" = some (.ref a_l_stays)
  a_l_washed : Addr
  d_l_washed : FuncData
  F_l_washed : FunD K "_law_washed" "_law_washed" (defArgs s_l_washed) (defBody s_l_washed) (defScope s_l_washed) [] [] a_l_washed d_l_washed
  b_l_washed : Binds K d_l_washed ["_law_town", "_law_other"] []
  m_l_washed : mg "_law_washed" = some (.ref a_l_washed)
  a_l_right : Addr
  d_l_right : FuncData
  F_l_right : FunD K "_law_right" "_law_right" (defArgs s_l_right) (defBody s_l_right) (defScope s_l_right) [] [] a_l_right d_l_right
  b_l_right : Binds K d_l_right ["_law_town", "_law_other"] []
  m_l_right : mg "_law_right" = some (.ref a_l_right)
  a_law : Addr
  d_law : FuncData
  F_law : FunD K "law" "law" (defArgs s_law) (defBody s_law) (defScope s_law) [] [] a_law d_law
  b_law : Binds K d_law ["_law_script"] []
  m_law : mg "law" = some (.ref a_law)
  m_way_asks : mg "way_asks" = some (.ref a_way)
  C_Bucket : Addr
  c_Bucket : Cls K C_Bucket
  m_Bucket : mg "Bucket" = some (.ref C_Bucket)
  M_Bucket : Mk K C_Bucket a_Bucket_init
  n_Bucket_room : NoAttr K C_Bucket "room"
  n_Bucket_line : NoAttr K C_Bucket "line"
  t_Bucket_names : Meth K C_Bucket "names" a_Bucket_names
  t_Bucket_hears : Meth K C_Bucket "hears" a_Bucket_hears
  t_Bucket_drops : Meth K C_Bucket "drops" a_Bucket_drops
  C_Table : Addr
  c_Table : Cls K C_Table
  m_Table : mg "Table" = some (.ref C_Table)
  M_Table : Mk K C_Table a_Table_init
  n_Table_own : NoAttr K C_Table "own"
  n_Table_wide : NoAttr K C_Table "wide"
  n_Table_room : NoAttr K C_Table "room"
  n_Table_buckets : NoAttr K C_Table "buckets"
  t_Table_bucket_for : Meth K C_Table "bucket_for" a_Table_bucket_for
  t_Table_hears : Meth K C_Table "hears" a_Table_hears
  t_Table_drops : Meth K C_Table "drops" a_Table_drops
  t_Table_bucket : Meth K C_Table "bucket" a_Table_bucket
  t_Table_keeps : Meth K C_Table "keeps" a_Table_keeps
  t_Table_nearest : Meth K C_Table "nearest" a_Table_nearest
  C_Town : Addr
  c_Town : Cls K C_Town
  m_Town : mg "Town" = some (.ref C_Town)
  M_Town : Mk K C_Town a_Town_init
  n_Town_wide : NoAttr K C_Town "wide"
  n_Town_room : NoAttr K C_Town "room"
  n_Town_tables : NoAttr K C_Town "tables"
  n_Town_hushed : NoAttr K C_Town "hushed"
  t_Town_houses : Meth K C_Town "houses" a_Town_houses
  t_Town_answers : Meth K C_Town "answers" a_Town_answers
  t_Town_answering : Meth K C_Town "answering" a_Town_answering
  t_Town_table : Meth K C_Town "table" a_Town_table
  t_Town_look_awake : Meth K C_Town "look_awake" a_Town_look_awake
  t_Town_look_named : Meth K C_Town "look_named" a_Town_look_named
  t_Town_bucket : Meth K C_Town "bucket" a_Town_bucket
  t_Town_keeps : Meth K C_Town "keeps" a_Town_keeps
  t_Town_tells : Meth K C_Town "tells" a_Town_tells
  t_Town_hears : Meth K C_Town "hears" a_Town_hears
  t_Town_come_to : Meth K C_Town "come_to" a_Town_come_to
  t_Town_ask : Meth K C_Town "ask" a_Town_ask
  t_Town_way : Meth K C_Town "way" a_Town_way
  t_Town_visit : Meth K C_Town "visit" a_Town_visit
  t_Town_come : Meth K C_Town "come" a_Town_come
  t_Town_go : Meth K C_Town "go" a_Town_go
  t_Town_hush : Meth K C_Town "hush" a_Town_hush
  t_Town_wake : Meth K C_Town "wake" a_Town_wake
  z_all : mg "all" = none
  z_any : mg "any" = none
  z_bool : mg "bool" = none
  z_enumerate : mg "enumerate" = none
  z_int : mg "int" = none
  z_isinstance : mg "isinstance" = none
  z_len : mg "len" = none
  z_list : mg "list" = none
  z_range : mg "range" = none
  z_sorted : mg "sorted" = none
  t_MOST_WIDE : Tok
  m_MOST_WIDE : mg "MOST_WIDE" = some (.int 60 t_MOST_WIDE)
  t_MOST_ROOM : Tok
  m_MOST_ROOM : mg "MOST_ROOM" = some (.int 8 t_MOST_ROOM)
  k_Town_hears : Addr
  P_Town_hears : Addr
  tb_Town_hears : LamX.TabB base mg k_Town_hears P_Town_hears
  FC_Town_hears : FunC K "hears" "Town.hears" s_Town_hears a_Town_hears d_Town_hears k_Town_hears
  z0_Town_hears : ∀ H : Hp, Tabs0 K H → H P_Town_hears = some (.tbl #[])
  k_Town_ask : Addr
  P_Town_ask : Addr
  tb_Town_ask : LamX.TabB base mg k_Town_ask P_Town_ask
  FC_Town_ask : FunC K "ask" "Town.ask" s_Town_ask a_Town_ask d_Town_ask k_Town_ask
  z0_Town_ask : ∀ H : Hp, Tabs0 K H → H P_Town_ask = some (.tbl #[])
  k_Town_way : Addr
  P_Town_way : Addr
  tb_Town_way : LamX.TabB base mg k_Town_way P_Town_way
  FC_Town_way : FunC K "way" "Town.way" s_Town_way a_Town_way d_Town_way k_Town_way
  z0_Town_way : ∀ H : Hp, Tabs0 K H → H P_Town_way = some (.tbl #[])
  k_l_as_it_is : Addr
  P_l_as_it_is : Addr
  tb_l_as_it_is : LamX.TabB base mg k_l_as_it_is P_l_as_it_is
  FC_l_as_it_is : FunC K "_law_as_it_is" "_law_as_it_is" s_l_as_it_is a_l_as_it_is d_l_as_it_is k_l_as_it_is
  z0_l_as_it_is : ∀ H : Hp, Tabs0 K H → H P_l_as_it_is = some (.tbl #[])
def tabsL {K : PySem.W.Frag} {mg : Str → Option Value} {base : Heap} (T : Tx K mg base) : List NdefX.NTab := [(T.P_Town_hears, nmAll), (T.P_Town_ask, nmAll), (T.P_Town_way, nmAll), (T.P_l_as_it_is, nmAll)]
theorem tabm_Town_hears {K : PySem.W.Frag} {mg : Str → Option Value} {base : Heap} {T : Tx K mg base} : (T.P_Town_hears, nmAll) ∈ tabsL T := by simp [tabsL]
theorem tabm_Town_ask {K : PySem.W.Frag} {mg : Str → Option Value} {base : Heap} {T : Tx K mg base} : (T.P_Town_ask, nmAll) ∈ tabsL T := by simp [tabsL]
theorem tabm_Town_way {K : PySem.W.Frag} {mg : Str → Option Value} {base : Heap} {T : Tx K mg base} : (T.P_Town_way, nmAll) ∈ tabsL T := by simp [tabsL]
theorem tabm_l_as_it_is {K : PySem.W.Frag} {mg : Str → Option Value} {base : Heap} {T : Tx K mg base} : (T.P_l_as_it_is, nmAll) ∈ tabsL T := by simp [tabsL]
theorem tabnm {K : PySem.W.Frag} {mg : Str → Option Value} {base : Heap} {T : Tx K mg base} : ∀ p ∈ tabsL T, p.2 = nmAll := by simp [tabsL]
theorem Fr.tabs {K : PySem.W.Frag} {mg : Str → Option Value} {base : Heap} {T : Tx K mg base} {S : Addr → Prop} {H H' : Hp} (f : Fr S H H') (t : NdefX.TabsN (tabsL T) H) : NdefX.TabsN (tabsL T) H' := fun p hp => by
  have e := tabnm p hp
  have q := t p hp
  rw [e] at q ⊢
  exact f.tab p.1 q
theorem tabs0 {K : PySem.W.Frag} {mg : Str → Option Value} {base : Heap} {T : Tx K mg base} {H : Hp} (h : Tabs0 K H) : NdefX.TabsN (tabsL T) H := by
  unfold NdefX.TabsN tabsL
  simp only [List.mem_cons, List.not_mem_nil, or_false, forall_eq_or_imp, forall_eq, false_imp_iff, implies_true]
  exact ⟨NdefX.TabN.nil (T.z0_Town_hears H h), NdefX.TabN.nil (T.z0_Town_ask H h), NdefX.TabN.nil (T.z0_Town_way H h), NdefX.TabN.nil (T.z0_l_as_it_is H h)⟩
end Nn
local macro_rules | `(tactic| walk_at "wz") => `(tactic| dsimp only [↓Nn.e_next, ↓Nn.e_asg, ↓Nn.e_name, ↓Nn.e_ret, ↓Nn.e_retN, ↓Nn.e_drop, ↓Nn.e_ifS, ↓Nn.e_IT, ↓Nn.e_IF, ↓Nn.e_INT, ↓Nn.e_INF, ↓Nn.e_if, ↓Nn.e_varS, ↓Nn.e_c, ↓Nn.e_op, ↓Nn.e_un, ↓Nn.e_cb, ↓Nn.e_nil, ↓Nn.e_cons, ↓Nn.e_test, ↓Nn.e_B, ↓Nn.e_and, ↓Nn.e_or, ↓Nn.e_not, ↓Nn.e_andV, ↓Nn.e_orV, ↓Nn.e_notV, ↓Nn.e_chain, ↓Nn.e_for, ↓Nn.e_fld, ↓Nn.e_sfld, ↓Nn.e_meth, ↓Nn.e_methC, ↓Nn.e_callC, ↓Nn.e_make, ↓Nn.e_sl, ↓Nn.e_nopart, ↓Nn.e_part, ↓Nn.e_dget, ↓Nn.e_dget2, ↓Nn.e_dpop1, ↓Nn.e_dpop2, ↓Nn.e_din, ↓Nn.e_dnin, ↓Nn.e_dput, ↓Nn.e_dnew, ↓Nn.e_bits, ↓Nn.e_lenSet, ↓Nn.e_lc, ↓Nn.e_wipe0, ↓Nn.e_wipe1, ↓Nn.e_yes, ↓Nn.e_rng1, ↓Nn.e_rng2, ↓Nn.e_rng3, ↓Nn.e_iList, ↓Nn.e_iTup, ↓Nn.e_keys, ↓Nn.e_iEnum, ↓Nn.e_iZip, ↓Nn.e_bm, ↓Nn.e_bm0, ↓Nn.e_tup, ↓Nn.e_lst, ↓Nn.e_calld, ↓Nn.e_T, ↓Nn.e_F, ↓Nn.e_NT, ↓Nn.e_NF, ↓List.set_cons_zero, ↓List.set_cons_succ, ↓List.cons_append, ↓List.nil_append])
local macro_rules | `(tactic| walk_at "wx") => `(tactic| repeat (walk_at "wx1"))
local macro_rules | `(tactic| walk_at "wx1") => `(tactic| (first
  | with_reducible refine Nn.x_v0 ?_
  | with_reducible refine Nn.x_seq ?_
  | walk_at "wz"
  | with_reducible refine Nn.x_bl ?_
  | with_reducible refine Nn.x_i0 ?_
  | ((with_reducible refine Nn.x_i ?_ ?_); (focus (walk_at "wside")))
  | with_reducible refine Nn.x_eqI ?_
  | with_reducible refine Nn.x_neI ?_
  | with_reducible refine Nn.x_INs ?_
  | with_reducible refine Nn.x_IEs ?_
  | with_reducible refine Nn.x_NEs ?_
  | with_reducible refine Nn.x_Es ?_
  | with_reducible refine Nn.x_whT ?_
  | with_reducible refine Nn.x_whF ?_
  | walk_at "wx2"))
local macro_rules | `(tactic| walk_at "wx2") => `(tactic| (first
  | ((with_reducible refine' Nn.x_ixL ?hS ?hA ?_); (case hS => walk_at "wsq"); (case hA => walk_at "wat"))
  | ((with_reducible refine' Nn.x_ixT ?hS ?hA ?_); (case hS => walk_at "wsqt"); (case hA => walk_at "wat"))
  | ((with_reducible refine' Nn.x_lenL ?hS ?_); (case hS => walk_at "wsq"))
  | ((with_reducible refine' Nn.x_lenT ?hS ?_); (case hS => walk_at "wsqt"))
  | ((with_reducible refine' Nn.x_tyL ?hS ?_); (case hS => walk_at "wsq"))
  | ((with_reducible refine' Nn.x_append ?hS ?hA ?_); (case hS => walk_at "wob"); (case hA => walk_at "wlen"))
  | ((with_reducible refine' Nn.x_gTup ?hS ?hA ?_); (case hS => walk_at "wsqt"); (case hA => rfl))
  | with_reducible refine Nn.x_gCons ?_
  | with_reducible refine Nn.x_gNil ?_
  | ((with_reducible refine' Nn.x_shl1 ?hS ?hA ?_); (case hS => walk_at "wnat"); (case hA => omega))
  | ((with_reducible refine Nn.x_rgN ?_ ?_); (focus (walk_at "wside")))
  | ((with_reducible refine Nn.x_rgDown ?_ ?_); (focus (walk_at "wside")))
  | ((with_reducible refine' Nn.x_itL ?hS ?_); (case hS => walk_at "wsq"))
  | ((with_reducible refine' Nn.x_itT ?hS ?_); (case hS => walk_at "wsqt"))
  | ((with_reducible refine' Nn.x_enL ?hS ?_); (case hS => walk_at "wsq"))
  | ((with_reducible refine' Nn.x_ziL ?hS ?hA ?_); (case hS => walk_at "wsq"); (case hA => walk_at "wsq"))
  | ((with_reducible refine' Nn.x_lenD ?hS ?_); (case hS => walk_at "wob"))
  | ((with_reducible refine' Nn.x_shrN ?hS ?hA ?_); (case hS => walk_at "wnat"); (case hA => walk_at "wnat"))
  | ((with_reducible refine' Nn.x_xorN ?hS ?hA ?_); (case hS => walk_at "wnat"); (case hA => walk_at "wnat"))
  | ((with_reducible refine' Nn.x_shlN ?hS ?hA ?hB ?hC ?_); (case hS => walk_at "wnat"); (case hA => walk_at "wnat"); (case hB => walk_at "wpre"); (case hC => walk_at "wpre"))
  | with_reducible refine Nn.x_bits ?_
  | ((with_reducible refine' Nn.x_eqLN ?hS ?hA ?_); (case hS => walk_at "wsq"); (case hA => walk_at "wsq"))
  | ((with_reducible refine' Nn.x_neLN ?hS ?hA ?_); (case hS => walk_at "wsq"); (case hA => walk_at "wsq"))
  | ((with_reducible refine' Nn.x_dget ?hS ?hA ?_); (case hS => walk_at "wob"); (case hA => walk_at "wat"))
  | ((with_reducible refine' Nn.x_din ?hS ?_); (case hS => walk_at "wob"))
  | ((with_reducible refine' Nn.x_dnin ?hS ?_); (case hS => walk_at "wob"))
  | ((with_reducible refine' Nn.x_dgetR ?hS ?hA ?_); (case hS => assumption); (case hA => walk_at "wat"))
  | ((with_reducible refine' Nn.x_dgetS ?hS ?hA ?_); (case hS => walk_at "wrd"); (case hA => assumption))
  | ((with_reducible refine' Nn.x_dinR ?hS ?_); (case hS => assumption))
  | ((with_reducible refine' Nn.x_dninR ?hS ?_); (case hS => assumption))
  | ((with_reducible refine' Nn.x_itK ?hS ?_); (case hS => walk_at "wob"))
  | ((with_reducible refine' Nn.x_dpop1 ?hS ?_); (case hS => walk_at "wob"))
  | ((with_reducible refine' Nn.x_p1 ?hS ?hA ?_); (case hS => walk_at "wob"); (case hA => assumption))
  | ((with_reducible refine' Nn.x_dpop2 ?hS ?_); (case hS => walk_at "wob"))
  | ((with_reducible refine' Nn.x_dget2 ?hS ?_); (case hS => walk_at "wob"))
  | ((with_reducible refine' Nn.x_g2 ?hS ?_); (case hS => walk_at "wob"))
  | ((with_reducible refine' Nn.x_dput ?hS ?hA ?_); (case hS => walk_at "wob"); (case hA => walk_at "wlen"))
  | ((with_reducible refine' Nn.x_fld ?hS ?hA ?hB ?hC ?_); (case hS => walk_at "wob"); (case hA => assumption); (case hB => assumption); (case hC => walk_at "wlk"))
  | ((with_reducible refine' Nn.x_sfld ?hS ?hA ?hB ?hE ?hC ?_); (case hS => walk_at "wob"); (case hA => assumption); (case hB => assumption); (case hE => walk_at "wput"); (case hC => rfl))
  | ((with_reducible refine' Nn.x_meth ?hS ?hA ?_); (case hS => walk_at "wob"); (case hA => walk_at "wnolk"))
  | ((with_reducible refine' Nn.x_methC ?hS ?hA ?_); (case hS => walk_at "wob"); (case hA => walk_at "wnolk"))
  | ((with_reducible refine' Nn.x_inN ?hS ?hA ?_); (case hS => walk_at "wnat"); (case hA => walk_at "wsq"))
  | ((with_reducible refine' Nn.x_ninN ?hS ?hA ?_); (case hS => walk_at "wnat"); (case hA => walk_at "wsq"))
  | with_reducible refine Nn.x_truB ?_
  | ((with_reducible refine' Nn.x_aug2 ?hS ?_); (case hS => rfl))
  | with_reducible refine Nn.x_augI ?_
  | with_reducible refine Nn.x_isNN ?_
  | with_reducible refine Nn.x_isNI ?_
  | with_reducible refine Nn.x_isNB ?_
  | with_reducible refine Nn.x_isNS ?_
  | with_reducible refine Nn.x_isNR ?_
  | with_reducible refine Nn.x_notNN ?_
  | with_reducible refine Nn.x_notNI ?_
  | with_reducible refine Nn.x_notNB ?_
  | with_reducible refine Nn.x_notNS ?_
  | with_reducible refine Nn.x_notNR ?_
  | with_reducible refine Nn.x_part ?_
  | with_reducible refine Nn.x_u ?_
  | with_reducible refine Nn.x_min2 ?_
  | with_reducible refine Nn.x_max2 ?_
  | with_reducible refine Nn.x_abs ?_
  | with_reducible refine Nn.x_eqB ?_
  | with_reducible refine Nn.x_neB ?_
  | with_reducible refine Nn.x_eqS ?_
  | with_reducible refine Nn.x_neS ?_
  | with_reducible refine Nn.x_intI ?_
  | with_reducible refine Nn.x_intB ?_
  | walk_at "wisi"
  | walk_at "wc"))
local macro_rules | `(tactic| walk_at "wside") => `(tactic| (first
  | with_reducible assumption
  | with_reducible exact Nn.two_pos
  | omega
  | (show (0 : Int) < _; first | omega | decide +kernel)
  | exact Or.inr ⟨by omega, by omega⟩
  | exact Or.inl ⟨by omega, by omega⟩
  | exact ⟨by omega, by decide +kernel⟩
  | exact ⟨by omega, by omega, by omega⟩
  | (show (0 : Int) ≤ _; first | omega | decide +kernel | exact Int.mul_nonneg (by omega) (by omega))))
local macro_rules | `(tactic| walk_at "wob") => `(tactic| (first
  | assumption
  | exact L2.upd_same
  | ((with_reducible refine' Nn.at_new ?hNone ?hKept); (case hNone => assumption); (case hKept => walk_at "wob"))
  | ((with_reducible refine' Nn.at_upd ?hSome ?hAt ?hDif); (case hSome => assumption); (case hAt => walk_at "wob"); (case hDif => (intro z; cases z)))
  | exact Nn.Ex.at (by assumption) (by assumption)))
local macro_rules | `(tactic| walk_at "wrd") => `(tactic| (first
  | assumption
  | ((refine' Or.inl ?hOb); (case hOb => walk_at "wob"))))
local macro_rules | `(tactic| walk_at "wlen") => `(tactic| (rw [PySem.sizeLine_eq]; simp only [List.length_map, List.length_append, List.length_cons, List.length_nil]; omega))
local macro_rules | `(tactic| walk_at "wsqt") => `(tactic| (first
  | assumption
  | ((refine' L2.SqT.of ?hOb); (case hOb => walk_at "wob"))
  | exact Nn.Ex.tu (by assumption) (by assumption)
  | exact L2.SqT.of L2.upd_same))
local macro_rules | `(tactic| walk_at "wnat") => `(tactic| with_unfolding_all rfl)
local macro_rules | `(tactic| walk_at "wsq") => `(tactic| (first
  | assumption
  | ((refine' L2.SqL.of ?hOb); (case hOb => walk_at "wob"))
  | exact Nn.Ex.ls (by assumption) (by assumption)
  | exact Nn.Ex.ls (Nn.Ex.new (by assumption)) (by assumption)
  | exact L2.SqL.of L2.upd_same))
local macro_rules | `(tactic| walk_at "wat") => `(tactic| (first
  | assumption
  | exact Nn.atI_hd
  | with_unfolding_all rfl))
local macro_rules | `(tactic| walk_at "wisi") => `(tactic| ((with_reducible refine Nn.x_isG ?_); (first
  | with_reducible refine Nn.x_isI_int ?_
  | with_reducible refine Nn.x_isI_bool ?_
  | with_reducible refine Nn.x_isI_str ?_
  | with_reducible refine Nn.x_isB_int ?_
  | with_reducible refine Nn.x_isB_bool ?_
  | with_reducible refine Nn.x_isB_str ?_
  | with_reducible refine Nn.x_isS_int ?_
  | with_reducible refine Nn.x_isS_bool ?_
  | with_reducible refine Nn.x_isS_str ?_
  | with_reducible refine Nn.x_isN_int ?_
  | with_reducible refine Nn.x_isN_bool ?_
  | with_reducible refine Nn.x_isN_str ?_
  | ((with_reducible refine' Nn.x_isL_int ?hS ?_); (case hS => walk_at "wob"))
  | ((with_reducible refine' Nn.x_isL_list ?hS ?_); (case hS => walk_at "wob"))
  | ((with_reducible refine' Nn.x_isL_tuple ?hS ?_); (case hS => walk_at "wob"))
  | ((with_reducible refine' Nn.x_isT_int ?hS ?_); (case hS => walk_at "wob"))
  | ((with_reducible refine' Nn.x_isT_list ?hS ?_); (case hS => walk_at "wob"))
  | ((with_reducible refine' Nn.x_isT_tuple ?hS ?_); (case hS => walk_at "wob"))
  | ((with_reducible refine' Nn.x_isD_int ?hS ?_); (case hS => walk_at "wob"))
  | ((with_reducible refine' Nn.x_isD_list ?hS ?_); (case hS => walk_at "wob"))
  | ((with_reducible refine' Nn.x_isD_tuple ?hS ?_); (case hS => walk_at "wob")))))
local macro_rules | `(tactic| walk_at "wpre") => `(tactic| (first
  | with_reducible assumption
  | omega
  | refine ⟨?_, ?_⟩ <;> walk_at "wpre"))
local macro_rules | `(tactic| walk_at "wlk") => `(tactic| (first | exact Nn.lk_Bucket_room | exact Nn.lk_Bucket_line | exact Nn.lk_Table_own | exact Nn.lk_Table_wide | exact Nn.lk_Table_room | exact Nn.lk_Table_buckets | exact Nn.lk_Town_wide | exact Nn.lk_Town_room | exact Nn.lk_Town_tables | exact Nn.lk_Town_hushed))
local macro_rules | `(tactic| walk_at "wnolk") => `(tactic| (first | exact Nn.no_Bucket_names | exact Nn.no_Bucket_hears | exact Nn.no_Bucket_drops | exact Nn.no_Table_bucket_for | exact Nn.no_Table_hears | exact Nn.no_Table_drops | exact Nn.no_Table_bucket | exact Nn.no_Table_keeps | exact Nn.no_Table_nearest | exact Nn.no_Town_houses | exact Nn.no_Town_answers | exact Nn.no_Town_answering | exact Nn.no_Town_table | exact Nn.no_Town_look_awake | exact Nn.no_Town_look_named | exact Nn.no_Town_bucket | exact Nn.no_Town_keeps | exact Nn.no_Town_tells | exact Nn.no_Town_hears | exact Nn.no_Town_come_to | exact Nn.no_Town_ask | exact Nn.no_Town_way | exact Nn.no_Town_visit | exact Nn.no_Town_come | exact Nn.no_Town_go | exact Nn.no_Town_hush | exact Nn.no_Town_wake))
local macro_rules | `(tactic| walk_at "wput") => `(tactic| (first | exact Nn.ini_Bucket_room | exact Nn.put_Bucket_room | exact Nn.ini_Bucket_line | exact Nn.put_Bucket_line | exact Nn.ini_Table_own | exact Nn.put_Table_own | exact Nn.ini_Table_wide | exact Nn.put_Table_wide | exact Nn.ini_Table_room | exact Nn.put_Table_room | exact Nn.ini_Table_buckets | exact Nn.put_Table_buckets | exact Nn.ini_Town_wide | exact Nn.put_Town_wide | exact Nn.ini_Town_room | exact Nn.put_Town_room | exact Nn.ini_Town_tables | exact Nn.put_Town_tables | exact Nn.ini_Town_hushed | exact Nn.put_Town_hushed))

namespace Nn
open PySem L2
/-! the bits -/
theorem xor_div_pow (a b k : Nat) : (a ^^^ b) / 2 ^ k = (a / 2 ^ k) ^^^ (b / 2 ^ k) := by
  rw [← Nat.shiftRight_eq_div_pow, ← Nat.shiftRight_eq_div_pow, ← Nat.shiftRight_eq_div_pow, Nat.shiftRight_xor_distrib]
theorem xor_mod_two (a b : Nat) : (a ^^^ b) % 2 = if a % 2 ≠ b % 2 then 1 else 0 := by
  have h := @Nat.xor_mod_two_eq_one a b
  rcases Nat.mod_two_eq_zero_or_one (a ^^^ b) with e | e
  · rw [e]
    split
    · rename_i q
      exact absurd (h.mpr (by omega)) (by omega)
    · rfl
  · rw [e]
    split
    · rfl
    · rename_i q
      exact absurd (h.mp e) (by omega)
theorem mod_pow_succ (x k : Nat) : x % 2 ^ (k + 1) = x % 2 ^ k + 2 ^ k * (x / 2 ^ k % 2) := Nat.mod_pow_succ
theorem xor_add (a b : Nat) : a ^^^ b ≤ a + b := by
  have h := Bits.nat_xor_add_and a b
  omega
theorem xor_tri (a b c : Nat) : a ^^^ c ≤ (a ^^^ b) + (b ^^^ c) := by
  have e : a ^^^ c = (a ^^^ b) ^^^ (b ^^^ c) := by
    rw [Nat.xor_assoc, ← Nat.xor_assoc b b c, Nat.xor_self, Nat.zero_xor]
  rw [e]; exact xor_add _ _

/-! the step, the span -/
def stepN (a b : Nat) : Nat := (a ^^^ b).log2
def lowN (n k : Nat) : Nat := ((n / 2 ^ k) ^^^ 1) * 2 ^ k
theorem xor_ne_zero {a b : Nat} (h : a ≠ b) : a ^^^ b ≠ 0 := fun e => h (by
  have q : a ^^^ (a ^^^ b) = a ^^^ 0 := by rw [e]
  rw [← Nat.xor_assoc, Nat.xor_self, Nat.zero_xor, Nat.xor_zero] at q
  exact q.symm)
theorem xor_eq_one {x y : Nat} : x ^^^ y = 1 ↔ y = x ^^^ 1 := by
  constructor
  · intro h; rw [← h, ← Nat.xor_assoc, Nat.xor_self, Nat.zero_xor]
  · intro h; rw [h, ← Nat.xor_assoc, Nat.xor_self, Nat.zero_xor]
theorem log2_eq {x k : Nat} (h : x ≠ 0) : x.log2 = k ↔ x / 2 ^ k = 1 := by
  have hp := Nat.two_pow_pos k
  constructor
  · intro e
    have h1 := Nat.log2_self_le h
    have h2 := Nat.lt_log2_self (n := x)
    rw [e] at h1 h2
    rw [Nat.pow_succ] at h2
    exact Nat.div_eq_of_lt_le (by omega) (by omega)
  · intro e
    have h1 : 2 ^ k ≤ x := by
      have := Nat.div_mul_le_self x (2 ^ k)
      rw [e] at this; omega
    have h2 : x < 2 ^ (k + 1) := by
      have := Nat.lt_div_mul_add (a := x) hp
      rw [e] at this
      rw [Nat.pow_succ]; omega
    exact (Nat.log2_eq_iff h).mpr ⟨h1, h2⟩
/-- the step is k just where the rest behind k is the one's with its last sign turned -/
theorem stepN_eq {a b k : Nat} (h : a ≠ b) : stepN a b = k ↔ b / 2 ^ k = (a / 2 ^ k) ^^^ 1 := by
  unfold stepN
  rw [log2_eq (xor_ne_zero h), xor_div_pow, xor_eq_one]
theorem xor_one_ne {x : Nat} : x ^^^ 1 ≠ x := fun e => by
  have q : x ^^^ (x ^^^ 1) = x ^^^ x := by rw [e]
  rw [← Nat.xor_assoc, Nat.xor_self, Nat.zero_xor] at q
  exact absurd q (by decide)
/-- in the span just those -/
theorem in_span {n k b : Nat} : (lowN n k ≤ b ∧ b ≤ lowN n k + 2 ^ k - 1) ↔ b / 2 ^ k = (n / 2 ^ k) ^^^ 1 := by
  have hp := Nat.two_pow_pos k
  unfold lowN
  constructor
  · intro ⟨h1, h2⟩
    exact Nat.div_eq_of_lt_le (by omega) (by rw [Nat.succ_mul]; omega)
  · intro e
    have h1 := Nat.div_mul_le_self b (2 ^ k)
    have h2 := Nat.lt_div_mul_add (a := b) hp
    rw [e] at h1 h2
    omega
theorem in_span_ne {n k b : Nat} (h : b / 2 ^ k = (n / 2 ^ k) ^^^ 1) : n ≠ b := fun e => by
  rw [← e] at h
  exact xor_one_ne h.symm
theorem span_step {n k b : Nat} : (lowN n k ≤ b ∧ b ≤ lowN n k + 2 ^ k - 1) ↔ (n ≠ b ∧ stepN n b = k) := by
  rw [in_span]
  constructor
  · intro h
    exact ⟨in_span_ne h, (stepN_eq (in_span_ne h)).mpr h⟩
  · intro ⟨h, e⟩
    exact (stepN_eq h).mp e
theorem low_lt {n k w : Nat} (hn : n < 2 ^ w) (hk : k < w) : lowN n k + 2 ^ k ≤ 2 ^ w := by
  have e : 2 ^ w = 2 ^ (w - k) * 2 ^ k := by rw [← Nat.pow_add]; congr 1; omega
  have h1 : n / 2 ^ k < 2 ^ (w - k) := Nat.div_lt_of_lt_mul (by rw [Nat.mul_comm, ← e]; exact hn)
  have h2 : (n / 2 ^ k) ^^^ 1 < 2 ^ (w - k) := Nat.xor_lt_two_pow h1 (Nat.one_lt_two_pow (by omega))
  unfold lowN
  rw [e, ← Nat.succ_mul]
  exact Nat.mul_le_mul_right _ h2
theorem stepN_lt {a b w : Nat} (ha : a < 2 ^ w) (hb : b < 2 ^ w) (h : a ≠ b) : stepN a b < w := (Nat.log2_lt (xor_ne_zero h)).mpr (Nat.xor_lt_two_pow ha hb)
theorem bitLen {x : Nat} : Builtin.Int.intBits (x : Int) = if x = 0 then 0 else x.log2 + 1 := by
  unfold Builtin.Int.intBits
  simp
/-- who is outside a span stands alike to all of it -/
theorem aside {g o one c k : Nat} (h1 : one / 2 ^ k = c) (h2 : o / 2 ^ k ≠ c) : g ^^^ o < g ^^^ one ↔ (g / 2 ^ k) ^^^ (o / 2 ^ k) < (g / 2 ^ k) ^^^ c := by
  have e1 := xor_div_pow g o k
  have e2 := xor_div_pow g one k
  rw [h1] at e2
  have ne : (g / 2 ^ k) ^^^ (o / 2 ^ k) ≠ (g / 2 ^ k) ^^^ c := fun e => h2 (by
    have q : (g / 2 ^ k) ^^^ ((g / 2 ^ k) ^^^ (o / 2 ^ k)) = (g / 2 ^ k) ^^^ ((g / 2 ^ k) ^^^ c) := by rw [e]
    rw [← Nat.xor_assoc, ← Nat.xor_assoc, Nat.xor_self, Nat.zero_xor, Nat.zero_xor] at q
    exact q)
  rw [← e1, ← e2] at ne ⊢
  constructor
  · intro h
    have := Nat.div_le_div_right (c := 2 ^ k) (Nat.le_of_lt h)
    omega
  · intro h
    exact Nat.lt_of_div_lt_div h
end Nn
namespace Nn
/-! lists without twice, rising; by nearness -/
def insU (x : Nat) : List Nat → List Nat
  | [] => [x]
  | y :: r => if x < y then x :: y :: r else if x = y then y :: r else y :: insU x r
def sortU : List Nat → List Nat
  | [] => []
  | x :: r => insU x (sortU r)
theorem mem_insU {x z : Nat} : ∀ {l : List Nat}, z ∈ insU x l ↔ z = x ∨ z ∈ l
  | [] => by simp [insU]
  | y :: r => by
    unfold insU
    by_cases h : x < y
    · rw [if_pos h]; simp
    · rw [if_neg h]
      by_cases e : x = y
      · rw [if_pos e, e]; simp
      · rw [if_neg e, List.mem_cons, mem_insU (l := r), List.mem_cons]
        constructor
        · rintro (h | h | h)
          · exact .inr (.inl h)
          · exact .inl h
          · exact .inr (.inr h)
        · rintro (h | h | h)
          · exact .inr (.inl h)
          · exact .inl h
          · exact .inr (.inr h)
theorem insU_sorted {x : Nat} : ∀ {l : List Nat}, l.Pairwise (· < ·) → (insU x l).Pairwise (· < ·)
  | [], _ => by simp [insU]
  | y :: r, h => by
    have h1 := List.pairwise_cons.mp h
    unfold insU
    by_cases hx : x < y
    · rw [if_pos hx]
      refine List.pairwise_cons.mpr ⟨fun z hz => ?_, h⟩
      rcases List.mem_cons.mp hz with e | hz
      · omega
      · have := h1.1 z hz; omega
    · rw [if_neg hx]
      by_cases e : x = y
      · rw [if_pos e]; exact h
      · rw [if_neg e]
        refine List.pairwise_cons.mpr ⟨fun z hz => ?_, insU_sorted h1.2⟩
        rcases mem_insU.mp hz with e | hz
        · omega
        · exact h1.1 z hz
theorem mem_sortU {z : Nat} : ∀ {l : List Nat}, z ∈ sortU l ↔ z ∈ l
  | [] => by simp [sortU]
  | x :: r => by unfold sortU; rw [mem_insU, mem_sortU (l := r), List.mem_cons]
theorem sortU_sorted : ∀ l : List Nat, (sortU l).Pairwise (· < ·)
  | [] => by simp [sortU]
  | x :: r => insU_sorted (sortU_sorted r)
/-- two rising lists of the same members are one -/
theorem rising_eq : ∀ {a b : List Nat}, a.Pairwise (· < ·) → b.Pairwise (· < ·) → (∀ z, z ∈ a ↔ z ∈ b) → a = b
  | [], [], _, _, _ => rfl
  | [], y :: r, _, _, h => absurd ((h y).mpr (List.mem_cons_self ..)) (by simp)
  | x :: r, [], _, _, h => absurd ((h x).mp (List.mem_cons_self ..)) (by simp)
  | x :: r, y :: s, ha, hb, h => by
    have h1 := List.pairwise_cons.mp ha
    have h2 := List.pairwise_cons.mp hb
    have e : x = y := by
      have a1 := (h x).mp (List.mem_cons_self ..)
      have a2 := (h y).mpr (List.mem_cons_self ..)
      rcases List.mem_cons.mp a1 with e | a1
      · exact e
      · rcases List.mem_cons.mp a2 with e | a2
        · exact e.symm
        · have b1 := h1.1 y a2
          have b2 := h2.1 x a1
          omega
    subst e
    refine congrArg (x :: ·) (rising_eq h1.2 h2.2 fun z => ?_)
    constructor
    · intro hz
      rcases List.mem_cons.mp ((h z).mp (List.mem_cons_of_mem _ hz)) with e | q
      · have := h1.1 z hz; omega
      · exact q
    · intro hz
      rcases List.mem_cons.mp ((h z).mpr (List.mem_cons_of_mem _ hz)) with e | q
      · have := h2.1 z hz; omega
      · exact q
theorem rising_nodup {l : List Nat} (h : l.Pairwise (· < ·)) : l.Nodup := h.imp fun {a b} q => Nat.ne_of_lt q
theorem sortU_of_rising {l : List Nat} (h : l.Pairwise (· < ·)) : sortU l = l := rising_eq (sortU_sorted l) h fun _ => mem_sortU
theorem sortU_congr {a b : List Nat} (h : ∀ z, z ∈ a ↔ z ∈ b) : sortU a = sortU b := rising_eq (sortU_sorted _) (sortU_sorted _) fun z => by rw [mem_sortU, mem_sortU, h]
theorem nodup_len : ∀ {a b : List Nat}, a.Nodup → (∀ z ∈ a, z ∈ b) → a.length ≤ b.length
  | [], _, _, _ => Nat.zero_le _
  | x :: r, b, h, hs => by
    have h1 := List.nodup_cons.mp h
    have hx := hs x (List.mem_cons_self ..)
    have e := List.length_erase_of_mem hx
    have hp : 0 < b.length := List.length_pos_of_mem hx
    have ih := nodup_len (b := b.erase x) h1.2 fun z hz => by
      have ne : z ≠ x := fun e => h1.1 (e ▸ hz)
      exact (List.mem_erase_of_ne ne).mpr (hs z (List.mem_cons_of_mem _ hz))
    rw [List.length_cons]
    omega
theorem xor_self_left (g n : Nat) : g ^^^ (g ^^^ n) = n := by rw [← Nat.xor_assoc, Nat.xor_self, Nat.zero_xor]
theorem xor_inj {g a b : Nat} (h : g ^^^ a = g ^^^ b) : a = b := by
  have q : g ^^^ (g ^^^ a) = g ^^^ (g ^^^ b) := by rw [h]
  rwa [xor_self_left, xor_self_left] at q
/-- by nearness to g, each once -/
def byN (g : Nat) (ns : List Nat) : List Nat := (sortU (ns.map (g ^^^ ·))).map (g ^^^ ·)
theorem mem_byN {g z : Nat} {ns : List Nat} : z ∈ byN g ns ↔ z ∈ ns := by
  unfold byN
  rw [List.mem_map]
  constructor
  · rintro ⟨k, hk, rfl⟩
    obtain ⟨n, hn, rfl⟩ := List.mem_map.mp (mem_sortU.mp hk)
    rw [xor_self_left]; exact hn
  · intro h
    exact ⟨g ^^^ z, mem_sortU.mpr (List.mem_map.mpr ⟨z, h, rfl⟩), xor_self_left _ _⟩
theorem byN_sorted (g : Nat) (ns : List Nat) : (byN g ns).Pairwise fun a b => g ^^^ a < g ^^^ b := by
  unfold byN
  rw [List.pairwise_map]
  exact (sortU_sorted _).imp fun {a b} h => by rw [xor_self_left, xor_self_left]; exact h
theorem byN_nodup (g : Nat) (ns : List Nat) : (byN g ns).Nodup := (byN_sorted g ns).imp fun {a b} h e => by rw [e] at h; exact Nat.lt_irrefl _ h
/-- the one list that is ordered so, with these members -/
theorem byN_uniq {g : Nat} {ns l : List Nat} (hs : l.Pairwise fun a b => g ^^^ a < g ^^^ b) (hm : ∀ z, z ∈ l ↔ z ∈ ns) : l = byN g ns := by
  have e : l.map (g ^^^ ·) = sortU (ns.map (g ^^^ ·)) := by
    refine rising_eq (List.pairwise_map.mpr hs) (sortU_sorted _) fun z => ?_
    rw [mem_sortU, List.mem_map, List.mem_map]
    constructor
    · rintro ⟨a, h, e⟩; exact ⟨a, (hm a).mp h, e⟩
    · rintro ⟨a, h, e⟩; exact ⟨a, (hm a).mpr h, e⟩
  unfold byN
  rw [← e, List.map_map]
  have : ((g ^^^ ·) ∘ (g ^^^ ·) : Nat → Nat) = id := funext fun n => xor_self_left g n
  rw [this, List.map_id]
theorem byN_congr {g : Nat} {a b : List Nat} (h : ∀ z, z ∈ a ↔ z ∈ b) : byN g a = byN g b := byN_uniq (byN_sorted g a) fun z => by rw [mem_byN, h]
theorem byN_len_le {g : Nat} {ns : List Nat} : (byN g ns).length ≤ ns.length := nodup_len (byN_nodup g ns) fun _ h => mem_byN.mp h
theorem byN_len {g g' : Nat} {ns : List Nat} : (byN g ns).length = (byN g' ns).length :=
  Nat.le_antisymm (nodup_len (byN_nodup _ _) fun _ h => mem_byN.mpr (mem_byN.mp h)) (nodup_len (byN_nodup _ _) fun _ h => mem_byN.mpr (mem_byN.mp h))
end Nn
/-! set(list of ints), as the layer's sets are kept -/
namespace Nn
open PySem PySem.Spec PyProof.Rows L2
section
variable {P : Program} {w : World} {A : Around} {E : Value → Shared → Prop} {s : Shared}
/-- a set's object, just made -/
abbrev newS (w : World) : Obj := { cls := .type "set", dict := none, data := .set #[] 0 (.fresh 0 0 (!w.params.followText "set-order")) }
/-- what the filling of a new set at S by the list at l does -/
def Filled (w : World) (S : Addr) (ns : List Int) (s s2 : Shared) : Prop := ∃ (h2 : Heap) (tk c : Nat), s2 = { s with heap := h2, toks := tk } ∧ SetR w h2 S (fun j => decide (j ∈ ns)) c ∧ c ≤ ns.length ∧ ∀ b o, b ≠ S → s.heap.get? b = some o → h2.get? b = some o
set_option maxRecDepth 100000 in
set_option maxHeartbeats 3200000 in
theorem fill_set {S l : Addr} {items : Array Value} {ns : List Int} {Q : Value → Shared → Prop} (hh : A.handled = none) (hS : s.heap.get? S = some (newS w)) (hl : s.heap.IsList l items) (hit : IntsAre items.toList ns) (hb : ns.length + 1 < scanBound)
    (h : ∀ s2, Filled w S ns s s2 → Q .none s2) : codeAny (model P w) A (.call (.builtin "set.__init__") ⟨[.ref S, .ref l], []⟩) (wants Q E) s := by
  have hT : Shared.TypeIs s (.ref S) "set" := ⟨_, hS, rfl⟩
  have hlen : items.size = ns.length := by
    have q := IntsAre.length hit
    rwa [Array.length_toList] at q
  have hlS : l ≠ S := fun z => by
    obtain ⟨o, ho, _, n, hd⟩ := hl
    rw [z, hS] at ho
    cases ho
    cases hd
  refine codeAny_call_builtin F.called_set.init.plain F.entry_set_init (check_set_init_1 hT ?_)
  obtain ⟨⟨oc, od, ob, osl⟩, hol, hcl, nl, hdl⟩ := id hl
  simp only at hcl hdl
  subst hcl hdl
  have a1 := F.sub_list_set
  have a2 := F.sub_list_frozenset
  have a3 : (Value.type "list" == Value.type "dict") = false := by decide
  unfold Builtin.«set.__init__» noKeywords Builtin.Frozenset.updateFrom
  generalize hPI : pyIter = PI
  wp_walk
  subst hPI
  refine wpAny_pyIter_list hl ?_
  refine wpAny_bind (wpAny_runValue ?_)
  have hi3 : A.in1.in1.handled = none := by simp [hh]
  have low : ∀ {b : Addr} {o : Obj}, s.heap.get? b = some o → b ≠ s.heap.objs.size := fun e => Nat.ne_of_lt (Heap.lt_size e)
  have hfp : S ∉ [s.heap.objs.size, l] := by
    simp only [List.mem_cons, List.not_mem_nil, or_false, not_or]
    exact ⟨low hS, hlS.symm⟩
  have hS2 : ∀ o : Obj, (s.heap.push o).get? S = some (newS w) := fun o => Heap.get?_push_of_some _ hS
  have hv2 : ∀ (i : Nat) (v : Value), items[i]? = some v → ∃ k t, ns[i]? = some k ∧ v = .int k t := fun i v hv => by
    have hi : i < ns.length := by rw [← hlen]; exact (Array.getElem?_eq_some_iff.mp hv).1
    obtain ⟨t, e⟩ := PyProof.Rows.IntsAre.int_at hit i v ((Array.getElem?_toList).trans hv)
    refine ⟨ns[i], t, List.getElem?_eq_getElem hi, e.trans ?_⟩
    rw [List.getD_eq_getElem?_getD, List.getElem?_eq_getElem hi]; rfl
  refine set_update_ints ((Walks.list hi3 _ l (low hol) items).toS) S hfp ns hlen hb hv2 (items.size - 0) 0 _ (by omega) (Nat.zero_le _) ?hSt ?hS0 ?hR
  · exact ⟨⟨_, Heap.get?_push_size _ rfl, rfl, rfl⟩, hl.push _⟩
  · exact ⟨0, Nat.le_refl 0, setR_new_at (w := w) (hS2 _)⟩
  · rintro ⟨h2, g2, d2, tk2, o2⟩ c hm hc hR
    obtain rfl : g2 = s.gens := hm.gens
    obtain rfl : d2 = s.drawn := hm.drawn
    obtain rfl : o2 = s.os := hm.os
    rw [hlen] at hc
    show wpAny (model P w) _ (pure ()) _ _ _
    refine wpAny_pure ?_
    show wpAny (model P w) _ (ret Value.none) _ _ _
    refine wpAny_pure ?_
    refine h _ ⟨h2, tk2, c, rfl, hR, hc, fun b o nb e => hm.heap b o ?_ (Heap.get?_push_of_some _ e)⟩
    simp only [List.mem_cons, List.not_mem_nil, or_false, not_or]
    exact ⟨nb, low e⟩
set_option maxRecDepth 100000 in
set_option maxHeartbeats 3200000 in
theorem call_set_L {l : Addr} {items : Array Value} {ns : List Int} {Q : Value → Shared → Prop} (hh : A.handled = none) (hl : s.heap.IsList l items) (hit : IntsAre items.toList ns) (hb : ns.length + 1 < scanBound)
    (h : ∀ s2, Filled w s.heap.objs.size ns { s with heap := s.heap.push (newS w) } s2 → Q (.ref s.heap.objs.size) s2) : wpAny (model P w) A (call (.type "set") [.ref l]) Q E s := by
  obtain ⟨c, tl, hmro⟩ := F.called_set.mro
  have b1 := F.called_set.made
  have b2 := F.called_set.sub
  have b3 := F.called_set.notType
  have b4 := F.called_set.canCreate
  have b5 := F.typeCall_set_1 (.ref l)
  refine wpAny_call (codeAny_of_tree ?_)
  show wpAny (model P w) _ (callAny (.type "set") ⟨[.ref l], []⟩) _ _ s
  refine wpAny_pure ⟨Code.quiet_builtin _ (by decide +kernel), ?_⟩
  refine codeAny_builtin F.entry_type_call ?_
  rw [Around.under_plain (weight_type_call_type "set" [.ref l] []) rfl]
  repeat (any_goals (first | assumption | wp_step))
  refine codeAny_mono (code_set_led1 (.ref l) (E := E) (Q₁ := fun o s1 => o = .ref s.heap.objs.size ∧ s1 = { s with heap := s.heap.push (newS w) }) ⟨rfl, rfl⟩) fun r s1 hr => ?_
  match r, hr with
  | .error e, hr => exact hr
  | .ok .next, hr => exact hr.elim
  | .ok .brk, hr => exact hr.elim
  | .ok .cont, hr => exact hr.elim
  | .ok (.ret o), hr =>
    obtain ⟨rfl, rfl⟩ := hr
    have hS : (s.heap.push (newS w)).get? s.heap.objs.size = some (newS w) := Heap.get?_push_size _ rfl
    have hT : Shared.TypeIs { s with heap := s.heap.push (newS w) } (.ref s.heap.objs.size) "set" := ⟨_, hS, rfl⟩
    have b6 := F.called_set.init.lookup
    have b7 := F.called_set.init.bind (.ref s.heap.objs.size)
    repeat (any_goals (first | assumption | wp_step))
    refine codeAny_mono (fill_set (S := s.heap.objs.size) (l := l) (ns := ns) (items := items) (E := E) (Q := fun r s2 => r = .none ∧ Filled w s.heap.objs.size ns { s with heap := s.heap.push (newS w) } s2) (by simp [hh]) hS (hl.push _) hit hb fun s2 f => ⟨rfl, f⟩) fun r2 s2 hr2 => ?_
    match r2, hr2 with
    | .error e, hr2 => exact hr2
    | .ok .next, hr2 => exact hr2.elim
    | .ok .brk, hr2 => exact hr2.elim
    | .ok .cont, hr2 => exact hr2.elim
    | .ok (.ret o), hr2 =>
      obtain ⟨rfl, f⟩ := hr2
      obtain ⟨h2, tk, c2, rfl, g1, g2, g3⟩ := id f
      repeat (any_goals (first | assumption | wp_step))
      exact h _ f
end
/-- set(xs), xs a list of ints -/
def rSetL (K : PySem.W.Frag) (w : World) : List V → Hp → VK → Prop := fun xs H Q => ∃ (l : Addr) (ns : List Int), xs = [.ref l] ∧ SqL K H l (ns.map V.int) ∧ ns.length ≤ 4000 ∧ ∀ p c, H p = none → c ≤ ns.length → Q (.ref p) (upd H p (SetO w p (fun j => decide (j ∈ ns)) c))
theorem cr_setL {X : Cx} (hc : X.calm = true) : CallR X (.type "set") (rSetL X.K X.w) := by
  intro pins s σ H xs us Q I r h
  obtain ⟨l, ns, rfl, hq, hz, q⟩ := h
  rw [Vals.ref1 r]
  obtain ⟨its, r2, pl, hz2⟩ := I.list hq
  refine call_set_L (I.ok.hd hc) pl.isList (by simpa using RZ.intsAre_vals r2) (by unfold scanBound; omega) fun s2 f => ?_
  obtain ⟨h2, tk, c, rfl, g1, g2, g3⟩ := f
  have nf : H s.heap.objs.size = none := I.hok.fresh (Nat.le_refl _)
  refine ⟨.ref _, upd H s.heap.objs.size (SetO X.w s.heap.objs.size (fun j => decide (j ∈ ns)) c), I.laid (t' := tk) (fun b u e => g3 b u (Nat.ne_of_lt (Heap.lt_size e)) (Heap.get?_push_of_some _ e)) (Nat.le_refl _) (setO_new g1), rfl, q _ c nf g2⟩
/-- how many members a rising list of them has -/
theorem x_setL {K : PySem.W.Frag} {w : World} {H : Hp} {Q : VK} {l : Addr} {ns : List Nat} (hS : SqL K H l (ns.map nV)) (hz : ns.length ≤ 4000) (h : ∀ p c, H p = none → c ≤ ns.length → Q (.ref p) (upd H p (SetO w p (fun j => decide (j ∈ ns.map fun n : Nat => (n : Int))) c))) : rSetL K w [.ref l] H Q :=
  ⟨l, ns.map fun n : Nat => (n : Int), rfl, by rw [← map_nV]; exact hS, by rw [List.length_map]; exact hz, fun p c hp hc => h p c hp (by rw [List.length_map] at hc; exact hc)⟩
theorem x_sortSet {w : World} {H : Hp} {Q : VK} {p : Addr} {ns : List Nat} {c : Nat} (hp : H p = some (SetO w p (fun j => decide (j ∈ ns.map fun n : Nat => (n : Int))) c)) (hc : c < 64) (h : ∀ q, H q = none → Q (.ref q) (upd H q (.lst ((sortU ns).map nV)))) : rSortedSet w [.ref p] H Q := by
  refine ⟨p, _, c, rfl, hp, hc, fun ys q hr hm hl hq => ?_⟩
  have hmem : ∀ y ∈ ys, ∃ n : Nat, n ∈ ns ∧ y = (n : Int) := fun y hy => by
    obtain ⟨n, hn, e⟩ := List.mem_map.mp (of_decide_eq_true ((hm y).mp hy))
    exact ⟨n, hn, e.symm⟩
  have e : ys = (sortU ns).map fun n : Nat => (n : Int) := by
    have e1 : ys = (ys.map Int.toNat).map fun n : Nat => (n : Int) := by
      rw [List.map_map]
      refine (List.map_id ys).symm.trans (List.map_congr_left fun y hy => ?_)
      obtain ⟨n, _, rfl⟩ := hmem y hy
      simp
    have e2 : ys.map Int.toNat = sortU ns := rising_eq (by
      refine List.pairwise_map.mpr (hr.imp_of_mem fun {a b} ha hb hab => ?_)
      obtain ⟨n, _, rfl⟩ := hmem a ha
      obtain ⟨m, _, rfl⟩ := hmem b hb
      simp; omega) (sortU_sorted _) fun z => by
      rw [mem_sortU]
      constructor
      · intro hz
        obtain ⟨y, hy, e⟩ := List.mem_map.mp hz
        obtain ⟨n, hn, rfl⟩ := hmem y hy
        rw [← e]; simpa using hn
      · intro hz
        exact List.mem_map.mpr ⟨(z : Int), (hm _).mpr (decide_eq_true (List.mem_map.mpr ⟨z, hz, rfl⟩)), by simp⟩
    rw [e1, e2]
  rw [e, ← map_nV]
  exact h q hq
theorem x_sortN {K : PySem.W.Frag} {H : Hp} {Q : VK} {a : Addr} {ns : List Nat} (hS : SqL K H a (ns.map nV)) (nd : ns.Nodup) (h : ∀ p, H p = none → Q (.ref p) (upd H p (.lst ((sortU ns).map nV)))) : rSortedI K [.ref a] H Q := by
  refine ⟨a, ns.map fun n : Nat => (n : Int), rfl, by rw [← map_nV]; exact hS, fun ys p hperm hsort hp => ?_⟩
  obtain ⟨zs, rfl⟩ : ∃ zs : List Nat, ys = zs.map fun n : Nat => (n : Int) := by
    refine ⟨ys.map Int.toNat, ?_⟩
    rw [List.map_map]
    refine (List.map_id ys).symm.trans (List.map_congr_left fun y hy => ?_)
    obtain ⟨n, _, rfl⟩ := List.mem_map.mp (hperm.mem_iff.mp hy)
    simp
  have hzs : zs = sortU ns := by
    have hmem : ∀ z, z ∈ zs ↔ z ∈ ns := fun z => by
      constructor
      · intro hz
        obtain ⟨n, hn, e⟩ := List.mem_map.mp (hperm.mem_iff.mp (List.mem_map.mpr ⟨z, hz, rfl⟩))
        rw [← Int.ofNat.inj e]; exact hn
      · intro hz
        obtain ⟨n, hn, e⟩ := List.mem_map.mp (hperm.mem_iff.mpr (List.mem_map.mpr ⟨z, hz, rfl⟩))
        rw [← Int.ofNat.inj e]; exact hn
    refine rising_eq ?_ (sortU_sorted _) fun z => by rw [hmem, mem_sortU]
    have nz : zs.Nodup := by
      have q : (zs.map fun n : Nat => (n : Int)).Nodup := hperm.nodup_iff.mpr (List.Pairwise.map _ (fun a b h e => h (Int.ofNat.inj e)) nd)
      exact (List.pairwise_map.mp q).imp fun h e => h (by rw [e])
    have le : zs.Pairwise (· ≤ ·) := (List.pairwise_map.mp hsort).imp fun h => by omega
    exact (nz.and le).imp fun h => by omega
  rw [hzs, ← map_nV]
  exact h p hp
end Nn
/-! far: the bits' difference -/
namespace Nn
open PySem L2
section
variable {P : Program} {w : World} {K : PySem.W.Frag} {mg : Str → Option Value} {base : Heap} {H : Hp} {Q : VK} {E : XK}
def sp_far (_ : Tx K mg base) : Sp := fun vs H Q E => ∃ (a : Nat) (b : Nat), vs = [.int a, .int b] ∧ (Q (.int ((a ^^^ b : Nat) : Int)) H)
theorem wc_far {T : Tx K mg base} {a : Nat} {b : Nat} {i0 : Int} {i1 : Int} (e0 : i0 = a) (e1 : i1 = b)  (h : Q (.int ((a ^^^ b : Nat) : Int)) H) : sp_far T [.int i0, .int i1] H Q E := by
  subst e0 e1
  exact ⟨a, b, rfl, h⟩
theorem ok_far (T : Tx K mg base) : FnOk P w K mg base CX0 1 T.a_far T.d_far ["one", "other"] (sp_far T) := by
  refine T.F_far.okD sc_far (fun vs H Q E h => ?_) (fun cdv A outer s H vs Q E hr h => ?_)
  · obtain ⟨a, b, rfl, q⟩ := h; rfl
  · obtain ⟨a, b, rfl, q⟩ := h
    have hu := hu_of hr
    have c_Bucket := T.c_Bucket; have n_Bucket_room := T.n_Bucket_room; have n_Bucket_line := T.n_Bucket_line; have c_Table := T.c_Table; have n_Table_own := T.n_Table_own; have n_Table_wide := T.n_Table_wide; have n_Table_room := T.n_Table_room; have n_Table_buckets := T.n_Table_buckets; have c_Town := T.c_Town; have n_Town_wide := T.n_Town_wide; have n_Town_room := T.n_Town_room; have n_Town_tables := T.n_Town_tables; have n_Town_hushed := T.n_Town_hushed
    refine ⟨_, (pss_one (ps_ret (pe_op op_xor (pv 0) (pv 1)))), ?_⟩
    rw [Nn.st_far]; try rw [Nn.cxK]
    try rw [Nn.cxW]
    walk_at "wx"
    rw [Bits.bitXor_pp (Int.natCast_nonneg _) (Int.natCast_nonneg _)]
    exact q
end
end Nn
local macro_rules | `(tactic| walk_at "wc") => `(tactic| ((with_reducible refine' Nn.wc_far ?hE0 ?hE1 (?_)); (case hE0 => walk_at "wnat"); (case hE1 => walk_at "wnat")))
/-! nearer, step, span -/
namespace Nn
open PySem L2
section
variable {P : Program} {w : World} {K : PySem.W.Frag} {mg : Str → Option Value} {base : Heap} {H : Hp} {Q : VK} {E : XK}
def sp_nearer (_ : Tx K mg base) : Sp := fun vs H Q E => ∃ (g : Nat) (a : Nat) (b : Nat), vs = [.int g, .int a, .int b] ∧ (Q (.bl (decide (g ^^^ a < g ^^^ b))) H)
theorem wc_nearer {T : Tx K mg base} {g : Nat} {a : Nat} {b : Nat} {i0 : Int} {i1 : Int} {i2 : Int} (e0 : i0 = g) (e1 : i1 = a) (e2 : i2 = b)  (h : Q (.bl (decide (g ^^^ a < g ^^^ b))) H) : sp_nearer T [.int i0, .int i1, .int i2] H Q E := by
  subst e0 e1 e2
  exact ⟨g, a, b, rfl, h⟩
theorem ok_nearer (T : Tx K mg base) : FnOk P w K mg base CX0 2 T.a_nearer T.d_nearer ["goal", "one", "other"] (sp_nearer T) := by
  refine T.F_nearer.okD sc_nearer (fun vs H Q E h => ?_) (fun cdv A outer s H vs Q E hr h => ?_)
  · obtain ⟨g, a, b, rfl, q⟩ := h; rfl
  · obtain ⟨g, a, b, rfl, q⟩ := h
    have hu := hu_of hr
    have c_Bucket := T.c_Bucket; have n_Bucket_room := T.n_Bucket_room; have n_Bucket_line := T.n_Bucket_line; have c_Table := T.c_Table; have n_Table_own := T.n_Table_own; have n_Table_wide := T.n_Table_wide; have n_Table_room := T.n_Table_room; have n_Table_buckets := T.n_Table_buckets; have c_Town := T.c_Town; have n_Town_wide := T.n_Town_wide; have n_Town_room := T.n_Town_room; have n_Town_tables := T.n_Town_tables; have n_Town_hushed := T.n_Town_hushed
    refine ⟨_, (pss_one (ps_ret (pe_cmpR op_lt (pe_call (ok_far T) hr rfl T.m_far T.F_far.kp T.b_far .nil pass0 (pa_cons (pv 0) (pa_cons (pv 1) pa_nil))) (pe_call (ok_far T) hr rfl T.m_far T.F_far.kp T.b_far .nil pass0 (pa_cons (pv 0) (pa_cons (pv 2) pa_nil))) (nomark _)))), ?_⟩
    rw [Nn.st_nearer]; try rw [Nn.cxK]
    try rw [Nn.cxW]
    walk_at "wx"
    have e : decide (((g ^^^ a : Nat) : Int) < ((g ^^^ b : Nat) : Int)) = decide (g ^^^ a < g ^^^ b) := by simp
    rw [e]; exact q
end
end Nn
local macro_rules | `(tactic| walk_at "wc") => `(tactic| ((with_reducible refine' Nn.wc_nearer ?hE0 ?hE1 ?hE2 (?_)); (case hE0 => walk_at "wnat"); (case hE1 => walk_at "wnat"); (case hE2 => walk_at "wnat")))
namespace Nn
open PySem L2
section
variable {P : Program} {w : World} {K : PySem.W.Frag} {mg : Str → Option Value} {base : Heap} {H : Hp} {Q : VK} {E : XK}
def sp_step (_ : Tx K mg base) : Sp := fun vs H Q E => ∃ (a : Nat) (b : Nat), vs = [.int a, .int b] ∧ (a ≠ b) ∧ (Q (.int ((stepN a b : Nat) : Int)) H)
theorem wc_step {T : Tx K mg base} {a : Nat} {b : Nat} {i0 : Int} {i1 : Int} (e0 : i0 = a) (e1 : i1 = b) (c0 : a ≠ b) (h : Q (.int ((stepN a b : Nat) : Int)) H) : sp_step T [.int i0, .int i1] H Q E := by
  subst e0 e1
  exact ⟨a, b, rfl, c0, h⟩
theorem ok_step (T : Tx K mg base) : FnOk P w K mg base CX0 2 T.a_step T.d_step ["one", "other"] (sp_step T) := by
  refine T.F_step.okD sc_step (fun vs H Q E h => ?_) (fun cdv A outer s H vs Q E hr h => ?_)
  · obtain ⟨a, b, rfl, hpre, q⟩ := h; rfl
  · obtain ⟨a, b, rfl, hpre, q⟩ := h
    have hu := hu_of hr
    have c_Bucket := T.c_Bucket; have n_Bucket_room := T.n_Bucket_room; have n_Bucket_line := T.n_Bucket_line; have c_Table := T.c_Table; have n_Table_own := T.n_Table_own; have n_Table_wide := T.n_Table_wide; have n_Table_room := T.n_Table_room; have n_Table_buckets := T.n_Table_buckets; have c_Town := T.c_Town; have n_Town_wide := T.n_Town_wide; have n_Town_room := T.n_Town_room; have n_Town_tables := T.n_Town_tables; have n_Town_hushed := T.n_Town_hushed
    refine ⟨_, (pss_one (ps_ret (pe_op op_sub (pe_bits (pe_call (ok_far T) hr rfl T.m_far T.F_far.kp T.b_far .nil pass0 (pa_cons (pv 0) (pa_cons (pv 1) pa_nil)))) pe_int))), ?_⟩
    rw [Nn.st_step]; try rw [Nn.cxK]
    try rw [Nn.cxW]
    walk_at "wx"
    have e : (((if a ^^^ b = 0 then 0 else (a ^^^ b).log2 + 1 : Nat) : Nat) : Int) - 1 = ((stepN a b : Nat) : Int) := by
      rw [if_neg (xor_ne_zero hpre)]
      unfold stepN; omega
    rw [e]; exact q
end
end Nn
local macro_rules | `(tactic| walk_at "wc") => `(tactic| ((with_reducible refine' Nn.wc_step ?hE0 ?hE1 ?hC0 (?_)); (case hE0 => walk_at "wnat"); (case hE1 => walk_at "wnat"); (case hC0 => walk_at "wpre")))
namespace Nn
open PySem L2
section
variable {P : Program} {w : World} {K : PySem.W.Frag} {mg : Str → Option Value} {base : Heap} {H : Hp} {Q : VK} {E : XK}
def sp_span (_ : Tx K mg base) : Sp := fun vs H Q E => ∃ (n : Nat) (k : Nat), vs = [.int n, .int k] ∧ (n < 2 ^ 60 ∧ k ≤ 60) ∧ (∀ p H', H p = none → Ex H H' → H' p = some (.tup [nV (lowN n k), nV (lowN n k + 2 ^ k - 1)]) → Q (.ref p) H')
theorem wc_span {T : Tx K mg base} {n : Nat} {k : Nat} {i0 : Int} {i1 : Int} (e0 : i0 = n) (e1 : i1 = k) (c0 : n < 2 ^ 60 ∧ k ≤ 60) (h : ∀ p H', H p = none → Ex H H' → H' p = some (.tup [nV (lowN n k), nV (lowN n k + 2 ^ k - 1)]) → Q (.ref p) H') : sp_span T [.int i0, .int i1] H Q E := by
  subst e0 e1
  exact ⟨n, k, rfl, c0, h⟩
theorem ok_span (T : Tx K mg base) : FnOk P w K mg base CX0 1 T.a_span T.d_span ["name", "k"] (sp_span T) := by
  refine T.F_span.okD sc_span (fun vs H Q E h => ?_) (fun cdv A outer s H vs Q E hr h => ?_)
  · obtain ⟨n, k, rfl, hpre, q⟩ := h; rfl
  · obtain ⟨n, k, rfl, hpre, q⟩ := h
    have hu := hu_of hr
    have c_Bucket := T.c_Bucket; have n_Bucket_room := T.n_Bucket_room; have n_Bucket_line := T.n_Bucket_line; have c_Table := T.c_Table; have n_Table_own := T.n_Table_own; have n_Table_wide := T.n_Table_wide; have n_Table_room := T.n_Table_room; have n_Table_buckets := T.n_Table_buckets; have c_Town := T.c_Town; have n_Town_wide := T.n_Town_wide; have n_Town_room := T.n_Town_room; have n_Town_tables := T.n_Town_tables; have n_Town_hushed := T.n_Town_hushed
    refine ⟨_, (pss_cons (ps_set (i := 2) sc_span.nd rfl (Or.inl rfl) (pe_op op_shlN' (pe_op op_xorN (pe_op op_shrN' (pv 0) (pv 1)) pe_int) (pv 1)))
      (pss_one (ps_ret (pe_tup (pa_cons (pv 2) (pa_cons (pe_op op_sub (pe_op op_add (pv 2) (pe_op op_shl1 pe_int (pv 1))) pe_int) pa_nil)))))), ?_⟩
    rw [Nn.st_span]; try rw [Nn.cxK]
    try rw [Nn.cxW]
    walk_at "wx"
    have h1 : n / 2 ^ k ^^^ 1 < 2 ^ 64 := Nat.xor_lt_two_pow (Nat.lt_of_le_of_lt (Nat.div_le_self _ _) (by omega)) (by decide)
    refine x_shlN rfl rfl h1 (by omega) ?_
    walk_at "wx"
    refine ⟨len_ok rfl, fun p hp => ?_⟩
    refine q p _ hp (Ex.new hp) ?_
    rw [upd_same]
    have hp := Nat.two_pow_pos k
    have e : ((lowN n k : Nat) : Int) + ((2 ^ k : Nat) : Int) - 1 = ((lowN n k + 2 ^ k - 1 : Nat) : Int) := by omega
    show some (HO.tup [nV (lowN n k), .int (((lowN n k : Nat) : Int) + ((2 ^ k : Nat) : Int) - 1)]) = _
    rw [e]
end
end Nn
/-! by_nearness -/
namespace Nn
open PySem L2
section
variable {P : Program} {w : World} {K : PySem.W.Frag} {mg : Str → Option Value} {base : Heap} {H : Hp} {Q : VK} {E : XK}
/-- the dict of by_nearness: the keys ks, each with its name -/
def farD (g : Nat) (ks : List Nat) : List (Key × V) := ks.map fun k => (nK k, nV (g ^^^ k))
theorem farD_val {g n : Nat} : ∀ {ks : List Nat}, valV (farD g ks) (nK n) = if n ∈ ks then some (nV (g ^^^ n)) else none
  | [] => rfl
  | k :: r => by
    by_cases e : k = n
    · rw [if_pos (by simp [e])]
      show valV ((nK k, nV (g ^^^ k)) :: farD g r) (nK n) = _
      rw [valV_pos (by rw [e]), e]
    · show valV ((nK k, nV (g ^^^ k)) :: farD g r) (nK n) = _
      rw [valV_neg (by intro z; exact e (nK_inj z)), farD_val]
      simp [e, Ne.symm e]
theorem mem_cast {z : Nat} {l : List Nat} : (z : Int) ∈ l.map (fun n : Nat => (n : Int)) ↔ z ∈ l := by
  rw [List.mem_map]
  exact ⟨fun ⟨a, h, e⟩ => by rw [← Int.ofNat.inj e]; exact h, fun h => ⟨z, h, rfl⟩⟩
theorem farD_put {g n : Nat} {ks : List Nat} : putK (farD g ks) (nK (g ^^^ n)) (nV n) = farD g (if g ^^^ n ∈ ks then ks else ks ++ [g ^^^ n]) := by
  by_cases h : g ^^^ n ∈ ks
  · rw [if_pos h]
    unfold putK
    have e : ((farD g ks).any fun kv => decide (kv.1 = nK (g ^^^ n))) = true := by rw [valV_any, farD_val, if_pos h]; rfl
    rw [if_pos e]
    unfold farD
    rw [List.map_map]
    refine List.map_congr_left fun k _ => ?_
    show (if nK k = nK (g ^^^ n) then (nK k, nV n) else (nK k, nV (g ^^^ k))) = _
    by_cases q : k = g ^^^ n
    · rw [if_pos (by rw [q]), q, xor_self_left]
    · rw [if_neg fun z => q (nK_inj z)]
  · rw [if_neg h, putK_new _ (by rw [farD_val, if_neg h])]
    unfold farD
    rw [List.map_append]
    simp [xor_self_left]
def sp_by_nearness (_ : Tx K mg base) : Sp := fun vs H Q E => ∃ (g : Nat) (p_names : Addr) (names : List Nat), vs = [.int g, .ref p_names] ∧ (SqL K H p_names (names.map nV)) ∧ ((byN g names).length < 64 ∧ names.length ≤ 100000) ∧ (∀ p H', H p = none → Ex H H' → H' p = some (.lst ((byN g names).map nV)) → Q (.ref p) H')
theorem wc_by_nearness {T : Tx K mg base} {g : Nat} {p_names : Addr} {names : List Nat} {i0 : Int} (e0 : i0 = g) (c0 : SqL K H p_names (names.map nV)) (c1 : (byN g names).length < 64 ∧ names.length ≤ 100000) (h : ∀ p H', H p = none → Ex H H' → H' p = some (.lst ((byN g names).map nV)) → Q (.ref p) H') : sp_by_nearness T [.int i0, .ref p_names] H Q E := by
  subst e0
  exact ⟨g, p_names, names, rfl, c0, c1, h⟩
theorem ok_by_nearness (T : Tx K mg base) : FnOk P w K mg base CX0 2 T.a_by_nearness T.d_by_nearness ["goal", "names"] (sp_by_nearness T) := by
  refine T.F_by_nearness.okD sc_by_nearness (fun vs H Q E h => ?_) (fun cdv A outer s H vs Q E hr h => ?_)
  · obtain ⟨g, p_names, names, rfl, hS0, hpre, q⟩ := h; rfl
  · obtain ⟨g, p_names, names, rfl, hS0, hpre, q⟩ := h
    have hu := hu_of hr
    have c_Bucket := T.c_Bucket; have n_Bucket_room := T.n_Bucket_room; have n_Bucket_line := T.n_Bucket_line; have c_Table := T.c_Table; have n_Table_own := T.n_Table_own; have n_Table_wide := T.n_Table_wide; have n_Table_room := T.n_Table_room; have n_Table_buckets := T.n_Table_buckets; have c_Town := T.c_Town; have n_Town_wide := T.n_Town_wide; have n_Town_room := T.n_Town_room; have n_Town_tables := T.n_Town_tables; have n_Town_hushed := T.n_Town_hushed
    refine ⟨_, (pss_cons (ps_set (i := 2) sc_by_nearness.nd rfl (Or.inr rfl) pe_dnewK)
      (pss_cons (ps_for PassesOwn.never rfl (pi_list (pv 1)) (pg_name (i := 3) sc_by_nearness.nd rfl (Or.inl rfl))
      (pss_one (ps_dput hu (pv 2) (pe_call (ok_far T) hr rfl T.m_far T.F_far.kp T.b_far .nil pass0 (pa_cons (pv 0) (pa_cons (pv 3) pa_nil))) (pv 3) rfl)))
      (pss_one (ps_ret (pe_lc (own := [("one", 4)]) (g := (gName 4)) (by rfl) sc_by_nearness.nd (pi_list (pe_callB (cb_sortD rfl) (by rfl) T.z_sorted (by decide +kernel) (pa_cons (pv 2) pa_nil))) (blkOk_by (N := N_by_nearness) (sc := defScope s_by_nearness) (own := [("one", 4)]) (by decide +kernel)) (fun _ _ _ _ _ => (pg_name (i := 4) sc_by_nearness.nd rfl (Or.inl rfl))) (fun _ _ _ _ _ => pts_nil) (fun _ _ _ _ _ => (pe_dget hu (pv 2) (pv 4) (fun _ _ => rfl)))))))), ?_⟩
    rw [Nn.st_by_nearness]; try rw [Nn.cxK]
    try rw [Nn.cxW]
    walk_at "wx"
    intro d hd
    walk_at "wx"
    obtain ⟨h64, hz⟩ := hpre
    refine ForW.by walk_list (fun i σ H' => ∃ (v : Option V) (ks : List Nat), σ = [some (.int g), some (.ref p_names), some (.ref d), v, none] ∧ Ex H H' ∧ H' d = some (.dK (farD g ks)) ∧ ks.Nodup ∧ (∀ k, k ∈ ks ↔ k ∈ (names.take i).map (g ^^^ ·)))
      ⟨none, [], rfl, Ex.new hd, upd_same, List.nodup_nil, by simp⟩ (fun i σ H' _ ⟨_, _, _, e, _⟩ => e.ls hS0) ?_ ?_
    · rintro i x σ H1 _ hi ⟨v, ks, rfl, ex1, h1, nd, hm⟩ ⟨rfl, hx⟩
      rw [List.length_map] at hi
      obtain rfl : x = nV names[i] := by
        rw [List.getElem?_map, List.getElem?_eq_getElem hi] at hx
        exact (Option.some.inj hx).symm
      have et : names.take (i + 1) = names.take i ++ [names[i]] := by rw [List.take_add_one, List.getElem?_eq_getElem hi]; rfl
      have hk64 : ks.length ≤ (byN g names).length := by
        have e : (byN g names).length = (sortU (names.map (g ^^^ ·))).length := by unfold byN; rw [List.length_map]
        rw [e]
        refine nodup_len nd fun k hk => mem_sortU.mpr ?_
        obtain ⟨n, hn, rfl⟩ := List.mem_map.mp ((hm k).mp hk)
        exact List.mem_map.mpr ⟨n, List.mem_of_mem_take hn, rfl⟩
      walk_at "wx"
      refine x_dput h1 (by unfold farD; rw [sizeLine_eq, List.length_map]; omega) ?_
      have hput : putK (farD g ks) (Sum.inl ((g ^^^ names[i] : Nat) : Int)) (nV names[i]) = farD g (if g ^^^ names[i] ∈ ks then ks else ks ++ [g ^^^ names[i]]) := farD_put
      rw [hput]
      refine ⟨_, _, rfl, ex1.mut hd h1, upd_same, ?_, fun k => ?_⟩
      · by_cases h : g ^^^ names[i] ∈ ks
        · rw [if_pos h]; exact nd
        · rw [if_neg h]; exact nd_snoc nd h
      · rw [et, List.map_append, List.mem_append, ← hm]
        by_cases h : g ^^^ names[i] ∈ ks
        · rw [if_pos h]
          constructor
          · exact .inl
          · rintro (q | q)
            · exact q
            · rw [List.map_singleton, List.mem_singleton] at q; rw [q]; exact h
        · rw [if_neg h, List.mem_append]; simp
    · rintro σ H1 ⟨v, ks, rfl, ex1, h1, nd, hm⟩
      rw [List.length_map, List.take_length] at hm
      have hkeys : (farD g ks).map (·.1) = (ks.map fun n : Nat => (n : Int)).map Sum.inl := by unfold farD; rw [List.map_map, List.map_map]; rfl
      have hk64 : ks.length ≤ (byN g names).length := by
        have e : (byN g names).length = (sortU (names.map (g ^^^ ·))).length := by unfold byN; rw [List.length_map]
        rw [e]
        exact nodup_len nd fun k hk => mem_sortU.mpr ((hm k).mp hk)
      walk_at "wx"
      refine ⟨d, _, _, rfl, .inl h1, hkeys, by rw [List.length_map]; omega, fun ys p hperm hsort hp => ?_⟩
      obtain ⟨zs, rfl⟩ : ∃ zs : List Nat, ys = zs.map fun n : Nat => (n : Int) := by
        refine ⟨ys.map Int.toNat, ?_⟩
        rw [List.map_map]
        refine (List.map_id ys).symm.trans (List.map_congr_left fun y hy => ?_)
        obtain ⟨n, _, rfl⟩ := List.mem_map.mp (hperm.mem_iff.mp hy)
        simp
      have hzs : zs = sortU (names.map (g ^^^ ·)) := by
        have hmem : ∀ z, z ∈ zs ↔ z ∈ ks := fun z => by
          rw [← mem_cast (l := zs), ← mem_cast (l := ks)]
          exact hperm.mem_iff
        refine rising_eq ?_ (sortU_sorted _) fun z => by rw [hmem, hm, mem_sortU]
        have nz : zs.Nodup := by
          have q : (zs.map fun n : Nat => (n : Int)).Nodup := hperm.nodup_iff.mpr (List.Pairwise.map _ (fun a b h e => h (Int.ofNat.inj e)) nd)
          exact (List.pairwise_map.mp q).imp fun h e => h (by rw [e])
        have le : zs.Pairwise (· ≤ ·) := (List.pairwise_map.mp hsort).imp fun h => by omega
        exact (nz.and le).imp fun h => by omega
      walk_at "wx"
      refine LcW.map (emb := nV) (xs := zs) (fun k => nV (g ^^^ k)) (SqL.of (by rw [upd_same, ← map_nV])) ?_ ?_ ?_
      · have e : zs.length = (byN g names).length := by rw [hzs]; unfold byN; rw [List.length_map]
        rw [e, sizeLine_eq]; omega
      · intro k hk H2 ex2 Qe hQ
        have hd2 : H2 d = some (.dK (farD g ks)) := ex2.at ((Ex.new hp).at h1)
        have hkk : k ∈ ks := (hm k).mpr (mem_sortU.mp (by rw [← hzs]; exact hk))
        have hv : valV (farD g ks) (Sum.inl (k : Int)) = some (nV (g ^^^ k)) := by
          have q := farD_val (g := g) (n := k) (ks := ks)
          rw [if_pos hkk] at q
          exact q
        walk_at "wx"
        exact hQ _ Ex.refl
      · intro D H2 hD ex2 hD2
        refine q D H2 ?_ ((ex1.newT hp).trans ex2) ?_
        · exact (ex1.newT hp).back D hD
        · rw [hD2, hzs]; unfold byN; rw [List.map_map]; rfl
end
end Nn
/-! what answers: a town's own -/
namespace Nn
open PySem L2
/-- a dict of names -/
def dOf (hs : List Nat) (f : Nat → V) : List (Key × V) := hs.map fun h => (nK h, f h)
theorem dOf_val {f : Nat → V} {n : Nat} : ∀ {hs : List Nat}, valV (dOf hs f) (nK n) = if n ∈ hs then some (f n) else none
  | [] => rfl
  | k :: r => by
    show valV ((nK k, f k) :: dOf r f) (nK n) = _
    by_cases e : k = n
    · rw [valV_pos (by rw [e]), e, if_pos (by simp)]
    · rw [valV_neg (by intro z; exact e (nK_inj z)), dOf_val]
      simp [Ne.symm e]
theorem dOf_has {f : Nat → V} {n : Nat} {hs : List Nat} : (valV (dOf hs f) (nK n)).isSome = decide (n ∈ hs) := by
  rw [dOf_val]
  by_cases h : n ∈ hs
  · rw [if_pos h, decide_eq_true h]; rfl
  · rw [if_neg h, decide_eq_false h]; rfl
theorem dOf_keys {f : Nat → V} {hs : List Nat} : (dOf hs f).map (·.1) = (hs.map fun n : Nat => (n : Int)).map Sum.inl := by
  unfold dOf; rw [List.map_map, List.map_map]; rfl
theorem dOf_len {f : Nat → V} {hs : List Nat} : (dOf hs f).length = hs.length := by unfold dOf; rw [List.length_map]
theorem dOf_new {f : Nat → V} {hs : List Nat} {n : Nat} (h : n ∉ hs) : putK (dOf hs f) (nK n) (f n) = dOf (hs ++ [n]) f := by
  rw [putK_new _ (by rw [dOf_val, if_neg h])]
  unfold dOf; rw [List.map_append]; rfl
theorem dOf_put {f : Nat → V} {hs : List Nat} {n : Nat} (h : n ∈ hs) : putK (dOf hs f) (nK n) (f n) = dOf hs f := by
  unfold putK
  rw [if_pos (by rw [valV_any, dOf_val, if_pos h]; rfl)]
  unfold dOf
  rw [List.map_map]
  refine List.map_congr_left fun k _ => ?_
  show (if nK k = nK n then (nK k, f n) else (nK k, f k)) = _
  by_cases q : k = n
  · rw [if_pos (by rw [q]), q]
  · rw [if_neg fun z => q (nK_inj z)]
section
variable {P : Program} {w : World} {K : PySem.W.Frag} {mg : Str → Option Value} {base : Heap} {H : Hp} {Q : VK} {E : XK}
/-- a town's object and its two dicts -/
structure TwAt (T : Tx K mg base) (H : Hp) (t td hd : Addr) (wide room : Nat) (hs : List Nat) (pa : Nat → Addr) (qs : List Nat) : Prop where
  ob : ∃ dx, H t = some (.ins T.C_Town dx (f_Town (nV wide) (nV room) (.ref td) (.ref hd)))
  tb : H td = some (.dK (dOf hs fun h => .ref (pa h)))
  hb : H hd = some (.dK (dOf qs fun _ => .bl true))
def awB (hs qs : List Nat) (n : Nat) : Bool := decide (n ∈ hs) && !decide (n ∈ qs)
def sp_Town_answers (T : Tx K mg base) : Sp := fun vs H Q _ => ∃ (t td hd : Addr) (wide room n : Nat) (hs : List Nat) (pa : Nat → Addr) (qs : List Nat), vs = [.ref t, .int n] ∧ TwAt T H t td hd wide room hs pa qs ∧ Q (.bl (awB hs qs n)) H
theorem wc_Town_answers {T : Tx K mg base} {t td hd : Addr} {wide room n : Nat} {i : Int} {hs : List Nat} {pa : Nat → Addr} {qs : List Nat} (hi : i = n) (a : TwAt T H t td hd wide room hs pa qs) (h : Q (.bl (awB hs qs n)) H) : sp_Town_answers T [.ref t, .int i] H Q E := by
  subst hi; exact ⟨t, td, hd, wide, room, n, hs, pa, qs, rfl, a, h⟩
theorem ok_Town_answers (T : Tx K mg base) : FnOk P w K mg base CX0 1 T.a_Town_answers T.d_Town_answers ["self", "name"] (sp_Town_answers T) := by
  refine T.F_Town_answers.okD sc_Town_answers (fun vs H Q E h => ?_) (fun cdv A outer s H vs Q E hr h => ?_)
  · obtain ⟨t, td, hd, wide, room, n, hs, pa, qs, rfl, _⟩ := h; rfl
  · obtain ⟨t, td, hd, wide, room, n, hs, pa, qs, rfl, ⟨⟨dx, ob⟩, tb, hb⟩, q⟩ := h
    have hu := hu_of hr
    have c_Bucket := T.c_Bucket; have n_Bucket_room := T.n_Bucket_room; have n_Bucket_line := T.n_Bucket_line; have c_Table := T.c_Table; have n_Table_own := T.n_Table_own; have n_Table_wide := T.n_Table_wide; have n_Table_room := T.n_Table_room; have n_Table_buckets := T.n_Table_buckets; have c_Town := T.c_Town; have n_Town_wide := T.n_Town_wide; have n_Town_room := T.n_Town_room; have n_Town_tables := T.n_Town_tables; have n_Town_hushed := T.n_Town_hushed
    refine ⟨_, (pss_one (ps_ret (pe_and (pe_cmp (pc_din hu (pv 1) (pe_fld (pv 0) rfl))) (pe_one (pe_cmp (pc_dnotin hu (pv 1) (pe_fld (pv 0) rfl))))))), ?_⟩
    rw [Nn.st_Town_answers]; try rw [Nn.cxK]
    try rw [Nn.cxW]
    walk_at "wx"
    have e1 : (valV (dOf hs fun h => .ref (pa h)) (Sum.inl (n : Int))).isSome = decide (n ∈ hs) := dOf_has
    have e2 : (valV (dOf qs fun _ => .bl true) (Sum.inl (n : Int))).isSome = decide (n ∈ qs) := dOf_has
    rw [e1]
    unfold awB at q
    refine x_iteB (fun h => ?_) fun h => ?_
    · walk_at "wx"
      rw [e2]
      rw [h, Bool.true_and] at q
      exact q
    · rw [h, Bool.false_and] at q
      exact q
/-- a town's word on who answers; the function's cells -/
structure An where
  t : Addr
  td : Addr
  hd : Addr
  wide : Nat
  room : Nat
  hs : List Nat
  pa : Nat → Addr
  qs : List Nat
  cl : List (Str × Addr)
  cd : Addr
def An.ws (A : An) : List (Option V) := [some (.ref A.t)]
def ansB (A : An) (n : Nat) : Bool := awB A.hs A.qs n
def sp_Town_hears_answers (T : Tx K mg base) : List (Option V) → Sp := fun ws vs H Q _ => ∃ (A : An) (n : Nat), ws = A.ws ∧ vs = [.int n] ∧ TwAt T H A.t A.td A.hd A.wide A.room A.hs A.pa A.qs ∧ Q (.bl (ansB A n)) H
theorem nok_Town_hears_answers (T : Tx K mg base) {cl : List (Str × Addr)} {c : Addr} (f : Addr) : NdefX.NOk P w K mg base CX0 2 f (nf_Town_hears_answers cl c) ["other"] fr_Town_hears_answers (sp_Town_hears_answers T) := by
  refine NdefX.nok_of (N := N_Town_hears_answers) nsc_Town_hears_answers (fun doc pm ctv us hl => match us, hl with | [_], _ => rfl) (fun ws vs H Q E h => ?_) (fun A outer s H vs ws Q E hr hf hc hwl h => ?_)
  · obtain ⟨A, n, rfl, rfl, _⟩ := h; rfl
  · obtain ⟨A, n, rfl, rfl, a, q⟩ := h
    obtain ⟨dx, ob⟩ := a.ob
    unfold An.ws
    have c_Bucket := T.c_Bucket; have n_Bucket_room := T.n_Bucket_room; have n_Bucket_line := T.n_Bucket_line; have c_Table := T.c_Table; have n_Table_own := T.n_Table_own; have n_Table_wide := T.n_Table_wide; have n_Table_room := T.n_Table_room; have n_Table_buckets := T.n_Table_buckets; have c_Town := T.c_Town; have n_Town_wide := T.n_Town_wide; have n_Town_room := T.n_Town_room; have n_Town_tables := T.n_Town_tables; have n_Town_hushed := T.n_Town_hushed
    refine ⟨_, (pss_one (ps_ret (pe_meth (pv 1) T.c_Town T.t_Town_answers (ok_Town_answers T) hr T.b_Town_answers .nil pass0 (pa_cons (pv 0) pa_nil)))), ?_⟩
    rw [Nn.st_Town_hears_answers]; try rw [Nn.cxK]
    try rw [Nn.cxW]
    walk_at "wx"
    exact wc_Town_answers rfl a q
def AnsOf (T : Tx K mg base) (H : Hp) (f : Addr) (A : An) : Prop := H f = some (NdefX.FnO f (nf_Town_hears_answers A.cl A.cd)) ∧ H A.cd = some (LamX.CodeO A.cd (nf_Town_hears_answers A.cl A.cd).qual) ∧ TwAt T H A.t A.td A.hd A.wide A.room A.hs A.pa A.qs
def AnsS (_ : An) : Addr → Prop := fun _ => False
def AnsL (_ : An) (_ : Hp) (_ : List Nat) : Prop := True
theorem AnsOf.none {T : Tx K mg base} {H : Hp} {f : Addr} {A : An} (_ : AnsOf T H f A) : AnsL A H [] := trivial
theorem AnsL.upd {A : An} {H H' : Hp} {as : List Nat} {l : Addr} (_ : AnsL A H as) (_ : Fr (fun a => a = l) H H') (_ : ¬ AnsS A l) : AnsL A H' as := trivial
theorem AnsOf.ins {T : Tx K mg base} {H : Hp} {f a : Addr} {A : An} {C dx : Addr} {fs : List (Str × V)} (_ : AnsOf T H f A) (z : AnsS A a) (_ : H a = some (.ins C dx fs)) : False := z
theorem AnsOf.say {T : Tx K mg base} {H : Hp} {f : Addr} {A : An} {x : Nat} {Q : VK} {E : XK} (h : AnsOf T H f A) (k : ∀ H2, Fr (AnsS A) H H2 → AnsL A H2 [x] → Q (.bl (ansB A x)) H2) : sp_Town_hears_answers T A.ws [.int x] H Q E := ⟨A, x, rfl, rfl, h.2.2, k H Fr.refl trivial⟩
end
end Nn
/-! buckets -/
namespace Nn
open PySem L2
/-- what a bucket of room has in its line behind hearing of n (a: the eldest answers), and the word -/
def hearL (room : Nat) (xs : List Nat) (n : Nat) (a : Bool) : List Nat :=
  if n ∈ xs then xs.erase n ++ [n] else if xs.length < room then xs ++ [n] else if a = true then xs.tail ++ [xs.headD 0] else xs.tail ++ [n]
def hearW (room : Nat) (xs : List Nat) (n : Nat) (a : Bool) : Str :=
  if n ∈ xs then "again" else if xs.length < room then "new" else if a = true then "full" else "instead"
theorem hear_in {room n : Nat} {xs : List Nat} {a : Bool} (h : n ∈ xs) : hearL room xs n a = xs.erase n ++ [n] ∧ hearW room xs n a = "again" := by
  unfold hearL hearW; rw [if_pos h, if_pos h]; exact ⟨rfl, rfl⟩
theorem hear_new {room n : Nat} {xs : List Nat} {a : Bool} (h : ¬ n ∈ xs) (r : xs.length < room) : hearL room xs n a = xs ++ [n] ∧ hearW room xs n a = "new" := by
  unfold hearL hearW; rw [if_neg h, if_neg h, if_pos r, if_pos r]; exact ⟨rfl, rfl⟩
theorem hear_full {room n x : Nat} {xs : List Nat} {a : Bool} (h : ¬ n ∈ x :: xs) (r : ¬ (x :: xs).length < room) (e : a = true) : hearL room (x :: xs) n a = xs ++ [x] ∧ hearW room (x :: xs) n a = "full" := by
  unfold hearL hearW; rw [if_neg h, if_neg h, if_neg r, if_neg r, if_pos e, if_pos e]; exact ⟨rfl, rfl⟩
theorem hear_inst {room n x : Nat} {xs : List Nat} {a : Bool} (h : ¬ n ∈ x :: xs) (r : ¬ (x :: xs).length < room) (e : a = false) : hearL room (x :: xs) n a = xs ++ [n] ∧ hearW room (x :: xs) n a = "instead" := by
  unfold hearL hearW; rw [if_neg h, if_neg h, if_neg r, if_neg r, if_neg (by simp [e]), if_neg (by simp [e])]; exact ⟨rfl, rfl⟩
theorem hear_len {room n : Nat} {xs : List Nat} {a : Bool} (h : xs.length ≤ room) (r0 : 0 < room) : (hearL room xs n a).length ≤ room := by
  unfold hearL
  by_cases h1 : n ∈ xs
  · rw [if_pos h1, List.length_append, List.length_erase_of_mem h1, List.length_singleton]
    have := List.length_pos_of_mem h1
    omega
  · rw [if_neg h1]
    by_cases h2 : xs.length < room
    · rw [if_pos h2, List.length_append, List.length_singleton]; omega
    · rw [if_neg h2]
      by_cases h3 : a = true
      · rw [if_pos h3, List.length_append, List.length_singleton, List.length_tail]; omega
      · rw [if_neg h3, List.length_append, List.length_singleton, List.length_tail]; omega
section
variable {P : Program} {w : World} {K : PySem.W.Frag} {mg : Str → Option Value} {base : Heap} {H : Hp} {Q : VK} {E : XK}
/-- a bucket at p: its line at l holds xs -/
structure BuckAt (T : Tx K mg base) (H : Hp) (p l : Addr) (room : Nat) : Prop where
  ob : ∃ dx, H p = some (.ins T.C_Bucket dx (f_Bucket (nV room) (.ref l)))
theorem BuckAt.fr {T : Tx K mg base} {S : Addr → Prop} {H H' : Hp} {p l : Addr} {room : Nat} (b : BuckAt T H p l room) (f : Fr S H H') (hs : ¬ S p) : BuckAt T H' p l room := by
  obtain ⟨dx, h⟩ := b.ob
  exact ⟨dx, f.at h hs⟩
def sp_Bucket_init (T : Tx K mg base) : Sp := fun vs H Q _ => ∃ (p dx : Addr) (room : Nat), vs = [.ref p, .int room] ∧ H p = some (.ins T.C_Bucket dx []) ∧ ∀ (l : Addr) (H' : Hp), H l = none → H' l = some (.lst []) → Fr (fun a => a = p) H H' → BuckAt T H' p l room → Q .non H'
theorem ok_Bucket_init (T : Tx K mg base) : FnOk P w K mg base CX0 1 T.a_Bucket_init T.d_Bucket_init ["self", "room"] (sp_Bucket_init T) := by
  refine T.F_Bucket_init.okD sc_Bucket_init (fun vs H Q E h => ?_) (fun cdv A outer s H vs Q E hr h => ?_)
  · obtain ⟨p, dx, room, rfl, _⟩ := h; rfl
  · obtain ⟨p, dx, room, rfl, hp, q⟩ := h
    have c_Bucket := T.c_Bucket; have n_Bucket_room := T.n_Bucket_room; have n_Bucket_line := T.n_Bucket_line; have c_Table := T.c_Table; have n_Table_own := T.n_Table_own; have n_Table_wide := T.n_Table_wide; have n_Table_room := T.n_Table_room; have n_Table_buckets := T.n_Table_buckets; have c_Town := T.c_Town; have n_Town_wide := T.n_Town_wide; have n_Town_room := T.n_Town_room; have n_Town_tables := T.n_Town_tables; have n_Town_hushed := T.n_Town_hushed
    refine ⟨_, (pss_cons (ps_fld (pv 0) (pv 1) rfl)
      (pss_one (ps_fld (pv 0) (pe_lst pa_nil) rfl))), ?_⟩
    rw [Nn.st_Bucket_init]; try rw [Nn.cxK]
    try rw [Nn.cxW]
    walk_at "wx"
    refine ⟨len_ok rfl, fun l hl => ?_⟩
    walk_at "wx"
    have hl0 : H l = none := upd_back hl
    have hne : l ≠ p := fun z => by rw [z, hp] at hl0; cases hl0
    refine q l _ hl0 (by rw [upd_ne hne, upd_same]) ?_ ⟨dx, upd_same⟩
    exact ((Fr.upd1 hp).trans (Ex.new hl).fr).trans (Fr.upd1 (u := .ins T.C_Bucket dx [("room", .int room)]) (by rw [upd_ne hne.symm, upd_same]))
def sp_Bucket_names (T : Tx K mg base) : Sp := fun vs H Q _ => ∃ (p l : Addr) (room : Nat) (xs : List V), vs = [.ref p] ∧ BuckAt T H p l room ∧ H l = some (.lst xs) ∧ ∀ q, H q = none → Q (.ref q) (upd H q (.lst xs))
theorem wc_Bucket_names {T : Tx K mg base} {p l : Addr} {room : Nat} {xs : List V} (b : BuckAt T H p l room) (hl : H l = some (.lst xs)) (h : ∀ q, H q = none → Q (.ref q) (upd H q (.lst xs))) : sp_Bucket_names T [.ref p] H Q E := ⟨p, l, room, xs, rfl, b, hl, h⟩
theorem ok_Bucket_names (T : Tx K mg base) : FnOk P w K mg base CX0 1 T.a_Bucket_names T.d_Bucket_names ["self"] (sp_Bucket_names T) := by
  refine T.F_Bucket_names.okD sc_Bucket_names (fun vs H Q E h => ?_) (fun cdv A outer s H vs Q E hr h => ?_)
  · obtain ⟨p, l, room, xs, rfl, _⟩ := h; rfl
  · obtain ⟨p, l, room, xs, rfl, ⟨dx, ob⟩, hl, q⟩ := h
    have c_Bucket := T.c_Bucket; have n_Bucket_room := T.n_Bucket_room; have n_Bucket_line := T.n_Bucket_line; have c_Table := T.c_Table; have n_Table_own := T.n_Table_own; have n_Table_wide := T.n_Table_wide; have n_Table_room := T.n_Table_room; have n_Table_buckets := T.n_Table_buckets; have c_Town := T.c_Town; have n_Town_wide := T.n_Town_wide; have n_Town_room := T.n_Town_room; have n_Town_tables := T.n_Town_tables; have n_Town_hushed := T.n_Town_hushed
    refine ⟨_, (pss_one (ps_ret (pe_callTy cb_list (by rfl) T.z_list (by decide +kernel) (pa_cons (pe_fld (pv 0) rfl) pa_nil)))), ?_⟩
    rw [Nn.st_Bucket_names]; try rw [Nn.cxK]
    try rw [Nn.cxW]
    walk_at "wx"
    exact x_listL (SqL.of hl) q
/-- who was asked -/
def askedL (room : Nat) (xs : List Nat) (n : Nat) : List Nat := if n ∈ xs then [] else if xs.length < room then [] else [xs.headD 0]
def sp_Bucket_hears (T : Tx K mg base) (cl : List (Str × Addr)) : List (Option V) → Sp := fun ws vs H Q _ => ∃ (p l : Addr) (room : Nat) (xs : List Nat) (n : Nat) (f : Addr) (A : An), cl = A.cl ∧ ws = A.ws ∧ vs = [.ref p, .int n, .ref f] ∧ BuckAt T H p l room ∧ H l = some (.lst (xs.map nV)) ∧ 0 < room ∧ room ≤ 100000 ∧ xs.length ≤ 100000 ∧ AnsOf T H f A ∧ ¬ AnsS A l ∧
  ∀ H', Fr (fun a => a = l ∨ AnsS A a) H H' → H' l = some (.lst ((hearL room xs n (ansB A (xs.headD 0))).map nV)) → AnsL A H' (askedL room xs n) → Q (.str (hearW room xs n (ansB A (xs.headD 0)))) H'
theorem wc_Bucket_hears {T : Tx K mg base} {cl : List (Str × Addr)} {ws : List (Option V)} {p l f : Addr} {room n : Nat} {xs : List Nat} {A : An} (ec : cl = A.cl) (ew : ws = A.ws) (b : BuckAt T H p l room) (hl : H l = some (.lst (xs.map nV))) (r0 : 0 < room) (r1 : room ≤ 100000) (x1 : xs.length ≤ 100000) (a : AnsOf T H f A) (s : ¬ AnsS A l)
    (h : ∀ H', Fr (fun a => a = l ∨ AnsS A a) H H' → H' l = some (.lst ((hearL room xs n (ansB A (xs.headD 0))).map nV)) → AnsL A H' (askedL room xs n) → Q (.str (hearW room xs n (ansB A (xs.headD 0)))) H') : sp_Bucket_hears T cl ws [.ref p, .int n, .ref f] H Q E :=
  ⟨p, l, room, xs, n, f, A, ec, ew, rfl, b, hl, r0, r1, x1, a, s, h⟩
theorem ok_Bucket_hears (T : Tx K mg base) {cl : List (Str × Addr)} (ws : List (Option V)) : FnOkC P w K mg base CX0 3 T.a_Bucket_hears T.d_Bucket_hears ["self", "name", "answers"] cl fr_Town_hears_answers ws (sp_Bucket_hears T cl ws) := by
  refine FunD.okC T.F_Bucket_hears sc_Bucket_hears (fun vs H Q E h => ?_) (fun cdv A outer s H vs Q E hr hC h => ?_)
  · obtain ⟨p, l, room, xs, n, f, A, rfl, rfl, rfl, _⟩ := h; rfl
  · obtain ⟨p, l, room, xs, n, f, A, rfl, rfl, rfl, ⟨dx, ob⟩, hl, r0, r1, x1, hans, hsl, q⟩ := h
    have hL0 := AnsOf.none hans
    skip
    have c_Bucket := T.c_Bucket; have n_Bucket_room := T.n_Bucket_room; have n_Bucket_line := T.n_Bucket_line; have c_Table := T.c_Table; have n_Table_own := T.n_Table_own; have n_Table_wide := T.n_Table_wide; have n_Table_room := T.n_Table_room; have n_Table_buckets := T.n_Table_buckets; have c_Town := T.c_Town; have n_Town_wide := T.n_Town_wide; have n_Town_room := T.n_Town_room; have n_Town_tables := T.n_Town_tables; have n_Town_hushed := T.n_Town_hushed
    refine ⟨_, (pss_cons (ps_if (pt_cmpR op_in_seq (pv 1) (pe_fld (pv 0) rfl) rfl)
      (pss_cons (ps_expr (pe_bm PySem.F.plainAttrs_list PySem.F.slot_list_remove PySem.F.type_list_remove mt_remove (pe_fld (pv 0) rfl) (pa_cons (pv 1) pa_nil)))
      (pss_cons (ps_expr (pe_bm PySem.F.plainAttrs_list PySem.F.slot_list_append PySem.F.type_list_append mt_append (pe_fld (pv 0) rfl) (pa_cons (pv 1) pa_nil)))
      (pss_one (ps_ret pe_str))))
      pss_nil)
      (pss_cons (ps_if (pt_cmpR op_lt (pe_callB cb_len (by rfl) T.z_len PySem.boot_len (pa_cons (pe_fld (pv 0) rfl) pa_nil)) (pe_fld (pv 0) rfl) (nomark _))
      (pss_cons (ps_expr (pe_bm PySem.F.plainAttrs_list PySem.F.slot_list_append PySem.F.type_list_append mt_append (pe_fld (pv 0) rfl) (pa_cons (pv 1) pa_nil)))
      (pss_one (ps_ret pe_str)))
      pss_nil)
      (pss_cons (ps_if (pt_val (pe_callF (F := nf_Town_hears_answers A.cl A.cd) (i := 2) (fun f => nok_Town_hears_answers T f) (Prov.entry hC rfl) hr (by decide) pass0 rfl (by first | exact Or.inl rfl | exact Or.inr (Or.inl rfl) | exact Or.inr (Or.inr rfl)) (pa_cons (pe_ix ix_list (pe_fld (pv 0) rfl) pe_int (fun _ _ => rfl)) pa_nil)))
      (pss_cons (ps_expr (pe_bm PySem.F.plainAttrs_list PySem.F.slot_list_append PySem.F.type_list_append mt_append (pe_fld (pv 0) rfl) (pa_cons (pe_bm PySem.F.plainAttrs_list PySem.F.slot_list_pop PySem.F.type_list_pop mt_popAt (pe_fld (pv 0) rfl) (pa_cons pe_int pa_nil)) pa_nil)))
      (pss_one (ps_ret pe_str)))
      pss_nil)
      (pss_cons (ps_expr (pe_bm PySem.F.plainAttrs_list PySem.F.slot_list_pop PySem.F.type_list_pop mt_popAt (pe_fld (pv 0) rfl) (pa_cons pe_int pa_nil)))
      (pss_cons (ps_expr (pe_bm PySem.F.plainAttrs_list PySem.F.slot_list_append PySem.F.type_list_append mt_append (pe_fld (pv 0) rfl) (pa_cons (pv 1) pa_nil)))
      (pss_one (ps_ret pe_str))))))), ?_⟩
    rw [Nn.st_Bucket_hears]; try rw [Nn.cxK]
    try rw [Nn.cxW]
    walk_at "wx"
    refine x_ifD (fun hn => ?_) fun hn => ?_
    · walk_at "wx"
      refine x_remove rfl hl hn ?_
      walk_at "wx"
      refine x_append upd_same (by rw [sizeLine_eq, List.length_map, List.length_erase_of_mem hn]; omega) ?_
      rw [(hear_in hn).1, (hear_in hn).2, List.map_append, show askedL room xs n = [] from if_pos hn] at q
      rw [upd_upd]
      have fr := Fr.upd1 (o := .lst ((xs.erase n).map nV ++ [nV n])) hl
      exact q _ (fr.mono fun a z => .inl z) upd_same (hL0.upd fr hsl)
    · walk_at "wx"
      refine x_ifD (fun hr1 => ?_) fun hr1 => ?_
      · walk_at "wx"
        rw [List.length_map] at hr1
        have e := hear_new (a := ansB A (xs.headD 0)) hn (Int.ofNat_lt.mp hr1)
        rw [e.1, e.2, List.map_append, show askedL room xs n = [] from by unfold askedL; rw [if_neg hn, if_pos (Int.ofNat_lt.mp hr1)]] at q
        have fr := Fr.upd1 (o := .lst (xs.map nV ++ [nV n])) hl
        exact q _ (fr.mono fun a z => .inl z) upd_same (hL0.upd fr hsl)
      · obtain ⟨x, r, rfl⟩ : ∃ x r, xs = x :: r := by
          cases xs with
          | nil => simp at hr1; omega
          | cons x r => exact ⟨x, r, rfl⟩
        rw [List.length_map] at hr1
        have hr2 : ¬ (x :: r).length < room := fun z => hr1 (Int.ofNat_lt.mpr z)
        have hrl : r.length < (x :: r).length := Nat.lt_succ_self _
        rw [show askedL room (x :: r) n = [x] from by unfold askedL; rw [if_neg hn, if_neg hr2]; rfl] at q
        simp only [List.headD_cons] at q
        walk_at "wx"
        refine ⟨f, rfl, hans.1, ?_⟩
        walk_at "wx"
        refine ⟨hans.1, hans.2.1, ?_⟩
        refine AnsOf.say hans fun H2 fr2 hL2 => ?_
        walk_at "wx"
        have ob2 := fr2.at ob fun z => AnsOf.ins hans z ob
        have hl2 := fr2.at hl hsl
        refine x_ifB (fun ha => ?_) fun ha => ?_
        · have ha : ansB A x = true := ha
          walk_at "wx"
          have e := hear_full hn hr2 ha
          rw [e.1, e.2, List.map_append] at q
          refine x_pop0 (xs := r.map nV) hl2 ?_
          walk_at "wx"
          rw [upd_upd]
          have fr := Fr.upd1 (o := .lst (r.map nV ++ [nV x])) hl2
          exact q _ ((fr2.mono fun a z => .inr z).trans (fr.mono fun a z => .inl z)) upd_same (hL2.upd fr hsl)
        · have ha : ansB A x = false := ha
          walk_at "wx"
          have e := hear_inst hn hr2 ha
          rw [e.1, e.2, List.map_append] at q
          refine x_pop0 (xs := r.map nV) hl2 ?_
          walk_at "wx"
          rw [upd_upd]
          have fr := Fr.upd1 (o := .lst (r.map nV ++ [nV n])) hl2
          exact q _ ((fr2.mono fun a z => .inr z).trans (fr.mono fun a z => .inl z)) upd_same (hL2.upd fr hsl)
def sp_Bucket_drops (T : Tx K mg base) : Sp := fun vs H Q _ => ∃ (p l : Addr) (room : Nat) (xs : List Nat) (n : Nat), vs = [.ref p, .int n] ∧ BuckAt T H p l room ∧ H l = some (.lst (xs.map nV)) ∧
  (n ∉ xs → Q (.bl false) H) ∧ (n ∈ xs → Fr (fun a => a = l) H (upd H l (.lst ((xs.erase n).map nV))) → Q (.bl true) (upd H l (.lst ((xs.erase n).map nV))))
theorem ok_Bucket_drops (T : Tx K mg base) : FnOk P w K mg base CX0 1 T.a_Bucket_drops T.d_Bucket_drops ["self", "name"] (sp_Bucket_drops T) := by
  refine T.F_Bucket_drops.okD sc_Bucket_drops (fun vs H Q E h => ?_) (fun cdv A outer s H vs Q E hr h => ?_)
  · obtain ⟨p, l, room, xs, n, rfl, _⟩ := h; rfl
  · obtain ⟨p, l, room, xs, n, rfl, ⟨dx, ob⟩, hl, q1, q2⟩ := h
    have c_Bucket := T.c_Bucket; have n_Bucket_room := T.n_Bucket_room; have n_Bucket_line := T.n_Bucket_line; have c_Table := T.c_Table; have n_Table_own := T.n_Table_own; have n_Table_wide := T.n_Table_wide; have n_Table_room := T.n_Table_room; have n_Table_buckets := T.n_Table_buckets; have c_Town := T.c_Town; have n_Town_wide := T.n_Town_wide; have n_Town_room := T.n_Town_room; have n_Town_tables := T.n_Town_tables; have n_Town_hushed := T.n_Town_hushed
    refine ⟨_, (pss_cons (ps_if (pt_cmpR op_notIn_seq (pv 1) (pe_fld (pv 0) rfl) rfl)
      (pss_one (ps_ret pe_bl))
      pss_nil)
      (pss_cons (ps_expr (pe_bm PySem.F.plainAttrs_list PySem.F.slot_list_remove PySem.F.type_list_remove mt_remove (pe_fld (pv 0) rfl) (pa_cons (pv 1) pa_nil)))
      (pss_one (ps_ret pe_bl)))), ?_⟩
    rw [Nn.st_Bucket_drops]; try rw [Nn.cxK]
    try rw [Nn.cxW]
    walk_at "wx"
    refine x_ifN (fun hn => ?_) fun hn => ?_
    · walk_at "wx"
      exact q1 hn
    · walk_at "wx"
      refine x_remove rfl hl hn ?_
      walk_at "wx"
      exact q2 hn (Fr.upd1 hl)
end
end Nn
/-! tables -/
namespace Nn
open PySem L2
/-- the line lists of a table -/
structure Lines (H : Hp) (ls : List Addr) (xss : List (List Nat)) : Prop where
  nd : ls.Nodup
  len : ls.length = xss.length
  at_ : ∀ (k : Nat) (l : Addr) (xs : List Nat), ls[k]? = some l → xss[k]? = some xs → H l = some (.lst (xs.map nV))
theorem Lines.fr {S : Addr → Prop} {H H' : Hp} {ls : List Addr} {xss : List (List Nat)} (L : Lines H ls xss) (f : Fr S H H') (h : ∀ l ∈ ls, ¬ S l) : Lines H' ls xss :=
  ⟨L.nd, L.len, fun k l xs h1 h2 => f.at (L.at_ k l xs h1 h2) (h l (List.mem_of_getElem? h1))⟩
theorem Lines.ex {H H' : Hp} {ls : List Addr} {xss : List (List Nat)} (L : Lines H ls xss) (f : Ex H H') : Lines H' ls xss := L.fr f fun _ _ z => z
/-- it is a list of names -/
def IsLine (H : Hp) (a : Addr) : Prop := ∃ xs : List Nat, H a = some (.lst (xs.map nV))
theorem Lines.is {H : Hp} {ls : List Addr} {xss : List (List Nat)} (L : Lines H ls xss) {l : Addr} (h : l ∈ ls) : IsLine H l := by
  obtain ⟨k, hk⟩ := List.getElem?_of_mem h
  have h1 : k < xss.length := by rw [← L.len]; exact (List.getElem?_eq_some_iff.mp hk).1
  exact ⟨xss[k], L.at_ k l _ hk (List.getElem?_eq_getElem h1)⟩
theorem Lines.upd {H H' : Hp} {ls : List Addr} {xss : List (List Nat)} (L : Lines H ls xss) {k : Nat} {l : Addr} {xs : List Nat} (hk : ls[k]? = some l) (f : Fr (fun a => a = l) H H') (e : H' l = some (.lst (xs.map nV))) : Lines H' ls (xss.set k xs) := by
  refine ⟨L.nd, by rw [List.length_set]; exact L.len, fun j l' xs' h1 h2 => ?_⟩
  have hkl : k < ls.length := (List.getElem?_eq_some_iff.mp hk).1
  by_cases hj : k = j
  · subst hj
    rw [hk] at h1; cases h1
    rw [List.getElem?_set_self (by rw [← L.len]; exact hkl)] at h2
    cases h2
    exact e
  · rw [List.getElem?_set_ne hj] at h2
    refine f.at (L.at_ j l' xs' h1 h2) fun z => hj ?_
    rw [z] at h1
    exact (List.getElem?_inj hkl L.nd).mp (hk.trans h1.symm)
theorem Lines.updS {S : Addr → Prop} {H H' : Hp} {ls : List Addr} {xss : List (List Nat)} (L : Lines H ls xss) {k : Nat} {l : Addr} {xs : List Nat} (hk : ls[k]? = some l) (f : Fr S H H') (hs : ∀ y ∈ ls, S y → y = l) (e : H' l = some (.lst (xs.map nV))) : Lines H' ls (xss.set k xs) := by
  refine ⟨L.nd, by rw [List.length_set]; exact L.len, fun j l' xs' h1 h2 => ?_⟩
  have hkl : k < ls.length := (List.getElem?_eq_some_iff.mp hk).1
  by_cases hj : k = j
  · subst hj
    rw [hk] at h1; cases h1
    rw [List.getElem?_set_self (by rw [← L.len]; exact hkl)] at h2
    cases h2
    exact e
  · rw [List.getElem?_set_ne hj] at h2
    refine f.at (L.at_ j l' xs' h1 h2) fun z => hj ?_
    rw [hs l' (List.mem_of_getElem? h1) z] at h1
    exact (List.getElem?_inj hkl L.nd).mp (hk.trans h1.symm)
section
variable {P : Program} {w : World} {K : PySem.W.Frag} {mg : Str → Option Value} {base : Heap} {H : Hp} {Q : VK} {E : XK}
/-- a table at p: what never changes of it -/
structure TabAt (T : Tx K mg base) (H : Hp) (p : Addr) (own wide room : Nat) (ls : List Addr) : Prop where
  w0 : 0 < wide
  w1 : wide ≤ 60
  r0 : 0 < room
  r1 : room ≤ 8
  len : ls.length = wide
  ob : ∃ (dx bl : Addr) (bs : List Addr), H p = some (.ins T.C_Table dx (f_Table (nV own) (nV wide) (nV room) (.ref bl))) ∧ H bl = some (.lst (bs.map V.ref)) ∧ bs.length = wide ∧ ∀ (k : Nat) (b l : Addr), bs[k]? = some b → ls[k]? = some l → BuckAt T H b l room
theorem refs_ne_ints {bs : List Addr} {xs : List Nat} (h : 0 < bs.length) : HO.lst (bs.map V.ref) ≠ HO.lst (xs.map nV) := by
  intro z
  cases bs with
  | nil => simp at h
  | cons b r => cases xs with
    | nil => cases z
    | cons x r => cases z
theorem TabAt.fr {T : Tx K mg base} {S : Addr → Prop} {H H' : Hp} {p : Addr} {own wide room : Nat} {ls : List Addr} (t : TabAt T H p own wide room ls) (f : Fr S H H') (h : ∀ a, S a → IsLine H a ∨ H a = none) : TabAt T H' p own wide room ls := by
  obtain ⟨dx, bl, bs, h1, h2, h3, h4⟩ := t.ob
  refine ⟨t.w0, t.w1, t.r0, t.r1, t.len, dx, bl, bs, f.at h1 ?_, f.at h2 ?_, h3, fun k b l e1 e2 => (h4 k b l e1 e2).fr f ?_⟩
  · intro z
    rcases h _ z with ⟨xs, e⟩ | e <;> rw [h1] at e <;> cases e
  · intro z
    rcases h _ z with ⟨xs, e⟩ | e
    · rw [h2] at e
      exact refs_ne_ints (by rw [h3]; exact t.w0) (Option.some.inj e)
    · rw [h2] at e; cases e
  · intro z
    obtain ⟨dy, hb⟩ := (h4 k b l e1 e2).ob
    rcases h _ z with ⟨xs, e⟩ | e <;> rw [hb] at e <;> cases e
theorem TabAt.ex {T : Tx K mg base} {H H' : Hp} {p : Addr} {own wide room : Nat} {ls : List Addr} (t : TabAt T H p own wide room ls) (f : Ex H H') : TabAt T H' p own wide room ls := t.fr f fun _ z => z.elim
/-- what lies beneath a table is of F -/
def TabOwn (T : Tx K mg base) (H : Hp) (p : Addr) (F : Addr → Prop) : Prop := ∀ (dx bl : Addr) (x y z : V) (bs : List Addr), H p = some (.ins T.C_Table dx (f_Table x y z (.ref bl))) → H bl = some (.lst (bs.map V.ref)) → F bl ∧ ∀ b ∈ bs, F b
theorem refs_inj {as bs : List Addr} (h : as.map V.ref = bs.map V.ref) : as = bs := List.map_inj_right (f := V.ref) (fun a b e => V.ref.inj e) |>.mp h
theorem TabOwn.mono {T : Tx K mg base} {F F' : Addr → Prop} {p : Addr} (o : TabOwn T H p F) (h : ∀ a, F a → F' a) : TabOwn T H p F' := fun dx bl x y z bs e1 e2 => ⟨h _ (o dx bl x y z bs e1 e2).1, fun b hb => h b ((o dx bl x y z bs e1 e2).2 b hb)⟩
theorem TabOwn.fr {T : Tx K mg base} {S F : Addr → Prop} {H H' : Hp} {p : Addr} {own wide room : Nat} {ls : List Addr} (o : TabOwn T H p F) (t : TabAt T H p own wide room ls) (f : Fr S H H') (h : ∀ a, S a → ¬ F a ∨ IsLine H a) (hp : ¬ S p) : TabOwn T H' p F := by
  obtain ⟨dx, bl, bs, h1, h2, h3, h4⟩ := t.ob
  have q := o dx bl _ _ _ bs h1 h2
  have hb : ¬ S bl := fun z => by
    rcases h _ z with e | ⟨xs, e⟩
    · exact e q.1
    · rw [h2] at e; exact refs_ne_ints (by rw [h3]; exact t.w0) (Option.some.inj e)
  intro dx' bl' x y z bs' e1 e2
  rw [f.at h1 hp] at e1
  cases e1
  rw [f.at h2 hb] at e2
  have e := HO.lst.inj (Option.some.inj e2)
  rw [← refs_inj e]
  exact q
def sp_Table_init (T : Tx K mg base) : Sp := fun vs H Q _ => ∃ (p dx : Addr) (own wide room : Nat), vs = [.ref p, .int own, .int wide, .int room] ∧ H p = some (.ins T.C_Table dx []) ∧ 0 < wide ∧ wide ≤ 60 ∧ 0 < room ∧ room ≤ 8 ∧
  ∀ (ls : List Addr) (H' : Hp), (∀ l ∈ ls, H l = none) → Fr (fun a => a = p) H H' → TabAt T H' p own wide room ls → Lines H' ls (List.replicate wide []) → TabOwn T H' p (fun a => H a = none) → Q .non H'
theorem ok_Table_init (T : Tx K mg base) : FnOk P w K mg base CX0 3 T.a_Table_init T.d_Table_init ["self", "own", "wide", "room"] (sp_Table_init T) := by
  refine T.F_Table_init.okD sc_Table_init (fun vs H Q E h => ?_) (fun cdv A outer s H vs Q E hr h => ?_)
  · obtain ⟨p, dx, own, wide, room, rfl, _⟩ := h; rfl
  · obtain ⟨p, dx, own, wide, room, rfl, hp, w0, w1, r0, r1, q⟩ := h
    have c_Bucket := T.c_Bucket; have n_Bucket_room := T.n_Bucket_room; have n_Bucket_line := T.n_Bucket_line; have c_Table := T.c_Table; have n_Table_own := T.n_Table_own; have n_Table_wide := T.n_Table_wide; have n_Table_room := T.n_Table_room; have n_Table_buckets := T.n_Table_buckets; have c_Town := T.c_Town; have n_Town_wide := T.n_Town_wide; have n_Town_room := T.n_Town_room; have n_Town_tables := T.n_Town_tables; have n_Town_hushed := T.n_Town_hushed
    refine ⟨_, (pss_cons (ps_fld (pv 0) (pv 1) rfl)
      (pss_cons (ps_fld (pv 0) (pv 2) rfl)
      (pss_cons (ps_fld (pv 0) (pv 3) rfl)
      (pss_one (ps_fld (pv 0) (pe_lc (own := [("k", 4)]) (g := (gName 4)) (by rfl) sc_Table_init.nd (pi_range1 rfl T.z_range (pa_cons (pv 2) pa_nil)) (blkOk_by (N := N_Table_init) (sc := defScope s_Table_init) (own := [("k", 4)]) (by decide +kernel)) (fun _ _ _ _ _ => (pg_name (i := 4) sc_Table_init.nd rfl (Or.inl rfl))) (fun _ _ _ _ _ => pts_nil) (fun _ _ _ _ _ => (pe_make T.M_Bucket (ok_Bucket_init T) hr rfl T.m_Bucket T.b_Bucket_init .nil pass0 (pa_cons (pv 3) pa_nil)))) rfl))))), ?_⟩
    rw [Nn.st_Table_init]; try rw [Nn.cxK]
    try rw [Nn.cxW]
    walk_at "wx"
    have f3 : Fr (fun a => a = p) H (upd (upd (upd H p (HO.ins T.C_Table dx [("own", V.int ↑own)])) p (HO.ins T.C_Table dx [("own", V.int ↑own), ("wide", V.int ↑wide)])) p (HO.ins T.C_Table dx [("own", V.int ↑own), ("wide", V.int ↑wide), ("room", V.int ↑room)])) :=
      ((Fr.upd1 hp).trans (Fr.upd1 upd_same)).trans (Fr.upd1 upd_same)
    have h3 : (upd (upd (upd H p (HO.ins T.C_Table dx [("own", V.int ↑own)])) p (HO.ins T.C_Table dx [("own", V.int ↑own), ("wide", V.int ↑wide)])) p (HO.ins T.C_Table dx [("own", V.int ↑own), ("wide", V.int ↑wide), ("room", V.int ↑room)])) p = some (HO.ins T.C_Table dx [("own", V.int ↑own), ("wide", V.int ↑wide), ("room", V.int ↑room)]) := upd_same
    generalize (upd (upd (upd H p (HO.ins T.C_Table dx [("own", V.int ↑own)])) p (HO.ins T.C_Table dx [("own", V.int ↑own), ("wide", V.int ↑wide)])) p (HO.ins T.C_Table dx [("own", V.int ↑own), ("wide", V.int ↑wide), ("room", V.int ↑room)])) = H3 at *
    refine LcW.by1 walk_rgN (by rw [sizeLine_eq]; omega) (fun D i acc H' => Ex H3 H' ∧ ∃ bs ls : List Addr, acc = bs.map V.ref ∧ bs.length = i ∧ ls.length = i ∧ (∀ l ∈ ls, H3 l = none ∧ l ≠ D ∧ H' l = some (.lst [])) ∧ ls.Nodup ∧ (∀ b ∈ bs, H3 b = none) ∧ ∀ (k : Nat) (b l : Addr), bs[k]? = some b → ls[k]? = some l → BuckAt T H' b l room) ?_ (fun _ _ _ _ _ _ _ => trivial) ?_ ?_
    · intro D hD
      exact ⟨Ex.new hD, [], [], rfl, rfl, rfl, by simp, List.nodup_nil, by simp, by simp⟩
    · rintro D i acc x _ H1 hi hD ⟨ex, bs, ls, rfl, hb, hl, hls, nd, hbn, hbu⟩ hacc ⟨rfl, rfl⟩ Qe hQ
      walk_at "wx"
      refine x_make fun x dx1 H2 hx ex2 hx2 => ?_
      refine ⟨x, dx1, room, rfl, hx2, fun l H4 hl0 hl4 fr4 bu4 => ⟨rfl, ?_⟩⟩
      have e4 : Ex H1 H4 := fr4.ex ex2 fun y z => by rw [z]; exact hx
      have hD4 : H4 D = some (.lst (bs.map V.ref)) := e4.at hacc
      have lnew : H1 l = none := ex2.back l hl0
      have lD : l ≠ D := fun z => by rw [z, hacc] at lnew; cases lnew
      have hm : Ex H3 (upd H4 D (.lst (bs.map V.ref ++ [.ref x]))) := (ex.trans e4).mut hD hD4
      refine hQ _ _ hD4 ⟨hm, bs ++ [x], ls ++ [l], by simp, by simp [hb], by simp [hl], ?_, nd_snoc nd ?_, fun b hb' => (List.mem_append.mp hb').elim (hbn b) fun z => by rw [List.mem_singleton.mp z]; exact ex.back x hx, ?_⟩
      · intro y hy
        rcases List.mem_append.mp hy with hy | hy
        · obtain ⟨a1, a2, a3⟩ := hls y hy
          exact ⟨a1, a2, by rw [upd_ne a2]; exact e4.at a3⟩
        · rw [List.mem_singleton.mp hy]
          exact ⟨ex.back l lnew, lD, by rw [upd_ne lD]; exact hl4⟩
      · intro hy
        rw [(hls l hy).2.2] at lnew
        cases lnew
      · intro k b l' h1 h2
        have hfr : BuckAt T H4 b l' room := by
          by_cases hk : k < i
          · rw [List.getElem?_append_left (by omega)] at h1 h2
            exact (hbu k b l' h1 h2).fr e4 id
          · rw [List.getElem?_append_right (by omega)] at h1 h2
            have hk0 : k - i = 0 := by
              have := (List.getElem?_eq_some_iff.mp h1).1
              simp at this; omega
            rw [hb, hk0] at h1
            rw [hl, hk0] at h2
            cases h1; cases h2
            exact bu4
        exact hfr.fr (Fr.upd1 hD4) fun z => by
          obtain ⟨dy, hy⟩ := hfr.ob
          rw [z, hD4] at hy; cases hy
    · rintro D acc H4 hD ⟨ex, bs, ls, rfl, hb, hl, hls, nd, hbn, hbu⟩ hD4 _
      have hp4 : H4 p = some (HO.ins T.C_Table dx [("own", V.int ↑own), ("wide", V.int ↑wide), ("room", V.int ↑room)]) := ex.at h3
      have hne : ∀ {a : Addr} {o : HO}, H4 a = some o → (HO.ins T.C_Table dx [("own", V.int ↑own), ("wide", V.int ↑wide), ("room", V.int ↑room)]) ≠ o → a ≠ p := fun {a o} h d z => by rw [z, hp4] at h; exact d (Option.some.inj h)
      walk_at "wx"
      refine q ls _ (fun l h => f3.back l (hls l h).1) ((f3.trans ex.fr).trans (Fr.upd1 hp4)) ⟨w0, w1, r0, r1, hl, dx, D, bs, upd_same, ?_, hb, ?_⟩ ⟨nd, by rw [List.length_replicate, hl], ?_⟩ ?_
      · rw [upd_ne (hne hD4 (fun z => by cases z))]; exact hD4
      · intro k b l h1 h2
        have h := hbu k b l h1 h2
        refine h.fr (Fr.upd1 hp4) fun z => ?_
        have n0 := (hls l (List.mem_of_getElem? h2))
        obtain ⟨dy, hy⟩ := h.ob
        rw [z, hp4] at hy
        have hy := Option.some.inj hy
        injection hy with e1 e2 e3
        have e4 := congrArg List.length e3
        simp [f_Bucket] at e4
      · intro k l xs h1 h2
        have n0 := (hls l (List.mem_of_getElem? h1))
        have e : xs = [] := by
          rw [List.getElem?_replicate] at h2
          split at h2
          · exact (Option.some.inj h2).symm
          · cases h2
        rw [e, upd_ne (hne n0.2.2 (fun z => by cases z))]
        exact n0.2.2
      · intro dx' bl' x y z bs' e1 e2
        rw [upd_same] at e1
        cases e1
        rw [upd_ne (hne hD4 (fun z => by cases z)), hD4] at e2
        have e := HO.lst.inj (Option.some.inj e2)
        rw [← refs_inj e]
        exact ⟨f3.back D hD, fun b hb' => f3.back b (hbn b hb')⟩
end
end Nn
/-! tables: what they do -/
namespace Nn
open PySem L2
section
variable {P : Program} {w : World} {K : PySem.W.Frag} {mg : Str → Option Value} {base : Heap} {H : Hp} {Q : VK} {E : XK}
def sp_Table_bucket_for (T : Tx K mg base) : Sp := fun vs H Q _ => ∃ (p : Addr) (own wide room n : Nat) (ls : List Addr), vs = [.ref p, .int n] ∧ TabAt T H p own wide room ls ∧ n ≠ own ∧ stepN own n < wide ∧
  ∀ b l, ls[stepN own n]? = some l → BuckAt T H b l room → Q (.ref b) H
theorem wc_Table_bucket_for {T : Tx K mg base} {p : Addr} {own wide room n : Nat} {ls : List Addr} (t : TabAt T H p own wide room ls) (hn : n ≠ own) (hs : stepN own n < wide) (h : ∀ b l, ls[stepN own n]? = some l → BuckAt T H b l room → Q (.ref b) H) : sp_Table_bucket_for T [.ref p, .int n] H Q E :=
  ⟨p, own, wide, room, n, ls, rfl, t, hn, hs, h⟩
theorem ok_Table_bucket_for (T : Tx K mg base) : FnOk P w K mg base CX0 3 T.a_Table_bucket_for T.d_Table_bucket_for ["self", "name"] (sp_Table_bucket_for T) := by
  refine T.F_Table_bucket_for.okD sc_Table_bucket_for (fun vs H Q E h => ?_) (fun cdv A outer s H vs Q E hr h => ?_)
  · obtain ⟨p, own, wide, room, n, ls, rfl, _⟩ := h; rfl
  · obtain ⟨p, own, wide, room, n, ls, rfl, ht, hn, hs, q⟩ := h
    obtain ⟨dx, bl, bs, h1, h2, h3, h4⟩ := ht.ob
    have c_Bucket := T.c_Bucket; have n_Bucket_room := T.n_Bucket_room; have n_Bucket_line := T.n_Bucket_line; have c_Table := T.c_Table; have n_Table_own := T.n_Table_own; have n_Table_wide := T.n_Table_wide; have n_Table_room := T.n_Table_room; have n_Table_buckets := T.n_Table_buckets; have c_Town := T.c_Town; have n_Town_wide := T.n_Town_wide; have n_Town_room := T.n_Town_room; have n_Town_tables := T.n_Town_tables; have n_Town_hushed := T.n_Town_hushed
    refine ⟨_, (pss_one (ps_ret (pe_ix ix_list (pe_fld (pv 0) rfl) (pe_call (ok_step T) hr rfl T.m_step T.F_step.kp T.b_step .nil pass0 (pa_cons (pe_fld (pv 0) rfl) (pa_cons (pv 1) pa_nil))) (fun _ _ => rfl)))), ?_⟩
    rw [Nn.st_Table_bucket_for]; try rw [Nn.cxK]
    try rw [Nn.cxW]
    have hn' := Ne.symm hn
    walk_at "wx"
    have hk : stepN own n < bs.length := by omega
    refine x_ixL (v := .ref bs[stepN own n]) (SqL.of h2) (atI_nat (by simp [hk])) ?_
    have hl : stepN own n < ls.length := by rw [ht.len]; exact hs
    exact q _ _ (List.getElem?_eq_getElem hl) (h4 _ _ _ (List.getElem?_eq_getElem hk) (List.getElem?_eq_getElem hl))
/-- the lines behind hearing of n -/
def tabL (own room : Nat) (xss : List (List Nat)) (n : Nat) (a : Nat → Bool) : List (List Nat) :=
  if n = own then xss else xss.set (stepN own n) (hearL room (xss.getD (stepN own n) []) n (a ((xss.getD (stepN own n) []).headD 0)))
def tabW (own room : Nat) (xss : List (List Nat)) (n : Nat) (a : Nat → Bool) : Str :=
  if n = own then "own" else hearW room (xss.getD (stepN own n) []) n (a ((xss.getD (stepN own n) []).headD 0))
/-- who was asked -/
def tabA (own room : Nat) (xss : List (List Nat)) (n : Nat) : List Nat := if n = own then [] else askedL room (xss.getD (stepN own n) []) n
def sp_Table_hears (T : Tx K mg base) (cl : List (Str × Addr)) : List (Option V) → Sp := fun ws vs H Q _ => ∃ (p f : Addr) (own wide room n : Nat) (ls : List Addr) (xss : List (List Nat)) (A : An), cl = A.cl ∧ ws = A.ws ∧ vs = [.ref p, .int n, .ref f] ∧ TabAt T H p own wide room ls ∧ Lines H ls xss ∧ own < 2 ^ wide ∧ n < 2 ^ wide ∧ (∀ xs ∈ xss, xs.length ≤ 100000) ∧ AnsOf T H f A ∧ (∀ l ∈ ls, ¬ AnsS A l) ∧
  ∀ H', Fr (fun a => a ∈ ls ∨ AnsS A a) H H' → Lines H' ls (tabL own room xss n (ansB A)) → AnsL A H' (tabA own room xss n) → Q (.str (tabW own room xss n (ansB A))) H'
theorem wc_Table_hears {T : Tx K mg base} {cl : List (Str × Addr)} {ws : List (Option V)} {p f : Addr} {own wide room n : Nat} {ls : List Addr} {xss : List (List Nat)} {A : An} (ec : cl = A.cl) (ew : ws = A.ws) (t : TabAt T H p own wide room ls) (L : Lines H ls xss) (ho : own < 2 ^ wide) (hn : n < 2 ^ wide) (hx : ∀ xs ∈ xss, xs.length ≤ 100000) (a : AnsOf T H f A) (s : ∀ l ∈ ls, ¬ AnsS A l)
    (h : ∀ H', Fr (fun a => a ∈ ls ∨ AnsS A a) H H' → Lines H' ls (tabL own room xss n (ansB A)) → AnsL A H' (tabA own room xss n) → Q (.str (tabW own room xss n (ansB A))) H') : sp_Table_hears T cl ws [.ref p, .int n, .ref f] H Q E := ⟨p, f, own, wide, room, n, ls, xss, A, ec, ew, rfl, t, L, ho, hn, hx, a, s, h⟩
theorem ok_Table_hears (T : Tx K mg base) {cl : List (Str × Addr)} (ws : List (Option V)) : FnOkC P w K mg base CX0 4 T.a_Table_hears T.d_Table_hears ["self", "name", "answers"] cl fr_Town_hears_answers ws (sp_Table_hears T cl ws) := by
  refine FunD.okC T.F_Table_hears sc_Table_hears (fun vs H Q E h => ?_) (fun cdv A outer s H vs Q E hr hC h => ?_)
  · obtain ⟨p, f, own, wide, room, n, ls, xss, A, rfl, rfl, rfl, _⟩ := h; rfl
  · obtain ⟨p, f, own, wide, room, n, ls, xss, A, rfl, rfl, rfl, ht, L, ho, hn, hx, ha, hs0, q⟩ := h
    obtain ⟨dx, bl, bs, h1, h2, h3, h4⟩ := ht.ob
    have c_Bucket := T.c_Bucket; have n_Bucket_room := T.n_Bucket_room; have n_Bucket_line := T.n_Bucket_line; have c_Table := T.c_Table; have n_Table_own := T.n_Table_own; have n_Table_wide := T.n_Table_wide; have n_Table_room := T.n_Table_room; have n_Table_buckets := T.n_Table_buckets; have c_Town := T.c_Town; have n_Town_wide := T.n_Town_wide; have n_Town_room := T.n_Town_room; have n_Town_tables := T.n_Town_tables; have n_Town_hushed := T.n_Town_hushed
    refine ⟨_, (pss_cons (ps_if (pt_cmpR op_eq (pv 1) (pe_fld (pv 0) rfl) (nomark _))
      (pss_one (ps_ret pe_str))
      pss_nil)
      (pss_one (ps_ret (pe_methC (pe_meth (pv 0) T.c_Table T.t_Table_bucket_for (ok_Table_bucket_for T) hr T.b_Table_bucket_for .nil pass0 (pa_cons (pv 1) pa_nil)) T.c_Bucket T.t_Bucket_hears (fun ws => ok_Bucket_hears T ws) (Prov.entry hC rfl) hr T.b_Bucket_hears .nil pass0 (pa_cons (pv 1) (pa_cons (pv 2) pa_nil)))))), ?_⟩
    rw [Nn.st_Table_hears]; try rw [Nn.cxK]
    try rw [Nn.cxW]
    walk_at "wx"
    refine x_ifD (fun e => ?_) fun e => ?_
    · walk_at "wx"
      have e : n = own := Int.ofNat.inj e
      have q1 := q H Fr.refl
      unfold tabL tabW tabA at q1
      rw [if_pos e, if_pos e, if_pos e] at q1
      exact q1 L (AnsOf.none ha)
    · have e : n ≠ own := fun z => e (by rw [z])
      have hs : stepN own n < wide := stepN_lt ho hn (Ne.symm e)
      walk_at "wx"
      refine wc_Table_bucket_for ht e hs fun b l hl hb => ?_
      obtain ⟨dy, hob⟩ := hb.ob
      have hk : stepN own n < xss.length := by rw [← L.len, ht.len]; exact hs
      have hL := L.at_ _ l _ hl (List.getElem?_eq_getElem hk)
      have eg : xss.getD (stepN own n) [] = xss[stepN own n] := by rw [List.getD_eq_getElem?_getD, List.getElem?_eq_getElem hk]; rfl
      have hm := List.mem_of_getElem? hl
      walk_at "wx"
      refine wc_Bucket_hears rfl rfl hb hL ht.r0 (Nat.le_trans ht.r1 (by decide)) (hx _ (List.getElem_mem hk)) ha (hs0 l hm) fun H' fr hl' hA' => ?_
      unfold tabL tabW tabA at q
      rw [if_neg e, if_neg e, if_neg e, eg] at q
      exact q _ (fr.mono fun x z => z.imp (fun z => by rw [z]; exact hm) id) (L.updS hl fr (fun y hy z => z.elim id fun z => absurd z (hs0 y hy)) hl') hA'
def sp_Table_keeps (T : Tx K mg base) : Sp := fun vs H Q _ => ∃ (p : Addr) (own wide room : Nat) (ls : List Addr) (xss : List (List Nat)), vs = [.ref p] ∧ TabAt T H p own wide room ls ∧ Lines H ls xss ∧ xss.flatten.Nodup ∧ xss.flatten.length ≤ 100000 ∧
  ∀ q H', H q = none → Ex H H' → H' q = some (.lst ((sortU xss.flatten).map nV)) → Q (.ref q) H'
theorem wc_Table_keeps {T : Tx K mg base} {p : Addr} {own wide room : Nat} {ls : List Addr} {xss : List (List Nat)} (t : TabAt T H p own wide room ls) (L : Lines H ls xss) (nd : xss.flatten.Nodup) (hz : xss.flatten.length ≤ 100000)
    (h : ∀ q H', H q = none → Ex H H' → H' q = some (.lst ((sortU xss.flatten).map nV)) → Q (.ref q) H') : sp_Table_keeps T [.ref p] H Q E := ⟨p, own, wide, room, ls, xss, rfl, t, L, nd, hz, h⟩
theorem flat_le {xss : List (List Nat)} (i : Nat) : (xss.take i).flatten.length ≤ xss.flatten.length := by
  have e : xss.flatten = (xss.take i).flatten ++ (xss.drop i).flatten := by rw [← List.flatten_append, List.take_append_drop]
  rw [e, List.length_append]; omega
theorem ok_Table_keeps (T : Tx K mg base) : FnOk P w K mg base CX0 2 T.a_Table_keeps T.d_Table_keeps ["self"] (sp_Table_keeps T) := by
  refine T.F_Table_keeps.okD sc_Table_keeps (fun vs H Q E h => ?_) (fun cdv A outer s H vs Q E hr h => ?_)
  · obtain ⟨p, own, wide, room, ls, xss, rfl, _⟩ := h; rfl
  · obtain ⟨p, own, wide, room, ls, xss, rfl, ht, L, nd, hz, q⟩ := h
    obtain ⟨dx, bl, bs, h1, h2, h3, h4⟩ := ht.ob
    have c_Bucket := T.c_Bucket; have n_Bucket_room := T.n_Bucket_room; have n_Bucket_line := T.n_Bucket_line; have c_Table := T.c_Table; have n_Table_own := T.n_Table_own; have n_Table_wide := T.n_Table_wide; have n_Table_room := T.n_Table_room; have n_Table_buckets := T.n_Table_buckets; have c_Town := T.c_Town; have n_Town_wide := T.n_Town_wide; have n_Town_room := T.n_Town_room; have n_Town_tables := T.n_Town_tables; have n_Town_hushed := T.n_Town_hushed
    refine ⟨_, (pss_cons (ps_set (i := 1) sc_Table_keeps.nd rfl (Or.inl rfl) (pe_lst pa_nil))
      (pss_cons (ps_for PassesOwn.never rfl (pi_list (pe_fld (pv 0) rfl)) (pg_name (i := 2) sc_Table_keeps.nd rfl (Or.inl rfl))
      (pss_one (ps_expr (pe_bm PySem.F.plainAttrs_list PySem.F.slot_list_extend PySem.F.type_list_extend mt_extend (pv 1) (pa_cons (pe_meth0 (pv 2) T.c_Bucket T.t_Bucket_names (ok_Bucket_names T) hr T.b_Bucket_names .nil pass0) pa_nil)))))
      (pss_one (ps_ret (pe_callB cr_sortedI (by rfl) T.z_sorted (by decide +kernel) (pa_cons (pv 1) pa_nil)))))), ?_⟩
    rw [Nn.st_Table_keeps]; try rw [Nn.cxK]
    try rw [Nn.cxW]
    walk_at "wx"
    refine ⟨len_ok rfl, fun d hd => ?_⟩
    walk_at "wx"
    refine ForW.by walk_list (fun i σ H' => ∃ v : Option V, σ = [some (.ref p), some (.ref d), v] ∧ Ex H H' ∧ H' d = some (.lst ((xss.take i).flatten.map nV))) ⟨none, rfl, Ex.new hd, upd_same⟩ (fun i σ H' _ ⟨_, _, e, _⟩ => e.ls (SqL.of h2)) ?_ ?_
    · rintro i x σ _ H1 hi ⟨v, rfl, ex, hd1⟩ ⟨rfl, hx⟩
      rw [List.length_map] at hi
      have hil : i < ls.length := by rw [ht.len]; omega
      have hix : i < xss.length := by rw [← L.len]; exact hil
      obtain rfl : x = .ref bs[i] := by
        rw [List.getElem?_map, List.getElem?_eq_getElem hi] at hx
        exact (Option.some.inj hx).symm
      have hb := (h4 i _ _ (List.getElem?_eq_getElem hi) (List.getElem?_eq_getElem hil)).fr ex id
      obtain ⟨dy, hob⟩ := hb.ob
      have hL := ex.at (L.at_ i _ _ (List.getElem?_eq_getElem hil) (List.getElem?_eq_getElem hix))
      have et : xss.take (i + 1) = xss.take i ++ [xss[i]] := by rw [List.take_add_one, List.getElem?_eq_getElem hix]; rfl
      have hlen := flat_le (xss := xss) (i + 1)
      rw [et, List.flatten_append, List.length_append, List.flatten_singleton] at hlen
      walk_at "wx"
      refine wc_Bucket_names hb hL fun r hr => ?_
      have hd2 : upd H1 r (.lst (xss[i].map nV)) d = some (.lst ((xss.take i).flatten.map nV)) := at_new hr hd1
      walk_at "wx"
      refine x_extend hd2 upd_same (by rw [sizeLine_eq, List.length_map, List.length_map]; omega) ?_
      refine ⟨_, rfl, (ex.newT hr).mut hd hd2, ?_⟩
      rw [upd_same, et, List.flatten_append, List.map_append, List.flatten_singleton]
    · rintro σ H1 ⟨v, rfl, ex, hd1⟩
      rw [List.length_map, h3, ← ht.len, L.len, List.take_length] at hd1
      walk_at "wx"
      refine x_sortN (SqL.of hd1) nd fun r hr => ?_
      exact q r _ (ex.back r hr) (ex.newT hr) upd_same
end
end Nn
/-! tables: drops, bucket, nearest -/
namespace Nn
open PySem L2
/-- the lines behind dropping of n -/
def tabD (own : Nat) (xss : List (List Nat)) (n : Nat) : List (List Nat) :=
  if n = own then xss else xss.set (stepN own n) ((xss.getD (stepN own n) []).erase n)
def tabDW (own : Nat) (xss : List (List Nat)) (n : Nat) : Bool := !decide (n = own) && decide (n ∈ xss.getD (stepN own n) [])
def oN : Option Nat → V
  | none => .non
  | some n => nV n
/-- the so many that are nearest of ks but one -/
def nearN (ks : List Nat) (g m : Nat) (b : Option Nat) : List Nat := (byN g (ks.filter fun n => !decide (some n = b))).take m
theorem oN_eq {n : Nat} {b : Option Nat} : decide (nV n = oN b) = decide (some n = b) := by
  cases b with
  | none => simp [oN, nV]
  | some k =>
    refine decide_eq_decide.mpr ⟨fun h => ?_, fun h => ?_⟩
    · have h : V.int (n : Int) = V.int (k : Int) := h
      injection h with h; rw [Int.ofNat.inj h]
    · cases h; rfl
theorem oN_scal {n : Nat} {b : Option Nat} : scal (nV n) (oN b) = true := by
  cases b <;> rfl
theorem cmp_nV (n : Nat) (b : Option Nat) : (!decide (nV n = oN b)) = (!decide (some n = b)) := by rw [oN_eq]
section
variable {P : Program} {w : World} {K : PySem.W.Frag} {mg : Str → Option Value} {base : Heap} {H : Hp} {Q : VK} {E : XK}
def sp_Table_drops (T : Tx K mg base) : Sp := fun vs H Q _ => ∃ (p : Addr) (own wide room n : Nat) (ls : List Addr) (xss : List (List Nat)), vs = [.ref p, .int n] ∧ TabAt T H p own wide room ls ∧ Lines H ls xss ∧ own < 2 ^ wide ∧ n < 2 ^ wide ∧
  ∀ H', Fr (fun a => a ∈ ls) H H' → Lines H' ls (tabD own xss n) → Q (.bl (tabDW own xss n)) H'
theorem wc_Table_drops {T : Tx K mg base} {p : Addr} {own wide room n : Nat} {ls : List Addr} {xss : List (List Nat)} (t : TabAt T H p own wide room ls) (L : Lines H ls xss) (ho : own < 2 ^ wide) (hn : n < 2 ^ wide)
    (h : ∀ H', Fr (fun a => a ∈ ls) H H' → Lines H' ls (tabD own xss n) → Q (.bl (tabDW own xss n)) H') : sp_Table_drops T [.ref p, .int n] H Q E := ⟨p, own, wide, room, n, ls, xss, rfl, t, L, ho, hn, h⟩
theorem set_self {α : Type} {xs : List α} {k : Nat} {x : α} (h : xs[k]? = some x) : xs.set k x = xs := by
  refine List.ext_getElem? fun j => ?_
  by_cases e : k = j
  · subst e
    rw [List.getElem?_set_self (List.getElem?_eq_some_iff.mp h).1, h]
  · rw [List.getElem?_set_ne e]
theorem ok_Table_drops (T : Tx K mg base) : FnOk P w K mg base CX0 4 T.a_Table_drops T.d_Table_drops ["self", "name"] (sp_Table_drops T) := by
  refine T.F_Table_drops.okD sc_Table_drops (fun vs H Q E h => ?_) (fun cdv A outer s H vs Q E hr h => ?_)
  · obtain ⟨p, own, wide, room, n, ls, xss, rfl, _⟩ := h; rfl
  · obtain ⟨p, own, wide, room, n, ls, xss, rfl, ht, L, ho, hn, q⟩ := h
    obtain ⟨dx, bl, bs, h1, h2, h3, h4⟩ := ht.ob
    have c_Bucket := T.c_Bucket; have n_Bucket_room := T.n_Bucket_room; have n_Bucket_line := T.n_Bucket_line; have c_Table := T.c_Table; have n_Table_own := T.n_Table_own; have n_Table_wide := T.n_Table_wide; have n_Table_room := T.n_Table_room; have n_Table_buckets := T.n_Table_buckets; have c_Town := T.c_Town; have n_Town_wide := T.n_Town_wide; have n_Town_room := T.n_Town_room; have n_Town_tables := T.n_Town_tables; have n_Town_hushed := T.n_Town_hushed
    refine ⟨_, (pss_cons (ps_if (pt_cmpR op_eq (pv 1) (pe_fld (pv 0) rfl) (nomark _))
      (pss_one (ps_ret pe_bl))
      pss_nil)
      (pss_one (ps_ret (pe_meth (pe_meth (pv 0) T.c_Table T.t_Table_bucket_for (ok_Table_bucket_for T) hr T.b_Table_bucket_for .nil pass0 (pa_cons (pv 1) pa_nil)) T.c_Bucket T.t_Bucket_drops (ok_Bucket_drops T) (hr.mono (by decide)) T.b_Bucket_drops .nil pass0 (pa_cons (pv 1) pa_nil))))), ?_⟩
    rw [Nn.st_Table_drops]; try rw [Nn.cxK]
    try rw [Nn.cxW]
    walk_at "wx"
    refine x_ifD (fun e => ?_) fun e => ?_
    · walk_at "wx"
      have e : n = own := Int.ofNat.inj e
      have q1 := q H Fr.refl
      unfold tabD tabDW at q1
      rw [if_pos e, decide_eq_true e] at q1
      exact q1 L
    · have e : n ≠ own := fun z => e (by rw [z])
      have hs : stepN own n < wide := stepN_lt ho hn (Ne.symm e)
      walk_at "wx"
      refine wc_Table_bucket_for ht e hs fun b l hl hb => ?_
      obtain ⟨dy, hob⟩ := hb.ob
      have hk : stepN own n < xss.length := by rw [← L.len, ht.len]; exact hs
      have hL := L.at_ _ l _ hl (List.getElem?_eq_getElem hk)
      have eg : xss.getD (stepN own n) [] = xss[stepN own n] := by rw [List.getD_eq_getElem?_getD, List.getElem?_eq_getElem hk]; rfl
      unfold tabD tabDW at q
      rw [if_neg e, decide_eq_false e, eg] at q
      walk_at "wx"
      refine ⟨b, l, room, _, n, rfl, hb, hL, fun hin => ?_, fun hin fr => ?_⟩
      · have q1 := q H Fr.refl
        rw [List.erase_of_not_mem hin, set_self (List.getElem?_eq_getElem hk), decide_eq_false hin] at q1
        exact q1 L
      · rw [decide_eq_true hin] at q
        exact q _ (fr.mono fun x z => by rw [z]; exact List.mem_of_getElem? hl) (L.upd hl fr upd_same)
def sp_Table_bucket (T : Tx K mg base) : Sp := fun vs H Q _ => ∃ (p : Addr) (own wide room k : Nat) (ls : List Addr) (xss : List (List Nat)), vs = [.ref p, .int k] ∧ TabAt T H p own wide room ls ∧ Lines H ls xss ∧ k < wide ∧
  ∀ q, H q = none → Q (.ref q) (upd H q (.lst ((xss.getD k []).map nV)))
theorem wc_Table_bucket {T : Tx K mg base} {p : Addr} {own wide room k : Nat} {ls : List Addr} {xss : List (List Nat)} (t : TabAt T H p own wide room ls) (L : Lines H ls xss) (hk : k < wide)
    (h : ∀ q, H q = none → Q (.ref q) (upd H q (.lst ((xss.getD k []).map nV)))) : sp_Table_bucket T [.ref p, .int k] H Q E := ⟨p, own, wide, room, k, ls, xss, rfl, t, L, hk, h⟩
theorem ok_Table_bucket (T : Tx K mg base) : FnOk P w K mg base CX0 2 T.a_Table_bucket T.d_Table_bucket ["self", "k"] (sp_Table_bucket T) := by
  refine T.F_Table_bucket.okD sc_Table_bucket (fun vs H Q E h => ?_) (fun cdv A outer s H vs Q E hr h => ?_)
  · obtain ⟨p, own, wide, room, k, ls, xss, rfl, _⟩ := h; rfl
  · obtain ⟨p, own, wide, room, k, ls, xss, rfl, ht, L, hk, q⟩ := h
    obtain ⟨dx, bl, bs, h1, h2, h3, h4⟩ := ht.ob
    have hkb : k < bs.length := by omega
    have hkl : k < ls.length := by rw [ht.len]; exact hk
    have hkx : k < xss.length := by rw [← L.len]; exact hkl
    have hb := h4 _ _ _ (List.getElem?_eq_getElem hkb) (List.getElem?_eq_getElem hkl)
    obtain ⟨dy, hob⟩ := hb.ob
    have hL := L.at_ _ _ _ (List.getElem?_eq_getElem hkl) (List.getElem?_eq_getElem hkx)
    have eg : xss.getD k [] = xss[k] := by rw [List.getD_eq_getElem?_getD, List.getElem?_eq_getElem hkx]; rfl
    rw [eg] at q
    have c_Bucket := T.c_Bucket; have n_Bucket_room := T.n_Bucket_room; have n_Bucket_line := T.n_Bucket_line; have c_Table := T.c_Table; have n_Table_own := T.n_Table_own; have n_Table_wide := T.n_Table_wide; have n_Table_room := T.n_Table_room; have n_Table_buckets := T.n_Table_buckets; have c_Town := T.c_Town; have n_Town_wide := T.n_Town_wide; have n_Town_room := T.n_Town_room; have n_Town_tables := T.n_Town_tables; have n_Town_hushed := T.n_Town_hushed
    refine ⟨_, (pss_one (ps_ret (pe_meth0 (pe_ix ix_list (pe_fld (pv 0) rfl) (pv 1) (fun _ _ => rfl)) T.c_Bucket T.t_Bucket_names (ok_Bucket_names T) hr T.b_Bucket_names .nil pass0))), ?_⟩
    rw [Nn.st_Table_bucket]; try rw [Nn.cxK]
    try rw [Nn.cxW]
    walk_at "wx"
    refine x_ixL (v := .ref bs[k]) (SqL.of h2) (atI_nat (by simp [hkb])) ?_
    walk_at "wx"
    exact wc_Bucket_names hb hL q
def sp_Table_nearest (T : Tx K mg base) : Sp := fun vs H Q _ => ∃ (p : Addr) (own wide room g m : Nat) (b : Option Nat) (ls : List Addr) (xss : List (List Nat)), vs = [.ref p, .int g, .int m, oN b] ∧ TabAt T H p own wide room ls ∧ Lines H ls xss ∧ xss.flatten.Nodup ∧ xss.flatten.length < 64 ∧
  ∀ q H', H q = none → Ex H H' → H' q = some (.lst ((nearN (sortU xss.flatten) g m b).map nV)) → Q (.ref q) H'
theorem wc_Table_nearest {T : Tx K mg base} {p : Addr} {own wide room g m : Nat} {b : Option Nat} {v : V} {ls : List Addr} {xss : List (List Nat)} (t : TabAt T H p own wide room ls) (L : Lines H ls xss) (nd : xss.flatten.Nodup) (hz : xss.flatten.length < 64) (hv : v = oN b)
    (h : ∀ q H', H q = none → Ex H H' → H' q = some (.lst ((nearN (sortU xss.flatten) g m b).map nV)) → Q (.ref q) H') : sp_Table_nearest T [.ref p, .int g, .int m, v] H Q E := ⟨p, own, wide, room, g, m, b, ls, xss, by rw [hv], t, L, nd, hz, h⟩
theorem sortU_len {l : List Nat} : (sortU l).length ≤ l.length := nodup_len (rising_nodup (sortU_sorted l)) fun _ h => mem_sortU.mp h
theorem ok_Table_nearest (T : Tx K mg base) : FnOk P w K mg base CX0 3 T.a_Table_nearest T.d_Table_nearest ["self", "goal", "many", "but"] (sp_Table_nearest T) := by
  refine T.F_Table_nearest.okD sc_Table_nearest (fun vs H Q E h => ?_) (fun cdv A outer s H vs Q E hr h => ?_)
  · obtain ⟨p, own, wide, room, g, m, b, ls, xss, rfl, _⟩ := h; rfl
  · obtain ⟨p, own, wide, room, g, m, b, ls, xss, rfl, ht, L, nd, hz, q⟩ := h
    obtain ⟨dx, bl, bs, h1, h2, h3, h4⟩ := ht.ob
    have hlen := sortU_len (l := xss.flatten)
    have c_Bucket := T.c_Bucket; have n_Bucket_room := T.n_Bucket_room; have n_Bucket_line := T.n_Bucket_line; have c_Table := T.c_Table; have n_Table_own := T.n_Table_own; have n_Table_wide := T.n_Table_wide; have n_Table_room := T.n_Table_room; have n_Table_buckets := T.n_Table_buckets; have c_Town := T.c_Town; have n_Town_wide := T.n_Town_wide; have n_Town_room := T.n_Town_room; have n_Town_tables := T.n_Town_tables; have n_Town_hushed := T.n_Town_hushed
    refine ⟨_, (pss_cons (ps_setLc (i := 4) (own := [("name", 5)]) (g := (gName 5)) (by rfl) sc_Table_nearest.nd rfl rfl (sw_true rfl rfl rfl (by decide +kernel)) (pi_list (pe_meth0 (pv 0) T.c_Table T.t_Table_keeps (ok_Table_keeps T) hr T.b_Table_keeps .nil pass0)) (blkOk_by (N := N_Table_nearest) (sc := defScope s_Table_nearest) (own := [("name", 5)]) (by decide +kernel)) (fun _ _ _ _ _ => (pg_name (i := 5) sc_Table_nearest.nd rfl (Or.inl rfl))) (fun _ _ _ _ _ => pts_one ((pt_cmpR op_ne (pv 5) (pv 3) (nomark _)))) (fun _ _ _ _ _ => (pv 5)))
      (pss_one (ps_ret (pe_slice sl_list (pe_call (ok_by_nearness T) hr rfl T.m_by_nearness T.F_by_nearness.kp T.b_by_nearness .nil pass0 (pa_cons (pv 1) (pa_cons (pv 4) pa_nil))) po_none (po_some (pv 2)))))), ?_⟩
    rw [Nn.st_Table_nearest]; try rw [Nn.cxK]
    try rw [Nn.cxW]
    walk_at "wx"
    refine wc_Table_keeps ht L nd (by omega) fun r H1 hr ex1 hr1 => ?_
    walk_at "wx"
    refine LcW.filt (emb := nV) (xs := sortU xss.flatten) (fun n => !decide (some n = b)) (SqL.of hr1) (by rw [sizeLine_eq]; omega) (fun n _ H2 ex2 R hR => ?_) (fun n _ _ H2 ex2 Qe hQ => ?_) fun D H2 hD ex2 hD2 => ?_
    · walk_at "wx"
      refine x_ne oN_scal ?_
      rw [cmp_nV]
      exact ⟨_, rfl, hR _ Ex.refl⟩
    · walk_at "wx"
      exact hQ
    · walk_at "wx"
      have hfl : ((sortU xss.flatten).filter fun n => !decide (some n = b)).length ≤ (sortU xss.flatten).length := List.length_filter_le _ _
      have hby := byN_len_le (g := g) (ns := (sortU xss.flatten).filter fun n => !decide (some n = b))
      refine wc_by_nearness rfl (SqL.of hD2) ⟨by omega, by omega⟩ fun r3 H3 hr3 ex3 hr33 => ?_
      walk_at "wx"
      refine x_slL (SqL.of hr33) fun r4 hr4 => ?_
      rw [cut_take]
      refine q r4 _ ?_ (((ex1.trans ex2).trans ex3).newT hr4) ?_
      · exact ((ex1.trans ex2).trans ex3).back r4 hr4
      · rw [upd_same]; unfold nearN; rw [List.map_take]
end
end Nn
/-! tables kept well -/
namespace Nn
/-- a table's lines, each name at its own step -/
structure TabOk (own wide room : Nat) (S : Nat → Prop) (xss : List (List Nat)) : Prop where
  len : xss.length = wide
  at_ : ∀ (k : Nat) (xs : List Nat), xss[k]? = some xs → xs.Nodup ∧ xs.length ≤ room ∧ ∀ x ∈ xs, x ≠ own ∧ stepN own x = k ∧ S x
theorem nodup_erase {n : Nat} {xs : List Nat} (h : xs.Nodup) : (xs.erase n).Nodup := h.sublist (List.erase_sublist ..)
theorem hear_mem {room n z : Nat} {xs : List Nat} {a : Bool} (h : z ∈ hearL room xs n a) (h0 : 0 < room) : z ∈ xs ∨ z = n := by
  unfold hearL at h
  split at h
  · rcases List.mem_append.mp h with h | h
    · exact .inl (List.mem_of_mem_erase h)
    · exact .inr (List.mem_singleton.mp h)
  · split at h
    · rcases List.mem_append.mp h with h | h
      · exact .inl h
      · exact .inr (List.mem_singleton.mp h)
    · cases xs with
      | nil => rename_i q; simp at q; omega
      | cons x r =>
        split at h
        · rcases List.mem_append.mp h with h | h
          · exact .inl (List.mem_cons_of_mem _ h)
          · exact .inl (by rw [List.mem_singleton.mp h]; simp)
        · rcases List.mem_append.mp h with h | h
          · exact .inl (List.mem_cons_of_mem _ h)
          · exact .inr (List.mem_singleton.mp h)
theorem nodup_snoc {n : Nat} {xs : List Nat} (h : xs.Nodup) (hn : n ∉ xs) : (xs ++ [n]).Nodup := List.nodup_append.mpr ⟨h, by simp, fun a ha b hb e => hn (by rw [← List.mem_singleton.mp hb, ← e]; exact ha)⟩
theorem hear_ok {room n : Nat} {xs : List Nat} {a : Bool} (h : xs.Nodup) (hl : xs.length ≤ room) (h0 : 0 < room) : (hearL room xs n a).Nodup ∧ (hearL room xs n a).length ≤ room := by
  unfold hearL
  by_cases hn : n ∈ xs
  · rw [if_pos hn]
    refine ⟨nodup_snoc (nodup_erase h) fun z => (h.mem_erase_iff.mp z).1 rfl, ?_⟩
    have hp : 0 < xs.length := List.length_pos_of_mem hn
    rw [List.length_append, List.length_erase_of_mem hn, List.length_singleton]; omega
  · rw [if_neg hn]
    by_cases hr : xs.length < room
    · rw [if_pos hr]
      exact ⟨nodup_snoc h hn, by rw [List.length_append, List.length_singleton]; omega⟩
    · rw [if_neg hr]
      cases xs with
      | nil => simp at hr; omega
      | cons x r =>
        have h1 := List.nodup_cons.mp h
        simp only [List.tail_cons, List.headD_cons]
        cases a with
        | true => exact ⟨nodup_snoc h1.2 h1.1, by simpa using hl⟩
        | false => exact ⟨nodup_snoc h1.2 fun z => hn (List.mem_cons_of_mem _ z), by simpa using hl⟩
theorem TabOk.hear {own wide room n : Nat} {S : Nat → Prop} {xss : List (List Nat)} {a : Nat → Bool} (t : TabOk own wide room S xss) (h0 : 0 < room) (hn : S n) : TabOk own wide room S (tabL own room xss n a) := by
  unfold tabL
  by_cases e : n = own
  · rw [if_pos e]; exact t
  · rw [if_neg e]
    refine ⟨by rw [List.length_set]; exact t.len, fun k xs hk => ?_⟩
    by_cases hs : stepN own n = k
    · subst hs
      have hlt : stepN own n < xss.length := by
        have := (List.getElem?_eq_some_iff.mp hk).1
        simpa using this
      rw [List.getElem?_set_self hlt] at hk
      cases hk
      obtain ⟨h1, h2, h3⟩ := t.at_ _ _ (List.getElem?_eq_getElem hlt)
      have eg : xss.getD (stepN own n) [] = xss[stepN own n] := by rw [List.getD_eq_getElem?_getD, List.getElem?_eq_getElem hlt]; rfl
      rw [eg]
      obtain ⟨a1, a2⟩ := hear_ok (n := n) (a := a (xss[stepN own n].headD 0)) h1 h2 h0
      refine ⟨a1, a2, fun x hx => ?_⟩
      rcases hear_mem hx h0 with z | z
      · exact h3 x z
      · rw [z]; exact ⟨e, rfl, hn⟩
    · rw [List.getElem?_set_ne hs] at hk
      exact t.at_ k xs hk
theorem TabOk.nil {own wide room : Nat} {S : Nat → Prop} : TabOk own wide room S (List.replicate wide []) := ⟨by simp, fun k xs hk => by
  rw [List.getElem?_replicate] at hk
  split at hk
  · cases hk; simp
  · cases hk⟩
theorem TabOk.nodup {own wide room : Nat} {S : Nat → Prop} {xss : List (List Nat)} (t : TabOk own wide room S xss) : xss.flatten.Nodup := by
  refine List.pairwise_flatten.mpr ⟨fun xs hx => ?_, ?_⟩
  · obtain ⟨k, hk⟩ := List.getElem?_of_mem hx
    exact (t.at_ k xs hk).1
  · refine List.pairwise_iff_getElem.mpr fun i j hi hj hij => ?_
    intro a b1 b c1 e
    have h1 := ((t.at_ i _ (List.getElem?_eq_getElem hi)).2.2 a b1).2.1
    have h2 := ((t.at_ j _ (List.getElem?_eq_getElem hj)).2.2 b c1).2.1
    rw [e] at h1; omega
theorem TabOk.mem {own wide room : Nat} {S : Nat → Prop} {xss : List (List Nat)} (t : TabOk own wide room S xss) {x : Nat} (h : x ∈ xss.flatten) : S x := by
  obtain ⟨xs, h1, h2⟩ := List.mem_flatten.mp h
  obtain ⟨k, hk⟩ := List.getElem?_of_mem h1
  exact ((t.at_ k xs hk).2.2 x h2).2.2
theorem TabOk.row {own wide room : Nat} {S : Nat → Prop} {xss : List (List Nat)} (t : TabOk own wide room S xss) : ∀ xs ∈ xss, xs.length ≤ room := fun xs h => by
  obtain ⟨k, hk⟩ := List.getElem?_of_mem h
  exact (t.at_ k xs hk).2.1
theorem TabOk.setL {own wide room k : Nat} {S : Nat → Prop} {xss : List (List Nat)} {ys : List Nat} (t : TabOk own wide room S xss) (h : ∀ xs, xss[k]? = some xs → ys.Nodup ∧ ys.length ≤ room ∧ ∀ x ∈ ys, x ≠ own ∧ stepN own x = k ∧ S x) : TabOk own wide room S (xss.set k ys) := by
  refine ⟨by rw [List.length_set]; exact t.len, fun j xs hj => ?_⟩
  by_cases e : k = j
  · subst e
    have hlt : k < xss.length := by
      have := (List.getElem?_eq_some_iff.mp hj).1
      simpa using this
    rw [List.getElem?_set_self hlt] at hj
    cases hj
    exact h _ (List.getElem?_eq_getElem hlt)
  · rw [List.getElem?_set_ne e] at hj
    exact t.at_ j xs hj
theorem TabOk.drop {own wide room n : Nat} {S : Nat → Prop} {xss : List (List Nat)} (t : TabOk own wide room S xss) : TabOk own wide room S (tabD own xss n) := by
  unfold tabD
  by_cases e : n = own
  · rw [if_pos e]; exact t
  · rw [if_neg e]
    refine t.setL fun xs hx => ?_
    have eg : xss.getD (stepN own n) [] = xs := by rw [List.getD_eq_getElem?_getD, hx]; rfl
    obtain ⟨h1, h2, h3⟩ := t.at_ _ _ hx
    rw [eg]
    exact ⟨h1.erase n, Nat.le_trans (List.length_erase_le ..) h2, fun x hx => h3 x (List.mem_of_mem_erase hx)⟩
end Nn
/-! towns, plainly -/
namespace Nn
open PySem L2
/-- a town: sizes, its houses with their tables' lines in the order of their coming, the silent ones -/
structure TM where
  wide : Nat
  room : Nat
  tabs : List (Nat × List (List Nat))
  hush : List Nat
namespace TM
def houses (m : TM) : List Nat := m.tabs.map (·.1)
def tab (m : TM) (h : Nat) : List (List Nat) := (m.tabs.lookup h).getD []
def aw (m : TM) (n : Nat) : Bool := decide (n ∈ m.houses) && !decide (n ∈ m.hush)
def setTab (m : TM) (h : Nat) (xss : List (List Nat)) : TM := { m with tabs := m.tabs.map fun e => if e.1 = h then (h, xss) else e }
def hears (m : TM) (h n : Nat) : TM := m.setTab h (tabL h m.room (m.tab h) n m.aw)
def drops (m : TM) (h n : Nat) : TM := m.setTab h (tabD h (m.tab h) n)
def keeps (m : TM) (h : Nat) : List Nat := sortU (m.tab h).flatten
def live (m : TM) : List Nat := (sortU m.houses).filter m.aw
inductive Reach (m : TM) (h : Nat) : Nat → Prop
  | self : Reach m h h
  | step {x y : Nat} : Reach m h x → y ∈ (m.tab x).flatten → m.aw y = true → Reach m h y
open Classical in
/-- all to which one comes -/
noncomputable def comeTo (m : TM) (h : Nat) : List Nat := (sortU m.houses).filter fun x => decide (m.Reach h x)
def meet (h : Nat) (m : TM) (o : Nat) : TM := (m.hears h o).hears o h
noncomputable def others (m : TM) (h door : Nat) : List Nat := (m.comeTo door).filter fun x => !decide (x = h)
noncomputable def visit (m : TM) (h door : Nat) : TM := (m.others h door).foldl (meet h) m
def add (m : TM) (n : Nat) : TM := { m with tabs := m.tabs ++ [(n, List.replicate m.wide [])] }
def cut (m : TM) (n : Nat) : TM := { m with tabs := m.tabs.filter fun e => !decide (e.1 = n), hush := m.hush.filter fun x => !decide (x = n) }
def hushed (m : TM) (n : Nat) : TM := if n ∈ m.hush then m else { m with hush := m.hush ++ [n] }
def woken (m : TM) (n : Nat) : TM := { m with hush := m.hush.filter fun x => !decide (x = n) }
variable {m : TM} {h n x : Nat} {xss : List (List Nat)}
theorem setTab_houses : (m.setTab h xss).houses = m.houses := by
  unfold houses setTab
  rw [List.map_map]
  refine List.map_congr_left fun e _ => ?_
  show (if e.1 = h then (h, xss) else e).1 = e.1
  by_cases q : e.1 = h
  · rw [if_pos q, q]
  · rw [if_neg q]
theorem setTab_wide : (m.setTab h xss).wide = m.wide := rfl
theorem setTab_room : (m.setTab h xss).room = m.room := rfl
theorem setTab_hush : (m.setTab h xss).hush = m.hush := rfl
theorem setTab_aw : (m.setTab h xss).aw = m.aw := funext fun n => by
  unfold aw; rw [setTab_houses, setTab_hush]
theorem lookup_ne {k : Nat} {ys : List (List Nat)} {r : List (Nat × List (List Nat))} (e : x ≠ k) : ((k, ys) :: r).lookup x = r.lookup x := by
  rw [List.lookup_cons]
  have e3 : (x == k) = false := by simpa using e
  rw [e3]
theorem lookup_eq {k : Nat} {ys : List (List Nat)} {r : List (Nat × List (List Nat))} : ((k, ys) :: r).lookup k = some ys := by
  rw [List.lookup_cons]
  have e3 : (k == k) = true := by simp
  rw [e3]
theorem lookup_map_set {l : List (Nat × List (List Nat))} : (l.map fun e => if e.1 = h then (h, xss) else e).lookup x = if x = h then (if h ∈ l.map (·.1) then some xss else none) else l.lookup x := by
  induction l with
  | nil => simp
  | cons e r ih =>
    obtain ⟨k, ys⟩ := e
    rw [List.map_cons]
    by_cases q : k = h
    · subst q
      rw [if_pos rfl]
      by_cases e2 : x = k
      · subst e2; rw [lookup_eq]; simp
      · rw [lookup_ne e2, ih, if_neg e2, if_neg e2, lookup_ne e2]
    · rw [if_neg q]
      by_cases e2 : x = k
      · subst e2; rw [lookup_eq, if_neg q, lookup_eq]
      · rw [lookup_ne e2, ih, lookup_ne e2]
        by_cases e4 : x = h
        · rw [if_pos e4, if_pos e4]
          have e5 : (h ∈ ((k, ys) :: r).map (·.1)) ↔ h ∈ r.map (·.1) := by
            rw [List.map_cons, List.mem_cons]
            exact ⟨fun z => z.elim (fun z => absurd z.symm q) id, .inr⟩
          by_cases e6 : h ∈ r.map (·.1)
          · rw [if_pos e6, if_pos (e5.mpr e6)]
          · rw [if_neg e6, if_neg fun z => e6 (e5.mp z)]
        · rw [if_neg e4, if_neg e4]
theorem setTab_tab : (m.setTab h xss).tab x = if x = h ∧ h ∈ m.houses then xss else m.tab x := by
  unfold tab setTab
  show ((m.tabs.map fun e => if e.1 = h then (h, xss) else e).lookup x).getD [] = _
  rw [lookup_map_set]
  by_cases e : x = h
  · rw [if_pos e]
    by_cases q : h ∈ m.tabs.map (·.1)
    · rw [if_pos q, if_pos ⟨e, q⟩]; rfl
    · rw [if_neg q, if_neg fun z => q z.2]
      have : m.tabs.lookup x = none := by
        rw [List.lookup_eq_none_iff]
        intro p hp
        simp only [bne_iff_ne, ne_eq, beq_iff_eq]
        intro z
        exact q (List.mem_map.mpr ⟨p, hp, by rw [← z, e]⟩)
      rw [this]
  · rw [if_neg e, if_neg fun z => e z.1]
theorem lookup_mem {l : List (Nat × List (List Nat))} (nd : (l.map (·.1)).Nodup) {k : Nat} {ys : List (List Nat)} (hm : (k, ys) ∈ l) : l.lookup k = some ys := by
  induction l with
  | nil => cases hm
  | cons e r ih =>
    obtain ⟨k', ys'⟩ := e
    rw [List.map_cons] at nd
    have nd := List.nodup_cons.mp nd
    rw [List.lookup_cons]
    rcases List.mem_cons.mp hm with z | z
    · cases z
      have e3 : (k == k) = true := by simp
      rw [e3]
    · have ne : k ≠ k' := fun q => nd.1 (by rw [← q]; exact List.mem_map.mpr ⟨_, z, rfl⟩)
      have e3 : (k == k') = false := by simpa using ne
      rw [e3]
      exact ih nd.2 z
theorem tab_mem (nd : m.houses.Nodup) {k : Nat} {ys : List (List Nat)} (hm : (k, ys) ∈ m.tabs) : m.tab k = ys := by
  unfold tab; rw [lookup_mem nd hm]; rfl
theorem mem_tab (hm : h ∈ m.houses) (nd : m.houses.Nodup) : (h, m.tab h) ∈ m.tabs := by
  obtain ⟨e, he, rfl⟩ := List.mem_map.mp hm
  have q := tab_mem nd (m := m) (k := e.1) (ys := e.2) he
  rw [q]; exact he
/-- well kept; all names ever are among N -/
structure Ok (N : List Nat) (m : TM) : Prop where
  w0 : 0 < m.wide
  w1 : m.wide ≤ 60
  r0 : 0 < m.room
  r1 : m.room ≤ 8
  nb : ∀ x ∈ N, x < 2 ^ m.wide
  nl : N.length < 64
  hN : ∀ x ∈ m.houses, x ∈ N
  nd : m.houses.Nodup
  hnd : m.hush.Nodup
  hh : ∀ x ∈ m.hush, x ∈ m.houses
  at_ : ∀ h xss, (h, xss) ∈ m.tabs → TabOk h m.wide m.room (· ∈ N) xss
variable {N : List Nat}
theorem Ok.tabOk (k : Ok N m) (hm : h ∈ m.houses) : TabOk h m.wide m.room (· ∈ N) (m.tab h) := k.at_ _ _ (mem_tab hm k.nd)
theorem Ok.setTab (k : Ok N m) (t : h ∈ m.houses → TabOk h m.wide m.room (· ∈ N) xss) : Ok N (m.setTab h xss) := by
  refine ⟨k.w0, k.w1, k.r0, k.r1, k.nb, k.nl, by rw [setTab_houses]; exact k.hN, by rw [setTab_houses]; exact k.nd, k.hnd, by rw [setTab_houses]; exact k.hh, fun h' ys hm => ?_⟩
  obtain ⟨e, he, eq⟩ := List.mem_map.mp hm
  by_cases q : e.1 = h
  · rw [if_pos q] at eq
    cases eq
    exact t (by rw [← q]; exact List.mem_map.mpr ⟨e, he, rfl⟩)
  · rw [if_neg q] at eq
    subst eq
    exact k.at_ _ _ he
theorem Ok.hears (k : Ok N m) (hn : n ∈ N) : Ok N (m.hears h n) := k.setTab fun hm => (k.tabOk hm).hear k.r0 hn
theorem Ok.drops (k : Ok N m) : Ok N (m.drops h n) := k.setTab fun hm => (k.tabOk hm).drop
theorem hears_houses : (m.hears h n).houses = m.houses := setTab_houses
theorem hears_aw : (m.hears h n).aw = m.aw := setTab_aw
theorem hears_wide : (m.hears h n).wide = m.wide := rfl
theorem hears_room : (m.hears h n).room = m.room := rfl
theorem hears_hush : (m.hears h n).hush = m.hush := rfl
theorem meet_houses {o : Nat} : (meet h m o).houses = m.houses := by unfold meet; rw [hears_houses, hears_houses]
theorem meet_aw {o : Nat} : (meet h m o).aw = m.aw := by unfold meet; rw [hears_aw, hears_aw]
theorem Ok.meet {o : Nat} (k : Ok N m) (hn : h ∈ N) (ho : o ∈ N) : Ok N (meet h m o) := (k.hears ho).hears hn
theorem fold_houses : ∀ {l : List Nat} {m : TM}, (l.foldl (TM.meet h) m).houses = m.houses
  | [], _ => rfl
  | o :: r, m => by rw [List.foldl_cons, fold_houses (l := r), meet_houses]
theorem fold_aw : ∀ {l : List Nat} {m : TM}, (l.foldl (TM.meet h) m).aw = m.aw
  | [], _ => rfl
  | o :: r, m => by rw [List.foldl_cons, fold_aw (l := r), meet_aw]
theorem fold_sizes : ∀ {l : List Nat} {m : TM}, (l.foldl (TM.meet h) m).wide = m.wide ∧ (l.foldl (TM.meet h) m).room = m.room ∧ (l.foldl (TM.meet h) m).hush = m.hush
  | [], _ => ⟨rfl, rfl, rfl⟩
  | o :: r, m => by rw [List.foldl_cons]; exact fold_sizes (l := r)
theorem Ok.fold : ∀ {l : List Nat} {m : TM}, Ok N m → h ∈ N → (∀ o ∈ l, o ∈ N) → Ok N (l.foldl (TM.meet h) m)
  | [], _, k, _, _ => k
  | o :: r, m, k, hn, ho => by
    rw [List.foldl_cons]
    exact Ok.fold (l := r) (k.meet hn (ho o (List.mem_cons_self ..))) hn fun x hx => ho x (List.mem_cons_of_mem _ hx)
open Classical in
theorem mem_comeTo : x ∈ m.comeTo h ↔ x ∈ m.houses ∧ m.Reach h x := by
  unfold comeTo
  rw [List.mem_filter, mem_sortU, decide_eq_true_iff]
theorem comeTo_sorted : (m.comeTo h).Pairwise (· < ·) := (sortU_sorted _).filter _
theorem aw_house (e : m.aw x = true) : x ∈ m.houses := by
  unfold aw at e
  rw [Bool.and_eq_true] at e
  exact of_decide_eq_true e.1
theorem Reach.house (r : m.Reach h x) (hm : h ∈ m.houses) : x ∈ m.houses := by
  cases r with
  | self => exact hm
  | step _ _ e => exact aw_house e
/-- a closed list of those come to holds them all -/
theorem Reach.closed {l : List Nat} (r : m.Reach h x) (h0 : h ∈ l) (hc : ∀ y ∈ l, ∀ z ∈ (m.tab y).flatten, m.aw z = true → z ∈ l) : x ∈ l := by
  induction r with
  | self => exact h0
  | step _ hy e ih => exact hc _ ih _ hy e
theorem comeTo_eq {l : List Nat} (hm : h ∈ m.houses) (h0 : h ∈ l) (hr : ∀ x ∈ l, m.Reach h x) (hc : ∀ y ∈ l, ∀ z ∈ (m.tab y).flatten, m.aw z = true → z ∈ l) : sortU l = m.comeTo h :=
  rising_eq (sortU_sorted _) comeTo_sorted fun z => by
    rw [mem_sortU, mem_comeTo]
    exact ⟨fun q => ⟨(hr z q).house hm, hr z q⟩, fun q => q.2.closed h0 hc⟩
theorem mem_live : x ∈ m.live ↔ m.aw x = true := by
  unfold live
  rw [List.mem_filter, mem_sortU]
  exact ⟨fun q => q.2, fun q => ⟨aw_house q, q⟩⟩
theorem mem_keeps : x ∈ m.keeps h ↔ x ∈ (m.tab h).flatten := mem_sortU
theorem Ok.keeps_len (k : Ok N m) (hm : h ∈ m.houses) : (m.tab h).flatten.length < 64 :=
  Nat.lt_of_le_of_lt (nodup_len (k.tabOk hm).nodup fun _ q => (k.tabOk hm).mem q) k.nl
theorem Ok.houses_len (k : Ok N m) : m.houses.length < 64 := Nat.lt_of_le_of_lt (nodup_len k.nd k.hN) k.nl
theorem add_houses : (m.add n).houses = m.houses ++ [n] := by unfold add houses; rw [List.map_append]; rfl
theorem Ok.add (k : Ok N m) (hn : n ∉ m.houses) (hN : n ∈ N) : Ok N (m.add n) := by
  refine ⟨k.w0, k.w1, k.r0, k.r1, k.nb, k.nl, fun x hx => ?_, by rw [add_houses]; exact nd_snoc k.nd hn, k.hnd, fun x hx => by rw [add_houses]; exact List.mem_append.mpr (.inl (k.hh x hx)), fun h xss hm => ?_⟩
  · rw [add_houses] at hx
    rcases List.mem_append.mp hx with q | q
    · exact k.hN x q
    · rw [List.mem_singleton.mp q]; exact hN
  · rcases List.mem_append.mp hm with q | q
    · exact k.at_ _ _ q
    · cases List.mem_singleton.mp q
      exact TabOk.nil
theorem Ok.more {N' : List Nat} (k : Ok N m) (hs : ∀ x ∈ N, x ∈ N') (nb : ∀ x ∈ N', x < 2 ^ m.wide) (nl : N'.length < 64) : Ok N' m :=
  ⟨k.w0, k.w1, k.r0, k.r1, nb, nl, fun x hx => hs x (k.hN x hx), k.nd, k.hnd, k.hh, fun h xss hm => ⟨(k.at_ h xss hm).len, fun i xs e => by
    obtain ⟨a, b, c⟩ := (k.at_ h xss hm).at_ i xs e
    exact ⟨a, b, fun x hx => ⟨(c x hx).1, (c x hx).2.1, hs x (c x hx).2.2⟩⟩⟩⟩
end TM
end Nn
/-! asks and ways, plainly -/
namespace Nn
abbrev Tell := Nat → Nat → Nat → Option (List Nat)
/-- the so many nearest of what was seen and not found silent -/
def standN (g room : Nat) (seen quiet : List Nat) : List Nat := (byN g (seen.filter fun x => !decide (x ∈ quiet))).take room
structure AskSt where
  row : List (Nat × Option (List Nat))
  seen : List Nat
  quiet : List Nat
namespace AskSt
def done (s : AskSt) : List Nat := s.row.map (·.1)
def left (g room : Nat) (s : AskSt) : List Nat := (standN g room s.seen s.quiet).filter fun x => !decide (x ∈ s.done)
def add (start h : Nat) (s : AskSt) : Option (List Nat) → AskSt
  | none => ⟨s.row ++ [(h, none)], s.seen, s.quiet ++ [h]⟩
  | some l => ⟨s.row ++ [(h, some l)], s.seen ++ l.filter fun x => !decide (x = start), s.quiet⟩
def first (t : Nat → Option (List Nat)) (start : Nat) : AskSt := ⟨[(start, t start)], ((t start).getD []).filter fun x => !decide (x = start), []⟩
def nextOf (t : Nat → Option (List Nat)) (start : Nat) (s : AskSt) : List Nat → AskSt
  | [] => s
  | h :: _ => s.add start h (t h)
/-- so many asked behind the start -/
def run (t : Nat → Option (List Nat)) (start g room : Nat) : Nat → AskSt
  | 0 => first t start
  | k + 1 => nextOf t start (run t start g room k) ((run t start g room k).left g room)
structure Ok (t : Nat → Option (List Nat)) (start : Nat) (N : List Nat) (s : AskSt) : Prop where
  nd : s.done.Nodup
  dn : ∀ x ∈ s.done, x = start ∨ x ∈ N
  st : start ∈ s.done
  sn : ∀ x ∈ s.seen, x ∈ N ∧ x ≠ start
  qd : ∀ x, x ∈ s.quiet ↔ x ∈ s.done ∧ t x = none
  ql : s.quiet.length ≤ s.row.length
  sl : s.seen.length ≤ 100 * s.row.length
  rt : ∀ e ∈ s.row, e.2 = t e.1
  sd : ∀ x ∈ s.done, x = start ∨ x ∈ s.seen
  hd : s.row.head? = some (start, t start)
  tl : ∀ y ∈ s.done, ∀ l, t y = some l → ∀ x ∈ l, x = start ∨ x ∈ s.seen
  sf : ∀ x ∈ s.seen, ∃ y ∈ s.done, ∃ l, t y = some l ∧ x ∈ l
variable {t : Nat → Option (List Nat)} {start g room h : Nat} {N : List Nat} {s : AskSt}
theorem mem_stand {x : Nat} {seen quiet : List Nat} (hx : x ∈ standN g room seen quiet) : x ∈ seen ∧ x ∉ quiet := by
  have q := List.mem_filter.mp (mem_byN.mp (List.mem_of_mem_take hx))
  exact ⟨q.1, by simpa using q.2⟩
theorem mem_left {x : Nat} (hx : x ∈ s.left g room) : x ∈ s.seen ∧ x ∉ s.quiet ∧ x ∉ s.done := by
  have q := List.mem_filter.mp hx
  obtain ⟨a, b⟩ := mem_stand q.1
  exact ⟨a, b, by simpa using q.2⟩
theorem Ok.len (k : s.Ok t start N) : s.row.length ≤ N.length + 1 := by
  have q := nodup_len k.nd (b := start :: N) fun x hx => (k.dn x hx).elim (fun e => by rw [e]; simp) fun e => List.mem_cons_of_mem _ e
  unfold done at q
  rw [List.length_map, List.length_cons] at q
  exact q
theorem nd_snoc' {n : Nat} {xs : List Nat} (h : xs.Nodup) (hn : n ∉ xs) : (xs ++ [n]).Nodup := List.nodup_append.mpr ⟨h, by simp, fun a ha b hb e => hn (by rw [← List.mem_singleton.mp hb, ← e]; exact ha)⟩
theorem add_done {o : Option (List Nat)} : (s.add start h o).done = s.done ++ [h] := by
  cases o <;> simp [add, done]
theorem Ok.first (h0 : t start ≠ none) (hl : ∀ h l, t h = some l → l.length ≤ 100 ∧ ∀ x ∈ l, x ∈ N) : (AskSt.first t start).Ok t start N := by
  obtain ⟨l, e⟩ : ∃ l, t start = some l := by
    cases h : t start with
    | none => exact absurd h h0
    | some l => exact ⟨l, rfl⟩
  obtain ⟨q1, q2⟩ := hl _ _ e
  unfold AskSt.first
  rw [e]
  have hsub : ∀ x ∈ l.filter (fun x => !decide (x = start)), x ∈ l ∧ x ≠ start := fun x hx => by
    have q := List.mem_filter.mp hx
    exact ⟨q.1, by simpa using q.2⟩
  refine ⟨by simp [done], by simp [done], by simp [done], fun x hx => ⟨q2 x (hsub x hx).1, (hsub x hx).2⟩, fun x => ?_, by simp, ?_, by simp [e], by simp [done], by simp [e], fun y hy l' e' x hx => ?_, fun x hx => ⟨start, by simp [done], l, e, (hsub x hx).1⟩⟩
  · constructor
    · intro z; cases z
    · rintro ⟨z, z2⟩
      rw [done, List.map_cons, List.map_nil, List.mem_singleton] at z
      rw [z] at z2
      exact absurd z2 h0
  · show (l.filter _).length ≤ 100 * 1
    exact Nat.le_trans (List.length_filter_le _ _) (by omega)
  · simp [done] at hy
    subst hy
    rw [e] at e'
    cases e'
    by_cases z : x = y
    · exact .inl z
    · exact .inr (List.mem_filter.mpr ⟨hx, by simp [z]⟩)
theorem Ok.add (k : s.Ok t start N) (hl : ∀ h l, t h = some l → l.length ≤ 100 ∧ ∀ x ∈ l, x ∈ N) (hh : h ∈ s.left g room) : (s.add start h (t h)).Ok t start N := by
  obtain ⟨h1, h2, h3⟩ := mem_left hh
  have nd : (s.add start h (t h)).done.Nodup := by rw [add_done]; exact nd_snoc' k.nd h3
  have dn : ∀ x ∈ (s.add start h (t h)).done, x = start ∨ x ∈ N := fun x hx => by
    rw [add_done] at hx
    rcases List.mem_append.mp hx with z | z
    · exact k.dn x z
    · rw [List.mem_singleton.mp z]; exact .inr (k.sn h h1).1
  have st : start ∈ (s.add start h (t h)).done := by rw [add_done]; exact List.mem_append.mpr (.inl k.st)
  have hne : s.row ≠ [] := fun z => by
    have q := k.st
    unfold done at q
    rw [z] at q; cases q
  have hdd : ∀ o, (s.add start h o).row.head? = some (start, t start) := fun o => by
    have e : (s.add start h o).row = s.row ++ [(h, o)] := by cases o <;> rfl
    rw [e, ← k.hd]
    cases hr : s.row with
    | nil => exact absurd hr hne
    | cons a b => rfl
  have mdn : ∀ o x, x ∈ (s.add start h o).done ↔ x ∈ s.done ∨ x = h := fun o x => by rw [add_done, List.mem_append, List.mem_singleton]
  cases e : t h with
  | none =>
    rw [e] at nd dn st
    refine ⟨nd, dn, st, k.sn, fun x => ?_, ?_, ?_, fun y hy => ?_, fun x hx => ?_, hdd _, fun y hy l' e' x hx => ?_, fun x hx => ?_⟩
    · rw [mdn]
      show x ∈ s.quiet ++ [h] ↔ _
      rw [List.mem_append, List.mem_singleton, k.qd]
      constructor
      · rintro (z | z)
        · exact ⟨.inl z.1, z.2⟩
        · exact ⟨.inr z, by rw [z]; exact e⟩
      · rintro ⟨z | z, z2⟩
        · exact .inl ⟨z, z2⟩
        · exact .inr z
    · show (s.quiet ++ [h]).length ≤ (s.row ++ [(h, none)]).length
      have := k.ql
      simp only [List.length_append, List.length_cons, List.length_nil]; omega
    · show s.seen.length ≤ 100 * (s.row ++ [(h, none)]).length
      have := k.sl
      simp only [List.length_append, List.length_cons, List.length_nil]; omega
    · rcases List.mem_append.mp hy with z | z
      · exact k.rt y z
      · rw [List.mem_singleton.mp z]; exact e.symm
    · rcases (mdn _ x).mp hx with z | z
      · exact k.sd x z
      · rw [z]; exact .inr h1
    · rcases (mdn _ y).mp hy with z | z
      · exact k.tl y z l' e' x hx
      · rw [z, e] at e'; cases e'
    · obtain ⟨y, hy, q⟩ := k.sf x hx
      exact ⟨y, (mdn _ y).mpr (.inl hy), q⟩
  | some l =>
    rw [e] at nd dn st
    obtain ⟨q1, q2⟩ := hl _ _ e
    have hsub : ∀ x ∈ l.filter (fun x => !decide (x = start)), x ∈ l ∧ x ≠ start := fun x hx => by
      have q := List.mem_filter.mp hx
      exact ⟨q.1, by simpa using q.2⟩
    refine ⟨nd, dn, st, fun x hx => ?_, fun x => ?_, ?_, ?_, fun y hy => ?_, fun x hx => ?_, hdd _, fun y hy l' e' x hx => ?_, fun x hx => ?_⟩
    · rcases List.mem_append.mp hx with z | z
      · exact k.sn x z
      · exact ⟨q2 x (hsub x z).1, (hsub x z).2⟩
    · rw [mdn]
      show x ∈ s.quiet ↔ _
      rw [k.qd]
      constructor
      · rintro ⟨a, b⟩; exact ⟨.inl a, b⟩
      · rintro ⟨z | z, z2⟩
        · exact ⟨z, z2⟩
        · rw [z, e] at z2; cases z2
    · show s.quiet.length ≤ (s.row ++ [(h, some l)]).length
      have := k.ql
      simp only [List.length_append, List.length_cons, List.length_nil]; omega
    · show (s.seen ++ l.filter _).length ≤ 100 * (s.row ++ [(h, some l)]).length
      have := k.sl
      have := List.length_filter_le (fun x => !decide (x = start)) l
      simp only [List.length_append, List.length_cons, List.length_nil]; omega
    · rcases List.mem_append.mp hy with z | z
      · exact k.rt y z
      · rw [List.mem_singleton.mp z]; exact e.symm
    · rcases (mdn _ x).mp hx with z | z
      · exact (k.sd x z).imp id fun z => List.mem_append.mpr (.inl z)
      · rw [z]; exact .inr (List.mem_append.mpr (.inl h1))
    · rcases (mdn _ y).mp hy with z | z
      · exact (k.tl y z l' e' x hx).imp id fun z => List.mem_append.mpr (.inl z)
      · rw [z, e] at e'; cases e'
        by_cases z : x = start
        · exact .inl z
        · exact .inr (List.mem_append.mpr (.inr (List.mem_filter.mpr ⟨hx, by simp [z]⟩)))
    · rcases List.mem_append.mp hx with z | z
      · obtain ⟨y, hy, q⟩ := k.sf x z
        exact ⟨y, (mdn _ y).mpr (.inl hy), q⟩
      · exact ⟨h, (mdn _ h).mpr (.inr rfl), l, e, (hsub x z).1⟩
theorem run_ok {g room : Nat} (h0 : t start ≠ none) (hl : ∀ h l, t h = some l → l.length ≤ 100 ∧ ∀ x ∈ l, x ∈ N) : ∀ k, (run t start g room k).Ok t start N
  | 0 => Ok.first h0 hl
  | k + 1 => by
    have ih := run_ok (g := g) (room := room) h0 hl k
    show (nextOf t start (run t start g room k) ((run t start g room k).left g room)).Ok t start N
    cases e : (run t start g room k).left g room with
    | nil => exact ih
    | cons x r => exact ih.add (g := g) (room := room) hl (by rw [e]; simp)
theorem run_next {k : Nat} {x : Nat} {r : List Nat} (h : (run t start g room k).left g room = x :: r) : run t start g room (k + 1) = (run t start g room k).add start x (t x) := by
  show nextOf t start (run t start g room k) ((run t start g room k).left g room) = _
  rw [h]; rfl
theorem run_end {k : Nat} (h : (run t start g room k).left g room = []) : ∀ j, run t start g room (k + j) = run t start g room k
  | 0 => rfl
  | j + 1 => by
    have ih := run_end h j
    show nextOf t start (run t start g room (k + j)) ((run t start g room (k + j)).left g room) = _
    rw [ih, h]; rfl
end AskSt
/-- the end of an ask -/
@[irreducible] def askEnd (t : Nat → Option (List Nat)) (start g room : Nat) : AskSt := AskSt.run t start g room 64
theorem askEnd_eq {t : Nat → Option (List Nat)} {start g room k : Nat} (hk : k ≤ 64) (h : (AskSt.run t start g room k).left g room = []) : askEnd t start g room = AskSt.run t start g room k := by
  obtain ⟨j, e⟩ : ∃ j, 64 = k + j := ⟨64 - k, by omega⟩
  unfold askEnd
  rw [e]
  exact AskSt.run_end h j
theorem askEnd_ok {t : Nat → Option (List Nat)} {start g room : Nat} {N : List Nat} (h0 : t start ≠ none) (hl : ∀ h l, t h = some l → l.length ≤ 100 ∧ ∀ x ∈ l, x ∈ N) : (askEnd t start g room).Ok t start N := by
  unfold askEnd
  exact AskSt.run_ok h0 hl 64
def askFound (t : Nat → Option (List Nat)) (start g room : Nat) : List Nat := standN g room (askEnd t start g room).seen (askEnd t start g room).quiet
theorem AskSt.run_len {t : Nat → Option (List Nat)} {start g room : Nat} : ∀ {k : Nat}, (AskSt.run t start g room k).left g room ≠ [] → (AskSt.run t start g room k).row.length = k + 1
  | 0, _ => rfl
  | k + 1, h => by
    cases e : (AskSt.run t start g room k).left g room with
    | nil =>
      have q := AskSt.run_end e 1
      rw [q] at h
      exact absurd e h
    | cons x r =>
      have ih := AskSt.run_len (k := k) (by rw [e]; simp)
      rw [AskSt.run_next e]
      have z : ∀ o, ((AskSt.run t start g room k).add start x o).row.length = (AskSt.run t start g room k).row.length + 1 := fun o => by cases o <;> simp [AskSt.add]
      rw [z, ih]
theorem askEnd_left {t : Nat → Option (List Nat)} {start g room : Nat} {N : List Nat} (h0 : t start ≠ none) (hl : ∀ h l, t h = some l → l.length ≤ 100 ∧ ∀ x ∈ l, x ∈ N) (hN : N.length < 64) : (askEnd t start g room).left g room = [] := by
  refine Classical.byContradiction fun z => ?_
  unfold askEnd at z
  have q := AskSt.run_len (k := 64) z
  have := (AskSt.run_ok (start := start) (g := g) (room := room) h0 hl 64).len
  omega
/-! ways -/
def onwN (t : Tell) (x g : Nat) : Option Nat := (byN g ((t x g x).getD [])).find? fun n => (t n g x).isSome
def upTo (p : Nat → Bool) : List Nat → List Nat
  | [] => []
  | x :: r => if p x = true then [x] else x :: upTo p r
def onwC (t : Tell) (x g : Nat) : List (Nat × Nat × Nat) := (x, g, x) :: (upTo (fun n => (t n g x).isSome) (byN g ((t x g x).getD []))).map fun n => (n, g, x)
theorem upTo_hit {p : Nat → Bool} : ∀ {l : List Nat} {i : Nat} (hi : i < l.length), (∀ x ∈ l.take i, p x = false) → p l[i] = true → upTo p l = l.take (i + 1) ∧ l.find? p = some l[i]
  | [], i, hi, _, _ => absurd hi (Nat.not_lt_zero _)
  | x :: r, 0, _, _, h => by
    have h : p x = true := h
    refine ⟨?_, ?_⟩
    · unfold upTo; rw [if_pos h]; rfl
    · rw [List.find?_cons_of_pos h]; rfl
  | x :: r, i + 1, hi, h0, h => by
    have hx : p x = false := h0 x (by simp)
    have hi' : i < r.length := by simpa using hi
    obtain ⟨a, b⟩ := upTo_hit (l := r) (i := i) hi' (fun y hy => h0 y (by simp [hy])) h
    refine ⟨?_, ?_⟩
    · unfold upTo; rw [if_neg (by simp [hx]), a]; rfl
    · rw [List.find?_cons_of_neg (by simp [hx]), b]; rfl
theorem upTo_no {p : Nat → Bool} : ∀ {l : List Nat}, (∀ x ∈ l, p x = false) → upTo p l = l ∧ l.find? p = none
  | [], _ => ⟨rfl, rfl⟩
  | x :: r, h => by
    have hx : p x = false := h x (by simp)
    obtain ⟨a, b⟩ := upTo_no (l := r) fun y hy => h y (by simp [hy])
    exact ⟨by unfold upTo; rw [if_neg (by simp [hx]), a], by rw [List.find?_cons_of_neg (by simp [hx]), b]⟩
def wayN (t : Tell) (g x : Nat) : List Nat :=
  match onwN t x g with
  | none => [x]
  | some y => if g ^^^ y < g ^^^ x then x :: wayN t g y else [x]
termination_by g ^^^ x
def wayC (t : Tell) (g x : Nat) : List (Nat × Nat × Nat) := (wayN t g x).flatMap fun y => onwC t y g
theorem wayN_none {t : Tell} {g x : Nat} (h : onwN t x g = none) : wayN t g x = [x] := by
  rw [wayN, h]
theorem wayN_far {t : Tell} {g x y : Nat} (h : onwN t x g = some y) (h2 : ¬ g ^^^ y < g ^^^ x) : wayN t g x = [x] := by
  rw [wayN, h]
  simp only [if_neg h2]
theorem wayN_on {t : Tell} {g x y : Nat} (h : onwN t x g = some y) (h2 : g ^^^ y < g ^^^ x) : wayN t g x = x :: wayN t g y := by
  rw [wayN, h]
  simp only [if_pos h2]
theorem onwN_mem {t : Tell} {x g y : Nat} (h : onwN t x g = some y) : (∃ l, t x g x = some l ∧ y ∈ l) ∧ (t y g x).isSome = true := by
  unfold onwN at h
  have h1 := List.mem_of_find?_eq_some h
  have h2 := List.find?_some h
  refine ⟨?_, h2⟩
  have h1 := mem_byN.mp h1
  cases e : t x g x with
  | none => rw [e] at h1; cases h1
  | some l => rw [e] at h1; exact ⟨l, rfl, h1⟩
end Nn
/-! functions that tell what houses tell; ways by them -/
namespace Nn
open PySem L2
section
variable {P : Program} {w : World} {K : PySem.W.Frag} {mg : Str → Option Value} {base : Heap} {H H' : Hp} {Q : VK} {E : XK}
/-- a function's words and promise -/
structure Tel (P : Program) (w : World) (K : PySem.W.Frag) (mg : Str → Option Value) (base : Heap) where
  st : Stmt
  name : Str
  qual : Str
  ps : List Str
  fr : List Str
  sp : List (Option V) → Sp
  ok : ∀ (cl : List (Str × Addr)) (cd f : Addr), NdefX.NOk P w K mg base CX0 5 f (NdefX.NF.of st name qual cl cd) ps fr sp
def AnsV (K : PySem.W.Frag) (H : Hp) (v : V) : Option (List Nat) → Prop
  | none => v = .non
  | some l => ∃ p, v = .ref p ∧ SqL K H p (l.map nV)
theorem AnsV.ex {v : V} {o : Option (List Nat)} (e : Ex H H') (a : AnsV K H v o) : AnsV K H' v o := by
  cases o with
  | none => exact a
  | some l => obtain ⟨p, h1, h2⟩ := a; exact ⟨p, h1, e.ls h2⟩
/-- the function f stands, and tells -/
structure TelAt (Z : Tel P w K mg base) (cl : List (Str × Addr)) (ws : List (Option V)) (f : Addr) where
  cd : Addr
  I : Hp → List (Nat × Nat × Nat) → Prop
  FF : Addr → Prop
  S : Addr → Prop
  tell : Tell
  N : List Nat
  fn : ∀ {H : Hp} {cs : List (Nat × Nat × Nat)}, I H cs → H f = some (NdefX.FnO f (NdefX.NF.of Z.st Z.name Z.qual cl cd)) ∧ H cd = some (LamX.CodeO cd (NdefX.NF.of Z.st Z.name Z.qual cl cd).qual)
  fr : ∀ {H H' : Hp} {R : Addr → Prop} {cs : List (Nat × Nat × Nat)}, I H cs → Fr R H H' → (∀ a, R a → ¬ FF a ∧ ∃ xs, H a = some (.lst xs)) → I H' cs
  sub : ∀ a, S a → FF a
  live : ∀ {H : Hp} {cs : List (Nat × Nat × Nat)} {a : Addr}, I H cs → FF a → H a ≠ none
  nl : N.length < 63
  tl : ∀ h g a l, tell h g a = some l → l.length ≤ 100 ∧ ∀ x ∈ l, x ∈ N
  sil : ∀ h g a g' a', (tell h g a).isSome = (tell h g' a').isSome
  say : ∀ {H : Hp} {cs : List (Nat × Nat × Nat)} {h g a : Nat} {Q : VK} {E : XK}, I H cs → cs.length ≤ 1000000 → (h ∈ N ∨ tell h g a ≠ none) → (∀ v H', Fr S H H' → I H' (cs ++ [(h, g, a)]) → AnsV K H' v (tell h g a) → Q v H') → Z.sp ws [.int h, .int g, .int a] H Q E
variable {Z : Tel P w K mg base} {cl : List (Str × Addr)} {ws : List (Option V)} {f : Addr}
theorem TelAt.exI (t : TelAt Z cl ws f) {cs : List (Nat × Nat × Nat)} (h : t.I H cs) (e : Ex H H') : t.I H' cs := t.fr h e fun _ z => z.elim
theorem TelAt.mut (t : TelAt Z cl ws f) {cs : List (Nat × Nat × Nat)} {a : Addr} {xs : List V} {o : HO} (h : t.I H cs) (ha : H a = some (.lst xs)) (n : ¬ t.FF a) : t.I (upd H a o) cs :=
  t.fr h (Fr.upd1 (o := o) ha) fun b z => by rw [z]; exact ⟨n, xs, ha⟩
theorem Fr.mut {S : Addr → Prop} {H H' : Hp} {p : Addr} {o u : HO} (e : Fr S H H') (h : H p = none) (h' : H' p = some u) (hu : NX u := by trivial) : Fr S H (upd H' p o) :=
  have b := Fr.upd1 (o := o) h' hu
  ⟨fun x o1 e1 n s => b.keep x o1 (e.keep x o1 e1 n s) n fun z => (by rw [z, h] at e1; cases e1), fun P t => b.tab P (e.tab P t), fun x e1 => e.back x (b.back x e1)⟩
/-- what is new to H0 is none of the function's own -/
theorem TelAt.new (t : TelAt Z cl ws f) {cs : List (Nat × Nat × Nat)} {a : Addr} (h : t.I H cs) (n : H a = none) : ¬ t.FF a := fun z => t.live h z n
theorem byN_lt {N l : List Nat} {g : Nat} (hl : ∀ x ∈ l, x ∈ N) (hN : N.length < 63) : (byN g l).length < 64 :=
  Nat.lt_of_le_of_lt (nodup_len (byN_nodup g l) fun x hx => hl x (mem_byN.mp hx)) (by omega)
theorem upTo_len {p : Nat → Bool} : ∀ {l : List Nat}, (upTo p l).length ≤ l.length
  | [] => Nat.le_refl _
  | x :: r => by
    unfold upTo
    split
    · simp
    · have := upTo_len (p := p) (l := r)
      simp only [List.length_cons]; omega
end
end Nn
namespace Nn
open PySem L2
section
variable {P : Program} {w : World} {K : PySem.W.Frag} {mg : Str → Option Value} {base : Heap} {H H' : Hp} {Q : VK} {E : XK} {Z : Tel P w K mg base} {cl : List (Str × Addr)} {ws : List (Option V)} {f : Addr}
def sp_onward (_ : Tx K mg base) (Z : Tel P w K mg base) (cl : List (Str × Addr)) (ws : List (Option V)) : Sp := fun vs H Q _ => ∃ (f : Addr) (x g : Nat) (t : TelAt Z cl ws f) (cs : List (Nat × Nat × Nat)), vs = [.int x, .int g, .ref f] ∧ t.I H cs ∧ t.tell x g x ≠ none ∧ cs.length ≤ 900000 ∧
  ∀ H', Fr t.S H H' → t.I H' (cs ++ onwC t.tell x g) → Q (oN (onwN t.tell x g)) H'
theorem wc_onward {T : Tx K mg base} (t : TelAt Z cl ws f) {x g : Nat} {i j : Int} {cs : List (Nat × Nat × Nat)} (hi : i = x) (hj : j = g) (hI : t.I H cs) (h0 : t.tell x g x ≠ none) (hz : cs.length ≤ 900000) (q : ∀ H', Fr t.S H H' → t.I H' (cs ++ onwC t.tell x g) → Q (oN (onwN t.tell x g)) H') : sp_onward T Z cl ws [.int i, .int j, .ref f] H Q E := by
  subst hi hj; exact ⟨f, x, g, t, cs, rfl, hI, h0, hz, q⟩
theorem ok_onward (T : Tx K mg base) (Z : Tel P w K mg base) {cl : List (Str × Addr)} (ws : List (Option V)) : FnOkC P w K mg base CX0 6 T.a_onward T.d_onward ["here", "goal", "tells"] cl Z.fr ws (sp_onward T Z cl ws) := by
  refine FunD.okC T.F_onward sc_onward (fun vs H Q E h => ?_) (fun cdv A outer s H vs Q E hr hC h => ?_)
  · obtain ⟨f, x, g, t, cs, rfl, _⟩ := h; rfl
  · obtain ⟨f, x, g, t, cs, rfl, hI, h0, hcz, q⟩ := h
    have hu := hu_of hr
    have c_Bucket := T.c_Bucket; have n_Bucket_room := T.n_Bucket_room; have n_Bucket_line := T.n_Bucket_line; have c_Table := T.c_Table; have n_Table_own := T.n_Table_own; have n_Table_wide := T.n_Table_wide; have n_Table_room := T.n_Table_room; have n_Table_buckets := T.n_Table_buckets; have c_Town := T.c_Town; have n_Town_wide := T.n_Town_wide; have n_Town_room := T.n_Town_room; have n_Town_tables := T.n_Town_tables; have n_Town_hushed := T.n_Town_hushed
    refine ⟨_, (pss_cons (ps_for PassesOwn.never rfl (pi_list (pe_call (ok_by_nearness T) (hr.mono (by decide)) rfl T.m_by_nearness T.F_by_nearness.kp T.b_by_nearness .nil pass0 (pa_cons (pv 1) (pa_cons (pe_callF (F := NdefX.NF.of Z.st Z.name Z.qual cl t.cd) (i := 2) (sp := fun _ => Z.sp) (fun f => Z.ok cl t.cd f) (Prov.entry hC rfl) hr (by decide) pass0 rfl (by first | exact Or.inl rfl | exact Or.inr (Or.inl rfl) | exact Or.inr (Or.inr rfl)) (pa_cons (pv 0) (pa_cons (pv 1) (pa_cons (pv 0) pa_nil)))) pa_nil)))) (pg_name (i := 3) sc_onward.nd rfl (Or.inl rfl))
      (pss_one (ps_if (pt_cmpR op_notNn (pe_callF (F := NdefX.NF.of Z.st Z.name Z.qual cl t.cd) (i := 2) (sp := fun _ => Z.sp) (fun f => Z.ok cl t.cd f) (Prov.entry hC rfl) hr (by decide) pass0 rfl (by first | exact Or.inl rfl | exact Or.inr (Or.inl rfl) | exact Or.inr (Or.inr rfl)) (pa_cons (pv 3) (pa_cons (pv 1) (pa_cons (pv 0) pa_nil)))) pe_non (nomark _))
      (pss_one (ps_ret (pv 3)))
      pss_nil)))
      (pss_one (ps_ret pe_non))), ?_⟩
    rw [Nn.st_onward]; try rw [Nn.cxK]
    try rw [Nn.cxW]
    walk_at "wx"
    refine ⟨f, rfl, (t.fn hI).1, ?_⟩
    walk_at "wx"
    refine ⟨(t.fn hI).1, (t.fn hI).2, ?_⟩
    refine t.say hI (by omega) (.inr h0) fun v H1 fr1 hI1 ha => ?_
    obtain ⟨l, hl⟩ : ∃ l, t.tell x g x = some l := by
      cases e : t.tell x g x with
      | none => exact absurd e h0
      | some l => exact ⟨l, rfl⟩
    rw [hl] at ha
    obtain ⟨p, rfl, hp⟩ := ha
    obtain ⟨hl1, hl2⟩ := t.tl _ _ _ _ hl
    have hby := byN_lt (g := g) hl2 t.nl
    walk_at "wx"
    refine wc_by_nearness rfl hp ⟨hby, by omega⟩ fun p2 H2 hp2 ex2 h2 => ?_
    have hI2 := t.exI hI1 ex2
    have nF : ¬ t.FF p2 := t.new hI1 hp2
    have egd : (t.tell x g x).getD [] = l := by rw [hl]; rfl
    walk_at "wx"
    refine ForW.by walk_list (fun i σ H' => ∃ (v : Option V), σ = [some (.int x), some (.int g), some (.ref f), v] ∧ Fr t.S H H' ∧ H' p2 = some (.lst ((byN g l).map nV)) ∧ (∀ n ∈ (byN g l).take i, (t.tell n g x).isSome = false) ∧ t.I H' (cs ++ ((x, g, x) :: ((byN g l).take i).map fun n => (n, g, x))))
      ⟨_, rfl, fr1.trans ex2.fr, h2, by simp, by simpa using hI2⟩ (fun i σ H' _ ⟨_, _, _, e, _⟩ => SqL.of e) ?_ ?_
    · rintro i y σ _ H3 hi ⟨v, rfl, fr3, h3, hno, hI3⟩ ⟨rfl, hx⟩
      rw [List.length_map] at hi
      obtain rfl : y = nV (byN g l)[i] := by
        rw [List.getElem?_map, List.getElem?_eq_getElem hi] at hx
        exact (Option.some.inj hx).symm
      have et : (byN g l).take (i + 1) = (byN g l).take i ++ [(byN g l)[i]] := by rw [List.take_add_one, List.getElem?_eq_getElem hi]; rfl
      have hcl : (cs ++ ((x, g, x) :: ((byN g l).take i).map fun n => (n, g, x))).length ≤ 1000000 := by
        have := List.length_take_le' i (byN g l)
        simp only [List.length_append, List.length_cons, List.length_map]; omega
      walk_at "wx"
      refine ⟨f, rfl, (t.fn hI3).1, ?_⟩
      walk_at "wx"
      refine ⟨(t.fn hI3).1, (t.fn hI3).2, ?_⟩
      refine t.say (h := (byN g l)[i]) (g := g) (a := x) hI3 hcl (.inl (hl2 _ (mem_byN.mp (List.getElem_mem hi)))) fun v4 H4 fr4 hI4 ha4 => ?_
      have ecs : cs ++ ((x, g, x) :: ((byN g l).take i).map fun n => (n, g, x)) ++ [((byN g l)[i], g, x)] = cs ++ ((x, g, x) :: ((byN g l).take (i + 1)).map fun n => (n, g, x)) := by
        rw [et, List.map_append, List.append_assoc, List.cons_append]; rfl
      rw [ecs] at hI4
      have h4 := fr4.at h3 fun z => nF (t.sub _ z)
      cases e : t.tell (byN g l)[i] g x with
      | none =>
        rw [e] at ha4
        obtain rfl : v4 = .non := ha4
        walk_at "wx"
        refine ⟨_, rfl, fr3.trans fr4, h4, fun n hn => ?_, hI4⟩
        rw [et] at hn
        rcases List.mem_append.mp hn with z | z
        · exact hno n z
        · rw [List.mem_singleton.mp z, e]; rfl
      | some l4 =>
        rw [e] at ha4
        obtain ⟨p4, rfl, _⟩ := ha4
        walk_at "wx"
        obtain ⟨a, b⟩ := upTo_hit (p := fun n => (t.tell n g x).isSome) (l := byN g l) hi hno (by rw [e]; rfl)
        have eo : onwN t.tell x g = some (byN g l)[i] := by unfold onwN; rw [egd]; exact b
        have ec : onwC t.tell x g = (x, g, x) :: ((byN g l).take (i + 1)).map fun n => (n, g, x) := by unfold onwC; rw [egd, a]
        have q2 := q H4 (fr3.trans fr4) (by rw [ec]; exact hI4)
        rw [eo] at q2
        exact q2
    · rintro σ H3 ⟨v, rfl, fr3, h3, hno, hI3⟩
      rw [List.length_map, List.take_length] at hno hI3
      walk_at "wx"
      obtain ⟨a, b⟩ := upTo_no (p := fun n => (t.tell n g x).isSome) (l := byN g l) hno
      have eo : onwN t.tell x g = none := by unfold onwN; rw [egd]; exact b
      have ec : onwC t.tell x g = (x, g, x) :: (byN g l).map fun n => (n, g, x) := by unfold onwC; rw [egd, a]
      have q2 := q H3 fr3 (by rw [ec]; exact hI3)
      rw [eo] at q2
      exact q2
def sp_way (_ : Tx K mg base) (Z : Tel P w K mg base) (cl : List (Str × Addr)) (ws : List (Option V)) : Sp := fun vs H Q _ => ∃ (f : Addr) (x g : Nat) (t : TelAt Z cl ws f) (cs : List (Nat × Nat × Nat)), vs = [.int x, .int g, .ref f] ∧ t.I H cs ∧ t.tell x g x ≠ none ∧ cs.length ≤ 500000 ∧
  ∀ p H', H p = none → Fr t.S H H' → H' p = some (.lst ((wayN t.tell g x).map nV)) → ¬ t.FF p → t.I H' (cs ++ wayC t.tell g x) → Q (.ref p) H'
theorem wc_way {T : Tx K mg base} (t : TelAt Z cl ws f) {x g : Nat} {i j : Int} {cs : List (Nat × Nat × Nat)} (hi : i = x) (hj : j = g) (hI : t.I H cs) (h0 : t.tell x g x ≠ none) (hz : cs.length ≤ 500000) (q : ∀ p H', H p = none → Fr t.S H H' → H' p = some (.lst ((wayN t.tell g x).map nV)) → ¬ t.FF p → t.I H' (cs ++ wayC t.tell g x) → Q (.ref p) H') : sp_way T Z cl ws [.int i, .int j, .ref f] H Q E := by
  subst hi hj; exact ⟨f, x, g, t, cs, rfl, hI, h0, hz, q⟩
theorem onwC_len (t : TelAt Z cl ws f) {x g : Nat} : (onwC t.tell x g).length ≤ 101 := by
  unfold onwC
  rw [List.length_cons, List.length_map]
  have h1 := upTo_len (p := fun n => (t.tell n g x).isSome) (l := byN g ((t.tell x g x).getD []))
  have h2 : (byN g ((t.tell x g x).getD [])).length ≤ 100 := by
    refine Nat.le_trans byN_len_le ?_
    cases e : t.tell x g x with
    | none => exact Nat.zero_le _
    | some l => exact (t.tl _ _ _ _ e).1
  omega
theorem flatC_len (t : TelAt Z cl ws f) {g : Nat} : ∀ {l : List Nat}, (l.flatMap fun y => onwC t.tell y g).length ≤ 101 * l.length
  | [] => by simp
  | x :: r => by
    have h1 := onwC_len t (x := x) (g := g)
    have h2 := flatC_len t (g := g) (l := r)
    rw [List.flatMap_cons, List.length_append, List.length_cons]; omega
theorem x_optN {o : Option Nat} {R : V → Prop} (h1 : o = none → R .non) (h2 : ∀ n, o = some n → R (nV n)) : R (oN o) := by
  cases o with
  | none => exact h1 rfl
  | some n => exact h2 n rfl
theorem ok_way (T : Tx K mg base) (Z : Tel P w K mg base) {cl : List (Str × Addr)} (ws : List (Option V)) : FnOkC P w K mg base CX0 7 T.a_way T.d_way ["start", "goal", "tells"] cl Z.fr ws (sp_way T Z cl ws) := by
  refine FunD.okC T.F_way sc_way (fun vs H Q E h => ?_) (fun cdv A outer s H vs Q E hr hC h => ?_)
  · obtain ⟨f, x, g, t, cs, rfl, _⟩ := h; rfl
  · obtain ⟨f, x, g, t, cs, rfl, hI, h0, hcz, q⟩ := h
    have hu := hu_of hr
    have c_Bucket := T.c_Bucket; have n_Bucket_room := T.n_Bucket_room; have n_Bucket_line := T.n_Bucket_line; have c_Table := T.c_Table; have n_Table_own := T.n_Table_own; have n_Table_wide := T.n_Table_wide; have n_Table_room := T.n_Table_room; have n_Table_buckets := T.n_Table_buckets; have c_Town := T.c_Town; have n_Town_wide := T.n_Town_wide; have n_Town_room := T.n_Town_room; have n_Town_tables := T.n_Town_tables; have n_Town_hushed := T.n_Town_hushed
    refine ⟨_, (pss_cons (ps_set (i := 3) sc_way.nd rfl (Or.inl rfl) (pe_lst (pa_cons (pv 0) pa_nil)))
      (pss_cons (ps_set (i := 4) sc_way.nd rfl (Or.inl rfl) (pe_callC (fun ws => ok_onward T Z ws) (Prov.entry hC rfl) hr rfl T.m_onward T.F_onward.kp T.b_onward .nil pass0 (pa_cons (pv 0) (pa_cons (pv 1) (pa_cons (pv 2) pa_nil)))))
      (pss_cons (ps_while PassesOwn.never (PW.pt (pw_and (pt_cmpR op_notNn (pv 4) pe_non (nomark _)) (pw_and1 (pt_val (pe_call (ok_nearer T) (hr.mono (by decide)) rfl T.m_nearer T.F_nearer.kp T.b_nearer .nil pass0 (pa_cons (pv 1) (pa_cons (pv 4) (pa_cons (pe_ix ix_list (pv 3) (pe_un un_neg pe_int) (fun _ _ => rfl)) pa_nil))))))))
      (pss_cons (ps_expr (pe_bm PySem.F.plainAttrs_list PySem.F.slot_list_append PySem.F.type_list_append mt_append (pv 3) (pa_cons (pv 4) pa_nil)))
      (pss_one (ps_set (i := 4) sc_way.nd rfl (Or.inl rfl) (pe_callC (fun ws => ok_onward T Z ws) (Prov.entry hC rfl) hr rfl T.m_onward T.F_onward.kp T.b_onward .nil pass0 (pa_cons (pv 4) (pa_cons (pv 1) (pa_cons (pv 2) pa_nil))))))))
      (pss_one (ps_ret (pv 3)))))), ?_⟩
    rw [Nn.st_way]; try rw [Nn.cxK]
    try rw [Nn.cxW]
    walk_at "wx"
    refine ⟨len_ok rfl, fun p hp => ?_⟩
    have ex1 := Ex.new (o := .lst [V.int (x : Int)]) hp
    have h1 := upd_same (H := H) (a := p) (o := .lst [V.int (x : Int)])
    have hI1 := t.exI hI ex1
    have nF : ¬ t.FF p := t.new hI hp
    generalize upd H p (.lst [V.int (x : Int)]) = H1 at ex1 h1 hI1 ⊢
    walk_at "wx"
    refine wc_onward t rfl rfl hI1 h0 (by omega) fun H2 fr2 hI2 => ?_
    have h2 := fr2.at h1 fun z => nF (t.sub _ z)
    walk_at "wx"
    refine x_while (W := fun mm σ H' => ∃ (pre : List Nat) (y : Nat), σ = [some (.int x), some (.int g), some (.ref f), some (.ref p), some (oN (onwN t.tell y g))] ∧ Fr t.S H H' ∧ H' p = some (.lst ((pre ++ [y]).map nV)) ∧ t.I H' (cs ++ (pre ++ [y]).flatMap fun y => onwC t.tell y g) ∧ wayN t.tell g x = pre ++ wayN t.tell g y ∧ t.tell y g y ≠ none ∧
        (pre ++ [y]).Nodup ∧ (∀ z ∈ pre ++ [y], z = x ∨ z ∈ t.N) ∧ (∀ z ∈ pre, g ^^^ y < g ^^^ z) ∧ mm + pre.length = 64) (m := 64)
      ⟨[], x, rfl, ex1.fr.trans fr2, by simpa using h2, by simpa using hI2, by simp, h0, by simp, by simp, by simp, rfl⟩ ?_
    rintro mm σ H3 ⟨pre, y, rfl, fr3, h3, hI3, hw, hy0, nd, hN, hnear, hmm⟩
    have hlen : (pre ++ [y]).length ≤ 63 := by
      have := nodup_len nd (b := x :: t.N) fun z hz => (hN z hz).elim (fun e => by rw [e]; simp) fun e => List.mem_cons_of_mem _ e
      have := t.nl
      simp only [List.length_cons] at *
      omega
    have hfl := flatC_len t (g := g) (l := pre ++ [y])
    walk_at "wx"
    cases e : onwN t.tell y g with
    | none =>
      have eo : oN none = .non := rfl
      rw [eo]
      walk_at "wx"
      have ew := wayN_none e
      refine q p H3 hp fr3 (by rw [hw, ew]; exact h3) nF ?_
      have ec : wayC t.tell g x = (pre ++ [y]).flatMap fun y => onwC t.tell y g := by unfold wayC; rw [hw, ew]
      rw [ec]; exact hI3
    | some z =>
      have eo : oN (some z) = nV z := rfl
      rw [eo]
      have hat : atI ((pre ++ [y]).map nV) (-1) = some (nV y) := by
        rw [List.map_append]
        exact atI_last (pre.map nV) (nV y)
      walk_at "wx"
      refine x_whD (fun hlt => ?_) fun hge => ?_
      · obtain ⟨⟨l, hl, hzl⟩, hza⟩ := onwN_mem e
        have hzN := (t.tl _ _ _ _ hl).2 z hzl
        have hz0 : t.tell z g z ≠ none := fun c => by
          have := t.sil z g y g z
          rw [hza, c] at this; cases this
        walk_at "wx"
        have hI4 := t.mut (o := .lst ((pre ++ [y]).map nV ++ [V.int (z : Int)])) hI3 h3 nF
        have fr4 : Fr t.S H (upd H3 p (.lst ((pre ++ [y]).map nV ++ [V.int (z : Int)]))) := fr3.mut hp h3
        have h4 := upd_same (H := H3) (a := p) (o := .lst ((pre ++ [y]).map nV ++ [V.int (z : Int)]))
        generalize upd H3 p (.lst ((pre ++ [y]).map nV ++ [V.int (z : Int)])) = H4 at hI4 fr4 h4 ⊢
        have ee : (pre ++ [y]).map nV ++ [V.int (z : Int)] = ((pre ++ [y]) ++ [z]).map nV := by rw [List.map_append (l₁ := pre ++ [y])]; rfl
        rw [ee] at h4
        refine wc_onward t rfl rfl hI4 hz0 (by simp only [List.length_append] at *; omega) fun H5 fr5 hI5 => ?_
        have h5 := fr5.at h4 fun z => nF (t.sub _ z)
        refine ⟨mm - 1, by simp only [List.length_append, List.length_cons, List.length_nil] at hlen; omega, pre ++ [y], z, rfl, fr4.trans fr5, h5, ?_, ?_, hz0, ?_, ?_, ?_, ?_⟩
        · rw [List.flatMap_append (xs := pre ++ [y]), ← List.append_assoc]
          simpa using hI5
        · rw [hw, wayN_on e hlt, List.append_assoc]; rfl
        · refine nd_snoc nd fun c => ?_
          rcases List.mem_append.mp c with c | c
          · have := hnear z c; omega
          · rw [List.mem_singleton.mp c] at hlt; omega
        · intro u hu
          rcases List.mem_append.mp hu with c | c
          · exact hN u c
          · rw [List.mem_singleton.mp c]; exact .inr hzN
        · intro u hu
          rcases List.mem_append.mp hu with c | c
          · have := hnear u c; omega
          · rw [List.mem_singleton.mp c]; exact hlt
        · simp only [List.length_append, List.length_cons, List.length_nil] at *; omega
      · walk_at "wx"
        have ew := wayN_far e hge
        refine q p H3 hp fr3 (by rw [hw, ew]; exact h3) nF ?_
        have ec : wayC t.tell g x = (pre ++ [y]).flatMap fun y => onwC t.tell y g := by unfold wayC; rw [hw, ew]
        rw [ec]; exact hI3
end
end Nn
/-! asks by functions that tell -/
namespace Nn
open PySem L2
section
variable {P : Program} {w : World} {K : PySem.W.Frag} {mg : Str → Option Value} {base : Heap} {H H' : Hp} {Q : VK} {E : XK}
def sp_standing (_ : Tx K mg base) : Sp := fun vs H Q E => ∃ (g : Nat) (room : Nat) (p_seen : Addr) (seen : List Nat) (p_quiet : Addr) (quiet : List Nat), vs = [.int g, .int room, .ref p_seen, .ref p_quiet] ∧ (SqL K H p_seen (seen.map nV)) ∧ (SqL K H p_quiet (quiet.map nV)) ∧ ((byN g seen).length < 64 ∧ seen.length ≤ 100000 ∧ quiet.length ≤ 100000) ∧ (∀ p H', H p = none → Ex H H' → H' p = some (.lst ((standN g room seen quiet).map nV)) → Q (.ref p) H')
theorem wc_standing {T : Tx K mg base} {g : Nat} {room : Nat} {p_seen : Addr} {seen : List Nat} {p_quiet : Addr} {quiet : List Nat} {i0 : Int} {i1 : Int} (e0 : i0 = g) (e1 : i1 = room) (c0 : SqL K H p_seen (seen.map nV)) (c1 : SqL K H p_quiet (quiet.map nV)) (c2 : (byN g seen).length < 64 ∧ seen.length ≤ 100000 ∧ quiet.length ≤ 100000) (h : ∀ p H', H p = none → Ex H H' → H' p = some (.lst ((standN g room seen quiet).map nV)) → Q (.ref p) H') : sp_standing T [.int i0, .int i1, .ref p_seen, .ref p_quiet] H Q E := by
  subst e0 e1
  exact ⟨g, room, p_seen, seen, p_quiet, quiet, rfl, c0, c1, c2, h⟩
theorem ok_standing (T : Tx K mg base) : FnOk P w K mg base CX0 3 T.a_standing T.d_standing ["goal", "room", "seen", "quiet"] (sp_standing T) := by
  refine T.F_standing.okD sc_standing (fun vs H Q E h => ?_) (fun cdv A outer s H vs Q E hr h => ?_)
  · obtain ⟨g, room, p_seen, seen, p_quiet, quiet, rfl, hS0, hS1, hpre, q⟩ := h; rfl
  · obtain ⟨g, room, p_seen, seen, p_quiet, quiet, rfl, hS0, hS1, hpre, q⟩ := h
    have hu := hu_of hr
    have c_Bucket := T.c_Bucket; have n_Bucket_room := T.n_Bucket_room; have n_Bucket_line := T.n_Bucket_line; have c_Table := T.c_Table; have n_Table_own := T.n_Table_own; have n_Table_wide := T.n_Table_wide; have n_Table_room := T.n_Table_room; have n_Table_buckets := T.n_Table_buckets; have c_Town := T.c_Town; have n_Town_wide := T.n_Town_wide; have n_Town_room := T.n_Town_room; have n_Town_tables := T.n_Town_tables; have n_Town_hushed := T.n_Town_hushed
    refine ⟨_, (pss_one (ps_ret (pe_slice sl_list (pe_call (ok_by_nearness T) hr rfl T.m_by_nearness T.F_by_nearness.kp T.b_by_nearness .nil pass0 (pa_cons (pv 0) (pa_cons (pe_lc (own := [("name", 4)]) (g := (gName 4)) (by rfl) sc_standing.nd (pi_list (pv 2)) (blkOk_by (N := N_standing) (sc := defScope s_standing) (own := [("name", 4)]) (by decide +kernel)) (fun _ _ _ _ _ => (pg_name (i := 4) sc_standing.nd rfl (Or.inl rfl))) (fun _ _ _ _ _ => pts_one ((pt_cmpR (op_notInK (K := K) rfl) (pv 4) (pv 3) rfl))) (fun _ _ _ _ _ => (pv 4))) pa_nil))) po_none (po_some (pv 1))))), ?_⟩
    rw [Nn.st_standing]; try rw [Nn.cxK]
    try rw [Nn.cxW]
    walk_at "wx"
    obtain ⟨hb, hz1, hz2⟩ := hpre
    refine LcW.filt (emb := nV) (xs := seen) (fun x => !decide (x ∈ quiet)) hS0 (by rw [sizeLine_eq]; omega) (fun x _ H2 ex2 R hR => ?_) (fun x _ _ H2 ex2 Qe hQ => ?_) fun p1 H1 hp1 ex1 h1 => ?_
    · walk_at "wx"
      exact hR _ Ex.refl
    · walk_at "wx"
      exact hQ
    · walk_at "wx"
      have hfl := List.length_filter_le (fun x => !decide (x ∈ quiet)) seen
      have hby : (byN g (seen.filter fun x => !decide (x ∈ quiet))).length ≤ (byN g seen).length := nodup_len (byN_nodup _ _) fun x hx => mem_byN.mpr (List.mem_filter.mp (mem_byN.mp hx)).1
      refine wc_by_nearness rfl (SqL.of h1) ⟨by omega, by omega⟩ fun p2 H2 hp2 ex2 h2 => ?_
      walk_at "wx"
      refine x_slL (SqL.of h2) fun p3 hp3 => ?_
      rw [cut_take]
      refine q p3 _ ((ex1.trans ex2).back p3 hp3) ((ex1.trans ex2).newT hp3) ?_
      rw [upd_same]; unfold standN; rw [List.map_take]
def oA : Option Addr → V
  | none => .non
  | some a => .ref a
theorem _root_.L2.SqL.upd_ne' {K : PySem.W.Frag} {H : Hp} {a r : Addr} {xs ys : List V} {o : HO} (h : SqL K H a xs) (hr : H r = some (.lst ys)) (ne : ys ≠ xs) : SqL K (upd H r o) a xs := by
  rcases h with (h | ⟨od, h⟩) | h
  · exact .inl (.inl (by rw [upd_ne fun z => by rw [z, hr] at h; exact ne (HO.lst.inj (Option.some.inj h))]; exact h))
  · exact .inl (.inr ⟨od, by rw [upd_ne fun z => by rw [z, hr] at h; cases h]; exact h⟩)
  · exact .inr h
/-- a row's tuple; new to H0 -/
structure RowE (H0 H' : Hp) (e : Addr × Option Addr) (x : Nat × Option (List Nat)) : Prop where
  tp : H' e.1 = some (.tup [nV x.1, oA e.2])
  n1 : H0 e.1 = none
  so : ∀ l, x.2 = some l → ∃ a, e.2 = some a ∧ H' a = some (.lst (l.map nV)) ∧ H0 a = none
  no : x.2 = none → e.2 = none
theorem RowE.cell {H0 H' : Hp} {e : Addr × Option Addr} {x : Nat × Option (List Nat)} (r : RowE H0 H' e x) {a : Addr} (h : e.2 = some a) : ∃ l, x.2 = some l ∧ H' a = some (.lst (l.map nV)) ∧ H0 a = none := by
  cases q : x.2 with
  | none => rw [r.no q] at h; cases h
  | some l =>
    obtain ⟨b, h1, h2, h3⟩ := r.so l q
    rw [h] at h1; cases h1
    exact ⟨l, rfl, h2, h3⟩
theorem RowE.keep {H0 H' H2 : Hp} {e : Addr × Option Addr} {x : Nat × Option (List Nat)} (r : RowE H0 H' e x) (h1 : H2 e.1 = H' e.1) (h2 : ∀ a, e.2 = some a → H2 a = H' a) : RowE H0 H2 e x :=
  ⟨by rw [h1]; exact r.tp, r.n1, fun l q => by
    obtain ⟨a, e1, e2, e3⟩ := r.so l q
    exact ⟨a, e1, by rw [h2 a e1]; exact e2, e3⟩, r.no⟩
/-- a row -/
structure RowAt (H0 H' : Hp) (r : Addr) (es : List (Addr × Option Addr)) (row : List (Nat × Option (List Nat))) : Prop where
  ro : H' r = some (.lst (es.map fun e => .ref e.1))
  len : es.length = row.length
  at_ : ∀ (i : Nat) (e : Addr × Option Addr) (x : Nat × Option (List Nat)), es[i]? = some e → row[i]? = some x → RowE H0 H' e x
  nd : (es.filterMap (·.2)).Nodup
  r0 : es ≠ []
  nr : H0 r = none
theorem RowAt.el {H0 : Hp} {r : Addr} {es : List (Addr × Option Addr)} {row : List (Nat × Option (List Nat))} (a : RowAt H0 H' r es row) {e : Addr × Option Addr} (h : e ∈ es) : ∃ x ∈ row, RowE H0 H' e x := by
  obtain ⟨i, hi⟩ := List.getElem?_of_mem h
  have hl : i < row.length := by rw [← a.len]; exact (List.getElem?_eq_some_iff.mp hi).1
  exact ⟨row[i], List.getElem_mem hl, a.at_ i e _ hi (List.getElem?_eq_getElem hl)⟩
theorem refs_ne {es : List (Addr × Option Addr)} {l : List Nat} (h0 : es ≠ []) : (es.map fun e => V.ref e.1) ≠ l.map nV := fun z => by
  cases es with
  | nil => exact h0 rfl
  | cons e r =>
    cases l with
    | nil => cases z
    | cons x l => rw [List.map_cons, List.map_cons] at z; injection z with z1 z2; cases z1
theorem RowAt.fr {H0 H'' : Hp} {R : Addr → Prop} {r : Addr} {es : List (Addr × Option Addr)} {row : List (Nat × Option (List Nat))} (a : RowAt H0 H' r es row) (f : Fr R H' H'') (h : ∀ b, R b → H0 b ≠ none) : RowAt H0 H'' r es row := by
  refine ⟨f.at a.ro fun z => h _ z a.nr, a.len, fun i e x he hx => ?_, a.nd, a.r0, a.nr⟩
  have q := a.at_ i e x he hx
  refine q.keep ?_ fun b hb => ?_
  · rw [q.tp]; exact f.at q.tp fun z => h _ z q.n1
  · obtain ⟨l, _, h2, h3⟩ := q.cell hb
    rw [h2]; exact f.at h2 fun z => h _ z h3
/-- what an ask carries -/
structure AskAt (H0 H' : Hp) (r sa qa : Addr) (es : List (Addr × Option Addr)) (s : AskSt) : Prop where
  ra : RowAt H0 H' r es s.row
  sn : H' sa = some (.lst (s.seen.map nV))
  qt : H' qa = some (.lst (s.quiet.map nV))
  new : H0 sa = none ∧ H0 qa = none
  ne : sa ≠ qa ∧ ∀ e ∈ es, e.2 ≠ some sa ∧ e.2 ≠ some qa
theorem AskAt.fr {H0 H'' : Hp} {R : Addr → Prop} {r sa qa : Addr} {es : List (Addr × Option Addr)} {s : AskSt} (a : AskAt H0 H' r sa qa es s) (f : Fr R H' H'') (h : ∀ b, R b → H0 b ≠ none) : AskAt H0 H'' r sa qa es s :=
  ⟨a.ra.fr f h, f.at a.sn fun z => h _ z a.new.1, f.at a.qt fun z => h _ z a.new.2, a.new, a.ne⟩
theorem AskAt.rne {H0 : Hp} {r sa qa : Addr} {es : List (Addr × Option Addr)} {s : AskSt} (a : AskAt H0 H' r sa qa es s) : r ≠ sa ∧ r ≠ qa :=
  ⟨fun z => by
    have e := a.ra.ro
    rw [z, a.sn] at e
    exact refs_ne a.ra.r0 (HO.lst.inj (Option.some.inj e)).symm, fun z => by
    have e := a.ra.ro
    rw [z, a.qt] at e
    exact refs_ne a.ra.r0 (HO.lst.inj (Option.some.inj e)).symm⟩
/-- one more -/
theorem AskAt.step {H0 H2 : Hp} {r sa qa : Addr} {es : List (Addr × Option Addr)} {s s' : AskSt} {e : Addr × Option Addr} {x : Nat × Option (List Nat)} (a : AskAt H0 H' r sa qa es s) (kp : ∀ b o, NT o → H' b = some o → b ≠ r → b ≠ sa → b ≠ qa → H2 b = some o)
    (hr : H2 r = some (.lst ((es ++ [e]).map fun e => .ref e.1))) (hs : H2 sa = some (.lst (s'.seen.map nV))) (hq : H2 qa = some (.lst (s'.quiet.map nV))) (hrow : s'.row = s.row ++ [x]) (he : RowE H0 H2 e x) (hn : ∀ l, e.2 = some l → l ≠ sa ∧ l ≠ qa ∧ H' l = none) : AskAt H0 H2 r sa qa (es ++ [e]) s' := by
  refine ⟨⟨hr, ?_, fun i e' x' h1 h2 => ?_, ?_, by simp, a.ra.nr⟩, hs, hq, a.new, a.ne.1, fun e' h' => ?_⟩
  · rw [hrow, List.length_append, List.length_append, a.ra.len]; rfl
  · rw [hrow] at h2
    by_cases hi : i < es.length
    · rw [List.getElem?_append_left hi] at h1
      rw [List.getElem?_append_left (by rw [← a.ra.len]; exact hi)] at h2
      have q := a.ra.at_ i e' x' h1 h2
      refine q.keep ?_ fun b hb => ?_
      · rw [q.tp]
        exact kp _ _ trivial q.tp (fun z => by have := q.tp; rw [z, a.ra.ro] at this; cases this) (fun z => by have := q.tp; rw [z, a.sn] at this; cases this) fun z => by have := q.tp; rw [z, a.qt] at this; cases this
      · obtain ⟨l, _, g2, g3⟩ := q.cell hb
        have hm := a.ne.2 e' (List.mem_of_getElem? h1)
        rw [g2]
        exact kp _ _ trivial g2 (fun z => by rw [z, a.ra.ro] at g2; exact refs_ne a.ra.r0 (HO.lst.inj (Option.some.inj g2))) (fun z => hm.1 (by rw [hb, z])) fun z => hm.2 (by rw [hb, z])
    · have hl := (List.getElem?_eq_some_iff.mp h1).1
      have ei : i = es.length := by simp at hl; omega
      rw [ei, List.getElem?_append_right (Nat.le_refl _), Nat.sub_self] at h1
      rw [ei, a.ra.len, List.getElem?_append_right (Nat.le_refl _), Nat.sub_self] at h2
      cases h1; cases h2; exact he
  · rw [List.filterMap_append]
    cases q : e.2 with
    | none =>
      have e0 : List.filterMap (fun x : Addr × Option Addr => x.2) [e] = [] := by simp [q]
      rw [e0, List.append_nil]; exact a.ra.nd
    | some l =>
      have e0 : List.filterMap (fun x : Addr × Option Addr => x.2) [e] = [l] := by simp [q]
      rw [e0]
      refine List.nodup_append.mpr ⟨a.ra.nd, by simp, fun b hb c hc z => ?_⟩
      rw [List.mem_singleton.mp hc] at z
      obtain ⟨e', h1, h2⟩ := List.mem_filterMap.mp hb
      obtain ⟨x', _, q'⟩ := a.ra.el h1
      obtain ⟨_, _, g2, _⟩ := q'.cell h2
      rw [z, (hn l q).2.2] at g2; cases g2
  · rcases List.mem_append.mp h' with z | z
    · exact a.ne.2 e' z
    · rw [List.mem_singleton.mp z]
      exact ⟨fun q => (hn _ q).1 rfl, fun q => (hn _ q).2.1 rfl⟩
/-- [house for house, told in row] -/
theorem LcW.row {σ : L2.St} {i j : Nat} (hij : i ≠ j) {r : Addr} {es : List (Addr × Option Addr)} {row : List (Nat × Option (List Nat))} (hr : H r = some (.lst (es.map fun e => .ref e.1))) (hl : es.length = row.length) (hz : row.length ≤ 1000)
    (ha : ∀ (k : Nat) (e : Addr × Option Addr) (x : Nat × Option (List Nat)), es[k]? = some e → row[k]? = some x → H e.1 = some (.tup [nV x.1, oA e.2])) (hi : i < σ.length) (hk : ∀ D H', H D = none → Ex H H' → H' D = some (.lst ((row.map (·.1)).map nV)) → Q (.ref D) H') :
    LcW (gTup K 2 (gCons (gName i) (gCons (gName j) gNil))) tYes (tVar i) [i, j] σ Q (Itl K r) H := by
  intro D hD
  refine lc_list (K := K) (a := r) (xs := es.map fun e => V.ref e.1) (Qd := fun H' => Q (.ref D) H') (fun n H' => Ex H H' ∧ H' D = some (.lst (((row.take n).map (·.1)).map nV))) ⟨Ex.new hD, by rw [upd_same]; rfl⟩ (fun n H' _ h => SqL.of (h.1.at hr)) ?_ ?_
  · rintro n y H1 hx ⟨ex, h1⟩
    obtain ⟨e, he, rfl⟩ : ∃ e, es[n]? = some e ∧ y = .ref e.1 := by
      rw [List.getElem?_map] at hx
      cases q : es[n]? with
      | none => rw [q] at hx; cases hx
      | some e => rw [q] at hx; exact ⟨e, rfl, (Option.some.inj hx).symm⟩
    have hn : n < row.length := by rw [← hl]; exact (List.getElem?_eq_some_iff.mp he).1
    have tp := ex.at (ha n e row[n] he (List.getElem?_eq_getElem hn))
    have et : row.take (n + 1) = row.take n ++ [row[n]] := by rw [List.take_add_one, List.getElem?_eq_getElem hn]; rfl
    refine x_gTup (SqT.of tp) rfl (x_gCons (x_name (x_gCons (x_name (x_gNil ?_)))))
    have e1 : wipe (((wipe σ [i, j]).set i (some (nV row[n].1))).set j (some (oA e.2))) [i, j] = wipe σ [i, j] := by
      show ((((((σ.set j none).set i none).set i _).set j _).set j none).set i none) = (σ.set j none).set i none
      refine List.ext_getElem? fun k => ?_
      by_cases h1 : i = k
      · subst h1; simp [List.getElem?_set]
      · by_cases h2 : j = k
        · subst h2; simp [List.getElem?_set, hij]
        · simp [List.getElem?_set, h1, h2]
    refine ⟨e1, ?_⟩
    rw [e_yes]
    refine iteT ?_
    refine x_var (v := nV row[n].1) ?_ ⟨_, h1, ?_, ex.mut hD h1, ?_⟩
    · rw [List.getElem?_set_ne (Ne.symm hij)]
      refine List.getElem?_set_self ?_
      show i < ((σ.set j none).set i none).length
      rw [List.length_set, List.length_set]; exact hi
    · rw [sizeLine_eq, List.length_map, List.length_map]
      have := List.length_take_le' n row
      omega
    · rw [upd_same, et, List.map_append, List.map_append]; rfl
  · rintro H1 ⟨ex, h1⟩
    rw [List.length_map, hl, List.take_length] at h1
    exact hk D H1 hD ex h1
end
end Nn
namespace Nn
open PySem L2
section
variable {P : Program} {w : World} {K : PySem.W.Frag} {mg : Str → Option Value} {base : Heap} {H H' : Hp} {Q : VK} {E : XK} {Z : Tel P w K mg base} {cl : List (Str × Addr)} {ws : List (Option V)} {f : Addr}
def rowC (row : List (Nat × Option (List Nat))) (g start : Nat) : List (Nat × Nat × Nat) := row.map fun x => (x.1, g, start)
abbrev TelAt.t1 (t : TelAt Z cl ws f) (g start : Nat) : Nat → Option (List Nat) := fun h => t.tell h g start
theorem TelAt.tl1 (t : TelAt Z cl ws f) {g start : Nat} : ∀ h l, t.t1 g start h = some l → l.length ≤ 100 ∧ ∀ x ∈ l, x ∈ t.N := fun h l e => t.tl h g start l e
def sp_asked (_ : Tx K mg base) (Z : Tel P w K mg base) (cl : List (Str × Addr)) (ws : List (Option V)) : Sp := fun vs H Q _ => ∃ (f : Addr) (start g room : Nat) (t : TelAt Z cl ws f) (cs : List (Nat × Nat × Nat)), vs = [.int start, .int g, .int room, .ref f] ∧ t.I H cs ∧ t.tell start g start ≠ none ∧ cs.length ≤ 500000 ∧
  ∀ p r fd es H', Fr t.S H H' → H p = none → H' p = some (.tup [.ref r, .ref fd]) → RowAt H H' r es (askEnd (t.t1 g start) start g room).row → H fd = none → H' fd = some (.lst ((askFound (t.t1 g start) start g room).map nV)) → (∀ e ∈ es, e.2 ≠ some fd) → t.I H' (cs ++ rowC (askEnd (t.t1 g start) start g room).row g start) → Q (.ref p) H'
theorem wc_asked {T : Tx K mg base} (t : TelAt Z cl ws f) {start g room : Nat} {i j k : Int} {cs : List (Nat × Nat × Nat)} (hi : i = start) (hj : j = g) (hk : k = room) (hI : t.I H cs) (h0 : t.tell start g start ≠ none) (hz : cs.length ≤ 500000)
    (q : ∀ p r fd es H', Fr t.S H H' → H p = none → H' p = some (.tup [.ref r, .ref fd]) → RowAt H H' r es (askEnd (t.t1 g start) start g room).row → H fd = none → H' fd = some (.lst ((askFound (t.t1 g start) start g room).map nV)) → (∀ e ∈ es, e.2 ≠ some fd) → t.I H' (cs ++ rowC (askEnd (t.t1 g start) start g room).row g start) → Q (.ref p) H') : sp_asked T Z cl ws [.int i, .int j, .int k, .ref f] H Q E := by
  subst hi hj hk; exact ⟨f, start, g, room, t, cs, rfl, hI, h0, hz, q⟩
theorem ok_asked (T : Tx K mg base) (Z : Tel P w K mg base) {cl : List (Str × Addr)} (ws : List (Option V)) : FnOkC P w K mg base CX0 6 T.a_asked T.d_asked ["start", "goal", "room", "tells"] cl Z.fr ws (sp_asked T Z cl ws) := by
  refine FunD.okC T.F_asked sc_asked (fun vs H Q E h => ?_) (fun cdv A outer s H vs Q E hr hC h => ?_)
  · obtain ⟨f, start, g, room, t, cs, rfl, _⟩ := h; rfl
  · obtain ⟨f, start, g, room, t, cs, rfl, hI, h0, hcz, q⟩ := h
    have hu := hu_of hr
    have hnl := t.nl
    have hok : ∀ k, (AskSt.run (t.t1 g start) start g room k).Ok (t.t1 g start) start t.N := AskSt.run_ok h0 t.tl1
    obtain ⟨l0, hl0⟩ : ∃ l, t.tell start g start = some l := by
      cases e : t.tell start g start with
      | none => exact absurd e h0
      | some l => exact ⟨l, rfl⟩
    obtain ⟨hl1, hl2⟩ := t.tl _ _ _ _ hl0
    have c_Bucket := T.c_Bucket; have n_Bucket_room := T.n_Bucket_room; have n_Bucket_line := T.n_Bucket_line; have c_Table := T.c_Table; have n_Table_own := T.n_Table_own; have n_Table_wide := T.n_Table_wide; have n_Table_room := T.n_Table_room; have n_Table_buckets := T.n_Table_buckets; have c_Town := T.c_Town; have n_Town_wide := T.n_Town_wide; have n_Town_room := T.n_Town_room; have n_Town_tables := T.n_Town_tables; have n_Town_hushed := T.n_Town_hushed
    refine ⟨_, (pss_cons (ps_set (i := 4) sc_asked.nd rfl (Or.inl rfl) (pe_lst (pa_cons (pe_tup (pa_cons (pv 0) (pa_cons (pe_callTy cb_list (by rfl) T.z_list (by decide +kernel) (pa_cons (pe_callF (F := NdefX.NF.of Z.st Z.name Z.qual cl t.cd) (i := 3) (sp := fun _ => Z.sp) (fun f => Z.ok cl t.cd f) (Prov.entry hC rfl) hr (by decide) pass0 rfl (by first | exact Or.inl rfl | exact Or.inr (Or.inl rfl) | exact Or.inr (Or.inr rfl)) (pa_cons (pv 0) (pa_cons (pv 1) (pa_cons (pv 0) pa_nil)))) pa_nil)) pa_nil))) pa_nil)))
      (pss_cons (ps_setLc (i := 5) (own := [("name", 6)]) (g := (gName 6)) (by rfl) sc_asked.nd rfl rfl (sw_true rfl rfl rfl (by decide +kernel)) (pi_list (pe_ix ix_tup (pe_ix ix_list (pv 4) pe_int (fun _ _ => rfl)) pe_int (fun _ _ => rfl))) (blkOk_by (N := N_asked) (sc := defScope s_asked) (own := [("name", 6)]) (by decide +kernel)) (fun _ _ _ _ _ => (pg_name (i := 6) sc_asked.nd rfl (Or.inl rfl))) (fun _ _ _ _ _ => pts_one ((pt_cmpR op_ne (pv 6) (pv 0) (nomark _)))) (fun _ _ _ _ _ => (pv 6)))
      (pss_cons (ps_set (i := 7) sc_asked.nd rfl (Or.inl rfl) (pe_lst pa_nil))
      (pss_cons (ps_set (i := 8) sc_asked.nd rfl (Or.inl rfl) (pe_call (ok_standing T) (hr.mono (by decide)) rfl T.m_standing T.F_standing.kp T.b_standing .nil pass0 (pa_cons (pv 1) (pa_cons (pv 2) (pa_cons (pv 5) (pa_cons (pv 7) pa_nil))))))
      (pss_cons (ps_while PassesOwn.never (pt_cmpR op_gt (pe_callB cb_len (by rfl) T.z_len PySem.boot_len (pa_cons (pv 8) pa_nil)) pe_int (nomark _))
      (pss_cons (ps_set (i := 9) sc_asked.nd rfl (Or.inl rfl) (pe_ix ix_list (pv 8) pe_int (fun _ _ => rfl)))
      (pss_cons (ps_set (i := 10) sc_asked.nd rfl (Or.inl rfl) (pe_callF (F := NdefX.NF.of Z.st Z.name Z.qual cl t.cd) (i := 3) (sp := fun _ => Z.sp) (fun f => Z.ok cl t.cd f) (Prov.entry hC rfl) hr (by decide) pass0 rfl (by first | exact Or.inl rfl | exact Or.inr (Or.inl rfl) | exact Or.inr (Or.inr rfl)) (pa_cons (pv 9) (pa_cons (pv 1) (pa_cons (pv 0) pa_nil)))))
      (C8.pss_cut (ps_if (pt_cmpR op_isNn (pv 10) pe_non (nomark _))
      (pss_cons (ps_expr (pe_bm PySem.F.plainAttrs_list PySem.F.slot_list_append PySem.F.type_list_append mt_append (pv 7) (pa_cons (pv 9) pa_nil)))
      (pss_one (ps_expr (pe_bm PySem.F.plainAttrs_list PySem.F.slot_list_append PySem.F.type_list_append mt_append (pv 4) (pa_cons (pe_tup (pa_cons (pv 9) (pa_cons pe_non pa_nil))) pa_nil)))))
      (pss_cons (ps_expr (pe_bm PySem.F.plainAttrs_list PySem.F.slot_list_append PySem.F.type_list_append mt_append (pv 4) (pa_cons (pe_tup (pa_cons (pv 9) (pa_cons (pe_callTy cb_list (by rfl) T.z_list (by decide +kernel) (pa_cons (pv 10) pa_nil)) pa_nil))) pa_nil)))
      (pss_one (ps_expr (pe_bm PySem.F.plainAttrs_list PySem.F.slot_list_extend PySem.F.type_list_extend mt_extend (pv 5) (pa_cons (pe_lc (own := [("name", 6)]) (g := (gName 6)) (by rfl) sc_asked.nd (pi_list (pv 10)) (blkOk_by (N := N_asked) (sc := defScope s_asked) (own := [("name", 6)]) (by decide +kernel)) (fun _ _ _ _ _ => (pg_name (i := 6) sc_asked.nd rfl (Or.inl rfl))) (fun _ _ _ _ _ => pts_one ((pt_cmpR op_ne (pv 6) (pv 0) (nomark _)))) (fun _ _ _ _ _ => (pv 6))) pa_nil))))))
      (pss_cons (ps_set (i := 11) sc_asked.nd rfl (Or.inr rfl) (pe_lc (own := [("house", 9), ("told", 10)]) (g := (gTup K 2 (gCons (gName 9) (gCons (gName 10) gNil)))) (by rfl) sc_asked.nd (pi_list (pv 4)) (blkOk_by (N := N_asked) (sc := defScope s_asked) (own := [("house", 9), ("told", 10)]) (by decide +kernel)) (fun _ _ _ _ _ => (pg_tup (n := 2) rfl (pgs_cons (pg_name (i := 9) sc_asked.nd rfl (Or.inl rfl)) (pgs_cons (pg_name (i := 10) sc_asked.nd rfl (Or.inl rfl)) pgs_nil)))) (fun _ _ _ _ _ => pts_nil) (fun _ _ _ _ _ => (pv 9))))
      (pss_one (ps_setLc (i := 8) (own := [("name", 6)]) (g := (gName 6)) (by rfl) sc_asked.nd rfl rfl (sw_true rfl rfl rfl (by decide +kernel)) (pi_list (pe_call (ok_standing T) (hr.mono (by decide)) rfl T.m_standing T.F_standing.kp T.b_standing .nil pass0 (pa_cons (pv 1) (pa_cons (pv 2) (pa_cons (pv 5) (pa_cons (pv 7) pa_nil)))))) (blkOk_by (N := N_asked) (sc := defScope s_asked) (own := [("name", 6)]) (by decide +kernel)) (fun _ _ _ _ _ => (pg_name (i := 6) sc_asked.nd rfl (Or.inl rfl))) (fun _ _ _ _ _ => pts_one ((pt_cmpR (op_notInK (K := K) rfl) (pv 6) (pv 11) rfl))) (fun _ _ _ _ _ => (pv 6)))))))))
      (pss_one (ps_ret (pe_tup (pa_cons (pv 4) (pa_cons (pe_call (ok_standing T) (hr.mono (by decide)) rfl T.m_standing T.F_standing.kp T.b_standing .nil pass0 (pa_cons (pv 1) (pa_cons (pv 2) (pa_cons (pv 5) (pa_cons (pv 7) pa_nil))))) pa_nil)))))))))), ?_⟩
    rw [Nn.st_asked]; try rw [Nn.cxK]
    try rw [Nn.cxW]
    walk_at "wx"
    refine ⟨f, rfl, (t.fn hI).1, ?_⟩
    walk_at "wx"
    refine ⟨(t.fn hI).1, (t.fn hI).2, ?_⟩
    refine t.say hI (by omega) (.inr h0) fun v H1 fr1 hI1 ha => ?_
    rw [hl0] at ha
    obtain ⟨p0, rfl, hp0⟩ := ha
    walk_at "wx"
    refine x_listL hp0 fun l hl => ?_
    have exl := Ex.new (o := .lst (l0.map nV)) hl
    have h2l := upd_same (H := H1) (a := l) (o := .lst (l0.map nV))
    have hl0' : H l = none := fr1.back l hl
    generalize upd H1 l (.lst (l0.map nV)) = H2 at exl h2l ⊢
    refine ⟨len_ok rfl, fun tp htp => ?_⟩
    have ext := Ex.new (o := .tup [V.int (start : Int), .ref l]) htp
    have h3t := upd_same (H := H2) (a := tp) (o := .tup [V.int (start : Int), .ref l])
    have h3l := ext.at h2l
    have htp0 : H tp = none := fr1.back tp (exl.back tp htp)
    generalize upd H2 tp (.tup [V.int (start : Int), .ref l]) = H3 at ext h3t h3l ⊢
    refine ⟨len_ok rfl, fun r hr' => ?_⟩
    have exr := Ex.new (o := .lst [V.ref tp]) hr'
    have h4r := upd_same (H := H3) (a := r) (o := .lst [V.ref tp])
    have h4t := exr.at h3t
    have h4l := exr.at h3l
    have hr0 : H r = none := fr1.back r (exl.back r (ext.back r hr'))
    generalize upd H3 r (.lst [V.ref tp]) = H4 at exr h4r h4t h4l ⊢
    have ex14 := (exl.trans ext).trans exr
    have hI4 := t.exI hI1 ex14
    have fr4 : Fr t.S H H4 := fr1.trans ex14.fr
    clear hp0 exl ext exr h2l h3t h3l hl htp hr' ex14
    walk_at "wx"
    refine LcW.filt (emb := nV) (xs := l0) (fun x => !decide (x = start)) (SqL.of h4l) (by rw [sizeLine_eq]; omega) (fun x _ H5 ex5 R hR => ?_) (fun x _ _ H5 ex5 Qe hQ => ?_) fun sa H5 hsa ex5 h5 => ?_
    · walk_at "wx"
      have e : decide ((x : Int) = (start : Int)) = decide (x = start) := decide_eq_decide.mpr ⟨fun z => Int.ofNat.inj z, fun z => by rw [z]⟩
      rw [e]
      exact hR _ Ex.refl
    · walk_at "wx"
      exact hQ
    have hsa0 : H sa = none := fr4.back sa hsa
    have h5r := ex5.at h4r
    have h5t := ex5.at h4t
    have h5l := ex5.at h4l
    have nsl : l ≠ sa := ne_of_none h4l hsa
    have hI5 := t.exI hI4 ex5
    have fr5 : Fr t.S H H5 := fr4.trans ex5.fr
    clear h4r h4t h4l hI4 fr4 ex5 hsa
    walk_at "wx"
    refine ⟨len_ok rfl, fun qa hqa => ?_⟩
    have ex6 := Ex.new (o := .lst []) hqa
    have h6q := upd_same (H := H5) (a := qa) (o := .lst [])
    have hqa0 : H qa = none := fr5.back qa hqa
    have nsq : sa ≠ qa := ne_of_none h5 hqa
    have nlq : l ≠ qa := ne_of_none h5l hqa
    generalize upd H5 qa (.lst []) = H6 at ex6 h6q ⊢
    have hI6 := t.exI hI5 ex6
    have fr6 : Fr t.S H H6 := fr5.trans ex6.fr
    have a6 : AskAt H H6 r sa qa [(tp, some l)] (AskSt.run (t.t1 g start) start g room 0) := by
      have e0 : AskSt.run (t.t1 g start) start g room 0 = ⟨[(start, some l0)], l0.filter fun x => !decide (x = start), []⟩ := by
        show AskSt.first (t.t1 g start) start = _
        unfold AskSt.first
        have e1 : t.t1 g start start = some l0 := hl0
        rw [e1]; rfl
      rw [e0]
      refine ⟨⟨ex6.at h5r, rfl, fun i e x he hx => ?_, by simp, by simp, hr0⟩, ex6.at h5, h6q, ⟨hsa0, hqa0⟩, nsq, fun e he => ?_⟩
      · cases i with
        | zero =>
          cases he; cases hx
          exact ⟨ex6.at h5t, htp0, fun l' e => ⟨l, rfl, by cases e; exact ex6.at h5l, hl0'⟩, fun e => by cases e⟩
        | succ i => simp at he
      · rw [List.mem_singleton.mp he]
        exact ⟨fun z => nsl (Option.some.inj z), fun z => nlq (Option.some.inj z)⟩
    have c6 : cs ++ [(start, g, start)] = cs ++ rowC (AskSt.run (t.t1 g start) start g room 0).row g start := rfl
    rw [c6] at hI6
    clear h5r h5t h5l h5 hI5 fr5 ex6 h6q hqa hI1 fr1 c6 nsq nlq nsl hl0'
    have byl : ∀ k, (byN g (AskSt.run (t.t1 g start) start g room k).seen).length < 64 := fun k => byN_lt (fun x hx => ((hok k).sn x hx).1) hnl
    have rl : ∀ k, (AskSt.run (t.t1 g start) start g room k).row.length ≤ 63 := fun k => by have := (hok k).len; omega
    have sl : ∀ k, (AskSt.run (t.t1 g start) start g room k).seen.length ≤ 6300 := fun k => by have := (hok k).sl; have := rl k; omega
    have ql : ∀ k, (AskSt.run (t.t1 g start) start g room k).quiet.length ≤ 63 := fun k => by have := (hok k).ql; have := rl k; omega
    have lst : ∀ k, (standN g room (AskSt.run (t.t1 g start) start g room k).seen (AskSt.run (t.t1 g start) start g room k).quiet).length ≤ 64 := fun k => by
      unfold standN
      refine Nat.le_trans (List.length_take_le' _ _) (Nat.le_trans (nodup_len (byN_nodup _ _) (b := byN g (AskSt.run (t.t1 g start) start g room k).seen) fun x hx => mem_byN.mpr (List.mem_filter.mp (mem_byN.mp hx)).1) ?_)
      have := byl k; omega
    walk_at "wx"
    refine wc_standing rfl rfl (SqL.of a6.sn) (SqL.of a6.qt) ⟨byl 0, by have := sl 0; omega, by have := ql 0; omega⟩ fun la H7 hla ex7 h7 => ?_
    have hS : ∀ b, t.S b → H b ≠ none := fun b z => t.live hI (t.sub _ z)
    have a7 : AskAt H H7 r sa qa [(tp, some l)] (AskSt.run (t.t1 g start) start g room 0) := a6.fr ex7 fun _ z => z.elim
    have hI7 := t.exI hI6 ex7
    have e7 : standN g room (AskSt.run (t.t1 g start) start g room 0).seen (AskSt.run (t.t1 g start) start g room 0).quiet = (AskSt.run (t.t1 g start) start g room 0).left g room := by
      unfold AskSt.left
      refine (List.filter_eq_self.mpr fun x hx => ?_).symm
      have h1 := ((hok 0).sn x (AskSt.mem_stand hx).1).2
      have h2 : (AskSt.run (t.t1 g start) start g room 0).done = [start] := rfl
      rw [h2]; simp [h1]
    rw [e7] at h7
    walk_at "wx"
    refine x_while (W := fun mm σ H' => ∃ (es : List (Addr × Option Addr)) (k : Nat) (la : Addr) (v9 v10 v11 : Option V), σ = [some (.int start), some (.int g), some (.int room), some (.ref f), some (.ref r), some (.ref sa), none, some (.ref qa), some (.ref la), v9, v10, v11] ∧ Fr t.S H H' ∧ AskAt H H' r sa qa es (AskSt.run (t.t1 g start) start g room k) ∧
        H' la = some (.lst (((AskSt.run (t.t1 g start) start g room k).left g room).map nV)) ∧ t.I H' (cs ++ rowC (AskSt.run (t.t1 g start) start g room k).row g start) ∧ mm + k = 64) (m := 64)
      ⟨_, 0, la, _, _, _, rfl, fr6.trans ex7.fr, a7, h7, hI7, rfl⟩ ?_
    clear a6 a7 hI6 hI7 fr6 h7 ex7 hla e7 hl0 hl1 hl2 htp0
    rintro mm σ H8 ⟨es, k, la, v9, v10, v11, rfl, fr8, a8, h8, hI8, hmm⟩
    have hrl := rl k
    have hcsl : (cs ++ rowC (AskSt.run (t.t1 g start) start g room k).row g start).length ≤ 1000000 := by
      unfold rowC; rw [List.length_append, List.length_map]; omega
    walk_at "wx"
    refine x_whD (fun hlt => ?_) fun hge => ?_
    · obtain ⟨x, rest, hx⟩ : ∃ x rest, (AskSt.run (t.t1 g start) start g room k).left g room = x :: rest := by
        cases e : (AskSt.run (t.t1 g start) start g room k).left g room with
        | nil => rw [e] at hlt; simp at hlt
        | cons x rest => exact ⟨x, rest, rfl⟩
      have hkl := AskSt.run_len (k := k) (by rw [hx]; simp)
      have hnext := AskSt.run_next hx
      rw [hx, List.map_cons] at h8
      walk_at "wx"
      refine ⟨f, rfl, (t.fn hI8).1, ?_⟩
      walk_at "wx"
      refine ⟨(t.fn hI8).1, (t.fn hI8).2, ?_⟩
      refine t.say (h := x) (g := g) (a := start) hI8 hcsl (.inl ((hok k).sn x (AskSt.mem_left (by rw [hx]; exact List.mem_cons_self)).1).1) fun v H9 fr9 hI9 ha => ?_
      have a9 := a8.fr fr9 hS
      have fr09 := fr8.trans fr9
      clear hI8 a8 h8 fr8 fr9
      have hqt := a9.qt
      have hro := a9.ra.ro
      have hsn := a9.sn
      have hql := ql k
      have hsl := sl k
      have hel := a9.ra.len
      have nr := a9.rne
      have nF : ∀ b, H b = none → ¬ t.FF b := fun b z => t.new hI z
      walk_at "wx"
      refine x_cut (fun σ' H' => ∃ (es' : List (Addr × Option Addr)), σ' = [some (.int start), some (.int g), some (.int room), some (.ref f), some (.ref r), some (.ref sa), none, some (.ref qa), some (.ref la), some (.int x), some v, v11] ∧ Fr t.S H H' ∧ AskAt H H' r sa qa es' (AskSt.run (t.t1 g start) start g room (k + 1)) ∧ t.I H' (cs ++ rowC (AskSt.run (t.t1 g start) start g room (k + 1)).row g start)) ?_ ?_
      · rw [hnext]
        have e1 : t.t1 g start x = t.tell x g start := rfl
        rw [e1]
        cases e : t.tell x g start with
        | none =>
          rw [e] at ha
          obtain rfl : v = .non := ha
          walk_at "wx"
          have hI10 := t.mut (o := .lst ((AskSt.run (t.t1 g start) start g room k).quiet.map nV ++ [V.int (x : Int)])) hI9 hqt (nF _ a9.new.2)
          have fr10 : Fr t.S H (upd H9 qa (.lst ((AskSt.run (t.t1 g start) start g room k).quiet.map nV ++ [V.int (x : Int)]))) := fr09.mut a9.new.2 hqt
          have h10q := upd_same (H := H9) (a := qa) (o := .lst ((AskSt.run (t.t1 g start) start g room k).quiet.map nV ++ [V.int (x : Int)]))
          have kp10 : ∀ b o, H9 b = some o → b ≠ qa → upd H9 qa (.lst ((AskSt.run (t.t1 g start) start g room k).quiet.map nV ++ [V.int (x : Int)])) b = some o := fun b o h n => by rw [upd_ne n]; exact h
          generalize upd H9 qa (.lst ((AskSt.run (t.t1 g start) start g room k).quiet.map nV ++ [V.int (x : Int)])) = H10 at hI10 fr10 h10q kp10 ⊢
          have h10r := kp10 _ _ hro nr.2
          walk_at "wx"
          refine ⟨len_ok rfl, fun tp htp => ?_⟩
          have ext := Ex.new (o := .tup [V.int (x : Int), .non]) htp
          have h11t := upd_same (H := H10) (a := tp) (o := .tup [V.int (x : Int), .non])
          have htp9 : H9 tp = none := by
            cases z : H9 tp with
            | none => rfl
            | some o =>
              by_cases c : tp = qa
              · rw [c, h10q] at htp; cases htp
              · rw [kp10 _ _ z c] at htp; cases htp
          have kp11 : ∀ b o, H9 b = some o → b ≠ qa → upd H10 tp (.tup [V.int (x : Int), .non]) b = some o := fun b o h n => by
            rw [upd_ne fun z => by rw [z, htp9] at h; cases h]; exact kp10 b o h n
          have h11q := at_new (o := .tup [V.int (x : Int), .non]) htp h10q
          have hI11 := t.exI hI10 ext
          have fr11 := fr10.trans ext.fr
          generalize upd H10 tp (.tup [V.int (x : Int), .non]) = H11 at ext h11t kp11 h11q hI11 fr11 ⊢
          have h11r := kp11 _ _ hro nr.2
          walk_at "wx"
          have ntr : tp ≠ r := fun z => by rw [z, h11r] at h11t; cases h11t
          refine ⟨es ++ [(tp, none)], rfl, fr11.mut a9.ra.nr h11r, ?_, ?_⟩
          · refine a9.step (fun b o _ h n1 n2 n3 => ?_) ?_ ?_ ?_ rfl ⟨?_, fr09.back tp htp9, fun l z => (by cases z), fun _ => rfl⟩ fun l z => by cases z
            · rw [upd_ne n1]; exact kp11 b o h n3
            · rw [upd_same, List.map_append]; rfl
            · rw [upd_ne nr.1.symm]; exact kp11 _ _ hsn a9.ne.1
            · rw [upd_ne nr.2.symm, h11q]
              show _ = some (HO.lst (((AskSt.run (t.t1 g start) start g room k).quiet ++ [x]).map nV))
              rw [List.map_append]; rfl
            · rw [upd_ne ntr]; exact h11t
          · have q2 := t.mut (o := .lst ((es.map fun e => V.ref e.1) ++ [V.ref tp])) hI11 h11r (nF _ a9.ra.nr)
            have ec : cs ++ rowC (AskSt.run (t.t1 g start) start g room k).row g start ++ [(x, g, start)] = cs ++ rowC ((AskSt.run (t.t1 g start) start g room k).add start x none).row g start := by
              show _ = cs ++ rowC ((AskSt.run (t.t1 g start) start g room k).row ++ [(x, none)]) g start
              unfold rowC; rw [List.map_append, List.append_assoc]; rfl
            rw [← ec]; exact q2
        | some l =>
          rw [e] at ha
          obtain ⟨pl, rfl, hpl⟩ := ha
          obtain ⟨hl1, hl2⟩ := t.tl _ _ _ _ e
          walk_at "wx"
          refine x_listL hpl fun lc hlc => ?_
          have ex10 := Ex.new (o := .lst (l.map nV)) hlc
          have h10l := upd_same (H := H9) (a := lc) (o := .lst (l.map nV))
          generalize upd H9 lc (.lst (l.map nV)) = H10 at ex10 h10l ⊢
          refine ⟨len_ok rfl, fun tp htp => ?_⟩
          have ex11 := ex10.newT (o := .tup [nV x, .ref lc]) htp
          have h11t := upd_same (H := H10) (a := tp) (o := .tup [nV x, .ref lc])
          have h11l := at_new (o := .tup [nV x, .ref lc]) htp h10l
          have htp9 : H9 tp = none := ex10.back tp htp
          generalize upd H10 tp (.tup [nV x, .ref lc]) = H11 at ex11 h11t h11l ⊢
          clear h10l ex10 htp
          have h11r := ex11.at hro
          refine x_append h11r (by rw [sizeLine_eq, List.length_map]; omega) ?_
          have ntr : tp ≠ r := fun z => by rw [z, h11r] at h11t; cases h11t
          have nlr : lc ≠ r := fun z => by rw [z, hro] at hlc; cases hlc
          have nls : lc ≠ sa := fun z => by rw [z, hsn] at hlc; cases hlc
          have nlq : lc ≠ qa := fun z => by rw [z, hqt] at hlc; cases hlc
          have nts : tp ≠ sa := fun z => by rw [z, hsn] at htp9; cases htp9
          have hI12 := t.mut (o := .lst ((es.map fun e => V.ref e.1) ++ [V.ref tp])) (t.exI hI9 ex11) h11r (nF _ a9.ra.nr)
          have fr12 : Fr t.S H (upd H11 r (.lst ((es.map fun e => V.ref e.1) ++ [V.ref tp]))) := (fr09.trans ex11.fr).mut a9.ra.nr h11r
          have hpl12 : SqL K (upd H11 r (.lst ((es.map fun e => V.ref e.1) ++ [V.ref tp]))) pl (l.map nV) := (ex11.ls hpl).upd_ne' h11r (refs_ne a9.ra.r0)
          have h12r := upd_same (H := H11) (a := r) (o := .lst ((es.map fun e => V.ref e.1) ++ [V.ref tp]))
          have h12t : upd H11 r (.lst ((es.map fun e => V.ref e.1) ++ [V.ref tp])) tp = _ := (upd_ne ntr).trans h11t
          have h12l : upd H11 r (.lst ((es.map fun e => V.ref e.1) ++ [V.ref tp])) lc = _ := (upd_ne nlr).trans h11l
          have kp12 : ∀ b o, NT o → H9 b = some o → b ≠ r → upd H11 r (.lst ((es.map fun e => V.ref e.1) ++ [V.ref tp])) b = some o := fun b o nt h n => by rw [upd_ne n]; exact ex11.at h nt
          generalize upd H11 r (.lst ((es.map fun e => V.ref e.1) ++ [V.ref tp])) = H12 at hI12 fr12 hpl12 h12r h12t h12l kp12 ⊢
          clear h11r h11t h11l ex11
          have h12s := kp12 _ _ (by trivial) hsn nr.1.symm
          have h12q := kp12 _ _ (by trivial) hqt nr.2.symm
          walk_at "wx"
          refine LcW.filt (emb := nV) (xs := l) (fun y => !decide (y = start)) hpl12 (by rw [sizeLine_eq]; omega) (fun y _ H13 ex13 R hR => ?_) (fun y _ _ H13 ex13 Qe hQ => ?_) fun p5 H13 hp5 ex13 h13 => ?_
          · walk_at "wx"
            have e : decide ((y : Int) = (start : Int)) = decide (y = start) := decide_eq_decide.mpr ⟨fun z => Int.ofNat.inj z, fun z => by rw [z]⟩
            rw [e]
            exact hR _ Ex.refl
          · walk_at "wx"
            exact hQ
          have h13s := ex13.at h12s
          refine x_extend h13s h13 (by rw [sizeLine_eq, List.length_map, List.length_map]; have := List.length_filter_le (fun y => !decide (y = start)) l; omega) ?_
          have fr13 : Fr t.S H H13 := fr12.trans ex13.fr
          refine ⟨es ++ [(tp, some lc)], rfl, fr13.mut a9.new.1 h13s, ?_, ?_⟩
          · refine a9.step (fun b o nt h n1 n2 n3 => ?_) ?_ ?_ ?_ rfl ⟨?_, fr09.back tp htp9, fun l' z => ⟨lc, rfl, ?_, fr09.back lc hlc⟩, fun z => (by cases z)⟩ fun l' z => by cases z; exact ⟨nls, nlq, hlc⟩
            · rw [upd_ne n2]; exact ex13.at (kp12 b o nt h n1) nt
            · rw [upd_ne nr.1, ex13.at h12r, List.map_append]; rfl
            · rw [upd_same]
              show _ = some (HO.lst (((AskSt.run (t.t1 g start) start g room k).seen ++ l.filter fun y => !decide (y = start)).map nV))
              rw [List.map_append]
            · rw [upd_ne a9.ne.1.symm]; exact ex13.at h12q
            · rw [upd_ne nts]; exact ex13.at h12t
            · cases z; rw [upd_ne nls]; exact ex13.at h12l
          · have q2 := t.mut (o := .lst ((AskSt.run (t.t1 g start) start g room k).seen.map nV ++ (l.filter fun y => !decide (y = start)).map nV)) (t.exI hI12 ex13) h13s (nF _ a9.new.1)
            have ec : cs ++ rowC (AskSt.run (t.t1 g start) start g room k).row g start ++ [(x, g, start)] = cs ++ rowC ((AskSt.run (t.t1 g start) start g room k).add start x (some l)).row g start := by
              show _ = cs ++ rowC ((AskSt.run (t.t1 g start) start g room k).row ++ [(x, some l)]) g start
              unfold rowC; rw [List.map_append, List.append_assoc]; rfl
            rw [← ec]; exact q2
      · rintro σ' H12 ⟨es', rfl, fr12, a12, hI12⟩
        have hro2 := a12.ra.ro
        have hrl2 := rl (k + 1)
        have hsl2 := sl (k + 1)
        have hql2 := ql (k + 1)
        clear hI9 a9 fr09 hqt hro hsn
        walk_at "wx"
        refine LcW.row (by decide) hro2 a12.ra.len (by omega) (fun i e y he hy => (a12.ra.at_ i e y he hy).tp) (by simp) fun D H13 hD ex13 h13 => ?_
        have a13 := a12.fr ex13 fun _ z => z.elim
        have hI13 := t.exI hI12 ex13
        walk_at "wx"
        refine wc_standing rfl rfl (SqL.of a13.sn) (SqL.of a13.qt) ⟨byl (k + 1), by omega, by omega⟩ fun p14 H14 hp14 ex14 h14 => ?_
        have a14 := a13.fr ex14 fun _ z => z.elim
        have hI14 := t.exI hI13 ex14
        have h14d := ex14.at h13
        have hdl : (AskSt.run (t.t1 g start) start g room (k + 1)).row.length ≤ 63 := hrl2
        walk_at "wx"
        refine LcW.filt (emb := nV) (xs := standN g room (AskSt.run (t.t1 g start) start g room (k + 1)).seen (AskSt.run (t.t1 g start) start g room (k + 1)).quiet) (fun y => !decide (y ∈ (AskSt.run (t.t1 g start) start g room (k + 1)).row.map (·.1))) (SqL.of h14) (by rw [sizeLine_eq]; have := lst (k + 1); omega) (fun y _ H15 ex15 R hR => ?_) (fun y _ _ H15 ex15 Qe hQ => ?_) fun p15 H15 hp15 ex15 h15 => ?_
        · walk_at "wx"
          exact hR _ Ex.refl
        · walk_at "wx"
          exact hQ
        walk_at "wx"
        exact ⟨mm - 1, by omega, es', k + 1, p15, _, _, _, rfl, ((fr12.trans ex13.fr).trans ex14.fr).trans ex15.fr, a14.fr ex15 fun _ z => z.elim, h15, t.exI hI14 ex15, by omega⟩
    · have hnil : (AskSt.run (t.t1 g start) start g room k).left g room = [] := by
        rw [List.length_map] at hge
        exact List.eq_nil_of_length_eq_zero (by omega)
      have hend := askEnd_eq (by omega) hnil
      have hsl := sl k
      have hql := ql k
      walk_at "wx"
      refine wc_standing rfl rfl (SqL.of a8.sn) (SqL.of a8.qt) ⟨byl k, by omega, by omega⟩ fun fd H9 hfd ex9 h9 => ?_
      refine ⟨len_ok rfl, fun p hp => ?_⟩
      have exp := Ex.new (o := .tup [V.ref r, V.ref fd]) hp
      have ex10 := ex9.trans exp
      refine q p r fd es _ (fr8.trans ex10.fr) (fr8.back p (ex9.back p hp)) upd_same ?_ (fr8.back fd hfd) ?_ (fun e he c => ?_) ?_
      · rw [hend]; exact a8.ra.fr ex10 fun _ z => z.elim
      · unfold askFound; rw [hend]; exact exp.at h9
      · obtain ⟨y, _, re⟩ := a8.ra.el he
        obtain ⟨_, _, g2, _⟩ := re.cell c
        rw [g2] at hfd; cases hfd
      · rw [hend]; exact t.exI hI8 ex10
end
end Nn
/-! towns: what they do -/
namespace Nn
open PySem L2
section
variable {P : Program} {w : World} {K : PySem.W.Frag} {mg : Str → Option Value} {base : Heap} {H : Hp} {Q : VK} {E : XK}
/-- what may be handed in, of any kind -/
inductive Thing (H : Hp) : V → Prop
  | int (i : Int) : Thing H (.int i)
  | bl (b : Bool) : Thing H (.bl b)
  | str (z : Str) : Thing H (.str z)
  | non : Thing H .non
  | lst {a : Addr} {xs : List V} : H a = some (.lst xs) → Thing H (.ref a)
  | tup {a : Addr} {xs : List V} : H a = some (.tup xs) → Thing H (.ref a)
  | dict {a : Addr} {kvs : List (Key × V)} : H a = some (.dK kvs) → Thing H (.ref a)
theorem Thing.ex {H' : Hp} {v : V} (t : Thing H v) (e : Ex H H') : Thing H' v := by
  cases t with
  | int i => exact .int i
  | bl b => exact .bl b
  | str z => exact .str z
  | non => exact .non
  | lst h => exact .lst (e.at h)
  | tup h => exact .tup (e.at h)
  | dict h => exact .dict (e.at h)
/-- whether it is a name, a size -/
def isnV (v : V) (wd : Nat) : Bool := match v with
  | .int i => decide (0 ≤ i ∧ i < ((2 ^ wd : Nat) : Int))
  | _ => false
def issV (v : V) (k : Nat) : Bool := match v with
  | .int i => decide (1 ≤ i ∧ i ≤ (k : Int))
  | _ => false
def sp_is_name (_ : Tx K mg base) : Sp := fun vs H Q _ => ∃ (v : V) (wd : Nat), vs = [v, .int wd] ∧ wd ≤ 60 ∧ Thing H v ∧ Q (.bl (isnV v wd)) H
theorem wc_is_name {T : Tx K mg base} {n wd : Nat} {i j : Int} (e0 : i = n) (e1 : j = wd) (c0 : wd ≤ 60) (h : Q (.bl (decide (n < 2 ^ wd))) H) : sp_is_name T [.int i, .int j] H Q E := by
  subst e0 e1
  refine ⟨.int n, wd, rfl, c0, .int _, ?_⟩
  have e : isnV (.int (n : Int)) wd = decide (n < 2 ^ wd) := decide_eq_decide.mpr ⟨fun z => Int.ofNat_lt.mp z.2, fun z => ⟨Int.natCast_nonneg _, Int.ofNat_lt.mpr z⟩⟩
  rw [e]; exact h
theorem wg_is_name {T : Tx K mg base} {v : V} {wd : Nat} {j : Int} (e1 : j = wd) (c0 : wd ≤ 60) (t : Thing H v) (h : Q (.bl (isnV v wd)) H) : sp_is_name T [v, .int j] H Q E := by
  subst e1; exact ⟨v, wd, rfl, c0, t, h⟩
theorem ok_is_name (T : Tx K mg base) : FnOk P w K mg base CX0 1 T.a_is_name T.d_is_name ["thing", "wide"] (sp_is_name T) := by
  refine T.F_is_name.okD sc_is_name (fun vs H Q E h => ?_) (fun cdv A outer s H vs Q E hr h => ?_)
  · obtain ⟨v, wd, rfl, _⟩ := h; rfl
  · obtain ⟨v, wd, rfl, hw, t, q⟩ := h
    have hu := hu_of hr
    have c_Bucket := T.c_Bucket; have n_Bucket_room := T.n_Bucket_room; have n_Bucket_line := T.n_Bucket_line; have c_Table := T.c_Table; have n_Table_own := T.n_Table_own; have n_Table_wide := T.n_Table_wide; have n_Table_room := T.n_Table_room; have n_Table_buckets := T.n_Table_buckets; have c_Town := T.c_Town; have n_Town_wide := T.n_Town_wide; have n_Town_room := T.n_Town_room; have n_Town_tables := T.n_Town_tables; have n_Town_hushed := T.n_Town_hushed
    refine ⟨_, (pss_one (ps_ret (pe_and (pe_callB call_isi (by rfl) T.z_isinstance (by decide +kernel) (pa_cons (pv 0) (pa_cons (pe_bltn (v := .ty "int") rfl T.z_int (by decide +kernel) rfl) pa_nil))) (pe_and (pe_not (pe_callB call_isi (by rfl) T.z_isinstance (by decide +kernel) (pa_cons (pv 0) (pa_cons (pe_bltn (v := .ty "bool") rfl T.z_bool (by decide +kernel) rfl) pa_nil)))) (pe_one (pe_chain op_le op_lt pe_int (pv 0) (pe_op op_shl1 pe_int (pv 1)))))))), ?_⟩
    rw [Nn.st_is_name]; try rw [Nn.cxK]
    try rw [Nn.cxW]
    cases t with
    | int i =>
      walk_at "wx"
      refine x_ite (fun h => ?_) fun h => ?_
      · walk_at "wx"
        have e : isnV (.int i) wd = decide (i < ((2 ^ wd : Nat) : Int)) := decide_eq_decide.mpr ⟨fun z => z.2, fun z => ⟨h, z⟩⟩
        rw [e] at q; exact q
      · have e : isnV (.int i) wd = false := decide_eq_false fun z => h z.1
        rw [e] at q; exact q
    | bl b => walk_at "wx"; exact q
    | str z => walk_at "wx"; exact q
    | non => walk_at "wx"; exact q
    | lst h => walk_at "wx"; exact q
    | tup h => walk_at "wx"; exact q
    | dict h => walk_at "wx"; exact q
def sp_is_size (_ : Tx K mg base) : Sp := fun vs H Q _ => ∃ (v : V) (k : Nat), vs = [v, .int k] ∧ Thing H v ∧ Q (.bl (issV v k)) H
theorem wc_is_size {T : Tx K mg base} {n k : Nat} {i j : Int} (e0 : i = n) (e1 : j = k) (h : Q (.bl (decide (1 ≤ n ∧ n ≤ k))) H) : sp_is_size T [.int i, .int j] H Q E := by
  subst e0 e1
  refine ⟨.int n, k, rfl, .int _, ?_⟩
  have e : issV (.int (n : Int)) k = decide (1 ≤ n ∧ n ≤ k) := decide_eq_decide.mpr ⟨fun z => ⟨by omega, by omega⟩, fun z => ⟨by omega, by omega⟩⟩
  rw [e]; exact h
theorem wg_is_size {T : Tx K mg base} {v : V} {k : Nat} {j : Int} (e1 : j = k) (t : Thing H v) (h : Q (.bl (issV v k)) H) : sp_is_size T [v, .int j] H Q E := by
  subst e1; exact ⟨v, k, rfl, t, h⟩
theorem ok_is_size (T : Tx K mg base) : FnOk P w K mg base CX0 1 T.a_is_size T.d_is_size ["thing", "most"] (sp_is_size T) := by
  refine T.F_is_size.okD sc_is_size (fun vs H Q E h => ?_) (fun cdv A outer s H vs Q E hr h => ?_)
  · obtain ⟨v, k, rfl, _⟩ := h; rfl
  · obtain ⟨v, k, rfl, t, q⟩ := h
    have hu := hu_of hr
    have c_Bucket := T.c_Bucket; have n_Bucket_room := T.n_Bucket_room; have n_Bucket_line := T.n_Bucket_line; have c_Table := T.c_Table; have n_Table_own := T.n_Table_own; have n_Table_wide := T.n_Table_wide; have n_Table_room := T.n_Table_room; have n_Table_buckets := T.n_Table_buckets; have c_Town := T.c_Town; have n_Town_wide := T.n_Town_wide; have n_Town_room := T.n_Town_room; have n_Town_tables := T.n_Town_tables; have n_Town_hushed := T.n_Town_hushed
    refine ⟨_, (pss_one (ps_ret (pe_and (pe_callB call_isi (by rfl) T.z_isinstance (by decide +kernel) (pa_cons (pv 0) (pa_cons (pe_bltn (v := .ty "int") rfl T.z_int (by decide +kernel) rfl) pa_nil))) (pe_and (pe_not (pe_callB call_isi (by rfl) T.z_isinstance (by decide +kernel) (pa_cons (pv 0) (pa_cons (pe_bltn (v := .ty "bool") rfl T.z_bool (by decide +kernel) rfl) pa_nil)))) (pe_one (pe_chain op_le op_le pe_int (pv 0) (pv 1))))))), ?_⟩
    rw [Nn.st_is_size]; try rw [Nn.cxK]
    try rw [Nn.cxW]
    cases t with
    | int i =>
      walk_at "wx"
      refine x_ite (fun h => ?_) fun h => ?_
      · walk_at "wx"
        have e : issV (.int i) k = decide (i ≤ (k : Int)) := decide_eq_decide.mpr ⟨fun z => z.2, fun z => ⟨h, z⟩⟩
        rw [e] at q; exact q
      · have e : issV (.int i) k = false := decide_eq_false fun z => h z.1
        rw [e] at q; exact q
    | bl b => walk_at "wx"; exact q
    | str z => walk_at "wx"; exact q
    | non => walk_at "wx"; exact q
    | lst h => walk_at "wx"; exact q
    | tup h => walk_at "wx"; exact q
    | dict h => walk_at "wx"; exact q
end
end Nn
local macro_rules | `(tactic| walk_at "wc") => `(tactic| ((with_reducible refine' Nn.wc_is_name ?hE0 ?hE1 ?hC0 ?_); (case hE0 => walk_at "wnat"); (case hE1 => walk_at "wnat"); (case hC0 => walk_at "wpre")))
local macro_rules | `(tactic| walk_at "wc") => `(tactic| ((with_reducible refine' Nn.wc_is_size ?hE0 ?hE1 ?_); (case hE0 => walk_at "wnat"); (case hE1 => walk_at "wnat")))
namespace Nn
open PySem L2
/-- where a town's things lie -/
structure TA where
  t : Addr
  td : Addr
  hd : Addr
  pa : Nat → Addr
  la : Nat → List Addr
section
variable {P : Program} {w : World} {K : PySem.W.Frag} {mg : Str → Option Value} {base : Heap} {H : Hp} {Q : VK} {E : XK}
/-- the town m lies at A; all of it is of F -/
structure TownAt (T : Tx K mg base) (H : Hp) (A : TA) (F : Addr → Prop) (m : TM) : Prop where
  tw : TwAt T H A.t A.td A.hd m.wide m.room m.houses A.pa m.hush
  ft : F A.t ∧ F A.td ∧ F A.hd
  tab : ∀ h ∈ m.houses, TabAt T H (A.pa h) h m.wide m.room (A.la h) ∧ Lines H (A.la h) (m.tab h)
  own : ∀ h ∈ m.houses, F (A.pa h) ∧ TabOwn T H (A.pa h) F ∧ ∀ l ∈ A.la h, F l
  dj : ∀ h1 ∈ m.houses, ∀ h2 ∈ m.houses, h1 ≠ h2 → ∀ l ∈ A.la h1, l ∉ A.la h2
  ex : ∀ a, F a → H a ≠ none
  ne : A.td ≠ A.hd
variable {T : Tx K mg base} {H' : Hp} {A : TA} {F S : Addr → Prop} {m : TM}
theorem TwAt.fr {t td hd : Addr} {wide room : Nat} {hs : List Nat} {pa : Nat → Addr} {qs : List Nat} (a : TwAt T H t td hd wide room hs pa qs) (f : Fr S H H') (h1 : ¬ S t) (h2 : ¬ S td) (h3 : ¬ S hd) : TwAt T H' t td hd wide room hs pa qs := by
  obtain ⟨dx, ob⟩ := a.ob
  exact ⟨⟨dx, f.at ob h1⟩, f.at a.tb h2, f.at a.hb h3⟩
theorem TownAt.fr (t : TownAt T H A F m) (f : Fr S H H') (h : ∀ a, S a → ¬ F a) : TownAt T H' A F m := by
  have no : ∀ {a : Addr}, F a → ¬ S a := fun x y => h _ y x
  refine ⟨t.tw.fr f (no t.ft.1) (no t.ft.2.1) (no t.ft.2.2), t.ft, fun k hk => ?_, fun k hk => ?_, t.dj, fun a ha e => t.ex a ha (f.back a e), t.ne⟩
  · obtain ⟨t1, t2⟩ := t.tab k hk
    obtain ⟨o1, o2, o3⟩ := t.own k hk
    obtain ⟨dx, bl, bs, h1, h2, h3, h4⟩ := t1.ob
    have q := o2 dx bl _ _ _ bs h1 h2
    refine ⟨⟨t1.w0, t1.w1, t1.r0, t1.r1, t1.len, dx, bl, bs, f.at h1 (no o1), f.at h2 (no q.1), h3, fun i b l e1 e2 => (h4 i b l e1 e2).fr f (no (q.2 b (List.mem_of_getElem? e1)))⟩, t2.fr f fun l hl => no (o3 l hl)⟩
  · obtain ⟨o1, o2, o3⟩ := t.own k hk
    exact ⟨o1, o2.fr (t.tab k hk).1 f (fun a x => .inl (h a x)) (no o1), o3⟩
theorem TownAt.ex' (t : TownAt T H A F m) (f : Ex H H') : TownAt T H' A F m := t.fr f fun _ z => z.elim
/-- the lines of one house change -/
theorem TownAt.line {h : Nat} {xss : List (List Nat)} (t : TownAt T H A F m) (f : Fr S H H') (hs : ∀ a, S a → a ∈ A.la h) (hm : h ∈ m.houses) (L : Lines H' (A.la h) xss) : TownAt T H' A F (m.setTab h xss) := by
  have isl : ∀ {a : Addr}, S a → IsLine H a := fun z => (t.tab h hm).2.is (hs _ z)
  have no : ∀ {a : Addr} {o : HO}, H a = some o → (∀ xs : List Nat, o ≠ .lst (xs.map nV)) → ¬ S a := fun {a o} e n z => by
    obtain ⟨xs, e2⟩ := isl z
    rw [e] at e2
    exact n xs (Option.some.inj e2)
  obtain ⟨dx, ob⟩ := t.tw.ob
  have tw' := t.tw.fr f (no ob fun _ z => by cases z) (no t.tw.tb fun _ z => by cases z) (no t.tw.hb fun _ z => by cases z)
  have pno : ∀ k ∈ m.houses, ¬ S (A.pa k) := fun k hk => by
    obtain ⟨dx, bl, bs, h1, _⟩ := (t.tab k hk).1.ob
    exact no h1 fun _ z => by cases z
  refine ⟨by rw [TM.setTab_houses]; exact tw', t.ft, fun k hk => ?_, fun k hk => ?_, by rw [TM.setTab_houses]; exact t.dj, fun a ha e => t.ex a ha (f.back a e), t.ne⟩
  · rw [TM.setTab_houses] at hk
    refine ⟨(t.tab k hk).1.fr f fun a z => .inl (isl z), ?_⟩
    rw [TM.setTab_tab]
    by_cases e : k = h
    · rw [if_pos ⟨e, hm⟩, e]; exact L
    · rw [if_neg fun z => e z.1]
      exact (t.tab k hk).2.fr f fun l hl z => t.dj k hk h hm e l hl (hs l z)
  · rw [TM.setTab_houses] at hk
    obtain ⟨o1, o2, o3⟩ := t.own k hk
    exact ⟨o1, o2.fr (t.tab k hk).1 f (fun a x => .inr (isl x)) (pno k hk), o3⟩
/-- neither an instance nor a list of objects -/
def Soft (H : Hp) (a : Addr) : Prop := ∀ o, H a = some o → (∀ C dx fs, o ≠ .ins C dx fs) ∧ ∀ b r, o ≠ .lst (.ref b :: r)
theorem Soft.dict {a : Addr} {kvs : List (Key × V)} (h : H a = some (.dK kvs)) : Soft H a := fun o e => by
  rw [h] at e; cases e
  exact ⟨fun _ _ _ z => (by cases z), fun _ _ z => (by cases z)⟩
theorem Soft.line {a : Addr} (h : IsLine H a) : Soft H a := fun o e => by
  obtain ⟨xs, h⟩ := h
  rw [h] at e; cases e
  refine ⟨fun _ _ _ z => (by cases z), fun b r z => ?_⟩
  cases xs with
  | nil => cases z
  | cons x r => cases z
theorem TabAt.soft {p : Addr} {own wide room : Nat} {ls : List Addr} (t : TabAt T H p own wide room ls) (f : Fr S H H') (h : ∀ a, S a → Soft H a) : TabAt T H' p own wide room ls := by
  obtain ⟨dx, bl, bs, h1, h2, h3, h4⟩ := t.ob
  refine ⟨t.w0, t.w1, t.r0, t.r1, t.len, dx, bl, bs, f.at h1 fun z => (h _ z _ h1).1 _ _ _ rfl, f.at h2 fun z => ?_, h3, fun i b l e1 e2 => (h4 i b l e1 e2).fr f fun z => ?_⟩
  · have w0 := t.w0
    cases bs with
    | nil => simp at h3; omega
    | cons b r => exact (h _ z _ h2).2 _ _ rfl
  · obtain ⟨dy, hy⟩ := (h4 i b l e1 e2).ob
    exact (h _ z _ hy).1 _ _ _ rfl
theorem TabOwn.soft {p : Addr} {own wide room : Nat} {ls : List Addr} (o : TabOwn T H p F) (t : TabAt T H p own wide room ls) (f : Fr S H H') (h : ∀ a, S a → Soft H a) : TabOwn T H' p F := by
  obtain ⟨dx, bl, bs, h1, h2, h3, h4⟩ := t.ob
  have q := o dx bl _ _ _ bs h1 h2
  have hb : ¬ S bl := fun z => by
    have w0 := t.w0
    cases bs with
    | nil => simp at h3; omega
    | cons b r => exact (h _ z _ h2).2 _ _ rfl
  intro dx' bl' x y z bs' e1 e2
  rw [f.at h1 fun z => (h _ z _ h1).1 _ _ _ rfl] at e1
  cases e1
  rw [f.at h2 hb] at e2
  have e := HO.lst.inj (Option.some.inj e2)
  rw [← refs_inj e]
  exact q
theorem TabOwn.live {p : Addr} {own wide room : Nat} {ls : List Addr} (o : TabOwn T H p F) (t : TabAt T H p own wide room ls) : TabOwn T H p (fun a => F a ∧ H a ≠ none) := by
  obtain ⟨dx, bl, bs, h1, h2, h3, h4⟩ := t.ob
  have q := o dx bl _ _ _ bs h1 h2
  intro dx' bl' x y z bs' e1 e2
  rw [h1] at e1
  cases e1
  rw [h2] at e2
  have e := HO.lst.inj (Option.some.inj e2)
  rw [← refs_inj e]
  refine ⟨⟨q.1, by rw [h2]; exact fun z => by cases z⟩, fun b hb => ⟨q.2 b hb, ?_⟩⟩
  obtain ⟨i, hi⟩ := List.getElem?_of_mem hb
  have hil : i < ls.length := by rw [t.len, ← h3]; exact (List.getElem?_eq_some_iff.mp hi).1
  obtain ⟨dy, hy⟩ := (h4 i b _ hi (List.getElem?_eq_getElem hil)).ob
  rw [hy]; exact fun z => by cases z
theorem Fr.trans2 {F F' : Addr → Prop} {H H1 H2 : Hp} (a : Fr F H H1) (b : Fr F' H1 H2) (h : ∀ x, F' x → F x ∨ H x = none) : Fr F H H2 :=
  ⟨fun x o e n s => b.keep x o (a.keep x o e n s) n fun z => (h x z).elim s fun z => (by rw [e] at z; cases z), fun P t => b.tab P (a.tab P t), fun x e => a.back x (b.back x e)⟩
def sp_Town_houses (T : Tx K mg base) : Sp := fun vs H Q _ => ∃ (A : TA) (F : Addr → Prop) (m : TM), vs = [.ref A.t] ∧ TownAt T H A F m ∧ m.houses.length < 64 ∧ m.houses.Nodup ∧ ∀ p, H p = none → Q (.ref p) (upd H p (.lst ((sortU m.houses).map nV)))
theorem wc_Town_houses (t : TownAt T H A F m) (hz : m.houses.length < 64) (nd : m.houses.Nodup) (h : ∀ p, H p = none → Q (.ref p) (upd H p (.lst ((sortU m.houses).map nV)))) : sp_Town_houses T [.ref A.t] H Q E := ⟨A, F, m, rfl, t, hz, nd, h⟩
theorem x_sortDN {H : Hp} {Q : VK} {a : Addr} {hs : List Nat} {f : Nat → V} (hd : Rd H a (.dK (dOf hs f))) (hz : hs.length < 64) (nd : hs.Nodup) (h : ∀ p, H p = none → Q (.ref p) (upd H p (.lst ((sortU hs).map nV)))) : rSortDI [.ref a] H Q := by
  refine ⟨a, _, hs.map fun n : Nat => (n : Int), rfl, hd, dOf_keys, by rw [List.length_map]; exact hz, fun ys p hperm hsort hp => ?_⟩
  obtain ⟨zs, rfl⟩ : ∃ zs : List Nat, ys = zs.map fun n : Nat => (n : Int) := by
    refine ⟨ys.map Int.toNat, ?_⟩
    rw [List.map_map]
    refine (List.map_id ys).symm.trans (List.map_congr_left fun y hy => ?_)
    obtain ⟨n, _, rfl⟩ := List.mem_map.mp (hperm.mem_iff.mp hy)
    simp
  have hzs : zs = sortU hs := by
    have hmem : ∀ z, z ∈ zs ↔ z ∈ hs := fun z => by
      rw [← mem_cast (l := zs), ← mem_cast (l := hs)]
      exact hperm.mem_iff
    refine rising_eq ?_ (sortU_sorted _) fun z => by rw [hmem, mem_sortU]
    have nz : zs.Nodup := by
      have q : (zs.map fun n : Nat => (n : Int)).Nodup := hperm.nodup_iff.mpr (List.Pairwise.map _ (fun a b h e => h (Int.ofNat.inj e)) nd)
      exact (List.pairwise_map.mp q).imp fun h e => h (by rw [e])
    have le : zs.Pairwise (· ≤ ·) := (List.pairwise_map.mp hsort).imp fun h => by omega
    exact (nz.and le).imp fun h => by omega
  rw [hzs, ← map_nV]
  exact h p hp
theorem ok_Town_houses (T : Tx K mg base) : FnOk P w K mg base CX0 1 T.a_Town_houses T.d_Town_houses ["self"] (sp_Town_houses T) := by
  refine T.F_Town_houses.okD sc_Town_houses (fun vs H Q E h => ?_) (fun cdv A outer s H vs Q E hr h => ?_)
  · obtain ⟨A, F, m, rfl, _⟩ := h; rfl
  · obtain ⟨A1, F, m, rfl, t, hz, nd, q⟩ := h
    obtain ⟨dx, ob⟩ := t.tw.ob
    have c_Bucket := T.c_Bucket; have n_Bucket_room := T.n_Bucket_room; have n_Bucket_line := T.n_Bucket_line; have c_Table := T.c_Table; have n_Table_own := T.n_Table_own; have n_Table_wide := T.n_Table_wide; have n_Table_room := T.n_Table_room; have n_Table_buckets := T.n_Table_buckets; have c_Town := T.c_Town; have n_Town_wide := T.n_Town_wide; have n_Town_room := T.n_Town_room; have n_Town_tables := T.n_Town_tables; have n_Town_hushed := T.n_Town_hushed
    refine ⟨_, (pss_one (ps_ret (pe_callB (cb_sortD rfl) (by rfl) T.z_sorted (by decide +kernel) (pa_cons (pe_fld (pv 0) rfl) pa_nil)))), ?_⟩
    rw [Nn.st_Town_houses]; try rw [Nn.cxK]
    try rw [Nn.cxW]
    walk_at "wx"
    exact x_sortDN (.inl t.tw.tb) hz nd q
theorem TM.aw_eq {m : TM} : awB m.houses m.hush = m.aw := rfl
theorem TwAt.ans {T : Tx K mg base} {n : Nat} {i : Int} (hi : i = n) (t : TownAt T H A F m) (h : Q (.bl (m.aw n)) H) : sp_Town_answers T [.ref A.t, .int i] H Q E := wc_Town_answers hi t.tw h
def sp_Town_answering (T : Tx K mg base) : Sp := fun vs H Q _ => ∃ (A : TA) (F : Addr → Prop) (m : TM), vs = [.ref A.t] ∧ TownAt T H A F m ∧ m.houses.length < 64 ∧ m.houses.Nodup ∧ ∀ p H', H p = none → Ex H H' → H' p = some (.lst (m.live.map nV)) → Q (.ref p) H'
theorem wc_Town_answering (t : TownAt T H A F m) (hz : m.houses.length < 64) (nd : m.houses.Nodup) (h : ∀ p H', H p = none → Ex H H' → H' p = some (.lst (m.live.map nV)) → Q (.ref p) H') : sp_Town_answering T [.ref A.t] H Q E := ⟨A, F, m, rfl, t, hz, nd, h⟩
theorem ok_Town_answering (T : Tx K mg base) : FnOk P w K mg base CX0 2 T.a_Town_answering T.d_Town_answering ["self"] (sp_Town_answering T) := by
  refine T.F_Town_answering.okD sc_Town_answering (fun vs H Q E h => ?_) (fun cdv A outer s H vs Q E hr h => ?_)
  · obtain ⟨A, F, m, rfl, _⟩ := h; rfl
  · obtain ⟨A1, F, m, rfl, t, hz, nd, q⟩ := h
    obtain ⟨dx, ob⟩ := t.tw.ob
    have c_Bucket := T.c_Bucket; have n_Bucket_room := T.n_Bucket_room; have n_Bucket_line := T.n_Bucket_line; have c_Table := T.c_Table; have n_Table_own := T.n_Table_own; have n_Table_wide := T.n_Table_wide; have n_Table_room := T.n_Table_room; have n_Table_buckets := T.n_Table_buckets; have c_Town := T.c_Town; have n_Town_wide := T.n_Town_wide; have n_Town_room := T.n_Town_room; have n_Town_tables := T.n_Town_tables; have n_Town_hushed := T.n_Town_hushed
    refine ⟨_, (pss_one (ps_ret (pe_lc (own := [("house", 1)]) (g := (gName 1)) (by rfl) sc_Town_answering.nd (pi_list (pe_meth0 (pv 0) T.c_Town T.t_Town_houses (ok_Town_houses T) hr T.b_Town_houses .nil pass0)) (blkOk_by (N := N_Town_answering) (sc := defScope s_Town_answering) (own := [("house", 1)]) (by decide +kernel)) (fun _ _ _ _ _ => (pg_name (i := 1) sc_Town_answering.nd rfl (Or.inl rfl))) (fun _ _ _ _ _ => pts_one ((pt_val (pe_meth (pv 0) T.c_Town T.t_Town_answers (ok_Town_answers T) hr T.b_Town_answers .nil pass0 (pa_cons (pv 1) pa_nil))))) (fun _ _ _ _ _ => (pv 1))))), ?_⟩
    rw [Nn.st_Town_answering]; try rw [Nn.cxK]
    try rw [Nn.cxW]
    walk_at "wx"
    refine wc_Town_houses t hz nd fun p hp => ?_
    have hl : (sortU m.houses).length < 64 := Nat.lt_of_le_of_lt (nodup_len (rising_nodup (sortU_sorted _)) fun z hz => mem_sortU.mp hz) hz
    walk_at "wx"
    refine LcW.filt (emb := nV) (xs := sortU m.houses) m.aw (SqL.of upd_same) (by rw [sizeLine_eq]; omega) (fun n _ H2 ex2 R hR => ?_) (fun n _ _ H2 ex2 Qe hQ => ?_) fun D H2 hD ex2 hD2 => ?_
    · have t2 := t.ex' ((Ex.new hp).trans ex2)
      obtain ⟨dx2, ob2⟩ := t2.tw.ob
      walk_at "wx"
      refine TwAt.ans rfl t2 ?_
      walk_at "wx"
      exact hR _ Ex.refl
    · walk_at "wx"
      exact hQ
    · exact q D H2 (upd_back hD) ((Ex.new hp).trans ex2) hD2
def sp_Town_table (T : Tx K mg base) : Sp := fun vs H Q _ => ∃ (A : TA) (F : Addr → Prop) (m : TM) (h : Nat), vs = [.ref A.t, .int h] ∧ TownAt T H A F m ∧ m.wide ≤ 60 ∧ h < 2 ^ m.wide ∧ h ∈ m.houses ∧ Q (.ref (A.pa h)) H
theorem wc_Town_table {h : Nat} {i : Int} (hi : i = h) (t : TownAt T H A F m) (w1 : m.wide ≤ 60) (hb : h < 2 ^ m.wide) (hm : h ∈ m.houses) (q : Q (.ref (A.pa h)) H) : sp_Town_table T [.ref A.t, .int i] H Q E := by
  subst hi; exact ⟨A, F, m, h, rfl, t, w1, hb, hm, q⟩
theorem ok_Town_table (T : Tx K mg base) : FnOk P w K mg base CX0 2 T.a_Town_table T.d_Town_table ["self", "house"] (sp_Town_table T) := by
  refine T.F_Town_table.okD sc_Town_table (fun vs H Q E h => ?_) (fun cdv A outer s H vs Q E hr h => ?_)
  · obtain ⟨A, F, m, n, rfl, _⟩ := h; rfl
  · obtain ⟨A1, F, m, n, rfl, t, w1, hb, hm, q⟩ := h
    obtain ⟨dx, ob⟩ := t.tw.ob
    have tb := t.tw.tb
    have hu := hu_of hr
    have e1 : (valV (dOf m.houses fun h => .ref (A1.pa h)) (Sum.inl (n : Int))).isSome = decide (n ∈ m.houses) := dOf_has
    have e2 : valV (dOf m.houses fun h => .ref (A1.pa h)) (Sum.inl (n : Int)) = some (.ref (A1.pa n)) := by
      have q := dOf_val (f := fun h => V.ref (A1.pa h)) (n := n) (hs := m.houses)
      rw [if_pos hm] at q; exact q
    have c_Bucket := T.c_Bucket; have n_Bucket_room := T.n_Bucket_room; have n_Bucket_line := T.n_Bucket_line; have c_Table := T.c_Table; have n_Table_own := T.n_Table_own; have n_Table_wide := T.n_Table_wide; have n_Table_room := T.n_Table_room; have n_Table_buckets := T.n_Table_buckets; have c_Town := T.c_Town; have n_Town_wide := T.n_Town_wide; have n_Town_room := T.n_Town_room; have n_Town_tables := T.n_Town_tables; have n_Town_hushed := T.n_Town_hushed
    refine ⟨_, (pss_cons (ps_if (PW.pt (pw_or (pt_not (pt_val (pe_call (ok_is_name T) hr rfl T.m_is_name T.F_is_name.kp T.b_is_name .nil pass0 (pa_cons (pv 1) (pa_cons (pe_fld (pv 0) rfl) pa_nil))))) (pw_or1 (pt_cmp (pc_dnotin hu (pv 1) (pe_fld (pv 0) rfl))))))
      (pss_one ps_dead)
      pss_nil)
      (pss_one (ps_ret (pe_dget hu (pe_fld (pv 0) rfl) (pv 1) (fun _ _ => rfl))))), ?_⟩
    rw [Nn.st_Town_table]; try rw [Nn.cxK]
    try rw [Nn.cxW]
    walk_at "wx"
    rw [decide_eq_true hb]
    walk_at "wx"
    rw [e1, decide_eq_true hm]
    walk_at "wx"
    exact q
def sp_Town_look_awake (T : Tx K mg base) : Sp := fun vs H Q _ => ∃ (A : TA) (F : Addr → Prop) (m : TM) (h : Nat), vs = [.ref A.t, .int h] ∧ TownAt T H A F m ∧ m.wide ≤ 60 ∧ h < 2 ^ m.wide ∧ m.aw h = true ∧ Q .non H
theorem wc_Town_look_awake {h : Nat} {i : Int} (hi : i = h) (t : TownAt T H A F m) (w1 : m.wide ≤ 60) (hb : h < 2 ^ m.wide) (hm : m.aw h = true) (q : Q .non H) : sp_Town_look_awake T [.ref A.t, .int i] H Q E := by
  subst hi; exact ⟨A, F, m, h, rfl, t, w1, hb, hm, q⟩
theorem ok_Town_look_awake (T : Tx K mg base) : FnOk P w K mg base CX0 3 T.a_Town_look_awake T.d_Town_look_awake ["self", "house"] (sp_Town_look_awake T) := by
  refine T.F_Town_look_awake.okD sc_Town_look_awake (fun vs H Q E h => ?_) (fun cdv A outer s H vs Q E hr h => ?_)
  · obtain ⟨A, F, m, n, rfl, _⟩ := h; rfl
  · obtain ⟨A1, F, m, n, rfl, t, w1, hb, hm, q⟩ := h
    obtain ⟨dx, ob⟩ := t.tw.ob
    have hbd := t.tw.hb
    have hu := hu_of hr
    have e1 : (valV (dOf m.hush fun _ => .bl true) (Sum.inl (n : Int))).isSome = decide (n ∈ m.hush) := dOf_has
    have hm2 : n ∉ m.hush := fun z => by
      unfold TM.aw at hm
      rw [decide_eq_true z] at hm
      simp at hm
    have c_Bucket := T.c_Bucket; have n_Bucket_room := T.n_Bucket_room; have n_Bucket_line := T.n_Bucket_line; have c_Table := T.c_Table; have n_Table_own := T.n_Table_own; have n_Table_wide := T.n_Table_wide; have n_Table_room := T.n_Table_room; have n_Table_buckets := T.n_Table_buckets; have c_Town := T.c_Town; have n_Town_wide := T.n_Town_wide; have n_Town_room := T.n_Town_room; have n_Town_tables := T.n_Town_tables; have n_Town_hushed := T.n_Town_hushed
    refine ⟨_, (pss_cons (ps_expr (pe_meth (pv 0) T.c_Town T.t_Town_table (ok_Town_table T) hr T.b_Town_table .nil pass0 (pa_cons (pv 1) pa_nil)))
      (pss_one (ps_if (pt_cmp (pc_din hu (pv 1) (pe_fld (pv 0) rfl)))
      (pss_one ps_dead)
      pss_nil))), ?_⟩
    rw [Nn.st_Town_look_awake]; try rw [Nn.cxK]
    try rw [Nn.cxW]
    walk_at "wx"
    refine wc_Town_table rfl t w1 hb (TM.aw_house hm) ?_
    walk_at "wx"
    rw [e1, decide_eq_false hm2]
    walk_at "wx"
    exact q
def sp_Town_look_named (T : Tx K mg base) : Sp := fun vs H Q _ => ∃ (A : TA) (F : Addr → Prop) (m : TM) (h : Nat), vs = [.ref A.t, .int h] ∧ TownAt T H A F m ∧ m.wide ≤ 60 ∧ h < 2 ^ m.wide ∧ Q .non H
theorem wc_Town_look_named {h : Nat} {i : Int} (hi : i = h) (t : TownAt T H A F m) (w1 : m.wide ≤ 60) (hb : h < 2 ^ m.wide) (q : Q .non H) : sp_Town_look_named T [.ref A.t, .int i] H Q E := by
  subst hi; exact ⟨A, F, m, h, rfl, t, w1, hb, q⟩
theorem ok_Town_look_named (T : Tx K mg base) : FnOk P w K mg base CX0 2 T.a_Town_look_named T.d_Town_look_named ["self", "name"] (sp_Town_look_named T) := by
  refine T.F_Town_look_named.okD sc_Town_look_named (fun vs H Q E h => ?_) (fun cdv A outer s H vs Q E hr h => ?_)
  · obtain ⟨A, F, m, n, rfl, _⟩ := h; rfl
  · obtain ⟨A1, F, m, n, rfl, t, w1, hb, q⟩ := h
    obtain ⟨dx, ob⟩ := t.tw.ob
    have c_Bucket := T.c_Bucket; have n_Bucket_room := T.n_Bucket_room; have n_Bucket_line := T.n_Bucket_line; have c_Table := T.c_Table; have n_Table_own := T.n_Table_own; have n_Table_wide := T.n_Table_wide; have n_Table_room := T.n_Table_room; have n_Table_buckets := T.n_Table_buckets; have c_Town := T.c_Town; have n_Town_wide := T.n_Town_wide; have n_Town_room := T.n_Town_room; have n_Town_tables := T.n_Town_tables; have n_Town_hushed := T.n_Town_hushed
    refine ⟨_, (pss_one (ps_if (pt_not (pt_val (pe_call (ok_is_name T) hr rfl T.m_is_name T.F_is_name.kp T.b_is_name .nil pass0 (pa_cons (pv 1) (pa_cons (pe_fld (pv 0) rfl) pa_nil)))))
      (pss_one ps_dead)
      pss_nil)), ?_⟩
    rw [Nn.st_Town_look_named]; try rw [Nn.cxK]
    try rw [Nn.cxW]
    walk_at "wx"
    rw [decide_eq_true hb]
    walk_at "wx"
    exact q
def sp_Town_bucket (T : Tx K mg base) : Sp := fun vs H Q _ => ∃ (A : TA) (F : Addr → Prop) (m : TM) (h k : Nat), vs = [.ref A.t, .int h, .int k] ∧ TownAt T H A F m ∧ m.wide ≤ 60 ∧ h < 2 ^ m.wide ∧ h ∈ m.houses ∧ k < m.wide ∧ ∀ p, H p = none → Q (.ref p) (upd H p (.lst (((m.tab h).getD k []).map nV)))
theorem wc_Town_bucket {h k : Nat} {i j : Int} (hi : i = h) (hj : j = k) (t : TownAt T H A F m) (w1 : m.wide ≤ 60) (hb : h < 2 ^ m.wide) (hm : h ∈ m.houses) (hk : k < m.wide) (q : ∀ p, H p = none → Q (.ref p) (upd H p (.lst (((m.tab h).getD k []).map nV)))) : sp_Town_bucket T [.ref A.t, .int i, .int j] H Q E := by
  subst hi hj; exact ⟨A, F, m, h, k, rfl, t, w1, hb, hm, hk, q⟩
theorem ok_Town_bucket (T : Tx K mg base) : FnOk P w K mg base CX0 3 T.a_Town_bucket T.d_Town_bucket ["self", "house", "k"] (sp_Town_bucket T) := by
  refine T.F_Town_bucket.okD sc_Town_bucket (fun vs H Q E h => ?_) (fun cdv A outer s H vs Q E hr h => ?_)
  · obtain ⟨A, F, m, n, k, rfl, _⟩ := h; rfl
  · obtain ⟨A1, F, m, n, k, rfl, t, w1, hb, hm, hk, q⟩ := h
    obtain ⟨dx, ob⟩ := t.tw.ob
    obtain ⟨t1, t2⟩ := t.tab n hm
    obtain ⟨dx1, bl1, bs1, hob1, _⟩ := t1.ob
    have c_Bucket := T.c_Bucket; have n_Bucket_room := T.n_Bucket_room; have n_Bucket_line := T.n_Bucket_line; have c_Table := T.c_Table; have n_Table_own := T.n_Table_own; have n_Table_wide := T.n_Table_wide; have n_Table_room := T.n_Table_room; have n_Table_buckets := T.n_Table_buckets; have c_Town := T.c_Town; have n_Town_wide := T.n_Town_wide; have n_Town_room := T.n_Town_room; have n_Town_tables := T.n_Town_tables; have n_Town_hushed := T.n_Town_hushed
    refine ⟨_, (pss_one (ps_ret (pe_meth (pe_meth (pv 0) T.c_Town T.t_Town_table (ok_Town_table T) hr T.b_Town_table .nil pass0 (pa_cons (pv 1) pa_nil)) T.c_Table T.t_Table_bucket (ok_Table_bucket T) hr T.b_Table_bucket .nil pass0 (pa_cons (pv 2) pa_nil)))), ?_⟩
    rw [Nn.st_Town_bucket]; try rw [Nn.cxK]
    try rw [Nn.cxW]
    walk_at "wx"
    refine wc_Town_table rfl t w1 hb hm ?_
    walk_at "wx"
    exact wc_Table_bucket t1 t2 hk q
def sp_Town_keeps (T : Tx K mg base) : Sp := fun vs H Q _ => ∃ (A : TA) (F : Addr → Prop) (m : TM) (h : Nat), vs = [.ref A.t, .int h] ∧ TownAt T H A F m ∧ m.wide ≤ 60 ∧ h < 2 ^ m.wide ∧ h ∈ m.houses ∧ (m.tab h).flatten.Nodup ∧ (m.tab h).flatten.length ≤ 100000 ∧ ∀ p H', H p = none → Ex H H' → H' p = some (.lst ((m.keeps h).map nV)) → Q (.ref p) H'
theorem wc_Town_keeps {h : Nat} {i : Int} (hi : i = h) (t : TownAt T H A F m) (w1 : m.wide ≤ 60) (hb : h < 2 ^ m.wide) (hm : h ∈ m.houses) (nd : (m.tab h).flatten.Nodup) (hz : (m.tab h).flatten.length ≤ 100000) (q : ∀ p H', H p = none → Ex H H' → H' p = some (.lst ((m.keeps h).map nV)) → Q (.ref p) H') : sp_Town_keeps T [.ref A.t, .int i] H Q E := by
  subst hi; exact ⟨A, F, m, h, rfl, t, w1, hb, hm, nd, hz, q⟩
theorem ok_Town_keeps (T : Tx K mg base) : FnOk P w K mg base CX0 3 T.a_Town_keeps T.d_Town_keeps ["self", "house"] (sp_Town_keeps T) := by
  refine T.F_Town_keeps.okD sc_Town_keeps (fun vs H Q E h => ?_) (fun cdv A outer s H vs Q E hr h => ?_)
  · obtain ⟨A, F, m, n, rfl, _⟩ := h; rfl
  · obtain ⟨A1, F, m, n, rfl, t, w1, hb, hm, nd, hz, q⟩ := h
    obtain ⟨dx, ob⟩ := t.tw.ob
    obtain ⟨t1, t2⟩ := t.tab n hm
    obtain ⟨dx1, bl1, bs1, hob1, _⟩ := t1.ob
    have c_Bucket := T.c_Bucket; have n_Bucket_room := T.n_Bucket_room; have n_Bucket_line := T.n_Bucket_line; have c_Table := T.c_Table; have n_Table_own := T.n_Table_own; have n_Table_wide := T.n_Table_wide; have n_Table_room := T.n_Table_room; have n_Table_buckets := T.n_Table_buckets; have c_Town := T.c_Town; have n_Town_wide := T.n_Town_wide; have n_Town_room := T.n_Town_room; have n_Town_tables := T.n_Town_tables; have n_Town_hushed := T.n_Town_hushed
    refine ⟨_, (pss_one (ps_ret (pe_meth0 (pe_meth (pv 0) T.c_Town T.t_Town_table (ok_Town_table T) hr T.b_Town_table .nil pass0 (pa_cons (pv 1) pa_nil)) T.c_Table T.t_Table_keeps (ok_Table_keeps T) hr T.b_Table_keeps .nil pass0))), ?_⟩
    rw [Nn.st_Town_keeps]; try rw [Nn.cxK]
    try rw [Nn.cxW]
    walk_at "wx"
    refine wc_Town_table rfl t w1 hb hm ?_
    walk_at "wx"
    exact wc_Table_keeps t1 t2 nd hz q
def sp_Town_hears (T : Tx K mg base) : Sp := fun vs H Q _ => ∃ (A : TA) (F : Addr → Prop) (m : TM) (N : List Nat) (h n : Nat), vs = [.ref A.t, .int h, .int n] ∧ TownAt T H A F m ∧ m.Ok N ∧ h ∈ m.houses ∧ n ∈ N ∧ NdefX.TabsN (tabsL T) H ∧ ∀ z H', Fr F H H' → TownAt T H' A F (m.hears h n) → Q (.str z) H'
theorem wc_Town_hears {N : List Nat} {h n : Nat} {i j : Int} (hi : i = h) (hj : j = n) (t : TownAt T H A F m) (k : m.Ok N) (hm : h ∈ m.houses) (hn : n ∈ N) (tb : NdefX.TabsN (tabsL T) H) (q : ∀ z H', Fr F H H' → TownAt T H' A F (m.hears h n) → Q (.str z) H') : sp_Town_hears T [.ref A.t, .int i, .int j] H Q E := by
  subst hi hj; exact ⟨A, F, m, N, h, n, rfl, t, k, hm, hn, tb, q⟩
theorem ok_Town_hears (T : Tx K mg base) : FnOk P w K mg base CX0 5 T.a_Town_hears T.d_Town_hears ["self", "house", "name"] (sp_Town_hears T) := by
  refine T.FC_Town_hears.okC sc_Town_hears (fun vs H Q E h => ?_) (fun A outer s H vs Q E hr h => ?_)
  · obtain ⟨A, F, m, N, h0, n, rfl, _⟩ := h; rfl
  · obtain ⟨A1, F, m, N, h0, n, rfl, t, k, hm, hn, hT, q⟩ := h
    obtain ⟨dx, ob⟩ := t.tw.ob
    have hu := hu_of hr
    have c_Bucket := T.c_Bucket; have n_Bucket_room := T.n_Bucket_room; have n_Bucket_line := T.n_Bucket_line; have c_Table := T.c_Table; have n_Table_own := T.n_Table_own; have n_Table_wide := T.n_Table_wide; have n_Table_room := T.n_Table_room; have n_Table_buckets := T.n_Table_buckets; have c_Town := T.c_Town; have n_Town_wide := T.n_Town_wide; have n_Town_room := T.n_Town_room; have n_Town_tables := T.n_Town_tables; have n_Town_hushed := T.n_Town_hushed
    refine ⟨_, (pss_cons (ps_ndefA (st := s_Town_hears_answers) (i := 3) rfl T.tb_Town_hears rfl nm_Town_hears_answers (NdefX.ndef_free ndB_Town_hears_answers) rfl rfl rfl sc_Town_hears.nd rfl (Or.inl rfl) (.inl rfl))
      (pss_one (ps_ret (pe_methC (pe_dget hu (pe_fld (pv 0) rfl) (pv 1) (fun _ _ => rfl)) T.c_Table T.t_Table_hears (fun ws => ok_Table_hears T ws) (Prov.own (js := [0]) fun ok => NdefX.Caps.made ok (NdefX.ndef_free ndB_Town_hears_answers) (NdefX.ndef_fr ndB_Town_hears_answers) rfl) hr T.b_Table_hears .nil pass0 (pa_cons (pv 2) (pa_cons (pv 3) pa_nil)))))), ?_⟩
    rw [Nn.st_Town_hears]; try rw [Nn.cxK]
    try rw [Nn.cxW]
    walk_at "wx"
    refine ⟨hT _ tabm_Town_hears, fun f cd H1 ex1 hf0 hf hcd => ?_⟩
    generalize L2.cloFrom _ _ _ = cl at hf hcd ⊢
    have hf : H1 f = some (NdefX.FnO f (nf_Town_hears_answers cl cd)) := hf
    have hcd : H1 cd = some (LamX.CodeO cd (nf_Town_hears_answers cl cd).qual) := hcd
    have t1 := t.ex' ex1
    have td1 := t1.tw.tb
    obtain ⟨dx1, ob1⟩ := t1.tw.ob
    obtain ⟨ta1, L1⟩ := t1.tab h0 hm
    obtain ⟨dxt, bl, bs, hobt, _⟩ := ta1.ob
    have e2 : valV (dOf m.houses fun h => .ref (A1.pa h)) (Sum.inl (h0 : Int)) = some (.ref (A1.pa h0)) := by
      have q := dOf_val (f := fun h => V.ref (A1.pa h)) (n := h0) (hs := m.houses)
      rw [if_pos hm] at q; exact q
    have k0 := k.tabOk hm
    walk_at "wx"
    refine wc_Table_hears (A := ⟨A1.t, A1.td, A1.hd, m.wide, m.room, m.houses, A1.pa, m.hush, cl, cd⟩) rfl rfl ta1 L1 (k.nb _ (k.hN _ hm)) (k.nb _ hn) (fun ys hy => Nat.le_trans (k0.row ys hy) (Nat.le_trans k.r1 (by decide))) ⟨hf, hcd, t1.tw⟩ (fun _ _ z => z) fun H2 fr2 L2 _ => ?_
    have fr2 : Fr (fun a => a ∈ A1.la h0 ∨ False) H1 H2 := fr2
    have fr2' := fr2.mono (S' := fun a => a ∈ A1.la h0) fun a z => z.elim id False.elim
    exact q _ _ ((ex1.fr (S := F)).trans (fr2'.mono fun a z => (t.own h0 hm).2.2 a z)) (t1.line fr2' (fun a z => z) hm L2)
end
end Nn
/-! towns: come_to, visit, come -/
namespace Nn
open PySem L2
section
variable {P : Program} {w : World} {K : PySem.W.Frag} {mg : Str → Option Value} {base : Heap} {H H' : Hp} {Q : VK} {E : XK} {T : Tx K mg base} {A : TA} {F S : Addr → Prop} {m : TM}
theorem TM.Ok.bd {N : List Nat} (k : m.Ok N) {h : Nat} (hm : h ∈ m.houses) : h < 2 ^ m.wide := k.nb _ (k.hN _ hm)
def sp_Town_come_to (T : Tx K mg base) : Sp := fun vs H Q _ => ∃ (A : TA) (F : Addr → Prop) (m : TM) (N : List Nat) (h : Nat), vs = [.ref A.t, .int h] ∧ TownAt T H A F m ∧ m.Ok N ∧ m.aw h = true ∧ ∀ p H', H p = none → Ex H H' → H' p = some (.lst ((m.comeTo h).map nV)) → Q (.ref p) H'
theorem wc_Town_come_to {N : List Nat} {h : Nat} {i : Int} (hi : i = h) (t : TownAt T H A F m) (k : m.Ok N) (hm : m.aw h = true) (q : ∀ p H', H p = none → Ex H H' → H' p = some (.lst ((m.comeTo h).map nV)) → Q (.ref p) H') : sp_Town_come_to T [.ref A.t, .int i] H Q E := by
  subst hi; exact ⟨A, F, m, N, h, rfl, t, k, hm, q⟩
theorem ok_Town_come_to (T : Tx K mg base) : FnOk P w K mg base CX0 4 T.a_Town_come_to T.d_Town_come_to ["self", "house"] (sp_Town_come_to T) := by
  refine T.F_Town_come_to.okD sc_Town_come_to (fun vs H Q E h => ?_) (fun cdv A outer s H vs Q E hr h => ?_)
  · obtain ⟨A, F, m, N, h0, rfl, _⟩ := h; rfl
  · obtain ⟨A1, F, m, N, h0, rfl, t, k, haw, q⟩ := h
    obtain ⟨dx, ob⟩ := t.tw.ob
    have hu := hu_of hr
    have hm0 := TM.aw_house haw
    have hz := k.houses_len
    have fl : ∀ {l : List Nat}, l.Nodup → (∀ x ∈ l, m.Reach h0 x) → l.length < 64 := fun nd hr => Nat.lt_of_le_of_lt (nodup_len nd fun x hx => (hr x hx).house hm0) hz
    have c_Bucket := T.c_Bucket; have n_Bucket_room := T.n_Bucket_room; have n_Bucket_line := T.n_Bucket_line; have c_Table := T.c_Table; have n_Table_own := T.n_Table_own; have n_Table_wide := T.n_Table_wide; have n_Table_room := T.n_Table_room; have n_Table_buckets := T.n_Table_buckets; have c_Town := T.c_Town; have n_Town_wide := T.n_Town_wide; have n_Town_room := T.n_Town_room; have n_Town_tables := T.n_Town_tables; have n_Town_hushed := T.n_Town_hushed
    refine ⟨_, (pss_cons (ps_expr (pe_meth (pv 0) T.c_Town T.t_Town_look_awake (ok_Town_look_awake T) hr T.b_Town_look_awake .nil pass0 (pa_cons (pv 1) pa_nil)))
      (pss_cons (ps_set (i := 2) sc_Town_come_to.nd rfl (Or.inl rfl) (pe_lst (pa_cons (pv 1) pa_nil)))
      (pss_cons (ps_set (i := 3) sc_Town_come_to.nd rfl (Or.inl rfl) pe_int)
      (pss_cons (ps_while PassesOwn.never (pt_cmpR op_lt (pv 3) (pe_callB cb_len (by rfl) T.z_len PySem.boot_len (pa_cons (pv 2) pa_nil)) (nomark _))
      (pss_cons (ps_for PassesOwn.never rfl (pi_list (pe_meth0 (pe_dget hu (pe_fld (pv 0) rfl) (pe_ix ix_list (pv 2) (pv 3) (fun _ _ => rfl)) (fun _ _ => rfl)) T.c_Table T.t_Table_keeps (ok_Table_keeps T) (hr.mono (by decide)) T.b_Table_keeps .nil pass0)) (pg_name (i := 4) sc_Town_come_to.nd rfl (Or.inl rfl))
      (pss_one (ps_if (PW.pt (pw_and (pt_val (pe_meth (pv 0) T.c_Town T.t_Town_answers (ok_Town_answers T) (hr.mono (by decide)) T.b_Town_answers .nil pass0 (pa_cons (pv 4) pa_nil))) (pw_and1 (pt_cmpR op_notIn_seq (pv 4) (pv 2) rfl))))
      (pss_one (ps_expr (pe_bm PySem.F.plainAttrs_list PySem.F.slot_list_append PySem.F.type_list_append mt_append (pv 2) (pa_cons (pv 4) pa_nil))))
      pss_nil)))
      (pss_one (ps_aug (i := 3) sc_Town_come_to.nd rfl (Or.inl rfl) pe_int ip_add))))
      (pss_one (ps_ret (pe_callB cr_sortedI (by rfl) T.z_sorted (by decide +kernel) (pa_cons (pv 2) pa_nil)))))))), ?_⟩
    rw [Nn.st_Town_come_to]; try rw [Nn.cxK]
    try rw [Nn.cxW]
    walk_at "wx"
    refine wc_Town_look_awake rfl t k.w1 (k.bd hm0) haw ?_
    walk_at "wx"
    refine ⟨len_ok rfl, fun d hd => ?_⟩
    walk_at "wx"
    refine x_while (m := 64) (W := fun mm σ H' => ∃ (found : List Nat) (j : Nat) (v : Option V), σ = [some (.ref A1.t), some (.int h0), some (.ref d), some (.int j), v] ∧ Ex H H' ∧ H' d = some (.lst (found.map nV)) ∧ found.Nodup ∧ h0 ∈ found ∧ (∀ x ∈ found, m.Reach h0 x) ∧
        (∀ i, i < j → ∀ x, found[i]? = some x → ∀ z ∈ (m.tab x).flatten, m.aw z = true → z ∈ found) ∧ j ≤ found.length ∧ j + mm = 64)
      ⟨[h0], 0, none, rfl, Ex.new hd, upd_same, by simp, by simp, fun x hx => by rw [List.mem_singleton.mp hx]; exact .self, fun i hi => absurd hi (Nat.not_lt_zero _), Nat.zero_le _, rfl⟩ ?_
    rintro mm σ H1 ⟨found, j, v, rfl, ex1, h1, nd, h0m, hre, hcl, hj, hmm⟩
    have hfl := fl nd hre
    walk_at "wx"
    refine x_whD (fun hlt => ?_) fun hge => ?_
    · rw [List.length_map] at hlt
      have hjl : j < found.length := by omega
      have t1 := t.ex' ex1
      have hy := hre _ (List.getElem_mem hjl)
      have hym := hy.house hm0
      obtain ⟨dx1, ob1⟩ := t1.tw.ob
      have td1 := t1.tw.tb
      obtain ⟨ta1, L1⟩ := t1.tab _ hym
      obtain ⟨dxt, bl, bs, hobt, _⟩ := ta1.ob
      have e2 : valV (dOf m.houses fun h => .ref (A1.pa h)) (Sum.inl (found[j] : Int)) = some (.ref (A1.pa found[j])) := by
        have q := dOf_val (f := fun h => V.ref (A1.pa h)) (n := found[j]) (hs := m.houses)
        rw [if_pos hym] at q; exact q
      have k0 := k.tabOk hym
      walk_at "wx"
      refine x_ixL (SqL.of h1) (atI_nV hjl) ?_
      walk_at "wx"
      refine wc_Table_keeps ta1 L1 k0.nodup (by have := k.keeps_len hym; omega) fun p2 H2 hp2 ex2 h2 => ?_
      have ex02 := ex1.trans ex2
      have hd2 := ex2.at h1
      walk_at "wx"
      refine ForW.by walk_list (fun i σ H' => ∃ (fd : List Nat) (v : Option V), σ = [some (.ref A1.t), some (.int h0), some (.ref d), some (.int j), v] ∧ Ex H H' ∧ H' d = some (.lst (fd.map nV)) ∧ H' p2 = some (.lst ((m.keeps found[j]).map nV)) ∧ fd.Nodup ∧ found <+: fd ∧ (∀ x ∈ fd, m.Reach h0 x) ∧
          (∀ z ∈ (m.keeps found[j]).take i, m.aw z = true → z ∈ fd))
        ⟨found, _, rfl, ex02, hd2, h2, nd, List.prefix_refl _, hre, by simp⟩ (fun i σ H' _ ⟨_, _, _, _, _, e, _⟩ => SqL.of e) ?_ ?_
      · rintro i x σ _ H3 hi ⟨fd, v, rfl, ex3, hd3, hp3, nd3, pre3, hre3, hz3⟩ ⟨rfl, hx⟩
        rw [List.length_map] at hi
        obtain rfl : x = nV (m.keeps found[j])[i] := by
          rw [List.getElem?_map, List.getElem?_eq_getElem hi] at hx
          exact (Option.some.inj hx).symm
        have et : (m.keeps found[j]).take (i + 1) = (m.keeps found[j]).take i ++ [(m.keeps found[j])[i]] := by rw [List.take_add_one, List.getElem?_eq_getElem hi]; rfl
        have hzk := TM.mem_keeps.mp (List.getElem_mem hi)
        rw [et]
        generalize (m.keeps found[j])[i] = z at hzk
        have t3 := t.ex' ex3
        obtain ⟨dx3, ob3⟩ := t3.tw.ob
        have hfd := fl nd3 hre3
        have npd : p2 ≠ d := fun e => by rw [e, h1] at hp2; cases hp2
        walk_at "wx"
        refine TwAt.ans rfl t3 ?_
        walk_at "wx"
        refine x_iteB (fun haz => ?_) fun haz => ?_
        · walk_at "wx"
          refine x_ifN (fun hin => ?_) fun hin => ?_
          · walk_at "wx"
            refine ⟨fd ++ [z], _, rfl, ex3.mut hd hd3, by rw [upd_same, List.map_append]; rfl, by rw [upd_ne npd]; exact hp3, nd_snoc nd3 hin, pre3.trans (List.prefix_append _ _), fun x hx => ?_, fun x hx ha => ?_⟩
            · rcases List.mem_append.mp hx with hx | hx
              · exact hre3 x hx
              · rw [List.mem_singleton.mp hx]; exact .step hy hzk haz
            · rcases List.mem_append.mp hx with hx | hx
              · exact List.mem_append.mpr (.inl (hz3 x hx ha))
              · exact List.mem_append.mpr (.inr hx)
          · walk_at "wx"
            refine ⟨fd, _, rfl, ex3, hd3, hp3, nd3, pre3, hre3, fun x hx ha => ?_⟩
            rcases List.mem_append.mp hx with hx | hx
            · exact hz3 x hx ha
            · rw [List.mem_singleton.mp hx]; exact hin
        · walk_at "wx"
          refine ⟨fd, _, rfl, ex3, hd3, hp3, nd3, pre3, hre3, fun x hx ha => ?_⟩
          rcases List.mem_append.mp hx with hx | hx
          · exact hz3 x hx ha
          · rw [List.mem_singleton.mp hx, haz] at ha; cases ha
      · rintro σ H3 ⟨fd, v, rfl, ex3, hd3, hp3, nd3, pre3, hre3, hz3⟩
        rw [List.length_map, List.take_length] at hz3
        obtain ⟨more, rfl⟩ := pre3
        walk_at "wx"
        refine ⟨mm - 1, by omega, found ++ more, j + 1, _, rfl, ex3, hd3, nd3, List.mem_append.mpr (.inl h0m), hre3, fun i hi x hx z hzt ha => ?_, by rw [List.length_append]; omega, by omega⟩
        by_cases e : i = j
        · subst e
          rw [List.getElem?_append_left hjl, List.getElem?_eq_getElem hjl] at hx
          cases hx
          exact hz3 z (TM.mem_keeps.mpr hzt) ha
        · have hij : i < j := by omega
          rw [List.getElem?_append_left (by omega)] at hx
          exact List.mem_append.mpr (.inl (hcl i hij x hx z hzt ha))
    · rw [List.length_map] at hge
      have hje : j = found.length := by omega
      walk_at "wx"
      refine x_sortN (SqL.of h1) nd fun p hp => ?_
      rw [TM.comeTo_eq hm0 h0m hre fun y hy z hzt ha => by
        obtain ⟨i, hi⟩ := List.getElem?_of_mem hy
        exact hcl i (by rw [hje]; exact (List.getElem?_eq_some_iff.mp hi).1) y hi z hzt ha]
      exact q p _ (ex1.back p hp) (ex1.newT hp) upd_same
def sp_Town_visit (T : Tx K mg base) : Sp := fun vs H Q _ => ∃ (A : TA) (F : Addr → Prop) (m : TM) (N : List Nat) (h door : Nat), vs = [.ref A.t, .int h, .int door] ∧ TownAt T H A F m ∧ m.Ok N ∧ h ∈ m.houses ∧ m.aw door = true ∧ NdefX.TabsN (tabsL T) H ∧
  ∀ p H', H p = none → Fr F H H' → H' p = some (.lst ((m.others h door).map nV)) → TownAt T H' A F (m.visit h door) → Q (.ref p) H'
theorem wc_Town_visit {N : List Nat} {h door : Nat} {i j : Int} (hi : i = h) (hj : j = door) (t : TownAt T H A F m) (k : m.Ok N) (hm : h ∈ m.houses) (hd : m.aw door = true) (tb : NdefX.TabsN (tabsL T) H)
    (q : ∀ p H', H p = none → Fr F H H' → H' p = some (.lst ((m.others h door).map nV)) → TownAt T H' A F (m.visit h door) → Q (.ref p) H') : sp_Town_visit T [.ref A.t, .int i, .int j] H Q E := by
  subst hi hj; exact ⟨A, F, m, N, h, door, rfl, t, k, hm, hd, tb, q⟩
theorem TM.others_mem {h door x : Nat} (hx : x ∈ m.others h door) : x ∈ m.houses ∧ x ≠ h := by
  unfold TM.others at hx
  have q := List.mem_filter.mp hx
  exact ⟨(TM.mem_comeTo.mp q.1).1, by simpa using q.2⟩
theorem ok_Town_visit (T : Tx K mg base) : FnOk P w K mg base CX0 6 T.a_Town_visit T.d_Town_visit ["self", "house", "door"] (sp_Town_visit T) := by
  refine T.F_Town_visit.okD sc_Town_visit (fun vs H Q E h => ?_) (fun cdv A outer s H vs Q E hr h => ?_)
  · obtain ⟨A, F, m, N, h0, door, rfl, _⟩ := h; rfl
  · obtain ⟨A1, F, m, N, h0, door, rfl, t, k, hm, hdo, hT, q⟩ := h
    obtain ⟨dx, ob⟩ := t.tw.ob
    have hu := hu_of hr
    have hz := k.houses_len
    have hcl : (m.comeTo door).length < 64 := Nat.lt_of_le_of_lt (nodup_len (rising_nodup TM.comeTo_sorted) fun x hx => (TM.mem_comeTo.mp hx).1) hz
    have c_Bucket := T.c_Bucket; have n_Bucket_room := T.n_Bucket_room; have n_Bucket_line := T.n_Bucket_line; have c_Table := T.c_Table; have n_Table_own := T.n_Table_own; have n_Table_wide := T.n_Table_wide; have n_Table_room := T.n_Table_room; have n_Table_buckets := T.n_Table_buckets; have c_Town := T.c_Town; have n_Town_wide := T.n_Town_wide; have n_Town_room := T.n_Town_room; have n_Town_tables := T.n_Town_tables; have n_Town_hushed := T.n_Town_hushed
    refine ⟨_, (pss_cons (ps_setLc (i := 3) (own := [("other", 4)]) (g := (gName 4)) (by rfl) sc_Town_visit.nd rfl rfl (sw_true rfl rfl rfl (by decide +kernel)) (pi_list (pe_meth (pv 0) T.c_Town T.t_Town_come_to (ok_Town_come_to T) (hr.mono (by decide)) T.b_Town_come_to .nil pass0 (pa_cons (pv 2) pa_nil))) (blkOk_by (N := N_Town_visit) (sc := defScope s_Town_visit) (own := [("other", 4)]) (by decide +kernel)) (fun _ _ _ _ _ => (pg_name (i := 4) sc_Town_visit.nd rfl (Or.inl rfl))) (fun _ _ _ _ _ => pts_one ((pt_cmpR op_ne (pv 4) (pv 1) (nomark _)))) (fun _ _ _ _ _ => (pv 4)))
      (pss_cons (ps_for PassesOwn.never rfl (pi_list (pv 3)) (pg_name (i := 4) sc_Town_visit.nd rfl (Or.inl rfl))
      (pss_cons (ps_expr (pe_meth (pv 0) T.c_Town T.t_Town_hears (ok_Town_hears T) hr T.b_Town_hears .nil pass0 (pa_cons (pv 1) (pa_cons (pv 4) pa_nil))))
      (pss_one (ps_expr (pe_meth (pv 0) T.c_Town T.t_Town_hears (ok_Town_hears T) hr T.b_Town_hears .nil pass0 (pa_cons (pv 4) (pa_cons (pv 1) pa_nil)))))))
      (pss_one (ps_ret (pv 3))))), ?_⟩
    rw [Nn.st_Town_visit]; try rw [Nn.cxK]
    try rw [Nn.cxW]
    walk_at "wx"
    refine wc_Town_come_to rfl t k hdo fun p1 H1 hp1 ex1 h1 => ?_
    walk_at "wx"
    refine LcW.filt (emb := nV) (xs := m.comeTo door) (fun x => !decide (x = h0)) (SqL.of h1) (by rw [sizeLine_eq]; omega) (fun x _ H2 ex2 R hR => ?_) (fun x _ _ H2 ex2 Qe hQ => ?_) fun p2 H2 hp2 ex2 h2 => ?_
    · walk_at "wx"
      have e : decide ((x : Int) = (h0 : Int)) = decide (x = h0) := decide_eq_decide.mpr ⟨fun z => Int.ofNat.inj z, fun z => by rw [z]⟩
      rw [e]
      exact hR _ Ex.refl
    · walk_at "wx"
      exact hQ
    have h2 : H2 p2 = some (.lst ((m.others h0 door).map nV)) := h2
    have ex02 := ex1.trans ex2
    have t2 := t.ex' ex02
    have hp20 : H p2 = none := ex1.back p2 hp2
    have nF : ¬ F p2 := fun z => t.ex p2 z hp20
    have ok : ∀ (l : List Nat), (∀ o ∈ l, o ∈ m.others h0 door) → (l.foldl (TM.meet h0) m).Ok N := fun l hl => k.fold (k.hN _ hm) fun o ho => k.hN _ (TM.others_mem (hl o ho)).1
    walk_at "wx"
    refine ForW.by walk_list (fun i σ H' => ∃ (v : Option V), σ = [some (.ref A1.t), some (.int h0), some (.int door), some (.ref p2), v] ∧ Fr F H H' ∧ H' p2 = some (.lst ((m.others h0 door).map nV)) ∧ TownAt T H' A1 F (((m.others h0 door).take i).foldl (TM.meet h0) m))
      ⟨_, rfl, ex02.fr, h2, t2⟩ (fun i σ H' _ ⟨_, _, _, e, _⟩ => SqL.of e) ?_ ?_
    · rintro i x σ _ H3 hi ⟨v, rfl, fr3, hp3, t3⟩ ⟨rfl, hx⟩
      rw [List.length_map] at hi
      obtain rfl : x = nV (m.others h0 door)[i] := by
        rw [List.getElem?_map, List.getElem?_eq_getElem hi] at hx
        exact (Option.some.inj hx).symm
      have et : (m.others h0 door).take (i + 1) = (m.others h0 door).take i ++ [(m.others h0 door)[i]] := by rw [List.take_add_one, List.getElem?_eq_getElem hi]; rfl
      have hom := TM.others_mem (List.getElem_mem hi)
      have k3 := ok ((m.others h0 door).take i) fun o ho => List.mem_of_mem_take ho
      rw [et, List.foldl_append]
      generalize (m.others h0 door)[i] = o at hom
      obtain ⟨dx3, ob3⟩ := t3.tw.ob
      have hh3 : (((m.others h0 door).take i).foldl (TM.meet h0) m).houses = m.houses := TM.fold_houses
      have hmo := k.hN _ hom.1
      have hmh := k.hN _ hm
      generalize ((m.others h0 door).take i).foldl (TM.meet h0) m = m3 at t3 k3 hh3 ⊢
      walk_at "wx"
      refine wc_Town_hears rfl rfl t3 k3 (by rw [hh3]; exact hm) hmo (Fr.tabs fr3 hT) fun z4 H4 fr4 t4 => ?_
      obtain ⟨dx4, ob4⟩ := t4.tw.ob
      have k4 := k3.hears (h := h0) hmo
      walk_at "wx"
      refine wc_Town_hears rfl rfl t4 k4 (by rw [TM.hears_houses, hh3]; exact hom.1) hmh (Fr.tabs fr4 (Fr.tabs fr3 hT)) fun z5 H5 fr5 t5 => ?_
      exact ⟨_, rfl, (fr3.trans fr4).trans fr5, fr5.at (fr4.at hp3 nF) nF, t5⟩
    · rintro σ H3 ⟨v, rfl, fr3, hp3, t3⟩
      rw [List.length_map, List.take_length] at t3
      walk_at "wx"
      exact q p2 H3 hp20 fr3 hp3 t3
/-- the places behind a coming -/
def TA.put (A : TA) (n : Nat) (p : Addr) (ls : List Addr) : TA := { A with pa := fun x => if x = n then p else A.pa x, la := fun x => if x = n then ls else A.la x }
theorem dOf_congr {hs : List Nat} {f g : Nat → V} (h : ∀ x ∈ hs, f x = g x) : dOf hs f = dOf hs g := List.map_congr_left fun x hx => by rw [h x hx]
theorem TM.add_aw {n d : Nat} (h : m.aw d = true) : (m.add n).aw d = true := by
  unfold TM.aw at h ⊢
  rw [Bool.and_eq_true] at h ⊢
  refine ⟨?_, h.2⟩
  rw [TM.add_houses]
  exact decide_eq_true (List.mem_append.mpr (.inl (of_decide_eq_true h.1)))
theorem TM.add_tab {n h : Nat} (hm : n ∉ m.houses) : (m.add n).tab h = if h = n then List.replicate m.wide [] else m.tab h := by
  unfold TM.tab TM.add
  show ((m.tabs ++ [(n, List.replicate m.wide [])]).lookup h).getD [] = _
  have key : ∀ {l : List (Nat × List (List Nat))}, n ∉ l.map (·.1) → (l ++ [(n, List.replicate m.wide [])]).lookup h = if h = n then some (List.replicate m.wide []) else l.lookup h := by
    intro l
    induction l with
    | nil =>
      intro _
      by_cases e : h = n
      · rw [if_pos e, e, List.nil_append, TM.lookup_eq]
      · rw [if_neg e, List.nil_append, TM.lookup_ne e]
    | cons p r ih =>
      intro hl
      obtain ⟨k, ys⟩ := p
      rw [List.map_cons, List.mem_cons, not_or] at hl
      rw [List.cons_append]
      by_cases e : h = k
      · subst e
        rw [TM.lookup_eq, if_neg (Ne.symm hl.1), TM.lookup_eq]
      · rw [TM.lookup_ne e, ih hl.2, TM.lookup_ne e]
  rw [key hm]
  by_cases e : h = n
  · rw [if_pos e, if_pos e]; rfl
  · rw [if_neg e, if_neg e]
noncomputable def TM.comes (m : TM) (n : Nat) : Option Nat → TM
  | none => m.add n
  | some door => (m.add n).visit n door
noncomputable def TM.told (m : TM) (n : Nat) : Option Nat → List Nat
  | none => []
  | some door => (m.add n).others n door
def sp_Town_come (T : Tx K mg base) : Sp := fun vs H Q _ => ∃ (A : TA) (F : Addr → Prop) (m : TM) (N : List Nat) (n : Nat) (door : Option Nat), vs = [.ref A.t, .int n, oN door] ∧ TownAt T H A F m ∧ m.Ok N ∧ n ∈ N ∧ n ∉ m.houses ∧ (∀ d, door = some d → m.aw d = true) ∧ NdefX.TabsN (tabsL T) H ∧
  ∀ p H' A' F', H p = none → Fr F H H' → H' p = some (.lst ((m.told n door).map nV)) → ¬ F' p → A'.t = A.t → (∀ a, F' a → F a ∨ H a = none) → TownAt T H' A' F' (m.comes n door) → Q (.ref p) H'
theorem wc_Town_come {N : List Nat} {n : Nat} {door : Option Nat} {i : Int} {v : V} (hi : i = n) (hv : v = oN door) (t : TownAt T H A F m) (k : m.Ok N) (hn : n ∈ N) (hm : n ∉ m.houses) (hd : ∀ d, door = some d → m.aw d = true) (tb : NdefX.TabsN (tabsL T) H)
    (q : ∀ p H' A' F', H p = none → Fr F H H' → H' p = some (.lst ((m.told n door).map nV)) → ¬ F' p → A'.t = A.t → (∀ a, F' a → F a ∨ H a = none) → TownAt T H' A' F' (m.comes n door) → Q (.ref p) H') : sp_Town_come T [.ref A.t, .int i, v] H Q E := by
  subst hi hv; exact ⟨A, F, m, N, n, door, rfl, t, k, hn, hm, hd, tb, q⟩
theorem ok_Town_come (T : Tx K mg base) : FnOk P w K mg base CX0 7 T.a_Town_come T.d_Town_come ["self", "name", "door"] (sp_Town_come T) := by
  refine T.F_Town_come.okD sc_Town_come (fun vs H Q E h => ?_) (fun cdv A outer s H vs Q E hr h => ?_)
  · obtain ⟨A, F, m, N, n, door, rfl, _⟩ := h; rfl
  · obtain ⟨A1, F, m, N, n, door, rfl, t, k, hn, hm, hdo, hT, q⟩ := h
    obtain ⟨dx, ob⟩ := t.tw.ob
    have hu := hu_of hr
    have td0 := t.tw.tb
    have e1 : (valV (dOf m.houses fun h => .ref (A1.pa h)) (Sum.inl (n : Int))).isSome = decide (n ∈ m.houses) := dOf_has
    have hhl := k.houses_len
    have c_Bucket := T.c_Bucket; have n_Bucket_room := T.n_Bucket_room; have n_Bucket_line := T.n_Bucket_line; have c_Table := T.c_Table; have n_Table_own := T.n_Table_own; have n_Table_wide := T.n_Table_wide; have n_Table_room := T.n_Table_room; have n_Table_buckets := T.n_Table_buckets; have c_Town := T.c_Town; have n_Town_wide := T.n_Town_wide; have n_Town_room := T.n_Town_room; have n_Town_tables := T.n_Town_tables; have n_Town_hushed := T.n_Town_hushed
    refine ⟨_, (pss_cons (ps_expr (pe_meth (pv 0) T.c_Town T.t_Town_look_named (ok_Town_look_named T) (hr.mono (by decide)) T.b_Town_look_named .nil pass0 (pa_cons (pv 1) pa_nil)))
      (pss_cons (ps_if (pt_cmp (pc_din hu (pv 1) (pe_fld (pv 0) rfl)))
      (pss_one ps_dead)
      pss_nil)
      (C8.pss_cut (ps_if (pt_cmpR op_notNn (pv 2) pe_non (nomark _))
      (pss_one (ps_expr (pe_meth (pv 0) T.c_Town T.t_Town_look_awake (ok_Town_look_awake T) (hr.mono (by decide)) T.b_Town_look_awake .nil pass0 (pa_cons (pv 2) pa_nil))))
      pss_nil)
      (pss_cons (ps_dput hu (pe_fld (pv 0) rfl) (pv 1) (pe_make T.M_Table (ok_Table_init T) (hr.mono (by decide)) rfl T.m_Table T.b_Table_init .nil pass0 (pa_cons (pv 1) (pa_cons (pe_fld (pv 0) rfl) (pa_cons (pe_fld (pv 0) rfl) pa_nil)))) rfl)
      (pss_cons (ps_if (pt_cmpR op_isNn (pv 2) pe_non (nomark _))
      (pss_one (ps_ret (pe_lst pa_nil)))
      pss_nil)
      (pss_one (ps_ret (pe_meth (pv 0) T.c_Town T.t_Town_visit (ok_Town_visit T) hr T.b_Town_visit .nil pass0 (pa_cons (pv 1) (pa_cons (pv 2) pa_nil)))))))))), ?_⟩
    rw [Nn.st_Town_come]; try rw [Nn.cxK]
    try rw [Nn.cxW]
    walk_at "wx"
    refine wc_Town_look_named rfl t k.w1 (k.nb _ hn) ?_
    walk_at "wx"
    rw [e1, decide_eq_false hm]
    walk_at "wx"
    refine x_cut (fun σ' H' => σ' = [some (.ref A1.t), some (.int n), some (oN door)] ∧ H' = H) ?_ ?_
    · cases door with
      | none =>
        have eo : oN none = .non := rfl
        rw [eo]
        walk_at "wx"
        exact ⟨rfl, rfl⟩
      | some d =>
        have eo : oN (some d) = nV d := rfl
        rw [eo]
        walk_at "wx"
        have hda := hdo d rfl
        refine wc_Town_look_awake rfl t k.w1 (k.bd (TM.aw_house hda)) hda ?_
        walk_at "wx"
        exact ⟨rfl, rfl⟩
    · rintro σ' H' ⟨rfl, rfl⟩
      walk_at "wx"
      refine x_make fun p dx1 H1 hp ex1 hp1 => ?_
      refine ⟨p, dx1, n, m.wide, m.room, rfl, hp1, k.w0, k.w1, k.r0, k.r1, fun ls H2 hls fr2 ta2 L2 own2 => ⟨rfl, ?_⟩⟩
      have ex2 := fr2.ex ex1 fun y z => by rw [z]; exact hp
      have t2 := t.ex' ex2
      obtain ⟨dx2, ob2⟩ := t2.tw.ob
      have td2 := t2.tw.tb
      have hb2 := t2.tw.hb
      walk_at "wx"
      refine x_dput td2 (by rw [sizeLine_eq, dOf_len]; omega) ?_
      have ea : ∀ x ∈ m.houses, (A1.put n p ls).pa x = A1.pa x := fun x hx => if_neg fun z => hm (by rw [← z]; exact hx)
      have el : ∀ x ∈ m.houses, (A1.put n p ls).la x = A1.la x := fun x hx => if_neg fun z => hm (by rw [← z]; exact hx)
      have ean : (A1.put n p ls).pa n = p := if_pos rfl
      have eln : (A1.put n p ls).la n = ls := if_pos rfl
      have ed : putK (dOf m.houses fun h => .ref (A1.pa h)) (Sum.inl (n : Int)) (.ref p) = dOf (m.add n).houses fun h => .ref ((A1.put n p ls).pa h) := by
        rw [TM.add_houses, dOf_congr (g := fun h => .ref ((A1.put n p ls).pa h)) fun x hx => by rw [ea x hx]]
        have q := dOf_new (f := fun h => V.ref ((A1.put n p ls).pa h)) hm
        rw [ean] at q
        exact q
      rw [ed]
      have fr3 := Fr.upd1 (o := .dK (dOf (m.add n).houses fun h => .ref ((A1.put n p ls).pa h))) td2
      have td3 := upd_same (H := H2) (a := A1.td) (o := .dK (dOf (m.add n).houses fun h => .ref ((A1.put n p ls).pa h)))
      generalize upd H2 A1.td (.dK (dOf (m.add n).houses fun h => .ref ((A1.put n p ls).pa h))) = H3 at fr3 td3 ⊢
      have soft2 : ∀ a, a = A1.td → Soft H2 a := fun a z => by rw [z]; exact Soft.dict td2
      have ta3 := ta2.soft fr3 soft2
      have own3 := (own2.soft ta2 fr3 soft2).live ta3
      have hp3 : H3 p ≠ none := by
        obtain ⟨dxp, _, _, hpo, _⟩ := ta3.ob
        rw [hpo]; exact fun z => by cases z
      have tne : A1.t ≠ A1.td := fun z => by rw [z, td2] at ob2; cases ob2
      have t3 : TownAt T H3 (A1.put n p ls) (fun a => F a ∨ (H' a = none ∧ H3 a ≠ none)) (m.add n) := by
        refine ⟨⟨⟨dx2, fr3.at ob2 tne⟩, td3, fr3.at hb2 t.ne.symm⟩, ⟨.inl t.ft.1, .inl t.ft.2.1, .inl t.ft.2.2⟩, fun h hh => ?_, fun h hh => ?_, fun h1 hh1 h2 hh2 hne l hl => ?_, fun a ha e => ?_, t.ne⟩
        · rw [TM.add_houses] at hh
          rw [TM.add_tab hm]
          rcases List.mem_append.mp hh with hh | hh
          · have nh : h ≠ n := fun z => hm (by rw [← z]; exact hh)
            rw [ea h hh, el h hh, if_neg nh]
            obtain ⟨a1, a2⟩ := t2.tab h hh
            exact ⟨a1.soft fr3 soft2, a2.fr fr3 fun l hl z => by
              obtain ⟨_, e⟩ := a2.is hl
              rw [z, td2] at e; cases e⟩
          · rw [List.mem_singleton.mp hh, ean, eln, if_pos rfl]
            exact ⟨ta3, L2.fr fr3 fun l hl z => by
              obtain ⟨_, e⟩ := L2.is hl
              rw [z, td2] at e; cases e⟩
        · rw [TM.add_houses] at hh
          rcases List.mem_append.mp hh with hh | hh
          · rw [ea h hh, el h hh]
            obtain ⟨o1, o2, o3⟩ := t2.own h hh
            exact ⟨.inl o1, (o2.soft (t2.tab h hh).1 fr3 soft2).mono fun a z => .inl z, fun l hl => .inl (o3 l hl)⟩
          · rw [List.mem_singleton.mp hh, ean, eln]
            refine ⟨.inr ⟨hp, hp3⟩, own3.mono fun a z => .inr ⟨ex1.back a z.1, z.2⟩, fun l hl => .inr ⟨ex1.back l (hls l hl), fun e => ?_⟩⟩
            obtain ⟨_, e2⟩ := L2.is hl
            have e3 := fr3.back l e
            rw [e2] at e3; cases e3
        · have old : ∀ {h l}, h ∈ m.houses → l ∈ A1.la h → l ∈ ls → False := fun {h l} hh hl hls' => by
            obtain ⟨_, e⟩ := (t.tab h hh).2.is hl
            have e2 := ex1.back l (hls l hls')
            rw [e] at e2; cases e2
          rw [TM.add_houses] at hh1 hh2
          rcases List.mem_append.mp hh1 with hh1 | hh1 <;> rcases List.mem_append.mp hh2 with hh2 | hh2
          · rw [el _ hh1] at hl; rw [el _ hh2]; exact t.dj _ hh1 _ hh2 hne l hl
          · rw [el _ hh1] at hl; rw [List.mem_singleton.mp hh2, eln]; exact old hh1 hl
          · rw [List.mem_singleton.mp hh1, eln] at hl; rw [el _ hh2]; exact fun z => old hh2 z hl
          · exact absurd ((List.mem_singleton.mp hh1).trans (List.mem_singleton.mp hh2).symm) hne
        · rcases ha with ha | ha
          · exact t.ex a ha (ex2.back a (fr3.back a e))
          · exact ha.2 e
      have fr03 : Fr F H' H3 := (ex2.fr (S := F)).trans (fr3.mono fun a z => by rw [z]; exact t.ft.2.1)
      have hF : ∀ a, (F a ∨ (H' a = none ∧ H3 a ≠ none)) → F a ∨ H' a = none := fun a z => z.imp id (·.1)
      generalize hF'd : (fun a => F a ∨ (H' a = none ∧ H3 a ≠ none)) = F' at t3
      have hF : ∀ a, F' a → F a ∨ H' a = none := fun a z => hF a (by rw [← hF'd] at z; exact z)
      have hT3 := Fr.tabs fr03 hT
      clear own3 own2 ta3 ta2 L2 fr2 hls
      obtain ⟨dx3, ob3⟩ := t3.tw.ob
      have et : (A1.put n p ls).t = A1.t := rfl
      rw [et] at ob3
      cases door with
      | none =>
        have eo : oN none = .non := rfl
        rw [eo]
        walk_at "wx"
        refine ⟨len_ok rfl, fun r hr => ?_⟩
        exact q r _ (A1.put n p ls) F' (fr03.back r hr) (fr03.trans (Ex.new hr).fr) upd_same (fun z => t3.ex r z hr) rfl hF (t3.ex' (Ex.new hr))
      | some d =>
        have eo : oN (some d) = nV d := rfl
        rw [eo]
        walk_at "wx"
        have hn' : n ∈ (m.add n).houses := by rw [TM.add_houses]; simp
        refine wc_Town_visit (A := A1.put n p ls) rfl rfl t3 (k.add hm hn) hn' (TM.add_aw (hdo d rfl)) hT3 fun r H4 hr fr4 hr4 t4 => ?_
        exact q r H4 (A1.put n p ls) F' (fr03.back r hr) (fr03.trans2 fr4 hF) hr4 (fun z => t3.ex r z hr) rfl hF t4
def TM.new (wide room : Nat) : TM := ⟨wide, room, [], []⟩
def sp_Town_init (T : Tx K mg base) : Sp := fun vs H Q _ => ∃ (t dx : Addr) (wide room : Nat), vs = [.ref t, .int wide, .int room] ∧ H t = some (.ins T.C_Town dx []) ∧ 0 < wide ∧ wide ≤ 60 ∧ 0 < room ∧ room ≤ 8 ∧
  ∀ (A : TA) (H' : Hp) (F : Addr → Prop), A.t = t → (∀ a, F a → a = t ∨ H a = none) → Fr (fun a => a = t) H H' → TownAt T H' A F (TM.new wide room) → Q .non H'
theorem ok_Town_init (T : Tx K mg base) : FnOk P w K mg base CX0 2 T.a_Town_init T.d_Town_init ["self", "wide", "room"] (sp_Town_init T) := by
  refine T.F_Town_init.okD sc_Town_init (fun vs H Q E h => ?_) (fun cdv A outer s H vs Q E hr h => ?_)
  · obtain ⟨p, dx, wide, room, rfl, _⟩ := h; rfl
  · obtain ⟨p, dx, wide, room, rfl, hp, w0, w1, r0, r1, q⟩ := h
    have c_Bucket := T.c_Bucket; have n_Bucket_room := T.n_Bucket_room; have n_Bucket_line := T.n_Bucket_line; have c_Table := T.c_Table; have n_Table_own := T.n_Table_own; have n_Table_wide := T.n_Table_wide; have n_Table_room := T.n_Table_room; have n_Table_buckets := T.n_Table_buckets; have c_Town := T.c_Town; have n_Town_wide := T.n_Town_wide; have n_Town_room := T.n_Town_room; have n_Town_tables := T.n_Town_tables; have n_Town_hushed := T.n_Town_hushed
    refine ⟨_, (pss_cons (ps_if (PW.pt (pw_or (pt_not (pt_val (pe_call (ok_is_size T) hr rfl T.m_is_size T.F_is_size.kp T.b_is_size .nil pass0 (pa_cons (pv 1) (pa_cons (pe_glob (v := .int 60) rfl T.m_MOST_WIDE ⟨_, rfl⟩) pa_nil))))) (pw_or1 (pt_not (pt_val (pe_call (ok_is_size T) hr rfl T.m_is_size T.F_is_size.kp T.b_is_size .nil pass0 (pa_cons (pv 2) (pa_cons (pe_glob (v := .int 8) rfl T.m_MOST_ROOM ⟨_, rfl⟩) pa_nil))))))))
      (pss_one ps_dead)
      pss_nil)
      (pss_cons (ps_fld (pv 0) (pv 1) rfl)
      (pss_cons (ps_fld (pv 0) (pv 2) rfl)
      (pss_cons (ps_fld (pv 0) pe_dnewK rfl)
      (pss_one (ps_fld (pv 0) pe_dnewK rfl)))))), ?_⟩
    rw [Nn.st_Town_init]; try rw [Nn.cxK]
    try rw [Nn.cxW]
    walk_at "wx"
    have e1 : decide (1 ≤ wide ∧ wide ≤ 60) = true := decide_eq_true ⟨w0, w1⟩
    have e2 : decide (1 ≤ room ∧ room ≤ 8) = true := decide_eq_true ⟨r0, r1⟩
    rw [e1]
    walk_at "wx"
    rw [e2]
    walk_at "wx"
    refine x_dnew fun td htd => ?_
    have f2 := (Fr.upd1 (o := .ins T.C_Town dx [("wide", .int wide)]) hp).trans (Fr.upd1 (o := .ins T.C_Town dx [("wide", .int wide), ("room", .int room)]) upd_same)
    have hp2 := upd_same (H := upd H p (.ins T.C_Town dx [("wide", .int wide)])) (a := p) (o := .ins T.C_Town dx [("wide", .int wide), ("room", .int room)])
    generalize upd (upd H p (.ins T.C_Town dx [("wide", .int wide)])) p (.ins T.C_Town dx [("wide", .int wide), ("room", .int room)]) = H2 at f2 hp2 htd ⊢
    have hp3 := at_new (o := .dK []) htd hp2
    have ex3 := Ex.new (o := .dK []) htd
    have td3 := upd_same (H := H2) (a := td) (o := .dK [])
    have ntd := ne_of_none hp2 htd
    generalize upd H2 td (.dK []) = H3 at hp3 ex3 td3 ⊢
    walk_at "wx"
    refine x_dnew fun hd hhd => ?_
    have f4 := Fr.upd1 (o := .ins T.C_Town dx [("wide", .int wide), ("room", .int room), ("tables", .ref td)]) hp3
    have hp4 := upd_same (H := H3) (a := p) (o := .ins T.C_Town dx [("wide", .int wide), ("room", .int room), ("tables", .ref td)])
    have td4 := f4.at td3 ntd.symm
    generalize upd H3 p (.ins T.C_Town dx [("wide", .int wide), ("room", .int room), ("tables", .ref td)]) = H4 at f4 hp4 td4 hhd ⊢
    have hp5 := at_new (o := .dK []) hhd hp4
    have ex5 := Ex.new (o := .dK []) hhd
    have td5 := ex5.at td4
    have hd5 := upd_same (H := H4) (a := hd) (o := .dK [])
    have nhd := ne_of_none hp4 hhd
    have nth := ne_of_none td4 hhd
    generalize upd H4 hd (.dK []) = H5 at hp5 ex5 td5 hd5 ⊢
    walk_at "wx"
    have f6 := Fr.upd1 (o := .ins T.C_Town dx [("wide", .int wide), ("room", .int room), ("tables", .ref td), ("hushed", .ref hd)]) hp5
    have fall : Fr (fun a => a = p) H (upd H5 p (.ins T.C_Town dx [("wide", .int wide), ("room", .int room), ("tables", .ref td), ("hushed", .ref hd)])) := (((f2.trans ex3.fr).trans f4).trans ex5.fr).trans f6
    refine q ⟨p, td, hd, fun _ => 0, fun _ => []⟩ _ (fun a => a = p ∨ a = td ∨ a = hd) rfl (fun a z => ?_) fall ⟨⟨⟨dx, upd_same⟩, f6.at td5 ntd.symm, f6.at hd5 nhd.symm⟩, ⟨.inl rfl, .inr (.inl rfl), .inr (.inr rfl)⟩, fun h hh => absurd hh (by simp [TM.new, TM.houses]), fun h hh => absurd hh (by simp [TM.new, TM.houses]), fun h hh => absurd hh (by simp [TM.new, TM.houses]), fun a z e => ?_, nth⟩
    · rcases z with z | z | z
      · exact .inl z
      · rw [z]; exact .inr (f2.back td htd)
      · rw [z]; exact .inr (f2.back hd (ex3.back hd (f4.back hd hhd)))
    · rcases z with z | z | z <;> rw [z] at e
      · rw [upd_same] at e; cases e
      · rw [f6.at td5 ntd.symm] at e; cases e
      · rw [f6.at hd5 nhd.symm] at e; cases e
end
end Nn
/-! towns: go, hush, wake -/
namespace Nn
open PySem L2
section
variable {P : Program} {w : World} {K : PySem.W.Frag} {mg : Str → Option Value} {base : Heap} {H H' : Hp} {Q : VK} {E : XK} {T : Tx K mg base} {A : TA} {F S : Addr → Prop} {m : TM}
theorem dOf_drop {hs : List Nat} {f : Nat → V} {n : Nat} : dropK (dOf hs f) (nK n) = dOf (hs.filter fun x => !decide (x = n)) f := by
  unfold dropK dOf
  rw [List.filter_map]
  congr 1
  refine List.filter_congr fun x _ => ?_
  show decide (nK x ≠ nK n) = !decide (x = n)
  by_cases e : x = n
  · simp [e]
  · have q : nK x ≠ nK n := fun z => e (nK_inj z)
    rw [decide_eq_true q, decide_eq_false e]; rfl
def sp_Town_hush (T : Tx K mg base) : Sp := fun vs H Q _ => ∃ (A : TA) (F : Addr → Prop) (m : TM) (h : Nat), vs = [.ref A.t, .int h] ∧ TownAt T H A F m ∧ m.wide ≤ 60 ∧ h < 2 ^ m.wide ∧ h ∈ m.houses ∧ m.hush.length < 100000 ∧ ∀ H', Fr F H H' → TownAt T H' A F (m.hushed h) → Q .non H'
theorem wc_Town_hush {h : Nat} {i : Int} (hi : i = h) (t : TownAt T H A F m) (w1 : m.wide ≤ 60) (hb : h < 2 ^ m.wide) (hm : h ∈ m.houses) (hz : m.hush.length < 100000) (q : ∀ H', Fr F H H' → TownAt T H' A F (m.hushed h) → Q .non H') : sp_Town_hush T [.ref A.t, .int i] H Q E := by
  subst hi; exact ⟨A, F, m, h, rfl, t, w1, hb, hm, hz, q⟩
/-- a dict of the town changes -/
theorem TownAt.hushD {qs : List Nat} (t : TownAt T H A F m) (f : Fr (fun a => a = A.hd) H H') (e : H' A.hd = some (.dK (dOf qs fun _ => .bl true))) : TownAt T H' A F { m with hush := qs } := by
  have hb := t.tw.hb
  have soft : ∀ a, a = A.hd → Soft H a := fun a z => by rw [z]; exact Soft.dict hb
  obtain ⟨dx, ob⟩ := t.tw.ob
  refine ⟨⟨⟨dx, f.at ob fun z => ?_⟩, f.at t.tw.tb t.ne, e⟩, t.ft, fun h hh => ?_, fun h hh => ?_, t.dj, fun a ha z => t.ex a ha (f.back a z), t.ne⟩
  · rw [z, hb] at ob; cases ob
  · obtain ⟨a1, a2⟩ := t.tab h hh
    exact ⟨a1.soft f soft, a2.fr f fun l hl z => by
      obtain ⟨_, e⟩ := a2.is hl
      rw [z, hb] at e; cases e⟩
  · obtain ⟨o1, o2, o3⟩ := t.own h hh
    exact ⟨o1, o2.soft (t.tab h hh).1 f soft, o3⟩
theorem ok_Town_hush (T : Tx K mg base) : FnOk P w K mg base CX0 3 T.a_Town_hush T.d_Town_hush ["self", "house"] (sp_Town_hush T) := by
  refine T.F_Town_hush.okD sc_Town_hush (fun vs H Q E h => ?_) (fun cdv A outer s H vs Q E hr h => ?_)
  · obtain ⟨A, F, m, n, rfl, _⟩ := h; rfl
  · obtain ⟨A1, F, m, n, rfl, t, w1, hb, hm, hz, q⟩ := h
    obtain ⟨dx, ob⟩ := t.tw.ob
    have hd := t.tw.hb
    have hu := hu_of hr
    have c_Bucket := T.c_Bucket; have n_Bucket_room := T.n_Bucket_room; have n_Bucket_line := T.n_Bucket_line; have c_Table := T.c_Table; have n_Table_own := T.n_Table_own; have n_Table_wide := T.n_Table_wide; have n_Table_room := T.n_Table_room; have n_Table_buckets := T.n_Table_buckets; have c_Town := T.c_Town; have n_Town_wide := T.n_Town_wide; have n_Town_room := T.n_Town_room; have n_Town_tables := T.n_Town_tables; have n_Town_hushed := T.n_Town_hushed
    refine ⟨_, (pss_cons (ps_expr (pe_meth (pv 0) T.c_Town T.t_Town_table (ok_Town_table T) hr T.b_Town_table .nil pass0 (pa_cons (pv 1) pa_nil)))
      (pss_one (ps_dput hu (pe_fld (pv 0) rfl) (pv 1) pe_bl rfl))), ?_⟩
    rw [Nn.st_Town_hush]; try rw [Nn.cxK]
    try rw [Nn.cxW]
    walk_at "wx"
    refine wc_Town_table rfl t w1 hb hm ?_
    walk_at "wx"
    refine x_dput hd (by rw [sizeLine_eq, dOf_len]; omega) ?_
    have ep : putK (dOf m.hush fun _ => .bl true) (Sum.inl (n : Int)) (.bl true) = dOf (m.hushed n).hush fun _ => .bl true := by
      unfold TM.hushed
      by_cases z : n ∈ m.hush
      · rw [if_pos z]; exact dOf_put (f := fun _ => V.bl true) z
      · rw [if_neg z]; exact dOf_new (f := fun _ => V.bl true) z
    rw [ep]
    have f1 := Fr.upd1 (o := .dK (dOf (m.hushed n).hush fun _ => .bl true)) hd
    have e : ({ m with hush := (m.hushed n).hush } : TM) = m.hushed n := by
      unfold TM.hushed
      split <;> rfl
    have t1 := t.hushD f1 upd_same
    rw [e] at t1
    exact q _ (f1.mono fun a z => by rw [z]; exact t.ft.2.2) t1
theorem TM.cut_houses {n : Nat} : (m.cut n).houses = m.houses.filter fun x => !decide (x = n) := by
  unfold TM.cut TM.houses
  rw [List.filter_map]; rfl
theorem TM.cut_tab {n x : Nat} (h : x ≠ n) : (m.cut n).tab x = m.tab x := by
  unfold TM.tab TM.cut
  show ((m.tabs.filter fun e => !decide (e.1 = n)).lookup x).getD [] = _
  congr 1
  induction m.tabs with
  | nil => rfl
  | cons e r ih =>
    obtain ⟨k, ys⟩ := e
    by_cases q : k = n
    · rw [List.filter_cons_of_neg (by simp [q]), ih, TM.lookup_ne (by rw [q]; exact h)]
    · rw [List.filter_cons_of_pos (by simp [q])]
      by_cases e2 : x = k
      · subst e2; rw [TM.lookup_eq, TM.lookup_eq]
      · rw [TM.lookup_ne e2, TM.lookup_ne e2, ih]
theorem TM.Ok.cut {N : List Nat} {n : Nat} (k : m.Ok N) : (m.cut n).Ok N := by
  refine ⟨k.w0, k.w1, k.r0, k.r1, k.nb, k.nl, fun x hx => ?_, by rw [TM.cut_houses]; exact k.nd.filter _, k.hnd.filter _, fun x hx => ?_, fun h xss hm => k.at_ _ _ (List.mem_filter.mp hm).1⟩
  · rw [TM.cut_houses] at hx; exact k.hN x (List.mem_filter.mp hx).1
  · rw [TM.cut_houses]
    have q := List.mem_filter.mp hx
    exact List.mem_filter.mpr ⟨k.hh x q.1, q.2⟩
theorem TM.Ok.woken {N : List Nat} {n : Nat} (k : m.Ok N) : (m.woken n).Ok N :=
  ⟨k.w0, k.w1, k.r0, k.r1, k.nb, k.nl, k.hN, k.nd, k.hnd.filter _, fun x hx => k.hh x (List.mem_filter.mp hx).1, k.at_⟩
theorem TM.Ok.hushed {N : List Nat} {n : Nat} (k : m.Ok N) (hn : n ∈ m.houses) : (m.hushed n).Ok N := by
  unfold TM.hushed
  by_cases z : n ∈ m.hush
  · rw [if_pos z]; exact k
  · rw [if_neg z]
    exact ⟨k.w0, k.w1, k.r0, k.r1, k.nb, k.nl, k.hN, k.nd, nd_snoc k.hnd z, fun x hx => (List.mem_append.mp hx).elim (k.hh x) fun q => by rw [List.mem_singleton.mp q]; exact hn, k.at_⟩
theorem TM.woken_aw {n d : Nat} (h : m.aw d = true) : (m.woken n).aw d = true := by
  unfold TM.aw at h ⊢
  rw [Bool.and_eq_true] at h ⊢
  refine ⟨h.1, ?_⟩
  have h2 : d ∉ m.hush := by simpa using h.2
  have h3 : d ∉ (m.woken n).hush := fun z => h2 (List.mem_filter.mp z).1
  simp [h3]
def sp_Town_go (T : Tx K mg base) : Sp := fun vs H Q _ => ∃ (A : TA) (F : Addr → Prop) (m : TM) (h : Nat), vs = [.ref A.t, .int h] ∧ TownAt T H A F m ∧ m.wide ≤ 60 ∧ h < 2 ^ m.wide ∧ h ∈ m.houses ∧ ∀ H', Fr F H H' → TownAt T H' A F (m.cut h) → Q .non H'
theorem wc_Town_go {h : Nat} {i : Int} (hi : i = h) (t : TownAt T H A F m) (w1 : m.wide ≤ 60) (hb : h < 2 ^ m.wide) (hm : h ∈ m.houses) (q : ∀ H', Fr F H H' → TownAt T H' A F (m.cut h) → Q .non H') : sp_Town_go T [.ref A.t, .int i] H Q E := by
  subst hi; exact ⟨A, F, m, h, rfl, t, w1, hb, hm, q⟩
theorem TownAt.cutD {n : Nat} (t : TownAt T H A F m) (f : Fr (fun a => a = A.td ∨ a = A.hd) H H') (e1 : H' A.td = some (.dK (dOf (m.cut n).houses fun h => .ref (A.pa h)))) (e2 : H' A.hd = some (.dK (dOf (m.cut n).hush fun _ => .bl true))) : TownAt T H' A F (m.cut n) := by
  have hb := t.tw.hb
  have td := t.tw.tb
  have soft : ∀ a, (a = A.td ∨ a = A.hd) → Soft H a := fun a z => by
    rcases z with z | z <;> rw [z]
    · exact Soft.dict td
    · exact Soft.dict hb
  have sub : ∀ x, x ∈ (m.cut n).houses → x ∈ m.houses ∧ x ≠ n := fun x hx => by
    rw [TM.cut_houses] at hx
    have q := List.mem_filter.mp hx
    exact ⟨q.1, by simpa using q.2⟩
  obtain ⟨dx, ob⟩ := t.tw.ob
  refine ⟨⟨⟨dx, f.at ob fun z => ?_⟩, e1, e2⟩, t.ft, fun h hh => ?_, fun h hh => ?_, fun h1 q1 h2 q2 => t.dj h1 (sub h1 q1).1 h2 (sub h2 q2).1, fun a ha z => t.ex a ha (f.back a z), t.ne⟩
  · rcases z with z | z <;> rw [z] at ob
    · rw [td] at ob; cases ob
    · rw [hb] at ob; cases ob
  · obtain ⟨a1, a2⟩ := t.tab h (sub h hh).1
    rw [TM.cut_tab (sub h hh).2]
    exact ⟨a1.soft f soft, a2.fr f fun l hl z => by
      obtain ⟨_, e⟩ := a2.is hl
      rcases z with z | z <;> rw [z] at e
      · rw [td] at e; cases e
      · rw [hb] at e; cases e⟩
  · obtain ⟨o1, o2, o3⟩ := t.own h (sub h hh).1
    exact ⟨o1, o2.soft (t.tab h (sub h hh).1).1 f soft, o3⟩
theorem ok_Town_go (T : Tx K mg base) : FnOk P w K mg base CX0 3 T.a_Town_go T.d_Town_go ["self", "house"] (sp_Town_go T) := by
  refine T.F_Town_go.okD sc_Town_go (fun vs H Q E h => ?_) (fun cdv A outer s H vs Q E hr h => ?_)
  · obtain ⟨A, F, m, n, rfl, _⟩ := h; rfl
  · obtain ⟨A1, F, m, n, rfl, t, w1, hb, hm, q⟩ := h
    obtain ⟨dx, ob⟩ := t.tw.ob
    have td := t.tw.tb
    have hd := t.tw.hb
    have hu := hu_of hr
    have e2 : valV (dOf m.houses fun h => .ref (A1.pa h)) (Sum.inl (n : Int)) = some (.ref (A1.pa n)) := by
      have q := dOf_val (f := fun h => V.ref (A1.pa h)) (n := n) (hs := m.houses)
      rw [if_pos hm] at q; exact q
    have c_Bucket := T.c_Bucket; have n_Bucket_room := T.n_Bucket_room; have n_Bucket_line := T.n_Bucket_line; have c_Table := T.c_Table; have n_Table_own := T.n_Table_own; have n_Table_wide := T.n_Table_wide; have n_Table_room := T.n_Table_room; have n_Table_buckets := T.n_Table_buckets; have c_Town := T.c_Town; have n_Town_wide := T.n_Town_wide; have n_Town_room := T.n_Town_room; have n_Town_tables := T.n_Town_tables; have n_Town_hushed := T.n_Town_hushed
    refine ⟨_, (pss_cons (ps_expr (pe_meth (pv 0) T.c_Town T.t_Town_table (ok_Town_table T) hr T.b_Town_table .nil pass0 (pa_cons (pv 1) pa_nil)))
      (pss_cons (ps_expr (pe_dpop1 (pe_fld (pv 0) rfl) (pv 1) ⟨rfl, rfl, rfl, rfl⟩))
      (pss_one (ps_expr (pe_dpop2 (pe_fld (pv 0) rfl) (pv 1) pe_bl ⟨rfl, rfl, rfl, rfl⟩))))), ?_⟩
    rw [Nn.st_Town_go]; try rw [Nn.cxK]
    try rw [Nn.cxW]
    walk_at "wx"
    refine wc_Town_table rfl t w1 hb hm ?_
    walk_at "wx"
    have ed : dropK (dOf m.houses fun h => .ref (A1.pa h)) (Sum.inl (n : Int)) = dOf (m.cut n).houses fun h => .ref (A1.pa h) := by rw [TM.cut_houses]; exact dOf_drop
    rw [ed]
    have f1 := Fr.upd1 (o := .dK (dOf (m.cut n).houses fun h => .ref (A1.pa h))) td
    have td1 := upd_same (H := H) (a := A1.td) (o := .dK (dOf (m.cut n).houses fun h => .ref (A1.pa h)))
    have hd1 := f1.at hd t.ne.symm
    generalize upd H A1.td (.dK (dOf (m.cut n).houses fun h => .ref (A1.pa h))) = H1 at f1 td1 hd1 ⊢
    have eh : dropK (dOf m.hush fun _ => .bl true) (Sum.inl (n : Int)) = dOf (m.cut n).hush fun _ => .bl true := dOf_drop
    have f1' := f1.mono (S' := fun a => a = A1.td ∨ a = A1.hd) fun a z => .inl z
    have nF : ∀ a, (a = A1.td ∨ a = A1.hd) → F a := fun a z => z.elim (fun z => by rw [z]; exact t.ft.2.1) fun z => by rw [z]; exact t.ft.2.2
    walk_at "wx"
    refine x_p2 hd1 (fun v _ => ?_) fun hv => ?_
    · rw [eh]
      have f2 := f1'.trans ((Fr.upd1 (o := .dK (dOf (m.cut n).hush fun _ => .bl true)) hd1).mono fun a z => .inr z)
      exact q _ (f2.mono nF) (t.cutD f2 (by rw [upd_ne t.ne]; exact td1) upd_same)
    · have hn : n ∉ m.hush := fun z => by
        have q := dOf_val (f := fun _ => V.bl true) (n := n) (hs := m.hush)
        rw [if_pos z] at q
        have hv : valV (dOf m.hush fun _ => V.bl true) (nK n) = none := hv
        rw [q] at hv; cases hv
      have e : (m.cut n).hush = m.hush := List.filter_eq_self.mpr fun x hx => by
        have : x ≠ n := fun z => hn (by rw [← z]; exact hx)
        simp [this]
      exact q _ (f1'.mono nF) (t.cutD f1' td1 (by rw [e]; exact hd1))
def sp_Town_wake (T : Tx K mg base) : Sp := fun vs H Q _ => ∃ (A : TA) (F : Addr → Prop) (m : TM) (N : List Nat) (h door : Nat), vs = [.ref A.t, .int h, .int door] ∧ TownAt T H A F m ∧ m.Ok N ∧ h ∈ m.hush ∧ m.aw door = true ∧ NdefX.TabsN (tabsL T) H ∧
  ∀ p H', H p = none → Fr F H H' → H' p = some (.lst (((m.woken h).others h door).map nV)) → TownAt T H' A F ((m.woken h).visit h door) → Q (.ref p) H'
theorem wc_Town_wake {N : List Nat} {h door : Nat} {i j : Int} (hi : i = h) (hj : j = door) (t : TownAt T H A F m) (k : m.Ok N) (hm : h ∈ m.hush) (hd : m.aw door = true) (tb : NdefX.TabsN (tabsL T) H)
    (q : ∀ p H', H p = none → Fr F H H' → H' p = some (.lst (((m.woken h).others h door).map nV)) → TownAt T H' A F ((m.woken h).visit h door) → Q (.ref p) H') : sp_Town_wake T [.ref A.t, .int i, .int j] H Q E := by
  subst hi hj; exact ⟨A, F, m, N, h, door, rfl, t, k, hm, hd, tb, q⟩
theorem ok_Town_wake (T : Tx K mg base) : FnOk P w K mg base CX0 7 T.a_Town_wake T.d_Town_wake ["self", "house", "door"] (sp_Town_wake T) := by
  refine T.F_Town_wake.okD sc_Town_wake (fun vs H Q E h => ?_) (fun cdv A outer s H vs Q E hr h => ?_)
  · obtain ⟨A, F, m, N, n, door, rfl, _⟩ := h; rfl
  · obtain ⟨A1, F, m, N, n, door, rfl, t, k, hm, hdo, hT, q⟩ := h
    obtain ⟨dx, ob⟩ := t.tw.ob
    have hd := t.tw.hb
    have hu := hu_of hr
    have hmh := k.hh n hm
    have e1 : (valV (dOf m.hush fun _ => .bl true) (Sum.inl (n : Int))).isSome = decide (n ∈ m.hush) := dOf_has
    have e2 : valV (dOf m.hush fun _ => .bl true) (Sum.inl (n : Int)) = some (.bl true) := by
      have q := dOf_val (f := fun _ => V.bl true) (n := n) (hs := m.hush)
      rw [if_pos hm] at q; exact q
    have eh : dropK (dOf m.hush fun _ => .bl true) (Sum.inl (n : Int)) = dOf (m.woken n).hush fun _ => .bl true := dOf_drop
    have c_Bucket := T.c_Bucket; have n_Bucket_room := T.n_Bucket_room; have n_Bucket_line := T.n_Bucket_line; have c_Table := T.c_Table; have n_Table_own := T.n_Table_own; have n_Table_wide := T.n_Table_wide; have n_Table_room := T.n_Table_room; have n_Table_buckets := T.n_Table_buckets; have c_Town := T.c_Town; have n_Town_wide := T.n_Town_wide; have n_Town_room := T.n_Town_room; have n_Town_tables := T.n_Town_tables; have n_Town_hushed := T.n_Town_hushed
    refine ⟨_, (pss_cons (ps_expr (pe_meth (pv 0) T.c_Town T.t_Town_table (ok_Town_table T) (hr.mono (by decide)) T.b_Town_table .nil pass0 (pa_cons (pv 1) pa_nil)))
      (pss_cons (ps_if (pt_cmp (pc_dnotin hu (pv 1) (pe_fld (pv 0) rfl)))
      (pss_one ps_dead)
      pss_nil)
      (pss_cons (ps_expr (pe_meth (pv 0) T.c_Town T.t_Town_look_awake (ok_Town_look_awake T) (hr.mono (by decide)) T.b_Town_look_awake .nil pass0 (pa_cons (pv 2) pa_nil)))
      (pss_cons (ps_expr (pe_dpop1 (pe_fld (pv 0) rfl) (pv 1) ⟨rfl, rfl, rfl, rfl⟩))
      (pss_one (ps_ret (pe_meth (pv 0) T.c_Town T.t_Town_visit (ok_Town_visit T) hr T.b_Town_visit .nil pass0 (pa_cons (pv 1) (pa_cons (pv 2) pa_nil))))))))), ?_⟩
    rw [Nn.st_Town_wake]; try rw [Nn.cxK]
    try rw [Nn.cxW]
    walk_at "wx"
    refine wc_Town_table rfl t k.w1 (k.bd hmh) hmh ?_
    walk_at "wx"
    rw [e1, decide_eq_true hm]
    walk_at "wx"
    refine wc_Town_look_awake rfl t k.w1 (k.bd (TM.aw_house hdo)) hdo ?_
    walk_at "wx"
    rw [eh]
    have f1 := Fr.upd1 (o := .dK (dOf (m.woken n).hush fun _ => .bl true)) hd
    have t1 : TownAt T (upd H A1.hd (.dK (dOf (m.woken n).hush fun _ => .bl true))) A1 F (m.woken n) := t.hushD f1 upd_same
    have f1' : Fr F H (upd H A1.hd (.dK (dOf (m.woken n).hush fun _ => .bl true))) := f1.mono fun a z => by rw [z]; exact t.ft.2.2
    generalize upd H A1.hd (.dK (dOf (m.woken n).hush fun _ => .bl true)) = H1 at t1 f1' ⊢
    obtain ⟨dx1, ob1⟩ := t1.tw.ob
    walk_at "wx"
    refine wc_Town_visit rfl rfl t1 k.woken hmh (TM.woken_aw hdo) (Fr.tabs f1' hT) fun p H2 hp fr2 hp2 t2 => ?_
    exact q p H2 (f1'.back p hp) (f1'.trans fr2) hp2 t2
end
end Nn
/-! what comes to a town (for laws without a model) -/
namespace Nn
open PySem L2
theorem TM.comes_houses {m : TM} {n : Nat} {d : Option Nat} : (m.comes n d).houses = m.houses ++ [n] := by
  cases d with
  | none => exact TM.add_houses
  | some d => exact TM.fold_houses.trans TM.add_houses
theorem TM.comes_wide {m : TM} {n : Nat} {d : Option Nat} : (m.comes n d).wide = m.wide := by
  cases d with
  | none => rfl
  | some d => exact TM.fold_sizes.1
theorem TM.Ok.comes {m : TM} {N : List Nat} {n : Nat} {d : Option Nat} (k : m.Ok N) (hm : n ∉ m.houses) (hn : n ∈ N) : (m.comes n d).Ok N := by
  cases d with
  | none => exact k.add hm hn
  | some d => exact (k.add hm hn).fold hn fun o ho => (k.add hm hn).hN o (TM.others_mem ho).1
theorem TM.Ok.new {wd room : Nat} (w1 : 1 ≤ wd) (w2 : wd ≤ 60) (r0 : 0 < room) (r1 : room ≤ 8) : (TM.new wd room).Ok [] :=
  ⟨w1, w2, r0, r1, by simp, by decide, by simp [TM.new, TM.houses], by simp [TM.new, TM.houses], by simp [TM.new], by simp [TM.new], by simp [TM.new]⟩
theorem TM.Ok.one {m : TM} {n : Nat} (k : m.Ok m.houses) (hz : m.houses.length ≤ 40) (hn : n < 2 ^ m.wide) : m.Ok (m.houses ++ [n]) :=
  k.more (fun x hx => List.mem_append.mpr (.inl hx)) (fun x hx => (List.mem_append.mp hx).elim (k.nb x) fun z => by rw [List.mem_singleton.mp z]; exact hn) (by rw [List.length_append, List.length_singleton]; omega)
theorem TM.told_len {m : TM} {n : Nat} {d : Option Nat} : (m.told n d).length ≤ m.houses.length + 1 := by
  cases d with
  | none => exact Nat.zero_le _
  | some d =>
    have q : ((m.add n).others n d).length ≤ (m.add n).houses.length := nodup_len ((rising_nodup TM.comeTo_sorted).filter _) fun x hx => (TM.others_mem hx).1
    rw [TM.add_houses, List.length_append, List.length_singleton] at q
    exact q
theorem TM.Ok.one' {m : TM} {N : List Nat} {n : Nat} (k : m.Ok N) (hz : N.length ≤ 62) (hn : n < 2 ^ m.wide) : m.Ok (N ++ [n]) :=
  k.more (fun x hx => List.mem_append.mpr (.inl hx)) (fun x hx => (List.mem_append.mp hx).elim (k.nb x) fun z => by rw [List.mem_singleton.mp z]; exact hn) (by rw [List.length_append, List.length_singleton]; omega)
end Nn
/-! towns: tells, way, ask -/
namespace Nn
open PySem L2
section
variable {P : Program} {w : World} {K : PySem.W.Frag} {mg : Str → Option Value} {base : Heap} {H H' : Hp} {Q : VK} {E : XK} {T : Tx K mg base} {A : TA} {F S : Addr → Prop} {m : TM}
def TM.tells (m : TM) (h g a : Nat) : Option (List Nat) := if m.aw h = true then some (nearN (m.keeps h) g m.room (some a)) else none
theorem TM.tells_some {N : List Nat} (k : m.Ok N) {h g a : Nat} {l : List Nat} (e : m.tells h g a = some l) : l.length ≤ 100 ∧ ∀ x ∈ l, x ∈ N := by
  unfold TM.tells at e
  split at e
  · rename_i haw
    cases e
    unfold nearN
    refine ⟨Nat.le_trans (List.length_take_le _ _) (Nat.le_trans k.r1 (by decide)), fun x hx => ?_⟩
    have q := (List.mem_filter.mp (mem_byN.mp (List.mem_of_mem_take hx))).1
    exact (k.tabOk (TM.aw_house haw)).mem (TM.mem_keeps.mp q)
  · cases e
theorem TM.tells_isSome {h g a : Nat} : (m.tells h g a).isSome = m.aw h := by
  unfold TM.tells
  cases m.aw h <;> rfl
theorem TM.tells_ne {h g a : Nat} (e : m.aw h = true) : m.tells h g a ≠ none := fun z => by
  have := TM.tells_isSome (m := m) (h := h) (g := g) (a := a)
  rw [z, e] at this; cases this
def sp_Town_tells (T : Tx K mg base) : Sp := fun vs H Q _ => ∃ (A : TA) (F : Addr → Prop) (m : TM) (N : List Nat) (h g a : Nat), vs = [.ref A.t, .int h, .int g, .int a] ∧ TownAt T H A F m ∧ m.Ok N ∧ ∀ v H', Ex H H' → AnsV K H' v (m.tells h g a) → (∀ p, v = .ref p → H p = none) → Q v H'
theorem wc_Town_tells {N : List Nat} {h g a : Nat} {i j k : Int} (hi : i = h) (hj : j = g) (hk : k = a) (t : TownAt T H A F m) (ok : m.Ok N) (q : ∀ v H', Ex H H' → AnsV K H' v (m.tells h g a) → (∀ p, v = .ref p → H p = none) → Q v H') : sp_Town_tells T [.ref A.t, .int i, .int j, .int k] H Q E := by
  subst hi hj hk; exact ⟨A, F, m, N, h, g, a, rfl, t, ok, q⟩
theorem ok_Town_tells (T : Tx K mg base) : FnOk P w K mg base CX0 4 T.a_Town_tells T.d_Town_tells ["self", "house", "goal", "asker"] (sp_Town_tells T) := by
  refine T.F_Town_tells.okD sc_Town_tells (fun vs H Q E h => ?_) (fun cdv A outer s H vs Q E hr h => ?_)
  · obtain ⟨A, F, m, N, h0, g, a, rfl, _⟩ := h; rfl
  · obtain ⟨A1, F, m, N, h0, g, a, rfl, t, k, q⟩ := h
    obtain ⟨dx, ob⟩ := t.tw.ob
    have hu := hu_of hr
    have td := t.tw.tb
    have c_Bucket := T.c_Bucket; have n_Bucket_room := T.n_Bucket_room; have n_Bucket_line := T.n_Bucket_line; have c_Table := T.c_Table; have n_Table_own := T.n_Table_own; have n_Table_wide := T.n_Table_wide; have n_Table_room := T.n_Table_room; have n_Table_buckets := T.n_Table_buckets; have c_Town := T.c_Town; have n_Town_wide := T.n_Town_wide; have n_Town_room := T.n_Town_room; have n_Town_tables := T.n_Town_tables; have n_Town_hushed := T.n_Town_hushed
    refine ⟨_, (pss_cons (ps_if (pt_not (pt_val (pe_meth (pv 0) T.c_Town T.t_Town_answers (ok_Town_answers T) (hr.mono (by decide)) T.b_Town_answers .nil pass0 (pa_cons (pv 1) pa_nil))))
      (pss_one (ps_ret pe_non))
      pss_nil)
      (pss_one (ps_ret (pe_meth (pe_dget hu (pe_fld (pv 0) rfl) (pv 1) (fun _ _ => rfl)) T.c_Table T.t_Table_nearest (ok_Table_nearest T) hr T.b_Table_nearest .nil pass0 (pa_cons (pv 2) (pa_cons (pe_fld (pv 0) rfl) (pa_cons (pv 3) pa_nil))))))), ?_⟩
    rw [Nn.st_Town_tells]; try rw [Nn.cxK]
    try rw [Nn.cxW]
    walk_at "wx"
    refine TwAt.ans rfl t ?_
    walk_at "wx"
    cases haw : m.aw h0 with
    | false =>
      walk_at "wx"
      have e : m.tells h0 g a = none := by unfold TM.tells; rw [haw]; rfl
      exact q .non H Ex.refl (by rw [e]; rfl) fun p z => by cases z
    | true =>
      have hm := TM.aw_house haw
      obtain ⟨t1, t2⟩ := t.tab h0 hm
      obtain ⟨dx1, bl1, bs1, hob1, _⟩ := t1.ob
      have e2 : valV (dOf m.houses fun h => .ref (A1.pa h)) (Sum.inl (h0 : Int)) = some (.ref (A1.pa h0)) := by
        have q := dOf_val (f := fun h => V.ref (A1.pa h)) (n := h0) (hs := m.houses)
        rw [if_pos hm] at q; exact q
      walk_at "wx"
      refine wc_Table_nearest (b := some a) t1 t2 (k.tabOk hm).nodup (k.keeps_len hm) rfl fun p H1 hp ex1 h1 => ?_
      have e : m.tells h0 g a = some (nearN (m.keeps h0) g m.room (some a)) := by unfold TM.tells; rw [haw]; rfl
      exact q (.ref p) H1 ex1 (by rw [e]; exact ⟨p, rfl, SqL.of h1⟩) fun p' z => by cases z; exact hp
/-- the promise of a function within a town's deed that tells -/
def sp_tellsT (T : Tx K mg base) : List (Option V) → Sp := fun ws vs H Q _ => ∃ (A : TA) (F : Addr → Prop) (m : TM) (N : List Nat) (h g a : Nat), ws = [some (.ref A.t)] ∧ vs = [.int h, .int g, .int a] ∧ TownAt T H A F m ∧ m.Ok N ∧ ∀ v H', Ex H H' → AnsV K H' v (m.tells h g a) → (∀ p, v = .ref p → H p = none) → Q v H'
/-- such a function of the town m at A -/
def telTown (T : Tx K mg base) (Z : Tel P w K mg base) (hz : Z.sp = sp_tellsT T) (A : TA) (F : Addr → Prop) (m : TM) (N : List Nat) (k : m.Ok N) (hN : N.length < 63) (cl : List (Str × Addr)) (f cd : Addr) : TelAt Z cl [some (.ref A.t)] f where
  cd := cd
  I := fun H _ => TownAt T H A F m ∧ H f = some (NdefX.FnO f (NdefX.NF.of Z.st Z.name Z.qual cl cd)) ∧ H cd = some (LamX.CodeO cd (NdefX.NF.of Z.st Z.name Z.qual cl cd).qual)
  FF := fun a => F a ∨ a = f ∨ a = cd
  S := fun _ => False
  tell := m.tells
  N := N
  fn := fun h => h.2
  fr := fun h fr hR => ⟨h.1.fr fr fun a z g => (hR a z).1 (.inl g), fr.at h.2.1 fun z => (hR _ z).1 (.inr (.inl rfl)), fr.at h.2.2 fun z => (hR _ z).1 (.inr (.inr rfl))⟩
  sub := fun _ z => z.elim
  live := fun h z => by
    rcases z with z | z | z
    · exact h.1.ex _ z
    · rw [z, h.2.1]; exact fun c => by cases c
    · rw [z, h.2.2]; exact fun c => by cases c
  nl := hN
  tl := fun h g a l e => TM.tells_some k e
  sil := fun h g a g' a' => by rw [TM.tells_isSome, TM.tells_isSome]
  say := fun {H cs h g a Q E} hI _ _ q => by
    rw [hz]
    refine ⟨A, F, m, N, h, g, a, rfl, rfl, hI.1, k, fun v H' ex ha _ => q v H' ex ⟨hI.1.ex' ex, ex.at hI.2.1, ex.at hI.2.2⟩ ha⟩
def sp_Town_way_tells (T : Tx K mg base) : List (Option V) → Sp := sp_tellsT T
theorem nok_Town_way_tells (T : Tx K mg base) {cl : List (Str × Addr)} {c : Addr} (f : Addr) : NdefX.NOk P w K mg base CX0 5 f (nf_Town_way_tells cl c) ["house", "aim", "asker"] fr_Town_way_tells (sp_Town_way_tells T) := by
  refine NdefX.nok_of (N := N_Town_way_tells) nsc_Town_way_tells (fun doc pm ctv us hl => match us, hl with | [_, _, _], _ => rfl) (fun ws vs H Q E h => ?_) (fun A outer s H vs ws Q E hr hf hc hwl h => ?_)
  · obtain ⟨A, F, m, N, h0, g, a, _, rfl, _⟩ := h; rfl
  · obtain ⟨A1, F, m, N, h0, g, a, rfl, rfl, t, k, q⟩ := h
    obtain ⟨dx, ob⟩ := t.tw.ob
    have c_Bucket := T.c_Bucket; have n_Bucket_room := T.n_Bucket_room; have n_Bucket_line := T.n_Bucket_line; have c_Table := T.c_Table; have n_Table_own := T.n_Table_own; have n_Table_wide := T.n_Table_wide; have n_Table_room := T.n_Table_room; have n_Table_buckets := T.n_Table_buckets; have c_Town := T.c_Town; have n_Town_wide := T.n_Town_wide; have n_Town_room := T.n_Town_room; have n_Town_tables := T.n_Town_tables; have n_Town_hushed := T.n_Town_hushed
    refine ⟨_, (pss_one (ps_ret (pe_meth (pv 3) T.c_Town T.t_Town_tells (ok_Town_tells T) hr T.b_Town_tells .nil pass0 (pa_cons (pv 0) (pa_cons (pv 1) (pa_cons (pv 2) pa_nil)))))), ?_⟩
    rw [Nn.st_Town_way_tells]; try rw [Nn.cxK]
    try rw [Nn.cxW]
    walk_at "wx"
    exact wc_Town_tells rfl rfl rfl t k q
abbrev tel_Town_way_tells (T : Tx K mg base) : Tel P w K mg base where
  st := s_Town_way_tells
  name := "tells"
  qual := (("Town.way" : Str) ++ ".<locals>.") ++ "tells"
  ps := ["house", "aim", "asker"]
  fr := fr_Town_way_tells
  sp := sp_Town_way_tells T
  ok := fun cl cd f => (nok_Town_way_tells T f).mono (by decide)
def sp_Town_way (T : Tx K mg base) : Sp := fun vs H Q _ => ∃ (A : TA) (F : Addr → Prop) (m : TM) (N : List Nat) (h g : Nat), vs = [.ref A.t, .int h, .int g] ∧ TownAt T H A F m ∧ m.Ok N ∧ N.length < 63 ∧ m.aw h = true ∧ g < 2 ^ m.wide ∧ NdefX.TabsN (tabsL T) H ∧
  ∀ p H', H p = none → Ex H H' → H' p = some (.lst ((wayN m.tells g h).map nV)) → Q (.ref p) H'
theorem wc_Town_way {N : List Nat} {h g : Nat} {i j : Int} (hi : i = h) (hj : j = g) (t : TownAt T H A F m) (k : m.Ok N) (hN : N.length < 63) (hm : m.aw h = true) (hg : g < 2 ^ m.wide) (tb : NdefX.TabsN (tabsL T) H) (q : ∀ p H', H p = none → Ex H H' → H' p = some (.lst ((wayN m.tells g h).map nV)) → Q (.ref p) H') : sp_Town_way T [.ref A.t, .int i, .int j] H Q E := by
  subst hi hj; exact ⟨A, F, m, N, h, g, rfl, t, k, hN, hm, hg, tb, q⟩
theorem ok_Town_way (T : Tx K mg base) : FnOk P w K mg base CX0 8 T.a_Town_way T.d_Town_way ["self", "start", "goal"] (sp_Town_way T) := by
  refine T.FC_Town_way.okC sc_Town_way (fun vs H Q E h => ?_) (fun A outer s H vs Q E hr h => ?_)
  · obtain ⟨A, F, m, N, h0, g, rfl, _⟩ := h; rfl
  · obtain ⟨A1, F, m, N, h0, g, rfl, t, k, hN, haw, hg, hT, q⟩ := h
    obtain ⟨dx, ob⟩ := t.tw.ob
    have hu := hu_of hr
    have c_Bucket := T.c_Bucket; have n_Bucket_room := T.n_Bucket_room; have n_Bucket_line := T.n_Bucket_line; have c_Table := T.c_Table; have n_Table_own := T.n_Table_own; have n_Table_wide := T.n_Table_wide; have n_Table_room := T.n_Table_room; have n_Table_buckets := T.n_Table_buckets; have c_Town := T.c_Town; have n_Town_wide := T.n_Town_wide; have n_Town_room := T.n_Town_room; have n_Town_tables := T.n_Town_tables; have n_Town_hushed := T.n_Town_hushed
    refine ⟨_, (pss_cons (ps_ndefA (st := s_Town_way_tells) (i := 3) rfl T.tb_Town_way rfl nm_Town_way_tells (NdefX.ndef_free ndB_Town_way_tells) rfl rfl rfl sc_Town_way.nd rfl (Or.inl rfl) (.inl rfl))
      (pss_cons (ps_expr (pe_meth (pv 0) T.c_Town T.t_Town_look_awake (ok_Town_look_awake T) (hr.mono (by decide)) T.b_Town_look_awake .nil pass0 (pa_cons (pv 1) pa_nil)))
      (pss_cons (ps_expr (pe_meth (pv 0) T.c_Town T.t_Town_look_named (ok_Town_look_named T) (hr.mono (by decide)) T.b_Town_look_named .nil pass0 (pa_cons (pv 2) pa_nil)))
      (pss_one (ps_ret (pe_callC (fun ws => ok_way T (tel_Town_way_tells T) ws) (Prov.own (js := [0]) fun ok => NdefX.Caps.made ok (NdefX.ndef_free ndB_Town_way_tells) (NdefX.ndef_fr ndB_Town_way_tells) rfl) hr rfl T.m_way_asks T.F_way.kp T.b_way .nil pass0 (pa_cons (pv 1) (pa_cons (pv 2) (pa_cons (pv 3) pa_nil))))))))), ?_⟩
    rw [Nn.st_Town_way]; try rw [Nn.cxK]
    try rw [Nn.cxW]
    walk_at "wx"
    refine ⟨hT _ tabm_Town_way, fun f cd H1 ex1 hf0 hf hcd => ?_⟩
    generalize L2.cloFrom _ _ _ = cl at hf hcd ⊢
    have hf : H1 f = some (NdefX.FnO f (nf_Town_way_tells cl cd)) := hf
    have hcd : H1 cd = some (LamX.CodeO cd (nf_Town_way_tells cl cd).qual) := hcd
    have t1 := t.ex' ex1
    obtain ⟨dx1, ob1⟩ := t1.tw.ob
    walk_at "wx"
    refine wc_Town_look_awake rfl t1 k.w1 (k.bd (TM.aw_house haw)) haw ?_
    walk_at "wx"
    refine wc_Town_look_named rfl t1 k.w1 hg ?_
    walk_at "wx"
    refine wc_way (telTown T (tel_Town_way_tells T) rfl A1 F m N k hN cl f cd) (cs := []) rfl rfl ⟨t1, hf, hcd⟩ (TM.tells_ne haw) (by simp) fun p H2 hp fr2 h2 nF hI2 => ?_
    have ex2 : Ex H1 H2 := fr2
    exact q p H2 (ex1.back p hp) (ex1.trans ex2) h2
def sp_Town_ask_tells (T : Tx K mg base) : List (Option V) → Sp := sp_tellsT T
theorem nok_Town_ask_tells (T : Tx K mg base) {cl : List (Str × Addr)} {c : Addr} (f : Addr) : NdefX.NOk P w K mg base CX0 5 f (nf_Town_ask_tells cl c) ["house", "aim", "asker"] fr_Town_ask_tells (sp_Town_ask_tells T) := by
  refine NdefX.nok_of (N := N_Town_ask_tells) nsc_Town_ask_tells (fun doc pm ctv us hl => match us, hl with | [_, _, _], _ => rfl) (fun ws vs H Q E h => ?_) (fun A outer s H vs ws Q E hr hf hc hwl h => ?_)
  · obtain ⟨A, F, m, N, h0, g, a, _, rfl, _⟩ := h; rfl
  · obtain ⟨A1, F, m, N, h0, g, a, rfl, rfl, t, k, q⟩ := h
    obtain ⟨dx, ob⟩ := t.tw.ob
    have c_Bucket := T.c_Bucket; have n_Bucket_room := T.n_Bucket_room; have n_Bucket_line := T.n_Bucket_line; have c_Table := T.c_Table; have n_Table_own := T.n_Table_own; have n_Table_wide := T.n_Table_wide; have n_Table_room := T.n_Table_room; have n_Table_buckets := T.n_Table_buckets; have c_Town := T.c_Town; have n_Town_wide := T.n_Town_wide; have n_Town_room := T.n_Town_room; have n_Town_tables := T.n_Town_tables; have n_Town_hushed := T.n_Town_hushed
    refine ⟨_, (pss_one (ps_ret (pe_meth (pv 3) T.c_Town T.t_Town_tells (ok_Town_tells T) hr T.b_Town_tells .nil pass0 (pa_cons (pv 0) (pa_cons (pv 1) (pa_cons (pv 2) pa_nil)))))), ?_⟩
    rw [Nn.st_Town_ask_tells]; try rw [Nn.cxK]
    try rw [Nn.cxW]
    walk_at "wx"
    exact wc_Town_tells rfl rfl rfl t k q
abbrev tel_Town_ask_tells (T : Tx K mg base) : Tel P w K mg base where
  st := s_Town_ask_tells
  name := "tells"
  qual := (("Town.ask" : Str) ++ ".<locals>.") ++ "tells"
  ps := ["house", "aim", "asker"]
  fr := fr_Town_ask_tells
  sp := sp_Town_ask_tells T
  ok := fun cl cd f => (nok_Town_ask_tells T f).mono (by decide)
def TM.askSt (m : TM) (start g : Nat) : AskSt := askEnd (fun h => m.tells h g start) start g m.room
def TM.askFd (m : TM) (start g : Nat) : List Nat := askFound (fun h => m.tells h g start) start g m.room
def TM.learn1 (start : Nat) (m : TM) (x : Nat × Option (List Nat)) : TM := match x.2 with
  | none => m.drops start x.1
  | some _ => (m.hears start x.1).hears x.1 start
def TM.learn (m : TM) (start g : Nat) : TM := (m.askSt start g).row.tail.foldl (TM.learn1 start) m
theorem TM.learn1_houses {start : Nat} {x : Nat × Option (List Nat)} : (TM.learn1 start m x).houses = m.houses := by
  unfold TM.learn1
  split
  · exact TM.setTab_houses
  · rw [TM.hears_houses, TM.hears_houses]
theorem TM.learn1_aw {start : Nat} {x : Nat × Option (List Nat)} : (TM.learn1 start m x).aw = m.aw := by
  unfold TM.learn1
  split
  · exact TM.setTab_aw
  · rw [TM.hears_aw, TM.hears_aw]
theorem TM.learn1_sizes {start : Nat} {x : Nat × Option (List Nat)} : (TM.learn1 start m x).wide = m.wide ∧ (TM.learn1 start m x).room = m.room ∧ (TM.learn1 start m x).hush = m.hush := by
  unfold TM.learn1
  split <;> exact ⟨rfl, rfl, rfl⟩
theorem TM.foldL_houses {start : Nat} : ∀ {l : List (Nat × Option (List Nat))} {m : TM}, (l.foldl (TM.learn1 start) m).houses = m.houses
  | [], _ => rfl
  | x :: r, m => by rw [List.foldl_cons, TM.foldL_houses (l := r), TM.learn1_houses]
theorem TM.foldL_aw {start : Nat} : ∀ {l : List (Nat × Option (List Nat))} {m : TM}, (l.foldl (TM.learn1 start) m).aw = m.aw
  | [], _ => rfl
  | x :: r, m => by rw [List.foldl_cons, TM.foldL_aw (l := r), TM.learn1_aw]
theorem TM.foldL_sizes {start : Nat} : ∀ {l : List (Nat × Option (List Nat))} {m : TM}, (l.foldl (TM.learn1 start) m).wide = m.wide ∧ (l.foldl (TM.learn1 start) m).room = m.room ∧ (l.foldl (TM.learn1 start) m).hush = m.hush
  | [], _ => ⟨rfl, rfl, rfl⟩
  | x :: r, m => by
    rw [List.foldl_cons]
    obtain ⟨a, b, c⟩ := TM.foldL_sizes (start := start) (l := r) (m := TM.learn1 start m x)
    obtain ⟨a', b', c'⟩ := TM.learn1_sizes (m := m) (start := start) (x := x)
    exact ⟨a.trans a', b.trans b', c.trans c'⟩
theorem TM.Ok.learn1 {N : List Nat} {start : Nat} {x : Nat × Option (List Nat)} (k : m.Ok N) (hs : start ∈ N) (hx : x.1 ∈ N) : (TM.learn1 start m x).Ok N := by
  unfold TM.learn1
  split
  · exact k.drops
  · exact (k.hears hx).hears hs
theorem TM.Ok.foldL {N : List Nat} {start : Nat} (hs : start ∈ N) : ∀ {l : List (Nat × Option (List Nat))} {m : TM}, m.Ok N → (∀ x ∈ l, x.1 ∈ N) → (l.foldl (TM.learn1 start) m).Ok N
  | [], _, k, _ => k
  | x :: r, m, k, h => by
    rw [List.foldl_cons]
    exact TM.Ok.foldL hs (l := r) (k.learn1 hs (h x (by simp))) fun y hy => h y (List.mem_cons_of_mem _ hy)
theorem TM.askSt_ok {N : List Nat} (k : m.Ok N) {start g : Nat} (haw : m.aw start = true) : (m.askSt start g).Ok (fun h => m.tells h g start) start N :=
  askEnd_ok (TM.tells_ne haw) fun _ _ e => TM.tells_some k e
theorem TM.ask_mem {N : List Nat} (k : m.Ok N) {start g : Nat} (haw : m.aw start = true) {x : Nat × Option (List Nat)} (hx : x ∈ (m.askSt start g).row) : x.1 ∈ N ∧ x.2 = m.tells x.1 g start := by
  have q := TM.askSt_ok k (g := g) haw
  refine ⟨?_, q.rt x hx⟩
  rcases q.dn x.1 (List.mem_map.mpr ⟨x, hx, rfl⟩) with z | z
  · rw [z]; exact k.hN _ (TM.aw_house haw)
  · exact z
theorem TM.Ok.learn {N : List Nat} (k : m.Ok N) {start g : Nat} (haw : m.aw start = true) : (m.learn start g).Ok N :=
  TM.Ok.foldL (k.hN _ (TM.aw_house haw)) k fun x hx => (TM.ask_mem k haw (List.mem_of_mem_tail hx)).1
theorem TM.learn_houses {start g : Nat} : (m.learn start g).houses = m.houses := TM.foldL_houses
theorem TM.learn_aw {start g : Nat} : (m.learn start g).aw = m.aw := TM.foldL_aw
theorem TM.learn_sizes {start g : Nat} : (m.learn start g).wide = m.wide ∧ (m.learn start g).room = m.room ∧ (m.learn start g).hush = m.hush := TM.foldL_sizes
def sp_Town_ask (T : Tx K mg base) : Sp := fun vs H Q _ => ∃ (A : TA) (F : Addr → Prop) (m : TM) (N : List Nat) (h g : Nat), vs = [.ref A.t, .int h, .int g] ∧ TownAt T H A F m ∧ m.Ok N ∧ N.length < 63 ∧ m.aw h = true ∧ g < 2 ^ m.wide ∧ NdefX.TabsN (tabsL T) H ∧
  ∀ p r fd es H', Fr F H H' → H p = none → H' p = some (.tup [.ref r, .ref fd]) → RowAt H H' r es (m.askSt h g).row → H fd = none → H' fd = some (.lst ((m.askFd h g).map nV)) → (∀ e ∈ es, e.2 ≠ some fd) → TownAt T H' A F (m.learn h g) → Q (.ref p) H'
theorem wc_Town_ask {N : List Nat} {h g : Nat} {i j : Int} (hi : i = h) (hj : j = g) (t : TownAt T H A F m) (k : m.Ok N) (hN : N.length < 63) (hm : m.aw h = true) (hg : g < 2 ^ m.wide) (tb : NdefX.TabsN (tabsL T) H) (q : ∀ p r fd es H', Fr F H H' → H p = none → H' p = some (.tup [.ref r, .ref fd]) → RowAt H H' r es (m.askSt h g).row → H fd = none → H' fd = some (.lst ((m.askFd h g).map nV)) → (∀ e ∈ es, e.2 ≠ some fd) → TownAt T H' A F (m.learn h g) → Q (.ref p) H') : sp_Town_ask T [.ref A.t, .int i, .int j] H Q E := by
  subst hi hj; exact ⟨A, F, m, N, h, g, rfl, t, k, hN, hm, hg, tb, q⟩
theorem ok_Town_ask (T : Tx K mg base) : FnOk P w K mg base CX0 7 T.a_Town_ask T.d_Town_ask ["self", "start", "goal"] (sp_Town_ask T) := by
  refine T.FC_Town_ask.okC sc_Town_ask (fun vs H Q E h => ?_) (fun A outer s H vs Q E hr h => ?_)
  · obtain ⟨A, F, m, N, h0, g, rfl, _⟩ := h; rfl
  · obtain ⟨A1, F, m, N, h0, g, rfl, t, k, hN, haw, hg, hT, q⟩ := h
    obtain ⟨dx, ob⟩ := t.tw.ob
    have hu := hu_of hr
    have c_Bucket := T.c_Bucket; have n_Bucket_room := T.n_Bucket_room; have n_Bucket_line := T.n_Bucket_line; have c_Table := T.c_Table; have n_Table_own := T.n_Table_own; have n_Table_wide := T.n_Table_wide; have n_Table_room := T.n_Table_room; have n_Table_buckets := T.n_Table_buckets; have c_Town := T.c_Town; have n_Town_wide := T.n_Town_wide; have n_Town_room := T.n_Town_room; have n_Town_tables := T.n_Town_tables; have n_Town_hushed := T.n_Town_hushed
    refine ⟨_, (pss_cons (ps_ndefA (st := s_Town_ask_tells) (i := 3) rfl T.tb_Town_ask rfl nm_Town_ask_tells (NdefX.ndef_free ndB_Town_ask_tells) rfl rfl rfl sc_Town_ask.nd rfl (Or.inl rfl) (.inl rfl))
      (pss_cons (ps_expr (pe_meth (pv 0) T.c_Town T.t_Town_look_awake (ok_Town_look_awake T) (hr.mono (by decide)) T.b_Town_look_awake .nil pass0 (pa_cons (pv 1) pa_nil)))
      (pss_cons (ps_expr (pe_meth (pv 0) T.c_Town T.t_Town_look_named (ok_Town_look_named T) (hr.mono (by decide)) T.b_Town_look_named .nil pass0 (pa_cons (pv 2) pa_nil)))
      (pss_cons (ps_asg (pe_callC (fun ws => ok_asked T (tel_Town_ask_tells T) ws) (Prov.own (js := [0]) fun ok => NdefX.Caps.made ok (NdefX.ndef_free ndB_Town_ask_tells) (NdefX.ndef_fr ndB_Town_ask_tells) rfl) hr rfl T.m_asked T.F_asked.kp T.b_asked .nil pass0 (pa_cons (pv 1) (pa_cons (pv 2) (pa_cons (pe_fld (pv 0) rfl) (pa_cons (pv 3) pa_nil))))) (pg_tup (n := 2) rfl (pgs_cons (pg_name (i := 4) sc_Town_ask.nd rfl (Or.inl rfl)) (pgs_cons (pg_name (i := 5) sc_Town_ask.nd rfl (Or.inl rfl)) pgs_nil))))
      (pss_cons (ps_for PassesOwn.never rfl (pi_list (pe_slice sl_list (pv 4) (po_some pe_int) po_none)) (pg_tup (n := 2) rfl (pgs_cons (pg_name (i := 6) sc_Town_ask.nd rfl (Or.inl rfl)) (pgs_cons (pg_name (i := 7) sc_Town_ask.nd rfl (Or.inl rfl)) pgs_nil)))
      (pss_one (ps_if (pt_cmpR op_isNn (pv 7) pe_non (nomark _))
      (pss_one (ps_expr (pe_meth (pe_dget hu (pe_fld (pv 0) rfl) (pv 1) (fun _ _ => rfl)) T.c_Table T.t_Table_drops (ok_Table_drops T) (hr.mono (by decide)) T.b_Table_drops .nil pass0 (pa_cons (pv 6) pa_nil))))
      (pss_cons (ps_expr (pe_meth (pv 0) T.c_Town T.t_Town_hears (ok_Town_hears T) (hr.mono (by decide)) T.b_Town_hears .nil pass0 (pa_cons (pv 1) (pa_cons (pv 6) pa_nil))))
      (pss_one (ps_expr (pe_meth (pv 0) T.c_Town T.t_Town_hears (ok_Town_hears T) (hr.mono (by decide)) T.b_Town_hears .nil pass0 (pa_cons (pv 6) (pa_cons (pv 1) pa_nil)))))))))
      (pss_one (ps_ret (pe_tup (pa_cons (pv 4) (pa_cons (pv 5) pa_nil)))))))))), ?_⟩
    rw [Nn.st_Town_ask]; try rw [Nn.cxK]
    try rw [Nn.cxW]
    walk_at "wx"
    refine ⟨hT _ tabm_Town_ask, fun f cd H1 ex1 hf0 hf hcd => ?_⟩
    generalize L2.cloFrom _ _ _ = cl at hf hcd ⊢
    have hf : H1 f = some (NdefX.FnO f (nf_Town_ask_tells cl cd)) := hf
    have hcd : H1 cd = some (LamX.CodeO cd (nf_Town_ask_tells cl cd).qual) := hcd
    have t1 := t.ex' ex1
    obtain ⟨dx1, ob1⟩ := t1.tw.ob
    walk_at "wx"
    refine wc_Town_look_awake rfl t1 k.w1 (k.bd (TM.aw_house haw)) haw ?_
    walk_at "wx"
    refine wc_Town_look_named rfl t1 k.w1 hg ?_
    walk_at "wx"
    refine wc_asked (telTown T (tel_Town_ask_tells T) rfl A1 F m N k hN cl f cd) (cs := []) rfl rfl rfl ⟨t1, hf, hcd⟩ (TM.tells_ne haw) (by simp) fun p r fd es H2 fr2 hp h2 ra2 hfd2 h2f nes hI2 => ?_
    have ex2 : Ex H1 H2 := fr2
    have t2 := t1.ex' ex2
    have ra2 : RowAt H1 H2 r es (m.askSt h0 g).row := ra2
    have h2f : H2 fd = some (.lst ((m.askFd h0 g).map nV)) := h2f
    have ok2 := TM.askSt_ok k (g := g) haw
    have hrl := ok2.len
    clear hf hcd hI2
    walk_at "wx"
    refine x_slL (SqL.of ra2.ro) fun q3 hq3 => ?_
    have ecd : cutV (es.map fun e => V.ref e.1) (some 1) none = (es.map fun e => V.ref e.1).drop 1 := cut_drop (k := 1)
    rw [ecd]
    have ex3 := Ex.new (o := .lst ((es.map fun e => V.ref e.1).drop 1)) hq3
    have h3q := upd_same (H := H2) (a := q3) (o := .lst ((es.map fun e => V.ref e.1).drop 1))
    have ra3 : RowAt H1 (upd H2 q3 (.lst ((es.map fun e => V.ref e.1).drop 1))) r es (m.askSt h0 g).row := ra2.fr ex3 fun _ z => z.elim
    have nF3 : ¬ F q3 := fun z => t2.ex q3 z hq3
    have t3 := t2.ex' ex3
    have h3f := ex3.at h2f
    have hT3 := Fr.tabs ((ex1.trans ex2).trans ex3) hT
    generalize upd H2 q3 (.lst ((es.map fun e => V.ref e.1).drop 1)) = H3 at ex3 h3q ra3 t3 h3f hT3 ⊢
    have ex13 := ex2.trans ex3
    clear h2 h2f t2 hq3 ex2 ex3
    have hsN := k.hN _ (TM.aw_house haw)
    have hsh := TM.aw_house haw
    walk_at "wx"
    refine ForW.by walk_list (fun i σ H' => ∃ (v6 v7 : Option V), σ = [some (.ref A1.t), some (.int h0), some (.int g), some (.ref f), some (.ref r), some (.ref fd), v6, v7] ∧ Fr F H3 H' ∧ H' q3 = some (.lst ((es.map fun e => V.ref e.1).drop 1)) ∧ TownAt T H' A1 F (((m.askSt h0 g).row.tail.take i).foldl (TM.learn1 h0) m))
      ⟨_, _, rfl, Fr.refl, h3q, t3⟩ (fun i σ H' _ ⟨_, _, _, _, e, _⟩ => SqL.of e) ?_ ?_
    · rintro i y σ _ H4 hi ⟨v6, v7, rfl, fr4, h4q, t4⟩ ⟨rfl, hy⟩
      obtain ⟨e, he, rfl⟩ : ∃ e, es[i + 1]? = some e ∧ y = .ref e.1 := by
        rw [List.getElem?_drop, List.getElem?_map, Nat.add_comm] at hy
        cases q : es[i + 1]? with
        | none => rw [q] at hy; cases hy
        | some e => rw [q] at hy; exact ⟨e, rfl, (Option.some.inj hy).symm⟩
      have hr1 : i + 1 < (m.askSt h0 g).row.length := by rw [← ra2.len]; exact (List.getElem?_eq_some_iff.mp he).1
      have re := (ra3.fr fr4 fun b z => t1.ex b z).at_ (i + 1) e _ he (List.getElem?_eq_getElem hr1)
      have hmem := TM.ask_mem k haw (List.getElem_mem hr1)
      have et : (m.askSt h0 g).row.tail.take (i + 1) = (m.askSt h0 g).row.tail.take i ++ [(m.askSt h0 g).row[i + 1]] := by
        rw [List.take_add_one, List.getElem?_tail, List.getElem?_eq_getElem hr1]; rfl
      rw [et, List.foldl_append]
      have k4 : (((m.askSt h0 g).row.tail.take i).foldl (TM.learn1 h0) m).Ok N := TM.Ok.foldL hsN k fun x hx => (TM.ask_mem k haw (List.mem_of_mem_tail (List.mem_of_mem_take hx))).1
      have hh4 : (((m.askSt h0 g).row.tail.take i).foldl (TM.learn1 h0) m).houses = m.houses := TM.foldL_houses
      generalize (m.askSt h0 g).row[i + 1] = x at re hmem et
      generalize ((m.askSt h0 g).row.tail.take i).foldl (TM.learn1 h0) m = m4 at t4 k4 hh4 ⊢
      have e1 : [x].foldl (TM.learn1 h0) m4 = TM.learn1 h0 m4 x := rfl
      rw [e1]
      obtain ⟨e1, e2⟩ := e
      obtain ⟨x1, x2⟩ := x
      have tp := re.tp
      have hrno := re.no
      have hrso := re.so
      clear re he et e1 hy hi
      obtain ⟨dx4, ob4⟩ := t4.tw.ob
      have td4 := t4.tw.tb
      have hT4 := Fr.tabs fr4 hT3
      have hxN : x1 ∈ N := hmem.1
      cases x2 with
      | none =>
        obtain rfl : e2 = none := hrno rfl
        obtain ⟨ta4, L4⟩ := t4.tab h0 (by rw [hh4]; exact hsh)
        obtain ⟨dxt, bl, bs, hobt, _⟩ := ta4.ob
        have ev : valV (dOf m4.houses fun h => .ref (A1.pa h)) (Sum.inl (h0 : Int)) = some (.ref (A1.pa h0)) := by
          have q := dOf_val (f := fun h => V.ref (A1.pa h)) (n := h0) (hs := m4.houses)
          rw [if_pos (by rw [hh4]; exact hsh)] at q; exact q
        have eo : oA none = .non := rfl
        have tp : H4 e1 = some (.tup [nV x1, .non]) := tp
        walk_at "wx"
        refine wc_Table_drops ta4 L4 (k4.nb _ hsN) (k4.nb _ hxN) fun H5 fr5 L5 => ?_
        refine ⟨_, _, rfl, fr4.trans (fr5.mono fun a z => (t4.own h0 (by rw [hh4]; exact hsh)).2.2 a z), fr5.at h4q fun z => nF3 ((t4.own h0 (by rw [hh4]; exact hsh)).2.2 _ z), t4.line fr5 (fun a z => z) (by rw [hh4]; exact hsh) L5⟩
      | some l =>
        obtain ⟨a, rfl, _⟩ := hrso l rfl
        have hxaw : m.aw x1 = true := by
          have q := TM.tells_isSome (m := m) (h := x1) (g := g) (a := h0)
          have z : some l = m.tells x1 g h0 := hmem.2
          rw [← z] at q; exact q.symm
        have tp : H4 e1 = some (.tup [nV x1, .ref a]) := tp
        walk_at "wx"
        refine wc_Town_hears rfl rfl t4 k4 (by rw [hh4]; exact hsh) hxN hT4 fun z5 H5 fr5 t5 => ?_
        obtain ⟨dx5, ob5⟩ := t5.tw.ob
        walk_at "wx"
        refine wc_Town_hears rfl rfl t5 (k4.hears hxN) (by rw [TM.hears_houses, hh4]; exact TM.aw_house hxaw) hsN (Fr.tabs fr5 hT4) fun z6 H6 fr6 t6 => ?_
        exact ⟨_, _, rfl, (fr4.trans fr5).trans fr6, fr6.at (fr5.at h4q nF3) nF3, t6⟩
    · rintro σ H4 ⟨v6, v7, rfl, fr4, h4q, t4⟩
      have etk : (m.askSt h0 g).row.tail.take ((es.map fun e => V.ref e.1).drop 1).length = (m.askSt h0 g).row.tail := by
        rw [List.length_drop, List.length_map, ra2.len, ← List.length_tail, List.take_length]
      rw [etk] at t4
      walk_at "wx"
      refine ⟨len_ok rfl, fun p4 hp4 => ?_⟩
      have exp := Ex.new (o := .tup [V.ref r, V.ref fd]) hp4
      have fr5 : Fr F H1 H4 := ex13.fr.trans fr4
      have ra5 := (ra3.fr fr4 fun b z => t1.ex b z).fr exp fun _ z => z.elim
      have nFf : ¬ F fd := fun z => t1.ex fd z hfd2
      refine q p4 r fd es _ ((ex1.fr.trans fr5).trans exp.fr) (ex1.back p4 (fr5.back p4 hp4)) upd_same ?_ (ex1.back fd hfd2) (exp.at (fr4.at h3f nFf)) nes (t4.ex' exp)
      refine ⟨ra5.ro, ra5.len, fun i e x he hx => ?_, ra5.nd, ra5.r0, ex1.back r ra5.nr⟩
      have z := ra5.at_ i e x he hx
      exact ⟨z.tp, ex1.back _ z.n1, fun l q => by
        obtain ⟨a, b1, b2, b3⟩ := z.so l q
        exact ⟨a, b1, b2, ex1.back a b3⟩, z.no⟩
end
end Nn
/-! rest, plainly -/
namespace Nn
def ofSpanN (live : List Nat) (h k : Nat) : List Nat := live.filter fun n => decide (lowN h k ≤ n ∧ n ≤ lowN h k + 2 ^ k - 1)
def faultB (names live : List Nat) (room h k : Nat) : Bool := !(names.all fun n => decide (n ∈ live)) || (decide (names.length < room) && decide (names.length < (ofSpanN live h k).length))
def holeB (names live : List Nat) (h k : Nat) : Bool := !(names.any fun n => decide (n ∈ live)) && !decide (ofSpanN live h k = [])
def pairsN (l : List Nat) (w : Nat) : List (Nat × Nat) := l.flatMap fun h => (List.range w).map fun k => (h, k)
theorem find_none {α : Type} {p : α → Bool} {l : List α} (h : ∀ x ∈ l, p x = false) : l.find? p = none := List.find?_eq_none.mpr fun x hx => by rw [h x hx]; exact Bool.false_ne_true
theorem find_app {α : Type} {p : α → Bool} {l r : List α} (h : ∀ x ∈ l, p x = false) : (l ++ r).find? p = r.find? p := by rw [List.find?_append, find_none h]; rfl
theorem pairs_hit {p : Nat × Nat → Bool} {l : List Nat} {w i j : Nat} (hi : i < l.length) (hj : j < w) (h0 : ∀ h ∈ l.take i, ∀ k, k < w → p (h, k) = false) (h1 : ∀ k, k < j → p (l[i], k) = false) (h2 : p (l[i], j) = true) : (pairsN l w).find? p = some (l[i], j) := by
  have e : l = l.take i ++ l[i] :: l.drop (i + 1) := by rw [← List.drop_eq_getElem_cons hi, List.take_append_drop]
  have e2 : pairsN l w = pairsN (l.take i) w ++ ((List.range w).map (fun k => (l[i], k)) ++ pairsN (l.drop (i + 1)) w) := by
    have q : pairsN (l.take i ++ l[i] :: l.drop (i + 1)) w = pairsN (l.take i) w ++ ((List.range w).map (fun k => (l[i], k)) ++ pairsN (l.drop (i + 1)) w) := by
      unfold pairsN; rw [List.flatMap_append, List.flatMap_cons]
    rw [← e] at q; exact q
  rw [e2, find_app fun x hx => ?_]
  · obtain ⟨d, rfl⟩ : ∃ d, w = j + (d + 1) := ⟨w - j - 1, by omega⟩
    have e3 : List.range (j + (d + 1)) = List.range j ++ j :: (List.range d).map (fun x => j + 1 + x) := by
      rw [List.range_add, List.range_succ_eq_map, List.map_cons, List.map_map]
      congr 2
      refine List.map_congr_left fun x _ => ?_
      show j + (x + 1) = j + 1 + x
      omega
    rw [e3, List.map_append, List.append_assoc, find_app fun x hx => ?_]
    · rw [List.map_cons, List.cons_append, List.find?_cons_of_pos h2]
    · obtain ⟨k, hk, rfl⟩ := List.mem_map.mp hx
      exact h1 k (List.mem_range.mp hk)
  · obtain ⟨h, hh, hx⟩ := List.mem_flatMap.mp hx
    obtain ⟨k, hk, rfl⟩ := List.mem_map.mp hx
    exact h0 h hh k (List.mem_range.mp hk)
theorem pairs_none {p : Nat × Nat → Bool} {l : List Nat} {w : Nat} (h0 : ∀ h ∈ l, ∀ k, k < w → p (h, k) = false) : (pairsN l w).find? p = none := find_none fun x hx => by
  obtain ⟨h, hh, hx⟩ := List.mem_flatMap.mp hx
  obtain ⟨k, hk, rfl⟩ := List.mem_map.mp hx
  exact h0 h hh k (List.mem_range.mp hk)
theorem pairs_take {l : List Nat} {w i : Nat} (hi : i < l.length) : pairsN (l.take (i + 1)) w = pairsN (l.take i) w ++ (List.range w).map fun k => (l[i], k) := by
  rw [List.take_add_one, List.getElem?_eq_getElem hi]
  unfold pairsN
  rw [List.flatMap_append]
  simp
theorem pairs_len {l : List Nat} {w : Nat} : (pairsN l w).length = l.length * w := by
  unfold pairsN
  induction l with
  | nil => simp
  | cons x r ih => rw [List.flatMap_cons, List.length_append, List.length_map, List.length_range, ih, List.length_cons, Nat.succ_mul]; omega
namespace TM
def row (m : TM) (h k : Nat) : List Nat := (m.tab h).getD k []
def faulty (m : TM) (x : Nat × Nat) : Bool := faultB (m.row x.1 x.2) m.live m.room x.1 x.2
def faultN (m : TM) : Option (Nat × Nat) := (pairsN m.live m.wide).find? m.faulty
def hole (m : TM) (x : Nat × Nat) : Bool := holeB (m.row x.1 x.2) m.live x.1 x.2
def holesN (m : TM) : List (Nat × Nat) := (pairsN m.live m.wide).filter m.hole
variable {m : TM} {N : List Nat}
theorem row_at {h k : Nat} (hk : (m.tab h)[k]? = some (m.row h k) ∨ m.row h k = []) : True := trivial
theorem Ok.row (k : m.Ok N) {h j : Nat} (hm : h ∈ m.houses) : (m.row h j).Nodup ∧ (m.row h j).length ≤ m.room ∧ ∀ x ∈ m.row h j, x ≠ h ∧ stepN h x = j ∧ x ∈ N := by
  unfold TM.row
  rw [List.getD_eq_getElem?_getD]
  cases e : (m.tab h)[j]? with
  | none => exact ⟨List.nodup_nil, Nat.zero_le _, fun x hx => by cases hx⟩
  | some xs => exact (k.tabOk hm).at_ j xs e
theorem live_house {h : Nat} (hl : h ∈ m.live) : h ∈ m.houses := aw_house (mem_live.mp hl)
theorem live_nodup : m.live.Nodup := rising_nodup ((sortU_sorted _).filter _)
theorem Ok.live_len (k : m.Ok N) : m.live.length < 64 := Nat.lt_of_le_of_lt (nodup_len live_nodup fun _ hx => live_house hx) k.houses_len
end TM
/-- the step by the figures' length -/
theorem bit_span {a b k : Nat} : (if a ^^^ b = 0 then 0 else (a ^^^ b).log2 + 1) = k + 1 ↔ (lowN b k ≤ a ∧ a ≤ lowN b k + 2 ^ k - 1) := by
  rw [span_step]
  by_cases h : b = a
  · subst h; simp
  · have ne := xor_ne_zero (Ne.symm h)
    rw [if_neg ne]
    have e : (a ^^^ b).log2 = stepN b a := by unfold stepN; rw [Nat.xor_comm]
    rw [e]
    constructor
    · intro z; exact ⟨h, by omega⟩
    · intro z; omega
end Nn
/-! rest: fault, holes -/
namespace Nn
open PySem L2
section
variable {P : Program} {w : World} {K : PySem.W.Frag} {mg : Str → Option Value} {base : Heap} {H H' : Hp} {Q : VK} {E : XK}
theorem x_all {a : Addr} {bs : List Bool} (hS : SqL K H a (bs.map V.bl)) (h : Q (.bl (bs.all id)) H) : rAll K [.ref a] H Q := ⟨a, bs, rfl, hS, h⟩
theorem x_any {a : Addr} {bs : List Bool} (hS : SqL K H a (bs.map V.bl)) (h : Q (.bl (bs.any id)) H) : rAny K [.ref a] H Q := ⟨a, bs, rfl, hS, h⟩
theorem bools_map {l : List Nat} {p : Nat → Bool} : (l.map fun n => V.bl (p n)) = (l.map p).map V.bl := by rw [List.map_map]; rfl
theorem all_map {l : List Nat} {p : Nat → Bool} : (l.map p).all id = l.all p := by rw [List.all_map]; rfl
theorem any_map {l : List Nat} {p : Nat → Bool} : (l.map p).any id = l.any p := by rw [List.any_map]; rfl
def PairV (H : Hp) (v : V) : Option (Nat × Nat) → Prop
  | none => v = .non
  | some x => ∃ p, v = .ref p ∧ H p = some (.tup [nV x.1, nV x.2])
def sp_of_span (_ : Tx K mg base) : Sp := fun vs H Q E => ∃ (p_live : Addr) (live : List Nat) (ho : Nat) (k : Nat), vs = [.ref p_live, .int ho, .int k] ∧ (SqL K H p_live (live.map nV)) ∧ (ho < 2 ^ 60 ∧ k ≤ 60 ∧ live.length ≤ 1000) ∧ (∀ p H', H p = none → Ex H H' → H' p = some (.lst ((ofSpanN live ho k).map nV)) → Q (.ref p) H')
theorem wc_of_span {T : Tx K mg base} {p_live : Addr} {live : List Nat} {ho : Nat} {k : Nat} {i1 : Int} {i2 : Int} (e1 : i1 = ho) (e2 : i2 = k) (c0 : SqL K H p_live (live.map nV)) (c1 : ho < 2 ^ 60 ∧ k ≤ 60 ∧ live.length ≤ 1000) (h : ∀ p H', H p = none → Ex H H' → H' p = some (.lst ((ofSpanN live ho k).map nV)) → Q (.ref p) H') : sp_of_span T [.ref p_live, .int i1, .int i2] H Q E := by
  subst e1 e2
  exact ⟨p_live, live, ho, k, rfl, c0, c1, h⟩
theorem ok_of_span (T : Tx K mg base) : FnOk P w K mg base CX0 2 T.a_of_span T.d_of_span ["live", "house", "k"] (sp_of_span T) := by
  refine T.F_of_span.okD sc_of_span (fun vs H Q E h => ?_) (fun cdv A outer s H vs Q E hr h => ?_)
  · obtain ⟨p_live, live, ho, k, rfl, hS0, hpre, q⟩ := h; rfl
  · obtain ⟨p_live, live, ho, k, rfl, hS0, hpre, q⟩ := h
    have hu := hu_of hr
    have c_Bucket := T.c_Bucket; have n_Bucket_room := T.n_Bucket_room; have n_Bucket_line := T.n_Bucket_line; have c_Table := T.c_Table; have n_Table_own := T.n_Table_own; have n_Table_wide := T.n_Table_wide; have n_Table_room := T.n_Table_room; have n_Table_buckets := T.n_Table_buckets; have c_Town := T.c_Town; have n_Town_wide := T.n_Town_wide; have n_Town_room := T.n_Town_room; have n_Town_tables := T.n_Town_tables; have n_Town_hushed := T.n_Town_hushed
    refine ⟨_, (pss_cons (ps_asg (pe_call (ok_span T) hr rfl T.m_span T.F_span.kp T.b_span .nil pass0 (pa_cons (pv 1) (pa_cons (pv 2) pa_nil))) (pg_tup (n := 2) rfl (pgs_cons (pg_name (i := 3) sc_of_span.nd rfl (Or.inr rfl)) (pgs_cons (pg_name (i := 4) sc_of_span.nd rfl (Or.inr rfl)) pgs_nil))))
      (pss_one (ps_ret (pe_lc (own := [("name", 5)]) (g := (gName 5)) (by rfl) sc_of_span.nd (pi_list (pv 0)) (blkOk_by (N := N_of_span) (sc := defScope s_of_span) (own := [("name", 5)]) (by decide +kernel)) (fun _ _ _ _ _ => (pg_name (i := 5) sc_of_span.nd rfl (Or.inl rfl))) (fun _ _ _ _ _ => pts_one ((pt_chain op_le op_le (pv 3) (pv 5) (pv 4)))) (fun _ _ _ _ _ => (pv 5)))))), ?_⟩
    rw [Nn.st_of_span]; try rw [Nn.cxK]
    try rw [Nn.cxW]
    walk_at "wx"
    obtain ⟨h60, hk60, hz⟩ := hpre
    refine wc_span rfl rfl ⟨h60, hk60⟩ fun p1 H1 hp1 ex1 h1 => ?_
    walk_at "wx"
    refine LcW.filt (emb := nV) (xs := live) (fun n => decide (lowN ho k ≤ n ∧ n ≤ lowN ho k + 2 ^ k - 1)) (ex1.ls hS0) (by rw [sizeLine_eq]; omega) (fun n _ H2 ex2 R hR => ?_) (fun n _ _ H2 ex2 Qe hQ => ?_) fun p2 H2 hp2 ex2 h2 => ?_
    · walk_at "wx"
      refine x_ite (fun c1 => ?_) fun c1 => ?_
      · walk_at "wx"
        have e : decide ((n : Int) ≤ ((lowN ho k + 2 ^ k - 1 : Nat) : Int)) = decide (lowN ho k ≤ n ∧ n ≤ lowN ho k + 2 ^ k - 1) := decide_eq_decide.mpr (by omega)
        rw [e]
        exact hR _ Ex.refl
      · have e : decide (lowN ho k ≤ n ∧ n ≤ lowN ho k + 2 ^ k - 1) = false := decide_eq_false (by omega)
        rw [e] at hR
        walk_at "wx"
        exact hR _ Ex.refl
    · walk_at "wx"
      exact hQ
    · exact q p2 H2 (ex1.back p2 hp2) (ex1.trans ex2) h2
end
end Nn
namespace Nn
open PySem L2
section
variable {P : Program} {w : World} {K : PySem.W.Frag} {mg : Str → Option Value} {base : Heap} {H H' : Hp} {Q : VK} {E : XK}
def sp_is_faulty (_ : Tx K mg base) : Sp := fun vs H Q E => ∃ (p_names : Addr) (names : List Nat) (p_live : Addr) (live : List Nat) (room : Nat) (ho : Nat) (k : Nat), vs = [.ref p_names, .ref p_live, .int room, .int ho, .int k] ∧ (SqL K H p_names (names.map nV)) ∧ (SqL K H p_live (live.map nV)) ∧ (ho < 2 ^ 60 ∧ k ≤ 60 ∧ names.length ≤ 1000 ∧ live.length ≤ 1000) ∧ (∀ H', Ex H H' → Q (.bl (faultB names live room ho k)) H')
theorem wc_is_faulty {T : Tx K mg base} {p_names : Addr} {names : List Nat} {p_live : Addr} {live : List Nat} {room : Nat} {ho : Nat} {k : Nat} {i2 : Int} {i3 : Int} {i4 : Int} (e2 : i2 = room) (e3 : i3 = ho) (e4 : i4 = k) (c0 : SqL K H p_names (names.map nV)) (c1 : SqL K H p_live (live.map nV)) (c2 : ho < 2 ^ 60 ∧ k ≤ 60 ∧ names.length ≤ 1000 ∧ live.length ≤ 1000) (h : ∀ H', Ex H H' → Q (.bl (faultB names live room ho k)) H') : sp_is_faulty T [.ref p_names, .ref p_live, .int i2, .int i3, .int i4] H Q E := by
  subst e2 e3 e4
  exact ⟨p_names, names, p_live, live, room, ho, k, rfl, c0, c1, c2, h⟩
theorem ok_is_faulty (T : Tx K mg base) : FnOk P w K mg base CX0 3 T.a_is_faulty T.d_is_faulty ["names", "live", "room", "house", "k"] (sp_is_faulty T) := by
  refine T.F_is_faulty.okD sc_is_faulty (fun vs H Q E h => ?_) (fun cdv A outer s H vs Q E hr h => ?_)
  · obtain ⟨p_names, names, p_live, live, room, ho, k, rfl, hS0, hS1, hpre, q⟩ := h; rfl
  · obtain ⟨p_names, names, p_live, live, room, ho, k, rfl, hS0, hS1, hpre, q⟩ := h
    have hu := hu_of hr
    have c_Bucket := T.c_Bucket; have n_Bucket_room := T.n_Bucket_room; have n_Bucket_line := T.n_Bucket_line; have c_Table := T.c_Table; have n_Table_own := T.n_Table_own; have n_Table_wide := T.n_Table_wide; have n_Table_room := T.n_Table_room; have n_Table_buckets := T.n_Table_buckets; have c_Town := T.c_Town; have n_Town_wide := T.n_Town_wide; have n_Town_room := T.n_Town_room; have n_Town_tables := T.n_Town_tables; have n_Town_hushed := T.n_Town_hushed
    refine ⟨_, (pss_cons (ps_if (pt_not (pt_val (pe_callB (cr_all rfl) (by rfl) T.z_all (by decide +kernel) (pa_cons (pe_lc (own := [("name", 5)]) (g := (gName 5)) (by rfl) sc_is_faulty.nd (pi_list (pv 0)) (blkOk_by (N := N_is_faulty) (sc := defScope s_is_faulty) (own := [("name", 5)]) (by decide +kernel)) (fun _ _ _ _ _ => (pg_name (i := 5) sc_is_faulty.nd rfl (Or.inl rfl))) (fun _ _ _ _ _ => pts_nil) (fun _ _ _ _ _ => (pe_cmpR (op_inK (K := K) rfl) (pv 5) (pv 1) rfl))) pa_nil))))
      (pss_one (ps_ret pe_bl))
      pss_nil)
      (pss_one (ps_ret (pe_and (pe_cmpR op_lt (pe_callB cb_len (by rfl) T.z_len PySem.boot_len (pa_cons (pv 0) pa_nil)) (pv 2) (nomark _)) (pe_one (pe_cmpR op_lt (pe_callB cb_len (by rfl) T.z_len PySem.boot_len (pa_cons (pv 0) pa_nil)) (pe_callB cb_len (by rfl) T.z_len PySem.boot_len (pa_cons (pe_call (ok_of_span T) hr rfl T.m_of_span T.F_of_span.kp T.b_of_span .nil pass0 (pa_cons (pv 1) (pa_cons (pv 3) (pa_cons (pv 4) pa_nil)))) pa_nil)) (nomark _))))))), ?_⟩
    rw [Nn.st_is_faulty]; try rw [Nn.cxK]
    try rw [Nn.cxW]
    walk_at "wx"
    obtain ⟨h60, hk60, hz1, hz2⟩ := hpre
    refine LcW.map (emb := nV) (xs := names) (fun n => V.bl (decide (n ∈ live))) hS0 (by rw [sizeLine_eq]; omega) (fun n _ H2 ex2 Qe hQ => ?_) fun p1 H1 hp1 ex1 h1 => ?_
    · walk_at "wx"
      exact hQ _ Ex.refl
    · rw [bools_map] at h1
      refine x_all (SqL.of h1) ?_
      rw [all_map]
      walk_at "wx"
      unfold faultB at q
      cases hal : names.all fun n => decide (n ∈ live) with
      | false =>
        rw [hal] at q
        walk_at "wx"
        exact q H1 ex1
      | true =>
        rw [hal] at q
        simp only [Bool.not_true, Bool.false_or] at q
        walk_at "wx"
        rw [List.length_map]
        refine x_ite (fun c1 => ?_) fun c1 => ?_
        · have e : decide (names.length < room) = true := decide_eq_true (by omega)
          rw [e] at q
          walk_at "wx"
          refine wc_of_span rfl rfl (ex1.ls hS1) ⟨h60, hk60, hz2⟩ fun p2 H2 hp2 ex2 h2 => ?_
          walk_at "wx"
          rw [List.length_map, List.length_map]
          have e2 : decide ((names.length : Int) < ((ofSpanN live ho k).length : Int)) = decide (names.length < (ofSpanN live ho k).length) := decide_eq_decide.mpr (by omega)
          rw [e2]
          exact q H2 (ex1.trans ex2)
        · have e : decide (names.length < room) = false := decide_eq_false (by omega)
          rw [e] at q
          exact q H1 ex1
end
end Nn
namespace Nn
open PySem L2
section
variable {P : Program} {w : World} {K : PySem.W.Frag} {mg : Str → Option Value} {base : Heap} {H H' : Hp} {Q : VK} {E : XK} {T : Tx K mg base} {A : TA} {F : Addr → Prop} {m : TM}
theorem ofSpan_len {live : List Nat} {h k : Nat} : (ofSpanN live h k).length ≤ live.length := List.length_filter_le _ _
theorem TM.Ok.b60 {N : List Nat} (k : m.Ok N) {h : Nat} (hm : h ∈ m.houses) : h < 2 ^ 60 := Nat.lt_of_lt_of_le (k.bd hm) (Nat.pow_le_pow_right (by decide) k.w1)
def sp_fault (T : Tx K mg base) : Sp := fun vs H Q _ => ∃ (A : TA) (F : Addr → Prop) (m : TM) (N : List Nat), vs = [.ref A.t] ∧ TownAt T H A F m ∧ m.Ok N ∧ ∀ v H', Ex H H' → PairV H' v m.faultN → Q v H'
theorem wc_fault {N : List Nat} (t : TownAt T H A F m) (k : m.Ok N) (q : ∀ v H', Ex H H' → PairV H' v m.faultN → Q v H') : sp_fault T [.ref A.t] H Q E := ⟨A, F, m, N, rfl, t, k, q⟩
theorem ok_fault (T : Tx K mg base) : FnOk P w K mg base CX0 4 T.a_fault T.d_fault ["town"] (sp_fault T) := by
  refine T.F_fault.okD sc_fault (fun vs H Q E h => ?_) (fun cdv A outer s H vs Q E hr h => ?_)
  · obtain ⟨A, F, m, N, rfl, _⟩ := h; rfl
  · obtain ⟨A1, F, m, N, rfl, t, k, q⟩ := h
    obtain ⟨dx, ob⟩ := t.tw.ob
    have hu := hu_of hr
    have hz := k.houses_len
    have hll := k.live_len
    have hr1 := k.r1
    have c_Bucket := T.c_Bucket; have n_Bucket_room := T.n_Bucket_room; have n_Bucket_line := T.n_Bucket_line; have c_Table := T.c_Table; have n_Table_own := T.n_Table_own; have n_Table_wide := T.n_Table_wide; have n_Table_room := T.n_Table_room; have n_Table_buckets := T.n_Table_buckets; have c_Town := T.c_Town; have n_Town_wide := T.n_Town_wide; have n_Town_room := T.n_Town_room; have n_Town_tables := T.n_Town_tables; have n_Town_hushed := T.n_Town_hushed
    refine ⟨_, (pss_cons (ps_set (i := 1) sc_fault.nd rfl (Or.inl rfl) (pe_meth0 (pv 0) T.c_Town T.t_Town_answering (ok_Town_answering T) (hr.mono (by decide)) T.b_Town_answering .nil pass0))
      (pss_cons (ps_for PassesOwn.never rfl (pi_list (pv 1)) (pg_name (i := 2) sc_fault.nd rfl (Or.inl rfl))
      (pss_one (ps_for PassesOwn.never rfl (pi_range1 rfl T.z_range (pa_cons (pe_fld (pv 0) rfl) pa_nil)) (pg_name (i := 3) sc_fault.nd rfl (Or.inl rfl))
      (pss_one (ps_if (pt_val (pe_call (ok_is_faulty T) hr rfl T.m_is_faulty T.F_is_faulty.kp T.b_is_faulty .nil pass0 (pa_cons (pe_meth (pv 0) T.c_Town T.t_Town_bucket (ok_Town_bucket T) hr T.b_Town_bucket .nil pass0 (pa_cons (pv 2) (pa_cons (pv 3) pa_nil))) (pa_cons (pv 1) (pa_cons (pe_fld (pv 0) rfl) (pa_cons (pv 2) (pa_cons (pv 3) pa_nil)))))))
      (pss_one (ps_ret (pe_tup (pa_cons (pv 2) (pa_cons (pv 3) pa_nil)))))
      pss_nil)))))
      (pss_one (ps_ret pe_non)))), ?_⟩
    rw [Nn.st_fault]; try rw [Nn.cxK]
    try rw [Nn.cxW]
    walk_at "wx"
    refine wc_Town_answering t hz k.nd fun p1 H1 hp1 ex1 h1 => ?_
    walk_at "wx"
    refine ForW.by walk_list (fun i σ H' => ∃ (v2 v3 : Option V), σ = [some (.ref A1.t), some (.ref p1), v2, v3] ∧ Ex H1 H' ∧ ∀ h ∈ m.live.take i, ∀ j, j < m.wide → m.faulty (h, j) = false) ⟨_, _, rfl, Ex.refl, by simp⟩ (fun i σ H' _ ⟨_, _, _, e, _⟩ => SqL.of (e.at h1)) ?_ ?_
    · rintro i x σ _ H2 hi ⟨v2, v3, rfl, ex2, hno⟩ ⟨rfl, hx⟩
      rw [List.length_map] at hi
      obtain rfl : x = nV m.live[i] := by
        rw [List.getElem?_map, List.getElem?_eq_getElem hi] at hx
        exact (Option.some.inj hx).symm
      have t2 := t.ex' (ex1.trans ex2)
      obtain ⟨dx2, ob2⟩ := t2.tw.ob
      have hwi := k.w1
      walk_at "wx"
      refine ForW.by walk_rgN (fun j σ H' => ∃ (v3 : Option V), σ = [some (.ref A1.t), some (.ref p1), some (nV m.live[i]), v3] ∧ Ex H1 H' ∧ ∀ j', j' < j → m.faulty (m.live[i], j') = false) ⟨_, rfl, ex2, fun _ h => absurd h (Nat.not_lt_zero _)⟩ (fun _ _ _ _ _ => trivial) ?_ ?_
      · rintro j _ σ _ H3 hj ⟨v3, rfl, ex3, hnoj⟩ ⟨rfl, rfl⟩
        have hhm := TM.live_house (List.getElem_mem hi)
        have t3 := t.ex' (ex1.trans ex3)
        obtain ⟨dx3, ob3⟩ := t3.tw.ob
        obtain ⟨rw1, rw2, rw3⟩ := k.row (j := j) hhm
        walk_at "wx"
        refine wc_Town_bucket rfl rfl t3 k.w1 (k.bd hhm) hhm hj fun p4 hp4 => ?_
        have erow : (m.tab m.live[i]).getD j [] = m.row m.live[i] j := rfl
        rw [erow]
        have ex4 := ex3.newT (o := .lst ((m.row m.live[i] j).map nV)) hp4
        have h4 := upd_same (H := H3) (a := p4) (o := .lst ((m.row m.live[i] j).map nV))
        generalize upd H3 p4 (.lst ((m.row m.live[i] j).map nV)) = H4 at ex4 h4 ⊢
        have t4 := t.ex' (ex1.trans ex4)
        have h14 := ex4.at h1
        obtain ⟨dx4, ob4⟩ := t4.tw.ob
        walk_at "wx"
        refine wc_is_faulty rfl rfl rfl (SqL.of h4) (SqL.of h14) ⟨k.b60 hhm, by omega, by omega, by omega⟩ fun H5 ex5 => ?_
        have ex05 := ex4.trans ex5
        have ef : faultB (m.row m.live[i] j) m.live m.room m.live[i] j = m.faulty (m.live[i], j) := rfl
        rw [ef]
        cases hf : m.faulty (m.live[i], j) with
        | false =>
          walk_at "wx"
          exact ⟨_, rfl, ex05, fun j' hj' => by
            by_cases e : j' = j
            · rw [e]; exact hf
            · exact hnoj j' (by omega)⟩
        | true =>
          walk_at "wx"
          refine ⟨len_ok rfl, fun p6 hp6 => ?_⟩
          have e : m.faultN = some (m.live[i], j) := pairs_hit hi hj hno hnoj hf
          exact q (.ref p6) _ (ex1.trans (ex05.newT hp6)) (by rw [e]; exact ⟨p6, rfl, upd_same⟩)
      · rintro σ H3 ⟨v3, rfl, ex3, hnoj⟩
        walk_at "wx"
        refine ⟨_, _, rfl, ex3, fun h hh j hj => ?_⟩
        rw [List.take_add_one, List.getElem?_eq_getElem hi] at hh
        rcases List.mem_append.mp hh with z | z
        · exact hno h z j hj
        · have z : h = m.live[i] := by simpa using z
          rw [z]; exact hnoj j hj
    · rintro σ H2 ⟨v2, v3, rfl, ex2, hno⟩
      rw [List.length_map, List.take_length] at hno
      walk_at "wx"
      have e : m.faultN = none := pairs_none hno
      exact q .non H2 (ex1.trans ex2) (by rw [e]; rfl)
def sp_holes (T : Tx K mg base) : Sp := fun vs H Q _ => ∃ (A : TA) (F : Addr → Prop) (m : TM) (N : List Nat), vs = [.ref A.t] ∧ TownAt T H A F m ∧ m.Ok N ∧ ∀ (p : Addr) (ts : List Addr) (H' : Hp), H p = none → Ex H H' → H' p = some (.lst (ts.map V.ref)) → ts.length = m.holesN.length → (∀ (i : Nat) (a : Addr) (x : Nat × Nat), ts[i]? = some a → m.holesN[i]? = some x → H' a = some (.tup [nV x.1, nV x.2]) ∧ H a = none) → Q (.ref p) H'
theorem wc_holes {N : List Nat} (t : TownAt T H A F m) (k : m.Ok N) (q : ∀ (p : Addr) (ts : List Addr) (H' : Hp), H p = none → Ex H H' → H' p = some (.lst (ts.map V.ref)) → ts.length = m.holesN.length → (∀ (i : Nat) (a : Addr) (x : Nat × Nat), ts[i]? = some a → m.holesN[i]? = some x → H' a = some (.tup [nV x.1, nV x.2]) ∧ H a = none) → Q (.ref p) H') : sp_holes T [.ref A.t] H Q E := ⟨A, F, m, N, rfl, t, k, q⟩
/-- a list of pairs -/
structure PsAt (H0 H : Hp) (p : Addr) (ts : List Addr) (xs : List (Nat × Nat)) : Prop where
  at_ : H p = some (.lst (ts.map V.ref))
  len : ts.length = xs.length
  el : ∀ (i : Nat) (a : Addr) (x : Nat × Nat), ts[i]? = some a → xs[i]? = some x → H a = some (.tup [nV x.1, nV x.2]) ∧ H0 a = none
theorem PsAt.ex {H0 : Hp} {p : Addr} {ts : List Addr} {xs : List (Nat × Nat)} (a : PsAt H0 H p ts xs) (e : Ex H H') : PsAt H0 H' p ts xs := ⟨e.at a.at_, a.len, fun i b x h1 h2 => ⟨e.at (a.el i b x h1 h2).1, (a.el i b x h1 h2).2⟩⟩
theorem PsAt.snoc {H0 : Hp} {p q : Addr} {ts : List Addr} {xs : List (Nat × Nat)} {x : Nat × Nat} (a : PsAt H0 H p ts xs) (hq : H q = some (.tup [nV x.1, nV x.2])) (hn : H0 q = none) : PsAt H0 (upd H p (.lst (ts.map V.ref ++ [.ref q]))) p (ts ++ [q]) (xs ++ [x]) := by
  have ne : ∀ {b : Addr} {l : List V}, H b = some (.tup l) → b ≠ p := fun h z => by rw [z, a.at_] at h; cases h
  refine ⟨by rw [upd_same, List.map_append]; rfl, by simp [a.len], fun i b y h1 h2 => ?_⟩
  by_cases hi : i < ts.length
  · rw [List.getElem?_append_left hi] at h1
    rw [List.getElem?_append_left (by rw [← a.len]; exact hi)] at h2
    obtain ⟨g1, g2⟩ := a.el i b y h1 h2
    exact ⟨by rw [upd_ne (ne g1)]; exact g1, g2⟩
  · have hl := (List.getElem?_eq_some_iff.mp h1).1
    have ei : i = ts.length := by simp at hl; omega
    rw [ei, List.getElem?_append_right (Nat.le_refl _), Nat.sub_self] at h1
    rw [ei, a.len, List.getElem?_append_right (Nat.le_refl _), Nat.sub_self] at h2
    cases h1; cases h2
    exact ⟨by rw [upd_ne (ne hq)]; exact hq, hn⟩
theorem ok_holes (T : Tx K mg base) : FnOk P w K mg base CX0 4 T.a_holes T.d_holes ["town"] (sp_holes T) := by
  refine T.F_holes.okD sc_holes (fun vs H Q E h => ?_) (fun cdv A outer s H vs Q E hr h => ?_)
  · obtain ⟨A, F, m, N, rfl, _⟩ := h; rfl
  · obtain ⟨A1, F, m, N, rfl, t, k, q⟩ := h
    obtain ⟨dx, ob⟩ := t.tw.ob
    have hu := hu_of hr
    have hz := k.houses_len
    have hll := k.live_len
    have hr1 := k.r1
    have hpl := pairs_len (l := m.live) (w := m.wide)
    have hplm : m.live.length * m.wide ≤ 63 * 60 := Nat.mul_le_mul (by omega) k.w1
    have c_Bucket := T.c_Bucket; have n_Bucket_room := T.n_Bucket_room; have n_Bucket_line := T.n_Bucket_line; have c_Table := T.c_Table; have n_Table_own := T.n_Table_own; have n_Table_wide := T.n_Table_wide; have n_Table_room := T.n_Table_room; have n_Table_buckets := T.n_Table_buckets; have c_Town := T.c_Town; have n_Town_wide := T.n_Town_wide; have n_Town_room := T.n_Town_room; have n_Town_tables := T.n_Town_tables; have n_Town_hushed := T.n_Town_hushed
    refine ⟨_, (pss_cons (ps_set (i := 1) sc_holes.nd rfl (Or.inr rfl) (pe_meth0 (pv 0) T.c_Town T.t_Town_answering (ok_Town_answering T) (hr.mono (by decide)) T.b_Town_answering .nil pass0))
      (pss_cons (ps_set (i := 2) sc_holes.nd rfl (Or.inl rfl) (pe_lst pa_nil))
      (pss_cons (ps_for PassesOwn.never rfl (pi_list (pv 1)) (pg_name (i := 3) sc_holes.nd rfl (Or.inl rfl))
      (pss_one (ps_for PassesOwn.never rfl (pi_range1 rfl T.z_range (pa_cons (pe_fld (pv 0) rfl) pa_nil)) (pg_name (i := 4) sc_holes.nd rfl (Or.inl rfl))
      (pss_cons (ps_set (i := 5) sc_holes.nd rfl (Or.inl rfl) (pe_callB (cr_any rfl) (by rfl) T.z_any (by decide +kernel) (pa_cons (pe_lc (own := [("name", 6)]) (g := (gName 6)) (by rfl) sc_holes.nd (pi_list (pe_meth (pv 0) T.c_Town T.t_Town_bucket (ok_Town_bucket T) hr T.b_Town_bucket .nil pass0 (pa_cons (pv 3) (pa_cons (pv 4) pa_nil)))) (blkOk_by (N := N_holes) (sc := defScope s_holes) (own := [("name", 6)]) (by decide +kernel)) (fun _ _ _ _ _ => (pg_name (i := 6) sc_holes.nd rfl (Or.inl rfl))) (fun _ _ _ _ _ => pts_nil) (fun _ _ _ _ _ => (pe_cmpR (op_inK (K := K) rfl) (pv 6) (pv 1) rfl))) pa_nil)))
      (pss_one (ps_if (PW.pt (pw_and (pt_not (pt_val (pv 5))) (pw_and1 (pt_cmpR (op_neD hr.units) (pe_call (ok_of_span T) (hr.mono (by decide)) rfl T.m_of_span T.F_of_span.kp T.b_of_span .nil pass0 (pa_cons (pv 1) (pa_cons (pv 3) (pa_cons (pv 4) pa_nil)))) (pe_lst pa_nil) (nomark _)))))
      (pss_one (ps_expr (pe_bm PySem.F.plainAttrs_list PySem.F.slot_list_append PySem.F.type_list_append mt_append (pv 2) (pa_cons (pe_tup (pa_cons (pv 3) (pa_cons (pv 4) pa_nil))) pa_nil))))
      pss_nil))))))
      (pss_one (ps_ret (pv 2)))))), ?_⟩
    rw [Nn.st_holes]; try rw [Nn.cxK]
    try rw [Nn.cxW]
    walk_at "wx"
    refine wc_Town_answering t hz k.nd fun p1 H1 hp1 ex1 h1 => ?_
    walk_at "wx"
    refine ⟨len_ok rfl, fun p2 hp2 => ?_⟩
    have ex2 := ex1.newT (o := .lst []) hp2
    have h12 := at_new (o := .lst []) hp2 h1
    have n12 := ne_of_none h1 hp2
    have p02 : PsAt H (upd H1 p2 (.lst [])) p2 [] [] := ⟨upd_same, rfl, fun i a x h => by simp at h⟩
    have hp20 := ex1.back p2 hp2
    generalize upd H1 p2 (.lst []) = H2 at ex2 h12 p02 ⊢
    clear hp2 h1 ex1
    walk_at "wx"
    refine ForW.by walk_list (fun i σ H' => ∃ (v3 v4 v5 v6 : Option V) (ts : List Addr), σ = [some (.ref A1.t), some (.ref p1), some (.ref p2), v3, v4, v5, v6] ∧ Ex H H' ∧ H' p1 = some (.lst (m.live.map nV)) ∧ PsAt H H' p2 ts ((pairsN (m.live.take i) m.wide).filter m.hole)) ⟨_, _, _, _, [], rfl, ex2, h12, p02⟩ (fun i σ H' _ ⟨_, _, _, _, _, _, _, e, _⟩ => SqL.of e) ?_ ?_
    · rintro i x σ _ H3 hi ⟨v3, v4, v5, v6, ts, rfl, ex3, h13, ps3⟩ ⟨rfl, hx⟩
      rw [List.length_map] at hi
      obtain rfl : x = nV m.live[i] := by
        rw [List.getElem?_map, List.getElem?_eq_getElem hi] at hx
        exact (Option.some.inj hx).symm
      have t3 := t.ex' ex3
      obtain ⟨dx3, ob3⟩ := t3.tw.ob
      have hwi := k.w1
      walk_at "wx"
      refine ForW.by walk_rgN (fun j σ H' => ∃ (v4 v5 v6 : Option V) (ts : List Addr), σ = [some (.ref A1.t), some (.ref p1), some (.ref p2), some (nV m.live[i]), v4, v5, v6] ∧ Ex H H' ∧ H' p1 = some (.lst (m.live.map nV)) ∧ PsAt H H' p2 ts ((pairsN (m.live.take i) m.wide).filter m.hole ++ ((List.range j).map fun k => (m.live[i], k)).filter m.hole)) ⟨_, _, _, ts, rfl, ex3, h13, by simpa using ps3⟩ (fun _ _ _ _ _ => trivial) ?_ ?_
      · rintro j _ σ _ H4 hj ⟨v4, v5, v6, ts, rfl, ex4, h14, ps4⟩ ⟨rfl, rfl⟩
        have hhm := TM.live_house (List.getElem_mem hi)
        have t4 := t.ex' ex4
        obtain ⟨dx4, ob4⟩ := t4.tw.ob
        obtain ⟨rw1, rw2, rw3⟩ := k.row (j := j) hhm
        have hts : ts.length < 100000 := by
          rw [ps4.len, List.length_append]
          have q1 := List.length_filter_le m.hole (pairsN (m.live.take i) m.wide)
          have q2 := List.length_filter_le m.hole ((List.range j).map fun k => (m.live[i], k))
          rw [pairs_len] at q1
          rw [List.length_map, List.length_range] at q2
          have q3 : (m.live.take i).length * m.wide ≤ 63 * 60 := Nat.mul_le_mul (by rw [List.length_take]; omega) k.w1
          omega
        walk_at "wx"
        refine wc_Town_bucket rfl rfl t4 k.w1 (k.bd hhm) hhm hj fun p5 hp5 => ?_
        have erow : (m.tab m.live[i]).getD j [] = m.row m.live[i] j := rfl
        rw [erow]
        have ex5 := ex4.newT (o := .lst ((m.row m.live[i] j).map nV)) hp5
        have h5 := upd_same (H := H4) (a := p5) (o := .lst ((m.row m.live[i] j).map nV))
        have h15 := at_new (o := .lst ((m.row m.live[i] j).map nV)) hp5 h14
        have ps5 := ps4.ex (Ex.new (o := .lst ((m.row m.live[i] j).map nV)) hp5)
        generalize upd H4 p5 (.lst ((m.row m.live[i] j).map nV)) = H5 at ex5 h5 h15 ps5 ⊢
        walk_at "wx"
        refine LcW.map (emb := nV) (xs := m.row m.live[i] j) (fun n => V.bl (decide (n ∈ m.live))) (SqL.of h5) (by rw [sizeLine_eq]; omega) (fun n _ H6 ex6 Qe hQ => ?_) fun p6 H6 hp6 ex6 h6 => ?_
        · have h16 := ex6.at h15
          walk_at "wx"
          exact hQ _ Ex.refl
        · rw [bools_map] at h6
          refine x_any (SqL.of h6) ?_
          rw [any_map]
          have h16 := ex6.at h15
          have ps6 := ps5.ex ex6
          have ex06 := ex5.trans ex6
          have hol : m.hole (m.live[i], j) = (!((m.row m.live[i] j).any fun n => decide (n ∈ m.live)) && !decide (ofSpanN m.live m.live[i] j = [])) := rfl
          have stay : m.hole (m.live[i], j) = false → (pairsN (m.live.take i) m.wide).filter m.hole ++ ((List.range (j + 1)).map fun k => (m.live[i], k)).filter m.hole = (pairsN (m.live.take i) m.wide).filter m.hole ++ ((List.range j).map fun k => (m.live[i], k)).filter m.hole := fun e => by
            rw [List.range_succ, List.map_append, List.filter_append, List.map_singleton, List.filter_cons_of_neg (by rw [e]; exact Bool.false_ne_true), List.filter_nil, List.append_nil]
          have more : m.hole (m.live[i], j) = true → (pairsN (m.live.take i) m.wide).filter m.hole ++ ((List.range (j + 1)).map fun k => (m.live[i], k)).filter m.hole = ((pairsN (m.live.take i) m.wide).filter m.hole ++ ((List.range j).map fun k => (m.live[i], k)).filter m.hole) ++ [(m.live[i], j)] := fun e => by
            rw [List.range_succ, List.map_append, List.filter_append, List.map_singleton, List.filter_cons_of_pos e, List.filter_nil, List.append_assoc]
          cases hk : (m.row m.live[i] j).any fun n => decide (n ∈ m.live) with
          | true =>
            rw [hk] at hol
            walk_at "wx"
            exact ⟨_, _, _, ts, rfl, ex06, h16, by rw [stay hol]; exact ps6⟩
          | false =>
            rw [hk] at hol
            walk_at "wx"
            refine wc_of_span rfl rfl (SqL.of h16) ⟨k.b60 hhm, by omega, by omega⟩ fun p7 H7 hp7 ex7 h7 => ?_
            have h17 := ex7.at h16
            have ps7 := ps6.ex ex7
            have ex07 := ex06.trans ex7
            walk_at "wx"
            refine ⟨len_ok rfl, fun p8 hp8 => ?_⟩
            have ex08 := ex07.newT (o := .lst []) hp8
            have h18 := at_new (o := .lst []) hp8 h17
            have h78 := at_new (o := .lst []) hp8 h7
            have h88 := upd_same (H := H7) (a := p8) (o := .lst [])
            have ps8 := ps7.ex (Ex.new (o := .lst []) hp8)
            generalize upd H7 p8 (.lst []) = H8 at ex08 h18 h78 h88 ps8 ⊢
            refine x_neLN (ys := []) (SqL.of h78) (SqL.of h88) ?_
            walk_at "wx"
            refine x_ifN (fun hne => ?_) fun he => ?_
            · have hol : m.hole (m.live[i], j) = true := by rw [hol, decide_eq_false hne]; rfl
              have at8 := ps8.at_
              walk_at "wx"
              refine ⟨len_ok rfl, fun p9 hp9 => ?_⟩
              have ex09 := ex08.newT (o := .tup [nV m.live[i], nV j]) hp9
              have h19 := at_new (o := .tup [nV m.live[i], nV j]) hp9 h18
              have h99 := upd_same (H := H8) (a := p9) (o := .tup [nV m.live[i], nV j])
              have ps9 := ps8.ex (Ex.new (o := .tup [nV m.live[i], nV j]) hp9)
              have n90 : H p9 = none := ex08.back p9 hp9
              generalize upd H8 p9 (.tup [nV m.live[i], nV j]) = H9 at ex09 h19 h99 ps9 ⊢
              have at9 := ps9.at_
              walk_at "wx"
              have ps10 := ps9.snoc (x := (m.live[i], j)) h99 n90
              exact ⟨_, _, _, ts ++ [p9], rfl, ex09.mut hp20 at9, by rw [upd_ne n12]; exact h19, by rw [more hol]; exact ps10⟩
            · have hol : m.hole (m.live[i], j) = false := by rw [hol, decide_eq_true he]; rfl
              walk_at "wx"
              exact ⟨_, _, _, ts, rfl, ex08, h18, by rw [stay hol]; exact ps8⟩
      · rintro σ H4 ⟨v4, v5, v6, ts, rfl, ex4, h14, ps4⟩
        walk_at "wx"
        refine ⟨_, _, _, _, ts, rfl, ex4, h14, ?_⟩
        rw [pairs_take hi, List.filter_append]
        exact ps4
    · rintro σ H3 ⟨v3, v4, v5, v6, ts, rfl, ex3, h13, ps3⟩
      rw [List.length_map, List.take_length] at ps3
      walk_at "wx"
      exact q p2 ts H3 hp20 ex3 ps3.at_ ps3.len ps3.el
end
end Nn
/-! towns where all answer: they come to rest -/
namespace Nn
theorem closer {d x z : Nat} (h1 : d ≠ x) (h2 : d ≠ z) (h : stepN d z = stepN d x) : z ^^^ x < 2 ^ stepN d x ∧ 2 ^ stepN d x ≤ d ^^^ x := by
  have e1 := (stepN_eq h1).mp rfl
  have e2 := (stepN_eq h2).mp h
  have e3 : (z ^^^ x) / 2 ^ stepN d x = 0 := by rw [xor_div_pow, e1, e2, Nat.xor_self]
  have hp := Nat.two_pow_pos (stepN d x)
  refine ⟨?_, Nat.log2_self_le (xor_ne_zero h1)⟩
  rcases Nat.div_eq_zero_iff.mp e3 with q | q
  · omega
  · exact q
theorem hear_cov {room n : Nat} {xs : List Nat} {a : Bool} (h0 : 0 < room) (ha : xs ≠ [] → ¬ xs.length < room → a = true) :
    (∀ z ∈ xs, z ∈ hearL room xs n a) ∧ ((hearL room xs n a).length < room → n ∈ hearL room xs n a) ∧ ((hearL room xs n a).length < room → xs.length < room) ∧ (∀ z ∈ hearL room xs n a, z ∈ xs ∨ z = n) := by
  refine ⟨?_, ?_, ?_, fun z hz => hear_mem hz h0⟩
  all_goals unfold hearL
  all_goals by_cases hn : n ∈ xs
  · rw [if_pos hn]
    intro z hz
    by_cases e : z = n
    · rw [e]; simp
    · exact List.mem_append.mpr (.inl ((List.mem_erase_of_ne e).mpr hz))
  · rw [if_neg hn]
    intro z hz
    by_cases hr : xs.length < room
    · rw [if_pos hr]; exact List.mem_append.mpr (.inl hz)
    · rw [if_neg hr]
      cases xs with
      | nil => cases hz
      | cons x r =>
        rw [if_pos (ha (List.cons_ne_nil _ _) hr)]
        rcases List.mem_cons.mp hz with e | e
        · rw [e]; simp
        · exact List.mem_append.mpr (.inl e)
  · rw [if_pos hn]; intro _; simp
  · rw [if_neg hn]
    by_cases hr : xs.length < room
    · rw [if_pos hr]; intro _; simp
    · rw [if_neg hr]
      cases xs with
      | nil => simp at hr; omega
      | cons x r =>
        rw [if_pos (ha (List.cons_ne_nil _ _) hr)]
        intro z
        simp at hr z
        omega
  · rw [if_pos hn]
    intro z
    have hp : 0 < xs.length := List.length_pos_of_mem hn
    rw [List.length_append, List.length_erase_of_mem hn, List.length_singleton] at z
    omega
  · rw [if_neg hn]
    by_cases hr : xs.length < room
    · intro _; exact hr
    · rw [if_neg hr]
      cases xs with
      | nil => simp at hr; omega
      | cons x r =>
        rw [if_pos (ha (List.cons_ne_nil _ _) hr)]
        intro z
        simp at hr z
        omega
namespace TM
variable {m : TM} {N : List Nat} {S : Nat → Nat → Prop}
theorem row_hears (k : m.Ok N) {h n h' j : Nat} (hh : h ∈ m.houses) (hn : n ∈ N) : (m.hears h n).row h' j = if h' = h ∧ n ≠ h ∧ stepN h n = j then hearL m.room (m.row h j) n (m.aw ((m.row h j).headD 0)) else m.row h' j := by
  show ((m.setTab h (tabL h m.room (m.tab h) n m.aw)).tab h').getD j [] = _
  rw [setTab_tab]
  by_cases e : h' = h
  · subst e
    rw [if_pos ⟨rfl, hh⟩]
    unfold tabL
    by_cases e2 : n = h'
    · rw [if_pos e2, if_neg fun z => z.2.1 e2]; rfl
    · rw [if_neg e2]
      by_cases e3 : stepN h' n = j
      · rw [if_pos ⟨rfl, e2, e3⟩]
        subst e3
        have hl : stepN h' n < (m.tab h').length := by
          rw [(k.tabOk hh).len]
          exact stepN_lt (k.nb _ (k.hN _ hh)) (k.nb _ hn) fun z => e2 z.symm
        rw [List.getD_eq_getElem?_getD, List.getElem?_set_self hl]; rfl
      · rw [if_neg fun z => e3 z.2.2, List.getD_eq_getElem?_getD, List.getElem?_set_ne e3, ← List.getD_eq_getElem?_getD]; rfl
  · rw [if_neg fun z => e z.1, if_neg fun z => e z.1]; rfl
/-- all houses answer; what is kept are houses; a bucket with room keeps all that the house was told of -/
structure Cov (m : TM) (S : Nat → Nat → Prop) : Prop where
  hush : m.hush = []
  kept : ∀ h ∈ m.houses, ∀ j, ∀ x ∈ m.row h j, x ∈ m.houses
  full : ∀ h ∈ m.houses, ∀ j, (m.row h j).length < m.room → ∀ y, S h y → y ≠ h → stepN h y = j → y ∈ m.row h j
theorem Cov.aw (c : m.Cov S) {x : Nat} (hx : x ∈ m.houses) : m.aw x = true := by
  unfold TM.aw; rw [c.hush]; simp [hx]
theorem Cov.mono {S' : Nat → Nat → Prop} (c : m.Cov S) (h : ∀ a ∈ m.houses, ∀ b, b ≠ a → S' a b → S a b) : m.Cov S' := ⟨c.hush, c.kept, fun a ha j hl y hy hne => c.full a ha j hl y (h a ha y hne hy) hne⟩
theorem Cov.hears (k : m.Ok N) (c : m.Cov S) {h n : Nat} (hh : h ∈ m.houses) (hn : n ∈ m.houses) : (m.hears h n).Cov fun a b => S a b ∨ (a = h ∧ b = n) := by
  have ha : ∀ j, m.row h j ≠ [] → ¬ (m.row h j).length < m.room → m.aw ((m.row h j).headD 0) = true := fun j ne _ => by
    cases e : m.row h j with
    | nil => exact absurd e ne
    | cons x r => exact c.aw (c.kept h hh j x (by rw [e]; simp))
  refine ⟨c.hush, fun a haa j x hx => ?_, fun a haa j hl y hy hne hs => ?_⟩
  · rw [hears_houses] at haa ⊢
    rw [row_hears k hh (k.hN _ hn)] at hx
    split at hx
    · rename_i q
      rcases (hear_cov k.r0 (ha j)).2.2.2 x hx with z | z
      · exact c.kept h hh j x z
      · rw [z]; exact hn
    · exact c.kept a haa j x hx
  · rw [hears_houses] at haa
    rw [row_hears k hh (k.hN _ hn)] at hl ⊢
    split at hl
    · rename_i q
      rw [if_pos q]
      obtain ⟨c1, c2, c3, c4⟩ := hear_cov (n := n) k.r0 (ha j)
      obtain ⟨q1, q2, q3⟩ := q
      rcases hy with z | ⟨_, z⟩
      · rw [q1] at z hne hs
        exact c1 y (c.full h hh j (c3 hl) y z hne hs)
      · rw [z]; exact c2 hl
    · rename_i q
      rw [if_neg q]
      rcases hy with z | ⟨z1, z2⟩
      · exact c.full a haa j hl y z hne hs
      · exfalso
        subst z1 z2
        exact q ⟨rfl, hne, hs⟩
theorem Cov.fold {n : Nat} : ∀ {l : List Nat} {m : TM} {S : Nat → Nat → Prop}, m.Ok N → m.Cov S → n ∈ m.houses → (∀ o ∈ l, o ∈ m.houses) → (l.foldl (TM.meet n) m).Cov fun a b => S a b ∨ (a = n ∧ b ∈ l) ∨ (b = n ∧ a ∈ l)
  | [], m, S, _, c, _, _ => c.mono fun a _ b _ h => by
    rcases h with h | ⟨_, h⟩ | ⟨_, h⟩
    · exact h
    · cases h
    · cases h
  | o :: r, m, S, k, c, hn, hl => by
    rw [List.foldl_cons]
    have ho := hl o (List.mem_cons_self ..)
    have k1 := k.hears (h := n) (k.hN _ ho)
    have c1 := c.hears k hn ho
    have c2 := c1.hears k1 (h := o) (n := n) (by rw [hears_houses]; exact ho) (by rw [hears_houses]; exact hn)
    have k2 : (TM.meet n m o).Ok N := k.meet (k.hN _ hn) (k.hN _ ho)
    refine (Cov.fold (l := r) k2 c2 (by rw [meet_houses]; exact hn) fun x hx => by rw [meet_houses]; exact hl x (List.mem_cons_of_mem _ hx)).mono fun a _ b _ h => ?_
    rcases h with h | ⟨h1, h2⟩ | ⟨h1, h2⟩
    · exact .inl (.inl (.inl h))
    · rcases List.mem_cons.mp h2 with z | z
      · exact .inl (.inl (.inr ⟨h1, z⟩))
      · exact .inr (.inl ⟨h1, z⟩)
    · rcases List.mem_cons.mp h2 with z | z
      · exact .inl (.inr ⟨z, h1⟩)
      · exact .inr (.inr ⟨h1, z⟩)
/-- it rests -/
def Calm (m : TM) : Prop := m.Cov fun _ y => y ∈ m.houses
theorem tab_row {x y : Nat} (h : y ∈ (m.tab x).flatten) : ∃ j, y ∈ m.row x j := by
  obtain ⟨xs, h1, h2⟩ := List.mem_flatten.mp h
  obtain ⟨j, hj⟩ := List.getElem?_of_mem h1
  exact ⟨j, by unfold TM.row; rw [List.getD_eq_getElem?_getD, hj]; exact h2⟩
theorem row_tab {x y j : Nat} (h : y ∈ m.row x j) : y ∈ (m.tab x).flatten := by
  unfold TM.row at h
  rw [List.getD_eq_getElem?_getD] at h
  cases e : (m.tab x)[j]? with
  | none => rw [e] at h; cases h
  | some xs => rw [e] at h; exact List.mem_flatten.mpr ⟨xs, List.mem_of_getElem? e, h⟩
/-- in a town at rest each house is come to from each -/
theorem Calm.reach (k : m.Ok N) (c : m.Calm) {x : Nat} (hx : x ∈ m.houses) : ∀ (s d : Nat), d ^^^ x = s → d ∈ m.houses → m.Reach d x := by
  have key : ∀ (s d b : Nat), d ^^^ x < s → d ∈ m.houses → m.Reach b d → m.Reach b x := by
    intro s
    induction s with
    | zero => intro d b h; omega
    | succ s ih =>
      intro d b h hd r
      by_cases e : d = x
      · rw [← e]; exact r
      · by_cases hl : (m.row d (stepN d x)).length < m.room
        · exact .step r (row_tab (c.full d hd _ hl x hx (fun z => e z.symm) rfl)) (c.aw hx)
        · have hr := k.r0
          obtain ⟨z, hz⟩ := List.exists_mem_of_length_pos (by omega : 0 < (m.row d (stepN d x)).length)
          have hzh := c.kept d hd _ z hz
          obtain ⟨q1, q2, q3⟩ := (k.row hd).2.2 z hz
          obtain ⟨g1, g2⟩ := closer e (fun w => q1 w.symm) q2
          exact ih z b (by omega) hzh (.step r (row_tab hz) (c.aw hzh))
  intro s d e hd
  exact key (s + 1) d d (by omega) hd .self
theorem tab_add {n x : Nat} (hn : n ∉ m.houses) (hx : x ∈ m.houses) : (m.add n).tab x = m.tab x := by
  unfold TM.tab TM.add
  rw [List.lookup_append]
  cases e : m.tabs.lookup x with
  | some v => rfl
  | none =>
    exfalso
    obtain ⟨p, hp, rfl⟩ := List.mem_map.mp hx
    exact (List.lookup_eq_none_iff.mp e p hp |> fun z => by simp at z)
theorem tab_add_new {n : Nat} (hn : n ∉ m.houses) : (m.add n).tab n = List.replicate m.wide [] := by
  unfold TM.tab TM.add
  rw [List.lookup_append]
  have e : m.tabs.lookup n = none := List.lookup_eq_none_iff.mpr fun p hp => by
    simp only [bne_iff_ne, ne_eq, beq_iff_eq]
    intro z
    exact hn (List.mem_map.mpr ⟨p, hp, z.symm⟩)
  rw [e]
  show (List.lookup n [(n, List.replicate m.wide [])]).getD [] = _
  rw [lookup_eq]; rfl
theorem row_add {n x j : Nat} (hn : n ∉ m.houses) (hx : x ∈ m.houses) : (m.add n).row x j = m.row x j := by
  unfold TM.row; rw [tab_add hn hx]
theorem row_add_new {n j : Nat} (hn : n ∉ m.houses) : (m.add n).row n j = [] := by
  unfold TM.row; rw [tab_add_new hn, List.getD_eq_getElem?_getD, List.getElem?_replicate]
  split <;> rfl
theorem Reach.add {n h x : Nat} (hn : n ∉ m.houses) (r : m.Reach h x) (hh : h ∈ m.houses) : (m.add n).Reach h x := by
  induction r with
  | self => exact .self
  | step r1 hy e ih => exact .step ih (by rw [tab_add hn (r1.house hh)]; exact hy) (add_aw e)
theorem Calm.add {n : Nat} (c : m.Calm) (hn : n ∉ m.houses) : (m.add n).Cov fun a b => a ∈ m.houses ∧ b ∈ m.houses := by
  refine ⟨c.hush, fun a ha j x hx => ?_, fun a ha j hl y ⟨hy1, hy2⟩ hne hs => ?_⟩
  · rw [add_houses] at ha ⊢
    rcases List.mem_append.mp ha with z | z
    · rw [row_add hn z] at hx
      exact List.mem_append.mpr (.inl (c.kept a z j x hx))
    · rw [List.mem_singleton.mp z, row_add_new hn] at hx; cases hx
  · rw [row_add hn hy1] at hl ⊢
    exact c.full a hy1 j hl y hy2 hne hs
theorem Calm.others (k : m.Ok N) (c : m.Calm) {n d : Nat} (hn : n ∉ m.houses) (hd : d ∈ m.houses) : (m.add n).others n d = sortU m.houses := by
  refine rising_eq (comeTo_sorted.filter _) (sortU_sorted _) fun x => ?_
  unfold TM.others
  rw [List.mem_filter, mem_comeTo, mem_sortU, add_houses]
  constructor
  · rintro ⟨⟨h1, _⟩, h2⟩
    have h2 : x ≠ n := by simpa using h2
    rcases List.mem_append.mp h1 with z | z
    · exact z
    · exact absurd (List.mem_singleton.mp z) h2
  · intro hx
    have hne : x ≠ n := fun z => hn (by rw [← z]; exact hx)
    exact ⟨⟨List.mem_append.mpr (.inl hx), (Calm.reach k c hx _ d rfl hd).add hn hd⟩, by simp [hne]⟩
theorem Calm.comes (k : m.Ok N) (c : m.Calm) {n : Nat} {d : Option Nat} (hn : n ∉ m.houses) (hnN : n ∈ N) (hd : ∀ x, d = some x → x ∈ m.houses) (h0 : d = none → m.houses = []) : (m.comes n d).Calm := by
  have ca := Calm.add c hn
  have ka := k.add hn hnN
  cases d with
  | none =>
    have e := h0 rfl
    show (m.add n).Cov fun _ y => y ∈ (m.add n).houses
    refine ca.mono fun a ha b hne hb => ?_
    rw [add_houses, e] at ha hb
    exact absurd ((List.mem_singleton.mp hb).trans (List.mem_singleton.mp ha).symm) hne
  | some d =>
    have hd' := hd d rfl
    show ((m.add n).visit n d).Calm
    unfold TM.visit
    rw [Calm.others k c hn hd']
    have hnm : n ∈ (m.add n).houses := by rw [add_houses]; simp
    have q := Cov.fold (l := sortU m.houses) ka ca hnm fun o ho => by rw [add_houses]; exact List.mem_append.mpr (.inl (mem_sortU.mp ho))
    refine q.mono fun a ha b hne hb => ?_
    rw [fold_houses, add_houses] at ha hb
    rcases List.mem_append.mp ha with za | za <;> rcases List.mem_append.mp hb with zb | zb
    · exact .inl ⟨za, zb⟩
    · exact .inr (.inr ⟨List.mem_singleton.mp zb, mem_sortU.mpr za⟩)
    · exact .inr (.inl ⟨List.mem_singleton.mp za, mem_sortU.mpr zb⟩)
    · exact absurd ((List.mem_singleton.mp zb).trans (List.mem_singleton.mp za).symm) hne
/-- all names that a resting town keeps are houses -/
theorem Calm.ok (k : m.Ok N) (c : m.Cov S) : m.Ok m.houses :=
  ⟨k.w0, k.w1, k.r0, k.r1, fun x hx => k.nb x (k.hN x hx), k.houses_len, fun _ h => h, k.nd, k.hnd, k.hh, fun h xss hm => by
    have t := k.at_ h xss hm
    have hh : h ∈ m.houses := List.mem_map.mpr ⟨_, hm, rfl⟩
    refine ⟨t.len, fun j xs e => ?_⟩
    obtain ⟨a1, a2, a3⟩ := t.at_ j xs e
    refine ⟨a1, a2, fun x hx => ⟨(a3 x hx).1, (a3 x hx).2.1, c.kept h hh j x ?_⟩⟩
    unfold TM.row
    rw [tab_mem k.nd hm, List.getD_eq_getElem?_getD, e]
    exact hx⟩
theorem Calm.live (c : m.Cov S) : m.live = sortU m.houses := List.filter_eq_self.mpr fun x hx => c.aw (mem_sortU.mp hx)
theorem Calm.faulty (k : m.Ok N) (c : m.Calm) {h j : Nat} (hh : h ∈ m.houses) : m.faulty (h, j) = false := by
  show faultB (m.row h j) m.live m.room h j = false
  have e1 : ((m.row h j).all fun n => decide (n ∈ m.live)) = true := List.all_eq_true.mpr fun x hx => decide_eq_true (mem_live.mpr (c.aw (c.kept h hh j x hx)))
  unfold faultB
  rw [e1]
  by_cases hl : (m.row h j).length < m.room
  · have q : (ofSpanN m.live h j).length ≤ (m.row h j).length := nodup_len (live_nodup.filter _) fun y hy => by
      obtain ⟨h1, h2⟩ := List.mem_filter.mp hy
      have h2 := of_decide_eq_true h2
      obtain ⟨g1, g2⟩ := span_step.mp h2
      exact c.full h hh j hl y (live_house h1) (fun z => g1 z.symm) g2
    simp; omega
  · simp [hl]
theorem Calm.fault (k : m.Ok N) (c : m.Calm) : m.faultN = none := pairs_none fun _ hh _ _ => Calm.faulty k c (live_house hh)
theorem hole_fault {N : List Nat} (k : m.Ok N) {x : Nat × Nat} (h : m.hole x = true) : m.faulty x = true := by
  have h : (!((m.row x.1 x.2).any fun n => decide (n ∈ m.live)) && !decide (ofSpanN m.live x.1 x.2 = [])) = true := h
  show faultB (m.row x.1 x.2) m.live m.room x.1 x.2 = true
  rw [Bool.and_eq_true] at h
  obtain ⟨h1, h2⟩ := h
  have h1 : ((m.row x.1 x.2).any fun n => decide (n ∈ m.live)) = false := by simpa using h1
  have h2 : ofSpanN m.live x.1 x.2 ≠ [] := by simpa using h2
  unfold faultB
  cases e : m.row x.1 x.2 with
  | nil =>
    have r := k.r0
    have p := List.length_pos_iff.mpr h2
    simp [r, p]
  | cons y l =>
    rw [e, List.any_cons] at h1
    have h3 : decide (y ∈ m.live) = false := by
      rw [Bool.or_eq_false_iff] at h1; exact h1.1
    rw [List.all_cons, h3]; rfl
theorem Calm.holes (k : m.Ok N) (c : m.Calm) : m.holesN = [] := List.filter_eq_nil_iff.mpr fun x hx z => by
  obtain ⟨h, hh, hx⟩ := List.mem_flatMap.mp hx
  obtain ⟨j, _, rfl⟩ := List.mem_map.mp hx
  have q := hole_fault k z
  rw [Calm.faulty k c (live_house hh)] at q
  cases q
theorem Cov.foldL {start : Nat} : ∀ {l : List (Nat × Option (List Nat))} {m : TM} {S : Nat → Nat → Prop}, m.Ok N → m.Cov S → start ∈ m.houses → (∀ x ∈ l, x.1 ∈ m.houses ∧ x.2 ≠ none) → (l.foldl (TM.learn1 start) m).Cov S
  | [], _, _, _, c, _, _ => c
  | x :: r, m, S, k, c, hs, hl => by
    rw [List.foldl_cons]
    obtain ⟨hx1, hx2⟩ := hl x (List.mem_cons_self ..)
    have e : TM.learn1 start m x = (m.hears start x.1).hears x.1 start := by
      unfold TM.learn1
      cases e : x.2 with
      | none => exact absurd e hx2
      | some _ => rfl
    have c1 := c.hears k hs hx1
    have c2 := c1.hears (k.hears (h := start) (k.hN _ hx1)) (h := x.1) (n := start) (by rw [hears_houses]; exact hx1) (by rw [hears_houses]; exact hs)
    rw [← e] at c2
    exact Cov.foldL (l := r) (k.learn1 (k.hN _ hs) (k.hN _ hx1)) (c2.mono fun a _ b _ h => .inl (.inl h)) (by rw [learn1_houses]; exact hs) fun y hy => by rw [learn1_houses]; exact hl y (List.mem_cons_of_mem _ hy)
theorem Calm.learn (k : m.Ok N) (c : m.Calm) {s g : Nat} (hs : s ∈ m.houses) : (m.learn s g).Calm := by
  have k' := Calm.ok k c
  have q := Cov.foldL (start := s) (l := (m.askSt s g).row.tail) k c hs fun x hx => by
    obtain ⟨h1, h2⟩ := TM.ask_mem k' (c.aw hs) (List.mem_of_mem_tail hx)
    exact ⟨h1, by rw [h2]; exact tells_ne (c.aw h1)⟩
  show (m.learn s g).Cov fun _ y => y ∈ (m.learn s g).houses
  rw [learn_houses]
  exact q
end TM
end Nn
/-! the later laws' helpers, each number told: cells, mixed numbers, draws, sizes, names -/
namespace Nn
def mixI (c : Int) (k : Nat) : Int := ((c % 2147483629 + 48271 * ((k : Int) + 1)) % 2147483647 * ((c % 2147483629 + 48271 * ((k : Int) + 1)) % 2147483647) + 69621 * (k : Int) + 7) % 2147483587 * (((c % 2147483629 + 48271 * ((k : Int) + 1)) % 2147483647 * ((c % 2147483629 + 48271 * ((k : Int) + 1)) % 2147483647) + 69621 * (k : Int) + 7) % 2147483587) % 2147483579
def mixN (c : Int) (k : Nat) : Nat := (mixI c k).toNat
theorem mixN_cast {c : Int} {k : Nat} : ((mixN c k : Nat) : Int) = mixI c k := Int.toNat_of_nonneg (Int.emod_nonneg _ (by decide))
theorem mixN_lt {c : Int} {k : Nat} : mixN c k < 2 ^ 31 := by
  have h1 : mixI c k < 2147483579 := Int.emod_lt_of_pos _ (by decide)
  have h2 := mixN_cast (c := c) (k := k)
  omega
def drawN (c : Int) (k : Nat) (b : Bool) : Nat := if b = true then (c % 10 ^ (60 : Int).toNat).toNat else (mixN ((c % 10 ^ (60 : Int).toNat).toNat : Nat) k * 2147483629 + mixN ((c % 10 ^ (60 : Int).toNat).toNat : Nat) (k + 64)) * 2147483629 + mixN ((c % 10 ^ (60 : Int).toNat).toNat : Nat) (k + 128)
def nameN (x wd b : Nat) : Nat := if x / 2 ^ wd % 2 = 1 then (b ^^^ x % 16) % 2 ^ wd else x % 2 ^ wd
theorem nameN_lt {x wd b : Nat} : nameN x wd b < 2 ^ wd := by
  unfold nameN
  split <;> exact Nat.mod_lt _ (Nat.two_pow_pos wd)
end Nn
namespace Nn
open PySem L2
section
variable {P : Program} {w : World} {K : PySem.W.Frag} {mg : Str → Option Value} {base : Heap} {H H' : Hp} {Q : VK} {E : XK}
theorem cdivw {i : Int} {k : Nat} (h : k ≤ 60) : CDivW i ((2 ^ k : Nat) : Int) :=
  wide_div two_pos (b := 61) (by rw [Int.natAbs_natCast]; exact Nat.pow_lt_pow_right (by decide) (by omega)) (by decide) (by decide)
def sp_l_cell_at (_ : Tx K mg base) : Sp := fun vs H Q E => ∃ (p_s : Addr) (s : List Int) (k : Nat), vs = [.ref p_s, .int k] ∧ (SqL K H p_s (s.map V.int)) ∧ (∀ z : Int, Q (.int z) H)
theorem wc_l_cell_at {T : Tx K mg base} {p_s : Addr} {s : List Int} {k : Nat} {i1 : Int} (e1 : i1 = k) (c0 : SqL K H p_s (s.map V.int)) (h : ∀ z : Int, Q (.int z) H) : sp_l_cell_at T [.ref p_s, .int i1] H Q E := by
  subst e1
  exact ⟨p_s, s, k, rfl, c0, h⟩
theorem ok_l_cell_at (T : Tx K mg base) : FnOk P w K mg base CX0 1 T.a_l_cell_at T.d_l_cell_at ["_law_script", "_law_k"] (sp_l_cell_at T) := by
  refine T.F_l_cell_at.okD sc_l_cell_at (fun vs H Q E h => ?_) (fun cdv A outer s H vs Q E hr h => ?_)
  · obtain ⟨p_s, s, k, rfl, hS0, q⟩ := h; rfl
  · obtain ⟨p_s, s, k, rfl, hS0, q⟩ := h
    have hu := hu_of hr
    have c_Bucket := T.c_Bucket; have n_Bucket_room := T.n_Bucket_room; have n_Bucket_line := T.n_Bucket_line; have c_Table := T.c_Table; have n_Table_own := T.n_Table_own; have n_Table_wide := T.n_Table_wide; have n_Table_room := T.n_Table_room; have n_Table_buckets := T.n_Table_buckets; have c_Town := T.c_Town; have n_Town_wide := T.n_Town_wide; have n_Town_room := T.n_Town_room; have n_Town_tables := T.n_Town_tables; have n_Town_hushed := T.n_Town_hushed
    refine ⟨_, (pss_cons (ps_if (pt_cmpR op_lt (pv 1) (pe_callB cb_len (by rfl) T.z_len PySem.boot_len (pa_cons (pv 0) pa_nil)) (nomark _))
      (pss_one (ps_ret (pe_ix ix_list (pv 0) (pv 1) (fun _ _ => rfl))))
      pss_nil)
      (pss_one (ps_ret pe_int))), ?_⟩
    rw [Nn.st_l_cell_at]; try rw [Nn.cxK]
    try rw [Nn.cxW]
    walk_at "wx"
    refine x_ifD (fun hk => ?_) (fun hk => ?_)
    · walk_at "wx"
      have hk' : k < s.length := by simpa using hk
      refine x_ixL hS0 (atI_map hk') ?_
      walk_at "wx"
      exact q _
    · walk_at "wx"
      exact q 0
def sp_l_mixed (_ : Tx K mg base) : Sp := fun vs H Q E => ∃ (c : Int) (k : Nat), vs = [.int c, .int k] ∧ (k ≤ 1000) ∧ (Q (.int ((mixN c k : Nat) : Int)) H)
theorem wc_l_mixed {T : Tx K mg base} {c : Int} {k : Nat} {i1 : Int} (e1 : i1 = k) (c0 : k ≤ 1000) (h : Q (.int ((mixN c k : Nat) : Int)) H) : sp_l_mixed T [.int c, .int i1] H Q E := by
  subst e1
  exact ⟨c, k, rfl, c0, h⟩
theorem ok_l_mixed (T : Tx K mg base) : FnOk P w K mg base CX0 1 T.a_l_mixed T.d_l_mixed ["_law_cell", "_law_k"] (sp_l_mixed T) := by
  refine T.F_l_mixed.okD sc_l_mixed (fun vs H Q E h => ?_) (fun cdv A outer s H vs Q E hr h => ?_)
  · obtain ⟨c, k, rfl, hpre, q⟩ := h; rfl
  · obtain ⟨c, k, rfl, hpre, q⟩ := h
    have hu := hu_of hr
    have c_Bucket := T.c_Bucket; have n_Bucket_room := T.n_Bucket_room; have n_Bucket_line := T.n_Bucket_line; have c_Table := T.c_Table; have n_Table_own := T.n_Table_own; have n_Table_wide := T.n_Table_wide; have n_Table_room := T.n_Table_room; have n_Table_buckets := T.n_Table_buckets; have c_Town := T.c_Town; have n_Town_wide := T.n_Town_wide; have n_Town_room := T.n_Town_room; have n_Town_tables := T.n_Town_tables; have n_Town_hushed := T.n_Town_hushed
    refine ⟨_, (pss_cons (ps_set (i := 2) sc_l_mixed.nd rfl (Or.inl rfl) (pe_op op_mod (pe_op op_add (pe_op op_mod (pv 0) pe_int) (pe_op op_mul pe_int (pe_op op_add (pv 1) pe_int))) pe_int))
      (pss_cons (ps_set (i := 2) sc_l_mixed.nd rfl (Or.inl rfl) (pe_op op_mod (pe_op op_add (pe_op op_add (pe_op op_mul (pv 2) (pv 2)) (pe_op op_mul pe_int (pv 1))) pe_int) pe_int))
      (pss_one (ps_ret (pe_op op_mod (pe_op op_mul (pv 2) (pv 2)) pe_int))))), ?_⟩
    rw [Nn.st_l_mixed]; try rw [Nn.cxK]
    try rw [Nn.cxW]
    walk_at "wx"
    rw [mixN_cast] at q
    exact q
end
end Nn
local macro_rules | `(tactic| walk_at "wc") => `(tactic| ((with_reducible refine' Nn.wc_l_mixed ?hE0 ?hC0 (?_)); (case hE0 => walk_at "wnat"); (case hC0 => walk_at "wpre")))
namespace Nn
open PySem L2
section
variable {P : Program} {w : World} {K : PySem.W.Frag} {mg : Str → Option Value} {base : Heap} {H H' : Hp} {Q : VK} {E : XK}
def sp_l_draw (_ : Tx K mg base) : Sp := fun vs H Q E => ∃ (c : Int) (k : Nat) (b : Bool), vs = [.int c, .int k, .bl b] ∧ (k ≤ 500) ∧ (Q (.int ((drawN c k b : Nat) : Int)) H)
theorem wc_l_draw {T : Tx K mg base} {c : Int} {k : Nat} {b : Bool} {i1 : Int} (e1 : i1 = k) (c0 : k ≤ 500) (h : Q (.int ((drawN c k b : Nat) : Int)) H) : sp_l_draw T [.int c, .int i1, .bl b] H Q E := by
  subst e1
  exact ⟨c, k, b, rfl, c0, h⟩
theorem ok_l_draw (T : Tx K mg base) : FnOk P w K mg base CX0 2 T.a_l_draw T.d_l_draw ["_law_cell", "_law_k", "_law_plain"] (sp_l_draw T) := by
  refine T.F_l_draw.okD sc_l_draw (fun vs H Q E h => ?_) (fun cdv A outer s H vs Q E hr h => ?_)
  · obtain ⟨c, k, b, rfl, hpre, q⟩ := h; rfl
  · obtain ⟨c, k, b, rfl, hpre, q⟩ := h
    have hu := hu_of hr
    have c_Bucket := T.c_Bucket; have n_Bucket_room := T.n_Bucket_room; have n_Bucket_line := T.n_Bucket_line; have c_Table := T.c_Table; have n_Table_own := T.n_Table_own; have n_Table_wide := T.n_Table_wide; have n_Table_room := T.n_Table_room; have n_Table_buckets := T.n_Table_buckets; have c_Town := T.c_Town; have n_Town_wide := T.n_Town_wide; have n_Town_room := T.n_Town_room; have n_Town_tables := T.n_Town_tables; have n_Town_hushed := T.n_Town_hushed
    refine ⟨_, (pss_cons (ps_set (i := 0) sc_l_draw.nd rfl (Or.inl rfl) (pe_op op_mod (pv 0) (pe_op op_pow pe_int pe_int)))
      (pss_cons (ps_if (pt_val (pv 2))
      (pss_one (ps_ret (pv 0)))
      pss_nil)
      (pss_cons (ps_set (i := 3) sc_l_draw.nd rfl (Or.inl rfl) (pe_op op_add (pe_op op_mul (pe_call (ok_l_mixed T) hr rfl T.m_l_mixed T.F_l_mixed.kp T.b_l_mixed .nil pass0 (pa_cons (pv 0) (pa_cons (pv 1) pa_nil))) pe_int) (pe_call (ok_l_mixed T) hr rfl T.m_l_mixed T.F_l_mixed.kp T.b_l_mixed .nil pass0 (pa_cons (pv 0) (pa_cons (pe_op op_add (pv 1) pe_int) pa_nil)))))
      (pss_one (ps_ret (pe_op op_add (pe_op op_mul (pv 3) pe_int) (pe_call (ok_l_mixed T) hr rfl T.m_l_mixed T.F_l_mixed.kp T.b_l_mixed .nil pass0 (pa_cons (pv 0) (pa_cons (pe_op op_add (pv 1) pe_int) pa_nil))))))))), ?_⟩
    rw [Nn.st_l_draw]; try rw [Nn.cxK]
    try rw [Nn.cxW]
    walk_at "wx"
    have h60 : (0 : Int) < 10 ^ (60 : Int).toNat := by decide
    have hx : c % 10 ^ (60 : Int).toNat = (((c % 10 ^ (60 : Int).toNat).toNat : Nat) : Int) := (Int.toNat_of_nonneg (Int.emod_nonneg c (Int.ne_of_gt h60))).symm
    unfold drawN at q
    rw [hx]
    generalize (c % 10 ^ (60 : Int).toNat).toNat = x at q ⊢
    cases b with
    | true =>
      rw [if_pos rfl] at q
      walk_at "wx"
      exact q
    | false =>
      rw [if_neg Bool.false_ne_true] at q
      have h1 := mixN_lt (c := (x : Int)) (k := k)
      have h2 := mixN_lt (c := (x : Int)) (k := k + 64)
      have h3 := mixN_lt (c := (x : Int)) (k := k + 128)
      walk_at "wx"
      refine wc_l_mixed (k := k + 64) (by omega) (by omega) ?_
      walk_at "wx"
      refine wc_l_mixed (k := k + 128) (by omega) (by omega) ?_
      generalize mixN (x : Int) k = r1 at q h1 ⊢
      generalize mixN (x : Int) (k + 64) = r2 at q h2 ⊢
      generalize mixN (x : Int) (k + 128) = r3 at q h3 ⊢
      walk_at "wx"
      have e : ((r1 : Int) * 2147483629 + r2) * 2147483629 + r3 = (((r1 * 2147483629 + r2) * 2147483629 + r3 : Nat) : Int) := by simp
      rw [e]
      exact q
def sp_l_sizes (_ : Tx K mg base) : Sp := fun vs H Q E => ∃ (p_s : Addr) (s : List Int), vs = [.ref p_s] ∧ (SqL K H p_s (s.map V.int)) ∧ (∀ p H' (wd room : Nat) (b : Bool), H p = none → Ex H H' → H' p = some (.tup [nV wd, nV room, .bl b]) → 3 ≤ wd → wd ≤ 60 → 1 ≤ room → room ≤ 8 → Q (.ref p) H')
theorem wc_l_sizes {T : Tx K mg base} {p_s : Addr} {s : List Int}   (c0 : SqL K H p_s (s.map V.int)) (h : ∀ p H' (wd room : Nat) (b : Bool), H p = none → Ex H H' → H' p = some (.tup [nV wd, nV room, .bl b]) → 3 ≤ wd → wd ≤ 60 → 1 ≤ room → room ≤ 8 → Q (.ref p) H') : sp_l_sizes T [.ref p_s] H Q E := by
  exact ⟨p_s, s, rfl, c0, h⟩
theorem ok_l_sizes (T : Tx K mg base) : FnOk P w K mg base CX0 2 T.a_l_sizes T.d_l_sizes ["_law_script"] (sp_l_sizes T) := by
  refine T.F_l_sizes.okD sc_l_sizes (fun vs H Q E h => ?_) (fun cdv A outer s H vs Q E hr h => ?_)
  · obtain ⟨p_s, s, rfl, hS0, q⟩ := h; rfl
  · obtain ⟨p_s, s, rfl, hS0, q⟩ := h
    have hu := hu_of hr
    have c_Bucket := T.c_Bucket; have n_Bucket_room := T.n_Bucket_room; have n_Bucket_line := T.n_Bucket_line; have c_Table := T.c_Table; have n_Table_own := T.n_Table_own; have n_Table_wide := T.n_Table_wide; have n_Table_room := T.n_Table_room; have n_Table_buckets := T.n_Table_buckets; have c_Town := T.c_Town; have n_Town_wide := T.n_Town_wide; have n_Town_room := T.n_Town_room; have n_Town_tables := T.n_Town_tables; have n_Town_hushed := T.n_Town_hushed
    refine ⟨_, (pss_cons (ps_set (i := 1) sc_l_sizes.nd rfl (Or.inl rfl) (pe_call (ok_l_mixed T) hr rfl T.m_l_mixed T.F_l_mixed.kp T.b_l_mixed .nil pass0 (pa_cons (pe_call (ok_l_cell_at T) hr rfl T.m_l_cell_at T.F_l_cell_at.kp T.b_l_cell_at .nil pass0 (pa_cons (pv 0) (pa_cons pe_int pa_nil))) (pa_cons pe_int pa_nil))))
      (pss_one (ps_ret (pe_tup (pa_cons (pe_ix ix_list (pe_lst (pa_cons pe_int (pa_cons pe_int (pa_cons pe_int (pa_cons pe_int (pa_cons pe_int (pa_cons pe_int pa_nil))))))) (pe_op op_mod (pv 1) pe_int) (fun _ _ => rfl)) (pa_cons (pe_ix ix_list (pe_lst (pa_cons pe_int (pa_cons pe_int (pa_cons pe_int (pa_cons pe_int (pa_cons pe_int pa_nil)))))) (pe_op op_mod (pe_op op_fdivW (pv 1) pe_int) pe_int) (fun _ _ => rfl)) (pa_cons (pe_cmpR op_eq (pe_op op_mod (pe_op op_fdivW (pv 1) pe_int) pe_int) pe_int (nomark _)) pa_nil))))))), ?_⟩
    rw [Nn.st_l_sizes]; try rw [Nn.cxK]
    try rw [Nn.cxW]
    walk_at "wx"
    refine wc_l_cell_at (k := 0) rfl hS0 fun z => ?_
    walk_at "wx"
    refine wc_l_mixed (k := 0) rfl (by omega) ?_
    generalize mixN z 0 = x
    walk_at "wx"
    refine ⟨len_ok rfl, fun p1 hp1 => ?_⟩
    have ex1 := Ex.new (o := .lst [V.int 3, V.int 4, V.int 5, V.int 6, V.int 8, V.int 60]) hp1
    have h1 := upd_same (H := H) (a := p1) (o := .lst [V.int 3, V.int 4, V.int 5, V.int 6, V.int 8, V.int 60])
    generalize upd H p1 (.lst [V.int 3, V.int 4, V.int 5, V.int 6, V.int 8, V.int 60]) = H1 at ex1 h1 ⊢
    walk_at "wx"
    obtain ⟨wd, w1, w2, hat1⟩ : ∃ wd : Nat, 3 ≤ wd ∧ wd ≤ 60 ∧ atI [V.int 3, V.int 4, V.int 5, V.int 6, V.int 8, V.int 60] ((x : Int) % 6) = some (nV wd) := by
      have hc : (x : Int) % 6 = 0 ∨ (x : Int) % 6 = 1 ∨ (x : Int) % 6 = 2 ∨ (x : Int) % 6 = 3 ∨ (x : Int) % 6 = 4 ∨ (x : Int) % 6 = 5 := by omega
      rcases hc with e | e | e | e | e | e <;> rw [e]
      · exact ⟨3, by decide, by decide, rfl⟩
      · exact ⟨4, by decide, by decide, rfl⟩
      · exact ⟨5, by decide, by decide, rfl⟩
      · exact ⟨6, by decide, by decide, rfl⟩
      · exact ⟨8, by decide, by decide, rfl⟩
      · exact ⟨60, by decide, by decide, rfl⟩
    refine x_ixL (SqL.of h1) hat1 ?_
    walk_at "wx"
    refine ⟨len_ok rfl, fun p2 hp2 => ?_⟩
    have ex2 := ex1.newT (o := .lst [V.int 1, V.int 2, V.int 2, V.int 3, V.int 8]) hp2
    have h2 := upd_same (H := H1) (a := p2) (o := .lst [V.int 1, V.int 2, V.int 2, V.int 3, V.int 8])
    generalize upd H1 p2 (.lst [V.int 1, V.int 2, V.int 2, V.int 3, V.int 8]) = H2 at ex2 h2 ⊢
    walk_at "wx"
    obtain ⟨room, r1, r2, hat2⟩ : ∃ room : Nat, 1 ≤ room ∧ room ≤ 8 ∧ atI [V.int 1, V.int 2, V.int 2, V.int 3, V.int 8] ((x : Int) / 6 % 5) = some (nV room) := by
      have hc : (x : Int) / 6 % 5 = 0 ∨ (x : Int) / 6 % 5 = 1 ∨ (x : Int) / 6 % 5 = 2 ∨ (x : Int) / 6 % 5 = 3 ∨ (x : Int) / 6 % 5 = 4 := by omega
      rcases hc with e | e | e | e | e <;> rw [e]
      · exact ⟨1, by decide, by decide, rfl⟩
      · exact ⟨2, by decide, by decide, rfl⟩
      · exact ⟨2, by decide, by decide, rfl⟩
      · exact ⟨3, by decide, by decide, rfl⟩
      · exact ⟨8, by decide, by decide, rfl⟩
    refine x_ixL (SqL.of h2) hat2 ?_
    walk_at "wx"
    refine ⟨len_ok rfl, fun p3 hp3 => ?_⟩
    exact q p3 _ wd room _ (ex2.back p3 hp3) (ex2.newT hp3) upd_same w1 w2 r1 r2
def sp_l_name (_ : Tx K mg base) : Sp := fun vs H Q E => ∃ (x : Nat) (wd : Nat) (b : Nat), vs = [.int x, .int wd, .int b] ∧ (wd ≤ 60) ∧ (Q (.int ((nameN x wd b : Nat) : Int)) H)
theorem wc_l_name {T : Tx K mg base} {x : Nat} {wd : Nat} {b : Nat} {i0 : Int} {i1 : Int} {i2 : Int} (e0 : i0 = x) (e1 : i1 = wd) (e2 : i2 = b) (c0 : wd ≤ 60) (h : Q (.int ((nameN x wd b : Nat) : Int)) H) : sp_l_name T [.int i0, .int i1, .int i2] H Q E := by
  subst e0 e1 e2
  exact ⟨x, wd, b, rfl, c0, h⟩
theorem ok_l_name (T : Tx K mg base) : FnOk P w K mg base CX0 1 T.a_l_name T.d_l_name ["_law_x", "_law_wide", "_law_base"] (sp_l_name T) := by
  refine T.F_l_name.okD sc_l_name (fun vs H Q E h => ?_) (fun cdv A outer s H vs Q E hr h => ?_)
  · obtain ⟨x, wd, b, rfl, hpre, q⟩ := h; rfl
  · obtain ⟨x, wd, b, rfl, hpre, q⟩ := h
    have hu := hu_of hr
    have c_Bucket := T.c_Bucket; have n_Bucket_room := T.n_Bucket_room; have n_Bucket_line := T.n_Bucket_line; have c_Table := T.c_Table; have n_Table_own := T.n_Table_own; have n_Table_wide := T.n_Table_wide; have n_Table_room := T.n_Table_room; have n_Table_buckets := T.n_Table_buckets; have c_Town := T.c_Town; have n_Town_wide := T.n_Town_wide; have n_Town_room := T.n_Town_room; have n_Town_tables := T.n_Town_tables; have n_Town_hushed := T.n_Town_hushed
    refine ⟨_, (pss_cons (ps_set (i := 3) sc_l_name.nd rfl (Or.inl rfl) (pe_op op_shl1 pe_int (pv 1)))
      (pss_cons (ps_if (pt_cmpR op_eq (pe_op op_mod (pe_op op_fdivW (pv 0) (pv 3)) pe_int) pe_int (nomark _))
      (pss_one (ps_ret (pe_op op_mod (pe_op op_xorN (pv 2) (pe_op op_mod (pv 0) pe_int)) (pv 3))))
      pss_nil)
      (pss_one (ps_ret (pe_op op_mod (pv 0) (pv 3)))))), ?_⟩
    rw [Nn.st_l_name]; try rw [Nn.cxK]
    try rw [Nn.cxW]
    walk_at "wx"
    have hp2 := Nat.two_pow_pos wd
    unfold nameN at q
    refine x_i (cdivw hpre) ?_
    have e1 : (x : Int) / ((2 ^ wd : Nat) : Int) = ((x / 2 ^ wd : Nat) : Int) := by simp
    rw [e1]
    walk_at "wx"
    refine x_ifD (fun h => ?_) fun h => ?_
    · rw [if_pos (by omega)] at q
      walk_at "wx"
      have e : (((b ^^^ x % Int.natAbs 16 : Nat) : Int)) % ((2 ^ wd : Nat) : Int) = (((b ^^^ x % 16) % 2 ^ wd : Nat) : Int) := by rw [Int.natCast_emod]; rfl
      rw [e]
      exact q
    · rw [if_neg (by omega)] at q
      walk_at "wx"
      have e : ((x : Int)) % ((2 ^ wd : Nat) : Int) = ((x % 2 ^ wd : Nat) : Int) := by rw [Int.natCast_emod]
      rw [e]
      exact q
end
end Nn
local macro_rules | `(tactic| walk_at "wc") => `(tactic| ((with_reducible refine' Nn.wc_l_draw ?hE0 ?hC0 (?_)); (case hE0 => walk_at "wnat"); (case hC0 => walk_at "wpre")))
/-! deeds drawn, of a town alone -/
namespace Nn
open PySem L2
/-- what may be done to a town -/
inductive TM.Deed (m : TM) : TM → Prop
  | same : Deed m m
  | come (n : Nat) (d : Option Nat) : n < 2 ^ m.wide → n ∉ m.houses → (∀ x, d = some x → m.aw x = true) → (d = none → m.live = []) → Deed m (m.comes n d)
  | alone (n : Nat) : n < 2 ^ m.wide → n ∉ m.houses → Deed m (m.comes n none)
  | ask (s g : Nat) : m.aw s = true → g < 2 ^ m.wide → Deed m (m.learn s g)
  | hush (h : Nat) : h ∈ m.houses → Deed m (m.hushed h)
  | go (h : Nat) : h ∈ m.houses → Deed m (m.cut h)
  | wake (h d : Nat) : h ∈ m.hush → m.aw d = true → Deed m ((m.woken h).visit h d)
/-- what comes by itself, while there are fewer than mo -/
inductive TM.Come (m : TM) (mo : Nat) : TM → Prop
  | same : Come m mo m
  | come (n : Nat) (d : Option Nat) : n < 2 ^ m.wide → n ∉ m.houses → (∀ x, d = some x → m.aw x = true) → (d = none → m.live = []) → m.houses.length < mo → Come m mo (m.comes n d)
theorem TM.Come.deed {m m' : TM} {mo : Nat} (c : m.Come mo m') : m.Deed m' := by
  cases c with
  | same => exact .same
  | come n d h1 h2 h3 h4 _ => exact .come n d h1 h2 h3 h4
theorem TM.Deed.ok {m m' : TM} {N : List Nat} (d : m.Deed m') (k : m.Ok N) (hN : N.length ≤ 61) : ∃ N', m'.Ok N' ∧ N'.length ≤ N.length + 1 ∧ m'.wide = m.wide ∧ m'.room = m.room ∧ ∀ x ∈ N, x ∈ N' := by
  cases d with
  | same => exact ⟨N, k, by omega, rfl, rfl, fun _ h => h⟩
  | come n d h1 h2 h3 h4 =>
    refine ⟨N ++ [n], (k.one' (by omega) h1).comes h2 (by simp), by rw [List.length_append, List.length_singleton]; exact Nat.le_refl _, TM.comes_wide, ?_, fun x hx => List.mem_append.mpr (.inl hx)⟩
    cases d with
    | none => rfl
    | some d => exact TM.fold_sizes.2.1
  | alone n h1 h2 => exact ⟨N ++ [n], (k.one' (by omega) h1).comes h2 (by simp), by rw [List.length_append, List.length_singleton]; exact Nat.le_refl _, TM.comes_wide, rfl, fun x hx => List.mem_append.mpr (.inl hx)⟩
  | ask s g h1 h2 => exact ⟨N, k.learn h1, by omega, TM.learn_sizes.1, TM.learn_sizes.2.1, fun _ h => h⟩
  | hush h h1 => exact ⟨N, k.hushed h1, by omega, by unfold TM.hushed; split <;> rfl, by unfold TM.hushed; split <;> rfl, fun _ h => h⟩
  | go h h1 => exact ⟨N, k.cut, by omega, rfl, rfl, fun _ h => h⟩
  | wake h d h1 h2 => exact ⟨N, k.woken.fold (k.hN _ (k.hh _ h1)) fun o ho => k.hN _ (TM.others_mem ho).1, by omega, TM.fold_sizes.1, TM.fold_sizes.2.1, fun _ h => h⟩
section
variable {P : Program} {w : World} {K : PySem.W.Frag} {mg : Str → Option Value} {base : Heap} {H H' : Hp} {Q : VK} {E : XK} {T : Tx K mg base} {A : TA} {F S : Addr → Prop} {m : TM}
/-- the town goes on, to one of Rel -/
def GoesK (T : Tx K mg base) (A : TA) (F : Addr → Prop) (Rel : TM → Prop) (H : Hp) (R : Hp → Prop) : Prop := ∀ H' A' F' m', Fr F H H' → A'.t = A.t → (∀ a, F' a → F a ∨ H a = none) → TownAt T H' A' F' m' → Rel m' → R H'
abbrev DeedK (T : Tx K mg base) (A : TA) (F : Addr → Prop) (m : TM) (H : Hp) (R : Hp → Prop) : Prop := GoesK T A F m.Deed H R
theorem GoesK.ex {Rel : TM → Prop} {H1 : Hp} {R : Hp → Prop} (q : GoesK T A F Rel H R) (e : Ex H H1) : GoesK T A F Rel H1 R := fun H' A' F' m' f eA hF t d => q H' A' F' m' (e.fr.trans f) eA (fun a z => (hF a z).imp id (e.back a)) t d
theorem GoesK.mono {Rel Rel' : TM → Prop} {R : Hp → Prop} (q : GoesK T A F Rel H R) (h : ∀ m', Rel' m' → Rel m') : GoesK T A F Rel' H R := fun H' A' F' m' f eA hF t d => q H' A' F' m' f eA hF t (h m' d)
/-- the one at a place, round and round -/
def pickN (l : List Nat) (x : Nat) : Nat := l.getD (x % l.length) 0
theorem pick_at {l : List Nat} {x : Nat} (hl : l ≠ []) : pickN l x ∈ l ∧ atI (l.map nV) ((x : Int) % ((l.length : Nat) : Int)) = some (nV (pickN l x)) := by
  have hpos : 0 < l.length := List.length_pos_iff.mpr hl
  have hlt : x % l.length < l.length := Nat.mod_lt _ hpos
  have e : pickN l x = l[x % l.length] := by unfold pickN; rw [List.getD_eq_getElem?_getD, List.getElem?_eq_getElem hlt]; rfl
  rw [e]
  exact ⟨List.getElem_mem hlt, by rw [← Int.natCast_emod]; exact atI_nV hlt⟩
theorem at_mod {l : List Nat} {x : Nat} (hl : l ≠ []) : ∃ h, h ∈ l ∧ atI (l.map nV) ((x : Int) % ((l.length : Nat) : Int)) = some (nV h) := ⟨_, pick_at hl⟩
/-- who comes by a number -/
noncomputable def comeF (m : TM) (x b mo : Nat) : TM :=
  if nameN x m.wide b ∉ m.houses ∧ m.houses.length < mo then m.comes (nameN x m.wide b) (if m.live = [] then none else some (pickN m.live (x / 2 / 2 ^ m.wide))) else m
abbrev silN (m : TM) : List Nat := (sortU m.houses).filter fun n => !decide (n ∈ m.live)
/-- the deed by a number -/
noncomputable def deedF (m : TM) (x b mo : Nat) : TM :=
  if m.live = [] ∨ x % 10 < 4 then
    if x % 10 = 3 ∧ x / 10 / 2 / 2 ^ m.wide % 3 = 0 ∧ nameN (x / 10) m.wide b ∉ m.houses ∧ m.houses.length < mo then m.comes (nameN (x / 10) m.wide b) none else comeF m (x / 10) b mo
  else if x % 10 < 6 then m.learn (pickN m.live (x / 10 / 2 / 2 ^ m.wide)) (nameN (x / 10) m.wide b)
  else if x % 10 = 6 then m.hushed (pickN m.live (x / 10 / 2 / 2 ^ m.wide))
  else if x % 10 = 7 then m.cut (pickN (sortU m.houses) (x / 10 / 2 / 2 ^ m.wide))
  else if x % 10 = 8 ∧ silN m ≠ [] then (m.woken (pickN (silN m) (x / 10 / 2 / 2 ^ m.wide))).visit (pickN (silN m) (x / 10 / 2 / 2 ^ m.wide)) (pickN m.live (x / 10 / 2 / 2 ^ m.wide / 8))
  else m
theorem silent_mem {h : Nat} (hh : h ∈ m.houses) (hl : h ∉ m.live) : h ∈ m.hush := by
  have q : ¬ m.aw h = true := fun z => hl (TM.mem_live.mpr z)
  unfold TM.aw at q
  simpa [hh] using q
def sp_l_come (T : Tx K mg base) : Sp := fun vs H Q _ => ∃ (A : TA) (F : Addr → Prop) (m : TM) (N : List Nat) (x b mo : Nat), vs = [.ref A.t, .int x, .int b, .int mo] ∧ TownAt T H A F m ∧ m.Ok N ∧ N.length ≤ 61 ∧ NdefX.TabsN (tabsL T) H ∧ GoesK T A F (fun m' => m' = comeF m x b mo) H (Q .non)
theorem wc_l_come {N : List Nat} {x b mo : Nat} {i j l : Int} (hi : i = x) (hj : j = b) (hl : l = mo) (t : TownAt T H A F m) (k : m.Ok N) (hN : N.length ≤ 61) (tb : NdefX.TabsN (tabsL T) H) (q : GoesK T A F (fun m' => m' = comeF m x b mo) H (Q .non)) : sp_l_come T [.ref A.t, .int i, .int j, .int l] H Q E := by
  subst hi hj hl; exact ⟨A, F, m, N, x, b, mo, rfl, t, k, hN, tb, q⟩
theorem ok_l_come (T : Tx K mg base) : FnOk P w K mg base CX0 8 T.a_l_come T.d_l_come ["_law_town", "_law_x", "_law_base", "_law_most"] (sp_l_come T) := by
  refine T.F_l_come.okD sc_l_come (fun vs H Q E h => ?_) (fun cdv A outer s H vs Q E hr h => ?_)
  · obtain ⟨A, F, m, N, x, b, mo, rfl, _⟩ := h; rfl
  · obtain ⟨A1, F, m, N, x, b, mo, rfl, t, k, hN, hT, q⟩ := h
    obtain ⟨dx, ob⟩ := t.tw.ob
    have hu := hu_of hr
    have hz := k.houses_len
    have hw1 := k.w1
    have hll := k.live_len
    have c_Bucket := T.c_Bucket; have n_Bucket_room := T.n_Bucket_room; have n_Bucket_line := T.n_Bucket_line; have c_Table := T.c_Table; have n_Table_own := T.n_Table_own; have n_Table_wide := T.n_Table_wide; have n_Table_room := T.n_Table_room; have n_Table_buckets := T.n_Table_buckets; have c_Town := T.c_Town; have n_Town_wide := T.n_Town_wide; have n_Town_room := T.n_Town_room; have n_Town_tables := T.n_Town_tables; have n_Town_hushed := T.n_Town_hushed
    refine ⟨_, (pss_cons (ps_set (i := 4) sc_l_come.nd rfl (Or.inl rfl) (pe_meth0 (pv 0) T.c_Town T.t_Town_answering (ok_Town_answering T) (hr.mono (by decide)) T.b_Town_answering .nil pass0))
      (pss_cons (ps_set (i := 5) sc_l_come.nd rfl (Or.inl rfl) (pe_call (ok_l_name T) (hr.mono (by decide)) rfl T.m_l_name T.F_l_name.kp T.b_l_name .nil pass0 (pa_cons (pv 1) (pa_cons (pe_fld (pv 0) rfl) (pa_cons (pv 2) pa_nil)))))
      (pss_cons (ps_set (i := 1) sc_l_come.nd rfl (Or.inl rfl) (pe_op op_fdivW (pe_op op_fdivW (pv 1) pe_int) (pe_op op_shl1 pe_int (pe_fld (pv 0) rfl))))
      (pss_one (ps_if (PW.pt (pw_and (pt_cmpR op_notIn_seq (pv 5) (pe_meth0 (pv 0) T.c_Town T.t_Town_houses (ok_Town_houses T) (hr.mono (by decide)) T.b_Town_houses .nil pass0) rfl) (pw_and1 (pt_cmpR op_lt (pe_callB cb_len (by rfl) T.z_len PySem.boot_len (pa_cons (pe_meth0 (pv 0) T.c_Town T.t_Town_houses (ok_Town_houses T) (hr.mono (by decide)) T.b_Town_houses .nil pass0) pa_nil)) (pv 3) (nomark _)))))
      (pss_one (ps_if (pt_cmpR (op_eqD hr.units) (pv 4) (pe_lst pa_nil) (nomark _))
      (pss_one (ps_expr (pe_meth (pv 0) T.c_Town T.t_Town_come (ok_Town_come T) hr T.b_Town_come_1 T.v_Town_come_1 pass0 (pa_cons (pv 5) pa_nil))))
      (pss_one (ps_expr (pe_meth (pv 0) T.c_Town T.t_Town_come (ok_Town_come T) hr T.b_Town_come .nil pass0 (pa_cons (pv 5) (pa_cons (pe_ix ix_list (pv 4) (pe_op op_mod (pv 1) (pe_callB cb_len (by rfl) T.z_len PySem.boot_len (pa_cons (pv 4) pa_nil))) (fun _ _ => rfl)) pa_nil)))))))
      pss_nil))))), ?_⟩
    rw [Nn.st_l_come]; try rw [Nn.cxK]
    try rw [Nn.cxW]
    walk_at "wx"
    refine wc_Town_answering t hz k.nd fun p1 H1 hp1 ex1 h1 => ?_
    replace t := t.ex' ex1
    replace q := q.ex ex1
    replace hT := Fr.tabs ex1 hT
    clear hp1 ex1 ob dx
    obtain ⟨dx, ob⟩ := t.tw.ob
    walk_at "wx"
    refine wc_l_name rfl rfl rfl k.w1 ?_
    have hn := nameN_lt (x := x) (wd := m.wide) (b := b)
    unfold comeF at q
    generalize nameN x m.wide b = n at q hn ⊢
    walk_at "wx"
    refine x_i (cdivw hw1) ?_
    have e1 : (x : Int) / 2 / ((2 ^ m.wide : Nat) : Int) = ((x / 2 / 2 ^ m.wide : Nat) : Int) := by simp
    rw [e1]
    generalize x / 2 / 2 ^ m.wide = y at q ⊢
    walk_at "wx"
    refine wc_Town_houses t hz k.nd fun p2 hp2 => ?_
    have ex2 := Ex.new (o := .lst ((sortU m.houses).map nV)) hp2
    have h12 := at_new (o := .lst ((sortU m.houses).map nV)) hp2 h1
    have h2 := upd_same (H := H1) (a := p2) (o := .lst ((sortU m.houses).map nV))
    generalize upd H1 p2 (.lst ((sortU m.houses).map nV)) = H2 at ex2 h12 h2 ⊢
    replace t := t.ex' ex2
    replace q := q.ex ex2
    replace hT := Fr.tabs ex2 hT
    clear hp2 ex2 ob dx h1
    obtain ⟨dx, ob⟩ := t.tw.ob
    walk_at "wx"
    refine x_iteN (fun hnin => ?_) fun hin => ?_
    · have hnin : n ∉ m.houses := fun z => hnin (mem_sortU.mpr z)
      walk_at "wx"
      refine wc_Town_houses t hz k.nd fun p3 hp3 => ?_
      have ex3 := Ex.new (o := .lst ((sortU m.houses).map nV)) hp3
      have h13 := at_new (o := .lst ((sortU m.houses).map nV)) hp3 h12
      have h3 := upd_same (H := H2) (a := p3) (o := .lst ((sortU m.houses).map nV))
      generalize upd H2 p3 (.lst ((sortU m.houses).map nV)) = H3 at ex3 h13 h3 ⊢
      replace t := t.ex' ex3
      replace q := q.ex ex3
      replace hT := Fr.tabs ex3 hT
      clear hp3 ex3 ob dx h12 h2
      obtain ⟨dx, ob⟩ := t.tw.ob
      walk_at "wx"
      refine x_ifD (fun hlen => ?_) fun hlen => ?_
      · have hlen : m.houses.length < mo := by have q2 : m.houses.length ≤ (sortU m.houses).length := nodup_len k.nd (fun _ z => mem_sortU.mpr z); rw [List.length_map] at hlen; omega
        walk_at "wx"
        refine ⟨len_ok rfl, fun p4 hp4 => ?_⟩
        have ex4 := Ex.new (o := .lst []) hp4
        have h14 := at_new (o := .lst []) hp4 h13
        have h44 := upd_same (H := H3) (a := p4) (o := .lst [])
        generalize upd H3 p4 (.lst []) = H4 at ex4 h14 h44 ⊢
        replace t := t.ex' ex4
        replace q := q.ex ex4
        replace hT := Fr.tabs ex4 hT
        clear hp4 ex4 ob dx h13 h3
        obtain ⟨dx, ob⟩ := t.tw.ob
        have ok1 := k.one' (n := n) (by omega) hn
        have hnN : n ∈ N ++ [n] := by simp
        have hlm : (m.live.map nV).length = m.live.length := List.length_map _
        refine x_eqLN (xs := m.live) (ys := []) (SqL.of h14) (SqL.of h44) ?_
        walk_at "wx"
        refine x_ifD (fun hl => ?_) fun hl => ?_
        · walk_at "wx"
          refine wc_Town_come (door := none) rfl rfl t ok1 hnN hnin (by simp) hT fun p5 H5 A5 F5 hp5 fr5 h5 nF5 eA hF5 ta5 => ?_
          walk_at "wx"
          exact q H5 A5 F5 _ fr5 eA hF5 ta5 (by rw [if_pos ⟨hnin, hlen⟩, if_pos hl])
        · have hpos : 0 < m.live.length := List.length_pos_iff.mpr hl
          walk_at "wx"
          rw [List.length_map]
          obtain ⟨hd, hat⟩ := pick_at (x := y) hl
          refine x_ixL (SqL.of h14) hat ?_
          walk_at "wx"
          refine wc_Town_come (door := some (pickN m.live y)) rfl rfl t ok1 hnN hnin (fun x e => by cases e; exact TM.mem_live.mp hd) hT fun p5 H5 A5 F5 hp5 fr5 h5 nF5 eA hF5 ta5 => ?_
          walk_at "wx"
          exact q H5 A5 F5 _ fr5 eA hF5 ta5 (by rw [if_pos ⟨hnin, hlen⟩, if_neg hl])
      · walk_at "wx"
        exact q _ _ _ _ Fr.refl rfl (fun _ z => .inl z) t (by rw [if_neg fun z => hlen (by rw [List.length_map]; have q2 : (sortU m.houses).length ≤ m.houses.length := nodup_len (rising_nodup (sortU_sorted _)) (fun _ z => mem_sortU.mp z); omega)])
    · walk_at "wx"
      exact q _ _ _ _ Fr.refl rfl (fun _ z => .inl z) t (by rw [if_neg fun z => z.1 (mem_sortU.mp hin)])
def sp_l_deed (T : Tx K mg base) : Sp := fun vs H Q _ => ∃ (A : TA) (F : Addr → Prop) (m : TM) (N : List Nat) (x b mo : Nat), vs = [.ref A.t, .int x, .int b, .int mo] ∧ TownAt T H A F m ∧ m.Ok N ∧ N.length ≤ 61 ∧ NdefX.TabsN (tabsL T) H ∧ GoesK T A F (fun m' => m' = deedF m x b mo) H (Q .non)
theorem wc_l_deed {N : List Nat} {x b mo : Nat} {i j l : Int} (hi : i = x) (hj : j = b) (hl : l = mo) (t : TownAt T H A F m) (k : m.Ok N) (hN : N.length ≤ 61) (tb : NdefX.TabsN (tabsL T) H) (q : GoesK T A F (fun m' => m' = deedF m x b mo) H (Q .non)) : sp_l_deed T [.ref A.t, .int i, .int j, .int l] H Q E := by
  subst hi hj hl; exact ⟨A, F, m, N, x, b, mo, rfl, t, k, hN, tb, q⟩
theorem ok_l_deed (T : Tx K mg base) : FnOk P w K mg base CX0 9 T.a_l_deed T.d_l_deed ["_law_town", "_law_x", "_law_base", "_law_most"] (sp_l_deed T) := by
  refine T.F_l_deed.okD sc_l_deed (fun vs H Q E h => ?_) (fun cdv A outer s H vs Q E hr h => ?_)
  · obtain ⟨A, F, m, N, x, b, mo, rfl, _⟩ := h; rfl
  · obtain ⟨A1, F, m, N, x, b, mo, rfl, t, k, hN, hT, q⟩ := h
    obtain ⟨dx, ob⟩ := t.tw.ob
    have hu := hu_of hr
    have hz := k.houses_len
    have hw1 := k.w1
    have hll := k.live_len
    have c_Bucket := T.c_Bucket; have n_Bucket_room := T.n_Bucket_room; have n_Bucket_line := T.n_Bucket_line; have c_Table := T.c_Table; have n_Table_own := T.n_Table_own; have n_Table_wide := T.n_Table_wide; have n_Table_room := T.n_Table_room; have n_Table_buckets := T.n_Table_buckets; have c_Town := T.c_Town; have n_Town_wide := T.n_Town_wide; have n_Town_room := T.n_Town_room; have n_Town_tables := T.n_Town_tables; have n_Town_hushed := T.n_Town_hushed
    refine ⟨_, (pss_cons (ps_set (i := 4) sc_l_deed.nd rfl (Or.inr rfl) (pe_meth0 (pv 0) T.c_Town T.t_Town_answering (ok_Town_answering T) (hr.mono (by decide)) T.b_Town_answering .nil pass0))
      (pss_cons (ps_set (i := 5) sc_l_deed.nd rfl (Or.inl rfl) (pe_meth0 (pv 0) T.c_Town T.t_Town_houses (ok_Town_houses T) (hr.mono (by decide)) T.b_Town_houses .nil pass0))
      (pss_cons (ps_set (i := 6) sc_l_deed.nd rfl (Or.inl rfl) (pe_op op_mod (pv 1) pe_int))
      (pss_cons (ps_set (i := 1) sc_l_deed.nd rfl (Or.inl rfl) (pe_op op_fdivW (pv 1) pe_int))
      (pss_cons (ps_set (i := 7) sc_l_deed.nd rfl (Or.inl rfl) (pe_op op_fdivW (pe_op op_fdivW (pv 1) pe_int) (pe_op op_shl1 pe_int (pe_fld (pv 0) rfl))))
      (pss_cons (ps_set (i := 8) sc_l_deed.nd rfl (Or.inl rfl) (pe_call (ok_l_name T) (hr.mono (by decide)) rfl T.m_l_name T.F_l_name.kp T.b_l_name .nil pass0 (pa_cons (pv 1) (pa_cons (pe_fld (pv 0) rfl) (pa_cons (pv 2) pa_nil)))))
      (pss_cons (ps_setLc (i := 9) (own := [("_law_house", 10)]) (g := (gName 10)) (by rfl) sc_l_deed.nd rfl rfl (sw_true rfl rfl rfl (by decide +kernel)) (pi_list (pv 5)) (blkOk_by (N := N_l_deed) (sc := defScope s_l_deed) (own := [("_law_house", 10)]) (by decide +kernel)) (fun _ _ _ _ _ => (pg_name (i := 10) sc_l_deed.nd rfl (Or.inl rfl))) (fun _ _ _ _ _ => pts_one ((pt_cmpR (op_notInK (K := K) rfl) (pv 10) (pv 4) rfl))) (fun _ _ _ _ _ => (pv 10)))
      (pss_one (ps_if (PW.pt (pw_or (pt_cmpR (op_eqD hr.units) (pv 4) (pe_lst pa_nil) (nomark _)) (pw_or1 (pt_cmpR op_lt (pv 6) pe_int (nomark _)))))
      (pss_one (ps_if (PW.pt (pw_and (pt_cmpR op_eq (pv 6) pe_int (nomark _)) (pw_and (pt_cmpR op_eq (pe_op op_mod (pv 7) pe_int) pe_int (nomark _)) (pw_and (pt_cmpR op_notIn_seq (pv 8) (pv 5) rfl) (pw_and1 (pt_cmpR op_lt (pe_callB cb_len (by rfl) T.z_len PySem.boot_len (pa_cons (pv 5) pa_nil)) (pv 3) (nomark _)))))))
      (pss_one (ps_expr (pe_meth (pv 0) T.c_Town T.t_Town_come (ok_Town_come T) (hr.mono (by decide)) T.b_Town_come_1 T.v_Town_come_1 pass0 (pa_cons (pv 8) pa_nil))))
      (pss_one (ps_expr (pe_call (ok_l_come T) hr rfl T.m_l_come T.F_l_come.kp T.b_l_come .nil pass0 (pa_cons (pv 0) (pa_cons (pv 1) (pa_cons (pv 2) (pa_cons (pv 3) pa_nil)))))))))
      (pss_one (ps_if (pt_cmpR op_lt (pv 6) pe_int (nomark _))
      (pss_one (ps_expr (pe_meth (pv 0) T.c_Town T.t_Town_ask (ok_Town_ask T) (hr.mono (by decide)) T.b_Town_ask .nil pass0 (pa_cons (pe_ix ix_list (pv 4) (pe_op op_mod (pv 7) (pe_callB cb_len (by rfl) T.z_len PySem.boot_len (pa_cons (pv 4) pa_nil))) (fun _ _ => rfl)) (pa_cons (pv 8) pa_nil)))))
      (pss_one (ps_if (pt_cmpR op_eq (pv 6) pe_int (nomark _))
      (pss_one (ps_expr (pe_meth (pv 0) T.c_Town T.t_Town_hush (ok_Town_hush T) (hr.mono (by decide)) T.b_Town_hush .nil pass0 (pa_cons (pe_ix ix_list (pv 4) (pe_op op_mod (pv 7) (pe_callB cb_len (by rfl) T.z_len PySem.boot_len (pa_cons (pv 4) pa_nil))) (fun _ _ => rfl)) pa_nil))))
      (pss_one (ps_if (pt_cmpR op_eq (pv 6) pe_int (nomark _))
      (pss_one (ps_expr (pe_meth (pv 0) T.c_Town T.t_Town_go (ok_Town_go T) (hr.mono (by decide)) T.b_Town_go .nil pass0 (pa_cons (pe_ix ix_list (pv 5) (pe_op op_mod (pv 7) (pe_callB cb_len (by rfl) T.z_len PySem.boot_len (pa_cons (pv 5) pa_nil))) (fun _ _ => rfl)) pa_nil))))
      (pss_one (ps_if (PW.pt (pw_and (pt_cmpR op_eq (pv 6) pe_int (nomark _)) (pw_and1 (pt_cmpR (op_neD hr.units) (pv 9) (pe_lst pa_nil) (nomark _)))))
      (pss_one (ps_expr (pe_meth (pv 0) T.c_Town T.t_Town_wake (ok_Town_wake T) (hr.mono (by decide)) T.b_Town_wake .nil pass0 (pa_cons (pe_ix ix_list (pv 9) (pe_op op_mod (pv 7) (pe_callB cb_len (by rfl) T.z_len PySem.boot_len (pa_cons (pv 9) pa_nil))) (fun _ _ => rfl)) (pa_cons (pe_ix ix_list (pv 4) (pe_op op_mod (pe_op op_fdivW (pv 7) pe_int) (pe_callB cb_len (by rfl) T.z_len PySem.boot_len (pa_cons (pv 4) pa_nil))) (fun _ _ => rfl)) pa_nil)))))
      (pss_one (ps_expr (pe_meth (pv 0) T.c_Town T.t_Town_way (ok_Town_way T) hr T.b_Town_way .nil pass0 (pa_cons (pe_ix ix_list (pv 4) (pe_op op_mod (pv 7) (pe_callB cb_len (by rfl) T.z_len PySem.boot_len (pa_cons (pv 4) pa_nil))) (fun _ _ => rfl)) (pa_cons (pv 8) pa_nil)))))))))))))))))))))), ?_⟩
    rw [Nn.st_l_deed]; try rw [Nn.cxK]
    try rw [Nn.cxW]
    walk_at "wx"
    refine wc_Town_answering t hz k.nd fun p1 H1 hp1 ex1 h1 => ?_
    replace t := t.ex' ex1
    replace q := q.ex ex1
    replace hT := Fr.tabs ex1 hT
    clear hp1 ex1 ob dx
    obtain ⟨dx, ob⟩ := t.tw.ob
    walk_at "wx"
    refine wc_Town_houses t hz k.nd fun p2 hp2 => ?_
    have ex2 := Ex.new (o := .lst ((sortU m.houses).map nV)) hp2
    have h12 := at_new (o := .lst ((sortU m.houses).map nV)) hp2 h1
    have h2 := upd_same (H := H1) (a := p2) (o := .lst ((sortU m.houses).map nV))
    generalize upd H1 p2 (.lst ((sortU m.houses).map nV)) = H2 at ex2 h12 h2 ⊢
    replace t := t.ex' ex2
    replace q := q.ex ex2
    replace hT := Fr.tabs ex2 hT
    clear hp2 ex2 ob dx h1
    obtain ⟨dx, ob⟩ := t.tw.ob
    walk_at "wx"
    refine x_i (cdivw hw1) ?_
    have e1 : (x : Int) / 10 / 2 / ((2 ^ m.wide : Nat) : Int) = ((x / 10 / 2 / 2 ^ m.wide : Nat) : Int) := by simp
    have e2 : (x : Int) / 10 = ((x / 10 : Nat) : Int) := by simp
    rw [e1, e2]
    unfold deedF at q
    generalize x / 10 / 2 / 2 ^ m.wide = y at q ⊢
    walk_at "wx"
    refine wc_l_name (x := x / 10) rfl rfl rfl k.w1 ?_
    have hn := nameN_lt (x := x / 10) (wd := m.wide) (b := b)
    generalize nameN (x / 10) m.wide b = n at q hn ⊢
    walk_at "wx"
    have lenB : (((((sortU m.houses).map nV).length : Nat) : Int) < (mo : Int)) ↔ m.houses.length < mo := by
      have q1 : (sortU m.houses).length ≤ m.houses.length := nodup_len (rising_nodup (sortU_sorted _)) (fun _ z => mem_sortU.mp z)
      have q2 : m.houses.length ≤ (sortU m.houses).length := nodup_len k.nd (fun _ z => mem_sortU.mpr z)
      rw [List.length_map]
      omega
    have hsl : (sortU m.houses).length < 64 := Nat.lt_of_le_of_lt (nodup_len (rising_nodup (sortU_sorted _)) fun _ z => mem_sortU.mp z) hz
    refine LcW.filt (emb := nV) (xs := sortU m.houses) (fun n => !decide (n ∈ m.live)) (SqL.of h2) (by rw [sizeLine_eq]; omega) (fun n' _ H3 ex3 R hR => ?_) (fun n' _ _ H3 ex3 Qe hQ => ?_) fun p3 H3 hp3 ex3 h3 => ?_
    · have h13 := ex3.at h12
      walk_at "wx"
      exact hR _ Ex.refl
    · walk_at "wx"
      exact hQ
    · have h13 := ex3.at h12
      have h23 := ex3.at h2
      replace t := t.ex' ex3
      replace q := q.ex ex3
      replace hT := Fr.tabs ex3 hT
      clear hp3 ex3 ob dx h12 h2
      obtain ⟨dx, ob⟩ := t.tw.ob
      walk_at "wx"
      refine ⟨len_ok rfl, fun p4 hp4 => ?_⟩
      have ex4 := Ex.new (o := .lst []) hp4
      have h14 := at_new (o := .lst []) hp4 h13
      have h24 := at_new (o := .lst []) hp4 h23
      have h34 := at_new (o := .lst []) hp4 h3
      have h44 := upd_same (H := H3) (a := p4) (o := .lst [])
      generalize upd H3 p4 (.lst []) = H4 at ex4 h14 h24 h34 h44 ⊢
      replace t := t.ex' ex4
      replace q := q.ex ex4
      replace hT := Fr.tabs ex4 hT
      clear hp4 ex4 ob dx h13 h23 h3
      obtain ⟨dx, ob⟩ := t.tw.ob
      have hlm : (m.live.map nV).length = m.live.length := List.length_map _
      refine x_eqLN (xs := m.live) (ys := []) (SqL.of h14) (SqL.of h44) ?_
      walk_at "wx"
      refine x_ite (fun hl => ?_) fun hl => ?_
      · walk_at "wx"
        refine x_ite (fun h3 => ?_) fun h3 => ?_
        · walk_at "wx"
          refine x_ite (fun h4 => ?_) fun h4 => ?_
          · walk_at "wx"
            refine x_iteN (fun hnin => ?_) fun hin => ?_
            · have hnin : n ∉ m.houses := fun z => hnin (mem_sortU.mpr z)
              walk_at "wx"
              refine x_ifD (fun hlen => ?_) fun hlen => ?_
              · walk_at "wx"
                refine wc_Town_come (door := none) rfl rfl t (k.one' (n := n) (by omega) hn) (by simp) hnin (by simp) hT fun p5 H5 A5 F5 hp5 fr5 h5 nF5 eA hF5 ta5 => ?_
                walk_at "wx"
                exact q H5 A5 F5 _ fr5 eA hF5 ta5 (by rw [if_pos (.inl hl), if_pos ⟨by omega, by omega, hnin, lenB.mp hlen⟩])
              · walk_at "wx"
                exact wc_l_come rfl rfl rfl t k hN hT (q.mono fun _ c => by rw [c, if_pos (.inl hl), if_neg fun z => lenB.mpr z.2.2.2 |> hlen])
            · walk_at "wx"
              exact wc_l_come rfl rfl rfl t k hN hT (q.mono fun _ c => by rw [c, if_pos (.inl hl), if_neg fun z => z.2.2.1 (mem_sortU.mp hin)])
          · walk_at "wx"
            exact wc_l_come rfl rfl rfl t k hN hT (q.mono fun _ c => by rw [c, if_pos (.inl hl), if_neg fun z => h4 (by have := z.2.1; omega)])
        · walk_at "wx"
          exact wc_l_come rfl rfl rfl t k hN hT (q.mono fun _ c => by rw [c, if_pos (.inl hl), if_neg fun z => h3 (by have := z.1; omega)])
      · have hpos : 0 < m.live.length := List.length_pos_iff.mpr hl
        have hsn : sortU m.houses ≠ [] := fun z => by
          obtain ⟨a, ha⟩ := List.exists_mem_of_ne_nil _ hl
          have := mem_sortU.mpr (TM.live_house ha)
          rw [z] at this; cases this
        have hsp : 0 < (sortU m.houses).length := List.length_pos_iff.mpr hsn
        have hsm : ((sortU m.houses).map nV).length = (sortU m.houses).length := List.length_map _
        walk_at "wx"
        refine x_ifD (fun hd4 => ?_) fun hd4 => ?_
        · walk_at "wx"
          refine x_ite (fun h3 => ?_) fun h3 => ?_
          · walk_at "wx"
            refine x_ite (fun h4 => ?_) fun h4 => ?_
            · walk_at "wx"
              refine x_iteN (fun hnin => ?_) fun hin => ?_
              · have hnin : n ∉ m.houses := fun z => hnin (mem_sortU.mpr z)
                walk_at "wx"
                refine x_ifD (fun hlen => ?_) fun hlen => ?_
                · walk_at "wx"
                  refine wc_Town_come (door := none) rfl rfl t (k.one' (n := n) (by omega) hn) (by simp) hnin (by simp) hT fun p5 H5 A5 F5 hp5 fr5 h5 nF5 eA hF5 ta5 => ?_
                  walk_at "wx"
                  exact q H5 A5 F5 _ fr5 eA hF5 ta5 (by rw [if_pos (.inr (by omega)), if_pos ⟨by omega, by omega, hnin, lenB.mp hlen⟩])
                · walk_at "wx"
                  exact wc_l_come rfl rfl rfl t k hN hT (q.mono fun _ c => by rw [c, if_pos (.inr (by omega)), if_neg fun z => lenB.mpr z.2.2.2 |> hlen])
              · walk_at "wx"
                exact wc_l_come rfl rfl rfl t k hN hT (q.mono fun _ c => by rw [c, if_pos (.inr (by omega)), if_neg fun z => z.2.2.1 (mem_sortU.mp hin)])
            · walk_at "wx"
              exact wc_l_come rfl rfl rfl t k hN hT (q.mono fun _ c => by rw [c, if_pos (.inr (by omega)), if_neg fun z => h4 (by have := z.2.1; omega)])
          · walk_at "wx"
            exact wc_l_come rfl rfl rfl t k hN hT (q.mono fun _ c => by rw [c, if_pos (.inr (by omega)), if_neg fun z => h3 (by have := z.1; omega)])
        · have cn0 : ¬ (m.live = [] ∨ x % 10 < 4) := fun z => z.elim hl fun z => by omega
          walk_at "wx"
          refine x_ifD (fun hd6 => ?_) fun hd6 => ?_
          · walk_at "wx"
            rw [List.length_map]
            obtain ⟨hd, hat⟩ := pick_at (x := y) hl
            have haw := TM.mem_live.mp hd
            refine x_ixL (SqL.of h14) hat ?_
            walk_at "wx"
            refine wc_Town_ask rfl rfl t k (by omega) haw hn hT fun p5 r5 fd5 es5 H5 fr5 hp5 h5 ra5 hfd hfd5 nes ta5 => ?_
            walk_at "wx"
            exact q H5 _ F _ fr5 rfl (fun _ z => .inl z) ta5 (by rw [if_neg cn0, if_pos (by omega)])
          · walk_at "wx"
            refine x_ifD (fun he6 => ?_) fun he6 => ?_
            · walk_at "wx"
              rw [List.length_map]
              obtain ⟨hd, hat⟩ := pick_at (x := y) hl
              have hm := TM.live_house hd
              refine x_ixL (SqL.of h14) hat ?_
              walk_at "wx"
              refine wc_Town_hush rfl t k.w1 (k.bd hm) hm (by have := nodup_len k.hnd k.hh; omega) fun H5 fr5 ta5 => ?_
              walk_at "wx"
              exact q H5 _ F _ fr5 rfl (fun _ z => .inl z) ta5 (by rw [if_neg cn0, if_neg (by omega), if_pos (by omega)])
            · walk_at "wx"
              refine x_ifD (fun he7 => ?_) fun he7 => ?_
              · walk_at "wx"
                rw [List.length_map]
                obtain ⟨hd, hat⟩ := pick_at (x := y) hsn
                have hm := mem_sortU.mp hd
                refine x_ixL (SqL.of h24) hat ?_
                walk_at "wx"
                refine wc_Town_go rfl t k.w1 (k.bd hm) hm fun H5 fr5 ta5 => ?_
                walk_at "wx"
                exact q H5 _ F _ fr5 rfl (fun _ z => .inl z) ta5 (by rw [if_neg cn0, if_neg (by omega), if_neg (by omega), if_pos (by omega)])
              · walk_at "wx"
                refine x_ite (fun he8 => ?_) fun he8 => ?_
                · walk_at "wx"
                  refine ⟨len_ok rfl, fun p5 hp5 => ?_⟩
                  have ex5 := Ex.new (o := .lst []) hp5
                  have h15 := at_new (o := .lst []) hp5 h14
                  have h35 := at_new (o := .lst []) hp5 h34
                  have h55 := upd_same (H := H4) (a := p5) (o := .lst [])
                  generalize upd H4 p5 (.lst []) = H5 at ex5 h15 h35 h55 ⊢
                  replace t := t.ex' ex5
                  replace q := q.ex ex5
                  replace hT := Fr.tabs ex5 hT
                  clear hp5 ex5 ob dx h14 h24 h34 h44
                  obtain ⟨dx, ob⟩ := t.tw.ob
                  refine x_neLN (ys := []) (SqL.of h35) (SqL.of h55) ?_
                  walk_at "wx"
                  refine x_ifN (fun hs => ?_) fun hs => ?_
                  · have hsq : 0 < ((sortU m.houses).filter fun n => !decide (n ∈ m.live)).length := List.length_pos_iff.mpr hs
                    have hsqm : (((sortU m.houses).filter fun n => !decide (n ∈ m.live)).map nV).length = ((sortU m.houses).filter fun n => !decide (n ∈ m.live)).length := List.length_map _
                    walk_at "wx"
                    rw [List.length_map]
                    obtain ⟨hsm2, hat⟩ := pick_at (x := y) hs
                    obtain ⟨hs1, hs2⟩ := List.mem_filter.mp hsm2
                    have hs2 : pickN ((sortU m.houses).filter fun n => !decide (n ∈ m.live)) y ∉ m.live := by simpa using hs2
                    have hsh := silent_mem (mem_sortU.mp hs1) hs2
                    refine x_ixL (SqL.of h35) hat ?_
                    walk_at "wx"
                    rw [List.length_map]
                    have e8 : (y : Int) / 8 = ((y / 8 : Nat) : Int) := by simp
                    rw [e8]
                    obtain ⟨hd, hat2⟩ := pick_at (x := y / 8) hl
                    refine x_ixL (SqL.of h15) hat2 ?_
                    walk_at "wx"
                    refine wc_Town_wake rfl rfl t k hsh (TM.mem_live.mp hd) hT fun p6 H6 hp6 fr6 h66 ta6 => ?_
                    walk_at "wx"
                    exact q H6 _ F _ fr6 rfl (fun _ z => .inl z) ta6 (by rw [if_neg cn0, if_neg (by omega), if_neg (by omega), if_neg (by omega), if_pos ⟨by omega, hs⟩])
                  · walk_at "wx"
                    rw [List.length_map]
                    obtain ⟨d, hd, hat⟩ := at_mod (x := y) hl
                    refine x_ixL (SqL.of h15) hat ?_
                    walk_at "wx"
                    refine wc_Town_way rfl rfl t k (by omega) (TM.mem_live.mp hd) hn hT fun p5 H5 hp5 ex5 h5 => ?_
                    walk_at "wx"
                    exact q H5 _ F m ex5.fr rfl (fun _ z => .inl z) (t.ex' ex5) (by rw [if_neg cn0, if_neg (by omega), if_neg (by omega), if_neg (by omega), if_neg fun z => z.2 hs])
                · walk_at "wx"
                  rw [List.length_map]
                  obtain ⟨d, hd, hat⟩ := at_mod (x := y) hl
                  refine x_ixL (SqL.of h14) hat ?_
                  walk_at "wx"
                  refine wc_Town_way rfl rfl t k (by omega) (TM.mem_live.mp hd) hn hT fun p5 H5 hp5 ex5 h5 => ?_
                  walk_at "wx"
                  exact q H5 _ F m ex5.fr rfl (fun _ z => .inl z) (t.ex' ex5) (by rw [if_neg cn0, if_neg (by omega), if_neg (by omega), if_neg (by omega), if_neg fun z => he8 (by have := z.1; omega)])
end
end Nn
/-! what the laws say of faults -/
namespace Nn
open PySem L2
section
variable {P : Program} {w : World} {K : PySem.W.Frag} {mg : Str → Option Value} {base : Heap} {H H' : Hp} {Q : VK} {E : XK} {T : Tx K mg base} {A : TA} {F : Addr → Prop} {m : TM}
theorem ofSpan_mem {live : List Nat} {h j x : Nat} : x ∈ ofSpanN live h j ↔ x ∈ live ∧ (x ≠ h ∧ stepN h x = j) := by
  unfold ofSpanN
  rw [List.mem_filter, decide_eq_true_eq, span_step]
  constructor
  · rintro ⟨a, b, c⟩; exact ⟨a, fun z => b z.symm, c⟩
  · rintro ⟨a, b, c⟩; exact ⟨a, fun z => b z.symm, c⟩
theorem fault_by {N : List Nat} (k : m.Ok N) {h j : Nat} (hm : h ∈ m.houses) (hal : ∀ x ∈ m.row h j, x ∈ m.live) :
    ((ofSpanN m.live h j).filter fun n => !decide (n ∈ m.row h j)) ≠ [] ↔ (m.row h j).length < (ofSpanN m.live h j).length := by
  obtain ⟨r1, r2, r3⟩ := k.row (j := j) hm
  have sub : ∀ x ∈ m.row h j, x ∈ ofSpanN m.live h j := fun x hx => ofSpan_mem.mpr ⟨hal x hx, (r3 x hx).1, (r3 x hx).2.1⟩
  have nd : (ofSpanN m.live h j).Nodup := TM.live_nodup.filter _
  constructor
  · intro ne
    obtain ⟨x, hx⟩ := List.exists_mem_of_ne_nil _ ne
    obtain ⟨h1, h2⟩ := List.mem_filter.mp hx
    have h2 : x ∉ m.row h j := by simpa using h2
    have q := nodup_len (a := x :: m.row h j) (b := ofSpanN m.live h j) (List.nodup_cons.mpr ⟨h2, r1⟩) fun y hy => by
      rcases List.mem_cons.mp hy with z | z
      · rw [z]; exact h1
      · exact sub y z
    rw [List.length_cons] at q; exact q
  · intro lt e
    have q := nodup_len nd (b := m.row h j) fun y hy => by
      by_cases z : y ∈ m.row h j
      · exact z
      · have : y ∈ (ofSpanN m.live h j).filter fun n => !decide (n ∈ m.row h j) := List.mem_filter.mpr ⟨hy, by simp [z]⟩
        rw [e] at this; cases this
    omega
theorem faultB_bad {names live : List Nat} {room h k : Nat} (hb : (names.filter fun n => !decide (n ∈ live)) ≠ []) : faultB names live room h k = true := by
  obtain ⟨x, hx⟩ := List.exists_mem_of_ne_nil _ hb
  obtain ⟨h1, h2⟩ := List.mem_filter.mp hx
  have h2 : x ∉ live := by simpa using h2
  unfold faultB
  have e : (names.all fun n => decide (n ∈ live)) = false := by
    rw [Bool.eq_false_iff]
    intro z
    exact h2 (of_decide_eq_true (List.all_eq_true.mp z x h1))
  rw [e]; rfl
theorem all_of_nil {names live : List Nat} (hb : (names.filter fun n => !decide (n ∈ live)) = []) : ∀ x ∈ names, x ∈ live := fun x hx => by
  by_cases z : x ∈ live
  · exact z
  · have : x ∈ names.filter fun n => !decide (n ∈ live) := List.mem_filter.mpr ⟨hx, by simp [z]⟩
    rw [hb] at this; cases this
theorem faultB_ok {names live : List Nat} {room h k : Nat} (hb : ∀ x ∈ names, x ∈ live) : faultB names live room h k = (decide (names.length < room) && decide (names.length < (ofSpanN live h k).length)) := by
  unfold faultB
  have e : (names.all fun n => decide (n ∈ live)) = true := List.all_eq_true.mpr fun x hx => decide_eq_true (hb x hx)
  rw [e]; rfl
def sp_l_fault (T : Tx K mg base) : Sp := fun vs H Q _ => ∃ (A : TA) (F : Addr → Prop) (m : TM) (N : List Nat), vs = [.ref A.t] ∧ TownAt T H A F m ∧ m.Ok N ∧ ∀ v H', Ex H H' → PairV H' v m.faultN → Q v H'
theorem wc_l_fault {N : List Nat} (t : TownAt T H A F m) (k : m.Ok N) (q : ∀ v H', Ex H H' → PairV H' v m.faultN → Q v H') : sp_l_fault T [.ref A.t] H Q E := ⟨A, F, m, N, rfl, t, k, q⟩
theorem ok_l_fault (T : Tx K mg base) : FnOk P w K mg base CX0 4 T.a_l_fault T.d_l_fault ["_law_town"] (sp_l_fault T) := by
  refine T.F_l_fault.okD sc_l_fault (fun vs H Q E h => ?_) (fun cdv A outer s H vs Q E hr h => ?_)
  · obtain ⟨A, F, m, N, rfl, _⟩ := h; rfl
  · obtain ⟨A1, F, m, N, rfl, t, k, q⟩ := h
    obtain ⟨dx, ob⟩ := t.tw.ob
    have hu := hu_of hr
    have hz := k.houses_len
    have hll := k.live_len
    have hr1 := k.r1
    have c_Bucket := T.c_Bucket; have n_Bucket_room := T.n_Bucket_room; have n_Bucket_line := T.n_Bucket_line; have c_Table := T.c_Table; have n_Table_own := T.n_Table_own; have n_Table_wide := T.n_Table_wide; have n_Table_room := T.n_Table_room; have n_Table_buckets := T.n_Table_buckets; have c_Town := T.c_Town; have n_Town_wide := T.n_Town_wide; have n_Town_room := T.n_Town_room; have n_Town_tables := T.n_Town_tables; have n_Town_hushed := T.n_Town_hushed
    refine ⟨_, (pss_cons (ps_set (i := 1) sc_l_fault.nd rfl (Or.inr rfl) (pe_meth0 (pv 0) T.c_Town T.t_Town_answering (ok_Town_answering T) (hr.mono (by decide)) T.b_Town_answering .nil pass0))
      (pss_cons (ps_for PassesOwn.never rfl (pi_list (pv 1)) (pg_name (i := 2) sc_l_fault.nd rfl (Or.inr rfl))
      (pss_one (ps_for PassesOwn.never rfl (pi_range1 rfl T.z_range (pa_cons (pe_fld (pv 0) rfl) pa_nil)) (pg_name (i := 3) sc_l_fault.nd rfl (Or.inr rfl))
      (pss_cons (ps_set (i := 4) sc_l_fault.nd rfl (Or.inr rfl) (pe_meth (pv 0) T.c_Town T.t_Town_bucket (ok_Town_bucket T) hr T.b_Town_bucket .nil pass0 (pa_cons (pv 2) (pa_cons (pv 3) pa_nil))))
      (pss_cons (ps_setLc (i := 5) (own := [("_law_name_here", 6)]) (g := (gName 6)) (by rfl) sc_l_fault.nd rfl rfl (sw_true rfl rfl rfl (by decide +kernel)) (pi_list (pv 1)) (blkOk_by (N := N_l_fault) (sc := defScope s_l_fault) (own := [("_law_name_here", 6)]) (by decide +kernel)) (fun _ _ _ _ _ => (pg_name (i := 6) sc_l_fault.nd rfl (Or.inl rfl))) (fun _ _ _ _ _ => pts_one ((pt_cmpR op_eq (pe_bits (pe_op op_xorN (pv 6) (pv 2))) (pe_op op_add (pv 3) pe_int) (nomark _)))) (fun _ _ _ _ _ => (pv 6)))
      (pss_cons (ps_if (pt_cmpR (op_neD hr.units) (pe_lc (own := [("_law_name_here", 6)]) (g := (gName 6)) (by rfl) sc_l_fault.nd (pi_list (pv 4)) (blkOk_by (N := N_l_fault) (sc := defScope s_l_fault) (own := [("_law_name_here", 6)]) (by decide +kernel)) (fun _ _ _ _ _ => (pg_name (i := 6) sc_l_fault.nd rfl (Or.inl rfl))) (fun _ _ _ _ _ => pts_one ((pt_cmpR (op_notInK (K := K) rfl) (pv 6) (pv 1) rfl))) (fun _ _ _ _ _ => (pv 6))) (pe_lst pa_nil) (nomark _))
      (pss_one (ps_ret (pe_tup (pa_cons (pv 2) (pa_cons (pv 3) pa_nil)))))
      pss_nil)
      (pss_one (ps_if (PW.pt (pw_and (pt_cmpR op_lt (pe_callB cb_len (by rfl) T.z_len PySem.boot_len (pa_cons (pv 4) pa_nil)) (pe_fld (pv 0) rfl) (nomark _)) (pw_and1 (pt_cmpR (op_neD hr.units) (pe_lc (own := [("_law_name_here", 6)]) (g := (gName 6)) (by rfl) sc_l_fault.nd (pi_list (pv 5)) (blkOk_by (N := N_l_fault) (sc := defScope s_l_fault) (own := [("_law_name_here", 6)]) (by decide +kernel)) (fun _ _ _ _ _ => (pg_name (i := 6) sc_l_fault.nd rfl (Or.inl rfl))) (fun _ _ _ _ _ => pts_one ((pt_cmpR (op_notInK (K := K) rfl) (pv 6) (pv 4) rfl))) (fun _ _ _ _ _ => (pv 6))) (pe_lst pa_nil) (nomark _)))))
      (pss_one (ps_ret (pe_tup (pa_cons (pv 2) (pa_cons (pv 3) pa_nil)))))
      pss_nil))))))))
      (pss_one (ps_ret pe_non)))), ?_⟩
    rw [Nn.st_l_fault]; try rw [Nn.cxK]
    try rw [Nn.cxW]
    walk_at "wx"
    refine wc_Town_answering t hz k.nd fun p1 H1 hp1 ex1 h1 => ?_
    walk_at "wx"
    refine ForW.by walk_list (fun i σ H' => ∃ (v2 v3 v4 v5 v6 : Option V), σ = [some (.ref A1.t), some (.ref p1), v2, v3, v4, v5, v6] ∧ Ex H1 H' ∧ ∀ h ∈ m.live.take i, ∀ j, j < m.wide → m.faulty (h, j) = false) ⟨_, _, _, _, _, rfl, Ex.refl, by simp⟩ (fun i σ H' _ ⟨_, _, _, _, _, _, e, _⟩ => SqL.of (e.at h1)) ?_ ?_
    · rintro i x σ _ H2 hi ⟨v2, v3, v4, v5, v6, rfl, ex2, hno⟩ ⟨rfl, hx⟩
      rw [List.length_map] at hi
      obtain rfl : x = nV m.live[i] := by
        rw [List.getElem?_map, List.getElem?_eq_getElem hi] at hx
        exact (Option.some.inj hx).symm
      have t2 := t.ex' (ex1.trans ex2)
      obtain ⟨dx2, ob2⟩ := t2.tw.ob
      have hwi := k.w1
      walk_at "wx"
      refine ForW.by walk_rgN (fun j σ H' => ∃ (v3 v4 v5 v6 : Option V), σ = [some (.ref A1.t), some (.ref p1), some (nV m.live[i]), v3, v4, v5, v6] ∧ Ex H1 H' ∧ ∀ j', j' < j → m.faulty (m.live[i], j') = false) ⟨_, _, _, _, rfl, ex2, fun _ h => absurd h (Nat.not_lt_zero _)⟩ (fun _ _ _ _ _ => trivial) ?_ ?_
      · rintro j _ σ _ H3 hj ⟨v3, v4, v5, v6, rfl, ex3, hnoj⟩ ⟨rfl, rfl⟩
        have hhm := TM.live_house (List.getElem_mem hi)
        have t3 := t.ex' (ex1.trans ex3)
        obtain ⟨dx3, ob3⟩ := t3.tw.ob
        obtain ⟨rw1, rw2, rw3⟩ := k.row (j := j) hhm
        walk_at "wx"
        refine wc_Town_bucket rfl rfl t3 k.w1 (k.bd hhm) hhm hj fun p4 hp4 => ?_
        have erow : (m.tab m.live[i]).getD j [] = m.row m.live[i] j := rfl
        rw [erow]
        have ex4 := ex3.newT (o := .lst ((m.row m.live[i] j).map nV)) hp4
        have h4 := upd_same (H := H3) (a := p4) (o := .lst ((m.row m.live[i] j).map nV))
        generalize upd H3 p4 (.lst ((m.row m.live[i] j).map nV)) = H4 at ex4 h4 ⊢
        have h14 := ex4.at h1
        walk_at "wx"
        refine LcW.filt (emb := nV) (xs := m.live) (fun n => decide (lowN m.live[i] j ≤ n ∧ n ≤ lowN m.live[i] j + 2 ^ j - 1)) (SqL.of h14) (by rw [sizeLine_eq]; omega) (fun n _ H5 ex5 R hR => ?_) (fun n _ _ H5 ex5 Qe hQ => ?_) fun p5 H5 hp5 ex5 h5 => ?_
        · walk_at "wx"
          have e : decide (((if n ^^^ m.live[i] = 0 then 0 else (n ^^^ m.live[i]).log2 + 1 : Nat) : Int) = (j : Int) + 1) = decide (lowN m.live[i] j ≤ n ∧ n ≤ lowN m.live[i] j + 2 ^ j - 1) := decide_eq_decide.mpr ⟨fun z => bit_span.mp (by omega), fun z => by have := bit_span.mpr z; omega⟩
          rw [e]
          exact hR _ Ex.refl
        · walk_at "wx"
          exact hQ
        · have esp : (m.live.filter fun n => decide (lowN m.live[i] j ≤ n ∧ n ≤ lowN m.live[i] j + 2 ^ j - 1)) = ofSpanN m.live m.live[i] j := rfl
          rw [esp] at h5
          have h15 := ex5.at h14
          have h45 := ex5.at h4
          have ex05 := ex4.trans ex5
          have hol : (ofSpanN m.live m.live[i] j).length ≤ m.live.length := ofSpan_len
          walk_at "wx"
          refine LcW.filt (emb := nV) (xs := m.row m.live[i] j) (fun n => !decide (n ∈ m.live)) (SqL.of h45) (by rw [sizeLine_eq]; omega) (fun n _ H6 ex6 R hR => ?_) (fun n _ _ H6 ex6 Qe hQ => ?_) fun p6 H6 hp6 ex6 h6 => ?_
          · have h16 := ex6.at h15
            walk_at "wx"
            exact hR _ Ex.refl
          · walk_at "wx"
            exact hQ
          · have h16 := ex6.at h15
            have h46 := ex6.at h45
            have h56 := ex6.at h5
            have ex06 := ex05.trans ex6
            walk_at "wx"
            refine ⟨len_ok rfl, fun p7 hp7 => ?_⟩
            have ex07 := ex06.newT (o := .lst []) hp7
            have h17 := at_new (o := .lst []) hp7 h16
            have h47 := at_new (o := .lst []) hp7 h46
            have h57 := at_new (o := .lst []) hp7 h56
            have h67 := at_new (o := .lst []) hp7 h6
            have h77 := upd_same (H := H6) (a := p7) (o := .lst [])
            generalize upd H6 p7 (.lst []) = H7 at ex07 h17 h47 h57 h67 h77 ⊢
            have t7 := t.ex' (ex1.trans ex07)
            obtain ⟨dx7, ob7⟩ := t7.tw.ob
            have hit : m.faulty (m.live[i], j) = true → ∀ p, H7 p = none → Q (.ref p) (upd H7 p (.tup [nV m.live[i], nV j])) := fun hf p hp => by
              have e : m.faultN = some (m.live[i], j) := pairs_hit hi hj hno hnoj hf
              exact q (.ref p) _ (ex1.trans (ex07.newT hp)) (by rw [e]; exact ⟨p, rfl, upd_same⟩)
            refine x_neLN (ys := []) (SqL.of h67) (SqL.of h77) ?_
            walk_at "wx"
            refine x_ifN (fun hb => ?_) fun hb => ?_
            · walk_at "wx"
              exact ⟨len_ok rfl, hit (faultB_bad hb)⟩
            · have hal := all_of_nil hb
              have efa : m.faulty (m.live[i], j) = (decide ((m.row m.live[i] j).length < m.room) && decide ((m.row m.live[i] j).length < (ofSpanN m.live m.live[i] j).length)) := faultB_ok (room := m.room) (h := m.live[i]) (k := j) hal
              walk_at "wx"
              rw [List.length_map]
              refine x_ite (fun c1 => ?_) fun c1 => ?_
              · have e : decide ((m.row m.live[i] j).length < m.room) = true := decide_eq_true (by omega)
                rw [e, Bool.true_and] at efa
                walk_at "wx"
                refine LcW.filt (emb := nV) (xs := ofSpanN m.live m.live[i] j) (fun n => !decide (n ∈ m.row m.live[i] j)) (SqL.of h57) (by rw [sizeLine_eq]; omega) (fun n _ H8 ex8 R hR => ?_) (fun n _ _ H8 ex8 Qe hQ => ?_) fun p8 H8 hp8 ex8 h8 => ?_
                · have h48 := ex8.at h47
                  walk_at "wx"
                  exact hR _ Ex.refl
                · walk_at "wx"
                  exact hQ
                · have ex08 := ex07.trans ex8
                  have h18 := ex8.at h17
                  walk_at "wx"
                  refine ⟨len_ok rfl, fun p9 hp9 => ?_⟩
                  have ex09 := ex08.newT (o := .lst []) hp9
                  have h89 := at_new (o := .lst []) hp9 h8
                  have h99 := upd_same (H := H8) (a := p9) (o := .lst [])
                  generalize upd H8 p9 (.lst []) = H9 at ex09 h89 h99 ⊢
                  have fb := fault_by k hhm (j := j) hal
                  refine x_neLN (ys := []) (SqL.of h89) (SqL.of h99) ?_
                  walk_at "wx"
                  refine x_ifN (fun hb => ?_) fun hb => ?_
                  · rw [decide_eq_true (fb.mp hb)] at efa
                    walk_at "wx"
                    refine ⟨len_ok rfl, fun p10 hp10 => ?_⟩
                    have e : m.faultN = some (m.live[i], j) := pairs_hit hi hj hno hnoj efa
                    exact q (.ref p10) _ (ex1.trans (ex09.newT hp10)) (by rw [e]; exact ⟨p10, rfl, upd_same⟩)
                  · rw [decide_eq_false fun z => fb.mpr z hb] at efa
                    walk_at "wx"
                    exact ⟨_, _, _, _, rfl, ex09, fun j' hj' => by
                      by_cases e : j' = j
                      · rw [e]; exact efa
                      · exact hnoj j' (by omega)⟩
              · have e : decide ((m.row m.live[i] j).length < m.room) = false := decide_eq_false (by omega)
                rw [e] at efa
                walk_at "wx"
                exact ⟨_, _, _, _, rfl, ex07, fun j' hj' => by
                  by_cases e : j' = j
                  · rw [e]; exact efa
                  · exact hnoj j' (by omega)⟩
      · rintro σ H3 ⟨v3, v4, v5, v6, rfl, ex3, hnoj⟩
        walk_at "wx"
        refine ⟨_, _, _, _, _, rfl, ex3, fun h hh j hj => ?_⟩
        rw [List.take_add_one, List.getElem?_eq_getElem hi] at hh
        rcases List.mem_append.mp hh with z | z
        · exact hno h z j hj
        · have z : h = m.live[i] := by simpa using z
          rw [z]; exact hnoj j hj
    · rintro σ H2 ⟨v2, v3, v4, v5, v6, rfl, ex2, hno⟩
      rw [List.length_map, List.take_length] at hno
      walk_at "wx"
      have e : m.faultN = none := pairs_none hno
      exact q .non H2 (ex1.trans ex2) (by rw [e]; rfl)
end
end Nn
/-! look_round -/
namespace Nn
open PySem L2
namespace TM
variable {m : TM} {h x : Nat} {N : List Nat}
/-- a house drops what doesn't answer -/
def clean1 (h : Nat) (m : TM) (x : Nat) : TM := if m.aw x = true then m else m.drops h x
def clean (m : TM) (h : Nat) : TM := (m.keeps h).foldl (clean1 h) m
noncomputable def look (m : TM) (h : Nat) : TM := (m.others h h).foldl (meet h) (m.clean h)
theorem drops_houses : (m.drops h x).houses = m.houses := setTab_houses
theorem drops_aw : (m.drops h x).aw = m.aw := setTab_aw
theorem clean1_houses : (clean1 h m x).houses = m.houses := by
  unfold clean1
  split
  · rfl
  · exact drops_houses
theorem clean1_aw : (clean1 h m x).aw = m.aw := by
  unfold clean1
  split
  · rfl
  · exact drops_aw
theorem clean1_sizes : (clean1 h m x).wide = m.wide ∧ (clean1 h m x).room = m.room ∧ (clean1 h m x).hush = m.hush := by
  unfold clean1
  split <;> exact ⟨rfl, rfl, rfl⟩
theorem foldC_houses : ∀ {l : List Nat} {m : TM}, (l.foldl (clean1 h) m).houses = m.houses
  | [], _ => rfl
  | o :: r, m => by rw [List.foldl_cons, foldC_houses (l := r), clean1_houses]
theorem foldC_aw : ∀ {l : List Nat} {m : TM}, (l.foldl (clean1 h) m).aw = m.aw
  | [], _ => rfl
  | o :: r, m => by rw [List.foldl_cons, foldC_aw (l := r), clean1_aw]
theorem foldC_sizes : ∀ {l : List Nat} {m : TM}, (l.foldl (clean1 h) m).wide = m.wide ∧ (l.foldl (clean1 h) m).room = m.room ∧ (l.foldl (clean1 h) m).hush = m.hush
  | [], _ => ⟨rfl, rfl, rfl⟩
  | o :: r, m => by
    rw [List.foldl_cons]
    obtain ⟨a, b, c⟩ := foldC_sizes (l := r) (m := clean1 h m o)
    obtain ⟨d, e, f⟩ := clean1_sizes (h := h) (m := m) (x := o)
    exact ⟨a.trans d, b.trans e, c.trans f⟩
theorem Ok.foldC : ∀ {l : List Nat} {m : TM}, Ok N m → Ok N (l.foldl (clean1 h) m)
  | [], _, k => k
  | o :: r, m, k => by
    rw [List.foldl_cons]
    refine Ok.foldC (l := r) ?_
    unfold clean1
    split
    · exact k
    · exact k.drops
theorem clean_houses : (m.clean h).houses = m.houses := foldC_houses
theorem clean_aw : (m.clean h).aw = m.aw := foldC_aw
theorem clean_sizes : (m.clean h).wide = m.wide ∧ (m.clean h).room = m.room ∧ (m.clean h).hush = m.hush := foldC_sizes
theorem Ok.clean (k : Ok N m) : Ok N (m.clean h) := Ok.foldC k
theorem look_houses : (m.look h).houses = m.houses := fold_houses.trans clean_houses
theorem look_aw : (m.look h).aw = m.aw := fold_aw.trans clean_aw
theorem look_sizes : (m.look h).wide = m.wide ∧ (m.look h).room = m.room ∧ (m.look h).hush = m.hush := by
  obtain ⟨a, b, c⟩ := clean_sizes (m := m) (h := h)
  obtain ⟨d, e, f⟩ := fold_sizes (h := h) (l := m.others h h) (m := m.clean h)
  exact ⟨d.trans a, e.trans b, f.trans c⟩
theorem Ok.look (k : Ok N m) (hm : h ∈ m.houses) : Ok N (m.look h) := Ok.fold k.clean (k.hN _ hm) fun o ho => k.hN _ (others_mem ho).1
end TM
section
variable {P : Program} {w : World} {K : PySem.W.Frag} {mg : Str → Option Value} {base : Heap} {H H' : Hp} {Q : VK} {E : XK} {T : Tx K mg base} {A : TA} {F : Addr → Prop} {m : TM}
def sp_look_round (T : Tx K mg base) : Sp := fun vs H Q _ => ∃ (A : TA) (F : Addr → Prop) (m : TM) (N : List Nat) (h : Nat), vs = [.ref A.t, .int h] ∧ TownAt T H A F m ∧ m.Ok N ∧ m.aw h = true ∧ NdefX.TabsN (tabsL T) H ∧
  ∀ p H', H p = none → Fr F H H' → H' p = some (.lst ((m.others h h).map nV)) → TownAt T H' A F (m.look h) → Q (.ref p) H'
theorem wc_look_round {N : List Nat} {h : Nat} {i : Int} (hi : i = h) (t : TownAt T H A F m) (k : m.Ok N) (hd : m.aw h = true) (tb : NdefX.TabsN (tabsL T) H)
    (q : ∀ p H', H p = none → Fr F H H' → H' p = some (.lst ((m.others h h).map nV)) → TownAt T H' A F (m.look h) → Q (.ref p) H') : sp_look_round T [.ref A.t, .int i] H Q E := by
  subst hi; exact ⟨A, F, m, N, h, rfl, t, k, hd, tb, q⟩
theorem ok_look_round (T : Tx K mg base) : FnOk P w K mg base CX0 6 T.a_look_round T.d_look_round ["town", "house"] (sp_look_round T) := by
  refine T.F_look_round.okD sc_look_round (fun vs H Q E h => ?_) (fun cdv A outer s H vs Q E hr h => ?_)
  · obtain ⟨A, F, m, N, h0, rfl, _⟩ := h; rfl
  · obtain ⟨A1, F, m, N, h0, rfl, t, k, hdo, hT, q⟩ := h
    obtain ⟨dx, ob⟩ := t.tw.ob
    have hu := hu_of hr
    have hm := TM.aw_house hdo
    have hz := k.houses_len
    have hcl : (m.comeTo h0).length < 64 := Nat.lt_of_le_of_lt (nodup_len (rising_nodup TM.comeTo_sorted) fun x hx => (TM.mem_comeTo.mp hx).1) hz
    have hkl := k.keeps_len hm
    have c_Bucket := T.c_Bucket; have n_Bucket_room := T.n_Bucket_room; have n_Bucket_line := T.n_Bucket_line; have c_Table := T.c_Table; have n_Table_own := T.n_Table_own; have n_Table_wide := T.n_Table_wide; have n_Table_room := T.n_Table_room; have n_Table_buckets := T.n_Table_buckets; have c_Town := T.c_Town; have n_Town_wide := T.n_Town_wide; have n_Town_room := T.n_Town_room; have n_Town_tables := T.n_Town_tables; have n_Town_hushed := T.n_Town_hushed
    refine ⟨_, (pss_cons (ps_setLc (i := 2) (own := [("name", 3)]) (g := (gName 3)) (by rfl) sc_look_round.nd rfl rfl (sw_true rfl rfl rfl (by decide +kernel)) (pi_list (pe_meth (pv 0) T.c_Town T.t_Town_come_to (ok_Town_come_to T) (hr.mono (by decide)) T.b_Town_come_to .nil pass0 (pa_cons (pv 1) pa_nil))) (blkOk_by (N := N_look_round) (sc := defScope s_look_round) (own := [("name", 3)]) (by decide +kernel)) (fun _ _ _ _ _ => (pg_name (i := 3) sc_look_round.nd rfl (Or.inl rfl))) (fun _ _ _ _ _ => pts_one ((pt_cmpR op_ne (pv 3) (pv 1) (nomark _)))) (fun _ _ _ _ _ => (pv 3)))
      (pss_cons (ps_for PassesOwn.never rfl (pi_list (pe_meth (pv 0) T.c_Town T.t_Town_keeps (ok_Town_keeps T) (hr.mono (by decide)) T.b_Town_keeps .nil pass0 (pa_cons (pv 1) pa_nil))) (pg_name (i := 3) sc_look_round.nd rfl (Or.inl rfl))
      (pss_one (ps_if (pt_not (pt_val (pe_meth (pv 0) T.c_Town T.t_Town_answers (ok_Town_answers T) (hr.mono (by decide)) T.b_Town_answers .nil pass0 (pa_cons (pv 3) pa_nil))))
      (pss_one (ps_expr (pe_meth (pe_meth (pv 0) T.c_Town T.t_Town_table (ok_Town_table T) (hr.mono (by decide)) T.b_Town_table .nil pass0 (pa_cons (pv 1) pa_nil)) T.c_Table T.t_Table_drops (ok_Table_drops T) (hr.mono (by decide)) T.b_Table_drops .nil pass0 (pa_cons (pv 3) pa_nil))))
      pss_nil)))
      (pss_cons (ps_for PassesOwn.never rfl (pi_list (pv 2)) (pg_name (i := 3) sc_look_round.nd rfl (Or.inl rfl))
      (pss_cons (ps_expr (pe_meth (pv 0) T.c_Town T.t_Town_hears (ok_Town_hears T) hr T.b_Town_hears .nil pass0 (pa_cons (pv 1) (pa_cons (pv 3) pa_nil))))
      (pss_one (ps_expr (pe_meth (pv 0) T.c_Town T.t_Town_hears (ok_Town_hears T) hr T.b_Town_hears .nil pass0 (pa_cons (pv 3) (pa_cons (pv 1) pa_nil)))))))
      (pss_one (ps_ret (pv 2)))))), ?_⟩
    rw [Nn.st_look_round]; try rw [Nn.cxK]
    try rw [Nn.cxW]
    walk_at "wx"
    refine wc_Town_come_to rfl t k hdo fun p1 H1 hp1 ex1 h1 => ?_
    walk_at "wx"
    refine LcW.filt (emb := nV) (xs := m.comeTo h0) (fun x => !decide (x = h0)) (SqL.of h1) (by rw [sizeLine_eq]; omega) (fun x _ H2 ex2 R hR => ?_) (fun x _ _ H2 ex2 Qe hQ => ?_) fun p2 H2 hp2 ex2 h2 => ?_
    · walk_at "wx"
      have e : decide ((x : Int) = (h0 : Int)) = decide (x = h0) := decide_eq_decide.mpr ⟨fun z => Int.ofNat.inj z, fun z => by rw [z]⟩
      rw [e]
      exact hR _ Ex.refl
    · walk_at "wx"
      exact hQ
    have h2 : H2 p2 = some (.lst ((m.others h0 h0).map nV)) := h2
    have ex02 := ex1.trans ex2
    have t2 := t.ex' ex02
    have hp20 : H p2 = none := ex1.back p2 hp2
    have nF : ¬ F p2 := fun z => t.ex p2 z hp20
    walk_at "wx"
    refine wc_Town_keeps rfl t2 k.w1 (k.bd hm) hm (k.tabOk hm).nodup (by omega) fun p3 H3 hp3 ex3 h3 => ?_
    have hkl2 : (m.keeps h0).length < 64 := Nat.lt_of_le_of_lt (nodup_len (rising_nodup (sortU_sorted _)) fun x hx => TM.mem_keeps.mp hx) hkl
    have t3 := t2.ex' ex3
    have h23 := ex3.at h2
    have ex03 := ex02.trans ex3
    have hp30 : H p3 = none := ex02.back p3 hp3
    have nF3 : ¬ F p3 := fun z => t.ex p3 z hp30
    clear h1 h2 t2 ex2 ex1 hp2 hp3 ex3
    walk_at "wx"
    refine ForW.by walk_list (fun i σ H' => ∃ (v : Option V), σ = [some (.ref A1.t), some (.int h0), some (.ref p2), v] ∧ Fr F H H' ∧ H' p2 = some (.lst ((m.others h0 h0).map nV)) ∧ H' p3 = some (.lst ((m.keeps h0).map nV)) ∧ TownAt T H' A1 F (((m.keeps h0).take i).foldl (TM.clean1 h0) m))
      ⟨_, rfl, ex03.fr, h23, h3, t3⟩ (fun i σ H' _ ⟨_, _, _, _, e, _⟩ => SqL.of e) ?_ ?_
    · rintro i x σ _ H4 hi ⟨v, rfl, fr4, h24, h34, t4⟩ ⟨rfl, hx⟩
      rw [List.length_map] at hi
      obtain rfl : x = nV (m.keeps h0)[i] := by
        rw [List.getElem?_map, List.getElem?_eq_getElem hi] at hx
        exact (Option.some.inj hx).symm
      have et : (m.keeps h0).take (i + 1) = (m.keeps h0).take i ++ [(m.keeps h0)[i]] := by rw [List.take_add_one, List.getElem?_eq_getElem hi]; rfl
      have hxN := (k.tabOk hm).mem (TM.mem_keeps.mp (List.getElem_mem hi))
      rw [et, List.foldl_append]
      generalize (m.keeps h0)[i] = o at hxN
      have k4 : (((m.keeps h0).take i).foldl (TM.clean1 h0) m).Ok N := TM.Ok.foldC k
      have hh4 : (((m.keeps h0).take i).foldl (TM.clean1 h0) m).houses = m.houses := TM.foldC_houses
      have ha4 : (((m.keeps h0).take i).foldl (TM.clean1 h0) m).aw = m.aw := TM.foldC_aw
      generalize ((m.keeps h0).take i).foldl (TM.clean1 h0) m = m4 at t4 k4 hh4 ha4
      have e1 : [o].foldl (TM.clean1 h0) m4 = TM.clean1 h0 m4 o := rfl
      rw [e1]
      unfold TM.clean1
      obtain ⟨dx4, ob4⟩ := t4.tw.ob
      have hm4 : h0 ∈ m4.houses := by rw [hh4]; exact hm
      walk_at "wx"
      refine TwAt.ans rfl t4 ?_
      cases e : m4.aw o with
      | true =>
        walk_at "wx"
        rw [if_pos rfl]
        exact ⟨_, rfl, fr4, h24, h34, t4⟩
      | false =>
        rw [if_neg Bool.false_ne_true]
        obtain ⟨ta4, L4⟩ := t4.tab h0 hm4
        obtain ⟨dxt, bl, bs, hobt, _⟩ := ta4.ob
        walk_at "wx"
        refine wc_Town_table rfl t4 k4.w1 (k4.bd hm4) hm4 ?_
        walk_at "wx"
        refine wc_Table_drops ta4 L4 (k4.nb _ (k4.hN _ hm4)) (k4.nb _ hxN) fun H5 fr5 L5 => ?_
        have own := (t4.own h0 hm4).2.2
        exact ⟨_, rfl, fr4.trans (fr5.mono fun a z => own a z), fr5.at h24 fun z => nF (own _ z), fr5.at h34 fun z => nF3 (own _ z), t4.line fr5 (fun a z => z) hm4 L5⟩
    · rintro σ H4 ⟨v, rfl, fr4, h24, h34, t4⟩
      rw [List.length_map, List.take_length] at t4
      have t4 : TownAt T H4 A1 F (m.clean h0) := t4
      have kc := k.clean (h := h0)
      have ok : ∀ (l : List Nat), (∀ o ∈ l, o ∈ m.others h0 h0) → (l.foldl (TM.meet h0) (m.clean h0)).Ok N := fun l hl => kc.fold (k.hN _ hm) fun o ho => k.hN _ (TM.others_mem (hl o ho)).1
      walk_at "wx"
      refine ForW.by walk_list (fun i σ H' => ∃ (v : Option V), σ = [some (.ref A1.t), some (.int h0), some (.ref p2), v] ∧ Fr F H H' ∧ H' p2 = some (.lst ((m.others h0 h0).map nV)) ∧ TownAt T H' A1 F (((m.others h0 h0).take i).foldl (TM.meet h0) (m.clean h0)))
        ⟨_, rfl, fr4, h24, t4⟩ (fun i σ H' _ ⟨_, _, _, e, _⟩ => SqL.of e) ?_ ?_
      · rintro i x σ _ H5 hi ⟨v, rfl, fr5, h25, t5⟩ ⟨rfl, hx⟩
        rw [List.length_map] at hi
        obtain rfl : x = nV (m.others h0 h0)[i] := by
          rw [List.getElem?_map, List.getElem?_eq_getElem hi] at hx
          exact (Option.some.inj hx).symm
        have et : (m.others h0 h0).take (i + 1) = (m.others h0 h0).take i ++ [(m.others h0 h0)[i]] := by rw [List.take_add_one, List.getElem?_eq_getElem hi]; rfl
        have hom := TM.others_mem (List.getElem_mem hi)
        have k5 := ok ((m.others h0 h0).take i) fun o ho => List.mem_of_mem_take ho
        rw [et, List.foldl_append]
        generalize (m.others h0 h0)[i] = o at hom
        obtain ⟨dx5, ob5⟩ := t5.tw.ob
        have hh5 : (((m.others h0 h0).take i).foldl (TM.meet h0) (m.clean h0)).houses = m.houses := TM.fold_houses.trans TM.clean_houses
        have hmo := k.hN _ hom.1
        have hmh := k.hN _ hm
        generalize ((m.others h0 h0).take i).foldl (TM.meet h0) (m.clean h0) = m5 at t5 k5 hh5 ⊢
        walk_at "wx"
        refine wc_Town_hears rfl rfl t5 k5 (by rw [hh5]; exact hm) hmo (Fr.tabs fr5 hT) fun z6 H6 fr6 t6 => ?_
        obtain ⟨dx6, ob6⟩ := t6.tw.ob
        have k6 := k5.hears (h := h0) hmo
        walk_at "wx"
        refine wc_Town_hears rfl rfl t6 k6 (by rw [TM.hears_houses, hh5]; exact hom.1) hmh (Fr.tabs fr6 (Fr.tabs fr5 hT)) fun z7 H7 fr7 t7 => ?_
        exact ⟨_, rfl, (fr5.trans fr6).trans fr7, fr7.at (fr6.at h25 nF) nF, t7⟩
      · rintro σ H5 ⟨v, rfl, fr5, h25, t5⟩
        rw [List.length_map, List.take_length] at t5
        walk_at "wx"
        exact q p2 H5 hp20 fr5 h25 t5
end
end Nn
/-! == and != of two dicts whose values are alike -/
namespace Nn
open PySem PySem.Spec PyProof.Rows L2
theorem hits_D {X : Cx} {pins : List (Addr × Obj)} {σ : L2.St} {H : Hp} {s : Shared} (I : Inv X pins σ H s) (hu : X.A.units + 70 < cLine) {ls : List (Key × V)} {vb : List (Key × Value)} (rb : KV ls vb) {ks : List (Key × V)} {va : List (Key × Value)}
    (ra : KV ks va) : (∀ p ∈ ks, ∃ u d, valV ls p.1 = some u ∧ Dp X.K H p.2 d ∧ Dp X.K H u d ∧ SeqAt.shaped d = true ∧ PyData.eqv d d = true) → PySem.W.KeqHits X.A.in1 s vb va true := by
  unfold KV at ra
  induction ra with
  | nil => intro _; exact .nil
  | @cons p q ps qs h t k =>
    intro hp
    obtain ⟨h1, h2⟩ := h
    obtain ⟨u, d, e, g1, g2, g3, g4⟩ := hp p List.mem_cons_self
    have rr : RelO (some u) (valueAt vb p.1) := by rw [← e]; exact rb.val p.1
    obtain ⟨y, hy, ry⟩ := rr.some_of
    obtain ⟨key, v⟩ := q
    have h1' : p.1 = key := h1
    rw [h1'] at hy
    obtain ⟨as, r1⟩ := Dp.reads I d _ _ g1 h2
    obtain ⟨bs, r2⟩ := Dp.reads I d _ _ g2 ry
    have hx := PySem.W.keq_at (A := X.A) r1 r2 g3 g3 (by show X.A.units + 1 + 64 < cLine; omega)
    rw [g4] at hx
    show PySem.W.KeqHits X.A.in1 s vb ((key, v) :: qs) (true && true)
    exact .hit hy hx (k fun p' hm => hp p' (List.mem_cons_of_mem _ hm))
/-- alike: the same keys, values of the same shape -/
def SameD (K : PySem.W.Frag) (H : Hp) (a b : Addr) : Prop := ∃ ks ls, H a = some (.dK ks) ∧ H b = some (.dK ls) ∧ ks.length = ls.length ∧ ∀ p ∈ ks, ∃ u d, valV ls p.1 = some u ∧ Dp K H p.2 d ∧ Dp K H u d ∧ SeqAt.shaped d = true ∧ PyData.eqv d d = true
def rNeDD (K : PySem.W.Frag) : R2 := fun x y H Q => ∃ a b, x = .ref a ∧ y = .ref b ∧ SameD K H a b ∧ Q (.bl false) H
def rEqDD (K : PySem.W.Frag) : R2 := fun x y H Q => ∃ a b, x = .ref a ∧ y = .ref b ∧ SameD K H a b ∧ Q (.bl true) H
theorem op_neDD {X : Cx} (hu : X.A.units + 70 < cLine) : OpR X (compareOp .NotEq) (rNeDD X.K) := by
  intro pins s σ H x y v u Q I rx ry h
  obtain ⟨a, b, rfl, rfl, ⟨ks, ls, ea, eb, hlen, hp⟩, q⟩ := h
  obtain rfl : v = Value.ref a := rx
  obtain rfl : u = Value.ref b := ry
  obtain ⟨_, ya, va, ra, da⟩ := (show ObjOk X.prog X.w H s.heap a (.dK ks) from I.hok a _ ea)
  obtain ⟨_, yb, vb, rb, db⟩ := (show ObjOk X.prog X.w H s.heap b (.dK ls) from I.hok b _ eb)
  have hl : va.length = vb.length := by rw [← ra.length, ← rb.length]; exact hlen
  exact PySem.W.keq_ne (knd := mixKind X.prog X.w) (r := true) ya yb da db (by omega) (fun _ => hits_D I hu rb ra hp) (fin_bl I q (by simp [hl]))
theorem op_eqDD {X : Cx} (hu : X.A.units + 70 < cLine) : OpR X (compareOp .Eq) (rEqDD X.K) := by
  intro pins s σ H x y v u Q I rx ry h
  obtain ⟨a, b, rfl, rfl, ⟨ks, ls, ea, eb, hlen, hp⟩, q⟩ := h
  obtain rfl : v = Value.ref a := rx
  obtain rfl : u = Value.ref b := ry
  obtain ⟨_, ya, va, ra, da⟩ := (show ObjOk X.prog X.w H s.heap a (.dK ks) from I.hok a _ ea)
  obtain ⟨_, yb, vb, rb, db⟩ := (show ObjOk X.prog X.w H s.heap b (.dK ls) from I.hok b _ eb)
  have hl : va.length = vb.length := by rw [← ra.length, ← rb.length]; exact hlen
  exact PySem.W.keq_eq (knd := mixKind X.prog X.w) (r := true) ya yb da db (by omega) (fun _ => hits_D I hu rb ra hp) (fin_bl I q (by simp [hl]))
theorem op_neDR {X : Cx} {k : Nat} (r : Room k X.A) : OpR X (compareOp .NotEq) (rNeDD X.K) := op_neDD (by have := r.un; omega)
theorem op_eqDR {X : Cx} {k : Nat} (r : Room k X.A) : OpR X (compareOp .Eq) (rEqDD X.K) := op_eqDD (by have := r.un; omega)
theorem x_neDD {K : PySem.W.Frag} {H : Hp} {Q : VK} {a b : Addr} (h : SameD K H a b) (q : Q (.bl false) H) : rNeDD K (.ref a) (.ref b) H Q := ⟨a, b, rfl, rfl, h, q⟩
theorem x_eqDD {K : PySem.W.Frag} {H : Hp} {Q : VK} {a b : Addr} (h : SameD K H a b) (q : Q (.bl true) H) : rEqDD K (.ref a) (.ref b) H Q := ⟨a, b, rfl, rfl, h, q⟩
end Nn
/-! comprehensions over whatever walks; the last of a list -/
namespace Nn
open PySem L2
section
variable {K : PySem.W.Frag} {H : Hp} {Q : VK}
theorem LcW.any {J : It} {n : Nat} {G : Hp → Prop} {Y : Nat → Hp → V → Hp → Prop} {g : TG} {te : TE} {vs : List Nat} {σ : L2.St} (w : Walk J n G Y) (hz : n < sizeLine) (f : Nat → V) (hG : ∀ H', Ex H H' → G H')
    (hs : ∀ i x H1 H2, i < n → Ex H H1 → Y i H1 x H2 → ∀ Qe : VK, (∀ H'', Ex H1 H'' → Qe (f i) H'') → g x (wipe σ vs) H2 fun σ2 H3 => wipe σ2 vs = wipe σ vs ∧ te σ2 H3 Qe)
    (hk : ∀ D H', H D = none → Ex H H' → H' D = some (.lst ((List.range n).map f)) → Q (.ref D) H') : LcW g tYes te vs σ Q J H := by
  intro D hD
  refine lc_it w (Qd := fun H' => Q (.ref D) H') (fun i H' => Ex H H' ∧ H' D = some (.lst ((List.range i).map f))) ⟨Ex.new hD, by rw [upd_same]; rfl⟩ (fun i H' _ h => hG H' h.1) ?_ ?_
  · rintro i x H1 H2 hi ⟨ex, h1⟩ y
    exact hs i x H1 H2 hi ex y _ fun H'' ex2 => ⟨_, ex2.at h1, by rw [List.length_map, List.length_range]; omega, (ex.trans ex2).mut hD (ex2.at h1), by rw [upd_same, List.range_succ, List.map_append]; rfl⟩
  · rintro H1 ⟨ex, h1⟩
    exact hk D H1 hD ex h1
theorem range_getD {n : Nat} {l : List Nat} (h : n = l.length) : ((List.range n).map fun i => nV (l.getD i 0)) = l.map nV := by
  subst h
  refine List.ext_getElem (by simp) fun i h1 h2 => ?_
  have h3 : i < l.length := by simpa using h2
  simp [List.getD_eq_getElem?_getD, List.getElem?_eq_getElem h3]
theorem range_true {n : Nat} : ((List.range n).map fun _ => V.bl true) = ((List.range n).map fun _ => true).map V.bl := by rw [List.map_map]; rfl
theorem all_true {n : Nat} : (((List.range n).map fun _ => true).all id) = true := List.all_eq_true.mpr fun x hx => by
  obtain ⟨_, _, rfl⟩ := List.mem_map.mp hx; rfl
theorem atI_lastN {l : List Nat} {n : Nat} (h : l.getLast? = some n) : atI (l.map nV) (-1) = some (nV n) := by
  obtain ⟨pre, rfl⟩ := List.getLast?_eq_some_iff.mp h
  rw [List.map_append]
  exact atI_last (pre.map nV) (nV n)
theorem x_slTo {p : Addr} {l : List Nat} {m : Nat} {i : Int} (hi : i = m) (hS : SqL K H p (l.map nV)) (h : ∀ (q : Addr) (H' : Hp), H q = none → Ex H H' → H' q = some (.lst ((l.take m).map nV)) → Q (.ref q) H') : rSlL K (.ref p) none (some i) H Q := by
  subst hi
  refine x_slL hS fun q hq => ?_
  rw [cut_take, ← List.map_take]
  exact h q _ hq (Ex.new hq) upd_same
theorem x_slFrom {p : Addr} {l : List Nat} {m : Nat} {i : Int} (hi : i = m) (hS : SqL K H p (l.map nV)) (h : ∀ (q : Addr) (H' : Hp), H q = none → Ex H H' → H' q = some (.lst ((l.drop m).map nV)) → Q (.ref q) H') : rSlL K (.ref p) (some i) none H Q := by
  subst hi
  refine x_slL hS fun q hq => ?_
  rw [cut_drop, ← List.map_drop]
  exact h q _ hq (Ex.new hq) upd_same
theorem x_slInit {p : Addr} {l : List Nat} (hS : SqL K H p (l.map nV)) (h : ∀ (q : Addr) (H' : Hp), H q = none → Ex H H' → H' q = some (.lst (l.dropLast.map nV)) → Q (.ref q) H') : rSlL K (.ref p) none (some (-1)) H Q := by
  refine x_slL hS fun q hq => ?_
  rw [cut_init, ← List.map_dropLast]
  exact h q _ hq (Ex.new hq) upd_same
end
end Nn
namespace Nn
open PySem L2
theorem Ex.new' {H H' : Hp} {p : Addr} {o : HO} (h : H p = none) (e : upd H p o = H') : Ex H H' := by rw [← e]; exact Ex.new h
theorem new_at {H H' : Hp} {p : Addr} {o : HO} (e : upd H p o = H') : H' p = some o := by rw [← e]; exact upd_same
end Nn
namespace Nn
open PySem L2
theorem x_allB {K : PySem.W.Frag} {H : Hp} {Q : VK} {a : Addr} {bs : List Bool} (hS : SqL K H a (bs.map V.bl)) (h : Q (.bl (bs.all id)) H) : rAll K [.ref a] H Q := ⟨a, bs, rfl, hS, h⟩
end Nn
/-! k43, k45: holes, what is reached, tables; whether all is as it is -/
namespace Nn
open PySem L2
theorem dpAll_rows {K : PySem.W.Frag} {H : Hp} {f : Nat → List Nat} : ∀ {ps : List Addr} {i : Nat}, (∀ j p, ps[j]? = some p → H p = some (.lst ((f (i + j)).map nV))) → DpAll K H (ps.map V.ref) ((List.range' i ps.length).map fun j => PyData.list (((f j).map fun n : Nat => (n : Int)).map PyData.int))
  | [], _, _ => .nil
  | p :: r, i, h => by
    rw [List.length_cons, List.range'_succ]
    refine .cons (Dp.natsL (SqL.of (h 0 p rfl))) (dpAll_rows (i := i + 1) fun j q hq => ?_)
    have := h (j + 1) q (by simpa using hq)
    rw [show i + 1 + j = i + (j + 1) by omega]; exact this
/-- a town's buckets, told as a dict of lists of lists -/
structure RowsAt (H : Hp) (p : Addr) (hs : List Nat) (m : TM) (g : Nat → Addr) : Prop where
  at_ : H p = some (.dK (dOf hs fun h => .ref (g h)))
  rows : ∀ h ∈ hs, ∃ ps : List Addr, H (g h) = some (.lst (ps.map V.ref)) ∧ ps.length = m.wide ∧ ∀ j q, ps[j]? = some q → H q = some (.lst ((m.row h j).map nV))
section
variable {P : Program} {w : World} {K : PySem.W.Frag} {mg : Str → Option Value} {base : Heap} {H H' : Hp} {Q : VK} {E : XK} {T : Tx K mg base} {A : TA} {F : Addr → Prop} {m : TM}
theorem RowsAt.ex {p : Addr} {hs : List Nat} {g : Nat → Addr} (a : RowsAt H p hs m g) (e : Ex H H') : RowsAt H' p hs m g :=
  ⟨e.at a.at_, fun h hh => by
    obtain ⟨ps, h1, h2, h3⟩ := a.rows h hh
    exact ⟨ps, e.at h1, h2, fun j q hq => e.at (h3 j q hq)⟩⟩
/-- one more row -/
theorem RowsAt.put {p l : Addr} {hs : List Nat} {g : Nat → Addr} {h : Nat} {ps : List Addr} (a : RowsAt H p hs m g) (hh : h ∉ hs) (h1 : H l = some (.lst (ps.map V.ref))) (h2 : ps.length = m.wide) (h3 : ∀ j q, ps[j]? = some q → H q = some (.lst ((m.row h j).map nV))) :
    RowsAt (upd H p (.dK (putK (dOf hs fun h => .ref (g h)) (nK h) (.ref l)))) p (hs ++ [h]) m (fun x => if x = h then l else g x) := by
  have ne : ∀ {b : Addr} {xs : List V}, H b = some (.lst xs) → b ≠ p := fun e z => by rw [z, a.at_] at e; cases e
  have e1 : dOf hs (fun x => V.ref (if x = h then l else g x)) = dOf hs fun x => .ref (g x) := dOf_congr fun x hx => by
    rw [if_neg fun z : x = h => hh (by rw [← z]; exact hx)]
  refine ⟨?_, fun x hx => ?_⟩
  · rw [upd_same]
    have q := dOf_new (f := fun x => V.ref (if x = h then l else g x)) hh
    rw [if_pos rfl, e1] at q
    rw [q]
  · rcases List.mem_append.mp hx with z | z
    · have hne : x ≠ h := fun e => hh (e ▸ z)
      obtain ⟨qs, g1, g2, g3⟩ := a.rows x z
      refine ⟨qs, ?_, g2, fun j q hq => ?_⟩
      · rw [if_neg hne, upd_ne (ne g1)]; exact g1
      · rw [upd_ne (ne (g3 j q hq))]; exact g3 j q hq
    · obtain rfl : x = h := by simpa using z
      refine ⟨ps, ?_, h2, fun j q hq => ?_⟩
      · rw [if_pos rfl, upd_ne (ne h1)]; exact h1
      · rw [upd_ne (ne (h3 j q hq))]; exact h3 j q hq
theorem RowsAt.dp {p : Addr} {hs : List Nat} {g : Nat → Addr} (a : RowsAt H p hs m g) {h : Nat} (hh : h ∈ hs) : Dp K H (.ref (g h)) (.list ((List.range' 0 m.wide).map fun j => PyData.list (((m.row h j).map fun n : Nat => (n : Int)).map PyData.int))) := by
  obtain ⟨ps, h1, h2, h3⟩ := a.rows h hh
  have q := dpAll_rows (K := K) (H := H) (f := fun j => m.row h j) (ps := ps) (i := 0) fun j q hq => by rw [Nat.zero_add]; exact h3 j q hq
  rw [h2] at q
  exact .lst (SqL.of h1) q
theorem RowsAt.same {p p' : Addr} {hs : List Nat} {g g' : Nat → Addr} (a : RowsAt H p hs m g) (b : RowsAt H p' hs m g') : SameD K H p p' := by
  refine ⟨_, _, a.at_, b.at_, by rw [dOf_len, dOf_len], fun x hx => ?_⟩
  obtain ⟨h, hh, rfl⟩ := List.mem_map.mp hx
  have sh : Shp (.list ((List.range' 0 m.wide).map fun j => PyData.list (((m.row h j).map fun n : Nat => (n : Int)).map PyData.int))) 2 := Shp.lst fun y hy => by
    obtain ⟨j, _, rfl⟩ := List.mem_map.mp hy
    exact Shp.ints
  refine ⟨.ref (g' h), _, by rw [dOf_val, if_pos hh], a.dp hh, b.dp hh, sh.ok, SeqAt.eqv_refl _ sh.1⟩
theorem PairV.ex {v : V} {o : Option (Nat × Nat)} (h : PairV H v o) (e : Ex H H') : PairV H' v o := by
  cases o with
  | none => exact h
  | some x =>
    obtain ⟨p, e1, e2⟩ := h
    exact ⟨p, e1, e.at e2⟩
theorem ps_all {K : PySem.W.Frag} {H : Hp} : ∀ {ts : List Addr} {xs : List (Nat × Nat)}, ts.length = xs.length → (∀ (i : Nat) (a : Addr) (x : Nat × Nat), ts[i]? = some a → xs[i]? = some x → H a = some (.tup [nV x.1, nV x.2])) → DpAll K H (ts.map V.ref) (xs.map fun x => PyData.tuple [.int x.1, .int x.2])
  | [], [], _, _ => .nil
  | [], _ :: _, h, _ => by cases h
  | _ :: _, [], h, _ => by cases h
  | a :: ts, x :: xs, h, el => .cons (.tup (SqT.of (el 0 a x rfl rfl)) (.cons (.int _) (.cons (.int _) .nil))) (ps_all (Nat.succ.inj h) fun i b y e1 e2 => el (i + 1) b y (by simpa using e1) (by simpa using e2))
theorem ps_dp {K : PySem.W.Frag} {H : Hp} {p : Addr} {ts : List Addr} {xs : List (Nat × Nat)} (h : H p = some (.lst (ts.map V.ref))) (hl : ts.length = xs.length) (el : ∀ (i : Nat) (a : Addr) (x : Nat × Nat), ts[i]? = some a → xs[i]? = some x → H a = some (.tup [nV x.1, nV x.2])) : Dp K H (.ref p) (.list (xs.map fun x => PyData.tuple [.int x.1, .int x.2])) :=
  .lst (SqL.of h) (ps_all hl el)
theorem any_nil {names live : List Nat} : (names.filter fun n => decide (n ∈ live)) = [] ↔ (names.any fun n => decide (n ∈ live)) = false := by
  rw [List.filter_eq_nil_iff, Bool.eq_false_iff]
  constructor
  · intro h z
    obtain ⟨x, h1, h2⟩ := List.any_eq_true.mp z
    exact h x h1 h2
  · intro h x hx z
    exact h (List.any_eq_true.mpr ⟨x, hx, z⟩)
theorem cut_nV {l : List Nat} {lo hi : Option Int} : ∃ l' : List Nat, cutV (l.map nV) lo hi = l'.map nV ∧ l'.length ≤ l.length ∧ ∀ x ∈ l', x ∈ l := by
  unfold cutV
  exact ⟨_, by rw [← List.map_drop, ← List.map_take], by rw [List.length_take, List.length_drop]; omega, fun x hx => List.mem_of_mem_drop (List.mem_of_mem_take hx)⟩
theorem x_slN {p : Addr} {l : List Nat} {lo hi : Option Int} (hS : SqL K H p (l.map nV)) (h : ∀ (l' : List Nat) (q : Addr) (H' : Hp), H q = none → Ex H H' → H' q = some (.lst (l'.map nV)) → l'.length ≤ l.length → (∀ x ∈ l', x ∈ l) → Q (.ref q) H') : rSlL K (.ref p) lo hi H Q := by
  obtain ⟨l', e, h1, h2⟩ := cut_nV (l := l) (lo := lo) (hi := hi)
  refine x_slL hS fun q hq => ?_
  rw [e]
  exact h l' q _ hq (Ex.new hq) upd_same h1 h2
def sp_l_holes (T : Tx K mg base) : Sp := sp_holes T
theorem wc_l_holes {N : List Nat} (t : TownAt T H A F m) (k : m.Ok N) (q : ∀ (p : Addr) (ts : List Addr) (H' : Hp), H p = none → Ex H H' → H' p = some (.lst (ts.map V.ref)) → ts.length = m.holesN.length → (∀ (i : Nat) (a : Addr) (x : Nat × Nat), ts[i]? = some a → m.holesN[i]? = some x → H' a = some (.tup [nV x.1, nV x.2]) ∧ H a = none) → Q (.ref p) H') : sp_l_holes T [.ref A.t] H Q E := ⟨A, F, m, N, rfl, t, k, q⟩
theorem ok_l_holes (T : Tx K mg base) : FnOk P w K mg base CX0 4 T.a_l_holes T.d_l_holes ["_law_town"] (sp_l_holes T) := by
  refine T.F_l_holes.okD sc_l_holes (fun vs H Q E h => ?_) (fun cdv A outer s H vs Q E hr h => ?_)
  · obtain ⟨A, F, m, N, rfl, _⟩ := h; rfl
  · obtain ⟨A1, F, m, N, rfl, t, k, q⟩ := h
    obtain ⟨dx, ob⟩ := t.tw.ob
    have hu := hu_of hr
    have hz := k.houses_len
    have hll := k.live_len
    have hr1 := k.r1
    have hpl := pairs_len (l := m.live) (w := m.wide)
    have hplm : m.live.length * m.wide ≤ 63 * 60 := Nat.mul_le_mul (by omega) k.w1
    have c_Bucket := T.c_Bucket; have n_Bucket_room := T.n_Bucket_room; have n_Bucket_line := T.n_Bucket_line; have c_Table := T.c_Table; have n_Table_own := T.n_Table_own; have n_Table_wide := T.n_Table_wide; have n_Table_room := T.n_Table_room; have n_Table_buckets := T.n_Table_buckets; have c_Town := T.c_Town; have n_Town_wide := T.n_Town_wide; have n_Town_room := T.n_Town_room; have n_Town_tables := T.n_Town_tables; have n_Town_hushed := T.n_Town_hushed
    refine ⟨_, (pss_cons (ps_set (i := 1) sc_l_holes.nd rfl (Or.inr rfl) (pe_meth0 (pv 0) T.c_Town T.t_Town_answering (ok_Town_answering T) (hr.mono (by decide)) T.b_Town_answering .nil pass0))
      (pss_cons (ps_set (i := 2) sc_l_holes.nd rfl (Or.inl rfl) (pe_lst pa_nil))
      (pss_cons (ps_for PassesOwn.never rfl (pi_list (pv 1)) (pg_name (i := 3) sc_l_holes.nd rfl (Or.inr rfl))
      (pss_one (ps_for PassesOwn.never rfl (pi_range1 rfl T.z_range (pa_cons (pe_fld (pv 0) rfl) pa_nil)) (pg_name (i := 4) sc_l_holes.nd rfl (Or.inr rfl))
      (pss_cons (ps_setLc (i := 5) (own := [("_law_name_here", 6)]) (g := (gName 6)) (by rfl) sc_l_holes.nd rfl rfl (sw_true rfl rfl rfl (by decide +kernel)) (pi_list (pv 1)) (blkOk_by (N := N_l_holes) (sc := defScope s_l_holes) (own := [("_law_name_here", 6)]) (by decide +kernel)) (fun _ _ _ _ _ => (pg_name (i := 6) sc_l_holes.nd rfl (Or.inl rfl))) (fun _ _ _ _ _ => pts_one ((pt_cmpR op_eq (pe_bits (pe_op op_xorN (pv 6) (pv 3))) (pe_op op_add (pv 4) pe_int) (nomark _)))) (fun _ _ _ _ _ => (pv 6)))
      (pss_cons (ps_setLc (i := 7) (own := [("_law_name_here", 6)]) (g := (gName 6)) (by rfl) sc_l_holes.nd rfl rfl (sw_true rfl rfl rfl (by decide +kernel)) (pi_list (pe_meth (pv 0) T.c_Town T.t_Town_bucket (ok_Town_bucket T) hr T.b_Town_bucket .nil pass0 (pa_cons (pv 3) (pa_cons (pv 4) pa_nil)))) (blkOk_by (N := N_l_holes) (sc := defScope s_l_holes) (own := [("_law_name_here", 6)]) (by decide +kernel)) (fun _ _ _ _ _ => (pg_name (i := 6) sc_l_holes.nd rfl (Or.inl rfl))) (fun _ _ _ _ _ => pts_one ((pt_cmpR (op_inK (K := K) rfl) (pv 6) (pv 1) rfl))) (fun _ _ _ _ _ => (pv 6)))
      (pss_one (ps_if (PW.pt (pw_and (pt_cmpR (op_neD hr.units) (pv 5) (pe_lst pa_nil) (nomark _)) (pw_and1 (pt_cmpR (op_eqD hr.units) (pv 7) (pe_lst pa_nil) (nomark _)))))
      (pss_one (ps_expr (pe_bm PySem.F.plainAttrs_list PySem.F.slot_list_append PySem.F.type_list_append mt_append (pv 2) (pa_cons (pe_tup (pa_cons (pv 3) (pa_cons (pv 4) pa_nil))) pa_nil))))
      pss_nil)))))))
      (pss_one (ps_ret (pv 2)))))), ?_⟩
    rw [Nn.st_l_holes]; try rw [Nn.cxK]
    try rw [Nn.cxW]
    walk_at "wx"
    refine wc_Town_answering t hz k.nd fun p1 H1 hp1 ex1 h1 => ?_
    walk_at "wx"
    refine ⟨len_ok rfl, fun p2 hp2 => ?_⟩
    have ex2 := ex1.newT (o := .lst []) hp2
    have h12 := at_new (o := .lst []) hp2 h1
    have n12 := ne_of_none h1 hp2
    have p02 : PsAt H (upd H1 p2 (.lst [])) p2 [] [] := ⟨upd_same, rfl, fun i a x h => by simp at h⟩
    have hp20 := ex1.back p2 hp2
    generalize upd H1 p2 (.lst []) = H2 at ex2 h12 p02 ⊢
    clear hp2 h1 ex1
    walk_at "wx"
    refine ForW.by walk_list (fun i σ H' => ∃ (v3 v4 v5 v6 v7 : Option V) (ts : List Addr), σ = [some (.ref A1.t), some (.ref p1), some (.ref p2), v3, v4, v5, v6, v7] ∧ Ex H H' ∧ H' p1 = some (.lst (m.live.map nV)) ∧ PsAt H H' p2 ts ((pairsN (m.live.take i) m.wide).filter m.hole)) ⟨_, _, _, _, _, [], rfl, ex2, h12, p02⟩ (fun i σ H' _ ⟨_, _, _, _, _, _, _, _, e, _⟩ => SqL.of e) ?_ ?_
    · rintro i x σ _ H3 hi ⟨v3, v4, v5, v6, v7, ts, rfl, ex3, h13, ps3⟩ ⟨rfl, hx⟩
      rw [List.length_map] at hi
      obtain rfl : x = nV m.live[i] := by
        rw [List.getElem?_map, List.getElem?_eq_getElem hi] at hx
        exact (Option.some.inj hx).symm
      have t3 := t.ex' ex3
      obtain ⟨dx3, ob3⟩ := t3.tw.ob
      have hwi := k.w1
      walk_at "wx"
      refine ForW.by walk_rgN (fun j σ H' => ∃ (v4 v5 v6 v7 : Option V) (ts : List Addr), σ = [some (.ref A1.t), some (.ref p1), some (.ref p2), some (nV m.live[i]), v4, v5, v6, v7] ∧ Ex H H' ∧ H' p1 = some (.lst (m.live.map nV)) ∧ PsAt H H' p2 ts ((pairsN (m.live.take i) m.wide).filter m.hole ++ ((List.range j).map fun k => (m.live[i], k)).filter m.hole)) ⟨_, _, _, _, ts, rfl, ex3, h13, by simpa using ps3⟩ (fun _ _ _ _ _ => trivial) ?_ ?_
      · rintro j _ σ _ H4 hj ⟨v4, v5, v6, v7, ts, rfl, ex4, h14, ps4⟩ ⟨rfl, rfl⟩
        have hhm := TM.live_house (List.getElem_mem hi)
        have t4 := t.ex' ex4
        obtain ⟨dx4, ob4⟩ := t4.tw.ob
        obtain ⟨rw1, rw2, rw3⟩ := k.row (j := j) hhm
        have hts : ts.length < 100000 := by
          rw [ps4.len, List.length_append]
          have q1 := List.length_filter_le m.hole (pairsN (m.live.take i) m.wide)
          have q2 := List.length_filter_le m.hole ((List.range j).map fun k => (m.live[i], k))
          rw [pairs_len] at q1
          rw [List.length_map, List.length_range] at q2
          have q3 : (m.live.take i).length * m.wide ≤ 63 * 60 := Nat.mul_le_mul (by rw [List.length_take]; omega) k.w1
          omega
        walk_at "wx"
        refine LcW.filt (emb := nV) (xs := m.live) (fun n => decide (lowN m.live[i] j ≤ n ∧ n ≤ lowN m.live[i] j + 2 ^ j - 1)) (SqL.of h14) (by rw [sizeLine_eq]; omega) (fun n _ H7 ex7 R hR => ?_) (fun n _ _ H7 ex7 Qe hQ => ?_) fun p7 H7 hp7 ex7 h7 => ?_
        · walk_at "wx"
          have e : decide (((if n ^^^ m.live[i] = 0 then 0 else (n ^^^ m.live[i]).log2 + 1 : Nat) : Int) = (j : Int) + 1) = decide (lowN m.live[i] j ≤ n ∧ n ≤ lowN m.live[i] j + 2 ^ j - 1) := decide_eq_decide.mpr ⟨fun z => bit_span.mp (by omega), fun z => by have := bit_span.mpr z; omega⟩
          rw [e]
          exact hR _ Ex.refl
        · walk_at "wx"
          exact hQ
        have esp : (m.live.filter fun n => decide (lowN m.live[i] j ≤ n ∧ n ≤ lowN m.live[i] j + 2 ^ j - 1)) = ofSpanN m.live m.live[i] j := rfl
        rw [esp] at h7
        have h17 := ex7.at h14
        have ps7 := ps4.ex ex7
        have ex07 := ex4.trans ex7
        have t7 := t4.ex' ex7
        obtain ⟨dx7, ob7⟩ := t7.tw.ob
        have hol : m.hole (m.live[i], j) = (!((m.row m.live[i] j).any fun n => decide (n ∈ m.live)) && !decide (ofSpanN m.live m.live[i] j = [])) := rfl
        have stay : m.hole (m.live[i], j) = false → (pairsN (m.live.take i) m.wide).filter m.hole ++ ((List.range (j + 1)).map fun k => (m.live[i], k)).filter m.hole = (pairsN (m.live.take i) m.wide).filter m.hole ++ ((List.range j).map fun k => (m.live[i], k)).filter m.hole := fun e => by
          rw [List.range_succ, List.map_append, List.filter_append, List.map_singleton, List.filter_cons_of_neg (by rw [e]; exact Bool.false_ne_true), List.filter_nil, List.append_nil]
        have more : m.hole (m.live[i], j) = true → (pairsN (m.live.take i) m.wide).filter m.hole ++ ((List.range (j + 1)).map fun k => (m.live[i], k)).filter m.hole = ((pairsN (m.live.take i) m.wide).filter m.hole ++ ((List.range j).map fun k => (m.live[i], k)).filter m.hole) ++ [(m.live[i], j)] := fun e => by
          rw [List.range_succ, List.map_append, List.filter_append, List.map_singleton, List.filter_cons_of_pos e, List.filter_nil, List.append_assoc]
        walk_at "wx"
        refine wc_Town_bucket rfl rfl t7 k.w1 (k.bd hhm) hhm hj fun p5 hp5 => ?_
        have erow : (m.tab m.live[i]).getD j [] = m.row m.live[i] j := rfl
        rw [erow]
        have ex5 := ex07.newT (o := .lst ((m.row m.live[i] j).map nV)) hp5
        have h5 := upd_same (H := H7) (a := p5) (o := .lst ((m.row m.live[i] j).map nV))
        have h15 := at_new (o := .lst ((m.row m.live[i] j).map nV)) hp5 h17
        have h75 := at_new (o := .lst ((m.row m.live[i] j).map nV)) hp5 h7
        have ps5 := ps7.ex (Ex.new (o := .lst ((m.row m.live[i] j).map nV)) hp5)
        generalize upd H7 p5 (.lst ((m.row m.live[i] j).map nV)) = H5 at ex5 h5 h15 h75 ps5 ⊢
        walk_at "wx"
        refine LcW.filt (emb := nV) (xs := m.row m.live[i] j) (fun n => decide (n ∈ m.live)) (SqL.of h5) (by rw [sizeLine_eq]; omega) (fun n _ H6 ex6 R hR => ?_) (fun n _ _ H6 ex6 Qe hQ => ?_) fun p6 H6 hp6 ex6 h6 => ?_
        · have h16 := ex6.at h15
          walk_at "wx"
          exact hR _ Ex.refl
        · walk_at "wx"
          exact hQ
        have h16 := ex6.at h15
        have h76 := ex6.at h75
        have ps6 := ps5.ex ex6
        have ex06 := ex5.trans ex6
        walk_at "wx"
        refine ⟨len_ok rfl, fun p8 hp8 => ?_⟩
        have ex08 := ex06.newT (o := .lst []) hp8
        have h18 := at_new (o := .lst []) hp8 h16
        have h68 := at_new (o := .lst []) hp8 h6
        have h78 := at_new (o := .lst []) hp8 h76
        have h88 := upd_same (H := H6) (a := p8) (o := .lst [])
        have ps8 := ps6.ex (Ex.new (o := .lst []) hp8)
        generalize upd H6 p8 (.lst []) = H8 at ex08 h18 h68 h78 h88 ps8 ⊢
        refine x_neLN (ys := []) (SqL.of h78) (SqL.of h88) ?_
        walk_at "wx"
        refine x_iteN (fun hne => ?_) fun he => ?_
        · walk_at "wx"
          refine ⟨len_ok rfl, fun p9 hp9 => ?_⟩
          have ex09 := ex08.newT (o := .lst []) hp9
          have h19 := at_new (o := .lst []) hp9 h18
          have h69 := at_new (o := .lst []) hp9 h68
          have h99 := upd_same (H := H8) (a := p9) (o := .lst [])
          have ps9 := ps8.ex (Ex.new (o := .lst []) hp9)
          generalize upd H8 p9 (.lst []) = H9 at ex09 h19 h69 h99 ps9 ⊢
          refine x_eqLN (ys := []) (SqL.of h69) (SqL.of h99) ?_
          walk_at "wx"
          refine x_ifD (fun he => ?_) fun hne2 => ?_
          · have hk := any_nil.mp he
            have hol : m.hole (m.live[i], j) = true := by rw [hol, hk, decide_eq_false hne]; rfl
            have at9 := ps9.at_
            walk_at "wx"
            refine ⟨len_ok rfl, fun p10 hp10 => ?_⟩
            have ex010 := ex09.newT (o := .tup [nV m.live[i], nV j]) hp10
            have h110 := at_new (o := .tup [nV m.live[i], nV j]) hp10 h19
            have h1010 := upd_same (H := H9) (a := p10) (o := .tup [nV m.live[i], nV j])
            have ps10 := ps9.ex (Ex.new (o := .tup [nV m.live[i], nV j]) hp10)
            have n100 : H p10 = none := ex09.back p10 hp10
            generalize upd H9 p10 (.tup [nV m.live[i], nV j]) = H10 at ex010 h110 h1010 ps10 ⊢
            have at10 := ps10.at_
            walk_at "wx"
            have ps11 := ps10.snoc (x := (m.live[i], j)) h1010 n100
            exact ⟨_, _, _, _, ts ++ [p10], rfl, ex010.mut hp20 at10, by rw [upd_ne n12]; exact h110, by rw [more hol]; exact ps11⟩
          · have hk : ((m.row m.live[i] j).any fun n => decide (n ∈ m.live)) = true := by
              rw [← Bool.not_eq_false]; exact fun z => hne2 (any_nil.mpr z)
            have hol : m.hole (m.live[i], j) = false := by rw [hol, hk]; rfl
            walk_at "wx"
            exact ⟨_, _, _, _, ts, rfl, ex09, h19, by rw [stay hol]; exact ps9⟩
        · have hol : m.hole (m.live[i], j) = false := by rw [hol, decide_eq_true he, Bool.not_true, Bool.and_false]
          walk_at "wx"
          exact ⟨_, _, _, _, ts, rfl, ex08, h18, by rw [stay hol]; exact ps8⟩
      · rintro σ H4 ⟨v4, v5, v6, v7, ts, rfl, ex4, h14, ps4⟩
        walk_at "wx"
        refine ⟨_, _, _, _, _, ts, rfl, ex4, h14, ?_⟩
        rw [pairs_take hi, List.filter_append]
        exact ps4
    · rintro σ H3 ⟨v3, v4, v5, v6, v7, ts, rfl, ex3, h13, ps3⟩
      rw [List.length_map, List.take_length] at ps3
      walk_at "wx"
      exact q p2 ts H3 hp20 ex3 ps3.at_ ps3.len ps3.el
section
variable {H0 : Hp} {p : Addr} {hs : List Nat} {g : Nat → Addr} {b : Nat → Nat → Addr}
theorem dOf_upd' {hs : List Nat} {f : Nat → V} {n : Nat} {v : V} : putK (dOf hs f) (nK n) v = dOf (if n ∈ hs then hs else hs ++ [n]) fun k => if k = n then v else f k := by
  by_cases h : n ∈ hs
  · rw [if_pos h]
    unfold putK
    rw [if_pos (by rw [valV_any, dOf_val, if_pos h]; rfl)]
    unfold dOf
    rw [List.map_map]
    refine List.map_congr_left fun k _ => ?_
    show (if nK k = nK n then (nK k, v) else (nK k, f k)) = (nK k, if k = n then v else f k)
    by_cases q : k = n
    · rw [if_pos (by rw [q]), if_pos q]
    · rw [if_neg fun z => q (nK_inj z), if_neg q]
  · rw [if_neg h, putK_new _ (by rw [dOf_val, if_neg h])]
    unfold dOf
    rw [List.map_append]
    congr 1
    · refine List.map_congr_left fun k hk => ?_
      show (nK k, f k) = (nK k, if k = n then v else f k)
      rw [if_neg fun z : k = n => h (by rw [← z]; exact hk)]
    · simp
theorem nd_snocA {l : List Addr} {x : Addr} (h : l.Nodup) (hn : x ∉ l) : (l ++ [x]).Nodup := List.nodup_append.mpr ⟨h, by simp, fun a ha b hb e => hn (by rw [← List.mem_singleton.mp hb, ← e]; exact ha)⟩
/-- the same, with the places of all: each its own, all new to H0 -/
structure RowsM (H0 H : Hp) (p : Addr) (hs : List Nat) (m : TM) (g : Nat → Addr) (b : Nat → Nat → Addr) : Prop where
  at_ : H p = some (.dK (dOf hs fun h => .ref (g h)))
  row : ∀ h ∈ hs, H (g h) = some (.lst ((List.range m.wide).map fun j => V.ref (b h j)))
  bk : ∀ h ∈ hs, ∀ j, j < m.wide → H (b h j) = some (.lst ((m.row h j).map nV))
  inj : ∀ h ∈ hs, ∀ h' ∈ hs, ∀ j, j < m.wide → ∀ j', j' < m.wide → b h j = b h' j' → h = h' ∧ j = j'
  gin : ∀ h ∈ hs, ∀ h' ∈ hs, g h = g h' → h = h'
  np : H0 p = none
  ng : ∀ h ∈ hs, H0 (g h) = none
  nb : ∀ h ∈ hs, ∀ j, j < m.wide → H0 (b h j) = none
  w0 : 0 < m.wide
theorem RowsM.at (a : RowsM H0 H p hs m g b) : RowsAt H p hs m g := ⟨a.at_, fun h hh => ⟨(List.range m.wide).map (b h), by rw [a.row h hh, List.map_map]; rfl, by rw [List.length_map, List.length_range], fun j q hq => by
  rw [List.getElem?_map] at hq
  by_cases e : j < m.wide
  · rw [List.getElem?_range e] at hq
    cases hq
    exact a.bk h hh j e
  · rw [List.getElem?_eq_none (by rw [List.length_range]; omega)] at hq
    cases hq⟩⟩
theorem RowsM.fr {R : Addr → Prop} (a : RowsM H0 H p hs m g b) (f : Fr R H H') (h : ∀ x, R x → H0 x ≠ none) : RowsM H0 H' p hs m g b :=
  ⟨f.at a.at_ fun z => h _ z a.np, fun x hx => f.at (a.row x hx) fun z => h _ z (a.ng x hx), fun x hx j hj => f.at (a.bk x hx j hj) fun z => h _ z (a.nb x hx j hj), a.inj, a.gin, a.np, a.ng, a.nb, a.w0⟩
theorem RowsM.ex (a : RowsM H0 H p hs m g b) (f : Ex H H') : RowsM H0 H' p hs m g b := a.fr f fun _ z => z.elim
theorem refs_nats {n : Nat} {f : Nat → Addr} {l : List Nat} (h0 : 0 < n) : ((List.range n).map fun j => V.ref (f j)) ≠ l.map nV := fun e => by
  obtain ⟨k, rfl⟩ : ∃ k, n = k + 1 := ⟨n - 1, by omega⟩
  rw [List.range_succ_eq_map, List.map_cons] at e
  cases l with
  | nil => cases e
  | cons x r => rw [List.map_cons] at e; injection e with e1 _; cases e1
theorem RowsM.bg (a : RowsM H0 H p hs m g b) {h h' j : Nat} (hh : h ∈ hs) (hh' : h' ∈ hs) (hj : j < m.wide) : g h' ≠ b h j := fun e => by
  have e1 := a.row h' hh'
  rw [e, a.bk h hh j hj] at e1
  exact refs_nats a.w0 (HO.lst.inj (Option.some.inj e1)).symm
theorem RowsM.pb (a : RowsM H0 H p hs m g b) {h j : Nat} (hh : h ∈ hs) (hj : j < m.wide) : p ≠ b h j := fun e => by
  have e1 := a.at_
  rw [e, a.bk h hh j hj] at e1; cases e1
theorem RowsM.pg (a : RowsM H0 H p hs m g b) {h : Nat} (hh : h ∈ hs) : p ≠ g h := fun e => by
  have e1 := a.at_
  rw [e, a.row h hh] at e1; cases e1
/-- one bucket otherwise -/
theorem RowsM.set {m' : TM} {h j : Nat} {ys : List Nat} (a : RowsM H0 H p hs m g b) (hh : h ∈ hs) (hj : j < m.wide) (hw : m'.wide = m.wide) (e1 : m'.row h j = ys) (e2 : ∀ x ∈ hs, ∀ y, ¬ (x = h ∧ y = j) → m'.row x y = m.row x y) : RowsM H0 (upd H (b h j) (.lst (ys.map nV))) p hs m' g b := by
  refine ⟨by rw [upd_ne (a.pb hh hj)]; exact a.at_, fun x hx => by rw [hw, upd_ne (a.bg hh hx hj)]; exact a.row x hx, fun x hx y hy => ?_, by rw [hw]; exact a.inj, a.gin, a.np, a.ng, by rw [hw]; exact a.nb, by rw [hw]; exact a.w0⟩
  rw [hw] at hy
  by_cases e : x = h ∧ y = j
  · rw [e.1, e.2, upd_same, e1]
  · rw [upd_ne fun z => e (a.inj x hx h hh y hy j hj z), e2 x hx y e]
    exact a.bk x hx y hy
/-- one more row, or another in the place of one -/
theorem RowsM.put {m' : TM} {l : Addr} {h : Nat} {ps : List Addr} (a : RowsM H0 H p hs m g b) (h1 : H l = some (.lst (ps.map V.ref))) (h2 : ps.length = m.wide) (h3 : ∀ j q, ps[j]? = some q → H q = some (.lst ((m'.row h j).map nV))) (nd : ps.Nodup)
    (n1 : H0 l = none) (n2 : ∀ q ∈ ps, H0 q = none) (n3 : ∀ q ∈ ps, ∀ x ∈ hs, ∀ y, y < m.wide → b x y ≠ q) (n4 : ∀ x ∈ hs, g x ≠ l) (hw : m'.wide = m.wide) (e2 : ∀ x ∈ hs, x ≠ h → ∀ y, m'.row x y = m.row x y) :
    RowsM H0 (upd H p (.dK (putK (dOf hs fun h => .ref (g h)) (nK h) (.ref l)))) p (if h ∈ hs then hs else hs ++ [h]) m' (fun x => if x = h then l else g x) (fun x y => if x = h then ps.getD y 0 else b x y) := by
  have ne : ∀ {c : Addr} {xs : List V}, H c = some (.lst xs) → c ≠ p := fun e z => by rw [z, a.at_] at e; cases e
  have hmem : ∀ x ∈ (if h ∈ hs then hs else hs ++ [h]), x = h ∨ x ∈ hs := fun x hx => by
    split at hx
    · exact .inr hx
    · exact (List.mem_append.mp hx).elim .inr fun z => .inl (List.mem_singleton.mp z)
  have gd : ∀ y, y < m.wide → ps[y]? = some (ps.getD y 0) := fun y hy => by
    rw [← h2] at hy
    rw [List.getD_eq_getElem?_getD, List.getElem?_eq_getElem hy]; rfl
  have gm : ∀ y, y < m.wide → ps.getD y 0 ∈ ps := fun y hy => List.mem_of_getElem? (gd y hy)
  refine ⟨?_, fun x hx => ?_, fun x hx y hy => ?_, fun x hx x' hx' y hy y' hy' e => ?_, fun x hx x' hx' e => ?_, a.np, fun x hx => ?_, fun x hx y hy => ?_, by rw [hw]; exact a.w0⟩
  · rw [upd_same, dOf_upd']
    congr 2
    refine dOf_congr fun x _ => ?_
    by_cases e : x = h
    · simp [e]
    · simp [e]
  · rw [hw]
    by_cases e : x = h
    · rw [if_pos e, upd_ne (ne h1), h1]
      congr 2
      simp only [if_pos e]
      refine List.ext_getElem? fun y => ?_
      rw [List.getElem?_map, List.getElem?_map]
      by_cases hy : y < m.wide
      · rw [gd y hy, List.getElem?_range hy]; rfl
      · rw [List.getElem?_eq_none (by omega), List.getElem?_eq_none (by rw [List.length_range]; omega)]; rfl
    · have hx' := (hmem x hx).resolve_left e
      rw [if_neg e, upd_ne (ne (a.row x hx')), a.row x hx']
      simp only [if_neg e]
  · rw [hw] at hy
    by_cases e : x = h
    · have q := h3 y _ (gd y hy)
      simp only [if_pos e]
      rw [upd_ne (ne q), e]; exact q
    · have hx' := (hmem x hx).resolve_left e
      simp only [if_neg e]
      rw [upd_ne (ne (a.bk x hx' y hy)), e2 x hx' e]; exact a.bk x hx' y hy
  · rw [hw] at hy hy'
    by_cases e1 : x = h <;> by_cases e3 : x' = h
    · simp only [if_pos e1, if_pos e3] at e
      refine ⟨e1.trans e3.symm, ?_⟩
      have q1 := gd y hy
      have q2 := gd y' hy'
      rw [e] at q1
      exact (List.getElem?_inj (by rw [h2]; exact hy) nd).mp (q1.trans q2.symm)
    · simp only [if_pos e1, if_neg e3] at e
      exact absurd e.symm (n3 _ (gm y hy) x' ((hmem x' hx').resolve_left e3) y' hy')
    · simp only [if_neg e1, if_pos e3] at e
      exact absurd e (n3 _ (gm y' hy') x ((hmem x hx).resolve_left e1) y hy)
    · simp only [if_neg e1, if_neg e3] at e
      exact a.inj x ((hmem x hx).resolve_left e1) x' ((hmem x' hx').resolve_left e3) y hy y' hy' e
  · by_cases e1 : x = h <;> by_cases e3 : x' = h
    · exact e1.trans e3.symm
    · rw [if_pos e1, if_neg e3] at e
      exact absurd e.symm (n4 x' ((hmem x' hx').resolve_left e3))
    · rw [if_neg e1, if_pos e3] at e
      exact absurd e (n4 x ((hmem x hx).resolve_left e1))
    · rw [if_neg e1, if_neg e3] at e
      exact a.gin x ((hmem x hx).resolve_left e1) x' ((hmem x' hx').resolve_left e3) e
  · by_cases e1 : x = h
    · rw [if_pos e1]; exact n1
    · rw [if_neg e1]; exact a.ng x ((hmem x hx).resolve_left e1)
  · rw [hw] at hy
    by_cases e1 : x = h
    · simp only [if_pos e1]; exact n2 _ (gm y hy)
    · simp only [if_neg e1]; exact a.nb x ((hmem x hx).resolve_left e1) y hy
end
def sp_l_tables (T : Tx K mg base) : Sp := fun vs H Q _ => ∃ (A : TA) (F : Addr → Prop) (m : TM) (N : List Nat), vs = [.ref A.t] ∧ TownAt T H A F m ∧ m.Ok N ∧ ∀ p g b H', H p = none → Ex H H' → RowsM H H' p (sortU m.houses) m g b → Q (.ref p) H'
theorem wc_l_tables {N : List Nat} (t : TownAt T H A F m) (k : m.Ok N) (q : ∀ p g b H', H p = none → Ex H H' → RowsM H H' p (sortU m.houses) m g b → Q (.ref p) H') : sp_l_tables T [.ref A.t] H Q E := ⟨A, F, m, N, rfl, t, k, q⟩
theorem ok_l_tables (T : Tx K mg base) : FnOk P w K mg base CX0 4 T.a_l_tables T.d_l_tables ["_law_town"] (sp_l_tables T) := by
  refine T.F_l_tables.okD sc_l_tables (fun vs H Q E h => ?_) (fun cdv A outer s H vs Q E hr h => ?_)
  · obtain ⟨A, F, m, N, rfl, _⟩ := h; rfl
  · obtain ⟨A1, F, m, N, rfl, t, k, q⟩ := h
    obtain ⟨dx, ob⟩ := t.tw.ob
    have hu := hu_of hr
    have hz := k.houses_len
    have c_Bucket := T.c_Bucket; have n_Bucket_room := T.n_Bucket_room; have n_Bucket_line := T.n_Bucket_line; have c_Table := T.c_Table; have n_Table_own := T.n_Table_own; have n_Table_wide := T.n_Table_wide; have n_Table_room := T.n_Table_room; have n_Table_buckets := T.n_Table_buckets; have c_Town := T.c_Town; have n_Town_wide := T.n_Town_wide; have n_Town_room := T.n_Town_room; have n_Town_tables := T.n_Town_tables; have n_Town_hushed := T.n_Town_hushed
    refine ⟨_, (pss_cons (ps_set (i := 1) sc_l_tables.nd rfl (Or.inl rfl) pe_dnewK)
      (pss_cons (ps_for PassesOwn.never rfl (pi_list (pe_meth0 (pv 0) T.c_Town T.t_Town_houses (ok_Town_houses T) (hr.mono (by decide)) T.b_Town_houses .nil pass0)) (pg_name (i := 2) sc_l_tables.nd rfl (Or.inr rfl))
      (pss_one (ps_dput hu (pv 1) (pv 2) (pe_lc (own := [("_law_k", 3)]) (g := (gName 3)) (by rfl) sc_l_tables.nd (pi_range1 rfl T.z_range (pa_cons (pe_fld (pv 0) rfl) pa_nil)) (blkOk_by (N := N_l_tables) (sc := defScope s_l_tables) (own := [("_law_k", 3)]) (by decide +kernel)) (fun _ _ _ _ _ => (pg_name (i := 3) sc_l_tables.nd rfl (Or.inl rfl))) (fun _ _ _ _ _ => pts_nil) (fun _ _ _ _ _ => (pe_meth (pv 0) T.c_Town T.t_Town_bucket (ok_Town_bucket T) hr T.b_Town_bucket .nil pass0 (pa_cons (pv 2) (pa_cons (pv 3) pa_nil))))) rfl)))
      (pss_one (ps_ret (pv 1))))), ?_⟩
    rw [Nn.st_l_tables]; try rw [Nn.cxK]
    try rw [Nn.cxW]
    walk_at "wx"
    refine fun p1 hp1 => ?_
    have ex1 := Ex.new (o := .dK []) hp1
    have r1 : RowsM H (upd H p1 (.dK [])) p1 [] m (fun _ => p1) (fun _ _ => p1) := ⟨upd_same, by simp, by simp, by simp, by simp, hp1, by simp, by simp, k.w0⟩
    generalize upd H p1 (.dK []) = H1 at ex1 r1 ⊢
    have t1 := t.ex' ex1
    obtain ⟨dx1, ob1⟩ := t1.tw.ob
    have hw1 := k.w1
    walk_at "wx"
    refine wc_Town_houses t1 hz k.nd fun p2 hp2 => ?_
    have ex2 := ex1.newT (o := .lst ((sortU m.houses).map nV)) hp2
    have h22 := upd_same (H := H1) (a := p2) (o := .lst ((sortU m.houses).map nV))
    have r2 := r1.ex (Ex.new (o := .lst ((sortU m.houses).map nV)) hp2)
    generalize upd H1 p2 (.lst ((sortU m.houses).map nV)) = H2 at ex2 h22 r2 ⊢
    walk_at "wx"
    refine ForW.by walk_list (fun i σ H' => ∃ (v2 v3 : Option V) (g : Nat → Addr) (b : Nat → Nat → Addr), σ = [some (.ref A1.t), some (.ref p1), v2, v3] ∧ Ex H H' ∧ H' p2 = some (.lst ((sortU m.houses).map nV)) ∧ RowsM H H' p1 ((sortU m.houses).take i) m g b) ⟨_, _, _, _, rfl, ex2, h22, r2⟩ (fun i σ H' _ ⟨_, _, _, _, _, _, e, _⟩ => SqL.of e) ?_ ?_
    · rintro i x σ _ H3 hi ⟨v2, v3, g, b, rfl, ex3, h23, r3⟩ ⟨rfl, hx⟩
      rw [List.length_map] at hi
      obtain rfl : x = nV (sortU m.houses)[i] := by
        rw [List.getElem?_map, List.getElem?_eq_getElem hi] at hx
        exact (Option.some.inj hx).symm
      have hm := mem_sortU.mp (List.getElem_mem hi)
      have hsl : (sortU m.houses).length < 64 := Nat.lt_of_le_of_lt (nodup_len (rising_nodup (sortU_sorted _)) fun _ z => mem_sortU.mp z) hz
      have hni : (sortU m.houses)[i] ∉ (sortU m.houses).take i := fun z => by
        have nd := rising_nodup (sortU_sorted m.houses)
        rw [← List.take_append_drop i (sortU m.houses)] at nd
        have q := (List.nodup_append.mp nd).2.2
        exact q _ z _ (by rw [List.drop_eq_getElem_cons hi]; exact List.mem_cons_self) rfl
      have t3 := t.ex' ex3
      obtain ⟨dx3, ob3⟩ := t3.tw.ob
      walk_at "wx"
      refine LcW.by1 walk_rgN (by rw [sizeLine_eq]; omega) (fun D j acc H' => ∃ ps : List Addr, acc = ps.map V.ref ∧ ps.length = j ∧ Ex H3 H' ∧ ps.Nodup ∧ (∀ p ∈ ps, H3 p = none ∧ H' p ≠ none) ∧ ∀ j' p, ps[j']? = some p → p ≠ D ∧ H' p = some (.lst ((m.row (sortU m.houses)[i] j').map nV)))
        (fun D hD => ⟨[], rfl, rfl, Ex.new hD, by simp, by simp, by simp⟩) (fun _ _ _ _ _ _ _ => trivial) ?_ ?_
      · rintro D j acc x H4 _ hj hD ⟨ps, rfl, hl, ex4, pnd, pnw, hp⟩ hat ⟨rfl, rfl⟩ Qe hQ
        have t4 := t.ex' (ex3.trans ex4)
        obtain ⟨dx4, ob4⟩ := t4.tw.ob
        walk_at "wx"
        refine wc_Town_bucket rfl rfl t4 k.w1 (k.bd hm) hm hj fun p5 hp5 => ?_
        have nD : p5 ≠ D := fun z => by rw [z, hat] at hp5; cases hp5
        refine hQ (.ref p5) _ (at_new hp5 hat) ⟨ps ++ [p5], by simp, by simp [hl], (ex4.newT hp5).mut hD (at_new hp5 hat), nd_snocA pnd fun z => (pnw p5 z).2 hp5, fun q hq => ?_, fun j' p hp' => ?_⟩
        · rcases List.mem_append.mp hq with z | z
          · refine ⟨(pnw q z).1, ?_⟩
            by_cases eD : q = D
            · rw [eD, upd_same]; exact fun c => by cases c
            · rw [upd_ne eD]
              by_cases e5 : q = p5
              · rw [e5, upd_same]; exact fun c => by cases c
              · rw [upd_ne e5]; exact (pnw q z).2
          · rw [List.mem_singleton.mp z]
            refine ⟨ex4.back p5 hp5, ?_⟩
            rw [upd_ne nD, upd_same]; exact fun c => by cases c
        by_cases hj' : j' < ps.length
        · rw [List.getElem?_append_left hj'] at hp'
          obtain ⟨g1, g2⟩ := hp j' p hp'
          exact ⟨g1, by rw [upd_ne g1]; exact at_new hp5 g2⟩
        · have hl2 := (List.getElem?_eq_some_iff.mp hp').1
          have ej : j' = ps.length := by simp at hl2; omega
          rw [ej, List.getElem?_append_right (Nat.le_refl _), Nat.sub_self] at hp'
          cases hp'
          exact ⟨nD, by rw [upd_ne nD, upd_same, ej, hl]; rfl⟩
      · rintro D acc H4 hD ⟨ps, rfl, hl, ex4, pnd, pnw, hp⟩ hat _
        have r4 := r3.ex ex4
        have r4a := r4.at_
        have ex04 := ex3.trans ex4
        have h24 := ex4.at h23
        have n21 : p2 ≠ p1 := fun z => by rw [z, r4a] at h24; cases h24
        have hdl : (dOf ((sortU m.houses).take i) fun h => V.ref (g h)).length ≤ 64 := by rw [dOf_len, List.length_take]; omega
        walk_at "wx"
        refine x_dput r4a (by rw [sizeLine_eq]; omega) ?_
        have r5 := r4.put (m' := m) (h := (sortU m.houses)[i]) hat hl (fun j q hq => (hp j q hq).2) pnd (ex3.back D hD) (fun q hq => ex3.back q (pnw q hq).1) (fun q hq x hx y hy e => by have z := r3.bk x hx y hy; rw [e, (pnw q hq).1] at z; cases z) (fun x hx e => by have z := r3.row x hx; rw [e, hD] at z; cases z) rfl fun _ _ _ _ => rfl
        rw [if_neg hni] at r5
        have etk : (sortU m.houses).take i ++ [(sortU m.houses)[i]] = (sortU m.houses).take (i + 1) := by rw [List.take_add_one, List.getElem?_eq_getElem hi]; rfl
        rw [etk] at r5
        exact ⟨_, _, _, _, rfl, ex04.mut hp1 r4a, by rw [upd_ne n21]; exact h24, r5⟩
    · rintro σ H3 ⟨v2, v3, g, b, rfl, ex3, h23, r3⟩
      rw [List.length_map, List.take_length] at r3
      walk_at "wx"
      exact q p1 g b H3 hp1 ex3 r3
def TM.Clo (m : TM) (l : List Nat) : Prop := ∀ y ∈ l, ∀ z ∈ (m.tab y).flatten, m.aw z = true → z ∈ l
def sp_l_reach (T : Tx K mg base) : Sp := fun vs H Q _ => ∃ (A : TA) (F : Addr → Prop) (m : TM) (N : List Nat) (h : Nat), vs = [.ref A.t, .int h] ∧ TownAt T H A F m ∧ m.Ok N ∧ m.aw h = true ∧ ∀ p H', H p = none → Ex H H' → H' p = some (.lst ((m.comeTo h).map nV)) → Q (.ref p) H'
theorem wc_l_reach {N : List Nat} {h : Nat} {i : Int} (hi : i = h) (t : TownAt T H A F m) (k : m.Ok N) (hd : m.aw h = true) (q : ∀ p H', H p = none → Ex H H' → H' p = some (.lst ((m.comeTo h).map nV)) → Q (.ref p) H') : sp_l_reach T [.ref A.t, .int i] H Q E := by
  subst hi; exact ⟨A, F, m, N, h, rfl, t, k, hd, q⟩
theorem ok_l_reach (T : Tx K mg base) : FnOk P w K mg base CX0 4 T.a_l_reach T.d_l_reach ["_law_town", "_law_house"] (sp_l_reach T) := by
  refine T.F_l_reach.okD sc_l_reach (fun vs H Q E h => ?_) (fun cdv A outer s H vs Q E hr h => ?_)
  · obtain ⟨A, F, m, N, h0, rfl, _⟩ := h; rfl
  · obtain ⟨A1, F, m, N, h0, rfl, t, k, haw, q⟩ := h
    obtain ⟨dx, ob⟩ := t.tw.ob
    have hu := hu_of hr
    have hm0 := TM.aw_house haw
    have hz := k.houses_len
    have hll := k.live_len
    have fl : ∀ {l : List Nat}, l.Nodup → (∀ x ∈ l, m.aw x = true) → l.length ≤ m.live.length := fun nd hr => nodup_len nd fun x hx => TM.mem_live.mpr (hr x hx)
    have awr : ∀ x, m.Reach h0 x → m.aw x = true := fun x r => by
      cases r with
      | self => exact haw
      | step _ _ e => exact e
    have c_Bucket := T.c_Bucket; have n_Bucket_room := T.n_Bucket_room; have n_Bucket_line := T.n_Bucket_line; have c_Table := T.c_Table; have n_Table_own := T.n_Table_own; have n_Table_wide := T.n_Table_wide; have n_Table_room := T.n_Table_room; have n_Table_buckets := T.n_Table_buckets; have c_Town := T.c_Town; have n_Town_wide := T.n_Town_wide; have n_Town_room := T.n_Town_room; have n_Town_tables := T.n_Town_tables; have n_Town_hushed := T.n_Town_hushed
    refine ⟨_, (pss_cons (ps_set (i := 2) sc_l_reach.nd rfl (Or.inl rfl) (pe_meth0 (pv 0) T.c_Town T.t_Town_answering (ok_Town_answering T) (hr.mono (by decide)) T.b_Town_answering .nil pass0))
      (pss_cons (ps_set (i := 3) sc_l_reach.nd rfl (Or.inl rfl) (pe_lst (pa_cons (pv 1) pa_nil)))
      (pss_cons (ps_for PassesOwn.never rfl (pi_range1 rfl T.z_range (pa_cons (pe_callB cb_len (by rfl) T.z_len PySem.boot_len (pa_cons (pv 2) pa_nil)) pa_nil)) (pg_name (i := 4) sc_l_reach.nd rfl (Or.inl rfl))
      (pss_one (ps_for PassesOwn.never rfl (pi_list (pe_callTy cb_list (by rfl) T.z_list (by decide +kernel) (pa_cons (pv 3) pa_nil))) (pg_name (i := 5) sc_l_reach.nd rfl (Or.inl rfl))
      (pss_one (ps_for PassesOwn.never rfl (pi_list (pe_meth (pv 0) T.c_Town T.t_Town_keeps (ok_Town_keeps T) hr T.b_Town_keeps .nil pass0 (pa_cons (pv 5) pa_nil))) (pg_name (i := 6) sc_l_reach.nd rfl (Or.inl rfl))
      (pss_one (ps_if (PW.pt (pw_and (pt_cmpR op_in_seq (pv 6) (pv 2) rfl) (pw_and1 (pt_cmpR op_notIn_seq (pv 6) (pv 3) rfl))))
      (pss_one (ps_expr (pe_bm PySem.F.plainAttrs_list PySem.F.slot_list_append PySem.F.type_list_append mt_append (pv 3) (pa_cons (pv 6) pa_nil))))
      pss_nil)))))))
      (pss_one (ps_ret (pe_callB cr_sortedI (by rfl) T.z_sorted (by decide +kernel) (pa_cons (pv 3) pa_nil))))))), ?_⟩
    rw [Nn.st_l_reach]; try rw [Nn.cxK]
    try rw [Nn.cxW]
    walk_at "wx"
    refine wc_Town_answering t hz k.nd fun pL HL hpL exL hL => ?_
    walk_at "wx"
    refine ⟨len_ok rfl, fun d hd => ?_⟩
    have ex1 := exL.newT (o := .lst [V.int (h0 : Int)]) hd
    have hL1 := at_new (o := .lst [V.int (h0 : Int)]) hd hL
    have nLd := ne_of_none hL hd
    have hd1 := upd_same (H := HL) (a := d) (o := .lst [V.int (h0 : Int)])
    have hd0 := exL.back d hd
    generalize upd HL d (.lst [V.int (h0 : Int)]) = H1 at ex1 hd1 hL1 ⊢
    clear hd hL exL hpL
    have hd := hd0
    have hlm : (m.live.map nV).length = m.live.length := List.length_map _
    walk_at "wx"
    rw [hlm]
    refine ForW.by walk_rgN (n := m.live.length) (fun i σ H' => ∃ (fd : List Nat) (v3 v4 v5 : Option V), σ = [some (.ref A1.t), some (.int h0), some (.ref pL), some (.ref d), v3, v4, v5] ∧ Ex H H' ∧ H' pL = some (.lst (m.live.map nV)) ∧ H' d = some (.lst (fd.map nV)) ∧ fd.Nodup ∧ h0 ∈ fd ∧ (∀ x ∈ fd, m.Reach h0 x) ∧ (m.Clo fd ∨ i + 1 ≤ fd.length))
      ⟨[h0], _, _, _, rfl, ex1, hL1, hd1, by simp, by simp, fun x hx => by rw [List.mem_singleton.mp hx]; exact .self, .inr (by simp)⟩ (fun _ _ _ _ _ => trivial) ?_ ?_
    · rintro i _ σ _ H2 hi ⟨fd, v3, v4, v5, rfl, ex2, hL2, hd2, nd2, h02, hre2, hcl2⟩ ⟨rfl, rfl⟩
      walk_at "wx"
      refine x_listL (SqL.of hd2) fun p3 hp3 => ?_
      have ex3 := ex2.newT (o := .lst (fd.map nV)) hp3
      have hd3 := at_new (o := .lst (fd.map nV)) hp3 hd2
      have hL3 := at_new (o := .lst (fd.map nV)) hp3 hL2
      have h33 := upd_same (H := H2) (a := p3) (o := .lst (fd.map nV))
      have np3 := ne_of_none hd2 hp3
      generalize upd H2 p3 (.lst (fd.map nV)) = H3 at ex3 hd3 h33 hL3 ⊢
      walk_at "wx"
      refine ForW.by walk_list (fun j σ H' => ∃ (more : List Nat) (v4 v5 : Option V), σ = [some (.ref A1.t), some (.int h0), some (.ref pL), some (.ref d), some (nV i), v4, v5] ∧ Ex H H' ∧ H' pL = some (.lst (m.live.map nV)) ∧ H' d = some (.lst ((fd ++ more).map nV)) ∧ H' p3 = some (.lst (fd.map nV)) ∧ (fd ++ more).Nodup ∧ (∀ x ∈ fd ++ more, m.Reach h0 x) ∧
          (∀ y ∈ fd.take j, ∀ z ∈ (m.tab y).flatten, m.aw z = true → z ∈ fd ++ more))
        ⟨[], _, _, rfl, ex3, hL3, by rw [List.append_nil]; exact hd3, h33, by rw [List.append_nil]; exact nd2, by rw [List.append_nil]; exact hre2, by simp⟩ (fun i σ H' _ ⟨_, _, _, _, _, _, _, e, _⟩ => SqL.of e) ?_ ?_
      · rintro j x σ _ H4 hj ⟨more, v4, v5, rfl, ex4, hL4, hd4, hp4, nd4, hre4, hcl4⟩ ⟨rfl, hx⟩
        rw [List.length_map] at hj
        obtain rfl : x = nV fd[j] := by
          rw [List.getElem?_map, List.getElem?_eq_getElem hj] at hx
          exact (Option.some.inj hx).symm
        have etj : fd.take (j + 1) = fd.take j ++ [fd[j]] := by rw [List.take_add_one, List.getElem?_eq_getElem hj]; rfl
        have hy := hre2 _ (List.getElem_mem hj)
        rw [etj]
        generalize fd[j] = y at hy
        have t4 := t.ex' ex4
        obtain ⟨dx4, ob4⟩ := t4.tw.ob
        have hyh := hy.house hm0
        have hky := k.keeps_len hyh
        walk_at "wx"
        refine wc_Town_keeps rfl t4 k.w1 (k.bd hyh) hyh (k.tabOk hyh).nodup (by omega) fun p5 H5 hp5 ex5 h55 => ?_
        have hd5 := ex5.at hd4
        have np5 := ne_of_none hd4 hp5
        walk_at "wx"
        refine ForW.by walk_list (fun i2 σ H' => ∃ (mo : List Nat) (v5 : Option V), σ = [some (.ref A1.t), some (.int h0), some (.ref pL), some (.ref d), some (nV i), some (nV y), v5] ∧ Ex H H' ∧ H' pL = some (.lst (m.live.map nV)) ∧ H' d = some (.lst ((fd ++ (more ++ mo)).map nV)) ∧ H' p3 = some (.lst (fd.map nV)) ∧ H' p5 = some (.lst ((m.keeps y).map nV)) ∧ (fd ++ (more ++ mo)).Nodup ∧ (∀ x ∈ fd ++ (more ++ mo), m.Reach h0 x) ∧
            (∀ z ∈ (m.keeps y).take i2, m.aw z = true → z ∈ fd ++ (more ++ mo)))
          ⟨[], _, rfl, ex4.trans ex5, ex5.at hL4, by rw [List.append_nil]; exact hd5, ex5.at hp4, h55, by rw [List.append_nil]; exact nd4, by rw [List.append_nil]; exact hre4, by simp⟩ (fun i σ H' _ ⟨_, _, _, _, _, _, _, e, _⟩ => SqL.of e) ?_ ?_
        · rintro i2 x σ _ H6 hi2 ⟨mo, v5, rfl, ex6, hL6, hd6, hp6, h56, nd6, hre6, hz6⟩ ⟨rfl, hx⟩
          rw [List.length_map] at hi2
          obtain rfl : x = nV (m.keeps y)[i2] := by
            rw [List.getElem?_map, List.getElem?_eq_getElem hi2] at hx
            exact (Option.some.inj hx).symm
          have etz : (m.keeps y).take (i2 + 1) = (m.keeps y).take i2 ++ [(m.keeps y)[i2]] := by rw [List.take_add_one, List.getElem?_eq_getElem hi2]; rfl
          have hzk := TM.mem_keeps.mp (List.getElem_mem hi2)
          rw [etz]
          generalize (m.keeps y)[i2] = z at hzk
          have t6 := t.ex' ex6
          have hfl6 := fl nd6 fun x hx => awr x (hre6 x hx)
          simp only [List.length_append] at hfl6
          have hz6' : ∀ {l : List Nat}, (∀ x ∈ fd ++ (more ++ mo), x ∈ l) → z ∈ l → ∀ x ∈ (m.keeps y).take i2 ++ [z], m.aw x = true → x ∈ l := fun h1 h2 x hx ha => by
            rcases List.mem_append.mp hx with hx | hx
            · exact h1 x (hz6 x hx ha)
            · rw [List.mem_singleton.mp hx]; exact h2
          walk_at "wx"
          refine x_ite (fun haz => ?_) fun haz => ?_
          · have haz := TM.mem_live.mp haz
            walk_at "wx"
            refine x_ifN (fun hin => ?_) fun hin => ?_
            · walk_at "wx"
              have e3 : fd ++ (more ++ (mo ++ [z])) = (fd ++ (more ++ mo)) ++ [z] := by simp
              refine ⟨mo ++ [z], _, rfl, ex6.mut hd hd6, by rw [upd_ne nLd]; exact hL6, by rw [upd_same, e3, List.map_append (l₁ := fd ++ (more ++ mo))]; rfl, by rw [upd_ne np3.symm]; exact hp6, by rw [upd_ne np5.symm]; exact h56, by rw [e3]; exact nd_snoc nd6 hin, fun x hx => ?_, ?_⟩
              · rw [e3] at hx
                rcases List.mem_append.mp hx with hx | hx
                · exact hre6 x hx
                · rw [List.mem_singleton.mp hx]; exact .step hy hzk haz
              · rw [e3]
                exact hz6' (fun x hx => List.mem_append.mpr (.inl hx)) (by simp)
            · walk_at "wx"
              exact ⟨mo, _, rfl, ex6, hL6, hd6, hp6, h56, nd6, hre6, hz6' (fun x hx => hx) hin⟩
          · walk_at "wx"
            refine ⟨mo, _, rfl, ex6, hL6, hd6, hp6, h56, nd6, hre6, fun x hx ha => ?_⟩
            rcases List.mem_append.mp hx with hx | hx
            · exact hz6 x hx ha
            · rw [List.mem_singleton.mp hx] at ha; exact absurd (TM.mem_live.mpr ha) haz
        · rintro σ H6 ⟨mo, v5, rfl, ex6, hL6, hd6, hp6, h56, nd6, hre6, hz6⟩
          rw [List.length_map, List.take_length] at hz6
          walk_at "wx"
          refine ⟨more ++ mo, _, _, rfl, ex6, hL6, hd6, hp6, nd6, hre6, fun x hx z hzt ha => ?_⟩
          rcases List.mem_append.mp hx with hx | hx
          · have q := hcl4 x hx z hzt ha
            rw [← List.append_assoc]; exact List.mem_append.mpr (.inl q)
          · rw [List.mem_singleton.mp hx] at hzt
            exact hz6 z (TM.mem_keeps.mpr hzt) ha
      · rintro σ H4 ⟨more, v4, v5, rfl, ex4, hL4, hd4, hp4, nd4, hre4, hcl4⟩
        rw [List.length_map, List.take_length] at hcl4
        walk_at "wx"
        refine ⟨fd ++ more, _, _, _, rfl, ex4, hL4, hd4, nd4, List.mem_append.mpr (.inl h02), hre4, ?_⟩
        rcases hcl2 with hc | hc
        · refine .inl fun y hy z hzt ha => ?_
          have hy2 : y ∈ fd := (hre4 y hy).closed h02 hc
          exact hcl4 y hy2 z hzt ha
        · by_cases e : more = []
          · subst e
            rw [List.append_nil] at hcl4 ⊢
            exact .inl hcl4
          · have hl : 0 < more.length := List.length_pos_iff.mpr e
            exact .inr (by rw [List.length_append]; omega)
    · rintro σ H2 ⟨fd, v3, v4, v5, rfl, ex2, hL2, hd2, nd2, h02, hre2, hcl2⟩
      have hcl : m.Clo fd := hcl2.elim id fun z => absurd (fl nd2 fun x hx => awr x (hre2 x hx)) (by omega)
      walk_at "wx"
      refine x_sortN (SqL.of hd2) nd2 fun p hp => ?_
      rw [TM.comeTo_eq hm0 h02 hre2 hcl]
      exact q p _ (ex2.back p hp) (ex2.newT hp) upd_same
end
end Nn
/-! k45: whether all is as it is (none comes to) -/
namespace Nn
open PySem L2
section
variable {P : Program} {w : World} {K : PySem.W.Frag} {mg : Str → Option Value} {base : Heap} {H H' : Hp} {Q : VK} {E : XK} {T : Tx K mg base} {A : TA} {F : Addr → Prop} {m : TM}
def pairD : Option (Nat × Nat) → PyData
  | none => .none
  | some x => .tuple [.int x.1, .int x.2]
theorem PairV.dp {v : V} {o : Option (Nat × Nat)} (h : PairV H v o) : Dp K H v (pairD o) := by
  cases o with
  | none =>
    obtain rfl : v = .non := h
    exact .non
  | some x =>
    obtain ⟨p, rfl, hp⟩ := h
    exact .tup (SqT.of hp) (.cons (.int _) (.cons (.int _) .nil))
theorem pairD_shp {o : Option (Nat × Nat)} : Shp (pairD o) 1 := by
  cases o with
  | none => exact ⟨Shp.non.1, Nat.le_succ_of_le Shp.non.2⟩
  | some x =>
    refine Shp.tup fun z hz => ?_
    simp at hz
    rcases hz with rfl | rfl <;> exact .int
theorem holes_shp : Shp (.list (m.holesN.map fun x => PyData.tuple [.int x.1, .int x.2])) 2 := Shp.lst fun y hy => by
  obtain ⟨x, _, rfl⟩ := List.mem_map.mp hy
  exact Shp.tup fun z hz => by
    simp at hz
    rcases hz with rfl | rfl <;> exact .int
def sp_l_as_it_is__law_tells (T : Tx K mg base) : List (Option V) → Sp := sp_tellsT T
theorem nok_l_as_it_is__law_tells (T : Tx K mg base) {cl : List (Str × Addr)} {c : Addr} (f : Addr) : NdefX.NOk P w K mg base CX0 5 f (nf_l_as_it_is__law_tells cl c) ["_law_house", "_law_aim", "_law_asker"] fr_l_as_it_is__law_tells (sp_l_as_it_is__law_tells T) := by
  refine NdefX.nok_of (N := N_l_as_it_is__law_tells) nsc_l_as_it_is__law_tells (fun doc pm ctv us hl => match us, hl with | [_, _, _], _ => rfl) (fun ws vs H Q E h => ?_) (fun A outer s H vs ws Q E hr hf hc hwl h => ?_)
  · obtain ⟨A, F, m, N, h0, g, a, _, rfl, _⟩ := h; rfl
  · obtain ⟨A1, F, m, N, h0, g, a, rfl, rfl, t, k, q⟩ := h
    obtain ⟨dx, ob⟩ := t.tw.ob
    have c_Bucket := T.c_Bucket; have n_Bucket_room := T.n_Bucket_room; have n_Bucket_line := T.n_Bucket_line; have c_Table := T.c_Table; have n_Table_own := T.n_Table_own; have n_Table_wide := T.n_Table_wide; have n_Table_room := T.n_Table_room; have n_Table_buckets := T.n_Table_buckets; have c_Town := T.c_Town; have n_Town_wide := T.n_Town_wide; have n_Town_room := T.n_Town_room; have n_Town_tables := T.n_Town_tables; have n_Town_hushed := T.n_Town_hushed
    refine ⟨_, (pss_one (ps_ret (pe_meth (pv 3) T.c_Town T.t_Town_tells (ok_Town_tells T) hr T.b_Town_tells .nil pass0 (pa_cons (pv 0) (pa_cons (pv 1) (pa_cons (pv 2) pa_nil)))))), ?_⟩
    rw [Nn.st_l_as_it_is__law_tells]; try rw [Nn.cxK]
    try rw [Nn.cxW]
    walk_at "wx"
    exact wc_Town_tells rfl rfl rfl t k q
abbrev tel_l_as_it_is__law_tells (T : Tx K mg base) : Tel P w K mg base where
  st := s_l_as_it_is__law_tells
  name := "_law_tells"
  qual := (("_law_as_it_is" : Str) ++ ".<locals>.") ++ "_law_tells"
  ps := ["_law_house", "_law_aim", "_law_asker"]
  fr := fr_l_as_it_is__law_tells
  sp := sp_l_as_it_is__law_tells T
  ok := fun cl cd f => (nok_l_as_it_is__law_tells T f).mono (by decide)
def sp_l_as_it_is (T : Tx K mg base) : Sp := fun vs H Q _ => ∃ (A : TA) (F : Addr → Prop) (m : TM) (N : List Nat), vs = [.ref A.t] ∧ TownAt T H A F m ∧ m.Ok N ∧ N.length < 63 ∧ NdefX.TabsN (tabsL T) H ∧ ∀ H', Ex H H' → Q (.bl true) H'
theorem wc_l_as_it_is {N : List Nat} (t : TownAt T H A F m) (k : m.Ok N) (hN : N.length < 63) (tb : NdefX.TabsN (tabsL T) H) (q : ∀ H', Ex H H' → Q (.bl true) H') : sp_l_as_it_is T [.ref A.t] H Q E := ⟨A, F, m, N, rfl, t, k, hN, tb, q⟩
theorem ok_l_as_it_is (T : Tx K mg base) : FnOk P w K mg base CX0 9 T.a_l_as_it_is T.d_l_as_it_is ["_law_town"] (sp_l_as_it_is T) := by
  refine T.FC_l_as_it_is.okC sc_l_as_it_is (fun vs H Q E h => ?_) (fun A outer s H vs Q E hr h => ?_)
  · obtain ⟨A, F, m, N, rfl, _⟩ := h; rfl
  · obtain ⟨A1, F, m, N, rfl, t, k, hN, hT, q⟩ := h
    obtain ⟨dx, ob⟩ := t.tw.ob
    have hu := hu_of hr
    have hz := k.houses_len
    have hll := k.live_len
    have c_Bucket := T.c_Bucket; have n_Bucket_room := T.n_Bucket_room; have n_Bucket_line := T.n_Bucket_line; have c_Table := T.c_Table; have n_Table_own := T.n_Table_own; have n_Table_wide := T.n_Table_wide; have n_Table_room := T.n_Table_room; have n_Table_buckets := T.n_Table_buckets; have c_Town := T.c_Town; have n_Town_wide := T.n_Town_wide; have n_Town_room := T.n_Town_room; have n_Town_tables := T.n_Town_tables; have n_Town_hushed := T.n_Town_hushed
    refine ⟨_, (pss_cons (ps_ndefA (st := s_l_as_it_is__law_tells) (i := 1) rfl T.tb_l_as_it_is rfl nm_l_as_it_is__law_tells (NdefX.ndef_free ndB_l_as_it_is__law_tells) rfl rfl rfl sc_l_as_it_is.nd rfl (Or.inl rfl) (.inl rfl))
      (pss_cons (ps_set (i := 2) sc_l_as_it_is.nd rfl (Or.inl rfl) (pe_meth0 (pv 0) T.c_Town T.t_Town_answering (ok_Town_answering T) (hr.mono (by decide)) T.b_Town_answering .nil pass0))
      (pss_cons (ps_if (PW.pt (pw_or (pt_cmpR (op_neD hr.units) (pe_call (ok_fault T) (hr.mono (by decide)) rfl T.m_fault T.F_fault.kp T.b_fault .nil pass0 (pa_cons (pv 0) pa_nil)) (pe_call (ok_l_fault T) (hr.mono (by decide)) rfl T.m_l_fault T.F_l_fault.kp T.b_l_fault .nil pass0 (pa_cons (pv 0) pa_nil)) (nomark _)) (pw_or1 (pt_cmpR (op_neD hr.units) (pe_call (ok_holes T) (hr.mono (by decide)) rfl T.m_holes T.F_holes.kp T.b_holes .nil pass0 (pa_cons (pv 0) pa_nil)) (pe_call (ok_l_holes T) (hr.mono (by decide)) rfl T.m_l_holes T.F_l_holes.kp T.b_l_holes .nil pass0 (pa_cons (pv 0) pa_nil)) (nomark _)))))
      (pss_one (ps_ret pe_bl))
      pss_nil)
      (pss_cons (ps_for PassesOwn.never rfl (pi_list (pe_op op_cat (pe_slice sl_list (pv 2) po_none (po_some pe_int)) (pe_slice sl_list (pv 2) (po_some (pe_un un_neg pe_int)) po_none))) (pg_name (i := 3) sc_l_as_it_is.nd rfl (Or.inl rfl))
      (pss_one (ps_for PassesOwn.never rfl (pi_list (pv 2)) (pg_name (i := 4) sc_l_as_it_is.nd rfl (Or.inl rfl))
      (pss_one (ps_if (pt_cmpR (op_neD hr.units) (pe_meth (pv 0) T.c_Town T.t_Town_way (ok_Town_way T) hr T.b_Town_way .nil pass0 (pa_cons (pv 3) (pa_cons (pv 4) pa_nil))) (pe_callC (fun ws => ok_way T (tel_l_as_it_is__law_tells T) ws) (Prov.own (js := [0]) fun ok => NdefX.Caps.made ok (NdefX.ndef_free ndB_l_as_it_is__law_tells) (NdefX.ndef_fr ndB_l_as_it_is__law_tells) rfl) (hr.mono (by decide)) rfl T.m_way_asks T.F_way.kp T.b_way .nil pass0 (pa_cons (pv 3) (pa_cons (pv 4) (pa_cons (pv 1) pa_nil)))) (nomark _))
      (pss_one (ps_ret pe_bl))
      pss_nil)))))
      (pss_one (ps_ret pe_bl)))))), ?_⟩
    rw [Nn.st_l_as_it_is]; try rw [Nn.cxK]
    try rw [Nn.cxW]
    walk_at "wx"
    refine ⟨hT _ tabm_l_as_it_is, fun f cd H1 ex1 hf0 hf hcd => ?_⟩
    generalize L2.cloFrom _ _ _ = cl at hf hcd ⊢
    have hf : H1 f = some (NdefX.FnO f (nf_l_as_it_is__law_tells cl cd)) := hf
    have hcd : H1 cd = some (LamX.CodeO cd (nf_l_as_it_is__law_tells cl cd).qual) := hcd
    have t1 := t.ex' ex1
    obtain ⟨dx1, ob1⟩ := t1.tw.ob
    walk_at "wx"
    refine wc_Town_answering t1 hz k.nd fun p2 H2 hp2 ex2 h2 => ?_
    have t2 := t1.ex' ex2
    walk_at "wx"
    refine wc_fault t2 k fun v3 H3 ex3 pv3 => ?_
    have t3 := t2.ex' ex3
    walk_at "wx"
    refine wc_l_fault t3 k fun v4 H4 ex4 pv4 => ?_
    have t4 := t3.ex' ex4
    refine x_neSame (pv3.ex ex4).dp pv4.dp pairD_shp ?_
    walk_at "wx"
    refine wc_holes t4 k fun p5 ts5 H5 hp5 ex5 h5 hl5 el5 => ?_
    have t5 := t4.ex' ex5
    walk_at "wx"
    refine wc_l_holes t5 k fun p6 ts6 H6 hp6 ex6 h6 hl6 el6 => ?_
    refine x_neSame (ps_dp (ex6.at h5) hl5 fun i a x e1 e2 => ex6.at (el5 i a x e1 e2).1) (ps_dp h6 hl6 fun i a x e1 e2 => (el6 i a x e1 e2).1) holes_shp ?_
    have ex26 := ((ex3.trans ex4).trans ex5).trans ex6
    have h26 := ex26.at h2
    have ex06 := (ex1.trans ex2).trans ex26
    have exf := ex2.trans ex26
    have hf6 := exf.at hf
    have hcd6 := exf.at hcd
    clear pv3 pv4 h5 h6 el5 el6 t1 t2 t3 t4 t5 ex3 ex4 ex5 ex6
    walk_at "wx"
    refine x_slN (SqL.of h26) fun l7 p7 H7 hp7 ex7 h7 hl7 hm7 => ?_
    walk_at "wx"
    refine x_slN (SqL.of (ex7.at h26)) fun l8 p8 H8 hp8 ex8 h8 hl8 hm8 => ?_
    have h78 := ex8.at h7
    refine x_cat h78 h8 (by rw [sizeLine_eq, List.length_map, List.length_map]; omega) fun p9 hp9 => ?_
    rw [← List.map_append]
    generalize hU : upd H8 p9 _ = H9
    have ex9 := Ex.new' hp9 hU
    have h9 := new_at hU
    clear hU
    have hlv : ∀ x ∈ l7 ++ l8, x ∈ m.live := fun x hx => (List.mem_append.mp hx).elim (hm7 x) (hm8 x)
    generalize l7 ++ l8 = sl at h9 hlv
    have ex69 := (ex7.trans ex8).trans ex9
    have h29 := ex69.at h26
    have hf9 := ex69.at hf6
    have hcd9 := ex69.at hcd6
    have ex09 := ex06.trans ex69
    clear h7 h8 h78
    walk_at "wx"
    refine ForW.by walk_list (fun i σ H' => ∃ (v3 v4 : Option V), σ = [some (.ref A1.t), some (.ref f), some (.ref p2), v3, v4] ∧ Ex H9 H') ⟨_, _, rfl, Ex.refl⟩ (fun i σ H' _ ⟨_, _, _, e⟩ => SqL.of (e.at h9)) ?_ ?_
    · rintro i x σ _ H10 hi ⟨v3, v4, rfl, ex10⟩ ⟨rfl, hx⟩
      rw [List.length_map] at hi
      obtain rfl : x = nV sl[i] := by
        rw [List.getElem?_map, List.getElem?_eq_getElem hi] at hx
        exact (Option.some.inj hx).symm
      have hsl := hlv _ (List.getElem_mem hi)
      generalize sl[i] = st at hsl
      have haw := TM.mem_live.mp hsl
      have ex010 := ex09.trans ex10
      have t10 := t.ex' ex010
      obtain ⟨dx10, ob10⟩ := t10.tw.ob
      have ex912 := ex10
      have h212 := ex912.at h29
      walk_at "wx"
      refine ForW.by walk_list (fun j σ H' => ∃ (v4 : Option V), σ = [some (.ref A1.t), some (.ref f), some (.ref p2), some (.int st), v4] ∧ Ex H9 H') ⟨_, rfl, ex912⟩ (fun i σ H' _ ⟨_, _, e⟩ => SqL.of (e.at h29)) ?_ ?_
      · rintro j x σ _ H13 hj ⟨v4, rfl, ex13⟩ ⟨rfl, hx⟩
        rw [List.length_map] at hj
        obtain rfl : x = nV m.live[j] := by
          rw [List.getElem?_map, List.getElem?_eq_getElem hj] at hx
          exact (Option.some.inj hx).symm
        have hgl := List.getElem_mem hj
        generalize m.live[j] = g at hgl
        have hg := k.bd (TM.live_house hgl)
        have ex013 := ex09.trans ex13
        have t13 := t.ex' ex013
        obtain ⟨dx13, ob13⟩ := t13.tw.ob
        walk_at "wx"
        refine wc_Town_way rfl rfl t13 k hN haw hg (Fr.tabs ex013 hT) fun p14 H14 hp14 ex14 h14 => ?_
        have t14 := t13.ex' ex14
        have ex914 := ex13.trans ex14
        walk_at "wx"
        refine wc_way (telTown T (tel_l_as_it_is__law_tells T) rfl A1 F m N k hN cl f cd) (cs := []) rfl rfl ⟨t14, ex914.at hf9, ex914.at hcd9⟩ (TM.tells_ne haw) (by simp) fun p15 H15 hp15 fr15 h15 nF hI15 => ?_
        have ex15 : Ex H14 H15 := fr15
        have h15 : H15 p15 = some (.lst ((wayN m.tells g st).map nV)) := h15
        refine x_neLN (SqL.of (ex15.at h14)) (SqL.of h15) ?_
        rw [decide_eq_true rfl]
        walk_at "wx"
        exact ⟨_, rfl, ex914.trans ex15⟩
      · rintro σ H13 ⟨v4, rfl, ex13⟩
        walk_at "wx"
        exact ⟨_, _, rfl, ex13⟩
    · rintro σ H10 ⟨v3, v4, rfl, ex10⟩
      walk_at "wx"
      exact q H10 (ex09.trans ex10)
end
end Nn
/-! what looking round does to each bucket -/
namespace Nn
namespace TM
variable {m : TM} {N : List Nat} {h x j : Nat}
theorem row_drops (k : m.Ok N) (hh : h ∈ m.houses) (hx : x ∈ N) {h' : Nat} : (m.drops h x).row h' j = if h' = h then (m.row h j).filter (fun y => !decide (y = x)) else m.row h' j := by
  show ((m.setTab h (tabD h (m.tab h) x)).tab h').getD j [] = _
  rw [setTab_tab]
  by_cases e : h' = h
  · subst e
    rw [if_pos ⟨rfl, hh⟩, if_pos rfl]
    obtain ⟨r1, _, r3⟩ := k.row (j := j) hh
    have keep : x ∉ m.row h' j → (m.row h' j).filter (fun y => !decide (y = x)) = m.row h' j := fun hn => List.filter_eq_self.mpr fun y hy => by
      simp only [Bool.not_eq_true', decide_eq_false_iff_not]
      exact fun z => hn (by rw [← z]; exact hy)
    unfold tabD
    by_cases e2 : x = h'
    · rw [if_pos e2, keep fun z => (r3 x z).1 e2]; rfl
    · rw [if_neg e2]
      by_cases e3 : stepN h' x = j
      · subst e3
        have hl : stepN h' x < (m.tab h').length := by
          rw [(k.tabOk hh).len]
          exact stepN_lt (k.nb _ (k.hN _ hh)) (k.nb _ hx) fun z => e2 z.symm
        rw [List.getD_eq_getElem?_getD, List.getElem?_set_self hl]
        show (m.row h' (stepN h' x)).erase x = _
        rw [r1.erase_eq_filter]
        refine List.filter_congr fun y _ => ?_
        by_cases q : y = x <;> simp [q]
      · rw [keep fun z => e3 (r3 x z).2.1, List.getD_eq_getElem?_getD, List.getElem?_set_ne e3, ← List.getD_eq_getElem?_getD]; rfl
  · rw [if_neg fun z => e z.1, if_neg e]; rfl
theorem row_clean1 (k : m.Ok N) (hh : h ∈ m.houses) (hx : x ∈ N) {h' : Nat} : (clean1 h m x).row h' j = if h' = h then (m.row h j).filter (fun y => m.aw y || !decide (y = x)) else m.row h' j := by
  unfold clean1
  by_cases e : m.aw x = true
  · rw [if_pos e]
    by_cases e1 : h' = h
    · rw [if_pos e1, e1]
      refine (List.filter_eq_self.mpr fun y _ => ?_).symm
      by_cases q : y = x
      · rw [q, e]; rfl
      · simp [q]
    · rw [if_neg e1]
  · rw [if_neg e, row_drops k hh hx]
    by_cases e1 : h' = h
    · rw [if_pos e1, if_pos e1]
      refine List.filter_congr fun y _ => ?_
      by_cases q : y = x
      · have e : m.aw x = false := by simpa using e
        rw [q, e]; simp
      · simp [q]
    · rw [if_neg e1, if_neg e1]
theorem row_foldC : ∀ {l : List Nat} {m : TM}, m.Ok N → h ∈ m.houses → (∀ x ∈ l, x ∈ N) → ∀ {h' : Nat}, (l.foldl (clean1 h) m).row h' j = if h' = h then (m.row h j).filter (fun y => m.aw y || !decide (y ∈ l)) else m.row h' j
  | [], m, _, _, _, h' => by
    rw [List.foldl_nil]
    by_cases e : h' = h
    · rw [if_pos e, e]
      exact (List.filter_eq_self.mpr fun y _ => by simp).symm
    · rw [if_neg e]
  | x :: r, m, k, hh, hx, h' => by
    have k1 : (clean1 h m x).Ok N := by
      unfold clean1
      split
      · exact k
      · exact k.drops
    rw [List.foldl_cons, row_foldC k1 (by rw [clean1_houses]; exact hh) (fun y hy => hx y (List.mem_cons_of_mem _ hy)), row_clean1 k hh (hx x (List.mem_cons_self ..)), row_clean1 k hh (hx x (List.mem_cons_self ..)), clean1_aw, if_pos rfl]
    by_cases e : h' = h
    · rw [if_pos e, if_pos e, List.filter_filter]
      refine List.filter_congr fun y _ => ?_
      by_cases a : m.aw y = true
      · simp [a]
      · have a : m.aw y = false := by simpa using a
        simp [a, not_or, Bool.and_comm]
    · rw [if_neg e, if_neg e, if_neg e]
theorem row_clean (k : m.Ok N) (hh : h ∈ m.houses) {h' : Nat} : (m.clean h).row h' j = if h' = h then (m.row h j).filter m.aw else m.row h' j := by
  unfold clean
  rw [row_foldC k hh fun x hx => (k.tabOk hh).mem (mem_keeps.mp hx)]
  by_cases e : h' = h
  · rw [if_pos e, if_pos e]
    refine List.filter_congr fun y hy => ?_
    rw [decide_eq_true (mem_keeps.mpr (row_tab hy))]
    simp
  · rw [if_neg e, if_neg e]
end TM
end Nn
/-! tides: what stays, what comes to rest -/
namespace Nn
theorem hear_keep {room n z : Nat} {xs : List Nat} {live : Nat → Bool} (h0 : 0 < room) (hz : z ∈ xs) (hl : live z = true) : z ∈ hearL room xs n (live (xs.headD 0)) := by
  unfold hearL
  by_cases hn : n ∈ xs
  · rw [if_pos hn]
    by_cases e : z = n
    · rw [e]; simp
    · exact List.mem_append.mpr (.inl ((List.mem_erase_of_ne e).mpr hz))
  · rw [if_neg hn]
    by_cases hr : xs.length < room
    · rw [if_pos hr]; exact List.mem_append.mpr (.inl hz)
    · rw [if_neg hr]
      cases xs with
      | nil => cases hz
      | cons x r =>
        by_cases e : z = x
        · rw [if_pos (by rw [← e]; exact hl)]
          rw [e]; simp
        · have hzr := (List.mem_cons.mp hz).resolve_left e
          split
          · exact List.mem_append.mpr (.inl hzr)
          · exact List.mem_append.mpr (.inl hzr)
namespace TM
variable {m m1 m2 : TM} {N : List Nat} {h n h0 : Nat}
/-- the town goes on: answering names that are kept stay; silent houses' buckets stay -/
structure Grow (m m' : TM) : Prop where
  hs : m'.houses = m.houses
  aw : m'.aw = m.aw
  wd : m'.wide = m.wide
  rm : m'.room = m.room
  hu : m'.hush = m.hush
  keep : ∀ h j x, x ∈ m.row h j → m.aw x = true → x ∈ m'.row h j
  sil : ∀ h, m.aw h = false → ∀ j, m'.row h j = m.row h j
theorem Grow.refl : Grow m m := ⟨rfl, rfl, rfl, rfl, rfl, fun _ _ _ h _ => h, fun _ _ _ => rfl⟩
theorem Grow.trans (a : Grow m m1) (b : Grow m1 m2) : Grow m m2 :=
  ⟨b.hs.trans a.hs, b.aw.trans a.aw, b.wd.trans a.wd, b.rm.trans a.rm, b.hu.trans a.hu, fun h j x hx ha => b.keep h j x (a.keep h j x hx ha) (by rw [a.aw]; exact ha), fun h e j => (b.sil h (by rw [a.aw]; exact e) j).trans (a.sil h e j)⟩
theorem Grow.live (a : Grow m m1) : m1.live = m.live := by unfold TM.live; rw [a.hs, a.aw]
theorem Grow.hears (k : m.Ok N) (hh : m.aw h = true) (hn : n ∈ N) : Grow m (m.hears h n) := by
  have hm := aw_house hh
  refine ⟨hears_houses, hears_aw, rfl, rfl, rfl, fun h' j x hx ha => ?_, fun h' e j => ?_⟩
  · rw [row_hears k hm hn]
    split
    · rename_i q
      rw [q.1] at hx
      exact hear_keep k.r0 hx ha
    · exact hx
  · rw [row_hears k hm hn, if_neg]
    intro q
    rw [q.1, hh] at e; cases e
theorem Grow.clean (k : m.Ok N) (hh : m.aw h = true) : Grow m (m.clean h) := by
  have hm := aw_house hh
  obtain ⟨a, b, c⟩ := clean_sizes (m := m) (h := h)
  refine ⟨clean_houses, clean_aw, a, b, c, fun h' j x hx ha => ?_, fun h' e j => ?_⟩
  · rw [row_clean k hm]
    split
    · rename_i q
      rw [q] at hx
      exact List.mem_filter.mpr ⟨hx, ha⟩
    · exact hx
  · rw [row_clean k hm, if_neg]
    intro q
    rw [q, hh] at e; cases e
theorem Grow.meet (k : m.Ok N) (hh : m.aw h = true) (hn : m.aw n = true) : Grow m (TM.meet h m n) := by
  have g1 := Grow.hears k hh (k.hN _ (aw_house hn))
  exact g1.trans (Grow.hears (k.hears (k.hN _ (aw_house hn))) (by rw [g1.aw]; exact hn) (k.hN _ (aw_house hh)))
theorem Ok.meet' (k : m.Ok N) (hh : m.aw h = true) (hn : m.aw n = true) : (TM.meet h m n).Ok N := k.meet (k.hN _ (aw_house hh)) (k.hN _ (aw_house hn))
theorem Grow.fold : ∀ {l : List Nat} {m : TM}, m.Ok N → m.aw h = true → (∀ o ∈ l, m.aw o = true) → Grow m (l.foldl (TM.meet h) m)
  | [], _, _, _, _ => Grow.refl
  | o :: r, m, k, hh, hl => by
    have ho := hl o (List.mem_cons_self ..)
    have g := Grow.meet k hh ho
    rw [List.foldl_cons]
    exact g.trans (Grow.fold (k.meet' hh ho) (by rw [g.aw]; exact hh) fun x hx => by rw [g.aw]; exact hl x (List.mem_cons_of_mem _ hx))
theorem reach_aw (hh : m.aw h = true) {x : Nat} (r : m.Reach h x) : m.aw x = true := by
  cases r with
  | self => exact hh
  | step _ _ e => exact e
theorem others_aw (hh : m.aw h = true) {x : Nat} (hx : x ∈ m.others h h) : m.aw x = true := reach_aw hh (mem_comeTo.mp (List.mem_filter.mp hx).1).2
theorem Grow.look (k : m.Ok N) (hh : m.aw h = true) : Grow m (m.look h) := by
  have g := Grow.clean k hh
  exact g.trans (Grow.fold k.clean (by rw [g.aw]; exact hh) fun o ho => by rw [g.aw]; exact others_aw hh ho)
noncomputable def tideL (m : TM) (l : List Nat) : TM := l.foldl TM.look m
noncomputable def tide (m : TM) : TM := m.tideL m.live
theorem Grow.tideL : ∀ {l : List Nat} {m : TM}, m.Ok N → (∀ o ∈ l, m.aw o = true) → Grow m (m.tideL l) ∧ (m.tideL l).Ok N
  | [], _, k, _ => ⟨Grow.refl, k⟩
  | o :: r, m, k, hl => by
    have ho := hl o (List.mem_cons_self ..)
    have g := Grow.look k ho
    obtain ⟨a, b⟩ := Grow.tideL (l := r) (k.look (aw_house ho)) fun x hx => by rw [g.aw]; exact hl x (List.mem_cons_of_mem _ hx)
    exact ⟨g.trans a, b⟩
theorem tideL_snoc {l : List Nat} {x : Nat} : m.tideL (l ++ [x]) = (m.tideL l).look x := by unfold tideL; rw [List.foldl_append]; rfl
/-- all names that a house keeps answer -/
def Pure (m : TM) (h : Nat) : Prop := ∀ j, ∀ x ∈ m.row h j, m.aw x = true
/-- a bucket with room keeps all of its span that are wished for -/
def Full (m : TM) (h : Nat) (S : Nat → Prop) : Prop := ∀ j, (m.row h j).length < m.room → ∀ y, S y → y ≠ h → stepN h y = j → y ∈ m.row h j
variable {S : Nat → Prop}
theorem Pure.hears (k : m.Ok N) (hh : m.aw h = true) (hn : m.aw n = true) {h' : Nat} (p : Pure m h') : Pure (m.hears h n) h' := fun j x hx => by
  rw [hears_aw]
  rw [row_hears k (aw_house hh) (k.hN _ (aw_house hn))] at hx
  split at hx
  · rename_i q
    rcases hear_mem hx k.r0 with z | z
    · rw [← q.1] at z; exact p j x z
    · rw [z]; exact hn
  · exact p j x hx
theorem Pure.clean (k : m.Ok N) (hm : h ∈ m.houses) : Pure (m.clean h) h := fun j x hx => by
  rw [row_clean k hm, if_pos rfl] at hx
  rw [clean_aw]
  exact (List.mem_filter.mp hx).2
theorem Pure.clean' (k : m.Ok N) (hm : h ∈ m.houses) {h' : Nat} (p : Pure m h') : Pure (m.clean h) h' := fun j x hx => by
  rw [clean_aw]
  rw [row_clean k hm] at hx
  split at hx
  · exact (List.mem_filter.mp hx).2
  · exact p j x hx
theorem Full.hears (k : m.Ok N) (hh : m.aw h = true) (hn : n ∈ N) {h' : Nat} (p : Pure m h') (f : Full m h' S) : Full (m.hears h n) h' fun y => S y ∨ (h' = h ∧ y = n) := fun j hl y hy hne hs => by
  rw [row_hears k (aw_house hh) hn] at hl ⊢
  split at hl
  · rename_i q
    rw [if_pos q]
    have ha : m.row h j ≠ [] → ¬ (m.row h j).length < m.room → m.aw ((m.row h j).headD 0) = true := fun ne _ => by
      cases e : m.row h j with
      | nil => exact absurd e ne
      | cons x r => exact p j x (by rw [q.1, e]; simp)
    obtain ⟨c1, c2, c3, _⟩ := hear_cov (n := n) k.r0 ha
    rcases hy with z | ⟨_, z⟩
    · have hl3 := c3 hl
      rw [← q.1] at hl3
      have := f j hl3 y z hne hs
      rw [q.1] at this
      exact c1 y this
    · rw [z]; exact c2 hl
  · rename_i q
    rw [if_neg q]
    rcases hy with z | ⟨z1, z2⟩
    · exact f j hl y z hne hs
    · subst z1 z2
      exact absurd ⟨rfl, hne, hs⟩ q
theorem Full.mono {S' : Nat → Prop} (f : Full m h S) (g : ∀ y, S' y → S y) : Full m h S' := fun j hl y hy => f j hl y (g y hy)
theorem PF.meet (k : m.Ok N) (hh : m.aw h = true) (hn : m.aw n = true) {h' : Nat} (p : Pure m h') (f : Full m h' S) : Pure (TM.meet h m n) h' ∧ Full (TM.meet h m n) h' fun y => S y ∨ (h' = h ∧ y = n) := by
  have hN := k.hN _ (aw_house hn)
  have g := Grow.hears k hh hN
  have k1 := k.hears (h := h) hN
  have p1 := p.hears k hh hn
  have f1 := f.hears k hh hN p
  have hn1 : (m.hears h n).aw n = true := by rw [g.aw]; exact hn
  have hh1 : (m.hears h n).aw h = true := by rw [g.aw]; exact hh
  exact ⟨p1.hears k1 hn1 hh1, (f1.hears k1 hn1 (k.hN _ (aw_house hh)) p1).mono fun y hy => .inl hy⟩
theorem PF.fold : ∀ {l : List Nat} {m : TM} {S : Nat → Prop} {h' : Nat}, m.Ok N → m.aw h = true → (∀ o ∈ l, m.aw o = true) → Pure m h' → Full m h' S → Pure (l.foldl (TM.meet h) m) h' ∧ Full (l.foldl (TM.meet h) m) h' fun y => S y ∨ (h' = h ∧ y ∈ l)
  | [], _, _, _, _, _, _, p, f => ⟨p, f.mono fun y hy => hy.elim id fun z => by cases z.2⟩
  | o :: r, m, S, h', k, hh, hl, p, f => by
    have ho := hl o (List.mem_cons_self ..)
    have g := Grow.meet k hh ho
    obtain ⟨p1, f1⟩ := PF.meet k hh ho p f
    rw [List.foldl_cons]
    obtain ⟨p2, f2⟩ := PF.fold (l := r) (k.meet' hh ho) (by rw [g.aw]; exact hh) (fun x hx => by rw [g.aw]; exact hl x (List.mem_cons_of_mem _ hx)) p1 f1
    refine ⟨p2, f2.mono fun y hy => ?_⟩
    rcases hy with z | ⟨z1, z2⟩
    · exact .inl (.inl z)
    · rcases List.mem_cons.mp z2 with e | e
      · exact .inl (.inr ⟨z1, e⟩)
      · exact .inr ⟨z1, e⟩
/-- behind its own look a house keeps answering names alone, and all that it met where it has room -/
theorem PF.own (k : m.Ok N) (hh : m.aw h = true) : Pure (m.look h) h ∧ Full (m.look h) h fun y => y ∈ m.others h h := by
  have g := Grow.clean k hh
  obtain ⟨p, f⟩ := PF.fold (l := m.others h h) (S := fun _ => False) (h' := h) k.clean (by rw [g.aw]; exact hh) (fun o ho => by rw [g.aw]; exact others_aw hh ho) (Pure.clean k (aw_house hh)) fun _ _ _ z => z.elim
  exact ⟨p, f.mono fun y hy => .inr ⟨rfl, hy⟩⟩
theorem Full.clean (k : m.Ok N) (hm : h ∈ m.houses) {h' : Nat} (p : Pure m h') (f : Full m h' S) : Full (m.clean h) h' S := fun j hl y hy hne hs => by
  have e : (m.clean h).row h' j = m.row h' j := by
    rw [row_clean k hm]
    split
    · rename_i q
      rw [← q]
      exact List.filter_eq_self.mpr fun x hx => p j x hx
    · rfl
  rw [e] at hl ⊢
  rw [(clean_sizes (m := m) (h := h)).2.1] at hl
  exact f j hl y hy hne hs
theorem PF.look (k : m.Ok N) (hh : m.aw h = true) {h' : Nat} (p : Pure m h') (f : Full m h' S) : Pure (m.look h) h' ∧ Full (m.look h) h' S := by
  have g := Grow.clean k hh
  obtain ⟨p, f⟩ := PF.fold (l := m.others h h) (h' := h') k.clean (by rw [g.aw]; exact hh) (fun o ho => by rw [g.aw]; exact others_aw hh ho) (p.clean' k (aw_house hh)) (f.clean k (aw_house hh) p)
  exact ⟨p, f.mono fun y hy => .inl hy⟩
theorem Reach.grow (g : Grow m m1) {x : Nat} (r : m.Reach h x) : m1.Reach h x := by
  induction r with
  | self => exact .self
  | step _ hy e ih =>
    obtain ⟨j, hj⟩ := tab_row hy
    exact .step ih (row_tab (g.keep _ j _ hj e)) (by rw [g.aw]; exact e)
/-- each answering house is come to from each other one -/
def Whole (m : TM) : Prop := ∀ h ∈ m.live, ∀ x ∈ m.live, m.Reach h x
theorem Whole.grow (g : Grow m m1) (w : Whole m) : Whole m1 := fun h hh x hx => (w h (by rw [← g.live]; exact hh) x (by rw [← g.live]; exact hx)).grow g
theorem tide_pure : ∀ {l : List Nat} {m : TM}, m.Ok N → (∀ o ∈ l, m.aw o = true) → (∀ h, Pure m h → Pure (m.tideL l) h) ∧ ∀ h ∈ l, Pure (m.tideL l) h
  | [], _, _, _ => ⟨fun _ p => p, fun _ z => by cases z⟩
  | o :: r, m, k, hl => by
    have ho := hl o (List.mem_cons_self ..)
    have g := Grow.look k ho
    obtain ⟨a, b⟩ := tide_pure (l := r) (k.look (aw_house ho)) fun x hx => by rw [g.aw]; exact hl x (List.mem_cons_of_mem _ hx)
    have pl : ∀ h, Pure m h → Pure (m.look o) h := fun h p => (PF.look (S := fun _ => False) k ho p fun _ _ _ z => z.elim).1
    refine ⟨fun h p => a h (pl h p), fun h hh => ?_⟩
    rcases List.mem_cons.mp hh with e | e
    · rw [e]; exact a o (PF.own k ho).1
    · exact b h e
theorem tide_full : ∀ {l : List Nat} {m : TM}, m.Ok N → (∀ o ∈ l, m.aw o = true) → Whole m → (∀ h, Pure m h → Full m h (· ∈ m.live) → Full (m.tideL l) h (· ∈ m.live)) ∧ ∀ h ∈ l, Full (m.tideL l) h (· ∈ m.live)
  | [], _, _, _, _ => ⟨fun _ _ f => f, fun _ z => by cases z⟩
  | o :: r, m, k, hl, w => by
    have ho := hl o (List.mem_cons_self ..)
    have g := Grow.look k ho
    obtain ⟨a, b⟩ := tide_full (l := r) (k.look (aw_house ho)) (fun x hx => by rw [g.aw]; exact hl x (List.mem_cons_of_mem _ hx)) (w.grow g)
    rw [g.live] at a b
    refine ⟨fun h p f => ?_, fun h hh => ?_⟩
    · obtain ⟨p1, f1⟩ := PF.look k ho p f
      exact a h p1 f1
    · rcases List.mem_cons.mp hh with e | e
      · rw [e]
        obtain ⟨p1, f1⟩ := PF.own k ho
        refine a o p1 ?_
        intro j hl y hy hne hs
        refine f1 j hl y (List.mem_filter.mpr ⟨mem_comeTo.mpr ⟨live_house hy, w o (mem_live.mpr ho) y hy⟩, by simpa using hne⟩) hne hs
      · exact b h e
theorem tide_ok (k : m.Ok N) : Grow m m.tide ∧ m.tide.Ok N := Grow.tideL k fun _ ho => mem_live.mp ho
theorem tide_fault (k : m.Ok N) (w : Whole m) : m.tide.faultN = none := by
  obtain ⟨g, k1⟩ := tide_ok k
  refine pairs_none fun h hh j _ => ?_
  rw [g.live] at hh
  have hp : Pure m.tide h := (tide_pure k fun _ ho => mem_live.mp ho).2 h hh
  have hf : Full m.tide h (· ∈ m.live) := (tide_full k (fun _ ho => mem_live.mp ho) w).2 h hh
  show faultB (m.tide.row h j) m.tide.live m.tide.room h j = false
  unfold faultB
  have e1 : ((m.tide.row h j).all fun n => decide (n ∈ m.tide.live)) = true := List.all_eq_true.mpr fun x hx => decide_eq_true (mem_live.mpr (hp j x hx))
  rw [e1, Bool.not_true, Bool.false_or]
  by_cases hl : (m.tide.row h j).length < m.tide.room
  · have hle : (ofSpanN m.tide.live h j).length ≤ (m.tide.row h j).length := by
      refine nodup_len (live_nodup.filter _) fun y hy => ?_
      have hy2 := List.mem_filter.mp hy
      have hyl : y ∈ m.live := by rw [← g.live]; exact hy2.1
      obtain ⟨a, b⟩ : h ≠ y ∧ stepN h y = j := span_step.mp (of_decide_eq_true hy2.2)
      exact hf j hl y hyl (fun z => a z.symm) b
    rw [decide_eq_false (by omega : ¬ (m.tide.row h j).length < (ofSpanN m.tide.live h j).length), Bool.and_false]
  · rw [decide_eq_false hl, Bool.false_and]
/-- the same names in each bucket of each answering house -/
def Same (m m' : TM) : Prop := ∀ h, m.aw h = true → ∀ j x, x ∈ m'.row h j ↔ x ∈ m.row h j
/-- each answering house keeps answering names alone, and all where it has room -/
def Rests (m : TM) : Prop := ∀ h ∈ m.live, Pure m h ∧ Full m h (· ∈ m.live)
theorem hears_same (k : m.Ok N) (hh : m.aw h = true) (hn : m.aw n = true) (hne : n ≠ h) {h' : Nat} (p : Pure m h') (f : Full m h' (· ∈ m.live)) : ∀ j x, x ∈ (m.hears h n).row h' j ↔ x ∈ m.row h' j := fun j x => by
  rw [row_hears k (aw_house hh) (k.hN _ (aw_house hn))]
  split
  · rename_i q
    obtain ⟨q1, q2, q3⟩ := q
    subst q1
    constructor
    · intro hx
      unfold hearL at hx
      by_cases hi : n ∈ m.row h' j
      · rw [if_pos hi] at hx
        rcases List.mem_append.mp hx with z | z
        · exact List.mem_of_mem_erase z
        · rw [List.mem_singleton.mp z]; exact hi
      · rw [if_neg hi] at hx
        by_cases hl : (m.row h' j).length < m.room
        · exact absurd (f j hl n (mem_live.mpr hn) hne q3) hi
        · rw [if_neg hl] at hx
          cases e : m.row h' j with
          | nil =>
            rw [e] at hl
            have := k.r0
            simp at hl; omega
          | cons y r =>
            rw [e] at hx
            have ha : m.aw y = true := p j y (by rw [e]; simp)
            rw [if_pos (show m.aw ((y :: r).headD 0) = true from ha)] at hx
            rcases List.mem_append.mp hx with z | z
            · exact List.mem_cons_of_mem _ z
            · rw [List.mem_singleton.mp z]; simp
    · intro hx
      exact hear_keep k.r0 hx (p j x hx)
  · exact Iff.rfl
theorem Rests.hears (k : m.Ok N) (hh : m.aw h = true) (hn : m.aw n = true) (hne : n ≠ h) (r : Rests m) : Rests (m.hears h n) ∧ Same m (m.hears h n) := by
  have g := Grow.hears k hh (k.hN _ (aw_house hn))
  refine ⟨fun x hx => ?_, fun x hx => ?_⟩
  · rw [g.live] at hx ⊢
    obtain ⟨p, f⟩ := r x hx
    exact ⟨p.hears k hh hn, (f.hears k hh (k.hN _ (aw_house hn)) p).mono fun y hy => .inl hy⟩
  · obtain ⟨p, f⟩ := r x (mem_live.mpr hx)
    exact hears_same k hh hn hne p f
theorem Same.trans (g : Grow m m1) (a : Same m m1) (b : Same m1 m2) : Same m m2 := fun h hh j x => (b h (by rw [g.aw]; exact hh) j x).trans (a h hh j x)
theorem Rests.fold : ∀ {l : List Nat} {m : TM}, m.Ok N → m.aw h = true → (∀ o ∈ l, m.aw o = true ∧ o ≠ h) → Rests m → Rests (l.foldl (TM.meet h) m) ∧ Same m (l.foldl (TM.meet h) m)
  | [], _, _, _, _, r => ⟨r, fun _ _ _ _ => Iff.rfl⟩
  | o :: l, m, k, hh, hl, r => by
    obtain ⟨ho, hne⟩ := hl o (List.mem_cons_self ..)
    have hoN := k.hN _ (aw_house ho)
    have g1 := Grow.hears k hh hoN
    have k1 := k.hears (h := h) hoN
    obtain ⟨r1, s1⟩ := r.hears k hh ho hne
    have ho1 : (m.hears h o).aw o = true := by rw [g1.aw]; exact ho
    have hh1 : (m.hears h o).aw h = true := by rw [g1.aw]; exact hh
    have g2 := Grow.hears k1 ho1 (k.hN _ (aw_house hh))
    obtain ⟨r2, s2⟩ := r1.hears k1 ho1 hh1 hne.symm
    have g := g1.trans g2
    rw [List.foldl_cons]
    obtain ⟨r3, s3⟩ := Rests.fold (l := l) (m := TM.meet h m o) (k.meet' hh ho) (by rw [show (TM.meet h m o).aw = m.aw from g.aw]; exact hh) (fun x hx => by rw [show (TM.meet h m o).aw = m.aw from g.aw]; exact hl x (List.mem_cons_of_mem _ hx)) r2
    exact ⟨r3, Same.trans g (Same.trans g1 s1 s2) s3⟩
theorem Rests.look (k : m.Ok N) (hh : m.aw h = true) (r : Rests m) : Rests (m.look h) ∧ Same m (m.look h) := by
  have g := Grow.clean k hh
  have hm := aw_house hh
  have er : ∀ x, m.aw x = true → ∀ j, (m.clean h).row x j = m.row x j := fun x hx j => by
    rw [row_clean k hm]
    split
    · rename_i q
      rw [← q]
      exact List.filter_eq_self.mpr fun y hy => (r x (mem_live.mpr hx)).1 j y hy
    · rfl
  have rc : Rests (m.clean h) := fun x hx => by
    rw [g.live] at hx ⊢
    obtain ⟨p, f⟩ := r x hx
    exact ⟨p.clean' k hm, f.clean k hm p⟩
  have sc : Same m (m.clean h) := fun x hx j y => by rw [er x hx j]
  obtain ⟨r1, s1⟩ := Rests.fold (l := m.others h h) k.clean (by rw [g.aw]; exact hh) (fun o ho => by rw [g.aw]; exact ⟨others_aw hh ho, (others_mem ho).2⟩) rc
  exact ⟨r1, Same.trans g sc s1⟩
theorem Rests.tideL : ∀ {l : List Nat} {m : TM}, m.Ok N → (∀ o ∈ l, m.aw o = true) → Rests m → Same m (m.tideL l)
  | [], _, _, _, _ => fun _ _ _ _ => Iff.rfl
  | o :: l, m, k, hl, r => by
    have ho := hl o (List.mem_cons_self ..)
    have g := Grow.look k ho
    obtain ⟨r1, s1⟩ := r.look k ho
    exact Same.trans g s1 (Rests.tideL (l := l) (k.look (aw_house ho)) (fun x hx => by rw [g.aw]; exact hl x (List.mem_cons_of_mem _ hx)) r1)
theorem tide_rests (k : m.Ok N) (w : Whole m) : Rests m.tide := fun h hh => by
  obtain ⟨g, _⟩ := tide_ok k
  rw [g.live] at hh ⊢
  exact ⟨(tide_pure k fun _ ho => mem_live.mp ho).2 h hh, (tide_full k (fun _ ho => mem_live.mp ho) w).2 h hh⟩
theorem Same.keeps (s : Same m m1) (hh : m.aw h = true) : m1.keeps h = m.keeps h := by
  refine rising_eq (sortU_sorted _) (sortU_sorted _) fun z => ?_
  rw [mem_keeps, mem_keeps]
  constructor
  · intro q
    obtain ⟨j, hj⟩ := tab_row q
    exact row_tab ((s h hh j z).mp hj)
  · intro q
    obtain ⟨j, hj⟩ := tab_row q
    exact row_tab ((s h hh j z).mpr hj)
/-- a second tide changes no set of names -/
theorem tide_again (k : m.Ok N) (w : Whole m) (hh : m.aw h = true) : m.tide.tide.keeps h = m.tide.keeps h := by
  obtain ⟨g, k1⟩ := tide_ok k
  exact Same.keeps (Rests.tideL k1 (fun _ ho => mem_live.mp ho) (tide_rests k w)) (by rw [g.aw]; exact hh)
theorem whole_comeTo (k : m.Ok N) : Whole m ↔ ∀ h ∈ m.live, m.comeTo h = m.live := by
  constructor
  · intro w h hh
    refine rising_eq comeTo_sorted ((sortU_sorted _).filter _) fun z => ?_
    rw [mem_comeTo]
    exact ⟨fun q => mem_live.mpr (reach_aw (mem_live.mp hh) q.2), fun q => ⟨live_house q, w h hh z q⟩⟩
  · intro e h hh x hx
    rw [← e h hh] at hx
    exact (mem_comeTo.mp hx).2
end TM
end Nn
/-! tide, walked -/
namespace Nn
open PySem L2
section
variable {P : Program} {w : World} {K : PySem.W.Frag} {mg : Str → Option Value} {base : Heap} {H H' : Hp} {Q : VK} {E : XK} {T : Tx K mg base} {A : TA} {F : Addr → Prop} {m : TM}
def sp_tide (T : Tx K mg base) : Sp := fun vs H Q _ => ∃ (A : TA) (F : Addr → Prop) (m : TM) (N : List Nat), vs = [.ref A.t] ∧ TownAt T H A F m ∧ m.Ok N ∧ NdefX.TabsN (tabsL T) H ∧ ∀ H', Fr F H H' → TownAt T H' A F m.tide → Q .non H'
theorem wc_tide {N : List Nat} (t : TownAt T H A F m) (k : m.Ok N) (tb : NdefX.TabsN (tabsL T) H) (q : ∀ H', Fr F H H' → TownAt T H' A F m.tide → Q .non H') : sp_tide T [.ref A.t] H Q E := ⟨A, F, m, N, rfl, t, k, tb, q⟩
theorem ok_tide (T : Tx K mg base) : FnOk P w K mg base CX0 7 T.a_tide T.d_tide ["town"] (sp_tide T) := by
  refine T.F_tide.okD sc_tide (fun vs H Q E h => ?_) (fun cdv A outer s H vs Q E hr h => ?_)
  · obtain ⟨A, F, m, N, rfl, _⟩ := h; rfl
  · obtain ⟨A1, F, m, N, rfl, t, k, hT, q⟩ := h
    obtain ⟨dx, ob⟩ := t.tw.ob
    have hu := hu_of hr
    have hz := k.houses_len
    have c_Bucket := T.c_Bucket; have n_Bucket_room := T.n_Bucket_room; have n_Bucket_line := T.n_Bucket_line; have c_Table := T.c_Table; have n_Table_own := T.n_Table_own; have n_Table_wide := T.n_Table_wide; have n_Table_room := T.n_Table_room; have n_Table_buckets := T.n_Table_buckets; have c_Town := T.c_Town; have n_Town_wide := T.n_Town_wide; have n_Town_room := T.n_Town_room; have n_Town_tables := T.n_Town_tables; have n_Town_hushed := T.n_Town_hushed
    refine ⟨_, (pss_one (ps_for PassesOwn.never rfl (pi_list (pe_meth0 (pv 0) T.c_Town T.t_Town_answering (ok_Town_answering T) (hr.mono (by decide)) T.b_Town_answering .nil pass0)) (pg_name (i := 1) sc_tide.nd rfl (Or.inl rfl))
      (pss_one (ps_expr (pe_call (ok_look_round T) hr rfl T.m_look_round T.F_look_round.kp T.b_look_round .nil pass0 (pa_cons (pv 0) (pa_cons (pv 1) pa_nil))))))), ?_⟩
    rw [Nn.st_tide]; try rw [Nn.cxK]
    try rw [Nn.cxW]
    walk_at "wx"
    refine wc_Town_answering t hz k.nd fun p1 H1 hp1 ex1 h1 => ?_
    have t1 := t.ex' ex1
    have nF : ¬ F p1 := fun z => t.ex p1 z hp1
    have hlv : ∀ o ∈ m.live, m.aw o = true := fun o ho => TM.mem_live.mp ho
    walk_at "wx"
    refine ForW.by walk_list (fun i σ H' => ∃ (v : Option V), σ = [some (.ref A1.t), v] ∧ Fr F H H' ∧ H' p1 = some (.lst (m.live.map nV)) ∧ TownAt T H' A1 F (m.tideL (m.live.take i)))
      ⟨_, rfl, ex1.fr, h1, t1⟩ (fun i σ H' _ ⟨_, _, _, e, _⟩ => SqL.of e) ?_ ?_
    · rintro i x σ _ H2 hi ⟨v, rfl, fr2, h2, t2⟩ ⟨rfl, hx⟩
      rw [List.length_map] at hi
      obtain rfl : x = nV m.live[i] := by
        rw [List.getElem?_map, List.getElem?_eq_getElem hi] at hx
        exact (Option.some.inj hx).symm
      have et : m.live.take (i + 1) = m.live.take i ++ [m.live[i]] := by rw [List.take_add_one, List.getElem?_eq_getElem hi]; rfl
      obtain ⟨g2, k2⟩ := TM.Grow.tideL (l := m.live.take i) k fun o ho => hlv o (List.mem_of_mem_take ho)
      have ho := hlv _ (List.getElem_mem hi)
      rw [et, TM.tideL_snoc]
      generalize m.live[i] = o at ho
      generalize m.tideL (m.live.take i) = m2 at t2 g2 k2
      walk_at "wx"
      refine wc_look_round rfl t2 k2 (by rw [g2.aw]; exact ho) (Fr.tabs fr2 hT) fun p3 H3 hp3 fr3 h3 t3 => ?_
      exact ⟨_, rfl, fr2.trans fr3, fr3.at h2 nF, t3⟩
    · rintro σ H2 ⟨v, rfl, fr2, h2, t2⟩
      rw [List.length_map, List.take_length] at t2
      walk_at "wx"
      exact q H2 fr2 t2
end
end Nn
/-! deeds by numbers: how many names there are -/
namespace Nn
open PySem L2
variable {m : TM} {N : List Nat} {x b mo : Nat}
/-- the town is kept well behind it; names grow as houses come -/
def GoodF (m m' : TM) (N : List Nat) (mo : Nat) : Prop := ∃ N', m'.Ok N' ∧ m'.wide = m.wide ∧ m'.room = m.room ∧ m'.houses.length ≤ mo ∧ 2 * N'.length + m.houses.length ≤ 2 * N.length + m'.houses.length + 1
theorem GoodF.same (k : m.Ok N) (h : m.houses.length ≤ mo) : GoodF m m N mo := ⟨N, k, rfl, rfl, h, by omega⟩
theorem GoodF.comes {n : Nat} {d : Option Nat} (k : m.Ok N) (hN : N.length ≤ 61) (hn : n < 2 ^ m.wide) (h1 : n ∉ m.houses) (h2 : m.houses.length < mo) : GoodF m (m.comes n d) N mo := by
  refine ⟨N ++ [n], (k.one' (by omega) hn).comes h1 (by simp), TM.comes_wide, ?_, by rw [TM.comes_houses, List.length_append, List.length_singleton]; omega, by rw [TM.comes_houses, List.length_append, List.length_append, List.length_singleton]; omega⟩
  cases d with
  | none => rfl
  | some d => exact TM.fold_sizes.2.1
end Nn
namespace Nn
open PySem L2
variable {m : TM} {N : List Nat} {x b mo : Nat}
theorem comeF_good (k : m.Ok N) (hN : N.length ≤ 61) (h : m.houses.length ≤ mo) : GoodF m (comeF m x b mo) N mo := by
  unfold comeF
  split
  · rename_i q
    exact GoodF.comes k hN nameN_lt q.1 q.2
  · exact GoodF.same k h
theorem hushed_houses {n : Nat} : (m.hushed n).houses = m.houses := by
  unfold TM.hushed
  split <;> rfl
theorem deedF_good (k : m.Ok N) (hN : N.length ≤ 61) (h : m.houses.length ≤ mo) : GoodF m (deedF m x b mo) N mo := by
  unfold deedF
  split
  · split
    · rename_i q
      exact GoodF.comes k hN nameN_lt q.2.2.1 q.2.2.2
    · exact comeF_good k hN h
  · rename_i c0
    have hl : m.live ≠ [] := fun z => c0 (.inl z)
    have hsn : sortU m.houses ≠ [] := fun z => by
      obtain ⟨a, ha⟩ := List.exists_mem_of_ne_nil _ hl
      have := mem_sortU.mpr (TM.live_house ha)
      rw [z] at this; cases this
    split
    · have haw := TM.mem_live.mp (pick_at (x := x / 10 / 2 / 2 ^ m.wide) hl).1
      exact ⟨N, k.learn haw, TM.learn_sizes.1, TM.learn_sizes.2.1, by rw [TM.learn_houses]; exact h, by rw [TM.learn_houses]; omega⟩
    · split
      · have hm := TM.live_house (pick_at (x := x / 10 / 2 / 2 ^ m.wide) hl).1
        exact ⟨N, k.hushed hm, by unfold TM.hushed; split <;> rfl, by unfold TM.hushed; split <;> rfl, by rw [hushed_houses]; exact h, by rw [hushed_houses]; omega⟩
      · split
        · have hm := mem_sortU.mp (pick_at (x := x / 10 / 2 / 2 ^ m.wide) hsn).1
          generalize pickN (sortU m.houses) (x / 10 / 2 / 2 ^ m.wide) = n at hm
          have q1 : (m.cut n).houses.length ≤ m.houses.length := by rw [TM.cut_houses]; exact List.length_filter_le _ _
          have q2 : m.houses.length ≤ (m.cut n).houses.length + 1 := by
            have q := nodup_len k.nd (b := n :: (m.cut n).houses) fun y hy => by
              by_cases e : y = n
              · rw [e]; simp
              · rw [TM.cut_houses]
                exact List.mem_cons_of_mem _ (List.mem_filter.mpr ⟨hy, by simp [e]⟩)
            simpa using q
          exact ⟨N, k.cut, rfl, rfl, by omega, by omega⟩
        · split
          · rename_i q
            obtain ⟨s1, s2⟩ := List.mem_filter.mp (pick_at (x := x / 10 / 2 / 2 ^ m.wide) q.2).1
            have hsh := silent_mem (mem_sortU.mp s1) (by simpa using s2)
            exact ⟨N, k.woken.fold (k.hN _ (k.hh _ hsh)) fun o ho => k.hN _ (TM.others_mem ho).1, TM.fold_sizes.1, TM.fold_sizes.2.1, by unfold TM.visit; rw [TM.fold_houses]; exact h, by unfold TM.visit; rw [TM.fold_houses]; show _ + m.houses.length ≤ _ + m.houses.length + 1; omega⟩
          · exact GoodF.same k h
end Nn
/-! k45: tides -/
namespace Nn
open PySem L2
section
variable {P : Program} {w : World} {K : PySem.W.Frag} {mg : Str → Option Value} {base : Heap} {H H' : Hp} {Q : VK} {E : XK} {T : Tx K mg base} {A B : TA} {F G : Addr → Prop} {m : TM}
/-- two towns, apart -/
structure Two (T : Tx K mg base) (H : Hp) (A B : TA) (F G : Addr → Prop) (m : TM) : Prop where
  a : TownAt T H A F m
  b : TownAt T H B G m
  dj : ∀ x, F x → ¬ G x
theorem Two.ex (t : Two T H A B F G m) (e : Ex H H') : Two T H' A B F G m := ⟨t.a.ex' e, t.b.ex' e, t.dj⟩
def sp_l_washed (T : Tx K mg base) : Sp := fun vs H Q _ => ∃ (A B : TA) (F G : Addr → Prop) (m : TM) (N : List Nat), vs = [.ref A.t, .ref B.t] ∧ Two T H A B F G m ∧ m.Ok N ∧ NdefX.TabsN (tabsL T) H ∧ ∀ H', Fr (fun x => F x ∨ G x) H H' → Two T H' A B F G m.tide → Q (.bl true) H'
theorem wc_l_washed {N : List Nat} (t : Two T H A B F G m) (k : m.Ok N) (tb : NdefX.TabsN (tabsL T) H) (q : ∀ H', Fr (fun x => F x ∨ G x) H H' → Two T H' A B F G m.tide → Q (.bl true) H') : sp_l_washed T [.ref A.t, .ref B.t] H Q E := ⟨A, B, F, G, m, N, rfl, t, k, tb, q⟩
theorem ok_l_washed (T : Tx K mg base) : FnOk P w K mg base CX0 8 T.a_l_washed T.d_l_washed ["_law_town", "_law_other"] (sp_l_washed T) := by
  refine T.F_l_washed.okD sc_l_washed (fun vs H Q E h => ?_) (fun cdv A outer s H vs Q E hr h => ?_)
  · obtain ⟨A, B, F, G, m, N, rfl, _⟩ := h; rfl
  · obtain ⟨A1, B1, F, G, m, N, rfl, t, k, hT, q⟩ := h
    obtain ⟨dxa, oba⟩ := t.a.tw.ob
    obtain ⟨dxb, obb⟩ := t.b.tw.ob
    have hu := hu_of hr
    have hz := k.houses_len
    have hlv : ∀ o ∈ m.live, m.aw o = true := fun o ho => TM.mem_live.mp ho
    obtain ⟨gt, kt⟩ := TM.tide_ok k
    have c_Bucket := T.c_Bucket; have n_Bucket_room := T.n_Bucket_room; have n_Bucket_line := T.n_Bucket_line; have c_Table := T.c_Table; have n_Table_own := T.n_Table_own; have n_Table_wide := T.n_Table_wide; have n_Table_room := T.n_Table_room; have n_Table_buckets := T.n_Table_buckets; have c_Town := T.c_Town; have n_Town_wide := T.n_Town_wide; have n_Town_room := T.n_Town_room; have n_Town_tables := T.n_Town_tables; have n_Town_hushed := T.n_Town_hushed
    refine ⟨_, (pss_cons (ps_if (pt_cmpR op_notNn (pe_call (ok_tide T) hr rfl T.m_tide T.F_tide.kp T.b_tide .nil pass0 (pa_cons (pv 0) pa_nil)) pe_non (nomark _))
      (pss_one (ps_ret pe_bl))
      pss_nil)
      (pss_cons (ps_for PassesOwn.never rfl (pi_list (pe_meth0 (pv 1) T.c_Town T.t_Town_answering (ok_Town_answering T) (hr.mono (by decide)) T.b_Town_answering .nil pass0)) (pg_name (i := 2) sc_l_washed.nd rfl (Or.inl rfl))
      (pss_one (ps_expr (pe_call (ok_look_round T) (hr.mono (by decide)) rfl T.m_look_round T.F_look_round.kp T.b_look_round .nil pass0 (pa_cons (pv 1) (pa_cons (pv 2) pa_nil))))))
      (pss_one (ps_ret (pe_cmpR  (op_eqDR hr) (pe_call (ok_l_tables T) (hr.mono (by decide)) rfl T.m_l_tables T.F_l_tables.kp T.b_l_tables .nil pass0 (pa_cons (pv 0) pa_nil)) (pe_call (ok_l_tables T) (hr.mono (by decide)) rfl T.m_l_tables T.F_l_tables.kp T.b_l_tables .nil pass0 (pa_cons (pv 1) pa_nil)) (nomark _)))))), ?_⟩
    rw [Nn.st_l_washed]; try rw [Nn.cxK]
    try rw [Nn.cxW]
    walk_at "wx"
    refine wc_tide t.a k hT fun H1 fr1 ta1 => ?_
    have tb1 := t.b.fr fr1 fun x z => t.dj x z
    obtain ⟨dxb1, obb1⟩ := tb1.tw.ob
    have hT1 := Fr.tabs fr1 hT
    walk_at "wx"
    refine wc_Town_answering tb1 hz k.nd fun p2 H2 hp2 ex2 h2 => ?_
    have tb2 := tb1.ex' ex2
    have ta2 := ta1.ex' ex2
    have hT2 := Fr.tabs ex2 hT1
    have nG : ¬ G p2 := fun z => tb1.ex p2 z hp2
    walk_at "wx"
    refine ForW.by walk_list (fun i σ H' => ∃ (v : Option V), σ = [some (.ref A1.t), some (.ref B1.t), v] ∧ Fr G H2 H' ∧ H' p2 = some (.lst (m.live.map nV)) ∧ TownAt T H' B1 G (m.tideL (m.live.take i)))
      ⟨_, rfl, Fr.refl, h2, tb2⟩ (fun i σ H' _ ⟨_, _, _, e, _⟩ => SqL.of e) ?_ ?_
    · rintro i x σ _ H3 hi ⟨v, rfl, fr3, h3, t3⟩ ⟨rfl, hx⟩
      rw [List.length_map] at hi
      obtain rfl : x = nV m.live[i] := by
        rw [List.getElem?_map, List.getElem?_eq_getElem hi] at hx
        exact (Option.some.inj hx).symm
      have et : m.live.take (i + 1) = m.live.take i ++ [m.live[i]] := by rw [List.take_add_one, List.getElem?_eq_getElem hi]; rfl
      obtain ⟨g3, k3⟩ := TM.Grow.tideL (l := m.live.take i) k fun o ho => hlv o (List.mem_of_mem_take ho)
      have ho := hlv _ (List.getElem_mem hi)
      rw [et, TM.tideL_snoc]
      generalize m.live[i] = o at ho
      generalize m.tideL (m.live.take i) = m3 at t3 g3 k3
      walk_at "wx"
      refine wc_look_round rfl t3 k3 (by rw [g3.aw]; exact ho) (Fr.tabs fr3 hT2) fun p4 H4 hp4 fr4 h4 t4 => ?_
      exact ⟨_, rfl, fr3.trans fr4, fr4.at h3 nG, t4⟩
    · rintro σ H3 ⟨v, rfl, fr3, h3, t3⟩
      rw [List.length_map, List.take_length] at t3
      have t3 : TownAt T H3 B1 G m.tide := t3
      have ta3 := ta2.fr fr3 fun x z y => t.dj x y z
      walk_at "wx"
      refine wc_l_tables ta3 kt fun p4 g4 b4 H4 hp4 ex4 rows4 => ?_
      have t4 := t3.ex' ex4
      walk_at "wx"
      refine wc_l_tables t4 kt fun p5 g5 b5 H5 hp5 ex5 rows5 => ?_
      have ex35 := ex4.trans ex5
      refine x_eqDD ((rows4.ex ex5).at.same rows5.at) ?_
      refine q H5 (((fr1.mono fun x z => .inl z).trans (ex2.fr.mono fun _ z => False.elim z)).trans ((fr3.mono fun x z => .inr z).trans (ex35.mono fun _ z => False.elim z))) ⟨ta3.ex' ex35, t3.ex' ex35, t.dj⟩
def sp_l_stays (T : Tx K mg base) : Sp := fun vs H Q _ => ∃ (A : TA) (F : Addr → Prop) (m m' : TM) (N : List Nat) (p lv : Addr) (g : Nat → Addr), vs = [.ref A.t, .ref p, .ref lv] ∧ TownAt T H A F m' ∧ m'.Ok N ∧ RowsAt H p (sortU m.houses) m g ∧ TM.Grow m m' ∧ (∀ h ∈ m.live, TM.Pure m' h) ∧ m.Ok N ∧ H lv = some (.lst (m.live.map nV)) ∧ ∀ H', Ex H H' → Q (.bl true) H'
theorem wc_l_stays {m' : TM} {N : List Nat} {p lv : Addr} {g : Nat → Addr} (t : TownAt T H A F m') (k : m'.Ok N) (r : RowsAt H p (sortU m.houses) m g) (gr : TM.Grow m m') (pu : ∀ h ∈ m.live, TM.Pure m' h) (k0 : m.Ok N) (hl : H lv = some (.lst (m.live.map nV))) (q : ∀ H', Ex H H' → Q (.bl true) H') : sp_l_stays T [.ref A.t, .ref p, .ref lv] H Q E := ⟨A, F, m, m', N, p, lv, g, rfl, t, k, r, gr, pu, k0, hl, q⟩
theorem ok_l_stays (T : Tx K mg base) : FnOk P w K mg base CX0 4 T.a_l_stays T.d_l_stays ["_law_town", "_law_tables_here", "_law_live"] (sp_l_stays T) := by
  refine T.F_l_stays.okD sc_l_stays (fun vs H Q E h => ?_) (fun cdv A outer s H vs Q E hr h => ?_)
  · obtain ⟨A, F, m, m', N, p, lv, g, rfl, _⟩ := h; rfl
  · obtain ⟨A1, F, m, m', N, p, lv, g, rfl, t, k, r, gr, pu, k0, hl, q⟩ := h
    obtain ⟨dx, ob⟩ := t.tw.ob
    have hu := hu_of hr
    have hz := k.houses_len
    have hll := k0.live_len
    have hw1 := k.w1
    have hsl : (sortU m'.houses).length < 64 := Nat.lt_of_le_of_lt (nodup_len (rising_nodup (sortU_sorted _)) fun _ z => mem_sortU.mp z) hz
    have c_Bucket := T.c_Bucket; have n_Bucket_room := T.n_Bucket_room; have n_Bucket_line := T.n_Bucket_line; have c_Table := T.c_Table; have n_Table_own := T.n_Table_own; have n_Table_wide := T.n_Table_wide; have n_Table_room := T.n_Table_room; have n_Table_buckets := T.n_Table_buckets; have c_Town := T.c_Town; have n_Town_wide := T.n_Town_wide; have n_Town_room := T.n_Town_room; have n_Town_tables := T.n_Town_tables; have n_Town_hushed := T.n_Town_hushed
    refine ⟨_, (pss_cons (ps_for PassesOwn.never rfl (pi_list (pe_meth0 (pv 0) T.c_Town T.t_Town_houses (ok_Town_houses T) (hr.mono (by decide)) T.b_Town_houses .nil pass0)) (pg_name (i := 3) sc_l_stays.nd rfl (Or.inr rfl))
      (pss_cons (ps_set (i := 4) sc_l_stays.nd rfl (Or.inr rfl) (pe_meth (pv 0) T.c_Town T.t_Town_keeps (ok_Town_keeps T) hr T.b_Town_keeps .nil pass0 (pa_cons (pv 3) pa_nil)))
      (pss_one (ps_if (pt_cmpR op_notIn_seq (pv 3) (pv 2) rfl)
      (pss_one (ps_if (pt_cmpR (op_neD hr.units) (pe_lc (own := [("_law_k", 5)]) (g := (gName 5)) (by rfl) sc_l_stays.nd (pi_range1 rfl T.z_range (pa_cons (pe_fld (pv 0) rfl) pa_nil)) (blkOk_by (N := N_l_stays) (sc := defScope s_l_stays) (own := [("_law_k", 5)]) (by decide +kernel)) (fun _ _ _ _ _ => (pg_name (i := 5) sc_l_stays.nd rfl (Or.inl rfl))) (fun _ _ _ _ _ => pts_nil) (fun _ _ _ _ _ => (pe_meth (pv 0) T.c_Town T.t_Town_bucket (ok_Town_bucket T) hr T.b_Town_bucket .nil pass0 (pa_cons (pv 3) (pa_cons (pv 5) pa_nil))))) (pe_dget hu (pv 1) (pv 3) (fun _ _ => rfl)) (nomark _))
      (pss_one (ps_ret pe_bl))
      pss_nil))
      (pss_cons (ps_if (pt_cmpR (op_neD hr.units) (pe_lc (own := [("_law_name_here", 6)]) (g := (gName 6)) (by rfl) sc_l_stays.nd (pi_list (pv 4)) (blkOk_by (N := N_l_stays) (sc := defScope s_l_stays) (own := [("_law_name_here", 6)]) (by decide +kernel)) (fun _ _ _ _ _ => (pg_name (i := 6) sc_l_stays.nd rfl (Or.inl rfl))) (fun _ _ _ _ _ => pts_one ((pt_cmpR (op_notInK (K := K) rfl) (pv 6) (pv 2) rfl))) (fun _ _ _ _ _ => (pv 6))) (pe_lst pa_nil) (nomark _))
      (pss_one (ps_ret pe_bl))
      pss_nil)
      (pss_one (ps_for PassesOwn.never rfl (pi_list (pe_dget hu (pv 1) (pv 3) (fun _ _ => rfl))) (pg_name (i := 7) sc_l_stays.nd rfl (Or.inl rfl))
      (pss_one (ps_if (pt_cmpR (op_neD hr.units) (pe_lc (own := [("_law_name_here", 6)]) (g := (gName 6)) (by rfl) sc_l_stays.nd (pi_list (pv 7)) (blkOk_by (N := N_l_stays) (sc := defScope s_l_stays) (own := [("_law_name_here", 6)]) (by decide +kernel)) (fun _ _ _ _ _ => (pg_name (i := 6) sc_l_stays.nd rfl (Or.inl rfl))) (fun _ _ _ _ _ => pts_one ((PW.pt (pw_and (pt_cmpR (op_inK (K := K) rfl) (pv 6) (pv 2) rfl) (pw_and1 (pt_cmpR (op_notInK (K := K) rfl) (pv 6) (pv 4) rfl)))))) (fun _ _ _ _ _ => (pv 6))) (pe_lst pa_nil) (nomark _))
      (pss_one (ps_ret pe_bl))
      pss_nil)))))))))
      (pss_one (ps_ret pe_bl))), ?_⟩
    rw [Nn.st_l_stays]; try rw [Nn.cxK]
    try rw [Nn.cxW]
    walk_at "wx"
    refine wc_Town_houses t hz k.nd fun p1 hp1 => ?_
    generalize hU : upd H p1 _ = H1
    have ex1 := Ex.new' hp1 hU
    have h11 := new_at hU
    clear hU
    walk_at "wx"
    refine ForW.by walk_list (fun i σ H' => ∃ (v3 v4 v5 v6 v7 : Option V), σ = [some (.ref A1.t), some (.ref p), some (.ref lv), v3, v4, v5, v6, v7] ∧ Ex H1 H') ⟨_, _, _, _, _, rfl, Ex.refl⟩ (fun i σ H' _ ⟨_, _, _, _, _, _, e⟩ => SqL.of (e.at h11)) ?_ ?_
    · rintro i y σ _ H2 hi ⟨v3, v4, v5, v6, v7, rfl, ex2⟩ ⟨rfl, hx⟩
      rw [List.length_map] at hi
      obtain rfl : y = nV (sortU m'.houses)[i] := by
        rw [List.getElem?_map, List.getElem?_eq_getElem hi] at hx
        exact (Option.some.inj hx).symm
      have hh := mem_sortU.mp (List.getElem_mem hi)
      generalize (sortU m'.houses)[i] = h at hh
      have hm : h ∈ m.houses := by rw [← gr.hs]; exact hh
      have hms : h ∈ sortU m.houses := mem_sortU.mpr hm
      have ex02 := ex1.trans ex2
      have t2 := t.ex' ex02
      obtain ⟨dx2, ob2⟩ := t2.tw.ob
      have hkl := k.keeps_len hh
      walk_at "wx"
      refine wc_Town_keeps rfl t2 k.w1 (k.bd hh) hh (k.tabOk hh).nodup (by omega) fun p3 H3 hp3 ex3 h33 => ?_
      have ex03 := ex02.trans ex3
      have hl3 := ex03.at hl
      have r3 := r.ex ex03
      have at3 := r3.at_
      obtain ⟨ps, ro3, rl3, rb3⟩ := r3.rows h hms
      have t3 := t.ex' ex03
      obtain ⟨dx3, ob3⟩ := t3.tw.ob
      have ev : valV (dOf (sortU m.houses) fun h => V.ref (g h)) (Sum.inl (h : Int)) = some (.ref (g h)) := by
        have q := dOf_val (f := fun h => V.ref (g h)) (n := h) (hs := sortU m.houses)
        rw [if_pos hms] at q; exact q
      have hkl2 : (m'.keeps h).length < 64 := Nat.lt_of_le_of_lt (nodup_len (rising_nodup (sortU_sorted _)) fun x hx => TM.mem_keeps.mp hx) hkl
      walk_at "wx"
      by_cases hlv : h ∈ m.live
      · rw [decide_eq_true hlv]
        walk_at "wx"
        refine LcW.filt (emb := nV) (xs := m'.keeps h) (fun n => !decide (n ∈ m.live)) (SqL.of h33) (by rw [sizeLine_eq]; omega) (fun n _ H4 ex4 R hR => ?_) (fun n _ _ H4 ex4 Qe hQ => ?_) fun p4 H4 hp4 ex4 h44 => ?_
        · have hl4 := ex4.at hl3
          walk_at "wx"
          exact hR _ Ex.refl
        · walk_at "wx"
          exact hQ
        have e0 : (m'.keeps h).filter (fun n => !decide (n ∈ m.live)) = [] := List.filter_eq_nil_iff.mpr fun n hn => by
          obtain ⟨j, hj⟩ := TM.tab_row (TM.mem_keeps.mp hn)
          have := pu h hlv j n hj
          rw [gr.aw] at this
          simp [TM.mem_live.mpr this]
        rw [e0] at h44
        walk_at "wx"
        refine ⟨len_ok rfl, fun p5 hp5 => ?_⟩
        generalize hU : upd _ p5 _ = H5
        have ex5 := Ex.new' hp5 hU
        have h55 := new_at hU
        clear hU
        refine x_neLN (xs := []) (ys := []) (SqL.of (ex5.at h44)) (SqL.of h55) ?_
        rw [decide_eq_true rfl]
        have ex35 := ex4.trans ex5
        have at5 := (r3.ex ex35).at_
        have ro5 := ex35.at ro3
        walk_at "wx"
        refine ForW.by (walk_list (xs := ps.map V.ref)) (fun j σ H' => ∃ (v5 v6 v7 : Option V), σ = [some (.ref A1.t), some (.ref p), some (.ref lv), some (nV h), some (.ref p3), v5, v6, v7] ∧ Ex H3 H') ⟨_, _, _, rfl, ex35⟩ (fun i σ H' _ ⟨_, _, _, _, e⟩ => SqL.of (e.at ro3)) ?_ ?_
        · rintro j y σ _ H6 hj ⟨v5, v6, v7, rfl, ex6⟩ ⟨rfl, hy⟩
          rw [List.length_map] at hj
          obtain rfl : y = .ref ps[j] := by
            rw [List.getElem?_map, List.getElem?_eq_getElem hj] at hy
            exact (Option.some.inj hy).symm
          have bj := ex6.at (rb3 j _ (List.getElem?_eq_getElem hj))
          have hl6 := ex6.at hl3
          have h36 := ex6.at h33
          have hrl := (k0.row (j := j) hm).2.1
          have hr8 := k0.r1
          walk_at "wx"
          refine LcW.filt (emb := nV) (xs := m.row h j) (fun n => decide (n ∈ m.live) && !decide (n ∈ m'.keeps h)) (SqL.of bj) (by rw [sizeLine_eq]; omega) (fun n _ H7 ex7 R hR => ?_) (fun n _ _ H7 ex7 Qe hQ => ?_) fun p7 H7 hp7 ex7 h77 => ?_
          · have hl7 := ex7.at hl6
            have h37 := ex7.at h36
            walk_at "wx"
            by_cases hn : n ∈ m.live
            · rw [decide_eq_true hn, Bool.true_and] at hR
              rw [decide_eq_true hn]
              walk_at "wx"
              exact hR _ Ex.refl
            · rw [decide_eq_false hn, Bool.false_and] at hR
              rw [decide_eq_false hn]
              walk_at "wx"
              exact hR _ Ex.refl
          · walk_at "wx"
            exact hQ
          have e1 : (m.row h j).filter (fun n => decide (n ∈ m.live) && !decide (n ∈ m'.keeps h)) = [] := List.filter_eq_nil_iff.mpr fun n hn => by
            by_cases hl : n ∈ m.live
            · have q1 := TM.mem_keeps.mpr (TM.row_tab (gr.keep h j n hn (TM.mem_live.mp hl)))
              simp [q1]
            · simp [hl]
          rw [e1] at h77
          walk_at "wx"
          refine ⟨len_ok rfl, fun p8 hp8 => ?_⟩
          generalize hU : upd _ p8 _ = H8
          have ex8 := Ex.new' hp8 hU
          have h88 := new_at hU
          clear hU
          refine x_neLN (xs := []) (ys := []) (SqL.of (ex8.at h77)) (SqL.of h88) ?_
          rw [decide_eq_true rfl]
          walk_at "wx"
          exact ⟨_, _, _, rfl, (ex6.trans ex7).trans ex8⟩
        · rintro σ H6 ⟨v5, v6, v7, rfl, ex6⟩
          walk_at "wx"
          exact ⟨_, _, _, _, _, rfl, (ex2.trans ex3).trans ex6⟩
      · rw [decide_eq_false hlv]
        have hsil : m.aw h = false := by
          cases e : m.aw h with
          | true => exact absurd (TM.mem_live.mpr e) hlv
          | false => rfl
        walk_at "wx"
        refine LcW.by1 walk_rgN (by rw [sizeLine_eq]; omega) (fun D j acc H' => ∃ qs : List Addr, acc = qs.map V.ref ∧ qs.length = j ∧ Ex H3 H' ∧ ∀ j' p, qs[j']? = some p → p ≠ D ∧ H' p = some (.lst ((m'.row h j').map nV)))
          (fun D hD => ⟨[], rfl, rfl, Ex.new hD, by simp⟩) (fun _ _ _ _ _ _ _ => trivial) ?_ ?_
        · rintro D j acc x H4 _ hj hD ⟨qs, rfl, hql, ex4, hp⟩ hat ⟨rfl, rfl⟩ Qe hQ
          have t4 := t.ex' (ex03.trans ex4)
          obtain ⟨dx4, ob4⟩ := t4.tw.ob
          walk_at "wx"
          refine wc_Town_bucket rfl rfl t4 k.w1 (k.bd hh) hh hj fun p5 hp5 => ?_
          have nD : p5 ≠ D := fun z => by rw [z, hat] at hp5; cases hp5
          refine hQ (.ref p5) _ (at_new hp5 hat) ⟨qs ++ [p5], by simp, by simp [hql], (ex4.newT hp5).mut hD (at_new hp5 hat), fun j' p hp' => ?_⟩
          by_cases hj' : j' < qs.length
          · rw [List.getElem?_append_left hj'] at hp'
            obtain ⟨g1, g2⟩ := hp j' p hp'
            exact ⟨g1, by rw [upd_ne g1]; exact at_new hp5 g2⟩
          · have hl2 := (List.getElem?_eq_some_iff.mp hp').1
            have ej : j' = qs.length := by simp at hl2; omega
            rw [ej, List.getElem?_append_right (Nat.le_refl _), Nat.sub_self] at hp'
            cases hp'
            exact ⟨nD, by rw [upd_ne nD, upd_same, ej, hql]; rfl⟩
        · rintro D acc H4 hD ⟨qs, rfl, hql, ex4, hp⟩ hat _
          have r4 := r3.ex ex4
          have at4 := r4.at_
          have d1 : Dp K H4 (.ref D) (.list ((List.range' 0 m.wide).map fun j => PyData.list (((m.row h j).map fun n : Nat => (n : Int)).map PyData.int))) := by
            have z := dpAll_rows (K := K) (H := H4) (f := fun j => m.row h j) (ps := qs) (i := 0) fun j q hq => by
              rw [Nat.zero_add]
              have z := (hp j q hq).2
              rw [gr.sil h hsil] at z; exact z
            rw [hql, gr.wd] at z
            exact .lst (SqL.of hat) z
          have sh : Shp (.list ((List.range' 0 m.wide).map fun j => PyData.list (((m.row h j).map fun n : Nat => (n : Int)).map PyData.int))) 2 := Shp.lst fun y hy => by
            obtain ⟨j, _, rfl⟩ := List.mem_map.mp hy
            exact Shp.ints
          walk_at "wx"
          refine x_neSame d1 (r4.dp hms) sh ?_
          walk_at "wx"
          exact ⟨_, _, _, _, _, rfl, (ex2.trans ex3).trans ex4⟩
    · rintro σ H2 ⟨v3, v4, v5, v6, v7, rfl, ex2⟩
      walk_at "wx"
      exact q H2 (ex1.trans ex2)
def sp_l_right (T : Tx K mg base) : Sp := fun vs H Q _ => ∃ (A B : TA) (F G : Addr → Prop) (m : TM) (N : List Nat), vs = [.ref A.t, .ref B.t] ∧ Two T H A B F G m ∧ m.Ok N ∧ N.length < 63 ∧ NdefX.TabsN (tabsL T) H ∧ ∀ H' m', Fr (fun x => F x ∨ G x) H H' → Two T H' A B F G m' → m'.Ok N → TM.Grow m m' → Q (.bl true) H'
theorem wc_l_right {N : List Nat} (t : Two T H A B F G m) (k : m.Ok N) (hN : N.length < 63) (tb : NdefX.TabsN (tabsL T) H) (q : ∀ H' m', Fr (fun x => F x ∨ G x) H H' → Two T H' A B F G m' → m'.Ok N → TM.Grow m m' → Q (.bl true) H') : sp_l_right T [.ref A.t, .ref B.t] H Q E := ⟨A, B, F, G, m, N, rfl, t, k, hN, tb, q⟩
theorem ok_l_right (T : Tx K mg base) : FnOk P w K mg base CX0 10 T.a_l_right T.d_l_right ["_law_town", "_law_other"] (sp_l_right T) := by
  refine T.F_l_right.okD sc_l_right (fun vs H Q E h => ?_) (fun cdv A outer s H vs Q E hr h => ?_)
  · obtain ⟨A, B, F, G, m, N, rfl, _⟩ := h; rfl
  · obtain ⟨A1, B1, F, G, m, N, rfl, t, k, hN, hT, q⟩ := h
    obtain ⟨dxa, oba⟩ := t.a.tw.ob
    have hu := hu_of hr
    have hz := k.houses_len
    have hll := k.live_len
    obtain ⟨gt, kt⟩ := TM.tide_ok k
    have c_Bucket := T.c_Bucket; have n_Bucket_room := T.n_Bucket_room; have n_Bucket_line := T.n_Bucket_line; have c_Table := T.c_Table; have n_Table_own := T.n_Table_own; have n_Table_wide := T.n_Table_wide; have n_Table_room := T.n_Table_room; have n_Table_buckets := T.n_Table_buckets; have c_Town := T.c_Town; have n_Town_wide := T.n_Town_wide; have n_Town_room := T.n_Town_room; have n_Town_tables := T.n_Town_tables; have n_Town_hushed := T.n_Town_hushed
    refine ⟨_, (pss_cons (ps_set (i := 2) sc_l_right.nd rfl (Or.inr rfl) (pe_meth0 (pv 0) T.c_Town T.t_Town_answering (ok_Town_answering T) (hr.mono (by decide)) T.b_Town_answering .nil pass0))
      (pss_cons (ps_set (i := 3) sc_l_right.nd rfl (Or.inl rfl) (pe_call (ok_l_tables T) (hr.mono (by decide)) rfl T.m_l_tables T.F_l_tables.kp T.b_l_tables .nil pass0 (pa_cons (pv 0) pa_nil)))
      (pss_cons (ps_set (i := 4) sc_l_right.nd rfl (Or.inl rfl) (pe_callB (cr_all rfl) (by rfl) T.z_all (by decide +kernel) (pa_cons (pe_lc (own := [("_law_house", 5)]) (g := (gName 5)) (by rfl) sc_l_right.nd (pi_list (pv 2)) (blkOk_by (N := N_l_right) (sc := defScope s_l_right) (own := [("_law_house", 5)]) (by decide +kernel)) (fun _ _ _ _ _ => (pg_name (i := 5) sc_l_right.nd rfl (Or.inl rfl))) (fun _ _ _ _ _ => pts_nil) (fun _ _ _ _ _ => (pe_cmpR (op_eqDK (K := K) hr.units rfl) (pe_call (ok_l_reach T) (hr.mono (by decide)) rfl T.m_l_reach T.F_l_reach.kp T.b_l_reach .nil pass0 (pa_cons (pv 0) (pa_cons (pv 5) pa_nil))) (pv 2) (nomark _)))) pa_nil)))
      (pss_cons (ps_if (PW.pt (pw_or (pt_not (pt_val (pe_call (ok_l_as_it_is T) hr rfl T.m_l_as_it_is T.F_l_as_it_is.kp T.b_l_as_it_is .nil pass0 (pa_cons (pv 0) pa_nil)))) (pw_or (pt_not (pt_val (pe_call (ok_l_washed T) (hr.mono (by decide)) rfl T.m_l_washed T.F_l_washed.kp T.b_l_washed .nil pass0 (pa_cons (pv 0) (pa_cons (pv 1) pa_nil))))) (pw_or1 (pt_not (pt_val (pe_call (ok_l_as_it_is T) hr rfl T.m_l_as_it_is T.F_l_as_it_is.kp T.b_l_as_it_is .nil pass0 (pa_cons (pv 0) pa_nil))))))))
      (pss_one (ps_ret pe_bl))
      pss_nil)
      (pss_cons (ps_if (PW.pt (pw_or (pt_cmpR (op_neD hr.units) (pe_meth0 (pv 0) T.c_Town T.t_Town_answering (ok_Town_answering T) (hr.mono (by decide)) T.b_Town_answering .nil pass0) (pv 2) (nomark _)) (pw_or1 (pt_not (pt_val (pe_call (ok_l_stays T) (hr.mono (by decide)) rfl T.m_l_stays T.F_l_stays.kp T.b_l_stays .nil pass0 (pa_cons (pv 0) (pa_cons (pv 3) (pa_cons (pv 2) pa_nil)))))))))
      (pss_one (ps_ret pe_bl))
      pss_nil)
      (pss_cons (ps_if (pt_val (pv 4))
      (pss_cons (ps_setLc (i := 6) (own := [("_law_house", 5)]) (g := (gName 5)) (by rfl) sc_l_right.nd rfl rfl (sw_true rfl rfl rfl (by decide +kernel)) (pi_list (pv 2)) (blkOk_by (N := N_l_right) (sc := defScope s_l_right) (own := [("_law_house", 5)]) (by decide +kernel)) (fun _ _ _ _ _ => (pg_name (i := 5) sc_l_right.nd rfl (Or.inl rfl))) (fun _ _ _ _ _ => pts_nil) (fun _ _ _ _ _ => (pe_meth (pv 0) T.c_Town T.t_Town_keeps (ok_Town_keeps T) (hr.mono (by decide)) T.b_Town_keeps .nil pass0 (pa_cons (pv 5) pa_nil))))
      (pss_cons (ps_if (PW.pt (pw_or (pt_cmpR op_notNn (pe_call (ok_fault T) (hr.mono (by decide)) rfl T.m_fault T.F_fault.kp T.b_fault .nil pass0 (pa_cons (pv 0) pa_nil)) pe_non (nomark _)) (pw_or1 (pt_cmpR op_notNn (pe_call (ok_l_fault T) (hr.mono (by decide)) rfl T.m_l_fault T.F_l_fault.kp T.b_l_fault .nil pass0 (pa_cons (pv 0) pa_nil)) pe_non (nomark _)))))
      (pss_one (ps_ret pe_bl))
      pss_nil)
      (pss_one (ps_ret (pe_and (pe_call (ok_l_washed T) (hr.mono (by decide)) rfl T.m_l_washed T.F_l_washed.kp T.b_l_washed .nil pass0 (pa_cons (pv 0) (pa_cons (pv 1) pa_nil))) (pe_one (pe_cmpR (op_eqD hr.units) (pe_lc (own := [("_law_house", 5)]) (g := (gName 5)) (by rfl) sc_l_right.nd (pi_list (pv 2)) (blkOk_by (N := N_l_right) (sc := defScope s_l_right) (own := [("_law_house", 5)]) (by decide +kernel)) (fun _ _ _ _ _ => (pg_name (i := 5) sc_l_right.nd rfl (Or.inl rfl))) (fun _ _ _ _ _ => pts_nil) (fun _ _ _ _ _ => (pe_meth (pv 0) T.c_Town T.t_Town_keeps (ok_Town_keeps T) (hr.mono (by decide)) T.b_Town_keeps .nil pass0 (pa_cons (pv 5) pa_nil)))) (pv 6) (nomark _))))))))
      pss_nil)
      (pss_one (ps_ret pe_bl)))))))), ?_⟩
    rw [Nn.st_l_right]; try rw [Nn.cxK]
    try rw [Nn.cxW]
    walk_at "wx"
    refine wc_Town_answering t.a hz k.nd fun p1 H1 hp1 ex1 h11 => ?_
    have t1 := t.ex ex1
    walk_at "wx"
    refine wc_l_tables t1.a k fun p2 g b H2 hp2 ex2 rows2 => ?_
    have t2 := t1.ex ex2
    have h12 := ex2.at h11
    have ex02 := ex1.trans ex2
    walk_at "wx"
    refine LcW.map (emb := nV) (xs := m.live) (fun h => V.bl (decide (m.comeTo h = m.live))) (SqL.of h12) (by rw [sizeLine_eq]; omega) (fun h hh H3 ex3 Qe hQ => ?_) fun p3 H3 hp3 ex3 h3 => ?_
    · have t3 := t2.ex ex3
      have h13 := ex3.at h12
      walk_at "wx"
      refine wc_l_reach rfl t3.a k (TM.mem_live.mp hh) fun p4 H4 hp4 ex4 h4 => ?_
      have h14 := ex4.at h13
      walk_at "wx"
      exact hQ _ ex4
    have em : (m.live.map fun h => V.bl (decide (m.comeTo h = m.live))) = (m.live.map fun h => decide (m.comeTo h = m.live)).map V.bl := by rw [List.map_map]; rfl
    rw [em] at h3
    walk_at "wx"
    refine x_all (SqL.of h3) ?_
    have ebw : ((m.live.map fun h => decide (m.comeTo h = m.live)).all id) = true ↔ TM.Whole m := by
      rw [TM.whole_comeTo k, List.all_eq_true]
      simp
    generalize ((m.live.map fun h => decide (m.comeTo h = m.live)).all id) = wb at ebw ⊢
    have t3 := t2.ex ex3
    have ex03 := ex02.trans ex3
    have hT3 := Fr.tabs ex03 hT
    have nR : ∀ x, F x ∨ G x → H1 x ≠ none := fun x z e => z.elim (fun z => t1.a.ex x z e) fun z => t1.b.ex x z e
    have n1 : ¬ (F p1 ∨ G p1) := fun z => z.elim (fun z => t.a.ex p1 z hp1) fun z => t.b.ex p1 z hp1
    have h13 := ex3.at h12
    walk_at "wx"
    refine wc_l_as_it_is t3.a k hN hT3 fun H4 ex4 => ?_
    have t4 := t3.ex ex4
    have hT4 := Fr.tabs ex4 hT3
    have h14 := ex4.at h13
    walk_at "wx"
    refine wc_l_washed t4 k hT4 fun H5 fr5 t5 => ?_
    have hT5 := Fr.tabs fr5 hT4
    have h15 := fr5.at h14 n1
    walk_at "wx"
    refine wc_l_as_it_is t5.a kt hN hT5 fun H6 ex6 => ?_
    have t6 := t5.ex ex6
    have h16 := ex6.at h15
    have hz6 := kt.houses_len
    obtain ⟨dxa6, oba6⟩ := t6.a.tw.ob
    walk_at "wx"
    refine wc_Town_answering t6.a hz6 kt.nd fun p7 H7 hp7 ex7 h77 => ?_
    rw [gt.live] at h77
    have t7 := t6.ex ex7
    have h17 := ex7.at h16
    have ex67 := ex6.trans ex7
    have rows7 := ((((rows2.ex ex3).ex ex4).fr fr5 nR).ex ex67)
    have fr07 : Fr (fun x => F x ∨ G x) H H7 := ((ex03.trans ex4).fr.mono fun _ z => False.elim z).trans (fr5.trans (ex67.fr.mono fun _ z => False.elim z))
    have hT7 := Fr.tabs ex67 hT5
    have pu : ∀ h ∈ m.live, TM.Pure m.tide h := (TM.tide_pure k fun _ ho => TM.mem_live.mp ho).2
    walk_at "wx"
    refine wc_l_stays t7.a kt rows7.at gt pu k h17 fun H8 ex8 => ?_
    have t8 := t7.ex ex8
    have h18 := ex8.at h17
    have fr08 : Fr (fun x => F x ∨ G x) H H8 := fr07.trans (ex8.fr.mono fun _ z => False.elim z)
    have hT8 := Fr.tabs ex8 hT7
    obtain ⟨dxa8, oba8⟩ := t8.a.tw.ob
    walk_at "wx"
    refine x_ifB (fun hw => ?_) fun hw => ?_
    · have hwh := ebw.mp hw
      walk_at "wx"
      refine LcW.by1 (walk_list (xs := m.live.map nV)) (by rw [sizeLine_eq, List.length_map]; omega) (fun D j acc H' => ∃ ps : List Addr, acc = ps.map V.ref ∧ ps.length = j ∧ Ex H8 H' ∧ ∀ j' p, ps[j']? = some p → (p ≠ D ∧ H8 p = none) ∧ H' p = some (.lst ((m.tide.keeps (m.live.getD j' 0)).map nV)))
        (fun D hD => ⟨[], rfl, rfl, Ex.new hD, by simp⟩) (fun D i acc H' _ _ ⟨_, _, _, e, _⟩ => SqL.of (e.at h18)) ?_ ?_
      · rintro D j acc x _ Hb hj hD ⟨ps, rfl, hl, exb, hp⟩ hat ⟨rfl, hx⟩ Qe hQ
        rw [List.length_map] at hj
        obtain rfl : x = nV m.live[j] := by
          rw [List.getElem?_map, List.getElem?_eq_getElem hj] at hx
          exact (Option.some.inj hx).symm
        have egd : m.live.getD j 0 = m.live[j] := by rw [List.getD_eq_getElem?_getD, List.getElem?_eq_getElem hj]; rfl
        have hhm : m.live[j] ∈ m.tide.houses := by rw [gt.hs]; exact TM.live_house (List.getElem_mem hj)
        have tb := t8.ex exb
        obtain ⟨dxb, obb⟩ := tb.a.tw.ob
        have hkb := kt.keeps_len hhm
        walk_at "wx"
        refine wc_Town_keeps rfl tb.a kt.w1 (kt.bd hhm) hhm (kt.tabOk hhm).nodup (by omega) fun p5 Hc hp5 exc h55 => ?_
        have nD : p5 ≠ D := fun z => by rw [z, hat] at hp5; cases hp5
        refine hQ (.ref p5) _ (exc.at hat) ⟨ps ++ [p5], by simp, by simp [hl], (exb.trans exc).mut hD (exc.at hat), fun j' p hp' => ?_⟩
        by_cases hj' : j' < ps.length
        · rw [List.getElem?_append_left hj'] at hp'
          obtain ⟨g1, g2⟩ := hp j' p hp'
          exact ⟨g1, by rw [upd_ne g1.1]; exact exc.at g2⟩
        · have hl2 := (List.getElem?_eq_some_iff.mp hp').1
          have ej : j' = ps.length := by simp at hl2; omega
          rw [ej, List.getElem?_append_right (Nat.le_refl _), Nat.sub_self] at hp'
          cases hp'
          exact ⟨⟨nD, exb.back _ hp5⟩, by rw [upd_ne nD, ej, hl, egd]; exact h55⟩
      · rintro D acc H9 hD ⟨ps, rfl, hl, ex9, hp⟩ hat _
        rw [List.length_map] at hl
        have t9 := t8.ex ex9
        have fr09 : Fr (fun x => F x ∨ G x) H H9 := fr08.trans (ex9.fr.mono fun _ z => False.elim z)
        walk_at "wx"
        refine wc_fault t9.a kt fun v10 H10 ex10 pv10 => ?_
        rw [TM.tide_fault k hwh] at pv10
        obtain rfl : v10 = .non := pv10
        walk_at "wx"
        refine wc_l_fault (t9.ex ex10).a kt fun v11 H11 ex11 pv11 => ?_
        rw [TM.tide_fault k hwh] at pv11
        obtain rfl : v11 = .non := pv11
        have t11 := (t9.ex ex10).ex ex11
        obtain ⟨gtt0, ktt⟩ := TM.tide_ok kt
        have gtt := gt.trans gtt0
        have ex811 := (ex9.trans ex10).trans ex11
        have nH : ∀ x, F x ∨ G x → H8 x ≠ none := fun x z e => z.elim (fun z => t8.a.ex x z e) fun z => t8.b.ex x z e
        walk_at "wx"
        refine wc_l_washed t11 kt (Fr.tabs ex811 hT8) fun H12 fr12 t12 => ?_
        have h112 := fr12.at (ex811.at h18) n1
        have hat12 := fr12.at ((ex10.trans ex11).at hat) fun z => nH _ z hD
        have hp12 : ∀ j p, ps[j]? = some p → H12 p = some (.lst ((m.tide.keeps (m.live.getD j 0)).map nV)) := fun j p e => by
          obtain ⟨⟨_, g1⟩, g2⟩ := hp j p e
          exact fr12.at ((ex10.trans ex11).at g2) fun z => nH _ z g1
        have fr012 : Fr (fun x => F x ∨ G x) H H12 := fr08.trans ((ex811.fr.mono fun _ z => False.elim z).trans fr12)
        obtain ⟨dxa12, oba12⟩ := t12.a.tw.ob
        walk_at "wx"
        refine LcW.by1 (walk_list (xs := m.live.map nV)) (by rw [sizeLine_eq, List.length_map]; omega) (fun D j acc H' => ∃ ps : List Addr, acc = ps.map V.ref ∧ ps.length = j ∧ Ex H12 H' ∧ ∀ j' p, ps[j']? = some p → (p ≠ D ∧ H12 p = none) ∧ H' p = some (.lst ((m.tide.tide.keeps (m.live.getD j' 0)).map nV)))
          (fun D hD => ⟨[], rfl, rfl, Ex.new hD, by simp⟩) (fun D i acc H' _ _ ⟨_, _, _, e, _⟩ => SqL.of (e.at h112)) ?_ ?_
        · rintro D j acc x _ Hb hj hD ⟨ps, rfl, hl, exb, hp⟩ hat ⟨rfl, hx⟩ Qe hQ
          rw [List.length_map] at hj
          obtain rfl : x = nV m.live[j] := by
            rw [List.getElem?_map, List.getElem?_eq_getElem hj] at hx
            exact (Option.some.inj hx).symm
          have egd : m.live.getD j 0 = m.live[j] := by rw [List.getD_eq_getElem?_getD, List.getElem?_eq_getElem hj]; rfl
          have hhm : m.live[j] ∈ m.tide.tide.houses := by rw [gtt.hs]; exact TM.live_house (List.getElem_mem hj)
          have tb := t12.ex exb
          obtain ⟨dxb, obb⟩ := tb.a.tw.ob
          have hkb := ktt.keeps_len hhm
          walk_at "wx"
          refine wc_Town_keeps rfl tb.a ktt.w1 (ktt.bd hhm) hhm (ktt.tabOk hhm).nodup (by omega) fun p5 Hc hp5 exc h55 => ?_
          have nD : p5 ≠ D := fun z => by rw [z, hat] at hp5; cases hp5
          refine hQ (.ref p5) _ (exc.at hat) ⟨ps ++ [p5], by simp, by simp [hl], (exb.trans exc).mut hD (exc.at hat), fun j' p hp' => ?_⟩
          by_cases hj' : j' < ps.length
          · rw [List.getElem?_append_left hj'] at hp'
            obtain ⟨g1, g2⟩ := hp j' p hp'
            exact ⟨g1, by rw [upd_ne g1.1]; exact exc.at g2⟩
          · have hl2 := (List.getElem?_eq_some_iff.mp hp').1
            have ej : j' = ps.length := by simp at hl2; omega
            rw [ej, List.getElem?_append_right (Nat.le_refl _), Nat.sub_self] at hp'
            cases hp'
            exact ⟨⟨nD, exb.back _ hp5⟩, by rw [upd_ne nD, ej, hl, egd]; exact h55⟩
        · rintro D2 acc2 H13 hD2 ⟨ps2, rfl, hl2, ex13, hp2⟩ hat2 _
          rw [List.length_map] at hl2
          have lv : ∀ j, j < m.live.length → m.aw (m.live.getD j 0) = true := fun j hj => by
            rw [List.getD_eq_getElem?_getD, List.getElem?_eq_getElem hj]
            exact TM.mem_live.mp (List.getElem_mem hj)
          have d1 := dpAll_rows (K := K) (H := H13) (f := fun j => m.tide.keeps (m.live.getD j 0)) (ps := ps2) (i := 0) fun j q hq => by
            rw [Nat.zero_add]
            have z := (hp2 j q hq).2
            rw [TM.tide_again k hwh (lv j (by rw [← hl2]; exact (List.getElem?_eq_some_iff.mp hq).1))] at z
            exact z
          have d2 := dpAll_rows (K := K) (H := H13) (f := fun j => m.tide.keeps (m.live.getD j 0)) (ps := ps) (i := 0) fun j q hq => by
            rw [Nat.zero_add]
            exact ex13.at (hp12 j q hq)
          rw [hl2] at d1
          rw [hl] at d2
          have sh : Shp (.list ((List.range' 0 m.live.length).map fun j => PyData.list (((m.tide.keeps (m.live.getD j 0)).map fun n : Nat => (n : Int)).map PyData.int))) 2 := Shp.lst fun y hy => by
            obtain ⟨j, _, rfl⟩ := List.mem_map.mp hy
            exact Shp.ints
          walk_at "wx"
          refine x_eqSame (.lst (SqL.of hat2) d1) (.lst (SqL.of (ex13.at hat12)) d2) sh ?_
          exact q H13 m.tide.tide (fr012.trans (ex13.fr.mono fun _ z => False.elim z)) (t12.ex ex13) ktt gtt
    · walk_at "wx"
      exact q H8 m.tide fr08 t8 kt gt
def spLaw (K : PySem.W.Frag) : Sp := fun vs H Q _ => ∃ (a : Addr) (ns : List Int), vs = [.ref a] ∧ SqL K H a (ns.map V.int) ∧ ns.length ≤ 63 ∧ Tabs0 K H ∧ ∀ H', Q (.bl true) H'
def sp_law (_ : Tx K mg base) : Sp := spLaw K
theorem ok_law (T : Tx K mg base) : FnOk P w K mg base CX0 11 T.a_law T.d_law ["_law_script"] (sp_law T) := by
  refine T.F_law.okD sc_law (fun vs H Q E h => ?_) (fun cdv A outer s H vs Q E hr h => ?_)
  · obtain ⟨a, ns, rfl, _⟩ := h; rfl
  · obtain ⟨a, ns, rfl, hS, hlen, hT, q⟩ := h
    have hu := hu_of hr
    have c_Bucket := T.c_Bucket; have n_Bucket_room := T.n_Bucket_room; have n_Bucket_line := T.n_Bucket_line; have c_Table := T.c_Table; have n_Table_own := T.n_Table_own; have n_Table_wide := T.n_Table_wide; have n_Table_room := T.n_Table_room; have n_Table_buckets := T.n_Table_buckets; have c_Town := T.c_Town; have n_Town_wide := T.n_Town_wide; have n_Town_room := T.n_Town_room; have n_Town_tables := T.n_Town_tables; have n_Town_hushed := T.n_Town_hushed
    refine ⟨_, (pss_cons (ps_asg (pe_call (ok_l_sizes T) (hr.mono (by decide)) rfl T.m_l_sizes T.F_l_sizes.kp T.b_l_sizes .nil pass0 (pa_cons (pv 0) pa_nil)) (pg_tup (n := 3) rfl (pgs_cons (pg_name (i := 1) sc_law.nd rfl (Or.inl rfl)) (pgs_cons (pg_name (i := 2) sc_law.nd rfl (Or.inl rfl)) (pgs_cons (pg_name (i := 3) sc_law.nd rfl (Or.inl rfl)) pgs_nil)))))
      (pss_cons (ps_set (i := 4) sc_law.nd rfl (Or.inl rfl) (pe_make T.M_Town (ok_Town_init T) (hr.mono (by decide)) rfl T.m_Town T.b_Town_init .nil pass0 (pa_cons (pv 1) (pa_cons (pv 2) pa_nil))))
      (pss_cons (ps_set (i := 5) sc_law.nd rfl (Or.inl rfl) (pe_make T.M_Town (ok_Town_init T) (hr.mono (by decide)) rfl T.m_Town T.b_Town_init .nil pass0 (pa_cons (pv 1) (pa_cons (pv 2) pa_nil))))
      (pss_cons (ps_set (i := 6) sc_law.nd rfl (Or.inl rfl) (pe_op op_mod (pe_call (ok_l_draw T) (hr.mono (by decide)) rfl T.m_l_draw T.F_l_draw.kp T.b_l_draw .nil pass0 (pa_cons (pe_call (ok_l_cell_at T) (hr.mono (by decide)) rfl T.m_l_cell_at T.F_l_cell_at.kp T.b_l_cell_at .nil pass0 (pa_cons (pv 0) (pa_cons pe_int pa_nil))) (pa_cons pe_int (pa_cons (pv 3) pa_nil)))) (pe_op op_shl1 pe_int (pv 1))))
      (pss_cons (ps_set (i := 7) sc_law.nd rfl (Or.inl rfl) (pe_op op_cat (pe_lst (pa_cons pe_int (pa_cons pe_int pa_nil))) (pe_slice sl_list (pv 0) (po_some pe_int) (po_some pe_int))))
      (pss_cons (ps_for PassesOwn.never rfl (pi_enum (by rfl) T.z_enumerate (pa_cons (pv 7) pa_nil)) (pg_tup (n := 2) rfl (pgs_cons (pg_name (i := 8) sc_law.nd rfl (Or.inl rfl)) (pgs_cons (pg_name (i := 9) sc_law.nd rfl (Or.inl rfl)) pgs_nil)))
      (pss_cons (ps_expr (pe_call (ok_l_deed T) (hr.mono (by decide)) rfl T.m_l_deed T.F_l_deed.kp T.b_l_deed .nil pass0 (pa_cons (pv 4) (pa_cons (pe_call (ok_l_draw T) (hr.mono (by decide)) rfl T.m_l_draw T.F_l_draw.kp T.b_l_draw .nil pass0 (pa_cons (pv 9) (pa_cons (pe_op op_add pe_int (pv 8)) (pa_cons (pv 3) pa_nil)))) (pa_cons (pv 6) (pa_cons pe_int pa_nil))))))
      (pss_cons (ps_expr (pe_call (ok_l_deed T) (hr.mono (by decide)) rfl T.m_l_deed T.F_l_deed.kp T.b_l_deed .nil pass0 (pa_cons (pv 5) (pa_cons (pe_call (ok_l_draw T) (hr.mono (by decide)) rfl T.m_l_draw T.F_l_draw.kp T.b_l_draw .nil pass0 (pa_cons (pv 9) (pa_cons (pe_op op_add pe_int (pv 8)) (pa_cons (pv 3) pa_nil)))) (pa_cons (pv 6) (pa_cons pe_int pa_nil))))))
      (pss_one (ps_if (PW.pt (pw_and (PW.pt (pw_or (pt_cmpR op_eq (pe_op op_mod (pv 8) pe_int) pe_int (nomark _)) (pw_or1 (pt_cmpR op_eq (pv 8) (pe_op op_sub (pe_callB cb_len (by rfl) T.z_len PySem.boot_len (pa_cons (pv 7) pa_nil)) pe_int) (nomark _))))) (pw_and1 (pt_not (pt_val (pe_call (ok_l_right T) hr rfl T.m_l_right T.F_l_right.kp T.b_l_right .nil pass0 (pa_cons (pv 4) (pa_cons (pv 5) pa_nil))))))))
      (pss_one (ps_ret pe_bl))
      pss_nil)))))
      (pss_one (ps_ret pe_bl)))))))), ?_⟩
    rw [Nn.st_law]; try rw [Nn.cxK]
    try rw [Nn.cxW]
    walk_at "wx"
    refine wc_l_sizes hS fun p1 H1 wd room b hp1 ex1 h1 w1 w2 r1 r2 => ?_
    have hS1 := ex1.ls hS
    walk_at "wx"
    refine x_make fun tp dx H2 htp ex2 htp2 => ?_
    refine ⟨tp, dx, wd, room, rfl, htp2, by omega, w2, by omega, r2, fun A H3 F et hF fr3 ta3 => ⟨rfl, ?_⟩⟩
    have ex13 : Ex H1 H3 := fr3.ex ex2 fun y z => by rw [z]; exact htp
    have hT3 := Fr.tabs (ex1.trans ex13) (tabs0 (T := T) hT)
    have hS3 := ex13.ls hS1
    have k0 : (TM.new wd room).Ok [] := TM.Ok.new (by omega) w2 r1 r2
    subst et
    clear htp2 hS1 ex2 fr3 h1
    walk_at "wx"
    refine x_make fun tq dy H4 htq ex4 htq4 => ?_
    refine ⟨tq, dy, wd, room, rfl, htq4, by omega, w2, by omega, r2, fun B H5 G eu hG fr5 tb5 => ⟨rfl, ?_⟩⟩
    have ex35 : Ex H3 H5 := fr5.ex ex4 fun y z => by rw [z]; exact htq
    have ta5 := ta3.ex' ex35
    have hT5 := Fr.tabs ex35 hT3
    have hS5 := ex35.ls hS3
    have dj : ∀ x, F x → ¬ G x := fun x z y => by
      rcases hG x y with e | e
      · rw [e] at z; exact ta3.ex _ z htq
      · exact ta3.ex x z (ex4.back x e)
    have two : Two T H5 A B F G (TM.new wd room) := ⟨ta5, tb5, dj⟩
    subst eu
    have k0 : (TM.new wd room).Ok [] := TM.Ok.new (by omega) w2 r1 r2
    clear ta3 hT3 hS3 tb5 ta5 htq4 ex4 fr5
    walk_at "wx"
    refine wc_l_cell_at (k := 1) rfl hS5 fun z1 => ?_
    walk_at "wx"
    refine wc_l_draw (k := 1) rfl (by omega) ?_
    generalize drawN z1 1 b = rb
    walk_at "wx"
    obtain ⟨bs, hbs, ebs⟩ := mod_two_lt (z := (rb : Int)) (k := wd)
    rw [ebs]
    refine ⟨len_ok rfl, fun s1 hs1 => ?_⟩
    generalize hU : upd _ s1 _ = H6
    have ex6 := Ex.new' hs1 hU
    have h6 := new_at hU
    clear hU
    have hS6 := ex6.ls hS5
    walk_at "wx"
    refine x_slL hS6 fun s2 hs2 => ?_
    have hcl : (cutV (ns.map V.int) (some 2) (some 63)).length ≤ 61 := cut_len (xs := ns.map V.int) (k := 2) (m := 63)
    generalize hU : upd H6 s2 _ = H7
    have ex7 := Ex.new' hs2 hU
    have h7 := new_at hU
    clear hU
    refine x_cat (ex7.at h6) h7 (by rw [sizeLine_eq]; show 2 + _ ≤ _; omega) fun r hr => ?_
    have hit : ∀ x ∈ [V.int 0, V.int 11] ++ cutV (ns.map V.int) (some 2) (some 63), ∃ i : Int, x = .int i := fun x hx => by
      rcases List.mem_append.mp hx with h | h
      · simp at h
        rcases h with h | h
        · exact ⟨0, h⟩
        · exact ⟨11, h⟩
      · obtain ⟨i, _, rfl⟩ := List.mem_map.mp (cut_mem h)
        exact ⟨i, rfl⟩
    have hil : ([V.int 0, V.int 11] ++ cutV (ns.map V.int) (some 2) (some 63)).length ≤ 63 := by
      rw [List.length_append]; show 2 + _ ≤ _; omega
    generalize [V.int 0, V.int 11] ++ cutV (ns.map V.int) (some 2) (some 63) = its at hit hil ⊢
    generalize hU : upd H7 r _ = H8
    have ex8 := Ex.new' hr hU
    have hrr := new_at hU
    clear hU
    have ex58 := (ex6.trans ex7).trans ex8
    have two8 := two.ex ex58
    have hT8 := Fr.tabs ex58 hT5
    have hr0 : H5 r = none := (ex6.trans ex7).back r hr
    have nF8 : ¬ F r := fun z => two.a.ex r z hr0
    have nG8 : ¬ G r := fun z => two.b.ex r z hr0
    have e0 : (TM.new wd room).houses.length = 0 := rfl
    clear two hT5 hS5 hS6 h6 h7
    walk_at "wx"
    refine ForW.by walk_enumE (fun i σ H' => ∃ (A' B' : TA) (F G : Addr → Prop) (m : TM) (N : List Nat) (v8 v9 : Option V), σ = [some (.ref a), some (.int wd), some (.int room), some (.bl b), some (.ref A'.t), some (.ref B'.t), some (.int bs), some (.ref r), v8, v9] ∧ Two T H' A' B' F G m ∧ m.Ok N ∧ m.houses.length ≤ 8 ∧ 2 * N.length ≤ i + m.houses.length ∧ NdefX.TabsN (tabsL T) H' ∧ H' r = some (.lst its) ∧ ¬ F r ∧ ¬ G r)
      ⟨A, B, F, G, _, [], _, _, rfl, two8, k0, by omega, Nat.zero_le _, hT8, hrr, nF8, nG8⟩ (fun i σ H' _ ⟨_, _, _, _, _, _, _, _, _, _, _, _, _, _, e, _⟩ => SqL.of e) ?_ ?_
    · rintro i _ σ H9 H10 hi ⟨A', B', F', G', m, N, v8, v9, rfl, t9, k9, hh9, hN9, hT9, hr9, nF9, nG9⟩ ⟨tq, x, y, rfl, htq, ex10, htq10, hx, hy⟩
      obtain ⟨z, rfl⟩ := hit y (List.mem_of_getElem? hy)
      have hi63 : i < its.length := (List.getElem?_eq_some_iff.mp hy).1
      cases hx
      clear hy hi
      have t10 := t9.ex ex10
      have hT10 := Fr.tabs ex10 hT9
      have hr10 := ex10.at hr9
      walk_at "wx"
      refine wc_l_draw (k := 2 + i) (by omega) (by omega) ?_
      walk_at "wx"
      refine wc_l_deed rfl rfl (mo := 8) rfl t10.a k9 (by omega) hT10 fun H11 A11 F11 m11 fr11 eA hF11 ta11 d11 => ?_
      subst d11
      have tb11 := t10.b.fr fr11 fun x z => t10.dj x z
      have hT11 := Fr.tabs fr11 hT10
      have hr11 := fr11.at hr10 nF9
      have nG11 : ∀ x, G' x → ¬ F11 x := fun x z y => (hF11 x y).elim (fun w => t10.dj x w z) fun w => t10.b.ex x z w
      rw [← eA]
      walk_at "wx"
      refine wc_l_draw (k := 2 + i) (by omega) (by omega) ?_
      walk_at "wx"
      refine wc_l_deed rfl rfl (mo := 8) rfl tb11 k9 (by omega) hT11 fun H12 B12 G12 m12 fr12 eB hG12 tb12 d12 => ?_
      subst d12
      have ta12 := ta11.fr fr12 fun x z => nG11 x z
      have hT12 := Fr.tabs fr12 hT11
      have hr12 := fr12.at hr11 nG9
      have dj12 : ∀ x, F11 x → ¬ G12 x := fun x z y => (hG12 x y).elim (fun w => nG11 x w z) fun w => ta11.ex x z w
      rw [← eB]
      obtain ⟨N12, k12, _, _, hh12, hN12⟩ := deedF_good (x := drawN z (2 + i) b) (b := bs) (mo := 8) k9 (by omega) hh9
      have two12 : Two T H12 A11 B12 F11 G12 (deedF m (drawN z (2 + i) b) bs 8) := ⟨ta12, tb12, dj12⟩
      generalize deedF m (drawN z (2 + i) b) bs 8 = m12 at two12 k12 hh12 hN12
      have nF12 : ¬ F11 r := fun z => (hF11 r z).elim nF9 fun e => by rw [hr10] at e; cases e
      have nG12 : ¬ G12 r := fun z => (hG12 r z).elim nG9 fun e => by rw [hr11] at e; cases e
      walk_at "wx"
      refine x_ite (fun _ => ?_) fun _ => ?_
      · walk_at "wx"
        refine wc_l_right two12 k12 (by omega) hT12 fun H13 m13 fr13 t13 k13 g13 => ?_
        walk_at "wx"
        exact ⟨A11, B12, F11, G12, m13, N12, _, _, rfl, t13, k13, by rw [g13.hs]; exact hh12, by rw [g13.hs]; omega, Fr.tabs fr13 hT12, fr13.at hr12 fun z => z.elim nF12 nG12, nF12, nG12⟩
      · walk_at "wx"
        refine x_ite (fun _ => ?_) fun _ => ?_
        · walk_at "wx"
          refine wc_l_right two12 k12 (by omega) hT12 fun H13 m13 fr13 t13 k13 g13 => ?_
          walk_at "wx"
          exact ⟨A11, B12, F11, G12, m13, N12, _, _, rfl, t13, k13, by rw [g13.hs]; exact hh12, by rw [g13.hs]; omega, Fr.tabs fr13 hT12, fr13.at hr12 fun z => z.elim nF12 nG12, nF12, nG12⟩
        · walk_at "wx"
          exact ⟨A11, B12, F11, G12, m12, N12, _, _, rfl, two12, k12, hh12, by omega, hT12, hr12, nF12, nG12⟩
    · rintro σ H9 ⟨A', B', F', G', m, N, v8, v9, rfl, _⟩
      walk_at "wx"
      exact q H9
end
end Nn
namespace Nn
open PySem PySem.Spec PyProof.Rows L2
def dd_is_name : He.DefD := ⟨("is_name", none), "is_name", "is_name", defArgs s_is_name, defBody s_is_name, defScope s_is_name, [], []⟩
def dd_far : He.DefD := ⟨("far", none), "far", "far", defArgs s_far, defBody s_far, defScope s_far, [], []⟩
def dd_nearer : He.DefD := ⟨("nearer", none), "nearer", "nearer", defArgs s_nearer, defBody s_nearer, defScope s_nearer, [], []⟩
def dd_by_nearness : He.DefD := ⟨("by_nearness", none), "by_nearness", "by_nearness", defArgs s_by_nearness, defBody s_by_nearness, defScope s_by_nearness, [], []⟩
def dd_step : He.DefD := ⟨("step", none), "step", "step", defArgs s_step, defBody s_step, defScope s_step, [], []⟩
def dd_span : He.DefD := ⟨("span", none), "span", "span", defArgs s_span, defBody s_span, defScope s_span, [], []⟩
def dd_of_span : He.DefD := ⟨("of_span", none), "of_span", "of_span", defArgs s_of_span, defBody s_of_span, defScope s_of_span, [], []⟩
def dd_is_faulty : He.DefD := ⟨("is_faulty", none), "is_faulty", "is_faulty", defArgs s_is_faulty, defBody s_is_faulty, defScope s_is_faulty, [], []⟩
def dd_fault : He.DefD := ⟨("fault", none), "fault", "fault", defArgs s_fault, defBody s_fault, defScope s_fault, [], []⟩
def dd_holes : He.DefD := ⟨("holes", none), "holes", "holes", defArgs s_holes, defBody s_holes, defScope s_holes, [], []⟩
def dd_look_round : He.DefD := ⟨("look_round", none), "look_round", "look_round", defArgs s_look_round, defBody s_look_round, defScope s_look_round, [], []⟩
def dd_tide : He.DefD := ⟨("tide", none), "tide", "tide", defArgs s_tide, defBody s_tide, defScope s_tide, [], []⟩
def dd_standing : He.DefD := ⟨("standing", none), "standing", "standing", defArgs s_standing, defBody s_standing, defScope s_standing, [], []⟩
def dd_asked : He.DefD := ⟨("asked", none), "asked", "asked", defArgs s_asked, defBody s_asked, defScope s_asked, [], []⟩
def dd_onward : He.DefD := ⟨("onward", none), "onward", "onward", defArgs s_onward, defBody s_onward, defScope s_onward, [], []⟩
def dd_way : He.DefD := ⟨("way", none), "way", "way", defArgs s_way, defBody s_way, defScope s_way, [], []⟩
def dd_Bucket_init : He.DefD := ⟨("Bucket", some "__init__"), "__init__", "Bucket.__init__", defArgs s_Bucket_init, defBody s_Bucket_init, defScope s_Bucket_init, [], []⟩
def dd_Bucket_names : He.DefD := ⟨("Bucket", some "names"), "names", "Bucket.names", defArgs s_Bucket_names, defBody s_Bucket_names, defScope s_Bucket_names, [], []⟩
def dd_Bucket_hears : He.DefD := ⟨("Bucket", some "hears"), "hears", "Bucket.hears", defArgs s_Bucket_hears, defBody s_Bucket_hears, defScope s_Bucket_hears, [], []⟩
def dd_Bucket_drops : He.DefD := ⟨("Bucket", some "drops"), "drops", "Bucket.drops", defArgs s_Bucket_drops, defBody s_Bucket_drops, defScope s_Bucket_drops, [], []⟩
def dd_Table_init : He.DefD := ⟨("Table", some "__init__"), "__init__", "Table.__init__", defArgs s_Table_init, defBody s_Table_init, defScope s_Table_init, [], []⟩
def dd_Table_bucket_for : He.DefD := ⟨("Table", some "bucket_for"), "bucket_for", "Table.bucket_for", defArgs s_Table_bucket_for, defBody s_Table_bucket_for, defScope s_Table_bucket_for, [], []⟩
def dd_Table_hears : He.DefD := ⟨("Table", some "hears"), "hears", "Table.hears", defArgs s_Table_hears, defBody s_Table_hears, defScope s_Table_hears, [], []⟩
def dd_Table_drops : He.DefD := ⟨("Table", some "drops"), "drops", "Table.drops", defArgs s_Table_drops, defBody s_Table_drops, defScope s_Table_drops, [], []⟩
def dd_Table_bucket : He.DefD := ⟨("Table", some "bucket"), "bucket", "Table.bucket", defArgs s_Table_bucket, defBody s_Table_bucket, defScope s_Table_bucket, [], []⟩
def dd_Table_keeps : He.DefD := ⟨("Table", some "keeps"), "keeps", "Table.keeps", defArgs s_Table_keeps, defBody s_Table_keeps, defScope s_Table_keeps, [], []⟩
def dd_Table_nearest : He.DefD := ⟨("Table", some "nearest"), "nearest", "Table.nearest", defArgs s_Table_nearest, defBody s_Table_nearest, defScope s_Table_nearest, [.non], []⟩
def dd_is_size : He.DefD := ⟨("is_size", none), "is_size", "is_size", defArgs s_is_size, defBody s_is_size, defScope s_is_size, [], []⟩
def dd_Town_init : He.DefD := ⟨("Town", some "__init__"), "__init__", "Town.__init__", defArgs s_Town_init, defBody s_Town_init, defScope s_Town_init, [], []⟩
def dd_Town_houses : He.DefD := ⟨("Town", some "houses"), "houses", "Town.houses", defArgs s_Town_houses, defBody s_Town_houses, defScope s_Town_houses, [], []⟩
def dd_Town_answers : He.DefD := ⟨("Town", some "answers"), "answers", "Town.answers", defArgs s_Town_answers, defBody s_Town_answers, defScope s_Town_answers, [], []⟩
def dd_Town_answering : He.DefD := ⟨("Town", some "answering"), "answering", "Town.answering", defArgs s_Town_answering, defBody s_Town_answering, defScope s_Town_answering, [], []⟩
def dd_Town_table : He.DefD := ⟨("Town", some "table"), "table", "Town.table", defArgs s_Town_table, defBody s_Town_table, defScope s_Town_table, [], []⟩
def dd_Town_look_awake : He.DefD := ⟨("Town", some "look_awake"), "look_awake", "Town.look_awake", defArgs s_Town_look_awake, defBody s_Town_look_awake, defScope s_Town_look_awake, [], []⟩
def dd_Town_look_named : He.DefD := ⟨("Town", some "look_named"), "look_named", "Town.look_named", defArgs s_Town_look_named, defBody s_Town_look_named, defScope s_Town_look_named, [], []⟩
def dd_Town_bucket : He.DefD := ⟨("Town", some "bucket"), "bucket", "Town.bucket", defArgs s_Town_bucket, defBody s_Town_bucket, defScope s_Town_bucket, [], []⟩
def dd_Town_keeps : He.DefD := ⟨("Town", some "keeps"), "keeps", "Town.keeps", defArgs s_Town_keeps, defBody s_Town_keeps, defScope s_Town_keeps, [], []⟩
def dd_Town_tells : He.DefD := ⟨("Town", some "tells"), "tells", "Town.tells", defArgs s_Town_tells, defBody s_Town_tells, defScope s_Town_tells, [], []⟩
def dd_Town_hears : He.DefD := ⟨("Town", some "hears"), "hears", "Town.hears", defArgs s_Town_hears, defBody s_Town_hears, defScope s_Town_hears, [], []⟩
def dd_Town_come_to : He.DefD := ⟨("Town", some "come_to"), "come_to", "Town.come_to", defArgs s_Town_come_to, defBody s_Town_come_to, defScope s_Town_come_to, [], []⟩
def dd_Town_ask : He.DefD := ⟨("Town", some "ask"), "ask", "Town.ask", defArgs s_Town_ask, defBody s_Town_ask, defScope s_Town_ask, [], []⟩
def dd_Town_way : He.DefD := ⟨("Town", some "way"), "way", "Town.way", defArgs s_Town_way, defBody s_Town_way, defScope s_Town_way, [], []⟩
def dd_Town_visit : He.DefD := ⟨("Town", some "visit"), "visit", "Town.visit", defArgs s_Town_visit, defBody s_Town_visit, defScope s_Town_visit, [], []⟩
def dd_Town_come : He.DefD := ⟨("Town", some "come"), "come", "Town.come", defArgs s_Town_come, defBody s_Town_come, defScope s_Town_come, [.non], []⟩
def dd_Town_go : He.DefD := ⟨("Town", some "go"), "go", "Town.go", defArgs s_Town_go, defBody s_Town_go, defScope s_Town_go, [], []⟩
def dd_Town_hush : He.DefD := ⟨("Town", some "hush"), "hush", "Town.hush", defArgs s_Town_hush, defBody s_Town_hush, defScope s_Town_hush, [], []⟩
def dd_Town_wake : He.DefD := ⟨("Town", some "wake"), "wake", "Town.wake", defArgs s_Town_wake, defBody s_Town_wake, defScope s_Town_wake, [], []⟩
def dd_l_cell_at : He.DefD := ⟨("_law_cell_at", none), "_law_cell_at", "_law_cell_at", defArgs s_l_cell_at, defBody s_l_cell_at, defScope s_l_cell_at, [], []⟩
def dd_l_mixed : He.DefD := ⟨("_law_mixed", none), "_law_mixed", "_law_mixed", defArgs s_l_mixed, defBody s_l_mixed, defScope s_l_mixed, [], []⟩
def dd_l_draw : He.DefD := ⟨("_law_draw", none), "_law_draw", "_law_draw", defArgs s_l_draw, defBody s_l_draw, defScope s_l_draw, [], []⟩
def dd_l_sizes : He.DefD := ⟨("_law_sizes", none), "_law_sizes", "_law_sizes", defArgs s_l_sizes, defBody s_l_sizes, defScope s_l_sizes, [], []⟩
def dd_l_name : He.DefD := ⟨("_law_name", none), "_law_name", "_law_name", defArgs s_l_name, defBody s_l_name, defScope s_l_name, [], []⟩
def dd_l_come : He.DefD := ⟨("_law_come", none), "_law_come", "_law_come", defArgs s_l_come, defBody s_l_come, defScope s_l_come, [], []⟩
def dd_l_deed : He.DefD := ⟨("_law_deed", none), "_law_deed", "_law_deed", defArgs s_l_deed, defBody s_l_deed, defScope s_l_deed, [], []⟩
def dd_l_fault : He.DefD := ⟨("_law_fault", none), "_law_fault", "_law_fault", defArgs s_l_fault, defBody s_l_fault, defScope s_l_fault, [], []⟩
def dd_l_holes : He.DefD := ⟨("_law_holes", none), "_law_holes", "_law_holes", defArgs s_l_holes, defBody s_l_holes, defScope s_l_holes, [], []⟩
def dd_l_as_it_is : He.DefD := ⟨("_law_as_it_is", none), "_law_as_it_is", "_law_as_it_is", defArgs s_l_as_it_is, defBody s_l_as_it_is, defScope s_l_as_it_is, [], []⟩
def dd_l_reach : He.DefD := ⟨("_law_reach", none), "_law_reach", "_law_reach", defArgs s_l_reach, defBody s_l_reach, defScope s_l_reach, [], []⟩
def dd_l_tables : He.DefD := ⟨("_law_tables", none), "_law_tables", "_law_tables", defArgs s_l_tables, defBody s_l_tables, defScope s_l_tables, [], []⟩
def dd_l_stays : He.DefD := ⟨("_law_stays", none), "_law_stays", "_law_stays", defArgs s_l_stays, defBody s_l_stays, defScope s_l_stays, [], []⟩
def dd_l_washed : He.DefD := ⟨("_law_washed", none), "_law_washed", "_law_washed", defArgs s_l_washed, defBody s_l_washed, defScope s_l_washed, [], []⟩
def dd_l_right : He.DefD := ⟨("_law_right", none), "_law_right", "_law_right", defArgs s_l_right, defBody s_l_right, defScope s_l_right, [], []⟩
def dd_law : He.DefD := ⟨("law", none), "law", "law", defArgs s_law, defBody s_law, defScope s_law, [], []⟩
def fnL : List He.DefD := [dd_is_name, dd_far, dd_nearer, dd_by_nearness, dd_step, dd_span, dd_of_span, dd_is_faulty, dd_fault, dd_holes, dd_look_round, dd_tide, dd_standing, dd_asked, dd_onward, dd_way, dd_Bucket_init, dd_Bucket_names, dd_Bucket_hears, dd_Bucket_drops, dd_Table_init, dd_Table_bucket_for, dd_Table_hears, dd_Table_drops, dd_Table_bucket, dd_Table_keeps, dd_Table_nearest, dd_is_size, dd_Town_init, dd_Town_houses, dd_Town_answers, dd_Town_answering, dd_Town_table, dd_Town_look_awake, dd_Town_look_named, dd_Town_bucket, dd_Town_keeps, dd_Town_tells, dd_Town_hears, dd_Town_come_to, dd_Town_ask, dd_Town_way, dd_Town_visit, dd_Town_come, dd_Town_go, dd_Town_hush, dd_Town_wake, dd_l_cell_at, dd_l_mixed, dd_l_draw, dd_l_sizes, dd_l_name, dd_l_come, dd_l_deed, dd_l_fault, dd_l_holes, dd_l_as_it_is, dd_l_reach, dd_l_tables, dd_l_stays, dd_l_washed, dd_l_right, dd_law]
def faL : List He.Fa := [.glo "is_name",
  .glo "far",
  .glo "nearer",
  .glo "by_nearness",
  .glo "step",
  .glo "span",
  .glo "of_span",
  .glo "is_faulty",
  .glo "fault",
  .glo "holes",
  .glo "look_round",
  .glo "tide",
  .glo "standing",
  .glo "asked",
  .glo "onward",
  .glo "way",
  .glo "is_size",
  .glo "_law_cell_at",
  .glo "_law_mixed",
  .glo "_law_draw",
  .glo "_law_sizes",
  .glo "_law_name",
  .glo "_law_come",
  .glo "_law_deed",
  .glo "_law_fault",
  .glo "_law_holes",
  .glo "_law_as_it_is",
  .glo "_law_reach",
  .glo "_law_tables",
  .glo "_law_stays",
  .glo "_law_washed",
  .glo "_law_right",
  .glo "law",
  .glo "Bucket",
  .cls "Bucket",
  .mkr "Bucket",
  .noat "Bucket" "room",
  .noat "Bucket" "line",
  .meth "Bucket" "names",
  .meth "Bucket" "hears",
  .meth "Bucket" "drops",
  .glo "Table",
  .cls "Table",
  .mkr "Table",
  .noat "Table" "own",
  .noat "Table" "wide",
  .noat "Table" "room",
  .noat "Table" "buckets",
  .meth "Table" "bucket_for",
  .meth "Table" "hears",
  .meth "Table" "drops",
  .meth "Table" "bucket",
  .meth "Table" "keeps",
  .meth "Table" "nearest",
  .glo "Town",
  .cls "Town",
  .mkr "Town",
  .noat "Town" "wide",
  .noat "Town" "room",
  .noat "Town" "tables",
  .noat "Town" "hushed",
  .meth "Town" "houses",
  .meth "Town" "answers",
  .meth "Town" "answering",
  .meth "Town" "table",
  .meth "Town" "look_awake",
  .meth "Town" "look_named",
  .meth "Town" "bucket",
  .meth "Town" "keeps",
  .meth "Town" "tells",
  .meth "Town" "hears",
  .meth "Town" "come_to",
  .meth "Town" "ask",
  .meth "Town" "way",
  .meth "Town" "visit",
  .meth "Town" "come",
  .meth "Town" "go",
  .meth "Town" "hush",
  .meth "Town" "wake",
  .glo "way_asks",
  .free "all",
  .free "any",
  .free "bool",
  .free "enumerate",
  .free "int",
  .free "isinstance",
  .free "len",
  .free "list",
  .free "range",
  .free "sorted",
  .int "MOST_WIDE" 60,
  .int "MOST_ROOM" 8]
abbrev RW : PySem.W.OpenRow := PySem.W.OpenLaw.row PySem.Challenge.rw_nearnames_k45_whole_tide_rests
def aliL : List (Str × Str) := [("way_asks", "way")]
def exL (K : PySem.W.Frag) : Bool := aliL.all fun p => decide (He.ga K p.1 = He.ga K p.2)
theorem exL_ok {K : PySem.W.Frag} (h : exL K = true) {p : Str × Str} (hp : p ∈ aliL) : He.ga K p.1 = He.ga K p.2 := of_decide_eq_true (List.all_eq_true.mp h p hp)
abbrev hkX : PySem.W.Hook := He.hookX 6 faL fnL [] tfL exL
def obL (s : PySem.W.SharedT) : He.AlX := He.obsX 6 faL fnL [] tfL exL (HandSHeadRun.getT s)
theorem obL_eq (s : PySem.W.SharedT) : obL s = hkX.obs s.abs := He.obsX_eq (HandSHeadRun.getT_eq s)
def loose0 : List Str := ["NearError", "NoSize", "NoName", "NoHouse", "Taken", "Silent", "is_name", "far", "nearer", "by_nearness", "step", "span", "of_span", "is_faulty", "fault", "holes", "look_round", "tide", "standing", "asked", "onward", "way", "way_asks", "Bucket", "Table", "MOST_WIDE", "MOST_ROOM", "is_size", "Town", "_law_cell_at"]
def loose1 : List Str := ["_law_mixed", "_law_draw", "_law_sizes", "_law_name", "_law_come", "_law_deed", "_law_fault", "_law_holes", "_law_as_it_is", "_law_reach", "_law_tables", "_law_stays", "_law_washed", "_law_right"]
def looseL : List Str := loose0 ++ loose1
theorem runL (w : World) : HandSHeadRun.RunEq RW (PySem.W.view RW.prog [52]) hkX obL 6000 looseL w := by
  intro os
  kernel_rfl
theorem factsL {w : World} {K : PySem.W.Frag} {h : Heap} {mg : Str → Option Value} {f : Addr} (X : K.In h) (G : h.Ns mainGlobals mg) (hfa : mg ("law" : Str) = some (.ref f)) (c : He.SaysX faL fnL [] tfL exL w h K) :
    LamX.LawAtS PySem.Challenge.rw_nearnames_k45_whole_tide_rests w K CX0 11 63 "_law_script" mg f h := by
  obtain ⟨fd0, F0⟩ := c.t.d.def_ 0 (d := dd_is_name) rfl
  have b0 := FunD.bindsN (ps := ["thing", "wide"]) F0 fun _ _ _ _ _ _ us hl => match us, hl with | [_, _], _ => rfl
  obtain ⟨fd1, F1⟩ := c.t.d.def_ 1 (d := dd_far) rfl
  have b1 := FunD.bindsN (ps := ["one", "other"]) F1 fun _ _ _ _ _ _ us hl => match us, hl with | [_, _], _ => rfl
  obtain ⟨fd2, F2⟩ := c.t.d.def_ 2 (d := dd_nearer) rfl
  have b2 := FunD.bindsN (ps := ["goal", "one", "other"]) F2 fun _ _ _ _ _ _ us hl => match us, hl with | [_, _, _], _ => rfl
  obtain ⟨fd3, F3⟩ := c.t.d.def_ 3 (d := dd_by_nearness) rfl
  have b3 := FunD.bindsN (ps := ["goal", "names"]) F3 fun _ _ _ _ _ _ us hl => match us, hl with | [_, _], _ => rfl
  obtain ⟨fd4, F4⟩ := c.t.d.def_ 4 (d := dd_step) rfl
  have b4 := FunD.bindsN (ps := ["one", "other"]) F4 fun _ _ _ _ _ _ us hl => match us, hl with | [_, _], _ => rfl
  obtain ⟨fd5, F5⟩ := c.t.d.def_ 5 (d := dd_span) rfl
  have b5 := FunD.bindsN (ps := ["name", "k"]) F5 fun _ _ _ _ _ _ us hl => match us, hl with | [_, _], _ => rfl
  obtain ⟨fd6, F6⟩ := c.t.d.def_ 6 (d := dd_of_span) rfl
  have b6 := FunD.bindsN (ps := ["live", "house", "k"]) F6 fun _ _ _ _ _ _ us hl => match us, hl with | [_, _, _], _ => rfl
  obtain ⟨fd7, F7⟩ := c.t.d.def_ 7 (d := dd_is_faulty) rfl
  have b7 := FunD.bindsN (ps := ["names", "live", "room", "house", "k"]) F7 fun _ _ _ _ _ _ us hl => match us, hl with | [_, _, _, _, _], _ => rfl
  obtain ⟨fd8, F8⟩ := c.t.d.def_ 8 (d := dd_fault) rfl
  have b8 := FunD.bindsN (ps := ["town"]) F8 fun _ _ _ _ _ _ us hl => match us, hl with | [_], _ => rfl
  obtain ⟨fd9, F9⟩ := c.t.d.def_ 9 (d := dd_holes) rfl
  have b9 := FunD.bindsN (ps := ["town"]) F9 fun _ _ _ _ _ _ us hl => match us, hl with | [_], _ => rfl
  obtain ⟨fd10, F10⟩ := c.t.d.def_ 10 (d := dd_look_round) rfl
  have b10 := FunD.bindsN (ps := ["town", "house"]) F10 fun _ _ _ _ _ _ us hl => match us, hl with | [_, _], _ => rfl
  obtain ⟨fd11, F11⟩ := c.t.d.def_ 11 (d := dd_tide) rfl
  have b11 := FunD.bindsN (ps := ["town"]) F11 fun _ _ _ _ _ _ us hl => match us, hl with | [_], _ => rfl
  obtain ⟨fd12, F12⟩ := c.t.d.def_ 12 (d := dd_standing) rfl
  have b12 := FunD.bindsN (ps := ["goal", "room", "seen", "quiet"]) F12 fun _ _ _ _ _ _ us hl => match us, hl with | [_, _, _, _], _ => rfl
  obtain ⟨fd13, F13⟩ := c.t.d.def_ 13 (d := dd_asked) rfl
  have b13 := FunD.bindsN (ps := ["start", "goal", "room", "tells"]) F13 fun _ _ _ _ _ _ us hl => match us, hl with | [_, _, _, _], _ => rfl
  obtain ⟨fd14, F14⟩ := c.t.d.def_ 14 (d := dd_onward) rfl
  have b14 := FunD.bindsN (ps := ["here", "goal", "tells"]) F14 fun _ _ _ _ _ _ us hl => match us, hl with | [_, _, _], _ => rfl
  obtain ⟨fd15, F15⟩ := c.t.d.def_ 15 (d := dd_way) rfl
  have b15 := FunD.bindsN (ps := ["start", "goal", "tells"]) F15 fun _ _ _ _ _ _ us hl => match us, hl with | [_, _, _], _ => rfl
  obtain ⟨fd16, F16⟩ := c.t.d.def_ 16 (d := dd_Bucket_init) rfl
  have b16 := FunD.bindsN (ps := ["self", "room"]) F16 fun _ _ _ _ _ _ us hl => match us, hl with | [_, _], _ => rfl
  obtain ⟨fd17, F17⟩ := c.t.d.def_ 17 (d := dd_Bucket_names) rfl
  have b17 := FunD.bindsN (ps := ["self"]) F17 fun _ _ _ _ _ _ us hl => match us, hl with | [_], _ => rfl
  obtain ⟨fd18, F18⟩ := c.t.d.def_ 18 (d := dd_Bucket_hears) rfl
  have b18 := FunD.bindsN (ps := ["self", "name", "answers"]) F18 fun _ _ _ _ _ _ us hl => match us, hl with | [_, _, _], _ => rfl
  obtain ⟨fd19, F19⟩ := c.t.d.def_ 19 (d := dd_Bucket_drops) rfl
  have b19 := FunD.bindsN (ps := ["self", "name"]) F19 fun _ _ _ _ _ _ us hl => match us, hl with | [_, _], _ => rfl
  obtain ⟨fd20, F20⟩ := c.t.d.def_ 20 (d := dd_Table_init) rfl
  have b20 := FunD.bindsN (ps := ["self", "own", "wide", "room"]) F20 fun _ _ _ _ _ _ us hl => match us, hl with | [_, _, _, _], _ => rfl
  obtain ⟨fd21, F21⟩ := c.t.d.def_ 21 (d := dd_Table_bucket_for) rfl
  have b21 := FunD.bindsN (ps := ["self", "name"]) F21 fun _ _ _ _ _ _ us hl => match us, hl with | [_, _], _ => rfl
  obtain ⟨fd22, F22⟩ := c.t.d.def_ 22 (d := dd_Table_hears) rfl
  have b22 := FunD.bindsN (ps := ["self", "name", "answers"]) F22 fun _ _ _ _ _ _ us hl => match us, hl with | [_, _, _], _ => rfl
  obtain ⟨fd23, F23⟩ := c.t.d.def_ 23 (d := dd_Table_drops) rfl
  have b23 := FunD.bindsN (ps := ["self", "name"]) F23 fun _ _ _ _ _ _ us hl => match us, hl with | [_, _], _ => rfl
  obtain ⟨fd24, F24⟩ := c.t.d.def_ 24 (d := dd_Table_bucket) rfl
  have b24 := FunD.bindsN (ps := ["self", "k"]) F24 fun _ _ _ _ _ _ us hl => match us, hl with | [_, _], _ => rfl
  obtain ⟨fd25, F25⟩ := c.t.d.def_ 25 (d := dd_Table_keeps) rfl
  have b25 := FunD.bindsN (ps := ["self"]) F25 fun _ _ _ _ _ _ us hl => match us, hl with | [_], _ => rfl
  obtain ⟨fd26, F26⟩ := c.t.d.def_ 26 (d := dd_Table_nearest) rfl
  obtain ⟨ds26_0, v26_0, b26_0⟩ := F26.binds1 (ps := ["self", "goal", "many", "but"]) 4 1 (List.cons_ne_nil _ _) (by rfl) fun T kV doc pm an cdv ct us its hu hi => match us, its, hu, hi with | [_, _, _, _], [_], _, _ => ⟨_, rfl, rfl⟩
  obtain ⟨ds26_1, v26_1, b26_1⟩ := F26.binds1 (ps := ["self", "goal", "many", "but"]) 3 0 (List.cons_ne_nil _ _) (by rfl) fun T kV doc pm an cdv ct us its hu hi => match us, its, hu, hi with | [_, _, _], [_], _, _ => ⟨_, rfl, rfl⟩
  have b26 := vnil v26_0 b26_0
  obtain ⟨fd27, F27⟩ := c.t.d.def_ 27 (d := dd_is_size) rfl
  have b27 := FunD.bindsN (ps := ["thing", "most"]) F27 fun _ _ _ _ _ _ us hl => match us, hl with | [_, _], _ => rfl
  obtain ⟨fd28, F28⟩ := c.t.d.def_ 28 (d := dd_Town_init) rfl
  have b28 := FunD.bindsN (ps := ["self", "wide", "room"]) F28 fun _ _ _ _ _ _ us hl => match us, hl with | [_, _, _], _ => rfl
  obtain ⟨fd29, F29⟩ := c.t.d.def_ 29 (d := dd_Town_houses) rfl
  have b29 := FunD.bindsN (ps := ["self"]) F29 fun _ _ _ _ _ _ us hl => match us, hl with | [_], _ => rfl
  obtain ⟨fd30, F30⟩ := c.t.d.def_ 30 (d := dd_Town_answers) rfl
  have b30 := FunD.bindsN (ps := ["self", "name"]) F30 fun _ _ _ _ _ _ us hl => match us, hl with | [_, _], _ => rfl
  obtain ⟨fd31, F31⟩ := c.t.d.def_ 31 (d := dd_Town_answering) rfl
  have b31 := FunD.bindsN (ps := ["self"]) F31 fun _ _ _ _ _ _ us hl => match us, hl with | [_], _ => rfl
  obtain ⟨fd32, F32⟩ := c.t.d.def_ 32 (d := dd_Town_table) rfl
  have b32 := FunD.bindsN (ps := ["self", "house"]) F32 fun _ _ _ _ _ _ us hl => match us, hl with | [_, _], _ => rfl
  obtain ⟨fd33, F33⟩ := c.t.d.def_ 33 (d := dd_Town_look_awake) rfl
  have b33 := FunD.bindsN (ps := ["self", "house"]) F33 fun _ _ _ _ _ _ us hl => match us, hl with | [_, _], _ => rfl
  obtain ⟨fd34, F34⟩ := c.t.d.def_ 34 (d := dd_Town_look_named) rfl
  have b34 := FunD.bindsN (ps := ["self", "name"]) F34 fun _ _ _ _ _ _ us hl => match us, hl with | [_, _], _ => rfl
  obtain ⟨fd35, F35⟩ := c.t.d.def_ 35 (d := dd_Town_bucket) rfl
  have b35 := FunD.bindsN (ps := ["self", "house", "k"]) F35 fun _ _ _ _ _ _ us hl => match us, hl with | [_, _, _], _ => rfl
  obtain ⟨fd36, F36⟩ := c.t.d.def_ 36 (d := dd_Town_keeps) rfl
  have b36 := FunD.bindsN (ps := ["self", "house"]) F36 fun _ _ _ _ _ _ us hl => match us, hl with | [_, _], _ => rfl
  obtain ⟨fd37, F37⟩ := c.t.d.def_ 37 (d := dd_Town_tells) rfl
  have b37 := FunD.bindsN (ps := ["self", "house", "goal", "asker"]) F37 fun _ _ _ _ _ _ us hl => match us, hl with | [_, _, _, _], _ => rfl
  obtain ⟨fd38, F38⟩ := c.t.d.def_ 38 (d := dd_Town_hears) rfl
  have b38 := FunD.bindsN (ps := ["self", "house", "name"]) F38 fun _ _ _ _ _ _ us hl => match us, hl with | [_, _, _], _ => rfl
  obtain ⟨fd39, F39⟩ := c.t.d.def_ 39 (d := dd_Town_come_to) rfl
  have b39 := FunD.bindsN (ps := ["self", "house"]) F39 fun _ _ _ _ _ _ us hl => match us, hl with | [_, _], _ => rfl
  obtain ⟨fd40, F40⟩ := c.t.d.def_ 40 (d := dd_Town_ask) rfl
  have b40 := FunD.bindsN (ps := ["self", "start", "goal"]) F40 fun _ _ _ _ _ _ us hl => match us, hl with | [_, _, _], _ => rfl
  obtain ⟨fd41, F41⟩ := c.t.d.def_ 41 (d := dd_Town_way) rfl
  have b41 := FunD.bindsN (ps := ["self", "start", "goal"]) F41 fun _ _ _ _ _ _ us hl => match us, hl with | [_, _, _], _ => rfl
  obtain ⟨fd42, F42⟩ := c.t.d.def_ 42 (d := dd_Town_visit) rfl
  have b42 := FunD.bindsN (ps := ["self", "house", "door"]) F42 fun _ _ _ _ _ _ us hl => match us, hl with | [_, _, _], _ => rfl
  obtain ⟨fd43, F43⟩ := c.t.d.def_ 43 (d := dd_Town_come) rfl
  obtain ⟨ds43_0, v43_0, b43_0⟩ := F43.binds1 (ps := ["self", "name", "door"]) 3 1 (List.cons_ne_nil _ _) (by rfl) fun T kV doc pm an cdv ct us its hu hi => match us, its, hu, hi with | [_, _, _], [_], _, _ => ⟨_, rfl, rfl⟩
  obtain ⟨ds43_1, v43_1, b43_1⟩ := F43.binds1 (ps := ["self", "name", "door"]) 2 0 (List.cons_ne_nil _ _) (by rfl) fun T kV doc pm an cdv ct us its hu hi => match us, its, hu, hi with | [_, _], [_], _, _ => ⟨_, rfl, rfl⟩
  have b43 := vnil v43_0 b43_0
  obtain ⟨fd44, F44⟩ := c.t.d.def_ 44 (d := dd_Town_go) rfl
  have b44 := FunD.bindsN (ps := ["self", "house"]) F44 fun _ _ _ _ _ _ us hl => match us, hl with | [_, _], _ => rfl
  obtain ⟨fd45, F45⟩ := c.t.d.def_ 45 (d := dd_Town_hush) rfl
  have b45 := FunD.bindsN (ps := ["self", "house"]) F45 fun _ _ _ _ _ _ us hl => match us, hl with | [_, _], _ => rfl
  obtain ⟨fd46, F46⟩ := c.t.d.def_ 46 (d := dd_Town_wake) rfl
  have b46 := FunD.bindsN (ps := ["self", "house", "door"]) F46 fun _ _ _ _ _ _ us hl => match us, hl with | [_, _, _], _ => rfl
  obtain ⟨fd47, F47⟩ := c.t.d.def_ 47 (d := dd_l_cell_at) rfl
  have b47 := FunD.bindsN (ps := ["_law_script", "_law_k"]) F47 fun _ _ _ _ _ _ us hl => match us, hl with | [_, _], _ => rfl
  obtain ⟨fd48, F48⟩ := c.t.d.def_ 48 (d := dd_l_mixed) rfl
  have b48 := FunD.bindsN (ps := ["_law_cell", "_law_k"]) F48 fun _ _ _ _ _ _ us hl => match us, hl with | [_, _], _ => rfl
  obtain ⟨fd49, F49⟩ := c.t.d.def_ 49 (d := dd_l_draw) rfl
  have b49 := FunD.bindsN (ps := ["_law_cell", "_law_k", "_law_plain"]) F49 fun _ _ _ _ _ _ us hl => match us, hl with | [_, _, _], _ => rfl
  obtain ⟨fd50, F50⟩ := c.t.d.def_ 50 (d := dd_l_sizes) rfl
  have b50 := FunD.bindsN (ps := ["_law_script"]) F50 fun _ _ _ _ _ _ us hl => match us, hl with | [_], _ => rfl
  obtain ⟨fd51, F51⟩ := c.t.d.def_ 51 (d := dd_l_name) rfl
  have b51 := FunD.bindsN (ps := ["_law_x", "_law_wide", "_law_base"]) F51 fun _ _ _ _ _ _ us hl => match us, hl with | [_, _, _], _ => rfl
  obtain ⟨fd52, F52⟩ := c.t.d.def_ 52 (d := dd_l_come) rfl
  have b52 := FunD.bindsN (ps := ["_law_town", "_law_x", "_law_base", "_law_most"]) F52 fun _ _ _ _ _ _ us hl => match us, hl with | [_, _, _, _], _ => rfl
  obtain ⟨fd53, F53⟩ := c.t.d.def_ 53 (d := dd_l_deed) rfl
  have b53 := FunD.bindsN (ps := ["_law_town", "_law_x", "_law_base", "_law_most"]) F53 fun _ _ _ _ _ _ us hl => match us, hl with | [_, _, _, _], _ => rfl
  obtain ⟨fd54, F54⟩ := c.t.d.def_ 54 (d := dd_l_fault) rfl
  have b54 := FunD.bindsN (ps := ["_law_town"]) F54 fun _ _ _ _ _ _ us hl => match us, hl with | [_], _ => rfl
  obtain ⟨fd55, F55⟩ := c.t.d.def_ 55 (d := dd_l_holes) rfl
  have b55 := FunD.bindsN (ps := ["_law_town"]) F55 fun _ _ _ _ _ _ us hl => match us, hl with | [_], _ => rfl
  obtain ⟨fd56, F56⟩ := c.t.d.def_ 56 (d := dd_l_as_it_is) rfl
  have b56 := FunD.bindsN (ps := ["_law_town"]) F56 fun _ _ _ _ _ _ us hl => match us, hl with | [_], _ => rfl
  obtain ⟨fd57, F57⟩ := c.t.d.def_ 57 (d := dd_l_reach) rfl
  have b57 := FunD.bindsN (ps := ["_law_town", "_law_house"]) F57 fun _ _ _ _ _ _ us hl => match us, hl with | [_, _], _ => rfl
  obtain ⟨fd58, F58⟩ := c.t.d.def_ 58 (d := dd_l_tables) rfl
  have b58 := FunD.bindsN (ps := ["_law_town"]) F58 fun _ _ _ _ _ _ us hl => match us, hl with | [_], _ => rfl
  obtain ⟨fd59, F59⟩ := c.t.d.def_ 59 (d := dd_l_stays) rfl
  have b59 := FunD.bindsN (ps := ["_law_town", "_law_tables_here", "_law_live"]) F59 fun _ _ _ _ _ _ us hl => match us, hl with | [_, _, _], _ => rfl
  obtain ⟨fd60, F60⟩ := c.t.d.def_ 60 (d := dd_l_washed) rfl
  have b60 := FunD.bindsN (ps := ["_law_town", "_law_other"]) F60 fun _ _ _ _ _ _ us hl => match us, hl with | [_, _], _ => rfl
  obtain ⟨fd61, F61⟩ := c.t.d.def_ 61 (d := dd_l_right) rfl
  have b61 := FunD.bindsN (ps := ["_law_town", "_law_other"]) F61 fun _ _ _ _ _ _ us hl => match us, hl with | [_, _], _ => rfl
  obtain ⟨fd62, F62⟩ := c.t.d.def_ 62 (d := dd_law) rfl
  have b62 := FunD.bindsN (ps := ["_law_script"]) F62 fun _ _ _ _ _ _ us hl => match us, hl with | [_], _ => rfl
  obtain ⟨tk0, ek0⟩ := He.int_ok X G (c.t.d.fact 90 (f := .int "MOST_WIDE" 60) rfl)
  obtain ⟨tk1, ek1⟩ := He.int_ok X G (c.t.d.fact 91 (f := .int "MOST_ROOM" 8) rfl)
  have e := hfa.symm.trans (He.glo_ok X G (c.t.d.fact 32 (f := .glo "law") rfl))
  cases e
  refine ⟨fd62, tfL.map (He.cT K), spLaw K, List.forall_mem_map.mpr fun p hp => c.empty p hp, List.forall_mem_map.mpr fun p hp => c.out p hp, List.forall_mem_map.mpr fun p hp => PySem.W.codeHd_of_K X (c.hd p hp), fun s v => FunD.bindsA (ps := ["_law_script"]) F62 (fun _ _ _ _ _ _ us hl => match us, hl with | [_], _ => rfl) s [v] rfl, fun H a ns hl _ hT hS => ⟨a, ns, rfl, hS, hl, hT, fun _ => rfl⟩, fun base KB GB hTB => ok_law (K := K) (mg := mg) (base := base) {
      a_is_name := (He.ga K "is_name"), d_is_name := fd0, F_is_name := F0, b_is_name := b0,
      m_is_name := He.glo_ok X G (c.t.d.fact 0 (f := .glo "is_name") rfl),
      a_far := (He.ga K "far"), d_far := fd1, F_far := F1, b_far := b1,
      m_far := He.glo_ok X G (c.t.d.fact 1 (f := .glo "far") rfl),
      a_nearer := (He.ga K "nearer"), d_nearer := fd2, F_nearer := F2, b_nearer := b2,
      m_nearer := He.glo_ok X G (c.t.d.fact 2 (f := .glo "nearer") rfl),
      a_by_nearness := (He.ga K "by_nearness"), d_by_nearness := fd3, F_by_nearness := F3, b_by_nearness := b3,
      m_by_nearness := He.glo_ok X G (c.t.d.fact 3 (f := .glo "by_nearness") rfl),
      a_step := (He.ga K "step"), d_step := fd4, F_step := F4, b_step := b4,
      m_step := He.glo_ok X G (c.t.d.fact 4 (f := .glo "step") rfl),
      a_span := (He.ga K "span"), d_span := fd5, F_span := F5, b_span := b5,
      m_span := He.glo_ok X G (c.t.d.fact 5 (f := .glo "span") rfl),
      a_of_span := (He.ga K "of_span"), d_of_span := fd6, F_of_span := F6, b_of_span := b6,
      m_of_span := He.glo_ok X G (c.t.d.fact 6 (f := .glo "of_span") rfl),
      a_is_faulty := (He.ga K "is_faulty"), d_is_faulty := fd7, F_is_faulty := F7, b_is_faulty := b7,
      m_is_faulty := He.glo_ok X G (c.t.d.fact 7 (f := .glo "is_faulty") rfl),
      a_fault := (He.ga K "fault"), d_fault := fd8, F_fault := F8, b_fault := b8,
      m_fault := He.glo_ok X G (c.t.d.fact 8 (f := .glo "fault") rfl),
      a_holes := (He.ga K "holes"), d_holes := fd9, F_holes := F9, b_holes := b9,
      m_holes := He.glo_ok X G (c.t.d.fact 9 (f := .glo "holes") rfl),
      a_look_round := (He.ga K "look_round"), d_look_round := fd10, F_look_round := F10, b_look_round := b10,
      m_look_round := He.glo_ok X G (c.t.d.fact 10 (f := .glo "look_round") rfl),
      a_tide := (He.ga K "tide"), d_tide := fd11, F_tide := F11, b_tide := b11,
      m_tide := He.glo_ok X G (c.t.d.fact 11 (f := .glo "tide") rfl),
      a_standing := (He.ga K "standing"), d_standing := fd12, F_standing := F12, b_standing := b12,
      m_standing := He.glo_ok X G (c.t.d.fact 12 (f := .glo "standing") rfl),
      a_asked := (He.ga K "asked"), d_asked := fd13, F_asked := F13, b_asked := b13,
      m_asked := He.glo_ok X G (c.t.d.fact 13 (f := .glo "asked") rfl),
      a_onward := (He.ga K "onward"), d_onward := fd14, F_onward := F14, b_onward := b14,
      m_onward := He.glo_ok X G (c.t.d.fact 14 (f := .glo "onward") rfl),
      a_way := (He.ga K "way"), d_way := fd15, F_way := F15, b_way := b15,
      m_way := He.glo_ok X G (c.t.d.fact 15 (f := .glo "way") rfl),
      a_Bucket_init := (He.ma K (He.ga K "Bucket") "__init__"), d_Bucket_init := fd16, F_Bucket_init := F16, b_Bucket_init := b16,
      a_Bucket_names := (He.ma K (He.ga K "Bucket") "names"), d_Bucket_names := fd17, F_Bucket_names := F17, b_Bucket_names := b17,
      a_Bucket_hears := (He.ma K (He.ga K "Bucket") "hears"), d_Bucket_hears := fd18, F_Bucket_hears := F18, b_Bucket_hears := b18,
      a_Bucket_drops := (He.ma K (He.ga K "Bucket") "drops"), d_Bucket_drops := fd19, F_Bucket_drops := F19, b_Bucket_drops := b19,
      a_Table_init := (He.ma K (He.ga K "Table") "__init__"), d_Table_init := fd20, F_Table_init := F20, b_Table_init := b20,
      a_Table_bucket_for := (He.ma K (He.ga K "Table") "bucket_for"), d_Table_bucket_for := fd21, F_Table_bucket_for := F21, b_Table_bucket_for := b21,
      a_Table_hears := (He.ma K (He.ga K "Table") "hears"), d_Table_hears := fd22, F_Table_hears := F22, b_Table_hears := b22,
      a_Table_drops := (He.ma K (He.ga K "Table") "drops"), d_Table_drops := fd23, F_Table_drops := F23, b_Table_drops := b23,
      a_Table_bucket := (He.ma K (He.ga K "Table") "bucket"), d_Table_bucket := fd24, F_Table_bucket := F24, b_Table_bucket := b24,
      a_Table_keeps := (He.ma K (He.ga K "Table") "keeps"), d_Table_keeps := fd25, F_Table_keeps := F25, b_Table_keeps := b25,
      a_Table_nearest := (He.ma K (He.ga K "Table") "nearest"), d_Table_nearest := fd26, F_Table_nearest := F26, b_Table_nearest := b26,
      d_Table_nearest_1 := ds26_1, v_Table_nearest_1 := v26_1, b_Table_nearest_1 := b26_1,
      a_is_size := (He.ga K "is_size"), d_is_size := fd27, F_is_size := F27, b_is_size := b27,
      m_is_size := He.glo_ok X G (c.t.d.fact 16 (f := .glo "is_size") rfl),
      a_Town_init := (He.ma K (He.ga K "Town") "__init__"), d_Town_init := fd28, F_Town_init := F28, b_Town_init := b28,
      a_Town_houses := (He.ma K (He.ga K "Town") "houses"), d_Town_houses := fd29, F_Town_houses := F29, b_Town_houses := b29,
      a_Town_answers := (He.ma K (He.ga K "Town") "answers"), d_Town_answers := fd30, F_Town_answers := F30, b_Town_answers := b30,
      a_Town_answering := (He.ma K (He.ga K "Town") "answering"), d_Town_answering := fd31, F_Town_answering := F31, b_Town_answering := b31,
      a_Town_table := (He.ma K (He.ga K "Town") "table"), d_Town_table := fd32, F_Town_table := F32, b_Town_table := b32,
      a_Town_look_awake := (He.ma K (He.ga K "Town") "look_awake"), d_Town_look_awake := fd33, F_Town_look_awake := F33, b_Town_look_awake := b33,
      a_Town_look_named := (He.ma K (He.ga K "Town") "look_named"), d_Town_look_named := fd34, F_Town_look_named := F34, b_Town_look_named := b34,
      a_Town_bucket := (He.ma K (He.ga K "Town") "bucket"), d_Town_bucket := fd35, F_Town_bucket := F35, b_Town_bucket := b35,
      a_Town_keeps := (He.ma K (He.ga K "Town") "keeps"), d_Town_keeps := fd36, F_Town_keeps := F36, b_Town_keeps := b36,
      a_Town_tells := (He.ma K (He.ga K "Town") "tells"), d_Town_tells := fd37, F_Town_tells := F37, b_Town_tells := b37,
      a_Town_hears := (He.ma K (He.ga K "Town") "hears"), d_Town_hears := fd38, F_Town_hears := F38, b_Town_hears := b38,
      a_Town_come_to := (He.ma K (He.ga K "Town") "come_to"), d_Town_come_to := fd39, F_Town_come_to := F39, b_Town_come_to := b39,
      a_Town_ask := (He.ma K (He.ga K "Town") "ask"), d_Town_ask := fd40, F_Town_ask := F40, b_Town_ask := b40,
      a_Town_way := (He.ma K (He.ga K "Town") "way"), d_Town_way := fd41, F_Town_way := F41, b_Town_way := b41,
      a_Town_visit := (He.ma K (He.ga K "Town") "visit"), d_Town_visit := fd42, F_Town_visit := F42, b_Town_visit := b42,
      a_Town_come := (He.ma K (He.ga K "Town") "come"), d_Town_come := fd43, F_Town_come := F43, b_Town_come := b43,
      d_Town_come_1 := ds43_1, v_Town_come_1 := v43_1, b_Town_come_1 := b43_1,
      a_Town_go := (He.ma K (He.ga K "Town") "go"), d_Town_go := fd44, F_Town_go := F44, b_Town_go := b44,
      a_Town_hush := (He.ma K (He.ga K "Town") "hush"), d_Town_hush := fd45, F_Town_hush := F45, b_Town_hush := b45,
      a_Town_wake := (He.ma K (He.ga K "Town") "wake"), d_Town_wake := fd46, F_Town_wake := F46, b_Town_wake := b46,
      a_l_cell_at := (He.ga K "_law_cell_at"), d_l_cell_at := fd47, F_l_cell_at := F47, b_l_cell_at := b47,
      m_l_cell_at := He.glo_ok X G (c.t.d.fact 17 (f := .glo "_law_cell_at") rfl),
      a_l_mixed := (He.ga K "_law_mixed"), d_l_mixed := fd48, F_l_mixed := F48, b_l_mixed := b48,
      m_l_mixed := He.glo_ok X G (c.t.d.fact 18 (f := .glo "_law_mixed") rfl),
      a_l_draw := (He.ga K "_law_draw"), d_l_draw := fd49, F_l_draw := F49, b_l_draw := b49,
      m_l_draw := He.glo_ok X G (c.t.d.fact 19 (f := .glo "_law_draw") rfl),
      a_l_sizes := (He.ga K "_law_sizes"), d_l_sizes := fd50, F_l_sizes := F50, b_l_sizes := b50,
      m_l_sizes := He.glo_ok X G (c.t.d.fact 20 (f := .glo "_law_sizes") rfl),
      a_l_name := (He.ga K "_law_name"), d_l_name := fd51, F_l_name := F51, b_l_name := b51,
      m_l_name := He.glo_ok X G (c.t.d.fact 21 (f := .glo "_law_name") rfl),
      a_l_come := (He.ga K "_law_come"), d_l_come := fd52, F_l_come := F52, b_l_come := b52,
      m_l_come := He.glo_ok X G (c.t.d.fact 22 (f := .glo "_law_come") rfl),
      a_l_deed := (He.ga K "_law_deed"), d_l_deed := fd53, F_l_deed := F53, b_l_deed := b53,
      m_l_deed := He.glo_ok X G (c.t.d.fact 23 (f := .glo "_law_deed") rfl),
      a_l_fault := (He.ga K "_law_fault"), d_l_fault := fd54, F_l_fault := F54, b_l_fault := b54,
      m_l_fault := He.glo_ok X G (c.t.d.fact 24 (f := .glo "_law_fault") rfl),
      a_l_holes := (He.ga K "_law_holes"), d_l_holes := fd55, F_l_holes := F55, b_l_holes := b55,
      m_l_holes := He.glo_ok X G (c.t.d.fact 25 (f := .glo "_law_holes") rfl),
      a_l_as_it_is := (He.ga K "_law_as_it_is"), d_l_as_it_is := fd56, F_l_as_it_is := F56, b_l_as_it_is := b56,
      m_l_as_it_is := He.glo_ok X G (c.t.d.fact 26 (f := .glo "_law_as_it_is") rfl),
      a_l_reach := (He.ga K "_law_reach"), d_l_reach := fd57, F_l_reach := F57, b_l_reach := b57,
      m_l_reach := He.glo_ok X G (c.t.d.fact 27 (f := .glo "_law_reach") rfl),
      a_l_tables := (He.ga K "_law_tables"), d_l_tables := fd58, F_l_tables := F58, b_l_tables := b58,
      m_l_tables := He.glo_ok X G (c.t.d.fact 28 (f := .glo "_law_tables") rfl),
      a_l_stays := (He.ga K "_law_stays"), d_l_stays := fd59, F_l_stays := F59, b_l_stays := b59,
      m_l_stays := He.glo_ok X G (c.t.d.fact 29 (f := .glo "_law_stays") rfl),
      a_l_washed := (He.ga K "_law_washed"), d_l_washed := fd60, F_l_washed := F60, b_l_washed := b60,
      m_l_washed := He.glo_ok X G (c.t.d.fact 30 (f := .glo "_law_washed") rfl),
      a_l_right := (He.ga K "_law_right"), d_l_right := fd61, F_l_right := F61, b_l_right := b61,
      m_l_right := He.glo_ok X G (c.t.d.fact 31 (f := .glo "_law_right") rfl),
      a_law := (He.ga K "law"), d_law := fd62, F_law := F62, b_law := b62,
      m_law := He.glo_ok X G (c.t.d.fact 32 (f := .glo "law") rfl),
      C_Bucket := He.ga K "Bucket", c_Bucket := He.cls_ok (c.t.d.fact 34 (f := .cls "Bucket") rfl), m_Bucket := He.glo_ok X G (c.t.d.fact 33 (f := .glo "Bucket") rfl), M_Bucket := He.mkr_ok (c.t.d.fact 35 (f := .mkr "Bucket") rfl),
      t_Bucket_names := He.meth_ok (c.t.d.fact 38 (f := .meth "Bucket" "names") rfl),
      t_Bucket_hears := He.meth_ok (c.t.d.fact 39 (f := .meth "Bucket" "hears") rfl),
      t_Bucket_drops := He.meth_ok (c.t.d.fact 40 (f := .meth "Bucket" "drops") rfl),
      n_Bucket_room := He.noat_ok (c.t.d.fact 36 (f := .noat "Bucket" "room") rfl),
      n_Bucket_line := He.noat_ok (c.t.d.fact 37 (f := .noat "Bucket" "line") rfl),
      C_Table := He.ga K "Table", c_Table := He.cls_ok (c.t.d.fact 42 (f := .cls "Table") rfl), m_Table := He.glo_ok X G (c.t.d.fact 41 (f := .glo "Table") rfl), M_Table := He.mkr_ok (c.t.d.fact 43 (f := .mkr "Table") rfl),
      t_Table_bucket_for := He.meth_ok (c.t.d.fact 48 (f := .meth "Table" "bucket_for") rfl),
      t_Table_hears := He.meth_ok (c.t.d.fact 49 (f := .meth "Table" "hears") rfl),
      t_Table_drops := He.meth_ok (c.t.d.fact 50 (f := .meth "Table" "drops") rfl),
      t_Table_bucket := He.meth_ok (c.t.d.fact 51 (f := .meth "Table" "bucket") rfl),
      t_Table_keeps := He.meth_ok (c.t.d.fact 52 (f := .meth "Table" "keeps") rfl),
      t_Table_nearest := He.meth_ok (c.t.d.fact 53 (f := .meth "Table" "nearest") rfl),
      n_Table_own := He.noat_ok (c.t.d.fact 44 (f := .noat "Table" "own") rfl),
      n_Table_wide := He.noat_ok (c.t.d.fact 45 (f := .noat "Table" "wide") rfl),
      n_Table_room := He.noat_ok (c.t.d.fact 46 (f := .noat "Table" "room") rfl),
      n_Table_buckets := He.noat_ok (c.t.d.fact 47 (f := .noat "Table" "buckets") rfl),
      C_Town := He.ga K "Town", c_Town := He.cls_ok (c.t.d.fact 55 (f := .cls "Town") rfl), m_Town := He.glo_ok X G (c.t.d.fact 54 (f := .glo "Town") rfl), M_Town := He.mkr_ok (c.t.d.fact 56 (f := .mkr "Town") rfl),
      t_Town_houses := He.meth_ok (c.t.d.fact 61 (f := .meth "Town" "houses") rfl),
      t_Town_answers := He.meth_ok (c.t.d.fact 62 (f := .meth "Town" "answers") rfl),
      t_Town_answering := He.meth_ok (c.t.d.fact 63 (f := .meth "Town" "answering") rfl),
      t_Town_table := He.meth_ok (c.t.d.fact 64 (f := .meth "Town" "table") rfl),
      t_Town_look_awake := He.meth_ok (c.t.d.fact 65 (f := .meth "Town" "look_awake") rfl),
      t_Town_look_named := He.meth_ok (c.t.d.fact 66 (f := .meth "Town" "look_named") rfl),
      t_Town_bucket := He.meth_ok (c.t.d.fact 67 (f := .meth "Town" "bucket") rfl),
      t_Town_keeps := He.meth_ok (c.t.d.fact 68 (f := .meth "Town" "keeps") rfl),
      t_Town_tells := He.meth_ok (c.t.d.fact 69 (f := .meth "Town" "tells") rfl),
      t_Town_hears := He.meth_ok (c.t.d.fact 70 (f := .meth "Town" "hears") rfl),
      t_Town_come_to := He.meth_ok (c.t.d.fact 71 (f := .meth "Town" "come_to") rfl),
      t_Town_ask := He.meth_ok (c.t.d.fact 72 (f := .meth "Town" "ask") rfl),
      t_Town_way := He.meth_ok (c.t.d.fact 73 (f := .meth "Town" "way") rfl),
      t_Town_visit := He.meth_ok (c.t.d.fact 74 (f := .meth "Town" "visit") rfl),
      t_Town_come := He.meth_ok (c.t.d.fact 75 (f := .meth "Town" "come") rfl),
      t_Town_go := He.meth_ok (c.t.d.fact 76 (f := .meth "Town" "go") rfl),
      t_Town_hush := He.meth_ok (c.t.d.fact 77 (f := .meth "Town" "hush") rfl),
      t_Town_wake := He.meth_ok (c.t.d.fact 78 (f := .meth "Town" "wake") rfl),
      n_Town_wide := He.noat_ok (c.t.d.fact 57 (f := .noat "Town" "wide") rfl),
      n_Town_room := He.noat_ok (c.t.d.fact 58 (f := .noat "Town" "room") rfl),
      n_Town_tables := He.noat_ok (c.t.d.fact 59 (f := .noat "Town" "tables") rfl),
      n_Town_hushed := He.noat_ok (c.t.d.fact 60 (f := .noat "Town" "hushed") rfl),
      m_way_asks := (He.glo_ok X G (c.t.d.fact 79 (f := .glo "way_asks") rfl)).trans (congrArg (fun z => some (Value.ref z)) (exL_ok c.more (p := ("way_asks", "way")) (List.mem_of_getElem? (i := 0) rfl))),
      z_all := He.free_ok X G (c.t.d.fact 80 (f := .free "all") rfl),
      z_any := He.free_ok X G (c.t.d.fact 81 (f := .free "any") rfl),
      z_bool := He.free_ok X G (c.t.d.fact 82 (f := .free "bool") rfl),
      z_enumerate := He.free_ok X G (c.t.d.fact 83 (f := .free "enumerate") rfl),
      z_int := He.free_ok X G (c.t.d.fact 84 (f := .free "int") rfl),
      z_isinstance := He.free_ok X G (c.t.d.fact 85 (f := .free "isinstance") rfl),
      z_len := He.free_ok X G (c.t.d.fact 86 (f := .free "len") rfl),
      z_list := He.free_ok X G (c.t.d.fact 87 (f := .free "list") rfl),
      z_range := He.free_ok X G (c.t.d.fact 88 (f := .free "range") rfl),
      z_sorted := He.free_ok X G (c.t.d.fact 89 (f := .free "sorted") rfl),
      t_MOST_WIDE := tk0, m_MOST_WIDE := ek0,
      t_MOST_ROOM := tk1, m_MOST_ROOM := ek1,
      k_Town_hears := He.codeOf K ("Town", some "hears"), P_Town_hears := He.tabOf K (He.codeOf K ("Town", some "hears")), tb_Town_hears := hTB _ (List.mem_map.mpr ⟨(("Town", some "hears") : He.Defn), by simp [tfL], rfl⟩), FC_Town_hears := func_of (p := ("Town", some "hears")) F38, z0_Town_hears := fun H h => h _ (List.mem_map.mpr ⟨(("Town", some "hears") : He.Defn), by simp [tfL], rfl⟩),
      k_Town_ask := He.codeOf K ("Town", some "ask"), P_Town_ask := He.tabOf K (He.codeOf K ("Town", some "ask")), tb_Town_ask := hTB _ (List.mem_map.mpr ⟨(("Town", some "ask") : He.Defn), by simp [tfL], rfl⟩), FC_Town_ask := func_of (p := ("Town", some "ask")) F40, z0_Town_ask := fun H h => h _ (List.mem_map.mpr ⟨(("Town", some "ask") : He.Defn), by simp [tfL], rfl⟩),
      k_Town_way := He.codeOf K ("Town", some "way"), P_Town_way := He.tabOf K (He.codeOf K ("Town", some "way")), tb_Town_way := hTB _ (List.mem_map.mpr ⟨(("Town", some "way") : He.Defn), by simp [tfL], rfl⟩), FC_Town_way := func_of (p := ("Town", some "way")) F41, z0_Town_way := fun H h => h _ (List.mem_map.mpr ⟨(("Town", some "way") : He.Defn), by simp [tfL], rfl⟩),
      k_l_as_it_is := He.codeOf K ("_law_as_it_is", none), P_l_as_it_is := He.tabOf K (He.codeOf K ("_law_as_it_is", none)), tb_l_as_it_is := hTB _ (List.mem_map.mpr ⟨(("_law_as_it_is", none) : He.Defn), by simp [tfL], rfl⟩), FC_l_as_it_is := func_of (p := ("_law_as_it_is", none)) F56, z0_l_as_it_is := fun H h => h _ (List.mem_map.mpr ⟨(("_law_as_it_is", none) : He.Defn), by simp [tfL], rfl⟩) }⟩
end Nn
open PySem PySem.W PySem.Calls PyProof.Rows
theorem PySem.Challenge.cw_nearnames_k45_whole_tide_rests_holds : PySem.Challenge.rw_nearnames_k45_whole_tide_rests.Holds := by
  w_on; o_law
  refine HandSHeadRun.head_any (r := OpenLaw.row PySem.Challenge.rw_nearnames_k45_whole_tide_rests) (q := view (OpenLaw.row PySem.Challenge.rw_nearnames_k45_whole_tide_rests).prog [52]) (H := Nn.hkX) (ob := Nn.obL) (M := 6000) (loose := Nn.looseL) (d := HandSHeadRun.topDef (OpenLaw.row PySem.Challenge.rw_nearnames_k45_whole_tide_rests).prog 52) (kwd := []) Nn.obL_eq
    (by kernel_rfl) (fun s => by kernel_rfl) Nn.runL (by kernel_rfl) (by kernel_rfl) (by kernel_rfl) (by rfl) (by first | assumption | decide +kernel) (by decide +kernel) ⟨rfl, rfl, rfl, rfl, rfl, by decide +kernel⟩ ?hw ?hc
  case hw => w_witness2
  case hc =>
    refine LamX.walk_ofTsE (l := PySem.Challenge.rw_nearnames_k45_whole_tide_rests) (n := 63) (k := 11) (x := "_law_script") (CX := fun _ => L2.CX0) rfl (by decide) (by kernel_rfl) ⟨rfl, by decide, by decide⟩ ?F (fun _ _ _ _ _ z => z)
    intro w mg fa h Y G hmg0
    obtain ⟨K, KX, c⟩ := Y
    have hmg : mg ("law" : PySem.Str) = some (.ref fa) := by
      have e : (HandSHeadRun.topDef (OpenLaw.row PySem.Challenge.rw_nearnames_k45_whole_tide_rests).prog 52).name = ("law" : PySem.Str) := by kernel_rfl
      rw [← e]
      exact hmg0
    exact ⟨K, KX, Nn.factsL KX G hmg c⟩
