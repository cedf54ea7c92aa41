import PyProof.Rows.All
import Wide.All
import OpenK.AllK
import Wide.FinOn
import HandS.ForMost
import HandS.Walk
import HandS.Wide
import HandS.WideBits
import HandS.IsInst
import HandS.EndBits
import HandS.SortInts
import HandS.Flow
import HandS.Nested
import HandS.EndTab
import HandS.More
import HandS.SetFor
import HandS.Strs
import HandS.Zip
import HandS.CallLocal
import HandS.Defaults
import HandS.Head0
import HandS.Head1
import HandS.Head2
import HandS.HeadEnd
import HandS.HeadHook1
import HandS.HeadHook2
import HandS.HeadHook3
import HandS.HeadHook4
import HandS.HeadWalk
import HandS.DictComp
import HandS.DeepEq
import HandS.Style
import HandS.Exc
import HandS.ExcOwn
import HandS.ExcIs
import HandS.WordsExc
import PyProof.ExcBaseAll.ValueError
import PySem.Challenge.RW_nearnames_k36_towns_refused
set_option Elab.async false
set_option linter.all false
set_option maxRecDepth 100000
set_option maxHeartbeats 4000000
namespace Nn
open PySem L2
def nmAll (l c : Nat) : Str := if l = 180 ∧ c = 8 then (("Town.hears" : Str) ++ ".<locals>.") ++ "answers" else if l = 197 ∧ c = 8 then (("Town.ask" : Str) ++ ".<locals>.") ++ "tells" else if l = 212 ∧ c = 8 then (("Town.way" : Str) ++ ".<locals>.") ++ "tells" else ""
end Nn
/-! Steps through readings. -/
namespace Nn
open PySem L2
section
variable {K : PySem.W.Frag} {σ : L2.St} {H : Hp} {ta tb te tc : TE} {t u : TS} {c c' : TT} {D : Ends} {Q : VK} {x y v : V}

theorem cxK {CX : CXT} {P : Program} {w : World} {K : PySem.W.Frag} {mg : Str → Option Value} {base : Heap} {N : List Str} {q : Str} {sc : Scope} {f : Addr} {cd : Value} {A : Around} {outer : List Env} {s : Shared} {H : Hp} {E : XK} :
    (cxOf CX P w K mg base N q sc f cd A outer s H E).nox.K = K := rfl
theorem cxK' {CX : CXT} {P : Program} {w : World} {K : PySem.W.Frag} {mg : Str → Option Value} {base : Heap} {N : List Str} {q : Str} {sc : Scope} {f : Addr} {cd : Value} {A : Around} {outer : List Env} {s : Shared} {H : Hp} {E : XK} :
    (cxOf CX P w K mg base N q sc f cd A outer s H E).K = K := rfl
theorem cxW {CX : CXT} {P : Program} {w : World} {K : PySem.W.Frag} {mg : Str → Option Value} {base : Heap} {N : List Str} {q : Str} {sc : Scope} {f : Addr} {cd : Value} {A : Around} {outer : List Env} {s : Shared} {H : Hp} {E : XK} :
    (cxOf CX P w K mg base N q sc f cd A outer s H E).w = w := rfl
theorem x_seq (h : t { D with nx := u D } σ H) : tSeq t u D σ H := h
theorem x_next (h : D.nx σ H) : tNext D σ H := h
theorem x_asg {g : TG} (h : te σ H fun x H1 => g x σ H1 D.nx) : tAsg te g D σ H := h
theorem x_name {i : Nat} {R : L2.St → Hp → Prop} (h : R (σ.set i (some v)) H) : gName i v σ H R := h
theorem x_ret (h : te σ H D.rt) : tRet te D σ H := h
theorem x_retN (h : D.rt .non H) : tRetN D σ H := h
theorem x_drop (h : te σ H fun _ H1 => D.nx σ H1) : tDrop te D σ H := h
/-- the branches as they stand (not walked until the test is known) -/
def IfS (b : Bool) (t u : TS) (D : Ends) (σ : L2.St) (H : Hp) : Prop := if b = true then t D σ H else u D σ H
theorem x_ifD {p : Prop} [Decidable p] (h1 : p → t D σ H) (h2 : ¬ p → u D σ H) : IfS (decide p) t u D σ H := by
  unfold IfS
  by_cases h : p
  · rw [if_pos (decide_eq_true h)]; exact h1 h
  · rw [if_neg (by simp [h])]; exact h2 h
theorem x_ifN {p : Prop} [Decidable p] (h1 : ¬ p → t D σ H) (h2 : p → u D σ H) : IfS (!decide p) t u D σ H := by
  unfold IfS
  by_cases h : p
  · rw [if_neg (by simp [h])]; exact h2 h
  · rw [if_pos (by simp [h])]; exact h1 h
theorem x_ifB {b : Bool} (h1 : b = true → t D σ H) (h2 : b = false → u D σ H) : IfS b t u D σ H := by
  cases b with
  | true => exact h1 rfl
  | false => exact h2 rfl
theorem x_INs {α : Type} [DecidableEq α] {b : α} (h : u D σ H) : IfS (!decide (b = b)) t u D σ H := by
  rw [decide_eq_true rfl]; exact h
theorem x_IEs {α : Type} [DecidableEq α] {b : α} (h : t D σ H) : IfS (decide (b = b)) t u D σ H := by
  rw [decide_eq_true rfl]; exact h
theorem x_if {tt : TT} (h : tt σ H fun b H1 => if b = true then ta σ H1 Q else tb σ H1 Q) : tIf tt ta tb σ H Q := h
theorem x_var {i : Nat} (e : σ[i]? = some (some v)) (h : Q v H) : tVar i σ H Q := ⟨v, e, h⟩
theorem x_c (h : Q v H) : tC v σ H Q := h
theorem x_op {r : R2} (h : ta σ H fun x H1 => tb σ H1 fun y H2 => r x y H2 Q) : tOp r ta tb σ H Q := h
theorem x_un {r : V → Hp → VK → Prop} (h : ta σ H fun x H1 => r x H1 Q) : tUn r ta σ H Q := h
theorem x_cb {r : List V → Hp → VK → Prop} {ts : TA} (h : ts σ H fun vs H1 => r vs H1 Q) : tCB r ts σ H Q := h
theorem x_nil {R : List V → Hp → Prop} (h : R [] H) : tNil σ H R := h
theorem x_cons {ts : TA} {R : List V → Hp → Prop} (h : ta σ H fun x H1 => ts σ H1 fun xs H2 => R (x :: xs) H2) : tCons ta ts σ H R := h
theorem x_call {sp : Sp} {E : XK} {ts : TA} (h : ts σ H fun vs H1 => sp vs H1 Q E) : tCall sp [] E ts σ H Q := by
  unfold tCall; simpa only [List.append_nil] using h
theorem x_calld {sp : Sp} {E : XK} {ds : List V} {ts : TA} (h : ts σ H fun vs H1 => sp (vs ++ ds) H1 Q E) : tCall sp ds E ts σ H Q := h
theorem x_tup {ts : TA} (h : ts σ H fun xs H1 => xs.length ≤ sizeLine ∧ ∀ p, H1 p = none → Q (.ref p) (upd H1 p (.tup xs))) : tTup ts σ H Q := h
theorem x_lst {ts : TA} (h : ts σ H fun xs H1 => xs.length ≤ sizeLine ∧ ∀ p, H1 p = none → Q (.ref p) (upd H1 p (.lst xs))) : tLst ts σ H Q := h

theorem x_test {R : Bool → Hp → Prop} (h : te σ H fun x H' => ∃ k, x = .bl k ∧ R k H') : tTest te σ H R := h
theorem x_B {R : Bool → Hp → Prop} (h : te σ H fun x H' => ∃ k, x = .bl k ∧ R k H') : tB te σ H R := h
theorem x_bl {R : Bool → Prop} {k : Bool} (h : R k) : ∃ k', V.bl k = V.bl k' ∧ R k' := ⟨k, rfl, h⟩
theorem x_and {R : Bool → Hp → Prop} (h : c σ H fun b H1 => if b = true then c' σ H1 R else R false H1) : tAnd c c' σ H R := h
theorem x_or {R : Bool → Hp → Prop} (h : c σ H fun b H1 => if b = true then R true H1 else c' σ H1 R) : tOr c c' σ H R := h
theorem x_not {R : Bool → Hp → Prop} (h : c σ H fun b H1 => R (!b) H1) : tNot c σ H R := h
theorem x_andV (h : ta σ H fun x H1 => ∃ c, x = .bl c ∧ if c = true then tb σ H1 Q else Q (.bl false) H1) : tAndV ta tb σ H Q := h
theorem x_orV (h : ta σ H fun x H1 => ∃ c, x = .bl c ∧ if c = true then Q (.bl true) H1 else tb σ H1 Q) : tOrV ta tb σ H Q := h
theorem x_notV (h : ta σ H fun x H1 => ∃ c, x = .bl c ∧ Q (.bl (!c)) H1) : tNotV ta σ H Q := h
theorem x_chain {r r' : R2} (h : ta σ H fun x H1 => tb σ H1 fun y H2 => r x y H2 fun z H3 => ∃ k, z = .bl k ∧ if k = true then tc σ H3 fun w H4 => r' y w H4 Q else Q (.bl false) H3) : tChain r r' ta tb tc σ H Q := h

theorem x_i0 {g : Int → Int → V} {i j : Int} (h : Q (g i j) H) : rI0 g (.int i) (.int j) H Q := ⟨i, j, rfl, rfl, h⟩
theorem x_i {C : Int → Int → Prop} {g : Int → Int → V} {i j : Int} (hc : C i j) (h : Q (g i j) H) : rI C g (.int i) (.int j) H Q := ⟨i, j, rfl, rfl, hc, h⟩
theorem x_u {g : Int → V} {i : Int} (h : Q (g i) H) : rU g (.int i) H Q := ⟨i, rfl, h⟩
theorem x_eqI {i j : Int} (h : Q (.bl (decide (i = j))) H) : rEq (.int i) (.int j) H Q := ⟨rfl, by
  have e : decide (V.int i = V.int j) = decide (i = j) := by simp
  rw [e]; exact h⟩
theorem x_neI {i j : Int} (h : Q (.bl (!decide (i = j))) H) : rNe (.int i) (.int j) H Q := ⟨rfl, by
  have e : decide (V.int i = V.int j) = decide (i = j) := by simp
  rw [e]; exact h⟩
theorem x_eqB {i j : Bool} (h : Q (.bl (decide (i = j))) H) : rEq (.bl i) (.bl j) H Q := ⟨rfl, by
  have e : decide (V.bl i = V.bl j) = decide (i = j) := by simp
  rw [e]; exact h⟩
theorem x_neB {i j : Bool} (h : Q (.bl (!decide (i = j))) H) : rNe (.bl i) (.bl j) H Q := ⟨rfl, by
  have e : decide (V.bl i = V.bl j) = decide (i = j) := by simp
  rw [e]; exact h⟩
theorem x_eqS {i j : Str} (h : Q (.bl (decide (i = j))) H) : rEq (.str i) (.str j) H Q := ⟨rfl, by
  have e : decide (V.str i = V.str j) = decide (i = j) := by simp
  rw [e]; exact h⟩
theorem x_neS {i j : Str} (h : Q (.bl (!decide (i = j))) H) : rNe (.str i) (.str j) H Q := ⟨rfl, by
  have e : decide (V.str i = V.str j) = decide (i = j) := by simp
  rw [e]; exact h⟩
theorem x_eq (e : scal x y = true) (h : Q (.bl (decide (x = y))) H) : rEq x y H Q := ⟨e, h⟩
theorem x_ne (e : scal x y = true) (h : Q (.bl (!decide (x = y))) H) : rNe x y H Q := ⟨e, h⟩

theorem x_ite {p A B : Prop} [Decidable p] (h1 : p → A) (h2 : ¬ p → B) : if decide p = true then A else B := by
  by_cases h : p
  · rw [if_pos (decide_eq_true h)]; exact h1 h
  · rw [if_neg (by simp [h])]; exact h2 h
theorem x_iteN {p A B : Prop} [Decidable p] (h1 : ¬ p → A) (h2 : p → B) : if (!decide p) = true then A else B := by
  by_cases h : p
  · rw [if_neg (by simp [h])]; exact h2 h
  · rw [if_pos (by simp [h])]; exact h1 h
theorem x_iteB {b : Bool} {A B : Prop} (h1 : b = true → A) (h2 : b = false → B) : if b = true then A else B := by
  cases b with
  | true => rw [if_pos rfl]; exact h1 rfl
  | false => rw [if_neg Bool.false_ne_true]; exact h2 rfl
theorem x_NEs {α : Type} [DecidableEq α] {b : α} {A B : Prop} (h : B) : if (!decide (b = b)) = true then A else B := by
  rw [decide_eq_true rfl]; exact iteF h
theorem x_Es {α : Type} [DecidableEq α] {b : α} {A B : Prop} (h : A) : if decide (b = b) = true then A else B := by
  rw [decide_eq_true rfl]; exact iteT h
theorem x_T {A B : Prop} (h : A) : if true = true then A else B := iteT h
theorem x_F {A B : Prop} (h : B) : if false = true then A else B := iteF h
theorem x_NT {A B : Prop} (h : B) : if (!true) = true then A else B := iteF h
theorem x_NF {A B : Prop} (h : A) : if (!false) = true then A else B := iteT h

/-! the built-ins' readings -/
theorem x_ixL {p : Addr} {xs : List V} {i : Int} (hS : SqL K H p xs) (e : atI xs i = some v) (h : Q v H) : rIxL K (.ref p) (.int i) H Q := ⟨p, xs, i, v, rfl, rfl, hS, e, h⟩
theorem x_ixT {p : Addr} {xs : List V} {i : Int} (hS : SqT K H p xs) (e : atI xs i = some v) (h : Q v H) : rIxT K (.ref p) (.int i) H Q := ⟨p, xs, i, v, rfl, rfl, hS, e, h⟩
def rAbs : List V → Hp → VK → Prop := fun xs H Q => ∃ i, xs = [.int i] ∧ Q (.int (if i < 0 then -i else i)) H
def rMin2 : List V → Hp → VK → Prop := fun xs H Q => ∃ i j, xs = [.int i, .int j] ∧ Q (.int (if j < i then j else i)) H
def rMax2 : List V → Hp → VK → Prop := fun xs H Q => ∃ i j, xs = [.int i, .int j] ∧ Q (.int (if j > i then j else i)) H
def rLenS (K : PySem.W.Frag) : List V → Hp → VK → Prop := fun xs H Q => ∃ p ys, xs = [.ref p] ∧ (SqL K H p ys ∨ SqT K H p ys) ∧ Q (.int ys.length) H
def rLenD : List V → Hp → VK → Prop := fun xs H Q => ∃ a kvs, xs = [V.ref a] ∧ H a = some (.dK kvs) ∧ Q (.int kvs.length) H
def rLenStr : List V → Hp → VK → Prop := fun xs H Q => ∃ z : Str, xs = [.str z] ∧ z.length ≤ sizeLine ∧ Q (.int z.length) H
def rInt1 : List V → Hp → VK → Prop := fun xs H Q => (∃ i, xs = [.int i] ∧ Q (.int i) H) ∨ ∃ k, xs = [.bl k] ∧ Q (.int (if k then 1 else 0)) H
def rListOf (K : PySem.W.Frag) : List V → Hp → VK → Prop := fun xs H Q => ∃ p ys, xs = [.ref p] ∧ (SqL K H p ys ∨ SqT K H p ys) ∧ ∀ l, H l = none → Q (.ref l) (upd H l (.lst ys))
theorem cb_abs {X : Cx} : CallR X (.builtin "abs") rAbs := call_abs
theorem cb_min2 {X : Cx} (hc : X.calm = true) : CallR X (.builtin "min") rMin2 := call_min2 hc
theorem cb_max2 {X : Cx} (hc : X.calm = true) : CallR X (.builtin "max") rMax2 := call_max2 hc
theorem cb_len {X : Cx} : CallR X (.builtin "len") (rLenS X.K) := call_len_seq
theorem cb_lenD {X : Cx} : CallR X (.builtin "len") rLenD := call_lenD
theorem cb_lenStr {X : Cx} : CallR X (.builtin "len") rLenStr := call_len_str
theorem cb_int {X : Cx} : CallR X (.type "int") rInt1 := call_int1
theorem cb_list {X : Cx} : CallR X (.type "list") (rListOf X.K) := call_list_of
theorem x_abs {i : Int} (h : Q (.int (i.natAbs : Int)) H) : rAbs [.int i] H Q :=
  ⟨i, rfl, by
    have e : (if i < 0 then -i else i) = (i.natAbs : Int) := by split <;> omega
    rw [e]; exact h⟩
theorem x_min2 {i j : Int} (h : Q (.int (min i j)) H) : rMin2 [.int i, .int j] H Q :=
  ⟨i, j, rfl, by
    have e : (if j < i then j else i) = min i j := by split <;> omega
    rw [e]; exact h⟩
theorem x_max2 {i j : Int} (h : Q (.int (max i j)) H) : rMax2 [.int i, .int j] H Q :=
  ⟨i, j, rfl, by
    have e : (if j > i then j else i) = max i j := by split <;> omega
    rw [e]; exact h⟩
theorem x_lenL {p : Addr} {ys : List V} (hS : SqL K H p ys) (h : Q (.int ys.length) H) : rLenS K [.ref p] H Q := ⟨p, ys, rfl, .inl hS, h⟩
theorem x_lenT {p : Addr} {ys : List V} (hS : SqT K H p ys) (h : Q (.int ys.length) H) : rLenS K [.ref p] H Q := ⟨p, ys, rfl, .inr hS, h⟩
theorem x_lenD {p : Addr} {kvs : List (Key × V)} (hS : H p = some (.dK kvs)) (h : Q (.int kvs.length) H) : rLenD [.ref p] H Q := ⟨p, kvs, rfl, hS, h⟩
theorem x_intI {i : Int} (h : Q (.int i) H) : rInt1 [.int i] H Q := .inl ⟨i, rfl, h⟩
theorem x_intB {b : Bool} (h : Q (.int (if b then 1 else 0)) H) : rInt1 [.bl b] H Q := .inr ⟨b, rfl, h⟩
theorem x_listL {p : Addr} {ys : List V} (hS : SqL K H p ys) (h : ∀ l, H l = none → Q (.ref l) (upd H l (.lst ys))) : rListOf K [.ref p] H Q := ⟨p, ys, rfl, .inl hS, h⟩
theorem x_sum {a : Addr} {ns : List Int} (hS : SqL K H a (ns.map V.int)) (h : Q (.int ns.sum) H) : rSum K [.ref a] H Q := ⟨a, ns, rfl, hS, h⟩
/-- isinstance of plain values, against built-in types -/
theorem x_isi {c : V} {t u : Value} {b : Bool} (k : ClsV c u) (ty : TyX K H x t) (e : PySem.W.kitOne K t u = some b) (h : Q (.bl b) H) : rIsi K [x, c] H Q := ⟨x, c, t, u, b, rfl, k, ty, e, h⟩
theorem x_isG {vs : List V} (h : rIsi K vs H Q) : rIsi K vs H Q := h
theorem x_isI_int {i : Int} (h : Q (.bl true) H) : rIsi K [.int i, .ty "int"] H Q := x_isi (.ty "int") (.base (.int i)) (kit_ty (by decide +kernel)) h
theorem x_isI_bool {i : Int} (h : Q (.bl false) H) : rIsi K [.int i, .ty "bool"] H Q := x_isi (.ty "bool") (.base (.int i)) (kit_ty (by decide +kernel)) h
theorem x_isI_str {i : Int} (h : Q (.bl false) H) : rIsi K [.int i, .ty "str"] H Q := x_isi (.ty "str") (.base (.int i)) (kit_ty (by decide +kernel)) h
theorem x_isB_int {c : Bool} (h : Q (.bl true) H) : rIsi K [.bl c, .ty "int"] H Q := x_isi (.ty "int") (.base (.bl c)) (kit_ty (by decide +kernel)) h
theorem x_isB_bool {c : Bool} (h : Q (.bl true) H) : rIsi K [.bl c, .ty "bool"] H Q := x_isi (.ty "bool") (.base (.bl c)) (kit_ty (by decide +kernel)) h
theorem x_isB_str {c : Bool} (h : Q (.bl false) H) : rIsi K [.bl c, .ty "str"] H Q := x_isi (.ty "str") (.base (.bl c)) (kit_ty (by decide +kernel)) h
theorem x_isS_int {z : Str} (h : Q (.bl false) H) : rIsi K [.str z, .ty "int"] H Q := x_isi (.ty "int") (.base (.str z)) (kit_ty (by decide +kernel)) h
theorem x_isS_bool {z : Str} (h : Q (.bl false) H) : rIsi K [.str z, .ty "bool"] H Q := x_isi (.ty "bool") (.base (.str z)) (kit_ty (by decide +kernel)) h
theorem x_isS_str {z : Str} (h : Q (.bl true) H) : rIsi K [.str z, .ty "str"] H Q := x_isi (.ty "str") (.base (.str z)) (kit_ty (by decide +kernel)) h
theorem x_isN_int  (h : Q (.bl false) H) : rIsi K [.non, .ty "int"] H Q := x_isi (.ty "int") (.base .non) (kit_ty (by decide +kernel)) h
theorem x_isN_bool  (h : Q (.bl false) H) : rIsi K [.non, .ty "bool"] H Q := x_isi (.ty "bool") (.base .non) (kit_ty (by decide +kernel)) h
theorem x_isN_str  (h : Q (.bl false) H) : rIsi K [.non, .ty "str"] H Q := x_isi (.ty "str") (.base .non) (kit_ty (by decide +kernel)) h
theorem x_isL_int {a : Addr} {xs : List V} (ha : H a = some (.lst xs)) (h : Q (.bl false) H) : rIsi K [.ref a, .ty "int"] H Q := x_isi (.ty "int") (.base (.lst ha)) (kit_ty (by decide +kernel)) h
theorem x_isL_list {a : Addr} {xs : List V} (ha : H a = some (.lst xs)) (h : Q (.bl true) H) : rIsi K [.ref a, .ty "list"] H Q := x_isi (.ty "list") (.base (.lst ha)) (kit_ty (by decide +kernel)) h
theorem x_isL_tuple {a : Addr} {xs : List V} (ha : H a = some (.lst xs)) (h : Q (.bl false) H) : rIsi K [.ref a, .ty "tuple"] H Q := x_isi (.ty "tuple") (.base (.lst ha)) (kit_ty (by decide +kernel)) h
theorem x_isT_int {a : Addr} {xs : List V} (ha : H a = some (.tup xs)) (h : Q (.bl false) H) : rIsi K [.ref a, .ty "int"] H Q := x_isi (.ty "int") (.base (.tup ha)) (kit_ty (by decide +kernel)) h
theorem x_isT_list {a : Addr} {xs : List V} (ha : H a = some (.tup xs)) (h : Q (.bl false) H) : rIsi K [.ref a, .ty "list"] H Q := x_isi (.ty "list") (.base (.tup ha)) (kit_ty (by decide +kernel)) h
theorem x_isT_tuple {a : Addr} {xs : List V} (ha : H a = some (.tup xs)) (h : Q (.bl true) H) : rIsi K [.ref a, .ty "tuple"] H Q := x_isi (.ty "tuple") (.base (.tup ha)) (kit_ty (by decide +kernel)) h
theorem x_isD_int {a : Addr} {kvs : List (Key × V)} (ha : H a = some (.dK kvs)) (h : Q (.bl false) H) : rIsi K [.ref a, .ty "int"] H Q := x_isi (.ty "int") (.base (.dK ha)) (kit_ty (by decide +kernel)) h
theorem x_isD_list {a : Addr} {kvs : List (Key × V)} (ha : H a = some (.dK kvs)) (h : Q (.bl false) H) : rIsi K [.ref a, .ty "list"] H Q := x_isi (.ty "list") (.base (.dK ha)) (kit_ty (by decide +kernel)) h
theorem x_isD_tuple {a : Addr} {kvs : List (Key × V)} (ha : H a = some (.dK kvs)) (h : Q (.bl false) H) : rIsi K [.ref a, .ty "tuple"] H Q := x_isi (.ty "tuple") (.base (.dK ha)) (kit_ty (by decide +kernel)) h

/-! heaps that grow -/
/-- no table of code objects (these grow where a def is made within a def) -/
def NT : HO → Prop | .tbl _ => False | _ => True
/-- no table, nothing told by its object -/
def NX : HO → Prop | .tbl _ => False | .ext _ => False | _ => True
theorem NX.nt {o : HO} (h : NX o) : NT o := by cases o <;> first | trivial | exact h
/-- all but what S names stays; tables stay tables; nothing is lost -/
structure Fr (S : Addr → Prop) (H H' : Hp) : Prop where
  keep : ∀ a o, H a = some o → NT o → ¬ S a → H' a = some o
  tab : ∀ P, NdefX.TabN H P nmAll → NdefX.TabN H' P nmAll
  back : ∀ a, H' a = none → H a = none
abbrev Ex (H H' : Hp) : Prop := Fr (fun _ => False) H H'
theorem atI_hd {x : V} {r : List V} : atI (x :: r) 0 = some x := atI_nat (xs := x :: r) (j := 0) rfl
theorem at_new {H : Hp} {p a : Addr} {o u : HO} (h : H p = none) (k : H a = some u) : upd H p o a = some u := by rw [upd_ne (ne_of_none k h)]; exact k
theorem at_upd {H : Hp} {p a : Addr} {o u v : HO} (h : H p = some v) (k : H a = some u) (d : v ≠ u) : upd H p o a = some u := by rw [upd_ne (ne_of k h (Ne.symm d))]; exact k
theorem Ex.at {H H' : Hp} {a : Addr} {o : HO} (e : Ex H H') (h : H a = some o) (n : NT o := by trivial) : H' a = some o := e.keep a o h n id
theorem Fr.at {S : Addr → Prop} {H H' : Hp} {a : Addr} {o : HO} (e : Fr S H H') (h : H a = some o) (hs : ¬ S a) (n : NT o := by trivial) : H' a = some o := e.keep a o h n hs
theorem Fr.refl {S : Addr → Prop} {H : Hp} : Fr S H H := ⟨fun _ _ h _ _ => h, fun _ h => h, fun _ h => h⟩
theorem Ex.refl {H : Hp} : Ex H H := Fr.refl
theorem Ex.trans {H H1 H2 : Hp} (a : Ex H H1) (b : Ex H1 H2) : Ex H H2 := ⟨fun x o h n _ => b.at (a.at h n) n, fun P h => b.tab P (a.tab P h), fun x h => a.back x (b.back x h)⟩
theorem Fr.trans {S : Addr → Prop} {H H1 H2 : Hp} (a : Fr S H H1) (b : Fr S H1 H2) : Fr S H H2 := ⟨fun x o h n s => b.keep x o (a.keep x o h n s) n s, fun P h => b.tab P (a.tab P h), fun x h => a.back x (b.back x h)⟩
theorem Fr.mono {S S' : Addr → Prop} {H H1 : Hp} (a : Fr S H H1) (h : ∀ x, S x → S' x) : Fr S' H H1 := ⟨fun x o e n s => a.keep x o e n fun z => s (h x z), a.tab, a.back⟩
theorem Ex.fr {S : Addr → Prop} {H H1 : Hp} (a : Ex H H1) : Fr S H H1 := Fr.mono a fun _ z => z.elim
/-- of what S names, all is newer than H -/
theorem Fr.ex {S : Addr → Prop} {H H0 H1 : Hp} (a : Fr S H H1) (e : Ex H0 H) (h : ∀ x, S x → H0 x = none) : Ex H0 H1 :=
  ⟨fun x o q n _ => a.keep x o (e.at q n) n fun z => (by rw [h x z] at q; cases q), fun P q => a.tab P (e.tab P q), fun x q => e.back x (a.back x q)⟩
theorem upd_back {H : Hp} {p x : Addr} {o : HO} (h : upd H p o x = none) : H x = none := by
  unfold upd at h
  split at h
  · cases h
  · exact h
theorem Ex.new {H : Hp} {p : Addr} {o : HO} (h : H p = none) : Ex H (upd H p o) :=
  ⟨fun a u e _ _ => by rw [upd_ne (ne_of_none e h)]; exact e, fun P t => t.ext fun b u e => by rw [upd_ne (ne_of_none e h)]; exact e, fun _ z => upd_back z⟩
theorem Ex.newT {H H1 : Hp} {p : Addr} {o : HO} (a : Ex H H1) (h : H1 p = none) : Ex H (upd H1 p o) := a.trans (Ex.new h)
/-- one object is changed -/
theorem Fr.upd1 {H : Hp} {p : Addr} {o u : HO} (h : H p = some u) (hu : NX u := by trivial) : Fr (fun a => a = p) H (upd H p o) :=
  ⟨fun a v e _ s => by rw [upd_ne s]; exact e, fun P ⟨ps, h1, h2, h3⟩ => by
    have nP : P ≠ p := fun z => by rw [z, h] at h1; cases h1; exact hu
    refine ⟨ps, by rw [upd_ne nP]; exact h1, h2, fun pos cv hc => ?_⟩
    obtain ⟨c, e1, e2⟩ := h3 pos cv hc
    have nc : c ≠ p := fun z => by
      rw [z, h] at e2
      have e2 := Option.some.inj e2
      rw [e2] at hu
      exact hu
    exact ⟨c, e1, by rw [upd_ne nc]; exact e2⟩, fun _ z => upd_back z⟩
/-- an object that H does not know may change -/
theorem Ex.mut {H H' : Hp} {p : Addr} {o u : HO} (e : Ex H H') (h : H p = none) (h' : H' p = some u) (hu : NX u := by trivial) : Ex H (upd H' p o) :=
  (Fr.upd1 h' hu).ex e fun x z => by rw [z]; exact h
theorem Ex.ls {H H' : Hp} {a : Addr} {xs : List V} (e : Ex H H') (h : SqL K H a xs) : SqL K H' a xs := by
  rcases h with (h | ⟨o, h⟩) | h
  · exact .inl (.inl (e.at h))
  · exact .inl (.inr ⟨o, e.at h⟩)
  · exact .inr h
theorem Ex.tu {H H' : Hp} {a : Addr} {xs : List V} (e : Ex H H') (h : SqT K H a xs) : SqT K H' a xs := by
  rcases h with (h | ⟨o, h⟩) | h
  · exact .inl (.inl (e.at h))
  · exact .inl (.inr ⟨o, e.at h⟩)
  · exact .inr h

/-! loops -/
def ForW (g : TG) (tb : TS) (D : Ends) (J : It) (σ : L2.St) (H : Hp) : Prop := ∃ W : Nat → Nat → L2.St → Hp → Prop, (∃ m, W 0 m σ H) ∧ ∀ i m σ H, W i m σ H →
  (J.stop i H ∧ D.nx σ H) ∨ (J.go i H ∧ ∃ N : L2.St → Hp → Prop, (∀ σ' H', N σ' H' → ∃ m', m' < m ∧ W (i + 1) m' σ' H') ∧ ∀ x H', J.yld i H x H' → g x σ H' fun σ2 H2 => tb { D with nx := N, ct := N, bk := D.nx } σ2 H2)
theorem x_for {wi : TI} {g : TG} {tb : TS} (h : wi σ H fun J H1 => ForW g tb D J σ H1) : tFor wi g tb D σ H := h
theorem ForW.by {J : It} {n : Nat} {G : Hp → Prop} {Y : Nat → Hp → V → Hp → Prop} (w : Walk J n G Y) {g : TG} {tb : TS} (Pv : Nat → L2.St → Hp → Prop) (h0 : Pv 0 σ H) (hG : ∀ i σ H, i ≤ n → Pv i σ H → G H)
    (hs : ∀ i x σ H H', i < n → Pv i σ H → Y i H x H' → g x σ H' fun σ2 H2 => tb { D with nx := Pv (i + 1), ct := Pv (i + 1), bk := D.nx } σ2 H2) (hd : ∀ σ H, Pv n σ H → D.nx σ H) : ForW g tb D J σ H :=
  for_it w Pv h0 hG hs hd
def Rg1 (R : It → Hp → Prop) : List V → Hp → Prop := fun vs H1 => ∃ j : Int, vs = [.int j] ∧ -(2 ^ 62) ≤ j ∧ j < 2 ^ 62 ∧ R (Itr 0 j.toNat) H1
def Rg2 (R : It → Hp → Prop) : List V → Hp → Prop := fun vs H1 => ∃ i j : Int, vs = [.int i, .int j] ∧ (-(2 ^ 62) ≤ i ∧ i < 2 ^ 62 ∧ -(2 ^ 62) ≤ j ∧ j < 2 ^ 62) ∧ R (Itr i (j - i).toNat) H1
def RiL (K : PySem.W.Frag) (R : It → Hp → Prop) : VK := fun x H1 => ∃ a, x = .ref a ∧ (∃ xs, SqL K H1 a xs) ∧ R (Itl K a) H1
def RiT (K : PySem.W.Frag) (R : It → Hp → Prop) : VK := fun x H1 => ∃ a, x = .ref a ∧ (∃ xs, SqT K H1 a xs) ∧ R (Itt K a) H1
def RiE (K : PySem.W.Frag) (R : It → Hp → Prop) : List V → Hp → Prop := fun vs H1 => ∃ a xs, vs = [.ref a] ∧ SqL K H1 a xs ∧ R (Ite K a) H1
def RiZ (K : PySem.W.Frag) (R : It → Hp → Prop) : List V → Hp → Prop := fun vs H1 => ∃ a b xs ys, vs = [.ref a, .ref b] ∧ SqL K H1 a xs ∧ SqL K H1 b ys ∧ R (Itz K a b) H1
theorem x_rng1 {ts : TA} {R : It → Hp → Prop} (h : ts σ H (Rg1 R)) : iRng1 ts σ H R := h
theorem x_rng2 {ts : TA} {R : It → Hp → Prop} (h : ts σ H (Rg2 R)) : iRng2 ts σ H R := h
theorem x_rgN {m : Nat} {R : It → Hp → Prop} (hm : (m : Int) < 2 ^ 62) (h : R (Itr 0 m) H) : Rg1 R [V.int (m : Int)] H :=
  ⟨m, rfl, by omega, hm, by rw [Int.toNat_natCast]; exact h⟩
theorem walk_rgN {n : Nat} : Walk (Itr 0 n) n (fun _ => True) (YFn fun i => .int i) :=
  ⟨fun _ _ hi _ => hi, fun _ _ => Nat.le_refl _, fun _ _ _ _ _ _ y => ⟨y.1, by rw [y.2]; simp⟩⟩
theorem x_iList {R : It → Hp → Prop} (h : ta σ H (RiL K R)) : iList K ta σ H R := h
theorem x_iTup {R : It → Hp → Prop} (h : ta σ H (RiT K R)) : iTup K ta σ H R := h
theorem x_itL {a : Addr} {xs : List V} {R : It → Hp → Prop} (hS : SqL K H a xs) (h : R (Itl K a) H) : RiL K R (.ref a) H := ⟨a, rfl, ⟨xs, hS⟩, h⟩
theorem x_itT {a : Addr} {xs : List V} {R : It → Hp → Prop} (hS : SqT K H a xs) (h : R (Itt K a) H) : RiT K R (.ref a) H := ⟨a, rfl, ⟨xs, hS⟩, h⟩
theorem x_iEnum {ts : TA} {R : It → Hp → Prop} (h : ts σ H (RiE K R)) : iEnum K ts σ H R := h
theorem x_enL {a : Addr} {xs : List V} {R : It → Hp → Prop} (hS : SqL K H a xs) (h : R (Ite K a) H) : RiE K R [.ref a] H := ⟨a, xs, rfl, hS, h⟩
theorem x_iZip {ts : TA} {R : It → Hp → Prop} (h : ts σ H (RiZ K R)) : iZip K ts σ H R := h
theorem x_ziL {a b : Addr} {xs ys : List V} {R : It → Hp → Prop} (hS : SqL K H a xs) (hS2 : SqL K H b ys) (h : R (Itz K a b) H) : RiZ K R [.ref a, .ref b] H := ⟨a, b, xs, ys, rfl, hS, hS2, h⟩
theorem x_gTup {n : Nat} {gs : TGs} {R : L2.St → Hp → Prop} {a : Addr} {xs : List V} (hT : SqT K H a xs) (hl : xs.length = n) (h : gs xs σ H R) : gTup K n gs (.ref a) σ H R := ⟨a, xs, rfl, hT, hl, h⟩
theorem x_gCons {g : TG} {gs : TGs} {R : L2.St → Hp → Prop} {xs : List V} (h : g v σ H fun σ' H' => gs xs σ' H' R) : gCons g gs (v :: xs) σ H R := ⟨v, xs, rfl, h⟩
theorem x_gNil {R : L2.St → Hp → Prop} (h : R σ H) : gNil [] σ H R := ⟨rfl, h⟩
/-- a while's turn, or its end -/
def WhS (W : Nat → L2.St → Hp → Prop) (m : Nat) (t : TS) (D : Ends) (b : Bool) (σ : L2.St) (H : Hp) : Prop :=
  if b = true then ∃ N : L2.St → Hp → Prop, (∀ σ' H', N σ' H' → ∃ m', m' < m ∧ W m' σ' H') ∧ t { D with nx := N, ct := N, bk := D.nx } σ H else D.nx σ H
def Less (W : Nat → L2.St → Hp → Prop) (m : Nat) (σ' : L2.St) (H' : Hp) : Prop := ∃ m', m' < m ∧ W m' σ' H'
theorem x_while {W : Nat → L2.St → Hp → Prop} {m : Nat} (h0 : W m σ H) (hs : ∀ m σ H, W m σ H → c σ H fun b H1 => WhS W m t D b σ H1) : tWhile c t D σ H :=
  ⟨W, ⟨m, h0⟩, hs⟩
theorem x_whT {W : Nat → L2.St → Hp → Prop} {m : Nat} (h : t { D with nx := Less W m, ct := Less W m, bk := D.nx } σ H) : WhS W m t D true σ H := by
  unfold WhS; rw [if_pos rfl]; exact ⟨_, fun _ _ h => h, h⟩
theorem x_whF {W : Nat → L2.St → Hp → Prop} {m : Nat} (h : D.nx σ H) : WhS W m t D false σ H := by
  unfold WhS; rw [if_neg Bool.false_ne_true]; exact h
theorem x_whD {W : Nat → L2.St → Hp → Prop} {m : Nat} {p : Prop} [Decidable p] (h1 : p → t { D with nx := Less W m, ct := Less W m, bk := D.nx } σ H) (h2 : ¬ p → D.nx σ H) : WhS W m t D (decide p) σ H := by
  by_cases h : p
  · rw [decide_eq_true h]; exact x_whT (h1 h)
  · rw [decide_eq_false h]; exact x_whF (h2 h)
def RAug (f : Int → Int → Int) (i : Nat) (x : V) (R : L2.St → Hp → Prop) (σ : L2.St) : VK := fun y H => ipI f x y H fun z H2 => R (σ.set i (some z)) H2
theorem x_augI {f : Int → Int → Int} {i : Nat} {k j : Int} {R : L2.St → Hp → Prop} (h : R (σ.set i (some (.int (f k j)))) H) : RAug f i (.int k) R σ (.int j) H := ⟨k, j, rfl, rfl, h⟩
theorem x_aug2 {i : Nat} {f : Int → Int → Int} (e : σ[i]? = some (some x)) (h : te σ H (RAug f i x D.nx σ)) : tAug i te (ipI f) D σ H := ⟨x, e, h⟩
/-- what follows a statement is shown once, from Mid -/
theorem x_cut (Mid : L2.St → Hp → Prop) (h : t { D with nx := Mid } σ H) (k : ∀ σ' H', Mid σ' H' → u D σ' H') : C8.tCut t u D σ H := ⟨Mid, h, k⟩
theorem x_aug {i : Nat} {ti : TIp} (e : σ[i]? = some (some x)) (h : te σ H fun y H1 => ti x y H1 fun z H2 => D.nx (σ.set i (some z)) H2) : tAug i te ti D σ H := ⟨x, e, h⟩

/-! methods of lists -/
theorem x_bm {T : String} {r : V → List V → Hp → VK → Prop} {ts : TA} (h : ta σ H fun x H1 => tyV K T x H1 ∧ ts σ H1 fun xs H2 => r x xs H2 Q) : tBM K T r ta ts σ H Q := h
theorem x_bm0 {T : String} {r : V → List V → Hp → VK → Prop} (h : ta σ H fun x H1 => tyV K T x H1 ∧ r x [] H1 Q) : tBM0 K T r ta σ H Q := h
theorem x_tyL {p : Addr} {xs : List V} {R : Prop} (hS : SqL K H p xs) (h : R) : tyV K "list" (.ref p) H ∧ R := ⟨.inl ⟨rfl, xs, hS⟩, h⟩
theorem x_append {l : Addr} {xs : List V} (hl : H l = some (.lst xs)) (hz : xs.length < sizeLine) (h : Q .non (upd H l (.lst (xs ++ [y])))) : rAppend (.ref l) [y] H Q := ⟨l, xs, y, rfl, rfl, hl, hz, h⟩

/-! operators of our own -/
theorem opr_imp {X : Cx} {f : Value → Value → Sem Value} {r r' : R2} (h : OpR X f r) (hi : ∀ x y H Q, r' x y H Q → r x y H Q) : OpR X f r' :=
  fun pins s σ H x y v u Q I rx ry hw => h pins s σ H x y v u Q I rx ry (hi x y H Q hw)
def rShl1 : R2 := fun x y H Q => ∃ k : Nat, x = .int 1 ∧ y = .int (k : Int) ∧ k ≤ 134217727 ∧ Q (.int ((2 ^ k : Nat) : Int)) H
theorem op_shl1 {X : Cx} : OpR X (binaryOp .LShift) rShl1 := opr_imp op_oneShl fun x y H Q ⟨k, h1, h2, h3, q⟩ => ⟨k, h1, h2, h3, by
  have e : ((2 ^ k : Nat) : Int) = 2 ^ k := by simp
  rw [← e]; exact q⟩
theorem x_shl1 {j : Int} {k : Nat} (hj : j = k) (hk : k ≤ 134217727) (h : Q (.int ((2 ^ k : Nat) : Int)) H) : rShl1 (.int 1) (.int j) H Q := ⟨k, rfl, by rw [hj], hk, h⟩
def rShrN : R2 := fun x y H Q => ∃ n k : Nat, x = .int n ∧ y = .int k ∧ Q (.int ((n / 2 ^ k : Nat) : Int)) H
def rShlN : R2 := fun x y H Q => ∃ n k : Nat, x = .int n ∧ y = .int k ∧ n < 2 ^ 64 ∧ k ≤ 1000000 ∧ Q (.int ((n * 2 ^ k : Nat) : Int)) H
def rXorN : R2 := fun x y H Q => ∃ n k : Nat, x = .int n ∧ y = .int k ∧ Q (.int ((n ^^^ k : Nat) : Int)) H
theorem op_shrN' {X : Cx} : OpR X (binaryOp .RShift) rShrN := opr_imp op_shr fun x y H Q ⟨n, k, h1, h2, q⟩ => ⟨n, k, h1, h2, by omega, by
  have e : ((n / 2 ^ k : Nat) : Int) = (n : Int) / 2 ^ (k : Int).toNat := by simp
  show Q (.int ((n : Int) / 2 ^ (k : Int).toNat)) H
  rw [← e]; exact q⟩
theorem op_shlN' {X : Cx} : OpR X (binaryOp .LShift) rShlN := opr_imp op_shl fun x y H Q ⟨n, k, h1, h2, h3, h4, q⟩ => ⟨n, k, h1, h2, ⟨by omega, by omega, by omega⟩, by
  have e : ((n * 2 ^ k : Nat) : Int) = (n : Int) * 2 ^ (k : Int).toNat := by simp
  show Q (.int ((n : Int) * 2 ^ (k : Int).toNat)) H
  rw [← e]; exact q⟩
theorem op_xorN {X : Cx} : OpR X (binaryOp .BitXor) rXorN := opr_imp op_xor fun x y H Q ⟨n, k, h1, h2, q⟩ => ⟨n, k, h1, h2, by
  show Q (.int (Builtin.bitXor n k)) H
  rw [Bits.bitXor_pp (Int.natCast_nonneg _) (Int.natCast_nonneg _)]; exact q⟩
theorem x_shrN {i j : Int} {n k : Nat} (hi : i = n) (hj : j = k) (h : Q (.int ((n / 2 ^ k : Nat) : Int)) H) : rShrN (.int i) (.int j) H Q := ⟨n, k, by rw [hi], by rw [hj], h⟩
theorem x_shlN {i j : Int} {n k : Nat} (hi : i = n) (hj : j = k) (hn : n < 2 ^ 64) (hk : k ≤ 1000000) (h : Q (.int ((n * 2 ^ k : Nat) : Int)) H) : rShlN (.int i) (.int j) H Q := ⟨n, k, by rw [hi], by rw [hj], hn, hk, h⟩
theorem x_xorN {i j : Int} {n k : Nat} (hi : i = n) (hj : j = k) (h : Q (.int ((n ^^^ k : Nat) : Int)) H) : rXorN (.int i) (.int j) H Q := ⟨n, k, by rw [hi], by rw [hj], h⟩
def rBits (Q : VK) : VK := fun x H1 => ∃ i, x = .int i ∧ Q (.int (Builtin.Int.intBits i : Nat)) H1
theorem e_bits : tBits ta σ H Q = ta σ H (rBits Q) := rfl
theorem x_bits {n : Nat} (h : Q (.int ((if n = 0 then 0 else n.log2 + 1 : Nat) : Int)) H) : rBits Q (.int (n : Int)) H := ⟨n, rfl, by
  have e : Builtin.Int.intBits (n : Int) = if n = 0 then 0 else n.log2 + 1 := by unfold Builtin.Int.intBits; simp
  rw [e]; exact h⟩
theorem two_pos {k : Nat} : (0 : Int) < ((2 ^ k : Nat) : Int) := by
  have := Nat.two_pow_pos k
  omega
theorem mod_two_lt {z : Int} {k : Nat} : ∃ r : Nat, r < 2 ^ k ∧ z % ((2 ^ k : Nat) : Int) = r := by
  have h0 := two_pos (k := k)
  have h1 := Int.emod_nonneg z (Int.ne_of_gt h0)
  have h2 := Int.emod_lt_of_pos z h0
  exact ⟨(z % ((2 ^ k : Nat) : Int)).toNat, by omega, by omega⟩
theorem div_two_cast {k : Nat} (z : Int) : z / 2 ^ (k : Int).toNat = z / ((2 ^ k : Nat) : Int) := by simp

/-! within a comprehension: the constants told -/
section
variable {X : Cx} {K : PySem.W.Frag}
theorem op_eqDK (hu : X.A.units + 64 < cLine) (h : X.K = K) : OpR X (compareOp .Eq) (rEqD K) := h ▸ op_eqD hu
theorem op_neDK (hu : X.A.units + 64 < cLine) (h : X.K = K) : OpR X (compareOp .NotEq) (rNeD K) := h ▸ op_neD hu
theorem op_inK (h : X.K = K) : OpR X (compareOp .In) (rIn K false) := h ▸ op_in_seq
theorem op_notInK (h : X.K = K) : OpR X (compareOp .NotIn) (rIn K true) := h ▸ op_notIn_seq
theorem sl_listK (h : X.K = K) : SlR X (rSlL K) := h ▸ sl_list
theorem ix_listK (h : X.K = K) : IxR X (rIxL K) := h ▸ ix_list
theorem ix_tupK (h : X.K = K) : IxR X (rIxT K) := h ▸ ix_tup
theorem cb_lenK (h : X.K = K) : CallR X (.builtin "len") (rLenS K) := h ▸ cb_len
theorem call_isiK (h : X.K = K) : CallR X (.builtin "isinstance") (rIsi K) := h ▸ call_isi
end
/-! the definitional ones as equations, for dsimp -/
section
variable {K : PySem.W.Frag} {σ : L2.St} {H : Hp} {ta tb te tc : TE} {t u : TS} {c c' : TT} {D : Ends} {Q : VK} {x y v : V} {o : Option V}
theorem e_seq : tSeq t u D σ H = t { D with nx := u D } σ H := rfl
theorem e_next : tNext D σ H = D.nx σ H := rfl
theorem e_asg {g : TG} : tAsg te g D σ H = te σ H fun x H1 => g x σ H1 D.nx := rfl
theorem e_name {i : Nat} {R : L2.St → Hp → Prop} : gName i v σ H R = R (σ.set i (some v)) H := rfl
theorem e_ret : tRet te D σ H = te σ H D.rt := rfl
theorem e_retN : tRetN D σ H = D.rt .non H := rfl
theorem e_drop : tDrop te D σ H = te σ H fun _ H1 => D.nx σ H1 := rfl
theorem e_ifS : tIfS c t u D σ H = c σ H fun b H1 => IfS b t u D σ H1 := rfl
theorem e_IT : IfS true t u D σ H = t D σ H := rfl
theorem e_IF : IfS false t u D σ H = u D σ H := rfl
theorem e_INT : IfS (!true) t u D σ H = u D σ H := rfl
theorem e_INF : IfS (!false) t u D σ H = t D σ H := rfl
theorem e_if {tt : TT} : tIf tt ta tb σ H Q = tt σ H fun b H1 => if b = true then ta σ H1 Q else tb σ H1 Q := rfl
theorem e_varS {i : Nat} : tVar (i + 1) (o :: σ) H Q = tVar i σ H Q := rfl
theorem e_c : tC v σ H Q = Q v H := rfl
theorem e_op {r : R2} : tOp r ta tb σ H Q = ta σ H fun x H1 => tb σ H1 fun y H2 => r x y H2 Q := rfl
theorem e_un {r : V → Hp → VK → Prop} : tUn r ta σ H Q = ta σ H fun x H1 => r x H1 Q := rfl
theorem e_cb {r : List V → Hp → VK → Prop} {ts : TA} : tCB r ts σ H Q = ts σ H fun vs H1 => r vs H1 Q := rfl
theorem e_nil {R : List V → Hp → Prop} : tNil σ H R = R [] H := rfl
theorem e_cons {ts : TA} {R : List V → Hp → Prop} : tCons ta ts σ H R = ta σ H fun x H1 => ts σ H1 fun xs H2 => R (x :: xs) H2 := rfl
theorem e_test {R : Bool → Hp → Prop} : tTest te σ H R = te σ H fun x H' => ∃ k, x = .bl k ∧ R k H' := rfl
theorem e_B {R : Bool → Hp → Prop} : tB te σ H R = te σ H fun x H' => ∃ k, x = .bl k ∧ R k H' := rfl
theorem e_and {R : Bool → Hp → Prop} : tAnd c c' σ H R = c σ H fun b H1 => if b = true then c' σ H1 R else R false H1 := rfl
theorem e_or {R : Bool → Hp → Prop} : tOr c c' σ H R = c σ H fun b H1 => if b = true then R true H1 else c' σ H1 R := rfl
theorem e_not {R : Bool → Hp → Prop} : tNot c σ H R = c σ H fun b H1 => R (!b) H1 := rfl
theorem e_andV : tAndV ta tb σ H Q = ta σ H fun x H1 => ∃ c, x = .bl c ∧ if c = true then tb σ H1 Q else Q (.bl false) H1 := rfl
theorem e_orV : tOrV ta tb σ H Q = ta σ H fun x H1 => ∃ c, x = .bl c ∧ if c = true then Q (.bl true) H1 else tb σ H1 Q := rfl
theorem e_notV : tNotV ta σ H Q = ta σ H fun x H1 => ∃ c, x = .bl c ∧ Q (.bl (!c)) H1 := rfl
theorem e_chain {r r' : R2} : tChain r r' ta tb tc σ H Q = ta σ H fun x H1 => tb σ H1 fun y H2 => r x y H2 fun z H3 => ∃ k, z = .bl k ∧ if k = true then tc σ H3 fun w H4 => r' y w H4 Q else Q (.bl false) H3 := rfl
theorem e_for {wi : TI} {g : TG} {tb : TS} : tFor wi g tb D σ H = wi σ H fun J H1 => ForW g tb D J σ H1 := rfl
theorem e_rng1 {ts : TA} {R : It → Hp → Prop} : iRng1 ts σ H R = ts σ H (Rg1 R) := rfl
theorem e_rng2 {ts : TA} {R : It → Hp → Prop} : iRng2 ts σ H R = ts σ H (Rg2 R) := rfl
theorem e_iList {R : It → Hp → Prop} : iList K ta σ H R = ta σ H (RiL K R) := rfl
theorem e_iTup {R : It → Hp → Prop} : iTup K ta σ H R = ta σ H (RiT K R) := rfl
theorem e_iEnum {ts : TA} {R : It → Hp → Prop} : iEnum K ts σ H R = ts σ H (RiE K R) := rfl
theorem e_iZip {ts : TA} {R : It → Hp → Prop} : iZip K ts σ H R = ts σ H (RiZ K R) := rfl
theorem e_bm {T : String} {r : V → List V → Hp → VK → Prop} {ts : TA} : tBM K T r ta ts σ H Q = ta σ H fun x H1 => tyV K T x H1 ∧ ts σ H1 fun xs H2 => r x xs H2 Q := rfl
theorem e_bm0 {T : String} {r : V → List V → Hp → VK → Prop} : tBM0 K T r ta σ H Q = ta σ H fun x H1 => tyV K T x H1 ∧ r x [] H1 Q := rfl
theorem e_tup {ts : TA} : tTup ts σ H Q = ts σ H fun xs H1 => xs.length ≤ sizeLine ∧ ∀ p, H1 p = none → Q (.ref p) (upd H1 p (.tup xs)) := rfl
theorem e_lst {ts : TA} : tLst ts σ H Q = ts σ H fun xs H1 => xs.length ≤ sizeLine ∧ ∀ p, H1 p = none → Q (.ref p) (upd H1 p (.lst xs)) := rfl
theorem e_calld {sp : Sp} {E : XK} {ds : List V} {ts : TA} : tCall sp ds E ts σ H Q = ts σ H fun vs H1 => sp (vs ++ ds) H1 Q E := rfl
theorem e_T {A B : Prop} : (if true = true then A else B) = A := rfl
theorem e_F {A B : Prop} : (if false = true then A else B) = B := rfl
theorem e_NT {A B : Prop} : (if (!true) = true then A else B) = B := rfl
theorem e_NF {A B : Prop} : (if (!false) = true then A else B) = A := rfl
theorem x_v0 (h : Q v H) : tVar 0 (some v :: σ) H Q := ⟨v, rfl, h⟩
end
/-! pairs that an iterator lays -/
def YPairE (xs ys : Nat → Option V) : Nat → Hp → V → Hp → Prop := fun i H v H' => ∃ T x y, v = .ref T ∧ H T = none ∧ Ex H H' ∧ H' T = some (.tup [x, y]) ∧ xs i = some x ∧ ys i = some y
theorem YPair.e {xs ys : Nat → Option V} {i : Nat} {H : Hp} {v : V} {H' : Hp} (h : YPair xs ys i H v H') : YPairE xs ys i H v H' := by
  obtain ⟨T, x, y, h1, h2, rfl, h4, h5⟩ := h
  exact ⟨T, x, y, h1, h2, Ex.new h2, upd_same, h4, h5⟩
theorem walk_enumE {K : PySem.W.Frag} {a : Addr} {xs : List V} : Walk (Ite K a) xs.length (fun H => SqL K H a xs) (YPairE (fun i => some (.int (i : Nat))) (fun i => xs[i]?)) :=
  walk_enum.mono (fun _ h => h) fun _ _ _ _ _ _ y => YPair.e y
theorem walk_zipE {K : PySem.W.Frag} {a b : Addr} {xs ys : List V} {n : Nat} (hn : n = min xs.length ys.length) : Walk (Itz K a b) n (fun H => SqL K H a xs ∧ SqL K H b ys) (YPairE (fun i => xs[i]?) (fun i => ys[i]?)) :=
  (walk_zip hn).mono (fun _ h => h) fun _ _ _ _ _ _ y => YPair.e y

/-! equality of lists of ints -/
abbrev nV (n : Nat) : V := .int (n : Int)
theorem eqv_ints : ∀ (xs ys : List Int), PyData.eqv (.list (xs.map PyData.int)) (.list (ys.map PyData.int)) = decide (xs = ys)
  | [], [] => rfl
  | [], _ :: _ => rfl
  | _ :: _, [] => rfl
  | x :: xs, y :: ys => by
    have ih := eqv_ints xs ys
    have e : PyData.eqv (.list ((x :: xs).map PyData.int)) (.list ((y :: ys).map PyData.int)) = (decide (x = y) && PyData.eqv (.list (xs.map PyData.int)) (.list (ys.map PyData.int))) := by
      show PyData.eqvAll _ _ = _
      rfl
    rw [e, ih]
    by_cases h : x = y <;> by_cases h2 : xs = ys <;> simp [h, h2]
theorem dpAll_ints {K : PySem.W.Frag} {H : Hp} : ∀ xs : List Int, DpAll K H (xs.map V.int) (xs.map PyData.int)
  | [] => .nil
  | x :: xs => .cons (.int x) (dpAll_ints xs)
theorem shaped_ints (xs : List Int) : SeqAt.shaped (.list (xs.map PyData.int)) = true := by
  induction xs with
  | nil => rfl
  | cons x xs ih =>
    exact ih
theorem eqv_bools : ∀ (xs ys : List Bool), PyData.eqv (.list (xs.map PyData.bool)) (.list (ys.map PyData.bool)) = decide (xs = ys)
  | [], [] => rfl
  | [], _ :: _ => rfl
  | _ :: _, [] => rfl
  | x :: xs, y :: ys => by
    have ih := eqv_bools xs ys
    have e : PyData.eqv (.list ((x :: xs).map PyData.bool)) (.list ((y :: ys).map PyData.bool)) = ((x == y) && PyData.eqv (.list (xs.map PyData.bool)) (.list (ys.map PyData.bool))) := by
      show PyData.eqvAll _ _ = _
      rfl
    rw [e, ih]
    by_cases h : x = y <;> by_cases h2 : xs = ys <;> simp [h, h2]
theorem dpAll_bools {K : PySem.W.Frag} {H : Hp} : ∀ xs : List Bool, DpAll K H (xs.map V.bl) (xs.map PyData.bool)
  | [] => .nil
  | x :: xs => .cons (.bl x) (dpAll_bools xs)
theorem shaped_bools (xs : List Bool) : SeqAt.shaped (.list (xs.map PyData.bool)) = true := by
  induction xs with
  | nil => rfl
  | cons x xs ih => exact ih
theorem x_eqLB {K : PySem.W.Frag} {H : Hp} {Q : VK} {a b : Addr} {xs ys : List Bool} (ha : SqL K H a (xs.map V.bl)) (hb : SqL K H b (ys.map V.bl)) (h : Q (.bl (decide (xs = ys))) H) : rEqD K (.ref a) (.ref b) H Q :=
  ⟨_, _, .lst ha (dpAll_bools xs), .lst hb (dpAll_bools ys), shaped_bools xs, shaped_bools ys, by rw [eqv_bools]; exact h⟩
theorem map_nV (xs : List Nat) : xs.map nV = (xs.map fun n : Nat => (n : Int)).map V.int := by rw [List.map_map]; rfl
theorem nat_inj {xs ys : List Nat} : (xs.map fun n : Nat => (n : Int)) = (ys.map fun n : Nat => (n : Int)) ↔ xs = ys :=
  ⟨fun h => List.map_inj_right (f := fun n : Nat => (n : Int)) (fun a b e => Int.ofNat.inj e) |>.mp h, fun h => by rw [h]⟩
section
variable {K : PySem.W.Frag} {H : Hp} {Q : VK}
theorem x_eqLI {a b : Addr} {xs ys : List Int} (ha : SqL K H a (xs.map V.int)) (hb : SqL K H b (ys.map V.int)) (h : Q (.bl (decide (xs = ys))) H) : rEqD K (.ref a) (.ref b) H Q :=
  ⟨_, _, .lst ha (dpAll_ints xs), .lst hb (dpAll_ints ys), shaped_ints xs, shaped_ints ys, by rw [eqv_ints]; exact h⟩
theorem x_neLI {a b : Addr} {xs ys : List Int} (ha : SqL K H a (xs.map V.int)) (hb : SqL K H b (ys.map V.int)) (h : Q (.bl (!decide (xs = ys))) H) : rNeD K (.ref a) (.ref b) H Q :=
  ⟨_, _, .lst ha (dpAll_ints xs), .lst hb (dpAll_ints ys), shaped_ints xs, shaped_ints ys, by rw [eqv_ints]; exact h⟩
theorem x_eqLN {a b : Addr} {xs ys : List Nat} (ha : SqL K H a (xs.map nV)) (hb : SqL K H b (ys.map nV)) (h : Q (.bl (decide (xs = ys))) H) : rEqD K (.ref a) (.ref b) H Q := by
  rw [map_nV] at ha hb
  refine x_eqLI ha hb ?_
  have e : decide ((xs.map fun n : Nat => (n : Int)) = (ys.map fun n : Nat => (n : Int))) = decide (xs = ys) := decide_eq_decide.mpr nat_inj
  rw [e]; exact h
theorem x_neLN {a b : Addr} {xs ys : List Nat} (ha : SqL K H a (xs.map nV)) (hb : SqL K H b (ys.map nV)) (h : Q (.bl (!decide (xs = ys))) H) : rNeD K (.ref a) (.ref b) H Q := by
  rw [map_nV] at ha hb
  refine x_neLI ha hb ?_
  have e : decide ((xs.map fun n : Nat => (n : Int)) = (ys.map fun n : Nat => (n : Int))) = decide (xs = ys) := decide_eq_decide.mpr nat_inj
  rw [e]; exact h
end

theorem nat_of {H : Hp} {Q : VK} {z : Int} (h : ∀ r : Nat, Q (.int r) H) (hz : 0 ≤ z) : Q (.int z) H := by
  obtain ⟨r, rfl⟩ := Int.eq_ofNat_of_zero_le hz
  exact h r
theorem atI_map {ns : List Int} {j : Nat} (h : j < ns.length) : atI (ns.map V.int) (j : Int) = some (.int ns[j]) := atI_nat (by simp [h])
theorem atI_nV {ns : List Nat} {j : Nat} (h : j < ns.length) : atI (ns.map nV) (j : Int) = some (nV ns[j]) := atI_nat (by simp [h])
theorem atI_neg1' {ns : List Nat} {j : Nat} (h : j < ns.length) : ∃ z, z ∈ ns ∧ atI (ns.map nV) ((j : Int) - 1) = some (nV z) := by
  unfold atI ixN
  by_cases hj : 0 ≤ (j : Int) - 1
  · rw [if_pos hj, if_pos (by simp; omega)]
    have h2 : ((j : Int) - 1).toNat < ns.length := by omega
    exact ⟨ns[((j : Int) - 1).toNat], List.getElem_mem h2, by
      show (ns.map nV)[_]? = _
      rw [List.getElem?_map, List.getElem?_eq_getElem h2]; rfl⟩
  · rw [if_neg hj, if_pos (by simp; omega)]
    have h2 : ((j : Int) - 1 + ((ns.map nV).length : Int)).toNat < ns.length := by simp; omega
    refine ⟨ns[((j : Int) - 1 + ((ns.map nV).length : Int)).toNat], List.getElem_mem h2, ?_⟩
    show (ns.map nV)[_]? = _
    rw [List.getElem?_map, List.getElem?_eq_getElem h2]; rfl
theorem atI_neg1 {ns : List Nat} {j : Nat} (h : j < ns.length) : ∃ z, atI (ns.map nV) ((j : Int) - 1) = some (nV z) := let ⟨z, _, e⟩ := atI_neg1' h; ⟨z, e⟩
/-! comprehensions over a list: one name, one test or none -/
def LcW (g : TG) (tt : TT) (te : TE) (vs : List Nat) (σ : L2.St) (Q : VK) : It → Hp → Prop := fun J H1 => ∀ D, H1 D = none → ∃ W : Nat → Nat → Hp → Prop, (∃ m, W 0 m (upd H1 D (.lst []))) ∧ ∀ i m H, W i m H →
  (J.stop i H ∧ Q (.ref D) H) ∨ (J.go i H ∧ ∃ Nx : Hp → Prop, (∀ H', Nx H' → ∃ m', m' < m ∧ W (i + 1) m' H') ∧ ∀ x H', J.yld i H x H' → g x (wipe σ vs) H' fun σ2 H2 => wipe σ2 vs = wipe σ vs ∧ tt σ2 H2 fun b H3 =>
    if b = true then te σ2 H3 fun y H4 => ∃ acc, H4 D = some (.lst acc) ∧ acc.length < sizeLine ∧ Nx (upd H4 D (.lst (acc ++ [y]))) else Nx H3)
theorem e_lc {wi : TI} {g : TG} {tt : TT} {te : TE} {vs : List Nat} {σ : L2.St} {H : Hp} {Q : VK} : tLc wi g tt te vs σ H Q = wi σ H (LcW g tt te vs σ Q) := rfl
theorem e_wipe0 {σ : L2.St} : wipe σ [] = σ := rfl
theorem e_wipe1 {σ : L2.St} {v : Nat} {vs : List Nat} : wipe σ (v :: vs) = (wipe σ vs).set v none := rfl
theorem e_yes {σ : L2.St} {H : Hp} {R : Bool → Hp → Prop} : tYes σ H R = R true H := rfl
theorem wipe_set1 {σ : L2.St} {i : Nat} {v : Option V} : wipe ((wipe σ [i]).set i v) [i] = wipe σ [i] := by
  show (((σ.set i none).set i v).set i none) = σ.set i none
  rw [List.set_set, List.set_set]
section
variable {K : PySem.W.Frag} {H : Hp} {Q : VK} {σ : L2.St} {tl te : TE} {tt : TT} {k : Nat}
/-- the list stands; test and element are reckoned of each item and change nothing that stood -/
theorem LcW.fmA {α : Type} {emb : α → V} {a : Addr} {xs : List α} (p : α → Bool) (f : α → V) (hS : SqL K H a (xs.map emb)) (hz : xs.length < sizeLine)
    (ht : ∀ x ∈ xs, ∀ H', Ex H H' → ∀ R : Bool → Hp → Prop, (∀ H'', Ex H' H'' → R (p x) H'') → tt ((wipe σ [k]).set k (some (emb x))) H' R)
    (he : ∀ x ∈ xs, p x = true → ∀ H', Ex H H' → ∀ Qe : VK, (∀ H'', Ex H' H'' → Qe (f x) H'') → te ((wipe σ [k]).set k (some (emb x))) H' Qe)
    (hk : ∀ D H', H D = none → Ex H H' → H' D = some (.lst ((xs.filter p).map f)) → Q (.ref D) H') :
    LcW (gName k) tt te [k] σ Q (Itl K a) H := by
  intro D hD
  refine lc_list (K := K) (a := a) (xs := xs.map emb) (Qd := fun H' => Q (.ref D) H') (fun i H' => Ex H H' ∧ H' D = some (.lst (((xs.take i).filter p).map f))) ⟨Ex.new hD, by rw [upd_same]; rfl⟩ (fun i H' _ h => h.1.ls hS) ?_ ?_
  · rintro i y H1 hx ⟨ex, h1⟩
    obtain ⟨x, hxi, rfl⟩ : ∃ x, xs[i]? = some x ∧ y = emb x := by
      rw [List.getElem?_map] at hx
      cases e : xs[i]? with
      | none => rw [e] at hx; cases hx
      | some x => rw [e] at hx; exact ⟨x, rfl, (Option.some.inj hx).symm⟩
    have hm : x ∈ xs := List.mem_of_getElem? hxi
    have et : xs.take (i + 1) = xs.take i ++ [x] := by rw [List.take_add_one, hxi]; rfl
    refine ⟨wipe_set1, ht x hm H1 ex _ fun H2 ex2 => ?_⟩
    cases hp : p x with
    | true =>
      refine iteT (he x hm hp H2 (ex.trans ex2) _ fun H3 ex3 => ⟨_, ex3.at (ex2.at h1), ?_, ?_, ?_⟩)
      · rw [List.length_map]
        exact Nat.lt_of_le_of_lt (Nat.le_trans (List.length_filter_le _ _) (List.length_take_le' _ _)) hz
      · exact ((ex.trans ex2).trans ex3).mut hD (ex3.at (ex2.at h1))
      · rw [upd_same, et, List.filter_append, List.map_append]
        simp [hp]
    | false =>
      refine iteF ⟨ex.trans ex2, ?_⟩
      rw [et, List.filter_append, List.map_append]
      simp [hp]
      simpa using ex2.at h1
  · rintro H1 ⟨ex, h1⟩
    rw [List.length_map, List.take_length] at h1
    exact hk D H1 hD ex h1
theorem LcW.fm {a : Addr} {xs : List V} (p : V → Bool) (f : V → V) (hS : SqL K H a xs) (hz : xs.length < sizeLine)
    (ht : ∀ x ∈ xs, ∀ H', Ex H H' → ∀ R : Bool → Hp → Prop, (∀ H'', Ex H' H'' → R (p x) H'') → tt ((wipe σ [k]).set k (some x)) H' R)
    (he : ∀ x ∈ xs, p x = true → ∀ H', Ex H H' → ∀ Qe : VK, (∀ H'', Ex H' H'' → Qe (f x) H'') → te ((wipe σ [k]).set k (some x)) H' Qe)
    (hk : ∀ D H', H D = none → Ex H H' → H' D = some (.lst ((xs.filter p).map f)) → Q (.ref D) H') :
    LcW (gName k) tt te [k] σ Q (Itl K a) H := LcW.fmA (emb := id) p f (by rw [List.map_id]; exact hS) hz ht he hk
/-- over whatever walks; item, test and element are reckoned and change nothing that stood -/
theorem LcW.fmW {J : It} {n : Nat} {G : Hp → Prop} {Y : Nat → Hp → V → Hp → Prop} (w : Walk J n G Y) (hz : n < sizeLine) (g : Nat → V) (p : Nat → Bool) (f : Nat → V) (hG : ∀ H', Ex H H' → G H') (hY : ∀ i H1 x H2, i < n → Y i H1 x H2 → x = g i ∧ Ex H1 H2)
    (ht : ∀ i, i < n → ∀ H', Ex H H' → ∀ R : Bool → Hp → Prop, (∀ H'', Ex H' H'' → R (p i) H'') → tt ((wipe σ [k]).set k (some (g i))) H' R)
    (he : ∀ i, i < n → p i = true → ∀ H', Ex H H' → ∀ Qe : VK, (∀ H'', Ex H' H'' → Qe (f i) H'') → te ((wipe σ [k]).set k (some (g i))) H' Qe)
    (hk : ∀ D H', H D = none → Ex H H' → H' D = some (.lst (((List.range n).filter p).map f)) → Q (.ref D) H') : LcW (gName k) tt te [k] σ Q J H := by
  intro D hD
  refine lc_it w (Qd := fun H' => Q (.ref D) H') (fun i H' => Ex H H' ∧ H' D = some (.lst (((List.range i).filter p).map f))) ⟨Ex.new hD, by rw [upd_same]; rfl⟩ (fun i H' _ h => hG H' h.1) ?_ ?_
  · rintro i x H1 H2 hi ⟨ex, h1⟩ y
    obtain ⟨rfl, ex12⟩ := hY i H1 x H2 hi y
    have ex2 := ex.trans ex12
    have h2 := ex12.at h1
    refine ⟨wipe_set1, ht i hi H2 ex2 _ fun H3 ex3 => ?_⟩
    have h3 := ex3.at h2
    have ex03 := ex2.trans ex3
    cases hp : p i with
    | true =>
      refine iteT (he i hi hp H3 ex03 _ fun H4 ex4 => ⟨_, ex4.at h3, ?_, (ex03.trans ex4).mut hD (ex4.at h3), ?_⟩)
      · rw [List.length_map]
        exact Nat.lt_of_le_of_lt (Nat.le_trans (List.length_filter_le _ _) (by rw [List.length_range]; omega)) hz
      · rw [upd_same, List.range_succ, List.filter_append, List.map_append]
        simp [hp]
    | false =>
      refine iteF ⟨ex03, ?_⟩
      rw [List.range_succ, List.filter_append, List.map_append]
      simp [hp]
      simpa using h3
  · rintro H1 ⟨ex, h1⟩
    exact hk D H1 hD ex h1
/-- over range(n) -/
theorem LcW.rng {n : Nat} (hz : n < sizeLine) (p : Nat → Bool) (f : Nat → V)
    (ht : ∀ i, i < n → ∀ H', Ex H H' → ∀ R : Bool → Hp → Prop, (∀ H'', Ex H' H'' → R (p i) H'') → tt ((wipe σ [k]).set k (some (nV i))) H' R)
    (he : ∀ i, i < n → p i = true → ∀ H', Ex H H' → ∀ Qe : VK, (∀ H'', Ex H' H'' → Qe (f i) H'') → te ((wipe σ [k]).set k (some (nV i))) H' Qe)
    (hk : ∀ D H', H D = none → Ex H H' → H' D = some (.lst (((List.range n).filter p).map f)) → Q (.ref D) H') : LcW (gName k) tt te [k] σ Q (Itr 0 n) H :=
  LcW.fmW walk_rgN hz nV p f (fun _ _ => trivial) (fun i H1 x H2 _ y => ⟨y.2, by rw [y.1]; exact Ex.refl⟩) ht he hk
/-- a plain map -/
theorem LcW.map {α : Type} {emb : α → V} {a : Addr} {xs : List α} (f : α → V) (hS : SqL K H a (xs.map emb)) (hz : xs.length < sizeLine)
    (he : ∀ x ∈ xs, ∀ H', Ex H H' → ∀ Qe : VK, (∀ H'', Ex H' H'' → Qe (f x) H'') → te ((wipe σ [k]).set k (some (emb x))) H' Qe)
    (hk : ∀ D H', H D = none → Ex H H' → H' D = some (.lst (xs.map f)) → Q (.ref D) H') :
    LcW (gName k) tYes te [k] σ Q (Itl K a) H :=
  LcW.fmA (fun _ => true) f hS hz (fun _ _ _ _ _ h => h _ Ex.refl) (fun x hx _ H' e Qe h => he x hx H' e Qe h) fun D H' h1 h2 h3 => hk D H' h1 h2 (by rw [h3, List.filter_eq_self.mpr fun _ _ => rfl])
/-- a plain filter -/
theorem LcW.filt {α : Type} {emb : α → V} {a : Addr} {xs : List α} (p : α → Bool) (hS : SqL K H a (xs.map emb)) (hz : xs.length < sizeLine)
    (ht : ∀ x ∈ xs, ∀ H', Ex H H' → ∀ R : Bool → Hp → Prop, (∀ H'', Ex H' H'' → R (p x) H'') → tt ((wipe σ [k]).set k (some (emb x))) H' R)
    (he : ∀ x ∈ xs, p x = true → ∀ H', Ex H H' → ∀ Qe : VK, Qe (emb x) H' → te ((wipe σ [k]).set k (some (emb x))) H' Qe)
    (hk : ∀ D H', H D = none → Ex H H' → H' D = some (.lst ((xs.filter p).map emb)) → Q (.ref D) H') :
    LcW (gName k) tt te [k] σ Q (Itl K a) H :=
  LcW.fmA p emb hS hz ht (fun x hx hp H' e Qe h => he x hx hp H' e Qe (h H' Ex.refl)) hk
end

theorem lt_ok {xs : List V} (h : decide (xs.length ≤ 1000) = true) : xs.length < sizeLine := Nat.lt_of_le_of_lt (of_decide_eq_true h) (by decide)
theorem len_ok {xs : List V} (h : decide (xs.length ≤ 1000) = true) : xs.length ≤ sizeLine := Nat.le_trans (of_decide_eq_true h) (by decide)
/-! dicts -/
abbrev nK (n : Nat) : Key := .inl (n : Int)
theorem nK_inj {a b : Nat} (h : nK a = nK b) : a = b := Int.ofNat.inj (Sum.inl.inj h)
def RDg (Q : VK) : V → V → Hp → Prop := fun x y H2 => ∃ a v, x = .ref a ∧ DGet H2 a y (some v) ∧ Q v H2
def RDi (Q : VK) : V → V → Hp → Prop := fun x y H2 => ∃ a o, x = .ref a ∧ DGet H2 a y o ∧ Q (.bl o.isSome) H2
def RDn (Q : VK) : V → V → Hp → Prop := fun x y H2 => ∃ a o, x = .ref a ∧ DGet H2 a y o ∧ Q (.bl (!o.isSome)) H2
def RDp (R : Hp → Prop) : V → V → V → Hp → Prop := fun x y v H3 => ∃ a H4, x = .ref a ∧ DPut H3 a y v H4 ∧ R H4
def RDN (Q : VK) : Hp → Prop := fun H => ∀ p, H p = none → Q (.ref p) (upd H p (.dK []))
section
variable {K : PySem.W.Frag} {σ : L2.St} {H : Hp} {td ty tv tx : TE} {D : Ends} {Q : VK}
theorem e_dget : tDGet td ty σ H Q = td σ H fun x H1 => ty σ H1 fun y H2 => RDg Q x y H2 := rfl
theorem e_din : tDIn ty td σ H Q = ty σ H fun y H1 => td σ H1 fun x H2 => RDi Q x y H2 := rfl
theorem e_dnin : tDNotIn ty td σ H Q = ty σ H fun y H1 => td σ H1 fun x H2 => RDn Q x y H2 := rfl
theorem e_dput : sDPut td ty tv D σ H = tv σ H fun v H1 => td σ H1 fun x H2 => ty σ H2 fun y H3 => RDp (D.nx σ) x y v H3 := rfl
theorem e_dnew : tDNewK σ H Q = RDN Q H := rfl
theorem x_dget {a : Addr} {kvs : List (Key × V)} {i : Int} {v : V} (h : H a = some (.dK kvs)) (e : valV kvs (.inl i) = some v) (k : Q v H) : RDg Q (.ref a) (.int i) H := ⟨a, v, rfl, .inl ⟨kvs, .inl i, .inl h, rfl, e.symm⟩, k⟩
theorem x_din {a : Addr} {kvs : List (Key × V)} {i : Int} (h : H a = some (.dK kvs)) (k : Q (.bl (valV kvs (.inl i)).isSome) H) : RDi Q (.ref a) (.int i) H := ⟨a, _, rfl, .inl ⟨kvs, .inl i, .inl h, rfl, rfl⟩, k⟩
theorem x_dnin {a : Addr} {kvs : List (Key × V)} {i : Int} (h : H a = some (.dK kvs)) (k : Q (.bl (!(valV kvs (.inl i)).isSome)) H) : RDn Q (.ref a) (.int i) H := ⟨a, _, rfl, .inl ⟨kvs, .inl i, .inl h, rfl, rfl⟩, k⟩
theorem x_dput {R : Hp → Prop} {a : Addr} {kvs : List (Key × V)} {i : Int} {v : V} (h : H a = some (.dK kvs)) (hz : kvs.length < sizeLine) (k : R (upd H a (.dK (putK kvs (.inl i) v)))) : RDp R (.ref a) (.int i) v H := ⟨a, _, rfl, .inl ⟨kvs, .inl i, h, rfl, hz, rfl⟩, k⟩
theorem x_dnew (h : ∀ p, H p = none → Q (.ref p) (upd H p (.dK []))) : RDN Q H := h
end
/-- sorted(d), d's keys ints, fewer than 64 -/
def rSortDI : List V → Hp → VK → Prop := fun xs H Q => ∃ (a : Addr) (kvs : List (Key × V)) (ks : List Int), xs = [.ref a] ∧ Rd H a (.dK kvs) ∧ kvs.map (·.1) = ks.map Sum.inl ∧ ks.length < 64 ∧
    ∀ (ys : List Int) (p : Addr), ys.Perm ks → ys.Pairwise (· ≤ ·) → H p = none → Q (.ref p) (upd H p (.lst (ys.map V.int)))
theorem cb_sortD {X : Cx} (hc : X.calm = true) : CallR X (.builtin "sorted") rSortDI := call_sortedDI hc

/-! objects: fields, methods -/
def RFld (K : PySem.W.Frag) (f : Str) (Q : VK) : VK := fun x H1 => ∃ a C dx fs v, x = .ref a ∧ H1 a = some (.ins C dx fs) ∧ Cls K C ∧ NoAttr K C f ∧ fs.lookup f = some v ∧ Q v H1
def RSf (K : PySem.W.Frag) (f : Str) (y : V) (R : Hp → Prop) : VK := fun x H2 => ∃ a C dx fs, x = .ref a ∧ H2 a = some (.ins C dx fs) ∧ Cls K C ∧ NoAttr K C f ∧ fs.length < 1000 ∧ R (upd H2 a (.ins C dx (putF f y fs)))
def RMt (C : Addr) (m : Str) (sp : Sp) (dvs : List V) (E : XK) (t : TA) (σ : L2.St) (Q : VK) : VK := fun x H1 => ∃ a dx fs, x = .ref a ∧ H1 a = some (.ins C dx fs) ∧ fs.lookup m = none ∧ t σ H1 fun vs H2 => sp (x :: (vs ++ dvs)) H2 Q E
section
variable {K : PySem.W.Frag} {σ : L2.St} {H : Hp} {ta tv : TE} {D : Ends} {Q : VK} {v y : V} {f m : Str} {a C dx : Addr} {fs : List (Str × V)} {sp : Sp} {dvs : List V} {E : XK} {t : TA}
theorem e_fld : tFld K ta f σ H Q = ta σ H (RFld K f Q) := rfl
theorem e_sfld : sFld K ta tv f D σ H = tv σ H fun y H1 => ta σ H1 (RSf K f y (D.nx σ)) := rfl
theorem e_meth : tMeth C m sp dvs E ta t σ H Q = ta σ H (RMt C m sp dvs E t σ Q) := rfl
theorem x_fld (h : H a = some (.ins C dx fs)) (c : Cls K C) (n : NoAttr K C f) (l : fs.lookup f = some v) (k : Q v H) : RFld K f Q (.ref a) H := ⟨a, C, dx, fs, v, rfl, h, c, n, l, k⟩
theorem x_sfld {R : Hp → Prop} {fs' : List (Str × V)} (h : H a = some (.ins C dx fs)) (c : Cls K C) (n : NoAttr K C f) (e : putF f y fs = fs') (hz : decide (fs.length < 1000) = true) (k : R (upd H a (.ins C dx fs'))) : RSf K f y R (.ref a) H := ⟨a, C, dx, fs, rfl, h, c, n, of_decide_eq_true hz, by rw [e]; exact k⟩
theorem x_meth (h : H a = some (.ins C dx fs)) (l : fs.lookup m = none) (k : t σ H fun vs H2 => sp (.ref a :: (vs ++ dvs)) H2 Q E) : RMt C m sp dvs E t σ Q (.ref a) H := ⟨a, dx, fs, rfl, h, l, k⟩
end
/-! slices -/
section
variable {K : PySem.W.Frag} {σ : L2.St} {H : Hp} {ta : TE} {tl th : TO} {Q : VK} {R : Option Int → Hp → Prop}
theorem e_sl {r : V → Option Int → Option Int → Hp → VK → Prop} : tSl r ta tl th σ H Q = ta σ H fun x H1 => tl σ H1 fun l H2 => th σ H2 fun u H3 => r x l u H3 Q := rfl
theorem e_nopart : tNoPart σ H R = R none H := rfl
def RPt (R : Option Int → Hp → Prop) : VK := fun x H1 => ∃ i, x = .int i ∧ R (some i) H1
theorem e_part : tPart ta σ H R = ta σ H (RPt R) := rfl
theorem x_part {i : Int} (h : R (some i) H) : RPt R (.int i) H := ⟨i, rfl, h⟩
theorem x_slL {p : Addr} {xs : List V} {lo hi : Option Int} (hS : SqL K H p xs) (h : ∀ q, H q = none → Q (.ref q) (upd H q (.lst (cutV xs lo hi)))) : rSlL K (.ref p) lo hi H Q := ⟨p, xs, rfl, hS, h⟩
theorem cut_take {xs : List V} {k : Nat} : cutV xs none (some (k : Int)) = xs.take k := by
  unfold cutV
  rw [HT.sIx_none, HT.sIx_nat, List.drop_zero, Nat.sub_zero]
  by_cases h : k ≤ xs.length
  · rw [Nat.min_eq_left h]
  · rw [Nat.min_eq_right (by omega), List.take_of_length_le (Nat.le_refl _), List.take_of_length_le (i := k) (by omega)]
theorem cut_drop {xs : List V} {k : Nat} : cutV xs (some (k : Int)) none = xs.drop k := by
  unfold cutV
  rw [HT.sIx_none, HT.sIx_nat]
  by_cases h : k ≤ xs.length
  · rw [Nat.min_eq_left h, List.take_of_length_le (by rw [List.length_drop]; omega)]
  · rw [Nat.min_eq_right (by omega), List.drop_of_length_le (Nat.le_refl _), List.drop_of_length_le (by omega), List.take_nil]
end
/-! members, methods of lists of names -/
theorem inV_nat {n : Nat} : ∀ {ns : List Nat}, inV (nV n) (ns.map nV) = decide (n ∈ ns)
  | [] => rfl
  | m :: r => by
    have ih := inV_nat (n := n) (ns := r)
    unfold inV at ih ⊢
    rw [List.map_cons, List.any_cons, ih]
    show (((m : Int) == (n : Int)) || decide (n ∈ r)) = _
    by_cases e : m = n
    · simp [e]
    · have e' : ¬ (m : Int) = n := fun z => e (Int.ofNat.inj z)
      simp [e', Ne.symm e]
theorem flat_nat (ns : List Nat) : (ns.map nV).all flatV = true := by
  rw [List.all_eq_true]
  intro x hx
  obtain ⟨n, _, rfl⟩ := List.mem_map.mp hx
  rfl
section
variable {K : PySem.W.Frag} {H : Hp} {Q : VK}
theorem x_inN {i : Int} {n : Nat} {p : Addr} {ns : List Nat} (hi : i = n) (hS : SqL K H p (ns.map nV)) (h : Q (.bl (decide (n ∈ ns))) H) : rIn K false (.int i) (.ref p) H Q := by
  subst hi; exact ⟨p, _, rfl, .inl hS, rfl, flat_nat ns, by rw [inV_nat]; exact h⟩
theorem x_ninN {i : Int} {n : Nat} {p : Addr} {ns : List Nat} (hi : i = n) (hS : SqL K H p (ns.map nV)) (h : Q (.bl (!decide (n ∈ ns))) H) : rIn K true (.int i) (.ref p) H Q := by
  subst hi; exact ⟨p, _, rfl, .inl hS, rfl, flat_nat ns, by rw [inV_nat]; exact h⟩
theorem erase_first {n : Nat} : ∀ {ns : List Nat}, n ∈ ns → ∃ j : Nat, (ns.map fun n : Nat => (n : Int))[j]? = some (n : Int) ∧ (∀ m : Nat, m < j → (ns.map fun n : Nat => (n : Int))[m]? ≠ some (n : Int)) ∧ ns.eraseIdx j = ns.erase n
  | [], h => by cases h
  | m :: r, h => by
    by_cases e : m = n
    · refine ⟨0, by simp [e], fun m h => absurd h (Nat.not_lt_zero _), by simp [e]⟩
    · have hr : n ∈ r := by
        rcases List.mem_cons.mp h with z | z
        · exact absurd z.symm e
        · exact z
      obtain ⟨j, h1, h2, h3⟩ := erase_first hr
      refine ⟨j + 1, by simpa using h1, fun k hk => ?_, ?_⟩
      · cases k with
        | zero =>
          intro z
          have z : some ((m : Nat) : Int) = some (n : Int) := z
          exact e (Int.ofNat.inj (Option.some.inj z))
        | succ k => exact h2 k (by omega)
      · rw [List.eraseIdx_cons_succ, h3, List.erase_cons_tail (by simpa using e)]
theorem eraseIdx_mapV {α β : Type} (f : α → β) : ∀ (xs : List α) (j : Nat), (xs.map f).eraseIdx j = (xs.eraseIdx j).map f
  | [], _ => rfl
  | _ :: _, 0 => rfl
  | x :: r, j + 1 => by
    show f x :: (r.map f).eraseIdx j = f x :: (r.eraseIdx j).map f
    rw [eraseIdx_mapV f r j]
theorem x_remove {i : Int} {n : Nat} {l : Addr} {ns : List Nat} (hi : i = n) (hl : H l = some (.lst (ns.map nV))) (hn : n ∈ ns) (h : Q .non (upd H l (.lst ((ns.erase n).map nV)))) : rRemI (.ref l) [.int i] H Q := by
  subst hi
  obtain ⟨j, h1, h2, h3⟩ := erase_first hn
  refine ⟨l, ns.map fun n : Nat => (n : Int), n, j, rfl, rfl, by rw [← map_nV]; exact hl, h1, h2, ?_⟩
  have e : ((ns.map fun n : Nat => (n : Int)).eraseIdx j).map V.int = (ns.erase n).map nV := by
    rw [eraseIdx_mapV, h3, ← map_nV]
  rw [e]; exact h
theorem x_pop0 {l : Addr} {x : V} {xs : List V} (hl : H l = some (.lst (x :: xs))) (h : Q x (upd H l (.lst xs))) : rPopAt (.ref l) [.int 0] H Q :=
  ⟨l, x :: xs, 0, 0, x, rfl, rfl, hl, by decide, by decide, by unfold seqIndex?; simp, rfl, h⟩
end

/-! len(set(names)), [:-1] -/
def RLs (K : PySem.W.Frag) (Q : VK) : VK := fun x H1 => ∃ (l : Addr) (ns : List Int), x = .ref l ∧ SqL K H1 l (ns.map V.int) ∧ ns.Nodup ∧ ns.length ≤ 4000 ∧ Q (.int (ns.length : Nat)) H1
theorem e_lenSet {K : PySem.W.Frag} {σ : L2.St} {H : Hp} {ta : TE} {Q : VK} : RZ.tLenSetI K ta σ H Q = ta σ H (RLs K Q) := rfl
theorem x_lenSet {K : PySem.W.Frag} {H : Hp} {Q : VK} {a : Addr} {ns : List Nat} (hS : SqL K H a (ns.map nV)) (nd : ns.Nodup) (hz : ns.length ≤ 4000) (h : Q (.int (ns.length : Nat)) H) : RLs K Q (.ref a) H :=
  ⟨a, ns.map fun n : Nat => (n : Int), rfl, by rw [← map_nV]; exact hS, List.Pairwise.map _ (fun a b h e => h (Int.ofNat.inj e)) nd, by rw [List.length_map]; exact hz, by rw [List.length_map]; exact h⟩
theorem cut_init {xs : List V} : cutV xs none (some (-1)) = xs.dropLast := by
  unfold cutV
  rw [HT.sIx_none, List.drop_zero, Nat.sub_zero]
  have e : HT.sIx xs.length xs.length (some (-1)) = xs.length - 1 := by
    unfold HT.sIx
    simp
    omega
  rw [e, List.dropLast_eq_take]
theorem x_truB {K : PySem.W.Frag} {H : Hp} {R : Bool → Prop} {b : Bool} (h : R b) : ∃ k, TruV K (.bl b) H k ∧ R k := ⟨b, rfl, h⟩
/-! dicts that are locked while they are walked -/
def LockD (D : Ends) (d : Addr) (od : Obj) (u : HO) : Ends := ⟨fun σ' H' => H' d = some (.frz od u) ∧ D.nx σ' (upd H' d u), fun v H' => H' d = some (.frz od u) ∧ D.rt v (upd H' d u), fun σ' H' => H' d = some (.frz od u) ∧ D.bk σ' (upd H' d u), fun σ' H' => H' d = some (.frz od u) ∧ D.ct σ' (upd H' d u)⟩
theorem x_lock {t : TS} {D : Ends} {σ : L2.St} {H : Hp} {d : Addr} {kvs : List (Key × V)} (h : H d = some (.dK kvs)) (k : ∀ od, t (LockD D d od (.dK kvs)) σ (upd H d (.frz od (.dK kvs)))) : tLock t D σ H := ⟨d, .dK kvs, h, trivial, k⟩
def RiK (R : It → Hp → Prop) : VK := fun x H1 => ∃ d o, x = .ref d ∧ ((∃ kvs, H1 d = some (.frz o (.dK kvs)) ∧ R (Itk d o kvs) H1) ∨ ∃ kvs, H1 d = some (.frz o (.dT kvs)) ∧ R (Itkt d o kvs) H1)
theorem e_keys {td : TE} {σ : L2.St} {H : Hp} {R : It → Hp → Prop} : iKeys td σ H R = td σ H (RiK R) := rfl
theorem x_itK {H : Hp} {R : It → Hp → Prop} {d : Addr} {o : Obj} {kvs : List (Key × V)} (h : H d = some (.frz o (.dK kvs))) (k : R (Itk d o kvs) H) : RiK R (.ref d) H := ⟨d, o, rfl, .inl ⟨kvs, h, k⟩⟩
theorem Fr.less {S : Addr → Prop} {H H1 : Hp} (f : Fr S H H1) (h : ∀ a, S a → H1 a = H a) : Ex H H1 :=
  ⟨fun a o e n _ => by
    by_cases s : S a
    · rw [h a s]; exact e
    · exact f.keep a o e n s, f.tab, f.back⟩
theorem Ex.unlock {H H' : Hp} {d : Addr} {od : Obj} {kvs : List (Key × V)} (h : H d = some (.dK kvs)) (e : Ex (upd H d (.frz od (.dK kvs))) H') : Ex H (upd H' d (.dK kvs)) :=
  (((Fr.upd1 (o := .frz od (.dK kvs)) h).trans (e.fr (S := fun a => a = d))).trans (Fr.upd1 (o := .dK kvs) (e.at upd_same))).less fun a z => by rw [z, upd_same, h]
theorem Rd.fr {S : Addr → Prop} {H H' : Hp} {a : Addr} {kvs : List (Key × V)} (h : Rd H a (.dK kvs)) (f : Fr S H H') (s : ¬ S a) : Rd H' a (.dK kvs) := by
  rcases h with h | ⟨o, h⟩
  · exact .inl (f.at h s)
  · exact .inr ⟨o, f.at h s⟩
section
variable {H : Hp} {Q : VK} {a : Addr} {kvs : List (Key × V)} {i : Int} {z : Str} {v : V}
theorem x_dgetR (h : Rd H a (.dK kvs)) (e : valV kvs (.inl i) = some v) (k : Q v H) : RDg Q (.ref a) (.int i) H := ⟨a, v, rfl, .inl ⟨kvs, .inl i, h, rfl, e.symm⟩, k⟩
theorem x_dgetS (h : Rd H a (.dK kvs)) (e : valV kvs (.inr z) = some v) (k : Q v H) : RDg Q (.ref a) (.str z) H := ⟨a, v, rfl, .inl ⟨kvs, .inr z, h, rfl, e.symm⟩, k⟩
theorem x_dinR (h : Rd H a (.dK kvs)) (k : Q (.bl (valV kvs (.inl i)).isSome) H) : RDi Q (.ref a) (.int i) H := ⟨a, _, rfl, .inl ⟨kvs, .inl i, h, rfl, rfl⟩, k⟩
theorem x_dninR (h : Rd H a (.dK kvs)) (k : Q (.bl (!(valV kvs (.inl i)).isSome)) H) : RDn Q (.ref a) (.int i) H := ⟨a, _, rfl, .inl ⟨kvs, .inl i, h, rfl, rfl⟩, k⟩
end
def RDG2 (ty tx : TE) (σ : L2.St) (Q : VK) : VK := fun x H1 => ∃ a, x = .ref a ∧ IsD H1 a ∧ ty σ H1 fun y H2 => tx σ H2 fun z H3 => ∃ o, DGet H3 a y o ∧ Q (o.getD z) H3
def RG2 (a : Addr) (Q : VK) : V → V → Hp → Prop := fun y z H3 => ∃ o, DGet H3 a y o ∧ Q (o.getD z) H3
theorem e_dget2 {td ty tx : TE} {σ : L2.St} {H : Hp} {Q : VK} : tDGet2 td ty tx σ H Q = td σ H (RDG2 ty tx σ Q) := rfl
theorem x_dget2 {ty tx : TE} {σ : L2.St} {H : Hp} {Q : VK} {a : Addr} {kvs : List (Key × V)} (h : H a = some (.dK kvs)) (k : ty σ H fun y H2 => tx σ H2 fun z H3 => RG2 a Q y z H3) : RDG2 ty tx σ Q (.ref a) H := ⟨a, rfl, .inl ⟨kvs, .inl h⟩, k⟩
theorem x_g2 {H : Hp} {Q : VK} {a : Addr} {kvs : List (Key × V)} {i : Int} {z : V} (h : H a = some (.dK kvs)) (k : Q ((valV kvs (.inl i)).getD z) H) : RG2 a Q (.int i) z H := ⟨_, .inl ⟨kvs, .inl i, .inl h, rfl, rfl⟩, k⟩
def RDP1 (ty : TE) (σ : L2.St) (Q : VK) : VK := fun x H1 => ∃ a, x = .ref a ∧ IsD H1 a ∧ ty σ H1 fun y H2 => ∃ kvs k v, H2 a = some (.dK kvs) ∧ y = kV k ∧ valV kvs k = some v ∧ Q v (upd H2 a (.dK (dropK kvs k)))
def RP1 (a : Addr) (Q : VK) : VK := fun y H2 => ∃ kvs k v, H2 a = some (.dK kvs) ∧ y = kV k ∧ valV kvs k = some v ∧ Q v (upd H2 a (.dK (dropK kvs k)))
theorem e_dpop1 {td ty : TE} {σ : L2.St} {H : Hp} {Q : VK} : tDPop1 td ty σ H Q = td σ H (RDP1 ty σ Q) := rfl
theorem x_dpop1 {ty : TE} {σ : L2.St} {H : Hp} {Q : VK} {a : Addr} {kvs : List (Key × V)} (h : H a = some (.dK kvs)) (k : ty σ H (RP1 a Q)) : RDP1 ty σ Q (.ref a) H := ⟨a, rfl, .inl ⟨kvs, .inl h⟩, k⟩
theorem x_p1 {H : Hp} {Q : VK} {a : Addr} {kvs : List (Key × V)} {i : Int} {v : V} (h : H a = some (.dK kvs)) (e : valV kvs (.inl i) = some v) (k : Q v (upd H a (.dK (dropK kvs (.inl i))))) : RP1 a Q (.int i) H := ⟨kvs, .inl i, v, h, rfl, e, k⟩
def RDP2 (ty tx : TE) (σ : L2.St) (Q : VK) : VK := fun x H1 => ∃ a, x = .ref a ∧ IsD H1 a ∧ ty σ H1 fun y H2 => tx σ H2 fun z H3 => ∃ kvs k, H3 a = some (.dK kvs) ∧ y = kV k ∧ (∀ v, valV kvs k = some v → Q v (upd H3 a (.dK (dropK kvs k)))) ∧ (valV kvs k = none → Q z H3)
def RP2 (a : Addr) (Q : VK) : V → V → Hp → Prop := fun y z H3 => ∃ kvs k, H3 a = some (.dK kvs) ∧ y = kV k ∧ (∀ v, valV kvs k = some v → Q v (upd H3 a (.dK (dropK kvs k)))) ∧ (valV kvs k = none → Q z H3)
theorem e_dpop2 {td ty tx : TE} {σ : L2.St} {H : Hp} {Q : VK} : tDPop2 td ty tx σ H Q = td σ H (RDP2 ty tx σ Q) := rfl
theorem x_dpop2 {ty tx : TE} {σ : L2.St} {H : Hp} {Q : VK} {a : Addr} {kvs : List (Key × V)} (h : H a = some (.dK kvs)) (k : ty σ H fun y H2 => tx σ H2 fun z H3 => RP2 a Q y z H3) : RDP2 ty tx σ Q (.ref a) H := ⟨a, rfl, .inl ⟨kvs, .inl h⟩, k⟩
theorem x_p2 {H : Hp} {Q : VK} {a : Addr} {kvs : List (Key × V)} {i : Int} {z : V} (h : H a = some (.dK kvs)) (k1 : ∀ v, valV kvs (.inl i) = some v → Q v (upd H a (.dK (dropK kvs (.inl i))))) (k2 : valV kvs (.inl i) = none → Q z H) : RP2 a Q (.int i) z H := ⟨kvs, .inl i, h, rfl, k1, k2⟩
def rListD : List V → Hp → VK → Prop := fun xs H Q => ∃ (a : Addr) (kvs : List (Key × V)), xs = [.ref a] ∧ Rd H a (.dK kvs) ∧ ∀ p, H p = none → Q (.ref p) (upd H p (.lst (kvs.map fun kv => kV kv.1)))
theorem cb_listD {X : Cx} (hc : X.calm = true) : CallR X (.type "list") rListD := call_listD hc
/-! is None, is not None -/
def rIsNn : R2 := fun x y H Q => y = .non ∧ Q (.bl (decide (x = .non))) H
def rNotNn : R2 := fun x y H Q => y = .non ∧ Q (.bl (!decide (x = .non))) H
theorem op_isNn {X : Cx} : OpR X (compareOp .Is) rIsNn := op_isN
theorem op_notNn {X : Cx} : OpR X (compareOp .IsNot) rNotNn := op_notN
section
variable {H : Hp} {Q : VK} {i : Int} {b : Bool} {z : Str} {a : Addr}
theorem x_isNN (h : Q (.bl true) H) : rIsNn .non .non H Q := ⟨rfl, by rw [decide_eq_true rfl]; exact h⟩
theorem x_isNI (h : Q (.bl false) H) : rIsNn (.int i) .non H Q := ⟨rfl, by rw [decide_eq_false (fun z => by cases z)]; exact h⟩
theorem x_isNB (h : Q (.bl false) H) : rIsNn (.bl b) .non H Q := ⟨rfl, by rw [decide_eq_false (fun z => by cases z)]; exact h⟩
theorem x_isNS (h : Q (.bl false) H) : rIsNn (.str z) .non H Q := ⟨rfl, by rw [decide_eq_false (fun z => by cases z)]; exact h⟩
theorem x_isNR (h : Q (.bl false) H) : rIsNn (.ref a) .non H Q := ⟨rfl, by rw [decide_eq_false (fun z => by cases z)]; exact h⟩
theorem x_notNN (h : Q (.bl false) H) : rNotNn .non .non H Q := ⟨rfl, by rw [decide_eq_true rfl]; exact h⟩
theorem x_notNI (h : Q (.bl true) H) : rNotNn (.int i) .non H Q := ⟨rfl, by rw [decide_eq_false (fun z => by cases z)]; exact h⟩
theorem x_notNB (h : Q (.bl true) H) : rNotNn (.bl b) .non H Q := ⟨rfl, by rw [decide_eq_false (fun z => by cases z)]; exact h⟩
theorem x_notNS (h : Q (.bl true) H) : rNotNn (.str z) .non H Q := ⟨rfl, by rw [decide_eq_false (fun z => by cases z)]; exact h⟩
theorem x_notNR (h : Q (.bl true) H) : rNotNn (.ref a) .non H Q := ⟨rfl, by rw [decide_eq_false (fun z => by cases z)]; exact h⟩
end
/-! new objects -/
theorem x_new {A : Prop} {R : Addr → Prop} (ha : A) (h : ∀ p, H p = none → R p) : A ∧ ∀ p, H p = none → R p := ⟨ha, h⟩
/-- a def with defaults, no exception out -/
theorem _root_.L2.FunD.okD {P : Program} {w : World} {K : PySem.W.Frag} {mg : Str → Option Value} {base : Heap} {x qual : Str} {st : Stmt} {f : Addr} {fd : FuncData} {dvs : List V} {kws : List (Str × V)} {N ps : List Str} {k : Nat} {sp : Sp} (F : FunD K x qual (defArgs st) (defBody st) (defScope st) dvs kws f fd) (S : FnScope N ps (defScope st)) (len : ∀ vs H Q E, sp vs H Q E → vs.length = ps.length)
    (hbody : ∀ (cdv : Value) (A : Around) (outer : List Env) (s : Shared) (H : Hp) (vs : List V) (Q : VK) (E : XK), Room k (A.deeper (PyProof.Rows.envOfC qual (defScope st) s.heap.objs.size f cdv)) → sp vs H Q E →
      ∃ t, PSs (cxOf CX0 P w K mg base N qual (defScope st) f cdv A outer s H E).nox (defBody st) t ∧ t { nx := fun _ H' => Q .non H', rt := Q } (start N vs) H) : FnOk P w K mg base CX0 (k + 1) f fd ps sp :=
  F.ok (CX := CX0) S len fun cdv A outer s H vs Q E hr h => let ⟨t, a, b⟩ := hbody cdv A outer s H vs Q E hr h; ⟨t, a.nox, b⟩
theorem fund_mk {K : PySem.W.Frag} {x qual : Str} {st : Stmt} {f D : Addr} {oc tc : Value} {od an td : Option Addr} {osl tl : Array (Option Value)} {kV doc pm cdv ct : Value} {tn : Nat} {its : List Value} {ds : List V} (l : K.lookup f = some ⟨oc, od, .func (PySem.W.fnOf x qual (defArgs st) (defBody st) (defScope st) (.ref D) kV doc pm an cdv ct), osl⟩)
    (c : PySem.W.codeIn K cdv qual = true) (k : PySem.W.keepIn K (.ref f) = true) (t : K.lookup D = some ⟨tc, td, .seq its.toArray tn, tl⟩) (v : Vals ds its) (hd : ds ≠ [] := by simp) : FunD K x qual (defArgs st) (defBody st) (defScope st) ds [] f (PySem.W.fnOf x qual (defArgs st) (defBody st) (defScope st) (.ref D) kV doc pm an cdv ct) :=
  ⟨⟨oc, od, .ref D, kV, doc, pm, an, cdv, ct, osl, rfl, l, c, .inr ⟨hd, D, _, its, tn, rfl, t, rfl, v⟩, .inl rfl⟩, k⟩
theorem vnil {K : PySem.W.Frag} {fd : FuncData} {ps : List Str} {ds : List Value} (v : Vals [] ds) (b : Binds K fd ps ds) : Binds K fd ps [] := by
  cases v
  exact b
/-! making, sorting, extending; comprehensions over whatever walks -/
def RMk (C : Addr) (sp : Sp) (dvs : List V) (E : XK) (Q : VK) : List V → Hp → Prop := fun vs H1 => ∀ x dx, H1 x = none → H1 dx = none → dx ≠ x → sp (.ref x :: (vs ++ dvs)) (upd (upd H1 dx (.own x)) x (.ins C dx [])) (fun v H2 => v = .non ∧ Q (.ref x) H2) E
theorem e_make {C : Addr} {sp : Sp} {dvs : List V} {E : XK} {t : TA} {σ : L2.St} {H : Hp} {Q : VK} : tMake C sp dvs E t σ H Q = t σ H (RMk C sp dvs E Q) := rfl
theorem x_make {C : Addr} {sp : Sp} {dvs vs : List V} {E : XK} {H : Hp} {Q : VK} (h : ∀ x dx H1, H x = none → Ex H H1 → H1 x = some (.ins C dx []) → sp (.ref x :: (vs ++ dvs)) H1 (fun v H2 => v = .non ∧ Q (.ref x) H2) E) : RMk C sp dvs E Q vs H :=
  fun x dx hx hdx ne => h x dx _ hx ((Ex.new hdx).newT (by rw [upd_ne (Ne.symm ne)]; exact hx)) upd_same
theorem x_extend {H : Hp} {Q : VK} {l b : Addr} {xs zs : List V} (hl : H l = some (.lst xs)) (hb : H b = some (.lst zs)) (hz : xs.length + zs.length ≤ sizeLine) (h : Q .non (upd H l (.lst (xs ++ zs)))) : rExtend (.ref l) [.ref b] H Q := ⟨l, b, xs, zs, rfl, rfl, hl, hb, hz, h⟩
theorem x_clear {H : Hp} {Q : VK} {l : Addr} {xs : List V} (hl : H l = some (.lst xs)) (h : Q .non (upd H l (.lst []))) : rClear (.ref l) [] H Q := ⟨l, xs, rfl, rfl, hl, h⟩
theorem LcW.by1 {J : It} {n : Nat} {G : Hp → Prop} {Y : Nat → Hp → V → Hp → Prop} {te : TE} {k : Nat} {σ : L2.St} {H : Hp} {Q : VK} (w : Walk J n G Y) (hz : n < sizeLine) (Pv : Addr → Nat → List V → Hp → Prop)
    (h0 : ∀ D, H D = none → Pv D 0 [] (upd H D (.lst [])))
    (hG : ∀ D i acc H', H D = none → i ≤ n → Pv D i acc H' → G H')
    (hs : ∀ D i acc x H1 H1', i < n → H D = none → Pv D i acc H1 → H1 D = some (.lst acc) → Y i H1 x H1' → ∀ Qe : VK, (∀ y H4, H4 D = some (.lst acc) → Pv D (i + 1) (acc ++ [y]) (upd H4 D (.lst (acc ++ [y]))) → Qe y H4) → te ((wipe σ [k]).set k (some x)) H1' Qe)
    (hd : ∀ D acc H', H D = none → Pv D n acc H' → H' D = some (.lst acc) → acc.length = n → Q (.ref D) H') : LcW (gName k) tYes te [k] σ Q J H := by
  intro D hD
  refine lc_it w (Qd := fun H' => Q (.ref D) H') (fun i H' => ∃ acc, acc.length = i ∧ H' D = some (.lst acc) ∧ Pv D i acc H') ⟨[], rfl, upd_same, h0 D hD⟩ (fun i H' hi ⟨acc, _, _, p⟩ => hG D i acc H' hD hi p) ?_ ?_
  · rintro i x H1 H1' hi ⟨acc, hl, ha, p⟩ y
    refine ⟨wipe_set1, ?_⟩
    rw [e_yes]
    refine iteT ?_
    refine hs D i acc x H1 H1' hi hD p ha y _ fun y H4 h4 p4 => ⟨acc, h4, by rw [hl]; exact Nat.lt_trans hi hz, acc ++ [y], by simp [hl], upd_same, p4⟩
  · rintro H1 ⟨acc, hl, ha, p⟩
    exact hd D acc H1 hD p ha hl
end
/-! ranges downwards, list + list, insert -/
def Rg3 (R : It → Hp → Prop) : List V → Hp → Prop := fun vs H1 => ∃ (i j c : Int) (n : Nat), vs = [.int i, .int j, .int c] ∧ RgC i j c n ∧ R (Itc i c n) H1
theorem e_rng3 {σ : L2.St} {H : Hp} {ts : TA} {R : It → Hp → Prop} : iRng3 ts σ H R = ts σ H (Rg3 R) := rfl
theorem x_rgDown {m : Nat} {H : Hp} {R : It → Hp → Prop} (hm : (m : Int) < 2 ^ 61) (h : R (Itc ((m : Int) - 1) (-1) m) H) : Rg3 R [V.int ((m : Int) - 1), .int (-1), .int (-1)] H :=
  ⟨_, _, _, m, rfl, by
    have q := RgC.neg (i := (m : Int) - 1) (j := -1) (by omega) (by omega) (by omega) (by omega)
    have e : ((m : Int) - 1 - -1).toNat = m := by omega
    rw [e] at q; exact q, h⟩
theorem walk_down {n : Nat} : Walk (Itc ((n : Int) - 1) (-1) n) n (fun _ => True) (fun i H x H' => H' = H ∧ ∃ k : Nat, k = n - 1 - i ∧ x = .int (k : Int)) :=
  ⟨fun _ _ hi _ => hi, fun _ _ => Nat.le_refl _, fun i H x H' hi _ y => ⟨y.1, n - 1 - i, rfl, by
    rw [y.2]
    have e : (n : Int) - 1 + (i : Nat) * -1 = ((n - 1 - i : Nat) : Int) := by omega
    rw [e]⟩⟩
theorem x_cat {H : Hp} {Q : VK} {a b : Addr} {xs zs : List V} (ha : H a = some (.lst xs)) (hb : H b = some (.lst zs)) (hz : xs.length + zs.length ≤ sizeLine) (h : ∀ p, H p = none → Q (.ref p) (upd H p (.lst (xs ++ zs)))) : rCat (.ref a) (.ref b) H Q := ⟨a, b, xs, zs, rfl, rfl, ha, hb, hz, h⟩
def rInsert : V → List V → Hp → VK → Prop := fun x vs H Q => ∃ (l : Addr) (xs : List V) (i : Int) (y : V), x = .ref l ∧ vs = [.int i, y] ∧ H l = some (.lst xs) ∧ xs.length < sizeLine ∧ 0 ≤ i ∧ i < 2 ^ 63 ∧
    Q .non (upd H l (.lst (xs.take i.toNat ++ [y] ++ xs.drop i.toNat)))
theorem mt_ins {X : Cx} : MtR X "list.insert" rInsert := mt_insert
theorem x_insert {H : Hp} {Q : VK} {l : Addr} {xs : List V} {i : Int} {k : Nat} {y : V} (hi : i = k) (hl : H l = some (.lst xs)) (hz : xs.length < sizeLine) (hk : k < 2 ^ 62) (h : Q .non (upd H l (.lst (xs.take k ++ [y] ++ xs.drop k)))) : rInsert (.ref l) [.int i, y] H Q :=
  ⟨l, xs, i, y, rfl, rfl, hl, hz, by omega, by omega, by rw [hi, Int.toNat_natCast]; exact h⟩
theorem cut_len {xs : List V} {k m : Nat} : (cutV xs (some (k : Int)) (some (m : Int))).length ≤ m - k := by
  unfold cutV
  rw [HT.sIx_nat, HT.sIx_nat, List.length_take]
  omega
theorem cut_mem {xs : List V} {lo hi : Option Int} {x : V} (h : x ∈ cutV xs lo hi) : x ∈ xs := List.mem_of_mem_drop (List.mem_of_mem_take h)
theorem absI (i : Int) : ∃ n : Nat, (if i < 0 then -i else i) = (n : Int) := ⟨i.natAbs, by split <;> omega⟩
/-! equal by what is read -/
def Shp (d : PyData) (k : Nat) : Prop := d.canLay0 = true ∧ d.depth ≤ k
theorem Shp.mono {d : PyData} {k j : Nat} (h : Shp d k) (e : k ≤ j) : Shp d j := ⟨h.1, Nat.le_trans h.2 e⟩
theorem shp_all {k : Nat} : ∀ {xs : List PyData}, (∀ x ∈ xs, Shp x k) → PyData.canLayAll0 xs = true ∧ PyData.depthAll xs ≤ k
  | [], _ => by simp [PyData.canLayAll0, PyData.depthAll]
  | x :: xs, h => by
    have h1 := h x (List.mem_cons_self ..)
    have h2 := shp_all (xs := xs) fun y hy => h y (List.mem_cons_of_mem _ hy)
    simp only [PyData.canLayAll0, PyData.depthAll, h1.1, h2.1, Bool.and_self, true_and]
    exact Nat.max_le.mpr ⟨h1.2, h2.2⟩
theorem Shp.lst {k : Nat} {xs : List PyData} (h : ∀ x ∈ xs, Shp x k) : Shp (.list xs) (k + 1) := by
  have q := shp_all h
  exact ⟨by simp only [PyData.canLay0]; exact q.1, by simp only [PyData.depth]; omega⟩
theorem Shp.tup {k : Nat} {xs : List PyData} (h : ∀ x ∈ xs, Shp x k) : Shp (.tuple xs) (k + 1) := by
  have q := shp_all h
  exact ⟨by simp only [PyData.canLay0]; exact q.1, by simp only [PyData.depth]; omega⟩
theorem Shp.int {i : Int} : Shp (.int i) 0 := ⟨by simp only [PyData.canLay0], by simp only [PyData.depth]; exact Nat.le_refl _⟩
theorem Shp.bl {i : Bool} : Shp (.bool i) 0 := ⟨by simp only [PyData.canLay0], by simp only [PyData.depth]; exact Nat.le_refl _⟩
theorem Shp.non : Shp .none 0 := ⟨by simp only [PyData.canLay0], by simp only [PyData.depth]; exact Nat.le_refl _⟩
theorem Shp.str {x : Str} (h : PyData.canLay0 (.str x) = true) : Shp (.str x) 0 := ⟨h, by simp only [PyData.depth]; exact Nat.le_refl _⟩
theorem Shp.ints {xs : List Int} : Shp (.list (xs.map PyData.int)) 1 := Shp.lst fun x hx => by
  obtain ⟨i, _, rfl⟩ := List.mem_map.mp hx; exact Shp.int
theorem Shp.ok {d : PyData} {k : Nat} (h : Shp d k) (hk : k ≤ 64 := by decide) : SeqAt.shaped d = true := by
  unfold SeqAt.shaped
  rw [h.1, decide_eq_true (Nat.le_trans h.2 hk)]; rfl
theorem Dp.natsL {K : PySem.W.Frag} {H : Hp} {a : Addr} {xs : List Nat} (h : SqL K H a (xs.map nV)) : Dp K H (.ref a) (.list ((xs.map fun n : Nat => (n : Int)).map PyData.int)) := .lst (by rw [map_nV] at h; exact h) (dpAll_ints _)
theorem x_neSame {K : PySem.W.Frag} {H : Hp} {Q : VK} {x y : V} {d : PyData} {k : Nat} (hx : Dp K H x d) (hy : Dp K H y d) (hs : Shp d k) (h : Q (.bl false) H) (hk : k ≤ 64 := by decide) : rNeD K x y H Q := ⟨d, d, hx, hy, hs.ok hk, hs.ok hk, by
  rw [SeqAt.eqv_refl d hs.1]; exact h⟩
theorem x_eqSame {K : PySem.W.Frag} {H : Hp} {Q : VK} {x y : V} {d : PyData} {k : Nat} (hx : Dp K H x d) (hy : Dp K H y d) (hs : Shp d k) (h : Q (.bl true) H) (hk : k ≤ 64 := by decide) : rEqD K x y H Q := ⟨d, d, hx, hy, hs.ok hk, hs.ok hk, by
  rw [SeqAt.eqv_refl d hs.1]; exact h⟩
end Nn
/-! A made function handed to a def: the cells that it captured lie as they lay at the entry. -/
namespace Nn
open PySem PySem.Spec PyProof.Rows L2 NdefX LamX
section
variable {X : Cx} {pins : List (Addr × Obj)} {σ : L2.St} {H : Hp} {s : Shared} {cl : List (Str × Addr)} {fr : List Str} {ws : List (Option V)} {js : List Nat}
theorem cells_later (C : CellsAt cl fr ws X.s_0.heap X.H_0) (hx : X.ex = []) (I : Inv X pins σ H s) : CellsAt cl fr ws s.heap H := by
  have nx : ∀ c : Addr, c ∉ X.ex := fun c z => by rw [hx] at z; cases z
  have kp : ∀ y c, cl.lookup y = some c → ∀ v, X.s_0.heap.IsCell c v → s.heap.IsCell c v := fun y c e v ⟨o, ho, hd⟩ => by
    obtain ⟨sl, h⟩ := I.base.any ho (C.all y c e).1 (nx c)
    exact ⟨_, h, hd⟩
  refine ⟨C.len, fun y c e => ?_, C.inj, fun i y e => ?_⟩
  · obtain ⟨n, v, z⟩ := C.all y c e
    refine ⟨?_, v, kp y c e v z⟩
    obtain ⟨o, ho, _⟩ := z
    exact I.base.free c o ho n (nx c)
  · obtain ⟨c, hc, hv⟩ := C.has i y e
    refine ⟨c, hc, fun v ev => ?_⟩
    obtain ⟨u, r, z⟩ := hv v ev
    exact ⟨u, r, kp y c hc _ z⟩
/-- where a running def knows what the cells hold -/
structure Prov (X : Cx) (cl : List (Str × Addr)) (fr : List Str) (ws : L2.St → List (Option V)) : Prop where
  at_ : ∀ (pins : List (Addr × Obj)) (σ : L2.St) (H : Hp) (s : Shared), Inv X pins σ H s → CellsAt cl fr (ws σ) s.heap H
theorem Prov.entry (C : CellsAt cl fr ws X.s_0.heap X.H_0) (hx : X.ex = []) : Prov X cl fr fun _ => ws := ⟨fun _ _ _ _ I => cells_later C hx I⟩
theorem Prov.own (c : X.Ok → Caps X cl fr js) : Prov X cl fr fun σ => js.map (slotAt σ) := ⟨fun _ _ _ _ I => cells_of I (c I.ok)⟩
end
/-- a def that is handed a made function whose cells hold ws -/
structure FnOkC (P : Program) (w : World) (K : PySem.W.Frag) (mg : Str → Option Value) (base : Heap) (CX : CXT) (k : Nat) (f : Addr) (fd : FuncData) (ps : List Str) (cl : List (Str × Addr)) (fr : List Str) (ws : List (Option V)) (sp : Sp) : Prop where
  len : ∀ vs H Q E, sp vs H Q E → vs.length = ps.length
  run : ∀ (A : Around) (outer : List Env) (s : Shared) (H : Hp) (args : Args) (us : List Value) (vs : List V) (Q : VK) (E : XK), Room k A → Env0 P w K mg base A outer s H → BindsTo s fd args (ps.zip us) → Vals vs us → CellsAt cl fr ws s.heap H → sp vs H Q E →
    codeAny (model P w) A (.call (.ref f) args) (CR CX outer P w H s Q E) s
theorem fn_ofC {CX : CXT} {P : Program} {w : World} {K : PySem.W.Frag} {mg : Str → Option Value} {base : Heap} {k : Nat} {f : Addr} {name qual : Str} {params : Arguments} {body : List Stmt} {scope : Scope} {dV kV doc pm cdv ct oc : Value} {an od : Option Addr}
    {osl : Array (Option Value)} {N ps : List Str} {cl : List (Str × Addr)} {fr : List Str} {ws : List (Option V)} {sp : Sp} (lk : K.lookup f = some ⟨oc, od, .func (PySem.W.fnOf name qual params body scope dV kV doc pm an cdv ct), osl⟩) (hcd : PySem.W.codeIn K cdv qual = true) (S : FnScope N ps scope)
    (len : ∀ vs H Q E, sp vs H Q E → vs.length = ps.length)
    (hbody : ∀ (A : Around) (outer : List Env) (s : Shared) (H : Hp) (vs : List V) (Q : VK) (E : XK), Room k (A.deeper (envOfC qual scope s.heap.objs.size f cdv)) → CellsAt cl fr ws s.heap H → sp vs H Q E →
      ∃ t, PSs (cxOf CX P w K mg base N qual scope f cdv A outer s H E) body t ∧ t { nx := fun _ H' => Q .non H', rt := Q } (start N vs) H) :
    FnOkC P w K mg base CX (k + 1) f (PySem.W.fnOf name qual params body scope dV kV doc pm an cdv ct) ps cl fr ws sp := by
  refine ⟨len, fun A outer s H args us vs Q E hr e0 hb r hC hsp => ?_⟩
  -- a promise that knows the very heap and state of this entry is not to be had of a def's rule: the rule is gone through once more
  have hl := len _ _ _ _ hsp
  have KX : K.In s.heap := e0.mod.kin.keeps fun b o e => (e0.bs b o e).1
  have lim : s.heap.NoLimit := e0.mod.nolimit.keeps fun b o e => (e0.bs b o e).1
  have hkind : ∀ y ∈ ps.zip us, scope.names.lookup y.1 = some .local ∨ (scope.names.lookup y.1 = some .cell ∧ ((cellsFrom (s.heap.objs.size + 1) scope.names []).lookup y.1).isSome = true) := fun ⟨n, v⟩ hy => by
    rcases S.par n (List.of_mem_zip hy).1 with q | q
    · exact .inl q
    · exact .inr ⟨q, PySem.W.cellsFrom_some _ _ _ (.inl q)⟩
  refine codeAny_call_function hr.depth (KX _ _ lk) rfl S.co S.gen rfl (PySem.W.codeRec_of KX hcd) (hb _ _ _ _ ?_)
  refine wpAny_newFunctionEnv_cells S.kind hkind fun env he s1 x => ?_
  subst he
  refine ⟨lim.keeps x.toInCall.keep, codeAny_func ?_⟩
  obtain ⟨t, ht, hq⟩ := hbody A outer s H vs Q E (hr.deeper _) hC hsp
  have I : Inv (cxOf CX P w K mg base N qual scope f cdv A outer s H E) [] (start N vs) H s1 := inv_start S hr.hd e0 hl r x
  refine wpAny_mono (ht.run [] s1 (start N vs) H _ I hq) (fun fl s' hs => ?_) fun e s' hs => hs
  have fin : ∀ {σ' : L2.St} {H' : Hp} {v : V} {u : Value}, Inv (cxOf CX P w K mg base N qual scope f cdv A outer s H E) [] σ' H' s' → L2.RelV v u → Q v H' → CE outer P w H s Q u s' :=
    fun {σ' H' v u} J rv q => ⟨v, H', J.os, J.bare, J.base, J.hok, rv, q⟩
  cases fl with
  | ret u =>
    obtain ⟨v, σ', H', J, rv, q⟩ := hs
    exact fin J rv q
  | next =>
    obtain ⟨σ', H', J, q⟩ := hs
    exact fin (v := V.non) (u := Value.none) J rfl q
  | brk =>
    obtain ⟨_, _, _, q⟩ := hs
    exact False.elim q
  | cont =>
    obtain ⟨_, _, _, q⟩ := hs
    exact False.elim q
theorem Fun.okC {P : Program} {w : World} {K : PySem.W.Frag} {mg : Str → Option Value} {base : Heap} {x qual : Str} {st : Stmt} {f : Addr} {fd : FuncData} {N ps : List Str} {k : Nat} {cl : List (Str × Addr)} {fr : List Str} {ws : List (Option V)} {sp : Sp} (F : Fun K x qual st f fd) (S : FnScope N ps (defScope st)) (len : ∀ vs H Q E, sp vs H Q E → vs.length = ps.length)
    (hbody : ∀ (cdv : Value) (A : Around) (outer : List Env) (s : Shared) (H : Hp) (vs : List V) (Q : VK) (E : XK), Room k (A.deeper (envOfC qual (defScope st) s.heap.objs.size f cdv)) → CellsAt cl fr ws s.heap H → sp vs H Q E →
      ∃ t, PSs (cxOf CX0 P w K mg base N qual (defScope st) f cdv A outer s H E).nox (defBody st) t ∧ t { nx := fun _ H' => Q .non H', rt := Q } (start N vs) H) : FnOkC P w K mg base CX0 (k + 1) f fd ps cl fr ws sp := by
  obtain ⟨oc, od, kV, doc, pm, an, cdv, ct, osl, rfl, lk, hcd⟩ := F.ex
  refine fn_ofC lk hcd S len fun A outer s H vs Q E hr hC hsp => ?_
  obtain ⟨t, h, q⟩ := hbody cdv A outer s H vs Q E hr hC hsp
  exact ⟨t, h.nox, q⟩
/-- a def that needs no cells serves where they are told -/
theorem FnOkC.of {P : Program} {w : World} {K : PySem.W.Frag} {mg : Str → Option Value} {base : Heap} {CX : CXT} {k : Nat} {f : Addr} {fd : FuncData} {ps : List Str} {cl : List (Str × Addr)} {fr : List Str} {ws : List (Option V)} {sp : Sp} (F : FnOk P w K mg base CX k f fd ps sp) : FnOkC P w K mg base CX k f fd ps cl fr ws sp :=
  ⟨F.len, fun A outer s H args us vs Q E hr e0 hb r _ h => F.run A outer s H args us vs Q E hr e0 hb r h⟩
section
variable {X : Cx} {CX : CXT} {k j i : Nat} {f C : Addr} {fd : FuncData} {ps : List Str} {cl : List (Str × Addr)} {fr : List Str} {ws : L2.St → List (Option V)} {sp : List (Option V) → Sp} {dvs : List V} {ds : List Value} {E : XK} {x m : Str} {p pos apos : Pos} {e o : Expr} {es : List Expr} {ta : TE} {t : TA}
theorem run_fnC {pins : List (Addr × Obj)} {σ : L2.St} {H : Hp} {s : Shared} {Q : VK} {us : List Value} {vs : List V} (F : FnOkC X.prog X.w X.K X.mg X.base CX k f fd ps cl fr (ws σ) (sp (ws σ))) (pr : Prov X cl fr ws) (hr : Room k X.A) (hb : Binds X.K fd ps ds) (hd : Vals dvs ds) (hx : Passes CX X E)
    (I : Inv X pins σ H s) (r : Vals vs us) (h : sp (ws σ) (vs ++ dvs) H Q E) : wpAny (model X.prog X.w) X.A (call (.ref f) us) (EP X pins σ Q) X.xe s := by
  have r2 : Vals (vs ++ dvs) (us ++ ds) := r.append hd
  have hl : (us ++ ds).length = ps.length := by rw [← r2.length]; exact F.len _ _ _ _ h
  refine wpAny_call (codeAny_mono (F.run X.A X.stack s H ⟨us, []⟩ (us ++ ds) (vs ++ dvs) Q E hr I.env0 (hb s us I.kIn hl) r2 (pr.at_ pins σ H s I) h) fun r s' hq => ?_)
  cases r with
  | error e => exact hx pins σ H s e s' I hq
  | ok fl =>
    cases fl with
    | ret u => exact I.after hq
    | next => exact False.elim hq
    | brk => exact False.elim hq
    | cont => exact False.elim hq
def tCallC (ws : L2.St → List (Option V)) (sp : List (Option V) → Sp) (dvs : List V) (E : XK) (t : TA) : TE := fun σ H Q => t σ H fun vs H1 => sp (ws σ) (vs ++ dvs) H1 Q E
theorem pe_callC (F : ∀ ws, FnOkC X.prog X.w X.K X.mg X.base CX k f fd ps cl fr ws (sp ws)) (pr : Prov X cl fr ws) (hr : Room k X.A) (hg : Gl X x) (hm : X.mg x = some (.ref f)) (hk : PySem.W.keepIn X.K (.ref f) = true) (hb : Binds X.K fd ps ds) (hd : Vals dvs ds) (hx : Passes CX X E)
    (ha : PA X (e :: es) t) (hdb : (x == ("__debug__" : Str)) = false := by decide) (he : starEach (e :: es) X.env = (false, eval e X.env) :: starEach es X.env := by rfl) (hpl : (backTo pos (starEach es X.env)).any (·.1) = false := by rfl) :
    PE X (.Call (.Name x p) (e :: es) [] pos) (tCallC ws sp dvs E t) := by
  refine ⟨fun pins s σ H Q I h => ?_⟩
  refine wpAny_Call_Name_kw (ld_glob I hg hm ?_ hdb)
  refine PySem.W.callWith_K (h₀ := X.base) I.ok.mod.kin hk (thn (ha.run pos pins s σ H _ I h) fun us s1 ⟨vs, H1, I1, r, q⟩ => ⟨I1.kIn, ?_⟩) he hpl
  exact run_fnC (F _) pr hr hb hd hx I1 r q
def tMethC (C : Addr) (m : Str) (ws : L2.St → List (Option V)) (sp : List (Option V) → Sp) (dvs : List V) (E : XK) (ta : TE) (t : TA) : TE := fun σ H Q => ta σ H fun x H1 => ∃ a dx fs, x = .ref a ∧ H1 a = some (.ins C dx fs) ∧ fs.lookup m = none ∧
  t σ H1 fun vs H2 => sp (ws σ) (x :: (vs ++ dvs)) H2 Q E
theorem pe_methC {pl : Sem Bool} (he : PE X o ta) (c : Cls X.K C) (hm : Meth X.K C m f) (F : ∀ ws, FnOkC X.prog X.w X.K X.mg X.base CX k f fd ps cl fr ws (sp ws)) (pr : Prov X cl fr ws) (hr : Room k X.A) (hb : Binds X.K fd ps ds) (hd : Vals dvs ds) (hx : Passes CX X E) (ha : PA X (e :: es) t)
    (hst : starEach (e :: es) X.env = (false, eval e X.env) :: starEach es X.env := by rfl) (hpl : (backTo pos (starEach es X.env)).any (·.1) = false := by rfl)
    (ht : eval (.Call (.Attribute o m apos) (e :: es) [] pos) X.env = (do
      let ov ← eval o X.env
      standAt apos.atName
      let (f, first) ← holding [ov] (getMethod ov m pl)
      callWith pos f first (backTo pos (starEach (e :: es) X.env)) (backToKw pos (keywordEach [] X.env))) := by rfl) :
    PE X (.Call (.Attribute o m apos) (e :: es) [] pos) (tMethC C m ws sp dvs E ta t) := by
  refine ⟨fun pins s σ H Q I h => ?_⟩
  refine PySem.W.methodCall_KW (pl := pl) (thn (he.run pins s σ H _ I h) fun u s1 ⟨x, H1, I1, rx, a, dx, fs, ex, ea, l, q⟩ => ?_) ht
  subst ex
  obtain rfl : u = Value.ref a := rx
  refine getmeth_ok I1 ea c hm l ?_
  refine PySem.W.callWith_K (first := [.ref a]) (h₀ := X.base) I.ok.mod.kin hm.kp (thn (ha.run pos pins s1 σ H1 _ I1 q) fun us s2 ⟨vs, H2, I2, r, q2⟩ => ⟨I2.kIn, ?_⟩) hst hpl
  exact run_fnC (us := .ref a :: us) (vs := .ref a :: vs) (F _) pr hr hb hd hx I2 (.cons rfl r) q2
/-- a call of a name that holds the made function F -/
def tCallF (F : NF) (i : Nat) (ws : L2.St → List (Option V)) (sp : Addr → List (Option V) → Sp) (E : XK) (t : TA) : TE := fun σ H Q => ∃ f, σ[i]? = some (some (.ref f)) ∧ H f = some (FnO f F) ∧
  t σ H fun vs H1 => H1 f = some (FnO f F) ∧ H1 F.c = some (CodeO F.c F.qual) ∧ sp f (ws σ) vs H1 Q E
theorem pe_callF {F : NF} {sp : Addr → List (Option V) → Sp} (Fn : ∀ f, NOk X.prog X.w X.K X.mg X.base CX k f F ps fr (sp f)) (pr : Prov X F.cl fr ws) (hr : Room j X.A) (hk : k ≤ j) (hx : Passes CX X E) (hN : X.N[i]? = some x) (hv : Vis X.env.scope x) (ha : PA X (e :: es) t)
    (hd : (x == ("__debug__" : Str)) = false := by decide) (hcd : (x == ("__classdict__" : Str)) = false := by decide)
    (he : starEach (e :: es) X.env = (false, eval e X.env) :: starEach es X.env := by rfl) (hpl : (backTo pos (starEach es X.env)).any (·.1) = false := by rfl) :
    PE X (.Call (.Name x p) (e :: es) [] pos) (tCallF F i ws sp E t) := by
  refine ⟨fun pins s σ H Q I h => ?_⟩
  obtain ⟨f, hs, hf, ht⟩ := h
  refine wpAny_Call_Name_kw (thn ((pe_var (pos := p) hN hv hd hcd).run pins s σ H (fun v H1 => v = .ref f ∧ H1 = H) I ⟨.ref f, hs, rfl, rfl⟩) fun u s1 ⟨v, H1, I1, r1, q1⟩ => ?_)
  obtain ⟨ev, eH⟩ := q1
  subst ev
  rw [eH] at I1
  obtain rfl : u = Value.ref f := r1
  refine PySem.W.callWith_F (first := []) (fnAt_of I1 hf) (thn (ha.run pos pins s1 σ H _ I1 ht) fun us s2 ⟨vs, H2, I2, r, h1, h2, q⟩ => ⟨fnAt_of I2 h1, ?_⟩) he hpl
  show wpAny _ _ (call (.ref f) us) _ _ _
  refine wpAny_call (codeAny_mono ((Fn f).run X.A X.stack s2 H2 us vs _ Q E (hr.mono hk) I2.env0 h1 h2 (pr.at_ pins σ H2 s2 I2) r q) fun r s' hq => ?_)
  cases r with
  | error e => exact hx pins σ H2 s2 e s' I2 hq
  | ok fl =>
    cases fl with
    | ret u => exact I2.after hq
    | next => exact False.elim hq
    | brk => exact False.elim hq
    | cont => exact False.elim hq
end
end Nn

/-! closures in sight: their readings, for the walk -/
namespace Nn
open PySem PySem.Spec PyProof.Rows L2 NdefX LamX
theorem FunD.okC {P : Program} {w : World} {K : PySem.W.Frag} {mg : Str → Option Value} {base : Heap} {x qual : Str} {st : Stmt} {f : Addr} {fd : FuncData} {dvs : List V} {kws : List (Str × V)} {N ps : List Str} {k : Nat} {cl : List (Str × Addr)} {fr : List Str} {ws : List (Option V)} {sp : Sp} (F : FunD K x qual (defArgs st) (defBody st) (defScope st) dvs kws f fd) (S : FnScope N ps (defScope st)) (len : ∀ vs H Q E, sp vs H Q E → vs.length = ps.length)
    (hbody : ∀ (cdv : Value) (A : Around) (outer : List Env) (s : Shared) (H : Hp) (vs : List V) (Q : VK) (E : XK), Room k (A.deeper (envOfC qual (defScope st) s.heap.objs.size f cdv)) → CellsAt cl fr ws s.heap H → sp vs H Q E →
      ∃ t, PSs (cxOf CX0 P w K mg base N qual (defScope st) f cdv A outer s H E).nox (defBody st) t ∧ t { nx := fun _ H' => Q .non H', rt := Q } (start N vs) H) : FnOkC P w K mg base CX0 (k + 1) f fd ps cl fr ws sp := by
  obtain ⟨oc, od, dV, kV, doc, pm, an, cdv, ct, osl, rfl, lk, hcd, _, _⟩ := F.ex
  refine fn_ofC lk hcd S len fun A outer s H vs Q E hr hC hsp => ?_
  obtain ⟨t, h, q⟩ := hbody cdv A outer s H vs Q E hr hC hsp
  exact ⟨t, h.nox, q⟩
def RMtC (C : Addr) (m : Str) (ws : L2.St → List (Option V)) (sp : List (Option V) → Sp) (dvs : List V) (E : XK) (t : TA) (σ : L2.St) (Q : VK) : VK := fun x H1 => ∃ a dx fs, x = .ref a ∧ H1 a = some (.ins C dx fs) ∧ fs.lookup m = none ∧ t σ H1 fun vs H2 => sp (ws σ) (x :: (vs ++ dvs)) H2 Q E
theorem e_methC {C : Addr} {m : Str} {ws : L2.St → List (Option V)} {sp : List (Option V) → Sp} {dvs : List V} {E : XK} {ta : TE} {t : TA} {σ : L2.St} {H : Hp} {Q : VK} : tMethC C m ws sp dvs E ta t σ H Q = ta σ H (RMtC C m ws sp dvs E t σ Q) := rfl
theorem x_methC {C : Addr} {m : Str} {ws : L2.St → List (Option V)} {sp : List (Option V) → Sp} {dvs : List V} {E : XK} {t : TA} {σ : L2.St} {H : Hp} {Q : VK} {a dx : Addr} {fs : List (Str × V)} (h : H a = some (.ins C dx fs)) (l : fs.lookup m = none) (k : t σ H fun vs H2 => sp (ws σ) (.ref a :: (vs ++ dvs)) H2 Q E) : RMtC C m ws sp dvs E t σ Q (.ref a) H := ⟨a, dx, fs, rfl, h, l, k⟩
theorem e_callC {ws : L2.St → List (Option V)} {sp : List (Option V) → Sp} {dvs : List V} {E : XK} {t : TA} {σ : L2.St} {H : Hp} {Q : VK} : tCallC ws sp dvs E t σ H Q = t σ H fun vs H1 => sp (ws σ) (vs ++ dvs) H1 Q E := rfl
/-- a statement that is never come to -/
def tDead : TS := fun _ _ _ => False
theorem ps_dead {X : Cx} {st : Stmt} : PS X st tDead := ⟨fun _ _ _ _ _ _ h => h.elim⟩
end Nn
namespace Nn
open PySem L2
def top (i : Nat) : Stmt := PySem.Challenge.pw_nearnames_k36_towns_refused.main.body.getD i (.Pass ⟨0, 0, 0, 0⟩)
abbrev s_is_name : Stmt := top 10
abbrev N_is_name : List Str := ["thing", "wide"]
theorem st_is_name (v0 v1 : V) : L2.start ["thing", "wide"] [v0, v1] = [some v0, some v1] := rfl
theorem sc_is_name : FnScope ["thing", "wide"] ["thing", "wide"] (defScope s_is_name) := ⟨rfl, rfl, rfl, by decide +kernel, rfl, by decide +kernel, by decide +kernel⟩
abbrev s_far : Stmt := top 11
abbrev N_far : List Str := ["one", "other"]
theorem st_far (v0 v1 : V) : L2.start ["one", "other"] [v0, v1] = [some v0, some v1] := rfl
theorem sc_far : FnScope ["one", "other"] ["one", "other"] (defScope s_far) := ⟨rfl, rfl, rfl, by decide +kernel, rfl, by decide +kernel, by decide +kernel⟩
abbrev s_nearer : Stmt := top 12
abbrev N_nearer : List Str := ["goal", "one", "other"]
theorem st_nearer (v0 v1 v2 : V) : L2.start ["goal", "one", "other"] [v0, v1, v2] = [some v0, some v1, some v2] := rfl
theorem sc_nearer : FnScope ["goal", "one", "other"] ["goal", "one", "other"] (defScope s_nearer) := ⟨rfl, rfl, rfl, by decide +kernel, rfl, by decide +kernel, by decide +kernel⟩
abbrev s_by_nearness : Stmt := top 13
abbrev N_by_nearness : List Str := ["goal", "names", "by_far", "name", "one"]
theorem st_by_nearness (v0 v1 : V) : L2.start ["goal", "names", "by_far", "name", "one"] [v0, v1] = [some v0, some v1, none, none, none] := rfl
theorem sc_by_nearness : FnScope ["goal", "names", "by_far", "name", "one"] ["goal", "names"] (defScope s_by_nearness) := ⟨rfl, rfl, rfl, by decide +kernel, rfl, by decide +kernel, by decide +kernel⟩
abbrev s_step : Stmt := top 14
abbrev N_step : List Str := ["one", "other"]
theorem st_step (v0 v1 : V) : L2.start ["one", "other"] [v0, v1] = [some v0, some v1] := rfl
theorem sc_step : FnScope ["one", "other"] ["one", "other"] (defScope s_step) := ⟨rfl, rfl, rfl, by decide +kernel, rfl, by decide +kernel, by decide +kernel⟩
abbrev s_standing : Stmt := top 16
abbrev N_standing : List Str := ["goal", "room", "seen", "quiet", "name"]
theorem st_standing (v0 v1 v2 v3 : V) : L2.start ["goal", "room", "seen", "quiet", "name"] [v0, v1, v2, v3] = [some v0, some v1, some v2, some v3, none] := rfl
theorem sc_standing : FnScope ["goal", "room", "seen", "quiet", "name"] ["goal", "room", "seen", "quiet"] (defScope s_standing) := ⟨rfl, rfl, rfl, by decide +kernel, rfl, by decide +kernel, by decide +kernel⟩
abbrev s_asked : Stmt := top 17
abbrev N_asked : List Str := ["start", "goal", "room", "tells", "row", "seen", "name", "quiet", "left", "house", "told", "done"]
theorem st_asked (v0 v1 v2 v3 : V) : L2.start ["start", "goal", "room", "tells", "row", "seen", "name", "quiet", "left", "house", "told", "done"] [v0, v1, v2, v3] = [some v0, some v1, some v2, some v3, none, none, none, none, none, none, none, none] := rfl
theorem sc_asked : FnScope ["start", "goal", "room", "tells", "row", "seen", "name", "quiet", "left", "house", "told", "done"] ["start", "goal", "room", "tells"] (defScope s_asked) := ⟨rfl, rfl, rfl, by decide +kernel, rfl, by decide +kernel, by decide +kernel⟩
abbrev s_onward : Stmt := top 18
abbrev N_onward : List Str := ["here", "goal", "tells", "name"]
theorem st_onward (v0 v1 v2 : V) : L2.start ["here", "goal", "tells", "name"] [v0, v1, v2] = [some v0, some v1, some v2, none] := rfl
theorem sc_onward : FnScope ["here", "goal", "tells", "name"] ["here", "goal", "tells"] (defScope s_onward) := ⟨rfl, rfl, rfl, by decide +kernel, rfl, by decide +kernel, by decide +kernel⟩
abbrev s_way : Stmt := top 19
abbrev N_way : List Str := ["start", "goal", "tells", "line", "other"]
theorem st_way (v0 v1 v2 : V) : L2.start ["start", "goal", "tells", "line", "other"] [v0, v1, v2] = [some v0, some v1, some v2, none, none] := rfl
theorem sc_way : FnScope ["start", "goal", "tells", "line", "other"] ["start", "goal", "tells"] (defScope s_way) := ⟨rfl, rfl, rfl, by decide +kernel, rfl, by decide +kernel, by decide +kernel⟩
abbrev s_Bucket_init : Stmt := inClass (top 22) 0
abbrev N_Bucket_init : List Str := ["self", "room"]
theorem st_Bucket_init (v0 v1 : V) : L2.start ["self", "room"] [v0, v1] = [some v0, some v1] := rfl
theorem sc_Bucket_init : FnScope ["self", "room"] ["self", "room"] (defScope s_Bucket_init) := ⟨rfl, rfl, rfl, by decide +kernel, rfl, by decide +kernel, by decide +kernel⟩
abbrev s_Bucket_names : Stmt := inClass (top 22) 1
abbrev N_Bucket_names : List Str := ["self"]
theorem st_Bucket_names (v0 : V) : L2.start ["self"] [v0] = [some v0] := rfl
theorem sc_Bucket_names : FnScope ["self"] ["self"] (defScope s_Bucket_names) := ⟨rfl, rfl, rfl, by decide +kernel, rfl, by decide +kernel, by decide +kernel⟩
abbrev s_Bucket_hears : Stmt := inClass (top 22) 2
abbrev N_Bucket_hears : List Str := ["self", "name", "answers"]
theorem st_Bucket_hears (v0 v1 v2 : V) : L2.start ["self", "name", "answers"] [v0, v1, v2] = [some v0, some v1, some v2] := rfl
theorem sc_Bucket_hears : FnScope ["self", "name", "answers"] ["self", "name", "answers"] (defScope s_Bucket_hears) := ⟨rfl, rfl, rfl, by decide +kernel, rfl, by decide +kernel, by decide +kernel⟩
abbrev s_Bucket_drops : Stmt := inClass (top 22) 3
abbrev N_Bucket_drops : List Str := ["self", "name"]
theorem st_Bucket_drops (v0 v1 : V) : L2.start ["self", "name"] [v0, v1] = [some v0, some v1] := rfl
theorem sc_Bucket_drops : FnScope ["self", "name"] ["self", "name"] (defScope s_Bucket_drops) := ⟨rfl, rfl, rfl, by decide +kernel, rfl, by decide +kernel, by decide +kernel⟩
abbrev s_Table_init : Stmt := inClass (top 24) 0
abbrev N_Table_init : List Str := ["self", "own", "wide", "room", "k"]
theorem st_Table_init (v0 v1 v2 v3 : V) : L2.start ["self", "own", "wide", "room", "k"] [v0, v1, v2, v3] = [some v0, some v1, some v2, some v3, none] := rfl
theorem sc_Table_init : FnScope ["self", "own", "wide", "room", "k"] ["self", "own", "wide", "room"] (defScope s_Table_init) := ⟨rfl, rfl, rfl, by decide +kernel, rfl, by decide +kernel, by decide +kernel⟩
abbrev s_Table_bucket_for : Stmt := inClass (top 24) 1
abbrev N_Table_bucket_for : List Str := ["self", "name"]
theorem st_Table_bucket_for (v0 v1 : V) : L2.start ["self", "name"] [v0, v1] = [some v0, some v1] := rfl
theorem sc_Table_bucket_for : FnScope ["self", "name"] ["self", "name"] (defScope s_Table_bucket_for) := ⟨rfl, rfl, rfl, by decide +kernel, rfl, by decide +kernel, by decide +kernel⟩
abbrev s_Table_hears : Stmt := inClass (top 24) 2
abbrev N_Table_hears : List Str := ["self", "name", "answers"]
theorem st_Table_hears (v0 v1 v2 : V) : L2.start ["self", "name", "answers"] [v0, v1, v2] = [some v0, some v1, some v2] := rfl
theorem sc_Table_hears : FnScope ["self", "name", "answers"] ["self", "name", "answers"] (defScope s_Table_hears) := ⟨rfl, rfl, rfl, by decide +kernel, rfl, by decide +kernel, by decide +kernel⟩
abbrev s_Table_drops : Stmt := inClass (top 24) 3
abbrev N_Table_drops : List Str := ["self", "name"]
theorem st_Table_drops (v0 v1 : V) : L2.start ["self", "name"] [v0, v1] = [some v0, some v1] := rfl
theorem sc_Table_drops : FnScope ["self", "name"] ["self", "name"] (defScope s_Table_drops) := ⟨rfl, rfl, rfl, by decide +kernel, rfl, by decide +kernel, by decide +kernel⟩
abbrev s_Table_bucket : Stmt := inClass (top 24) 4
abbrev N_Table_bucket : List Str := ["self", "k"]
theorem st_Table_bucket (v0 v1 : V) : L2.start ["self", "k"] [v0, v1] = [some v0, some v1] := rfl
theorem sc_Table_bucket : FnScope ["self", "k"] ["self", "k"] (defScope s_Table_bucket) := ⟨rfl, rfl, rfl, by decide +kernel, rfl, by decide +kernel, by decide +kernel⟩
abbrev s_Table_keeps : Stmt := inClass (top 24) 5
abbrev N_Table_keeps : List Str := ["self", "found", "bucket"]
theorem st_Table_keeps (v0 : V) : L2.start ["self", "found", "bucket"] [v0] = [some v0, none, none] := rfl
theorem sc_Table_keeps : FnScope ["self", "found", "bucket"] ["self"] (defScope s_Table_keeps) := ⟨rfl, rfl, rfl, by decide +kernel, rfl, by decide +kernel, by decide +kernel⟩
abbrev s_Table_nearest : Stmt := inClass (top 24) 6
abbrev N_Table_nearest : List Str := ["self", "goal", "many", "but", "some", "name"]
theorem st_Table_nearest (v0 v1 v2 v3 : V) : L2.start ["self", "goal", "many", "but", "some", "name"] [v0, v1, v2, v3] = [some v0, some v1, some v2, some v3, none, none] := rfl
theorem sc_Table_nearest : FnScope ["self", "goal", "many", "but", "some", "name"] ["self", "goal", "many", "but"] (defScope s_Table_nearest) := ⟨rfl, rfl, rfl, by decide +kernel, rfl, by decide +kernel, by decide +kernel⟩
abbrev s_is_size : Stmt := top 28
abbrev N_is_size : List Str := ["thing", "most"]
theorem st_is_size (v0 v1 : V) : L2.start ["thing", "most"] [v0, v1] = [some v0, some v1] := rfl
theorem sc_is_size : FnScope ["thing", "most"] ["thing", "most"] (defScope s_is_size) := ⟨rfl, rfl, rfl, by decide +kernel, rfl, by decide +kernel, by decide +kernel⟩
abbrev s_Town_init : Stmt := inClass (top 29) 0
abbrev N_Town_init : List Str := ["self", "wide", "room"]
theorem st_Town_init (v0 v1 v2 : V) : L2.start ["self", "wide", "room"] [v0, v1, v2] = [some v0, some v1, some v2] := rfl
theorem sc_Town_init : FnScope ["self", "wide", "room"] ["self", "wide", "room"] (defScope s_Town_init) := ⟨rfl, rfl, rfl, by decide +kernel, rfl, by decide +kernel, by decide +kernel⟩
abbrev s_Town_houses : Stmt := inClass (top 29) 1
abbrev N_Town_houses : List Str := ["self"]
theorem st_Town_houses (v0 : V) : L2.start ["self"] [v0] = [some v0] := rfl
theorem sc_Town_houses : FnScope ["self"] ["self"] (defScope s_Town_houses) := ⟨rfl, rfl, rfl, by decide +kernel, rfl, by decide +kernel, by decide +kernel⟩
abbrev s_Town_answers : Stmt := inClass (top 29) 2
abbrev N_Town_answers : List Str := ["self", "name"]
theorem st_Town_answers (v0 v1 : V) : L2.start ["self", "name"] [v0, v1] = [some v0, some v1] := rfl
theorem sc_Town_answers : FnScope ["self", "name"] ["self", "name"] (defScope s_Town_answers) := ⟨rfl, rfl, rfl, by decide +kernel, rfl, by decide +kernel, by decide +kernel⟩
abbrev s_Town_answering : Stmt := inClass (top 29) 3
abbrev N_Town_answering : List Str := ["self", "house"]
theorem st_Town_answering (v0 : V) : L2.start ["self", "house"] [v0] = [some v0, none] := rfl
theorem sc_Town_answering : FnScope ["self", "house"] ["self"] (defScope s_Town_answering) := ⟨rfl, rfl, rfl, by decide +kernel, rfl, by decide +kernel, by decide +kernel⟩
abbrev s_Town_table : Stmt := inClass (top 29) 4
abbrev N_Town_table : List Str := ["self", "house"]
theorem st_Town_table (v0 v1 : V) : L2.start ["self", "house"] [v0, v1] = [some v0, some v1] := rfl
theorem sc_Town_table : FnScope ["self", "house"] ["self", "house"] (defScope s_Town_table) := ⟨rfl, rfl, rfl, by decide +kernel, rfl, by decide +kernel, by decide +kernel⟩
abbrev s_Town_look_awake : Stmt := inClass (top 29) 5
abbrev N_Town_look_awake : List Str := ["self", "house"]
theorem st_Town_look_awake (v0 v1 : V) : L2.start ["self", "house"] [v0, v1] = [some v0, some v1] := rfl
theorem sc_Town_look_awake : FnScope ["self", "house"] ["self", "house"] (defScope s_Town_look_awake) := ⟨rfl, rfl, rfl, by decide +kernel, rfl, by decide +kernel, by decide +kernel⟩
abbrev s_Town_look_named : Stmt := inClass (top 29) 6
abbrev N_Town_look_named : List Str := ["self", "name"]
theorem st_Town_look_named (v0 v1 : V) : L2.start ["self", "name"] [v0, v1] = [some v0, some v1] := rfl
theorem sc_Town_look_named : FnScope ["self", "name"] ["self", "name"] (defScope s_Town_look_named) := ⟨rfl, rfl, rfl, by decide +kernel, rfl, by decide +kernel, by decide +kernel⟩
abbrev s_Town_bucket : Stmt := inClass (top 29) 7
abbrev N_Town_bucket : List Str := ["self", "house", "k"]
theorem st_Town_bucket (v0 v1 v2 : V) : L2.start ["self", "house", "k"] [v0, v1, v2] = [some v0, some v1, some v2] := rfl
theorem sc_Town_bucket : FnScope ["self", "house", "k"] ["self", "house", "k"] (defScope s_Town_bucket) := ⟨rfl, rfl, rfl, by decide +kernel, rfl, by decide +kernel, by decide +kernel⟩
abbrev s_Town_keeps : Stmt := inClass (top 29) 8
abbrev N_Town_keeps : List Str := ["self", "house"]
theorem st_Town_keeps (v0 v1 : V) : L2.start ["self", "house"] [v0, v1] = [some v0, some v1] := rfl
theorem sc_Town_keeps : FnScope ["self", "house"] ["self", "house"] (defScope s_Town_keeps) := ⟨rfl, rfl, rfl, by decide +kernel, rfl, by decide +kernel, by decide +kernel⟩
abbrev s_Town_tells : Stmt := inClass (top 29) 9
abbrev N_Town_tells : List Str := ["self", "house", "goal", "asker"]
theorem st_Town_tells (v0 v1 v2 v3 : V) : L2.start ["self", "house", "goal", "asker"] [v0, v1, v2, v3] = [some v0, some v1, some v2, some v3] := rfl
theorem sc_Town_tells : FnScope ["self", "house", "goal", "asker"] ["self", "house", "goal", "asker"] (defScope s_Town_tells) := ⟨rfl, rfl, rfl, by decide +kernel, rfl, by decide +kernel, by decide +kernel⟩
abbrev s_Town_hears : Stmt := inClass (top 29) 10
abbrev N_Town_hears : List Str := ["self", "house", "name", "answers"]
theorem st_Town_hears (v0 v1 v2 : V) : L2.start ["self", "house", "name", "answers"] [v0, v1, v2] = [some v0, some v1, some v2, none] := rfl
theorem sc_Town_hears : FnScope ["self", "house", "name", "answers"] ["self", "house", "name"] (defScope s_Town_hears) := ⟨rfl, rfl, rfl, by decide +kernel, rfl, by decide +kernel, by decide +kernel⟩
abbrev s_Town_come_to : Stmt := inClass (top 29) 11
abbrev N_Town_come_to : List Str := ["self", "house", "found", "at", "other"]
theorem st_Town_come_to (v0 v1 : V) : L2.start ["self", "house", "found", "at", "other"] [v0, v1] = [some v0, some v1, none, none, none] := rfl
theorem sc_Town_come_to : FnScope ["self", "house", "found", "at", "other"] ["self", "house"] (defScope s_Town_come_to) := ⟨rfl, rfl, rfl, by decide +kernel, rfl, by decide +kernel, by decide +kernel⟩
abbrev s_Town_ask : Stmt := inClass (top 29) 12
abbrev N_Town_ask : List Str := ["self", "start", "goal", "tells", "row", "found", "house", "told"]
theorem st_Town_ask (v0 v1 v2 : V) : L2.start ["self", "start", "goal", "tells", "row", "found", "house", "told"] [v0, v1, v2] = [some v0, some v1, some v2, none, none, none, none, none] := rfl
theorem sc_Town_ask : FnScope ["self", "start", "goal", "tells", "row", "found", "house", "told"] ["self", "start", "goal"] (defScope s_Town_ask) := ⟨rfl, rfl, rfl, by decide +kernel, rfl, by decide +kernel, by decide +kernel⟩
abbrev s_Town_way : Stmt := inClass (top 29) 13
abbrev N_Town_way : List Str := ["self", "start", "goal", "tells"]
theorem st_Town_way (v0 v1 v2 : V) : L2.start ["self", "start", "goal", "tells"] [v0, v1, v2] = [some v0, some v1, some v2, none] := rfl
theorem sc_Town_way : FnScope ["self", "start", "goal", "tells"] ["self", "start", "goal"] (defScope s_Town_way) := ⟨rfl, rfl, rfl, by decide +kernel, rfl, by decide +kernel, by decide +kernel⟩
abbrev s_Town_visit : Stmt := inClass (top 29) 14
abbrev N_Town_visit : List Str := ["self", "house", "door", "others", "other"]
theorem st_Town_visit (v0 v1 v2 : V) : L2.start ["self", "house", "door", "others", "other"] [v0, v1, v2] = [some v0, some v1, some v2, none, none] := rfl
theorem sc_Town_visit : FnScope ["self", "house", "door", "others", "other"] ["self", "house", "door"] (defScope s_Town_visit) := ⟨rfl, rfl, rfl, by decide +kernel, rfl, by decide +kernel, by decide +kernel⟩
abbrev s_Town_come : Stmt := inClass (top 29) 15
abbrev N_Town_come : List Str := ["self", "name", "door"]
theorem st_Town_come (v0 v1 v2 : V) : L2.start ["self", "name", "door"] [v0, v1, v2] = [some v0, some v1, some v2] := rfl
theorem sc_Town_come : FnScope ["self", "name", "door"] ["self", "name", "door"] (defScope s_Town_come) := ⟨rfl, rfl, rfl, by decide +kernel, rfl, by decide +kernel, by decide +kernel⟩
abbrev s_Town_go : Stmt := inClass (top 29) 16
abbrev N_Town_go : List Str := ["self", "house"]
theorem st_Town_go (v0 v1 : V) : L2.start ["self", "house"] [v0, v1] = [some v0, some v1] := rfl
theorem sc_Town_go : FnScope ["self", "house"] ["self", "house"] (defScope s_Town_go) := ⟨rfl, rfl, rfl, by decide +kernel, rfl, by decide +kernel, by decide +kernel⟩
abbrev s_Town_hush : Stmt := inClass (top 29) 17
abbrev N_Town_hush : List Str := ["self", "house"]
theorem st_Town_hush (v0 v1 : V) : L2.start ["self", "house"] [v0, v1] = [some v0, some v1] := rfl
theorem sc_Town_hush : FnScope ["self", "house"] ["self", "house"] (defScope s_Town_hush) := ⟨rfl, rfl, rfl, by decide +kernel, rfl, by decide +kernel, by decide +kernel⟩
abbrev s_Town_wake : Stmt := inClass (top 29) 18
abbrev N_Town_wake : List Str := ["self", "house", "door"]
theorem st_Town_wake (v0 v1 v2 : V) : L2.start ["self", "house", "door"] [v0, v1, v2] = [some v0, some v1, some v2] := rfl
theorem sc_Town_wake : FnScope ["self", "house", "door"] ["self", "house", "door"] (defScope s_Town_wake) := ⟨rfl, rfl, rfl, by decide +kernel, rfl, by decide +kernel, by decide +kernel⟩
abbrev s_l_mixed : Stmt := top 31
abbrev N_l_mixed : List Str := ["_law_cell", "_law_k"]
theorem st_l_mixed (v0 v1 : V) : L2.start ["_law_cell", "_law_k"] [v0, v1] = [some v0, some v1] := rfl
theorem sc_l_mixed : FnScope ["_law_cell", "_law_k"] ["_law_cell", "_law_k"] (defScope s_l_mixed) := ⟨rfl, rfl, rfl, by decide +kernel, rfl, by decide +kernel, by decide +kernel⟩
abbrev s_l_wide : Stmt := top 32
abbrev N_l_wide : List Str := ["_law_cell"]
theorem st_l_wide (v0 : V) : L2.start ["_law_cell"] [v0] = [some v0] := rfl
theorem sc_l_wide : FnScope ["_law_cell"] ["_law_cell"] (defScope s_l_wide) := ⟨rfl, rfl, rfl, by decide +kernel, rfl, by decide +kernel, by decide +kernel⟩
abbrev s_l_near : Stmt := top 33
abbrev N_l_near : List Str := ["_law_signs", "_law_wide_here", "_law_first"]
theorem st_l_near (v0 v1 v2 : V) : L2.start ["_law_signs", "_law_wide_here", "_law_first"] [v0, v1, v2] = [some v0, some v1, some v2] := rfl
theorem sc_l_near : FnScope ["_law_signs", "_law_wide_here", "_law_first"] ["_law_signs", "_law_wide_here", "_law_first"] (defScope s_l_near) := ⟨rfl, rfl, rfl, by decide +kernel, rfl, by decide +kernel, by decide +kernel⟩
abbrev s_l_awake : Stmt := top 34
abbrev N_l_awake : List Str := ["_law_model", "_law_name_here"]
theorem st_l_awake (v0 v1 : V) : L2.start ["_law_model", "_law_name_here"] [v0, v1] = [some v0, some v1] := rfl
theorem sc_l_awake : FnScope ["_law_model", "_law_name_here"] ["_law_model", "_law_name_here"] (defScope s_l_awake) := ⟨rfl, rfl, rfl, by decide +kernel, rfl, by decide +kernel, by decide +kernel⟩
abbrev s_l_hears : Stmt := top 35
abbrev N_l_hears : List Str := ["_law_model", "_law_house", "_law_name_here", "_law_k", "_law_line", "_law_other"]
theorem st_l_hears (v0 v1 v2 : V) : L2.start ["_law_model", "_law_house", "_law_name_here", "_law_k", "_law_line", "_law_other"] [v0, v1, v2] = [some v0, some v1, some v2, none, none, none] := rfl
theorem sc_l_hears : FnScope ["_law_model", "_law_house", "_law_name_here", "_law_k", "_law_line", "_law_other"] ["_law_model", "_law_house", "_law_name_here"] (defScope s_l_hears) := ⟨rfl, rfl, rfl, by decide +kernel, rfl, by decide +kernel, by decide +kernel⟩
abbrev s_l_keeps : Stmt := top 36
abbrev N_l_keeps : List Str := ["_law_model", "_law_house", "_law_found", "_law_k"]
theorem st_l_keeps (v0 v1 : V) : L2.start ["_law_model", "_law_house", "_law_found", "_law_k"] [v0, v1] = [some v0, some v1, none, none] := rfl
theorem sc_l_keeps : FnScope ["_law_model", "_law_house", "_law_found", "_law_k"] ["_law_model", "_law_house"] (defScope s_l_keeps) := ⟨rfl, rfl, rfl, by decide +kernel, rfl, by decide +kernel, by decide +kernel⟩
abbrev s_l_come_to : Stmt := top 37
abbrev N_l_come_to : List Str := ["_law_model", "_law_house", "_law_found", "_law_turn", "_law_here", "_law_other"]
theorem st_l_come_to (v0 v1 : V) : L2.start ["_law_model", "_law_house", "_law_found", "_law_turn", "_law_here", "_law_other"] [v0, v1] = [some v0, some v1, none, none, none, none] := rfl
theorem sc_l_come_to : FnScope ["_law_model", "_law_house", "_law_found", "_law_turn", "_law_here", "_law_other"] ["_law_model", "_law_house"] (defScope s_l_come_to) := ⟨rfl, rfl, rfl, by decide +kernel, rfl, by decide +kernel, by decide +kernel⟩
abbrev s_l_visit : Stmt := top 38
abbrev N_l_visit : List Str := ["_law_model", "_law_house", "_law_door", "_law_others", "_law_other"]
theorem st_l_visit (v0 v1 v2 : V) : L2.start ["_law_model", "_law_house", "_law_door", "_law_others", "_law_other"] [v0, v1, v2] = [some v0, some v1, some v2, none, none] := rfl
theorem sc_l_visit : FnScope ["_law_model", "_law_house", "_law_door", "_law_others", "_law_other"] ["_law_model", "_law_house", "_law_door"] (defScope s_l_visit) := ⟨rfl, rfl, rfl, by decide +kernel, rfl, by decide +kernel, by decide +kernel⟩
abbrev s_l_come : Stmt := top 39
abbrev N_l_come : List Str := ["_law_model", "_law_name_here", "_law_door"]
theorem st_l_come (v0 v1 v2 : V) : L2.start ["_law_model", "_law_name_here", "_law_door"] [v0, v1, v2] = [some v0, some v1, some v2] := rfl
theorem sc_l_come : FnScope ["_law_model", "_law_name_here", "_law_door"] ["_law_model", "_law_name_here", "_law_door"] (defScope s_l_come) := ⟨rfl, rfl, rfl, by decide +kernel, rfl, by decide +kernel, by decide +kernel⟩
abbrev s_l_alike : Stmt := top 40
abbrev N_l_alike : List Str := ["_law_town", "_law_model", "_law_awake_here", "_law_house", "_law_k"]
theorem st_l_alike (v0 v1 : V) : L2.start ["_law_town", "_law_model", "_law_awake_here", "_law_house", "_law_k"] [v0, v1] = [some v0, some v1, none, none, none] := rfl
theorem sc_l_alike : FnScope ["_law_town", "_law_model", "_law_awake_here", "_law_house", "_law_k"] ["_law_town", "_law_model"] (defScope s_l_alike) := ⟨rfl, rfl, rfl, by decide +kernel, rfl, by decide +kernel, by decide +kernel⟩
abbrev s_l_set : Stmt := top 41
abbrev N_l_set : List Str := ["_law_script", "_law_head", "_law_wide_here", "_law_room"]
theorem st_l_set (v0 : V) : L2.start ["_law_script", "_law_head", "_law_wide_here", "_law_room"] [v0] = [some v0, none, none, none] := rfl
theorem sc_l_set : FnScope ["_law_script", "_law_head", "_law_wide_here", "_law_room"] ["_law_script"] (defScope s_l_set) := ⟨rfl, rfl, rfl, by decide +kernel, rfl, by decide +kernel, by decide +kernel⟩
abbrev s_l_some : Stmt := top 42
abbrev N_l_some : List Str := ["_law_model", "_law_cell", "_law_awake_here", "_law_house"]
theorem st_l_some (v0 v1 : V) : L2.start ["_law_model", "_law_cell", "_law_awake_here", "_law_house"] [v0, v1] = [some v0, some v1, none, none] := rfl
theorem sc_l_some : FnScope ["_law_model", "_law_cell", "_law_awake_here", "_law_house"] ["_law_model", "_law_cell"] (defScope s_l_some) := ⟨rfl, rfl, rfl, by decide +kernel, rfl, by decide +kernel, by decide +kernel⟩
abbrev s_l_name : Stmt := top 43
abbrev N_l_name : List Str := ["_law_model", "_law_wide_here", "_law_cell", "_law_signs"]
theorem st_l_name (v0 v1 v2 : V) : L2.start ["_law_model", "_law_wide_here", "_law_cell", "_law_signs"] [v0, v1, v2] = [some v0, some v1, some v2, none] := rfl
theorem sc_l_name : FnScope ["_law_model", "_law_wide_here", "_law_cell", "_law_signs"] ["_law_model", "_law_wide_here", "_law_cell"] (defScope s_l_name) := ⟨rfl, rfl, rfl, by decide +kernel, rfl, by decide +kernel, by decide +kernel⟩
abbrev s_l_marks : Stmt := top 44
abbrev N_l_marks : List Str := ["_law_e", "_law_some_here"]
theorem st_l_marks (v0 : V) : L2.start ["_law_e", "_law_some_here"] [v0] = [some v0, none] := rfl
theorem sc_l_marks : FnScope ["_law_e", "_law_some_here"] ["_law_e"] (defScope s_l_marks) := ⟨rfl, rfl, rfl, by decide +kernel, rfl, by decide +kernel, by decide +kernel⟩
abbrev s_l_done : Stmt := top 45
abbrev N_l_done : List Str := ["_law_town", "_law_kind", "_law_house", "_law_other"]
theorem st_l_done (v0 v1 v2 v3 : V) : L2.start ["_law_town", "_law_kind", "_law_house", "_law_other"] [v0, v1, v2, v3] = [some v0, some v1, some v2, some v3] := rfl
theorem sc_l_done : FnScope ["_law_town", "_law_kind", "_law_house", "_law_other"] ["_law_town", "_law_kind", "_law_house", "_law_other"] (defScope s_l_done) := ⟨rfl, rfl, rfl, by decide +kernel, rfl, by decide +kernel, by decide +kernel⟩
abbrev s_l_refused : Stmt := top 46
abbrev N_l_refused : List Str := ["_law_town", "_law_kind", "_law_house", "_law_other", "_law_caught", "_law_e"]
theorem st_l_refused (v0 v1 v2 v3 : V) : L2.start ["_law_town", "_law_kind", "_law_house", "_law_other", "_law_caught", "_law_e"] [v0, v1, v2, v3] = [some v0, some v1, some v2, some v3, none, none] := rfl
theorem sc_l_refused : FnScope ["_law_town", "_law_kind", "_law_house", "_law_other", "_law_caught", "_law_e"] ["_law_town", "_law_kind", "_law_house", "_law_other"] (defScope s_l_refused) := ⟨rfl, rfl, rfl, by decide +kernel, rfl, by decide +kernel, by decide +kernel⟩
abbrev s_l_is_name : Stmt := top 47
abbrev N_l_is_name : List Str := ["_law_thing_here", "_law_wide_here"]
theorem st_l_is_name (v0 v1 : V) : L2.start ["_law_thing_here", "_law_wide_here"] [v0, v1] = [some v0, some v1] := rfl
theorem sc_l_is_name : FnScope ["_law_thing_here", "_law_wide_here"] ["_law_thing_here", "_law_wide_here"] (defScope s_l_is_name) := ⟨rfl, rfl, rfl, by decide +kernel, rfl, by decide +kernel, by decide +kernel⟩
abbrev s_l_of_house : Stmt := top 48
abbrev N_l_of_house : List Str := ["_law_model", "_law_wide_here", "_law_house", "_law_awake_here"]
theorem st_l_of_house (v0 v1 v2 v3 : V) : L2.start ["_law_model", "_law_wide_here", "_law_house", "_law_awake_here"] [v0, v1, v2, v3] = [some v0, some v1, some v2, some v3] := rfl
theorem sc_l_of_house : FnScope ["_law_model", "_law_wide_here", "_law_house", "_law_awake_here"] ["_law_model", "_law_wide_here", "_law_house", "_law_awake_here"] (defScope s_l_of_house) := ⟨rfl, rfl, rfl, by decide +kernel, rfl, by decide +kernel, by decide +kernel⟩
abbrev s_l_due : Stmt := top 49
abbrev N_l_due : List Str := ["_law_model", "_law_wide_here", "_law_kind", "_law_house", "_law_other", "_law_due_here"]
theorem st_l_due (v0 v1 v2 v3 v4 : V) : L2.start ["_law_model", "_law_wide_here", "_law_kind", "_law_house", "_law_other", "_law_due_here"] [v0, v1, v2, v3, v4] = [some v0, some v1, some v2, some v3, some v4, none] := rfl
theorem sc_l_due : FnScope ["_law_model", "_law_wide_here", "_law_kind", "_law_house", "_law_other", "_law_due_here"] ["_law_model", "_law_wide_here", "_law_kind", "_law_house", "_law_other"] (defScope s_l_due) := ⟨rfl, rfl, rfl, by decide +kernel, rfl, by decide +kernel, by decide +kernel⟩
abbrev s_l_thing : Stmt := top 50
abbrev N_l_thing : List Str := ["_law_model", "_law_wide_here", "_law_cell", "_law_some_here"]
theorem st_l_thing (v0 v1 v2 : V) : L2.start ["_law_model", "_law_wide_here", "_law_cell", "_law_some_here"] [v0, v1, v2] = [some v0, some v1, some v2, none] := rfl
theorem sc_l_thing : FnScope ["_law_model", "_law_wide_here", "_law_cell", "_law_some_here"] ["_law_model", "_law_wide_here", "_law_cell"] (defScope s_l_thing) := ⟨rfl, rfl, rfl, by decide +kernel, rfl, by decide +kernel, by decide +kernel⟩
abbrev s_law : Stmt := top 51
abbrev N_law : List Str := ["_law_script", "_law_wide_here", "_law_room", "_law_model", "_law_town", "_law_cell", "_law_name_here", "_law_door", "_law_kind", "_law_house", "_law_other", "_law_due_here", "_law_k"]
theorem st_law (v0 : V) : L2.start ["_law_script", "_law_wide_here", "_law_room", "_law_model", "_law_town", "_law_cell", "_law_name_here", "_law_door", "_law_kind", "_law_house", "_law_other", "_law_due_here", "_law_k"] [v0] = [some v0, none, none, none, none, none, none, none, none, none, none, none, none] := rfl
theorem sc_law : FnScope ["_law_script", "_law_wide_here", "_law_room", "_law_model", "_law_town", "_law_cell", "_law_name_here", "_law_door", "_law_kind", "_law_house", "_law_other", "_law_due_here", "_law_k"] ["_law_script"] (defScope s_law) := ⟨rfl, rfl, rfl, by decide +kernel, rfl, by decide +kernel, by decide +kernel⟩
abbrev s_Town_hears_answers : Stmt := (defBody s_Town_hears).getD 0 (.Pass ⟨0, 0, 0, 0⟩)
abbrev N_Town_hears_answers : List Str := ["other", "self"]
abbrev fr_Town_hears_answers : List Str := ["self"]
theorem nsc_Town_hears_answers : NdefX.NScope N_Town_hears_answers ["other"] fr_Town_hears_answers (C8.fnScope s_Town_hears_answers) := NdefX.nscope_by (by decide +kernel)
theorem st_Town_hears_answers (v0 : V) (w0 : Option V) : NdefX.startF ["other", "self"] [v0] [w0] = [some v0, w0] := rfl
theorem ndB_Town_hears_answers : NdefX.ndefB (defScope s_Town_hears) (C8.fnScope s_Town_hears_answers) fr_Town_hears_answers = true := by decide +kernel
abbrev nf_Town_hears_answers (cl : List (Str × Addr)) (c : Addr) : NdefX.NF := NdefX.NF.of s_Town_hears_answers "answers" ((("Town.hears" : Str) ++ ".<locals>.") ++ "answers") cl c
abbrev s_Town_ask_tells : Stmt := (defBody s_Town_ask).getD 0 (.Pass ⟨0, 0, 0, 0⟩)
abbrev N_Town_ask_tells : List Str := ["house", "aim", "asker", "self"]
abbrev fr_Town_ask_tells : List Str := ["self"]
theorem nsc_Town_ask_tells : NdefX.NScope N_Town_ask_tells ["house", "aim", "asker"] fr_Town_ask_tells (C8.fnScope s_Town_ask_tells) := NdefX.nscope_by (by decide +kernel)
theorem st_Town_ask_tells (v0 v1 v2 : V) (w0 : Option V) : NdefX.startF ["house", "aim", "asker", "self"] [v0, v1, v2] [w0] = [some v0, some v1, some v2, w0] := rfl
theorem ndB_Town_ask_tells : NdefX.ndefB (defScope s_Town_ask) (C8.fnScope s_Town_ask_tells) fr_Town_ask_tells = true := by decide +kernel
abbrev nf_Town_ask_tells (cl : List (Str × Addr)) (c : Addr) : NdefX.NF := NdefX.NF.of s_Town_ask_tells "tells" ((("Town.ask" : Str) ++ ".<locals>.") ++ "tells") cl c
abbrev s_Town_way_tells : Stmt := (defBody s_Town_way).getD 0 (.Pass ⟨0, 0, 0, 0⟩)
abbrev N_Town_way_tells : List Str := ["house", "aim", "asker", "self"]
abbrev fr_Town_way_tells : List Str := ["self"]
theorem nsc_Town_way_tells : NdefX.NScope N_Town_way_tells ["house", "aim", "asker"] fr_Town_way_tells (C8.fnScope s_Town_way_tells) := NdefX.nscope_by (by decide +kernel)
theorem st_Town_way_tells (v0 v1 v2 : V) (w0 : Option V) : NdefX.startF ["house", "aim", "asker", "self"] [v0, v1, v2] [w0] = [some v0, some v1, some v2, w0] := rfl
theorem ndB_Town_way_tells : NdefX.ndefB (defScope s_Town_way) (C8.fnScope s_Town_way_tells) fr_Town_way_tells = true := by decide +kernel
abbrev nf_Town_way_tells (cl : List (Str × Addr)) (c : Addr) : NdefX.NF := NdefX.NF.of s_Town_way_tells "tells" ((("Town.way" : Str) ++ ".<locals>.") ++ "tells") cl c
theorem nm_Town_hears_answers : nmAll 180 8 = (("Town.hears" : Str) ++ ".<locals>.") ++ "answers" := by decide +kernel
theorem nm_Town_ask_tells : nmAll 197 8 = (("Town.ask" : Str) ++ ".<locals>.") ++ "tells" := by decide +kernel
theorem nm_Town_way_tells : nmAll 212 8 = (("Town.way" : Str) ++ ".<locals>.") ++ "tells" := by decide +kernel
def tfL : List He.Defn := [("Town", some "hears"), ("Town", some "ask"), ("Town", some "way")]
def Tabs0 (K : PySem.W.Frag) (H : Hp) : Prop := ∀ p ∈ tfL.map (He.cT K), H p.2 = some (.tbl #[])
theorem ne_Bucket_room_line : (("room" : Str) == "line") = false := by decide +kernel
theorem eq_Bucket_room : (("room" : Str) == "room") = true := by decide +kernel
theorem ne_Bucket_line_room : (("line" : Str) == "room") = false := by decide +kernel
theorem eq_Bucket_line : (("line" : Str) == "line") = true := by decide +kernel
abbrev f_Bucket (x0 x1 : V) : List (Str × V) := [(("room" : Str), x0), (("line" : Str), x1)]
theorem lk_Bucket_room {x0 x1 : V} : (f_Bucket x0 x1).lookup ("room" : Str) = some x0 := by
  simp only [f_Bucket, List.lookup, ne_Bucket_room_line, eq_Bucket_room]
theorem put_Bucket_room {x0 x1 y : V} : putF "room" y (f_Bucket x0 x1) = f_Bucket y x1 := by
  have e : ∀ a b : Str, (a == b) = false → ¬ a = b := fun a b h z => by rw [z] at h; simp at h
  unfold f_Bucket
  simp only [putF, if_neg (e _ _ ne_Bucket_line_room), if_true]
theorem lk_Bucket_line {x0 x1 : V} : (f_Bucket x0 x1).lookup ("line" : Str) = some x1 := by
  simp only [f_Bucket, List.lookup, ne_Bucket_line_room, eq_Bucket_line]
theorem put_Bucket_line {x0 x1 y : V} : putF "line" y (f_Bucket x0 x1) = f_Bucket x0 y := by
  have e : ∀ a b : Str, (a == b) = false → ¬ a = b := fun a b h z => by rw [z] at h; simp at h
  unfold f_Bucket
  simp only [putF, if_neg (e _ _ ne_Bucket_room_line), if_true]
theorem ini_Bucket_room { y : V} : putF "room" y ([] : List (Str × V)) = [(("room" : Str), y)] := by
  have e : ∀ a b : Str, (a == b) = false → ¬ a = b := fun a b h z => by rw [z] at h; simp at h
  simp only [putF]
theorem ini_Bucket_line {x0 y : V} : putF "line" y ([(("room" : Str), x0)] : List (Str × V)) = [(("room" : Str), x0), (("line" : Str), y)] := by
  have e : ∀ a b : Str, (a == b) = false → ¬ a = b := fun a b h z => by rw [z] at h; simp at h
  simp only [putF, if_neg (e _ _ ne_Bucket_room_line)]
theorem nm_Bucket_names_room : (("names" : Str) == "room") = false := by decide +kernel
theorem nm_Bucket_names_line : (("names" : Str) == "line") = false := by decide +kernel
theorem no_Bucket_names {x0 x1 : V} : (f_Bucket x0 x1).lookup ("names" : Str) = none := by
  simp only [f_Bucket, List.lookup, nm_Bucket_names_room, nm_Bucket_names_line]
theorem nm_Bucket_hears_room : (("hears" : Str) == "room") = false := by decide +kernel
theorem nm_Bucket_hears_line : (("hears" : Str) == "line") = false := by decide +kernel
theorem no_Bucket_hears {x0 x1 : V} : (f_Bucket x0 x1).lookup ("hears" : Str) = none := by
  simp only [f_Bucket, List.lookup, nm_Bucket_hears_room, nm_Bucket_hears_line]
theorem nm_Bucket_drops_room : (("drops" : Str) == "room") = false := by decide +kernel
theorem nm_Bucket_drops_line : (("drops" : Str) == "line") = false := by decide +kernel
theorem no_Bucket_drops {x0 x1 : V} : (f_Bucket x0 x1).lookup ("drops" : Str) = none := by
  simp only [f_Bucket, List.lookup, nm_Bucket_drops_room, nm_Bucket_drops_line]
theorem ne_Table_own_wide : (("own" : Str) == "wide") = false := by decide +kernel
theorem ne_Table_own_room : (("own" : Str) == "room") = false := by decide +kernel
theorem ne_Table_own_buckets : (("own" : Str) == "buckets") = false := by decide +kernel
theorem eq_Table_own : (("own" : Str) == "own") = true := by decide +kernel
theorem ne_Table_wide_own : (("wide" : Str) == "own") = false := by decide +kernel
theorem ne_Table_wide_room : (("wide" : Str) == "room") = false := by decide +kernel
theorem ne_Table_wide_buckets : (("wide" : Str) == "buckets") = false := by decide +kernel
theorem eq_Table_wide : (("wide" : Str) == "wide") = true := by decide +kernel
theorem ne_Table_room_own : (("room" : Str) == "own") = false := by decide +kernel
theorem ne_Table_room_wide : (("room" : Str) == "wide") = false := by decide +kernel
theorem ne_Table_room_buckets : (("room" : Str) == "buckets") = false := by decide +kernel
theorem eq_Table_room : (("room" : Str) == "room") = true := by decide +kernel
theorem ne_Table_buckets_own : (("buckets" : Str) == "own") = false := by decide +kernel
theorem ne_Table_buckets_wide : (("buckets" : Str) == "wide") = false := by decide +kernel
theorem ne_Table_buckets_room : (("buckets" : Str) == "room") = false := by decide +kernel
theorem eq_Table_buckets : (("buckets" : Str) == "buckets") = true := by decide +kernel
abbrev f_Table (x0 x1 x2 x3 : V) : List (Str × V) := [(("own" : Str), x0), (("wide" : Str), x1), (("room" : Str), x2), (("buckets" : Str), x3)]
theorem lk_Table_own {x0 x1 x2 x3 : V} : (f_Table x0 x1 x2 x3).lookup ("own" : Str) = some x0 := by
  simp only [f_Table, List.lookup, ne_Table_own_wide, ne_Table_own_room, ne_Table_own_buckets, eq_Table_own]
theorem put_Table_own {x0 x1 x2 x3 y : V} : putF "own" y (f_Table x0 x1 x2 x3) = f_Table y x1 x2 x3 := by
  have e : ∀ a b : Str, (a == b) = false → ¬ a = b := fun a b h z => by rw [z] at h; simp at h
  unfold f_Table
  simp only [putF, if_neg (e _ _ ne_Table_wide_own), if_neg (e _ _ ne_Table_room_own), if_neg (e _ _ ne_Table_buckets_own), if_true]
theorem lk_Table_wide {x0 x1 x2 x3 : V} : (f_Table x0 x1 x2 x3).lookup ("wide" : Str) = some x1 := by
  simp only [f_Table, List.lookup, ne_Table_wide_own, ne_Table_wide_room, ne_Table_wide_buckets, eq_Table_wide]
theorem put_Table_wide {x0 x1 x2 x3 y : V} : putF "wide" y (f_Table x0 x1 x2 x3) = f_Table x0 y x2 x3 := by
  have e : ∀ a b : Str, (a == b) = false → ¬ a = b := fun a b h z => by rw [z] at h; simp at h
  unfold f_Table
  simp only [putF, if_neg (e _ _ ne_Table_own_wide), if_neg (e _ _ ne_Table_room_wide), if_neg (e _ _ ne_Table_buckets_wide), if_true]
theorem lk_Table_room {x0 x1 x2 x3 : V} : (f_Table x0 x1 x2 x3).lookup ("room" : Str) = some x2 := by
  simp only [f_Table, List.lookup, ne_Table_room_own, ne_Table_room_wide, ne_Table_room_buckets, eq_Table_room]
theorem put_Table_room {x0 x1 x2 x3 y : V} : putF "room" y (f_Table x0 x1 x2 x3) = f_Table x0 x1 y x3 := by
  have e : ∀ a b : Str, (a == b) = false → ¬ a = b := fun a b h z => by rw [z] at h; simp at h
  unfold f_Table
  simp only [putF, if_neg (e _ _ ne_Table_own_room), if_neg (e _ _ ne_Table_wide_room), if_neg (e _ _ ne_Table_buckets_room), if_true]
theorem lk_Table_buckets {x0 x1 x2 x3 : V} : (f_Table x0 x1 x2 x3).lookup ("buckets" : Str) = some x3 := by
  simp only [f_Table, List.lookup, ne_Table_buckets_own, ne_Table_buckets_wide, ne_Table_buckets_room, eq_Table_buckets]
theorem put_Table_buckets {x0 x1 x2 x3 y : V} : putF "buckets" y (f_Table x0 x1 x2 x3) = f_Table x0 x1 x2 y := by
  have e : ∀ a b : Str, (a == b) = false → ¬ a = b := fun a b h z => by rw [z] at h; simp at h
  unfold f_Table
  simp only [putF, if_neg (e _ _ ne_Table_own_buckets), if_neg (e _ _ ne_Table_wide_buckets), if_neg (e _ _ ne_Table_room_buckets), if_true]
theorem ini_Table_own { y : V} : putF "own" y ([] : List (Str × V)) = [(("own" : Str), y)] := by
  have e : ∀ a b : Str, (a == b) = false → ¬ a = b := fun a b h z => by rw [z] at h; simp at h
  simp only [putF]
theorem ini_Table_wide {x0 y : V} : putF "wide" y ([(("own" : Str), x0)] : List (Str × V)) = [(("own" : Str), x0), (("wide" : Str), y)] := by
  have e : ∀ a b : Str, (a == b) = false → ¬ a = b := fun a b h z => by rw [z] at h; simp at h
  simp only [putF, if_neg (e _ _ ne_Table_own_wide)]
theorem ini_Table_room {x0 x1 y : V} : putF "room" y ([(("own" : Str), x0), (("wide" : Str), x1)] : List (Str × V)) = [(("own" : Str), x0), (("wide" : Str), x1), (("room" : Str), y)] := by
  have e : ∀ a b : Str, (a == b) = false → ¬ a = b := fun a b h z => by rw [z] at h; simp at h
  simp only [putF, if_neg (e _ _ ne_Table_own_room), if_neg (e _ _ ne_Table_wide_room)]
theorem ini_Table_buckets {x0 x1 x2 y : V} : putF "buckets" y ([(("own" : Str), x0), (("wide" : Str), x1), (("room" : Str), x2)] : List (Str × V)) = [(("own" : Str), x0), (("wide" : Str), x1), (("room" : Str), x2), (("buckets" : Str), y)] := by
  have e : ∀ a b : Str, (a == b) = false → ¬ a = b := fun a b h z => by rw [z] at h; simp at h
  simp only [putF, if_neg (e _ _ ne_Table_own_buckets), if_neg (e _ _ ne_Table_wide_buckets), if_neg (e _ _ ne_Table_room_buckets)]
theorem nm_Table_bucket_for_own : (("bucket_for" : Str) == "own") = false := by decide +kernel
theorem nm_Table_bucket_for_wide : (("bucket_for" : Str) == "wide") = false := by decide +kernel
theorem nm_Table_bucket_for_room : (("bucket_for" : Str) == "room") = false := by decide +kernel
theorem nm_Table_bucket_for_buckets : (("bucket_for" : Str) == "buckets") = false := by decide +kernel
theorem no_Table_bucket_for {x0 x1 x2 x3 : V} : (f_Table x0 x1 x2 x3).lookup ("bucket_for" : Str) = none := by
  simp only [f_Table, List.lookup, nm_Table_bucket_for_own, nm_Table_bucket_for_wide, nm_Table_bucket_for_room, nm_Table_bucket_for_buckets]
theorem nm_Table_hears_own : (("hears" : Str) == "own") = false := by decide +kernel
theorem nm_Table_hears_wide : (("hears" : Str) == "wide") = false := by decide +kernel
theorem nm_Table_hears_room : (("hears" : Str) == "room") = false := by decide +kernel
theorem nm_Table_hears_buckets : (("hears" : Str) == "buckets") = false := by decide +kernel
theorem no_Table_hears {x0 x1 x2 x3 : V} : (f_Table x0 x1 x2 x3).lookup ("hears" : Str) = none := by
  simp only [f_Table, List.lookup, nm_Table_hears_own, nm_Table_hears_wide, nm_Table_hears_room, nm_Table_hears_buckets]
theorem nm_Table_drops_own : (("drops" : Str) == "own") = false := by decide +kernel
theorem nm_Table_drops_wide : (("drops" : Str) == "wide") = false := by decide +kernel
theorem nm_Table_drops_room : (("drops" : Str) == "room") = false := by decide +kernel
theorem nm_Table_drops_buckets : (("drops" : Str) == "buckets") = false := by decide +kernel
theorem no_Table_drops {x0 x1 x2 x3 : V} : (f_Table x0 x1 x2 x3).lookup ("drops" : Str) = none := by
  simp only [f_Table, List.lookup, nm_Table_drops_own, nm_Table_drops_wide, nm_Table_drops_room, nm_Table_drops_buckets]
theorem nm_Table_bucket_own : (("bucket" : Str) == "own") = false := by decide +kernel
theorem nm_Table_bucket_wide : (("bucket" : Str) == "wide") = false := by decide +kernel
theorem nm_Table_bucket_room : (("bucket" : Str) == "room") = false := by decide +kernel
theorem nm_Table_bucket_buckets : (("bucket" : Str) == "buckets") = false := by decide +kernel
theorem no_Table_bucket {x0 x1 x2 x3 : V} : (f_Table x0 x1 x2 x3).lookup ("bucket" : Str) = none := by
  simp only [f_Table, List.lookup, nm_Table_bucket_own, nm_Table_bucket_wide, nm_Table_bucket_room, nm_Table_bucket_buckets]
theorem nm_Table_keeps_own : (("keeps" : Str) == "own") = false := by decide +kernel
theorem nm_Table_keeps_wide : (("keeps" : Str) == "wide") = false := by decide +kernel
theorem nm_Table_keeps_room : (("keeps" : Str) == "room") = false := by decide +kernel
theorem nm_Table_keeps_buckets : (("keeps" : Str) == "buckets") = false := by decide +kernel
theorem no_Table_keeps {x0 x1 x2 x3 : V} : (f_Table x0 x1 x2 x3).lookup ("keeps" : Str) = none := by
  simp only [f_Table, List.lookup, nm_Table_keeps_own, nm_Table_keeps_wide, nm_Table_keeps_room, nm_Table_keeps_buckets]
theorem nm_Table_nearest_own : (("nearest" : Str) == "own") = false := by decide +kernel
theorem nm_Table_nearest_wide : (("nearest" : Str) == "wide") = false := by decide +kernel
theorem nm_Table_nearest_room : (("nearest" : Str) == "room") = false := by decide +kernel
theorem nm_Table_nearest_buckets : (("nearest" : Str) == "buckets") = false := by decide +kernel
theorem no_Table_nearest {x0 x1 x2 x3 : V} : (f_Table x0 x1 x2 x3).lookup ("nearest" : Str) = none := by
  simp only [f_Table, List.lookup, nm_Table_nearest_own, nm_Table_nearest_wide, nm_Table_nearest_room, nm_Table_nearest_buckets]
theorem ne_Town_wide_room : (("wide" : Str) == "room") = false := by decide +kernel
theorem ne_Town_wide_tables : (("wide" : Str) == "tables") = false := by decide +kernel
theorem ne_Town_wide_hushed : (("wide" : Str) == "hushed") = false := by decide +kernel
theorem eq_Town_wide : (("wide" : Str) == "wide") = true := by decide +kernel
theorem ne_Town_room_wide : (("room" : Str) == "wide") = false := by decide +kernel
theorem ne_Town_room_tables : (("room" : Str) == "tables") = false := by decide +kernel
theorem ne_Town_room_hushed : (("room" : Str) == "hushed") = false := by decide +kernel
theorem eq_Town_room : (("room" : Str) == "room") = true := by decide +kernel
theorem ne_Town_tables_wide : (("tables" : Str) == "wide") = false := by decide +kernel
theorem ne_Town_tables_room : (("tables" : Str) == "room") = false := by decide +kernel
theorem ne_Town_tables_hushed : (("tables" : Str) == "hushed") = false := by decide +kernel
theorem eq_Town_tables : (("tables" : Str) == "tables") = true := by decide +kernel
theorem ne_Town_hushed_wide : (("hushed" : Str) == "wide") = false := by decide +kernel
theorem ne_Town_hushed_room : (("hushed" : Str) == "room") = false := by decide +kernel
theorem ne_Town_hushed_tables : (("hushed" : Str) == "tables") = false := by decide +kernel
theorem eq_Town_hushed : (("hushed" : Str) == "hushed") = true := by decide +kernel
abbrev f_Town (x0 x1 x2 x3 : V) : List (Str × V) := [(("wide" : Str), x0), (("room" : Str), x1), (("tables" : Str), x2), (("hushed" : Str), x3)]
theorem lk_Town_wide {x0 x1 x2 x3 : V} : (f_Town x0 x1 x2 x3).lookup ("wide" : Str) = some x0 := by
  simp only [f_Town, List.lookup, ne_Town_wide_room, ne_Town_wide_tables, ne_Town_wide_hushed, eq_Town_wide]
theorem put_Town_wide {x0 x1 x2 x3 y : V} : putF "wide" y (f_Town x0 x1 x2 x3) = f_Town y x1 x2 x3 := by
  have e : ∀ a b : Str, (a == b) = false → ¬ a = b := fun a b h z => by rw [z] at h; simp at h
  unfold f_Town
  simp only [putF, if_neg (e _ _ ne_Town_room_wide), if_neg (e _ _ ne_Town_tables_wide), if_neg (e _ _ ne_Town_hushed_wide), if_true]
theorem lk_Town_room {x0 x1 x2 x3 : V} : (f_Town x0 x1 x2 x3).lookup ("room" : Str) = some x1 := by
  simp only [f_Town, List.lookup, ne_Town_room_wide, ne_Town_room_tables, ne_Town_room_hushed, eq_Town_room]
theorem put_Town_room {x0 x1 x2 x3 y : V} : putF "room" y (f_Town x0 x1 x2 x3) = f_Town x0 y x2 x3 := by
  have e : ∀ a b : Str, (a == b) = false → ¬ a = b := fun a b h z => by rw [z] at h; simp at h
  unfold f_Town
  simp only [putF, if_neg (e _ _ ne_Town_wide_room), if_neg (e _ _ ne_Town_tables_room), if_neg (e _ _ ne_Town_hushed_room), if_true]
theorem lk_Town_tables {x0 x1 x2 x3 : V} : (f_Town x0 x1 x2 x3).lookup ("tables" : Str) = some x2 := by
  simp only [f_Town, List.lookup, ne_Town_tables_wide, ne_Town_tables_room, ne_Town_tables_hushed, eq_Town_tables]
theorem put_Town_tables {x0 x1 x2 x3 y : V} : putF "tables" y (f_Town x0 x1 x2 x3) = f_Town x0 x1 y x3 := by
  have e : ∀ a b : Str, (a == b) = false → ¬ a = b := fun a b h z => by rw [z] at h; simp at h
  unfold f_Town
  simp only [putF, if_neg (e _ _ ne_Town_wide_tables), if_neg (e _ _ ne_Town_room_tables), if_neg (e _ _ ne_Town_hushed_tables), if_true]
theorem lk_Town_hushed {x0 x1 x2 x3 : V} : (f_Town x0 x1 x2 x3).lookup ("hushed" : Str) = some x3 := by
  simp only [f_Town, List.lookup, ne_Town_hushed_wide, ne_Town_hushed_room, ne_Town_hushed_tables, eq_Town_hushed]
theorem put_Town_hushed {x0 x1 x2 x3 y : V} : putF "hushed" y (f_Town x0 x1 x2 x3) = f_Town x0 x1 x2 y := by
  have e : ∀ a b : Str, (a == b) = false → ¬ a = b := fun a b h z => by rw [z] at h; simp at h
  unfold f_Town
  simp only [putF, if_neg (e _ _ ne_Town_wide_hushed), if_neg (e _ _ ne_Town_room_hushed), if_neg (e _ _ ne_Town_tables_hushed), if_true]
theorem ini_Town_wide { y : V} : putF "wide" y ([] : List (Str × V)) = [(("wide" : Str), y)] := by
  have e : ∀ a b : Str, (a == b) = false → ¬ a = b := fun a b h z => by rw [z] at h; simp at h
  simp only [putF]
theorem ini_Town_room {x0 y : V} : putF "room" y ([(("wide" : Str), x0)] : List (Str × V)) = [(("wide" : Str), x0), (("room" : Str), y)] := by
  have e : ∀ a b : Str, (a == b) = false → ¬ a = b := fun a b h z => by rw [z] at h; simp at h
  simp only [putF, if_neg (e _ _ ne_Town_wide_room)]
theorem ini_Town_tables {x0 x1 y : V} : putF "tables" y ([(("wide" : Str), x0), (("room" : Str), x1)] : List (Str × V)) = [(("wide" : Str), x0), (("room" : Str), x1), (("tables" : Str), y)] := by
  have e : ∀ a b : Str, (a == b) = false → ¬ a = b := fun a b h z => by rw [z] at h; simp at h
  simp only [putF, if_neg (e _ _ ne_Town_wide_tables), if_neg (e _ _ ne_Town_room_tables)]
theorem ini_Town_hushed {x0 x1 x2 y : V} : putF "hushed" y ([(("wide" : Str), x0), (("room" : Str), x1), (("tables" : Str), x2)] : List (Str × V)) = [(("wide" : Str), x0), (("room" : Str), x1), (("tables" : Str), x2), (("hushed" : Str), y)] := by
  have e : ∀ a b : Str, (a == b) = false → ¬ a = b := fun a b h z => by rw [z] at h; simp at h
  simp only [putF, if_neg (e _ _ ne_Town_wide_hushed), if_neg (e _ _ ne_Town_room_hushed), if_neg (e _ _ ne_Town_tables_hushed)]
theorem nm_Town_houses_wide : (("houses" : Str) == "wide") = false := by decide +kernel
theorem nm_Town_houses_room : (("houses" : Str) == "room") = false := by decide +kernel
theorem nm_Town_houses_tables : (("houses" : Str) == "tables") = false := by decide +kernel
theorem nm_Town_houses_hushed : (("houses" : Str) == "hushed") = false := by decide +kernel
theorem no_Town_houses {x0 x1 x2 x3 : V} : (f_Town x0 x1 x2 x3).lookup ("houses" : Str) = none := by
  simp only [f_Town, List.lookup, nm_Town_houses_wide, nm_Town_houses_room, nm_Town_houses_tables, nm_Town_houses_hushed]
theorem nm_Town_answers_wide : (("answers" : Str) == "wide") = false := by decide +kernel
theorem nm_Town_answers_room : (("answers" : Str) == "room") = false := by decide +kernel
theorem nm_Town_answers_tables : (("answers" : Str) == "tables") = false := by decide +kernel
theorem nm_Town_answers_hushed : (("answers" : Str) == "hushed") = false := by decide +kernel
theorem no_Town_answers {x0 x1 x2 x3 : V} : (f_Town x0 x1 x2 x3).lookup ("answers" : Str) = none := by
  simp only [f_Town, List.lookup, nm_Town_answers_wide, nm_Town_answers_room, nm_Town_answers_tables, nm_Town_answers_hushed]
theorem nm_Town_answering_wide : (("answering" : Str) == "wide") = false := by decide +kernel
theorem nm_Town_answering_room : (("answering" : Str) == "room") = false := by decide +kernel
theorem nm_Town_answering_tables : (("answering" : Str) == "tables") = false := by decide +kernel
theorem nm_Town_answering_hushed : (("answering" : Str) == "hushed") = false := by decide +kernel
theorem no_Town_answering {x0 x1 x2 x3 : V} : (f_Town x0 x1 x2 x3).lookup ("answering" : Str) = none := by
  simp only [f_Town, List.lookup, nm_Town_answering_wide, nm_Town_answering_room, nm_Town_answering_tables, nm_Town_answering_hushed]
theorem nm_Town_table_wide : (("table" : Str) == "wide") = false := by decide +kernel
theorem nm_Town_table_room : (("table" : Str) == "room") = false := by decide +kernel
theorem nm_Town_table_tables : (("table" : Str) == "tables") = false := by decide +kernel
theorem nm_Town_table_hushed : (("table" : Str) == "hushed") = false := by decide +kernel
theorem no_Town_table {x0 x1 x2 x3 : V} : (f_Town x0 x1 x2 x3).lookup ("table" : Str) = none := by
  simp only [f_Town, List.lookup, nm_Town_table_wide, nm_Town_table_room, nm_Town_table_tables, nm_Town_table_hushed]
theorem nm_Town_look_awake_wide : (("look_awake" : Str) == "wide") = false := by decide +kernel
theorem nm_Town_look_awake_room : (("look_awake" : Str) == "room") = false := by decide +kernel
theorem nm_Town_look_awake_tables : (("look_awake" : Str) == "tables") = false := by decide +kernel
theorem nm_Town_look_awake_hushed : (("look_awake" : Str) == "hushed") = false := by decide +kernel
theorem no_Town_look_awake {x0 x1 x2 x3 : V} : (f_Town x0 x1 x2 x3).lookup ("look_awake" : Str) = none := by
  simp only [f_Town, List.lookup, nm_Town_look_awake_wide, nm_Town_look_awake_room, nm_Town_look_awake_tables, nm_Town_look_awake_hushed]
theorem nm_Town_look_named_wide : (("look_named" : Str) == "wide") = false := by decide +kernel
theorem nm_Town_look_named_room : (("look_named" : Str) == "room") = false := by decide +kernel
theorem nm_Town_look_named_tables : (("look_named" : Str) == "tables") = false := by decide +kernel
theorem nm_Town_look_named_hushed : (("look_named" : Str) == "hushed") = false := by decide +kernel
theorem no_Town_look_named {x0 x1 x2 x3 : V} : (f_Town x0 x1 x2 x3).lookup ("look_named" : Str) = none := by
  simp only [f_Town, List.lookup, nm_Town_look_named_wide, nm_Town_look_named_room, nm_Town_look_named_tables, nm_Town_look_named_hushed]
theorem nm_Town_bucket_wide : (("bucket" : Str) == "wide") = false := by decide +kernel
theorem nm_Town_bucket_room : (("bucket" : Str) == "room") = false := by decide +kernel
theorem nm_Town_bucket_tables : (("bucket" : Str) == "tables") = false := by decide +kernel
theorem nm_Town_bucket_hushed : (("bucket" : Str) == "hushed") = false := by decide +kernel
theorem no_Town_bucket {x0 x1 x2 x3 : V} : (f_Town x0 x1 x2 x3).lookup ("bucket" : Str) = none := by
  simp only [f_Town, List.lookup, nm_Town_bucket_wide, nm_Town_bucket_room, nm_Town_bucket_tables, nm_Town_bucket_hushed]
theorem nm_Town_keeps_wide : (("keeps" : Str) == "wide") = false := by decide +kernel
theorem nm_Town_keeps_room : (("keeps" : Str) == "room") = false := by decide +kernel
theorem nm_Town_keeps_tables : (("keeps" : Str) == "tables") = false := by decide +kernel
theorem nm_Town_keeps_hushed : (("keeps" : Str) == "hushed") = false := by decide +kernel
theorem no_Town_keeps {x0 x1 x2 x3 : V} : (f_Town x0 x1 x2 x3).lookup ("keeps" : Str) = none := by
  simp only [f_Town, List.lookup, nm_Town_keeps_wide, nm_Town_keeps_room, nm_Town_keeps_tables, nm_Town_keeps_hushed]
theorem nm_Town_tells_wide : (("tells" : Str) == "wide") = false := by decide +kernel
theorem nm_Town_tells_room : (("tells" : Str) == "room") = false := by decide +kernel
theorem nm_Town_tells_tables : (("tells" : Str) == "tables") = false := by decide +kernel
theorem nm_Town_tells_hushed : (("tells" : Str) == "hushed") = false := by decide +kernel
theorem no_Town_tells {x0 x1 x2 x3 : V} : (f_Town x0 x1 x2 x3).lookup ("tells" : Str) = none := by
  simp only [f_Town, List.lookup, nm_Town_tells_wide, nm_Town_tells_room, nm_Town_tells_tables, nm_Town_tells_hushed]
theorem nm_Town_hears_wide : (("hears" : Str) == "wide") = false := by decide +kernel
theorem nm_Town_hears_room : (("hears" : Str) == "room") = false := by decide +kernel
theorem nm_Town_hears_tables : (("hears" : Str) == "tables") = false := by decide +kernel
theorem nm_Town_hears_hushed : (("hears" : Str) == "hushed") = false := by decide +kernel
theorem no_Town_hears {x0 x1 x2 x3 : V} : (f_Town x0 x1 x2 x3).lookup ("hears" : Str) = none := by
  simp only [f_Town, List.lookup, nm_Town_hears_wide, nm_Town_hears_room, nm_Town_hears_tables, nm_Town_hears_hushed]
theorem nm_Town_come_to_wide : (("come_to" : Str) == "wide") = false := by decide +kernel
theorem nm_Town_come_to_room : (("come_to" : Str) == "room") = false := by decide +kernel
theorem nm_Town_come_to_tables : (("come_to" : Str) == "tables") = false := by decide +kernel
theorem nm_Town_come_to_hushed : (("come_to" : Str) == "hushed") = false := by decide +kernel
theorem no_Town_come_to {x0 x1 x2 x3 : V} : (f_Town x0 x1 x2 x3).lookup ("come_to" : Str) = none := by
  simp only [f_Town, List.lookup, nm_Town_come_to_wide, nm_Town_come_to_room, nm_Town_come_to_tables, nm_Town_come_to_hushed]
theorem nm_Town_ask_wide : (("ask" : Str) == "wide") = false := by decide +kernel
theorem nm_Town_ask_room : (("ask" : Str) == "room") = false := by decide +kernel
theorem nm_Town_ask_tables : (("ask" : Str) == "tables") = false := by decide +kernel
theorem nm_Town_ask_hushed : (("ask" : Str) == "hushed") = false := by decide +kernel
theorem no_Town_ask {x0 x1 x2 x3 : V} : (f_Town x0 x1 x2 x3).lookup ("ask" : Str) = none := by
  simp only [f_Town, List.lookup, nm_Town_ask_wide, nm_Town_ask_room, nm_Town_ask_tables, nm_Town_ask_hushed]
theorem nm_Town_way_wide : (("way" : Str) == "wide") = false := by decide +kernel
theorem nm_Town_way_room : (("way" : Str) == "room") = false := by decide +kernel
theorem nm_Town_way_tables : (("way" : Str) == "tables") = false := by decide +kernel
theorem nm_Town_way_hushed : (("way" : Str) == "hushed") = false := by decide +kernel
theorem no_Town_way {x0 x1 x2 x3 : V} : (f_Town x0 x1 x2 x3).lookup ("way" : Str) = none := by
  simp only [f_Town, List.lookup, nm_Town_way_wide, nm_Town_way_room, nm_Town_way_tables, nm_Town_way_hushed]
theorem nm_Town_visit_wide : (("visit" : Str) == "wide") = false := by decide +kernel
theorem nm_Town_visit_room : (("visit" : Str) == "room") = false := by decide +kernel
theorem nm_Town_visit_tables : (("visit" : Str) == "tables") = false := by decide +kernel
theorem nm_Town_visit_hushed : (("visit" : Str) == "hushed") = false := by decide +kernel
theorem no_Town_visit {x0 x1 x2 x3 : V} : (f_Town x0 x1 x2 x3).lookup ("visit" : Str) = none := by
  simp only [f_Town, List.lookup, nm_Town_visit_wide, nm_Town_visit_room, nm_Town_visit_tables, nm_Town_visit_hushed]
theorem nm_Town_come_wide : (("come" : Str) == "wide") = false := by decide +kernel
theorem nm_Town_come_room : (("come" : Str) == "room") = false := by decide +kernel
theorem nm_Town_come_tables : (("come" : Str) == "tables") = false := by decide +kernel
theorem nm_Town_come_hushed : (("come" : Str) == "hushed") = false := by decide +kernel
theorem no_Town_come {x0 x1 x2 x3 : V} : (f_Town x0 x1 x2 x3).lookup ("come" : Str) = none := by
  simp only [f_Town, List.lookup, nm_Town_come_wide, nm_Town_come_room, nm_Town_come_tables, nm_Town_come_hushed]
theorem nm_Town_go_wide : (("go" : Str) == "wide") = false := by decide +kernel
theorem nm_Town_go_room : (("go" : Str) == "room") = false := by decide +kernel
theorem nm_Town_go_tables : (("go" : Str) == "tables") = false := by decide +kernel
theorem nm_Town_go_hushed : (("go" : Str) == "hushed") = false := by decide +kernel
theorem no_Town_go {x0 x1 x2 x3 : V} : (f_Town x0 x1 x2 x3).lookup ("go" : Str) = none := by
  simp only [f_Town, List.lookup, nm_Town_go_wide, nm_Town_go_room, nm_Town_go_tables, nm_Town_go_hushed]
theorem nm_Town_hush_wide : (("hush" : Str) == "wide") = false := by decide +kernel
theorem nm_Town_hush_room : (("hush" : Str) == "room") = false := by decide +kernel
theorem nm_Town_hush_tables : (("hush" : Str) == "tables") = false := by decide +kernel
theorem nm_Town_hush_hushed : (("hush" : Str) == "hushed") = false := by decide +kernel
theorem no_Town_hush {x0 x1 x2 x3 : V} : (f_Town x0 x1 x2 x3).lookup ("hush" : Str) = none := by
  simp only [f_Town, List.lookup, nm_Town_hush_wide, nm_Town_hush_room, nm_Town_hush_tables, nm_Town_hush_hushed]
theorem nm_Town_wake_wide : (("wake" : Str) == "wide") = false := by decide +kernel
theorem nm_Town_wake_room : (("wake" : Str) == "room") = false := by decide +kernel
theorem nm_Town_wake_tables : (("wake" : Str) == "tables") = false := by decide +kernel
theorem nm_Town_wake_hushed : (("wake" : Str) == "hushed") = false := by decide +kernel
theorem no_Town_wake {x0 x1 x2 x3 : V} : (f_Town x0 x1 x2 x3).lookup ("wake" : Str) = none := by
  simp only [f_Town, List.lookup, nm_Town_wake_wide, nm_Town_wake_room, nm_Town_wake_tables, nm_Town_wake_hushed]
end Nn
/-! A made function that outlives the def that made it: its cells are tracked from the maker's end on. -/
namespace Nn
open PySem PySem.Spec PyProof.Rows L2 NdefX LamX
/-- a cell that holds v -/
def CellO (c : Addr) (v : V) : HO := .ext fun h => ∃ u, L2.RelV v u ∧ h.IsCell c (some u)
theorem cellO_ok {P : Program} {w : World} {H : Hp} {h : Heap} {c : Addr} {v : V} {u : Value} (r : L2.RelV v u) (e : h.IsCell c (some u)) : ObjOk P w H h c (CellO c v) := by
  obtain ⟨o, ho, hd⟩ := e
  exact ⟨⟨u, r, o, ho, hd⟩, ⟨o, ho⟩, fun h1 h2 ⟨u1, r1, o1, h3, h4⟩ k => ⟨u1, r1, o1, k _ h3, h4⟩⟩
/-- the cells of a function are tracked: they hold vs -/
structure CellsT (H : Hp) (cl : List (Str × Addr)) (fr : List Str) (vs : List V) : Prop where
  len : vs.length = fr.length
  all : ∀ y c, cl.lookup y = some c → ∃ v, H c = some (CellO c v)
  inj : ∀ x y c, cl.lookup x = some c → cl.lookup y = some c → x = y
  has : ∀ (i : Nat) (y : Str), fr[i]? = some y → ∃ c v, cl.lookup y = some c ∧ vs[i]? = some v ∧ H c = some (CellO c v)
open Classical in
noncomputable def strip (H : Hp) (cl : List (Str × Addr)) : Hp := fun b => if ∃ y, cl.lookup y = some b then none else H b
open Classical in
noncomputable def relay (H H' : Hp) (cl : List (Str × Addr)) : Hp := fun b => if ∃ y, cl.lookup y = some b then H b else H' b
section
variable {H H' : Hp} {cl : List (Str × Addr)} {fr : List Str} {vs : List V} {a : Addr} {o : HO}
theorem strip_in {y : Str} (h : cl.lookup y = some a) : strip H cl a = none := by unfold strip; rw [if_pos ⟨y, h⟩]
theorem strip_out (h : ¬ ∃ y, cl.lookup y = some a) : strip H cl a = H a := by unfold strip; rw [if_neg h]
theorem relay_in {y : Str} (h : cl.lookup y = some a) : relay H H' cl a = H a := by unfold relay; rw [if_pos ⟨y, h⟩]
theorem relay_out (h : ¬ ∃ y, cl.lookup y = some a) : relay H H' cl a = H' a := by unfold relay; rw [if_neg h]
theorem CellsT.no (C : CellsT H cl fr vs) (h : H a = some o) (n : NX o) : ¬ ∃ y, cl.lookup y = some a := fun ⟨y, e⟩ => by
  obtain ⟨v, hv⟩ := C.all y a e
  rw [h] at hv
  have hv := Option.some.inj hv
  rw [hv] at n
  exact n
/-- what is no cell stays in sight -/
theorem strip_at (C : CellsT H cl fr vs) (h : H a = some o) (n : NX o := by trivial) : strip H cl a = some o := by rw [strip_out (C.no h n)]; exact h
theorem strip_none (h : H a = none) : strip H cl a = none := by
  by_cases e : ∃ y, cl.lookup y = some a
  · obtain ⟨y, e⟩ := e; exact strip_in e
  · rw [strip_out e]; exact h
theorem relay_at (C : CellsT H cl fr vs) (f : strip H cl a = none → H' a = none) (h : H' a = some o) : relay H H' cl a = some o := by
  by_cases e : ∃ y, cl.lookup y = some a
  · obtain ⟨y, e⟩ := e
    rw [f (strip_in e)] at h; cases h
  · rw [relay_out e]; exact h
theorem relay_strip : relay H (strip H cl) cl = H := funext fun a => by
  by_cases e : ∃ y, cl.lookup y = some a
  · obtain ⟨y, e⟩ := e; exact relay_in e
  · rw [relay_out e, strip_out e]
/-- no cell is a code object -/
def Sep (H : Hp) (cl : List (Str × Addr)) : Prop := ∀ y a, cl.lookup y = some a → ∀ q, H a ≠ some (CodeO a q)
/-- the call leaves the cells untold -/
def Shut (H' : Hp) (cl : List (Str × Addr)) : Prop := ∀ y a, cl.lookup y = some a → H' a = none
/-- how the heap goes on over a call of the function -/
theorem CellsT.goes {S : Addr → Prop} (C : CellsT H cl fr vs) (se : Sep H cl) (sh : Shut H' cl) (f : Fr S (strip H cl) H') : Fr S H (relay H H' cl) where
  keep := fun a o h n s => by
    by_cases e : ∃ y, cl.lookup y = some a
    · obtain ⟨y, e⟩ := e
      rw [relay_in e]; exact h
    · rw [relay_out e]
      exact f.keep a o (by rw [strip_out e]; exact h) n s
  tab := fun P ⟨ps, h1, h2, h3⟩ => by
    have noP : ∀ {Hx : Hp} {qs : Array Value}, Hx P = some (.tbl qs) → (∀ y, cl.lookup y = some P → Hx P = none ∨ ∃ v, Hx P = some (CellO P v)) → ¬ ∃ y, cl.lookup y = some P := fun {Hx qs} e k ⟨y, hy⟩ => by
      rcases k y hy with z | ⟨v, z⟩
      · rw [e] at z; cases z
      · rw [e] at z
        have z := Option.some.inj z
        unfold CellO at z
        cases z
    have n1 := noP h1 fun y hy => .inr (C.all y P hy)
    have t1 : TabN (strip H cl) P nmAll := ⟨ps, by rw [strip_out n1]; exact h1, h2, fun pos cv hc => by
      obtain ⟨c, e1, e2⟩ := h3 pos cv hc
      refine ⟨c, e1, ?_⟩
      rw [strip_out fun ⟨y, hy⟩ => se y c hy _ e2]
      exact e2⟩
    obtain ⟨qs, g1, g2, g3⟩ := f.tab P t1
    have n2 := noP g1 fun y hy => .inl (sh y P hy)
    refine ⟨qs, by rw [relay_out n2]; exact g1, g2, fun pos cv hc => ?_⟩
    obtain ⟨c, e1, e2⟩ := g3 pos cv hc
    refine ⟨c, e1, ?_⟩
    rw [relay_out fun ⟨y, hy⟩ => by rw [sh y c hy] at e2; cases e2]
    exact e2
  back := fun a h => by
    by_cases e : ∃ y, cl.lookup y = some a
    · obtain ⟨y, e⟩ := e
      rw [relay_in e] at h; exact h
    · rw [relay_out e] at h
      have q := f.back a h
      rw [strip_out e] at q
      exact q
theorem CellsT.ex (C : CellsT H cl fr vs) (e : ∀ a o, H a = some o → NT o → H' a = some o) : CellsT H' cl fr vs :=
  ⟨C.len, fun y c h => let ⟨v, z⟩ := C.all y c h; ⟨v, e _ _ z trivial⟩, C.inj, fun i y h => let ⟨c, v, h1, h2, h3⟩ := C.has i y h; ⟨c, v, h1, h2, e _ _ h3 trivial⟩⟩
end
section
variable {P : Program} {w : World} {K : PySem.W.Frag} {mg : Str → Option Value} {base : Heap} {k : Nat} {f : Addr} {F : NF} {ps fr : List Str} {sp : List (Option V) → Sp}
theorem run_T (Fn : NOk P w K mg base CX0 k f F ps fr sp) {A : Around} {outer : List Env} {s : Shared} {H : Hp} {us : List Value} {vs zs : List V} {Q : VK} {E : XK} (hr : Room k A) (e0 : Env0 P w K mg base A outer s H) (hf : H f = some (FnO f F)) (hc : H F.c = some (CodeO F.c F.qual)) (C : CellsT H F.cl fr zs) (r : Vals vs us)
    (h : Sep H F.cl → sp (zs.map some) vs (strip H F.cl) (fun v H' => Shut H' F.cl → Q v (relay H H' F.cl)) E) : codeAny (model P w) A (.call (.ref f) ⟨us, []⟩) (CR CX0 outer P w H s Q E) s := by
  have cellAt : ∀ y a, F.cl.lookup y = some a → ∃ v u, H a = some (CellO a v) ∧ L2.RelV v u ∧ s.heap.IsCell a (some u) := fun y a e => by
    obtain ⟨v, hv⟩ := C.all y a e
    obtain ⟨⟨u, r1, z⟩, _, _⟩ := e0.hok a _ hv
    exact ⟨v, u, hv, r1, z⟩
  have noFn : ¬ ∃ y, F.cl.lookup y = some f := fun ⟨y, e⟩ => by
    obtain ⟨v, u, _, _, o, ho, hd⟩ := cellAt y f e
    obtain ⟨od, sl, doc, pm, ctv, z⟩ := fnO_at e0.hok hf
    rw [z] at ho; cases ho; cases hd
  have sep : Sep H F.cl := fun y a e q z => by
    obtain ⟨v, u, _, _, o, ho, hd⟩ := cellAt y a e
    obtain ⟨c, oc, ws, t, e1, e2, e3, _⟩ := codeO_at e0.hok z
    cases e1
    rw [e2] at ho; cases ho
    rw [hd] at e3; cases e3
  have noC : ¬ ∃ y, F.cl.lookup y = some F.c := fun ⟨y, e⟩ => sep y _ e _ hc
  have outOf : ∀ {b : Addr} {o : HO}, H b = some o → (∀ v, o ≠ CellO b v) → strip H F.cl b = some o := fun {b o} e n => by
    rw [strip_out fun ⟨y, z⟩ => by
      obtain ⟨v, hv⟩ := C.all y b z
      rw [e] at hv
      exact n v (Option.some.inj hv)]
    exact e
  have hok1 : HOk P w (strip H F.cl) s.heap := fun a o q => by
    have na : ¬ ∃ y, F.cl.lookup y = some a := fun ⟨y, z⟩ => by rw [strip_in z] at q; cases q
    rw [strip_out na] at q
    refine (e0.hok a o q).stay (fun _ _ _ z => z) (fun b z => outOf z fun v q => ?_) (fun b xs z => outOf z fun v q => ?_)
    · unfold CellO at q; cases q
    · unfold CellO at q; cases q
  have e1 : Env0 P w K mg base A outer s (strip H F.cl) := ⟨e0.frames, e0.mod, fun b o q => ⟨(e0.bs b o q).1, strip_none (e0.bs b o q).2⟩, e0.bsz, e0.funs, fun b q => strip_none (e0.frf b q), hok1, e0.bare⟩
  have C1 : CellsAt F.cl fr (zs.map some) s.heap (strip H F.cl) := ⟨by rw [List.length_map]; exact C.len, fun y c e => by
      obtain ⟨v, u, _, _, z⟩ := cellAt y c e
      exact ⟨strip_in e, _, z⟩, C.inj, fun i y e => by
      obtain ⟨c, v, h1, h2, h3⟩ := C.has i y e
      refine ⟨c, h1, fun v' hv' => ?_⟩
      rw [List.getElem?_map, h2] at hv'
      cases hv'
      obtain ⟨⟨u, r1, z⟩, _, _⟩ := e0.hok c _ h3
      exact ⟨u, r1, z⟩⟩
  refine codeAny_mono (Fn.run A outer s (strip H F.cl) us vs (zs.map some) _ E hr e1 (by rw [strip_out noFn]; exact hf) (by rw [strip_out noC]; exact hc) C1 r (h sep)) fun rr s' hq => ?_
  cases rr with
  | error e => exact hq
  | ok fl =>
    cases fl with
    | next => exact hq
    | brk => exact hq
    | cont => exact hq
    | ret u =>
      obtain ⟨v, H', os, bare, un, hok, rv, q⟩ := hq
      have shut : Shut H' F.cl := fun y a e => by
        obtain ⟨_, _, _, _, o, ho, _⟩ := cellAt y a e
        exact un.free a o ho (strip_in e) (by simp)
      have key : ∀ {b : Addr} {o o' : HO}, H b = some o → (∀ v, o ≠ CellO b v) → (strip H F.cl b = some o → H' b = some o') → relay H H' F.cl b = some o' := fun {b o o'} e n g => by
        have z := outOf e n
        have z' : ¬ ∃ y, F.cl.lookup y = some b := fun ⟨y, q⟩ => by rw [strip_in q] at z; cases z
        rw [relay_out z']
        exact g z
      have un2 : Un (frs outer) [] H (relay H H' F.cl) s.heap s'.heap := by
        refine ⟨fun b o e n => un.keep b o e (strip_none n), fun b o e n => un.slot b o e (strip_none n), fun b o e n hx => ?_, un.there, fun b xs e => ?_, fun b o u e => ?_, fun b ps e => ?_⟩
        · by_cases z : ∃ y, F.cl.lookup y = some b
          · obtain ⟨y, z⟩ := z
            rw [relay_in z]; exact n
          · rw [relay_out z]; exact un.free b o e (strip_none n) hx
        · exact key e (fun v q => by unfold CellO at q; cases q) (un.tups b xs)
        · exact key e (fun v q => by unfold CellO at q; cases q) (un.frzs b o u)
        · have z := outOf e fun v q => by unfold CellO at q; cases q
          obtain ⟨more, hm⟩ := un.tbls b ps z
          exact ⟨more, key e (fun v q => by unfold CellO at q; cases q) fun _ => hm⟩
      have inR : ∀ {b : Addr} {o : HO}, H' b = some o → relay H H' F.cl b = some o := fun {b o} e => by
        rw [relay_out fun ⟨y, z⟩ => by rw [shut y b z] at e; cases e]
        exact e
      refine ⟨v, relay H H' F.cl, os, bare, un2, fun a o e => ?_, rv, q shut⟩
      by_cases z : ∃ y, F.cl.lookup y = some a
      · obtain ⟨y, z⟩ := z
        rw [relay_in z] at e
        obtain ⟨v1, u1, h1, r1, ob, ho, hd⟩ := cellAt y a z
        rw [h1] at e; cases e
        have nf : a ∉ frs outer := fun q => by rw [e0.frf a q] at h1; cases h1
        exact cellO_ok r1 ⟨ob, un.keep a ob ho (strip_in z) nf (by simp), hd⟩
      · rw [relay_out z] at e
        exact (hok a o e).stay (fun _ _ _ q => q) (fun b q => inR q) fun b xs q => inR q
/-- f(..), f a name that holds a function whose cells are tracked -/
def tCallT (F : NF) (i : Nat) (fr : List Str) (sp : Addr → List (Option V) → Sp) (t : TA) : TE := fun σ H Q => ∃ f zs, σ[i]? = some (some (.ref f)) ∧ H f = some (FnO f F) ∧
  t σ H fun vs H1 => H1 f = some (FnO f F) ∧ H1 F.c = some (CodeO F.c F.qual) ∧ CellsT H1 F.cl fr zs ∧ (Sep H1 F.cl → sp f (zs.map some) vs (strip H1 F.cl) (fun v H' => Shut H' F.cl → Q v (relay H1 H' F.cl)) E0)
theorem pe_callT {X : Cx} {i j : Nat} {x : Str} {p pos : Pos} {e : Expr} {es : List Expr} {t : TA} {sp : Addr → List (Option V) → Sp} (Fn : ∀ f, NOk X.prog X.w X.K X.mg X.base CX0 k f F ps fr (sp f)) (hr : Room j X.A) (hk : k ≤ j) (hN : X.N[i]? = some x) (hv : Vis X.env.scope x) (ha : PA X (e :: es) t)
    (hd : (x == ("__debug__" : Str)) = false := by decide) (hcd : (x == ("__classdict__" : Str)) = false := by decide)
    (he : starEach (e :: es) X.env = (false, eval e X.env) :: starEach es X.env := by rfl) (hpl : (backTo pos (starEach es X.env)).any (·.1) = false := by rfl) :
    PE X (.Call (.Name x p) (e :: es) [] pos) (tCallT F i fr sp t) := by
  refine ⟨fun pins s σ H Q I h => ?_⟩
  obtain ⟨f, zs, hs, hf, ht⟩ := h
  refine wpAny_Call_Name_kw (thn ((pe_var (pos := p) hN hv hd hcd).run pins s σ H (fun v H1 => v = .ref f ∧ H1 = H) I ⟨.ref f, hs, rfl, rfl⟩) fun u s1 ⟨v, H1, I1, r1, q1⟩ => ?_)
  obtain ⟨ev, eH⟩ := q1
  subst ev
  rw [eH] at I1
  obtain rfl : u = Value.ref f := r1
  refine PySem.W.callWith_F (first := []) (fnAt_of I1 hf) (thn (ha.run pos pins s1 σ H _ I1 ht) fun us s2 ⟨vs, H2, I2, r, h1, h2, C, q⟩ => ⟨fnAt_of I2 h1, ?_⟩) he hpl
  show wpAny _ _ (call (.ref f) us) _ _ _
  refine wpAny_call (codeAny_mono (run_T (Fn f) (hr.mono hk) I2.env0 h1 h2 C r q) fun r s' hq => ?_)
  cases r with
  | error e => exact False.elim hq
  | ok fl =>
    cases fl with
    | ret u => exact I2.after hq
    | next => exact False.elim hq
    | brk => exact False.elim hq
    | cont => exact False.elim hq
end
end Nn

/-! A def that makes a function and tells it. -/
namespace Nn
open PySem PySem.Spec PyProof.Rows L2 NdefX LamX
/-- a def whose code object is known -/
structure FunC (K : PySem.W.Frag) (x qual : Str) (st : Stmt) (f : Addr) (fd : FuncData) (c : Addr) : Prop where
  ex : ∃ (oc : Value) (od : Option Addr) (kV doc pm : Value) (an : Option Addr) (ct : Value) (osl : Array (Option Value)),
    fd = PySem.W.fnOf x qual (defArgs st) (defBody st) (defScope st) .none kV doc pm an (.ref c) ct ∧ K.lookup f = some ⟨oc, od, .func fd, osl⟩ ∧ PySem.W.codeIn K (.ref c) qual = true
theorem func_of {K : PySem.W.Frag} {x qual : Str} {st : Stmt} {p : He.Defn} {fd : FuncData} (F : FunD K x qual (defArgs st) (defBody st) (defScope st) [] [] (He.fAd K p) fd) : FunC K x qual st (He.fAd K p) fd (He.codeOf K p) := by
  obtain ⟨oc, od, dV, kV, doc, pm, an, cdv, ct, osl, rfl, lk, hcd, hD, hK⟩ := F.ex
  rcases hD with ⟨_, rfl⟩ | ⟨e, _⟩
  · obtain ⟨c, rfl⟩ := He.codeIn_ref hcd
    rw [He.codeOf_eq lk rfl]
    exact ⟨oc, od, kV, doc, pm, an, ct, osl, rfl, lk, hcd⟩
  · exact absurd rfl e
theorem FunC.okC {P : Program} {w : World} {K : PySem.W.Frag} {mg : Str → Option Value} {base : Heap} {x qual : Str} {st : Stmt} {f c : Addr} {fd : FuncData} {N ps : List Str} {k : Nat} {sp : Sp} (F : FunC K x qual st f fd c) (S : FnScope N ps (defScope st)) (len : ∀ vs H Q E, sp vs H Q E → vs.length = ps.length)
    (hbody : ∀ (A : Around) (outer : List Env) (s : Shared) (H : Hp) (vs : List V) (Q : VK) (E : XK), Room k (A.deeper (envOfC qual (defScope st) s.heap.objs.size f (.ref c))) → sp vs H Q E →
      ∃ t, PSs (cxOf CX0 P w K mg base N qual (defScope st) f (.ref c) A outer s H E).nox (defBody st) t ∧ t { nx := fun _ H' => Q .non H', rt := Q } (start N vs) H) : FnOk P w K mg base CX0 (k + 1) f fd ps sp := by
  obtain ⟨oc, od, kV, doc, pm, an, ct, osl, rfl, lk, hcd⟩ := F.ex
  refine fn_of lk hcd S len fun A outer s H vs Q E hr hsp => ?_
  obtain ⟨t, h, q⟩ := hbody A outer s H vs Q E hr hsp
  exact ⟨t, h.nox, q⟩
/-- the reading of a nested def: all tables are told of -/
def tNdefA (P : Addr) (i : Nat) (mk : Addr → NF) : TS := fun D σ H => TabN H P nmAll ∧ ∀ (f c' : Addr) (H1 : Hp), Ex H H1 → H f = none → H1 f = some (FnO f (mk c')) → H1 c' = some (CodeO c' (mk c').qual) → D.nx (σ.set i (some (.ref f))) H1
open Classical in
theorem ps_ndefA {X : Cx} {st : Stmt} {c P : Addr} {name : Str} {pos : Pos} {i : Nat} (hst : st = .FunctionDef name (C8.fnArgs st) (C8.fnBody st) [] none [] (C8.fnScope st) none name pos) (TB : TabB X.base X.mg c P) (hcode : X.env.code = .ref c) (hn : nmAll pos.line pos.col = X.env.qual ++ name)
    (hfree : ∀ y ∈ (C8.fnScope st).names, y.2 = .free → X.env.scope.names.lookup y.1 = some .cell ∨ X.env.scope.names.lookup y.1 = some .free) (hd0 : (C8.fnArgs st).defaults = []) (hk0 : (C8.fnArgs st).kw_defaults = []) (ha : annTrees (C8.fnArgs st) none X.env = [])
    (hN : X.N.Nodup) (hi : X.N[i]? = some name) (hx : Loc X.env.scope name) (hf : X.fn name = true ∨ X.env.scope.names.lookup name = some .local) :
    PS X st (tNdefA P i (NF.of st name (X.env.qual ++ name) (cloFrom X.env.cells (C8.fnScope st).names []))) := by
  refine ⟨fun pins s σ H D I h => ?_⟩
  obtain ⟨hT, h⟩ := h
  have lt : ∀ P', TabN H P' nmAll → P' < s.heap.objs.size := fun P' ⟨ps, e, _⟩ => I.hok.lt e
  have mem : ∀ P', TabN H P' nmAll → (P', nmAll) ∈ ((List.range s.heap.objs.size).filter fun P' => decide (TabN H P' nmAll)).map fun P' => (P', nmAll) := fun P' t =>
    List.mem_map.mpr ⟨P', List.mem_filter.mpr ⟨List.mem_range.mpr (lt P' t), decide_eq_true t⟩, rfl⟩
  refine (ps_ndefMS (T := ((List.range s.heap.objs.size).filter fun P' => decide (TabN H P' nmAll)).map fun P' => (P', nmAll)) (nm := nmAll) hst TB hcode (mem P hT) hn (fun p hp _ => ?_) hfree hd0 hk0 ha hN hi hx hf).run pins s σ H D I ⟨fun p hp => ?_, fun f c' H1 eN nn T1 f0 f1 c1 => h f c' H1 ⟨fun a o e n _ => eN a o e fun ps z => by rw [z] at n; exact n, fun P' t => T1 _ (mem P' t), nn⟩ f0 f1 c1⟩
  · obtain ⟨_, _, rfl⟩ := List.mem_map.mp hp; rfl
  · obtain ⟨P', hp2, rfl⟩ := List.mem_map.mp hp
    have q := (List.mem_filter.mp hp2).2
    simpa using q
open Classical in
noncomputable def layC (H : Hp) (cl : List (Str × Addr)) (fr : List Str) (zs : List V) : Hp := fun b =>
  if h : ∃ v, ∃ (i : Nat) (y : Str), fr[i]? = some y ∧ cl.lookup y = some b ∧ zs[i]? = some v then some (CellO b h.choose) else H b
theorem slot_set {σ : L2.St} {i j : Nat} {v : Option V} (h : i ≠ j) : NdefX.slotAt (σ.set i v) j = NdefX.slotAt σ j := by
  unfold NdefX.slotAt
  rw [List.getElem?_set_ne h]
theorem FunC.okMk {P : Program} {w : World} {K : PySem.W.Frag} {mg : Str → Option Value} {base : Heap} {x qual nm : Str} {st st1 : Stmt} {p1 p2 pos : Pos} {f c Pt : Addr} {fd : FuncData} {N ps fr : List Str} {js : List Nat} {i k : Nat} {sp : Sp}
    (F : FunC K x qual st f fd c) (S : FnScope N ps (defScope st)) (hb : defBody st = [st1, .Return (some (.Name nm p1)) p2]) (TB : TabB base mg c Pt) (hst : st1 = .FunctionDef nm (C8.fnArgs st1) (C8.fnBody st1) [] none [] (C8.fnScope st1) none nm pos)
    (hn : nmAll pos.line pos.col = (qual ++ ".<locals>.") ++ nm) (hB : ndefB (defScope st) (C8.fnScope st1) fr = true) (hfa : ∀ y ∈ (C8.fnScope st1).names, y.2 = .free → y.1 ∈ fr) (nd : fr.Nodup) (hd0 : (C8.fnArgs st1).defaults = []) (hk0 : (C8.fnArgs st1).kw_defaults = [])
    (ha : ∀ env, annTrees (C8.fnArgs st1) none env = []) (hi : N[i]? = some nm) (hloc : (defScope st).names.lookup nm = some .local) (hjs : js.map (fun j => N[j]?) = fr.map some) (hji : i ∉ js) (len : ∀ vs H Q E, sp vs H Q E → vs.length = ps.length)
    (hsp : ∀ vs H Q E, sp vs H Q E → TabN H Pt nmAll ∧ ∃ zs : List V, js.map (NdefX.slotAt (start N vs)) = zs.map some ∧ ∀ f' cl c' H', Ex H H' → H f' = none →
      H' f' = some (FnO f' (NF.of st1 nm ((qual ++ ".<locals>.") ++ nm) cl c')) → H' c' = some (CodeO c' ((qual ++ ".<locals>.") ++ nm)) → CellsT H' cl fr zs → Q (.ref f') H')
    (hnd : (nm == ("__debug__" : Str)) = false := by decide) (hcd' : (nm == ("__classdict__" : Str)) = false := by decide) : FnOk P w K mg base CX0 (k + 1) f fd ps sp := by
  obtain ⟨oc, od, kV, doc, pm, an, ct, osl, rfl, lk, hcd⟩ := F.ex
  refine ⟨len, fun A outer s H args us vs Q E hr e0 hbi r hs0 => ?_⟩
  have hl := len _ _ _ _ hs0
  have KX : K.In s.heap := e0.mod.kin.keeps fun b o e => (e0.bs b o e).1
  have lim : s.heap.NoLimit := e0.mod.nolimit.keeps fun b o e => (e0.bs b o e).1
  have hkind : ∀ y ∈ ps.zip us, (defScope st).names.lookup y.1 = some .local ∨ ((defScope st).names.lookup y.1 = some .cell ∧ ((cellsFrom (s.heap.objs.size + 1) (defScope st).names []).lookup y.1).isSome = true) := fun ⟨n, v⟩ hy => by
    rcases S.par n (List.of_mem_zip hy).1 with q | q
    · exact .inl q
    · exact .inr ⟨q, PySem.W.cellsFrom_some _ _ _ (.inl q)⟩
  refine codeAny_call_function hr.depth (KX _ _ lk) rfl S.co S.gen rfl (PySem.W.codeRec_of KX hcd) (hbi _ _ _ _ ?_)
  refine wpAny_newFunctionEnv_cells S.kind hkind fun env he s1 x => ?_
  subst he
  refine ⟨lim.keeps x.toInCall.keep, codeAny_func ?_⟩
  have I : Inv (cxOf CX0 P w K mg base N qual (defScope st) f (.ref c) A outer s H E) [] (start N vs) H s1 := inv_start S hr.hd e0 hl r x
  obtain ⟨hT3, zs, hz, hend⟩ := hsp vs H Q E hs0
  have h1 := ps_ndefA (X := cxOf CX0 P w K mg base N qual (defScope st) f (.ref c) A outer s H E) (i := i) hst TB rfl hn (ndef_free hB) hd0 hk0 (ha _) S.nd hi (.inl hloc) (.inl rfl)
  rw [hb]
  refine wpAny_execs_cons (wpAny_mono (h1.run [] s1 (start N vs) H { nx := fun σ' H1 => ∃ f' c', σ' = (start N vs).set i (some (.ref f')) ∧ Ex H H1 ∧ H f' = none ∧ H1 f' = some (FnO f' (NF.of st1 nm ((qual ++ ".<locals>.") ++ nm) (cloFrom (cellsFrom (s.heap.objs.size + 1) (defScope st).names []) (C8.fnScope st1).names []) c')) ∧ H1 c' = some (CodeO c' ((qual ++ ".<locals>.") ++ nm)), rt := fun _ _ => False } I
    ⟨hT3, fun f' c' H1 eN f0 f1 c1 => ⟨f', c', rfl, eN, f0, f1, c1⟩⟩) (fun fl s2 hs => ?_) fun e s' hs => hs)
  cases fl with
  | ret u => obtain ⟨_, _, _, _, _, q⟩ := hs; exact q.elim
  | brk => obtain ⟨_, _, _, q⟩ := hs; exact q.elim
  | cont => obtain ⟨_, _, _, q⟩ := hs; exact q.elim
  | next =>
    obtain ⟨σ', H1, J, f', c', rfl, eN, f0, f1, c1⟩ := hs
    have hlen : i < (start N vs).length := by
      have q := I.len
      rw [q]
      exact (List.getElem?_eq_some_iff.mp hi).1
    refine wpAny_execs_cons (wpAny_Return_some (thn ((pe_var (X := cxOf CX0 P w K mg base N qual (defScope st) f (.ref c) A outer s H E) (pos := p1) hi (.inl hloc) hnd hcd').run [] s2 _ H1 (fun v H2 => v = .ref f' ∧ H2 = H1) J ⟨.ref f', List.getElem?_set_self hlen, rfl, rfl⟩) fun u s3 ⟨v, H2, J2, rv, ev, eH⟩ => ?_))
    subst ev
    rw [eH] at J2
    have cp : Caps (cxOf CX0 P w K mg base N qual (defScope st) f (.ref c) A outer s H E) (cloFrom (cellsFrom (s.heap.objs.size + 1) (defScope st).names []) (C8.fnScope st1).names []) fr js := Caps.made J2.ok (ndef_free hB) (ndef_fr hB) hjs
    have C := cells_of J2 cp
    have eσ : js.map (NdefX.slotAt ((start N vs).set i (some (.ref f')))) = zs.map some := by
      rw [← hz]
      exact List.map_congr_left fun j hj => slot_set fun e => hji (e ▸ hj)
    rw [eσ] at C
    generalize hcl : cloFrom (cellsFrom (s.heap.objs.size + 1) (defScope st).names []) (C8.fnScope st1).names [] = cl at f1 C cp
    have new : ∀ y b, cl.lookup y = some b → s.heap.objs.size ≤ b := fun y b e => J2.ok.cab y b rfl (cp.sub y b e)
    have hH1 : ∀ y b, cl.lookup y = some b → H1 b = none := fun y b e => (C.all y b e).1
    have spec : ∀ {b : Addr} {v : V}, (∃ (i : Nat) (y : Str), fr[i]? = some y ∧ cl.lookup y = some b ∧ zs[i]? = some v) → ∃ u, L2.RelV v u ∧ s3.heap.IsCell b (some u) := fun {b v} ⟨j, y, h1, h2, h3⟩ => by
      obtain ⟨a, ha, hv⟩ := C.has j y h1
      rw [h2] at ha; cases ha
      exact hv v (by rw [List.getElem?_map, h3]; rfl)
    have outL : ∀ {b : Addr}, (¬ ∃ y, cl.lookup y = some b) → layC H1 cl fr zs b = H1 b := fun {b} n => by
      unfold layC
      rw [dif_neg]
      rintro ⟨v, j, y, _, h2, _⟩
      exact n ⟨y, h2⟩
    have atL : ∀ {b : Addr} {o : HO}, H1 b = some o → layC H1 cl fr zs b = some o := fun {b o} e => by
      rw [outL fun ⟨y, z⟩ => by rw [hH1 y b z] at e; cases e]
      exact e
    have inL : ∀ {b : Addr} {v : V} {j : Nat} {y : Str}, fr[j]? = some y → cl.lookup y = some b → zs[j]? = some v → layC H1 cl fr zs b = some (CellO b v) := fun {b v j y} h1 h2 h3 => by
      have hx : ∃ v, ∃ (i : Nat) (y : Str), fr[i]? = some y ∧ cl.lookup y = some b ∧ zs[i]? = some v := ⟨v, j, y, h1, h2, h3⟩
      unfold layC
      rw [dif_pos hx]
      obtain ⟨j2, y2, g1, g2, g3⟩ := hx.choose_spec
      have ey : y2 = y := C.inj y2 y b g2 h2
      rw [ey] at g1
      have hjl : j < fr.length := (List.getElem?_eq_some_iff.mp h1).1
      have ej : j = j2 := (List.getElem?_inj hjl nd).mp (h1.trans g1.symm)
      rw [← ej, h3] at g3
      rw [Option.some.inj g3]
    have hfull : ∀ y b, cl.lookup y = some b → ∃ (j : Nat) (v : V), fr[j]? = some y ∧ zs[j]? = some v := fun y b e => by
      have hmem : y ∈ fr := by
        rw [← hcl] at e
        rcases cloFrom_mem (PySem.mem_of_lookup e) with hm | ⟨h1, _⟩
        · cases hm
        · exact hfa _ h1 rfl
      obtain ⟨j, hj⟩ := List.getElem?_of_mem hmem
      have hjz : j < zs.length := by
        have q := C.len
        rw [List.length_map] at q
        rw [q]
        exact (List.getElem?_eq_some_iff.mp hj).1
      exact ⟨j, zs[j], hj, List.getElem?_eq_getElem hjz⟩
    have cT : CellsT (layC H1 cl fr zs) cl fr zs := ⟨by have q := C.len; rw [List.length_map] at q; exact q, fun y b e => by
        obtain ⟨j, v, h1, h3⟩ := hfull y b e
        exact ⟨v, inL h1 e h3⟩, C.inj, fun j y h1 => by
        obtain ⟨b, hb, _⟩ := C.has j y h1
        obtain ⟨j2, v, g1, g3⟩ := hfull y b hb
        have hjl : j < fr.length := (List.getElem?_eq_some_iff.mp h1).1
        have ej : j = j2 := (List.getElem?_inj hjl nd).mp (h1.trans g1.symm)
        rw [← ej] at g3
        exact ⟨b, v, hb, g3, inL h1 hb g3⟩⟩
    have un : Un (frs outer) [] H H1 s.heap s3.heap := J2.base
    have un2 : Un (frs outer) [] H (layC H1 cl fr zs) s.heap s3.heap := ⟨un.keep, un.slot, fun b o e n hx => by
        rw [outL fun ⟨y, z⟩ => absurd (Heap.lt_size e) (Nat.not_lt_of_le (new y b z))]
        exact un.free b o e n hx, un.there, fun b xs e => atL (un.tups b xs e), fun b o u e => atL (un.frzs b o u e), fun b ps e => by
        obtain ⟨more, hm⟩ := un.tbls b ps e
        exact ⟨more, atL hm⟩⟩
    refine (show CE outer P w H s Q u s3 from ⟨.ref f', layC H1 cl fr zs, J2.os, J2.bare, un2, fun a o e => ?_, rv, hend f' cl c' _ ⟨fun b o e n s => atL (eN.keep b o e n s), fun P' t => (eN.tab P' t).ext fun b o e => atL e, fun b e => ?_⟩ f0 (atL f1) (atL c1) cT⟩)
    · by_cases z : ∃ y, cl.lookup y = some a
      · obtain ⟨y, z⟩ := z
        obtain ⟨j, v, h1, h3⟩ := hfull y a z
        rw [inL h1 z h3] at e
        cases e
        obtain ⟨u1, r1, hc⟩ := spec ⟨j, y, h1, z, h3⟩
        exact cellO_ok r1 hc
      · rw [outL z] at e
        exact (J2.hok a o e).stay (fun _ _ _ q => q) (fun b q => atL q) fun b xs q => atL q
    · by_cases z : ∃ y, cl.lookup y = some b
      · obtain ⟨y, z⟩ := z
        obtain ⟨j, v, h1, h3⟩ := hfull y b z
        rw [inL h1 z h3] at e
        cases e
      · rw [outL z] at e
        exact eN.back b e
end Nn

namespace Nn
open PySem L2
structure Tx (K : PySem.W.Frag) (mg : Str → Option Value) (base : Heap) where
  a_is_name : Addr
  d_is_name : FuncData
  F_is_name : FunD K "is_name" "is_name" (defArgs s_is_name) (defBody s_is_name) (defScope s_is_name) [] [] a_is_name d_is_name
  b_is_name : Binds K d_is_name ["thing", "wide"] []
  m_is_name : mg "is_name" = some (.ref a_is_name)
  a_far : Addr
  d_far : FuncData
  F_far : FunD K "far" "far" (defArgs s_far) (defBody s_far) (defScope s_far) [] [] a_far d_far
  b_far : Binds K d_far ["one", "other"] []
  m_far : mg "far" = some (.ref a_far)
  a_nearer : Addr
  d_nearer : FuncData
  F_nearer : FunD K "nearer" "nearer" (defArgs s_nearer) (defBody s_nearer) (defScope s_nearer) [] [] a_nearer d_nearer
  b_nearer : Binds K d_nearer ["goal", "one", "other"] []
  m_nearer : mg "nearer" = some (.ref a_nearer)
  a_by_nearness : Addr
  d_by_nearness : FuncData
  F_by_nearness : FunD K "by_nearness" "by_nearness" (defArgs s_by_nearness) (defBody s_by_nearness) (defScope s_by_nearness) [] [] a_by_nearness d_by_nearness
  b_by_nearness : Binds K d_by_nearness ["goal", "names"] []
  m_by_nearness : mg "by_nearness" = some (.ref a_by_nearness)
  a_step : Addr
  d_step : FuncData
  F_step : FunD K "step" "step" (defArgs s_step) (defBody s_step) (defScope s_step) [] [] a_step d_step
  b_step : Binds K d_step ["one", "other"] []
  m_step : mg "step" = some (.ref a_step)
  a_standing : Addr
  d_standing : FuncData
  F_standing : FunD K "standing" "standing" (defArgs s_standing) (defBody s_standing) (defScope s_standing) [] [] a_standing d_standing
  b_standing : Binds K d_standing ["goal", "room", "seen", "quiet"] []
  m_standing : mg "standing" = some (.ref a_standing)
  a_asked : Addr
  d_asked : FuncData
  F_asked : FunD K "asked" "asked" (defArgs s_asked) (defBody s_asked) (defScope s_asked) [] [] a_asked d_asked
  b_asked : Binds K d_asked ["start", "goal", "room", "tells"] []
  m_asked : mg "asked" = some (.ref a_asked)
  a_onward : Addr
  d_onward : FuncData
  F_onward : FunD K "onward" "onward" (defArgs s_onward) (defBody s_onward) (defScope s_onward) [] [] a_onward d_onward
  b_onward : Binds K d_onward ["here", "goal", "tells"] []
  m_onward : mg "onward" = some (.ref a_onward)
  a_way : Addr
  d_way : FuncData
  F_way : FunD K "way" "way" (defArgs s_way) (defBody s_way) (defScope s_way) [] [] a_way d_way
  b_way : Binds K d_way ["start", "goal", "tells"] []
  m_way : mg "way" = some (.ref a_way)
  a_Bucket_init : Addr
  d_Bucket_init : FuncData
  F_Bucket_init : FunD K "__init__" "Bucket.__init__" (defArgs s_Bucket_init) (defBody s_Bucket_init) (defScope s_Bucket_init) [] [] a_Bucket_init d_Bucket_init
  b_Bucket_init : Binds K d_Bucket_init ["self", "room"] []
  a_Bucket_names : Addr
  d_Bucket_names : FuncData
  F_Bucket_names : FunD K "names" "Bucket.names" (defArgs s_Bucket_names) (defBody s_Bucket_names) (defScope s_Bucket_names) [] [] a_Bucket_names d_Bucket_names
  b_Bucket_names : Binds K d_Bucket_names ["self"] []
  a_Bucket_hears : Addr
  d_Bucket_hears : FuncData
  F_Bucket_hears : FunD K "hears" "Bucket.hears" (defArgs s_Bucket_hears) (defBody s_Bucket_hears) (defScope s_Bucket_hears) [] [] a_Bucket_hears d_Bucket_hears
  b_Bucket_hears : Binds K d_Bucket_hears ["self", "name", "answers"] []
  a_Bucket_drops : Addr
  d_Bucket_drops : FuncData
  F_Bucket_drops : FunD K "drops" "Bucket.drops" (defArgs s_Bucket_drops) (defBody s_Bucket_drops) (defScope s_Bucket_drops) [] [] a_Bucket_drops d_Bucket_drops
  b_Bucket_drops : Binds K d_Bucket_drops ["self", "name"] []
  a_Table_init : Addr
  d_Table_init : FuncData
  F_Table_init : FunD K "__init__" "Table.__init__" (defArgs s_Table_init) (defBody s_Table_init) (defScope s_Table_init) [] [] a_Table_init d_Table_init
  b_Table_init : Binds K d_Table_init ["self", "own", "wide", "room"] []
  a_Table_bucket_for : Addr
  d_Table_bucket_for : FuncData
  F_Table_bucket_for : FunD K "bucket_for" "Table.bucket_for" (defArgs s_Table_bucket_for) (defBody s_Table_bucket_for) (defScope s_Table_bucket_for) [] [] a_Table_bucket_for d_Table_bucket_for
  b_Table_bucket_for : Binds K d_Table_bucket_for ["self", "name"] []
  a_Table_hears : Addr
  d_Table_hears : FuncData
  F_Table_hears : FunD K "hears" "Table.hears" (defArgs s_Table_hears) (defBody s_Table_hears) (defScope s_Table_hears) [] [] a_Table_hears d_Table_hears
  b_Table_hears : Binds K d_Table_hears ["self", "name", "answers"] []
  a_Table_drops : Addr
  d_Table_drops : FuncData
  F_Table_drops : FunD K "drops" "Table.drops" (defArgs s_Table_drops) (defBody s_Table_drops) (defScope s_Table_drops) [] [] a_Table_drops d_Table_drops
  b_Table_drops : Binds K d_Table_drops ["self", "name"] []
  a_Table_bucket : Addr
  d_Table_bucket : FuncData
  F_Table_bucket : FunD K "bucket" "Table.bucket" (defArgs s_Table_bucket) (defBody s_Table_bucket) (defScope s_Table_bucket) [] [] a_Table_bucket d_Table_bucket
  b_Table_bucket : Binds K d_Table_bucket ["self", "k"] []
  a_Table_keeps : Addr
  d_Table_keeps : FuncData
  F_Table_keeps : FunD K "keeps" "Table.keeps" (defArgs s_Table_keeps) (defBody s_Table_keeps) (defScope s_Table_keeps) [] [] a_Table_keeps d_Table_keeps
  b_Table_keeps : Binds K d_Table_keeps ["self"] []
  a_Table_nearest : Addr
  d_Table_nearest : FuncData
  F_Table_nearest : FunD K "nearest" "Table.nearest" (defArgs s_Table_nearest) (defBody s_Table_nearest) (defScope s_Table_nearest) [.non] [] a_Table_nearest d_Table_nearest
  d_Table_nearest_1 : List Value
  v_Table_nearest_1 : Vals [.non] d_Table_nearest_1
  b_Table_nearest_1 : Binds K d_Table_nearest ["self", "goal", "many", "but"] d_Table_nearest_1
  b_Table_nearest : Binds K d_Table_nearest ["self", "goal", "many", "but"] []
  a_is_size : Addr
  d_is_size : FuncData
  F_is_size : FunD K "is_size" "is_size" (defArgs s_is_size) (defBody s_is_size) (defScope s_is_size) [] [] a_is_size d_is_size
  b_is_size : Binds K d_is_size ["thing", "most"] []
  m_is_size : mg "is_size" = some (.ref a_is_size)
  a_Town_init : Addr
  d_Town_init : FuncData
  F_Town_init : FunD K "__init__" "Town.__init__" (defArgs s_Town_init) (defBody s_Town_init) (defScope s_Town_init) [] [] a_Town_init d_Town_init
  b_Town_init : Binds K d_Town_init ["self", "wide", "room"] []
  a_Town_houses : Addr
  d_Town_houses : FuncData
  F_Town_houses : FunD K "houses" "Town.houses" (defArgs s_Town_houses) (defBody s_Town_houses) (defScope s_Town_houses) [] [] a_Town_houses d_Town_houses
  b_Town_houses : Binds K d_Town_houses ["self"] []
  a_Town_answers : Addr
  d_Town_answers : FuncData
  F_Town_answers : FunD K "answers" "Town.answers" (defArgs s_Town_answers) (defBody s_Town_answers) (defScope s_Town_answers) [] [] a_Town_answers d_Town_answers
  b_Town_answers : Binds K d_Town_answers ["self", "name"] []
  a_Town_answering : Addr
  d_Town_answering : FuncData
  F_Town_answering : FunD K "answering" "Town.answering" (defArgs s_Town_answering) (defBody s_Town_answering) (defScope s_Town_answering) [] [] a_Town_answering d_Town_answering
  b_Town_answering : Binds K d_Town_answering ["self"] []
  a_Town_table : Addr
  d_Town_table : FuncData
  F_Town_table : FunD K "table" "Town.table" (defArgs s_Town_table) (defBody s_Town_table) (defScope s_Town_table) [] [] a_Town_table d_Town_table
  b_Town_table : Binds K d_Town_table ["self", "house"] []
  a_Town_look_awake : Addr
  d_Town_look_awake : FuncData
  F_Town_look_awake : FunD K "look_awake" "Town.look_awake" (defArgs s_Town_look_awake) (defBody s_Town_look_awake) (defScope s_Town_look_awake) [] [] a_Town_look_awake d_Town_look_awake
  b_Town_look_awake : Binds K d_Town_look_awake ["self", "house"] []
  a_Town_look_named : Addr
  d_Town_look_named : FuncData
  F_Town_look_named : FunD K "look_named" "Town.look_named" (defArgs s_Town_look_named) (defBody s_Town_look_named) (defScope s_Town_look_named) [] [] a_Town_look_named d_Town_look_named
  b_Town_look_named : Binds K d_Town_look_named ["self", "name"] []
  a_Town_bucket : Addr
  d_Town_bucket : FuncData
  F_Town_bucket : FunD K "bucket" "Town.bucket" (defArgs s_Town_bucket) (defBody s_Town_bucket) (defScope s_Town_bucket) [] [] a_Town_bucket d_Town_bucket
  b_Town_bucket : Binds K d_Town_bucket ["self", "house", "k"] []
  a_Town_keeps : Addr
  d_Town_keeps : FuncData
  F_Town_keeps : FunD K "keeps" "Town.keeps" (defArgs s_Town_keeps) (defBody s_Town_keeps) (defScope s_Town_keeps) [] [] a_Town_keeps d_Town_keeps
  b_Town_keeps : Binds K d_Town_keeps ["self", "house"] []
  a_Town_tells : Addr
  d_Town_tells : FuncData
  F_Town_tells : FunD K "tells" "Town.tells" (defArgs s_Town_tells) (defBody s_Town_tells) (defScope s_Town_tells) [] [] a_Town_tells d_Town_tells
  b_Town_tells : Binds K d_Town_tells ["self", "house", "goal", "asker"] []
  a_Town_hears : Addr
  d_Town_hears : FuncData
  F_Town_hears : FunD K "hears" "Town.hears" (defArgs s_Town_hears) (defBody s_Town_hears) (defScope s_Town_hears) [] [] a_Town_hears d_Town_hears
  b_Town_hears : Binds K d_Town_hears ["self", "house", "name"] []
  a_Town_come_to : Addr
  d_Town_come_to : FuncData
  F_Town_come_to : FunD K "come_to" "Town.come_to" (defArgs s_Town_come_to) (defBody s_Town_come_to) (defScope s_Town_come_to) [] [] a_Town_come_to d_Town_come_to
  b_Town_come_to : Binds K d_Town_come_to ["self", "house"] []
  a_Town_ask : Addr
  d_Town_ask : FuncData
  F_Town_ask : FunD K "ask" "Town.ask" (defArgs s_Town_ask) (defBody s_Town_ask) (defScope s_Town_ask) [] [] a_Town_ask d_Town_ask
  b_Town_ask : Binds K d_Town_ask ["self", "start", "goal"] []
  a_Town_way : Addr
  d_Town_way : FuncData
  F_Town_way : FunD K "way" "Town.way" (defArgs s_Town_way) (defBody s_Town_way) (defScope s_Town_way) [] [] a_Town_way d_Town_way
  b_Town_way : Binds K d_Town_way ["self", "start", "goal"] []
  a_Town_visit : Addr
  d_Town_visit : FuncData
  F_Town_visit : FunD K "visit" "Town.visit" (defArgs s_Town_visit) (defBody s_Town_visit) (defScope s_Town_visit) [] [] a_Town_visit d_Town_visit
  b_Town_visit : Binds K d_Town_visit ["self", "house", "door"] []
  a_Town_come : Addr
  d_Town_come : FuncData
  F_Town_come : FunD K "come" "Town.come" (defArgs s_Town_come) (defBody s_Town_come) (defScope s_Town_come) [.non] [] a_Town_come d_Town_come
  d_Town_come_1 : List Value
  v_Town_come_1 : Vals [.non] d_Town_come_1
  b_Town_come_1 : Binds K d_Town_come ["self", "name", "door"] d_Town_come_1
  b_Town_come : Binds K d_Town_come ["self", "name", "door"] []
  a_Town_go : Addr
  d_Town_go : FuncData
  F_Town_go : FunD K "go" "Town.go" (defArgs s_Town_go) (defBody s_Town_go) (defScope s_Town_go) [] [] a_Town_go d_Town_go
  b_Town_go : Binds K d_Town_go ["self", "house"] []
  a_Town_hush : Addr
  d_Town_hush : FuncData
  F_Town_hush : FunD K "hush" "Town.hush" (defArgs s_Town_hush) (defBody s_Town_hush) (defScope s_Town_hush) [] [] a_Town_hush d_Town_hush
  b_Town_hush : Binds K d_Town_hush ["self", "house"] []
  a_Town_wake : Addr
  d_Town_wake : FuncData
  F_Town_wake : FunD K "wake" "Town.wake" (defArgs s_Town_wake) (defBody s_Town_wake) (defScope s_Town_wake) [] [] a_Town_wake d_Town_wake
  b_Town_wake : Binds K d_Town_wake ["self", "house", "door"] []
  a_l_mixed : Addr
  d_l_mixed : FuncData
  F_l_mixed : FunD K "_law_mixed" "_law_mixed" (defArgs s_l_mixed) (defBody s_l_mixed) (defScope s_l_mixed) [] [] a_l_mixed d_l_mixed
  b_l_mixed : Binds K d_l_mixed ["_law_cell", "_law_k"] []
  m_l_mixed : mg "_law_mixed" = some (.ref a_l_mixed)
  a_l_wide : Addr
  d_l_wide : FuncData
  F_l_wide : FunD K "_law_wide" "_law_wide" (defArgs s_l_wide) (defBody s_l_wide) (defScope s_l_wide) [] [] a_l_wide d_l_wide
  b_l_wide : Binds K d_l_wide ["_law_cell"] []
  m_l_wide : mg "_law_wide" = some (.ref a_l_wide)
  a_l_near : Addr
  d_l_near : FuncData
  F_l_near : FunD K "_law_near" "_law_near" (defArgs s_l_near) (defBody s_l_near) (defScope s_l_near) [] [] a_l_near d_l_near
  b_l_near : Binds K d_l_near ["_law_signs", "_law_wide_here", "_law_first"] []
  m_l_near : mg "_law_near" = some (.ref a_l_near)
  a_l_awake : Addr
  d_l_awake : FuncData
  F_l_awake : FunD K "_law_awake" "_law_awake" (defArgs s_l_awake) (defBody s_l_awake) (defScope s_l_awake) [] [] a_l_awake d_l_awake
  b_l_awake : Binds K d_l_awake ["_law_model", "_law_name_here"] []
  m_l_awake : mg "_law_awake" = some (.ref a_l_awake)
  a_l_hears : Addr
  d_l_hears : FuncData
  F_l_hears : FunD K "_law_hears" "_law_hears" (defArgs s_l_hears) (defBody s_l_hears) (defScope s_l_hears) [] [] a_l_hears d_l_hears
  b_l_hears : Binds K d_l_hears ["_law_model", "_law_house", "_law_name_here"] []
  m_l_hears : mg "_law_hears" = some (.ref a_l_hears)
  a_l_keeps : Addr
  d_l_keeps : FuncData
  F_l_keeps : FunD K "_law_keeps" "_law_keeps" (defArgs s_l_keeps) (defBody s_l_keeps) (defScope s_l_keeps) [] [] a_l_keeps d_l_keeps
  b_l_keeps : Binds K d_l_keeps ["_law_model", "_law_house"] []
  m_l_keeps : mg "_law_keeps" = some (.ref a_l_keeps)
  a_l_come_to : Addr
  d_l_come_to : FuncData
  F_l_come_to : FunD K "_law_come_to" "_law_come_to" (defArgs s_l_come_to) (defBody s_l_come_to) (defScope s_l_come_to) [] [] a_l_come_to d_l_come_to
  b_l_come_to : Binds K d_l_come_to ["_law_model", "_law_house"] []
  m_l_come_to : mg "_law_come_to" = some (.ref a_l_come_to)
  a_l_visit : Addr
  d_l_visit : FuncData
  F_l_visit : FunD K "_law_visit" "_law_visit" (defArgs s_l_visit) (defBody s_l_visit) (defScope s_l_visit) [] [] a_l_visit d_l_visit
  b_l_visit : Binds K d_l_visit ["_law_model", "_law_house", "_law_door"] []
  m_l_visit : mg "_law_visit" = some (.ref a_l_visit)
  a_l_come : Addr
  d_l_come : FuncData
  F_l_come : FunD K "_law_come" "_law_come" (defArgs s_l_come) (defBody s_l_come) (defScope s_l_come) [] [] a_l_come d_l_come
  b_l_come : Binds K d_l_come ["_law_model", "_law_name_here", "_law_door"] []
  m_l_come : mg "_law_come" = some (.ref a_l_come)
  a_l_alike : Addr
  d_l_alike : FuncData
  F_l_alike : FunD K "_law_alike" "_law_alike" (defArgs s_l_alike) (defBody s_l_alike) (defScope s_l_alike) [] [] a_l_alike d_l_alike
  b_l_alike : Binds K d_l_alike ["_law_town", "_law_model"] []
  m_l_alike : mg "_law_alike" = some (.ref a_l_alike)
  a_l_set : Addr
  d_l_set : FuncData
  F_l_set : FunD K "_law_set" "_law_set" (defArgs s_l_set) (defBody s_l_set) (defScope s_l_set) [] [] a_l_set d_l_set
  b_l_set : Binds K d_l_set ["_law_script"] []
  m_l_set : mg "_law_set" = some (.ref a_l_set)
  a_l_some : Addr
  d_l_some : FuncData
  F_l_some : FunD K "_law_some" "_law_some" (defArgs s_l_some) (defBody s_l_some) (defScope s_l_some) [] [] a_l_some d_l_some
  b_l_some : Binds K d_l_some ["_law_model", "_law_cell"] []
  m_l_some : mg "_law_some" = some (.ref a_l_some)
  a_l_name : Addr
  d_l_name : FuncData
  F_l_name : FunD K "_law_name" "_law_name" (defArgs s_l_name) (defBody s_l_name) (defScope s_l_name) [] [] a_l_name d_l_name
  b_l_name : Binds K d_l_name ["_law_model", "_law_wide_here", "_law_cell"] []
  m_l_name : mg "_law_name" = some (.ref a_l_name)
  a_l_marks : Addr
  d_l_marks : FuncData
  F_l_marks : FunD K "_law_marks" "_law_marks" (defArgs s_l_marks) (defBody s_l_marks) (defScope s_l_marks) [] [] a_l_marks d_l_marks
  b_l_marks : Binds K d_l_marks ["_law_e"] []
  m_l_marks : mg "_law_marks" = some (.ref a_l_marks)
  a_l_done : Addr
  d_l_done : FuncData
  F_l_done : FunD K "_law_done" "_law_done" (defArgs s_l_done) (defBody s_l_done) (defScope s_l_done) [] [] a_l_done d_l_done
  b_l_done : Binds K d_l_done ["_law_town", "_law_kind", "_law_house", "_law_other"] []
  m_l_done : mg "_law_done" = some (.ref a_l_done)
  a_l_refused : Addr
  d_l_refused : FuncData
  F_l_refused : FunD K "_law_refused" "_law_refused" (defArgs s_l_refused) (defBody s_l_refused) (defScope s_l_refused) [] [] a_l_refused d_l_refused
  b_l_refused : Binds K d_l_refused ["_law_town", "_law_kind", "_law_house", "_law_other"] []
  m_l_refused : mg "_law_refused" = some (.ref a_l_refused)
  a_l_is_name : Addr
  d_l_is_name : FuncData
  F_l_is_name : FunD K "_law_is_name" "_law_is_name" (defArgs s_l_is_name) (defBody s_l_is_name) (defScope s_l_is_name) [] [] a_l_is_name d_l_is_name
  b_l_is_name : Binds K d_l_is_name ["_law_thing_here", "_law_wide_here"] []
  m_l_is_name : mg "_law_is_name" = some (.ref a_l_is_name)
  a_l_of_house : Addr
  d_l_of_house : FuncData
  F_l_of_house : FunD K "_law_of_house" "_law_of_house" (defArgs s_l_of_house) (defBody s_l_of_house) (defScope s_l_of_house) [] [] a_l_of_house d_l_of_house
  b_l_of_house : Binds K d_l_of_house ["_law_model", "_law_wide_here", "_law_house", "_law_awake_here"] []
  m_l_of_house : mg "_law_of_house" = some (.ref a_l_of_house)
  a_l_due : Addr
  d_l_due : FuncData
  F_l_due : FunD K "_law_due" "_law_due" (defArgs s_l_due) (defBody s_l_due) (defScope s_l_due) [] [] a_l_due d_l_due
  b_l_due : Binds K d_l_due ["_law_model", "_law_wide_here", "_law_kind", "_law_house", "_law_other"] []
  m_l_due : mg "_law_due" = some (.ref a_l_due)
  a_l_thing : Addr
  d_l_thing : FuncData
  F_l_thing : FunD K "_law_thing" "_law_thing" (defArgs s_l_thing) (defBody s_l_thing) (defScope s_l_thing) [] [] a_l_thing d_l_thing
  b_l_thing : Binds K d_l_thing ["_law_model", "_law_wide_here", "_law_cell"] []
  m_l_thing : mg "_law_thing" = some (.ref a_l_thing)
  a_law : Addr
  d_law : FuncData
  F_law : FunD K "law" "law" (defArgs s_law) (defBody s_law) (defScope s_law) [] [] a_law d_law
  b_law : Binds K d_law ["_law_script"] []
  m_law : mg "law" = some (.ref a_law)
  m_way_asks : mg "way_asks" = some (.ref a_way)
  C_Bucket : Addr
  c_Bucket : Cls K C_Bucket
  m_Bucket : mg "Bucket" = some (.ref C_Bucket)
  M_Bucket : Mk K C_Bucket a_Bucket_init
  n_Bucket_room : NoAttr K C_Bucket "room"
  n_Bucket_line : NoAttr K C_Bucket "line"
  t_Bucket_names : Meth K C_Bucket "names" a_Bucket_names
  t_Bucket_hears : Meth K C_Bucket "hears" a_Bucket_hears
  t_Bucket_drops : Meth K C_Bucket "drops" a_Bucket_drops
  C_Table : Addr
  c_Table : Cls K C_Table
  m_Table : mg "Table" = some (.ref C_Table)
  M_Table : Mk K C_Table a_Table_init
  n_Table_own : NoAttr K C_Table "own"
  n_Table_wide : NoAttr K C_Table "wide"
  n_Table_room : NoAttr K C_Table "room"
  n_Table_buckets : NoAttr K C_Table "buckets"
  t_Table_bucket_for : Meth K C_Table "bucket_for" a_Table_bucket_for
  t_Table_hears : Meth K C_Table "hears" a_Table_hears
  t_Table_drops : Meth K C_Table "drops" a_Table_drops
  t_Table_bucket : Meth K C_Table "bucket" a_Table_bucket
  t_Table_keeps : Meth K C_Table "keeps" a_Table_keeps
  t_Table_nearest : Meth K C_Table "nearest" a_Table_nearest
  C_Town : Addr
  c_Town : Cls K C_Town
  m_Town : mg "Town" = some (.ref C_Town)
  M_Town : Mk K C_Town a_Town_init
  n_Town_wide : NoAttr K C_Town "wide"
  n_Town_room : NoAttr K C_Town "room"
  n_Town_tables : NoAttr K C_Town "tables"
  n_Town_hushed : NoAttr K C_Town "hushed"
  t_Town_houses : Meth K C_Town "houses" a_Town_houses
  t_Town_answers : Meth K C_Town "answers" a_Town_answers
  t_Town_answering : Meth K C_Town "answering" a_Town_answering
  t_Town_table : Meth K C_Town "table" a_Town_table
  t_Town_look_awake : Meth K C_Town "look_awake" a_Town_look_awake
  t_Town_look_named : Meth K C_Town "look_named" a_Town_look_named
  t_Town_bucket : Meth K C_Town "bucket" a_Town_bucket
  t_Town_keeps : Meth K C_Town "keeps" a_Town_keeps
  t_Town_tells : Meth K C_Town "tells" a_Town_tells
  t_Town_hears : Meth K C_Town "hears" a_Town_hears
  t_Town_come_to : Meth K C_Town "come_to" a_Town_come_to
  t_Town_ask : Meth K C_Town "ask" a_Town_ask
  t_Town_way : Meth K C_Town "way" a_Town_way
  t_Town_visit : Meth K C_Town "visit" a_Town_visit
  t_Town_come : Meth K C_Town "come" a_Town_come
  t_Town_go : Meth K C_Town "go" a_Town_go
  t_Town_hush : Meth K C_Town "hush" a_Town_hush
  t_Town_wake : Meth K C_Town "wake" a_Town_wake
  C_NoHouse : Addr
  m_NoHouse : mg "NoHouse" = some (.ref C_NoHouse)
  C_Silent : Addr
  m_Silent : mg "Silent" = some (.ref C_Silent)
  C_NoName : Addr
  m_NoName : mg "NoName" = some (.ref C_NoName)
  C_Taken : Addr
  m_Taken : mg "Taken" = some (.ref C_Taken)
  C_NearError : Addr
  m_NearError : mg "NearError" = some (.ref C_NearError)
  C_NoSize : Addr
  m_NoSize : mg "NoSize" = some (.ref C_NoSize)
  C_NoTown : Addr
  m_NoTown : mg "NoTown" = some (.ref C_NoTown)
  C_NoLine : Addr
  m_NoLine : mg "NoLine" = some (.ref C_NoLine)
  xi_NoHouse : PySem.W.excIn K C_NoHouse He.veBase "ValueError.__new__" = true
  xk_NoHouse : PySem.W.keepIn K (.ref C_NoHouse) = true
  xs_NoHouse : PySem.W.subIn K (.ref C_NoHouse) (.type "BaseException") = some true
  xt_NoHouse : PySem.W.typeIn K (.ref C_NoHouse) = some (.type "type")
  ec_NoHouse : ExcC K C_NoHouse
  xv_NoHouse : PySem.W.kitOne K (.ref C_NoHouse) (.type "ValueError") = some true
  xm_NoHouse_NearError : PySem.W.exmOne K (.ref C_NoHouse) (.ref C_NearError) = some true
  xo_NoHouse_NoSize : PySem.W.kitOne K (.ref C_NoHouse) (.ref C_NoSize) = some false
  xo_NoHouse_NoName : PySem.W.kitOne K (.ref C_NoHouse) (.ref C_NoName) = some false
  xo_NoHouse_NoHouse : PySem.W.kitOne K (.ref C_NoHouse) (.ref C_NoHouse) = some true
  xo_NoHouse_Taken : PySem.W.kitOne K (.ref C_NoHouse) (.ref C_Taken) = some false
  xo_NoHouse_Silent : PySem.W.kitOne K (.ref C_NoHouse) (.ref C_Silent) = some false
  xo_NoHouse_NoTown : PySem.W.kitOne K (.ref C_NoHouse) (.ref C_NoTown) = some false
  xo_NoHouse_NoLine : PySem.W.kitOne K (.ref C_NoHouse) (.ref C_NoLine) = some false
  xi_Silent : PySem.W.excIn K C_Silent He.veBase "ValueError.__new__" = true
  xk_Silent : PySem.W.keepIn K (.ref C_Silent) = true
  xs_Silent : PySem.W.subIn K (.ref C_Silent) (.type "BaseException") = some true
  xt_Silent : PySem.W.typeIn K (.ref C_Silent) = some (.type "type")
  ec_Silent : ExcC K C_Silent
  xv_Silent : PySem.W.kitOne K (.ref C_Silent) (.type "ValueError") = some true
  xm_Silent_NearError : PySem.W.exmOne K (.ref C_Silent) (.ref C_NearError) = some true
  xo_Silent_NoSize : PySem.W.kitOne K (.ref C_Silent) (.ref C_NoSize) = some false
  xo_Silent_NoName : PySem.W.kitOne K (.ref C_Silent) (.ref C_NoName) = some false
  xo_Silent_NoHouse : PySem.W.kitOne K (.ref C_Silent) (.ref C_NoHouse) = some false
  xo_Silent_Taken : PySem.W.kitOne K (.ref C_Silent) (.ref C_Taken) = some false
  xo_Silent_Silent : PySem.W.kitOne K (.ref C_Silent) (.ref C_Silent) = some true
  xo_Silent_NoTown : PySem.W.kitOne K (.ref C_Silent) (.ref C_NoTown) = some false
  xo_Silent_NoLine : PySem.W.kitOne K (.ref C_Silent) (.ref C_NoLine) = some false
  xi_NoName : PySem.W.excIn K C_NoName He.veBase "ValueError.__new__" = true
  xk_NoName : PySem.W.keepIn K (.ref C_NoName) = true
  xs_NoName : PySem.W.subIn K (.ref C_NoName) (.type "BaseException") = some true
  xt_NoName : PySem.W.typeIn K (.ref C_NoName) = some (.type "type")
  ec_NoName : ExcC K C_NoName
  xv_NoName : PySem.W.kitOne K (.ref C_NoName) (.type "ValueError") = some true
  xm_NoName_NearError : PySem.W.exmOne K (.ref C_NoName) (.ref C_NearError) = some true
  xo_NoName_NoSize : PySem.W.kitOne K (.ref C_NoName) (.ref C_NoSize) = some false
  xo_NoName_NoName : PySem.W.kitOne K (.ref C_NoName) (.ref C_NoName) = some true
  xo_NoName_NoHouse : PySem.W.kitOne K (.ref C_NoName) (.ref C_NoHouse) = some false
  xo_NoName_Taken : PySem.W.kitOne K (.ref C_NoName) (.ref C_Taken) = some false
  xo_NoName_Silent : PySem.W.kitOne K (.ref C_NoName) (.ref C_Silent) = some false
  xo_NoName_NoTown : PySem.W.kitOne K (.ref C_NoName) (.ref C_NoTown) = some false
  xo_NoName_NoLine : PySem.W.kitOne K (.ref C_NoName) (.ref C_NoLine) = some false
  xi_Taken : PySem.W.excIn K C_Taken He.veBase "ValueError.__new__" = true
  xk_Taken : PySem.W.keepIn K (.ref C_Taken) = true
  xs_Taken : PySem.W.subIn K (.ref C_Taken) (.type "BaseException") = some true
  xt_Taken : PySem.W.typeIn K (.ref C_Taken) = some (.type "type")
  ec_Taken : ExcC K C_Taken
  xv_Taken : PySem.W.kitOne K (.ref C_Taken) (.type "ValueError") = some true
  xm_Taken_NearError : PySem.W.exmOne K (.ref C_Taken) (.ref C_NearError) = some true
  xo_Taken_NoSize : PySem.W.kitOne K (.ref C_Taken) (.ref C_NoSize) = some false
  xo_Taken_NoName : PySem.W.kitOne K (.ref C_Taken) (.ref C_NoName) = some false
  xo_Taken_NoHouse : PySem.W.kitOne K (.ref C_Taken) (.ref C_NoHouse) = some false
  xo_Taken_Taken : PySem.W.kitOne K (.ref C_Taken) (.ref C_Taken) = some true
  xo_Taken_Silent : PySem.W.kitOne K (.ref C_Taken) (.ref C_Silent) = some false
  xo_Taken_NoTown : PySem.W.kitOne K (.ref C_Taken) (.ref C_NoTown) = some false
  xo_Taken_NoLine : PySem.W.kitOne K (.ref C_Taken) (.ref C_NoLine) = some false
  z_ValueError : mg "ValueError" = none
  z_bool : mg "bool" = none
  z_int : mg "int" = none
  z_isinstance : mg "isinstance" = none
  z_len : mg "len" = none
  z_list : mg "list" = none
  z_range : mg "range" = none
  z_sorted : mg "sorted" = none
  z_sum : mg "sum" = none
  t_MOST_WIDE : Tok
  m_MOST_WIDE : mg "MOST_WIDE" = some (.int 60 t_MOST_WIDE)
  t_MOST_ROOM : Tok
  m_MOST_ROOM : mg "MOST_ROOM" = some (.int 8 t_MOST_ROOM)
  k_Town_hears : Addr
  P_Town_hears : Addr
  tb_Town_hears : LamX.TabB base mg k_Town_hears P_Town_hears
  FC_Town_hears : FunC K "hears" "Town.hears" s_Town_hears a_Town_hears d_Town_hears k_Town_hears
  z0_Town_hears : ∀ H : Hp, Tabs0 K H → H P_Town_hears = some (.tbl #[])
  k_Town_ask : Addr
  P_Town_ask : Addr
  tb_Town_ask : LamX.TabB base mg k_Town_ask P_Town_ask
  FC_Town_ask : FunC K "ask" "Town.ask" s_Town_ask a_Town_ask d_Town_ask k_Town_ask
  z0_Town_ask : ∀ H : Hp, Tabs0 K H → H P_Town_ask = some (.tbl #[])
  k_Town_way : Addr
  P_Town_way : Addr
  tb_Town_way : LamX.TabB base mg k_Town_way P_Town_way
  FC_Town_way : FunC K "way" "Town.way" s_Town_way a_Town_way d_Town_way k_Town_way
  z0_Town_way : ∀ H : Hp, Tabs0 K H → H P_Town_way = some (.tbl #[])
def tabsL {K : PySem.W.Frag} {mg : Str → Option Value} {base : Heap} (T : Tx K mg base) : List NdefX.NTab := [(T.P_Town_hears, nmAll), (T.P_Town_ask, nmAll), (T.P_Town_way, nmAll)]
theorem tabm_Town_hears {K : PySem.W.Frag} {mg : Str → Option Value} {base : Heap} {T : Tx K mg base} : (T.P_Town_hears, nmAll) ∈ tabsL T := by simp [tabsL]
theorem tabm_Town_ask {K : PySem.W.Frag} {mg : Str → Option Value} {base : Heap} {T : Tx K mg base} : (T.P_Town_ask, nmAll) ∈ tabsL T := by simp [tabsL]
theorem tabm_Town_way {K : PySem.W.Frag} {mg : Str → Option Value} {base : Heap} {T : Tx K mg base} : (T.P_Town_way, nmAll) ∈ tabsL T := by simp [tabsL]
theorem tabnm {K : PySem.W.Frag} {mg : Str → Option Value} {base : Heap} {T : Tx K mg base} : ∀ p ∈ tabsL T, p.2 = nmAll := by simp [tabsL]
theorem Fr.tabs {K : PySem.W.Frag} {mg : Str → Option Value} {base : Heap} {T : Tx K mg base} {S : Addr → Prop} {H H' : Hp} (f : Fr S H H') (t : NdefX.TabsN (tabsL T) H) : NdefX.TabsN (tabsL T) H' := fun p hp => by
  have e := tabnm p hp
  have q := t p hp
  rw [e] at q ⊢
  exact f.tab p.1 q
theorem tabs0 {K : PySem.W.Frag} {mg : Str → Option Value} {base : Heap} {T : Tx K mg base} {H : Hp} (h : Tabs0 K H) : NdefX.TabsN (tabsL T) H := by
  unfold NdefX.TabsN tabsL
  simp only [List.mem_cons, List.not_mem_nil, or_false, forall_eq_or_imp, forall_eq, false_imp_iff, implies_true]
  exact ⟨NdefX.TabN.nil (T.z0_Town_hears H h), NdefX.TabN.nil (T.z0_Town_ask H h), NdefX.TabN.nil (T.z0_Town_way H h)⟩
end Nn
namespace Nn
open PySem PySem.Spec PyProof.Rows L2
def dd_is_name : He.DefD := ⟨("is_name", none), "is_name", "is_name", defArgs s_is_name, defBody s_is_name, defScope s_is_name, [], []⟩
def dd_far : He.DefD := ⟨("far", none), "far", "far", defArgs s_far, defBody s_far, defScope s_far, [], []⟩
def dd_nearer : He.DefD := ⟨("nearer", none), "nearer", "nearer", defArgs s_nearer, defBody s_nearer, defScope s_nearer, [], []⟩
def dd_by_nearness : He.DefD := ⟨("by_nearness", none), "by_nearness", "by_nearness", defArgs s_by_nearness, defBody s_by_nearness, defScope s_by_nearness, [], []⟩
def dd_step : He.DefD := ⟨("step", none), "step", "step", defArgs s_step, defBody s_step, defScope s_step, [], []⟩
def dd_standing : He.DefD := ⟨("standing", none), "standing", "standing", defArgs s_standing, defBody s_standing, defScope s_standing, [], []⟩
def dd_asked : He.DefD := ⟨("asked", none), "asked", "asked", defArgs s_asked, defBody s_asked, defScope s_asked, [], []⟩
def dd_onward : He.DefD := ⟨("onward", none), "onward", "onward", defArgs s_onward, defBody s_onward, defScope s_onward, [], []⟩
def dd_way : He.DefD := ⟨("way", none), "way", "way", defArgs s_way, defBody s_way, defScope s_way, [], []⟩
def dd_Bucket_init : He.DefD := ⟨("Bucket", some "__init__"), "__init__", "Bucket.__init__", defArgs s_Bucket_init, defBody s_Bucket_init, defScope s_Bucket_init, [], []⟩
def dd_Bucket_names : He.DefD := ⟨("Bucket", some "names"), "names", "Bucket.names", defArgs s_Bucket_names, defBody s_Bucket_names, defScope s_Bucket_names, [], []⟩
def dd_Bucket_hears : He.DefD := ⟨("Bucket", some "hears"), "hears", "Bucket.hears", defArgs s_Bucket_hears, defBody s_Bucket_hears, defScope s_Bucket_hears, [], []⟩
def dd_Bucket_drops : He.DefD := ⟨("Bucket", some "drops"), "drops", "Bucket.drops", defArgs s_Bucket_drops, defBody s_Bucket_drops, defScope s_Bucket_drops, [], []⟩
def dd_Table_init : He.DefD := ⟨("Table", some "__init__"), "__init__", "Table.__init__", defArgs s_Table_init, defBody s_Table_init, defScope s_Table_init, [], []⟩
def dd_Table_bucket_for : He.DefD := ⟨("Table", some "bucket_for"), "bucket_for", "Table.bucket_for", defArgs s_Table_bucket_for, defBody s_Table_bucket_for, defScope s_Table_bucket_for, [], []⟩
def dd_Table_hears : He.DefD := ⟨("Table", some "hears"), "hears", "Table.hears", defArgs s_Table_hears, defBody s_Table_hears, defScope s_Table_hears, [], []⟩
def dd_Table_drops : He.DefD := ⟨("Table", some "drops"), "drops", "Table.drops", defArgs s_Table_drops, defBody s_Table_drops, defScope s_Table_drops, [], []⟩
def dd_Table_bucket : He.DefD := ⟨("Table", some "bucket"), "bucket", "Table.bucket", defArgs s_Table_bucket, defBody s_Table_bucket, defScope s_Table_bucket, [], []⟩
def dd_Table_keeps : He.DefD := ⟨("Table", some "keeps"), "keeps", "Table.keeps", defArgs s_Table_keeps, defBody s_Table_keeps, defScope s_Table_keeps, [], []⟩
def dd_Table_nearest : He.DefD := ⟨("Table", some "nearest"), "nearest", "Table.nearest", defArgs s_Table_nearest, defBody s_Table_nearest, defScope s_Table_nearest, [.non], []⟩
def dd_is_size : He.DefD := ⟨("is_size", none), "is_size", "is_size", defArgs s_is_size, defBody s_is_size, defScope s_is_size, [], []⟩
def dd_Town_init : He.DefD := ⟨("Town", some "__init__"), "__init__", "Town.__init__", defArgs s_Town_init, defBody s_Town_init, defScope s_Town_init, [], []⟩
def dd_Town_houses : He.DefD := ⟨("Town", some "houses"), "houses", "Town.houses", defArgs s_Town_houses, defBody s_Town_houses, defScope s_Town_houses, [], []⟩
def dd_Town_answers : He.DefD := ⟨("Town", some "answers"), "answers", "Town.answers", defArgs s_Town_answers, defBody s_Town_answers, defScope s_Town_answers, [], []⟩
def dd_Town_answering : He.DefD := ⟨("Town", some "answering"), "answering", "Town.answering", defArgs s_Town_answering, defBody s_Town_answering, defScope s_Town_answering, [], []⟩
def dd_Town_table : He.DefD := ⟨("Town", some "table"), "table", "Town.table", defArgs s_Town_table, defBody s_Town_table, defScope s_Town_table, [], []⟩
def dd_Town_look_awake : He.DefD := ⟨("Town", some "look_awake"), "look_awake", "Town.look_awake", defArgs s_Town_look_awake, defBody s_Town_look_awake, defScope s_Town_look_awake, [], []⟩
def dd_Town_look_named : He.DefD := ⟨("Town", some "look_named"), "look_named", "Town.look_named", defArgs s_Town_look_named, defBody s_Town_look_named, defScope s_Town_look_named, [], []⟩
def dd_Town_bucket : He.DefD := ⟨("Town", some "bucket"), "bucket", "Town.bucket", defArgs s_Town_bucket, defBody s_Town_bucket, defScope s_Town_bucket, [], []⟩
def dd_Town_keeps : He.DefD := ⟨("Town", some "keeps"), "keeps", "Town.keeps", defArgs s_Town_keeps, defBody s_Town_keeps, defScope s_Town_keeps, [], []⟩
def dd_Town_tells : He.DefD := ⟨("Town", some "tells"), "tells", "Town.tells", defArgs s_Town_tells, defBody s_Town_tells, defScope s_Town_tells, [], []⟩
def dd_Town_hears : He.DefD := ⟨("Town", some "hears"), "hears", "Town.hears", defArgs s_Town_hears, defBody s_Town_hears, defScope s_Town_hears, [], []⟩
def dd_Town_come_to : He.DefD := ⟨("Town", some "come_to"), "come_to", "Town.come_to", defArgs s_Town_come_to, defBody s_Town_come_to, defScope s_Town_come_to, [], []⟩
def dd_Town_ask : He.DefD := ⟨("Town", some "ask"), "ask", "Town.ask", defArgs s_Town_ask, defBody s_Town_ask, defScope s_Town_ask, [], []⟩
def dd_Town_way : He.DefD := ⟨("Town", some "way"), "way", "Town.way", defArgs s_Town_way, defBody s_Town_way, defScope s_Town_way, [], []⟩
def dd_Town_visit : He.DefD := ⟨("Town", some "visit"), "visit", "Town.visit", defArgs s_Town_visit, defBody s_Town_visit, defScope s_Town_visit, [], []⟩
def dd_Town_come : He.DefD := ⟨("Town", some "come"), "come", "Town.come", defArgs s_Town_come, defBody s_Town_come, defScope s_Town_come, [.non], []⟩
def dd_Town_go : He.DefD := ⟨("Town", some "go"), "go", "Town.go", defArgs s_Town_go, defBody s_Town_go, defScope s_Town_go, [], []⟩
def dd_Town_hush : He.DefD := ⟨("Town", some "hush"), "hush", "Town.hush", defArgs s_Town_hush, defBody s_Town_hush, defScope s_Town_hush, [], []⟩
def dd_Town_wake : He.DefD := ⟨("Town", some "wake"), "wake", "Town.wake", defArgs s_Town_wake, defBody s_Town_wake, defScope s_Town_wake, [], []⟩
def dd_l_mixed : He.DefD := ⟨("_law_mixed", none), "_law_mixed", "_law_mixed", defArgs s_l_mixed, defBody s_l_mixed, defScope s_l_mixed, [], []⟩
def dd_l_wide : He.DefD := ⟨("_law_wide", none), "_law_wide", "_law_wide", defArgs s_l_wide, defBody s_l_wide, defScope s_l_wide, [], []⟩
def dd_l_near : He.DefD := ⟨("_law_near", none), "_law_near", "_law_near", defArgs s_l_near, defBody s_l_near, defScope s_l_near, [], []⟩
def dd_l_awake : He.DefD := ⟨("_law_awake", none), "_law_awake", "_law_awake", defArgs s_l_awake, defBody s_l_awake, defScope s_l_awake, [], []⟩
def dd_l_hears : He.DefD := ⟨("_law_hears", none), "_law_hears", "_law_hears", defArgs s_l_hears, defBody s_l_hears, defScope s_l_hears, [], []⟩
def dd_l_keeps : He.DefD := ⟨("_law_keeps", none), "_law_keeps", "_law_keeps", defArgs s_l_keeps, defBody s_l_keeps, defScope s_l_keeps, [], []⟩
def dd_l_come_to : He.DefD := ⟨("_law_come_to", none), "_law_come_to", "_law_come_to", defArgs s_l_come_to, defBody s_l_come_to, defScope s_l_come_to, [], []⟩
def dd_l_visit : He.DefD := ⟨("_law_visit", none), "_law_visit", "_law_visit", defArgs s_l_visit, defBody s_l_visit, defScope s_l_visit, [], []⟩
def dd_l_come : He.DefD := ⟨("_law_come", none), "_law_come", "_law_come", defArgs s_l_come, defBody s_l_come, defScope s_l_come, [], []⟩
def dd_l_alike : He.DefD := ⟨("_law_alike", none), "_law_alike", "_law_alike", defArgs s_l_alike, defBody s_l_alike, defScope s_l_alike, [], []⟩
def dd_l_set : He.DefD := ⟨("_law_set", none), "_law_set", "_law_set", defArgs s_l_set, defBody s_l_set, defScope s_l_set, [], []⟩
def dd_l_some : He.DefD := ⟨("_law_some", none), "_law_some", "_law_some", defArgs s_l_some, defBody s_l_some, defScope s_l_some, [], []⟩
def dd_l_name : He.DefD := ⟨("_law_name", none), "_law_name", "_law_name", defArgs s_l_name, defBody s_l_name, defScope s_l_name, [], []⟩
def dd_l_marks : He.DefD := ⟨("_law_marks", none), "_law_marks", "_law_marks", defArgs s_l_marks, defBody s_l_marks, defScope s_l_marks, [], []⟩
def dd_l_done : He.DefD := ⟨("_law_done", none), "_law_done", "_law_done", defArgs s_l_done, defBody s_l_done, defScope s_l_done, [], []⟩
def dd_l_refused : He.DefD := ⟨("_law_refused", none), "_law_refused", "_law_refused", defArgs s_l_refused, defBody s_l_refused, defScope s_l_refused, [], []⟩
def dd_l_is_name : He.DefD := ⟨("_law_is_name", none), "_law_is_name", "_law_is_name", defArgs s_l_is_name, defBody s_l_is_name, defScope s_l_is_name, [], []⟩
def dd_l_of_house : He.DefD := ⟨("_law_of_house", none), "_law_of_house", "_law_of_house", defArgs s_l_of_house, defBody s_l_of_house, defScope s_l_of_house, [], []⟩
def dd_l_due : He.DefD := ⟨("_law_due", none), "_law_due", "_law_due", defArgs s_l_due, defBody s_l_due, defScope s_l_due, [], []⟩
def dd_l_thing : He.DefD := ⟨("_law_thing", none), "_law_thing", "_law_thing", defArgs s_l_thing, defBody s_l_thing, defScope s_l_thing, [], []⟩
def dd_law : He.DefD := ⟨("law", none), "law", "law", defArgs s_law, defBody s_law, defScope s_law, [], []⟩
def fnL : List He.DefD := [dd_is_name, dd_far, dd_nearer, dd_by_nearness, dd_step, dd_standing, dd_asked, dd_onward, dd_way, dd_Bucket_init, dd_Bucket_names, dd_Bucket_hears, dd_Bucket_drops, dd_Table_init, dd_Table_bucket_for, dd_Table_hears, dd_Table_drops, dd_Table_bucket, dd_Table_keeps, dd_Table_nearest, dd_is_size, dd_Town_init, dd_Town_houses, dd_Town_answers, dd_Town_answering, dd_Town_table, dd_Town_look_awake, dd_Town_look_named, dd_Town_bucket, dd_Town_keeps, dd_Town_tells, dd_Town_hears, dd_Town_come_to, dd_Town_ask, dd_Town_way, dd_Town_visit, dd_Town_come, dd_Town_go, dd_Town_hush, dd_Town_wake, dd_l_mixed, dd_l_wide, dd_l_near, dd_l_awake, dd_l_hears, dd_l_keeps, dd_l_come_to, dd_l_visit, dd_l_come, dd_l_alike, dd_l_set, dd_l_some, dd_l_name, dd_l_marks, dd_l_done, dd_l_refused, dd_l_is_name, dd_l_of_house, dd_l_due, dd_l_thing, dd_law]
def faL : List He.Fa := [.glo "is_name",
  .glo "far",
  .glo "nearer",
  .glo "by_nearness",
  .glo "step",
  .glo "standing",
  .glo "asked",
  .glo "onward",
  .glo "way",
  .glo "is_size",
  .glo "_law_mixed",
  .glo "_law_wide",
  .glo "_law_near",
  .glo "_law_awake",
  .glo "_law_hears",
  .glo "_law_keeps",
  .glo "_law_come_to",
  .glo "_law_visit",
  .glo "_law_come",
  .glo "_law_alike",
  .glo "_law_set",
  .glo "_law_some",
  .glo "_law_name",
  .glo "_law_marks",
  .glo "_law_done",
  .glo "_law_refused",
  .glo "_law_is_name",
  .glo "_law_of_house",
  .glo "_law_due",
  .glo "_law_thing",
  .glo "law",
  .glo "Bucket",
  .cls "Bucket",
  .mkr "Bucket",
  .noat "Bucket" "room",
  .noat "Bucket" "line",
  .meth "Bucket" "names",
  .meth "Bucket" "hears",
  .meth "Bucket" "drops",
  .glo "Table",
  .cls "Table",
  .mkr "Table",
  .noat "Table" "own",
  .noat "Table" "wide",
  .noat "Table" "room",
  .noat "Table" "buckets",
  .meth "Table" "bucket_for",
  .meth "Table" "hears",
  .meth "Table" "drops",
  .meth "Table" "bucket",
  .meth "Table" "keeps",
  .meth "Table" "nearest",
  .glo "Town",
  .cls "Town",
  .mkr "Town",
  .noat "Town" "wide",
  .noat "Town" "room",
  .noat "Town" "tables",
  .noat "Town" "hushed",
  .meth "Town" "houses",
  .meth "Town" "answers",
  .meth "Town" "answering",
  .meth "Town" "table",
  .meth "Town" "look_awake",
  .meth "Town" "look_named",
  .meth "Town" "bucket",
  .meth "Town" "keeps",
  .meth "Town" "tells",
  .meth "Town" "hears",
  .meth "Town" "come_to",
  .meth "Town" "ask",
  .meth "Town" "way",
  .meth "Town" "visit",
  .meth "Town" "come",
  .meth "Town" "go",
  .meth "Town" "hush",
  .meth "Town" "wake",
  .glo "way_asks",
  .glo "NoHouse",
  .glo "Silent",
  .glo "NoName",
  .glo "Taken",
  .glo "NearError",
  .glo "NoSize",
  .glo "NoTown",
  .glo "NoLine",
  .exc "NoHouse",
  .exm "NoHouse" "NearError" true,
  .exc "Silent",
  .exm "Silent" "NearError" true,
  .exc "NoName",
  .exm "NoName" "NearError" true,
  .exc "Taken",
  .exm "Taken" "NearError" true,
  .free "ValueError",
  .free "bool",
  .free "int",
  .free "isinstance",
  .free "len",
  .free "list",
  .free "range",
  .free "sorted",
  .free "sum",
  .int "MOST_WIDE" 60,
  .int "MOST_ROOM" 8]
abbrev RW : PySem.W.OpenRow := PySem.W.OpenLaw.row PySem.Challenge.rw_nearnames_k36_towns_refused
def aliL : List (Str × Str) := [("way_asks", "way")]
def ecL : List Str := ["NoHouse", "Silent", "NoName", "Taken"]
def koL : List (Str × Str × Bool) := [("NoHouse", "NoSize", false), ("NoHouse", "NoName", false), ("NoHouse", "NoHouse", true), ("NoHouse", "Taken", false), ("NoHouse", "Silent", false), ("NoHouse", "NoTown", false), ("NoHouse", "NoLine", false), ("Silent", "NoSize", false), ("Silent", "NoName", false), ("Silent", "NoHouse", false), ("Silent", "Taken", false), ("Silent", "Silent", true), ("Silent", "NoTown", false), ("Silent", "NoLine", false), ("NoName", "NoSize", false), ("NoName", "NoName", true), ("NoName", "NoHouse", false), ("NoName", "Taken", false), ("NoName", "Silent", false), ("NoName", "NoTown", false), ("NoName", "NoLine", false), ("Taken", "NoSize", false), ("Taken", "NoName", false), ("Taken", "NoHouse", false), ("Taken", "Taken", true), ("Taken", "Silent", false), ("Taken", "NoTown", false), ("Taken", "NoLine", false)]
def ecB (K : PySem.W.Frag) (C : Addr) : Bool := decide (PySem.W.findIn K (.ref C) "__getattribute__" = some (some (.builtin "BaseException.__getattribute__"))) && (decide (PySem.W.findIn K (.ref C) "__getattr__" = some none) && (decide (PySem.W.subIn K (.ref C) (.type "BaseException") = some true) && (PySem.W.hasDictIn K C && (decide (PySem.W.findIn K (.ref C) "__class__" = some (some (.builtin "object.__class__"))) && (decide (PySem.W.specialIn K (.builtin "object.__class__") "__get__" = some (some (.builtin "getset_descriptor.__get__"))) && (decide (PySem.W.takesIn K (.builtin "object.__class__") = some true) && (decide (PySem.W.mroIn K C (.type "object") = some true) && decide (PySem.W.kitOne K (.ref C) (.type "ValueError") = some true))))))))
theorem ecB_ok {K : PySem.W.Frag} {C : Addr} (h : ecB K C = true) : ExcC K C ∧ PySem.W.kitOne K (.ref C) (.type "ValueError") = some true := by
  obtain ⟨h1, h⟩ := He.ba h
  obtain ⟨h2, h⟩ := He.ba h
  obtain ⟨h3, h⟩ := He.ba h
  obtain ⟨h4, h⟩ := He.ba h
  obtain ⟨h5, h⟩ := He.ba h
  obtain ⟨h6, h⟩ := He.ba h
  obtain ⟨h7, h⟩ := He.ba h
  obtain ⟨h8, h9⟩ := He.ba h
  exact ⟨⟨of_decide_eq_true h1, of_decide_eq_true h2, of_decide_eq_true h3, h4, of_decide_eq_true h5, of_decide_eq_true h6, of_decide_eq_true h7, of_decide_eq_true h8⟩, of_decide_eq_true h9⟩
def exL (K : PySem.W.Frag) : Bool := (aliL.all fun p => decide (He.ga K p.1 = He.ga K p.2)) && ((ecL.all fun x => ecB K (He.ga K x)) && koL.all fun p => decide (PySem.W.kitOne K (.ref (He.ga K p.1)) (.ref (He.ga K p.2.1)) = some p.2.2))
theorem exL_ok {K : PySem.W.Frag} (h : exL K = true) {p : Str × Str} (hp : p ∈ aliL) : He.ga K p.1 = He.ga K p.2 := of_decide_eq_true (List.all_eq_true.mp (He.ba h).1 p hp)
theorem exL_ec {K : PySem.W.Frag} (h : exL K = true) {x : Str} (hx : x ∈ ecL) : ExcC K (He.ga K x) ∧ PySem.W.kitOne K (.ref (He.ga K x)) (.type "ValueError") = some true := ecB_ok (List.all_eq_true.mp (He.ba (He.ba h).2).1 x hx)
theorem exL_ko {K : PySem.W.Frag} (h : exL K = true) {p : Str × Str × Bool} (hp : p ∈ koL) : PySem.W.kitOne K (.ref (He.ga K p.1)) (.ref (He.ga K p.2.1)) = some p.2.2 := of_decide_eq_true (List.all_eq_true.mp (He.ba (He.ba h).2).2 p hp)
abbrev hkX : PySem.W.Hook := He.hookX 6 faL fnL [] tfL exL
def obL (s : PySem.W.SharedT) : He.AlX := He.obsX 6 faL fnL [] tfL exL (HandSHeadRun.getT s)
theorem obL_eq (s : PySem.W.SharedT) : obL s = hkX.obs s.abs := He.obsX_eq (HandSHeadRun.getT_eq s)
def loose0 : List Str := ["NearError", "NoSize", "NoName", "NoHouse", "Taken", "Silent", "NoTown", "NoLine", "is_name", "far", "nearer", "by_nearness", "step", "standing", "asked", "onward", "way", "way_asks", "Bucket", "Table", "MOST_WIDE", "MOST_ROOM", "is_size", "Town", "_law_mixed", "_law_wide", "_law_near", "_law_awake", "_law_hears", "_law_keeps"]
def loose1 : List Str := ["_law_come_to", "_law_visit", "_law_come", "_law_alike", "_law_set", "_law_some", "_law_name", "_law_marks", "_law_done", "_law_refused", "_law_is_name", "_law_of_house", "_law_due", "_law_thing"]
def looseL : List Str := loose0 ++ loose1
theorem runL (w : World) : HandSHeadRun.RunEq RW (PySem.W.view RW.prog [51]) hkX obL 6000 looseL w := by
  intro os
  kernel_rfl
end Nn
local macro_rules | `(tactic| walk_at "wz") => `(tactic| dsimp only [↓Nn.e_next, ↓Nn.e_asg, ↓Nn.e_name, ↓Nn.e_ret, ↓Nn.e_retN, ↓Nn.e_drop, ↓Nn.e_ifS, ↓Nn.e_IT, ↓Nn.e_IF, ↓Nn.e_INT, ↓Nn.e_INF, ↓Nn.e_if, ↓Nn.e_varS, ↓Nn.e_c, ↓Nn.e_op, ↓Nn.e_un, ↓Nn.e_cb, ↓Nn.e_nil, ↓Nn.e_cons, ↓Nn.e_test, ↓Nn.e_B, ↓Nn.e_and, ↓Nn.e_or, ↓Nn.e_not, ↓Nn.e_andV, ↓Nn.e_orV, ↓Nn.e_notV, ↓Nn.e_chain, ↓Nn.e_for, ↓Nn.e_fld, ↓Nn.e_sfld, ↓Nn.e_meth, ↓Nn.e_methC, ↓Nn.e_callC, ↓Nn.e_make, ↓Nn.e_sl, ↓Nn.e_nopart, ↓Nn.e_part, ↓Nn.e_dget, ↓Nn.e_dget2, ↓Nn.e_dpop1, ↓Nn.e_dpop2, ↓Nn.e_din, ↓Nn.e_dnin, ↓Nn.e_dput, ↓Nn.e_dnew, ↓Nn.e_bits, ↓Nn.e_lenSet, ↓Nn.e_lc, ↓Nn.e_wipe0, ↓Nn.e_wipe1, ↓Nn.e_yes, ↓Nn.e_rng1, ↓Nn.e_rng2, ↓Nn.e_rng3, ↓Nn.e_iList, ↓Nn.e_iTup, ↓Nn.e_keys, ↓Nn.e_iEnum, ↓Nn.e_iZip, ↓Nn.e_bm, ↓Nn.e_bm0, ↓Nn.e_tup, ↓Nn.e_lst, ↓Nn.e_calld, ↓Nn.e_T, ↓Nn.e_F, ↓Nn.e_NT, ↓Nn.e_NF, ↓List.set_cons_zero, ↓List.set_cons_succ, ↓List.cons_append, ↓List.nil_append])
local macro_rules | `(tactic| walk_at "wx") => `(tactic| repeat (walk_at "wx1"))
local macro_rules | `(tactic| walk_at "wx1") => `(tactic| (first
  | with_reducible refine Nn.x_v0 ?_
  | with_reducible refine Nn.x_seq ?_
  | walk_at "wz"
  | with_reducible refine Nn.x_bl ?_
  | with_reducible refine Nn.x_i0 ?_
  | ((with_reducible refine Nn.x_i ?_ ?_); (focus (walk_at "wside")))
  | with_reducible refine Nn.x_eqI ?_
  | with_reducible refine Nn.x_neI ?_
  | with_reducible refine Nn.x_INs ?_
  | with_reducible refine Nn.x_IEs ?_
  | with_reducible refine Nn.x_NEs ?_
  | with_reducible refine Nn.x_Es ?_
  | with_reducible refine Nn.x_whT ?_
  | with_reducible refine Nn.x_whF ?_
  | walk_at "wx2"))
local macro_rules | `(tactic| walk_at "wx2") => `(tactic| (first
  | ((with_reducible refine' Nn.x_ixL ?hS ?hA ?_); (case hS => walk_at "wsq"); (case hA => walk_at "wat"))
  | ((with_reducible refine' Nn.x_ixT ?hS ?hA ?_); (case hS => walk_at "wsqt"); (case hA => walk_at "wat"))
  | ((with_reducible refine' Nn.x_lenL ?hS ?_); (case hS => walk_at "wsq"))
  | ((with_reducible refine' Nn.x_lenT ?hS ?_); (case hS => walk_at "wsqt"))
  | ((with_reducible refine' Nn.x_tyL ?hS ?_); (case hS => walk_at "wsq"))
  | ((with_reducible refine' Nn.x_append ?hS ?hA ?_); (case hS => walk_at "wob"); (case hA => walk_at "wlen"))
  | ((with_reducible refine' Nn.x_gTup ?hS ?hA ?_); (case hS => walk_at "wsqt"); (case hA => rfl))
  | with_reducible refine Nn.x_gCons ?_
  | with_reducible refine Nn.x_gNil ?_
  | ((with_reducible refine' Nn.x_shl1 ?hS ?hA ?_); (case hS => walk_at "wnat"); (case hA => omega))
  | ((with_reducible refine Nn.x_rgN ?_ ?_); (focus (walk_at "wside")))
  | ((with_reducible refine Nn.x_rgDown ?_ ?_); (focus (walk_at "wside")))
  | ((with_reducible refine' Nn.x_itL ?hS ?_); (case hS => walk_at "wsq"))
  | ((with_reducible refine' Nn.x_itT ?hS ?_); (case hS => walk_at "wsqt"))
  | ((with_reducible refine' Nn.x_enL ?hS ?_); (case hS => walk_at "wsq"))
  | ((with_reducible refine' Nn.x_ziL ?hS ?hA ?_); (case hS => walk_at "wsq"); (case hA => walk_at "wsq"))
  | ((with_reducible refine' Nn.x_lenD ?hS ?_); (case hS => walk_at "wob"))
  | ((with_reducible refine' Nn.x_shrN ?hS ?hA ?_); (case hS => walk_at "wnat"); (case hA => walk_at "wnat"))
  | ((with_reducible refine' Nn.x_xorN ?hS ?hA ?_); (case hS => walk_at "wnat"); (case hA => walk_at "wnat"))
  | ((with_reducible refine' Nn.x_shlN ?hS ?hA ?hB ?hC ?_); (case hS => walk_at "wnat"); (case hA => walk_at "wnat"); (case hB => walk_at "wpre"); (case hC => walk_at "wpre"))
  | with_reducible refine Nn.x_bits ?_
  | ((with_reducible refine' Nn.x_eqLN ?hS ?hA ?_); (case hS => walk_at "wsq"); (case hA => walk_at "wsq"))
  | ((with_reducible refine' Nn.x_neLN ?hS ?hA ?_); (case hS => walk_at "wsq"); (case hA => walk_at "wsq"))
  | ((with_reducible refine' Nn.x_dget ?hS ?hA ?_); (case hS => walk_at "wob"); (case hA => walk_at "wat"))
  | ((with_reducible refine' Nn.x_din ?hS ?_); (case hS => walk_at "wob"))
  | ((with_reducible refine' Nn.x_dnin ?hS ?_); (case hS => walk_at "wob"))
  | ((with_reducible refine' Nn.x_dgetR ?hS ?hA ?_); (case hS => assumption); (case hA => walk_at "wat"))
  | ((with_reducible refine' Nn.x_dgetS ?hS ?hA ?_); (case hS => walk_at "wrd"); (case hA => assumption))
  | ((with_reducible refine' Nn.x_dinR ?hS ?_); (case hS => assumption))
  | ((with_reducible refine' Nn.x_dninR ?hS ?_); (case hS => assumption))
  | ((with_reducible refine' Nn.x_itK ?hS ?_); (case hS => walk_at "wob"))
  | ((with_reducible refine' Nn.x_dpop1 ?hS ?_); (case hS => walk_at "wob"))
  | ((with_reducible refine' Nn.x_p1 ?hS ?hA ?_); (case hS => walk_at "wob"); (case hA => assumption))
  | ((with_reducible refine' Nn.x_dpop2 ?hS ?_); (case hS => walk_at "wob"))
  | ((with_reducible refine' Nn.x_dget2 ?hS ?_); (case hS => walk_at "wob"))
  | ((with_reducible refine' Nn.x_g2 ?hS ?_); (case hS => walk_at "wob"))
  | ((with_reducible refine' Nn.x_dput ?hS ?hA ?_); (case hS => walk_at "wob"); (case hA => walk_at "wlen"))
  | ((with_reducible refine' Nn.x_fld ?hS ?hA ?hB ?hC ?_); (case hS => walk_at "wob"); (case hA => assumption); (case hB => assumption); (case hC => walk_at "wlk"))
  | ((with_reducible refine' Nn.x_sfld ?hS ?hA ?hB ?hE ?hC ?_); (case hS => walk_at "wob"); (case hA => assumption); (case hB => assumption); (case hE => walk_at "wput"); (case hC => rfl))
  | ((with_reducible refine' Nn.x_meth ?hS ?hA ?_); (case hS => walk_at "wob"); (case hA => walk_at "wnolk"))
  | ((with_reducible refine' Nn.x_methC ?hS ?hA ?_); (case hS => walk_at "wob"); (case hA => walk_at "wnolk"))
  | ((with_reducible refine' Nn.x_inN ?hS ?hA ?_); (case hS => walk_at "wnat"); (case hA => walk_at "wsq"))
  | ((with_reducible refine' Nn.x_ninN ?hS ?hA ?_); (case hS => walk_at "wnat"); (case hA => walk_at "wsq"))
  | with_reducible refine Nn.x_truB ?_
  | ((with_reducible refine' Nn.x_aug2 ?hS ?_); (case hS => rfl))
  | with_reducible refine Nn.x_augI ?_
  | with_reducible refine Nn.x_isNN ?_
  | with_reducible refine Nn.x_isNI ?_
  | with_reducible refine Nn.x_isNB ?_
  | with_reducible refine Nn.x_isNS ?_
  | with_reducible refine Nn.x_isNR ?_
  | with_reducible refine Nn.x_notNN ?_
  | with_reducible refine Nn.x_notNI ?_
  | with_reducible refine Nn.x_notNB ?_
  | with_reducible refine Nn.x_notNS ?_
  | with_reducible refine Nn.x_notNR ?_
  | with_reducible refine Nn.x_part ?_
  | with_reducible refine Nn.x_u ?_
  | with_reducible refine Nn.x_min2 ?_
  | with_reducible refine Nn.x_max2 ?_
  | with_reducible refine Nn.x_abs ?_
  | with_reducible refine Nn.x_eqB ?_
  | with_reducible refine Nn.x_neB ?_
  | with_reducible refine Nn.x_eqS ?_
  | with_reducible refine Nn.x_neS ?_
  | with_reducible refine Nn.x_intI ?_
  | with_reducible refine Nn.x_intB ?_
  | walk_at "wisi"
  | walk_at "wc"))
local macro_rules | `(tactic| walk_at "wside") => `(tactic| (first
  | with_reducible assumption
  | with_reducible exact Nn.two_pos
  | omega
  | (show (0 : Int) < _; first | omega | decide +kernel)
  | exact Or.inr ⟨by omega, by omega⟩
  | exact Or.inl ⟨by omega, by omega⟩
  | exact ⟨by omega, by decide +kernel⟩
  | exact ⟨by omega, by omega, by omega⟩
  | (show (0 : Int) ≤ _; first | omega | decide +kernel | exact Int.mul_nonneg (by omega) (by omega))))
local macro_rules | `(tactic| walk_at "wob") => `(tactic| (first
  | with_reducible assumption
  | exact L2.upd_same
  | ((with_reducible refine' Nn.at_new ?hNone ?hKept); (case hNone => assumption); (case hKept => walk_at "wob"))
  | ((with_reducible refine' Nn.at_upd ?hSome ?hAt ?hDif); (case hSome => assumption); (case hAt => walk_at "wob"); (case hDif => (intro z; cases z)))
  | exact Nn.Ex.at (by assumption) (by assumption)
  | assumption))
local macro_rules | `(tactic| walk_at "wrd") => `(tactic| (first
  | with_reducible assumption
  | ((refine' Or.inl ?hOb); (case hOb => walk_at "wob"))
  | assumption))
local macro_rules | `(tactic| walk_at "wlen") => `(tactic| (rw [PySem.sizeLine_eq]; simp only [List.length_map, List.length_append, List.length_cons, List.length_nil]; omega))
local macro_rules | `(tactic| walk_at "wsqt") => `(tactic| (first
  | with_reducible assumption
  | ((refine' L2.SqT.of ?hOb); (case hOb => walk_at "wob"))
  | exact Nn.Ex.tu (by assumption) (by assumption)
  | exact L2.SqT.of L2.upd_same
  | assumption))
local macro_rules | `(tactic| walk_at "wnat") => `(tactic| with_unfolding_all rfl)
local macro_rules | `(tactic| walk_at "wsq") => `(tactic| (first
  | with_reducible assumption
  | ((refine' L2.SqL.of ?hOb); (case hOb => walk_at "wob"))
  | exact Nn.Ex.ls (by assumption) (by assumption)
  | exact Nn.Ex.ls (Nn.Ex.new (by assumption)) (by assumption)
  | exact L2.SqL.of L2.upd_same
  | assumption))
local macro_rules | `(tactic| walk_at "wat") => `(tactic| (first
  | with_reducible assumption
  | exact Nn.atI_hd
  | with_unfolding_all rfl
  | assumption))
local macro_rules | `(tactic| walk_at "wisi") => `(tactic| ((with_reducible refine Nn.x_isG ?_); (first
  | with_reducible refine Nn.x_isI_int ?_
  | with_reducible refine Nn.x_isI_bool ?_
  | with_reducible refine Nn.x_isI_str ?_
  | with_reducible refine Nn.x_isB_int ?_
  | with_reducible refine Nn.x_isB_bool ?_
  | with_reducible refine Nn.x_isB_str ?_
  | with_reducible refine Nn.x_isS_int ?_
  | with_reducible refine Nn.x_isS_bool ?_
  | with_reducible refine Nn.x_isS_str ?_
  | with_reducible refine Nn.x_isN_int ?_
  | with_reducible refine Nn.x_isN_bool ?_
  | with_reducible refine Nn.x_isN_str ?_
  | ((with_reducible refine' Nn.x_isL_int ?hS ?_); (case hS => walk_at "wob"))
  | ((with_reducible refine' Nn.x_isL_list ?hS ?_); (case hS => walk_at "wob"))
  | ((with_reducible refine' Nn.x_isL_tuple ?hS ?_); (case hS => walk_at "wob"))
  | ((with_reducible refine' Nn.x_isT_int ?hS ?_); (case hS => walk_at "wob"))
  | ((with_reducible refine' Nn.x_isT_list ?hS ?_); (case hS => walk_at "wob"))
  | ((with_reducible refine' Nn.x_isT_tuple ?hS ?_); (case hS => walk_at "wob"))
  | ((with_reducible refine' Nn.x_isD_int ?hS ?_); (case hS => walk_at "wob"))
  | ((with_reducible refine' Nn.x_isD_list ?hS ?_); (case hS => walk_at "wob"))
  | ((with_reducible refine' Nn.x_isD_tuple ?hS ?_); (case hS => walk_at "wob")))))
local macro_rules | `(tactic| walk_at "wpre") => `(tactic| (first
  | with_reducible assumption
  | omega
  | refine ⟨?_, ?_⟩ <;> walk_at "wpre"))
local macro_rules | `(tactic| walk_at "wlk") => `(tactic| (first | with_reducible exact Nn.lk_Bucket_room | with_reducible exact Nn.lk_Bucket_line | with_reducible exact Nn.lk_Table_own | with_reducible exact Nn.lk_Table_wide | with_reducible exact Nn.lk_Table_room | with_reducible exact Nn.lk_Table_buckets | with_reducible exact Nn.lk_Town_wide | with_reducible exact Nn.lk_Town_room | with_reducible exact Nn.lk_Town_tables | with_reducible exact Nn.lk_Town_hushed | exact Nn.lk_Bucket_room | exact Nn.lk_Bucket_line | exact Nn.lk_Table_own | exact Nn.lk_Table_wide | exact Nn.lk_Table_room | exact Nn.lk_Table_buckets | exact Nn.lk_Town_wide | exact Nn.lk_Town_room | exact Nn.lk_Town_tables | exact Nn.lk_Town_hushed))
local macro_rules | `(tactic| walk_at "wnolk") => `(tactic| (first | with_reducible exact Nn.no_Bucket_names | with_reducible exact Nn.no_Bucket_hears | with_reducible exact Nn.no_Bucket_drops | with_reducible exact Nn.no_Table_bucket_for | with_reducible exact Nn.no_Table_hears | with_reducible exact Nn.no_Table_drops | with_reducible exact Nn.no_Table_bucket | with_reducible exact Nn.no_Table_keeps | with_reducible exact Nn.no_Table_nearest | with_reducible exact Nn.no_Town_houses | with_reducible exact Nn.no_Town_answers | with_reducible exact Nn.no_Town_answering | with_reducible exact Nn.no_Town_table | with_reducible exact Nn.no_Town_look_awake | with_reducible exact Nn.no_Town_look_named | with_reducible exact Nn.no_Town_bucket | with_reducible exact Nn.no_Town_keeps | with_reducible exact Nn.no_Town_tells | with_reducible exact Nn.no_Town_hears | with_reducible exact Nn.no_Town_come_to | with_reducible exact Nn.no_Town_ask | with_reducible exact Nn.no_Town_way | with_reducible exact Nn.no_Town_visit | with_reducible exact Nn.no_Town_come | with_reducible exact Nn.no_Town_go | with_reducible exact Nn.no_Town_hush | with_reducible exact Nn.no_Town_wake | exact Nn.no_Bucket_names | exact Nn.no_Bucket_hears | exact Nn.no_Bucket_drops | exact Nn.no_Table_bucket_for | exact Nn.no_Table_hears | exact Nn.no_Table_drops | exact Nn.no_Table_bucket | exact Nn.no_Table_keeps | exact Nn.no_Table_nearest | exact Nn.no_Town_houses | exact Nn.no_Town_answers | exact Nn.no_Town_answering | exact Nn.no_Town_table | exact Nn.no_Town_look_awake | exact Nn.no_Town_look_named | exact Nn.no_Town_bucket | exact Nn.no_Town_keeps | exact Nn.no_Town_tells | exact Nn.no_Town_hears | exact Nn.no_Town_come_to | exact Nn.no_Town_ask | exact Nn.no_Town_way | exact Nn.no_Town_visit | exact Nn.no_Town_come | exact Nn.no_Town_go | exact Nn.no_Town_hush | exact Nn.no_Town_wake))
local macro_rules | `(tactic| walk_at "wput") => `(tactic| (first | with_reducible exact Nn.ini_Bucket_room | with_reducible exact Nn.put_Bucket_room | with_reducible exact Nn.ini_Bucket_line | with_reducible exact Nn.put_Bucket_line | with_reducible exact Nn.ini_Table_own | with_reducible exact Nn.put_Table_own | with_reducible exact Nn.ini_Table_wide | with_reducible exact Nn.put_Table_wide | with_reducible exact Nn.ini_Table_room | with_reducible exact Nn.put_Table_room | with_reducible exact Nn.ini_Table_buckets | with_reducible exact Nn.put_Table_buckets | with_reducible exact Nn.ini_Town_wide | with_reducible exact Nn.put_Town_wide | with_reducible exact Nn.ini_Town_room | with_reducible exact Nn.put_Town_room | with_reducible exact Nn.ini_Town_tables | with_reducible exact Nn.put_Town_tables | with_reducible exact Nn.ini_Town_hushed | with_reducible exact Nn.put_Town_hushed | exact Nn.ini_Bucket_room | exact Nn.put_Bucket_room | exact Nn.ini_Bucket_line | exact Nn.put_Bucket_line | exact Nn.ini_Table_own | exact Nn.put_Table_own | exact Nn.ini_Table_wide | exact Nn.put_Table_wide | exact Nn.ini_Table_room | exact Nn.put_Table_room | exact Nn.ini_Table_buckets | exact Nn.put_Table_buckets | exact Nn.ini_Town_wide | exact Nn.put_Town_wide | exact Nn.ini_Town_room | exact Nn.put_Town_room | exact Nn.ini_Town_tables | exact Nn.put_Town_tables | exact Nn.ini_Town_hushed | exact Nn.put_Town_hushed))

namespace Nn
open PySem L2
/-! the bits -/
theorem xor_div_pow (a b k : Nat) : (a ^^^ b) / 2 ^ k = (a / 2 ^ k) ^^^ (b / 2 ^ k) := by
  rw [← Nat.shiftRight_eq_div_pow, ← Nat.shiftRight_eq_div_pow, ← Nat.shiftRight_eq_div_pow, Nat.shiftRight_xor_distrib]
theorem xor_mod_two (a b : Nat) : (a ^^^ b) % 2 = if a % 2 ≠ b % 2 then 1 else 0 := by
  have h := @Nat.xor_mod_two_eq_one a b
  rcases Nat.mod_two_eq_zero_or_one (a ^^^ b) with e | e
  · rw [e]
    split
    · rename_i q
      exact absurd (h.mpr (by omega)) (by omega)
    · rfl
  · rw [e]
    split
    · rfl
    · rename_i q
      exact absurd (h.mp e) (by omega)
theorem mod_pow_succ (x k : Nat) : x % 2 ^ (k + 1) = x % 2 ^ k + 2 ^ k * (x / 2 ^ k % 2) := Nat.mod_pow_succ
theorem xor_add (a b : Nat) : a ^^^ b ≤ a + b := by
  have h := Bits.nat_xor_add_and a b
  omega
theorem xor_tri (a b c : Nat) : a ^^^ c ≤ (a ^^^ b) + (b ^^^ c) := by
  have e : a ^^^ c = (a ^^^ b) ^^^ (b ^^^ c) := by
    rw [Nat.xor_assoc, ← Nat.xor_assoc b b c, Nat.xor_self, Nat.zero_xor]
  rw [e]; exact xor_add _ _

/-! the step, the span -/
def stepN (a b : Nat) : Nat := (a ^^^ b).log2
def lowN (n k : Nat) : Nat := ((n / 2 ^ k) ^^^ 1) * 2 ^ k
theorem xor_ne_zero {a b : Nat} (h : a ≠ b) : a ^^^ b ≠ 0 := fun e => h (by
  have q : a ^^^ (a ^^^ b) = a ^^^ 0 := by rw [e]
  rw [← Nat.xor_assoc, Nat.xor_self, Nat.zero_xor, Nat.xor_zero] at q
  exact q.symm)
theorem xor_eq_one {x y : Nat} : x ^^^ y = 1 ↔ y = x ^^^ 1 := by
  constructor
  · intro h; rw [← h, ← Nat.xor_assoc, Nat.xor_self, Nat.zero_xor]
  · intro h; rw [h, ← Nat.xor_assoc, Nat.xor_self, Nat.zero_xor]
theorem log2_eq {x k : Nat} (h : x ≠ 0) : x.log2 = k ↔ x / 2 ^ k = 1 := by
  have hp := Nat.two_pow_pos k
  constructor
  · intro e
    have h1 := Nat.log2_self_le h
    have h2 := Nat.lt_log2_self (n := x)
    rw [e] at h1 h2
    rw [Nat.pow_succ] at h2
    exact Nat.div_eq_of_lt_le (by omega) (by omega)
  · intro e
    have h1 : 2 ^ k ≤ x := by
      have := Nat.div_mul_le_self x (2 ^ k)
      rw [e] at this; omega
    have h2 : x < 2 ^ (k + 1) := by
      have := Nat.lt_div_mul_add (a := x) hp
      rw [e] at this
      rw [Nat.pow_succ]; omega
    exact (Nat.log2_eq_iff h).mpr ⟨h1, h2⟩
/-- the step is k just where the rest behind k is the one's with its last sign turned -/
theorem stepN_eq {a b k : Nat} (h : a ≠ b) : stepN a b = k ↔ b / 2 ^ k = (a / 2 ^ k) ^^^ 1 := by
  unfold stepN
  rw [log2_eq (xor_ne_zero h), xor_div_pow, xor_eq_one]
theorem xor_one_ne {x : Nat} : x ^^^ 1 ≠ x := fun e => by
  have q : x ^^^ (x ^^^ 1) = x ^^^ x := by rw [e]
  rw [← Nat.xor_assoc, Nat.xor_self, Nat.zero_xor] at q
  exact absurd q (by decide)
/-- in the span just those -/
theorem in_span {n k b : Nat} : (lowN n k ≤ b ∧ b ≤ lowN n k + 2 ^ k - 1) ↔ b / 2 ^ k = (n / 2 ^ k) ^^^ 1 := by
  have hp := Nat.two_pow_pos k
  unfold lowN
  constructor
  · intro ⟨h1, h2⟩
    exact Nat.div_eq_of_lt_le (by omega) (by rw [Nat.succ_mul]; omega)
  · intro e
    have h1 := Nat.div_mul_le_self b (2 ^ k)
    have h2 := Nat.lt_div_mul_add (a := b) hp
    rw [e] at h1 h2
    omega
theorem in_span_ne {n k b : Nat} (h : b / 2 ^ k = (n / 2 ^ k) ^^^ 1) : n ≠ b := fun e => by
  rw [← e] at h
  exact xor_one_ne h.symm
theorem span_step {n k b : Nat} : (lowN n k ≤ b ∧ b ≤ lowN n k + 2 ^ k - 1) ↔ (n ≠ b ∧ stepN n b = k) := by
  rw [in_span]
  constructor
  · intro h
    exact ⟨in_span_ne h, (stepN_eq (in_span_ne h)).mpr h⟩
  · intro ⟨h, e⟩
    exact (stepN_eq h).mp e
theorem low_lt {n k w : Nat} (hn : n < 2 ^ w) (hk : k < w) : lowN n k + 2 ^ k ≤ 2 ^ w := by
  have e : 2 ^ w = 2 ^ (w - k) * 2 ^ k := by rw [← Nat.pow_add]; congr 1; omega
  have h1 : n / 2 ^ k < 2 ^ (w - k) := Nat.div_lt_of_lt_mul (by rw [Nat.mul_comm, ← e]; exact hn)
  have h2 : (n / 2 ^ k) ^^^ 1 < 2 ^ (w - k) := Nat.xor_lt_two_pow h1 (Nat.one_lt_two_pow (by omega))
  unfold lowN
  rw [e, ← Nat.succ_mul]
  exact Nat.mul_le_mul_right _ h2
theorem stepN_lt {a b w : Nat} (ha : a < 2 ^ w) (hb : b < 2 ^ w) (h : a ≠ b) : stepN a b < w := (Nat.log2_lt (xor_ne_zero h)).mpr (Nat.xor_lt_two_pow ha hb)
theorem bitLen {x : Nat} : Builtin.Int.intBits (x : Int) = if x = 0 then 0 else x.log2 + 1 := by
  unfold Builtin.Int.intBits
  simp
/-- who is outside a span stands alike to all of it -/
theorem aside {g o one c k : Nat} (h1 : one / 2 ^ k = c) (h2 : o / 2 ^ k ≠ c) : g ^^^ o < g ^^^ one ↔ (g / 2 ^ k) ^^^ (o / 2 ^ k) < (g / 2 ^ k) ^^^ c := by
  have e1 := xor_div_pow g o k
  have e2 := xor_div_pow g one k
  rw [h1] at e2
  have ne : (g / 2 ^ k) ^^^ (o / 2 ^ k) ≠ (g / 2 ^ k) ^^^ c := fun e => h2 (by
    have q : (g / 2 ^ k) ^^^ ((g / 2 ^ k) ^^^ (o / 2 ^ k)) = (g / 2 ^ k) ^^^ ((g / 2 ^ k) ^^^ c) := by rw [e]
    rw [← Nat.xor_assoc, ← Nat.xor_assoc, Nat.xor_self, Nat.zero_xor, Nat.zero_xor] at q
    exact q)
  rw [← e1, ← e2] at ne ⊢
  constructor
  · intro h
    have := Nat.div_le_div_right (c := 2 ^ k) (Nat.le_of_lt h)
    omega
  · intro h
    exact Nat.lt_of_div_lt_div h
end Nn
namespace Nn
/-! lists without twice, rising; by nearness -/
def insU (x : Nat) : List Nat → List Nat
  | [] => [x]
  | y :: r => if x < y then x :: y :: r else if x = y then y :: r else y :: insU x r
def sortU : List Nat → List Nat
  | [] => []
  | x :: r => insU x (sortU r)
theorem mem_insU {x z : Nat} : ∀ {l : List Nat}, z ∈ insU x l ↔ z = x ∨ z ∈ l
  | [] => by simp [insU]
  | y :: r => by
    unfold insU
    by_cases h : x < y
    · rw [if_pos h]; simp
    · rw [if_neg h]
      by_cases e : x = y
      · rw [if_pos e, e]; simp
      · rw [if_neg e, List.mem_cons, mem_insU (l := r), List.mem_cons]
        constructor
        · rintro (h | h | h)
          · exact .inr (.inl h)
          · exact .inl h
          · exact .inr (.inr h)
        · rintro (h | h | h)
          · exact .inr (.inl h)
          · exact .inl h
          · exact .inr (.inr h)
theorem insU_sorted {x : Nat} : ∀ {l : List Nat}, l.Pairwise (· < ·) → (insU x l).Pairwise (· < ·)
  | [], _ => by simp [insU]
  | y :: r, h => by
    have h1 := List.pairwise_cons.mp h
    unfold insU
    by_cases hx : x < y
    · rw [if_pos hx]
      refine List.pairwise_cons.mpr ⟨fun z hz => ?_, h⟩
      rcases List.mem_cons.mp hz with e | hz
      · omega
      · have := h1.1 z hz; omega
    · rw [if_neg hx]
      by_cases e : x = y
      · rw [if_pos e]; exact h
      · rw [if_neg e]
        refine List.pairwise_cons.mpr ⟨fun z hz => ?_, insU_sorted h1.2⟩
        rcases mem_insU.mp hz with e | hz
        · omega
        · exact h1.1 z hz
theorem mem_sortU {z : Nat} : ∀ {l : List Nat}, z ∈ sortU l ↔ z ∈ l
  | [] => by simp [sortU]
  | x :: r => by unfold sortU; rw [mem_insU, mem_sortU (l := r), List.mem_cons]
theorem sortU_sorted : ∀ l : List Nat, (sortU l).Pairwise (· < ·)
  | [] => by simp [sortU]
  | x :: r => insU_sorted (sortU_sorted r)
/-- two rising lists of the same members are one -/
theorem rising_eq : ∀ {a b : List Nat}, a.Pairwise (· < ·) → b.Pairwise (· < ·) → (∀ z, z ∈ a ↔ z ∈ b) → a = b
  | [], [], _, _, _ => rfl
  | [], y :: r, _, _, h => absurd ((h y).mpr (List.mem_cons_self ..)) (by simp)
  | x :: r, [], _, _, h => absurd ((h x).mp (List.mem_cons_self ..)) (by simp)
  | x :: r, y :: s, ha, hb, h => by
    have h1 := List.pairwise_cons.mp ha
    have h2 := List.pairwise_cons.mp hb
    have e : x = y := by
      have a1 := (h x).mp (List.mem_cons_self ..)
      have a2 := (h y).mpr (List.mem_cons_self ..)
      rcases List.mem_cons.mp a1 with e | a1
      · exact e
      · rcases List.mem_cons.mp a2 with e | a2
        · exact e.symm
        · have b1 := h1.1 y a2
          have b2 := h2.1 x a1
          omega
    subst e
    refine congrArg (x :: ·) (rising_eq h1.2 h2.2 fun z => ?_)
    constructor
    · intro hz
      rcases List.mem_cons.mp ((h z).mp (List.mem_cons_of_mem _ hz)) with e | q
      · have := h1.1 z hz; omega
      · exact q
    · intro hz
      rcases List.mem_cons.mp ((h z).mpr (List.mem_cons_of_mem _ hz)) with e | q
      · have := h2.1 z hz; omega
      · exact q
theorem rising_nodup {l : List Nat} (h : l.Pairwise (· < ·)) : l.Nodup := h.imp fun {a b} q => Nat.ne_of_lt q
theorem sortU_of_rising {l : List Nat} (h : l.Pairwise (· < ·)) : sortU l = l := rising_eq (sortU_sorted l) h fun _ => mem_sortU
theorem sortU_congr {a b : List Nat} (h : ∀ z, z ∈ a ↔ z ∈ b) : sortU a = sortU b := rising_eq (sortU_sorted _) (sortU_sorted _) fun z => by rw [mem_sortU, mem_sortU, h]
theorem nodup_len : ∀ {a b : List Nat}, a.Nodup → (∀ z ∈ a, z ∈ b) → a.length ≤ b.length
  | [], _, _, _ => Nat.zero_le _
  | x :: r, b, h, hs => by
    have h1 := List.nodup_cons.mp h
    have hx := hs x (List.mem_cons_self ..)
    have e := List.length_erase_of_mem hx
    have hp : 0 < b.length := List.length_pos_of_mem hx
    have ih := nodup_len (b := b.erase x) h1.2 fun z hz => by
      have ne : z ≠ x := fun e => h1.1 (e ▸ hz)
      exact (List.mem_erase_of_ne ne).mpr (hs z (List.mem_cons_of_mem _ hz))
    rw [List.length_cons]
    omega
theorem xor_self_left (g n : Nat) : g ^^^ (g ^^^ n) = n := by rw [← Nat.xor_assoc, Nat.xor_self, Nat.zero_xor]
theorem xor_inj {g a b : Nat} (h : g ^^^ a = g ^^^ b) : a = b := by
  have q : g ^^^ (g ^^^ a) = g ^^^ (g ^^^ b) := by rw [h]
  rwa [xor_self_left, xor_self_left] at q
/-- by nearness to g, each once -/
def byN (g : Nat) (ns : List Nat) : List Nat := (sortU (ns.map (g ^^^ ·))).map (g ^^^ ·)
theorem mem_byN {g z : Nat} {ns : List Nat} : z ∈ byN g ns ↔ z ∈ ns := by
  unfold byN
  rw [List.mem_map]
  constructor
  · rintro ⟨k, hk, rfl⟩
    obtain ⟨n, hn, rfl⟩ := List.mem_map.mp (mem_sortU.mp hk)
    rw [xor_self_left]; exact hn
  · intro h
    exact ⟨g ^^^ z, mem_sortU.mpr (List.mem_map.mpr ⟨z, h, rfl⟩), xor_self_left _ _⟩
theorem byN_sorted (g : Nat) (ns : List Nat) : (byN g ns).Pairwise fun a b => g ^^^ a < g ^^^ b := by
  unfold byN
  rw [List.pairwise_map]
  exact (sortU_sorted _).imp fun {a b} h => by rw [xor_self_left, xor_self_left]; exact h
theorem byN_nodup (g : Nat) (ns : List Nat) : (byN g ns).Nodup := (byN_sorted g ns).imp fun {a b} h e => by rw [e] at h; exact Nat.lt_irrefl _ h
/-- the one list that is ordered so, with these members -/
theorem byN_uniq {g : Nat} {ns l : List Nat} (hs : l.Pairwise fun a b => g ^^^ a < g ^^^ b) (hm : ∀ z, z ∈ l ↔ z ∈ ns) : l = byN g ns := by
  have e : l.map (g ^^^ ·) = sortU (ns.map (g ^^^ ·)) := by
    refine rising_eq (List.pairwise_map.mpr hs) (sortU_sorted _) fun z => ?_
    rw [mem_sortU, List.mem_map, List.mem_map]
    constructor
    · rintro ⟨a, h, e⟩; exact ⟨a, (hm a).mp h, e⟩
    · rintro ⟨a, h, e⟩; exact ⟨a, (hm a).mpr h, e⟩
  unfold byN
  rw [← e, List.map_map]
  have : ((g ^^^ ·) ∘ (g ^^^ ·) : Nat → Nat) = id := funext fun n => xor_self_left g n
  rw [this, List.map_id]
theorem byN_congr {g : Nat} {a b : List Nat} (h : ∀ z, z ∈ a ↔ z ∈ b) : byN g a = byN g b := byN_uniq (byN_sorted g a) fun z => by rw [mem_byN, h]
theorem byN_len_le {g : Nat} {ns : List Nat} : (byN g ns).length ≤ ns.length := nodup_len (byN_nodup g ns) fun _ h => mem_byN.mp h
theorem byN_len {g g' : Nat} {ns : List Nat} : (byN g ns).length = (byN g' ns).length :=
  Nat.le_antisymm (nodup_len (byN_nodup _ _) fun _ h => mem_byN.mpr (mem_byN.mp h)) (nodup_len (byN_nodup _ _) fun _ h => mem_byN.mpr (mem_byN.mp h))
end Nn
/-! set(list of ints), as the layer's sets are kept -/
namespace Nn
open PySem PySem.Spec PyProof.Rows L2
section
variable {P : Program} {w : World} {A : Around} {E : Value → Shared → Prop} {s : Shared}
/-- a set's object, just made -/
abbrev newS (w : World) : Obj := { cls := .type "set", dict := none, data := .set #[] 0 (.fresh 0 0 (!w.params.followText "set-order")) }
/-- what the filling of a new set at S by the list at l does -/
def Filled (w : World) (S : Addr) (ns : List Int) (s s2 : Shared) : Prop := ∃ (h2 : Heap) (tk c : Nat), s2 = { s with heap := h2, toks := tk } ∧ SetR w h2 S (fun j => decide (j ∈ ns)) c ∧ c ≤ ns.length ∧ ∀ b o, b ≠ S → s.heap.get? b = some o → h2.get? b = some o
set_option maxRecDepth 100000 in
set_option maxHeartbeats 3200000 in
theorem fill_set {S l : Addr} {items : Array Value} {ns : List Int} {Q : Value → Shared → Prop} (hh : A.handled = none) (hS : s.heap.get? S = some (newS w)) (hl : s.heap.IsList l items) (hit : IntsAre items.toList ns) (hb : ns.length + 1 < scanBound)
    (h : ∀ s2, Filled w S ns s s2 → Q .none s2) : codeAny (model P w) A (.call (.builtin "set.__init__") ⟨[.ref S, .ref l], []⟩) (wants Q E) s := by
  have hT : Shared.TypeIs s (.ref S) "set" := ⟨_, hS, rfl⟩
  have hlen : items.size = ns.length := by
    have q := IntsAre.length hit
    rwa [Array.length_toList] at q
  have hlS : l ≠ S := fun z => by
    obtain ⟨o, ho, _, n, hd⟩ := hl
    rw [z, hS] at ho
    cases ho
    cases hd
  refine codeAny_call_builtin F.called_set.init.plain F.entry_set_init (check_set_init_1 hT ?_)
  obtain ⟨⟨oc, od, ob, osl⟩, hol, hcl, nl, hdl⟩ := id hl
  simp only at hcl hdl
  subst hcl hdl
  have a1 := F.sub_list_set
  have a2 := F.sub_list_frozenset
  have a3 : (Value.type "list" == Value.type "dict") = false := by decide
  unfold Builtin.«set.__init__» noKeywords Builtin.Frozenset.updateFrom
  generalize hPI : pyIter = PI
  wp_walk
  subst hPI
  refine wpAny_pyIter_list hl ?_
  refine wpAny_bind (wpAny_runValue ?_)
  have hi3 : A.in1.in1.handled = none := by simp [hh]
  have low : ∀ {b : Addr} {o : Obj}, s.heap.get? b = some o → b ≠ s.heap.objs.size := fun e => Nat.ne_of_lt (Heap.lt_size e)
  have hfp : S ∉ [s.heap.objs.size, l] := by
    simp only [List.mem_cons, List.not_mem_nil, or_false, not_or]
    exact ⟨low hS, hlS.symm⟩
  have hS2 : ∀ o : Obj, (s.heap.push o).get? S = some (newS w) := fun o => Heap.get?_push_of_some _ hS
  have hv2 : ∀ (i : Nat) (v : Value), items[i]? = some v → ∃ k t, ns[i]? = some k ∧ v = .int k t := fun i v hv => by
    have hi : i < ns.length := by rw [← hlen]; exact (Array.getElem?_eq_some_iff.mp hv).1
    obtain ⟨t, e⟩ := PyProof.Rows.IntsAre.int_at hit i v ((Array.getElem?_toList).trans hv)
    refine ⟨ns[i], t, List.getElem?_eq_getElem hi, e.trans ?_⟩
    rw [List.getD_eq_getElem?_getD, List.getElem?_eq_getElem hi]; rfl
  refine set_update_ints ((Walks.list hi3 _ l (low hol) items).toS) S hfp ns hlen hb hv2 (items.size - 0) 0 _ (by omega) (Nat.zero_le _) ?hSt ?hS0 ?hR
  · exact ⟨⟨_, Heap.get?_push_size _ rfl, rfl, rfl⟩, hl.push _⟩
  · exact ⟨0, Nat.le_refl 0, setR_new_at (w := w) (hS2 _)⟩
  · rintro ⟨h2, g2, d2, tk2, o2⟩ c hm hc hR
    obtain rfl : g2 = s.gens := hm.gens
    obtain rfl : d2 = s.drawn := hm.drawn
    obtain rfl : o2 = s.os := hm.os
    rw [hlen] at hc
    show wpAny (model P w) _ (pure ()) _ _ _
    refine wpAny_pure ?_
    show wpAny (model P w) _ (ret Value.none) _ _ _
    refine wpAny_pure ?_
    refine h _ ⟨h2, tk2, c, rfl, hR, hc, fun b o nb e => hm.heap b o ?_ (Heap.get?_push_of_some _ e)⟩
    simp only [List.mem_cons, List.not_mem_nil, or_false, not_or]
    exact ⟨nb, low e⟩
set_option maxRecDepth 100000 in
set_option maxHeartbeats 3200000 in
theorem call_set_L {l : Addr} {items : Array Value} {ns : List Int} {Q : Value → Shared → Prop} (hh : A.handled = none) (hl : s.heap.IsList l items) (hit : IntsAre items.toList ns) (hb : ns.length + 1 < scanBound)
    (h : ∀ s2, Filled w s.heap.objs.size ns { s with heap := s.heap.push (newS w) } s2 → Q (.ref s.heap.objs.size) s2) : wpAny (model P w) A (call (.type "set") [.ref l]) Q E s := by
  obtain ⟨c, tl, hmro⟩ := F.called_set.mro
  have b1 := F.called_set.made
  have b2 := F.called_set.sub
  have b3 := F.called_set.notType
  have b4 := F.called_set.canCreate
  have b5 := F.typeCall_set_1 (.ref l)
  refine wpAny_call (codeAny_of_tree ?_)
  show wpAny (model P w) _ (callAny (.type "set") ⟨[.ref l], []⟩) _ _ s
  refine wpAny_pure ⟨Code.quiet_builtin _ (by decide +kernel), ?_⟩
  refine codeAny_builtin F.entry_type_call ?_
  rw [Around.under_plain (weight_type_call_type "set" [.ref l] []) rfl]
  repeat (any_goals (first | assumption | wp_step))
  refine codeAny_mono (code_set_led1 (.ref l) (E := E) (Q₁ := fun o s1 => o = .ref s.heap.objs.size ∧ s1 = { s with heap := s.heap.push (newS w) }) ⟨rfl, rfl⟩) fun r s1 hr => ?_
  match r, hr with
  | .error e, hr => exact hr
  | .ok .next, hr => exact hr.elim
  | .ok .brk, hr => exact hr.elim
  | .ok .cont, hr => exact hr.elim
  | .ok (.ret o), hr =>
    obtain ⟨rfl, rfl⟩ := hr
    have hS : (s.heap.push (newS w)).get? s.heap.objs.size = some (newS w) := Heap.get?_push_size _ rfl
    have hT : Shared.TypeIs { s with heap := s.heap.push (newS w) } (.ref s.heap.objs.size) "set" := ⟨_, hS, rfl⟩
    have b6 := F.called_set.init.lookup
    have b7 := F.called_set.init.bind (.ref s.heap.objs.size)
    repeat (any_goals (first | assumption | wp_step))
    refine codeAny_mono (fill_set (S := s.heap.objs.size) (l := l) (ns := ns) (items := items) (E := E) (Q := fun r s2 => r = .none ∧ Filled w s.heap.objs.size ns { s with heap := s.heap.push (newS w) } s2) (by simp [hh]) hS (hl.push _) hit hb fun s2 f => ⟨rfl, f⟩) fun r2 s2 hr2 => ?_
    match r2, hr2 with
    | .error e, hr2 => exact hr2
    | .ok .next, hr2 => exact hr2.elim
    | .ok .brk, hr2 => exact hr2.elim
    | .ok .cont, hr2 => exact hr2.elim
    | .ok (.ret o), hr2 =>
      obtain ⟨rfl, f⟩ := hr2
      obtain ⟨h2, tk, c2, rfl, g1, g2, g3⟩ := id f
      repeat (any_goals (first | assumption | wp_step))
      exact h _ f
end
theorem nodup_lenI : ∀ {a b : List Int}, a.Nodup → (∀ z ∈ a, z ∈ b) → a.length ≤ b.length
  | [], _, _, _ => Nat.zero_le _
  | x :: r, b, nd, h => by
    obtain ⟨n1, n2⟩ := List.nodup_cons.mp nd
    have hx := h x List.mem_cons_self
    have e := List.length_erase_of_mem hx
    have p := List.length_pos_of_mem hx
    have q := nodup_lenI (a := r) (b := b.erase x) n2 fun z hz => (List.mem_erase_of_ne fun y => n1 (by rw [← y]; exact hz)).mpr (h z (List.mem_cons_of_mem _ hz))
    rw [List.length_cons]
    omega
theorem setR_le {w : World} {h : Heap} {a : Addr} {S : Int → Bool} {n : Nat} {k : List Int} (R : SetR w h a S n) (hk : ∀ j, S j = true → j ∈ k) : n ≤ k.length := by
  obtain ⟨o, es, ep, t, _, _, _, _, nd, hm, _, _, hn, _⟩ := R
  have q := nodup_lenI nd fun z hz => hk z ((hm z).mpr hz)
  rw [List.length_map, Array.length_toList, hn] at q
  exact q
/-- set(xs), xs a list of ints -/
def rSetL (K : PySem.W.Frag) (w : World) : List V → Hp → VK → Prop := fun xs H Q => ∃ (l : Addr) (ns : List Int), xs = [.ref l] ∧ SqL K H l (ns.map V.int) ∧ ns.length ≤ 4090 ∧ ∀ p c, H p = none → c ≤ ns.length → (∀ k : List Int, (∀ j ∈ ns, j ∈ k) → c ≤ k.length) → Q (.ref p) (upd H p (SetO w p (fun j => decide (j ∈ ns)) c))
theorem cr_setL {X : Cx} (hc : X.calm = true) : CallR X (.type "set") (rSetL X.K X.w) := by
  intro pins s σ H xs us Q I r h
  obtain ⟨l, ns, rfl, hq, hz, q⟩ := h
  rw [Vals.ref1 r]
  obtain ⟨its, r2, pl, hz2⟩ := I.list hq
  refine call_set_L (I.ok.hd hc) pl.isList (by simpa using RZ.intsAre_vals r2) (by unfold scanBound; omega) fun s2 f => ?_
  obtain ⟨h2, tk, c, rfl, g1, g2, g3⟩ := f
  have nf : H s.heap.objs.size = none := I.hok.fresh (Nat.le_refl _)
  refine ⟨.ref _, upd H s.heap.objs.size (SetO X.w s.heap.objs.size (fun j => decide (j ∈ ns)) c), I.laid (t' := tk) (fun b u e => g3 b u (Nat.ne_of_lt (Heap.lt_size e)) (Heap.get?_push_of_some _ e)) (Nat.le_refl _) (setO_new g1), rfl, q _ c nf g2 fun k hk => setR_le g1 fun j hj => hk j (of_decide_eq_true hj)⟩
/-- how many members a rising list of them has -/
theorem x_setL {K : PySem.W.Frag} {w : World} {H : Hp} {Q : VK} {l : Addr} {ns : List Nat} (hS : SqL K H l (ns.map nV)) (hz : ns.length ≤ 4090) (h : ∀ p c, H p = none → c ≤ ns.length → Q (.ref p) (upd H p (SetO w p (fun j => decide (j ∈ ns.map fun n : Nat => (n : Int))) c))) : rSetL K w [.ref l] H Q :=
  ⟨l, ns.map fun n : Nat => (n : Int), rfl, by rw [← map_nV]; exact hS, by rw [List.length_map]; exact hz, fun p c hp hc _ => h p c hp (by rw [List.length_map] at hc; exact hc)⟩
theorem x_setLK {K : PySem.W.Frag} {w : World} {H : Hp} {Q : VK} {l : Addr} {ns k : List Nat} (hS : SqL K H l (ns.map nV)) (hz : ns.length ≤ 4090) (hk : ∀ j ∈ ns, j ∈ k) (h : ∀ p c, H p = none → c ≤ k.length → Q (.ref p) (upd H p (SetO w p (fun j => decide (j ∈ ns.map fun n : Nat => (n : Int))) c))) : rSetL K w [.ref l] H Q :=
  ⟨l, ns.map fun n : Nat => (n : Int), rfl, by rw [← map_nV]; exact hS, by rw [List.length_map]; exact hz, fun p c hp _ hc => h p c hp (by
    have q := hc (k.map fun n : Nat => (n : Int)) fun j hj => by
      obtain ⟨n, hn, rfl⟩ := List.mem_map.mp hj
      exact List.mem_map.mpr ⟨n, hk n hn, rfl⟩
    rw [List.length_map] at q; exact q)⟩
theorem x_sortSet {w : World} {H : Hp} {Q : VK} {p : Addr} {ns : List Nat} {c : Nat} (hp : H p = some (SetO w p (fun j => decide (j ∈ ns.map fun n : Nat => (n : Int))) c)) (hc : c < 64) (h : ∀ q, H q = none → Q (.ref q) (upd H q (.lst ((sortU ns).map nV)))) : rSortedSet w [.ref p] H Q := by
  refine ⟨p, _, c, rfl, hp, hc, fun ys q hr hm hl hq => ?_⟩
  have hmem : ∀ y ∈ ys, ∃ n : Nat, n ∈ ns ∧ y = (n : Int) := fun y hy => by
    obtain ⟨n, hn, e⟩ := List.mem_map.mp (of_decide_eq_true ((hm y).mp hy))
    exact ⟨n, hn, e.symm⟩
  have e : ys = (sortU ns).map fun n : Nat => (n : Int) := by
    have e1 : ys = (ys.map Int.toNat).map fun n : Nat => (n : Int) := by
      rw [List.map_map]
      refine (List.map_id ys).symm.trans (List.map_congr_left fun y hy => ?_)
      obtain ⟨n, _, rfl⟩ := hmem y hy
      simp
    have e2 : ys.map Int.toNat = sortU ns := rising_eq (by
      refine List.pairwise_map.mpr (hr.imp_of_mem fun {a b} ha hb hab => ?_)
      obtain ⟨n, _, rfl⟩ := hmem a ha
      obtain ⟨m, _, rfl⟩ := hmem b hb
      simp; omega) (sortU_sorted _) fun z => by
      rw [mem_sortU]
      constructor
      · intro hz
        obtain ⟨y, hy, e⟩ := List.mem_map.mp hz
        obtain ⟨n, hn, rfl⟩ := hmem y hy
        rw [← e]; simpa using hn
      · intro hz
        exact List.mem_map.mpr ⟨(z : Int), (hm _).mpr (decide_eq_true (List.mem_map.mpr ⟨z, hz, rfl⟩)), by simp⟩
    rw [e1, e2]
  rw [e, ← map_nV]
  exact h q hq
theorem x_sortN {K : PySem.W.Frag} {H : Hp} {Q : VK} {a : Addr} {ns : List Nat} (hS : SqL K H a (ns.map nV)) (nd : ns.Nodup) (h : ∀ p, H p = none → Q (.ref p) (upd H p (.lst ((sortU ns).map nV)))) : rSortedI K [.ref a] H Q := by
  refine ⟨a, ns.map fun n : Nat => (n : Int), rfl, by rw [← map_nV]; exact hS, fun ys p hperm hsort hp => ?_⟩
  obtain ⟨zs, rfl⟩ : ∃ zs : List Nat, ys = zs.map fun n : Nat => (n : Int) := by
    refine ⟨ys.map Int.toNat, ?_⟩
    rw [List.map_map]
    refine (List.map_id ys).symm.trans (List.map_congr_left fun y hy => ?_)
    obtain ⟨n, _, rfl⟩ := List.mem_map.mp (hperm.mem_iff.mp hy)
    simp
  have hzs : zs = sortU ns := by
    have hmem : ∀ z, z ∈ zs ↔ z ∈ ns := fun z => by
      constructor
      · intro hz
        obtain ⟨n, hn, e⟩ := List.mem_map.mp (hperm.mem_iff.mp (List.mem_map.mpr ⟨z, hz, rfl⟩))
        rw [← Int.ofNat.inj e]; exact hn
      · intro hz
        obtain ⟨n, hn, e⟩ := List.mem_map.mp (hperm.mem_iff.mpr (List.mem_map.mpr ⟨z, hz, rfl⟩))
        rw [← Int.ofNat.inj e]; exact hn
    refine rising_eq ?_ (sortU_sorted _) fun z => by rw [hmem, mem_sortU]
    have nz : zs.Nodup := by
      have q : (zs.map fun n : Nat => (n : Int)).Nodup := hperm.nodup_iff.mpr (List.Pairwise.map _ (fun a b h e => h (Int.ofNat.inj e)) nd)
      exact (List.pairwise_map.mp q).imp fun h e => h (by rw [e])
    have le : zs.Pairwise (· ≤ ·) := (List.pairwise_map.mp hsort).imp fun h => by omega
    exact (nz.and le).imp fun h => by omega
  rw [hzs, ← map_nV]
  exact h p hp
end Nn
/-! far: the bits' difference -/
namespace Nn
open PySem L2
section
variable {P : Program} {w : World} {K : PySem.W.Frag} {mg : Str → Option Value} {base : Heap} {H : Hp} {Q : VK} {E : XK}
def sp_far (_ : Tx K mg base) : Sp := fun vs H Q E => ∃ (a : Nat) (b : Nat), vs = [.int a, .int b] ∧ (Q (.int ((a ^^^ b : Nat) : Int)) H)
theorem wc_far {T : Tx K mg base} {a : Nat} {b : Nat} {i0 : Int} {i1 : Int} (e0 : i0 = a) (e1 : i1 = b)  (h : Q (.int ((a ^^^ b : Nat) : Int)) H) : sp_far T [.int i0, .int i1] H Q E := by
  subst e0 e1
  exact ⟨a, b, rfl, h⟩
theorem ok_far (T : Tx K mg base) : FnOk P w K mg base CX0 1 T.a_far T.d_far ["one", "other"] (sp_far T) := by
  refine T.F_far.okD sc_far (fun vs H Q E h => ?_) (fun cdv A outer s H vs Q E hr h => ?_)
  · obtain ⟨a, b, rfl, q⟩ := h; rfl
  · obtain ⟨a, b, rfl, q⟩ := h
    have hu := hu_of hr
    have c_Bucket := T.c_Bucket; have n_Bucket_room := T.n_Bucket_room; have n_Bucket_line := T.n_Bucket_line; have c_Table := T.c_Table; have n_Table_own := T.n_Table_own; have n_Table_wide := T.n_Table_wide; have n_Table_room := T.n_Table_room; have n_Table_buckets := T.n_Table_buckets; have c_Town := T.c_Town; have n_Town_wide := T.n_Town_wide; have n_Town_room := T.n_Town_room; have n_Town_tables := T.n_Town_tables; have n_Town_hushed := T.n_Town_hushed
    refine ⟨_, (pss_one (ps_ret (pe_op op_xor (pv 0) (pv 1)))), ?_⟩
    rw [Nn.st_far]; try rw [Nn.cxK]
    try rw [Nn.cxW]
    walk_at "wx"
    rw [Bits.bitXor_pp (Int.natCast_nonneg _) (Int.natCast_nonneg _)]
    exact q
end
end Nn
local macro_rules | `(tactic| walk_at "wc") => `(tactic| ((with_reducible refine' Nn.wc_far ?hE0 ?hE1 (?_)); (case hE0 => walk_at "wnat"); (case hE1 => walk_at "wnat")))
/-! nearer, step, span -/
namespace Nn
open PySem L2
section
variable {P : Program} {w : World} {K : PySem.W.Frag} {mg : Str → Option Value} {base : Heap} {H : Hp} {Q : VK} {E : XK}
def sp_nearer (_ : Tx K mg base) : Sp := fun vs H Q E => ∃ (g : Nat) (a : Nat) (b : Nat), vs = [.int g, .int a, .int b] ∧ (Q (.bl (decide (g ^^^ a < g ^^^ b))) H)
theorem wc_nearer {T : Tx K mg base} {g : Nat} {a : Nat} {b : Nat} {i0 : Int} {i1 : Int} {i2 : Int} (e0 : i0 = g) (e1 : i1 = a) (e2 : i2 = b)  (h : Q (.bl (decide (g ^^^ a < g ^^^ b))) H) : sp_nearer T [.int i0, .int i1, .int i2] H Q E := by
  subst e0 e1 e2
  exact ⟨g, a, b, rfl, h⟩
theorem ok_nearer (T : Tx K mg base) : FnOk P w K mg base CX0 2 T.a_nearer T.d_nearer ["goal", "one", "other"] (sp_nearer T) := by
  refine T.F_nearer.okD sc_nearer (fun vs H Q E h => ?_) (fun cdv A outer s H vs Q E hr h => ?_)
  · obtain ⟨g, a, b, rfl, q⟩ := h; rfl
  · obtain ⟨g, a, b, rfl, q⟩ := h
    have hu := hu_of hr
    have c_Bucket := T.c_Bucket; have n_Bucket_room := T.n_Bucket_room; have n_Bucket_line := T.n_Bucket_line; have c_Table := T.c_Table; have n_Table_own := T.n_Table_own; have n_Table_wide := T.n_Table_wide; have n_Table_room := T.n_Table_room; have n_Table_buckets := T.n_Table_buckets; have c_Town := T.c_Town; have n_Town_wide := T.n_Town_wide; have n_Town_room := T.n_Town_room; have n_Town_tables := T.n_Town_tables; have n_Town_hushed := T.n_Town_hushed
    refine ⟨_, (pss_one (ps_ret (pe_cmpR op_lt (pe_call (ok_far T) hr rfl T.m_far T.F_far.kp T.b_far .nil pass0 (pa_cons (pv 0) (pa_cons (pv 1) pa_nil))) (pe_call (ok_far T) hr rfl T.m_far T.F_far.kp T.b_far .nil pass0 (pa_cons (pv 0) (pa_cons (pv 2) pa_nil))) (nomark _)))), ?_⟩
    rw [Nn.st_nearer]; try rw [Nn.cxK]
    try rw [Nn.cxW]
    walk_at "wx"
    have e : decide (((g ^^^ a : Nat) : Int) < ((g ^^^ b : Nat) : Int)) = decide (g ^^^ a < g ^^^ b) := by simp
    rw [e]; exact q
end
end Nn
local macro_rules | `(tactic| walk_at "wc") => `(tactic| ((with_reducible refine' Nn.wc_nearer ?hE0 ?hE1 ?hE2 (?_)); (case hE0 => walk_at "wnat"); (case hE1 => walk_at "wnat"); (case hE2 => walk_at "wnat")))
namespace Nn
open PySem L2
section
variable {P : Program} {w : World} {K : PySem.W.Frag} {mg : Str → Option Value} {base : Heap} {H : Hp} {Q : VK} {E : XK}
def sp_step (_ : Tx K mg base) : Sp := fun vs H Q E => ∃ (a : Nat) (b : Nat), vs = [.int a, .int b] ∧ (a ≠ b) ∧ (Q (.int ((stepN a b : Nat) : Int)) H)
theorem wc_step {T : Tx K mg base} {a : Nat} {b : Nat} {i0 : Int} {i1 : Int} (e0 : i0 = a) (e1 : i1 = b) (c0 : a ≠ b) (h : Q (.int ((stepN a b : Nat) : Int)) H) : sp_step T [.int i0, .int i1] H Q E := by
  subst e0 e1
  exact ⟨a, b, rfl, c0, h⟩
theorem ok_step (T : Tx K mg base) : FnOk P w K mg base CX0 2 T.a_step T.d_step ["one", "other"] (sp_step T) := by
  refine T.F_step.okD sc_step (fun vs H Q E h => ?_) (fun cdv A outer s H vs Q E hr h => ?_)
  · obtain ⟨a, b, rfl, hpre, q⟩ := h; rfl
  · obtain ⟨a, b, rfl, hpre, q⟩ := h
    have hu := hu_of hr
    have c_Bucket := T.c_Bucket; have n_Bucket_room := T.n_Bucket_room; have n_Bucket_line := T.n_Bucket_line; have c_Table := T.c_Table; have n_Table_own := T.n_Table_own; have n_Table_wide := T.n_Table_wide; have n_Table_room := T.n_Table_room; have n_Table_buckets := T.n_Table_buckets; have c_Town := T.c_Town; have n_Town_wide := T.n_Town_wide; have n_Town_room := T.n_Town_room; have n_Town_tables := T.n_Town_tables; have n_Town_hushed := T.n_Town_hushed
    refine ⟨_, (pss_one (ps_ret (pe_op op_sub (pe_bits (pe_call (ok_far T) hr rfl T.m_far T.F_far.kp T.b_far .nil pass0 (pa_cons (pv 0) (pa_cons (pv 1) pa_nil)))) pe_int))), ?_⟩
    rw [Nn.st_step]; try rw [Nn.cxK]
    try rw [Nn.cxW]
    walk_at "wx"
    have e : (((if a ^^^ b = 0 then 0 else (a ^^^ b).log2 + 1 : Nat) : Nat) : Int) - 1 = ((stepN a b : Nat) : Int) := by
      rw [if_neg (xor_ne_zero hpre)]
      unfold stepN; omega
    rw [e]; exact q
end
end Nn
local macro_rules | `(tactic| walk_at "wc") => `(tactic| ((with_reducible refine' Nn.wc_step ?hE0 ?hE1 ?hC0 (?_)); (case hE0 => walk_at "wnat"); (case hE1 => walk_at "wnat"); (case hC0 => walk_at "wpre")))
/-! by_nearness -/
namespace Nn
open PySem L2
section
variable {P : Program} {w : World} {K : PySem.W.Frag} {mg : Str → Option Value} {base : Heap} {H : Hp} {Q : VK} {E : XK}
/-- the dict of by_nearness: the keys ks, each with its name -/
def farD (g : Nat) (ks : List Nat) : List (Key × V) := ks.map fun k => (nK k, nV (g ^^^ k))
theorem farD_val {g n : Nat} : ∀ {ks : List Nat}, valV (farD g ks) (nK n) = if n ∈ ks then some (nV (g ^^^ n)) else none
  | [] => rfl
  | k :: r => by
    by_cases e : k = n
    · rw [if_pos (by simp [e])]
      show valV ((nK k, nV (g ^^^ k)) :: farD g r) (nK n) = _
      rw [valV_pos (by rw [e]), e]
    · show valV ((nK k, nV (g ^^^ k)) :: farD g r) (nK n) = _
      rw [valV_neg (by intro z; exact e (nK_inj z)), farD_val]
      simp [e, Ne.symm e]
theorem mem_cast {z : Nat} {l : List Nat} : (z : Int) ∈ l.map (fun n : Nat => (n : Int)) ↔ z ∈ l := by
  rw [List.mem_map]
  exact ⟨fun ⟨a, h, e⟩ => by rw [← Int.ofNat.inj e]; exact h, fun h => ⟨z, h, rfl⟩⟩
theorem farD_put {g n : Nat} {ks : List Nat} : putK (farD g ks) (nK (g ^^^ n)) (nV n) = farD g (if g ^^^ n ∈ ks then ks else ks ++ [g ^^^ n]) := by
  by_cases h : g ^^^ n ∈ ks
  · rw [if_pos h]
    unfold putK
    have e : ((farD g ks).any fun kv => decide (kv.1 = nK (g ^^^ n))) = true := by rw [valV_any, farD_val, if_pos h]; rfl
    rw [if_pos e]
    unfold farD
    rw [List.map_map]
    refine List.map_congr_left fun k _ => ?_
    show (if nK k = nK (g ^^^ n) then (nK k, nV n) else (nK k, nV (g ^^^ k))) = _
    by_cases q : k = g ^^^ n
    · rw [if_pos (by rw [q]), q, xor_self_left]
    · rw [if_neg fun z => q (nK_inj z)]
  · rw [if_neg h, putK_new _ (by rw [farD_val, if_neg h])]
    unfold farD
    rw [List.map_append]
    simp [xor_self_left]
def sp_by_nearness (_ : Tx K mg base) : Sp := fun vs H Q E => ∃ (g : Nat) (p_names : Addr) (names : List Nat), vs = [.int g, .ref p_names] ∧ (SqL K H p_names (names.map nV)) ∧ ((byN g names).length < 64 ∧ names.length ≤ 100000) ∧ (∀ p H', H p = none → Ex H H' → H' p = some (.lst ((byN g names).map nV)) → Q (.ref p) H')
theorem wc_by_nearness {T : Tx K mg base} {g : Nat} {p_names : Addr} {names : List Nat} {i0 : Int} (e0 : i0 = g) (c0 : SqL K H p_names (names.map nV)) (c1 : (byN g names).length < 64 ∧ names.length ≤ 100000) (h : ∀ p H', H p = none → Ex H H' → H' p = some (.lst ((byN g names).map nV)) → Q (.ref p) H') : sp_by_nearness T [.int i0, .ref p_names] H Q E := by
  subst e0
  exact ⟨g, p_names, names, rfl, c0, c1, h⟩
theorem ok_by_nearness (T : Tx K mg base) : FnOk P w K mg base CX0 2 T.a_by_nearness T.d_by_nearness ["goal", "names"] (sp_by_nearness T) := by
  refine T.F_by_nearness.okD sc_by_nearness (fun vs H Q E h => ?_) (fun cdv A outer s H vs Q E hr h => ?_)
  · obtain ⟨g, p_names, names, rfl, hS0, hpre, q⟩ := h; rfl
  · obtain ⟨g, p_names, names, rfl, hS0, hpre, q⟩ := h
    have hu := hu_of hr
    have c_Bucket := T.c_Bucket; have n_Bucket_room := T.n_Bucket_room; have n_Bucket_line := T.n_Bucket_line; have c_Table := T.c_Table; have n_Table_own := T.n_Table_own; have n_Table_wide := T.n_Table_wide; have n_Table_room := T.n_Table_room; have n_Table_buckets := T.n_Table_buckets; have c_Town := T.c_Town; have n_Town_wide := T.n_Town_wide; have n_Town_room := T.n_Town_room; have n_Town_tables := T.n_Town_tables; have n_Town_hushed := T.n_Town_hushed
    refine ⟨_, (pss_cons (ps_set (i := 2) sc_by_nearness.nd rfl (Or.inr rfl) pe_dnewK)
      (pss_cons (ps_for PassesOwn.never rfl (pi_list (pv 1)) (pg_name (i := 3) sc_by_nearness.nd rfl (Or.inl rfl))
      (pss_one (ps_dput hu (pv 2) (pe_call (ok_far T) hr rfl T.m_far T.F_far.kp T.b_far .nil pass0 (pa_cons (pv 0) (pa_cons (pv 3) pa_nil))) (pv 3) rfl)))
      (pss_one (ps_ret (pe_lc (own := [("one", 4)]) (g := (gName 4)) (by rfl) sc_by_nearness.nd (pi_list (pe_callB (cb_sortD rfl) (by rfl) T.z_sorted (by decide +kernel) (pa_cons (pv 2) pa_nil))) (blkOk_by (N := N_by_nearness) (sc := defScope s_by_nearness) (own := [("one", 4)]) (by decide +kernel)) (fun _ _ _ _ _ => (pg_name (i := 4) sc_by_nearness.nd rfl (Or.inl rfl))) (fun _ _ _ _ _ => pts_nil) (fun _ _ _ _ _ => (pe_dget hu (pv 2) (pv 4) (fun _ _ => rfl)))))))), ?_⟩
    rw [Nn.st_by_nearness]; try rw [Nn.cxK]
    try rw [Nn.cxW]
    walk_at "wx"
    intro d hd
    walk_at "wx"
    obtain ⟨h64, hz⟩ := hpre
    refine ForW.by walk_list (fun i σ H' => ∃ (v : Option V) (ks : List Nat), σ = [some (.int g), some (.ref p_names), some (.ref d), v, none] ∧ Ex H H' ∧ H' d = some (.dK (farD g ks)) ∧ ks.Nodup ∧ (∀ k, k ∈ ks ↔ k ∈ (names.take i).map (g ^^^ ·)))
      ⟨none, [], rfl, Ex.new hd, upd_same, List.nodup_nil, by simp⟩ (fun i σ H' _ ⟨_, _, _, e, _⟩ => e.ls hS0) ?_ ?_
    · rintro i x σ H1 _ hi ⟨v, ks, rfl, ex1, h1, nd, hm⟩ ⟨rfl, hx⟩
      rw [List.length_map] at hi
      obtain rfl : x = nV names[i] := by
        rw [List.getElem?_map, List.getElem?_eq_getElem hi] at hx
        exact (Option.some.inj hx).symm
      have et : names.take (i + 1) = names.take i ++ [names[i]] := by rw [List.take_add_one, List.getElem?_eq_getElem hi]; rfl
      have hk64 : ks.length ≤ (byN g names).length := by
        have e : (byN g names).length = (sortU (names.map (g ^^^ ·))).length := by unfold byN; rw [List.length_map]
        rw [e]
        refine nodup_len nd fun k hk => mem_sortU.mpr ?_
        obtain ⟨n, hn, rfl⟩ := List.mem_map.mp ((hm k).mp hk)
        exact List.mem_map.mpr ⟨n, List.mem_of_mem_take hn, rfl⟩
      walk_at "wx"
      refine x_dput h1 (by unfold farD; rw [sizeLine_eq, List.length_map]; omega) ?_
      have hput : putK (farD g ks) (Sum.inl ((g ^^^ names[i] : Nat) : Int)) (nV names[i]) = farD g (if g ^^^ names[i] ∈ ks then ks else ks ++ [g ^^^ names[i]]) := farD_put
      rw [hput]
      refine ⟨_, _, rfl, ex1.mut hd h1, upd_same, ?_, fun k => ?_⟩
      · by_cases h : g ^^^ names[i] ∈ ks
        · rw [if_pos h]; exact nd
        · rw [if_neg h]; exact nd_snoc nd h
      · rw [et, List.map_append, List.mem_append, ← hm]
        by_cases h : g ^^^ names[i] ∈ ks
        · rw [if_pos h]
          constructor
          · exact .inl
          · rintro (q | q)
            · exact q
            · rw [List.map_singleton, List.mem_singleton] at q; rw [q]; exact h
        · rw [if_neg h, List.mem_append]; simp
    · rintro σ H1 ⟨v, ks, rfl, ex1, h1, nd, hm⟩
      rw [List.length_map, List.take_length] at hm
      have hkeys : (farD g ks).map (·.1) = (ks.map fun n : Nat => (n : Int)).map Sum.inl := by unfold farD; rw [List.map_map, List.map_map]; rfl
      have hk64 : ks.length ≤ (byN g names).length := by
        have e : (byN g names).length = (sortU (names.map (g ^^^ ·))).length := by unfold byN; rw [List.length_map]
        rw [e]
        exact nodup_len nd fun k hk => mem_sortU.mpr ((hm k).mp hk)
      walk_at "wx"
      refine ⟨d, _, _, rfl, .inl h1, hkeys, by rw [List.length_map]; omega, fun ys p hperm hsort hp => ?_⟩
      obtain ⟨zs, rfl⟩ : ∃ zs : List Nat, ys = zs.map fun n : Nat => (n : Int) := by
        refine ⟨ys.map Int.toNat, ?_⟩
        rw [List.map_map]
        refine (List.map_id ys).symm.trans (List.map_congr_left fun y hy => ?_)
        obtain ⟨n, _, rfl⟩ := List.mem_map.mp (hperm.mem_iff.mp hy)
        simp
      have hzs : zs = sortU (names.map (g ^^^ ·)) := by
        have hmem : ∀ z, z ∈ zs ↔ z ∈ ks := fun z => by
          rw [← mem_cast (l := zs), ← mem_cast (l := ks)]
          exact hperm.mem_iff
        refine rising_eq ?_ (sortU_sorted _) fun z => by rw [hmem, hm, mem_sortU]
        have nz : zs.Nodup := by
          have q : (zs.map fun n : Nat => (n : Int)).Nodup := hperm.nodup_iff.mpr (List.Pairwise.map _ (fun a b h e => h (Int.ofNat.inj e)) nd)
          exact (List.pairwise_map.mp q).imp fun h e => h (by rw [e])
        have le : zs.Pairwise (· ≤ ·) := (List.pairwise_map.mp hsort).imp fun h => by omega
        exact (nz.and le).imp fun h => by omega
      walk_at "wx"
      refine LcW.map (emb := nV) (xs := zs) (fun k => nV (g ^^^ k)) (SqL.of (by rw [upd_same, ← map_nV])) ?_ ?_ ?_
      · have e : zs.length = (byN g names).length := by rw [hzs]; unfold byN; rw [List.length_map]
        rw [e, sizeLine_eq]; omega
      · intro k hk H2 ex2 Qe hQ
        have hd2 : H2 d = some (.dK (farD g ks)) := ex2.at ((Ex.new hp).at h1)
        have hkk : k ∈ ks := (hm k).mpr (mem_sortU.mp (by rw [← hzs]; exact hk))
        have hv : valV (farD g ks) (Sum.inl (k : Int)) = some (nV (g ^^^ k)) := by
          have q := farD_val (g := g) (n := k) (ks := ks)
          rw [if_pos hkk] at q
          exact q
        walk_at "wx"
        exact hQ _ Ex.refl
      · intro D H2 hD ex2 hD2
        refine q D H2 ?_ ((ex1.newT hp).trans ex2) ?_
        · exact (ex1.newT hp).back D hD
        · rw [hD2, hzs]; unfold byN; rw [List.map_map]; rfl
end
end Nn
/-! what answers: a town's own -/
namespace Nn
open PySem L2
/-- a dict of names -/
def dOf (hs : List Nat) (f : Nat → V) : List (Key × V) := hs.map fun h => (nK h, f h)
theorem dOf_val {f : Nat → V} {n : Nat} : ∀ {hs : List Nat}, valV (dOf hs f) (nK n) = if n ∈ hs then some (f n) else none
  | [] => rfl
  | k :: r => by
    show valV ((nK k, f k) :: dOf r f) (nK n) = _
    by_cases e : k = n
    · rw [valV_pos (by rw [e]), e, if_pos (by simp)]
    · rw [valV_neg (by intro z; exact e (nK_inj z)), dOf_val]
      simp [Ne.symm e]
theorem dOf_has {f : Nat → V} {n : Nat} {hs : List Nat} : (valV (dOf hs f) (nK n)).isSome = decide (n ∈ hs) := by
  rw [dOf_val]
  by_cases h : n ∈ hs
  · rw [if_pos h, decide_eq_true h]; rfl
  · rw [if_neg h, decide_eq_false h]; rfl
theorem dOf_keys {f : Nat → V} {hs : List Nat} : (dOf hs f).map (·.1) = (hs.map fun n : Nat => (n : Int)).map Sum.inl := by
  unfold dOf; rw [List.map_map, List.map_map]; rfl
theorem dOf_len {f : Nat → V} {hs : List Nat} : (dOf hs f).length = hs.length := by unfold dOf; rw [List.length_map]
theorem dOf_new {f : Nat → V} {hs : List Nat} {n : Nat} (h : n ∉ hs) : putK (dOf hs f) (nK n) (f n) = dOf (hs ++ [n]) f := by
  rw [putK_new _ (by rw [dOf_val, if_neg h])]
  unfold dOf; rw [List.map_append]; rfl
theorem dOf_put {f : Nat → V} {hs : List Nat} {n : Nat} (h : n ∈ hs) : putK (dOf hs f) (nK n) (f n) = dOf hs f := by
  unfold putK
  rw [if_pos (by rw [valV_any, dOf_val, if_pos h]; rfl)]
  unfold dOf
  rw [List.map_map]
  refine List.map_congr_left fun k _ => ?_
  show (if nK k = nK n then (nK k, f n) else (nK k, f k)) = _
  by_cases q : k = n
  · rw [if_pos (by rw [q]), q]
  · rw [if_neg fun z => q (nK_inj z)]
section
variable {P : Program} {w : World} {K : PySem.W.Frag} {mg : Str → Option Value} {base : Heap} {H : Hp} {Q : VK} {E : XK}
/-- a town's object and its two dicts -/
structure TwAt (T : Tx K mg base) (H : Hp) (t td hd : Addr) (wide room : Nat) (hs : List Nat) (pa : Nat → Addr) (qs : List Nat) : Prop where
  ob : ∃ dx, H t = some (.ins T.C_Town dx (f_Town (nV wide) (nV room) (.ref td) (.ref hd)))
  tb : H td = some (.dK (dOf hs fun h => .ref (pa h)))
  hb : H hd = some (.dK (dOf qs fun _ => .bl true))
def awB (hs qs : List Nat) (n : Nat) : Bool := decide (n ∈ hs) && !decide (n ∈ qs)
def sp_Town_answers (T : Tx K mg base) : Sp := fun vs H Q _ => ∃ (t td hd : Addr) (wide room n : Nat) (hs : List Nat) (pa : Nat → Addr) (qs : List Nat), vs = [.ref t, .int n] ∧ TwAt T H t td hd wide room hs pa qs ∧ Q (.bl (awB hs qs n)) H
theorem wc_Town_answers {T : Tx K mg base} {t td hd : Addr} {wide room n : Nat} {i : Int} {hs : List Nat} {pa : Nat → Addr} {qs : List Nat} (hi : i = n) (a : TwAt T H t td hd wide room hs pa qs) (h : Q (.bl (awB hs qs n)) H) : sp_Town_answers T [.ref t, .int i] H Q E := by
  subst hi; exact ⟨t, td, hd, wide, room, n, hs, pa, qs, rfl, a, h⟩
theorem ok_Town_answers (T : Tx K mg base) : FnOk P w K mg base CX0 1 T.a_Town_answers T.d_Town_answers ["self", "name"] (sp_Town_answers T) := by
  refine T.F_Town_answers.okD sc_Town_answers (fun vs H Q E h => ?_) (fun cdv A outer s H vs Q E hr h => ?_)
  · obtain ⟨t, td, hd, wide, room, n, hs, pa, qs, rfl, _⟩ := h; rfl
  · obtain ⟨t, td, hd, wide, room, n, hs, pa, qs, rfl, ⟨⟨dx, ob⟩, tb, hb⟩, q⟩ := h
    have hu := hu_of hr
    have c_Bucket := T.c_Bucket; have n_Bucket_room := T.n_Bucket_room; have n_Bucket_line := T.n_Bucket_line; have c_Table := T.c_Table; have n_Table_own := T.n_Table_own; have n_Table_wide := T.n_Table_wide; have n_Table_room := T.n_Table_room; have n_Table_buckets := T.n_Table_buckets; have c_Town := T.c_Town; have n_Town_wide := T.n_Town_wide; have n_Town_room := T.n_Town_room; have n_Town_tables := T.n_Town_tables; have n_Town_hushed := T.n_Town_hushed
    refine ⟨_, (pss_one (ps_ret (pe_and (pe_cmp (pc_din hu (pv 1) (pe_fld (pv 0) rfl))) (pe_one (pe_cmp (pc_dnotin hu (pv 1) (pe_fld (pv 0) rfl))))))), ?_⟩
    rw [Nn.st_Town_answers]; try rw [Nn.cxK]
    try rw [Nn.cxW]
    walk_at "wx"
    have e1 : (valV (dOf hs fun h => .ref (pa h)) (Sum.inl (n : Int))).isSome = decide (n ∈ hs) := dOf_has
    have e2 : (valV (dOf qs fun _ => .bl true) (Sum.inl (n : Int))).isSome = decide (n ∈ qs) := dOf_has
    rw [e1]
    unfold awB at q
    refine x_iteB (fun h => ?_) fun h => ?_
    · walk_at "wx"
      rw [e2]
      rw [h, Bool.true_and] at q
      exact q
    · rw [h, Bool.false_and] at q
      exact q
/-- a town's word on who answers; the function's cells -/
structure An where
  t : Addr
  td : Addr
  hd : Addr
  wide : Nat
  room : Nat
  hs : List Nat
  pa : Nat → Addr
  qs : List Nat
  cl : List (Str × Addr)
  cd : Addr
def An.ws (A : An) : List (Option V) := [some (.ref A.t)]
def ansB (A : An) (n : Nat) : Bool := awB A.hs A.qs n
def sp_Town_hears_answers (T : Tx K mg base) : List (Option V) → Sp := fun ws vs H Q _ => ∃ (A : An) (n : Nat), ws = A.ws ∧ vs = [.int n] ∧ TwAt T H A.t A.td A.hd A.wide A.room A.hs A.pa A.qs ∧ Q (.bl (ansB A n)) H
theorem nok_Town_hears_answers (T : Tx K mg base) {cl : List (Str × Addr)} {c : Addr} (f : Addr) : NdefX.NOk P w K mg base CX0 2 f (nf_Town_hears_answers cl c) ["other"] fr_Town_hears_answers (sp_Town_hears_answers T) := by
  refine NdefX.nok_of (N := N_Town_hears_answers) nsc_Town_hears_answers (fun doc pm ctv us hl => match us, hl with | [_], _ => rfl) (fun ws vs H Q E h => ?_) (fun A outer s H vs ws Q E hr hf hc hwl h => ?_)
  · obtain ⟨A, n, rfl, rfl, _⟩ := h; rfl
  · obtain ⟨A, n, rfl, rfl, a, q⟩ := h
    obtain ⟨dx, ob⟩ := a.ob
    unfold An.ws
    have c_Bucket := T.c_Bucket; have n_Bucket_room := T.n_Bucket_room; have n_Bucket_line := T.n_Bucket_line; have c_Table := T.c_Table; have n_Table_own := T.n_Table_own; have n_Table_wide := T.n_Table_wide; have n_Table_room := T.n_Table_room; have n_Table_buckets := T.n_Table_buckets; have c_Town := T.c_Town; have n_Town_wide := T.n_Town_wide; have n_Town_room := T.n_Town_room; have n_Town_tables := T.n_Town_tables; have n_Town_hushed := T.n_Town_hushed
    refine ⟨_, (pss_one (ps_ret (pe_meth (pv 1) T.c_Town T.t_Town_answers (ok_Town_answers T) hr T.b_Town_answers .nil pass0 (pa_cons (pv 0) pa_nil)))), ?_⟩
    rw [Nn.st_Town_hears_answers]; try rw [Nn.cxK]
    try rw [Nn.cxW]
    walk_at "wx"
    exact wc_Town_answers rfl a q
def AnsOf (T : Tx K mg base) (H : Hp) (f : Addr) (A : An) : Prop := H f = some (NdefX.FnO f (nf_Town_hears_answers A.cl A.cd)) ∧ H A.cd = some (LamX.CodeO A.cd (nf_Town_hears_answers A.cl A.cd).qual) ∧ TwAt T H A.t A.td A.hd A.wide A.room A.hs A.pa A.qs
def AnsS (_ : An) : Addr → Prop := fun _ => False
def AnsL (_ : An) (_ : Hp) (_ : List Nat) : Prop := True
theorem AnsOf.none {T : Tx K mg base} {H : Hp} {f : Addr} {A : An} (_ : AnsOf T H f A) : AnsL A H [] := trivial
theorem AnsL.upd {A : An} {H H' : Hp} {as : List Nat} {l : Addr} (_ : AnsL A H as) (_ : Fr (fun a => a = l) H H') (_ : ¬ AnsS A l) : AnsL A H' as := trivial
theorem AnsOf.ins {T : Tx K mg base} {H : Hp} {f a : Addr} {A : An} {C dx : Addr} {fs : List (Str × V)} (_ : AnsOf T H f A) (z : AnsS A a) (_ : H a = some (.ins C dx fs)) : False := z
theorem AnsOf.say {T : Tx K mg base} {H : Hp} {f : Addr} {A : An} {x : Nat} {Q : VK} {E : XK} (h : AnsOf T H f A) (k : ∀ H2, Fr (AnsS A) H H2 → AnsL A H2 [x] → Q (.bl (ansB A x)) H2) : sp_Town_hears_answers T A.ws [.int x] H Q E := ⟨A, x, rfl, rfl, h.2.2, k H Fr.refl trivial⟩
end
end Nn
/-! buckets -/
namespace Nn
open PySem L2
/-- what a bucket of room has in its line behind hearing of n (a: the eldest answers), and the word -/
def hearL (room : Nat) (xs : List Nat) (n : Nat) (a : Bool) : List Nat :=
  if n ∈ xs then xs.erase n ++ [n] else if xs.length < room then xs ++ [n] else if a = true then xs.tail ++ [xs.headD 0] else xs.tail ++ [n]
def hearW (room : Nat) (xs : List Nat) (n : Nat) (a : Bool) : Str :=
  if n ∈ xs then "again" else if xs.length < room then "new" else if a = true then "full" else "instead"
theorem hear_in {room n : Nat} {xs : List Nat} {a : Bool} (h : n ∈ xs) : hearL room xs n a = xs.erase n ++ [n] ∧ hearW room xs n a = "again" := by
  unfold hearL hearW; rw [if_pos h, if_pos h]; exact ⟨rfl, rfl⟩
theorem hear_new {room n : Nat} {xs : List Nat} {a : Bool} (h : ¬ n ∈ xs) (r : xs.length < room) : hearL room xs n a = xs ++ [n] ∧ hearW room xs n a = "new" := by
  unfold hearL hearW; rw [if_neg h, if_neg h, if_pos r, if_pos r]; exact ⟨rfl, rfl⟩
theorem hear_full {room n x : Nat} {xs : List Nat} {a : Bool} (h : ¬ n ∈ x :: xs) (r : ¬ (x :: xs).length < room) (e : a = true) : hearL room (x :: xs) n a = xs ++ [x] ∧ hearW room (x :: xs) n a = "full" := by
  unfold hearL hearW; rw [if_neg h, if_neg h, if_neg r, if_neg r, if_pos e, if_pos e]; exact ⟨rfl, rfl⟩
theorem hear_inst {room n x : Nat} {xs : List Nat} {a : Bool} (h : ¬ n ∈ x :: xs) (r : ¬ (x :: xs).length < room) (e : a = false) : hearL room (x :: xs) n a = xs ++ [n] ∧ hearW room (x :: xs) n a = "instead" := by
  unfold hearL hearW; rw [if_neg h, if_neg h, if_neg r, if_neg r, if_neg (by simp [e]), if_neg (by simp [e])]; exact ⟨rfl, rfl⟩
theorem hear_len {room n : Nat} {xs : List Nat} {a : Bool} (h : xs.length ≤ room) (r0 : 0 < room) : (hearL room xs n a).length ≤ room := by
  unfold hearL
  by_cases h1 : n ∈ xs
  · rw [if_pos h1, List.length_append, List.length_erase_of_mem h1, List.length_singleton]
    have := List.length_pos_of_mem h1
    omega
  · rw [if_neg h1]
    by_cases h2 : xs.length < room
    · rw [if_pos h2, List.length_append, List.length_singleton]; omega
    · rw [if_neg h2]
      by_cases h3 : a = true
      · rw [if_pos h3, List.length_append, List.length_singleton, List.length_tail]; omega
      · rw [if_neg h3, List.length_append, List.length_singleton, List.length_tail]; omega
section
variable {P : Program} {w : World} {K : PySem.W.Frag} {mg : Str → Option Value} {base : Heap} {H : Hp} {Q : VK} {E : XK}
/-- a bucket at p: its line at l holds xs -/
structure BuckAt (T : Tx K mg base) (H : Hp) (p l : Addr) (room : Nat) : Prop where
  ob : ∃ dx, H p = some (.ins T.C_Bucket dx (f_Bucket (nV room) (.ref l)))
theorem BuckAt.fr {T : Tx K mg base} {S : Addr → Prop} {H H' : Hp} {p l : Addr} {room : Nat} (b : BuckAt T H p l room) (f : Fr S H H') (hs : ¬ S p) : BuckAt T H' p l room := by
  obtain ⟨dx, h⟩ := b.ob
  exact ⟨dx, f.at h hs⟩
def sp_Bucket_init (T : Tx K mg base) : Sp := fun vs H Q _ => ∃ (p dx : Addr) (room : Nat), vs = [.ref p, .int room] ∧ H p = some (.ins T.C_Bucket dx []) ∧ ∀ (l : Addr) (H' : Hp), H l = none → H' l = some (.lst []) → Fr (fun a => a = p) H H' → BuckAt T H' p l room → Q .non H'
theorem ok_Bucket_init (T : Tx K mg base) : FnOk P w K mg base CX0 1 T.a_Bucket_init T.d_Bucket_init ["self", "room"] (sp_Bucket_init T) := by
  refine T.F_Bucket_init.okD sc_Bucket_init (fun vs H Q E h => ?_) (fun cdv A outer s H vs Q E hr h => ?_)
  · obtain ⟨p, dx, room, rfl, _⟩ := h; rfl
  · obtain ⟨p, dx, room, rfl, hp, q⟩ := h
    have c_Bucket := T.c_Bucket; have n_Bucket_room := T.n_Bucket_room; have n_Bucket_line := T.n_Bucket_line; have c_Table := T.c_Table; have n_Table_own := T.n_Table_own; have n_Table_wide := T.n_Table_wide; have n_Table_room := T.n_Table_room; have n_Table_buckets := T.n_Table_buckets; have c_Town := T.c_Town; have n_Town_wide := T.n_Town_wide; have n_Town_room := T.n_Town_room; have n_Town_tables := T.n_Town_tables; have n_Town_hushed := T.n_Town_hushed
    refine ⟨_, (pss_cons (ps_fld (pv 0) (pv 1) rfl)
      (pss_one (ps_fld (pv 0) (pe_lst pa_nil) rfl))), ?_⟩
    rw [Nn.st_Bucket_init]; try rw [Nn.cxK]
    try rw [Nn.cxW]
    walk_at "wx"
    refine ⟨len_ok rfl, fun l hl => ?_⟩
    walk_at "wx"
    have hl0 : H l = none := upd_back hl
    have hne : l ≠ p := fun z => by rw [z, hp] at hl0; cases hl0
    refine q l _ hl0 (by rw [upd_ne hne, upd_same]) ?_ ⟨dx, upd_same⟩
    exact ((Fr.upd1 hp).trans (Ex.new hl).fr).trans (Fr.upd1 (u := .ins T.C_Bucket dx [("room", .int room)]) (by rw [upd_ne hne.symm, upd_same]))
def sp_Bucket_names (T : Tx K mg base) : Sp := fun vs H Q _ => ∃ (p l : Addr) (room : Nat) (xs : List V), vs = [.ref p] ∧ BuckAt T H p l room ∧ H l = some (.lst xs) ∧ ∀ q, H q = none → Q (.ref q) (upd H q (.lst xs))
theorem wc_Bucket_names {T : Tx K mg base} {p l : Addr} {room : Nat} {xs : List V} (b : BuckAt T H p l room) (hl : H l = some (.lst xs)) (h : ∀ q, H q = none → Q (.ref q) (upd H q (.lst xs))) : sp_Bucket_names T [.ref p] H Q E := ⟨p, l, room, xs, rfl, b, hl, h⟩
theorem ok_Bucket_names (T : Tx K mg base) : FnOk P w K mg base CX0 1 T.a_Bucket_names T.d_Bucket_names ["self"] (sp_Bucket_names T) := by
  refine T.F_Bucket_names.okD sc_Bucket_names (fun vs H Q E h => ?_) (fun cdv A outer s H vs Q E hr h => ?_)
  · obtain ⟨p, l, room, xs, rfl, _⟩ := h; rfl
  · obtain ⟨p, l, room, xs, rfl, ⟨dx, ob⟩, hl, q⟩ := h
    have c_Bucket := T.c_Bucket; have n_Bucket_room := T.n_Bucket_room; have n_Bucket_line := T.n_Bucket_line; have c_Table := T.c_Table; have n_Table_own := T.n_Table_own; have n_Table_wide := T.n_Table_wide; have n_Table_room := T.n_Table_room; have n_Table_buckets := T.n_Table_buckets; have c_Town := T.c_Town; have n_Town_wide := T.n_Town_wide; have n_Town_room := T.n_Town_room; have n_Town_tables := T.n_Town_tables; have n_Town_hushed := T.n_Town_hushed
    refine ⟨_, (pss_one (ps_ret (pe_callTy cb_list (by rfl) T.z_list (by decide +kernel) (pa_cons (pe_fld (pv 0) rfl) pa_nil)))), ?_⟩
    rw [Nn.st_Bucket_names]; try rw [Nn.cxK]
    try rw [Nn.cxW]
    walk_at "wx"
    exact x_listL (SqL.of hl) q
/-- who was asked -/
def askedL (room : Nat) (xs : List Nat) (n : Nat) : List Nat := if n ∈ xs then [] else if xs.length < room then [] else [xs.headD 0]
def sp_Bucket_hears (T : Tx K mg base) (cl : List (Str × Addr)) : List (Option V) → Sp := fun ws vs H Q _ => ∃ (p l : Addr) (room : Nat) (xs : List Nat) (n : Nat) (f : Addr) (A : An), cl = A.cl ∧ ws = A.ws ∧ vs = [.ref p, .int n, .ref f] ∧ BuckAt T H p l room ∧ H l = some (.lst (xs.map nV)) ∧ 0 < room ∧ room ≤ 100000 ∧ xs.length ≤ 100000 ∧ AnsOf T H f A ∧ ¬ AnsS A l ∧
  ∀ H', Fr (fun a => a = l ∨ AnsS A a) H H' → H' l = some (.lst ((hearL room xs n (ansB A (xs.headD 0))).map nV)) → AnsL A H' (askedL room xs n) → Q (.str (hearW room xs n (ansB A (xs.headD 0)))) H'
theorem wc_Bucket_hears {T : Tx K mg base} {cl : List (Str × Addr)} {ws : List (Option V)} {p l f : Addr} {room n : Nat} {xs : List Nat} {A : An} (ec : cl = A.cl) (ew : ws = A.ws) (b : BuckAt T H p l room) (hl : H l = some (.lst (xs.map nV))) (r0 : 0 < room) (r1 : room ≤ 100000) (x1 : xs.length ≤ 100000) (a : AnsOf T H f A) (s : ¬ AnsS A l)
    (h : ∀ H', Fr (fun a => a = l ∨ AnsS A a) H H' → H' l = some (.lst ((hearL room xs n (ansB A (xs.headD 0))).map nV)) → AnsL A H' (askedL room xs n) → Q (.str (hearW room xs n (ansB A (xs.headD 0)))) H') : sp_Bucket_hears T cl ws [.ref p, .int n, .ref f] H Q E :=
  ⟨p, l, room, xs, n, f, A, ec, ew, rfl, b, hl, r0, r1, x1, a, s, h⟩
theorem ok_Bucket_hears (T : Tx K mg base) {cl : List (Str × Addr)} (ws : List (Option V)) : FnOkC P w K mg base CX0 3 T.a_Bucket_hears T.d_Bucket_hears ["self", "name", "answers"] cl fr_Town_hears_answers ws (sp_Bucket_hears T cl ws) := by
  refine FunD.okC T.F_Bucket_hears sc_Bucket_hears (fun vs H Q E h => ?_) (fun cdv A outer s H vs Q E hr hC h => ?_)
  · obtain ⟨p, l, room, xs, n, f, A, rfl, rfl, rfl, _⟩ := h; rfl
  · obtain ⟨p, l, room, xs, n, f, A, rfl, rfl, rfl, ⟨dx, ob⟩, hl, r0, r1, x1, hans, hsl, q⟩ := h
    have hL0 := AnsOf.none hans
    skip
    have c_Bucket := T.c_Bucket; have n_Bucket_room := T.n_Bucket_room; have n_Bucket_line := T.n_Bucket_line; have c_Table := T.c_Table; have n_Table_own := T.n_Table_own; have n_Table_wide := T.n_Table_wide; have n_Table_room := T.n_Table_room; have n_Table_buckets := T.n_Table_buckets; have c_Town := T.c_Town; have n_Town_wide := T.n_Town_wide; have n_Town_room := T.n_Town_room; have n_Town_tables := T.n_Town_tables; have n_Town_hushed := T.n_Town_hushed
    refine ⟨_, (pss_cons (ps_if (pt_cmpR op_in_seq (pv 1) (pe_fld (pv 0) rfl) rfl)
      (pss_cons (ps_expr (pe_bm PySem.F.plainAttrs_list PySem.F.slot_list_remove PySem.F.type_list_remove mt_remove (pe_fld (pv 0) rfl) (pa_cons (pv 1) pa_nil)))
      (pss_cons (ps_expr (pe_bm PySem.F.plainAttrs_list PySem.F.slot_list_append PySem.F.type_list_append mt_append (pe_fld (pv 0) rfl) (pa_cons (pv 1) pa_nil)))
      (pss_one (ps_ret pe_str))))
      pss_nil)
      (pss_cons (ps_if (pt_cmpR op_lt (pe_callB cb_len (by rfl) T.z_len PySem.boot_len (pa_cons (pe_fld (pv 0) rfl) pa_nil)) (pe_fld (pv 0) rfl) (nomark _))
      (pss_cons (ps_expr (pe_bm PySem.F.plainAttrs_list PySem.F.slot_list_append PySem.F.type_list_append mt_append (pe_fld (pv 0) rfl) (pa_cons (pv 1) pa_nil)))
      (pss_one (ps_ret pe_str)))
      pss_nil)
      (pss_cons (ps_if (pt_val (pe_callF (F := nf_Town_hears_answers A.cl A.cd) (i := 2) (fun f => nok_Town_hears_answers T f) (Prov.entry hC rfl) hr (by decide) pass0 rfl (by first | exact Or.inl rfl | exact Or.inr (Or.inl rfl) | exact Or.inr (Or.inr rfl)) (pa_cons (pe_ix ix_list (pe_fld (pv 0) rfl) pe_int (fun _ _ => rfl)) pa_nil)))
      (pss_cons (ps_expr (pe_bm PySem.F.plainAttrs_list PySem.F.slot_list_append PySem.F.type_list_append mt_append (pe_fld (pv 0) rfl) (pa_cons (pe_bm PySem.F.plainAttrs_list PySem.F.slot_list_pop PySem.F.type_list_pop mt_popAt (pe_fld (pv 0) rfl) (pa_cons pe_int pa_nil)) pa_nil)))
      (pss_one (ps_ret pe_str)))
      pss_nil)
      (pss_cons (ps_expr (pe_bm PySem.F.plainAttrs_list PySem.F.slot_list_pop PySem.F.type_list_pop mt_popAt (pe_fld (pv 0) rfl) (pa_cons pe_int pa_nil)))
      (pss_cons (ps_expr (pe_bm PySem.F.plainAttrs_list PySem.F.slot_list_append PySem.F.type_list_append mt_append (pe_fld (pv 0) rfl) (pa_cons (pv 1) pa_nil)))
      (pss_one (ps_ret pe_str))))))), ?_⟩
    rw [Nn.st_Bucket_hears]; try rw [Nn.cxK]
    try rw [Nn.cxW]
    walk_at "wx"
    refine x_ifD (fun hn => ?_) fun hn => ?_
    · walk_at "wx"
      refine x_remove rfl hl hn ?_
      walk_at "wx"
      refine x_append upd_same (by rw [sizeLine_eq, List.length_map, List.length_erase_of_mem hn]; omega) ?_
      rw [(hear_in hn).1, (hear_in hn).2, List.map_append, show askedL room xs n = [] from if_pos hn] at q
      rw [upd_upd]
      have fr := Fr.upd1 (o := .lst ((xs.erase n).map nV ++ [nV n])) hl
      exact q _ (fr.mono fun a z => .inl z) upd_same (hL0.upd fr hsl)
    · walk_at "wx"
      refine x_ifD (fun hr1 => ?_) fun hr1 => ?_
      · walk_at "wx"
        rw [List.length_map] at hr1
        have e := hear_new (a := ansB A (xs.headD 0)) hn (Int.ofNat_lt.mp hr1)
        rw [e.1, e.2, List.map_append, show askedL room xs n = [] from by unfold askedL; rw [if_neg hn, if_pos (Int.ofNat_lt.mp hr1)]] at q
        have fr := Fr.upd1 (o := .lst (xs.map nV ++ [nV n])) hl
        exact q _ (fr.mono fun a z => .inl z) upd_same (hL0.upd fr hsl)
      · obtain ⟨x, r, rfl⟩ : ∃ x r, xs = x :: r := by
          cases xs with
          | nil => simp at hr1; omega
          | cons x r => exact ⟨x, r, rfl⟩
        rw [List.length_map] at hr1
        have hr2 : ¬ (x :: r).length < room := fun z => hr1 (Int.ofNat_lt.mpr z)
        have hrl : r.length < (x :: r).length := Nat.lt_succ_self _
        rw [show askedL room (x :: r) n = [x] from by unfold askedL; rw [if_neg hn, if_neg hr2]; rfl] at q
        simp only [List.headD_cons] at q
        walk_at "wx"
        refine ⟨f, rfl, hans.1, ?_⟩
        walk_at "wx"
        refine ⟨hans.1, hans.2.1, ?_⟩
        refine AnsOf.say hans fun H2 fr2 hL2 => ?_
        walk_at "wx"
        have ob2 := fr2.at ob fun z => AnsOf.ins hans z ob
        have hl2 := fr2.at hl hsl
        refine x_ifB (fun ha => ?_) fun ha => ?_
        · have ha : ansB A x = true := ha
          walk_at "wx"
          have e := hear_full hn hr2 ha
          rw [e.1, e.2, List.map_append] at q
          refine x_pop0 (xs := r.map nV) hl2 ?_
          walk_at "wx"
          rw [upd_upd]
          have fr := Fr.upd1 (o := .lst (r.map nV ++ [nV x])) hl2
          exact q _ ((fr2.mono fun a z => .inr z).trans (fr.mono fun a z => .inl z)) upd_same (hL2.upd fr hsl)
        · have ha : ansB A x = false := ha
          walk_at "wx"
          have e := hear_inst hn hr2 ha
          rw [e.1, e.2, List.map_append] at q
          refine x_pop0 (xs := r.map nV) hl2 ?_
          walk_at "wx"
          rw [upd_upd]
          have fr := Fr.upd1 (o := .lst (r.map nV ++ [nV n])) hl2
          exact q _ ((fr2.mono fun a z => .inr z).trans (fr.mono fun a z => .inl z)) upd_same (hL2.upd fr hsl)
def sp_Bucket_drops (T : Tx K mg base) : Sp := fun vs H Q _ => ∃ (p l : Addr) (room : Nat) (xs : List Nat) (n : Nat), vs = [.ref p, .int n] ∧ BuckAt T H p l room ∧ H l = some (.lst (xs.map nV)) ∧
  (n ∉ xs → Q (.bl false) H) ∧ (n ∈ xs → Fr (fun a => a = l) H (upd H l (.lst ((xs.erase n).map nV))) → Q (.bl true) (upd H l (.lst ((xs.erase n).map nV))))
theorem ok_Bucket_drops (T : Tx K mg base) : FnOk P w K mg base CX0 1 T.a_Bucket_drops T.d_Bucket_drops ["self", "name"] (sp_Bucket_drops T) := by
  refine T.F_Bucket_drops.okD sc_Bucket_drops (fun vs H Q E h => ?_) (fun cdv A outer s H vs Q E hr h => ?_)
  · obtain ⟨p, l, room, xs, n, rfl, _⟩ := h; rfl
  · obtain ⟨p, l, room, xs, n, rfl, ⟨dx, ob⟩, hl, q1, q2⟩ := h
    have c_Bucket := T.c_Bucket; have n_Bucket_room := T.n_Bucket_room; have n_Bucket_line := T.n_Bucket_line; have c_Table := T.c_Table; have n_Table_own := T.n_Table_own; have n_Table_wide := T.n_Table_wide; have n_Table_room := T.n_Table_room; have n_Table_buckets := T.n_Table_buckets; have c_Town := T.c_Town; have n_Town_wide := T.n_Town_wide; have n_Town_room := T.n_Town_room; have n_Town_tables := T.n_Town_tables; have n_Town_hushed := T.n_Town_hushed
    refine ⟨_, (pss_cons (ps_if (pt_cmpR op_notIn_seq (pv 1) (pe_fld (pv 0) rfl) rfl)
      (pss_one (ps_ret pe_bl))
      pss_nil)
      (pss_cons (ps_expr (pe_bm PySem.F.plainAttrs_list PySem.F.slot_list_remove PySem.F.type_list_remove mt_remove (pe_fld (pv 0) rfl) (pa_cons (pv 1) pa_nil)))
      (pss_one (ps_ret pe_bl)))), ?_⟩
    rw [Nn.st_Bucket_drops]; try rw [Nn.cxK]
    try rw [Nn.cxW]
    walk_at "wx"
    refine x_ifN (fun hn => ?_) fun hn => ?_
    · walk_at "wx"
      exact q1 hn
    · walk_at "wx"
      refine x_remove rfl hl hn ?_
      walk_at "wx"
      exact q2 hn (Fr.upd1 hl)
end
end Nn
/-! tables -/
namespace Nn
open PySem L2
/-- the line lists of a table -/
structure Lines (H : Hp) (ls : List Addr) (xss : List (List Nat)) : Prop where
  nd : ls.Nodup
  len : ls.length = xss.length
  at_ : ∀ (k : Nat) (l : Addr) (xs : List Nat), ls[k]? = some l → xss[k]? = some xs → H l = some (.lst (xs.map nV))
theorem Lines.fr {S : Addr → Prop} {H H' : Hp} {ls : List Addr} {xss : List (List Nat)} (L : Lines H ls xss) (f : Fr S H H') (h : ∀ l ∈ ls, ¬ S l) : Lines H' ls xss :=
  ⟨L.nd, L.len, fun k l xs h1 h2 => f.at (L.at_ k l xs h1 h2) (h l (List.mem_of_getElem? h1))⟩
theorem Lines.ex {H H' : Hp} {ls : List Addr} {xss : List (List Nat)} (L : Lines H ls xss) (f : Ex H H') : Lines H' ls xss := L.fr f fun _ _ z => z
/-- it is a list of names -/
def IsLine (H : Hp) (a : Addr) : Prop := ∃ xs : List Nat, H a = some (.lst (xs.map nV))
theorem Lines.is {H : Hp} {ls : List Addr} {xss : List (List Nat)} (L : Lines H ls xss) {l : Addr} (h : l ∈ ls) : IsLine H l := by
  obtain ⟨k, hk⟩ := List.getElem?_of_mem h
  have h1 : k < xss.length := by rw [← L.len]; exact (List.getElem?_eq_some_iff.mp hk).1
  exact ⟨xss[k], L.at_ k l _ hk (List.getElem?_eq_getElem h1)⟩
theorem Lines.upd {H H' : Hp} {ls : List Addr} {xss : List (List Nat)} (L : Lines H ls xss) {k : Nat} {l : Addr} {xs : List Nat} (hk : ls[k]? = some l) (f : Fr (fun a => a = l) H H') (e : H' l = some (.lst (xs.map nV))) : Lines H' ls (xss.set k xs) := by
  refine ⟨L.nd, by rw [List.length_set]; exact L.len, fun j l' xs' h1 h2 => ?_⟩
  have hkl : k < ls.length := (List.getElem?_eq_some_iff.mp hk).1
  by_cases hj : k = j
  · subst hj
    rw [hk] at h1; cases h1
    rw [List.getElem?_set_self (by rw [← L.len]; exact hkl)] at h2
    cases h2
    exact e
  · rw [List.getElem?_set_ne hj] at h2
    refine f.at (L.at_ j l' xs' h1 h2) fun z => hj ?_
    rw [z] at h1
    exact (List.getElem?_inj hkl L.nd).mp (hk.trans h1.symm)
theorem Lines.updS {S : Addr → Prop} {H H' : Hp} {ls : List Addr} {xss : List (List Nat)} (L : Lines H ls xss) {k : Nat} {l : Addr} {xs : List Nat} (hk : ls[k]? = some l) (f : Fr S H H') (hs : ∀ y ∈ ls, S y → y = l) (e : H' l = some (.lst (xs.map nV))) : Lines H' ls (xss.set k xs) := by
  refine ⟨L.nd, by rw [List.length_set]; exact L.len, fun j l' xs' h1 h2 => ?_⟩
  have hkl : k < ls.length := (List.getElem?_eq_some_iff.mp hk).1
  by_cases hj : k = j
  · subst hj
    rw [hk] at h1; cases h1
    rw [List.getElem?_set_self (by rw [← L.len]; exact hkl)] at h2
    cases h2
    exact e
  · rw [List.getElem?_set_ne hj] at h2
    refine f.at (L.at_ j l' xs' h1 h2) fun z => hj ?_
    rw [hs l' (List.mem_of_getElem? h1) z] at h1
    exact (List.getElem?_inj hkl L.nd).mp (hk.trans h1.symm)
section
variable {P : Program} {w : World} {K : PySem.W.Frag} {mg : Str → Option Value} {base : Heap} {H : Hp} {Q : VK} {E : XK}
/-- a table at p: what never changes of it -/
structure TabAt (T : Tx K mg base) (H : Hp) (p : Addr) (own wide room : Nat) (ls : List Addr) : Prop where
  w0 : 0 < wide
  w1 : wide ≤ 60
  r0 : 0 < room
  r1 : room ≤ 8
  len : ls.length = wide
  ob : ∃ (dx bl : Addr) (bs : List Addr), H p = some (.ins T.C_Table dx (f_Table (nV own) (nV wide) (nV room) (.ref bl))) ∧ H bl = some (.lst (bs.map V.ref)) ∧ bs.length = wide ∧ ∀ (k : Nat) (b l : Addr), bs[k]? = some b → ls[k]? = some l → BuckAt T H b l room
theorem refs_ne_ints {bs : List Addr} {xs : List Nat} (h : 0 < bs.length) : HO.lst (bs.map V.ref) ≠ HO.lst (xs.map nV) := by
  intro z
  cases bs with
  | nil => simp at h
  | cons b r => cases xs with
    | nil => cases z
    | cons x r => cases z
theorem TabAt.fr {T : Tx K mg base} {S : Addr → Prop} {H H' : Hp} {p : Addr} {own wide room : Nat} {ls : List Addr} (t : TabAt T H p own wide room ls) (f : Fr S H H') (h : ∀ a, S a → IsLine H a ∨ H a = none) : TabAt T H' p own wide room ls := by
  obtain ⟨dx, bl, bs, h1, h2, h3, h4⟩ := t.ob
  refine ⟨t.w0, t.w1, t.r0, t.r1, t.len, dx, bl, bs, f.at h1 ?_, f.at h2 ?_, h3, fun k b l e1 e2 => (h4 k b l e1 e2).fr f ?_⟩
  · intro z
    rcases h _ z with ⟨xs, e⟩ | e <;> rw [h1] at e <;> cases e
  · intro z
    rcases h _ z with ⟨xs, e⟩ | e
    · rw [h2] at e
      exact refs_ne_ints (by rw [h3]; exact t.w0) (Option.some.inj e)
    · rw [h2] at e; cases e
  · intro z
    obtain ⟨dy, hb⟩ := (h4 k b l e1 e2).ob
    rcases h _ z with ⟨xs, e⟩ | e <;> rw [hb] at e <;> cases e
theorem TabAt.ex {T : Tx K mg base} {H H' : Hp} {p : Addr} {own wide room : Nat} {ls : List Addr} (t : TabAt T H p own wide room ls) (f : Ex H H') : TabAt T H' p own wide room ls := t.fr f fun _ z => z.elim
/-- what lies beneath a table is of F -/
def TabOwn (T : Tx K mg base) (H : Hp) (p : Addr) (F : Addr → Prop) : Prop := ∀ (dx bl : Addr) (x y z : V) (bs : List Addr), H p = some (.ins T.C_Table dx (f_Table x y z (.ref bl))) → H bl = some (.lst (bs.map V.ref)) → F bl ∧ ∀ b ∈ bs, F b
theorem refs_inj {as bs : List Addr} (h : as.map V.ref = bs.map V.ref) : as = bs := List.map_inj_right (f := V.ref) (fun a b e => V.ref.inj e) |>.mp h
theorem TabOwn.mono {T : Tx K mg base} {F F' : Addr → Prop} {p : Addr} (o : TabOwn T H p F) (h : ∀ a, F a → F' a) : TabOwn T H p F' := fun dx bl x y z bs e1 e2 => ⟨h _ (o dx bl x y z bs e1 e2).1, fun b hb => h b ((o dx bl x y z bs e1 e2).2 b hb)⟩
theorem TabOwn.fr {T : Tx K mg base} {S F : Addr → Prop} {H H' : Hp} {p : Addr} {own wide room : Nat} {ls : List Addr} (o : TabOwn T H p F) (t : TabAt T H p own wide room ls) (f : Fr S H H') (h : ∀ a, S a → ¬ F a ∨ IsLine H a) (hp : ¬ S p) : TabOwn T H' p F := by
  obtain ⟨dx, bl, bs, h1, h2, h3, h4⟩ := t.ob
  have q := o dx bl _ _ _ bs h1 h2
  have hb : ¬ S bl := fun z => by
    rcases h _ z with e | ⟨xs, e⟩
    · exact e q.1
    · rw [h2] at e; exact refs_ne_ints (by rw [h3]; exact t.w0) (Option.some.inj e)
  intro dx' bl' x y z bs' e1 e2
  rw [f.at h1 hp] at e1
  cases e1
  rw [f.at h2 hb] at e2
  have e := HO.lst.inj (Option.some.inj e2)
  rw [← refs_inj e]
  exact q
def sp_Table_init (T : Tx K mg base) : Sp := fun vs H Q _ => ∃ (p dx : Addr) (own wide room : Nat), vs = [.ref p, .int own, .int wide, .int room] ∧ H p = some (.ins T.C_Table dx []) ∧ 0 < wide ∧ wide ≤ 60 ∧ 0 < room ∧ room ≤ 8 ∧
  ∀ (ls : List Addr) (H' : Hp), (∀ l ∈ ls, H l = none) → Fr (fun a => a = p) H H' → TabAt T H' p own wide room ls → Lines H' ls (List.replicate wide []) → TabOwn T H' p (fun a => H a = none) → Q .non H'
theorem ok_Table_init (T : Tx K mg base) : FnOk P w K mg base CX0 3 T.a_Table_init T.d_Table_init ["self", "own", "wide", "room"] (sp_Table_init T) := by
  refine T.F_Table_init.okD sc_Table_init (fun vs H Q E h => ?_) (fun cdv A outer s H vs Q E hr h => ?_)
  · obtain ⟨p, dx, own, wide, room, rfl, _⟩ := h; rfl
  · obtain ⟨p, dx, own, wide, room, rfl, hp, w0, w1, r0, r1, q⟩ := h
    have c_Bucket := T.c_Bucket; have n_Bucket_room := T.n_Bucket_room; have n_Bucket_line := T.n_Bucket_line; have c_Table := T.c_Table; have n_Table_own := T.n_Table_own; have n_Table_wide := T.n_Table_wide; have n_Table_room := T.n_Table_room; have n_Table_buckets := T.n_Table_buckets; have c_Town := T.c_Town; have n_Town_wide := T.n_Town_wide; have n_Town_room := T.n_Town_room; have n_Town_tables := T.n_Town_tables; have n_Town_hushed := T.n_Town_hushed
    refine ⟨_, (pss_cons (ps_fld (pv 0) (pv 1) rfl)
      (pss_cons (ps_fld (pv 0) (pv 2) rfl)
      (pss_cons (ps_fld (pv 0) (pv 3) rfl)
      (pss_one (ps_fld (pv 0) (pe_lc (own := [("k", 4)]) (g := (gName 4)) (by rfl) sc_Table_init.nd (pi_range1 rfl T.z_range (pa_cons (pv 2) pa_nil)) (blkOk_by (N := N_Table_init) (sc := defScope s_Table_init) (own := [("k", 4)]) (by decide +kernel)) (fun _ _ _ _ _ => (pg_name (i := 4) sc_Table_init.nd rfl (Or.inl rfl))) (fun _ _ _ _ _ => pts_nil) (fun _ _ _ _ _ => (pe_make T.M_Bucket (ok_Bucket_init T) hr rfl T.m_Bucket T.b_Bucket_init .nil pass0 (pa_cons (pv 3) pa_nil)))) rfl))))), ?_⟩
    rw [Nn.st_Table_init]; try rw [Nn.cxK]
    try rw [Nn.cxW]
    walk_at "wx"
    have f3 : Fr (fun a => a = p) H (upd (upd (upd H p (HO.ins T.C_Table dx [("own", V.int ↑own)])) p (HO.ins T.C_Table dx [("own", V.int ↑own), ("wide", V.int ↑wide)])) p (HO.ins T.C_Table dx [("own", V.int ↑own), ("wide", V.int ↑wide), ("room", V.int ↑room)])) :=
      ((Fr.upd1 hp).trans (Fr.upd1 upd_same)).trans (Fr.upd1 upd_same)
    have h3 : (upd (upd (upd H p (HO.ins T.C_Table dx [("own", V.int ↑own)])) p (HO.ins T.C_Table dx [("own", V.int ↑own), ("wide", V.int ↑wide)])) p (HO.ins T.C_Table dx [("own", V.int ↑own), ("wide", V.int ↑wide), ("room", V.int ↑room)])) p = some (HO.ins T.C_Table dx [("own", V.int ↑own), ("wide", V.int ↑wide), ("room", V.int ↑room)]) := upd_same
    generalize (upd (upd (upd H p (HO.ins T.C_Table dx [("own", V.int ↑own)])) p (HO.ins T.C_Table dx [("own", V.int ↑own), ("wide", V.int ↑wide)])) p (HO.ins T.C_Table dx [("own", V.int ↑own), ("wide", V.int ↑wide), ("room", V.int ↑room)])) = H3 at *
    refine LcW.by1 walk_rgN (by rw [sizeLine_eq]; omega) (fun D i acc H' => Ex H3 H' ∧ ∃ bs ls : List Addr, acc = bs.map V.ref ∧ bs.length = i ∧ ls.length = i ∧ (∀ l ∈ ls, H3 l = none ∧ l ≠ D ∧ H' l = some (.lst [])) ∧ ls.Nodup ∧ (∀ b ∈ bs, H3 b = none) ∧ ∀ (k : Nat) (b l : Addr), bs[k]? = some b → ls[k]? = some l → BuckAt T H' b l room) ?_ (fun _ _ _ _ _ _ _ => trivial) ?_ ?_
    · intro D hD
      exact ⟨Ex.new hD, [], [], rfl, rfl, rfl, by simp, List.nodup_nil, by simp, by simp⟩
    · rintro D i acc x _ H1 hi hD ⟨ex, bs, ls, rfl, hb, hl, hls, nd, hbn, hbu⟩ hacc ⟨rfl, rfl⟩ Qe hQ
      walk_at "wx"
      refine x_make fun x dx1 H2 hx ex2 hx2 => ?_
      refine ⟨x, dx1, room, rfl, hx2, fun l H4 hl0 hl4 fr4 bu4 => ⟨rfl, ?_⟩⟩
      have e4 : Ex H1 H4 := fr4.ex ex2 fun y z => by rw [z]; exact hx
      have hD4 : H4 D = some (.lst (bs.map V.ref)) := e4.at hacc
      have lnew : H1 l = none := ex2.back l hl0
      have lD : l ≠ D := fun z => by rw [z, hacc] at lnew; cases lnew
      have hm : Ex H3 (upd H4 D (.lst (bs.map V.ref ++ [.ref x]))) := (ex.trans e4).mut hD hD4
      refine hQ _ _ hD4 ⟨hm, bs ++ [x], ls ++ [l], by simp, by simp [hb], by simp [hl], ?_, nd_snoc nd ?_, fun b hb' => (List.mem_append.mp hb').elim (hbn b) fun z => by rw [List.mem_singleton.mp z]; exact ex.back x hx, ?_⟩
      · intro y hy
        rcases List.mem_append.mp hy with hy | hy
        · obtain ⟨a1, a2, a3⟩ := hls y hy
          exact ⟨a1, a2, by rw [upd_ne a2]; exact e4.at a3⟩
        · rw [List.mem_singleton.mp hy]
          exact ⟨ex.back l lnew, lD, by rw [upd_ne lD]; exact hl4⟩
      · intro hy
        rw [(hls l hy).2.2] at lnew
        cases lnew
      · intro k b l' h1 h2
        have hfr : BuckAt T H4 b l' room := by
          by_cases hk : k < i
          · rw [List.getElem?_append_left (by omega)] at h1 h2
            exact (hbu k b l' h1 h2).fr e4 id
          · rw [List.getElem?_append_right (by omega)] at h1 h2
            have hk0 : k - i = 0 := by
              have := (List.getElem?_eq_some_iff.mp h1).1
              simp at this; omega
            rw [hb, hk0] at h1
            rw [hl, hk0] at h2
            cases h1; cases h2
            exact bu4
        exact hfr.fr (Fr.upd1 hD4) fun z => by
          obtain ⟨dy, hy⟩ := hfr.ob
          rw [z, hD4] at hy; cases hy
    · rintro D acc H4 hD ⟨ex, bs, ls, rfl, hb, hl, hls, nd, hbn, hbu⟩ hD4 _
      have hp4 : H4 p = some (HO.ins T.C_Table dx [("own", V.int ↑own), ("wide", V.int ↑wide), ("room", V.int ↑room)]) := ex.at h3
      have hne : ∀ {a : Addr} {o : HO}, H4 a = some o → (HO.ins T.C_Table dx [("own", V.int ↑own), ("wide", V.int ↑wide), ("room", V.int ↑room)]) ≠ o → a ≠ p := fun {a o} h d z => by rw [z, hp4] at h; exact d (Option.some.inj h)
      walk_at "wx"
      refine q ls _ (fun l h => f3.back l (hls l h).1) ((f3.trans ex.fr).trans (Fr.upd1 hp4)) ⟨w0, w1, r0, r1, hl, dx, D, bs, upd_same, ?_, hb, ?_⟩ ⟨nd, by rw [List.length_replicate, hl], ?_⟩ ?_
      · rw [upd_ne (hne hD4 (fun z => by cases z))]; exact hD4
      · intro k b l h1 h2
        have h := hbu k b l h1 h2
        refine h.fr (Fr.upd1 hp4) fun z => ?_
        have n0 := (hls l (List.mem_of_getElem? h2))
        obtain ⟨dy, hy⟩ := h.ob
        rw [z, hp4] at hy
        have hy := Option.some.inj hy
        injection hy with e1 e2 e3
        have e4 := congrArg List.length e3
        simp [f_Bucket] at e4
      · intro k l xs h1 h2
        have n0 := (hls l (List.mem_of_getElem? h1))
        have e : xs = [] := by
          rw [List.getElem?_replicate] at h2
          split at h2
          · exact (Option.some.inj h2).symm
          · cases h2
        rw [e, upd_ne (hne n0.2.2 (fun z => by cases z))]
        exact n0.2.2
      · intro dx' bl' x y z bs' e1 e2
        rw [upd_same] at e1
        cases e1
        rw [upd_ne (hne hD4 (fun z => by cases z)), hD4] at e2
        have e := HO.lst.inj (Option.some.inj e2)
        rw [← refs_inj e]
        exact ⟨f3.back D hD, fun b hb' => f3.back b (hbn b hb')⟩
end
end Nn
/-! tables: what they do -/
namespace Nn
open PySem L2
section
variable {P : Program} {w : World} {K : PySem.W.Frag} {mg : Str → Option Value} {base : Heap} {H : Hp} {Q : VK} {E : XK}
def sp_Table_bucket_for (T : Tx K mg base) : Sp := fun vs H Q _ => ∃ (p : Addr) (own wide room n : Nat) (ls : List Addr), vs = [.ref p, .int n] ∧ TabAt T H p own wide room ls ∧ n ≠ own ∧ stepN own n < wide ∧
  ∀ b l, ls[stepN own n]? = some l → BuckAt T H b l room → Q (.ref b) H
theorem wc_Table_bucket_for {T : Tx K mg base} {p : Addr} {own wide room n : Nat} {ls : List Addr} (t : TabAt T H p own wide room ls) (hn : n ≠ own) (hs : stepN own n < wide) (h : ∀ b l, ls[stepN own n]? = some l → BuckAt T H b l room → Q (.ref b) H) : sp_Table_bucket_for T [.ref p, .int n] H Q E :=
  ⟨p, own, wide, room, n, ls, rfl, t, hn, hs, h⟩
theorem ok_Table_bucket_for (T : Tx K mg base) : FnOk P w K mg base CX0 3 T.a_Table_bucket_for T.d_Table_bucket_for ["self", "name"] (sp_Table_bucket_for T) := by
  refine T.F_Table_bucket_for.okD sc_Table_bucket_for (fun vs H Q E h => ?_) (fun cdv A outer s H vs Q E hr h => ?_)
  · obtain ⟨p, own, wide, room, n, ls, rfl, _⟩ := h; rfl
  · obtain ⟨p, own, wide, room, n, ls, rfl, ht, hn, hs, q⟩ := h
    obtain ⟨dx, bl, bs, h1, h2, h3, h4⟩ := ht.ob
    have c_Bucket := T.c_Bucket; have n_Bucket_room := T.n_Bucket_room; have n_Bucket_line := T.n_Bucket_line; have c_Table := T.c_Table; have n_Table_own := T.n_Table_own; have n_Table_wide := T.n_Table_wide; have n_Table_room := T.n_Table_room; have n_Table_buckets := T.n_Table_buckets; have c_Town := T.c_Town; have n_Town_wide := T.n_Town_wide; have n_Town_room := T.n_Town_room; have n_Town_tables := T.n_Town_tables; have n_Town_hushed := T.n_Town_hushed
    refine ⟨_, (pss_one (ps_ret (pe_ix ix_list (pe_fld (pv 0) rfl) (pe_call (ok_step T) hr rfl T.m_step T.F_step.kp T.b_step .nil pass0 (pa_cons (pe_fld (pv 0) rfl) (pa_cons (pv 1) pa_nil))) (fun _ _ => rfl)))), ?_⟩
    rw [Nn.st_Table_bucket_for]; try rw [Nn.cxK]
    try rw [Nn.cxW]
    have hn' := Ne.symm hn
    walk_at "wx"
    have hk : stepN own n < bs.length := by omega
    refine x_ixL (v := .ref bs[stepN own n]) (SqL.of h2) (atI_nat (by simp [hk])) ?_
    have hl : stepN own n < ls.length := by rw [ht.len]; exact hs
    exact q _ _ (List.getElem?_eq_getElem hl) (h4 _ _ _ (List.getElem?_eq_getElem hk) (List.getElem?_eq_getElem hl))
/-- the lines behind hearing of n -/
def tabL (own room : Nat) (xss : List (List Nat)) (n : Nat) (a : Nat → Bool) : List (List Nat) :=
  if n = own then xss else xss.set (stepN own n) (hearL room (xss.getD (stepN own n) []) n (a ((xss.getD (stepN own n) []).headD 0)))
def tabW (own room : Nat) (xss : List (List Nat)) (n : Nat) (a : Nat → Bool) : Str :=
  if n = own then "own" else hearW room (xss.getD (stepN own n) []) n (a ((xss.getD (stepN own n) []).headD 0))
/-- who was asked -/
def tabA (own room : Nat) (xss : List (List Nat)) (n : Nat) : List Nat := if n = own then [] else askedL room (xss.getD (stepN own n) []) n
def sp_Table_hears (T : Tx K mg base) (cl : List (Str × Addr)) : List (Option V) → Sp := fun ws vs H Q _ => ∃ (p f : Addr) (own wide room n : Nat) (ls : List Addr) (xss : List (List Nat)) (A : An), cl = A.cl ∧ ws = A.ws ∧ vs = [.ref p, .int n, .ref f] ∧ TabAt T H p own wide room ls ∧ Lines H ls xss ∧ own < 2 ^ wide ∧ n < 2 ^ wide ∧ (∀ xs ∈ xss, xs.length ≤ 100000) ∧ AnsOf T H f A ∧ (∀ l ∈ ls, ¬ AnsS A l) ∧
  ∀ H', Fr (fun a => a ∈ ls ∨ AnsS A a) H H' → Lines H' ls (tabL own room xss n (ansB A)) → AnsL A H' (tabA own room xss n) → Q (.str (tabW own room xss n (ansB A))) H'
theorem wc_Table_hears {T : Tx K mg base} {cl : List (Str × Addr)} {ws : List (Option V)} {p f : Addr} {own wide room n : Nat} {ls : List Addr} {xss : List (List Nat)} {A : An} (ec : cl = A.cl) (ew : ws = A.ws) (t : TabAt T H p own wide room ls) (L : Lines H ls xss) (ho : own < 2 ^ wide) (hn : n < 2 ^ wide) (hx : ∀ xs ∈ xss, xs.length ≤ 100000) (a : AnsOf T H f A) (s : ∀ l ∈ ls, ¬ AnsS A l)
    (h : ∀ H', Fr (fun a => a ∈ ls ∨ AnsS A a) H H' → Lines H' ls (tabL own room xss n (ansB A)) → AnsL A H' (tabA own room xss n) → Q (.str (tabW own room xss n (ansB A))) H') : sp_Table_hears T cl ws [.ref p, .int n, .ref f] H Q E := ⟨p, f, own, wide, room, n, ls, xss, A, ec, ew, rfl, t, L, ho, hn, hx, a, s, h⟩
theorem ok_Table_hears (T : Tx K mg base) {cl : List (Str × Addr)} (ws : List (Option V)) : FnOkC P w K mg base CX0 4 T.a_Table_hears T.d_Table_hears ["self", "name", "answers"] cl fr_Town_hears_answers ws (sp_Table_hears T cl ws) := by
  refine FunD.okC T.F_Table_hears sc_Table_hears (fun vs H Q E h => ?_) (fun cdv A outer s H vs Q E hr hC h => ?_)
  · obtain ⟨p, f, own, wide, room, n, ls, xss, A, rfl, rfl, rfl, _⟩ := h; rfl
  · obtain ⟨p, f, own, wide, room, n, ls, xss, A, rfl, rfl, rfl, ht, L, ho, hn, hx, ha, hs0, q⟩ := h
    obtain ⟨dx, bl, bs, h1, h2, h3, h4⟩ := ht.ob
    have c_Bucket := T.c_Bucket; have n_Bucket_room := T.n_Bucket_room; have n_Bucket_line := T.n_Bucket_line; have c_Table := T.c_Table; have n_Table_own := T.n_Table_own; have n_Table_wide := T.n_Table_wide; have n_Table_room := T.n_Table_room; have n_Table_buckets := T.n_Table_buckets; have c_Town := T.c_Town; have n_Town_wide := T.n_Town_wide; have n_Town_room := T.n_Town_room; have n_Town_tables := T.n_Town_tables; have n_Town_hushed := T.n_Town_hushed
    refine ⟨_, (pss_cons (ps_if (pt_cmpR op_eq (pv 1) (pe_fld (pv 0) rfl) (nomark _))
      (pss_one (ps_ret pe_str))
      pss_nil)
      (pss_one (ps_ret (pe_methC (pe_meth (pv 0) T.c_Table T.t_Table_bucket_for (ok_Table_bucket_for T) hr T.b_Table_bucket_for .nil pass0 (pa_cons (pv 1) pa_nil)) T.c_Bucket T.t_Bucket_hears (fun ws => ok_Bucket_hears T ws) (Prov.entry hC rfl) hr T.b_Bucket_hears .nil pass0 (pa_cons (pv 1) (pa_cons (pv 2) pa_nil)))))), ?_⟩
    rw [Nn.st_Table_hears]; try rw [Nn.cxK]
    try rw [Nn.cxW]
    walk_at "wx"
    refine x_ifD (fun e => ?_) fun e => ?_
    · walk_at "wx"
      have e : n = own := Int.ofNat.inj e
      have q1 := q H Fr.refl
      unfold tabL tabW tabA at q1
      rw [if_pos e, if_pos e, if_pos e] at q1
      exact q1 L (AnsOf.none ha)
    · have e : n ≠ own := fun z => e (by rw [z])
      have hs : stepN own n < wide := stepN_lt ho hn (Ne.symm e)
      walk_at "wx"
      refine wc_Table_bucket_for ht e hs fun b l hl hb => ?_
      obtain ⟨dy, hob⟩ := hb.ob
      have hk : stepN own n < xss.length := by rw [← L.len, ht.len]; exact hs
      have hL := L.at_ _ l _ hl (List.getElem?_eq_getElem hk)
      have eg : xss.getD (stepN own n) [] = xss[stepN own n] := by rw [List.getD_eq_getElem?_getD, List.getElem?_eq_getElem hk]; rfl
      have hm := List.mem_of_getElem? hl
      walk_at "wx"
      refine wc_Bucket_hears rfl rfl hb hL ht.r0 (Nat.le_trans ht.r1 (by decide)) (hx _ (List.getElem_mem hk)) ha (hs0 l hm) fun H' fr hl' hA' => ?_
      unfold tabL tabW tabA at q
      rw [if_neg e, if_neg e, if_neg e, eg] at q
      exact q _ (fr.mono fun x z => z.imp (fun z => by rw [z]; exact hm) id) (L.updS hl fr (fun y hy z => z.elim id fun z => absurd z (hs0 y hy)) hl') hA'
def sp_Table_keeps (T : Tx K mg base) : Sp := fun vs H Q _ => ∃ (p : Addr) (own wide room : Nat) (ls : List Addr) (xss : List (List Nat)), vs = [.ref p] ∧ TabAt T H p own wide room ls ∧ Lines H ls xss ∧ xss.flatten.Nodup ∧ xss.flatten.length ≤ 100000 ∧
  ∀ q H', H q = none → Ex H H' → H' q = some (.lst ((sortU xss.flatten).map nV)) → Q (.ref q) H'
theorem wc_Table_keeps {T : Tx K mg base} {p : Addr} {own wide room : Nat} {ls : List Addr} {xss : List (List Nat)} (t : TabAt T H p own wide room ls) (L : Lines H ls xss) (nd : xss.flatten.Nodup) (hz : xss.flatten.length ≤ 100000)
    (h : ∀ q H', H q = none → Ex H H' → H' q = some (.lst ((sortU xss.flatten).map nV)) → Q (.ref q) H') : sp_Table_keeps T [.ref p] H Q E := ⟨p, own, wide, room, ls, xss, rfl, t, L, nd, hz, h⟩
theorem flat_le {xss : List (List Nat)} (i : Nat) : (xss.take i).flatten.length ≤ xss.flatten.length := by
  have e : xss.flatten = (xss.take i).flatten ++ (xss.drop i).flatten := by rw [← List.flatten_append, List.take_append_drop]
  rw [e, List.length_append]; omega
theorem ok_Table_keeps (T : Tx K mg base) : FnOk P w K mg base CX0 2 T.a_Table_keeps T.d_Table_keeps ["self"] (sp_Table_keeps T) := by
  refine T.F_Table_keeps.okD sc_Table_keeps (fun vs H Q E h => ?_) (fun cdv A outer s H vs Q E hr h => ?_)
  · obtain ⟨p, own, wide, room, ls, xss, rfl, _⟩ := h; rfl
  · obtain ⟨p, own, wide, room, ls, xss, rfl, ht, L, nd, hz, q⟩ := h
    obtain ⟨dx, bl, bs, h1, h2, h3, h4⟩ := ht.ob
    have c_Bucket := T.c_Bucket; have n_Bucket_room := T.n_Bucket_room; have n_Bucket_line := T.n_Bucket_line; have c_Table := T.c_Table; have n_Table_own := T.n_Table_own; have n_Table_wide := T.n_Table_wide; have n_Table_room := T.n_Table_room; have n_Table_buckets := T.n_Table_buckets; have c_Town := T.c_Town; have n_Town_wide := T.n_Town_wide; have n_Town_room := T.n_Town_room; have n_Town_tables := T.n_Town_tables; have n_Town_hushed := T.n_Town_hushed
    refine ⟨_, (pss_cons (ps_set (i := 1) sc_Table_keeps.nd rfl (Or.inl rfl) (pe_lst pa_nil))
      (pss_cons (ps_for PassesOwn.never rfl (pi_list (pe_fld (pv 0) rfl)) (pg_name (i := 2) sc_Table_keeps.nd rfl (Or.inl rfl))
      (pss_one (ps_expr (pe_bm PySem.F.plainAttrs_list PySem.F.slot_list_extend PySem.F.type_list_extend mt_extend (pv 1) (pa_cons (pe_meth0 (pv 2) T.c_Bucket T.t_Bucket_names (ok_Bucket_names T) hr T.b_Bucket_names .nil pass0) pa_nil)))))
      (pss_one (ps_ret (pe_callB cr_sortedI (by rfl) T.z_sorted (by decide +kernel) (pa_cons (pv 1) pa_nil)))))), ?_⟩
    rw [Nn.st_Table_keeps]; try rw [Nn.cxK]
    try rw [Nn.cxW]
    walk_at "wx"
    refine ⟨len_ok rfl, fun d hd => ?_⟩
    walk_at "wx"
    refine ForW.by walk_list (fun i σ H' => ∃ v : Option V, σ = [some (.ref p), some (.ref d), v] ∧ Ex H H' ∧ H' d = some (.lst ((xss.take i).flatten.map nV))) ⟨none, rfl, Ex.new hd, upd_same⟩ (fun i σ H' _ ⟨_, _, e, _⟩ => e.ls (SqL.of h2)) ?_ ?_
    · rintro i x σ _ H1 hi ⟨v, rfl, ex, hd1⟩ ⟨rfl, hx⟩
      rw [List.length_map] at hi
      have hil : i < ls.length := by rw [ht.len]; omega
      have hix : i < xss.length := by rw [← L.len]; exact hil
      obtain rfl : x = .ref bs[i] := by
        rw [List.getElem?_map, List.getElem?_eq_getElem hi] at hx
        exact (Option.some.inj hx).symm
      have hb := (h4 i _ _ (List.getElem?_eq_getElem hi) (List.getElem?_eq_getElem hil)).fr ex id
      obtain ⟨dy, hob⟩ := hb.ob
      have hL := ex.at (L.at_ i _ _ (List.getElem?_eq_getElem hil) (List.getElem?_eq_getElem hix))
      have et : xss.take (i + 1) = xss.take i ++ [xss[i]] := by rw [List.take_add_one, List.getElem?_eq_getElem hix]; rfl
      have hlen := flat_le (xss := xss) (i + 1)
      rw [et, List.flatten_append, List.length_append, List.flatten_singleton] at hlen
      walk_at "wx"
      refine wc_Bucket_names hb hL fun r hr => ?_
      have hd2 : upd H1 r (.lst (xss[i].map nV)) d = some (.lst ((xss.take i).flatten.map nV)) := at_new hr hd1
      walk_at "wx"
      refine x_extend hd2 upd_same (by rw [sizeLine_eq, List.length_map, List.length_map]; omega) ?_
      refine ⟨_, rfl, (ex.newT hr).mut hd hd2, ?_⟩
      rw [upd_same, et, List.flatten_append, List.map_append, List.flatten_singleton]
    · rintro σ H1 ⟨v, rfl, ex, hd1⟩
      rw [List.length_map, h3, ← ht.len, L.len, List.take_length] at hd1
      walk_at "wx"
      refine x_sortN (SqL.of hd1) nd fun r hr => ?_
      exact q r _ (ex.back r hr) (ex.newT hr) upd_same
end
end Nn
/-! tables: drops, bucket, nearest -/
namespace Nn
open PySem L2
/-- the lines behind dropping of n -/
def tabD (own : Nat) (xss : List (List Nat)) (n : Nat) : List (List Nat) :=
  if n = own then xss else xss.set (stepN own n) ((xss.getD (stepN own n) []).erase n)
def tabDW (own : Nat) (xss : List (List Nat)) (n : Nat) : Bool := !decide (n = own) && decide (n ∈ xss.getD (stepN own n) [])
def oN : Option Nat → V
  | none => .non
  | some n => nV n
/-- the so many that are nearest of ks but one -/
def nearN (ks : List Nat) (g m : Nat) (b : Option Nat) : List Nat := (byN g (ks.filter fun n => !decide (some n = b))).take m
theorem oN_eq {n : Nat} {b : Option Nat} : decide (nV n = oN b) = decide (some n = b) := by
  cases b with
  | none => simp [oN, nV]
  | some k =>
    refine decide_eq_decide.mpr ⟨fun h => ?_, fun h => ?_⟩
    · have h : V.int (n : Int) = V.int (k : Int) := h
      injection h with h; rw [Int.ofNat.inj h]
    · cases h; rfl
theorem oN_scal {n : Nat} {b : Option Nat} : scal (nV n) (oN b) = true := by
  cases b <;> rfl
theorem cmp_nV (n : Nat) (b : Option Nat) : (!decide (nV n = oN b)) = (!decide (some n = b)) := by rw [oN_eq]
section
variable {P : Program} {w : World} {K : PySem.W.Frag} {mg : Str → Option Value} {base : Heap} {H : Hp} {Q : VK} {E : XK}
def sp_Table_drops (T : Tx K mg base) : Sp := fun vs H Q _ => ∃ (p : Addr) (own wide room n : Nat) (ls : List Addr) (xss : List (List Nat)), vs = [.ref p, .int n] ∧ TabAt T H p own wide room ls ∧ Lines H ls xss ∧ own < 2 ^ wide ∧ n < 2 ^ wide ∧
  ∀ H', Fr (fun a => a ∈ ls) H H' → Lines H' ls (tabD own xss n) → Q (.bl (tabDW own xss n)) H'
theorem wc_Table_drops {T : Tx K mg base} {p : Addr} {own wide room n : Nat} {ls : List Addr} {xss : List (List Nat)} (t : TabAt T H p own wide room ls) (L : Lines H ls xss) (ho : own < 2 ^ wide) (hn : n < 2 ^ wide)
    (h : ∀ H', Fr (fun a => a ∈ ls) H H' → Lines H' ls (tabD own xss n) → Q (.bl (tabDW own xss n)) H') : sp_Table_drops T [.ref p, .int n] H Q E := ⟨p, own, wide, room, n, ls, xss, rfl, t, L, ho, hn, h⟩
theorem set_self {α : Type} {xs : List α} {k : Nat} {x : α} (h : xs[k]? = some x) : xs.set k x = xs := by
  refine List.ext_getElem? fun j => ?_
  by_cases e : k = j
  · subst e
    rw [List.getElem?_set_self (List.getElem?_eq_some_iff.mp h).1, h]
  · rw [List.getElem?_set_ne e]
theorem ok_Table_drops (T : Tx K mg base) : FnOk P w K mg base CX0 4 T.a_Table_drops T.d_Table_drops ["self", "name"] (sp_Table_drops T) := by
  refine T.F_Table_drops.okD sc_Table_drops (fun vs H Q E h => ?_) (fun cdv A outer s H vs Q E hr h => ?_)
  · obtain ⟨p, own, wide, room, n, ls, xss, rfl, _⟩ := h; rfl
  · obtain ⟨p, own, wide, room, n, ls, xss, rfl, ht, L, ho, hn, q⟩ := h
    obtain ⟨dx, bl, bs, h1, h2, h3, h4⟩ := ht.ob
    have c_Bucket := T.c_Bucket; have n_Bucket_room := T.n_Bucket_room; have n_Bucket_line := T.n_Bucket_line; have c_Table := T.c_Table; have n_Table_own := T.n_Table_own; have n_Table_wide := T.n_Table_wide; have n_Table_room := T.n_Table_room; have n_Table_buckets := T.n_Table_buckets; have c_Town := T.c_Town; have n_Town_wide := T.n_Town_wide; have n_Town_room := T.n_Town_room; have n_Town_tables := T.n_Town_tables; have n_Town_hushed := T.n_Town_hushed
    refine ⟨_, (pss_cons (ps_if (pt_cmpR op_eq (pv 1) (pe_fld (pv 0) rfl) (nomark _))
      (pss_one (ps_ret pe_bl))
      pss_nil)
      (pss_one (ps_ret (pe_meth (pe_meth (pv 0) T.c_Table T.t_Table_bucket_for (ok_Table_bucket_for T) hr T.b_Table_bucket_for .nil pass0 (pa_cons (pv 1) pa_nil)) T.c_Bucket T.t_Bucket_drops (ok_Bucket_drops T) (hr.mono (by decide)) T.b_Bucket_drops .nil pass0 (pa_cons (pv 1) pa_nil))))), ?_⟩
    rw [Nn.st_Table_drops]; try rw [Nn.cxK]
    try rw [Nn.cxW]
    walk_at "wx"
    refine x_ifD (fun e => ?_) fun e => ?_
    · walk_at "wx"
      have e : n = own := Int.ofNat.inj e
      have q1 := q H Fr.refl
      unfold tabD tabDW at q1
      rw [if_pos e, decide_eq_true e] at q1
      exact q1 L
    · have e : n ≠ own := fun z => e (by rw [z])
      have hs : stepN own n < wide := stepN_lt ho hn (Ne.symm e)
      walk_at "wx"
      refine wc_Table_bucket_for ht e hs fun b l hl hb => ?_
      obtain ⟨dy, hob⟩ := hb.ob
      have hk : stepN own n < xss.length := by rw [← L.len, ht.len]; exact hs
      have hL := L.at_ _ l _ hl (List.getElem?_eq_getElem hk)
      have eg : xss.getD (stepN own n) [] = xss[stepN own n] := by rw [List.getD_eq_getElem?_getD, List.getElem?_eq_getElem hk]; rfl
      unfold tabD tabDW at q
      rw [if_neg e, decide_eq_false e, eg] at q
      walk_at "wx"
      refine ⟨b, l, room, _, n, rfl, hb, hL, fun hin => ?_, fun hin fr => ?_⟩
      · have q1 := q H Fr.refl
        rw [List.erase_of_not_mem hin, set_self (List.getElem?_eq_getElem hk), decide_eq_false hin] at q1
        exact q1 L
      · rw [decide_eq_true hin] at q
        exact q _ (fr.mono fun x z => by rw [z]; exact List.mem_of_getElem? hl) (L.upd hl fr upd_same)
def sp_Table_bucket (T : Tx K mg base) : Sp := fun vs H Q _ => ∃ (p : Addr) (own wide room k : Nat) (ls : List Addr) (xss : List (List Nat)), vs = [.ref p, .int k] ∧ TabAt T H p own wide room ls ∧ Lines H ls xss ∧ k < wide ∧
  ∀ q, H q = none → Q (.ref q) (upd H q (.lst ((xss.getD k []).map nV)))
theorem wc_Table_bucket {T : Tx K mg base} {p : Addr} {own wide room k : Nat} {ls : List Addr} {xss : List (List Nat)} (t : TabAt T H p own wide room ls) (L : Lines H ls xss) (hk : k < wide)
    (h : ∀ q, H q = none → Q (.ref q) (upd H q (.lst ((xss.getD k []).map nV)))) : sp_Table_bucket T [.ref p, .int k] H Q E := ⟨p, own, wide, room, k, ls, xss, rfl, t, L, hk, h⟩
theorem ok_Table_bucket (T : Tx K mg base) : FnOk P w K mg base CX0 2 T.a_Table_bucket T.d_Table_bucket ["self", "k"] (sp_Table_bucket T) := by
  refine T.F_Table_bucket.okD sc_Table_bucket (fun vs H Q E h => ?_) (fun cdv A outer s H vs Q E hr h => ?_)
  · obtain ⟨p, own, wide, room, k, ls, xss, rfl, _⟩ := h; rfl
  · obtain ⟨p, own, wide, room, k, ls, xss, rfl, ht, L, hk, q⟩ := h
    obtain ⟨dx, bl, bs, h1, h2, h3, h4⟩ := ht.ob
    have hkb : k < bs.length := by omega
    have hkl : k < ls.length := by rw [ht.len]; exact hk
    have hkx : k < xss.length := by rw [← L.len]; exact hkl
    have hb := h4 _ _ _ (List.getElem?_eq_getElem hkb) (List.getElem?_eq_getElem hkl)
    obtain ⟨dy, hob⟩ := hb.ob
    have hL := L.at_ _ _ _ (List.getElem?_eq_getElem hkl) (List.getElem?_eq_getElem hkx)
    have eg : xss.getD k [] = xss[k] := by rw [List.getD_eq_getElem?_getD, List.getElem?_eq_getElem hkx]; rfl
    rw [eg] at q
    have c_Bucket := T.c_Bucket; have n_Bucket_room := T.n_Bucket_room; have n_Bucket_line := T.n_Bucket_line; have c_Table := T.c_Table; have n_Table_own := T.n_Table_own; have n_Table_wide := T.n_Table_wide; have n_Table_room := T.n_Table_room; have n_Table_buckets := T.n_Table_buckets; have c_Town := T.c_Town; have n_Town_wide := T.n_Town_wide; have n_Town_room := T.n_Town_room; have n_Town_tables := T.n_Town_tables; have n_Town_hushed := T.n_Town_hushed
    refine ⟨_, (pss_one (ps_ret (pe_meth0 (pe_ix ix_list (pe_fld (pv 0) rfl) (pv 1) (fun _ _ => rfl)) T.c_Bucket T.t_Bucket_names (ok_Bucket_names T) hr T.b_Bucket_names .nil pass0))), ?_⟩
    rw [Nn.st_Table_bucket]; try rw [Nn.cxK]
    try rw [Nn.cxW]
    walk_at "wx"
    refine x_ixL (v := .ref bs[k]) (SqL.of h2) (atI_nat (by simp [hkb])) ?_
    walk_at "wx"
    exact wc_Bucket_names hb hL q
def sp_Table_nearest (T : Tx K mg base) : Sp := fun vs H Q _ => ∃ (p : Addr) (own wide room g m : Nat) (b : Option Nat) (ls : List Addr) (xss : List (List Nat)), vs = [.ref p, .int g, .int m, oN b] ∧ TabAt T H p own wide room ls ∧ Lines H ls xss ∧ xss.flatten.Nodup ∧ xss.flatten.length < 64 ∧
  ∀ q H', H q = none → Ex H H' → H' q = some (.lst ((nearN (sortU xss.flatten) g m b).map nV)) → Q (.ref q) H'
theorem wc_Table_nearest {T : Tx K mg base} {p : Addr} {own wide room g m : Nat} {b : Option Nat} {v : V} {ls : List Addr} {xss : List (List Nat)} (t : TabAt T H p own wide room ls) (L : Lines H ls xss) (nd : xss.flatten.Nodup) (hz : xss.flatten.length < 64) (hv : v = oN b)
    (h : ∀ q H', H q = none → Ex H H' → H' q = some (.lst ((nearN (sortU xss.flatten) g m b).map nV)) → Q (.ref q) H') : sp_Table_nearest T [.ref p, .int g, .int m, v] H Q E := ⟨p, own, wide, room, g, m, b, ls, xss, by rw [hv], t, L, nd, hz, h⟩
theorem sortU_len {l : List Nat} : (sortU l).length ≤ l.length := nodup_len (rising_nodup (sortU_sorted l)) fun _ h => mem_sortU.mp h
theorem ok_Table_nearest (T : Tx K mg base) : FnOk P w K mg base CX0 3 T.a_Table_nearest T.d_Table_nearest ["self", "goal", "many", "but"] (sp_Table_nearest T) := by
  refine T.F_Table_nearest.okD sc_Table_nearest (fun vs H Q E h => ?_) (fun cdv A outer s H vs Q E hr h => ?_)
  · obtain ⟨p, own, wide, room, g, m, b, ls, xss, rfl, _⟩ := h; rfl
  · obtain ⟨p, own, wide, room, g, m, b, ls, xss, rfl, ht, L, nd, hz, q⟩ := h
    obtain ⟨dx, bl, bs, h1, h2, h3, h4⟩ := ht.ob
    have hlen := sortU_len (l := xss.flatten)
    have c_Bucket := T.c_Bucket; have n_Bucket_room := T.n_Bucket_room; have n_Bucket_line := T.n_Bucket_line; have c_Table := T.c_Table; have n_Table_own := T.n_Table_own; have n_Table_wide := T.n_Table_wide; have n_Table_room := T.n_Table_room; have n_Table_buckets := T.n_Table_buckets; have c_Town := T.c_Town; have n_Town_wide := T.n_Town_wide; have n_Town_room := T.n_Town_room; have n_Town_tables := T.n_Town_tables; have n_Town_hushed := T.n_Town_hushed
    refine ⟨_, (pss_cons (ps_setLc (i := 4) (own := [("name", 5)]) (g := (gName 5)) (by rfl) sc_Table_nearest.nd rfl rfl (sw_true rfl rfl rfl (by decide +kernel)) (pi_list (pe_meth0 (pv 0) T.c_Table T.t_Table_keeps (ok_Table_keeps T) hr T.b_Table_keeps .nil pass0)) (blkOk_by (N := N_Table_nearest) (sc := defScope s_Table_nearest) (own := [("name", 5)]) (by decide +kernel)) (fun _ _ _ _ _ => (pg_name (i := 5) sc_Table_nearest.nd rfl (Or.inl rfl))) (fun _ _ _ _ _ => pts_one ((pt_cmpR op_ne (pv 5) (pv 3) (nomark _)))) (fun _ _ _ _ _ => (pv 5)))
      (pss_one (ps_ret (pe_slice sl_list (pe_call (ok_by_nearness T) hr rfl T.m_by_nearness T.F_by_nearness.kp T.b_by_nearness .nil pass0 (pa_cons (pv 1) (pa_cons (pv 4) pa_nil))) po_none (po_some (pv 2)))))), ?_⟩
    rw [Nn.st_Table_nearest]; try rw [Nn.cxK]
    try rw [Nn.cxW]
    walk_at "wx"
    refine wc_Table_keeps ht L nd (by omega) fun r H1 hr ex1 hr1 => ?_
    walk_at "wx"
    refine LcW.filt (emb := nV) (xs := sortU xss.flatten) (fun n => !decide (some n = b)) (SqL.of hr1) (by rw [sizeLine_eq]; omega) (fun n _ H2 ex2 R hR => ?_) (fun n _ _ H2 ex2 Qe hQ => ?_) fun D H2 hD ex2 hD2 => ?_
    · walk_at "wx"
      refine x_ne oN_scal ?_
      rw [cmp_nV]
      exact ⟨_, rfl, hR _ Ex.refl⟩
    · walk_at "wx"
      exact hQ
    · walk_at "wx"
      have hfl : ((sortU xss.flatten).filter fun n => !decide (some n = b)).length ≤ (sortU xss.flatten).length := List.length_filter_le _ _
      have hby := byN_len_le (g := g) (ns := (sortU xss.flatten).filter fun n => !decide (some n = b))
      refine wc_by_nearness rfl (SqL.of hD2) ⟨by omega, by omega⟩ fun r3 H3 hr3 ex3 hr33 => ?_
      walk_at "wx"
      refine x_slL (SqL.of hr33) fun r4 hr4 => ?_
      rw [cut_take]
      refine q r4 _ ?_ (((ex1.trans ex2).trans ex3).newT hr4) ?_
      · exact ((ex1.trans ex2).trans ex3).back r4 hr4
      · rw [upd_same]; unfold nearN; rw [List.map_take]
end
end Nn
/-! tables kept well -/
namespace Nn
/-- a table's lines, each name at its own step -/
structure TabOk (own wide room : Nat) (S : Nat → Prop) (xss : List (List Nat)) : Prop where
  len : xss.length = wide
  at_ : ∀ (k : Nat) (xs : List Nat), xss[k]? = some xs → xs.Nodup ∧ xs.length ≤ room ∧ ∀ x ∈ xs, x ≠ own ∧ stepN own x = k ∧ S x
theorem nodup_erase {n : Nat} {xs : List Nat} (h : xs.Nodup) : (xs.erase n).Nodup := h.sublist (List.erase_sublist ..)
theorem hear_mem {room n z : Nat} {xs : List Nat} {a : Bool} (h : z ∈ hearL room xs n a) (h0 : 0 < room) : z ∈ xs ∨ z = n := by
  unfold hearL at h
  split at h
  · rcases List.mem_append.mp h with h | h
    · exact .inl (List.mem_of_mem_erase h)
    · exact .inr (List.mem_singleton.mp h)
  · split at h
    · rcases List.mem_append.mp h with h | h
      · exact .inl h
      · exact .inr (List.mem_singleton.mp h)
    · cases xs with
      | nil => rename_i q; simp at q; omega
      | cons x r =>
        split at h
        · rcases List.mem_append.mp h with h | h
          · exact .inl (List.mem_cons_of_mem _ h)
          · exact .inl (by rw [List.mem_singleton.mp h]; simp)
        · rcases List.mem_append.mp h with h | h
          · exact .inl (List.mem_cons_of_mem _ h)
          · exact .inr (List.mem_singleton.mp h)
theorem nodup_snoc {n : Nat} {xs : List Nat} (h : xs.Nodup) (hn : n ∉ xs) : (xs ++ [n]).Nodup := List.nodup_append.mpr ⟨h, by simp, fun a ha b hb e => hn (by rw [← List.mem_singleton.mp hb, ← e]; exact ha)⟩
theorem hear_ok {room n : Nat} {xs : List Nat} {a : Bool} (h : xs.Nodup) (hl : xs.length ≤ room) (h0 : 0 < room) : (hearL room xs n a).Nodup ∧ (hearL room xs n a).length ≤ room := by
  unfold hearL
  by_cases hn : n ∈ xs
  · rw [if_pos hn]
    refine ⟨nodup_snoc (nodup_erase h) fun z => (h.mem_erase_iff.mp z).1 rfl, ?_⟩
    have hp : 0 < xs.length := List.length_pos_of_mem hn
    rw [List.length_append, List.length_erase_of_mem hn, List.length_singleton]; omega
  · rw [if_neg hn]
    by_cases hr : xs.length < room
    · rw [if_pos hr]
      exact ⟨nodup_snoc h hn, by rw [List.length_append, List.length_singleton]; omega⟩
    · rw [if_neg hr]
      cases xs with
      | nil => simp at hr; omega
      | cons x r =>
        have h1 := List.nodup_cons.mp h
        simp only [List.tail_cons, List.headD_cons]
        cases a with
        | true => exact ⟨nodup_snoc h1.2 h1.1, by simpa using hl⟩
        | false => exact ⟨nodup_snoc h1.2 fun z => hn (List.mem_cons_of_mem _ z), by simpa using hl⟩
theorem TabOk.hear {own wide room n : Nat} {S : Nat → Prop} {xss : List (List Nat)} {a : Nat → Bool} (t : TabOk own wide room S xss) (h0 : 0 < room) (hn : S n) : TabOk own wide room S (tabL own room xss n a) := by
  unfold tabL
  by_cases e : n = own
  · rw [if_pos e]; exact t
  · rw [if_neg e]
    refine ⟨by rw [List.length_set]; exact t.len, fun k xs hk => ?_⟩
    by_cases hs : stepN own n = k
    · subst hs
      have hlt : stepN own n < xss.length := by
        have := (List.getElem?_eq_some_iff.mp hk).1
        simpa using this
      rw [List.getElem?_set_self hlt] at hk
      cases hk
      obtain ⟨h1, h2, h3⟩ := t.at_ _ _ (List.getElem?_eq_getElem hlt)
      have eg : xss.getD (stepN own n) [] = xss[stepN own n] := by rw [List.getD_eq_getElem?_getD, List.getElem?_eq_getElem hlt]; rfl
      rw [eg]
      obtain ⟨a1, a2⟩ := hear_ok (n := n) (a := a (xss[stepN own n].headD 0)) h1 h2 h0
      refine ⟨a1, a2, fun x hx => ?_⟩
      rcases hear_mem hx h0 with z | z
      · exact h3 x z
      · rw [z]; exact ⟨e, rfl, hn⟩
    · rw [List.getElem?_set_ne hs] at hk
      exact t.at_ k xs hk
theorem TabOk.nil {own wide room : Nat} {S : Nat → Prop} : TabOk own wide room S (List.replicate wide []) := ⟨by simp, fun k xs hk => by
  rw [List.getElem?_replicate] at hk
  split at hk
  · cases hk; simp
  · cases hk⟩
theorem TabOk.nodup {own wide room : Nat} {S : Nat → Prop} {xss : List (List Nat)} (t : TabOk own wide room S xss) : xss.flatten.Nodup := by
  refine List.pairwise_flatten.mpr ⟨fun xs hx => ?_, ?_⟩
  · obtain ⟨k, hk⟩ := List.getElem?_of_mem hx
    exact (t.at_ k xs hk).1
  · refine List.pairwise_iff_getElem.mpr fun i j hi hj hij => ?_
    intro a b1 b c1 e
    have h1 := ((t.at_ i _ (List.getElem?_eq_getElem hi)).2.2 a b1).2.1
    have h2 := ((t.at_ j _ (List.getElem?_eq_getElem hj)).2.2 b c1).2.1
    rw [e] at h1; omega
theorem TabOk.mem {own wide room : Nat} {S : Nat → Prop} {xss : List (List Nat)} (t : TabOk own wide room S xss) {x : Nat} (h : x ∈ xss.flatten) : S x := by
  obtain ⟨xs, h1, h2⟩ := List.mem_flatten.mp h
  obtain ⟨k, hk⟩ := List.getElem?_of_mem h1
  exact ((t.at_ k xs hk).2.2 x h2).2.2
theorem TabOk.row {own wide room : Nat} {S : Nat → Prop} {xss : List (List Nat)} (t : TabOk own wide room S xss) : ∀ xs ∈ xss, xs.length ≤ room := fun xs h => by
  obtain ⟨k, hk⟩ := List.getElem?_of_mem h
  exact (t.at_ k xs hk).2.1
theorem TabOk.setL {own wide room k : Nat} {S : Nat → Prop} {xss : List (List Nat)} {ys : List Nat} (t : TabOk own wide room S xss) (h : ∀ xs, xss[k]? = some xs → ys.Nodup ∧ ys.length ≤ room ∧ ∀ x ∈ ys, x ≠ own ∧ stepN own x = k ∧ S x) : TabOk own wide room S (xss.set k ys) := by
  refine ⟨by rw [List.length_set]; exact t.len, fun j xs hj => ?_⟩
  by_cases e : k = j
  · subst e
    have hlt : k < xss.length := by
      have := (List.getElem?_eq_some_iff.mp hj).1
      simpa using this
    rw [List.getElem?_set_self hlt] at hj
    cases hj
    exact h _ (List.getElem?_eq_getElem hlt)
  · rw [List.getElem?_set_ne e] at hj
    exact t.at_ j xs hj
theorem TabOk.drop {own wide room n : Nat} {S : Nat → Prop} {xss : List (List Nat)} (t : TabOk own wide room S xss) : TabOk own wide room S (tabD own xss n) := by
  unfold tabD
  by_cases e : n = own
  · rw [if_pos e]; exact t
  · rw [if_neg e]
    refine t.setL fun xs hx => ?_
    have eg : xss.getD (stepN own n) [] = xs := by rw [List.getD_eq_getElem?_getD, hx]; rfl
    obtain ⟨h1, h2, h3⟩ := t.at_ _ _ hx
    rw [eg]
    exact ⟨h1.erase n, Nat.le_trans (List.length_erase_le ..) h2, fun x hx => h3 x (List.mem_of_mem_erase hx)⟩
end Nn
/-! towns, plainly -/
namespace Nn
open PySem L2
/-- a town: sizes, its houses with their tables' lines in the order of their coming, the silent ones -/
structure TM where
  wide : Nat
  room : Nat
  tabs : List (Nat × List (List Nat))
  hush : List Nat
namespace TM
def houses (m : TM) : List Nat := m.tabs.map (·.1)
def tab (m : TM) (h : Nat) : List (List Nat) := (m.tabs.lookup h).getD []
def aw (m : TM) (n : Nat) : Bool := decide (n ∈ m.houses) && !decide (n ∈ m.hush)
def setTab (m : TM) (h : Nat) (xss : List (List Nat)) : TM := { m with tabs := m.tabs.map fun e => if e.1 = h then (h, xss) else e }
def hears (m : TM) (h n : Nat) : TM := m.setTab h (tabL h m.room (m.tab h) n m.aw)
def drops (m : TM) (h n : Nat) : TM := m.setTab h (tabD h (m.tab h) n)
def keeps (m : TM) (h : Nat) : List Nat := sortU (m.tab h).flatten
def live (m : TM) : List Nat := (sortU m.houses).filter m.aw
inductive Reach (m : TM) (h : Nat) : Nat → Prop
  | self : Reach m h h
  | step {x y : Nat} : Reach m h x → y ∈ (m.tab x).flatten → m.aw y = true → Reach m h y
open Classical in
/-- all to which one comes -/
noncomputable def comeTo (m : TM) (h : Nat) : List Nat := (sortU m.houses).filter fun x => decide (m.Reach h x)
def meet (h : Nat) (m : TM) (o : Nat) : TM := (m.hears h o).hears o h
noncomputable def others (m : TM) (h door : Nat) : List Nat := (m.comeTo door).filter fun x => !decide (x = h)
noncomputable def visit (m : TM) (h door : Nat) : TM := (m.others h door).foldl (meet h) m
def add (m : TM) (n : Nat) : TM := { m with tabs := m.tabs ++ [(n, List.replicate m.wide [])] }
def cut (m : TM) (n : Nat) : TM := { m with tabs := m.tabs.filter fun e => !decide (e.1 = n), hush := m.hush.filter fun x => !decide (x = n) }
def hushed (m : TM) (n : Nat) : TM := if n ∈ m.hush then m else { m with hush := m.hush ++ [n] }
def woken (m : TM) (n : Nat) : TM := { m with hush := m.hush.filter fun x => !decide (x = n) }
variable {m : TM} {h n x : Nat} {xss : List (List Nat)}
theorem setTab_houses : (m.setTab h xss).houses = m.houses := by
  unfold houses setTab
  rw [List.map_map]
  refine List.map_congr_left fun e _ => ?_
  show (if e.1 = h then (h, xss) else e).1 = e.1
  by_cases q : e.1 = h
  · rw [if_pos q, q]
  · rw [if_neg q]
theorem setTab_wide : (m.setTab h xss).wide = m.wide := rfl
theorem setTab_room : (m.setTab h xss).room = m.room := rfl
theorem setTab_hush : (m.setTab h xss).hush = m.hush := rfl
theorem setTab_aw : (m.setTab h xss).aw = m.aw := funext fun n => by
  unfold aw; rw [setTab_houses, setTab_hush]
theorem lookup_ne {k : Nat} {ys : List (List Nat)} {r : List (Nat × List (List Nat))} (e : x ≠ k) : ((k, ys) :: r).lookup x = r.lookup x := by
  rw [List.lookup_cons]
  have e3 : (x == k) = false := by simpa using e
  rw [e3]
theorem lookup_eq {k : Nat} {ys : List (List Nat)} {r : List (Nat × List (List Nat))} : ((k, ys) :: r).lookup k = some ys := by
  rw [List.lookup_cons]
  have e3 : (k == k) = true := by simp
  rw [e3]
theorem lookup_map_set {l : List (Nat × List (List Nat))} : (l.map fun e => if e.1 = h then (h, xss) else e).lookup x = if x = h then (if h ∈ l.map (·.1) then some xss else none) else l.lookup x := by
  induction l with
  | nil => simp
  | cons e r ih =>
    obtain ⟨k, ys⟩ := e
    rw [List.map_cons]
    by_cases q : k = h
    · subst q
      rw [if_pos rfl]
      by_cases e2 : x = k
      · subst e2; rw [lookup_eq]; simp
      · rw [lookup_ne e2, ih, if_neg e2, if_neg e2, lookup_ne e2]
    · rw [if_neg q]
      by_cases e2 : x = k
      · subst e2; rw [lookup_eq, if_neg q, lookup_eq]
      · rw [lookup_ne e2, ih, lookup_ne e2]
        by_cases e4 : x = h
        · rw [if_pos e4, if_pos e4]
          have e5 : (h ∈ ((k, ys) :: r).map (·.1)) ↔ h ∈ r.map (·.1) := by
            rw [List.map_cons, List.mem_cons]
            exact ⟨fun z => z.elim (fun z => absurd z.symm q) id, .inr⟩
          by_cases e6 : h ∈ r.map (·.1)
          · rw [if_pos e6, if_pos (e5.mpr e6)]
          · rw [if_neg e6, if_neg fun z => e6 (e5.mp z)]
        · rw [if_neg e4, if_neg e4]
theorem setTab_tab : (m.setTab h xss).tab x = if x = h ∧ h ∈ m.houses then xss else m.tab x := by
  unfold tab setTab
  show ((m.tabs.map fun e => if e.1 = h then (h, xss) else e).lookup x).getD [] = _
  rw [lookup_map_set]
  by_cases e : x = h
  · rw [if_pos e]
    by_cases q : h ∈ m.tabs.map (·.1)
    · rw [if_pos q, if_pos ⟨e, q⟩]; rfl
    · rw [if_neg q, if_neg fun z => q z.2]
      have : m.tabs.lookup x = none := by
        rw [List.lookup_eq_none_iff]
        intro p hp
        simp only [bne_iff_ne, ne_eq, beq_iff_eq]
        intro z
        exact q (List.mem_map.mpr ⟨p, hp, by rw [← z, e]⟩)
      rw [this]
  · rw [if_neg e, if_neg fun z => e z.1]
theorem lookup_mem {l : List (Nat × List (List Nat))} (nd : (l.map (·.1)).Nodup) {k : Nat} {ys : List (List Nat)} (hm : (k, ys) ∈ l) : l.lookup k = some ys := by
  induction l with
  | nil => cases hm
  | cons e r ih =>
    obtain ⟨k', ys'⟩ := e
    rw [List.map_cons] at nd
    have nd := List.nodup_cons.mp nd
    rw [List.lookup_cons]
    rcases List.mem_cons.mp hm with z | z
    · cases z
      have e3 : (k == k) = true := by simp
      rw [e3]
    · have ne : k ≠ k' := fun q => nd.1 (by rw [← q]; exact List.mem_map.mpr ⟨_, z, rfl⟩)
      have e3 : (k == k') = false := by simpa using ne
      rw [e3]
      exact ih nd.2 z
theorem tab_mem (nd : m.houses.Nodup) {k : Nat} {ys : List (List Nat)} (hm : (k, ys) ∈ m.tabs) : m.tab k = ys := by
  unfold tab; rw [lookup_mem nd hm]; rfl
theorem mem_tab (hm : h ∈ m.houses) (nd : m.houses.Nodup) : (h, m.tab h) ∈ m.tabs := by
  obtain ⟨e, he, rfl⟩ := List.mem_map.mp hm
  have q := tab_mem nd (m := m) (k := e.1) (ys := e.2) he
  rw [q]; exact he
/-- well kept; all names ever are among N -/
structure Ok (N : List Nat) (m : TM) : Prop where
  w0 : 0 < m.wide
  w1 : m.wide ≤ 60
  r0 : 0 < m.room
  r1 : m.room ≤ 8
  nb : ∀ x ∈ N, x < 2 ^ m.wide
  nl : N.length < 64
  hN : ∀ x ∈ m.houses, x ∈ N
  nd : m.houses.Nodup
  hnd : m.hush.Nodup
  hh : ∀ x ∈ m.hush, x ∈ m.houses
  at_ : ∀ h xss, (h, xss) ∈ m.tabs → TabOk h m.wide m.room (· ∈ N) xss
variable {N : List Nat}
theorem Ok.tabOk (k : Ok N m) (hm : h ∈ m.houses) : TabOk h m.wide m.room (· ∈ N) (m.tab h) := k.at_ _ _ (mem_tab hm k.nd)
theorem Ok.setTab (k : Ok N m) (t : h ∈ m.houses → TabOk h m.wide m.room (· ∈ N) xss) : Ok N (m.setTab h xss) := by
  refine ⟨k.w0, k.w1, k.r0, k.r1, k.nb, k.nl, by rw [setTab_houses]; exact k.hN, by rw [setTab_houses]; exact k.nd, k.hnd, by rw [setTab_houses]; exact k.hh, fun h' ys hm => ?_⟩
  obtain ⟨e, he, eq⟩ := List.mem_map.mp hm
  by_cases q : e.1 = h
  · rw [if_pos q] at eq
    cases eq
    exact t (by rw [← q]; exact List.mem_map.mpr ⟨e, he, rfl⟩)
  · rw [if_neg q] at eq
    subst eq
    exact k.at_ _ _ he
theorem Ok.hears (k : Ok N m) (hn : n ∈ N) : Ok N (m.hears h n) := k.setTab fun hm => (k.tabOk hm).hear k.r0 hn
theorem Ok.drops (k : Ok N m) : Ok N (m.drops h n) := k.setTab fun hm => (k.tabOk hm).drop
theorem hears_houses : (m.hears h n).houses = m.houses := setTab_houses
theorem hears_aw : (m.hears h n).aw = m.aw := setTab_aw
theorem hears_wide : (m.hears h n).wide = m.wide := rfl
theorem hears_room : (m.hears h n).room = m.room := rfl
theorem hears_hush : (m.hears h n).hush = m.hush := rfl
theorem meet_houses {o : Nat} : (meet h m o).houses = m.houses := by unfold meet; rw [hears_houses, hears_houses]
theorem meet_aw {o : Nat} : (meet h m o).aw = m.aw := by unfold meet; rw [hears_aw, hears_aw]
theorem Ok.meet {o : Nat} (k : Ok N m) (hn : h ∈ N) (ho : o ∈ N) : Ok N (meet h m o) := (k.hears ho).hears hn
theorem fold_houses : ∀ {l : List Nat} {m : TM}, (l.foldl (TM.meet h) m).houses = m.houses
  | [], _ => rfl
  | o :: r, m => by rw [List.foldl_cons, fold_houses (l := r), meet_houses]
theorem fold_aw : ∀ {l : List Nat} {m : TM}, (l.foldl (TM.meet h) m).aw = m.aw
  | [], _ => rfl
  | o :: r, m => by rw [List.foldl_cons, fold_aw (l := r), meet_aw]
theorem fold_sizes : ∀ {l : List Nat} {m : TM}, (l.foldl (TM.meet h) m).wide = m.wide ∧ (l.foldl (TM.meet h) m).room = m.room ∧ (l.foldl (TM.meet h) m).hush = m.hush
  | [], _ => ⟨rfl, rfl, rfl⟩
  | o :: r, m => by rw [List.foldl_cons]; exact fold_sizes (l := r)
theorem Ok.fold : ∀ {l : List Nat} {m : TM}, Ok N m → h ∈ N → (∀ o ∈ l, o ∈ N) → Ok N (l.foldl (TM.meet h) m)
  | [], _, k, _, _ => k
  | o :: r, m, k, hn, ho => by
    rw [List.foldl_cons]
    exact Ok.fold (l := r) (k.meet hn (ho o (List.mem_cons_self ..))) hn fun x hx => ho x (List.mem_cons_of_mem _ hx)
open Classical in
theorem mem_comeTo : x ∈ m.comeTo h ↔ x ∈ m.houses ∧ m.Reach h x := by
  unfold comeTo
  rw [List.mem_filter, mem_sortU, decide_eq_true_iff]
theorem comeTo_sorted : (m.comeTo h).Pairwise (· < ·) := (sortU_sorted _).filter _
theorem aw_house (e : m.aw x = true) : x ∈ m.houses := by
  unfold aw at e
  rw [Bool.and_eq_true] at e
  exact of_decide_eq_true e.1
theorem Reach.house (r : m.Reach h x) (hm : h ∈ m.houses) : x ∈ m.houses := by
  cases r with
  | self => exact hm
  | step _ _ e => exact aw_house e
/-- a closed list of those come to holds them all -/
theorem Reach.closed {l : List Nat} (r : m.Reach h x) (h0 : h ∈ l) (hc : ∀ y ∈ l, ∀ z ∈ (m.tab y).flatten, m.aw z = true → z ∈ l) : x ∈ l := by
  induction r with
  | self => exact h0
  | step _ hy e ih => exact hc _ ih _ hy e
theorem comeTo_eq {l : List Nat} (hm : h ∈ m.houses) (h0 : h ∈ l) (hr : ∀ x ∈ l, m.Reach h x) (hc : ∀ y ∈ l, ∀ z ∈ (m.tab y).flatten, m.aw z = true → z ∈ l) : sortU l = m.comeTo h :=
  rising_eq (sortU_sorted _) comeTo_sorted fun z => by
    rw [mem_sortU, mem_comeTo]
    exact ⟨fun q => ⟨(hr z q).house hm, hr z q⟩, fun q => q.2.closed h0 hc⟩
theorem mem_live : x ∈ m.live ↔ m.aw x = true := by
  unfold live
  rw [List.mem_filter, mem_sortU]
  exact ⟨fun q => q.2, fun q => ⟨aw_house q, q⟩⟩
theorem mem_keeps : x ∈ m.keeps h ↔ x ∈ (m.tab h).flatten := mem_sortU
theorem Ok.keeps_len (k : Ok N m) (hm : h ∈ m.houses) : (m.tab h).flatten.length < 64 :=
  Nat.lt_of_le_of_lt (nodup_len (k.tabOk hm).nodup fun _ q => (k.tabOk hm).mem q) k.nl
theorem Ok.houses_len (k : Ok N m) : m.houses.length < 64 := Nat.lt_of_le_of_lt (nodup_len k.nd k.hN) k.nl
theorem add_houses : (m.add n).houses = m.houses ++ [n] := by unfold add houses; rw [List.map_append]; rfl
theorem Ok.add (k : Ok N m) (hn : n ∉ m.houses) (hN : n ∈ N) : Ok N (m.add n) := by
  refine ⟨k.w0, k.w1, k.r0, k.r1, k.nb, k.nl, fun x hx => ?_, by rw [add_houses]; exact nd_snoc k.nd hn, k.hnd, fun x hx => by rw [add_houses]; exact List.mem_append.mpr (.inl (k.hh x hx)), fun h xss hm => ?_⟩
  · rw [add_houses] at hx
    rcases List.mem_append.mp hx with q | q
    · exact k.hN x q
    · rw [List.mem_singleton.mp q]; exact hN
  · rcases List.mem_append.mp hm with q | q
    · exact k.at_ _ _ q
    · cases List.mem_singleton.mp q
      exact TabOk.nil
theorem Ok.more {N' : List Nat} (k : Ok N m) (hs : ∀ x ∈ N, x ∈ N') (nb : ∀ x ∈ N', x < 2 ^ m.wide) (nl : N'.length < 64) : Ok N' m :=
  ⟨k.w0, k.w1, k.r0, k.r1, nb, nl, fun x hx => hs x (k.hN x hx), k.nd, k.hnd, k.hh, fun h xss hm => ⟨(k.at_ h xss hm).len, fun i xs e => by
    obtain ⟨a, b, c⟩ := (k.at_ h xss hm).at_ i xs e
    exact ⟨a, b, fun x hx => ⟨(c x hx).1, (c x hx).2.1, hs x (c x hx).2.2⟩⟩⟩⟩
end TM
end Nn
/-! towns: what they do -/
namespace Nn
open PySem L2
section
variable {P : Program} {w : World} {K : PySem.W.Frag} {mg : Str → Option Value} {base : Heap} {H : Hp} {Q : VK} {E : XK}
/-- what may be handed in, of any kind -/
inductive Thing (H : Hp) : V → Prop
  | int (i : Int) : Thing H (.int i)
  | bl (b : Bool) : Thing H (.bl b)
  | str (z : Str) : Thing H (.str z)
  | non : Thing H .non
  | lst {a : Addr} {xs : List V} : H a = some (.lst xs) → Thing H (.ref a)
  | tup {a : Addr} {xs : List V} : H a = some (.tup xs) → Thing H (.ref a)
  | dict {a : Addr} {kvs : List (Key × V)} : H a = some (.dK kvs) → Thing H (.ref a)
theorem Thing.ex {H' : Hp} {v : V} (t : Thing H v) (e : Ex H H') : Thing H' v := by
  cases t with
  | int i => exact .int i
  | bl b => exact .bl b
  | str z => exact .str z
  | non => exact .non
  | lst h => exact .lst (e.at h)
  | tup h => exact .tup (e.at h)
  | dict h => exact .dict (e.at h)
/-- whether it is a name, a size -/
def isnV (v : V) (wd : Nat) : Bool := match v with
  | .int i => decide (0 ≤ i ∧ i < ((2 ^ wd : Nat) : Int))
  | _ => false
def issV (v : V) (k : Nat) : Bool := match v with
  | .int i => decide (1 ≤ i ∧ i ≤ (k : Int))
  | _ => false
def sp_is_name (_ : Tx K mg base) : Sp := fun vs H Q _ => ∃ (v : V) (wd : Nat), vs = [v, .int wd] ∧ wd ≤ 60 ∧ Thing H v ∧ Q (.bl (isnV v wd)) H
theorem wc_is_name {T : Tx K mg base} {n wd : Nat} {i j : Int} (e0 : i = n) (e1 : j = wd) (c0 : wd ≤ 60) (h : Q (.bl (decide (n < 2 ^ wd))) H) : sp_is_name T [.int i, .int j] H Q E := by
  subst e0 e1
  refine ⟨.int n, wd, rfl, c0, .int _, ?_⟩
  have e : isnV (.int (n : Int)) wd = decide (n < 2 ^ wd) := decide_eq_decide.mpr ⟨fun z => Int.ofNat_lt.mp z.2, fun z => ⟨Int.natCast_nonneg _, Int.ofNat_lt.mpr z⟩⟩
  rw [e]; exact h
theorem wg_is_name {T : Tx K mg base} {v : V} {wd : Nat} {j : Int} (e1 : j = wd) (c0 : wd ≤ 60) (t : Thing H v) (h : Q (.bl (isnV v wd)) H) : sp_is_name T [v, .int j] H Q E := by
  subst e1; exact ⟨v, wd, rfl, c0, t, h⟩
theorem ok_is_name (T : Tx K mg base) : FnOk P w K mg base CX0 1 T.a_is_name T.d_is_name ["thing", "wide"] (sp_is_name T) := by
  refine T.F_is_name.okD sc_is_name (fun vs H Q E h => ?_) (fun cdv A outer s H vs Q E hr h => ?_)
  · obtain ⟨v, wd, rfl, _⟩ := h; rfl
  · obtain ⟨v, wd, rfl, hw, t, q⟩ := h
    have hu := hu_of hr
    have c_Bucket := T.c_Bucket; have n_Bucket_room := T.n_Bucket_room; have n_Bucket_line := T.n_Bucket_line; have c_Table := T.c_Table; have n_Table_own := T.n_Table_own; have n_Table_wide := T.n_Table_wide; have n_Table_room := T.n_Table_room; have n_Table_buckets := T.n_Table_buckets; have c_Town := T.c_Town; have n_Town_wide := T.n_Town_wide; have n_Town_room := T.n_Town_room; have n_Town_tables := T.n_Town_tables; have n_Town_hushed := T.n_Town_hushed
    refine ⟨_, (pss_one (ps_ret (pe_and (pe_callB call_isi (by rfl) T.z_isinstance (by decide +kernel) (pa_cons (pv 0) (pa_cons (pe_bltn (v := .ty "int") rfl T.z_int (by decide +kernel) rfl) pa_nil))) (pe_and (pe_not (pe_callB call_isi (by rfl) T.z_isinstance (by decide +kernel) (pa_cons (pv 0) (pa_cons (pe_bltn (v := .ty "bool") rfl T.z_bool (by decide +kernel) rfl) pa_nil)))) (pe_one (pe_chain op_le op_lt pe_int (pv 0) (pe_op op_shl1 pe_int (pv 1)))))))), ?_⟩
    rw [Nn.st_is_name]; try rw [Nn.cxK]
    try rw [Nn.cxW]
    cases t with
    | int i =>
      walk_at "wx"
      refine x_ite (fun h => ?_) fun h => ?_
      · walk_at "wx"
        have e : isnV (.int i) wd = decide (i < ((2 ^ wd : Nat) : Int)) := decide_eq_decide.mpr ⟨fun z => z.2, fun z => ⟨h, z⟩⟩
        rw [e] at q; exact q
      · have e : isnV (.int i) wd = false := decide_eq_false fun z => h z.1
        rw [e] at q; exact q
    | bl b => walk_at "wx"; exact q
    | str z => walk_at "wx"; exact q
    | non => walk_at "wx"; exact q
    | lst h => walk_at "wx"; exact q
    | tup h => walk_at "wx"; exact q
    | dict h => walk_at "wx"; exact q
def sp_is_size (_ : Tx K mg base) : Sp := fun vs H Q _ => ∃ (v : V) (k : Nat), vs = [v, .int k] ∧ Thing H v ∧ Q (.bl (issV v k)) H
theorem wc_is_size {T : Tx K mg base} {n k : Nat} {i j : Int} (e0 : i = n) (e1 : j = k) (h : Q (.bl (decide (1 ≤ n ∧ n ≤ k))) H) : sp_is_size T [.int i, .int j] H Q E := by
  subst e0 e1
  refine ⟨.int n, k, rfl, .int _, ?_⟩
  have e : issV (.int (n : Int)) k = decide (1 ≤ n ∧ n ≤ k) := decide_eq_decide.mpr ⟨fun z => ⟨by omega, by omega⟩, fun z => ⟨by omega, by omega⟩⟩
  rw [e]; exact h
theorem wg_is_size {T : Tx K mg base} {v : V} {k : Nat} {j : Int} (e1 : j = k) (t : Thing H v) (h : Q (.bl (issV v k)) H) : sp_is_size T [v, .int j] H Q E := by
  subst e1; exact ⟨v, k, rfl, t, h⟩
theorem ok_is_size (T : Tx K mg base) : FnOk P w K mg base CX0 1 T.a_is_size T.d_is_size ["thing", "most"] (sp_is_size T) := by
  refine T.F_is_size.okD sc_is_size (fun vs H Q E h => ?_) (fun cdv A outer s H vs Q E hr h => ?_)
  · obtain ⟨v, k, rfl, _⟩ := h; rfl
  · obtain ⟨v, k, rfl, t, q⟩ := h
    have hu := hu_of hr
    have c_Bucket := T.c_Bucket; have n_Bucket_room := T.n_Bucket_room; have n_Bucket_line := T.n_Bucket_line; have c_Table := T.c_Table; have n_Table_own := T.n_Table_own; have n_Table_wide := T.n_Table_wide; have n_Table_room := T.n_Table_room; have n_Table_buckets := T.n_Table_buckets; have c_Town := T.c_Town; have n_Town_wide := T.n_Town_wide; have n_Town_room := T.n_Town_room; have n_Town_tables := T.n_Town_tables; have n_Town_hushed := T.n_Town_hushed
    refine ⟨_, (pss_one (ps_ret (pe_and (pe_callB call_isi (by rfl) T.z_isinstance (by decide +kernel) (pa_cons (pv 0) (pa_cons (pe_bltn (v := .ty "int") rfl T.z_int (by decide +kernel) rfl) pa_nil))) (pe_and (pe_not (pe_callB call_isi (by rfl) T.z_isinstance (by decide +kernel) (pa_cons (pv 0) (pa_cons (pe_bltn (v := .ty "bool") rfl T.z_bool (by decide +kernel) rfl) pa_nil)))) (pe_one (pe_chain op_le op_le pe_int (pv 0) (pv 1))))))), ?_⟩
    rw [Nn.st_is_size]; try rw [Nn.cxK]
    try rw [Nn.cxW]
    cases t with
    | int i =>
      walk_at "wx"
      refine x_ite (fun h => ?_) fun h => ?_
      · walk_at "wx"
        have e : issV (.int i) k = decide (i ≤ (k : Int)) := decide_eq_decide.mpr ⟨fun z => z.2, fun z => ⟨h, z⟩⟩
        rw [e] at q; exact q
      · have e : issV (.int i) k = false := decide_eq_false fun z => h z.1
        rw [e] at q; exact q
    | bl b => walk_at "wx"; exact q
    | str z => walk_at "wx"; exact q
    | non => walk_at "wx"; exact q
    | lst h => walk_at "wx"; exact q
    | tup h => walk_at "wx"; exact q
    | dict h => walk_at "wx"; exact q
end
end Nn
local macro_rules | `(tactic| walk_at "wc") => `(tactic| ((with_reducible refine' Nn.wc_is_name ?hE0 ?hE1 ?hC0 ?_); (case hE0 => walk_at "wnat"); (case hE1 => walk_at "wnat"); (case hC0 => walk_at "wpre")))
local macro_rules | `(tactic| walk_at "wc") => `(tactic| ((with_reducible refine' Nn.wc_is_size ?hE0 ?hE1 ?_); (case hE0 => walk_at "wnat"); (case hE1 => walk_at "wnat")))
namespace Nn
open PySem L2
/-- where a town's things lie -/
structure TA where
  t : Addr
  td : Addr
  hd : Addr
  pa : Nat → Addr
  la : Nat → List Addr
section
variable {P : Program} {w : World} {K : PySem.W.Frag} {mg : Str → Option Value} {base : Heap} {H : Hp} {Q : VK} {E : XK}
/-- the town m lies at A; all of it is of F -/
structure TownAt (T : Tx K mg base) (H : Hp) (A : TA) (F : Addr → Prop) (m : TM) : Prop where
  tw : TwAt T H A.t A.td A.hd m.wide m.room m.houses A.pa m.hush
  ft : F A.t ∧ F A.td ∧ F A.hd
  tab : ∀ h ∈ m.houses, TabAt T H (A.pa h) h m.wide m.room (A.la h) ∧ Lines H (A.la h) (m.tab h)
  own : ∀ h ∈ m.houses, F (A.pa h) ∧ TabOwn T H (A.pa h) F ∧ ∀ l ∈ A.la h, F l
  dj : ∀ h1 ∈ m.houses, ∀ h2 ∈ m.houses, h1 ≠ h2 → ∀ l ∈ A.la h1, l ∉ A.la h2
  ex : ∀ a, F a → H a ≠ none
  ne : A.td ≠ A.hd
variable {T : Tx K mg base} {H' : Hp} {A : TA} {F S : Addr → Prop} {m : TM}
theorem TwAt.fr {t td hd : Addr} {wide room : Nat} {hs : List Nat} {pa : Nat → Addr} {qs : List Nat} (a : TwAt T H t td hd wide room hs pa qs) (f : Fr S H H') (h1 : ¬ S t) (h2 : ¬ S td) (h3 : ¬ S hd) : TwAt T H' t td hd wide room hs pa qs := by
  obtain ⟨dx, ob⟩ := a.ob
  exact ⟨⟨dx, f.at ob h1⟩, f.at a.tb h2, f.at a.hb h3⟩
theorem TownAt.fr (t : TownAt T H A F m) (f : Fr S H H') (h : ∀ a, S a → ¬ F a) : TownAt T H' A F m := by
  have no : ∀ {a : Addr}, F a → ¬ S a := fun x y => h _ y x
  refine ⟨t.tw.fr f (no t.ft.1) (no t.ft.2.1) (no t.ft.2.2), t.ft, fun k hk => ?_, fun k hk => ?_, t.dj, fun a ha e => t.ex a ha (f.back a e), t.ne⟩
  · obtain ⟨t1, t2⟩ := t.tab k hk
    obtain ⟨o1, o2, o3⟩ := t.own k hk
    obtain ⟨dx, bl, bs, h1, h2, h3, h4⟩ := t1.ob
    have q := o2 dx bl _ _ _ bs h1 h2
    refine ⟨⟨t1.w0, t1.w1, t1.r0, t1.r1, t1.len, dx, bl, bs, f.at h1 (no o1), f.at h2 (no q.1), h3, fun i b l e1 e2 => (h4 i b l e1 e2).fr f (no (q.2 b (List.mem_of_getElem? e1)))⟩, t2.fr f fun l hl => no (o3 l hl)⟩
  · obtain ⟨o1, o2, o3⟩ := t.own k hk
    exact ⟨o1, o2.fr (t.tab k hk).1 f (fun a x => .inl (h a x)) (no o1), o3⟩
theorem TownAt.ex' (t : TownAt T H A F m) (f : Ex H H') : TownAt T H' A F m := t.fr f fun _ z => z.elim
/-- the lines of one house change -/
theorem TownAt.line {h : Nat} {xss : List (List Nat)} (t : TownAt T H A F m) (f : Fr S H H') (hs : ∀ a, S a → a ∈ A.la h) (hm : h ∈ m.houses) (L : Lines H' (A.la h) xss) : TownAt T H' A F (m.setTab h xss) := by
  have isl : ∀ {a : Addr}, S a → IsLine H a := fun z => (t.tab h hm).2.is (hs _ z)
  have no : ∀ {a : Addr} {o : HO}, H a = some o → (∀ xs : List Nat, o ≠ .lst (xs.map nV)) → ¬ S a := fun {a o} e n z => by
    obtain ⟨xs, e2⟩ := isl z
    rw [e] at e2
    exact n xs (Option.some.inj e2)
  obtain ⟨dx, ob⟩ := t.tw.ob
  have tw' := t.tw.fr f (no ob fun _ z => by cases z) (no t.tw.tb fun _ z => by cases z) (no t.tw.hb fun _ z => by cases z)
  have pno : ∀ k ∈ m.houses, ¬ S (A.pa k) := fun k hk => by
    obtain ⟨dx, bl, bs, h1, _⟩ := (t.tab k hk).1.ob
    exact no h1 fun _ z => by cases z
  refine ⟨by rw [TM.setTab_houses]; exact tw', t.ft, fun k hk => ?_, fun k hk => ?_, by rw [TM.setTab_houses]; exact t.dj, fun a ha e => t.ex a ha (f.back a e), t.ne⟩
  · rw [TM.setTab_houses] at hk
    refine ⟨(t.tab k hk).1.fr f fun a z => .inl (isl z), ?_⟩
    rw [TM.setTab_tab]
    by_cases e : k = h
    · rw [if_pos ⟨e, hm⟩, e]; exact L
    · rw [if_neg fun z => e z.1]
      exact (t.tab k hk).2.fr f fun l hl z => t.dj k hk h hm e l hl (hs l z)
  · rw [TM.setTab_houses] at hk
    obtain ⟨o1, o2, o3⟩ := t.own k hk
    exact ⟨o1, o2.fr (t.tab k hk).1 f (fun a x => .inr (isl x)) (pno k hk), o3⟩
/-- neither an instance nor a list of objects -/
def Soft (H : Hp) (a : Addr) : Prop := ∀ o, H a = some o → (∀ C dx fs, o ≠ .ins C dx fs) ∧ ∀ b r, o ≠ .lst (.ref b :: r)
theorem Soft.dict {a : Addr} {kvs : List (Key × V)} (h : H a = some (.dK kvs)) : Soft H a := fun o e => by
  rw [h] at e; cases e
  exact ⟨fun _ _ _ z => (by cases z), fun _ _ z => (by cases z)⟩
theorem Soft.line {a : Addr} (h : IsLine H a) : Soft H a := fun o e => by
  obtain ⟨xs, h⟩ := h
  rw [h] at e; cases e
  refine ⟨fun _ _ _ z => (by cases z), fun b r z => ?_⟩
  cases xs with
  | nil => cases z
  | cons x r => cases z
theorem TabAt.soft {p : Addr} {own wide room : Nat} {ls : List Addr} (t : TabAt T H p own wide room ls) (f : Fr S H H') (h : ∀ a, S a → Soft H a) : TabAt T H' p own wide room ls := by
  obtain ⟨dx, bl, bs, h1, h2, h3, h4⟩ := t.ob
  refine ⟨t.w0, t.w1, t.r0, t.r1, t.len, dx, bl, bs, f.at h1 fun z => (h _ z _ h1).1 _ _ _ rfl, f.at h2 fun z => ?_, h3, fun i b l e1 e2 => (h4 i b l e1 e2).fr f fun z => ?_⟩
  · have w0 := t.w0
    cases bs with
    | nil => simp at h3; omega
    | cons b r => exact (h _ z _ h2).2 _ _ rfl
  · obtain ⟨dy, hy⟩ := (h4 i b l e1 e2).ob
    exact (h _ z _ hy).1 _ _ _ rfl
theorem TabOwn.soft {p : Addr} {own wide room : Nat} {ls : List Addr} (o : TabOwn T H p F) (t : TabAt T H p own wide room ls) (f : Fr S H H') (h : ∀ a, S a → Soft H a) : TabOwn T H' p F := by
  obtain ⟨dx, bl, bs, h1, h2, h3, h4⟩ := t.ob
  have q := o dx bl _ _ _ bs h1 h2
  have hb : ¬ S bl := fun z => by
    have w0 := t.w0
    cases bs with
    | nil => simp at h3; omega
    | cons b r => exact (h _ z _ h2).2 _ _ rfl
  intro dx' bl' x y z bs' e1 e2
  rw [f.at h1 fun z => (h _ z _ h1).1 _ _ _ rfl] at e1
  cases e1
  rw [f.at h2 hb] at e2
  have e := HO.lst.inj (Option.some.inj e2)
  rw [← refs_inj e]
  exact q
theorem TabOwn.live {p : Addr} {own wide room : Nat} {ls : List Addr} (o : TabOwn T H p F) (t : TabAt T H p own wide room ls) : TabOwn T H p (fun a => F a ∧ H a ≠ none) := by
  obtain ⟨dx, bl, bs, h1, h2, h3, h4⟩ := t.ob
  have q := o dx bl _ _ _ bs h1 h2
  intro dx' bl' x y z bs' e1 e2
  rw [h1] at e1
  cases e1
  rw [h2] at e2
  have e := HO.lst.inj (Option.some.inj e2)
  rw [← refs_inj e]
  refine ⟨⟨q.1, by rw [h2]; exact fun z => by cases z⟩, fun b hb => ⟨q.2 b hb, ?_⟩⟩
  obtain ⟨i, hi⟩ := List.getElem?_of_mem hb
  have hil : i < ls.length := by rw [t.len, ← h3]; exact (List.getElem?_eq_some_iff.mp hi).1
  obtain ⟨dy, hy⟩ := (h4 i b _ hi (List.getElem?_eq_getElem hil)).ob
  rw [hy]; exact fun z => by cases z
theorem Fr.trans2 {F F' : Addr → Prop} {H H1 H2 : Hp} (a : Fr F H H1) (b : Fr F' H1 H2) (h : ∀ x, F' x → F x ∨ H x = none) : Fr F H H2 :=
  ⟨fun x o e n s => b.keep x o (a.keep x o e n s) n fun z => (h x z).elim s fun z => (by rw [e] at z; cases z), fun P t => b.tab P (a.tab P t), fun x e => a.back x (b.back x e)⟩
def sp_Town_houses (T : Tx K mg base) : Sp := fun vs H Q _ => ∃ (A : TA) (F : Addr → Prop) (m : TM), vs = [.ref A.t] ∧ TownAt T H A F m ∧ m.houses.length < 64 ∧ m.houses.Nodup ∧ ∀ p, H p = none → Q (.ref p) (upd H p (.lst ((sortU m.houses).map nV)))
theorem wc_Town_houses (t : TownAt T H A F m) (hz : m.houses.length < 64) (nd : m.houses.Nodup) (h : ∀ p, H p = none → Q (.ref p) (upd H p (.lst ((sortU m.houses).map nV)))) : sp_Town_houses T [.ref A.t] H Q E := ⟨A, F, m, rfl, t, hz, nd, h⟩
theorem x_sortDN {H : Hp} {Q : VK} {a : Addr} {hs : List Nat} {f : Nat → V} (hd : Rd H a (.dK (dOf hs f))) (hz : hs.length < 64) (nd : hs.Nodup) (h : ∀ p, H p = none → Q (.ref p) (upd H p (.lst ((sortU hs).map nV)))) : rSortDI [.ref a] H Q := by
  refine ⟨a, _, hs.map fun n : Nat => (n : Int), rfl, hd, dOf_keys, by rw [List.length_map]; exact hz, fun ys p hperm hsort hp => ?_⟩
  obtain ⟨zs, rfl⟩ : ∃ zs : List Nat, ys = zs.map fun n : Nat => (n : Int) := by
    refine ⟨ys.map Int.toNat, ?_⟩
    rw [List.map_map]
    refine (List.map_id ys).symm.trans (List.map_congr_left fun y hy => ?_)
    obtain ⟨n, _, rfl⟩ := List.mem_map.mp (hperm.mem_iff.mp hy)
    simp
  have hzs : zs = sortU hs := by
    have hmem : ∀ z, z ∈ zs ↔ z ∈ hs := fun z => by
      rw [← mem_cast (l := zs), ← mem_cast (l := hs)]
      exact hperm.mem_iff
    refine rising_eq ?_ (sortU_sorted _) fun z => by rw [hmem, mem_sortU]
    have nz : zs.Nodup := by
      have q : (zs.map fun n : Nat => (n : Int)).Nodup := hperm.nodup_iff.mpr (List.Pairwise.map _ (fun a b h e => h (Int.ofNat.inj e)) nd)
      exact (List.pairwise_map.mp q).imp fun h e => h (by rw [e])
    have le : zs.Pairwise (· ≤ ·) := (List.pairwise_map.mp hsort).imp fun h => by omega
    exact (nz.and le).imp fun h => by omega
  rw [hzs, ← map_nV]
  exact h p hp
theorem ok_Town_houses (T : Tx K mg base) : FnOk P w K mg base CX0 1 T.a_Town_houses T.d_Town_houses ["self"] (sp_Town_houses T) := by
  refine T.F_Town_houses.okD sc_Town_houses (fun vs H Q E h => ?_) (fun cdv A outer s H vs Q E hr h => ?_)
  · obtain ⟨A, F, m, rfl, _⟩ := h; rfl
  · obtain ⟨A1, F, m, rfl, t, hz, nd, q⟩ := h
    obtain ⟨dx, ob⟩ := t.tw.ob
    have c_Bucket := T.c_Bucket; have n_Bucket_room := T.n_Bucket_room; have n_Bucket_line := T.n_Bucket_line; have c_Table := T.c_Table; have n_Table_own := T.n_Table_own; have n_Table_wide := T.n_Table_wide; have n_Table_room := T.n_Table_room; have n_Table_buckets := T.n_Table_buckets; have c_Town := T.c_Town; have n_Town_wide := T.n_Town_wide; have n_Town_room := T.n_Town_room; have n_Town_tables := T.n_Town_tables; have n_Town_hushed := T.n_Town_hushed
    refine ⟨_, (pss_one (ps_ret (pe_callB (cb_sortD rfl) (by rfl) T.z_sorted (by decide +kernel) (pa_cons (pe_fld (pv 0) rfl) pa_nil)))), ?_⟩
    rw [Nn.st_Town_houses]; try rw [Nn.cxK]
    try rw [Nn.cxW]
    walk_at "wx"
    exact x_sortDN (.inl t.tw.tb) hz nd q
theorem TM.aw_eq {m : TM} : awB m.houses m.hush = m.aw := rfl
theorem TwAt.ans {T : Tx K mg base} {n : Nat} {i : Int} (hi : i = n) (t : TownAt T H A F m) (h : Q (.bl (m.aw n)) H) : sp_Town_answers T [.ref A.t, .int i] H Q E := wc_Town_answers hi t.tw h
def sp_Town_answering (T : Tx K mg base) : Sp := fun vs H Q _ => ∃ (A : TA) (F : Addr → Prop) (m : TM), vs = [.ref A.t] ∧ TownAt T H A F m ∧ m.houses.length < 64 ∧ m.houses.Nodup ∧ ∀ p H', H p = none → Ex H H' → H' p = some (.lst (m.live.map nV)) → Q (.ref p) H'
theorem wc_Town_answering (t : TownAt T H A F m) (hz : m.houses.length < 64) (nd : m.houses.Nodup) (h : ∀ p H', H p = none → Ex H H' → H' p = some (.lst (m.live.map nV)) → Q (.ref p) H') : sp_Town_answering T [.ref A.t] H Q E := ⟨A, F, m, rfl, t, hz, nd, h⟩
theorem ok_Town_answering (T : Tx K mg base) : FnOk P w K mg base CX0 2 T.a_Town_answering T.d_Town_answering ["self"] (sp_Town_answering T) := by
  refine T.F_Town_answering.okD sc_Town_answering (fun vs H Q E h => ?_) (fun cdv A outer s H vs Q E hr h => ?_)
  · obtain ⟨A, F, m, rfl, _⟩ := h; rfl
  · obtain ⟨A1, F, m, rfl, t, hz, nd, q⟩ := h
    obtain ⟨dx, ob⟩ := t.tw.ob
    have c_Bucket := T.c_Bucket; have n_Bucket_room := T.n_Bucket_room; have n_Bucket_line := T.n_Bucket_line; have c_Table := T.c_Table; have n_Table_own := T.n_Table_own; have n_Table_wide := T.n_Table_wide; have n_Table_room := T.n_Table_room; have n_Table_buckets := T.n_Table_buckets; have c_Town := T.c_Town; have n_Town_wide := T.n_Town_wide; have n_Town_room := T.n_Town_room; have n_Town_tables := T.n_Town_tables; have n_Town_hushed := T.n_Town_hushed
    refine ⟨_, (pss_one (ps_ret (pe_lc (own := [("house", 1)]) (g := (gName 1)) (by rfl) sc_Town_answering.nd (pi_list (pe_meth0 (pv 0) T.c_Town T.t_Town_houses (ok_Town_houses T) hr T.b_Town_houses .nil pass0)) (blkOk_by (N := N_Town_answering) (sc := defScope s_Town_answering) (own := [("house", 1)]) (by decide +kernel)) (fun _ _ _ _ _ => (pg_name (i := 1) sc_Town_answering.nd rfl (Or.inl rfl))) (fun _ _ _ _ _ => pts_one ((pt_val (pe_meth (pv 0) T.c_Town T.t_Town_answers (ok_Town_answers T) hr T.b_Town_answers .nil pass0 (pa_cons (pv 1) pa_nil))))) (fun _ _ _ _ _ => (pv 1))))), ?_⟩
    rw [Nn.st_Town_answering]; try rw [Nn.cxK]
    try rw [Nn.cxW]
    walk_at "wx"
    refine wc_Town_houses t hz nd fun p hp => ?_
    have hl : (sortU m.houses).length < 64 := Nat.lt_of_le_of_lt (nodup_len (rising_nodup (sortU_sorted _)) fun z hz => mem_sortU.mp hz) hz
    walk_at "wx"
    refine LcW.filt (emb := nV) (xs := sortU m.houses) m.aw (SqL.of upd_same) (by rw [sizeLine_eq]; omega) (fun n _ H2 ex2 R hR => ?_) (fun n _ _ H2 ex2 Qe hQ => ?_) fun D H2 hD ex2 hD2 => ?_
    · have t2 := t.ex' ((Ex.new hp).trans ex2)
      obtain ⟨dx2, ob2⟩ := t2.tw.ob
      walk_at "wx"
      refine TwAt.ans rfl t2 ?_
      walk_at "wx"
      exact hR _ Ex.refl
    · walk_at "wx"
      exact hQ
    · exact q D H2 (upd_back hD) ((Ex.new hp).trans ex2) hD2
def sp_Town_table (T : Tx K mg base) : Sp := fun vs H Q _ => ∃ (A : TA) (F : Addr → Prop) (m : TM) (h : Nat), vs = [.ref A.t, .int h] ∧ TownAt T H A F m ∧ m.wide ≤ 60 ∧ h < 2 ^ m.wide ∧ h ∈ m.houses ∧ Q (.ref (A.pa h)) H
theorem wc_Town_table {h : Nat} {i : Int} (hi : i = h) (t : TownAt T H A F m) (w1 : m.wide ≤ 60) (hb : h < 2 ^ m.wide) (hm : h ∈ m.houses) (q : Q (.ref (A.pa h)) H) : sp_Town_table T [.ref A.t, .int i] H Q E := by
  subst hi; exact ⟨A, F, m, h, rfl, t, w1, hb, hm, q⟩
theorem ok_Town_table (T : Tx K mg base) : FnOk P w K mg base CX0 2 T.a_Town_table T.d_Town_table ["self", "house"] (sp_Town_table T) := by
  refine T.F_Town_table.okD sc_Town_table (fun vs H Q E h => ?_) (fun cdv A outer s H vs Q E hr h => ?_)
  · obtain ⟨A, F, m, n, rfl, _⟩ := h; rfl
  · obtain ⟨A1, F, m, n, rfl, t, w1, hb, hm, q⟩ := h
    obtain ⟨dx, ob⟩ := t.tw.ob
    have tb := t.tw.tb
    have hu := hu_of hr
    have e1 : (valV (dOf m.houses fun h => .ref (A1.pa h)) (Sum.inl (n : Int))).isSome = decide (n ∈ m.houses) := dOf_has
    have e2 : valV (dOf m.houses fun h => .ref (A1.pa h)) (Sum.inl (n : Int)) = some (.ref (A1.pa n)) := by
      have q := dOf_val (f := fun h => V.ref (A1.pa h)) (n := n) (hs := m.houses)
      rw [if_pos hm] at q; exact q
    have c_Bucket := T.c_Bucket; have n_Bucket_room := T.n_Bucket_room; have n_Bucket_line := T.n_Bucket_line; have c_Table := T.c_Table; have n_Table_own := T.n_Table_own; have n_Table_wide := T.n_Table_wide; have n_Table_room := T.n_Table_room; have n_Table_buckets := T.n_Table_buckets; have c_Town := T.c_Town; have n_Town_wide := T.n_Town_wide; have n_Town_room := T.n_Town_room; have n_Town_tables := T.n_Town_tables; have n_Town_hushed := T.n_Town_hushed
    refine ⟨_, (pss_cons (ps_if (PW.pt (pw_or (pt_not (pt_val (pe_call (ok_is_name T) hr rfl T.m_is_name T.F_is_name.kp T.b_is_name .nil pass0 (pa_cons (pv 1) (pa_cons (pe_fld (pv 0) rfl) pa_nil))))) (pw_or1 (pt_cmp (pc_dnotin hu (pv 1) (pe_fld (pv 0) rfl))))))
      (pss_one ps_dead)
      pss_nil)
      (pss_one (ps_ret (pe_dget hu (pe_fld (pv 0) rfl) (pv 1) (fun _ _ => rfl))))), ?_⟩
    rw [Nn.st_Town_table]; try rw [Nn.cxK]
    try rw [Nn.cxW]
    walk_at "wx"
    rw [decide_eq_true hb]
    walk_at "wx"
    rw [e1, decide_eq_true hm]
    walk_at "wx"
    exact q
def sp_Town_look_awake (T : Tx K mg base) : Sp := fun vs H Q _ => ∃ (A : TA) (F : Addr → Prop) (m : TM) (h : Nat), vs = [.ref A.t, .int h] ∧ TownAt T H A F m ∧ m.wide ≤ 60 ∧ h < 2 ^ m.wide ∧ m.aw h = true ∧ Q .non H
theorem wc_Town_look_awake {h : Nat} {i : Int} (hi : i = h) (t : TownAt T H A F m) (w1 : m.wide ≤ 60) (hb : h < 2 ^ m.wide) (hm : m.aw h = true) (q : Q .non H) : sp_Town_look_awake T [.ref A.t, .int i] H Q E := by
  subst hi; exact ⟨A, F, m, h, rfl, t, w1, hb, hm, q⟩
theorem ok_Town_look_awake (T : Tx K mg base) : FnOk P w K mg base CX0 3 T.a_Town_look_awake T.d_Town_look_awake ["self", "house"] (sp_Town_look_awake T) := by
  refine T.F_Town_look_awake.okD sc_Town_look_awake (fun vs H Q E h => ?_) (fun cdv A outer s H vs Q E hr h => ?_)
  · obtain ⟨A, F, m, n, rfl, _⟩ := h; rfl
  · obtain ⟨A1, F, m, n, rfl, t, w1, hb, hm, q⟩ := h
    obtain ⟨dx, ob⟩ := t.tw.ob
    have hbd := t.tw.hb
    have hu := hu_of hr
    have e1 : (valV (dOf m.hush fun _ => .bl true) (Sum.inl (n : Int))).isSome = decide (n ∈ m.hush) := dOf_has
    have hm2 : n ∉ m.hush := fun z => by
      unfold TM.aw at hm
      rw [decide_eq_true z] at hm
      simp at hm
    have c_Bucket := T.c_Bucket; have n_Bucket_room := T.n_Bucket_room; have n_Bucket_line := T.n_Bucket_line; have c_Table := T.c_Table; have n_Table_own := T.n_Table_own; have n_Table_wide := T.n_Table_wide; have n_Table_room := T.n_Table_room; have n_Table_buckets := T.n_Table_buckets; have c_Town := T.c_Town; have n_Town_wide := T.n_Town_wide; have n_Town_room := T.n_Town_room; have n_Town_tables := T.n_Town_tables; have n_Town_hushed := T.n_Town_hushed
    refine ⟨_, (pss_cons (ps_expr (pe_meth (pv 0) T.c_Town T.t_Town_table (ok_Town_table T) hr T.b_Town_table .nil pass0 (pa_cons (pv 1) pa_nil)))
      (pss_one (ps_if (pt_cmp (pc_din hu (pv 1) (pe_fld (pv 0) rfl)))
      (pss_one ps_dead)
      pss_nil))), ?_⟩
    rw [Nn.st_Town_look_awake]; try rw [Nn.cxK]
    try rw [Nn.cxW]
    walk_at "wx"
    refine wc_Town_table rfl t w1 hb (TM.aw_house hm) ?_
    walk_at "wx"
    rw [e1, decide_eq_false hm2]
    walk_at "wx"
    exact q
def sp_Town_look_named (T : Tx K mg base) : Sp := fun vs H Q _ => ∃ (A : TA) (F : Addr → Prop) (m : TM) (h : Nat), vs = [.ref A.t, .int h] ∧ TownAt T H A F m ∧ m.wide ≤ 60 ∧ h < 2 ^ m.wide ∧ Q .non H
theorem wc_Town_look_named {h : Nat} {i : Int} (hi : i = h) (t : TownAt T H A F m) (w1 : m.wide ≤ 60) (hb : h < 2 ^ m.wide) (q : Q .non H) : sp_Town_look_named T [.ref A.t, .int i] H Q E := by
  subst hi; exact ⟨A, F, m, h, rfl, t, w1, hb, q⟩
theorem ok_Town_look_named (T : Tx K mg base) : FnOk P w K mg base CX0 2 T.a_Town_look_named T.d_Town_look_named ["self", "name"] (sp_Town_look_named T) := by
  refine T.F_Town_look_named.okD sc_Town_look_named (fun vs H Q E h => ?_) (fun cdv A outer s H vs Q E hr h => ?_)
  · obtain ⟨A, F, m, n, rfl, _⟩ := h; rfl
  · obtain ⟨A1, F, m, n, rfl, t, w1, hb, q⟩ := h
    obtain ⟨dx, ob⟩ := t.tw.ob
    have c_Bucket := T.c_Bucket; have n_Bucket_room := T.n_Bucket_room; have n_Bucket_line := T.n_Bucket_line; have c_Table := T.c_Table; have n_Table_own := T.n_Table_own; have n_Table_wide := T.n_Table_wide; have n_Table_room := T.n_Table_room; have n_Table_buckets := T.n_Table_buckets; have c_Town := T.c_Town; have n_Town_wide := T.n_Town_wide; have n_Town_room := T.n_Town_room; have n_Town_tables := T.n_Town_tables; have n_Town_hushed := T.n_Town_hushed
    refine ⟨_, (pss_one (ps_if (pt_not (pt_val (pe_call (ok_is_name T) hr rfl T.m_is_name T.F_is_name.kp T.b_is_name .nil pass0 (pa_cons (pv 1) (pa_cons (pe_fld (pv 0) rfl) pa_nil)))))
      (pss_one ps_dead)
      pss_nil)), ?_⟩
    rw [Nn.st_Town_look_named]; try rw [Nn.cxK]
    try rw [Nn.cxW]
    walk_at "wx"
    rw [decide_eq_true hb]
    walk_at "wx"
    exact q
def sp_Town_bucket (T : Tx K mg base) : Sp := fun vs H Q _ => ∃ (A : TA) (F : Addr → Prop) (m : TM) (h k : Nat), vs = [.ref A.t, .int h, .int k] ∧ TownAt T H A F m ∧ m.wide ≤ 60 ∧ h < 2 ^ m.wide ∧ h ∈ m.houses ∧ k < m.wide ∧ ∀ p, H p = none → Q (.ref p) (upd H p (.lst (((m.tab h).getD k []).map nV)))
theorem wc_Town_bucket {h k : Nat} {i j : Int} (hi : i = h) (hj : j = k) (t : TownAt T H A F m) (w1 : m.wide ≤ 60) (hb : h < 2 ^ m.wide) (hm : h ∈ m.houses) (hk : k < m.wide) (q : ∀ p, H p = none → Q (.ref p) (upd H p (.lst (((m.tab h).getD k []).map nV)))) : sp_Town_bucket T [.ref A.t, .int i, .int j] H Q E := by
  subst hi hj; exact ⟨A, F, m, h, k, rfl, t, w1, hb, hm, hk, q⟩
theorem ok_Town_bucket (T : Tx K mg base) : FnOk P w K mg base CX0 3 T.a_Town_bucket T.d_Town_bucket ["self", "house", "k"] (sp_Town_bucket T) := by
  refine T.F_Town_bucket.okD sc_Town_bucket (fun vs H Q E h => ?_) (fun cdv A outer s H vs Q E hr h => ?_)
  · obtain ⟨A, F, m, n, k, rfl, _⟩ := h; rfl
  · obtain ⟨A1, F, m, n, k, rfl, t, w1, hb, hm, hk, q⟩ := h
    obtain ⟨dx, ob⟩ := t.tw.ob
    obtain ⟨t1, t2⟩ := t.tab n hm
    obtain ⟨dx1, bl1, bs1, hob1, _⟩ := t1.ob
    have c_Bucket := T.c_Bucket; have n_Bucket_room := T.n_Bucket_room; have n_Bucket_line := T.n_Bucket_line; have c_Table := T.c_Table; have n_Table_own := T.n_Table_own; have n_Table_wide := T.n_Table_wide; have n_Table_room := T.n_Table_room; have n_Table_buckets := T.n_Table_buckets; have c_Town := T.c_Town; have n_Town_wide := T.n_Town_wide; have n_Town_room := T.n_Town_room; have n_Town_tables := T.n_Town_tables; have n_Town_hushed := T.n_Town_hushed
    refine ⟨_, (pss_one (ps_ret (pe_meth (pe_meth (pv 0) T.c_Town T.t_Town_table (ok_Town_table T) hr T.b_Town_table .nil pass0 (pa_cons (pv 1) pa_nil)) T.c_Table T.t_Table_bucket (ok_Table_bucket T) hr T.b_Table_bucket .nil pass0 (pa_cons (pv 2) pa_nil)))), ?_⟩
    rw [Nn.st_Town_bucket]; try rw [Nn.cxK]
    try rw [Nn.cxW]
    walk_at "wx"
    refine wc_Town_table rfl t w1 hb hm ?_
    walk_at "wx"
    exact wc_Table_bucket t1 t2 hk q
def sp_Town_keeps (T : Tx K mg base) : Sp := fun vs H Q _ => ∃ (A : TA) (F : Addr → Prop) (m : TM) (h : Nat), vs = [.ref A.t, .int h] ∧ TownAt T H A F m ∧ m.wide ≤ 60 ∧ h < 2 ^ m.wide ∧ h ∈ m.houses ∧ (m.tab h).flatten.Nodup ∧ (m.tab h).flatten.length ≤ 100000 ∧ ∀ p H', H p = none → Ex H H' → H' p = some (.lst ((m.keeps h).map nV)) → Q (.ref p) H'
theorem wc_Town_keeps {h : Nat} {i : Int} (hi : i = h) (t : TownAt T H A F m) (w1 : m.wide ≤ 60) (hb : h < 2 ^ m.wide) (hm : h ∈ m.houses) (nd : (m.tab h).flatten.Nodup) (hz : (m.tab h).flatten.length ≤ 100000) (q : ∀ p H', H p = none → Ex H H' → H' p = some (.lst ((m.keeps h).map nV)) → Q (.ref p) H') : sp_Town_keeps T [.ref A.t, .int i] H Q E := by
  subst hi; exact ⟨A, F, m, h, rfl, t, w1, hb, hm, nd, hz, q⟩
theorem ok_Town_keeps (T : Tx K mg base) : FnOk P w K mg base CX0 3 T.a_Town_keeps T.d_Town_keeps ["self", "house"] (sp_Town_keeps T) := by
  refine T.F_Town_keeps.okD sc_Town_keeps (fun vs H Q E h => ?_) (fun cdv A outer s H vs Q E hr h => ?_)
  · obtain ⟨A, F, m, n, rfl, _⟩ := h; rfl
  · obtain ⟨A1, F, m, n, rfl, t, w1, hb, hm, nd, hz, q⟩ := h
    obtain ⟨dx, ob⟩ := t.tw.ob
    obtain ⟨t1, t2⟩ := t.tab n hm
    obtain ⟨dx1, bl1, bs1, hob1, _⟩ := t1.ob
    have c_Bucket := T.c_Bucket; have n_Bucket_room := T.n_Bucket_room; have n_Bucket_line := T.n_Bucket_line; have c_Table := T.c_Table; have n_Table_own := T.n_Table_own; have n_Table_wide := T.n_Table_wide; have n_Table_room := T.n_Table_room; have n_Table_buckets := T.n_Table_buckets; have c_Town := T.c_Town; have n_Town_wide := T.n_Town_wide; have n_Town_room := T.n_Town_room; have n_Town_tables := T.n_Town_tables; have n_Town_hushed := T.n_Town_hushed
    refine ⟨_, (pss_one (ps_ret (pe_meth0 (pe_meth (pv 0) T.c_Town T.t_Town_table (ok_Town_table T) hr T.b_Town_table .nil pass0 (pa_cons (pv 1) pa_nil)) T.c_Table T.t_Table_keeps (ok_Table_keeps T) hr T.b_Table_keeps .nil pass0))), ?_⟩
    rw [Nn.st_Town_keeps]; try rw [Nn.cxK]
    try rw [Nn.cxW]
    walk_at "wx"
    refine wc_Town_table rfl t w1 hb hm ?_
    walk_at "wx"
    exact wc_Table_keeps t1 t2 nd hz q
def sp_Town_hears (T : Tx K mg base) : Sp := fun vs H Q _ => ∃ (A : TA) (F : Addr → Prop) (m : TM) (N : List Nat) (h n : Nat), vs = [.ref A.t, .int h, .int n] ∧ TownAt T H A F m ∧ m.Ok N ∧ h ∈ m.houses ∧ n ∈ N ∧ NdefX.TabsN (tabsL T) H ∧ ∀ z H', Fr F H H' → TownAt T H' A F (m.hears h n) → Q (.str z) H'
theorem wc_Town_hears {N : List Nat} {h n : Nat} {i j : Int} (hi : i = h) (hj : j = n) (t : TownAt T H A F m) (k : m.Ok N) (hm : h ∈ m.houses) (hn : n ∈ N) (tb : NdefX.TabsN (tabsL T) H) (q : ∀ z H', Fr F H H' → TownAt T H' A F (m.hears h n) → Q (.str z) H') : sp_Town_hears T [.ref A.t, .int i, .int j] H Q E := by
  subst hi hj; exact ⟨A, F, m, N, h, n, rfl, t, k, hm, hn, tb, q⟩
theorem ok_Town_hears (T : Tx K mg base) : FnOk P w K mg base CX0 5 T.a_Town_hears T.d_Town_hears ["self", "house", "name"] (sp_Town_hears T) := by
  refine T.FC_Town_hears.okC sc_Town_hears (fun vs H Q E h => ?_) (fun A outer s H vs Q E hr h => ?_)
  · obtain ⟨A, F, m, N, h0, n, rfl, _⟩ := h; rfl
  · obtain ⟨A1, F, m, N, h0, n, rfl, t, k, hm, hn, hT, q⟩ := h
    obtain ⟨dx, ob⟩ := t.tw.ob
    have hu := hu_of hr
    have c_Bucket := T.c_Bucket; have n_Bucket_room := T.n_Bucket_room; have n_Bucket_line := T.n_Bucket_line; have c_Table := T.c_Table; have n_Table_own := T.n_Table_own; have n_Table_wide := T.n_Table_wide; have n_Table_room := T.n_Table_room; have n_Table_buckets := T.n_Table_buckets; have c_Town := T.c_Town; have n_Town_wide := T.n_Town_wide; have n_Town_room := T.n_Town_room; have n_Town_tables := T.n_Town_tables; have n_Town_hushed := T.n_Town_hushed
    refine ⟨_, (pss_cons (ps_ndefA (st := s_Town_hears_answers) (i := 3) rfl T.tb_Town_hears rfl nm_Town_hears_answers (NdefX.ndef_free ndB_Town_hears_answers) rfl rfl rfl sc_Town_hears.nd rfl (Or.inl rfl) (.inl rfl))
      (pss_one (ps_ret (pe_methC (pe_dget hu (pe_fld (pv 0) rfl) (pv 1) (fun _ _ => rfl)) T.c_Table T.t_Table_hears (fun ws => ok_Table_hears T ws) (Prov.own (js := [0]) fun ok => NdefX.Caps.made ok (NdefX.ndef_free ndB_Town_hears_answers) (NdefX.ndef_fr ndB_Town_hears_answers) rfl) hr T.b_Table_hears .nil pass0 (pa_cons (pv 2) (pa_cons (pv 3) pa_nil)))))), ?_⟩
    rw [Nn.st_Town_hears]; try rw [Nn.cxK]
    try rw [Nn.cxW]
    walk_at "wx"
    refine ⟨hT _ tabm_Town_hears, fun f cd H1 ex1 hf0 hf hcd => ?_⟩
    generalize L2.cloFrom _ _ _ = cl at hf hcd ⊢
    have hf : H1 f = some (NdefX.FnO f (nf_Town_hears_answers cl cd)) := hf
    have hcd : H1 cd = some (LamX.CodeO cd (nf_Town_hears_answers cl cd).qual) := hcd
    have t1 := t.ex' ex1
    have td1 := t1.tw.tb
    obtain ⟨dx1, ob1⟩ := t1.tw.ob
    obtain ⟨ta1, L1⟩ := t1.tab h0 hm
    obtain ⟨dxt, bl, bs, hobt, _⟩ := ta1.ob
    have e2 : valV (dOf m.houses fun h => .ref (A1.pa h)) (Sum.inl (h0 : Int)) = some (.ref (A1.pa h0)) := by
      have q := dOf_val (f := fun h => V.ref (A1.pa h)) (n := h0) (hs := m.houses)
      rw [if_pos hm] at q; exact q
    have k0 := k.tabOk hm
    walk_at "wx"
    refine wc_Table_hears (A := ⟨A1.t, A1.td, A1.hd, m.wide, m.room, m.houses, A1.pa, m.hush, cl, cd⟩) rfl rfl ta1 L1 (k.nb _ (k.hN _ hm)) (k.nb _ hn) (fun ys hy => Nat.le_trans (k0.row ys hy) (Nat.le_trans k.r1 (by decide))) ⟨hf, hcd, t1.tw⟩ (fun _ _ z => z) fun H2 fr2 L2 _ => ?_
    have fr2 : Fr (fun a => a ∈ A1.la h0 ∨ False) H1 H2 := fr2
    have fr2' := fr2.mono (S' := fun a => a ∈ A1.la h0) fun a z => z.elim id False.elim
    exact q _ _ ((ex1.fr (S := F)).trans (fr2'.mono fun a z => (t.own h0 hm).2.2 a z)) (t1.line fr2' (fun a z => z) hm L2)
end
end Nn
/-! towns: come_to, visit, come -/
namespace Nn
open PySem L2
section
variable {P : Program} {w : World} {K : PySem.W.Frag} {mg : Str → Option Value} {base : Heap} {H H' : Hp} {Q : VK} {E : XK} {T : Tx K mg base} {A : TA} {F S : Addr → Prop} {m : TM}
theorem TM.Ok.bd {N : List Nat} (k : m.Ok N) {h : Nat} (hm : h ∈ m.houses) : h < 2 ^ m.wide := k.nb _ (k.hN _ hm)
def sp_Town_come_to (T : Tx K mg base) : Sp := fun vs H Q _ => ∃ (A : TA) (F : Addr → Prop) (m : TM) (N : List Nat) (h : Nat), vs = [.ref A.t, .int h] ∧ TownAt T H A F m ∧ m.Ok N ∧ m.aw h = true ∧ ∀ p H', H p = none → Ex H H' → H' p = some (.lst ((m.comeTo h).map nV)) → Q (.ref p) H'
theorem wc_Town_come_to {N : List Nat} {h : Nat} {i : Int} (hi : i = h) (t : TownAt T H A F m) (k : m.Ok N) (hm : m.aw h = true) (q : ∀ p H', H p = none → Ex H H' → H' p = some (.lst ((m.comeTo h).map nV)) → Q (.ref p) H') : sp_Town_come_to T [.ref A.t, .int i] H Q E := by
  subst hi; exact ⟨A, F, m, N, h, rfl, t, k, hm, q⟩
theorem ok_Town_come_to (T : Tx K mg base) : FnOk P w K mg base CX0 4 T.a_Town_come_to T.d_Town_come_to ["self", "house"] (sp_Town_come_to T) := by
  refine T.F_Town_come_to.okD sc_Town_come_to (fun vs H Q E h => ?_) (fun cdv A outer s H vs Q E hr h => ?_)
  · obtain ⟨A, F, m, N, h0, rfl, _⟩ := h; rfl
  · obtain ⟨A1, F, m, N, h0, rfl, t, k, haw, q⟩ := h
    obtain ⟨dx, ob⟩ := t.tw.ob
    have hu := hu_of hr
    have hm0 := TM.aw_house haw
    have hz := k.houses_len
    have fl : ∀ {l : List Nat}, l.Nodup → (∀ x ∈ l, m.Reach h0 x) → l.length < 64 := fun nd hr => Nat.lt_of_le_of_lt (nodup_len nd fun x hx => (hr x hx).house hm0) hz
    have c_Bucket := T.c_Bucket; have n_Bucket_room := T.n_Bucket_room; have n_Bucket_line := T.n_Bucket_line; have c_Table := T.c_Table; have n_Table_own := T.n_Table_own; have n_Table_wide := T.n_Table_wide; have n_Table_room := T.n_Table_room; have n_Table_buckets := T.n_Table_buckets; have c_Town := T.c_Town; have n_Town_wide := T.n_Town_wide; have n_Town_room := T.n_Town_room; have n_Town_tables := T.n_Town_tables; have n_Town_hushed := T.n_Town_hushed
    refine ⟨_, (pss_cons (ps_expr (pe_meth (pv 0) T.c_Town T.t_Town_look_awake (ok_Town_look_awake T) hr T.b_Town_look_awake .nil pass0 (pa_cons (pv 1) pa_nil)))
      (pss_cons (ps_set (i := 2) sc_Town_come_to.nd rfl (Or.inl rfl) (pe_lst (pa_cons (pv 1) pa_nil)))
      (pss_cons (ps_set (i := 3) sc_Town_come_to.nd rfl (Or.inl rfl) pe_int)
      (pss_cons (ps_while PassesOwn.never (pt_cmpR op_lt (pv 3) (pe_callB cb_len (by rfl) T.z_len PySem.boot_len (pa_cons (pv 2) pa_nil)) (nomark _))
      (pss_cons (ps_for PassesOwn.never rfl (pi_list (pe_meth0 (pe_dget hu (pe_fld (pv 0) rfl) (pe_ix ix_list (pv 2) (pv 3) (fun _ _ => rfl)) (fun _ _ => rfl)) T.c_Table T.t_Table_keeps (ok_Table_keeps T) (hr.mono (by decide)) T.b_Table_keeps .nil pass0)) (pg_name (i := 4) sc_Town_come_to.nd rfl (Or.inl rfl))
      (pss_one (ps_if (PW.pt (pw_and (pt_val (pe_meth (pv 0) T.c_Town T.t_Town_answers (ok_Town_answers T) (hr.mono (by decide)) T.b_Town_answers .nil pass0 (pa_cons (pv 4) pa_nil))) (pw_and1 (pt_cmpR op_notIn_seq (pv 4) (pv 2) rfl))))
      (pss_one (ps_expr (pe_bm PySem.F.plainAttrs_list PySem.F.slot_list_append PySem.F.type_list_append mt_append (pv 2) (pa_cons (pv 4) pa_nil))))
      pss_nil)))
      (pss_one (ps_aug (i := 3) sc_Town_come_to.nd rfl (Or.inl rfl) pe_int ip_add))))
      (pss_one (ps_ret (pe_callB cr_sortedI (by rfl) T.z_sorted (by decide +kernel) (pa_cons (pv 2) pa_nil)))))))), ?_⟩
    rw [Nn.st_Town_come_to]; try rw [Nn.cxK]
    try rw [Nn.cxW]
    walk_at "wx"
    refine wc_Town_look_awake rfl t k.w1 (k.bd hm0) haw ?_
    walk_at "wx"
    refine ⟨len_ok rfl, fun d hd => ?_⟩
    walk_at "wx"
    refine x_while (m := 64) (W := fun mm σ H' => ∃ (found : List Nat) (j : Nat) (v : Option V), σ = [some (.ref A1.t), some (.int h0), some (.ref d), some (.int j), v] ∧ Ex H H' ∧ H' d = some (.lst (found.map nV)) ∧ found.Nodup ∧ h0 ∈ found ∧ (∀ x ∈ found, m.Reach h0 x) ∧
        (∀ i, i < j → ∀ x, found[i]? = some x → ∀ z ∈ (m.tab x).flatten, m.aw z = true → z ∈ found) ∧ j ≤ found.length ∧ j + mm = 64)
      ⟨[h0], 0, none, rfl, Ex.new hd, upd_same, by simp, by simp, fun x hx => by rw [List.mem_singleton.mp hx]; exact .self, fun i hi => absurd hi (Nat.not_lt_zero _), Nat.zero_le _, rfl⟩ ?_
    rintro mm σ H1 ⟨found, j, v, rfl, ex1, h1, nd, h0m, hre, hcl, hj, hmm⟩
    have hfl := fl nd hre
    walk_at "wx"
    refine x_whD (fun hlt => ?_) fun hge => ?_
    · rw [List.length_map] at hlt
      have hjl : j < found.length := by omega
      have t1 := t.ex' ex1
      have hy := hre _ (List.getElem_mem hjl)
      have hym := hy.house hm0
      obtain ⟨dx1, ob1⟩ := t1.tw.ob
      have td1 := t1.tw.tb
      obtain ⟨ta1, L1⟩ := t1.tab _ hym
      obtain ⟨dxt, bl, bs, hobt, _⟩ := ta1.ob
      have e2 : valV (dOf m.houses fun h => .ref (A1.pa h)) (Sum.inl (found[j] : Int)) = some (.ref (A1.pa found[j])) := by
        have q := dOf_val (f := fun h => V.ref (A1.pa h)) (n := found[j]) (hs := m.houses)
        rw [if_pos hym] at q; exact q
      have k0 := k.tabOk hym
      walk_at "wx"
      refine x_ixL (SqL.of h1) (atI_nV hjl) ?_
      walk_at "wx"
      refine wc_Table_keeps ta1 L1 k0.nodup (by have := k.keeps_len hym; omega) fun p2 H2 hp2 ex2 h2 => ?_
      have ex02 := ex1.trans ex2
      have hd2 := ex2.at h1
      walk_at "wx"
      refine ForW.by walk_list (fun i σ H' => ∃ (fd : List Nat) (v : Option V), σ = [some (.ref A1.t), some (.int h0), some (.ref d), some (.int j), v] ∧ Ex H H' ∧ H' d = some (.lst (fd.map nV)) ∧ H' p2 = some (.lst ((m.keeps found[j]).map nV)) ∧ fd.Nodup ∧ found <+: fd ∧ (∀ x ∈ fd, m.Reach h0 x) ∧
          (∀ z ∈ (m.keeps found[j]).take i, m.aw z = true → z ∈ fd))
        ⟨found, _, rfl, ex02, hd2, h2, nd, List.prefix_refl _, hre, by simp⟩ (fun i σ H' _ ⟨_, _, _, _, _, e, _⟩ => SqL.of e) ?_ ?_
      · rintro i x σ _ H3 hi ⟨fd, v, rfl, ex3, hd3, hp3, nd3, pre3, hre3, hz3⟩ ⟨rfl, hx⟩
        rw [List.length_map] at hi
        obtain rfl : x = nV (m.keeps found[j])[i] := by
          rw [List.getElem?_map, List.getElem?_eq_getElem hi] at hx
          exact (Option.some.inj hx).symm
        have et : (m.keeps found[j]).take (i + 1) = (m.keeps found[j]).take i ++ [(m.keeps found[j])[i]] := by rw [List.take_add_one, List.getElem?_eq_getElem hi]; rfl
        have hzk := TM.mem_keeps.mp (List.getElem_mem hi)
        rw [et]
        generalize (m.keeps found[j])[i] = z at hzk
        have t3 := t.ex' ex3
        obtain ⟨dx3, ob3⟩ := t3.tw.ob
        have hfd := fl nd3 hre3
        have npd : p2 ≠ d := fun e => by rw [e, h1] at hp2; cases hp2
        walk_at "wx"
        refine TwAt.ans rfl t3 ?_
        walk_at "wx"
        refine x_iteB (fun haz => ?_) fun haz => ?_
        · walk_at "wx"
          refine x_ifN (fun hin => ?_) fun hin => ?_
          · walk_at "wx"
            refine ⟨fd ++ [z], _, rfl, ex3.mut hd hd3, by rw [upd_same, List.map_append]; rfl, by rw [upd_ne npd]; exact hp3, nd_snoc nd3 hin, pre3.trans (List.prefix_append _ _), fun x hx => ?_, fun x hx ha => ?_⟩
            · rcases List.mem_append.mp hx with hx | hx
              · exact hre3 x hx
              · rw [List.mem_singleton.mp hx]; exact .step hy hzk haz
            · rcases List.mem_append.mp hx with hx | hx
              · exact List.mem_append.mpr (.inl (hz3 x hx ha))
              · exact List.mem_append.mpr (.inr hx)
          · walk_at "wx"
            refine ⟨fd, _, rfl, ex3, hd3, hp3, nd3, pre3, hre3, fun x hx ha => ?_⟩
            rcases List.mem_append.mp hx with hx | hx
            · exact hz3 x hx ha
            · rw [List.mem_singleton.mp hx]; exact hin
        · walk_at "wx"
          refine ⟨fd, _, rfl, ex3, hd3, hp3, nd3, pre3, hre3, fun x hx ha => ?_⟩
          rcases List.mem_append.mp hx with hx | hx
          · exact hz3 x hx ha
          · rw [List.mem_singleton.mp hx, haz] at ha; cases ha
      · rintro σ H3 ⟨fd, v, rfl, ex3, hd3, hp3, nd3, pre3, hre3, hz3⟩
        rw [List.length_map, List.take_length] at hz3
        obtain ⟨more, rfl⟩ := pre3
        walk_at "wx"
        refine ⟨mm - 1, by omega, found ++ more, j + 1, _, rfl, ex3, hd3, nd3, List.mem_append.mpr (.inl h0m), hre3, fun i hi x hx z hzt ha => ?_, by rw [List.length_append]; omega, by omega⟩
        by_cases e : i = j
        · subst e
          rw [List.getElem?_append_left hjl, List.getElem?_eq_getElem hjl] at hx
          cases hx
          exact hz3 z (TM.mem_keeps.mpr hzt) ha
        · have hij : i < j := by omega
          rw [List.getElem?_append_left (by omega)] at hx
          exact List.mem_append.mpr (.inl (hcl i hij x hx z hzt ha))
    · rw [List.length_map] at hge
      have hje : j = found.length := by omega
      walk_at "wx"
      refine x_sortN (SqL.of h1) nd fun p hp => ?_
      rw [TM.comeTo_eq hm0 h0m hre fun y hy z hzt ha => by
        obtain ⟨i, hi⟩ := List.getElem?_of_mem hy
        exact hcl i (by rw [hje]; exact (List.getElem?_eq_some_iff.mp hi).1) y hi z hzt ha]
      exact q p _ (ex1.back p hp) (ex1.newT hp) upd_same
def sp_Town_visit (T : Tx K mg base) : Sp := fun vs H Q _ => ∃ (A : TA) (F : Addr → Prop) (m : TM) (N : List Nat) (h door : Nat), vs = [.ref A.t, .int h, .int door] ∧ TownAt T H A F m ∧ m.Ok N ∧ h ∈ m.houses ∧ m.aw door = true ∧ NdefX.TabsN (tabsL T) H ∧
  ∀ p H', H p = none → Fr F H H' → H' p = some (.lst ((m.others h door).map nV)) → TownAt T H' A F (m.visit h door) → Q (.ref p) H'
theorem wc_Town_visit {N : List Nat} {h door : Nat} {i j : Int} (hi : i = h) (hj : j = door) (t : TownAt T H A F m) (k : m.Ok N) (hm : h ∈ m.houses) (hd : m.aw door = true) (tb : NdefX.TabsN (tabsL T) H)
    (q : ∀ p H', H p = none → Fr F H H' → H' p = some (.lst ((m.others h door).map nV)) → TownAt T H' A F (m.visit h door) → Q (.ref p) H') : sp_Town_visit T [.ref A.t, .int i, .int j] H Q E := by
  subst hi hj; exact ⟨A, F, m, N, h, door, rfl, t, k, hm, hd, tb, q⟩
theorem TM.others_mem {h door x : Nat} (hx : x ∈ m.others h door) : x ∈ m.houses ∧ x ≠ h := by
  unfold TM.others at hx
  have q := List.mem_filter.mp hx
  exact ⟨(TM.mem_comeTo.mp q.1).1, by simpa using q.2⟩
theorem ok_Town_visit (T : Tx K mg base) : FnOk P w K mg base CX0 6 T.a_Town_visit T.d_Town_visit ["self", "house", "door"] (sp_Town_visit T) := by
  refine T.F_Town_visit.okD sc_Town_visit (fun vs H Q E h => ?_) (fun cdv A outer s H vs Q E hr h => ?_)
  · obtain ⟨A, F, m, N, h0, door, rfl, _⟩ := h; rfl
  · obtain ⟨A1, F, m, N, h0, door, rfl, t, k, hm, hdo, hT, q⟩ := h
    obtain ⟨dx, ob⟩ := t.tw.ob
    have hu := hu_of hr
    have hz := k.houses_len
    have hcl : (m.comeTo door).length < 64 := Nat.lt_of_le_of_lt (nodup_len (rising_nodup TM.comeTo_sorted) fun x hx => (TM.mem_comeTo.mp hx).1) hz
    have c_Bucket := T.c_Bucket; have n_Bucket_room := T.n_Bucket_room; have n_Bucket_line := T.n_Bucket_line; have c_Table := T.c_Table; have n_Table_own := T.n_Table_own; have n_Table_wide := T.n_Table_wide; have n_Table_room := T.n_Table_room; have n_Table_buckets := T.n_Table_buckets; have c_Town := T.c_Town; have n_Town_wide := T.n_Town_wide; have n_Town_room := T.n_Town_room; have n_Town_tables := T.n_Town_tables; have n_Town_hushed := T.n_Town_hushed
    refine ⟨_, (pss_cons (ps_setLc (i := 3) (own := [("other", 4)]) (g := (gName 4)) (by rfl) sc_Town_visit.nd rfl rfl (sw_true rfl rfl rfl (by decide +kernel)) (pi_list (pe_meth (pv 0) T.c_Town T.t_Town_come_to (ok_Town_come_to T) (hr.mono (by decide)) T.b_Town_come_to .nil pass0 (pa_cons (pv 2) pa_nil))) (blkOk_by (N := N_Town_visit) (sc := defScope s_Town_visit) (own := [("other", 4)]) (by decide +kernel)) (fun _ _ _ _ _ => (pg_name (i := 4) sc_Town_visit.nd rfl (Or.inl rfl))) (fun _ _ _ _ _ => pts_one ((pt_cmpR op_ne (pv 4) (pv 1) (nomark _)))) (fun _ _ _ _ _ => (pv 4)))
      (pss_cons (ps_for PassesOwn.never rfl (pi_list (pv 3)) (pg_name (i := 4) sc_Town_visit.nd rfl (Or.inl rfl))
      (pss_cons (ps_expr (pe_meth (pv 0) T.c_Town T.t_Town_hears (ok_Town_hears T) hr T.b_Town_hears .nil pass0 (pa_cons (pv 1) (pa_cons (pv 4) pa_nil))))
      (pss_one (ps_expr (pe_meth (pv 0) T.c_Town T.t_Town_hears (ok_Town_hears T) hr T.b_Town_hears .nil pass0 (pa_cons (pv 4) (pa_cons (pv 1) pa_nil)))))))
      (pss_one (ps_ret (pv 3))))), ?_⟩
    rw [Nn.st_Town_visit]; try rw [Nn.cxK]
    try rw [Nn.cxW]
    walk_at "wx"
    refine wc_Town_come_to rfl t k hdo fun p1 H1 hp1 ex1 h1 => ?_
    walk_at "wx"
    refine LcW.filt (emb := nV) (xs := m.comeTo door) (fun x => !decide (x = h0)) (SqL.of h1) (by rw [sizeLine_eq]; omega) (fun x _ H2 ex2 R hR => ?_) (fun x _ _ H2 ex2 Qe hQ => ?_) fun p2 H2 hp2 ex2 h2 => ?_
    · walk_at "wx"
      have e : decide ((x : Int) = (h0 : Int)) = decide (x = h0) := decide_eq_decide.mpr ⟨fun z => Int.ofNat.inj z, fun z => by rw [z]⟩
      rw [e]
      exact hR _ Ex.refl
    · walk_at "wx"
      exact hQ
    have h2 : H2 p2 = some (.lst ((m.others h0 door).map nV)) := h2
    have ex02 := ex1.trans ex2
    have t2 := t.ex' ex02
    have hp20 : H p2 = none := ex1.back p2 hp2
    have nF : ¬ F p2 := fun z => t.ex p2 z hp20
    have ok : ∀ (l : List Nat), (∀ o ∈ l, o ∈ m.others h0 door) → (l.foldl (TM.meet h0) m).Ok N := fun l hl => k.fold (k.hN _ hm) fun o ho => k.hN _ (TM.others_mem (hl o ho)).1
    walk_at "wx"
    refine ForW.by walk_list (fun i σ H' => ∃ (v : Option V), σ = [some (.ref A1.t), some (.int h0), some (.int door), some (.ref p2), v] ∧ Fr F H H' ∧ H' p2 = some (.lst ((m.others h0 door).map nV)) ∧ TownAt T H' A1 F (((m.others h0 door).take i).foldl (TM.meet h0) m))
      ⟨_, rfl, ex02.fr, h2, t2⟩ (fun i σ H' _ ⟨_, _, _, e, _⟩ => SqL.of e) ?_ ?_
    · rintro i x σ _ H3 hi ⟨v, rfl, fr3, hp3, t3⟩ ⟨rfl, hx⟩
      rw [List.length_map] at hi
      obtain rfl : x = nV (m.others h0 door)[i] := by
        rw [List.getElem?_map, List.getElem?_eq_getElem hi] at hx
        exact (Option.some.inj hx).symm
      have et : (m.others h0 door).take (i + 1) = (m.others h0 door).take i ++ [(m.others h0 door)[i]] := by rw [List.take_add_one, List.getElem?_eq_getElem hi]; rfl
      have hom := TM.others_mem (List.getElem_mem hi)
      have k3 := ok ((m.others h0 door).take i) fun o ho => List.mem_of_mem_take ho
      rw [et, List.foldl_append]
      generalize (m.others h0 door)[i] = o at hom
      obtain ⟨dx3, ob3⟩ := t3.tw.ob
      have hh3 : (((m.others h0 door).take i).foldl (TM.meet h0) m).houses = m.houses := TM.fold_houses
      have hmo := k.hN _ hom.1
      have hmh := k.hN _ hm
      generalize ((m.others h0 door).take i).foldl (TM.meet h0) m = m3 at t3 k3 hh3 ⊢
      walk_at "wx"
      refine wc_Town_hears rfl rfl t3 k3 (by rw [hh3]; exact hm) hmo (Fr.tabs fr3 hT) fun z4 H4 fr4 t4 => ?_
      obtain ⟨dx4, ob4⟩ := t4.tw.ob
      have k4 := k3.hears (h := h0) hmo
      walk_at "wx"
      refine wc_Town_hears rfl rfl t4 k4 (by rw [TM.hears_houses, hh3]; exact hom.1) hmh (Fr.tabs fr4 (Fr.tabs fr3 hT)) fun z5 H5 fr5 t5 => ?_
      exact ⟨_, rfl, (fr3.trans fr4).trans fr5, fr5.at (fr4.at hp3 nF) nF, t5⟩
    · rintro σ H3 ⟨v, rfl, fr3, hp3, t3⟩
      rw [List.length_map, List.take_length] at t3
      walk_at "wx"
      exact q p2 H3 hp20 fr3 hp3 t3
/-- the places behind a coming -/
def TA.put (A : TA) (n : Nat) (p : Addr) (ls : List Addr) : TA := { A with pa := fun x => if x = n then p else A.pa x, la := fun x => if x = n then ls else A.la x }
theorem dOf_congr {hs : List Nat} {f g : Nat → V} (h : ∀ x ∈ hs, f x = g x) : dOf hs f = dOf hs g := List.map_congr_left fun x hx => by rw [h x hx]
theorem TM.add_aw {n d : Nat} (h : m.aw d = true) : (m.add n).aw d = true := by
  unfold TM.aw at h ⊢
  rw [Bool.and_eq_true] at h ⊢
  refine ⟨?_, h.2⟩
  rw [TM.add_houses]
  exact decide_eq_true (List.mem_append.mpr (.inl (of_decide_eq_true h.1)))
theorem TM.add_tab {n h : Nat} (hm : n ∉ m.houses) : (m.add n).tab h = if h = n then List.replicate m.wide [] else m.tab h := by
  unfold TM.tab TM.add
  show ((m.tabs ++ [(n, List.replicate m.wide [])]).lookup h).getD [] = _
  have key : ∀ {l : List (Nat × List (List Nat))}, n ∉ l.map (·.1) → (l ++ [(n, List.replicate m.wide [])]).lookup h = if h = n then some (List.replicate m.wide []) else l.lookup h := by
    intro l
    induction l with
    | nil =>
      intro _
      by_cases e : h = n
      · rw [if_pos e, e, List.nil_append, TM.lookup_eq]
      · rw [if_neg e, List.nil_append, TM.lookup_ne e]
    | cons p r ih =>
      intro hl
      obtain ⟨k, ys⟩ := p
      rw [List.map_cons, List.mem_cons, not_or] at hl
      rw [List.cons_append]
      by_cases e : h = k
      · subst e
        rw [TM.lookup_eq, if_neg (Ne.symm hl.1), TM.lookup_eq]
      · rw [TM.lookup_ne e, ih hl.2, TM.lookup_ne e]
  rw [key hm]
  by_cases e : h = n
  · rw [if_pos e, if_pos e]; rfl
  · rw [if_neg e, if_neg e]
noncomputable def TM.comes (m : TM) (n : Nat) : Option Nat → TM
  | none => m.add n
  | some door => (m.add n).visit n door
noncomputable def TM.told (m : TM) (n : Nat) : Option Nat → List Nat
  | none => []
  | some door => (m.add n).others n door
def sp_Town_come (T : Tx K mg base) : Sp := fun vs H Q _ => ∃ (A : TA) (F : Addr → Prop) (m : TM) (N : List Nat) (n : Nat) (door : Option Nat), vs = [.ref A.t, .int n, oN door] ∧ TownAt T H A F m ∧ m.Ok N ∧ n ∈ N ∧ n ∉ m.houses ∧ (∀ d, door = some d → m.aw d = true) ∧ NdefX.TabsN (tabsL T) H ∧
  ∀ p H' A' F', H p = none → Fr F H H' → H' p = some (.lst ((m.told n door).map nV)) → ¬ F' p → A'.t = A.t → (∀ a, F' a → F a ∨ H a = none) → TownAt T H' A' F' (m.comes n door) → Q (.ref p) H'
theorem wc_Town_come {N : List Nat} {n : Nat} {door : Option Nat} {i : Int} {v : V} (hi : i = n) (hv : v = oN door) (t : TownAt T H A F m) (k : m.Ok N) (hn : n ∈ N) (hm : n ∉ m.houses) (hd : ∀ d, door = some d → m.aw d = true) (tb : NdefX.TabsN (tabsL T) H)
    (q : ∀ p H' A' F', H p = none → Fr F H H' → H' p = some (.lst ((m.told n door).map nV)) → ¬ F' p → A'.t = A.t → (∀ a, F' a → F a ∨ H a = none) → TownAt T H' A' F' (m.comes n door) → Q (.ref p) H') : sp_Town_come T [.ref A.t, .int i, v] H Q E := by
  subst hi hv; exact ⟨A, F, m, N, n, door, rfl, t, k, hn, hm, hd, tb, q⟩
theorem ok_Town_come (T : Tx K mg base) : FnOk P w K mg base CX0 7 T.a_Town_come T.d_Town_come ["self", "name", "door"] (sp_Town_come T) := by
  refine T.F_Town_come.okD sc_Town_come (fun vs H Q E h => ?_) (fun cdv A outer s H vs Q E hr h => ?_)
  · obtain ⟨A, F, m, N, n, door, rfl, _⟩ := h; rfl
  · obtain ⟨A1, F, m, N, n, door, rfl, t, k, hn, hm, hdo, hT, q⟩ := h
    obtain ⟨dx, ob⟩ := t.tw.ob
    have hu := hu_of hr
    have td0 := t.tw.tb
    have e1 : (valV (dOf m.houses fun h => .ref (A1.pa h)) (Sum.inl (n : Int))).isSome = decide (n ∈ m.houses) := dOf_has
    have hhl := k.houses_len
    have c_Bucket := T.c_Bucket; have n_Bucket_room := T.n_Bucket_room; have n_Bucket_line := T.n_Bucket_line; have c_Table := T.c_Table; have n_Table_own := T.n_Table_own; have n_Table_wide := T.n_Table_wide; have n_Table_room := T.n_Table_room; have n_Table_buckets := T.n_Table_buckets; have c_Town := T.c_Town; have n_Town_wide := T.n_Town_wide; have n_Town_room := T.n_Town_room; have n_Town_tables := T.n_Town_tables; have n_Town_hushed := T.n_Town_hushed
    refine ⟨_, (pss_cons (ps_expr (pe_meth (pv 0) T.c_Town T.t_Town_look_named (ok_Town_look_named T) (hr.mono (by decide)) T.b_Town_look_named .nil pass0 (pa_cons (pv 1) pa_nil)))
      (pss_cons (ps_if (pt_cmp (pc_din hu (pv 1) (pe_fld (pv 0) rfl)))
      (pss_one ps_dead)
      pss_nil)
      (C8.pss_cut (ps_if (pt_cmpR op_notNn (pv 2) pe_non (nomark _))
      (pss_one (ps_expr (pe_meth (pv 0) T.c_Town T.t_Town_look_awake (ok_Town_look_awake T) (hr.mono (by decide)) T.b_Town_look_awake .nil pass0 (pa_cons (pv 2) pa_nil))))
      pss_nil)
      (pss_cons (ps_dput hu (pe_fld (pv 0) rfl) (pv 1) (pe_make T.M_Table (ok_Table_init T) (hr.mono (by decide)) rfl T.m_Table T.b_Table_init .nil pass0 (pa_cons (pv 1) (pa_cons (pe_fld (pv 0) rfl) (pa_cons (pe_fld (pv 0) rfl) pa_nil)))) rfl)
      (pss_cons (ps_if (pt_cmpR op_isNn (pv 2) pe_non (nomark _))
      (pss_one (ps_ret (pe_lst pa_nil)))
      pss_nil)
      (pss_one (ps_ret (pe_meth (pv 0) T.c_Town T.t_Town_visit (ok_Town_visit T) hr T.b_Town_visit .nil pass0 (pa_cons (pv 1) (pa_cons (pv 2) pa_nil)))))))))), ?_⟩
    rw [Nn.st_Town_come]; try rw [Nn.cxK]
    try rw [Nn.cxW]
    walk_at "wx"
    refine wc_Town_look_named rfl t k.w1 (k.nb _ hn) ?_
    walk_at "wx"
    rw [e1, decide_eq_false hm]
    walk_at "wx"
    refine x_cut (fun σ' H' => σ' = [some (.ref A1.t), some (.int n), some (oN door)] ∧ H' = H) ?_ ?_
    · cases door with
      | none =>
        have eo : oN none = .non := rfl
        rw [eo]
        walk_at "wx"
        exact ⟨rfl, rfl⟩
      | some d =>
        have eo : oN (some d) = nV d := rfl
        rw [eo]
        walk_at "wx"
        have hda := hdo d rfl
        refine wc_Town_look_awake rfl t k.w1 (k.bd (TM.aw_house hda)) hda ?_
        walk_at "wx"
        exact ⟨rfl, rfl⟩
    · rintro σ' H' ⟨rfl, rfl⟩
      walk_at "wx"
      refine x_make fun p dx1 H1 hp ex1 hp1 => ?_
      refine ⟨p, dx1, n, m.wide, m.room, rfl, hp1, k.w0, k.w1, k.r0, k.r1, fun ls H2 hls fr2 ta2 L2 own2 => ⟨rfl, ?_⟩⟩
      have ex2 := fr2.ex ex1 fun y z => by rw [z]; exact hp
      have t2 := t.ex' ex2
      obtain ⟨dx2, ob2⟩ := t2.tw.ob
      have td2 := t2.tw.tb
      have hb2 := t2.tw.hb
      walk_at "wx"
      refine x_dput td2 (by rw [sizeLine_eq, dOf_len]; omega) ?_
      have ea : ∀ x ∈ m.houses, (A1.put n p ls).pa x = A1.pa x := fun x hx => if_neg fun z => hm (by rw [← z]; exact hx)
      have el : ∀ x ∈ m.houses, (A1.put n p ls).la x = A1.la x := fun x hx => if_neg fun z => hm (by rw [← z]; exact hx)
      have ean : (A1.put n p ls).pa n = p := if_pos rfl
      have eln : (A1.put n p ls).la n = ls := if_pos rfl
      have ed : putK (dOf m.houses fun h => .ref (A1.pa h)) (Sum.inl (n : Int)) (.ref p) = dOf (m.add n).houses fun h => .ref ((A1.put n p ls).pa h) := by
        rw [TM.add_houses, dOf_congr (g := fun h => .ref ((A1.put n p ls).pa h)) fun x hx => by rw [ea x hx]]
        have q := dOf_new (f := fun h => V.ref ((A1.put n p ls).pa h)) hm
        rw [ean] at q
        exact q
      rw [ed]
      have fr3 := Fr.upd1 (o := .dK (dOf (m.add n).houses fun h => .ref ((A1.put n p ls).pa h))) td2
      have td3 := upd_same (H := H2) (a := A1.td) (o := .dK (dOf (m.add n).houses fun h => .ref ((A1.put n p ls).pa h)))
      generalize upd H2 A1.td (.dK (dOf (m.add n).houses fun h => .ref ((A1.put n p ls).pa h))) = H3 at fr3 td3 ⊢
      have soft2 : ∀ a, a = A1.td → Soft H2 a := fun a z => by rw [z]; exact Soft.dict td2
      have ta3 := ta2.soft fr3 soft2
      have own3 := (own2.soft ta2 fr3 soft2).live ta3
      have hp3 : H3 p ≠ none := by
        obtain ⟨dxp, _, _, hpo, _⟩ := ta3.ob
        rw [hpo]; exact fun z => by cases z
      have tne : A1.t ≠ A1.td := fun z => by rw [z, td2] at ob2; cases ob2
      have t3 : TownAt T H3 (A1.put n p ls) (fun a => F a ∨ (H' a = none ∧ H3 a ≠ none)) (m.add n) := by
        refine ⟨⟨⟨dx2, fr3.at ob2 tne⟩, td3, fr3.at hb2 t.ne.symm⟩, ⟨.inl t.ft.1, .inl t.ft.2.1, .inl t.ft.2.2⟩, fun h hh => ?_, fun h hh => ?_, fun h1 hh1 h2 hh2 hne l hl => ?_, fun a ha e => ?_, t.ne⟩
        · rw [TM.add_houses] at hh
          rw [TM.add_tab hm]
          rcases List.mem_append.mp hh with hh | hh
          · have nh : h ≠ n := fun z => hm (by rw [← z]; exact hh)
            rw [ea h hh, el h hh, if_neg nh]
            obtain ⟨a1, a2⟩ := t2.tab h hh
            exact ⟨a1.soft fr3 soft2, a2.fr fr3 fun l hl z => by
              obtain ⟨_, e⟩ := a2.is hl
              rw [z, td2] at e; cases e⟩
          · rw [List.mem_singleton.mp hh, ean, eln, if_pos rfl]
            exact ⟨ta3, L2.fr fr3 fun l hl z => by
              obtain ⟨_, e⟩ := L2.is hl
              rw [z, td2] at e; cases e⟩
        · rw [TM.add_houses] at hh
          rcases List.mem_append.mp hh with hh | hh
          · rw [ea h hh, el h hh]
            obtain ⟨o1, o2, o3⟩ := t2.own h hh
            exact ⟨.inl o1, (o2.soft (t2.tab h hh).1 fr3 soft2).mono fun a z => .inl z, fun l hl => .inl (o3 l hl)⟩
          · rw [List.mem_singleton.mp hh, ean, eln]
            refine ⟨.inr ⟨hp, hp3⟩, own3.mono fun a z => .inr ⟨ex1.back a z.1, z.2⟩, fun l hl => .inr ⟨ex1.back l (hls l hl), fun e => ?_⟩⟩
            obtain ⟨_, e2⟩ := L2.is hl
            have e3 := fr3.back l e
            rw [e2] at e3; cases e3
        · have old : ∀ {h l}, h ∈ m.houses → l ∈ A1.la h → l ∈ ls → False := fun {h l} hh hl hls' => by
            obtain ⟨_, e⟩ := (t.tab h hh).2.is hl
            have e2 := ex1.back l (hls l hls')
            rw [e] at e2; cases e2
          rw [TM.add_houses] at hh1 hh2
          rcases List.mem_append.mp hh1 with hh1 | hh1 <;> rcases List.mem_append.mp hh2 with hh2 | hh2
          · rw [el _ hh1] at hl; rw [el _ hh2]; exact t.dj _ hh1 _ hh2 hne l hl
          · rw [el _ hh1] at hl; rw [List.mem_singleton.mp hh2, eln]; exact old hh1 hl
          · rw [List.mem_singleton.mp hh1, eln] at hl; rw [el _ hh2]; exact fun z => old hh2 z hl
          · exact absurd ((List.mem_singleton.mp hh1).trans (List.mem_singleton.mp hh2).symm) hne
        · rcases ha with ha | ha
          · exact t.ex a ha (ex2.back a (fr3.back a e))
          · exact ha.2 e
      have fr03 : Fr F H' H3 := (ex2.fr (S := F)).trans (fr3.mono fun a z => by rw [z]; exact t.ft.2.1)
      have hF : ∀ a, (F a ∨ (H' a = none ∧ H3 a ≠ none)) → F a ∨ H' a = none := fun a z => z.imp id (·.1)
      generalize hF'd : (fun a => F a ∨ (H' a = none ∧ H3 a ≠ none)) = F' at t3
      have hF : ∀ a, F' a → F a ∨ H' a = none := fun a z => hF a (by rw [← hF'd] at z; exact z)
      have hT3 := Fr.tabs fr03 hT
      clear own3 own2 ta3 ta2 L2 fr2 hls
      obtain ⟨dx3, ob3⟩ := t3.tw.ob
      have et : (A1.put n p ls).t = A1.t := rfl
      rw [et] at ob3
      cases door with
      | none =>
        have eo : oN none = .non := rfl
        rw [eo]
        walk_at "wx"
        refine ⟨len_ok rfl, fun r hr => ?_⟩
        exact q r _ (A1.put n p ls) F' (fr03.back r hr) (fr03.trans (Ex.new hr).fr) upd_same (fun z => t3.ex r z hr) rfl hF (t3.ex' (Ex.new hr))
      | some d =>
        have eo : oN (some d) = nV d := rfl
        rw [eo]
        walk_at "wx"
        have hn' : n ∈ (m.add n).houses := by rw [TM.add_houses]; simp
        refine wc_Town_visit (A := A1.put n p ls) rfl rfl t3 (k.add hm hn) hn' (TM.add_aw (hdo d rfl)) hT3 fun r H4 hr fr4 hr4 t4 => ?_
        exact q r H4 (A1.put n p ls) F' (fr03.back r hr) (fr03.trans2 fr4 hF) hr4 (fun z => t3.ex r z hr) rfl hF t4
def TM.new (wide room : Nat) : TM := ⟨wide, room, [], []⟩
def sp_Town_init (T : Tx K mg base) : Sp := fun vs H Q _ => ∃ (t dx : Addr) (wide room : Nat), vs = [.ref t, .int wide, .int room] ∧ H t = some (.ins T.C_Town dx []) ∧ 0 < wide ∧ wide ≤ 60 ∧ 0 < room ∧ room ≤ 8 ∧
  ∀ (A : TA) (H' : Hp) (F : Addr → Prop), A.t = t → (∀ a, F a → a = t ∨ H a = none) → Fr (fun a => a = t) H H' → TownAt T H' A F (TM.new wide room) → Q .non H'
theorem ok_Town_init (T : Tx K mg base) : FnOk P w K mg base CX0 2 T.a_Town_init T.d_Town_init ["self", "wide", "room"] (sp_Town_init T) := by
  refine T.F_Town_init.okD sc_Town_init (fun vs H Q E h => ?_) (fun cdv A outer s H vs Q E hr h => ?_)
  · obtain ⟨p, dx, wide, room, rfl, _⟩ := h; rfl
  · obtain ⟨p, dx, wide, room, rfl, hp, w0, w1, r0, r1, q⟩ := h
    have c_Bucket := T.c_Bucket; have n_Bucket_room := T.n_Bucket_room; have n_Bucket_line := T.n_Bucket_line; have c_Table := T.c_Table; have n_Table_own := T.n_Table_own; have n_Table_wide := T.n_Table_wide; have n_Table_room := T.n_Table_room; have n_Table_buckets := T.n_Table_buckets; have c_Town := T.c_Town; have n_Town_wide := T.n_Town_wide; have n_Town_room := T.n_Town_room; have n_Town_tables := T.n_Town_tables; have n_Town_hushed := T.n_Town_hushed
    refine ⟨_, (pss_cons (ps_if (PW.pt (pw_or (pt_not (pt_val (pe_call (ok_is_size T) hr rfl T.m_is_size T.F_is_size.kp T.b_is_size .nil pass0 (pa_cons (pv 1) (pa_cons (pe_glob (v := .int 60) rfl T.m_MOST_WIDE ⟨_, rfl⟩) pa_nil))))) (pw_or1 (pt_not (pt_val (pe_call (ok_is_size T) hr rfl T.m_is_size T.F_is_size.kp T.b_is_size .nil pass0 (pa_cons (pv 2) (pa_cons (pe_glob (v := .int 8) rfl T.m_MOST_ROOM ⟨_, rfl⟩) pa_nil))))))))
      (pss_one ps_dead)
      pss_nil)
      (pss_cons (ps_fld (pv 0) (pv 1) rfl)
      (pss_cons (ps_fld (pv 0) (pv 2) rfl)
      (pss_cons (ps_fld (pv 0) pe_dnewK rfl)
      (pss_one (ps_fld (pv 0) pe_dnewK rfl)))))), ?_⟩
    rw [Nn.st_Town_init]; try rw [Nn.cxK]
    try rw [Nn.cxW]
    walk_at "wx"
    have e1 : decide (1 ≤ wide ∧ wide ≤ 60) = true := decide_eq_true ⟨w0, w1⟩
    have e2 : decide (1 ≤ room ∧ room ≤ 8) = true := decide_eq_true ⟨r0, r1⟩
    rw [e1]
    walk_at "wx"
    rw [e2]
    walk_at "wx"
    refine x_dnew fun td htd => ?_
    have f2 := (Fr.upd1 (o := .ins T.C_Town dx [("wide", .int wide)]) hp).trans (Fr.upd1 (o := .ins T.C_Town dx [("wide", .int wide), ("room", .int room)]) upd_same)
    have hp2 := upd_same (H := upd H p (.ins T.C_Town dx [("wide", .int wide)])) (a := p) (o := .ins T.C_Town dx [("wide", .int wide), ("room", .int room)])
    generalize upd (upd H p (.ins T.C_Town dx [("wide", .int wide)])) p (.ins T.C_Town dx [("wide", .int wide), ("room", .int room)]) = H2 at f2 hp2 htd ⊢
    have hp3 := at_new (o := .dK []) htd hp2
    have ex3 := Ex.new (o := .dK []) htd
    have td3 := upd_same (H := H2) (a := td) (o := .dK [])
    have ntd := ne_of_none hp2 htd
    generalize upd H2 td (.dK []) = H3 at hp3 ex3 td3 ⊢
    walk_at "wx"
    refine x_dnew fun hd hhd => ?_
    have f4 := Fr.upd1 (o := .ins T.C_Town dx [("wide", .int wide), ("room", .int room), ("tables", .ref td)]) hp3
    have hp4 := upd_same (H := H3) (a := p) (o := .ins T.C_Town dx [("wide", .int wide), ("room", .int room), ("tables", .ref td)])
    have td4 := f4.at td3 ntd.symm
    generalize upd H3 p (.ins T.C_Town dx [("wide", .int wide), ("room", .int room), ("tables", .ref td)]) = H4 at f4 hp4 td4 hhd ⊢
    have hp5 := at_new (o := .dK []) hhd hp4
    have ex5 := Ex.new (o := .dK []) hhd
    have td5 := ex5.at td4
    have hd5 := upd_same (H := H4) (a := hd) (o := .dK [])
    have nhd := ne_of_none hp4 hhd
    have nth := ne_of_none td4 hhd
    generalize upd H4 hd (.dK []) = H5 at hp5 ex5 td5 hd5 ⊢
    walk_at "wx"
    have f6 := Fr.upd1 (o := .ins T.C_Town dx [("wide", .int wide), ("room", .int room), ("tables", .ref td), ("hushed", .ref hd)]) hp5
    have fall : Fr (fun a => a = p) H (upd H5 p (.ins T.C_Town dx [("wide", .int wide), ("room", .int room), ("tables", .ref td), ("hushed", .ref hd)])) := (((f2.trans ex3.fr).trans f4).trans ex5.fr).trans f6
    refine q ⟨p, td, hd, fun _ => 0, fun _ => []⟩ _ (fun a => a = p ∨ a = td ∨ a = hd) rfl (fun a z => ?_) fall ⟨⟨⟨dx, upd_same⟩, f6.at td5 ntd.symm, f6.at hd5 nhd.symm⟩, ⟨.inl rfl, .inr (.inl rfl), .inr (.inr rfl)⟩, fun h hh => absurd hh (by simp [TM.new, TM.houses]), fun h hh => absurd hh (by simp [TM.new, TM.houses]), fun h hh => absurd hh (by simp [TM.new, TM.houses]), fun a z e => ?_, nth⟩
    · rcases z with z | z | z
      · exact .inl z
      · rw [z]; exact .inr (f2.back td htd)
      · rw [z]; exact .inr (f2.back hd (ex3.back hd (f4.back hd hhd)))
    · rcases z with z | z | z <;> rw [z] at e
      · rw [upd_same] at e; cases e
      · rw [f6.at td5 ntd.symm] at e; cases e
      · rw [f6.at hd5 nhd.symm] at e; cases e
end
end Nn
/-! the laws' helpers: mixed numbers, sizes, names near one another -/
namespace Nn
open PySem L2
section
variable {P : Program} {w : World} {K : PySem.W.Frag} {mg : Str → Option Value} {base : Heap} {H : Hp} {Q : VK} {E : XK}
def sp_l_mixed (_ : Tx K mg base) : Sp := fun vs H Q E => ∃ (c : Nat) (k : Nat), vs = [.int c, .int k] ∧ (k ≤ 1000) ∧ (∀ r : Nat, r < 2 ^ 31 → Q (.int r) H)
theorem wc_l_mixed {T : Tx K mg base} {c : Nat} {k : Nat} {i0 : Int} {i1 : Int} (e0 : i0 = c) (e1 : i1 = k) (c0 : k ≤ 1000) (h : ∀ r : Nat, r < 2 ^ 31 → Q (.int r) H) : sp_l_mixed T [.int i0, .int i1] H Q E := by
  subst e0 e1
  exact ⟨c, k, rfl, c0, h⟩
theorem ok_l_mixed (T : Tx K mg base) : FnOk P w K mg base CX0 1 T.a_l_mixed T.d_l_mixed ["_law_cell", "_law_k"] (sp_l_mixed T) := by
  refine T.F_l_mixed.okD sc_l_mixed (fun vs H Q E h => ?_) (fun cdv A outer s H vs Q E hr h => ?_)
  · obtain ⟨c, k, rfl, hpre, q⟩ := h; rfl
  · obtain ⟨c, k, rfl, hpre, q⟩ := h
    have hu := hu_of hr
    have c_Bucket := T.c_Bucket; have n_Bucket_room := T.n_Bucket_room; have n_Bucket_line := T.n_Bucket_line; have c_Table := T.c_Table; have n_Table_own := T.n_Table_own; have n_Table_wide := T.n_Table_wide; have n_Table_room := T.n_Table_room; have n_Table_buckets := T.n_Table_buckets; have c_Town := T.c_Town; have n_Town_wide := T.n_Town_wide; have n_Town_room := T.n_Town_room; have n_Town_tables := T.n_Town_tables; have n_Town_hushed := T.n_Town_hushed
    refine ⟨_, (pss_one (ps_ret (pe_op op_fdivW (pe_op op_mod (pe_op op_add (pe_op op_add (pe_op op_add (pe_op op_mul (pe_op op_mod (pv 0) pe_int) pe_int) (pe_op op_mul (pe_op op_mul pe_int (pv 1)) (pv 1))) (pe_op op_mul pe_int (pv 1))) pe_int) pe_int) pe_int))), ?_⟩
    rw [Nn.st_l_mixed]; try rw [Nn.cxK]
    try rw [Nn.cxW]
    walk_at "wx"
    have h0 : (0 : Int) ≤ ((c : Int) % 2147483629 * 48271 + 69621 * (k : Int) * (k : Int) + 16807 * (k : Int) + 11) % 2147483647 / 7 := Int.ediv_nonneg (Int.emod_nonneg _ (by decide)) (by decide)
    have h1 := Int.emod_lt_of_pos ((c : Int) % 2147483629 * 48271 + 69621 * (k : Int) * (k : Int) + 16807 * (k : Int) + 11) (by decide : (0 : Int) < 2147483647)
    generalize ((c : Int) % 2147483629 * 48271 + 69621 * (k : Int) * (k : Int) + 16807 * (k : Int) + 11) % 2147483647 = z at h0 h1 ⊢
    obtain ⟨r, hr⟩ := Int.eq_ofNat_of_zero_le h0
    rw [hr]
    exact q r (by omega)
def sp_l_wide (_ : Tx K mg base) : Sp := fun vs H Q E => ∃ (c : Nat), vs = [.int c] ∧ (∀ (wd : Nat) H', 1 ≤ wd → wd ≤ 60 → Ex H H' → Q (.int wd) H')
theorem wc_l_wide {T : Tx K mg base} {c : Nat} {i0 : Int} (e0 : i0 = c)  (h : ∀ (wd : Nat) H', 1 ≤ wd → wd ≤ 60 → Ex H H' → Q (.int wd) H') : sp_l_wide T [.int i0] H Q E := by
  subst e0
  exact ⟨c, rfl, h⟩
theorem ok_l_wide (T : Tx K mg base) : FnOk P w K mg base CX0 1 T.a_l_wide T.d_l_wide ["_law_cell"] (sp_l_wide T) := by
  refine T.F_l_wide.okD sc_l_wide (fun vs H Q E h => ?_) (fun cdv A outer s H vs Q E hr h => ?_)
  · obtain ⟨c, rfl, q⟩ := h; rfl
  · obtain ⟨c, rfl, q⟩ := h
    have hu := hu_of hr
    have c_Bucket := T.c_Bucket; have n_Bucket_room := T.n_Bucket_room; have n_Bucket_line := T.n_Bucket_line; have c_Table := T.c_Table; have n_Table_own := T.n_Table_own; have n_Table_wide := T.n_Table_wide; have n_Table_room := T.n_Table_room; have n_Table_buckets := T.n_Table_buckets; have c_Town := T.c_Town; have n_Town_wide := T.n_Town_wide; have n_Town_room := T.n_Town_room; have n_Town_tables := T.n_Town_tables; have n_Town_hushed := T.n_Town_hushed
    refine ⟨_, (pss_one (ps_ret (pe_ix ix_list (pe_lst (pa_cons (pe_op op_add pe_int (pe_op op_mod (pe_op op_fdivW (pv 0) pe_int) pe_int)) (pa_cons (pe_op op_add pe_int (pe_op op_mod (pe_op op_fdivW (pv 0) pe_int) pe_int)) (pa_cons pe_int (pa_cons (pe_op op_add pe_int (pe_op op_mod (pe_op op_fdivW (pv 0) pe_int) pe_int)) pa_nil))))) (pe_op op_mod (pv 0) pe_int) (fun _ _ => rfl)))), ?_⟩
    rw [Nn.st_l_wide]; try rw [Nn.cxK]
    try rw [Nn.cxW]
    walk_at "wx"
    refine ⟨len_ok rfl, fun p hp => ?_⟩
    have hp1 := upd_same (H := H) (a := p) (o := .lst [V.int (1 + (c : Int) / 4 % 60), V.int (3 + (c : Int) / 4 % 4), V.int 4, V.int (1 + (c : Int) / 4 % 8)])
    have ex := Ex.new (o := .lst [V.int (1 + (c : Int) / 4 % 60), V.int (3 + (c : Int) / 4 % 4), V.int 4, V.int (1 + (c : Int) / 4 % 8)]) hp
    generalize upd H p (.lst [V.int (1 + (c : Int) / 4 % 60), V.int (3 + (c : Int) / 4 % 4), V.int 4, V.int (1 + (c : Int) / 4 % 8)]) = H1 at hp1 ex ⊢
    walk_at "wx"
    have hc : (c : Int) % 4 = 0 ∨ (c : Int) % 4 = 1 ∨ (c : Int) % 4 = 2 ∨ (c : Int) % 4 = 3 := by omega
    have fin : ∀ z : Int, 1 ≤ z → z ≤ 60 → Q (.int z) H1 := fun z h1 h2 => by
      obtain ⟨r, rfl⟩ := Int.eq_ofNat_of_zero_le (by omega : 0 ≤ z)
      exact q r H1 (by omega) (by omega) ex
    rcases hc with e | e | e | e <;> rw [e]
    · exact x_ixL (SqL.of hp1) (by rfl) (fin _ (by omega) (by omega))
    · exact x_ixL (SqL.of hp1) (by rfl) (fin _ (by omega) (by omega))
    · exact x_ixL (SqL.of hp1) (by rfl) (fin _ (by omega) (by omega))
    · exact x_ixL (SqL.of hp1) (by rfl) (fin _ (by omega) (by omega))
def sp_l_near (_ : Tx K mg base) : Sp := fun vs H Q E => ∃ (s : Nat) (wd : Nat) (f : Nat), vs = [.int s, .int wd, .int f] ∧ (wd ≤ 60) ∧ (∀ r : Nat, r < 2 ^ wd → Q (.int r) H)
theorem wc_l_near {T : Tx K mg base} {s : Nat} {wd : Nat} {f : Nat} {i0 : Int} {i1 : Int} {i2 : Int} (e0 : i0 = s) (e1 : i1 = wd) (e2 : i2 = f) (c0 : wd ≤ 60) (h : ∀ r : Nat, r < 2 ^ wd → Q (.int r) H) : sp_l_near T [.int i0, .int i1, .int i2] H Q E := by
  subst e0 e1 e2
  exact ⟨s, wd, f, rfl, c0, h⟩
theorem ok_l_near (T : Tx K mg base) : FnOk P w K mg base CX0 1 T.a_l_near T.d_l_near ["_law_signs", "_law_wide_here", "_law_first"] (sp_l_near T) := by
  refine T.F_l_near.okD sc_l_near (fun vs H Q E h => ?_) (fun cdv A outer s H vs Q E hr h => ?_)
  · obtain ⟨s, wd, f, rfl, hpre, q⟩ := h; rfl
  · obtain ⟨s, wd, f, rfl, hpre, q⟩ := h
    have hu := hu_of hr
    have c_Bucket := T.c_Bucket; have n_Bucket_room := T.n_Bucket_room; have n_Bucket_line := T.n_Bucket_line; have c_Table := T.c_Table; have n_Table_own := T.n_Table_own; have n_Table_wide := T.n_Table_wide; have n_Table_room := T.n_Table_room; have n_Table_buckets := T.n_Table_buckets; have c_Town := T.c_Town; have n_Town_wide := T.n_Town_wide; have n_Town_room := T.n_Town_room; have n_Town_tables := T.n_Town_tables; have n_Town_hushed := T.n_Town_hushed
    refine ⟨_, (pss_cons (ps_if (pt_cmpR op_eq (pe_op op_mod (pv 0) pe_int) pe_int (nomark _))
      (pss_one (ps_ret (pe_op op_mod (pe_op op_fdivW (pv 0) pe_int) (pe_op op_shl1 pe_int (pv 1)))))
      pss_nil)
      (pss_one (ps_ret (pe_op op_mod (pe_op op_xorN (pv 2) (pe_op op_mod (pe_op op_fdivW (pv 0) pe_int) pe_int)) (pe_op op_shl1 pe_int (pv 1)))))), ?_⟩
    rw [Nn.st_l_near]; try rw [Nn.cxK]
    try rw [Nn.cxW]
    walk_at "wx"
    refine x_ifD (fun _ => ?_) fun _ => ?_
    · walk_at "wx"
      obtain ⟨r, hr1, e⟩ := mod_two_lt (z := (s : Int) / 2) (k := wd)
      rw [e]
      exact q r hr1
    · walk_at "wx"
      obtain ⟨r, hr1, e⟩ := mod_two_lt (z := ((f ^^^ s / 2 % Int.natAbs 16 : Nat) : Int)) (k := wd)
      rw [e]
      exact q r hr1
end
end Nn
/-! the law's own model of a town -/
namespace Nn
open PySem L2
section
variable {P : Program} {w : World} {K : PySem.W.Frag} {mg : Str → Option Value} {base : Heap} {H H' : Hp} {Q : VK} {E : XK}
/-- where the model's things lie; the keys of each table -/
structure MA where
  md : Addr
  mt : Addr
  mq : Addr
  ma : Nat → Addr
  ra : Nat → Nat → Addr
  kl : Nat → List Nat
def modD (B : MA) (room : Nat) (ext : List (Key × V)) : List (Key × V) := (.inr ("tables" : Str), .ref B.mt) :: (.inr ("quiet" : Str), .ref B.mq) :: (.inr ("room" : Str), nV room) :: ext
theorem modD_t {B : MA} {room : Nat} {ext : List (Key × V)} : valV (modD B room ext) (.inr ("tables" : Str)) = some (.ref B.mt) := valV_pos rfl
theorem modD_q {B : MA} {room : Nat} {ext : List (Key × V)} : valV (modD B room ext) (.inr ("quiet" : Str)) = some (.ref B.mq) := by
  unfold modD
  rw [valV_neg (by intro z; have := Sum.inr.inj z; revert this; decide +kernel), valV_pos rfl]
theorem modD_r {B : MA} {room : Nat} {ext : List (Key × V)} : valV (modD B room ext) (.inr ("room" : Str)) = some (nV room) := by
  unfold modD
  rw [valV_neg (by intro z; have := Sum.inr.inj z; revert this; decide +kernel), valV_neg (by intro z; have := Sum.inr.inj z; revert this; decide +kernel), valV_pos rfl]
/-- the model lies at B -/
structure ModAt (H : Hp) (B : MA) (G : Addr → Prop) (m : TM) (ext : List (Key × V)) : Prop where
  md : H B.md = some (.dK (modD B m.room ext))
  mt : Rd H B.mt (.dK (dOf m.houses fun h => .ref (B.ma h)))
  mq : H B.mq = some (.dK (dOf m.hush fun _ => .bl true))
  ma : ∀ h ∈ m.houses, H (B.ma h) = some (.dK (dOf (B.kl h) fun k => .ref (B.ra h k)))
  ra : ∀ h ∈ m.houses, ∀ k ∈ B.kl h, H (B.ra h k) = some (.lst (((m.tab h).getD k []).map nV))
  kl : ∀ h ∈ m.houses, (B.kl h).Nodup ∧ (∀ k ∈ B.kl h, k < m.wide) ∧ ∀ k, k ∉ B.kl h → (m.tab h).getD k [] = []
  gg : G B.md ∧ G B.mt ∧ G B.mq ∧ ∀ h ∈ m.houses, G (B.ma h) ∧ ∀ k ∈ B.kl h, G (B.ra h k)
  dj : B.mt ≠ B.mq ∧ B.mt ≠ B.md ∧ B.mq ≠ B.md ∧ (∀ h ∈ m.houses, B.ma h ≠ B.mt ∧ B.ma h ≠ B.mq ∧ B.ma h ≠ B.md) ∧ ∀ h1 ∈ m.houses, ∀ h2 ∈ m.houses, h1 ≠ h2 → B.ma h1 ≠ B.ma h2
  ex : ∀ a, G a → H a ≠ none
variable {T : Tx K mg base} {B : MA} {G S : Addr → Prop} {m : TM} {ext : List (Key × V)}
theorem ModAt.fr (t : ModAt H B G m ext) (f : Fr S H H') (h : ∀ a, S a → ¬ G a) : ModAt H' B G m ext := by
  have no : ∀ {a : Addr}, G a → ¬ S a := fun x y => h _ y x
  obtain ⟨g1, g2, g3, g4⟩ := t.gg
  exact ⟨f.at t.md (no g1), Rd.fr t.mt f (no g2), f.at t.mq (no g3), fun x hx => f.at (t.ma x hx) (no (g4 x hx).1), fun x hx k hk => f.at (t.ra x hx k hk) (no ((g4 x hx).2 k hk)), t.kl, t.gg, t.dj, fun a ha e => t.ex a ha (f.back a e)⟩
theorem ModAt.ex' (t : ModAt H B G m ext) (f : Ex H H') : ModAt H' B G m ext := t.fr f fun _ z => z.elim
/-- the houses are walked: their dict is locked -/
theorem ModAt.lock (t : ModAt H B G m ext) {od : Obj} (h : H B.mt = some (.dK (dOf m.houses fun h => .ref (B.ma h)))) : ModAt (upd H B.mt (.frz od (.dK (dOf m.houses fun h => .ref (B.ma h))))) B G m ext := by
  have f := Fr.upd1 (o := .frz od (.dK (dOf m.houses fun h => .ref (B.ma h)))) h
  obtain ⟨d1, d2, d3, d4, d5⟩ := t.dj
  refine ⟨f.at t.md d2.symm, .inr ⟨od, upd_same⟩, f.at t.mq d1.symm, fun x hx => f.at (t.ma x hx) (d4 x hx).1, fun x hx k hk => f.at (t.ra x hx k hk) fun z => ?_, t.kl, t.gg, t.dj, fun a ha e => t.ex a ha (f.back a e)⟩
  have e := t.ra x hx k hk
  rw [z, h] at e; cases e
def sp_l_awake (_ : Tx K mg base) : Sp := fun vs H Q _ => ∃ (B : MA) (G : Addr → Prop) (m : TM) (ext : List (Key × V)) (n : Nat), vs = [.ref B.md, .int n] ∧ ModAt H B G m ext ∧ Q (.bl (m.aw n)) H
theorem wc_l_awake {n : Nat} {i : Int} (hi : i = n) (t : ModAt H B G m ext) (q : Q (.bl (m.aw n)) H) : sp_l_awake T [.ref B.md, .int i] H Q E := by
  subst hi; exact ⟨B, G, m, ext, n, rfl, t, q⟩
theorem ok_l_awake (T : Tx K mg base) : FnOk P w K mg base CX0 1 T.a_l_awake T.d_l_awake ["_law_model", "_law_name_here"] (sp_l_awake T) := by
  refine T.F_l_awake.okD sc_l_awake (fun vs H Q E h => ?_) (fun cdv A outer s H vs Q E hr h => ?_)
  · obtain ⟨B, G, m, ext, n, rfl, _⟩ := h; rfl
  · obtain ⟨B, G, m, ext, n, rfl, t, q⟩ := h
    have hu := hu_of hr
    have md := t.md
    have mt := t.mt
    have mq := t.mq
    have et := modD_t (B := B) (room := m.room) (ext := ext)
    have eq := modD_q (B := B) (room := m.room) (ext := ext)
    have e1 : (valV (dOf m.houses fun h => .ref (B.ma h)) (Sum.inl (n : Int))).isSome = decide (n ∈ m.houses) := dOf_has
    have e2 : (valV (dOf m.hush fun _ => .bl true) (Sum.inl (n : Int))).isSome = decide (n ∈ m.hush) := dOf_has
    have c_Bucket := T.c_Bucket; have n_Bucket_room := T.n_Bucket_room; have n_Bucket_line := T.n_Bucket_line; have c_Table := T.c_Table; have n_Table_own := T.n_Table_own; have n_Table_wide := T.n_Table_wide; have n_Table_room := T.n_Table_room; have n_Table_buckets := T.n_Table_buckets; have c_Town := T.c_Town; have n_Town_wide := T.n_Town_wide; have n_Town_room := T.n_Town_room; have n_Town_tables := T.n_Town_tables; have n_Town_hushed := T.n_Town_hushed
    refine ⟨_, (pss_one (ps_ret (pe_and (pe_cmp (pc_din hu (pv 1) (pe_dget hu (pv 0) pe_str (fun _ _ => rfl)))) (pe_one (pe_cmp (pc_dnotin hu (pv 1) (pe_dget hu (pv 0) pe_str (fun _ _ => rfl)))))))), ?_⟩
    rw [Nn.st_l_awake]; try rw [Nn.cxK]
    try rw [Nn.cxW]
    walk_at "wx"
    rw [e1]
    unfold TM.aw at q
    refine x_iteB (fun h => ?_) fun h => ?_
    · walk_at "wx"
      rw [e2]
      rw [h, Bool.true_and] at q
      exact q
    · rw [h, Bool.false_and] at q
      exact q
theorem kl_flat {own wide room : Nat} {S : Nat → Prop} {xss : List (List Nat)} (t : TabOk own wide room S xss) {ks : List Nat} (nd : ks.Nodup) (h0 : ∀ k, k ∉ ks → xss.getD k [] = []) :
    ((ks.map fun k => xss.getD k []).flatten).Nodup ∧ ∀ x, x ∈ (ks.map fun k => xss.getD k []).flatten ↔ x ∈ xss.flatten := by
  have row : ∀ k x, x ∈ xss.getD k [] → ∃ ys, xss[k]? = some ys ∧ x ∈ ys := fun k x hx => by
    rw [List.getD_eq_getElem?_getD] at hx
    cases e : xss[k]? with
    | none => rw [e] at hx; cases hx
    | some ys => rw [e] at hx; exact ⟨ys, rfl, hx⟩
  constructor
  · refine List.pairwise_flatten.mpr ⟨fun xs hx => ?_, List.pairwise_map.mpr (nd.imp fun {a b} hab => ?_)⟩
    · obtain ⟨k, _, rfl⟩ := List.mem_map.mp hx
      show (xss.getD k []).Nodup
      rw [List.getD_eq_getElem?_getD]
      cases e : xss[k]? with
      | none => exact List.nodup_nil
      | some ys => exact (t.at_ k ys e).1
    · intro x hx y hy e
      obtain ⟨ys, e1, m1⟩ := row a x hx
      obtain ⟨zs, e2, m2⟩ := row b y hy
      have s1 := ((t.at_ a ys e1).2.2 x m1).2.1
      have s2 := ((t.at_ b zs e2).2.2 y m2).2.1
      exact hab (by rw [← s1, ← s2, e])
  · intro x
    constructor
    · intro hx
      obtain ⟨l, hl, hxl⟩ := List.mem_flatten.mp hx
      obtain ⟨k, _, rfl⟩ := List.mem_map.mp hl
      obtain ⟨ys, e1, m1⟩ := row k x hxl
      exact List.mem_flatten.mpr ⟨ys, List.mem_of_getElem? e1, m1⟩
    · intro hx
      obtain ⟨l, hl, hxl⟩ := List.mem_flatten.mp hx
      obtain ⟨k, hk⟩ := List.getElem?_of_mem hl
      have e : xss.getD k [] = l := by rw [List.getD_eq_getElem?_getD, hk]; rfl
      refine List.mem_flatten.mpr ⟨xss.getD k [], List.mem_map.mpr ⟨k, ?_, rfl⟩, by rw [e]; exact hxl⟩
      by_cases q : k ∈ ks
      · exact q
      · rw [h0 k q] at e; rw [← e] at hxl; cases hxl
def sp_l_keeps (_ : Tx K mg base) : Sp := fun vs H Q _ => ∃ (B : MA) (G : Addr → Prop) (m : TM) (N : List Nat) (ext : List (Key × V)) (n : Nat), vs = [.ref B.md, .int n] ∧ ModAt H B G m ext ∧ m.Ok N ∧ n ∈ m.houses ∧ ∀ p H', H p = none → Ex H H' → H' p = some (.lst ((m.keeps n).map nV)) → Q (.ref p) H'
theorem wc_l_keeps {N : List Nat} {n : Nat} {i : Int} (hi : i = n) (t : ModAt H B G m ext) (k : m.Ok N) (hm : n ∈ m.houses) (q : ∀ p H', H p = none → Ex H H' → H' p = some (.lst ((m.keeps n).map nV)) → Q (.ref p) H') : sp_l_keeps T [.ref B.md, .int i] H Q E := by
  subst hi; exact ⟨B, G, m, N, ext, n, rfl, t, k, hm, q⟩
theorem ok_l_keeps (T : Tx K mg base) : FnOk P w K mg base CX0 1 T.a_l_keeps T.d_l_keeps ["_law_model", "_law_house"] (sp_l_keeps T) := by
  refine T.F_l_keeps.okD sc_l_keeps (fun vs H Q E h => ?_) (fun cdv A outer s H vs Q E hr h => ?_)
  · obtain ⟨B, G, m, N, ext, n, rfl, _⟩ := h; rfl
  · obtain ⟨B, G, m, N, ext, n, rfl, t, k, hm, q⟩ := h
    have hu := hu_of hr
    have et := modD_t (B := B) (room := m.room) (ext := ext)
    have en : valV (dOf m.houses fun h => .ref (B.ma h)) (Sum.inl (n : Int)) = some (.ref (B.ma n)) := by
      have q := dOf_val (f := fun h => V.ref (B.ma h)) (n := n) (hs := m.houses)
      rw [if_pos hm] at q; exact q
    obtain ⟨d1, d2, d3, d4, d5⟩ := t.dj
    obtain ⟨k1, k2, k3⟩ := t.kl n hm
    obtain ⟨f1, f2⟩ := kl_flat (k.tabOk hm) k1 k3
    have hkw : (B.kl n).length ≤ 60 := by
      have q := nodup_len (a := B.kl n) (b := List.range m.wide) k1 fun x hx => List.mem_range.mpr (k2 x hx)
      rw [List.length_range] at q
      exact Nat.le_trans q k.w1
    have hfl : ((B.kl n).map fun k => (m.tab n).getD k []).flatten.length < 64 := Nat.lt_of_le_of_lt (nodup_len f1 fun x hx => (f2 x).mp hx) (k.keeps_len hm)
    have c_Bucket := T.c_Bucket; have n_Bucket_room := T.n_Bucket_room; have n_Bucket_line := T.n_Bucket_line; have c_Table := T.c_Table; have n_Table_own := T.n_Table_own; have n_Table_wide := T.n_Table_wide; have n_Table_room := T.n_Table_room; have n_Table_buckets := T.n_Table_buckets; have c_Town := T.c_Town; have n_Town_wide := T.n_Town_wide; have n_Town_room := T.n_Town_room; have n_Town_tables := T.n_Town_tables; have n_Town_hushed := T.n_Town_hushed
    refine ⟨_, (pss_cons (ps_set (i := 2) sc_l_keeps.nd rfl (Or.inl rfl) (pe_lst pa_nil))
      (pss_cons (ps_lock (ps_for PassesOwn.never rfl (pi_keys (pe_dget hu (pe_dget hu (pv 0) pe_str (fun _ _ => rfl)) (pv 1) (fun _ _ => rfl))) (pg_name (i := 3) sc_l_keeps.nd rfl (Or.inl rfl))
      (pss_one (ps_set (i := 2) sc_l_keeps.nd rfl (Or.inl rfl) (pe_op op_cat (pv 2) (pe_dget hu (pe_dget hu (pe_dget hu (pv 0) pe_str (fun _ _ => rfl)) (pv 1) (fun _ _ => rfl)) (pv 3) (fun _ _ => rfl)))))))
      (pss_one (ps_ret (pe_callB cr_sortedI (by rfl) T.z_sorted (by decide +kernel) (pa_cons (pv 2) pa_nil)))))), ?_⟩
    rw [Nn.st_l_keeps]; try rw [Nn.cxK]
    try rw [Nn.cxW]
    walk_at "wx"
    refine ⟨len_ok rfl, fun d hd => ?_⟩
    have ex1 := Ex.new (o := .lst []) hd
    have t1 := t.ex' ex1
    have ma1 := t1.ma n hm
    have hd1 := upd_same (H := H) (a := d) (o := .lst [])
    have nd1 : B.ma n ≠ d := ne_of_none (t.ma n hm) hd
    generalize upd H d (.lst []) = H1 at ex1 t1 ma1 hd1 ⊢
    walk_at "wx"
    refine x_lock ma1 fun od => ?_
    have f2' := Fr.upd1 (o := .frz od (.dK (dOf (B.kl n) fun k => .ref (B.ra n k)))) ma1
    have ma2 := upd_same (H := H1) (a := B.ma n) (o := .frz od (.dK (dOf (B.kl n) fun k => .ref (B.ra n k))))
    have md2 := f2'.at t1.md (d4 n hm).2.2.symm
    have mt2 := Rd.fr t1.mt f2' (d4 n hm).1.symm
    have ra2 : ∀ k ∈ B.kl n, upd H1 (B.ma n) (.frz od (.dK (dOf (B.kl n) fun k => .ref (B.ra n k)))) (B.ra n k) = some (.lst (((m.tab n).getD k []).map nV)) := fun k hk => f2'.at (t1.ra n hm k hk) fun z => by
      have e := t1.ra n hm k hk
      rw [z, ma1] at e; cases e
    have hd2 := f2'.at hd1 nd1.symm
    generalize hH2 : upd H1 (B.ma n) (.frz od (.dK (dOf (B.kl n) fun k => .ref (B.ra n k)))) = H2 at ma2 md2 mt2 ra2 hd2 ⊢
    walk_at "wx"
    refine ForW.by walk_keys (fun i σ H' => ∃ (v : Option V) (d : Addr), σ = [some (.ref B.md), some (.int n), some (.ref d), v] ∧ Ex H2 H' ∧ H' d = some (.lst ((((B.kl n).take i).map fun k => (m.tab n).getD k []).flatten.map nV))) ⟨_, d, rfl, Ex.refl, hd2⟩ (fun i σ H' _ ⟨_, _, _, e, _⟩ => e.at ma2) ?_ ?_
    · rintro i x σ _ H3 hi ⟨v, d, rfl, ex3, hd3⟩ ⟨rfl, kk, vv, hkv, rfl⟩
      rw [dOf_len] at hi
      have ek : kk = nK (B.kl n)[i] := by
        unfold dOf at hkv
        rw [List.getElem?_map, List.getElem?_eq_getElem hi] at hkv
        exact (congrArg Prod.fst (Option.some.inj hkv)).symm
      subst ek
      have et3 : (B.kl n).take (i + 1) = (B.kl n).take i ++ [(B.kl n)[i]] := by rw [List.take_add_one, List.getElem?_eq_getElem hi]; rfl
      have hkm := List.getElem_mem hi
      have hle : (((B.kl n).take (i + 1)).map fun k => (m.tab n).getD k []).flatten.length ≤ ((B.kl n).map fun k => (m.tab n).getD k []).flatten.length := by
        rw [List.map_take]; exact flat_le _
      rw [et3, List.map_append, List.flatten_append, List.length_append] at hle
      generalize (B.kl n)[i] = kx at hkm et3 hle
      have md3 := ex3.at md2
      have mt3 := Rd.fr mt2 ex3 id
      have ma3 : Rd _ (B.ma n) _ := .inr ⟨od, ex3.at ma2⟩
      have ra3 := ex3.at (ra2 kx hkm)
      have er : valV (dOf (B.kl n) fun k => .ref (B.ra n k)) (Sum.inl (kx : Int)) = some (.ref (B.ra n kx)) := by
        have q := dOf_val (f := fun k => V.ref (B.ra n k)) (n := kx) (hs := B.kl n)
        rw [if_pos hkm] at q; exact q
      have ekv : kV (nK kx) = .int (kx : Int) := rfl
      rw [ekv]
      walk_at "wx"
      refine x_cat hd3 ra3 (by rw [sizeLine_eq, List.length_map, List.length_map]; simp only [List.map_cons, List.map_nil, List.flatten_singleton] at hle; omega) fun r hr => ?_
      refine ⟨_, r, rfl, ex3.newT hr, ?_⟩
      rw [upd_same, et3, List.map_append, List.flatten_append, List.map_append]
      simp
    · rintro σ H3 ⟨v, d, rfl, ex3, hd3⟩
      rw [dOf_len, List.take_length] at hd3
      have ma3 := ex3.at ma2
      have nd3 : d ≠ B.ma n := fun z => by rw [z, ma3] at hd3; cases hd3
      have ex13 : Ex H1 (upd H3 (B.ma n) (.dK (dOf (B.kl n) fun k => .ref (B.ra n k)))) := Ex.unlock ma1 (by rw [hH2]; exact ex3)
      refine ⟨ma3, ?_⟩
      have hd4 : upd H3 (B.ma n) (.dK (dOf (B.kl n) fun k => .ref (B.ra n k))) d = some (.lst ((((B.kl n).map fun k => (m.tab n).getD k []).flatten).map nV)) := by rw [upd_ne nd3]; exact hd3
      generalize upd H3 (B.ma n) (.dK (dOf (B.kl n) fun k => .ref (B.ra n k))) = H4 at ex13 hd4 ⊢
      walk_at "wx"
      refine x_sortN (SqL.of hd4) f1 fun p hp => ?_
      have e : sortU ((B.kl n).map fun k => (m.tab n).getD k []).flatten = m.keeps n := sortU_congr f2
      rw [e]
      exact q p _ ((ex1.trans ex13).back p hp) ((ex1.trans ex13).newT hp) upd_same
/-- the houses' dict is not locked -/
def Open (H : Hp) (B : MA) (m : TM) : Prop := H B.mt = some (.dK (dOf m.houses fun h => .ref (B.ma h)))
def sp_l_come_to (_ : Tx K mg base) : Sp := fun vs H Q _ => ∃ (B : MA) (G : Addr → Prop) (m : TM) (N : List Nat) (ext : List (Key × V)) (n : Nat), vs = [.ref B.md, .int n] ∧ ModAt H B G m ext ∧ Open H B m ∧ m.Ok N ∧ n ∈ m.houses ∧ ∀ p H', H p = none → Ex H H' → H' p = some (.lst ((m.comeTo n).map nV)) → Q (.ref p) H'
theorem wc_l_come_to {N : List Nat} {n : Nat} {i : Int} (hi : i = n) (t : ModAt H B G m ext) (op : Open H B m) (k : m.Ok N) (hm : n ∈ m.houses) (q : ∀ p H', H p = none → Ex H H' → H' p = some (.lst ((m.comeTo n).map nV)) → Q (.ref p) H') : sp_l_come_to T [.ref B.md, .int i] H Q E := by
  subst hi; exact ⟨B, G, m, N, ext, n, rfl, t, op, k, hm, q⟩
def TM.Clo (m : TM) (l : List Nat) : Prop := ∀ y ∈ l, ∀ z ∈ (m.tab y).flatten, m.aw z = true → z ∈ l
theorem ok_l_come_to (T : Tx K mg base) : FnOk P w K mg base CX0 2 T.a_l_come_to T.d_l_come_to ["_law_model", "_law_house"] (sp_l_come_to T) := by
  refine T.F_l_come_to.okD sc_l_come_to (fun vs H Q E h => ?_) (fun cdv A outer s H vs Q E hr h => ?_)
  · obtain ⟨B, G, m, N, ext, n, rfl, _⟩ := h; rfl
  · obtain ⟨B, G, m, N, ext, h0, rfl, t, mtO, k, hm0, q⟩ := h
    have hu := hu_of hr
    have et := modD_t (B := B) (room := m.room) (ext := ext)
    have md := t.md
    have mt := t.mt
    have hz := k.houses_len
    have fl : ∀ {l : List Nat}, l.Nodup → (∀ x ∈ l, m.Reach h0 x) → l.length ≤ m.houses.length := fun nd hr => nodup_len nd fun x hx => (hr x hx).house hm0
    have c_Bucket := T.c_Bucket; have n_Bucket_room := T.n_Bucket_room; have n_Bucket_line := T.n_Bucket_line; have c_Table := T.c_Table; have n_Table_own := T.n_Table_own; have n_Table_wide := T.n_Table_wide; have n_Table_room := T.n_Table_room; have n_Table_buckets := T.n_Table_buckets; have c_Town := T.c_Town; have n_Town_wide := T.n_Town_wide; have n_Town_room := T.n_Town_room; have n_Town_tables := T.n_Town_tables; have n_Town_hushed := T.n_Town_hushed
    refine ⟨_, (pss_cons (ps_set (i := 2) sc_l_come_to.nd rfl (Or.inl rfl) (pe_lst (pa_cons (pv 1) pa_nil)))
      (pss_cons (ps_for PassesOwn.never rfl (pi_range1 rfl T.z_range (pa_cons (pe_callB cb_lenD (by rfl) T.z_len PySem.boot_len (pa_cons (pe_dget hu (pv 0) pe_str (fun _ _ => rfl)) pa_nil)) pa_nil)) (pg_name (i := 3) sc_l_come_to.nd rfl (Or.inl rfl))
      (pss_one (ps_for PassesOwn.never rfl (pi_list (pe_callTy cb_list (by rfl) T.z_list (by decide +kernel) (pa_cons (pv 2) pa_nil))) (pg_name (i := 4) sc_l_come_to.nd rfl (Or.inl rfl))
      (pss_one (ps_for PassesOwn.never rfl (pi_list (pe_call (ok_l_keeps T) hr rfl T.m_l_keeps T.F_l_keeps.kp T.b_l_keeps .nil pass0 (pa_cons (pv 0) (pa_cons (pv 4) pa_nil)))) (pg_name (i := 5) sc_l_come_to.nd rfl (Or.inl rfl))
      (pss_one (ps_if (PW.pt (pw_and (pt_val (pe_call (ok_l_awake T) hr rfl T.m_l_awake T.F_l_awake.kp T.b_l_awake .nil pass0 (pa_cons (pv 0) (pa_cons (pv 5) pa_nil)))) (pw_and1 (pt_cmpR op_notIn_seq (pv 5) (pv 2) rfl))))
      (pss_one (ps_expr (pe_bm PySem.F.plainAttrs_list PySem.F.slot_list_append PySem.F.type_list_append mt_append (pv 2) (pa_cons (pv 5) pa_nil))))
      pss_nil)))))))
      (pss_one (ps_ret (pe_callB cr_sortedI (by rfl) T.z_sorted (by decide +kernel) (pa_cons (pv 2) pa_nil)))))), ?_⟩
    rw [Nn.st_l_come_to]; try rw [Nn.cxK]
    try rw [Nn.cxW]
    walk_at "wx"
    refine ⟨len_ok rfl, fun d hd => ?_⟩
    have ex1 := Ex.new (o := .lst [V.int (h0 : Int)]) hd
    have hd1 := upd_same (H := H) (a := d) (o := .lst [V.int (h0 : Int)])
    have md1 := ex1.at md
    have mt1 := Rd.fr mt ex1 id
    have mtO1 := ex1.at mtO
    have hdl : (dOf m.houses fun h => V.ref (B.ma h)).length = m.houses.length := dOf_len
    have t1 := t.ex' ex1
    generalize upd H d (.lst [V.int (h0 : Int)]) = H1 at ex1 hd1 md1 mt1 mtO1 t1 ⊢
    walk_at "wx"
    rw [hdl]
    refine ForW.by walk_rgN (fun i σ H' => ∃ (fd : List Nat) (v3 v4 v5 : Option V), σ = [some (.ref B.md), some (.int h0), some (.ref d), v3, v4, v5] ∧ Ex H H' ∧ H' d = some (.lst (fd.map nV)) ∧ fd.Nodup ∧ h0 ∈ fd ∧ (∀ x ∈ fd, m.Reach h0 x) ∧ (m.Clo fd ∨ i + 1 ≤ fd.length))
      ⟨[h0], _, _, _, rfl, ex1, hd1, by simp, by simp, fun x hx => by rw [List.mem_singleton.mp hx]; exact .self, .inr (by simp)⟩ (fun _ _ _ _ _ => trivial) ?_ ?_
    · rintro i _ σ _ H2 hi ⟨fd, v3, v4, v5, rfl, ex2, hd2, nd2, h02, hre2, hcl2⟩ ⟨rfl, rfl⟩
      walk_at "wx"
      refine x_listL (SqL.of hd2) fun p3 hp3 => ?_
      have ex3 := ex2.newT (o := .lst (fd.map nV)) hp3
      have hd3 := at_new (o := .lst (fd.map nV)) hp3 hd2
      have h33 := upd_same (H := H2) (a := p3) (o := .lst (fd.map nV))
      have np3 := ne_of_none hd2 hp3
      generalize upd H2 p3 (.lst (fd.map nV)) = H3 at ex3 hd3 h33 ⊢
      walk_at "wx"
      refine ForW.by walk_list (fun j σ H' => ∃ (more : List Nat) (v4 v5 : Option V), σ = [some (.ref B.md), some (.int h0), some (.ref d), some (nV i), v4, v5] ∧ Ex H H' ∧ H' d = some (.lst ((fd ++ more).map nV)) ∧ H' p3 = some (.lst (fd.map nV)) ∧ (fd ++ more).Nodup ∧ (∀ x ∈ fd ++ more, m.Reach h0 x) ∧
          (∀ y ∈ fd.take j, ∀ z ∈ (m.tab y).flatten, m.aw z = true → z ∈ fd ++ more))
        ⟨[], _, _, rfl, ex3, by rw [List.append_nil]; exact hd3, h33, by rw [List.append_nil]; exact nd2, by rw [List.append_nil]; exact hre2, by simp⟩ (fun i σ H' _ ⟨_, _, _, _, _, _, e, _⟩ => SqL.of e) ?_ ?_
      · rintro j x σ _ H4 hj ⟨more, v4, v5, rfl, ex4, hd4, hp4, nd4, hre4, hcl4⟩ ⟨rfl, hx⟩
        rw [List.length_map] at hj
        obtain rfl : x = nV fd[j] := by
          rw [List.getElem?_map, List.getElem?_eq_getElem hj] at hx
          exact (Option.some.inj hx).symm
        have etj : fd.take (j + 1) = fd.take j ++ [fd[j]] := by rw [List.take_add_one, List.getElem?_eq_getElem hj]; rfl
        have hy := hre2 _ (List.getElem_mem hj)
        rw [etj]
        generalize fd[j] = y at hy
        have t4 := t.ex' ex4
        walk_at "wx"
        refine wc_l_keeps rfl t4 k (hy.house hm0) fun p5 H5 hp5 ex5 h55 => ?_
        have hd5 := ex5.at hd4
        have np5 := ne_of_none hd4 hp5
        walk_at "wx"
        refine ForW.by walk_list (fun i2 σ H' => ∃ (mo : List Nat) (v5 : Option V), σ = [some (.ref B.md), some (.int h0), some (.ref d), some (nV i), some (nV y), v5] ∧ Ex H H' ∧ H' d = some (.lst ((fd ++ (more ++ mo)).map nV)) ∧ H' p3 = some (.lst (fd.map nV)) ∧ H' p5 = some (.lst ((m.keeps y).map nV)) ∧ (fd ++ (more ++ mo)).Nodup ∧ (∀ x ∈ fd ++ (more ++ mo), m.Reach h0 x) ∧
            (∀ z ∈ (m.keeps y).take i2, m.aw z = true → z ∈ fd ++ (more ++ mo)))
          ⟨[], _, rfl, ex4.trans ex5, by rw [List.append_nil]; exact hd5, ex5.at hp4, h55, by rw [List.append_nil]; exact nd4, by rw [List.append_nil]; exact hre4, by simp⟩ (fun i σ H' _ ⟨_, _, _, _, _, _, e, _⟩ => SqL.of e) ?_ ?_
        · rintro i2 x σ _ H6 hi2 ⟨mo, v5, rfl, ex6, hd6, hp6, h56, nd6, hre6, hz6⟩ ⟨rfl, hx⟩
          rw [List.length_map] at hi2
          obtain rfl : x = nV (m.keeps y)[i2] := by
            rw [List.getElem?_map, List.getElem?_eq_getElem hi2] at hx
            exact (Option.some.inj hx).symm
          have etz : (m.keeps y).take (i2 + 1) = (m.keeps y).take i2 ++ [(m.keeps y)[i2]] := by rw [List.take_add_one, List.getElem?_eq_getElem hi2]; rfl
          have hzk := TM.mem_keeps.mp (List.getElem_mem hi2)
          rw [etz]
          generalize (m.keeps y)[i2] = z at hzk
          have t6 := t.ex' ex6
          have hfl6 := fl nd6 hre6
          simp only [List.length_append] at hfl6
          have hz6' : ∀ {l : List Nat}, (∀ x ∈ fd ++ (more ++ mo), x ∈ l) → z ∈ l → ∀ x ∈ (m.keeps y).take i2 ++ [z], m.aw x = true → x ∈ l := fun h1 h2 x hx ha => by
            rcases List.mem_append.mp hx with hx | hx
            · exact h1 x (hz6 x hx ha)
            · rw [List.mem_singleton.mp hx]; exact h2
          walk_at "wx"
          refine wc_l_awake rfl t6 ?_
          walk_at "wx"
          refine x_iteB (fun haz => ?_) fun haz => ?_
          · walk_at "wx"
            refine x_ifN (fun hin => ?_) fun hin => ?_
            · walk_at "wx"
              have e3 : fd ++ (more ++ (mo ++ [z])) = (fd ++ (more ++ mo)) ++ [z] := by simp
              refine ⟨mo ++ [z], _, rfl, ex6.mut hd hd6, by rw [upd_same, e3, List.map_append (l₁ := fd ++ (more ++ mo))]; rfl, by rw [upd_ne np3.symm]; exact hp6, by rw [upd_ne np5.symm]; exact h56, by rw [e3]; exact nd_snoc nd6 hin, fun x hx => ?_, ?_⟩
              · rw [e3] at hx
                rcases List.mem_append.mp hx with hx | hx
                · exact hre6 x hx
                · rw [List.mem_singleton.mp hx]; exact .step hy hzk haz
              · rw [e3]
                exact hz6' (fun x hx => List.mem_append.mpr (.inl hx)) (by simp)
            · walk_at "wx"
              exact ⟨mo, _, rfl, ex6, hd6, hp6, h56, nd6, hre6, hz6' (fun x hx => hx) hin⟩
          · walk_at "wx"
            refine ⟨mo, _, rfl, ex6, hd6, hp6, h56, nd6, hre6, fun x hx ha => ?_⟩
            rcases List.mem_append.mp hx with hx | hx
            · exact hz6 x hx ha
            · rw [List.mem_singleton.mp hx, haz] at ha; cases ha
        · rintro σ H6 ⟨mo, v5, rfl, ex6, hd6, hp6, h56, nd6, hre6, hz6⟩
          rw [List.length_map, List.take_length] at hz6
          walk_at "wx"
          refine ⟨more ++ mo, _, _, rfl, ex6, hd6, hp6, nd6, hre6, fun x hx z hzt ha => ?_⟩
          rcases List.mem_append.mp hx with hx | hx
          · have q := hcl4 x hx z hzt ha
            rw [← List.append_assoc]; exact List.mem_append.mpr (.inl q)
          · rw [List.mem_singleton.mp hx] at hzt
            exact hz6 z (TM.mem_keeps.mpr hzt) ha
      · rintro σ H4 ⟨more, v4, v5, rfl, ex4, hd4, hp4, nd4, hre4, hcl4⟩
        rw [List.length_map, List.take_length] at hcl4
        walk_at "wx"
        refine ⟨fd ++ more, _, _, _, rfl, ex4, hd4, nd4, List.mem_append.mpr (.inl h02), hre4, ?_⟩
        rcases hcl2 with hc | hc
        · refine .inl fun y hy z hzt ha => ?_
          have hy2 : y ∈ fd := (hre4 y hy).closed h02 hc
          exact hcl4 y hy2 z hzt ha
        · by_cases e : more = []
          · subst e
            rw [List.append_nil] at hcl4 ⊢
            exact .inl hcl4
          · have hl : 0 < more.length := List.length_pos_iff.mpr e
            exact .inr (by rw [List.length_append]; omega)
    · rintro σ H2 ⟨fd, v3, v4, v5, rfl, ex2, hd2, nd2, h02, hre2, hcl2⟩
      have hcl : m.Clo fd := hcl2.elim id fun z => absurd (fl nd2 hre2) (by omega)
      walk_at "wx"
      refine x_sortN (SqL.of hd2) nd2 fun p hp => ?_
      rw [TM.comeTo_eq hm0 h02 hre2 hcl]
      exact q p _ (ex2.back p hp) (ex2.newT hp) upd_same
theorem log2_gt {x i : Nat} (h : x ≠ 0) : 1 < x / 2 ^ i ↔ i < x.log2 := by
  have h1 := Nat.le_log2 h (k := i + 1)
  have h2 := Nat.le_div_iff_mul_le (Nat.two_pow_pos i) (x := 2) (y := x)
  rw [Nat.pow_succ, Nat.mul_comm] at h1
  omega
theorem dOf_upd {hs : List Nat} {f : Nat → V} {n : Nat} {v : V} : putK (dOf hs f) (nK n) v = dOf (if n ∈ hs then hs else hs ++ [n]) fun k => if k = n then v else f k := by
  by_cases h : n ∈ hs
  · rw [if_pos h]
    unfold putK
    rw [if_pos (by rw [valV_any, dOf_val, if_pos h]; rfl)]
    unfold dOf
    rw [List.map_map]
    refine List.map_congr_left fun k _ => ?_
    show (if nK k = nK n then (nK k, v) else (nK k, f k)) = (nK k, if k = n then v else f k)
    by_cases q : k = n
    · rw [if_pos (by rw [q]), if_pos q]
    · rw [if_neg fun z => q (nK_inj z), if_neg q]
  · rw [if_neg h, putK_new _ (by rw [dOf_val, if_neg h])]
    unfold dOf
    rw [List.map_append]
    congr 1
    · refine List.map_congr_left fun k hk => ?_
      show (nK k, f k) = (nK k, if k = n then v else f k)
      rw [if_neg fun z => h (by rw [← z]; exact hk)]
    · simp
def sp_l_hears (_ : Tx K mg base) : Sp := fun vs H Q _ => ∃ (B : MA) (G : Addr → Prop) (m : TM) (N : List Nat) (ext : List (Key × V)) (h n : Nat), vs = [.ref B.md, .int h, .int n] ∧ ModAt H B G m ext ∧ m.Ok N ∧ h ∈ m.houses ∧ n ∈ N ∧ h ≠ n ∧
  ∀ H' G' ra kl, Fr (fun a => a = B.ma h) H H' → (∀ a, G' a → G a ∨ H a = none) → ModAt H' { B with ra := ra, kl := kl } G' (m.hears h n) ext → Q .non H'
theorem wc_l_hears {N : List Nat} {h n : Nat} {i j : Int} (hi : i = h) (hj : j = n) (t : ModAt H B G m ext) (k : m.Ok N) (hm : h ∈ m.houses) (hn : n ∈ N) (ne : h ≠ n)
    (q : ∀ H' G' ra kl, Fr (fun a => a = B.ma h) H H' → (∀ a, G' a → G a ∨ H a = none) → ModAt H' { B with ra := ra, kl := kl } G' (m.hears h n) ext → Q .non H') : sp_l_hears T [.ref B.md, .int i, .int j] H Q E := by
  subst hi hj; exact ⟨B, G, m, N, ext, h, n, rfl, t, k, hm, hn, ne, q⟩
theorem ok_l_hears (T : Tx K mg base) : FnOk P w K mg base CX0 2 T.a_l_hears T.d_l_hears ["_law_model", "_law_house", "_law_name_here"] (sp_l_hears T) := by
  refine T.F_l_hears.okD sc_l_hears (fun vs H Q E h => ?_) (fun cdv A outer s H vs Q E hr h => ?_)
  · obtain ⟨B, G, m, N, ext, h0, n, rfl, _⟩ := h; rfl
  · obtain ⟨B, G, m, N, ext, h0, n, rfl, t, k, hm, hn, hne, q⟩ := h
    have hu := hu_of hr
    have hx0 := xor_ne_zero hne
    have hlog : (h0 ^^^ n).log2 = stepN h0 n := rfl
    have c_Bucket := T.c_Bucket; have n_Bucket_room := T.n_Bucket_room; have n_Bucket_line := T.n_Bucket_line; have c_Table := T.c_Table; have n_Table_own := T.n_Table_own; have n_Table_wide := T.n_Table_wide; have n_Table_room := T.n_Table_room; have n_Table_buckets := T.n_Table_buckets; have c_Town := T.c_Town; have n_Town_wide := T.n_Town_wide; have n_Town_room := T.n_Town_room; have n_Town_tables := T.n_Town_tables; have n_Town_hushed := T.n_Town_hushed
    refine ⟨_, (pss_cons (ps_set (i := 3) sc_l_hears.nd rfl (Or.inl rfl) pe_int)
      (pss_cons (ps_while PassesOwn.never (pt_cmpR op_gt (pe_op op_shrN' (pe_op op_xorN (pv 1) (pv 2)) (pv 3)) pe_int (nomark _))
      (pss_one (ps_set (i := 3) sc_l_hears.nd rfl (Or.inl rfl) (pe_op op_add (pv 3) pe_int))))
      (pss_cons (ps_set (i := 4) sc_l_hears.nd rfl (Or.inl rfl) (pe_dget2 hu (pe_dget hu (pe_dget hu (pv 0) pe_str (fun _ _ => rfl)) (pv 1) (fun _ _ => rfl)) (pv 3) (pe_lst pa_nil) ⟨rfl, rfl, rfl, rfl⟩))
      (C8.pss_cut (ps_if (pt_cmpR op_in_seq (pv 2) (pv 4) rfl)
      (pss_one (ps_set (i := 4) sc_l_hears.nd rfl (Or.inl rfl) (pe_op op_cat (pe_lc (own := [("_law_other", 5)]) (g := (gName 5)) (by rfl) sc_l_hears.nd (pi_list (pv 4)) (blkOk_by (N := N_l_hears) (sc := defScope s_l_hears) (own := [("_law_other", 5)]) (by decide +kernel)) (fun _ _ _ _ _ => (pg_name (i := 5) sc_l_hears.nd rfl (Or.inl rfl))) (fun _ _ _ _ _ => pts_one ((pt_cmpR op_ne (pv 5) (pv 2) (nomark _)))) (fun _ _ _ _ _ => (pv 5))) (pe_lst (pa_cons (pv 2) pa_nil)))))
      (pss_one (ps_if (pt_cmpR op_lt (pe_callB cb_len (by rfl) T.z_len PySem.boot_len (pa_cons (pv 4) pa_nil)) (pe_dget hu (pv 0) pe_str (fun _ _ => rfl)) (nomark _))
      (pss_one (ps_set (i := 4) sc_l_hears.nd rfl (Or.inl rfl) (pe_op op_cat (pv 4) (pe_lst (pa_cons (pv 2) pa_nil)))))
      (pss_one (ps_if (pt_val (pe_call (ok_l_awake T) hr rfl T.m_l_awake T.F_l_awake.kp T.b_l_awake .nil pass0 (pa_cons (pv 0) (pa_cons (pe_ix ix_list (pv 4) pe_int (fun _ _ => rfl)) pa_nil))))
      (pss_one (ps_set (i := 4) sc_l_hears.nd rfl (Or.inl rfl) (pe_op op_cat (pe_slice sl_list (pv 4) (po_some pe_int) po_none) (pe_slice sl_list (pv 4) po_none (po_some pe_int)))))
      (pss_one (ps_set (i := 4) sc_l_hears.nd rfl (Or.inl rfl) (pe_op op_cat (pe_slice sl_list (pv 4) (po_some pe_int) po_none) (pe_lst (pa_cons (pv 2) pa_nil))))))))))
      (pss_one (ps_dput hu (pe_dget hu (pe_dget hu (pv 0) pe_str (fun _ _ => rfl)) (pv 1) (fun _ _ => rfl)) (pv 3) (pv 4) rfl)))))), ?_⟩
    rw [Nn.st_l_hears]; try rw [Nn.cxK]
    try rw [Nn.cxW]
    walk_at "wx"
    refine x_while (m := stepN h0 n) (W := fun mm σ H' => ∃ (i : Nat), σ = [some (.ref B.md), some (.int h0), some (.int n), some (.int i), none, none] ∧ H = H' ∧ i + mm = stepN h0 n) ⟨0, rfl, rfl, by omega⟩ ?_
    rintro mm σ _ ⟨i, rfl, rfl, hi⟩
    walk_at "wx"
    have e : decide (((1 : Int)) < (((h0 ^^^ n) / 2 ^ i : Nat) : Int)) = decide (i < stepN h0 n) := decide_eq_decide.mpr (by rw [← hlog, ← log2_gt hx0]; omega)
    rw [e]
    refine x_whD (fun hlt => ?_) fun hge => ?_
    · walk_at "wx"
      exact ⟨mm - 1, by omega, i + 1, rfl, rfl, by omega⟩
    · have ei : i = stepN h0 n := by omega
      subst ei
      clear hge hi mm
      have k0 := k.tabOk hm
      have hkw : stepN h0 n < m.wide := stepN_lt (k.bd hm) (k.nb _ hn) hne
      obtain ⟨d1, d2, d3, d4, d5⟩ := t.dj
      obtain ⟨g1, g2, g3, g4⟩ := t.gg
      obtain ⟨l1, l2, l3⟩ := t.kl h0 hm
      have et := modD_t (B := B) (room := m.room) (ext := ext)
      have er := modD_r (B := B) (room := m.room) (ext := ext)
      have en : valV (dOf m.houses fun h => .ref (B.ma h)) (Sum.inl (h0 : Int)) = some (.ref (B.ma h0)) := by
        have q := dOf_val (f := fun h => V.ref (B.ma h)) (n := h0) (hs := m.houses)
        rw [if_pos hm] at q; exact q
      have md := t.md
      have mt := t.mt
      have ma := t.ma h0 hm
      generalize hxs : (m.tab h0).getD (stepN h0 n) [] = xs
      generalize hkk : stepN h0 n = kx at *
      have hxnd : xs.Nodup ∧ xs.length ≤ m.room := by
        rw [List.getD_eq_getElem?_getD] at hxs
        cases e : (m.tab h0)[kx]? with
        | none => rw [e] at hxs; subst hxs; exact ⟨List.nodup_nil, Nat.zero_le _⟩
        | some ys => rw [e] at hxs; cases hxs; exact ⟨(k0.at_ _ _ e).1, (k0.at_ _ _ e).2.1⟩
      have hr8 := k.r1
      have hr0 := k.r0
      walk_at "wx"
      refine ⟨len_ok rfl, fun d hd => ?_⟩
      have ex1 := Ex.new (o := .lst []) hd
      have hd1 := upd_same (H := H) (a := d) (o := .lst [])
      generalize upd H d (.lst []) = H1 at ex1 hd1 ⊢
      have md1 := ex1.at md
      have mt1 := Rd.fr mt ex1 id
      have ma1 := ex1.at ma
      have t1 := t.ex' ex1
      walk_at "wx"
      obtain ⟨lp, elp, hlp⟩ : ∃ lp, ((valV (dOf (B.kl h0) fun k => .ref (B.ra h0 k)) (Sum.inl (kx : Int))).getD (.ref d)) = .ref lp ∧ H1 lp = some (.lst (xs.map nV)) := by
        have q := dOf_val (f := fun k => V.ref (B.ra h0 k)) (n := kx) (hs := B.kl h0)
        by_cases z : kx ∈ B.kl h0
        · rw [if_pos z] at q
          refine ⟨B.ra h0 kx, by rw [show valV (dOf (B.kl h0) fun k => .ref (B.ra h0 k)) (Sum.inl (kx : Int)) = _ from q]; rfl, ?_⟩
          have e := t1.ra h0 hm kx z
          rw [hxs] at e; exact e
        · rw [if_neg z] at q
          refine ⟨d, by rw [show valV (dOf (B.kl h0) fun k => .ref (B.ra h0 k)) (Sum.inl (kx : Int)) = _ from q]; rfl, ?_⟩
          have e := l3 kx z
          rw [hxs] at e; rw [e]; exact hd1
      rw [elp]
      refine x_cut (fun σ' H' => ∃ (lp : Addr) (v5 : Option V), σ' = [some (.ref B.md), some (.int h0), some (.int n), some (.int kx), some (.ref lp), v5] ∧ Ex H H' ∧ H' lp = some (.lst ((hearL m.room xs n (m.aw (xs.headD 0))).map nV)) ∧ H lp = none) ?_ ?_
      · walk_at "wx"
        refine x_ifD (fun hin => ?_) fun hin => ?_
        · walk_at "wx"
          refine LcW.filt (emb := nV) (xs := xs) (fun x => !decide (x = n)) (SqL.of hlp) (by rw [sizeLine_eq]; omega) (fun x _ H2 ex2 R hR => ?_) (fun x _ _ H2 ex2 Qe hQ => ?_) fun p2 H2 hp2 ex2 h2 => ?_
          · walk_at "wx"
            have e : decide ((x : Int) = (n : Int)) = decide (x = n) := decide_eq_decide.mpr ⟨fun z => Int.ofNat.inj z, fun z => by rw [z]⟩
            rw [e]
            exact hR _ Ex.refl
          · walk_at "wx"
            exact hQ
          · have ee : (xs.filter fun x => !decide (x = n)) = xs.erase n := by
              rw [hxnd.1.erase_eq_filter]
              refine List.filter_congr fun x _ => ?_
              by_cases z : x = n <;> simp [z]
            rw [ee] at h2
            have hle : (xs.erase n).length ≤ xs.length := List.length_erase_le ..
            walk_at "wx"
            refine ⟨len_ok rfl, fun p3 hp3 => ?_⟩
            refine x_cat (at_new hp3 h2) upd_same (by rw [sizeLine_eq, List.length_map, List.length_singleton]; omega) fun p4 hp4 => ?_
            have ex4 := ((ex1.trans ex2).newT (o := .lst [nV n]) hp3).newT (o := .lst ((xs.erase n).map nV ++ [nV n])) hp4
            refine ⟨p4, _, rfl, ex4, by rw [upd_same, (hear_in hin).1, List.map_append]; rfl, ?_⟩
            exact (ex1.trans ex2).back p4 (upd_back hp4)
        · walk_at "wx"
          rw [List.length_map]
          refine x_ifD (fun hlt => ?_) fun hge => ?_
          · walk_at "wx"
            refine ⟨len_ok rfl, fun p3 hp3 => ?_⟩
            refine x_cat (at_new hp3 hlp) upd_same (by rw [sizeLine_eq, List.length_map, List.length_singleton]; omega) fun p4 hp4 => ?_
            have ex4 := (ex1.newT (o := .lst [nV n]) hp3).newT (o := .lst (xs.map nV ++ [nV n])) hp4
            exact ⟨p4, _, rfl, ex4, by rw [upd_same, (hear_new hin (Int.ofNat_lt.mp hlt)).1, List.map_append]; rfl, ex1.back p4 (upd_back hp4)⟩
          · have hge : ¬ xs.length < m.room := fun z => hge (Int.ofNat_lt.mpr z)
            obtain ⟨y, r, rfl⟩ : ∃ y r, xs = y :: r := by
              cases xs with
              | nil => simp at hge; omega
              | cons y r => exact ⟨y, r, rfl⟩
            have e10 : cutV ((y :: r).map nV) (some 1) none = r.map nV := cut_drop (k := 1)
            have e01 : cutV ((y :: r).map nV) none (some 1) = [nV y] := cut_take (k := 1)
            have hrl : r.length ≤ 8 := by have := hxnd.2; rw [List.length_cons] at this; omega
            walk_at "wx"
            refine wc_l_awake rfl t1 ?_
            walk_at "wx"
            refine x_ifB (fun haw => ?_) fun haw => ?_
            · walk_at "wx"
              refine x_slL (SqL.of hlp) fun p3 hp3 => ?_
              rw [e10]
              have hlp3 := at_new (o := .lst (r.map nV)) hp3 hlp
              walk_at "wx"
              refine x_slL (SqL.of hlp3) fun p4 hp4 => ?_
              rw [e01]
              refine x_cat (at_new hp4 upd_same) upd_same (by rw [sizeLine_eq, List.length_map, List.length_singleton]; omega) fun p5 hp5 => ?_
              have ex5 := ((ex1.newT (o := .lst (r.map nV)) hp3).newT (o := .lst [nV y]) hp4).newT (o := .lst (r.map nV ++ [nV y])) hp5
              exact ⟨p5, _, rfl, ex5, by rw [upd_same, (hear_full (a := m.aw ((y :: r).headD 0)) hin hge haw).1, List.map_append]; rfl, ex1.back p5 (upd_back (upd_back hp5))⟩
            · walk_at "wx"
              refine x_slL (SqL.of hlp) fun p3 hp3 => ?_
              rw [e10]
              walk_at "wx"
              refine ⟨len_ok rfl, fun p4 hp4 => ?_⟩
              refine x_cat (at_new hp4 upd_same) upd_same (by rw [sizeLine_eq, List.length_map, List.length_singleton]; omega) fun p5 hp5 => ?_
              have ex5 := ((ex1.newT (o := .lst (r.map nV)) hp3).newT (o := .lst [nV n]) hp4).newT (o := .lst (r.map nV ++ [nV n])) hp5
              exact ⟨p5, _, rfl, ex5, by rw [upd_same, (hear_inst (a := m.aw ((y :: r).headD 0)) hin hge haw).1, List.map_append]; rfl, ex1.back p5 (upd_back (upd_back hp5))⟩
      · clear elp hlp lp
        rintro σ' H2 ⟨lp, v5, rfl, ex2, hlp, hlp0⟩
        have t2 := t.ex' ex2
        have md2 := t2.md
        have mt2 := t2.mt
        have ma2 := t2.ma h0 hm
        walk_at "wx"
        refine x_dput ma2 (by rw [sizeLine_eq, dOf_len]; have := nodup_len (a := B.kl h0) (b := List.range m.wide) l1 fun x hx => List.mem_range.mpr (l2 x hx); rw [List.length_range] at this; have := k.w1; omega) ?_
        have ep : putK (dOf (B.kl h0) fun k => .ref (B.ra h0 k)) (Sum.inl (kx : Int)) (.ref lp) = dOf (if kx ∈ B.kl h0 then B.kl h0 else B.kl h0 ++ [kx]) fun y => if y = kx then .ref lp else .ref (B.ra h0 y) := dOf_upd
        rw [ep]
        have f3 := Fr.upd1 (o := .dK (dOf (if kx ∈ B.kl h0 then B.kl h0 else B.kl h0 ++ [kx]) fun y => if y = kx then .ref lp else .ref (B.ra h0 y))) ma2
        have ma3 := upd_same (H := H2) (a := B.ma h0) (o := .dK (dOf (if kx ∈ B.kl h0 then B.kl h0 else B.kl h0 ++ [kx]) fun y => if y = kx then .ref lp else .ref (B.ra h0 y)))
        have nlp : lp ≠ B.ma h0 := fun z => by rw [z, ma2] at hlp; cases hlp
        have hlp3 := f3.at hlp nlp
        generalize upd H2 (B.ma h0) (.dK (dOf (if kx ∈ B.kl h0 then B.kl h0 else B.kl h0 ++ [kx]) fun y => if y = kx then .ref lp else .ref (B.ra h0 y))) = H3 at f3 ma3 hlp3 ⊢
        have hhs : (m.hears h0 n).houses = m.houses := TM.hears_houses
        have htb : ∀ x, (m.hears h0 n).tab x = if x = h0 ∧ h0 ∈ m.houses then (m.tab h0).set kx (hearL m.room xs n (m.aw (xs.headD 0))) else m.tab x := fun x => by
          have e : tabL h0 m.room (m.tab h0) n m.aw = (m.tab h0).set kx (hearL m.room xs n (m.aw (xs.headD 0))) := by unfold tabL; rw [if_neg (Ne.symm hne), hkk, hxs]
          unfold TM.hears
          rw [TM.setTab_tab, e]
        have hlen : (m.tab h0).length = m.wide := k0.len
        have hset : ∀ y, ((m.tab h0).set kx (hearL m.room xs n (m.aw (xs.headD 0)))).getD y [] = if y = kx then hearL m.room xs n (m.aw (xs.headD 0)) else (m.tab h0).getD y [] := fun y => by
          rw [List.getD_eq_getElem?_getD, List.getD_eq_getElem?_getD]
          by_cases z : y = kx
          · rw [if_pos z, z, List.getElem?_set_self (by rw [hlen]; exact hkw)]; rfl
          · rw [if_neg z, List.getElem?_set_ne (Ne.symm z)]
        have lpne : ∀ x ∈ m.houses, ∀ y ∈ B.kl x, B.ra x y ≠ B.ma h0 := fun x hx y hy z => by
          have e := t2.ra x hx y hy
          rw [z, ma2] at e; cases e
        refine q H3 (fun a => G a ∨ a = lp) (fun x y => if x = h0 ∧ y = kx then lp else B.ra x y) (fun x => if x = h0 then (if kx ∈ B.kl h0 then B.kl h0 else B.kl h0 ++ [kx]) else B.kl x) ((ex2.fr (S := fun a => a = B.ma h0)).trans f3) (fun a z => z.imp id fun z => by rw [z]; exact hlp0) ?_
        refine ⟨f3.at md2 (d4 h0 hm).2.2.symm, ?_, f3.at t2.mq (d4 h0 hm).2.1.symm, fun x hx => ?_, fun x hx y hy => ?_, fun x hx => ?_, ⟨.inl g1, .inl g2, .inl g3, fun x hx => ?_⟩, ⟨d1, d2, d3, ?_, ?_⟩, fun a ha e => ?_⟩
        · rw [hhs]; exact Rd.fr mt2 f3 (d4 h0 hm).1.symm
        · rw [hhs] at hx
          by_cases z : x = h0
          · subst z
            show H3 (B.ma x) = some (.dK (dOf (if x = x then _ else _) fun y => .ref (if x = x ∧ y = kx then lp else B.ra x y)))
            rw [ma3, if_pos rfl]
            congr 3
            funext y
            by_cases w : y = kx
            · rw [if_pos w, if_pos ⟨rfl, w⟩]
            · rw [if_neg w, if_neg fun q => w q.2]
          · show H3 (B.ma x) = some (.dK (dOf (if x = h0 then _ else _) fun y => .ref (if x = h0 ∧ y = kx then lp else B.ra x y)))
            rw [if_neg z, dOf_congr (g := fun y => .ref (B.ra x y)) fun y _ => by rw [if_neg fun q => z q.1]]
            exact f3.at (t2.ma x hx) (d5 x hx h0 hm z)
        · rw [hhs] at hx
          have hy : y ∈ (if x = h0 then (if kx ∈ B.kl h0 then B.kl h0 else B.kl h0 ++ [kx]) else B.kl x) := hy
          show H3 (if x = h0 ∧ y = kx then lp else B.ra x y) = _
          have etx := htb x
          by_cases z : x = h0
          · subst z
            rw [if_pos ⟨rfl, hm⟩] at etx
            rw [etx, hset]
            by_cases w : y = kx
            · rw [if_pos ⟨rfl, w⟩, if_pos w]; exact hlp3
            · rw [if_neg fun q => w q.2, if_neg w]
              rw [if_pos rfl] at hy
              have hy2 : y ∈ B.kl x := by
                split at hy
                · exact hy
                · rcases List.mem_append.mp hy with q | q
                  · exact q
                  · exact absurd (List.mem_singleton.mp q) w
              exact f3.at (t2.ra x hm y hy2) (lpne x hm y hy2)
          · rw [if_neg z] at hy
            rw [if_neg fun q => z q.1] at etx
            rw [etx, if_neg fun q => z q.1]
            exact f3.at (t2.ra x hx y hy) (lpne x hx y hy)
        · rw [hhs] at hx
          show (if x = h0 then (if kx ∈ B.kl h0 then B.kl h0 else B.kl h0 ++ [kx]) else B.kl x).Nodup ∧ (∀ y ∈ (if x = h0 then (if kx ∈ B.kl h0 then B.kl h0 else B.kl h0 ++ [kx]) else B.kl x), y < m.wide) ∧ ∀ y, y ∉ (if x = h0 then (if kx ∈ B.kl h0 then B.kl h0 else B.kl h0 ++ [kx]) else B.kl x) → _
          have etx := htb x
          by_cases z : x = h0
          · subst z
            rw [if_pos ⟨rfl, hm⟩] at etx
            rw [etx, if_pos rfl]
            by_cases w : kx ∈ B.kl x
            · rw [if_pos w]
              refine ⟨l1, l2, fun y hy => ?_⟩
              rw [hset, if_neg fun q => hy (by rw [q]; exact w)]
              exact l3 y hy
            · rw [if_neg w]
              refine ⟨nd_snoc l1 w, fun y hy => ?_, fun y hy => ?_⟩
              · rcases List.mem_append.mp hy with q | q
                · exact l2 y q
                · rw [List.mem_singleton.mp q]; exact hkw
              · rw [hset, if_neg fun q => hy (by rw [q]; simp)]
                exact l3 y fun q => hy (List.mem_append.mpr (.inl q))
          · rw [if_neg fun q => z q.1] at etx
            rw [etx, if_neg z]
            exact t.kl x hx
        · rw [hhs] at hx
          refine ⟨.inl (g4 x hx).1, fun y hy => ?_⟩
          have hy : y ∈ (if x = h0 then (if kx ∈ B.kl h0 then B.kl h0 else B.kl h0 ++ [kx]) else B.kl x) := hy
          show G (if x = h0 ∧ y = kx then lp else B.ra x y) ∨ (if x = h0 ∧ y = kx then lp else B.ra x y) = lp
          by_cases z : x = h0 ∧ y = kx
          · rw [if_pos z]; exact .inr rfl
          · rw [if_neg z]
            refine .inl ((g4 x hx).2 y ?_)
            split at hy
            · rename_i zx
              subst zx
              split at hy
              · exact hy
              · rcases List.mem_append.mp hy with q | q
                · exact q
                · exact absurd ⟨rfl, List.mem_singleton.mp q⟩ z
            · exact hy
        · rw [hhs]; exact d4
        · rw [hhs]; exact d5
        · rcases ha with ha | ha
          · exact t.ex a ha (ex2.back a (f3.back a e))
          · rw [ha, hlp3] at e; cases e
end
end Nn
/-! the law's model: visits, comings, both alike -/
namespace Nn
open PySem L2
section
variable {P : Program} {w : World} {K : PySem.W.Frag} {mg : Str → Option Value} {base : Heap} {H H' : Hp} {Q : VK} {E : XK} {T : Tx K mg base} {B : MA} {G S : Addr → Prop} {m : TM} {ext : List (Key × V)}
/-- the tables' dicts of the model -/
def MaS (B : MA) (m : TM) (a : Addr) : Prop := ∃ x ∈ m.houses, a = B.ma x
theorem Open.fr (o : Open H B m) (t : ModAt H B G m ext) (f : Fr (MaS B m) H H') : Open H' B m := f.at o fun ⟨x, hx, e⟩ => (t.dj.2.2.2.1 x hx).1 e.symm
def sp_l_visit (T : Tx K mg base) : Sp := fun vs H Q _ => ∃ (B : MA) (G : Addr → Prop) (m : TM) (N : List Nat) (ext : List (Key × V)) (h door : Nat), vs = [.ref B.md, .int h, .int door] ∧ ModAt H B G m ext ∧ Open H B m ∧ m.Ok N ∧ h ∈ m.houses ∧ door ∈ m.houses ∧
  ∀ p H' G' ra kl, H p = none → Fr (MaS B m) H H' → H' p = some (.lst ((m.others h door).map nV)) → ¬ G' p → (∀ a, G' a → G a ∨ H a = none) → ModAt H' { B with ra := ra, kl := kl } G' (m.visit h door) ext → Q (.ref p) H'
theorem wc_l_visit {N : List Nat} {h door : Nat} {i j : Int} (hi : i = h) (hj : j = door) (t : ModAt H B G m ext) (op : Open H B m) (k : m.Ok N) (hm : h ∈ m.houses) (hd : door ∈ m.houses)
    (q : ∀ p H' G' ra kl, H p = none → Fr (MaS B m) H H' → H' p = some (.lst ((m.others h door).map nV)) → ¬ G' p → (∀ a, G' a → G a ∨ H a = none) → ModAt H' { B with ra := ra, kl := kl } G' (m.visit h door) ext → Q (.ref p) H') : sp_l_visit T [.ref B.md, .int i, .int j] H Q E := by
  subst hi hj; exact ⟨B, G, m, N, ext, h, door, rfl, t, op, k, hm, hd, q⟩
theorem ok_l_visit (T : Tx K mg base) : FnOk P w K mg base CX0 3 T.a_l_visit T.d_l_visit ["_law_model", "_law_house", "_law_door"] (sp_l_visit T) := by
  refine T.F_l_visit.okD sc_l_visit (fun vs H Q E h => ?_) (fun cdv A outer s H vs Q E hr h => ?_)
  · obtain ⟨B, G, m, N, ext, h0, door, rfl, _⟩ := h; rfl
  · obtain ⟨B, G, m, N, ext, h0, door, rfl, t, op, k, hm, hdo, q⟩ := h
    have hu := hu_of hr
    have hz := k.houses_len
    have hcl : (m.comeTo door).length < 64 := Nat.lt_of_le_of_lt (nodup_len (rising_nodup TM.comeTo_sorted) fun x hx => (TM.mem_comeTo.mp hx).1) hz
    have c_Bucket := T.c_Bucket; have n_Bucket_room := T.n_Bucket_room; have n_Bucket_line := T.n_Bucket_line; have c_Table := T.c_Table; have n_Table_own := T.n_Table_own; have n_Table_wide := T.n_Table_wide; have n_Table_room := T.n_Table_room; have n_Table_buckets := T.n_Table_buckets; have c_Town := T.c_Town; have n_Town_wide := T.n_Town_wide; have n_Town_room := T.n_Town_room; have n_Town_tables := T.n_Town_tables; have n_Town_hushed := T.n_Town_hushed
    refine ⟨_, (pss_cons (ps_setLc (i := 3) (own := [("_law_other", 4)]) (g := (gName 4)) (by rfl) sc_l_visit.nd rfl rfl (sw_true rfl rfl rfl (by decide +kernel)) (pi_list (pe_call (ok_l_come_to T) hr rfl T.m_l_come_to T.F_l_come_to.kp T.b_l_come_to .nil pass0 (pa_cons (pv 0) (pa_cons (pv 2) pa_nil)))) (blkOk_by (N := N_l_visit) (sc := defScope s_l_visit) (own := [("_law_other", 4)]) (by decide +kernel)) (fun _ _ _ _ _ => (pg_name (i := 4) sc_l_visit.nd rfl (Or.inl rfl))) (fun _ _ _ _ _ => pts_one ((pt_cmpR op_ne (pv 4) (pv 1) (nomark _)))) (fun _ _ _ _ _ => (pv 4)))
      (pss_cons (ps_for PassesOwn.never rfl (pi_list (pv 3)) (pg_name (i := 4) sc_l_visit.nd rfl (Or.inl rfl))
      (pss_cons (ps_expr (pe_call (ok_l_hears T) hr rfl T.m_l_hears T.F_l_hears.kp T.b_l_hears .nil pass0 (pa_cons (pv 0) (pa_cons (pv 1) (pa_cons (pv 4) pa_nil)))))
      (pss_one (ps_expr (pe_call (ok_l_hears T) hr rfl T.m_l_hears T.F_l_hears.kp T.b_l_hears .nil pass0 (pa_cons (pv 0) (pa_cons (pv 4) (pa_cons (pv 1) pa_nil))))))))
      (pss_one (ps_ret (pv 3))))), ?_⟩
    rw [Nn.st_l_visit]; try rw [Nn.cxK]
    try rw [Nn.cxW]
    walk_at "wx"
    refine wc_l_come_to rfl t op k hdo fun p1 H1 hp1 ex1 h1 => ?_
    walk_at "wx"
    refine LcW.filt (emb := nV) (xs := m.comeTo door) (fun x => !decide (x = h0)) (SqL.of h1) (by rw [sizeLine_eq]; omega) (fun x _ H2 ex2 R hR => ?_) (fun x _ _ H2 ex2 Qe hQ => ?_) fun p2 H2 hp2 ex2 h2 => ?_
    · walk_at "wx"
      have e : decide ((x : Int) = (h0 : Int)) = decide (x = h0) := decide_eq_decide.mpr ⟨fun z => Int.ofNat.inj z, fun z => by rw [z]⟩
      rw [e]
      exact hR _ Ex.refl
    · walk_at "wx"
      exact hQ
    have h2 : H2 p2 = some (.lst ((m.others h0 door).map nV)) := h2
    have ex02 := ex1.trans ex2
    have t2 := t.ex' ex02
    have hp20 : H p2 = none := ex1.back p2 hp2
    have nG : ¬ G p2 := fun z => t.ex p2 z hp20
    have nMa : ¬ MaS B m p2 := fun ⟨x, hx, e⟩ => by
      have e2 := t.ma x hx
      rw [← e, hp20] at e2; cases e2
    have ok : ∀ (l : List Nat), (∀ o ∈ l, o ∈ m.others h0 door) → (l.foldl (TM.meet h0) m).Ok N := fun l hl => k.fold (k.hN _ hm) fun o ho => k.hN _ (TM.others_mem (hl o ho)).1
    walk_at "wx"
    refine ForW.by walk_list (fun i σ H' => ∃ (v : Option V) (G' : Addr → Prop) (ra : Nat → Nat → Addr) (kl : Nat → List Nat), σ = [some (.ref B.md), some (.int h0), some (.int door), some (.ref p2), v] ∧ Fr (MaS B m) H H' ∧ H' p2 = some (.lst ((m.others h0 door).map nV)) ∧ ¬ G' p2 ∧ (∀ a, G' a → G a ∨ H a = none) ∧ ModAt H' { B with ra := ra, kl := kl } G' (((m.others h0 door).take i).foldl (TM.meet h0) m) ext)
      ⟨_, G, B.ra, B.kl, rfl, ex02.fr, h2, nG, fun a z => .inl z, t2⟩ (fun i σ H' _ ⟨_, _, _, _, _, _, e, _⟩ => SqL.of e) ?_ ?_
    · rintro i x σ _ H3 hi ⟨v, G3, ra3, kl3, rfl, fr3, hp3, nG3, hG3, t3⟩ ⟨rfl, hx⟩
      rw [List.length_map] at hi
      obtain rfl : x = nV (m.others h0 door)[i] := by
        rw [List.getElem?_map, List.getElem?_eq_getElem hi] at hx
        exact (Option.some.inj hx).symm
      have et : (m.others h0 door).take (i + 1) = (m.others h0 door).take i ++ [(m.others h0 door)[i]] := by rw [List.take_add_one, List.getElem?_eq_getElem hi]; rfl
      have hom := TM.others_mem (List.getElem_mem hi)
      have k3 := ok ((m.others h0 door).take i) fun o ho => List.mem_of_mem_take ho
      rw [et, List.foldl_append]
      generalize (m.others h0 door)[i] = o at hom
      have hh3 : (((m.others h0 door).take i).foldl (TM.meet h0) m).houses = m.houses := TM.fold_houses
      have hmo := k.hN _ hom.1
      have hmh := k.hN _ hm
      generalize ((m.others h0 door).take i).foldl (TM.meet h0) m = m3 at t3 k3 hh3 ⊢
      walk_at "wx"
      refine wc_l_hears (B := { B with ra := ra3, kl := kl3 }) rfl rfl t3 k3 (by rw [hh3]; exact hm) hmo (Ne.symm hom.2) fun H4 G4 ra4 kl4 fr4 hG4 t4 => ?_
      have k4 := k3.hears (h := h0) hmo
      walk_at "wx"
      refine wc_l_hears (B := { B with ra := ra4, kl := kl4 }) rfl rfl t4 k4 (by rw [TM.hears_houses, hh3]; exact hom.1) hmh hom.2 fun H5 G5 ra5 kl5 fr5 hG5 t5 => ?_
      have fr4' : Fr (MaS B m) H3 H4 := fr4.mono fun a z => ⟨h0, hm, z⟩
      have fr5' : Fr (MaS B m) H4 H5 := fr5.mono fun a z => ⟨o, hom.1, z⟩
      have hp4 := fr4'.at hp3 nMa
      refine ⟨_, G5, ra5, kl5, rfl, (fr3.trans fr4').trans fr5', fr5'.at hp4 nMa, fun z => ?_, fun a z => ?_, t5⟩
      · rcases hG5 p2 z with z | z
        · rcases hG4 p2 z with z | z
          · exact nG3 z
          · rw [hp3] at z; cases z
        · rw [hp4] at z; cases z
      · rcases hG5 a z with z | z
        · rcases hG4 a z with z | z
          · exact hG3 a z
          · exact .inr (fr3.back a z)
        · exact .inr (fr3.back a (fr4'.back a z))
    · rintro σ H3 ⟨v, G3, ra3, kl3, rfl, fr3, hp3, nG3, hG3, t3⟩
      rw [List.length_map, List.take_length] at t3
      walk_at "wx"
      exact q p2 H3 G3 ra3 kl3 hp20 fr3 hp3 nG3 hG3 t3
def sp_l_come (T : Tx K mg base) : Sp := fun vs H Q _ => ∃ (B : MA) (G : Addr → Prop) (m : TM) (N : List Nat) (ext : List (Key × V)) (n : Nat) (door : Option Nat), vs = [.ref B.md, .int n, oN door] ∧ ModAt H B G m ext ∧ Open H B m ∧ m.Ok N ∧ n ∈ N ∧ n ∉ m.houses ∧ (∀ d, door = some d → d ∈ m.houses) ∧
  ∀ p H' B' G', H p = none → Fr G H H' → H' p = some (.lst ((m.told n door).map nV)) → ¬ G' p → B'.md = B.md → (∀ a, G' a → G a ∨ H a = none) → ModAt H' B' G' (m.comes n door) ext → Open H' B' (m.comes n door) → Q (.ref p) H'
theorem wc_l_come {N : List Nat} {n : Nat} {door : Option Nat} {i : Int} {v : V} (hi : i = n) (hv : v = oN door) (t : ModAt H B G m ext) (op : Open H B m) (k : m.Ok N) (hn : n ∈ N) (hm : n ∉ m.houses) (hd : ∀ d, door = some d → d ∈ m.houses)
    (q : ∀ p H' B' G', H p = none → Fr G H H' → H' p = some (.lst ((m.told n door).map nV)) → ¬ G' p → B'.md = B.md → (∀ a, G' a → G a ∨ H a = none) → ModAt H' B' G' (m.comes n door) ext → Open H' B' (m.comes n door) → Q (.ref p) H') : sp_l_come T [.ref B.md, .int i, v] H Q E := by
  subst hi hv; exact ⟨B, G, m, N, ext, n, door, rfl, t, op, k, hn, hm, hd, q⟩
theorem ok_l_come (T : Tx K mg base) : FnOk P w K mg base CX0 4 T.a_l_come T.d_l_come ["_law_model", "_law_name_here", "_law_door"] (sp_l_come T) := by
  refine T.F_l_come.okD sc_l_come (fun vs H Q E h => ?_) (fun cdv A outer s H vs Q E hr h => ?_)
  · obtain ⟨B, G, m, N, ext, n, door, rfl, _⟩ := h; rfl
  · obtain ⟨B, G, m, N, ext, n, door, rfl, t, op, k, hn, hm, hdo, q⟩ := h
    have hu := hu_of hr
    have et := modD_t (B := B) (room := m.room) (ext := ext)
    have md := t.md
    have hhl := k.houses_len
    obtain ⟨d1, d2, d3, d4, d5⟩ := t.dj
    obtain ⟨g1, g2, g3, g4⟩ := t.gg
    have c_Bucket := T.c_Bucket; have n_Bucket_room := T.n_Bucket_room; have n_Bucket_line := T.n_Bucket_line; have c_Table := T.c_Table; have n_Table_own := T.n_Table_own; have n_Table_wide := T.n_Table_wide; have n_Table_room := T.n_Table_room; have n_Table_buckets := T.n_Table_buckets; have c_Town := T.c_Town; have n_Town_wide := T.n_Town_wide; have n_Town_room := T.n_Town_room; have n_Town_tables := T.n_Town_tables; have n_Town_hushed := T.n_Town_hushed
    refine ⟨_, (pss_cons (ps_dput hu (pe_dget hu (pv 0) pe_str (fun _ _ => rfl)) (pv 1) pe_dnewK rfl)
      (pss_cons (ps_if (pt_cmpR op_isNn (pv 2) pe_non (nomark _))
      (pss_one (ps_ret (pe_lst pa_nil)))
      pss_nil)
      (pss_one (ps_ret (pe_call (ok_l_visit T) hr rfl T.m_l_visit T.F_l_visit.kp T.b_l_visit .nil pass0 (pa_cons (pv 0) (pa_cons (pv 1) (pa_cons (pv 2) pa_nil)))))))), ?_⟩
    rw [Nn.st_l_come]; try rw [Nn.cxK]
    try rw [Nn.cxW]
    walk_at "wx"
    refine x_dnew fun p hp => ?_
    have ex1 := Ex.new (o := .dK []) hp
    have t1 := t.ex' ex1
    have op1 : upd H p (.dK []) B.mt = some (.dK (dOf m.houses fun h => .ref (B.ma h))) := ex1.at op
    have md1 := t1.md
    have hp1 := upd_same (H := H) (a := p) (o := .dK [])
    generalize upd H p (.dK []) = H1 at ex1 t1 op1 md1 hp1 ⊢
    walk_at "wx"
    refine x_dput op1 (by rw [sizeLine_eq, dOf_len]; omega) ?_
    have ep : putK (dOf m.houses fun h => .ref (B.ma h)) (Sum.inl (n : Int)) (.ref p) = dOf (m.add n).houses fun h => .ref (if h = n then p else B.ma h) := by
      have q := dOf_upd (hs := m.houses) (f := fun h => V.ref (B.ma h)) (n := n) (v := .ref p)
      rw [if_neg hm] at q
      rw [TM.add_houses]
      refine q.trans ?_
      congr 1
      funext y
      by_cases z : y = n
      · rw [if_pos z, if_pos z]
      · rw [if_neg z, if_neg z]
    rw [ep]
    have f2 := Fr.upd1 (o := .dK (dOf (m.add n).houses fun h => .ref (if h = n then p else B.ma h))) op1
    have op2 := upd_same (H := H1) (a := B.mt) (o := .dK (dOf (m.add n).houses fun h => .ref (if h = n then p else B.ma h)))
    have npt : p ≠ B.mt := fun z => by rw [z, op] at hp; cases hp
    have npq : p ≠ B.mq := fun z => by rw [z, t.mq] at hp; cases hp
    have npd : p ≠ B.md := fun z => by rw [z, t.md] at hp; cases hp
    have hp2 := f2.at hp1 npt
    generalize upd H1 B.mt (.dK (dOf (m.add n).houses fun h => .ref (if h = n then p else B.ma h))) = H2 at f2 op2 hp2 ⊢
    have t2 : ModAt H2 { B with ma := fun h => if h = n then p else B.ma h, kl := fun h => if h = n then [] else B.kl h } (fun a => G a ∨ a = p) (m.add n) ext := by
      have old : ∀ x ∈ m.houses, x ≠ n := fun x hx z => hm (by rw [← z]; exact hx)
      have split : ∀ x, x ∈ (m.add n).houses → x ∈ m.houses ∨ x = n := fun x hx => by
        rw [TM.add_houses] at hx
        exact (List.mem_append.mp hx).imp id List.mem_singleton.mp
      refine ⟨f2.at t1.md d2.symm, .inl op2, f2.at t1.mq d1.symm, fun x hx => ?_, fun x hx y hy => ?_, fun x hx => ?_, ⟨.inl g1, .inl g2, .inl g3, fun x hx => ?_⟩, ⟨d1, d2, d3, fun x hx => ?_, fun x hx y hy hxy => ?_⟩, fun a ha e => ?_⟩
      · show H2 (if x = n then p else B.ma x) = some (.dK (dOf (if x = n then [] else B.kl x) fun k => .ref (B.ra x k)))
        rcases split x hx with hx | hx
        · rw [if_neg (old x hx), if_neg (old x hx)]
          exact f2.at (t1.ma x hx) (d4 x hx).1
        · rw [if_pos hx, if_pos hx]; exact hp2
      · have hy : y ∈ (if x = n then [] else B.kl x) := hy
        show H2 (B.ra x y) = _
        rw [TM.add_tab hm]
        rcases split x hx with hx | hx
        · rw [if_neg (old x hx)] at hy ⊢
          refine f2.at (t1.ra x hx y hy) fun z => ?_
          have e := t1.ra x hx y hy
          rw [z, op1] at e; cases e
        · rw [if_pos hx] at hy; cases hy
      · show (if x = n then [] else B.kl x).Nodup ∧ (∀ y ∈ (if x = n then [] else B.kl x), y < m.wide) ∧ ∀ y, y ∉ (if x = n then [] else B.kl x) → _
        rw [TM.add_tab hm]
        rcases split x hx with hx | hx
        · rw [if_neg (old x hx), if_neg (old x hx)]
          exact t.kl x hx
        · rw [if_pos hx, if_pos hx]
          refine ⟨List.nodup_nil, fun y hy => (by cases hy), fun y _ => ?_⟩
          rw [List.getD_eq_getElem?_getD, List.getElem?_replicate]
          split <;> rfl
      · show (G (if x = n then p else B.ma x) ∨ (if x = n then p else B.ma x) = p) ∧ ∀ y ∈ (if x = n then [] else B.kl x), G (B.ra x y) ∨ B.ra x y = p
        rcases split x hx with hx | hx
        · rw [if_neg (old x hx), if_neg (old x hx)]
          exact ⟨.inl (g4 x hx).1, fun y hy => .inl ((g4 x hx).2 y hy)⟩
        · rw [if_pos hx, if_pos hx]
          exact ⟨.inr rfl, fun y hy => by cases hy⟩
      · show (if x = n then p else B.ma x) ≠ B.mt ∧ (if x = n then p else B.ma x) ≠ B.mq ∧ (if x = n then p else B.ma x) ≠ B.md
        rcases split x hx with hx | hx
        · rw [if_neg (old x hx)]; exact d4 x hx
        · rw [if_pos hx]; exact ⟨npt, npq, npd⟩
      · show (if x = n then p else B.ma x) ≠ (if y = n then p else B.ma y)
        have nma : ∀ x ∈ m.houses, B.ma x ≠ p := fun x hx z => by
          have e := t.ma x hx
          rw [z, hp] at e; cases e
        rcases split x hx with hx | hx <;> rcases split y hy with hy | hy
        · rw [if_neg (old x hx), if_neg (old y hy)]; exact d5 x hx y hy hxy
        · rw [if_neg (old x hx), if_pos hy]; exact nma x hx
        · rw [if_pos hx, if_neg (old y hy)]; exact (nma y hy).symm
        · exact absurd (hx.trans hy.symm) hxy
      · rcases ha with ha | ha
        · exact t1.ex a ha (f2.back a e)
        · rw [ha, hp2] at e; cases e
    have opn : Open H2 { B with ma := fun h => if h = n then p else B.ma h, kl := fun h => if h = n then [] else B.kl h } (m.add n) := op2
    have fr02 : Fr G H H2 := (ex1.fr (S := G)).trans (f2.mono fun a z => by rw [z]; exact g2)
    have hG2 : ∀ a, (G a ∨ a = p) → G a ∨ H a = none := fun a z => z.imp id fun z => by rw [z]; exact hp
    clear f2 hp2 t1 op1 md1 hp1
    cases door with
    | none =>
      have eo : oN none = .non := rfl
      rw [eo]
      walk_at "wx"
      refine ⟨len_ok rfl, fun r hr => ?_⟩
      have exr := Ex.new (o := .lst []) hr
      exact q r _ { B with ma := fun h => if h = n then p else B.ma h, kl := fun h => if h = n then [] else B.kl h } _ (fr02.back r hr) (fr02.trans exr.fr) upd_same (fun z => t2.ex r z hr) rfl hG2 (t2.ex' exr) (exr.at opn)
    | some d =>
      have eo : oN (some d) = nV d := rfl
      rw [eo]
      walk_at "wx"
      have hn' : n ∈ (m.add n).houses := by rw [TM.add_houses]; simp
      have hd' : d ∈ (m.add n).houses := by rw [TM.add_houses]; exact List.mem_append.mpr (.inl (hdo d rfl))
      refine wc_l_visit (B := { B with ma := fun h => if h = n then p else B.ma h, kl := fun h => if h = n then [] else B.kl h }) rfl rfl t2 opn (k.add hm hn) hn' hd' fun r H3 G3 ra3 kl3 hr fr3 hr3 nG3 hG3 t3 => ?_
      refine q r H3 { B with ma := fun h => if h = n then p else B.ma h, ra := ra3, kl := kl3 } G3 (fr02.back r hr) (fr02.trans2 (F' := MaS { B with ma := fun h => if h = n then p else B.ma h, kl := fun h => if h = n then [] else B.kl h } (m.add n)) fr3 fun a z => ?_) hr3 nG3 rfl (fun a z => ?_) t3 ?_
      · obtain ⟨x, hx, e⟩ := z
        rw [e]; exact hG2 _ (t2.gg.2.2.2 x hx).1
      · rcases hG3 a z with z | z
        · exact hG2 a z
        · exact .inr (fr02.back a z)
      · have o3 := opn.fr t2 fr3
        unfold Open at o3 ⊢
        have eh : (m.comes n (some d)).houses = (m.add n).houses := TM.fold_houses
        rw [eh]; exact o3
end
end Nn
/-! both alike; sizes drawn, houses drawn, names drawn -/
namespace Nn
open PySem L2
section
variable {P : Program} {w : World} {K : PySem.W.Frag} {mg : Str → Option Value} {base : Heap} {H H' : Hp} {Q : VK} {E : XK} {T : Tx K mg base} {A : TA} {F : Addr → Prop} {B : MA} {G S : Addr → Prop} {m : TM} {ext : List (Key × V)}
theorem TM.live_eq : ((sortU m.houses).filter fun x => !decide (x ∈ m.hush)) = m.live := List.filter_congr fun x hx => by
  unfold TM.aw
  rw [decide_eq_true (mem_sortU.mp hx), Bool.true_and]
theorem TM.live_len : m.live.length ≤ m.houses.length := nodup_len (rising_nodup ((sortU_sorted _).filter _)) fun x hx => mem_sortU.mp (List.mem_filter.mp hx).1
theorem sortU_le {l : List Nat} : (sortU l).length ≤ l.length := nodup_len (rising_nodup (sortU_sorted _)) fun _ h => mem_sortU.mp h
def sp_l_alike (T : Tx K mg base) : Sp := fun vs H Q _ => ∃ (A : TA) (F : Addr → Prop) (B : MA) (G : Addr → Prop) (m : TM) (N : List Nat) (ext : List (Key × V)), vs = [.ref A.t, .ref B.md] ∧ TownAt T H A F m ∧ ModAt H B G m ext ∧ Open H B m ∧ m.Ok N ∧ (∀ a, ¬ (F a ∧ G a)) ∧ ∀ H', Ex H H' → Q (.bl true) H'
theorem wc_l_alike {N : List Nat} (ta : TownAt T H A F m) (tm : ModAt H B G m ext) (op : Open H B m) (k : m.Ok N) (dj : ∀ a, ¬ (F a ∧ G a)) (q : ∀ H', Ex H H' → Q (.bl true) H') : sp_l_alike T [.ref A.t, .ref B.md] H Q E := ⟨A, F, B, G, m, N, ext, rfl, ta, tm, op, k, dj, q⟩
theorem ok_l_alike (T : Tx K mg base) : FnOk P w K mg base CX0 4 T.a_l_alike T.d_l_alike ["_law_town", "_law_model"] (sp_l_alike T) := by
  refine T.F_l_alike.okD sc_l_alike (fun vs H Q E h => ?_) (fun cdv A outer s H vs Q E hr h => ?_)
  · obtain ⟨A, F, B, G, m, N, ext, rfl, _⟩ := h; rfl
  · obtain ⟨A1, F, B, G, m, N, ext, rfl, ta, tm, op, k, dj, q⟩ := h
    have hu := hu_of hr
    obtain ⟨dx, ob⟩ := ta.tw.ob
    have et := modD_t (B := B) (room := m.room) (ext := ext)
    have eq := modD_q (B := B) (room := m.room) (ext := ext)
    have hz := k.houses_len
    have md := tm.md
    have mt := tm.mt
    have c_Bucket := T.c_Bucket; have n_Bucket_room := T.n_Bucket_room; have n_Bucket_line := T.n_Bucket_line; have c_Table := T.c_Table; have n_Table_own := T.n_Table_own; have n_Table_wide := T.n_Table_wide; have n_Table_room := T.n_Table_room; have n_Table_buckets := T.n_Table_buckets; have c_Town := T.c_Town; have n_Town_wide := T.n_Town_wide; have n_Town_room := T.n_Town_room; have n_Town_tables := T.n_Town_tables; have n_Town_hushed := T.n_Town_hushed
    refine ⟨_, (pss_cons (ps_setLc (i := 2) (own := [("_law_house", 3)]) (g := (gName 3)) (by rfl) sc_l_alike.nd rfl rfl (sw_true rfl rfl rfl (by decide +kernel)) (pi_list (pe_callB (cb_sortD rfl) (by rfl) T.z_sorted (by decide +kernel) (pa_cons (pe_dget hu (pv 1) pe_str (fun _ _ => rfl)) pa_nil))) (blkOk_by (N := N_l_alike) (sc := defScope s_l_alike) (own := [("_law_house", 3)]) (by decide +kernel)) (fun _ _ _ _ _ => (pg_name (i := 3) sc_l_alike.nd rfl (Or.inl rfl))) (fun _ _ _ _ _ => pts_one ((pt_cmp (pc_dnotin hu (pv 3) (pe_dget hu (pv 1) pe_str (fun _ _ => rfl)))))) (fun _ _ _ _ _ => (pv 3)))
      (pss_cons (ps_if (PW.pt (pw_or (pt_cmpR (op_neD hr.units) (pe_meth0 (pv 0) T.c_Town T.t_Town_houses (ok_Town_houses T) (hr.mono (by decide)) T.b_Town_houses .nil pass0) (pe_callB (cb_sortD rfl) (by rfl) T.z_sorted (by decide +kernel) (pa_cons (pe_dget hu (pv 1) pe_str (fun _ _ => rfl)) pa_nil)) (nomark _)) (pw_or1 (pt_cmpR (op_neD hr.units) (pe_meth0 (pv 0) T.c_Town T.t_Town_answering (ok_Town_answering T) (hr.mono (by decide)) T.b_Town_answering .nil pass0) (pv 2) (nomark _)))))
      (pss_one (ps_ret pe_bl))
      pss_nil)
      (pss_cons (ps_lock (ps_for PassesOwn.never rfl (pi_keys (pe_dget hu (pv 1) pe_str (fun _ _ => rfl))) (pg_name (i := 3) sc_l_alike.nd rfl (Or.inl rfl))
      (pss_cons (ps_if (pt_cmpR (op_neD hr.units) (pe_meth (pv 0) T.c_Town T.t_Town_keeps (ok_Town_keeps T) hr T.b_Town_keeps .nil pass0 (pa_cons (pv 3) pa_nil)) (pe_call (ok_l_keeps T) (hr.mono (by decide)) rfl T.m_l_keeps T.F_l_keeps.kp T.b_l_keeps .nil pass0 (pa_cons (pv 1) (pa_cons (pv 3) pa_nil))) (nomark _))
      (pss_one (ps_ret pe_bl))
      pss_nil)
      (pss_one (ps_lock (ps_for PassesOwn.never rfl (pi_keys (pe_dget hu (pe_dget hu (pv 1) pe_str (fun _ _ => rfl)) (pv 3) (fun _ _ => rfl))) (pg_name (i := 4) sc_l_alike.nd rfl (Or.inl rfl))
      (pss_one (ps_if (pt_cmpR (op_neD hr.units) (pe_meth (pv 0) T.c_Town T.t_Town_bucket (ok_Town_bucket T) hr T.b_Town_bucket .nil pass0 (pa_cons (pv 3) (pa_cons (pv 4) pa_nil))) (pe_dget hu (pe_dget hu (pe_dget hu (pv 1) pe_str (fun _ _ => rfl)) (pv 3) (fun _ _ => rfl)) (pv 4) (fun _ _ => rfl)) (nomark _))
      (pss_one (ps_ret pe_bl))
      pss_nil))))))))
      (pss_one (ps_ret pe_bl))))), ?_⟩
    rw [Nn.st_l_alike]; try rw [Nn.cxK]
    try rw [Nn.cxW]
    walk_at "wx"
    refine x_sortDN mt hz k.nd fun p1 hp1 => ?_
    have ex1 := Ex.new (o := .lst ((sortU m.houses).map nV)) hp1
    have h11 := upd_same (H := H) (a := p1) (o := .lst ((sortU m.houses).map nV))
    generalize upd H p1 (.lst ((sortU m.houses).map nV)) = H1 at ex1 h11 ⊢
    have hsl := sortU_le (l := m.houses)
    walk_at "wx"
    refine LcW.filt (emb := nV) (xs := sortU m.houses) (fun x => !decide (x ∈ m.hush)) (SqL.of h11) (by rw [sizeLine_eq]; omega) (fun x _ H2 ex2 R hR => ?_) (fun x _ _ H2 ex2 Qe hQ => ?_) fun p2 H2 hp2 ex2 h2 => ?_
    · have tm2 := tm.ex' (ex1.trans ex2)
      have md2 := tm2.md
      have mq2 := tm2.mq
      have e2 : (valV (dOf m.hush fun _ => .bl true) (Sum.inl (x : Int))).isSome = decide (x ∈ m.hush) := dOf_has
      walk_at "wx"
      rw [e2]
      exact hR _ Ex.refl
    · walk_at "wx"
      exact hQ
    rw [TM.live_eq] at h2
    have ex02 := ex1.trans ex2
    have ta2 := ta.ex' ex02
    have md2 := ex02.at md
    have mt2 := Rd.fr mt ex02 id
    obtain ⟨dx2, ob2⟩ := ta2.tw.ob
    walk_at "wx"
    refine wc_Town_houses ta2 hz k.nd fun p3 hp3 => ?_
    have ex3 := Ex.new (o := .lst ((sortU m.houses).map nV)) hp3
    have h33 := upd_same (H := H2) (a := p3) (o := .lst ((sortU m.houses).map nV))
    generalize upd H2 p3 (.lst ((sortU m.houses).map nV)) = H3 at ex3 h33 ⊢
    have md3 := ex3.at md2
    have mt3 := Rd.fr mt2 ex3 id
    walk_at "wx"
    refine x_sortDN mt3 hz k.nd fun p4 hp4 => ?_
    have ex4 := ex3.newT (o := .lst ((sortU m.houses).map nV)) hp4
    have h34 := at_new (o := .lst ((sortU m.houses).map nV)) hp4 h33
    have h44 := upd_same (H := H3) (a := p4) (o := .lst ((sortU m.houses).map nV))
    generalize upd H3 p4 (.lst ((sortU m.houses).map nV)) = H4 at ex4 h34 h44 ⊢
    have ex04 := ex02.trans ex4
    have ta4 := ta.ex' ex04
    obtain ⟨dx4, ob4⟩ := ta4.tw.ob
    have h24 := ex4.at h2
    walk_at "wx"
    refine wc_Town_answering ta4 hz k.nd fun p5 H5 hp5 ex5 h55 => ?_
    have ex05 := ex04.trans ex5
    have h25 := ex5.at h24
    have md5 := ex05.at md
    have mt5 := Rd.fr mt ex05 id
    have op5 : H5 B.mt = some (.dK (dOf m.houses fun h => .ref (B.ma h))) := ex05.at op
    have tm5 := tm.ex' ex05
    have ta5 := ta.ex' ex05
    obtain ⟨d1, d2, d3, d4, d5⟩ := tm.dj
    obtain ⟨g1, g2, g3, g4⟩ := tm.gg
    walk_at "wx"
    refine x_lock op5 fun od => ?_
    have tm6 := tm5.lock (od := od) op5
    have f6 := Fr.upd1 (o := .frz od (.dK (dOf m.houses fun h => .ref (B.ma h)))) op5
    have ta6 := ta5.fr f6 fun a z => by rw [z]; exact fun f => dj _ ⟨f, g2⟩
    have mt6 := upd_same (H := H5) (a := B.mt) (o := .frz od (.dK (dOf m.houses fun h => .ref (B.ma h))))
    have md6 := tm6.md
    generalize hH6 : upd H5 B.mt (.frz od (.dK (dOf m.houses fun h => .ref (B.ma h)))) = H6 at tm6 ta6 mt6 md6 ⊢
    have mtR6 : Rd H6 B.mt _ := .inr ⟨od, mt6⟩
    walk_at "wx"
    refine ForW.by walk_keys (fun i σ H' => ∃ (v2 v3 v4 : Option V), σ = [some (.ref A1.t), some (.ref B.md), v2, v3, v4] ∧ Ex H6 H') ⟨_, _, _, rfl, Ex.refl⟩ (fun i σ H' _ ⟨_, _, _, _, e⟩ => e.at mt6) ?_ ?_
    · rintro i x σ _ H7 hi ⟨v2, v3, v4, rfl, ex7⟩ ⟨rfl, kk, vv, hkv, rfl⟩
      rw [dOf_len] at hi
      have ek : kk = nK m.houses[i] := by
        unfold dOf at hkv
        rw [List.getElem?_map, List.getElem?_eq_getElem hi] at hkv
        exact (congrArg Prod.fst (Option.some.inj hkv)).symm
      subst ek
      have hm := List.getElem_mem hi
      generalize m.houses[i] = h0 at hm
      have ekv : kV (nK h0) = .int (h0 : Int) := rfl
      rw [ekv]
      have ta7 := ta6.ex' ex7
      have tm7 := tm6.ex' ex7
      obtain ⟨dx7, ob7⟩ := ta7.tw.ob
      have k0 := k.tabOk hm
      have hkl := k.keeps_len hm
      have en : valV (dOf m.houses fun h => .ref (B.ma h)) (Sum.inl (h0 : Int)) = some (.ref (B.ma h0)) := by
        have q := dOf_val (f := fun h => V.ref (B.ma h)) (n := h0) (hs := m.houses)
        rw [if_pos hm] at q; exact q
      walk_at "wx"
      refine wc_Town_keeps rfl ta7 k.w1 (k.bd hm) hm k0.nodup (by omega) fun p8 H8 hp8 ex8 h88 => ?_
      have tm8 := tm7.ex' ex8
      walk_at "wx"
      refine wc_l_keeps rfl tm8 k hm fun p9 H9 hp9 ex9 h99 => ?_
      have h89 := ex9.at h88
      have ex69 := ex7.trans (ex8.trans ex9)
      have tm9 := tm8.ex' ex9
      have ta9 := ta6.ex' ex69
      have md9 := tm9.md
      have mt9 := tm9.mt
      have ma9 := tm9.ma h0 hm
      walk_at "wx"
      refine x_lock ma9 fun od2 => ?_
      have f10 := Fr.upd1 (o := .frz od2 (.dK (dOf (B.kl h0) fun k => .ref (B.ra h0 k)))) ma9
      have ta10 := ta9.fr f10 fun a z => by rw [z]; exact fun f => dj _ ⟨f, (g4 h0 hm).1⟩
      have ma10 := upd_same (H := H9) (a := B.ma h0) (o := .frz od2 (.dK (dOf (B.kl h0) fun k => .ref (B.ra h0 k))))
      have md10 := f10.at md9 (d4 h0 hm).2.2.symm
      have mt10 := Rd.fr mt9 f10 (d4 h0 hm).1.symm
      have ra10 : ∀ k ∈ B.kl h0, upd H9 (B.ma h0) (.frz od2 (.dK (dOf (B.kl h0) fun k => .ref (B.ra h0 k)))) (B.ra h0 k) = some (.lst (((m.tab h0).getD k []).map nV)) := fun k hk => f10.at (tm9.ra h0 hm k hk) fun z => by
        have e := tm9.ra h0 hm k hk
        rw [z, ma9] at e; cases e
      generalize hH10 : upd H9 (B.ma h0) (.frz od2 (.dK (dOf (B.kl h0) fun k => .ref (B.ra h0 k)))) = H10 at ta10 ma10 md10 mt10 ra10 ⊢
      have maR10 : Rd H10 (B.ma h0) _ := .inr ⟨od2, ma10⟩
      walk_at "wx"
      refine ForW.by walk_keys (fun j σ H' => ∃ (v2 v4 : Option V), σ = [some (.ref A1.t), some (.ref B.md), v2, some (.int (h0 : Int)), v4] ∧ Ex H10 H') ⟨_, _, rfl, Ex.refl⟩ (fun i σ H' _ ⟨_, _, _, e⟩ => e.at ma10) ?_ ?_
      · rintro j x σ _ H11 hj ⟨v2, v4, rfl, ex11⟩ ⟨rfl, kk, vv, hkv, rfl⟩
        rw [dOf_len] at hj
        have ek : kk = nK (B.kl h0)[j] := by
          unfold dOf at hkv
          rw [List.getElem?_map, List.getElem?_eq_getElem hj] at hkv
          exact (congrArg Prod.fst (Option.some.inj hkv)).symm
        subst ek
        have hkm := List.getElem_mem hj
        generalize (B.kl h0)[j] = kx at hkm
        have ekv : kV (nK kx) = .int (kx : Int) := rfl
        rw [ekv]
        have hkw := (tm.kl h0 hm).2.1 kx hkm
        have ta11 := ta10.ex' ex11
        obtain ⟨dx11, ob11⟩ := ta11.tw.ob
        have md11 := ex11.at md10
        have mt11 := Rd.fr mt10 ex11 id
        have ma11 := Rd.fr maR10 ex11 id
        have ra11 := ex11.at (ra10 kx hkm)
        have er : valV (dOf (B.kl h0) fun k => .ref (B.ra h0 k)) (Sum.inl (kx : Int)) = some (.ref (B.ra h0 kx)) := by
          have q := dOf_val (f := fun k => V.ref (B.ra h0 k)) (n := kx) (hs := B.kl h0)
          rw [if_pos hkm] at q; exact q
        walk_at "wx"
        refine wc_Town_bucket rfl rfl ta11 k.w1 (k.bd hm) hm hkw fun p12 hp12 => ?_
        have ex12 := Ex.new (o := .lst (((m.tab h0).getD kx []).map nV)) hp12
        have h12 := upd_same (H := H11) (a := p12) (o := .lst (((m.tab h0).getD kx []).map nV))
        have md12 := ex12.at md11
        have mt12 := Rd.fr mt11 ex12 id
        have ma12 := Rd.fr ma11 ex12 id
        have ra12 := ex12.at ra11
        generalize upd H11 p12 (.lst (((m.tab h0).getD kx []).map nV)) = H12 at ex12 h12 md12 mt12 ma12 ra12 ⊢
        walk_at "wx"
        exact ⟨_, _, rfl, ex11.trans ex12⟩
      · rintro σ H11 ⟨v2, v4, rfl, ex11⟩
        exact ⟨ex11.at ma10, _, _, _, rfl, ex69.trans (Ex.unlock ma9 (by rw [hH10]; exact ex11))⟩
    · rintro σ H7 ⟨v2, v3, v4, rfl, ex7⟩
      refine ⟨ex7.at mt6, ?_⟩
      have ex57 := Ex.unlock op5 (od := od) (by rw [hH6]; exact ex7)
      walk_at "wx"
      exact q _ (ex05.trans ex57)
def sp_l_some (_ : Tx K mg base) : Sp := fun vs H Q _ => ∃ (B : MA) (G : Addr → Prop) (m : TM) (ext : List (Key × V)) (c : Nat), vs = [.ref B.md, .int c] ∧ ModAt H B G m ext ∧ m.houses.length < 64 ∧ m.houses.Nodup ∧ ∀ (d : Option Nat) H', Ex H H' → (∀ x, d = some x → m.aw x = true) → (d = none → m.live = []) → Q (oN d) H'
theorem wc_l_some {c : Nat} {i : Int} (hi : i = c) (t : ModAt H B G m ext) (hz : m.houses.length < 64) (nd : m.houses.Nodup) (q : ∀ (d : Option Nat) H', Ex H H' → (∀ x, d = some x → m.aw x = true) → (d = none → m.live = []) → Q (oN d) H') : sp_l_some T [.ref B.md, .int i] H Q E := by
  subst hi; exact ⟨B, G, m, ext, c, rfl, t, hz, nd, q⟩
theorem ok_l_some (T : Tx K mg base) : FnOk P w K mg base CX0 1 T.a_l_some T.d_l_some ["_law_model", "_law_cell"] (sp_l_some T) := by
  refine T.F_l_some.okD sc_l_some (fun vs H Q E h => ?_) (fun cdv A outer s H vs Q E hr h => ?_)
  · obtain ⟨B, G, m, ext, c, rfl, _⟩ := h; rfl
  · obtain ⟨B, G, m, ext, c, rfl, tm, hz, nd, q⟩ := h
    have hu := hu_of hr
    have et := modD_t (B := B) (room := m.room) (ext := ext)
    have eq := modD_q (B := B) (room := m.room) (ext := ext)
    have md := tm.md
    have mt := tm.mt
    have c_Bucket := T.c_Bucket; have n_Bucket_room := T.n_Bucket_room; have n_Bucket_line := T.n_Bucket_line; have c_Table := T.c_Table; have n_Table_own := T.n_Table_own; have n_Table_wide := T.n_Table_wide; have n_Table_room := T.n_Table_room; have n_Table_buckets := T.n_Table_buckets; have c_Town := T.c_Town; have n_Town_wide := T.n_Town_wide; have n_Town_room := T.n_Town_room; have n_Town_tables := T.n_Town_tables; have n_Town_hushed := T.n_Town_hushed
    refine ⟨_, (pss_cons (ps_setLc (i := 2) (own := [("_law_house", 3)]) (g := (gName 3)) (by rfl) sc_l_some.nd rfl rfl (sw_true rfl rfl rfl (by decide +kernel)) (pi_list (pe_callB (cb_sortD rfl) (by rfl) T.z_sorted (by decide +kernel) (pa_cons (pe_dget hu (pv 0) pe_str (fun _ _ => rfl)) pa_nil))) (blkOk_by (N := N_l_some) (sc := defScope s_l_some) (own := [("_law_house", 3)]) (by decide +kernel)) (fun _ _ _ _ _ => (pg_name (i := 3) sc_l_some.nd rfl (Or.inl rfl))) (fun _ _ _ _ _ => pts_one ((pt_cmp (pc_dnotin hu (pv 3) (pe_dget hu (pv 0) pe_str (fun _ _ => rfl)))))) (fun _ _ _ _ _ => (pv 3)))
      (pss_cons (ps_if (pt_cmpR (op_eqD hr.units) (pv 2) (pe_lst pa_nil) (nomark _))
      (pss_one (ps_ret pe_non))
      pss_nil)
      (pss_one (ps_ret (pe_ix ix_list (pv 2) (pe_op op_mod (pv 1) (pe_callB cb_len (by rfl) T.z_len PySem.boot_len (pa_cons (pv 2) pa_nil))) (fun _ _ => rfl)))))), ?_⟩
    rw [Nn.st_l_some]; try rw [Nn.cxK]
    try rw [Nn.cxW]
    walk_at "wx"
    refine x_sortDN mt hz nd fun p1 hp1 => ?_
    have ex1 := Ex.new (o := .lst ((sortU m.houses).map nV)) hp1
    have h11 := upd_same (H := H) (a := p1) (o := .lst ((sortU m.houses).map nV))
    generalize upd H p1 (.lst ((sortU m.houses).map nV)) = H1 at ex1 h11 ⊢
    have hsl := sortU_le (l := m.houses)
    walk_at "wx"
    refine LcW.filt (emb := nV) (xs := sortU m.houses) (fun x => !decide (x ∈ m.hush)) (SqL.of h11) (by rw [sizeLine_eq]; omega) (fun x _ H2 ex2 R hR => ?_) (fun x _ _ H2 ex2 Qe hQ => ?_) fun p2 H2 hp2 ex2 h2 => ?_
    · have tm2 := tm.ex' (ex1.trans ex2)
      have md2 := tm2.md
      have mq2 := tm2.mq
      have e2 : (valV (dOf m.hush fun _ => .bl true) (Sum.inl (x : Int))).isSome = decide (x ∈ m.hush) := dOf_has
      walk_at "wx"
      rw [e2]
      exact hR _ Ex.refl
    · walk_at "wx"
      exact hQ
    rw [TM.live_eq] at h2
    have ex02 := ex1.trans ex2
    walk_at "wx"
    refine ⟨len_ok rfl, fun p3 hp3 => ?_⟩
    have ex3 := ex02.newT (o := .lst []) hp3
    have h23 := at_new (o := .lst []) hp3 h2
    have h33 := upd_same (H := H2) (a := p3) (o := .lst [])
    generalize upd H2 p3 (.lst []) = H3 at ex3 h23 h33 ⊢
    refine x_eqLN (ys := []) (SqL.of h23) (SqL.of h33) ?_
    walk_at "wx"
    refine x_ifD (fun e => ?_) fun e => ?_
    · walk_at "wx"
      exact q none H3 ex3 (fun x z => by cases z) fun _ => e
    · walk_at "wx"
      rw [List.length_map]
      have hl : 0 < m.live.length := List.length_pos_iff.mpr e
      refine x_i (by omega) ?_
      have ec : (c : Int) % (m.live.length : Int) = ((c % m.live.length : Nat) : Int) := by simp
      rw [ec]
      have hj := Nat.mod_lt c hl
      refine x_ixL (SqL.of h23) (atI_nV hj) ?_
      exact q (some _) H3 ex3 (fun x z => by cases z; exact TM.mem_live.mp (List.getElem_mem hj)) fun z => by cases z
def sp_l_name (_ : Tx K mg base) : Sp := fun vs H Q _ => ∃ (B : MA) (G : Addr → Prop) (m : TM) (ext : List (Key × V)) (wd c : Nat), vs = [.ref B.md, .int wd, .int c] ∧ ModAt H B G m ext ∧ wd ≤ 60 ∧ ∀ (r : Nat) H', Ex H H' → r < 2 ^ wd → Q (.int r) H'
theorem wc_l_name {c wd : Nat} {i j : Int} (hi : i = wd) (hj : j = c) (t : ModAt H B G m ext) (hw : wd ≤ 60) (q : ∀ (r : Nat) H', Ex H H' → r < 2 ^ wd → Q (.int r) H') : sp_l_name T [.ref B.md, .int i, .int j] H Q E := by
  subst hi hj; exact ⟨B, G, m, ext, wd, c, rfl, t, hw, q⟩
theorem ok_l_name (T : Tx K mg base) : FnOk P w K mg base CX0 2 T.a_l_name T.d_l_name ["_law_model", "_law_wide_here", "_law_cell"] (sp_l_name T) := by
  refine T.F_l_name.okD sc_l_name (fun vs H Q E h => ?_) (fun cdv A outer s H vs Q E hr h => ?_)
  · obtain ⟨B, G, m, ext, wd, c, rfl, _⟩ := h; rfl
  · obtain ⟨B, G, m, ext, wd, c, rfl, tm, hw, q⟩ := h
    have hu := hu_of hr
    have et := modD_t (B := B) (room := m.room) (ext := ext)
    have md := tm.md
    have mt := tm.mt
    have c_Bucket := T.c_Bucket; have n_Bucket_room := T.n_Bucket_room; have n_Bucket_line := T.n_Bucket_line; have c_Table := T.c_Table; have n_Table_own := T.n_Table_own; have n_Table_wide := T.n_Table_wide; have n_Table_room := T.n_Table_room; have n_Table_buckets := T.n_Table_buckets; have c_Town := T.c_Town; have n_Town_wide := T.n_Town_wide; have n_Town_room := T.n_Town_room; have n_Town_tables := T.n_Town_tables; have n_Town_hushed := T.n_Town_hushed
    refine ⟨_, (pss_cons (ps_set (i := 3) sc_l_name.nd rfl (Or.inl rfl) (pe_ix ix_list (pe_lst (pa_cons (pe_op op_fdivW (pv 2) pe_int) (pa_cons (pe_op op_mul (pe_call (ok_l_mixed T) hr rfl T.m_l_mixed T.F_l_mixed.kp T.b_l_mixed .nil pass0 (pa_cons (pv 2) (pa_cons pe_int pa_nil))) (pe_call (ok_l_mixed T) hr rfl T.m_l_mixed T.F_l_mixed.kp T.b_l_mixed .nil pass0 (pa_cons (pv 2) (pa_cons pe_int pa_nil)))) pa_nil))) (pe_op op_mod (pv 2) pe_int) (fun _ _ => rfl)))
      (pss_one (ps_ret (pe_call (ok_l_near T) hr rfl T.m_l_near T.F_l_near.kp T.b_l_near .nil pass0 (pa_cons (pv 3) (pa_cons (pv 1) (pa_cons (pe_callB (cr_sum rfl) (by rfl) T.z_sum (by decide +kernel) (pa_cons (pe_slice sl_list (pe_callTy (cb_listD rfl) (by rfl) T.z_list (by decide +kernel) (pa_cons (pe_dget hu (pv 0) pe_str (fun _ _ => rfl)) pa_nil)) po_none (po_some pe_int)) pa_nil)) pa_nil))))))), ?_⟩
    rw [Nn.st_l_name]; try rw [Nn.cxK]
    try rw [Nn.cxW]
    walk_at "wx"
    refine wc_l_mixed rfl rfl (by decide) fun r1 hr1 => ?_
    walk_at "wx"
    refine wc_l_mixed rfl rfl (by decide) fun r2 hr2 => ?_
    refine x_i ?_ ?_
    · exact Or.inl ⟨by omega, by omega⟩
    refine ⟨len_ok rfl, fun p hp => ?_⟩
    have em : (r1 : Int) * (r2 : Int) = ((r1 * r2 : Nat) : Int) := by simp
    have ed : (c : Int) / 2 = ((c / 2 : Nat) : Int) := by simp
    rw [em, ed]
    have ex1 := Ex.new (o := .lst [nV (c / 2), nV (r1 * r2)]) hp
    have hp1 := upd_same (H := H) (a := p) (o := .lst [nV (c / 2), nV (r1 * r2)])
    generalize upd H p (.lst [V.int ((c / 2 : Nat) : Int), V.int ((r1 * r2 : Nat) : Int)]) = H1 at ex1 hp1 ⊢
    have md1 := ex1.at md
    have mt1 := Rd.fr mt ex1 id
    walk_at "wx"
    have ei : ∃ s : Nat, atI [nV (c / 2), nV (r1 * r2)] ((c : Int) % 2) = some (nV s) := by
      rcases Int.emod_two_eq (c : Int) with z | z <;> rw [z]
      · exact ⟨_, rfl⟩
      · exact ⟨_, rfl⟩
    obtain ⟨s1, hs1⟩ := ei
    refine x_ixL (SqL.of hp1) hs1 ?_
    walk_at "wx"
    refine ⟨B.mt, _, rfl, mt1, fun p2 hp2 => ?_⟩
    have e2 : ((dOf m.houses fun h => V.ref (B.ma h)).map fun kv => kV kv.1) = m.houses.map nV := by
      unfold dOf; rw [List.map_map]; rfl
    rw [e2]
    have ex2 := ex1.newT (o := .lst (m.houses.map nV)) hp2
    have h22 := upd_same (H := H1) (a := p2) (o := .lst (m.houses.map nV))
    generalize upd H1 p2 (.lst (m.houses.map nV)) = H2 at ex2 h22 ⊢
    walk_at "wx"
    refine x_slL (SqL.of h22) fun p3 hp3 => ?_
    have e3 : cutV (m.houses.map nV) none (some 1) = (m.houses.take 1).map nV := by rw [List.map_take]; exact cut_take (k := 1)
    rw [e3]
    have ex3 := ex2.newT (o := .lst ((m.houses.take 1).map nV)) hp3
    have h33 := upd_same (H := H2) (a := p3) (o := .lst ((m.houses.take 1).map nV))
    generalize upd H2 p3 (.lst ((m.houses.take 1).map nV)) = H3 at ex3 h33 ⊢
    rw [map_nV] at h33
    refine x_sum (SqL.of h33) ?_
    obtain ⟨f1, hf1⟩ : ∃ f1 : Nat, ((m.houses.take 1).map fun n : Nat => (n : Int)).sum = (f1 : Int) := by
      cases m.houses with
      | nil => exact ⟨0, rfl⟩
      | cons x r => exact ⟨x, by simp⟩
    rw [hf1]
    exact wc_l_near rfl rfl rfl hw fun r hr => q r H3 ex3 hr
end
end Nn
/-! sizes drawn -/
namespace Nn
open PySem L2
section
variable {P : Program} {w : World} {K : PySem.W.Frag} {mg : Str → Option Value} {base : Heap} {H H' : Hp} {Q : VK} {E : XK} {T : Tx K mg base} {A : TA} {F : Addr → Prop} {B : MA} {G S : Addr → Prop} {m : TM} {ext : List (Key × V)}
def sp_l_set (T : Tx K mg base) : Sp := fun vs H Q _ => ∃ (a : Addr) (ns : List Int), vs = [.ref a] ∧ SqL K H a (ns.map V.int) ∧
  ∀ (p : Addr) (B : MA) (G : Addr → Prop) (wd room : Nat) H', Ex H H' → H' p = some (.tup [nV wd, nV room, .ref B.md]) → 1 ≤ wd → wd ≤ 60 → 0 < room → room ≤ 8 → (∀ a, G a → H a = none) → ModAt H' B G (TM.new wd room) [] → Open H' B (TM.new wd room) → Q (.ref p) H'
theorem ok_l_set (T : Tx K mg base) : FnOk P w K mg base CX0 2 T.a_l_set T.d_l_set ["_law_script"] (sp_l_set T) := by
  refine T.F_l_set.okD sc_l_set (fun vs H Q E h => ?_) (fun cdv A outer s H vs Q E hr h => ?_)
  · obtain ⟨a, ns, rfl, _⟩ := h; rfl
  · obtain ⟨a, ns, rfl, hS, q⟩ := h
    have hu := hu_of hr
    have c_Bucket := T.c_Bucket; have n_Bucket_room := T.n_Bucket_room; have n_Bucket_line := T.n_Bucket_line; have c_Table := T.c_Table; have n_Table_own := T.n_Table_own; have n_Table_wide := T.n_Table_wide; have n_Table_room := T.n_Table_room; have n_Table_buckets := T.n_Table_buckets; have c_Town := T.c_Town; have n_Town_wide := T.n_Town_wide; have n_Town_room := T.n_Town_room; have n_Town_tables := T.n_Town_tables; have n_Town_hushed := T.n_Town_hushed
    refine ⟨_, (pss_cons (ps_set (i := 1) sc_l_set.nd rfl (Or.inl rfl) (pe_op op_mod (pe_callB (cr_sum rfl) (by rfl) T.z_sum (by decide +kernel) (pa_cons (pe_slice sl_list (pv 0) po_none (po_some pe_int)) pa_nil)) (pe_op op_pow pe_int pe_int)))
      (pss_cons (ps_set (i := 2) sc_l_set.nd rfl (Or.inl rfl) (pe_call (ok_l_wide T) hr rfl T.m_l_wide T.F_l_wide.kp T.b_l_wide .nil pass0 (pa_cons (pv 1) pa_nil)))
      (pss_cons (ps_set (i := 3) sc_l_set.nd rfl (Or.inl rfl) (pe_ix ix_list (pe_lst (pa_cons (pe_op op_add pe_int (pe_op op_mod (pe_op op_fdivW (pv 1) pe_int) pe_int)) (pa_cons (pe_op op_add pe_int (pe_op op_mod (pe_op op_fdivW (pv 1) pe_int) pe_int)) pa_nil))) (pe_op op_mod (pe_op op_fdivW (pv 1) pe_int) pe_int) (fun _ _ => rfl)))
      (pss_one (ps_ret (pe_tup (pa_cons (pv 2) (pa_cons (pv 3) (pa_cons (pe_disp (pps_cons pe_str pe_dnewK (pps_cons pe_str pe_dnewK (pps_cons pe_str (pv 3) pps_nil))) (by rfl) (by rfl) (fun z => by cases z) (by decide)) pa_nil))))))))), ?_⟩
    rw [Nn.st_l_set]; try rw [Nn.cxK]
    try rw [Nn.cxW]
    walk_at "wx"
    refine x_slL hS fun p1 hp1 => ?_
    have h1 := upd_same (H := H) (a := p1) (o := .lst (cutV (ns.map V.int) none (some 1)))
    have ex1 := Ex.new (o := .lst (cutV (ns.map V.int) none (some 1))) hp1
    generalize upd H p1 (.lst (cutV (ns.map V.int) none (some 1))) = H1 at h1 ex1 ⊢
    have e1 : cutV (ns.map V.int) none (some 1) = (ns.take 1).map V.int := by rw [List.map_take]; exact cut_take (k := 1)
    rw [e1] at h1
    refine x_sum (SqL.of h1) ?_
    generalize (ns.take 1).sum = z
    walk_at "wx"
    have h60 : (0 : Int) < 10 ^ (60 : Int).toNat := by decide
    obtain ⟨c, hc⟩ := Int.eq_ofNat_of_zero_le (Int.emod_nonneg z (Int.ne_of_gt h60))
    rw [hc]
    refine wc_l_wide rfl fun wd H2 w1 w2 ex2 => ?_
    have ex02 := ex1.trans ex2
    walk_at "wx"
    refine ⟨len_ok rfl, fun p2 hp2 => ?_⟩
    have h22 := upd_same (H := H2) (a := p2) (o := .lst [V.int (1 + (c : Int) / 256 % 3), V.int (1 + (c : Int) / 256 % 8)])
    have ex3 := ex02.newT (o := .lst [V.int (1 + (c : Int) / 256 % 3), V.int (1 + (c : Int) / 256 % 8)]) hp2
    generalize upd H2 p2 (.lst [V.int (1 + (c : Int) / 256 % 3), V.int (1 + (c : Int) / 256 % 8)]) = H3 at h22 ex3 ⊢
    walk_at "wx"
    obtain ⟨room, r0, r1, hat⟩ : ∃ room : Nat, 0 < room ∧ room ≤ 8 ∧ atI [V.int (1 + (c : Int) / 256 % 3), V.int (1 + (c : Int) / 256 % 8)] ((c : Int) / 2048 % 2) = some (nV room) := by
      have e1 : (1 + (c : Int) / 256 % 3) = ((1 + c / 256 % 3 : Nat) : Int) := by simp
      have e2 : (1 + (c : Int) / 256 % 8) = ((1 + c / 256 % 8 : Nat) : Int) := by simp
      rw [e1, e2]
      rcases Int.emod_two_eq ((c : Int) / 2048) with z | z <;> rw [z]
      · exact ⟨1 + c / 256 % 3, by omega, by omega, rfl⟩
      · exact ⟨1 + c / 256 % 8, by omega, by omega, rfl⟩
    refine x_ixL (SqL.of h22) hat ?_
    walk_at "wx"
    intro md hmd
    simp only [L2.tPairs]
    walk_at "wx"
    refine x_dnew fun mt hmt => ?_
    walk_at "wx"
    refine x_dnew fun mq hmq => ?_
    walk_at "wx"
    have a1 := upd_same (H := H3) (a := md) (o := .dK [])
    have n1 := ne_of_none a1 hmt
    have a2 := at_new (o := .dK []) hmt a1
    have b2 := upd_same (H := upd H3 md (.dK [])) (a := mt) (o := .dK [])
    have n2 := ne_of_none a2 hmq
    have n3 := ne_of_none b2 hmq
    have a3 := at_new (o := .dK []) hmq a2
    have b3 := at_new (o := .dK []) hmq b2
    have c3 := upd_same (H := upd (upd H3 md (.dK [])) mt (.dK [])) (a := mq) (o := .dK [])
    have ex4 := ((ex3.newT (o := .dK []) hmd).newT (o := .dK []) hmt).newT (o := .dK []) hmq
    have md0 : H md = none := ex3.back md hmd
    have mt0 : H mt = none := ex3.back mt (upd_back hmt)
    have mq0 : H mq = none := ex3.back mq (upd_back (upd_back hmq))
    generalize upd (upd (upd H3 md (.dK [])) mt (.dK [])) mq (.dK []) = H4 at a3 b3 c3 ex4 ⊢
    refine ⟨a3, [(.inr ("tables" : Str), .ref mt), (.inr ("quiet" : Str), .ref mq), (.inr ("room" : Str), nV room)], rfl, by show 3 ≤ 15; decide, ?_⟩
    have em : mergeK [] [(.inr ("tables" : Str), .ref mt), (.inr ("quiet" : Str), .ref mq), (.inr ("room" : Str), nV room)] = modD ⟨md, mt, mq, fun _ => 0, fun _ _ => 0, fun _ => []⟩ room [] := by
      have q1 : (Sum.inr ("tables" : Str) : Key) ≠ .inr ("quiet" : Str) := by intro z; have := Sum.inr.inj z; revert this; decide +kernel
      have q2 : (Sum.inr ("tables" : Str) : Key) ≠ .inr ("room" : Str) := by intro z; have := Sum.inr.inj z; revert this; decide +kernel
      have q3 : (Sum.inr ("quiet" : Str) : Key) ≠ .inr ("room" : Str) := by intro z; have := Sum.inr.inj z; revert this; decide +kernel
      show putK (putK (putK [] (Sum.inr ("tables" : Str) : Key) (V.ref mt)) (Sum.inr ("quiet" : Str) : Key) (V.ref mq)) (Sum.inr ("room" : Str) : Key) (nV room) = _
      rw [putK_new (k := (Sum.inr ("tables" : Str) : Key)) _ rfl, List.nil_append, putK_new (k := (Sum.inr ("quiet" : Str) : Key)) _ (by rw [valV_neg q1]; rfl), putK_new (k := (Sum.inr ("room" : Str) : Key)) _ (by rw [List.singleton_append, valV_neg q2, valV_neg q3]; rfl)]
      rfl
    rw [em]
    have f5 := Fr.upd1 (o := .dK (modD ⟨md, mt, mq, fun _ => 0, fun _ _ => 0, fun _ => []⟩ room [])) a3
    have a5 := upd_same (H := H4) (a := md) (o := .dK (modD ⟨md, mt, mq, fun _ => 0, fun _ _ => 0, fun _ => []⟩ room []))
    have b5 := f5.at b3 n1.symm
    have c5 := f5.at c3 n2.symm
    have ex5 := ex4.mut (o := .dK (modD ⟨md, mt, mq, fun _ => 0, fun _ _ => 0, fun _ => []⟩ room [])) md0 a3
    generalize upd H4 md (.dK (modD ⟨md, mt, mq, fun _ => 0, fun _ _ => 0, fun _ => []⟩ room [])) = H5 at a5 b5 c5 ex5 ⊢
    refine ⟨len_ok rfl, fun p hp => ?_⟩
    have exp := Ex.new (o := .tup [nV wd, nV room, .ref md]) hp
    have nh : ∀ x : Nat, x ∉ (TM.new wd room).houses := fun x hx => by cases hx
    refine q p ⟨md, mt, mq, fun _ => 0, fun _ _ => 0, fun _ => []⟩ (fun a => a = md ∨ a = mt ∨ a = mq) wd room _ (ex5.trans exp) upd_same w1 w2 r0 r1 (fun a z => ?_)
      ⟨exp.at a5, .inl (exp.at b5), exp.at c5, fun x hx => absurd hx (nh x), fun x hx => absurd hx (nh x), fun x hx => absurd hx (nh x), ⟨.inl rfl, .inr (.inl rfl), .inr (.inr rfl), fun x hx => absurd hx (nh x)⟩, ⟨n3, n1.symm, n2.symm, fun x hx => absurd hx (nh x), fun x hx => absurd hx (nh x)⟩, fun a z e => ?_⟩ (exp.at b5)
    · rcases z with z | z | z <;> rw [z] <;> assumption
    · rcases z with z | z | z <;> rw [z] at e
      · rw [exp.at a5] at e; cases e
      · rw [exp.at b5] at e; cases e
      · rw [exp.at c5] at e; cases e
end
end Nn
/-! the town and the model beside one another -/
namespace Nn
open PySem L2
section
variable {P : Program} {w : World} {K : PySem.W.Frag} {mg : Str → Option Value} {base : Heap} {H H' : Hp} {Q : VK} {E : XK} {T : Tx K mg base}
theorem TM.comes_houses {m : TM} {n : Nat} {d : Option Nat} : (m.comes n d).houses = m.houses ++ [n] := by
  cases d with
  | none => exact TM.add_houses
  | some d => exact TM.fold_houses.trans TM.add_houses
theorem TM.comes_wide {m : TM} {n : Nat} {d : Option Nat} : (m.comes n d).wide = m.wide := by
  cases d with
  | none => rfl
  | some d => exact TM.fold_sizes.1
theorem TM.Ok.comes {m : TM} {N : List Nat} {n : Nat} {d : Option Nat} (k : m.Ok N) (hm : n ∉ m.houses) (hn : n ∈ N) : (m.comes n d).Ok N := by
  cases d with
  | none => exact k.add hm hn
  | some d => exact (k.add hm hn).fold hn fun o ho => (k.add hm hn).hN o (TM.others_mem ho).1
theorem TM.Ok.new {wd room : Nat} (w1 : 1 ≤ wd) (w2 : wd ≤ 60) (r0 : 0 < room) (r1 : room ≤ 8) : (TM.new wd room).Ok [] :=
  ⟨w1, w2, r0, r1, by simp, by decide, by simp [TM.new, TM.houses], by simp [TM.new, TM.houses], by simp [TM.new], by simp [TM.new], by simp [TM.new]⟩
theorem TM.Ok.one {m : TM} {n : Nat} (k : m.Ok m.houses) (hz : m.houses.length ≤ 40) (hn : n < 2 ^ m.wide) : m.Ok (m.houses ++ [n]) :=
  k.more (fun x hx => List.mem_append.mpr (.inl hx)) (fun x hx => (List.mem_append.mp hx).elim (k.nb x) fun z => by rw [List.mem_singleton.mp z]; exact hn) (by rw [List.length_append, List.length_singleton]; omega)
/-- the town and the model, beside one another; a list that is walked -/
structure Both (T : Tx K mg base) (H : Hp) (A : TA) (F : Addr → Prop) (B : MA) (G : Addr → Prop) (m : TM) (N : List Nat) (ext : List (Key × V)) (r : Addr) (its : List V) : Prop where
  ta : TownAt T H A F m
  tm : ModAt H B G m ext
  op : Open H B m
  ok : m.Ok N
  dj : ∀ a, ¬ (F a ∧ G a)
  hr : H r = some (.lst its)
  nr : ¬ F r ∧ ¬ G r
  tb : NdefX.TabsN (tabsL T) H
theorem Both.ex {A : TA} {F : Addr → Prop} {B : MA} {G : Addr → Prop} {m : TM} {N : List Nat} {ext : List (Key × V)} {r : Addr} {its : List V} (b : Both T H A F B G m N ext r its) (e : Ex H H') : Both T H' A F B G m N ext r its :=
  ⟨b.ta.ex' e, b.tm.ex' e, e.at b.op, b.ok, b.dj, e.at b.hr, b.nr, Fr.tabs e b.tb⟩
theorem Both.fr {A : TA} {F S : Addr → Prop} {B : MA} {G : Addr → Prop} {m : TM} {N : List Nat} {ext : List (Key × V)} {r : Addr} {its : List V} (b : Both T H A F B G m N ext r its) (f : Fr S H H') (h : ∀ a, S a → ¬ F a ∧ ¬ G a ∧ a ≠ r) : Both T H' A F B G m N ext r its :=
  ⟨b.ta.fr f fun a z => (h a z).1, b.tm.fr f fun a z => (h a z).2.1, f.at b.op fun z => (h _ z).2.1 b.tm.gg.2.1, b.ok, b.dj, f.at b.hr fun z => (h _ z).2.2 rfl, b.nr, Fr.tabs f b.tb⟩
theorem TM.told_len {m : TM} {n : Nat} {d : Option Nat} : (m.told n d).length ≤ m.houses.length + 1 := by
  cases d with
  | none => exact Nat.zero_le _
  | some d =>
    have q : ((m.add n).others n d).length ≤ (m.add n).houses.length := nodup_len ((rising_nodup TM.comeTo_sorted).filter _) fun x hx => (TM.others_mem hx).1
    rw [TM.add_houses, List.length_append, List.length_singleton] at q
    exact q
end
end Nn
/-! towns: go, hush, wake -/
namespace Nn
open PySem L2
section
variable {P : Program} {w : World} {K : PySem.W.Frag} {mg : Str → Option Value} {base : Heap} {H H' : Hp} {Q : VK} {E : XK} {T : Tx K mg base} {A : TA} {F S : Addr → Prop} {m : TM}
theorem dOf_drop {hs : List Nat} {f : Nat → V} {n : Nat} : dropK (dOf hs f) (nK n) = dOf (hs.filter fun x => !decide (x = n)) f := by
  unfold dropK dOf
  rw [List.filter_map]
  congr 1
  refine List.filter_congr fun x _ => ?_
  show decide (nK x ≠ nK n) = !decide (x = n)
  by_cases e : x = n
  · simp [e]
  · have q : nK x ≠ nK n := fun z => e (nK_inj z)
    rw [decide_eq_true q, decide_eq_false e]; rfl
def sp_Town_hush (T : Tx K mg base) : Sp := fun vs H Q _ => ∃ (A : TA) (F : Addr → Prop) (m : TM) (h : Nat), vs = [.ref A.t, .int h] ∧ TownAt T H A F m ∧ m.wide ≤ 60 ∧ h < 2 ^ m.wide ∧ h ∈ m.houses ∧ m.hush.length < 100000 ∧ ∀ H', Fr F H H' → TownAt T H' A F (m.hushed h) → Q .non H'
theorem wc_Town_hush {h : Nat} {i : Int} (hi : i = h) (t : TownAt T H A F m) (w1 : m.wide ≤ 60) (hb : h < 2 ^ m.wide) (hm : h ∈ m.houses) (hz : m.hush.length < 100000) (q : ∀ H', Fr F H H' → TownAt T H' A F (m.hushed h) → Q .non H') : sp_Town_hush T [.ref A.t, .int i] H Q E := by
  subst hi; exact ⟨A, F, m, h, rfl, t, w1, hb, hm, hz, q⟩
/-- a dict of the town changes -/
theorem TownAt.hushD {qs : List Nat} (t : TownAt T H A F m) (f : Fr (fun a => a = A.hd) H H') (e : H' A.hd = some (.dK (dOf qs fun _ => .bl true))) : TownAt T H' A F { m with hush := qs } := by
  have hb := t.tw.hb
  have soft : ∀ a, a = A.hd → Soft H a := fun a z => by rw [z]; exact Soft.dict hb
  obtain ⟨dx, ob⟩ := t.tw.ob
  refine ⟨⟨⟨dx, f.at ob fun z => ?_⟩, f.at t.tw.tb t.ne, e⟩, t.ft, fun h hh => ?_, fun h hh => ?_, t.dj, fun a ha z => t.ex a ha (f.back a z), t.ne⟩
  · rw [z, hb] at ob; cases ob
  · obtain ⟨a1, a2⟩ := t.tab h hh
    exact ⟨a1.soft f soft, a2.fr f fun l hl z => by
      obtain ⟨_, e⟩ := a2.is hl
      rw [z, hb] at e; cases e⟩
  · obtain ⟨o1, o2, o3⟩ := t.own h hh
    exact ⟨o1, o2.soft (t.tab h hh).1 f soft, o3⟩
theorem ok_Town_hush (T : Tx K mg base) : FnOk P w K mg base CX0 3 T.a_Town_hush T.d_Town_hush ["self", "house"] (sp_Town_hush T) := by
  refine T.F_Town_hush.okD sc_Town_hush (fun vs H Q E h => ?_) (fun cdv A outer s H vs Q E hr h => ?_)
  · obtain ⟨A, F, m, n, rfl, _⟩ := h; rfl
  · obtain ⟨A1, F, m, n, rfl, t, w1, hb, hm, hz, q⟩ := h
    obtain ⟨dx, ob⟩ := t.tw.ob
    have hd := t.tw.hb
    have hu := hu_of hr
    have c_Bucket := T.c_Bucket; have n_Bucket_room := T.n_Bucket_room; have n_Bucket_line := T.n_Bucket_line; have c_Table := T.c_Table; have n_Table_own := T.n_Table_own; have n_Table_wide := T.n_Table_wide; have n_Table_room := T.n_Table_room; have n_Table_buckets := T.n_Table_buckets; have c_Town := T.c_Town; have n_Town_wide := T.n_Town_wide; have n_Town_room := T.n_Town_room; have n_Town_tables := T.n_Town_tables; have n_Town_hushed := T.n_Town_hushed
    refine ⟨_, (pss_cons (ps_expr (pe_meth (pv 0) T.c_Town T.t_Town_table (ok_Town_table T) hr T.b_Town_table .nil pass0 (pa_cons (pv 1) pa_nil)))
      (pss_one (ps_dput hu (pe_fld (pv 0) rfl) (pv 1) pe_bl rfl))), ?_⟩
    rw [Nn.st_Town_hush]; try rw [Nn.cxK]
    try rw [Nn.cxW]
    walk_at "wx"
    refine wc_Town_table rfl t w1 hb hm ?_
    walk_at "wx"
    refine x_dput hd (by rw [sizeLine_eq, dOf_len]; omega) ?_
    have ep : putK (dOf m.hush fun _ => .bl true) (Sum.inl (n : Int)) (.bl true) = dOf (m.hushed n).hush fun _ => .bl true := by
      unfold TM.hushed
      by_cases z : n ∈ m.hush
      · rw [if_pos z]; exact dOf_put (f := fun _ => V.bl true) z
      · rw [if_neg z]; exact dOf_new (f := fun _ => V.bl true) z
    rw [ep]
    have f1 := Fr.upd1 (o := .dK (dOf (m.hushed n).hush fun _ => .bl true)) hd
    have e : ({ m with hush := (m.hushed n).hush } : TM) = m.hushed n := by
      unfold TM.hushed
      split <;> rfl
    have t1 := t.hushD f1 upd_same
    rw [e] at t1
    exact q _ (f1.mono fun a z => by rw [z]; exact t.ft.2.2) t1
theorem TM.cut_houses {n : Nat} : (m.cut n).houses = m.houses.filter fun x => !decide (x = n) := by
  unfold TM.cut TM.houses
  rw [List.filter_map]; rfl
theorem TM.cut_tab {n x : Nat} (h : x ≠ n) : (m.cut n).tab x = m.tab x := by
  unfold TM.tab TM.cut
  show ((m.tabs.filter fun e => !decide (e.1 = n)).lookup x).getD [] = _
  congr 1
  induction m.tabs with
  | nil => rfl
  | cons e r ih =>
    obtain ⟨k, ys⟩ := e
    by_cases q : k = n
    · rw [List.filter_cons_of_neg (by simp [q]), ih, TM.lookup_ne (by rw [q]; exact h)]
    · rw [List.filter_cons_of_pos (by simp [q])]
      by_cases e2 : x = k
      · subst e2; rw [TM.lookup_eq, TM.lookup_eq]
      · rw [TM.lookup_ne e2, TM.lookup_ne e2, ih]
theorem TM.Ok.cut {N : List Nat} {n : Nat} (k : m.Ok N) : (m.cut n).Ok N := by
  refine ⟨k.w0, k.w1, k.r0, k.r1, k.nb, k.nl, fun x hx => ?_, by rw [TM.cut_houses]; exact k.nd.filter _, k.hnd.filter _, fun x hx => ?_, fun h xss hm => k.at_ _ _ (List.mem_filter.mp hm).1⟩
  · rw [TM.cut_houses] at hx; exact k.hN x (List.mem_filter.mp hx).1
  · rw [TM.cut_houses]
    have q := List.mem_filter.mp hx
    exact List.mem_filter.mpr ⟨k.hh x q.1, q.2⟩
theorem TM.Ok.woken {N : List Nat} {n : Nat} (k : m.Ok N) : (m.woken n).Ok N :=
  ⟨k.w0, k.w1, k.r0, k.r1, k.nb, k.nl, k.hN, k.nd, k.hnd.filter _, fun x hx => k.hh x (List.mem_filter.mp hx).1, k.at_⟩
theorem TM.Ok.hushed {N : List Nat} {n : Nat} (k : m.Ok N) (hn : n ∈ m.houses) : (m.hushed n).Ok N := by
  unfold TM.hushed
  by_cases z : n ∈ m.hush
  · rw [if_pos z]; exact k
  · rw [if_neg z]
    exact ⟨k.w0, k.w1, k.r0, k.r1, k.nb, k.nl, k.hN, k.nd, nd_snoc k.hnd z, fun x hx => (List.mem_append.mp hx).elim (k.hh x) fun q => by rw [List.mem_singleton.mp q]; exact hn, k.at_⟩
theorem TM.woken_aw {n d : Nat} (h : m.aw d = true) : (m.woken n).aw d = true := by
  unfold TM.aw at h ⊢
  rw [Bool.and_eq_true] at h ⊢
  refine ⟨h.1, ?_⟩
  have h2 : d ∉ m.hush := by simpa using h.2
  have h3 : d ∉ (m.woken n).hush := fun z => h2 (List.mem_filter.mp z).1
  simp [h3]
def sp_Town_go (T : Tx K mg base) : Sp := fun vs H Q _ => ∃ (A : TA) (F : Addr → Prop) (m : TM) (h : Nat), vs = [.ref A.t, .int h] ∧ TownAt T H A F m ∧ m.wide ≤ 60 ∧ h < 2 ^ m.wide ∧ h ∈ m.houses ∧ ∀ H', Fr F H H' → TownAt T H' A F (m.cut h) → Q .non H'
theorem wc_Town_go {h : Nat} {i : Int} (hi : i = h) (t : TownAt T H A F m) (w1 : m.wide ≤ 60) (hb : h < 2 ^ m.wide) (hm : h ∈ m.houses) (q : ∀ H', Fr F H H' → TownAt T H' A F (m.cut h) → Q .non H') : sp_Town_go T [.ref A.t, .int i] H Q E := by
  subst hi; exact ⟨A, F, m, h, rfl, t, w1, hb, hm, q⟩
theorem TownAt.cutD {n : Nat} (t : TownAt T H A F m) (f : Fr (fun a => a = A.td ∨ a = A.hd) H H') (e1 : H' A.td = some (.dK (dOf (m.cut n).houses fun h => .ref (A.pa h)))) (e2 : H' A.hd = some (.dK (dOf (m.cut n).hush fun _ => .bl true))) : TownAt T H' A F (m.cut n) := by
  have hb := t.tw.hb
  have td := t.tw.tb
  have soft : ∀ a, (a = A.td ∨ a = A.hd) → Soft H a := fun a z => by
    rcases z with z | z <;> rw [z]
    · exact Soft.dict td
    · exact Soft.dict hb
  have sub : ∀ x, x ∈ (m.cut n).houses → x ∈ m.houses ∧ x ≠ n := fun x hx => by
    rw [TM.cut_houses] at hx
    have q := List.mem_filter.mp hx
    exact ⟨q.1, by simpa using q.2⟩
  obtain ⟨dx, ob⟩ := t.tw.ob
  refine ⟨⟨⟨dx, f.at ob fun z => ?_⟩, e1, e2⟩, t.ft, fun h hh => ?_, fun h hh => ?_, fun h1 q1 h2 q2 => t.dj h1 (sub h1 q1).1 h2 (sub h2 q2).1, fun a ha z => t.ex a ha (f.back a z), t.ne⟩
  · rcases z with z | z <;> rw [z] at ob
    · rw [td] at ob; cases ob
    · rw [hb] at ob; cases ob
  · obtain ⟨a1, a2⟩ := t.tab h (sub h hh).1
    rw [TM.cut_tab (sub h hh).2]
    exact ⟨a1.soft f soft, a2.fr f fun l hl z => by
      obtain ⟨_, e⟩ := a2.is hl
      rcases z with z | z <;> rw [z] at e
      · rw [td] at e; cases e
      · rw [hb] at e; cases e⟩
  · obtain ⟨o1, o2, o3⟩ := t.own h (sub h hh).1
    exact ⟨o1, o2.soft (t.tab h (sub h hh).1).1 f soft, o3⟩
theorem ok_Town_go (T : Tx K mg base) : FnOk P w K mg base CX0 3 T.a_Town_go T.d_Town_go ["self", "house"] (sp_Town_go T) := by
  refine T.F_Town_go.okD sc_Town_go (fun vs H Q E h => ?_) (fun cdv A outer s H vs Q E hr h => ?_)
  · obtain ⟨A, F, m, n, rfl, _⟩ := h; rfl
  · obtain ⟨A1, F, m, n, rfl, t, w1, hb, hm, q⟩ := h
    obtain ⟨dx, ob⟩ := t.tw.ob
    have td := t.tw.tb
    have hd := t.tw.hb
    have hu := hu_of hr
    have e2 : valV (dOf m.houses fun h => .ref (A1.pa h)) (Sum.inl (n : Int)) = some (.ref (A1.pa n)) := by
      have q := dOf_val (f := fun h => V.ref (A1.pa h)) (n := n) (hs := m.houses)
      rw [if_pos hm] at q; exact q
    have c_Bucket := T.c_Bucket; have n_Bucket_room := T.n_Bucket_room; have n_Bucket_line := T.n_Bucket_line; have c_Table := T.c_Table; have n_Table_own := T.n_Table_own; have n_Table_wide := T.n_Table_wide; have n_Table_room := T.n_Table_room; have n_Table_buckets := T.n_Table_buckets; have c_Town := T.c_Town; have n_Town_wide := T.n_Town_wide; have n_Town_room := T.n_Town_room; have n_Town_tables := T.n_Town_tables; have n_Town_hushed := T.n_Town_hushed
    refine ⟨_, (pss_cons (ps_expr (pe_meth (pv 0) T.c_Town T.t_Town_table (ok_Town_table T) hr T.b_Town_table .nil pass0 (pa_cons (pv 1) pa_nil)))
      (pss_cons (ps_expr (pe_dpop1 (pe_fld (pv 0) rfl) (pv 1) ⟨rfl, rfl, rfl, rfl⟩))
      (pss_one (ps_expr (pe_dpop2 (pe_fld (pv 0) rfl) (pv 1) pe_bl ⟨rfl, rfl, rfl, rfl⟩))))), ?_⟩
    rw [Nn.st_Town_go]; try rw [Nn.cxK]
    try rw [Nn.cxW]
    walk_at "wx"
    refine wc_Town_table rfl t w1 hb hm ?_
    walk_at "wx"
    have ed : dropK (dOf m.houses fun h => .ref (A1.pa h)) (Sum.inl (n : Int)) = dOf (m.cut n).houses fun h => .ref (A1.pa h) := by rw [TM.cut_houses]; exact dOf_drop
    rw [ed]
    have f1 := Fr.upd1 (o := .dK (dOf (m.cut n).houses fun h => .ref (A1.pa h))) td
    have td1 := upd_same (H := H) (a := A1.td) (o := .dK (dOf (m.cut n).houses fun h => .ref (A1.pa h)))
    have hd1 := f1.at hd t.ne.symm
    generalize upd H A1.td (.dK (dOf (m.cut n).houses fun h => .ref (A1.pa h))) = H1 at f1 td1 hd1 ⊢
    have eh : dropK (dOf m.hush fun _ => .bl true) (Sum.inl (n : Int)) = dOf (m.cut n).hush fun _ => .bl true := dOf_drop
    have f1' := f1.mono (S' := fun a => a = A1.td ∨ a = A1.hd) fun a z => .inl z
    have nF : ∀ a, (a = A1.td ∨ a = A1.hd) → F a := fun a z => z.elim (fun z => by rw [z]; exact t.ft.2.1) fun z => by rw [z]; exact t.ft.2.2
    walk_at "wx"
    refine x_p2 hd1 (fun v _ => ?_) fun hv => ?_
    · rw [eh]
      have f2 := f1'.trans ((Fr.upd1 (o := .dK (dOf (m.cut n).hush fun _ => .bl true)) hd1).mono fun a z => .inr z)
      exact q _ (f2.mono nF) (t.cutD f2 (by rw [upd_ne t.ne]; exact td1) upd_same)
    · have hn : n ∉ m.hush := fun z => by
        have q := dOf_val (f := fun _ => V.bl true) (n := n) (hs := m.hush)
        rw [if_pos z] at q
        have hv : valV (dOf m.hush fun _ => V.bl true) (nK n) = none := hv
        rw [q] at hv; cases hv
      have e : (m.cut n).hush = m.hush := List.filter_eq_self.mpr fun x hx => by
        have : x ≠ n := fun z => hn (by rw [← z]; exact hx)
        simp [this]
      exact q _ (f1'.mono nF) (t.cutD f1' td1 (by rw [e]; exact hd1))
def sp_Town_wake (T : Tx K mg base) : Sp := fun vs H Q _ => ∃ (A : TA) (F : Addr → Prop) (m : TM) (N : List Nat) (h door : Nat), vs = [.ref A.t, .int h, .int door] ∧ TownAt T H A F m ∧ m.Ok N ∧ h ∈ m.hush ∧ m.aw door = true ∧ NdefX.TabsN (tabsL T) H ∧
  ∀ p H', H p = none → Fr F H H' → H' p = some (.lst (((m.woken h).others h door).map nV)) → TownAt T H' A F ((m.woken h).visit h door) → Q (.ref p) H'
theorem wc_Town_wake {N : List Nat} {h door : Nat} {i j : Int} (hi : i = h) (hj : j = door) (t : TownAt T H A F m) (k : m.Ok N) (hm : h ∈ m.hush) (hd : m.aw door = true) (tb : NdefX.TabsN (tabsL T) H)
    (q : ∀ p H', H p = none → Fr F H H' → H' p = some (.lst (((m.woken h).others h door).map nV)) → TownAt T H' A F ((m.woken h).visit h door) → Q (.ref p) H') : sp_Town_wake T [.ref A.t, .int i, .int j] H Q E := by
  subst hi hj; exact ⟨A, F, m, N, h, door, rfl, t, k, hm, hd, tb, q⟩
theorem ok_Town_wake (T : Tx K mg base) : FnOk P w K mg base CX0 7 T.a_Town_wake T.d_Town_wake ["self", "house", "door"] (sp_Town_wake T) := by
  refine T.F_Town_wake.okD sc_Town_wake (fun vs H Q E h => ?_) (fun cdv A outer s H vs Q E hr h => ?_)
  · obtain ⟨A, F, m, N, n, door, rfl, _⟩ := h; rfl
  · obtain ⟨A1, F, m, N, n, door, rfl, t, k, hm, hdo, hT, q⟩ := h
    obtain ⟨dx, ob⟩ := t.tw.ob
    have hd := t.tw.hb
    have hu := hu_of hr
    have hmh := k.hh n hm
    have e1 : (valV (dOf m.hush fun _ => .bl true) (Sum.inl (n : Int))).isSome = decide (n ∈ m.hush) := dOf_has
    have e2 : valV (dOf m.hush fun _ => .bl true) (Sum.inl (n : Int)) = some (.bl true) := by
      have q := dOf_val (f := fun _ => V.bl true) (n := n) (hs := m.hush)
      rw [if_pos hm] at q; exact q
    have eh : dropK (dOf m.hush fun _ => .bl true) (Sum.inl (n : Int)) = dOf (m.woken n).hush fun _ => .bl true := dOf_drop
    have c_Bucket := T.c_Bucket; have n_Bucket_room := T.n_Bucket_room; have n_Bucket_line := T.n_Bucket_line; have c_Table := T.c_Table; have n_Table_own := T.n_Table_own; have n_Table_wide := T.n_Table_wide; have n_Table_room := T.n_Table_room; have n_Table_buckets := T.n_Table_buckets; have c_Town := T.c_Town; have n_Town_wide := T.n_Town_wide; have n_Town_room := T.n_Town_room; have n_Town_tables := T.n_Town_tables; have n_Town_hushed := T.n_Town_hushed
    refine ⟨_, (pss_cons (ps_expr (pe_meth (pv 0) T.c_Town T.t_Town_table (ok_Town_table T) (hr.mono (by decide)) T.b_Town_table .nil pass0 (pa_cons (pv 1) pa_nil)))
      (pss_cons (ps_if (pt_cmp (pc_dnotin hu (pv 1) (pe_fld (pv 0) rfl)))
      (pss_one ps_dead)
      pss_nil)
      (pss_cons (ps_expr (pe_meth (pv 0) T.c_Town T.t_Town_look_awake (ok_Town_look_awake T) (hr.mono (by decide)) T.b_Town_look_awake .nil pass0 (pa_cons (pv 2) pa_nil)))
      (pss_cons (ps_expr (pe_dpop1 (pe_fld (pv 0) rfl) (pv 1) ⟨rfl, rfl, rfl, rfl⟩))
      (pss_one (ps_ret (pe_meth (pv 0) T.c_Town T.t_Town_visit (ok_Town_visit T) hr T.b_Town_visit .nil pass0 (pa_cons (pv 1) (pa_cons (pv 2) pa_nil))))))))), ?_⟩
    rw [Nn.st_Town_wake]; try rw [Nn.cxK]
    try rw [Nn.cxW]
    walk_at "wx"
    refine wc_Town_table rfl t k.w1 (k.bd hmh) hmh ?_
    walk_at "wx"
    rw [e1, decide_eq_true hm]
    walk_at "wx"
    refine wc_Town_look_awake rfl t k.w1 (k.bd (TM.aw_house hdo)) hdo ?_
    walk_at "wx"
    rw [eh]
    have f1 := Fr.upd1 (o := .dK (dOf (m.woken n).hush fun _ => .bl true)) hd
    have t1 : TownAt T (upd H A1.hd (.dK (dOf (m.woken n).hush fun _ => .bl true))) A1 F (m.woken n) := t.hushD f1 upd_same
    have f1' : Fr F H (upd H A1.hd (.dK (dOf (m.woken n).hush fun _ => .bl true))) := f1.mono fun a z => by rw [z]; exact t.ft.2.2
    generalize upd H A1.hd (.dK (dOf (m.woken n).hush fun _ => .bl true)) = H1 at t1 f1' ⊢
    obtain ⟨dx1, ob1⟩ := t1.tw.ob
    walk_at "wx"
    refine wc_Town_visit rfl rfl t1 k.woken hmh (TM.woken_aw hdo) (Fr.tabs f1' hT) fun p H2 hp fr2 hp2 t2 => ?_
    exact q p H2 (f1'.back p hp) (f1'.trans fr2) hp2 t2
end
end Nn
/-! the law's own model: cut, hushed, woken -/
namespace Nn
open PySem L2
section
variable {K : PySem.W.Frag} {H H' : Hp} {B : MA} {G S : Addr → Prop} {m : TM} {ext : List (Key × V)}
theorem ModAt.ne_ra (t : ModAt H B G m ext) {h k : Nat} (hh : h ∈ m.houses) (hk : k ∈ B.kl h) : B.ra h k ≠ B.mt ∧ B.ra h k ≠ B.mq ∧ B.ra h k ≠ B.md := by
  have e := t.ra h hh k hk
  refine ⟨fun z => ?_, fun z => ?_, fun z => ?_⟩
  · rw [z] at e
    rcases t.mt with q | ⟨od, q⟩ <;> rw [q] at e <;> cases e
  · rw [z, t.mq] at e; cases e
  · rw [z, t.md] at e; cases e
/-- the dict of the hushed changes -/
theorem ModAt.hushM {qs : List Nat} (t : ModAt H B G m ext) (f : Fr (fun a => a = B.mq) H H') (e : H' B.mq = some (.dK (dOf qs fun _ => .bl true))) : ModAt H' B G { m with hush := qs } ext := by
  obtain ⟨d1, d2, d3, d4, d5⟩ := t.dj
  exact ⟨f.at t.md d3.symm, Rd.fr t.mt f d1, e, fun x hx => f.at (t.ma x hx) (d4 x hx).2.1, fun x hx k hk => f.at (t.ra x hx k hk) (t.ne_ra hx hk).2.1, t.kl, t.gg, t.dj, fun a ha z => t.ex a ha (f.back a z)⟩
theorem ModAt.cutM {n : Nat} (t : ModAt H B G m ext) (f : Fr (fun a => a = B.mt ∨ a = B.mq) H H') (e1 : H' B.mt = some (.dK (dOf (m.cut n).houses fun h => .ref (B.ma h)))) (e2 : H' B.mq = some (.dK (dOf (m.cut n).hush fun _ => .bl true))) : ModAt H' B G (m.cut n) ext := by
  obtain ⟨d1, d2, d3, d4, d5⟩ := t.dj
  obtain ⟨g1, g2, g3, g4⟩ := t.gg
  have sub : ∀ x, x ∈ (m.cut n).houses → x ∈ m.houses ∧ x ≠ n := fun x hx => by
    rw [TM.cut_houses] at hx
    have q := List.mem_filter.mp hx
    exact ⟨q.1, by simpa using q.2⟩
  refine ⟨f.at t.md fun z => z.elim (fun z => d2 z.symm) fun z => d3 z.symm, .inl e1, e2, fun x hx => f.at (t.ma x (sub x hx).1) fun z => z.elim (d4 x (sub x hx).1).1 (d4 x (sub x hx).1).2.1, fun x hx k hk => ?_, fun x hx => ?_, ⟨g1, g2, g3, fun x hx => g4 x (sub x hx).1⟩, ⟨d1, d2, d3, fun x hx => d4 x (sub x hx).1, fun x hx y hy => d5 x (sub x hx).1 y (sub y hy).1⟩, fun a ha z => t.ex a ha (f.back a z)⟩
  · rw [TM.cut_tab (sub x hx).2]
    obtain ⟨q1, q2, q3⟩ := t.ne_ra (sub x hx).1 hk
    exact f.at (t.ra x (sub x hx).1 k hk) fun z => z.elim q1 q2
  · rw [TM.cut_tab (sub x hx).2]
    exact t.kl x (sub x hx).1
end
end Nn
/-! exceptions: twins of defs that raise, try .. as, isinstance of what was caught -/
namespace Nn
open PySem PySem.Spec PyProof.Rows L2
/-- the rest is never come to -/
theorem pss_dead {X : Cx} {sts : List Stmt} : PSs X sts tDead := ⟨fun _ _ _ _ _ _ h => h.elim⟩
theorem passE {X : Cx} {E : XK} (tk : Takes X (fun cls d _ H => E cls d H)) : Passes (L2.CX X.prog X.w) X E := fun _ _ _ _ e s' I c => tk e s' (XE.of_call I (fun _ _ _ h => h) c)
section
variable {X : Cx} {CX : CXT} {k : Nat} {f C : Addr} {fd : FuncData} {ps : List Str} {sp : Sp} {dvs : List V} {ds : List Value} {E : L2.St → XK} {x m : Str} {p pos apos : Pos} {e o : Expr} {es : List Expr} {ta : TE} {t : L2.TA}
theorem run_fnSd {pins : List (Addr × Obj)} {σ : L2.St} {H : Hp} {s : Shared} {Q : VK} {us : List Value} {vs : List V} (F : FnOk X.prog X.w X.K X.mg X.base CX k f fd ps sp) (hr : Room k X.A) (hb : Binds X.K fd ps ds) (hd : Vals dvs ds) (hx : PassesAt CX X σ (E σ))
    (I : Inv X pins σ H s) (r : Vals vs us) (h : sp (vs ++ dvs) H Q (E σ)) : wpAny (model X.prog X.w) X.A (call (.ref f) us) (EP X pins σ Q) X.xe s := by
  have r2 : Vals (vs ++ dvs) (us ++ ds) := r.append hd
  have hl : (us ++ ds).length = ps.length := by rw [← r2.length]; exact F.len _ _ _ _ h
  refine wpAny_call (codeAny_mono (F.run X.A X.stack s H ⟨us, []⟩ (us ++ ds) (vs ++ dvs) Q (E σ) hr I.env0 (hb s us I.kIn hl) r2 h) fun r s' hq => ?_)
  cases r with
  | error e => exact hx pins H s e s' I hq
  | ok fl =>
    cases fl with
    | ret u => exact I.after hq
    | next => exact False.elim hq
    | brk => exact False.elim hq
    | cont => exact False.elim hq
def tCallSd (sp : Sp) (dvs : List V) (E : L2.St → XK) (t : L2.TA) : TE := fun σ H Q => t σ H fun vs H1 => sp (vs ++ dvs) H1 Q (E σ)
theorem pe_callSd (F : FnOk X.prog X.w X.K X.mg X.base CX k f fd ps sp) (hr : Room k X.A) (hg : Gl X x) (hm : X.mg x = some (.ref f)) (hk : PySem.W.keepIn X.K (.ref f) = true) (hb : Binds X.K fd ps ds) (hd : Vals dvs ds) (hx : ∀ σ, PassesAt CX X σ (E σ))
    (ha : PA X (e :: es) t) (hdb : (x == ("__debug__" : Str)) = false := by decide) (he : starEach (e :: es) X.env = (false, eval e X.env) :: starEach es X.env := by rfl) (hpl : (backTo pos (starEach es X.env)).any (·.1) = false := by rfl) :
    PE X (.Call (.Name x p) (e :: es) [] pos) (tCallSd sp dvs E t) := by
  refine ⟨fun pins s σ H Q I h => ?_⟩
  refine wpAny_Call_Name_kw (ld_glob I hg hm ?_ hdb)
  refine PySem.W.callWith_K (h₀ := X.base) I.ok.mod.kin hk (thn (ha.run pos pins s σ H _ I h) fun us s1 ⟨vs, H1, I1, r, q⟩ => ⟨I1.kIn, ?_⟩) he hpl
  exact run_fnSd F hr hb hd (hx σ) I1 r q
def tMethS (C : Addr) (m : Str) (sp : Sp) (dvs : List V) (E : L2.St → XK) (ta : TE) (t : L2.TA) : TE := fun σ H Q => ta σ H fun x H1 => ∃ a dx fs, x = .ref a ∧ H1 a = some (.ins C dx fs) ∧ fs.lookup m = none ∧ t σ H1 fun vs H2 => sp (x :: (vs ++ dvs)) H2 Q (E σ)
theorem pe_methS {pl : Sem Bool} (he : PE X o ta) (c : Cls X.K C) (hm : Meth X.K C m f) (F : FnOk X.prog X.w X.K X.mg X.base CX k f fd ps sp) (hr : Room k X.A) (hb : Binds X.K fd ps ds) (hd : Vals dvs ds) (hx : ∀ σ, PassesAt CX X σ (E σ)) (ha : PA X (e :: es) t)
    (hst : starEach (e :: es) X.env = (false, eval e X.env) :: starEach es X.env := by rfl) (hpl : (backTo pos (starEach es X.env)).any (·.1) = false := by rfl)
    (ht : eval (.Call (.Attribute o m apos) (e :: es) [] pos) X.env = (do
      let ov ← eval o X.env
      standAt apos.atName
      let (f, first) ← holding [ov] (getMethod ov m pl)
      callWith pos f first (backTo pos (starEach (e :: es) X.env)) (backToKw pos (keywordEach [] X.env))) := by rfl) :
    PE X (.Call (.Attribute o m apos) (e :: es) [] pos) (tMethS C m sp dvs E ta t) := by
  refine ⟨fun pins s σ H Q I h => ?_⟩
  refine PySem.W.methodCall_KW (pl := pl) (thn (he.run pins s σ H _ I h) fun u s1 ⟨x, H1, I1, rx, a, dx, fs, ex, ea, l, q⟩ => ?_) ht
  subst ex
  obtain rfl : u = Value.ref a := rx
  refine getmeth_ok I1 ea c hm l ?_
  refine PySem.W.callWith_K (first := [.ref a]) (h₀ := X.base) I.ok.mod.kin hm.kp (thn (ha.run pos pins s1 σ H1 _ I1 q) fun us s2 ⟨vs, H2, I2, r, q2⟩ => ⟨I2.kIn, ?_⟩) hst hpl
  exact run_fnSd (us := .ref a :: us) (vs := .ref a :: vs) F hr hb hd (hx σ) I2 (.cons rfl r) q2
def RMtS (C : Addr) (m : Str) (sp : Sp) (dvs : List V) (E : XK) (t : L2.TA) (σ : L2.St) (Q : VK) : VK := fun x H1 => ∃ a dx fs, x = .ref a ∧ H1 a = some (.ins C dx fs) ∧ fs.lookup m = none ∧ t σ H1 fun vs H2 => sp (x :: (vs ++ dvs)) H2 Q E
theorem e_methS {σ : L2.St} {H : Hp} {Q : VK} : tMethS C m sp dvs E ta t σ H Q = ta σ H (RMtS C m sp dvs (E σ) t σ Q) := rfl
theorem x_methS {E : XK} {σ : L2.St} {H : Hp} {Q : VK} {a dx : Addr} {fs : List (Str × V)} (h : H a = some (.ins C dx fs)) (hl : fs.lookup m = none) (q : t σ H fun vs H2 => sp (.ref a :: (vs ++ dvs)) H2 Q E) : RMtS C m sp dvs E t σ Q (.ref a) H := ⟨a, dx, fs, rfl, h, hl, q⟩
theorem e_callSd {σ : L2.St} {H : Hp} {Q : VK} : tCallSd sp dvs E t σ H Q = t σ H fun vs H1 => sp (vs ++ dvs) H1 Q (E σ) := rfl
end
section
variable {X : Cx} {CX : CXT} {k : Nat} {f C : Addr} {fd : FuncData} {ps : List Str} {sp : Sp} {dvs : List V} {ds : List Value} {E : L2.St → XK} {x : Str} {p pos : Pos} {e : Expr} {es : List Expr} {t : L2.TA}
/-- an object is made, or its __init__ raises -/
def tMakeS (C : Addr) (sp : Sp) (dvs : List V) (E : L2.St → XK) (t : L2.TA) : TE := fun σ H Q => tMake C sp dvs (E σ) t σ H Q
theorem e_makeS {σ : L2.St} {H : Hp} {Q : VK} : tMakeS C sp dvs E t σ H Q = t σ H (RMk C sp dvs (E σ) Q) := rfl
theorem run_makeS {pins : List (Addr × Obj)} {σ : L2.St} {H : Hp} {s : Shared} {Q : VK} {us : List Value} {vs : List V} (M : Mk X.K C f) (F : FnOk X.prog X.w X.K X.mg X.base CX k f fd ps sp) (hr : Room (k + 1) X.A) (hb : Binds X.K fd ps ds) (hd : Vals dvs ds)
    (hx : PassesAt CX X σ (E σ)) (I : Inv X pins σ H s) (r : Vals vs us)
    (h : ∀ x dx, H x = none → H dx = none → dx ≠ x → sp (.ref x :: (vs ++ dvs)) (upd (upd H dx (.own x)) x (.ins C dx [])) (fun v H2 => v = .non ∧ Q (.ref x) H2) (E σ)) :
    wpAny (model X.prog X.w) X.A (call (.ref C) us) (EP X pins σ Q) X.xe s := by
  have hq := h (s.heap.objs.size + 1) s.heap.objs.size (I.hok.fresh (Nat.le_succ _)) (I.hok.fresh (Nat.le_refl _)) (Nat.ne_of_lt (Nat.lt_succ_self _))
  have I2 := Inv.made (C := C) I
  have r2 : Vals (V.ref (s.heap.objs.size + 1) :: (vs ++ dvs)) (Value.ref (s.heap.objs.size + 1) :: (us ++ ds)) := .cons rfl (r.append hd)
  have hl : (Value.ref (s.heap.objs.size + 1) :: us ++ ds).length = ps.length := by
    have e := r2.length
    rw [F.len _ _ _ _ hq] at e
    exact e.symm
  refine wpAny_call (make_map (f := f) I.kIn M.makes M.init (beq_iff_eq.mp M.fn) (codeAny_mono (F.run _ X.stack _ _ ⟨Value.ref (s.heap.objs.size + 1) :: us, []⟩ (Value.ref (s.heap.objs.size + 1) :: (us ++ ds)) _ _ (E σ) (hr.make C us [])
    (I2.env0.make C us []) (hb _ (Value.ref (s.heap.objs.size + 1) :: us) I2.kIn hl) r2 hq) fun r s' hq' => ?_))
  cases r with
  | error e => exact hx pins _ _ e s' I2 hq'
  | ok fl =>
    cases fl with
    | ret u =>
      obtain ⟨v, H', I3, rv, ev, q3⟩ := I2.after hq'
      subst ev
      exact ⟨rv, ⟨V.ref (s.heap.objs.size + 1), H', I3, rfl, q3⟩⟩
    | next => exact False.elim hq'
    | brk => exact False.elim hq'
    | cont => exact False.elim hq'
theorem pe_makeS (M : Mk X.K C f) (F : FnOk X.prog X.w X.K X.mg X.base CX k f fd ps sp) (hr : Room (k + 1) X.A) (hg : Gl X x) (hm : X.mg x = some (.ref C)) (hb : Binds X.K fd ps ds) (hd : Vals dvs ds) (hx : ∀ σ, PassesAt CX X σ (E σ))
    (ha : PA X (e :: es) t) (hdb : (x == ("__debug__" : Str)) = false := by decide) (he : starEach (e :: es) X.env = (false, eval e X.env) :: starEach es X.env := by rfl) (hpl : (backTo pos (starEach es X.env)).any (·.1) = false := by rfl) :
    PE X (.Call (.Name x p) (e :: es) [] pos) (tMakeS C sp dvs E t) := by
  refine ⟨fun pins s σ H Q I h => ?_⟩
  refine wpAny_Call_Name_kw (ld_glob I hg hm ?_ hdb)
  refine PySem.W.callWith_K (h₀ := X.base) I.ok.mod.kin M.kp (thn (ha.run pos pins s σ H _ I h) fun us s1 ⟨vs, H1, I1, r, q⟩ => ⟨I1.kIn, ?_⟩) he hpl
  exact run_makeS M F hr hb hd (hx σ) I1 r q
end
/-- what the clause 'except c as n' wishes of an exception of the body: told -/
theorem x_was {K : PySem.W.Frag} {c cls : Value} {d : Option Addr} {i : Nat} {ts : Addr → Value → Option Addr → TS} {Wout : WX} {D : Ends} {σ : L2.St} {H : Hp} (hb : PySem.W.exmOne K cls c = some true)
    (h : ∀ a, H a = none → ts a cls d { nx := fun σ' H' => D.nx (σ'.set i none) H', rt := D.rt, bk := fun σ' H' => D.bk (σ'.set i none) H', ct := fun σ' H' => D.ct (σ'.set i none) H' } (σ.set i (some (.ref a))) H) : WE (wAs K c i ts Wout D) σ cls d H :=
  ⟨true, hb, fun _ => h, fun z => by cases z⟩
/-- isinstance(e, c), e the exception that the suite holds, of whatever class -/
def rIsX (K : PySem.W.Frag) (cls : Value) (d : Option Addr) (a : Addr) : List V → Hp → VK → Prop := fun xs H Q => ∃ D, cls = .ref D ∧ d = none ∧ ExcC K D ∧ rIsE K D a xs H Q
theorem call_isX {X : Cx} {a : Addr} {cls : Value} {d : Option Addr} {oe : Obj} {pn : List (Addr × Obj)} (hz : Zc cls d oe) (hf : ∃ vs, oe.data = .fields vs) : CallR (X.suite a ((a, oe) :: pn)) (.builtin "isinstance") (rIsX X.K cls d a) := by
  intro pins s σ H xs us Q I r ⟨D, e1, e2, C, h⟩
  subst e1 e2
  exact call_isE C hz hf pins s σ H xs us Q I r h
theorem x_isX {K : PySem.W.Frag} {D C a : Addr} {H : Hp} {Q : VK} {b : Bool} (hD : ExcC K D) (hk : PySem.W.kitOne K (.ref D) (.ref C) = some b) (h : Q (.bl b) H) : rIsX K (.ref D) none a [.ref a, .ref C] H Q :=
  ⟨D, rfl, rfl, hD, .ref C, .ref C, b, rfl, fun _ r => r, hk, h⟩
theorem x_isXV {K : PySem.W.Frag} {D a : Addr} {H : Hp} {Q : VK} {b : Bool} (hD : ExcC K D) (hk : PySem.W.kitOne K (.ref D) (.type "ValueError") = some b) (h : Q (.bl b) H) : rIsX K (.ref D) none a [.ref a, .ty "ValueError"] H Q :=
  ⟨D, rfl, rfl, hD, .ty "ValueError", .type "ValueError", b, rfl, fun _ r => r, hk, h⟩
end Nn
local macro_rules | `(tactic| walk_at "wc") => `(tactic| dsimp only [↓Nn.e_callSd, ↓Nn.e_methS, ↓Nn.e_makeS])
local macro_rules | `(tactic| walk_at "wc") => `(tactic| ((with_reducible refine' Nn.x_methS ?hS ?hA ?_); (case hS => walk_at "wob"); (case hA => walk_at "wnolk")))
/-! exceptions as values: caught, kept behind their suite, asked about there -/
namespace Nn
open PySem PySem.Spec PyProof.Rows L2
/-- an exception of the class at C lies at a -/
def isExc (a C : Addr) (h : Heap) : Prop := ∃ oe : Obj, h.get? a = some oe ∧ Zc (.ref C) none oe ∧ ∃ vs, oe.data = .fields vs
def exv (a C : Addr) : HO := .ext (isExc a C)
section
variable {P : Program} {w : World} {a C : Addr}
theorem exv_ok {H : Hp} {h : Heap} (x : isExc a C h) : ObjOk P w H h a (exv a C) :=
  ⟨x, (by obtain ⟨oe, e, _⟩ := x; exact ⟨oe, e⟩), fun h1 h2 ⟨oe, e, z⟩ k => ⟨oe, k _ e, z⟩⟩
/-- what stands in no one's hand is taken into the ledger -/
theorem Inv.adopt {X : Cx} {pins : List (Addr × Obj)} {σ : L2.St} {H : Hp} {s : Shared} (I : Inv X pins σ H s) (x : isExc a C s.heap) (na : H a = none) (nL : a ≠ X.env.locals) (np : ∀ p ∈ X.pn ++ pins, p.1 ≠ a) (n0 : ∀ o, X.s_0.heap.get? a = some o → a ∈ X.ex) : Inv X pins σ (upd H a (exv a C)) s := by
  have ne : ∀ {b : Addr} {u : HO}, H b = some u → b ≠ a := fun e z => by rw [z, na] at e; cases e
  have kp : ∀ {b : Addr} {u : HO}, H b = some u → upd H a (exv a C) b = some u := fun e => by rw [upd_ne (ne e)]; exact e
  refine ⟨I.ok, I.os, I.bare, ⟨I.base.keep, I.base.slot, fun b o e h0 hx => ?_, I.base.there, fun b xs e => kp (I.base.tups b xs e), fun b o u e => kp (I.base.frzs b o u e), fun b ps e => ?_⟩, I.loc, I.cell, ?_, fun y c e => ?_, fun p hp => ?_, fun b u e => ?_, I.len⟩
  · by_cases z : b = a
    · rw [z] at e hx
      exact absurd (n0 o e) hx
    · rw [upd_ne z]; exact I.base.free b o e h0 hx
  · obtain ⟨more, q⟩ := I.base.tbls b ps e
    exact ⟨more, kp q⟩
  · rw [upd_ne fun z => nL z.symm]; exact I.free
  · have hc := I.freeC y c e
    have nca : c ≠ a := fun z => by
      obtain ⟨v, o, ho, hd⟩ := I.cell y c e
      obtain ⟨oe, he, _, vs, hv⟩ := x
      rw [z] at ho
      rw [he] at ho
      cases ho
      rw [hv] at hd; cases hd
    rw [upd_ne nca]; exact hc
  · obtain ⟨p1, p2, p3⟩ := I.pin p hp
    exact ⟨p1, by rw [upd_ne (np p hp)]; exact p2, p3⟩
  · by_cases z : b = a
    · subst z
      rw [upd_same] at e
      cases e
      exact exv_ok x
    · rw [upd_ne z] at e
      exact (I.hok b u e).stay (fun _ _ _ q => q) (fun _ q => kp q) fun _ _ q => kp q
def rIsV (K : PySem.W.Frag) : List V → Hp → VK → Prop := fun xs H Q => ∃ (a C : Addr) (c : V) (cv : Value) (b : Bool), xs = [.ref a, c] ∧ H a = some (exv a C) ∧ ExcC K C ∧ (∀ u, RelV c u → u = cv) ∧ PySem.W.kitOne K (.ref C) cv = some b ∧ Q (.bl b) H
theorem cr_isV {X : Cx} : CallR X (.builtin "isinstance") (rIsV X.K) := by
  intro pins s σ H xs us Q I r h
  obtain ⟨a, D, c, cv, b, rfl, ha, ec, hc, e, q⟩ := h
  obtain ⟨⟨oe, hget, ⟨z1, z2⟩, vs, hv⟩, _⟩ := I.hok a _ ha
  have J : PySem.W.InstAt s.heap a oe D none := by
    obtain ⟨oc, od, oda, osl⟩ := oe
    dsimp only at z1 z2 hv
    subst z1 z2 hv
    exact ⟨hget, rfl, rfl, trivial⟩
  cases r with
  | cons r1 r2 =>
    cases r2 with
    | cons r3 r4 =>
      cases r4
      cases r1
      rw [hc _ r3]
      exact PySem.W.kia_one (PySem.W.handS_kitx_exc ec.hg ec.hk ec.hs ec.hd ec.ha ec.hn ec.ht ec.hm) I.kIn J e (fun z => nomatch z) fun tk => ⟨.bl b, H, I.kept (t' := tk) fun _ _ k => k, rfl, q⟩
theorem x_isV {K : PySem.W.Frag} {D : Addr} {H : Hp} {Q : VK} {b : Bool} (ha : H a = some (exv a D)) (hD : ExcC K D) (hk : PySem.W.kitOne K (.ref D) (.ref C) = some b) (h : Q (.bl b) H) : rIsV K [.ref a, .ref C] H Q :=
  ⟨a, D, .ref C, .ref C, b, rfl, ha, hD, fun _ r => r, hk, h⟩
theorem x_isVV {K : PySem.W.Frag} {D : Addr} {H : Hp} {Q : VK} {b : Bool} (ha : H a = some (exv a D)) (hD : ExcC K D) (hk : PySem.W.kitOne K (.ref D) (.type "ValueError") = some b) (h : Q (.bl b) H) : rIsV K [.ref a, .ty "ValueError"] H Q :=
  ⟨a, D, .ty "ValueError", .type "ValueError", b, rfl, ha, hD, fun _ r => r, hk, h⟩
end
end Nn
namespace Nn
open PySem PySem.Spec PyProof.Rows L2
/-- what 'except c as n' wishes, n in slot i, where the suite may leave the error in another name: behind it the error is in the ledger -/
def wAsV (K : PySem.W.Frag) (c : Value) (i : Nat) (ts : Addr → Value → Option Addr → TS) (Wo : WX) (D : Ends) : WX := fun cls d σ H =>
  ∃ b, PySem.W.exmOne K cls c = some b ∧ (b = true → ∃ C, cls = .ref C ∧ d = none ∧ ∀ a, H a = none →
    ts a cls d ⟨fun σ1 H1 => D.nx (σ1.set i none) (upd H1 a (exv a C)), D.rt, fun σ1 H1 => D.bk (σ1.set i none) (upd H1 a (exv a C)), fun σ1 H1 => D.ct (σ1.set i none) (upd H1 a (exv a C))⟩ (σ.set i (some (.ref a))) H) ∧ (b = false → Wo cls d σ H)
section
variable {X : Cx} {x n : Str} {c : Value} {i : Nat} {body rest : List Stmt} {st0 : Stmt} {np pos pos2 : Pos} {tb : WX → TS} {ts : Addr → Value → Option Addr → TS} {Wo : WX}
theorem ps_try_asV (hst : X.stack = X.env :: X.outer) (hfm : X.env.frame = some X.env.locals) (hN : X.N.Nodup) (hi : X.N[i]? = some n) (hln : X.env.kindOf n = some .local) (hc : Names X x c) (tk : Takes X Wo)
    (hb : ∀ (W : WX) (pn : List (Addr × Obj)) (xe : Value → Shared → Prop), Takes (X.tr pn xe) W → PassesOwn (model X.prog X.w) X.A X.env xe → PSs (X.tr pn xe) body (tb W))
    (hsu : ∀ (a : Addr) (oe : Obj) (cls : Value) (d : Option Addr) (pn : List (Addr × Obj)), Zc cls d oe → (∃ vs, oe.data = .fields vs) → PSs (X.suite a ((a, oe) :: pn)) (st0 :: rest) (ts a cls d)) :
    PS X (.Try body [.ExceptHandler (some (.Name x np)) (some n) (st0 :: rest) pos2] [] [] pos) (fun D σ H => tb (wAsV X.K c i ts Wo D) D σ H) := by
  refine ⟨fun pins s σ H D I h => ?_⟩
  have ok := I.ok
  have hframes : X.A.frames = some (X.env :: X.outer) := by rw [ok.frames, hst]
  refine wpAny_Try_except ?_
  have body_ := (hb (wAsV X.K c i ts Wo D) (X.pn ++ pins) (fun e t1 => wpAny (model X.prog X.w) X.A (noteFrame e X.env) (fun _ t2 => wpAny (model X.prog X.w) X.A (setFlight e none) (fun _ t3 =>
    wpAny (model X.prog X.w) X.A (handleBy e X.env [.ExceptHandler (some (.Name x np)) (some n) (st0 :: rest) pos2]) (SP X pins D) X.xe t3) X.xe t2) X.xe t1) (fun u t xx => ?_) PassesOwn.looking).run [] s σ H D (I.toTry _) h
  · refine wpAny_mono body_ (fun fl t1 hsp => ?_) fun _ _ he => he
    cases fl with
    | next =>
      obtain ⟨σ1, H1, J1, q1⟩ := hsp
      exact wpAny_execs_nil ⟨σ1, H1, J1.ofTry ok, q1⟩
    | brk =>
      obtain ⟨σ1, H1, J1, q1⟩ := hsp
      exact ⟨σ1, H1, J1.ofTry ok, q1⟩
    | cont =>
      obtain ⟨σ1, H1, J1, q1⟩ := hsp
      exact ⟨σ1, H1, J1.ofTry ok, q1⟩
    | ret u =>
      obtain ⟨v1, σ1, H1, J1, r1, q1⟩ := hsp
      exact ⟨v1, σ1, H1, J1.ofTry ok, r1, q1⟩
  · obtain ⟨a, B, sI, pins0, σ1, H1, cls, d, rfl, J0, nb, up, sky, na, os, ag, b, hb1, hyes, hno⟩ := xx
    have J : Inv X pins σ1 H1 sI := J0.ofTry ok
    have sky2 : Sky B (X.env :: X.outer) a (Zc cls d) X.env.locals t.heap := by rw [← hst]; exact sky
    show wpAny (model X.prog X.w) X.A (noteFrame (.ref a) X.env) _ _ _
    refine Sky.land Zc.steady hframes hfm sky2 fun g3 l3 u3 => ?_
    have J3 : Inv X pins σ1 H1 { t with heap := g3 } := J.landed nb l3.1 (up.trans u3) os ag
    obtain ⟨oe3, vs3, at3, z3, d3⟩ := l3.there
    have nfr : a ∉ frs (X.env :: X.outer) := fun hm => by
      obtain ⟨_, o1, e1, hnf⟩ := l3.2.2.1.mem hm
      rw [at3] at e1; cases e1
      exact hnf _ d3
    have nL : a ≠ X.env.locals := fun z => nfr (List.mem_filterMap.mpr ⟨X.env, List.mem_cons_self, by rw [hfm, z]⟩)
    have nF : a ∉ X.fs := fun hm => by
      obtain ⟨e, he, q⟩ := List.mem_filterMap.mp hm
      exact nfr (List.mem_filterMap.mpr ⟨e, List.mem_cons_of_mem _ he, q⟩)
    -- the error is newer than all that stood ahead of it
    have nI : ∀ o, sI.heap.get? a = some o → False := fun o e => by
      have q := nb a o e (by rw [hst]; exact nfr)
      rw [l3.2.1] at q; cases q
    have npin : ∀ p ∈ X.pn ++ pins, p.1 ≠ a := fun p hp z => nI p.2 (by rw [← z]; exact (J.pin p hp).1)
    have n0 : ∀ o, X.s_0.heap.get? a = some o → a ∈ X.ex := fun o e => Classical.byContradiction fun hx => by
      obtain ⟨o1, e1⟩ := J.base.there a o e hx
      exact nI o1 e1
    have S3 := J3.suite at3 d3 na nL nF
    refine wpAny_handleBy_cons (codeAny_handlers_test ?_) (by intro q; cases q)
    have lt : PySem.W.Looks (model X.prog X.w) g3 (typeOf (.ref a)) cls := fun A Q E t0 k q => wpAny_typeOf_ref (k _ _ at3) (by rw [z3.1]; exact q)
    have lm := PySem.W.exm_one (M := model X.prog X.w) (J3.kIn) lt hb1
    have test : ∀ {Q : Value → Shared → Prop} {E : Value → Shared → Prop}, Q c { t with heap := g3 } → wpAny (model X.prog X.w) (X.A.mark (some (.ref a))) (eval (.Name x np) X.env) Q E { t with heap := g3 } := fun {Q E} q => by
      obtain ⟨hg, hdb, hm | ⟨hm, hv, hnn⟩⟩ := hc
      · exact ld_glob (X := X.suite a ((a, oe3) :: (X.pn ++ pins))) S3 hg hm q hdb
      · exact ld_blt (X := X.suite a ((a, oe3) :: (X.pn ++ pins))) S3 hg hm hv q hnn hdb
    refine test (lm.here ?_)
    cases b with
    | false =>
      show wpAny _ X.A (handleBy (.ref a) X.env []) _ _ _
      refine wpAny_handleBy_nil ?_
      obtain ⟨_, _, _, oe, vs, T, oT, ts2, he, hz, hd, h1, hr⟩ := id l3
      unfold PySem.passOn
      refine wpAny_bind (wpAny_field he hd h1 ?_)
      rw [if_neg (show ¬ ((Value.ref T == Value.none) = true) from by simp)]
      have fin : wpAny (model X.prog X.w) X.A (setFlight (.ref a) X.env.frame) (fun _ t4 => wpAny (model X.prog X.w) X.A (throw (.ref a) : Sem Flow) (SP X pins D) X.xe t4) X.xe { t with heap := g3 } := by
        rw [hfm]
        refine HandSPX.setFlight_upZ l3 fun g4 k4 u4 => wpAny_throw (tk _ _ ?_)
        exact ⟨a, B, sI, pins, σ1, H1, cls, d, rfl, J, nb, (up.trans u3).trans u4, .inr (.inr (by rw [hst]; exact k4)), na, os, ag, hno rfl⟩
      first
        | exact wpAny_bind (wpAny_pure (wpAny_bind fin))
        | exact wpAny_bind fin
    | true =>
      obtain ⟨C, rfl, rfl, hrun⟩ := hyes rfl
      refine codeAny_handlers_suite_as ?_
      refine HandSPX.lands_againZ l3 fun g4 l4 u4 => ?_
      have J4 : Inv X pins σ1 H1 { t with heap := g4 } := J.landed nb l4.1 ((up.trans u3).trans u4) os ag
      obtain ⟨oe4, vs4, at4, z4, d4⟩ := l4.there
      have S4 := J4.suite at4 d4 na nL nF
      refine store_ok (X := X.suite a ((a, oe4) :: (X.pn ++ pins))) (v := .ref a) S4 hN hi (.inl hln) rfl (fun t5 S5 => ?_) (.inr hln)
      refine wpAny_mono ((hsu a oe4 (.ref C) none (X.pn ++ pins) z4 ⟨_, d4⟩).run [] t5 _ H1 _ S5 (hrun a na)) (fun fl t6 hsp => ?_) (fun _ _ z => False.elim z)
      have off : ∀ {σ6 : L2.St} {H6 : Hp} {Q : Shared → Prop}, Inv (X.suite a ((a, oe4) :: (X.pn ++ pins))) [] σ6 H6 t6 → (∀ t7, Inv X pins (σ6.set i none) (upd H6 a (exv a C)) t7 → Q t7) →
          wpAny (model X.prog X.w) X.A (do bindName X.env n .none; unbindBehindTheSuite X.env n pos2) (fun _ t7 => Q t7) X.xe t6 := fun {σ6 H6 Q} S6 hq => by
        obtain ⟨p1, p2, p3, _⟩ := S6.pin (a, oe4) (List.mem_append.mpr (.inl List.mem_cons_self))
        exact gone_ok (Inv.adopt (S6.unsuite ok) ⟨oe4, p1, z4, _, d4⟩ p2 p3 npin n0) hN hi hln hq
      have offR : ∀ {σ6 : L2.St} {H6 : Hp} {Q : Shared → Prop}, Inv (X.suite a ((a, oe4) :: (X.pn ++ pins))) [] σ6 H6 t6 → (∀ t7, Inv X pins (σ6.set i none) H6 t7 → Q t7) →
          wpAny (model X.prog X.w) X.A (do bindName X.env n .none; unbindBehindTheSuite X.env n pos2) (fun _ t7 => Q t7) X.xe t6 := fun {σ6 H6 Q} S6 hq => gone_ok (S6.unsuite ok) hN hi hln hq
      cases fl with
      | next =>
        obtain ⟨σ6, H6, S6, q6⟩ := hsp
        exact off S6 fun t7 J7 => ⟨_, _, J7, q6⟩
      | brk =>
        obtain ⟨σ6, H6, S6, q6⟩ := hsp
        exact off S6 fun t7 J7 => ⟨_, _, J7, q6⟩
      | cont =>
        obtain ⟨σ6, H6, S6, q6⟩ := hsp
        exact off S6 fun t7 J7 => ⟨_, _, J7, q6⟩
      | ret u =>
        obtain ⟨v6, σ6, H6, S6, r6, q6⟩ := hsp
        exact offR S6 fun t7 J7 => ⟨_, _, _, J7, r6, q6⟩
end
/-- the clause's wish is met -/
theorem x_wasV {K : PySem.W.Frag} {c : Value} {C : Addr} {i : Nat} {ts : Addr → Value → Option Addr → TS} {Wo : WX} {D : Ends} {σ : L2.St} {H : Hp} (hb : PySem.W.exmOne K (.ref C) c = some true)
    (h : ∀ a, H a = none → ts a (.ref C) none ⟨fun σ1 H1 => D.nx (σ1.set i none) (upd H1 a (exv a C)), D.rt, fun σ1 H1 => D.bk (σ1.set i none) (upd H1 a (exv a C)), fun σ1 H1 => D.ct (σ1.set i none) (upd H1 a (exv a C))⟩ (σ.set i (some (.ref a))) H) : WE (wAsV K c i ts Wo D) σ (.ref C) none H :=
  ⟨true, hb, fun _ => ⟨C, rfl, rfl, h⟩, fun z => by cases z⟩
/-- a def that makes a def, and that errors may leave -/
theorem FunC.okX {CX : CXT} {P : Program} {w : World} {K : PySem.W.Frag} {mg : Str → Option Value} {base : Heap} {x qual : Str} {st : Stmt} {f c : Addr} {fd : FuncData} {N ps : List Str} {k : Nat} {sp : Sp} (F : FunC K x qual st f fd c) (S : FnScope N ps (defScope st)) (len : ∀ vs H Q E, sp vs H Q E → vs.length = ps.length)
    (hbody : ∀ (A : Around) (outer : List Env) (s : Shared) (H : Hp) (vs : List V) (Q : VK) (E : XK), Room k (A.deeper (envOfC qual (defScope st) s.heap.objs.size f (.ref c))) → sp vs H Q E →
      ∃ t, PSs (cxOf CX P w K mg base N qual (defScope st) f (.ref c) A outer s H E) (defBody st) t ∧ t { nx := fun _ H' => Q .non H', rt := Q } (start N vs) H) : FnOk P w K mg base CX (k + 1) f fd ps sp := by
  obtain ⟨oc, od, kV, doc, pm, an, ct, osl, rfl, lk, hcd⟩ := F.ex
  exact fn_of lk hcd S len hbody
end Nn
/-! comprehensions over whatever walks; the last of a list -/
namespace Nn
open PySem L2
section
variable {K : PySem.W.Frag} {H : Hp} {Q : VK}
theorem LcW.any {J : It} {n : Nat} {G : Hp → Prop} {Y : Nat → Hp → V → Hp → Prop} {g : TG} {te : TE} {vs : List Nat} {σ : L2.St} (w : Walk J n G Y) (hz : n < sizeLine) (f : Nat → V) (hG : ∀ H', Ex H H' → G H')
    (hs : ∀ i x H1 H2, i < n → Ex H H1 → Y i H1 x H2 → ∀ Qe : VK, (∀ H'', Ex H1 H'' → Qe (f i) H'') → g x (wipe σ vs) H2 fun σ2 H3 => wipe σ2 vs = wipe σ vs ∧ te σ2 H3 Qe)
    (hk : ∀ D H', H D = none → Ex H H' → H' D = some (.lst ((List.range n).map f)) → Q (.ref D) H') : LcW g tYes te vs σ Q J H := by
  intro D hD
  refine lc_it w (Qd := fun H' => Q (.ref D) H') (fun i H' => Ex H H' ∧ H' D = some (.lst ((List.range i).map f))) ⟨Ex.new hD, by rw [upd_same]; rfl⟩ (fun i H' _ h => hG H' h.1) ?_ ?_
  · rintro i x H1 H2 hi ⟨ex, h1⟩ y
    exact hs i x H1 H2 hi ex y _ fun H'' ex2 => ⟨_, ex2.at h1, by rw [List.length_map, List.length_range]; omega, (ex.trans ex2).mut hD (ex2.at h1), by rw [upd_same, List.range_succ, List.map_append]; rfl⟩
  · rintro H1 ⟨ex, h1⟩
    exact hk D H1 hD ex h1
theorem range_getD {n : Nat} {l : List Nat} (h : n = l.length) : ((List.range n).map fun i => nV (l.getD i 0)) = l.map nV := by
  subst h
  refine List.ext_getElem (by simp) fun i h1 h2 => ?_
  have h3 : i < l.length := by simpa using h2
  simp [List.getD_eq_getElem?_getD, List.getElem?_eq_getElem h3]
theorem range_true {n : Nat} : ((List.range n).map fun _ => V.bl true) = ((List.range n).map fun _ => true).map V.bl := by rw [List.map_map]; rfl
theorem all_true {n : Nat} : (((List.range n).map fun _ => true).all id) = true := List.all_eq_true.mpr fun x hx => by
  obtain ⟨_, _, rfl⟩ := List.mem_map.mp hx; rfl
theorem atI_lastN {l : List Nat} {n : Nat} (h : l.getLast? = some n) : atI (l.map nV) (-1) = some (nV n) := by
  obtain ⟨pre, rfl⟩ := List.getLast?_eq_some_iff.mp h
  rw [List.map_append]
  exact atI_last (pre.map nV) (nV n)
theorem x_slTo {p : Addr} {l : List Nat} {m : Nat} {i : Int} (hi : i = m) (hS : SqL K H p (l.map nV)) (h : ∀ (q : Addr) (H' : Hp), H q = none → Ex H H' → H' q = some (.lst ((l.take m).map nV)) → Q (.ref q) H') : rSlL K (.ref p) none (some i) H Q := by
  subst hi
  refine x_slL hS fun q hq => ?_
  rw [cut_take, ← List.map_take]
  exact h q _ hq (Ex.new hq) upd_same
theorem x_slFrom {p : Addr} {l : List Nat} {m : Nat} {i : Int} (hi : i = m) (hS : SqL K H p (l.map nV)) (h : ∀ (q : Addr) (H' : Hp), H q = none → Ex H H' → H' q = some (.lst ((l.drop m).map nV)) → Q (.ref q) H') : rSlL K (.ref p) (some i) none H Q := by
  subst hi
  refine x_slL hS fun q hq => ?_
  rw [cut_drop, ← List.map_drop]
  exact h q _ hq (Ex.new hq) upd_same
theorem x_slInit {p : Addr} {l : List Nat} (hS : SqL K H p (l.map nV)) (h : ∀ (q : Addr) (H' : Hp), H q = none → Ex H H' → H' q = some (.lst (l.dropLast.map nV)) → Q (.ref q) H') : rSlL K (.ref p) none (some (-1)) H Q := by
  refine x_slL hS fun q hq => ?_
  rw [cut_init, ← List.map_dropLast]
  exact h q _ hq (Ex.new hq) upd_same
end
end Nn
namespace Nn
open PySem L2
theorem Ex.new' {H H' : Hp} {p : Addr} {o : HO} (h : H p = none) (e : upd H p o = H') : Ex H H' := by rw [← e]; exact Ex.new h
theorem new_at {H H' : Hp} {p : Addr} {o : HO} (e : upd H p o = H') : H' p = some o := by rw [← e]; exact upd_same
end Nn
namespace Nn
open PySem L2
theorem x_allB {K : PySem.W.Frag} {H : Hp} {Q : VK} {a : Addr} {bs : List Bool} (hS : SqL K H a (bs.map V.bl)) (h : Q (.bl (bs.all id)) H) : rAll K [.ref a] H Q := ⟨a, bs, rfl, hS, h⟩
end Nn
/-! a town and a model of it beside one another, not in step all the time -/
namespace Nn
open PySem L2
section
variable {P : Program} {w : World} {K : PySem.W.Frag} {mg : Str → Option Value} {base : Heap} {H H' : Hp} {Q : VK} {E : XK} {T : Tx K mg base}
structure Pair (T : Tx K mg base) (H : Hp) (A : TA) (F : Addr → Prop) (m : TM) (B : MA) (G : Addr → Prop) (m1 : TM) (ext : List (Key × V)) : Prop where
  ta : TownAt T H A F m
  tm : ModAt H B G m1 ext
  op : Open H B m1
  dj : ∀ a, ¬ (F a ∧ G a)
  tb : NdefX.TabsN (tabsL T) H
variable {A A' : TA} {F F' S : Addr → Prop} {m m' m1 m1' : TM} {B B' : MA} {G G' : Addr → Prop} {ext : List (Key × V)}
theorem Pair.ex (b : Pair T H A F m B G m1 ext) (e : Ex H H') : Pair T H' A F m B G m1 ext :=
  ⟨b.ta.ex' e, b.tm.ex' e, e.at b.op, b.dj, Fr.tabs e b.tb⟩
theorem Pair.fr (b : Pair T H A F m B G m1 ext) (f : Fr S H H') (h : ∀ a, S a → ¬ F a ∧ ¬ G a) : Pair T H' A F m B G m1 ext :=
  ⟨b.ta.fr f fun a z => (h a z).1, b.tm.fr f fun a z => (h a z).2, f.at b.op fun z => (h _ z).2 b.tm.gg.2.1, b.dj, Fr.tabs f b.tb⟩
theorem Pair.town (b : Pair T H A F m B G m1 ext) (f : Fr F H H') (t : TownAt T H' A' F' m') (hF : ∀ a, F' a → F a ∨ H a = none) : Pair T H' A' F' m' B G m1 ext :=
  ⟨t, b.tm.fr f fun a z g => b.dj a ⟨z, g⟩, f.at b.op fun z => b.dj _ ⟨z, b.tm.gg.2.1⟩, fun a z => (hF a z.1).elim (fun q => b.dj a ⟨q, z.2⟩) fun e => b.tm.ex a z.2 e, Fr.tabs f b.tb⟩
theorem Pair.model (b : Pair T H A F m B G m1 ext) (f : Fr G H H') (t : ModAt H' B' G' m1' ext) (op : Open H' B' m1') (hG : ∀ a, G' a → G a ∨ H a = none) : Pair T H' A F m B' G' m1' ext :=
  ⟨b.ta.fr f fun a z g => b.dj a ⟨g, z⟩, t, op, fun a z => (hG a z.2).elim (fun q => b.dj a ⟨z.1, q⟩) fun e => b.ta.ex a z.1 e, Fr.tabs f b.tb⟩
/-- what has happened since: both go on -/
structure Went (H H' : Hp) (A A' : TA) (F F' : Addr → Prop) (B B' : MA) (G G' : Addr → Prop) : Prop where
  fr : Fr (fun a => F a ∨ G a) H H'
  et : A'.t = A.t
  em : B'.md = B.md
  hF : ∀ a, F' a → F a ∨ H a = none
  hG : ∀ a, G' a → G a ∨ H a = none
theorem Went.refl (e : Ex H H') : Went H H' A A F F B B G G := ⟨e.fr, rfl, rfl, fun _ z => .inl z, fun _ z => .inl z⟩
theorem Went.trans {H'' : Hp} {A'' : TA} {F'' G'' : Addr → Prop} {B'' : MA} (a : Went H H' A A' F F' B B' G G') (b : Went H' H'' A' A'' F' F'' B' B'' G' G'') : Went H H'' A A'' F F'' B B'' G G'' :=
  ⟨a.fr.trans2 b.fr fun x z => z.elim (fun z => (a.hF x z).imp .inl id) fun z => (a.hG x z).imp .inr id, b.et.trans a.et, b.em.trans a.em, fun x z => (b.hF x z).elim (a.hF x) fun e => .inr (a.fr.back x e), fun x z => (b.hG x z).elim (a.hG x) fun e => .inr (a.fr.back x e)⟩
theorem Went.town (f : Fr F H H') (e : A'.t = A.t) (hF : ∀ a, F' a → F a ∨ H a = none) : Went H H' A A' F F' B B G G := ⟨f.mono fun _ z => .inl z, e, rfl, hF, fun _ z => .inl z⟩
theorem Went.model (f : Fr G H H') (e : B'.md = B.md) (hG : ∀ a, G' a → G a ∨ H a = none) : Went H H' A A F F B B' G G' := ⟨f.mono fun _ z => .inr z, rfl, e, fun _ z => .inl z, hG⟩
/-- what is neither's stays -/
theorem Went.at {a : Addr} {o : HO} (w : Went H H' A A' F F' B B' G G') (h : H a = some o) (n1 : ¬ F a) (n2 : ¬ G a) (n : NT o := by trivial) : H' a = some o ∧ ¬ F' a ∧ ¬ G' a :=
  ⟨w.fr.at h (fun z => z.elim n1 n2) n, fun z => (w.hF a z).elim n1 fun e => (by rw [h] at e; cases e), fun z => (w.hG a z).elim n2 fun e => by rw [h] at e; cases e⟩
theorem TM.Ok.one' {m : TM} {N : List Nat} {n : Nat} (k : m.Ok N) (hz : N.length ≤ 62) (hn : n < 2 ^ m.wide) : m.Ok (N ++ [n]) :=
  k.more (fun x hx => List.mem_append.mpr (.inl hx)) (fun x hx => (List.mem_append.mp hx).elim (k.nb x) fun z => by rw [List.mem_singleton.mp z]; exact hn) (by rw [List.length_append, List.length_singleton]; omega)
end
end Nn
/-! the town's refusals, by the first class due: 1 no name, 2 no house, 3 taken, 4 silent; 0 none -/
namespace Nn
open PySem L2
theorem dOf_at {f : Nat → V} {hs : List Nat} {n : Nat} (h : n ∈ hs) : valV (dOf hs f) (Sum.inl (n : Int)) = some (f n) := by
  have q := dOf_val (f := f) (n := n) (hs := hs)
  rw [if_pos h] at q; exact q
theorem isnV_nat {v : V} {w : Nat} (h : isnV v w = true) : ∃ n : Nat, v = nV n ∧ n < 2 ^ w := by
  cases v with
  | int i =>
    have h : decide (0 ≤ i ∧ i < ((2 ^ w : Nat) : Int)) = true := h
    obtain ⟨a, b⟩ := of_decide_eq_true h
    exact ⟨i.toNat, by rw [show nV i.toNat = V.int (i.toNat : Int) from rfl, Int.toNat_of_nonneg a], by omega⟩
  | _ => cases h
theorem isnV_nV {n w : Nat} (h : n < 2 ^ w) : isnV (nV n) w = true := decide_eq_true ⟨by omega, by exact_mod_cast h⟩
/-- of a house, or of one that answers -/
def dueH (m : TM) (aw : Bool) (v : V) : Nat := match v with
  | .int i => if 0 ≤ i ∧ i.toNat ∈ m.houses then (if aw = true ∧ i.toNat ∈ m.hush then 4 else 0) else 2
  | _ => 2
theorem dueH_nV {m : TM} {aw : Bool} {n : Nat} : dueH m aw (nV n) = if n ∈ m.houses then (if aw = true ∧ n ∈ m.hush then 4 else 0) else 2 := by
  show (if (0 : Int) ≤ (n : Int) ∧ ((n : Int)).toNat ∈ m.houses then (if aw = true ∧ ((n : Int)).toNat ∈ m.hush then 4 else 0) else 2) = _
  have e : ((n : Int)).toNat = n := rfl
  rw [e]
  by_cases h : n ∈ m.houses
  · rw [if_pos ⟨Int.natCast_nonneg n, h⟩, if_pos h]
  · rw [if_neg fun z => h z.2, if_neg h]
theorem dueH_no {m : TM} {N : List Nat} {aw : Bool} {v : V} (k : m.Ok N) (h : isnV v m.wide = false) : dueH m aw v = 2 := by
  cases v with
  | int i =>
    refine if_neg fun z => ?_
    have q := k.bd z.2
    have h : decide (0 ≤ i ∧ i < ((2 ^ m.wide : Nat) : Int)) = false := h
    have h := of_decide_eq_false h
    omega
  | _ => rfl
theorem dueH_two {m : TM} {v : V} (h : dueH m false v = 2) : dueH m true v = 2 := by
  cases v with
  | int i =>
    by_cases z : 0 ≤ i ∧ i.toNat ∈ m.houses
    · have e : dueH m false (.int i) = 0 := by
        show (if 0 ≤ i ∧ i.toNat ∈ m.houses then (if false = true ∧ i.toNat ∈ m.hush then 4 else 0) else 2) = 0
        rw [if_pos z, if_neg fun w => by cases w.1]
      rw [e] at h; cases h
    · exact if_neg z
  | _ => rfl
/-- what is due -/
def dueOf (m : TM) (kd : Nat) (v u : V) : Nat :=
  if kd = 0 then (if isnV v m.wide = false then 1 else if dueH m false v = 0 then 3 else if u = .non then 0 else dueH m true u)
  else if kd = 3 then (if dueH m false v ≠ 0 then 2 else if dueH m true v = 0 then 3 else dueH m true u)
  else if kd = 5 ∨ kd = 6 then (if dueH m true v ≠ 0 then dueH m true v else if isnV u m.wide = false then 1 else 0)
  else if kd = 4 then dueH m true v else dueH m false v
theorem dueOf_0 {m : TM} {n : Nat} {u : V} (h : n < 2 ^ m.wide) : dueOf m 0 (nV n) u = if n ∈ m.houses then 3 else if u = .non then 0 else dueH m true u := by
  unfold dueOf
  rw [if_pos rfl, if_neg (by rw [isnV_nV h]; decide), dueH_nV]
  by_cases hm : n ∈ m.houses
  · rw [if_pos hm, if_pos hm, if_pos (if_neg fun w => by cases w.1)]
  · rw [if_neg hm, if_neg hm, if_neg (by decide)]
theorem dueOf_3 {m : TM} {n : Nat} {u : V} (hm : n ∈ m.houses) : dueOf m 3 (nV n) u = if n ∈ m.hush then dueH m true u else 3 := by
  have e0 : dueH m false (nV n) = 0 := by rw [dueH_nV, if_pos hm, if_neg fun w => by cases w.1]
  have e1 : dueH m true (nV n) = if n ∈ m.hush then 4 else 0 := by
    rw [dueH_nV, if_pos hm]
    by_cases z : n ∈ m.hush
    · rw [if_pos ⟨rfl, z⟩, if_pos z]
    · rw [if_neg fun w => z w.2, if_neg z]
  unfold dueOf
  rw [if_neg (by decide), if_pos rfl, e0, e1, if_neg fun z => z rfl]
  by_cases h : n ∈ m.hush
  · rw [if_pos h, if_pos h, if_neg (show ¬ (4 : Nat) = 0 by decide)]
  · rw [if_neg h, if_neg h, if_pos rfl]
section
variable {P : Program} {w : World} {K : PySem.W.Frag} {mg : Str → Option Value} {base : Heap} {H H' : Hp} {Q : VK} {E : XK} {T : Tx K mg base} {A : TA} {F : Addr → Prop} {m : TM} {N : List Nat}
def clsD (T : Tx K mg base) (n : Nat) : Addr := if n = 1 then T.C_NoName else if n = 2 then T.C_NoHouse else if n = 3 then T.C_Taken else T.C_Silent
/-- a town, asked with things -/
structure Asks (T : Tx K mg base) (H : Hp) (A : TA) (F : Addr → Prop) (m : TM) (N : List Nat) : Prop where
  t : TownAt T H A F m
  k : m.Ok N
def sx_Town_table (T : Tx K mg base) : Sp := fun vs H Q E => ∃ (A : TA) (F : Addr → Prop) (m : TM) (N : List Nat) (v : V), vs = [.ref A.t, v] ∧ Asks T H A F m N ∧ Thing H v ∧ (dueH m false v = 2 → E (.ref T.C_NoHouse) none H) ∧ ∀ h, v = nV h → h ∈ m.houses → Q (.ref (A.pa h)) H
theorem ex_Town_table (T : Tx K mg base) : FnOk P w K mg base (L2.CX P w) 2 T.a_Town_table T.d_Town_table ["self", "house"] (sx_Town_table T) := by
  refine T.F_Town_table.ok (CX := L2.CX P w) sc_Town_table (fun vs H Q E h => ?_) (fun cdv A outer s H vs Q E hr h => ?_)
  · obtain ⟨A, F, m, N, v, rfl, _⟩ := h; rfl
  · obtain ⟨A1, F, m, N, v, rfl, ⟨t, k⟩, hv, qe, q⟩ := h
    obtain ⟨dx, ob⟩ := t.tw.ob
    have tb := t.tw.tb
    have hu := hu_of hr
    have w1 := k.w1
    have c_Bucket := T.c_Bucket; have n_Bucket_room := T.n_Bucket_room; have n_Bucket_line := T.n_Bucket_line; have c_Table := T.c_Table; have n_Table_own := T.n_Table_own; have n_Table_wide := T.n_Table_wide; have n_Table_room := T.n_Table_room; have n_Table_buckets := T.n_Table_buckets; have c_Town := T.c_Town; have n_Town_wide := T.n_Town_wide; have n_Town_room := T.n_Town_room; have n_Town_tables := T.n_Town_tables; have n_Town_hushed := T.n_Town_hushed
    refine ⟨_, (pss_cons (ps_if (PW.pt (pw_or (pt_not (pt_val (pe_call (ok_is_name T) hr rfl T.m_is_name T.F_is_name.kp T.b_is_name .nil pass0 (pa_cons (pv 1) (pa_cons (pe_fld (pv 0) rfl) pa_nil))))) (pw_or1 (pt_cmp (pc_dnotin hu (pv 1) (pe_fld (pv 0) rfl))))))
      (pss_one (ps_raise rfl (takes_of rfl rfl rfl rfl) (pmk_own PySem.F.excBase_ValueError T.xi_NoHouse T.m_NoHouse T.xk_NoHouse (raises_own T.xs_NoHouse T.xt_NoHouse) rfl)))
      pss_nil)
      (pss_one (ps_ret (pe_dget hu (pe_fld (pv 0) rfl) (pv 1) (fun _ _ => rfl))))), ?_⟩
    rw [Nn.st_Town_table]; try rw [Nn.cxK']
    walk_at "wx"
    refine wg_is_name rfl w1 hv ?_
    cases hb : isnV v m.wide with
    | false =>
      walk_at "wx"
      exact qe (dueH_no k hb)
    | true =>
      obtain ⟨n, rfl, hn⟩ := isnV_nat hb
      have e1 : (valV (dOf m.houses fun h => .ref (A1.pa h)) (Sum.inl (n : Int))).isSome = decide (n ∈ m.houses) := dOf_has
      walk_at "wx"
      rw [e1]
      by_cases hm : n ∈ m.houses
      · have e2 := dOf_at (f := fun h => V.ref (A1.pa h)) hm
        rw [decide_eq_true hm]
        walk_at "wx"
        exact q n rfl hm
      · rw [decide_eq_false hm]
        walk_at "wx"
        exact qe (by rw [dueH_nV, if_neg hm])
def sx_Town_look_awake (T : Tx K mg base) : Sp := fun vs H Q E => ∃ (A : TA) (F : Addr → Prop) (m : TM) (N : List Nat) (v : V), vs = [.ref A.t, v] ∧ Asks T H A F m N ∧ Thing H v ∧ (dueH m true v ≠ 0 → E (.ref (clsD T (dueH m true v))) none H) ∧ (dueH m true v = 0 → Q .non H)
theorem ex_Town_look_awake (T : Tx K mg base) : FnOk P w K mg base (L2.CX P w) 3 T.a_Town_look_awake T.d_Town_look_awake ["self", "house"] (sx_Town_look_awake T) := by
  refine T.F_Town_look_awake.ok (CX := L2.CX P w) sc_Town_look_awake (fun vs H Q E h => ?_) (fun cdv A outer s H vs Q E hr h => ?_)
  · obtain ⟨A, F, m, N, v, rfl, _⟩ := h; rfl
  · obtain ⟨A1, F, m, N, v, rfl, ⟨t, k⟩, hv, qe, q⟩ := h
    obtain ⟨dx, ob⟩ := t.tw.ob
    have hb2 := t.tw.hb
    have hu := hu_of hr
    have c_Bucket := T.c_Bucket; have n_Bucket_room := T.n_Bucket_room; have n_Bucket_line := T.n_Bucket_line; have c_Table := T.c_Table; have n_Table_own := T.n_Table_own; have n_Table_wide := T.n_Table_wide; have n_Table_room := T.n_Table_room; have n_Table_buckets := T.n_Table_buckets; have c_Town := T.c_Town; have n_Town_wide := T.n_Town_wide; have n_Town_room := T.n_Town_room; have n_Town_tables := T.n_Town_tables; have n_Town_hushed := T.n_Town_hushed
    refine ⟨_, (pss_cons (ps_expr (pe_meth (pv 0) T.c_Town T.t_Town_table (ex_Town_table T) hr T.b_Town_table .nil (passE (takes_of rfl rfl rfl rfl)) (pa_cons (pv 1) pa_nil)))
      (pss_one (ps_if (pt_cmp (pc_din hu (pv 1) (pe_fld (pv 0) rfl)))
      (pss_one (ps_raise rfl (takes_of rfl rfl rfl rfl) (pmk_own PySem.F.excBase_ValueError T.xi_Silent T.m_Silent T.xk_Silent (raises_own T.xs_Silent T.xt_Silent) rfl)))
      pss_nil))), ?_⟩
    rw [Nn.st_Town_look_awake]; try rw [Nn.cxK']
    walk_at "wx"
    refine ⟨A1, F, m, N, v, rfl, ⟨t, k⟩, hv, fun h2 => ?_, fun h e hm => ?_⟩
    · have q := qe (by rw [dueH_two h2]; decide)
      rw [dueH_two h2] at q
      exact q
    · subst e
      have e1 : (valV (dOf m.hush fun _ => .bl true) (Sum.inl (h : Int))).isSome = decide (h ∈ m.hush) := dOf_has
      have ed : dueH m true (nV h) = if h ∈ m.hush then 4 else 0 := by
        rw [dueH_nV, if_pos hm]
        by_cases z : h ∈ m.hush
        · rw [if_pos ⟨rfl, z⟩, if_pos z]
        · rw [if_neg fun w => z w.2, if_neg z]
      rw [ed] at qe q
      walk_at "wx"
      rw [e1]
      by_cases z : h ∈ m.hush
      · rw [decide_eq_true z]
        rw [if_pos z] at qe
        walk_at "wx"
        exact qe (by decide)
      · rw [decide_eq_false z]
        rw [if_neg z] at q
        walk_at "wx"
        exact q rfl
def sx_Town_look_named (T : Tx K mg base) : Sp := fun vs H Q E => ∃ (A : TA) (F : Addr → Prop) (m : TM) (N : List Nat) (v : V), vs = [.ref A.t, v] ∧ Asks T H A F m N ∧ Thing H v ∧ (isnV v m.wide = false → E (.ref T.C_NoName) none H) ∧ (isnV v m.wide = true → Q .non H)
theorem ex_Town_look_named (T : Tx K mg base) : FnOk P w K mg base (L2.CX P w) 2 T.a_Town_look_named T.d_Town_look_named ["self", "name"] (sx_Town_look_named T) := by
  refine T.F_Town_look_named.ok (CX := L2.CX P w) sc_Town_look_named (fun vs H Q E h => ?_) (fun cdv A outer s H vs Q E hr h => ?_)
  · obtain ⟨A, F, m, N, v, rfl, _⟩ := h; rfl
  · obtain ⟨A1, F, m, N, v, rfl, ⟨t, k⟩, hv, qe, q⟩ := h
    obtain ⟨dx, ob⟩ := t.tw.ob
    have hu := hu_of hr
    have c_Bucket := T.c_Bucket; have n_Bucket_room := T.n_Bucket_room; have n_Bucket_line := T.n_Bucket_line; have c_Table := T.c_Table; have n_Table_own := T.n_Table_own; have n_Table_wide := T.n_Table_wide; have n_Table_room := T.n_Table_room; have n_Table_buckets := T.n_Table_buckets; have c_Town := T.c_Town; have n_Town_wide := T.n_Town_wide; have n_Town_room := T.n_Town_room; have n_Town_tables := T.n_Town_tables; have n_Town_hushed := T.n_Town_hushed
    refine ⟨_, (pss_one (ps_if (pt_not (pt_val (pe_call (ok_is_name T) hr rfl T.m_is_name T.F_is_name.kp T.b_is_name .nil pass0 (pa_cons (pv 1) (pa_cons (pe_fld (pv 0) rfl) pa_nil)))))
      (pss_one (ps_raise rfl (takes_of rfl rfl rfl rfl) (pmk_own PySem.F.excBase_ValueError T.xi_NoName T.m_NoName T.xk_NoName (raises_own T.xs_NoName T.xt_NoName) rfl)))
      pss_nil)), ?_⟩
    rw [Nn.st_Town_look_named]; try rw [Nn.cxK']
    walk_at "wx"
    refine wg_is_name rfl k.w1 hv ?_
    cases hb : isnV v m.wide with
    | false =>
      walk_at "wx"
      exact qe hb
    | true =>
      walk_at "wx"
      exact q hb
def sx_Town_go (T : Tx K mg base) : Sp := fun vs H Q E => ∃ (A : TA) (F : Addr → Prop) (m : TM) (N : List Nat) (v : V), vs = [.ref A.t, v] ∧ Asks T H A F m N ∧ Thing H v ∧ dueH m false v ≠ 0 ∧ E (.ref (clsD T (dueH m false v))) none H
theorem ex_Town_go (T : Tx K mg base) : FnOk P w K mg base (L2.CX P w) 3 T.a_Town_go T.d_Town_go ["self", "house"] (sx_Town_go T) := by
  refine T.F_Town_go.ok (CX := L2.CX P w) sc_Town_go (fun vs H Q E h => ?_) (fun cdv A outer s H vs Q E hr h => ?_)
  · obtain ⟨A, F, m, N, v, rfl, _⟩ := h; rfl
  · obtain ⟨A1, F, m, N, v, rfl, ⟨t, k⟩, hv, hd, q⟩ := h
    obtain ⟨dx, ob⟩ := t.tw.ob
    have hu := hu_of hr
    have c_Bucket := T.c_Bucket; have n_Bucket_room := T.n_Bucket_room; have n_Bucket_line := T.n_Bucket_line; have c_Table := T.c_Table; have n_Table_own := T.n_Table_own; have n_Table_wide := T.n_Table_wide; have n_Table_room := T.n_Table_room; have n_Table_buckets := T.n_Table_buckets; have c_Town := T.c_Town; have n_Town_wide := T.n_Town_wide; have n_Town_room := T.n_Town_room; have n_Town_tables := T.n_Town_tables; have n_Town_hushed := T.n_Town_hushed
    refine ⟨_, (pss_cons (ps_expr (pe_meth (pv 0) T.c_Town T.t_Town_table (ex_Town_table T) hr T.b_Town_table .nil (passE (takes_of rfl rfl rfl rfl)) (pa_cons (pv 1) pa_nil)))
      pss_dead), ?_⟩
    rw [Nn.st_Town_go]; try rw [Nn.cxK']
    walk_at "wx"
    refine ⟨A1, F, m, N, v, rfl, ⟨t, k⟩, hv, fun h2 => ?_, fun h e hm => absurd (by rw [e, dueH_nV, if_pos hm, if_neg fun w => by cases w.1]) hd⟩
    rw [h2] at q
    exact q
def sx_Town_hush (T : Tx K mg base) : Sp := fun vs H Q E => ∃ (A : TA) (F : Addr → Prop) (m : TM) (N : List Nat) (v : V), vs = [.ref A.t, v] ∧ Asks T H A F m N ∧ Thing H v ∧ dueH m false v ≠ 0 ∧ E (.ref (clsD T (dueH m false v))) none H
theorem ex_Town_hush (T : Tx K mg base) : FnOk P w K mg base (L2.CX P w) 3 T.a_Town_hush T.d_Town_hush ["self", "house"] (sx_Town_hush T) := by
  refine T.F_Town_hush.ok (CX := L2.CX P w) sc_Town_hush (fun vs H Q E h => ?_) (fun cdv A outer s H vs Q E hr h => ?_)
  · obtain ⟨A, F, m, N, v, rfl, _⟩ := h; rfl
  · obtain ⟨A1, F, m, N, v, rfl, ⟨t, k⟩, hv, hd, q⟩ := h
    obtain ⟨dx, ob⟩ := t.tw.ob
    have hu := hu_of hr
    have c_Bucket := T.c_Bucket; have n_Bucket_room := T.n_Bucket_room; have n_Bucket_line := T.n_Bucket_line; have c_Table := T.c_Table; have n_Table_own := T.n_Table_own; have n_Table_wide := T.n_Table_wide; have n_Table_room := T.n_Table_room; have n_Table_buckets := T.n_Table_buckets; have c_Town := T.c_Town; have n_Town_wide := T.n_Town_wide; have n_Town_room := T.n_Town_room; have n_Town_tables := T.n_Town_tables; have n_Town_hushed := T.n_Town_hushed
    refine ⟨_, (pss_cons (ps_expr (pe_meth (pv 0) T.c_Town T.t_Town_table (ex_Town_table T) hr T.b_Town_table .nil (passE (takes_of rfl rfl rfl rfl)) (pa_cons (pv 1) pa_nil)))
      pss_dead), ?_⟩
    rw [Nn.st_Town_hush]; try rw [Nn.cxK']
    walk_at "wx"
    refine ⟨A1, F, m, N, v, rfl, ⟨t, k⟩, hv, fun h2 => ?_, fun h e hm => absurd (by rw [e, dueH_nV, if_pos hm, if_neg fun w => by cases w.1]) hd⟩
    rw [h2] at q
    exact q
def sx_Town_bucket (T : Tx K mg base) : Sp := fun vs H Q E => ∃ (A : TA) (F : Addr → Prop) (m : TM) (N : List Nat) (v : V) (j : Int), vs = [.ref A.t, v, .int j] ∧ Asks T H A F m N ∧ Thing H v ∧ dueH m false v ≠ 0 ∧ E (.ref (clsD T (dueH m false v))) none H
theorem ex_Town_bucket (T : Tx K mg base) : FnOk P w K mg base (L2.CX P w) 3 T.a_Town_bucket T.d_Town_bucket ["self", "house", "k"] (sx_Town_bucket T) := by
  refine T.F_Town_bucket.ok (CX := L2.CX P w) sc_Town_bucket (fun vs H Q E h => ?_) (fun cdv A outer s H vs Q E hr h => ?_)
  · obtain ⟨A, F, m, N, v, j, rfl, _⟩ := h; rfl
  · obtain ⟨A1, F, m, N, v, j, rfl, ⟨t, k⟩, hv, hd, q⟩ := h
    obtain ⟨dx, ob⟩ := t.tw.ob
    have hu := hu_of hr
    have c_Bucket := T.c_Bucket; have n_Bucket_room := T.n_Bucket_room; have n_Bucket_line := T.n_Bucket_line; have c_Table := T.c_Table; have n_Table_own := T.n_Table_own; have n_Table_wide := T.n_Table_wide; have n_Table_room := T.n_Table_room; have n_Table_buckets := T.n_Table_buckets; have c_Town := T.c_Town; have n_Town_wide := T.n_Town_wide; have n_Town_room := T.n_Town_room; have n_Town_tables := T.n_Town_tables; have n_Town_hushed := T.n_Town_hushed
    refine ⟨_, (pss_one (ps_ret (pe_meth (pe_meth (pv 0) T.c_Town T.t_Town_table (ex_Town_table T) hr T.b_Town_table .nil (passE (takes_of rfl rfl rfl rfl)) (pa_cons (pv 1) pa_nil)) T.c_Table T.t_Table_bucket (ok_Table_bucket T) hr T.b_Table_bucket .nil pass0 (pa_cons (pv 2) pa_nil)))), ?_⟩
    rw [Nn.st_Town_bucket]; try rw [Nn.cxK']
    walk_at "wx"
    refine ⟨A1, F, m, N, v, rfl, ⟨t, k⟩, hv, fun h2 => ?_, fun h e hm => absurd (by rw [e, dueH_nV, if_pos hm, if_neg fun w => by cases w.1]) hd⟩
    rw [h2] at q
    exact q
def sx_Town_keeps (T : Tx K mg base) : Sp := fun vs H Q E => ∃ (A : TA) (F : Addr → Prop) (m : TM) (N : List Nat) (v : V), vs = [.ref A.t, v] ∧ Asks T H A F m N ∧ Thing H v ∧ dueH m false v ≠ 0 ∧ E (.ref (clsD T (dueH m false v))) none H
theorem ex_Town_keeps (T : Tx K mg base) : FnOk P w K mg base (L2.CX P w) 3 T.a_Town_keeps T.d_Town_keeps ["self", "house"] (sx_Town_keeps T) := by
  refine T.F_Town_keeps.ok (CX := L2.CX P w) sc_Town_keeps (fun vs H Q E h => ?_) (fun cdv A outer s H vs Q E hr h => ?_)
  · obtain ⟨A, F, m, N, v, rfl, _⟩ := h; rfl
  · obtain ⟨A1, F, m, N, v, rfl, ⟨t, k⟩, hv, hd, q⟩ := h
    obtain ⟨dx, ob⟩ := t.tw.ob
    have hu := hu_of hr
    have c_Bucket := T.c_Bucket; have n_Bucket_room := T.n_Bucket_room; have n_Bucket_line := T.n_Bucket_line; have c_Table := T.c_Table; have n_Table_own := T.n_Table_own; have n_Table_wide := T.n_Table_wide; have n_Table_room := T.n_Table_room; have n_Table_buckets := T.n_Table_buckets; have c_Town := T.c_Town; have n_Town_wide := T.n_Town_wide; have n_Town_room := T.n_Town_room; have n_Town_tables := T.n_Town_tables; have n_Town_hushed := T.n_Town_hushed
    refine ⟨_, (pss_one (ps_ret (pe_meth0 (pe_meth (pv 0) T.c_Town T.t_Town_table (ex_Town_table T) hr T.b_Town_table .nil (passE (takes_of rfl rfl rfl rfl)) (pa_cons (pv 1) pa_nil)) T.c_Table T.t_Table_keeps (ok_Table_keeps T) hr T.b_Table_keeps .nil pass0))), ?_⟩
    rw [Nn.st_Town_keeps]; try rw [Nn.cxK']
    walk_at "wx"
    refine ⟨A1, F, m, N, v, rfl, ⟨t, k⟩, hv, fun h2 => ?_, fun h e hm => absurd (by rw [e, dueH_nV, if_pos hm, if_neg fun w => by cases w.1]) hd⟩
    rw [h2] at q
    exact q
def sx_Town_come_to (T : Tx K mg base) : Sp := fun vs H Q E => ∃ (A : TA) (F : Addr → Prop) (m : TM) (N : List Nat) (v : V), vs = [.ref A.t, v] ∧ Asks T H A F m N ∧ Thing H v ∧ dueH m true v ≠ 0 ∧ E (.ref (clsD T (dueH m true v))) none H
theorem ex_Town_come_to (T : Tx K mg base) : FnOk P w K mg base (L2.CX P w) 4 T.a_Town_come_to T.d_Town_come_to ["self", "house"] (sx_Town_come_to T) := by
  refine T.F_Town_come_to.ok (CX := L2.CX P w) sc_Town_come_to (fun vs H Q E h => ?_) (fun cdv A outer s H vs Q E hr h => ?_)
  · obtain ⟨A, F, m, N, v, rfl, _⟩ := h; rfl
  · obtain ⟨A1, F, m, N, v, rfl, ⟨t, k⟩, hv, hd, q⟩ := h
    obtain ⟨dx, ob⟩ := t.tw.ob
    have hu := hu_of hr
    have c_Bucket := T.c_Bucket; have n_Bucket_room := T.n_Bucket_room; have n_Bucket_line := T.n_Bucket_line; have c_Table := T.c_Table; have n_Table_own := T.n_Table_own; have n_Table_wide := T.n_Table_wide; have n_Table_room := T.n_Table_room; have n_Table_buckets := T.n_Table_buckets; have c_Town := T.c_Town; have n_Town_wide := T.n_Town_wide; have n_Town_room := T.n_Town_room; have n_Town_tables := T.n_Town_tables; have n_Town_hushed := T.n_Town_hushed
    refine ⟨_, (pss_cons (ps_expr (pe_meth (pv 0) T.c_Town T.t_Town_look_awake (ex_Town_look_awake T) hr T.b_Town_look_awake .nil (passE (takes_of rfl rfl rfl rfl)) (pa_cons (pv 1) pa_nil)))
      pss_dead), ?_⟩
    rw [Nn.st_Town_come_to]; try rw [Nn.cxK']
    walk_at "wx"
    exact ⟨A1, F, m, N, v, rfl, ⟨t, k⟩, hv, fun _ => q, fun e => absurd e hd⟩
def sx_Town_come (T : Tx K mg base) : Sp := fun vs H Q E => ∃ (A : TA) (F : Addr → Prop) (m : TM) (N : List Nat) (v u : V), vs = [.ref A.t, v, u] ∧ Asks T H A F m N ∧ Thing H v ∧ Thing H u ∧ dueOf m 0 v u ≠ 0 ∧ ∀ H', Ex H H' → E (.ref (clsD T (dueOf m 0 v u))) none H'
theorem ex_Town_come (T : Tx K mg base) : FnOk P w K mg base (L2.CX P w) 7 T.a_Town_come T.d_Town_come ["self", "name", "door"] (sx_Town_come T) := by
  refine T.F_Town_come.ok (CX := L2.CX P w) sc_Town_come (fun vs H Q E h => ?_) (fun cdv A outer s H vs Q E hr h => ?_)
  · obtain ⟨A, F, m, N, v, u, rfl, _⟩ := h; rfl
  · obtain ⟨A1, F, m, N, v, u, rfl, ⟨t, k⟩, hv, hw, hd, q⟩ := h
    obtain ⟨dx, ob⟩ := t.tw.ob
    have tb := t.tw.tb
    have hb2 := t.tw.hb
    have hu := hu_of hr
    have c_Bucket := T.c_Bucket; have n_Bucket_room := T.n_Bucket_room; have n_Bucket_line := T.n_Bucket_line; have c_Table := T.c_Table; have n_Table_own := T.n_Table_own; have n_Table_wide := T.n_Table_wide; have n_Table_room := T.n_Table_room; have n_Table_buckets := T.n_Table_buckets; have c_Town := T.c_Town; have n_Town_wide := T.n_Town_wide; have n_Town_room := T.n_Town_room; have n_Town_tables := T.n_Town_tables; have n_Town_hushed := T.n_Town_hushed
    refine ⟨_, (pss_cons (ps_expr (pe_meth (pv 0) T.c_Town T.t_Town_look_named (ex_Town_look_named T) (hr.mono (by decide)) T.b_Town_look_named .nil (passE (takes_of rfl rfl rfl rfl)) (pa_cons (pv 1) pa_nil)))
      (pss_cons (ps_if (pt_cmp (pc_din hu (pv 1) (pe_fld (pv 0) rfl)))
      (pss_one (ps_raise rfl (takes_of rfl rfl rfl rfl) (pmk_own PySem.F.excBase_ValueError T.xi_Taken T.m_Taken T.xk_Taken (raises_own T.xs_Taken T.xt_Taken) rfl)))
      pss_nil)
      (pss_cons (ps_if (pt_cmpR op_notNn (pv 2) pe_non (nomark _))
      (pss_one (ps_expr (pe_meth (pv 0) T.c_Town T.t_Town_look_awake (ex_Town_look_awake T) (hr.mono (by decide)) T.b_Town_look_awake .nil (passE (takes_of rfl rfl rfl rfl)) (pa_cons (pv 2) pa_nil))))
      pss_nil)
      pss_dead))), ?_⟩
    rw [Nn.st_Town_come]; try rw [Nn.cxK']
    walk_at "wx"
    refine ⟨A1, F, m, N, v, rfl, ⟨t, k⟩, hv, fun hb => ?_, fun hb => ?_⟩
    · have e : dueOf m 0 v u = 1 := by unfold dueOf; rw [if_pos rfl, if_pos hb]
      have q := q H Ex.refl
      rw [e] at q
      exact q
    · obtain ⟨n, rfl, hn⟩ := isnV_nat hb
      have e1 : (valV (dOf m.houses fun h => .ref (A1.pa h)) (Sum.inl (n : Int))).isSome = decide (n ∈ m.houses) := dOf_has
      have q := q H Ex.refl
      rw [dueOf_0 hn] at hd q
      walk_at "wx"
      rw [e1]
      by_cases hm : n ∈ m.houses
      · rw [decide_eq_true hm]
        rw [if_pos hm] at q
        walk_at "wx"
        exact q
      · rw [decide_eq_false hm]
        rw [if_neg hm] at hd q
        walk_at "wx"
        cases hw with
        | non => exact absurd (if_pos rfl) hd
        | int i =>
          rw [if_neg (by intro z; cases z)] at hd q
          walk_at "wx"
          exact ⟨A1, F, m, N, _, rfl, ⟨t, k⟩, .int _, fun _ => q, fun e => absurd e hd⟩
        | bl b =>
          rw [if_neg (by intro z; cases z)] at hd q
          walk_at "wx"
          exact ⟨A1, F, m, N, _, rfl, ⟨t, k⟩, .bl _, fun _ => q, fun e => absurd e hd⟩
        | str z =>
          rw [if_neg (by intro z; cases z)] at hd q
          walk_at "wx"
          exact ⟨A1, F, m, N, _, rfl, ⟨t, k⟩, .str _, fun _ => q, fun e => absurd e hd⟩
        | lst h =>
          rw [if_neg (by intro z; cases z)] at hd q
          walk_at "wx"
          exact ⟨A1, F, m, N, _, rfl, ⟨t, k⟩, .lst h, fun _ => q, fun e => absurd e hd⟩
        | tup h =>
          rw [if_neg (by intro z; cases z)] at hd q
          walk_at "wx"
          exact ⟨A1, F, m, N, _, rfl, ⟨t, k⟩, .tup h, fun _ => q, fun e => absurd e hd⟩
        | dict h =>
          rw [if_neg (by intro z; cases z)] at hd q
          walk_at "wx"
          exact ⟨A1, F, m, N, _, rfl, ⟨t, k⟩, .dict h, fun _ => q, fun e => absurd e hd⟩
def sx_Town_wake (T : Tx K mg base) : Sp := fun vs H Q E => ∃ (A : TA) (F : Addr → Prop) (m : TM) (N : List Nat) (v u : V), vs = [.ref A.t, v, u] ∧ Asks T H A F m N ∧ Thing H v ∧ Thing H u ∧ dueOf m 3 v u ≠ 0 ∧ ∀ H', Ex H H' → E (.ref (clsD T (dueOf m 3 v u))) none H'
theorem ex_Town_wake (T : Tx K mg base) : FnOk P w K mg base (L2.CX P w) 7 T.a_Town_wake T.d_Town_wake ["self", "house", "door"] (sx_Town_wake T) := by
  refine T.F_Town_wake.ok (CX := L2.CX P w) sc_Town_wake (fun vs H Q E h => ?_) (fun cdv A outer s H vs Q E hr h => ?_)
  · obtain ⟨A, F, m, N, v, u, rfl, _⟩ := h; rfl
  · obtain ⟨A1, F, m, N, v, u, rfl, ⟨t, k⟩, hv, hw, hd, q⟩ := h
    obtain ⟨dx, ob⟩ := t.tw.ob
    have tb := t.tw.tb
    have hb2 := t.tw.hb
    have hu := hu_of hr
    have c_Bucket := T.c_Bucket; have n_Bucket_room := T.n_Bucket_room; have n_Bucket_line := T.n_Bucket_line; have c_Table := T.c_Table; have n_Table_own := T.n_Table_own; have n_Table_wide := T.n_Table_wide; have n_Table_room := T.n_Table_room; have n_Table_buckets := T.n_Table_buckets; have c_Town := T.c_Town; have n_Town_wide := T.n_Town_wide; have n_Town_room := T.n_Town_room; have n_Town_tables := T.n_Town_tables; have n_Town_hushed := T.n_Town_hushed
    refine ⟨_, (pss_cons (ps_expr (pe_meth (pv 0) T.c_Town T.t_Town_table (ex_Town_table T) (hr.mono (by decide)) T.b_Town_table .nil (passE (takes_of rfl rfl rfl rfl)) (pa_cons (pv 1) pa_nil)))
      (pss_cons (ps_if (pt_cmp (pc_dnotin hu (pv 1) (pe_fld (pv 0) rfl)))
      (pss_one (ps_raise rfl (takes_of rfl rfl rfl rfl) (pmk_own PySem.F.excBase_ValueError T.xi_Taken T.m_Taken T.xk_Taken (raises_own T.xs_Taken T.xt_Taken) rfl)))
      pss_nil)
      (pss_cons (ps_expr (pe_meth (pv 0) T.c_Town T.t_Town_look_awake (ex_Town_look_awake T) (hr.mono (by decide)) T.b_Town_look_awake .nil (passE (takes_of rfl rfl rfl rfl)) (pa_cons (pv 2) pa_nil)))
      pss_dead))), ?_⟩
    rw [Nn.st_Town_wake]; try rw [Nn.cxK']
    walk_at "wx"
    refine ⟨A1, F, m, N, v, rfl, ⟨t, k⟩, hv, fun h2 => ?_, fun h e hm => ?_⟩
    · have e : dueOf m 3 v u = 2 := by unfold dueOf; rw [if_neg (by decide), if_pos rfl, if_pos (by rw [h2]; decide)]
      have q := q H Ex.refl
      rw [e] at q
      exact q
    · subst e
      have e2 : (valV (dOf m.hush fun _ => .bl true) (Sum.inl (h : Int))).isSome = decide (h ∈ m.hush) := dOf_has
      have q := q H Ex.refl
      rw [dueOf_3 hm] at hd q
      walk_at "wx"
      rw [e2]
      by_cases hh : h ∈ m.hush
      · rw [decide_eq_true hh]
        rw [if_pos hh] at hd q
        walk_at "wx"
        exact ⟨A1, F, m, N, u, rfl, ⟨t, k⟩, hw, fun _ => q, fun e => absurd e hd⟩
      · rw [decide_eq_false hh]
        rw [if_neg hh] at q
        walk_at "wx"
        exact q
def sx_Town_ask (T : Tx K mg base) : Sp := fun vs H Q E => ∃ (A : TA) (F : Addr → Prop) (m : TM) (N : List Nat) (v u : V), vs = [.ref A.t, v, u] ∧ Asks T H A F m N ∧ Thing H v ∧ Thing H u ∧ dueOf m 5 v u ≠ 0 ∧ NdefX.TabsN (tabsL T) H ∧ ∀ H', Ex H H' → E (.ref (clsD T (dueOf m 5 v u))) none H'
theorem ex_Town_ask (T : Tx K mg base) : FnOk P w K mg base (L2.CX P w) 7 T.a_Town_ask T.d_Town_ask ["self", "start", "goal"] (sx_Town_ask T) := by
  refine T.FC_Town_ask.okX (CX := L2.CX P w) sc_Town_ask (fun vs H Q E h => ?_) (fun A outer s H vs Q E hr h => ?_)
  · obtain ⟨A, F, m, N, v, u, rfl, _⟩ := h; rfl
  · obtain ⟨A1, F, m, N, v, u, rfl, ⟨t, k⟩, hv, hw, hd, hT, q⟩ := h
    obtain ⟨dx, ob⟩ := t.tw.ob
    have tb := t.tw.tb
    have hb2 := t.tw.hb
    have hu := hu_of hr
    have c_Bucket := T.c_Bucket; have n_Bucket_room := T.n_Bucket_room; have n_Bucket_line := T.n_Bucket_line; have c_Table := T.c_Table; have n_Table_own := T.n_Table_own; have n_Table_wide := T.n_Table_wide; have n_Table_room := T.n_Table_room; have n_Table_buckets := T.n_Table_buckets; have c_Town := T.c_Town; have n_Town_wide := T.n_Town_wide; have n_Town_room := T.n_Town_room; have n_Town_tables := T.n_Town_tables; have n_Town_hushed := T.n_Town_hushed
    refine ⟨_, (pss_cons (ps_ndefA (st := s_Town_ask_tells) (i := 3) rfl T.tb_Town_ask rfl nm_Town_ask_tells (NdefX.ndef_free ndB_Town_ask_tells) rfl rfl rfl sc_Town_ask.nd rfl (Or.inl rfl) (.inl rfl))
      (pss_cons (ps_expr (pe_meth (pv 0) T.c_Town T.t_Town_look_awake (ex_Town_look_awake T) (hr.mono (by decide)) T.b_Town_look_awake .nil (passE (takes_of rfl rfl rfl rfl)) (pa_cons (pv 1) pa_nil)))
      (pss_cons (ps_expr (pe_meth (pv 0) T.c_Town T.t_Town_look_named (ex_Town_look_named T) (hr.mono (by decide)) T.b_Town_look_named .nil (passE (takes_of rfl rfl rfl rfl)) (pa_cons (pv 2) pa_nil)))
      pss_dead))), ?_⟩
    rw [Nn.st_Town_ask]; try rw [Nn.cxK']
    walk_at "wx"
    refine ⟨hT _ tabm_Town_ask, fun f cd H1 ex1 hf0 hf hcd => ?_⟩
    generalize L2.cloFrom _ _ _ = cl at hf hcd ⊢
    have t1 := t.ex' ex1
    obtain ⟨dx1, ob1⟩ := t1.tw.ob
    have q := q H1 ex1
    have ed : dueOf m 5 v u = if dueH m true v ≠ 0 then dueH m true v else if isnV u m.wide = false then 1 else 0 := by
      unfold dueOf
      rw [if_neg (by decide), if_neg (by decide), if_pos (by decide)]
    rw [ed] at hd q
    walk_at "wx"
    refine ⟨A1, F, m, N, v, rfl, ⟨t1, k⟩, hv.ex ex1, fun h => ?_, fun h => ?_⟩
    · rw [if_pos h] at q
      exact q
    · rw [if_neg fun z => z h] at hd q
      walk_at "wx"
      refine ⟨A1, F, m, N, u, rfl, ⟨t1, k⟩, hw.ex ex1, fun hb => ?_, fun hb => ?_⟩
      · rw [if_pos hb] at q
        exact q
      · exact absurd (if_neg fun z => by rw [hb] at z; cases z) hd
def sx_Town_way (T : Tx K mg base) : Sp := fun vs H Q E => ∃ (A : TA) (F : Addr → Prop) (m : TM) (N : List Nat) (v u : V), vs = [.ref A.t, v, u] ∧ Asks T H A F m N ∧ Thing H v ∧ Thing H u ∧ dueOf m 6 v u ≠ 0 ∧ NdefX.TabsN (tabsL T) H ∧ ∀ H', Ex H H' → E (.ref (clsD T (dueOf m 6 v u))) none H'
theorem ex_Town_way (T : Tx K mg base) : FnOk P w K mg base (L2.CX P w) 8 T.a_Town_way T.d_Town_way ["self", "start", "goal"] (sx_Town_way T) := by
  refine T.FC_Town_way.okX (CX := L2.CX P w) sc_Town_way (fun vs H Q E h => ?_) (fun A outer s H vs Q E hr h => ?_)
  · obtain ⟨A, F, m, N, v, u, rfl, _⟩ := h; rfl
  · obtain ⟨A1, F, m, N, v, u, rfl, ⟨t, k⟩, hv, hw, hd, hT, q⟩ := h
    obtain ⟨dx, ob⟩ := t.tw.ob
    have tb := t.tw.tb
    have hb2 := t.tw.hb
    have hu := hu_of hr
    have c_Bucket := T.c_Bucket; have n_Bucket_room := T.n_Bucket_room; have n_Bucket_line := T.n_Bucket_line; have c_Table := T.c_Table; have n_Table_own := T.n_Table_own; have n_Table_wide := T.n_Table_wide; have n_Table_room := T.n_Table_room; have n_Table_buckets := T.n_Table_buckets; have c_Town := T.c_Town; have n_Town_wide := T.n_Town_wide; have n_Town_room := T.n_Town_room; have n_Town_tables := T.n_Town_tables; have n_Town_hushed := T.n_Town_hushed
    refine ⟨_, (pss_cons (ps_ndefA (st := s_Town_way_tells) (i := 3) rfl T.tb_Town_way rfl nm_Town_way_tells (NdefX.ndef_free ndB_Town_way_tells) rfl rfl rfl sc_Town_way.nd rfl (Or.inl rfl) (.inl rfl))
      (pss_cons (ps_expr (pe_meth (pv 0) T.c_Town T.t_Town_look_awake (ex_Town_look_awake T) (hr.mono (by decide)) T.b_Town_look_awake .nil (passE (takes_of rfl rfl rfl rfl)) (pa_cons (pv 1) pa_nil)))
      (pss_cons (ps_expr (pe_meth (pv 0) T.c_Town T.t_Town_look_named (ex_Town_look_named T) (hr.mono (by decide)) T.b_Town_look_named .nil (passE (takes_of rfl rfl rfl rfl)) (pa_cons (pv 2) pa_nil)))
      pss_dead))), ?_⟩
    rw [Nn.st_Town_way]; try rw [Nn.cxK']
    walk_at "wx"
    refine ⟨hT _ tabm_Town_way, fun f cd H1 ex1 hf0 hf hcd => ?_⟩
    generalize L2.cloFrom _ _ _ = cl at hf hcd ⊢
    have t1 := t.ex' ex1
    obtain ⟨dx1, ob1⟩ := t1.tw.ob
    have q := q H1 ex1
    have ed : dueOf m 6 v u = if dueH m true v ≠ 0 then dueH m true v else if isnV u m.wide = false then 1 else 0 := by
      unfold dueOf
      rw [if_neg (by decide), if_neg (by decide), if_pos (by decide)]
    rw [ed] at hd q
    walk_at "wx"
    refine ⟨A1, F, m, N, v, rfl, ⟨t1, k⟩, hv.ex ex1, fun h => ?_, fun h => ?_⟩
    · rw [if_pos h] at q
      exact q
    · rw [if_neg fun z => z h] at hd q
      walk_at "wx"
      refine ⟨A1, F, m, N, u, rfl, ⟨t1, k⟩, hw.ex ex1, fun hb => ?_, fun hb => ?_⟩
      · rw [if_pos hb] at q
        exact q
      · exact absurd (if_neg fun z => by rw [hb] at z; cases z) hd
end
end Nn
/-! k36: refusals, as the law reckons them -/
namespace Nn
open PySem L2
section
variable {P : Program} {w : World} {K : PySem.W.Frag} {mg : Str → Option Value} {base : Heap} {H H' : Hp} {Q : VK} {E : XK} {T : Tx K mg base} {A : TA} {F : Addr → Prop} {B : MA} {G S : Addr → Prop} {m : TM} {N : List Nat} {ext : List (Key × V)}
theorem bl_all {K : PySem.W.Frag} {H : Hp} : ∀ {bs : List Bool}, DpAll K H (bs.map V.bl) (bs.map PyData.bool)
  | [] => .nil
  | b :: r => .cons (.bl b) bl_all
theorem bl_dp {K : PySem.W.Frag} {H : Hp} {p : Addr} {bs : List Bool} (h : H p = some (.lst (bs.map V.bl))) : Dp K H (.ref p) (.list (bs.map PyData.bool)) := .lst (SqL.of h) bl_all
theorem bl_shp {bs : List Bool} : Shp (.list (bs.map PyData.bool)) 1 := Shp.lst fun y hy => by
  obtain ⟨b, _, rfl⟩ := List.mem_map.mp hy
  exact Shp.bl
theorem range8 {f : Nat → Bool} : ((List.range 8).map fun k => V.bl (f k)) = [f 0, f 1, f 2, f 3, f 4, f 5, f 6, f 7].map V.bl := rfl
/-- which classes it is of -/
structure Kit (T : Tx K mg base) (n : Nat) : Prop where
  ec : ExcC K (clsD T n)
  c0 : PySem.W.kitOne K (.ref (clsD T n)) (.ref T.C_NoSize) = some (decide (0 = n))
  c1 : PySem.W.kitOne K (.ref (clsD T n)) (.ref T.C_NoName) = some (decide (1 = n))
  c2 : PySem.W.kitOne K (.ref (clsD T n)) (.ref T.C_NoHouse) = some (decide (2 = n))
  c3 : PySem.W.kitOne K (.ref (clsD T n)) (.ref T.C_Taken) = some (decide (3 = n))
  c4 : PySem.W.kitOne K (.ref (clsD T n)) (.ref T.C_Silent) = some (decide (4 = n))
  c5 : PySem.W.kitOne K (.ref (clsD T n)) (.ref T.C_NoTown) = some (decide (5 = n))
  c6 : PySem.W.kitOne K (.ref (clsD T n)) (.ref T.C_NoLine) = some (decide (6 = n))
  cv : PySem.W.kitOne K (.ref (clsD T n)) (.type "ValueError") = some true
  cn : PySem.W.exmOne K (.ref (clsD T n)) (.ref T.C_NearError) = some true
theorem kit_of {n : Nat} (h0 : 0 < n) (h4 : n ≤ 4) : Kit T n := by
  have hc : n = 1 ∨ n = 2 ∨ n = 3 ∨ n = 4 := by omega
  rcases hc with rfl | rfl | rfl | rfl
  · exact ⟨T.ec_NoName, T.xo_NoName_NoSize, T.xo_NoName_NoName, T.xo_NoName_NoHouse, T.xo_NoName_Taken, T.xo_NoName_Silent, T.xo_NoName_NoTown, T.xo_NoName_NoLine, T.xv_NoName, T.xm_NoName_NearError⟩
  · exact ⟨T.ec_NoHouse, T.xo_NoHouse_NoSize, T.xo_NoHouse_NoName, T.xo_NoHouse_NoHouse, T.xo_NoHouse_Taken, T.xo_NoHouse_Silent, T.xo_NoHouse_NoTown, T.xo_NoHouse_NoLine, T.xv_NoHouse, T.xm_NoHouse_NearError⟩
  · exact ⟨T.ec_Taken, T.xo_Taken_NoSize, T.xo_Taken_NoName, T.xo_Taken_NoHouse, T.xo_Taken_Taken, T.xo_Taken_Silent, T.xo_Taken_NoTown, T.xo_Taken_NoLine, T.xv_Taken, T.xm_Taken_NearError⟩
  · exact ⟨T.ec_Silent, T.xo_Silent_NoSize, T.xo_Silent_NoName, T.xo_Silent_NoHouse, T.xo_Silent_Taken, T.xo_Silent_Silent, T.xo_Silent_NoTown, T.xo_Silent_NoLine, T.xv_Silent, T.xm_Silent_NearError⟩
def sp_l_marks (T : Tx K mg base) : Sp := fun vs H Q _ => ∃ (a : Addr) (n : Nat), vs = [.ref a] ∧ H a = some (exv a (clsD T n)) ∧ 0 < n ∧ n ≤ 4 ∧ ∀ p H', Ex H H' → H' p = some (.lst ((List.range 8).map fun k => V.bl (decide (k = n)))) → Q (.ref p) H'
theorem wc_l_marks {a : Addr} {n : Nat} (ha : H a = some (exv a (clsD T n))) (h0 : 0 < n) (h4 : n ≤ 4) (q : ∀ p H', Ex H H' → H' p = some (.lst ((List.range 8).map fun k => V.bl (decide (k = n)))) → Q (.ref p) H') : sp_l_marks T [.ref a] H Q E := ⟨a, n, rfl, ha, h0, h4, q⟩
theorem ok_l_marks (T : Tx K mg base) : FnOk P w K mg base CX0 1 T.a_l_marks T.d_l_marks ["_law_e"] (sp_l_marks T) := by
  refine T.F_l_marks.okD sc_l_marks (fun vs H Q E h => ?_) (fun cdv A outer s H vs Q E hr h => ?_)
  · obtain ⟨a, n, rfl, _⟩ := h; rfl
  · obtain ⟨a, n, rfl, ha, h0, h4, q⟩ := h
    have hu := hu_of hr
    have kt := kit_of (T := T) h0 h4
    have c_Bucket := T.c_Bucket; have n_Bucket_room := T.n_Bucket_room; have n_Bucket_line := T.n_Bucket_line; have c_Table := T.c_Table; have n_Table_own := T.n_Table_own; have n_Table_wide := T.n_Table_wide; have n_Table_room := T.n_Table_room; have n_Table_buckets := T.n_Table_buckets; have c_Town := T.c_Town; have n_Town_wide := T.n_Town_wide; have n_Town_room := T.n_Town_room; have n_Town_tables := T.n_Town_tables; have n_Town_hushed := T.n_Town_hushed
    refine ⟨_, (pss_cons (ps_set (i := 1) sc_l_marks.nd rfl (Or.inl rfl) (pe_lst (pa_cons (pe_callB cr_isV (by rfl) T.z_isinstance (by decide +kernel) (pa_cons (pv 0) (pa_cons (pe_glob (v := .ref T.C_NoSize) rfl T.m_NoSize rfl) pa_nil))) (pa_cons (pe_callB cr_isV (by rfl) T.z_isinstance (by decide +kernel) (pa_cons (pv 0) (pa_cons (pe_glob (v := .ref T.C_NoName) rfl T.m_NoName rfl) pa_nil))) (pa_cons (pe_callB cr_isV (by rfl) T.z_isinstance (by decide +kernel) (pa_cons (pv 0) (pa_cons (pe_glob (v := .ref T.C_NoHouse) rfl T.m_NoHouse rfl) pa_nil))) (pa_cons (pe_callB cr_isV (by rfl) T.z_isinstance (by decide +kernel) (pa_cons (pv 0) (pa_cons (pe_glob (v := .ref T.C_Taken) rfl T.m_Taken rfl) pa_nil))) pa_nil))))))
      (pss_cons (ps_set (i := 1) sc_l_marks.nd rfl (Or.inl rfl) (pe_op op_cat (pv 1) (pe_lst (pa_cons (pe_callB cr_isV (by rfl) T.z_isinstance (by decide +kernel) (pa_cons (pv 0) (pa_cons (pe_glob (v := .ref T.C_Silent) rfl T.m_Silent rfl) pa_nil))) (pa_cons (pe_callB cr_isV (by rfl) T.z_isinstance (by decide +kernel) (pa_cons (pv 0) (pa_cons (pe_glob (v := .ref T.C_NoTown) rfl T.m_NoTown rfl) pa_nil))) (pa_cons (pe_callB cr_isV (by rfl) T.z_isinstance (by decide +kernel) (pa_cons (pv 0) (pa_cons (pe_glob (v := .ref T.C_NoLine) rfl T.m_NoLine rfl) pa_nil))) pa_nil))))))
      (pss_one (ps_ret (pe_op op_cat (pv 1) (pe_lst (pa_cons (pe_not (pe_callB cr_isV (by rfl) T.z_isinstance (by decide +kernel) (pa_cons (pv 0) (pa_cons (pe_bltn (v := .ty "ValueError") rfl T.z_ValueError (by decide +kernel) rfl) pa_nil)))) pa_nil))))))), ?_⟩
    rw [Nn.st_l_marks]; try rw [Nn.cxK]
    try rw [Nn.cxW]
    walk_at "wx"
    refine x_isV ha kt.ec kt.c0 ?_
    walk_at "wx"
    refine x_isV ha kt.ec kt.c1 ?_
    walk_at "wx"
    refine x_isV ha kt.ec kt.c2 ?_
    walk_at "wx"
    refine x_isV ha kt.ec kt.c3 ?_
    walk_at "wx"
    refine ⟨len_ok rfl, fun p1 hp1 => ?_⟩
    generalize hU : upd _ p1 _ = H1
    have ex1 := Ex.new' hp1 hU
    have n1 := new_at hU
    clear hU
    have ha1 := ex1.at ha
    walk_at "wx"
    refine x_isV ha1 kt.ec kt.c4 ?_
    walk_at "wx"
    refine x_isV ha1 kt.ec kt.c5 ?_
    walk_at "wx"
    refine x_isV ha1 kt.ec kt.c6 ?_
    walk_at "wx"
    refine ⟨len_ok rfl, fun p2 hp2 => ?_⟩
    generalize hU : upd _ p2 _ = H2
    have ex2 := Ex.new' hp2 hU
    have n2 := new_at hU
    clear hU
    have ha2 := ex2.at ha1
    have n12 := ex2.at n1
    refine x_cat n12 n2 (by rw [sizeLine_eq]; show 4 + 3 ≤ 16777216; decide) fun p3 hp3 => ?_
    generalize hU : upd H2 p3 _ = H3
    have ex3 := Ex.new' hp3 hU
    have n3 := new_at hU
    clear hU
    have ha3 := ex3.at ha2
    walk_at "wx"
    refine x_isVV ha3 kt.ec kt.cv ?_
    walk_at "wx"
    refine ⟨len_ok rfl, fun p4 hp4 => ?_⟩
    generalize hU : upd _ p4 _ = H4
    have ex4 := Ex.new' hp4 hU
    have n4 := new_at hU
    clear hU
    have n34 := ex4.at n3
    refine x_cat n34 n4 (by rw [sizeLine_eq]; show 7 + 1 ≤ 16777216; decide) fun p5 hp5 => ?_
    generalize hU : upd H4 p5 _ = H5
    have ex5 := Ex.new' hp5 hU
    have n5 := new_at hU
    clear hU
    refine q p5 H5 (((((ex1.trans ex2).trans ex3).trans ex4)).trans ex5) ?_
    rw [n5]
    have e7 : decide (7 = n) = false := decide_eq_false (by omega)
    rw [range8, e7]
    rfl
def sp_l_is_name (_ : Tx K mg base) : Sp := fun vs H Q _ => ∃ (v : V) (wd : Nat), vs = [v, .int wd] ∧ wd ≤ 60 ∧ Thing H v ∧ Q (.bl (isnV v wd)) H
theorem wc_l_is_name {v : V} {wd : Nat} {j : Int} (e1 : j = wd) (c0 : wd ≤ 60) (t : Thing H v) (h : Q (.bl (isnV v wd)) H) : sp_l_is_name T [v, .int j] H Q E := by
  subst e1; exact ⟨v, wd, rfl, c0, t, h⟩
theorem ok_l_is_name (T : Tx K mg base) : FnOk P w K mg base CX0 1 T.a_l_is_name T.d_l_is_name ["_law_thing_here", "_law_wide_here"] (sp_l_is_name T) := by
  refine T.F_l_is_name.okD sc_l_is_name (fun vs H Q E h => ?_) (fun cdv A outer s H vs Q E hr h => ?_)
  · obtain ⟨v, wd, rfl, _⟩ := h; rfl
  · obtain ⟨v, wd, rfl, hw, t, q⟩ := h
    have hu := hu_of hr
    have c_Bucket := T.c_Bucket; have n_Bucket_room := T.n_Bucket_room; have n_Bucket_line := T.n_Bucket_line; have c_Table := T.c_Table; have n_Table_own := T.n_Table_own; have n_Table_wide := T.n_Table_wide; have n_Table_room := T.n_Table_room; have n_Table_buckets := T.n_Table_buckets; have c_Town := T.c_Town; have n_Town_wide := T.n_Town_wide; have n_Town_room := T.n_Town_room; have n_Town_tables := T.n_Town_tables; have n_Town_hushed := T.n_Town_hushed
    refine ⟨_, (pss_one (ps_ret (pe_and (pe_callB call_isi (by rfl) T.z_isinstance (by decide +kernel) (pa_cons (pv 0) (pa_cons (pe_bltn (v := .ty "int") rfl T.z_int (by decide +kernel) rfl) pa_nil))) (pe_and (pe_not (pe_callB call_isi (by rfl) T.z_isinstance (by decide +kernel) (pa_cons (pv 0) (pa_cons (pe_bltn (v := .ty "bool") rfl T.z_bool (by decide +kernel) rfl) pa_nil)))) (pe_one (pe_chain op_le op_lt pe_int (pv 0) (pe_op op_shl1 pe_int (pv 1)))))))), ?_⟩
    rw [Nn.st_l_is_name]; try rw [Nn.cxK]
    try rw [Nn.cxW]
    cases t with
    | int i =>
      walk_at "wx"
      refine x_ite (fun h => ?_) fun h => ?_
      · walk_at "wx"
        have e : isnV (.int i) wd = decide (i < ((2 ^ wd : Nat) : Int)) := decide_eq_decide.mpr ⟨fun z => z.2, fun z => ⟨h, z⟩⟩
        rw [e] at q; exact q
      · have e : isnV (.int i) wd = false := decide_eq_false fun z => h z.1
        rw [e] at q; exact q
    | bl b => walk_at "wx"; exact q
    | str z => walk_at "wx"; exact q
    | non => walk_at "wx"; exact q
    | lst h => walk_at "wx"; exact q
    | tup h => walk_at "wx"; exact q
    | dict h => walk_at "wx"; exact q
/-- a due class told as the law tells it -/
def toldD (n : Nat) : Int := if n = 0 then -1 else n
theorem told0 : toldD 0 = -1 := rfl
theorem told1 {n : Nat} (h : n ≠ 0) : toldD n = (n : Int) := if_neg h
def sp_l_of_house (_ : Tx K mg base) : Sp := fun vs H Q _ => ∃ (B : MA) (G : Addr → Prop) (m : TM) (N : List Nat) (ext : List (Key × V)) (v : V) (aw : Bool), vs = [.ref B.md, .int m.wide, v, .bl aw] ∧ ModAt H B G m ext ∧ m.Ok N ∧ Thing H v ∧ Q (.int (toldD (dueH m aw v))) H
theorem wc_l_of_house {v : V} {aw : Bool} {i : Int} (hi : i = m.wide) (t : ModAt H B G m ext) (k : m.Ok N) (hv : Thing H v) (q : Q (.int (toldD (dueH m aw v))) H) : sp_l_of_house T [.ref B.md, .int i, v, .bl aw] H Q E := by
  subst hi; exact ⟨B, G, m, N, ext, v, aw, rfl, t, k, hv, q⟩
theorem ok_l_of_house (T : Tx K mg base) : FnOk P w K mg base CX0 2 T.a_l_of_house T.d_l_of_house ["_law_model", "_law_wide_here", "_law_house", "_law_awake_here"] (sp_l_of_house T) := by
  refine T.F_l_of_house.okD sc_l_of_house (fun vs H Q E h => ?_) (fun cdv A outer s H vs Q E hr h => ?_)
  · obtain ⟨B, G, m, N, ext, v, aw, rfl, _⟩ := h; rfl
  · obtain ⟨B, G, m, N, ext, v, aw, rfl, t, k, hv, q⟩ := h
    have hu := hu_of hr
    have md := t.md
    have mt := t.mt
    have mq := t.mq
    have et := modD_t (B := B) (room := m.room) (ext := ext)
    have eq := modD_q (B := B) (room := m.room) (ext := ext)
    have c_Bucket := T.c_Bucket; have n_Bucket_room := T.n_Bucket_room; have n_Bucket_line := T.n_Bucket_line; have c_Table := T.c_Table; have n_Table_own := T.n_Table_own; have n_Table_wide := T.n_Table_wide; have n_Table_room := T.n_Table_room; have n_Table_buckets := T.n_Table_buckets; have c_Town := T.c_Town; have n_Town_wide := T.n_Town_wide; have n_Town_room := T.n_Town_room; have n_Town_tables := T.n_Town_tables; have n_Town_hushed := T.n_Town_hushed
    refine ⟨_, (pss_cons (ps_if (PW.pt (pw_or (pt_not (pt_val (pe_call (ok_l_is_name T) hr rfl T.m_l_is_name T.F_l_is_name.kp T.b_l_is_name .nil pass0 (pa_cons (pv 2) (pa_cons (pv 1) pa_nil))))) (pw_or1 (pt_cmp (pc_dnotin hu (pv 2) (pe_dget hu (pv 0) pe_str (fun _ _ => rfl)))))))
      (pss_one (ps_ret pe_int))
      pss_nil)
      (pss_cons (ps_if (PW.pt (pw_and (pt_val (pv 3)) (pw_and1 (pt_cmp (pc_din hu (pv 2) (pe_dget hu (pv 0) pe_str (fun _ _ => rfl)))))))
      (pss_one (ps_ret pe_int))
      pss_nil)
      (pss_one (ps_ret (pe_un un_neg pe_int))))), ?_⟩
    rw [Nn.st_l_of_house]; try rw [Nn.cxK]
    try rw [Nn.cxW]
    walk_at "wx"
    refine wc_l_is_name rfl k.w1 hv ?_
    cases hb : isnV v m.wide with
    | false =>
      rw [dueH_no k hb] at q
      walk_at "wx"
      exact q
    | true =>
      obtain ⟨n, rfl, hn⟩ := isnV_nat hb
      have e1 : (valV (dOf m.houses fun h => .ref (B.ma h)) (Sum.inl (n : Int))).isSome = decide (n ∈ m.houses) := dOf_has
      have e2 : (valV (dOf m.hush fun _ => .bl true) (Sum.inl (n : Int))).isSome = decide (n ∈ m.hush) := dOf_has
      rw [dueH_nV] at q
      walk_at "wx"
      rw [e1]
      by_cases hm : n ∈ m.houses
      · rw [decide_eq_true hm]
        rw [if_pos hm] at q
        walk_at "wx"
        cases aw with
        | false =>
          rw [if_neg fun z => by cases z.1] at q
          walk_at "wx"
          exact q
        | true =>
          walk_at "wx"
          rw [e2]
          by_cases hq : n ∈ m.hush
          · rw [decide_eq_true hq]
            rw [if_pos ⟨rfl, hq⟩] at q
            walk_at "wx"
            exact q
          · rw [decide_eq_false hq]
            rw [if_neg fun z => hq z.2] at q
            walk_at "wx"
            exact q
      · rw [decide_eq_false hm]
        rw [if_neg hm] at q
        walk_at "wx"
        exact q
theorem dueH_ff {v : V} : dueH m false v = 2 ∨ ∃ n : Nat, v = nV n ∧ n ∈ m.houses ∧ dueH m false v = 0 := by
  cases v with
  | int i =>
    by_cases h : 0 ≤ i ∧ i.toNat ∈ m.houses
    · refine .inr ⟨i.toNat, by rw [show nV i.toNat = V.int (i.toNat : Int) from rfl, Int.toNat_of_nonneg h.1], h.2, ?_⟩
      show (if 0 ≤ i ∧ i.toNat ∈ m.houses then (if false = true ∧ i.toNat ∈ m.hush then 4 else 0) else 2) = 0
      rw [if_pos h, if_neg fun w => by cases w.1]
    · exact .inl (if_neg h)
  | _ => exact .inl rfl
/-- what the law reckons due: a door that is none counts -/
def dueL (m : TM) (kd : Nat) (v u : V) : Nat :=
  if kd = 0 then (if isnV v m.wide = false then 1 else if dueH m false v = 0 then 3 else dueH m true u) else dueOf m kd v u
theorem dueL_of {kd : Nat} {v u : V} (h : 0 < kd ∨ u ≠ .non ∨ dueL m kd v u < 2 ∨ dueL m kd v u = 3) (h0 : dueL m kd v u ≠ 0) : dueOf m kd v u = dueL m kd v u := by
  by_cases hk : kd = 0
  · subst hk
    unfold dueL at h h0 ⊢
    unfold dueOf
    rw [if_pos rfl] at h h0 ⊢
    rw [if_pos rfl]
    by_cases h1 : isnV v m.wide = false
    · rw [if_pos h1, if_pos h1]
    · rw [if_neg h1] at h h0 ⊢
      rw [if_neg h1]
      by_cases h2 : dueH m false v = 0
      · rw [if_pos h2, if_pos h2]
      · rw [if_neg h2] at h h0 ⊢
        rw [if_neg h2]
        by_cases h3 : u = .non
        · exfalso
          have e : dueH m true u = 2 := by rw [h3]; rfl
          rw [e] at h
          rcases h with h | h | h | h
          · omega
          · exact h h3
          · omega
          · omega
        · rw [if_neg h3]
  · unfold dueL
    rw [if_neg hk]
theorem dueH_le {aw : Bool} {v : V} : dueH m aw v ≤ 4 := by
  cases v with
  | int i =>
    show (if 0 ≤ i ∧ i.toNat ∈ m.houses then (if aw = true ∧ i.toNat ∈ m.hush then 4 else 0) else 2) ≤ 4
    split
    · split <;> decide
    · decide
  | _ => exact (by decide : (2 : Nat) ≤ 4)
theorem dueOf_le {kd : Nat} {v u : V} : dueOf m kd v u ≤ 4 := by
  unfold dueOf
  repeat' split
  all_goals first | decide | exact dueH_le
def sp_l_due (_ : Tx K mg base) : Sp := fun vs H Q _ => ∃ (B : MA) (G : Addr → Prop) (m : TM) (N : List Nat) (ext : List (Key × V)) (kd : Nat) (v u : V), vs = [.ref B.md, .int m.wide, .int kd, v, u] ∧ kd ≤ 8 ∧ ModAt H B G m ext ∧ m.Ok N ∧ Thing H v ∧ Thing H u ∧ Q (.int (toldD (dueL m kd v u))) H
theorem wc_l_due {kd : Nat} {v u : V} {i j : Int} (hi : i = m.wide) (hj : j = kd) (h8 : kd ≤ 8) (t : ModAt H B G m ext) (k : m.Ok N) (hv : Thing H v) (hw : Thing H u) (q : Q (.int (toldD (dueL m kd v u))) H) : sp_l_due T [.ref B.md, .int i, .int j, v, u] H Q E := by
  subst hi hj; exact ⟨B, G, m, N, ext, kd, v, u, rfl, h8, t, k, hv, hw, q⟩
theorem ok_l_due (T : Tx K mg base) : FnOk P w K mg base CX0 3 T.a_l_due T.d_l_due ["_law_model", "_law_wide_here", "_law_kind", "_law_house", "_law_other"] (sp_l_due T) := by
  refine T.F_l_due.okD sc_l_due (fun vs H Q E h => ?_) (fun cdv A outer s H vs Q E hr h => ?_)
  · obtain ⟨B, G, m, N, ext, kd, v, u, rfl, _⟩ := h; rfl
  · obtain ⟨B, G, m, N, ext, kd, v, u, rfl, h8, t, k, hv, hw, q⟩ := h
    have hu := hu_of hr
    have md := t.md
    have mt := t.mt
    have mq := t.mq
    have et := modD_t (B := B) (room := m.room) (ext := ext)
    have eq := modD_q (B := B) (room := m.room) (ext := ext)
    have c_Bucket := T.c_Bucket; have n_Bucket_room := T.n_Bucket_room; have n_Bucket_line := T.n_Bucket_line; have c_Table := T.c_Table; have n_Table_own := T.n_Table_own; have n_Table_wide := T.n_Table_wide; have n_Table_room := T.n_Table_room; have n_Table_buckets := T.n_Table_buckets; have c_Town := T.c_Town; have n_Town_wide := T.n_Town_wide; have n_Town_room := T.n_Town_room; have n_Town_tables := T.n_Town_tables; have n_Town_hushed := T.n_Town_hushed
    refine ⟨_, (pss_cons (ps_if (pt_cmpR op_eq (pv 2) pe_int (nomark _))
      (pss_cons (ps_if (pt_not (pt_val (pe_call (ok_l_is_name T) (hr.mono (by decide)) rfl T.m_l_is_name T.F_l_is_name.kp T.b_l_is_name .nil pass0 (pa_cons (pv 3) (pa_cons (pv 1) pa_nil)))))
      (pss_one (ps_ret pe_int))
      pss_nil)
      (pss_cons (ps_if (pt_cmp (pc_din hu (pv 3) (pe_dget hu (pv 0) pe_str (fun _ _ => rfl))))
      (pss_one (ps_ret pe_int))
      pss_nil)
      (pss_one (ps_ret (pe_call (ok_l_of_house T) hr rfl T.m_l_of_house T.F_l_of_house.kp T.b_l_of_house .nil pass0 (pa_cons (pv 0) (pa_cons (pv 1) (pa_cons (pv 4) (pa_cons pe_bl pa_nil)))))))))
      pss_nil)
      (pss_cons (ps_if (pt_cmpR op_eq (pv 2) pe_int (nomark _))
      (pss_cons (ps_if (pt_cmpR op_eq (pe_call (ok_l_of_house T) hr rfl T.m_l_of_house T.F_l_of_house.kp T.b_l_of_house .nil pass0 (pa_cons (pv 0) (pa_cons (pv 1) (pa_cons (pv 3) (pa_cons pe_bl pa_nil))))) pe_int (nomark _))
      (pss_one (ps_ret pe_int))
      pss_nil)
      (pss_cons (ps_if (pt_cmp (pc_dnotin hu (pv 3) (pe_dget hu (pv 0) pe_str (fun _ _ => rfl))))
      (pss_one (ps_ret pe_int))
      pss_nil)
      (pss_one (ps_ret (pe_call (ok_l_of_house T) hr rfl T.m_l_of_house T.F_l_of_house.kp T.b_l_of_house .nil pass0 (pa_cons (pv 0) (pa_cons (pv 1) (pa_cons (pv 4) (pa_cons pe_bl pa_nil)))))))))
      pss_nil)
      (pss_cons (ps_set (i := 5) sc_l_due.nd rfl (Or.inl rfl) (pe_call (ok_l_of_house T) hr rfl T.m_l_of_house T.F_l_of_house.kp T.b_l_of_house .nil pass0 (pa_cons (pv 0) (pa_cons (pv 1) (pa_cons (pv 3) (pa_cons (pe_chain op_le op_le pe_int (pv 2) pe_int) pa_nil))))))
      (pss_cons (ps_if (PW.pt (pw_and (pt_cmpR op_eq (pv 5) (pe_un un_neg pe_int) (nomark _)) (pw_and (pt_chain op_le op_le pe_int (pv 2) pe_int) (pw_and1 (pt_not (pt_val (pe_call (ok_l_is_name T) (hr.mono (by decide)) rfl T.m_l_is_name T.F_l_is_name.kp T.b_l_is_name .nil pass0 (pa_cons (pv 4) (pa_cons (pv 1) pa_nil)))))))))
      (pss_one (ps_ret pe_int))
      pss_nil)
      (pss_one (ps_ret (pv 5))))))), ?_⟩
    rw [Nn.st_l_due]; try rw [Nn.cxK]
    try rw [Nn.cxW]
    walk_at "wx"
    refine x_ifD (fun c => ?_) fun c => ?_
    · have hk : kd = 0 := by omega
      subst hk
      unfold dueL at q
      rw [if_pos rfl] at q
      walk_at "wx"
      refine wc_l_is_name rfl k.w1 hv ?_
      cases hb : isnV v m.wide with
      | false =>
        rw [if_pos hb] at q
        walk_at "wx"
        exact q
      | true =>
        rw [if_neg (by rw [hb]; decide)] at q
        obtain ⟨n, rfl, hn⟩ := isnV_nat hb
        have e1 : (valV (dOf m.houses fun h => .ref (B.ma h)) (Sum.inl (n : Int))).isSome = decide (n ∈ m.houses) := dOf_has
        walk_at "wx"
        rw [e1]
        by_cases hm : n ∈ m.houses
        · rw [decide_eq_true hm]
          rw [if_pos (by rw [dueH_nV, if_pos hm, if_neg fun w => by cases w.1])] at q
          walk_at "wx"
          exact q
        · rw [decide_eq_false hm]
          rw [if_neg (by rw [dueH_nV, if_neg hm]; decide)] at q
          walk_at "wx"
          exact wc_l_of_house rfl t k hw q
    · have hk : ¬ kd = 0 := by omega
      have q : Q (.int (toldD (dueOf m kd v u))) H := by unfold dueL at q; rw [if_neg hk] at q; exact q
      walk_at "wx"
      refine x_ifD (fun c3 => ?_) fun c3 => ?_
      · have hk3 : kd = 3 := by omega
        subst hk3
        walk_at "wx"
        refine wc_l_of_house rfl t k hv ?_
        rcases dueH_ff (m := m) (v := v) with h2 | ⟨n, rfl, hm, h0⟩
        · have e : dueOf m 3 v u = 2 := by unfold dueOf; rw [if_neg (by decide), if_pos rfl, if_pos (by rw [h2]; decide)]
          rw [e] at q
          rw [h2]
          walk_at "wx"
          refine x_ifD (fun _ => ?_) fun z => absurd rfl z
          walk_at "wx"
          exact q
        · rw [dueOf_3 hm] at q
          rw [h0]
          have e2 : (valV (dOf m.hush fun _ => .bl true) (Sum.inl (n : Int))).isSome = decide (n ∈ m.hush) := dOf_has
          walk_at "wx"
          refine x_ifD (fun z => absurd z (by decide)) fun _ => ?_
          walk_at "wx"
          rw [e2]
          by_cases hq : n ∈ m.hush
          · rw [decide_eq_true hq]
            rw [if_pos hq] at q
            walk_at "wx"
            exact wc_l_of_house rfl t k hw q
          · rw [decide_eq_false hq]
            rw [if_neg hq] at q
            walk_at "wx"
            exact q
      · have hk3 : ¬ kd = 3 := by omega
        walk_at "wx"
        refine x_ite (fun c4 => ?_) fun c4 => ?_
        · walk_at "wx"
          by_cases c6 : (kd : Int) ≤ 6
          · rw [decide_eq_true c6]
            refine wc_l_of_house rfl t k hv ?_
            by_cases h0 : dueH m true v = 0
            · rw [h0, told0]
              walk_at "wx"
              refine x_ite (fun c5 => ?_) fun c5 => ?_
              · walk_at "wx"
                refine x_ite (fun _ => ?_) fun z => absurd c6 z
                walk_at "wx"
                refine wc_l_is_name rfl k.w1 hw ?_
                have e : dueOf m kd v u = if isnV u m.wide = false then 1 else 0 := by
                  unfold dueOf
                  rw [if_neg hk, if_neg hk3, if_pos (by omega), if_neg fun z => z h0]
                rw [e] at q
                cases hb : isnV u m.wide with
                | false =>
                  rw [if_pos hb] at q
                  walk_at "wx"
                  exact q
                | true =>
                  rw [if_neg (by rw [hb]; decide)] at q
                  walk_at "wx"
                  exact q
              · have e : dueOf m kd v u = dueH m true v := by
                  unfold dueOf
                  rw [if_neg hk, if_neg hk3, if_neg (by omega), if_pos (by omega)]
                rw [e, h0] at q
                walk_at "wx"
                exact q
            · have e : dueOf m kd v u = dueH m true v := by
                unfold dueOf
                rw [if_neg hk, if_neg hk3, if_pos h0]
                split
                · rfl
                · rw [if_pos (by omega)]
              rw [e] at q
              rw [told1 h0] at q ⊢
              walk_at "wx"
              refine x_ite (fun z => absurd z (by omega)) fun _ => ?_
              walk_at "wx"
              exact q
          · rw [decide_eq_false c6]
            refine wc_l_of_house rfl t k hv ?_
            have e : dueOf m kd v u = dueH m false v := by
              unfold dueOf
              rw [if_neg hk, if_neg hk3, if_neg (by omega), if_neg (by omega)]
            rw [e] at q
            by_cases h0 : dueH m false v = 0
            · rw [h0, told0] at q ⊢
              walk_at "wx"
              refine x_ite (fun _ => ?_) fun z => absurd (by omega) z
              walk_at "wx"
              refine x_ite (fun z => absurd z c6) fun _ => ?_
              walk_at "wx"
              exact q
            · rw [told1 h0] at q ⊢
              walk_at "wx"
              refine x_ite (fun z => absurd z (by omega)) fun _ => ?_
              walk_at "wx"
              exact q
        · walk_at "wx"
          refine wc_l_of_house rfl t k hv ?_
          have e : dueOf m kd v u = dueH m false v := by
            unfold dueOf
            rw [if_neg hk, if_neg hk3, if_neg (by omega), if_neg (by omega)]
          rw [e] at q
          by_cases h0 : dueH m false v = 0
          · rw [h0, told0] at q ⊢
            walk_at "wx"
            refine x_ite (fun z => absurd z (by omega)) fun _ => ?_
            walk_at "wx"
            exact q
          · rw [told1 h0] at q ⊢
            walk_at "wx"
            refine x_ite (fun z => absurd z (by omega)) fun _ => ?_
            walk_at "wx"
            exact q
end
end Nn
/-! k36: things, deeds, refusals -/
namespace Nn
open PySem L2
section
variable {P : Program} {w : World} {K : PySem.W.Frag} {mg : Str → Option Value} {base : Heap} {H H' : Hp} {Q : VK} {E : XK} {T : Tx K mg base} {A : TA} {F : Addr → Prop} {B : MA} {G S : Addr → Prop} {m : TM} {N : List Nat} {ext : List (Key × V)}
def sp_l_thing (_ : Tx K mg base) : Sp := fun vs H Q _ => ∃ (B : MA) (G : Addr → Prop) (m : TM) (ext : List (Key × V)) (c : Nat), vs = [.ref B.md, .int m.wide, .int c] ∧ ModAt H B G m ext ∧ m.wide ≤ 60 ∧ m.houses.length < 64 ∧ m.houses.Nodup ∧ ∀ v H', Ex H H' → Thing H' v → Q v H'
theorem wc_l_thing {c : Nat} {i j : Int} (hi : i = m.wide) (hj : j = c) (t : ModAt H B G m ext) (hw : m.wide ≤ 60) (hz : m.houses.length < 64) (nd : m.houses.Nodup) (q : ∀ v H', Ex H H' → Thing H' v → Q v H') : sp_l_thing T [.ref B.md, .int i, .int j] H Q E := by
  subst hi hj; exact ⟨B, G, m, ext, c, rfl, t, hw, hz, nd, q⟩
theorem ok_l_thing (T : Tx K mg base) : FnOk P w K mg base CX0 1 T.a_l_thing T.d_l_thing ["_law_model", "_law_wide_here", "_law_cell"] (sp_l_thing T) := by
  refine T.F_l_thing.okD sc_l_thing (fun vs H Q E h => ?_) (fun cdv A outer s H vs Q E hr h => ?_)
  · obtain ⟨B, G, m, ext, c, rfl, _⟩ := h; rfl
  · obtain ⟨B, G, m, ext, c, rfl, t, hw, hz, nd, q⟩ := h
    have hu := hu_of hr
    have md := t.md
    have mt := t.mt
    have et := modD_t (B := B) (room := m.room) (ext := ext)
    have hw0 := two_pos (k := m.wide)
    have h50 : (0 : Int) < 10 ^ Int.toNat 50 := by decide
    have c_Bucket := T.c_Bucket; have n_Bucket_room := T.n_Bucket_room; have n_Bucket_line := T.n_Bucket_line; have c_Table := T.c_Table; have n_Table_own := T.n_Table_own; have n_Table_wide := T.n_Table_wide; have n_Table_room := T.n_Table_room; have n_Table_buckets := T.n_Table_buckets; have c_Town := T.c_Town; have n_Town_wide := T.n_Town_wide; have n_Town_room := T.n_Town_room; have n_Town_tables := T.n_Town_tables; have n_Town_hushed := T.n_Town_hushed
    refine ⟨_, (pss_cons (ps_set (i := 3) sc_l_thing.nd rfl (Or.inl rfl) (pe_op op_cat (pe_callB (cb_sortD rfl) (by rfl) T.z_sorted (by decide +kernel) (pa_cons (pe_dget hu (pv 0) pe_str (fun _ _ => rfl)) pa_nil)) (pe_lst (pa_cons (pe_op op_mod (pe_op op_fdivW (pv 2) pe_int) (pe_op op_shl1 pe_int (pv 1))) (pa_cons (pe_op op_shl1 pe_int (pv 1)) (pa_cons (pe_un un_neg pe_int) (pa_cons pe_bl (pa_cons pe_bl (pa_cons pe_str (pa_cons (pe_lst (pa_cons pe_int pa_nil)) (pa_cons (pe_tup (pa_cons pe_int pa_nil)) (pa_cons pe_dnewK pa_nil))))))))))))
      (pss_one (ps_ret (pe_ix ix_list (pe_op op_cat (pv 3) (pe_lst (pa_cons pe_non (pa_cons (pe_op op_add (pe_op op_shl1 pe_int (pv 1)) (pe_op op_mod (pe_op op_fdivW (pv 2) pe_int) (pe_op op_pow pe_int pe_int))) pa_nil)))) (pe_op op_mod (pv 2) (pe_op op_add (pe_callB cb_len (by rfl) T.z_len PySem.boot_len (pa_cons (pv 3) pa_nil)) pe_int)) (fun _ _ => rfl))))), ?_⟩
    rw [Nn.st_l_thing]; try rw [Nn.cxK]
    try rw [Nn.cxW]
    walk_at "wx"
    refine x_sortDN mt hz nd fun p1 hp1 => ?_
    generalize hU : upd H p1 _ = H1
    have ex1 := Ex.new' hp1 hU
    have n1 := new_at hU
    clear hU
    walk_at "wx"
    refine ⟨len_ok rfl, fun p2 hp2 => ?_⟩
    generalize hU : upd _ p2 _ = H2
    have ex2 := Ex.new' hp2 hU
    have n2 := new_at hU
    clear hU
    refine ⟨len_ok rfl, fun p3 hp3 => ?_⟩
    generalize hU : upd _ p3 _ = H3
    have ex3 := Ex.new' hp3 hU
    have n3 := new_at hU
    clear hU
    refine x_dnew fun p4 hp4 => ?_
    generalize hU : upd H3 p4 (.dK []) = H4
    have ex4 := Ex.new' hp4 hU
    have n4 := new_at hU
    clear hU
    walk_at "wx"
    refine ⟨len_ok rfl, fun p5 hp5 => ?_⟩
    generalize hU : upd _ p5 _ = H5
    have ex5 := Ex.new' hp5 hU
    have n5 := new_at hU
    clear hU
    have n15 := ex5.at (ex4.at (ex3.at (ex2.at n1)))
    have hsl := sortU_le (l := m.houses)
    refine x_cat n15 n5 (by rw [sizeLine_eq, List.length_map]; simp only [List.length_cons, List.length_nil]; omega) fun p6 hp6 => ?_
    generalize hU : upd H5 p6 _ = H6
    have ex6 := Ex.new' hp6 hU
    have n6 := new_at hU
    clear hU
    walk_at "wx"
    refine ⟨len_ok rfl, fun p7 hp7 => ?_⟩
    generalize hU : upd _ p7 _ = H7
    have ex7 := Ex.new' hp7 hU
    have n7 := new_at hU
    clear hU
    have n67 := ex7.at n6
    refine x_cat n67 n7 (by rw [sizeLine_eq, List.length_append, List.length_map]; simp only [List.length_cons, List.length_nil]; omega) fun p8 hp8 => ?_
    generalize hU : upd H7 p8 _ = H8
    have ex8 := Ex.new' hp8 hU
    have n8 := new_at hU
    have n68 := ex8.at n67
    clear hU
    walk_at "wx"
    have ex08 := (((((((ex1.trans ex2).trans ex3).trans ex4).trans ex5).trans ex6).trans ex7).trans ex8)
    have e2 := ex8.at (ex7.at (ex6.at (ex5.at (ex4.at (ex3.at n2)))))
    have e3 := ex8.at (ex7.at (ex6.at (ex5.at (ex4.at n3))))
    have e4 := ex8.at (ex7.at (ex6.at (ex5.at n4)))
    generalize hL : List.map nV (sortU m.houses) ++ _ = L at n8 n68 ⊢
    have hthL : ∀ y ∈ L, Thing H8 y := fun y hy => by
      rw [← hL] at hy
      rcases List.mem_append.mp hy with hy | hy
      · obtain ⟨n, _, rfl⟩ := List.mem_map.mp hy
        exact .int _
      · simp only [List.mem_cons, List.not_mem_nil, or_false] at hy
        rcases hy with rfl | rfl | rfl | rfl | rfl | rfl | rfl | rfl | rfl
        · exact .int _
        · exact .int _
        · exact .int _
        · exact .bl _
        · exact .bl _
        · exact .str _
        · exact .lst e2
        · exact .tup e3
        · exact .dict e4
    have hth : ∀ (xs : List V), (∀ y ∈ xs, y = .non ∨ ∃ i, y = .int i) → ∀ y ∈ L ++ xs, Thing H8 y := fun xs hx y hy => by
      rcases List.mem_append.mp hy with hy | hy
      · exact hthL y hy
      · rcases hx y hy with rfl | ⟨i, rfl⟩
        · exact .non
        · exact .int i
    have ec : (c : Int) % ((L.length : Int) + 2) = ((c % (L.length + 2) : Nat) : Int) := by simp
    rw [ec]
    have hj := Nat.mod_lt c (show 0 < L.length + 2 by omega)
    refine x_ixL (SqL.of n8) (atI_nat (List.getElem?_eq_getElem (by rw [List.length_append]; exact hj))) (q _ _ ex08 (hth _ (fun y hy => ?_) _ (List.getElem_mem _)))
    simp only [List.mem_cons, List.not_mem_nil, or_false] at hy
    rcases hy with rfl | rfl
    · exact .inl rfl
    · exact .inr ⟨_, rfl⟩
def sx_l_done (T : Tx K mg base) : Sp := fun vs H Q E => ∃ (A : TA) (F : Addr → Prop) (m : TM) (N : List Nat) (kd : Nat) (v u : V), vs = [.ref A.t, .int kd, v, u] ∧ kd ≤ 8 ∧ Asks T H A F m N ∧ Thing H v ∧ Thing H u ∧ NdefX.TabsN (tabsL T) H ∧ dueOf m kd v u ≠ 0 ∧ ∀ H', Ex H H' → E (.ref (clsD T (dueOf m kd v u))) none H'
theorem ex_l_done (T : Tx K mg base) : FnOk P w K mg base (L2.CX P w) 9 T.a_l_done T.d_l_done ["_law_town", "_law_kind", "_law_house", "_law_other"] (sx_l_done T) := by
  refine T.F_l_done.ok (CX := L2.CX P w) sc_l_done (fun vs H Q E h => ?_) (fun cdv A outer s H vs Q E hr h => ?_)
  · obtain ⟨A, F, m, N, kd, v, u, rfl, _⟩ := h; rfl
  · obtain ⟨A1, F, m, N, kd, v, u, rfl, h8, s, hv, hw, hT, hd, q⟩ := h
    obtain ⟨dx, ob⟩ := s.t.tw.ob
    have hu := hu_of hr
    have c_Bucket := T.c_Bucket; have n_Bucket_room := T.n_Bucket_room; have n_Bucket_line := T.n_Bucket_line; have c_Table := T.c_Table; have n_Table_own := T.n_Table_own; have n_Table_wide := T.n_Table_wide; have n_Table_room := T.n_Table_room; have n_Table_buckets := T.n_Table_buckets; have c_Town := T.c_Town; have n_Town_wide := T.n_Town_wide; have n_Town_room := T.n_Town_room; have n_Town_tables := T.n_Town_tables; have n_Town_hushed := T.n_Town_hushed
    refine ⟨_, (pss_one (ps_if (pt_cmpR op_eq (pv 1) pe_int (nomark _))
      (pss_one (ps_expr (pe_meth (pv 0) T.c_Town T.t_Town_come (ex_Town_come T) (hr.mono (by decide)) T.b_Town_come .nil (passE (takes_of rfl rfl rfl rfl)) (pa_cons (pv 2) (pa_cons (pv 3) pa_nil)))))
      (pss_one (ps_if (pt_cmpR op_eq (pv 1) pe_int (nomark _))
      (pss_one (ps_expr (pe_meth (pv 0) T.c_Town T.t_Town_go (ex_Town_go T) (hr.mono (by decide)) T.b_Town_go .nil (passE (takes_of rfl rfl rfl rfl)) (pa_cons (pv 2) pa_nil))))
      (pss_one (ps_if (pt_cmpR op_eq (pv 1) pe_int (nomark _))
      (pss_one (ps_expr (pe_meth (pv 0) T.c_Town T.t_Town_hush (ex_Town_hush T) (hr.mono (by decide)) T.b_Town_hush .nil (passE (takes_of rfl rfl rfl rfl)) (pa_cons (pv 2) pa_nil))))
      (pss_one (ps_if (pt_cmpR op_eq (pv 1) pe_int (nomark _))
      (pss_one (ps_expr (pe_meth (pv 0) T.c_Town T.t_Town_wake (ex_Town_wake T) (hr.mono (by decide)) T.b_Town_wake .nil (passE (takes_of rfl rfl rfl rfl)) (pa_cons (pv 2) (pa_cons (pv 3) pa_nil)))))
      (pss_one (ps_if (pt_cmpR op_eq (pv 1) pe_int (nomark _))
      (pss_one (ps_expr (pe_meth (pv 0) T.c_Town T.t_Town_come_to (ex_Town_come_to T) (hr.mono (by decide)) T.b_Town_come_to .nil (passE (takes_of rfl rfl rfl rfl)) (pa_cons (pv 2) pa_nil))))
      (pss_one (ps_if (pt_cmpR op_eq (pv 1) pe_int (nomark _))
      (pss_one (ps_expr (pe_meth (pv 0) T.c_Town T.t_Town_ask (ex_Town_ask T) (hr.mono (by decide)) T.b_Town_ask .nil (passE (takes_of rfl rfl rfl rfl)) (pa_cons (pv 2) (pa_cons (pv 3) pa_nil)))))
      (pss_one (ps_if (pt_cmpR op_eq (pv 1) pe_int (nomark _))
      (pss_one (ps_expr (pe_meth (pv 0) T.c_Town T.t_Town_way (ex_Town_way T) hr T.b_Town_way .nil (passE (takes_of rfl rfl rfl rfl)) (pa_cons (pv 2) (pa_cons (pv 3) pa_nil)))))
      (pss_one (ps_if (pt_cmpR op_eq (pv 1) pe_int (nomark _))
      (pss_one (ps_expr (pe_meth (pv 0) T.c_Town T.t_Town_bucket (ex_Town_bucket T) (hr.mono (by decide)) T.b_Town_bucket .nil (passE (takes_of rfl rfl rfl rfl)) (pa_cons (pv 2) (pa_cons pe_int pa_nil)))))
      (pss_one (ps_expr (pe_meth (pv 0) T.c_Town T.t_Town_keeps (ex_Town_keeps T) (hr.mono (by decide)) T.b_Town_keeps .nil (passE (takes_of rfl rfl rfl rfl)) (pa_cons (pv 2) pa_nil)))))))))))))))))))), ?_⟩
    rw [Nn.st_l_done]; try rw [Nn.cxK']
    have hc : kd = 0 ∨ kd = 1 ∨ kd = 2 ∨ kd = 3 ∨ kd = 4 ∨ kd = 5 ∨ kd = 6 ∨ kd = 7 ∨ kd = 8 := by omega
    rcases hc with rfl | rfl | rfl | rfl | rfl | rfl | rfl | rfl | rfl
    · walk_at "wx"
      repeat (refine x_ifD (fun z => absurd z (by decide)) fun _ => ?_; walk_at "wx")
      try (refine x_ifD (fun _ => ?_) fun z => absurd (by decide) z; walk_at "wx")
      exact ⟨A1, F, m, N, v, u, rfl, s, hv, hw, hd, q⟩
    · walk_at "wx"
      repeat (refine x_ifD (fun z => absurd z (by decide)) fun _ => ?_; walk_at "wx")
      try (refine x_ifD (fun _ => ?_) fun z => absurd (by decide) z; walk_at "wx")
      exact ⟨A1, F, m, N, v, rfl, s, hv, hd, q H Ex.refl⟩
    · walk_at "wx"
      repeat (refine x_ifD (fun z => absurd z (by decide)) fun _ => ?_; walk_at "wx")
      try (refine x_ifD (fun _ => ?_) fun z => absurd (by decide) z; walk_at "wx")
      exact ⟨A1, F, m, N, v, rfl, s, hv, hd, q H Ex.refl⟩
    · walk_at "wx"
      repeat (refine x_ifD (fun z => absurd z (by decide)) fun _ => ?_; walk_at "wx")
      try (refine x_ifD (fun _ => ?_) fun z => absurd (by decide) z; walk_at "wx")
      exact ⟨A1, F, m, N, v, u, rfl, s, hv, hw, hd, q⟩
    · walk_at "wx"
      repeat (refine x_ifD (fun z => absurd z (by decide)) fun _ => ?_; walk_at "wx")
      try (refine x_ifD (fun _ => ?_) fun z => absurd (by decide) z; walk_at "wx")
      exact ⟨A1, F, m, N, v, rfl, s, hv, hd, q H Ex.refl⟩
    · walk_at "wx"
      repeat (refine x_ifD (fun z => absurd z (by decide)) fun _ => ?_; walk_at "wx")
      try (refine x_ifD (fun _ => ?_) fun z => absurd (by decide) z; walk_at "wx")
      exact ⟨A1, F, m, N, v, u, rfl, s, hv, hw, hd, hT, q⟩
    · walk_at "wx"
      repeat (refine x_ifD (fun z => absurd z (by decide)) fun _ => ?_; walk_at "wx")
      try (refine x_ifD (fun _ => ?_) fun z => absurd (by decide) z; walk_at "wx")
      exact ⟨A1, F, m, N, v, u, rfl, s, hv, hw, hd, hT, q⟩
    · walk_at "wx"
      repeat (refine x_ifD (fun z => absurd z (by decide)) fun _ => ?_; walk_at "wx")
      try (refine x_ifD (fun _ => ?_) fun z => absurd (by decide) z; walk_at "wx")
      exact ⟨A1, F, m, N, v, 0, rfl, s, hv, hd, q H Ex.refl⟩
    · walk_at "wx"
      repeat (refine x_ifD (fun z => absurd z (by decide)) fun _ => ?_; walk_at "wx")
      try (refine x_ifD (fun _ => ?_) fun z => absurd (by decide) z; walk_at "wx")
      exact ⟨A1, F, m, N, v, rfl, s, hv, hd, q H Ex.refl⟩
def sp_l_refused (T : Tx K mg base) : Sp := fun vs H Q _ => ∃ (A : TA) (F : Addr → Prop) (m : TM) (N : List Nat) (kd : Nat) (v u : V), vs = [.ref A.t, .int kd, v, u] ∧ kd ≤ 8 ∧ Asks T H A F m N ∧ Thing H v ∧ Thing H u ∧ NdefX.TabsN (tabsL T) H ∧ dueOf m kd v u ≠ 0 ∧ ∀ p H', Ex H H' → H' p = some (.lst ((List.range 8).map fun k => V.bl (decide (k = dueOf m kd v u)))) → Q (.ref p) H'
theorem wc_l_refused {kd : Nat} {v u : V} {j : Int} (hj : j = kd) (h8 : kd ≤ 8) (s : Asks T H A F m N) (hv : Thing H v) (hw : Thing H u) (hT : NdefX.TabsN (tabsL T) H) (hd : dueOf m kd v u ≠ 0) (q : ∀ p H', Ex H H' → H' p = some (.lst ((List.range 8).map fun k => V.bl (decide (k = dueOf m kd v u)))) → Q (.ref p) H') : sp_l_refused T [.ref A.t, .int j, v, u] H Q E := by
  subst hj; exact ⟨A, F, m, N, kd, v, u, rfl, h8, s, hv, hw, hT, hd, q⟩
theorem ok_l_refused (T : Tx K mg base) : FnOk P w K mg base CX0 10 T.a_l_refused T.d_l_refused ["_law_town", "_law_kind", "_law_house", "_law_other"] (sp_l_refused T) := by
  refine T.F_l_refused.okD sc_l_refused (fun vs H Q E h => ?_) (fun cdv A outer s H vs Q E hr h => ?_)
  · obtain ⟨A, F, m, N, kd, v, u, rfl, _⟩ := h; rfl
  · obtain ⟨A1, F, m, N, kd, v, u, rfl, h8, s, hv, hw, hT, hd, q⟩ := h
    have hu := hu_of hr
    have c_Bucket := T.c_Bucket; have n_Bucket_room := T.n_Bucket_room; have n_Bucket_line := T.n_Bucket_line; have c_Table := T.c_Table; have n_Table_own := T.n_Table_own; have n_Table_wide := T.n_Table_wide; have n_Table_room := T.n_Table_room; have n_Table_buckets := T.n_Table_buckets; have c_Town := T.c_Town; have n_Town_wide := T.n_Town_wide; have n_Town_room := T.n_Town_room; have n_Town_tables := T.n_Town_tables; have n_Town_hushed := T.n_Town_hushed
    refine ⟨_, (pss_cons (ps_set (i := 4) sc_l_refused.nd rfl (Or.inl rfl) pe_non)
      (pss_cons (ps_try_asV (c := .ref T.C_NearError) (i := 5) rfl rfl sc_l_refused.nd rfl rfl ⟨rfl, by decide +kernel, .inl T.m_NearError⟩ takes0 (fun W pn xe tk po => (pss_one (ps_expr (pe_callSd (ex_l_done T) hr rfl T.m_l_done T.F_l_done.kp T.b_l_done .nil (fun σ => passAt tk σ) (pa_cons (pv 0) (pa_cons (pv 1) (pa_cons (pv 2) (pa_cons (pv 3) pa_nil))))))))
      (fun a oe cls d pn hz hf => (pss_one (ps_set (i := 4) sc_l_refused.nd rfl (Or.inl rfl) (pv 5)))))
      (pss_cons (ps_if (pt_cmpR op_isNn (pv 4) pe_non (nomark _))
      (pss_one (ps_ret (pe_lst pa_nil)))
      pss_nil)
      (pss_one (ps_ret (pe_call (ok_l_marks T) (hr.mono (by decide)) rfl T.m_l_marks T.F_l_marks.kp T.b_l_marks .nil pass0 (pa_cons (pv 4) pa_nil))))))), ?_⟩
    rw [Nn.st_l_refused]; try rw [Nn.cxK]
    try rw [Nn.cxW]
    walk_at "wx"
    refine ⟨A1, F, m, N, kd, v, u, rfl, h8, s, hv, hw, hT, hd, fun H1 ex1 => ?_⟩
    have kt := kit_of (T := T) (n := dueOf m kd v u) (Nat.pos_of_ne_zero hd) dueOf_le
    refine x_wasV kt.cn fun a ha => ?_
    walk_at "wx"
    exact wc_l_marks upd_same (Nat.pos_of_ne_zero hd) dueOf_le fun p H' ex hp => q p H' (ex1.trans ((Ex.new ha).trans ex)) hp
end
end Nn
/-! k36: the law -/
namespace Nn
open PySem L2
section
variable {P : Program} {w : World} {K : PySem.W.Frag} {mg : Str → Option Value} {base : Heap} {H H' : Hp} {Q : VK} {E : XK} {T : Tx K mg base} {B : MA} {G S : Addr → Prop} {m : TM} {ext : List (Key × V)} {A : TA} {F : Addr → Prop}
/-- what a list handed in keeps by -/
theorem sqL_stay {a : Addr} {xs : List V} (h : SqL K H a xs) : ∃ (pn : Prop) (Sc : Hp → Prop), Sc H ∧ (∀ H', Sc H' → SqL K H' a xs) ∧ (∀ H', Sc H' → pn → H' a ≠ none) ∧ ∀ (X : Addr → Prop) (H1 H2 : Hp), Sc H1 → Fr X H1 H2 → (pn → ¬ X a) → Sc H2 := by
  rcases h with (h | ⟨o, h⟩) | h
  · exact ⟨True, fun H' => H' a = some (.lst xs), h, fun H' e => .inl (.inl e), fun H' e _ => (by rw [e]; exact fun z => by cases z), fun X H1 H2 e f hs => f.at e (hs trivial)⟩
  · exact ⟨True, fun H' => H' a = _, h, fun H' e => .inl (.inr ⟨o, e⟩), fun H' e _ => (by rw [e]; exact fun z => by cases z), fun X H1 H2 e f hs => f.at e (hs trivial)⟩
  · exact ⟨False, fun _ => True, trivial, fun _ _ => .inr h, fun _ _ z => z.elim, fun _ _ _ _ _ _ => trivial⟩
theorem x_iteS {p A B C : Prop} [Decidable p] (hA : p ∨ C → A) (hB : ¬ p → (C → A) → B) : if decide p = true then A else B := by
  by_cases h : p
  · rw [if_pos (decide_eq_true h)]; exact hA (.inl h)
  · rw [if_neg (by simp [h])]; exact hB h fun c => hA (.inr c)
theorem comes_room {n : Nat} {d : Option Nat} : (m.comes n d).room = m.room := by
  cases d with
  | none => rfl
  | some d => exact TM.fold_sizes.2.1
def spLaw (K : PySem.W.Frag) : Sp := fun vs H Q _ => ∃ (a : Addr) (ns : List Int), vs = [.ref a] ∧ SqL K H a (ns.map V.int) ∧ ns.length ≤ 63 ∧ Tabs0 K H ∧ ∀ H', Q (.bl true) H'
def sp_law (_ : Tx K mg base) : Sp := spLaw K
theorem ok_law (T : Tx K mg base) : FnOk P w K mg base CX0 11 T.a_law T.d_law ["_law_script"] (sp_law T) := by
  refine T.F_law.okD sc_law (fun vs H Q E h => ?_) (fun cdv A outer s H vs Q E hr h => ?_)
  · obtain ⟨a, ns, rfl, _⟩ := h; rfl
  · obtain ⟨a, ns, rfl, hS, hlen, hT, q⟩ := h
    have hu := hu_of hr
    have c_Bucket := T.c_Bucket; have n_Bucket_room := T.n_Bucket_room; have n_Bucket_line := T.n_Bucket_line; have c_Table := T.c_Table; have n_Table_own := T.n_Table_own; have n_Table_wide := T.n_Table_wide; have n_Table_room := T.n_Table_room; have n_Table_buckets := T.n_Table_buckets; have c_Town := T.c_Town; have n_Town_wide := T.n_Town_wide; have n_Town_room := T.n_Town_room; have n_Town_tables := T.n_Town_tables; have n_Town_hushed := T.n_Town_hushed
    refine ⟨_, (pss_cons (ps_asg (pe_call (ok_l_set T) (hr.mono (by decide)) rfl T.m_l_set T.F_l_set.kp T.b_l_set .nil pass0 (pa_cons (pv 0) pa_nil)) (pg_tup (n := 3) rfl (pgs_cons (pg_name (i := 1) sc_law.nd rfl (Or.inl rfl)) (pgs_cons (pg_name (i := 2) sc_law.nd rfl (Or.inl rfl)) (pgs_cons (pg_name (i := 3) sc_law.nd rfl (Or.inl rfl)) pgs_nil)))))
      (pss_cons (ps_set (i := 4) sc_law.nd rfl (Or.inl rfl) (pe_make T.M_Town (ok_Town_init T) (hr.mono (by decide)) rfl T.m_Town T.b_Town_init .nil pass0 (pa_cons (pv 1) (pa_cons (pv 2) pa_nil))))
      (pss_cons (ps_for PassesOwn.never rfl (pi_list (pe_op op_cat (pe_lst (pa_cons pe_int (pa_cons pe_int (pa_cons pe_int pa_nil)))) (pe_slice sl_list (pv 0) (po_some pe_int) (po_some pe_int)))) (pg_name (i := 5) sc_law.nd rfl (Or.inl rfl))
      (pss_cons (ps_set (i := 5) sc_law.nd rfl (Or.inl rfl) (pe_op op_mod (pv 5) (pe_op op_pow pe_int pe_int)))
      (pss_cons (ps_set (i := 6) sc_law.nd rfl (Or.inl rfl) (pe_call (ok_l_name T) (hr.mono (by decide)) rfl T.m_l_name T.F_l_name.kp T.b_l_name .nil pass0 (pa_cons (pv 3) (pa_cons (pv 1) (pa_cons (pe_op op_fdivW (pv 5) pe_int) pa_nil)))))
      (pss_one (ps_if (pt_cmp (pc_dnotin hu (pv 6) (pe_dget hu (pv 3) pe_str (fun _ _ => rfl))))
      (pss_cons (ps_set (i := 7) sc_law.nd rfl (Or.inl rfl) (pe_call (ok_l_some T) (hr.mono (by decide)) rfl T.m_l_some T.F_l_some.kp T.b_l_some .nil pass0 (pa_cons (pv 3) (pa_cons (pe_op op_fdivW (pv 5) pe_int) pa_nil))))
      (pss_cons (ps_if (pt_cmpR (op_neD hr.units) (pe_meth (pv 4) T.c_Town T.t_Town_come (ok_Town_come T) (hr.mono (by decide)) T.b_Town_come .nil pass0 (pa_cons (pv 6) (pa_cons (pv 7) pa_nil))) (pe_call (ok_l_come T) (hr.mono (by decide)) rfl T.m_l_come T.F_l_come.kp T.b_l_come .nil pass0 (pa_cons (pv 3) (pa_cons (pv 6) (pa_cons (pv 7) pa_nil)))) (nomark _))
      (pss_one (ps_ret pe_bl))
      pss_nil)
      (pss_one (ps_if (PW.pt (pw_and (pt_cmpR op_eq (pe_op op_mod (pv 5) pe_int) pe_int (nomark _)) (pw_and1 (pt_cmpR op_gt (pe_callB cb_lenD (by rfl) T.z_len PySem.boot_len (pa_cons (pe_dget hu (pv 3) pe_str (fun _ _ => rfl)) pa_nil)) pe_int (nomark _)))))
      (pss_cons (ps_dput hu (pe_dget hu (pv 3) pe_str (fun _ _ => rfl)) (pv 6) pe_bl rfl)
      (pss_one (ps_expr (pe_meth (pv 4) T.c_Town T.t_Town_hush (ok_Town_hush T) (hr.mono (by decide)) T.b_Town_hush .nil pass0 (pa_cons (pv 6) pa_nil)))))
      pss_nil))))
      pss_nil)))))
      (pss_cons (ps_for PassesOwn.never rfl (pi_list (pe_op op_cat (pe_lst (pa_cons pe_int (pa_cons pe_int (pa_cons pe_int pa_nil)))) (pe_slice sl_list (pv 0) (po_some pe_int) (po_some pe_int)))) (pg_name (i := 5) sc_law.nd rfl (Or.inl rfl))
      (pss_cons (ps_set (i := 5) sc_law.nd rfl (Or.inl rfl) (pe_op op_mod (pv 5) (pe_op op_pow pe_int pe_int)))
      (pss_cons (ps_set (i := 8) sc_law.nd rfl (Or.inl rfl) (pe_op op_mod (pv 5) pe_int))
      (pss_cons (ps_set (i := 9) sc_law.nd rfl (Or.inl rfl) (pe_call (ok_l_thing T) (hr.mono (by decide)) rfl T.m_l_thing T.F_l_thing.kp T.b_l_thing .nil pass0 (pa_cons (pv 3) (pa_cons (pv 1) (pa_cons (pe_call (ok_l_mixed T) (hr.mono (by decide)) rfl T.m_l_mixed T.F_l_mixed.kp T.b_l_mixed .nil pass0 (pa_cons (pv 5) (pa_cons pe_int pa_nil))) pa_nil)))))
      (pss_cons (ps_set (i := 10) sc_law.nd rfl (Or.inl rfl) (pe_call (ok_l_thing T) (hr.mono (by decide)) rfl T.m_l_thing T.F_l_thing.kp T.b_l_thing .nil pass0 (pa_cons (pv 3) (pa_cons (pv 1) (pa_cons (pe_op op_add (pe_call (ok_l_mixed T) (hr.mono (by decide)) rfl T.m_l_mixed T.F_l_mixed.kp T.b_l_mixed .nil pass0 (pa_cons (pv 5) (pa_cons pe_int pa_nil))) (pe_op op_fdivW (pv 5) pe_int)) pa_nil)))))
      (pss_cons (ps_set (i := 11) sc_law.nd rfl (Or.inr rfl) (pe_call (ok_l_due T) (hr.mono (by decide)) rfl T.m_l_due T.F_l_due.kp T.b_l_due .nil pass0 (pa_cons (pv 3) (pa_cons (pv 1) (pa_cons (pv 8) (pa_cons (pv 9) (pa_cons (pv 10) pa_nil)))))))
      (pss_one (ps_if (PW.pt (pw_and (pt_cmpR op_ge (pv 11) pe_int (nomark _)) (pw_and1 (PW.pt (pw_or (pt_cmpR op_gt (pv 8) pe_int (nomark _)) (pw_or (pt_cmpR op_notNn (pv 10) pe_non (nomark _)) (pw_or (pt_cmpR op_lt (pv 11) pe_int (nomark _)) (pw_or1 (pt_cmpR op_eq (pv 11) pe_int (nomark _))))))))))
      (pss_cons (ps_if (pt_cmpR (op_neD hr.units) (pe_call (ok_l_refused T) hr rfl T.m_l_refused T.F_l_refused.kp T.b_l_refused .nil pass0 (pa_cons (pv 4) (pa_cons (pv 8) (pa_cons (pv 9) (pa_cons (pv 10) pa_nil))))) (pe_lc (own := [("_law_k", 12)]) (g := (gName 12)) (by rfl) sc_law.nd (pi_range1 rfl T.z_range (pa_cons pe_int pa_nil)) (blkOk_by (N := N_law) (sc := defScope s_law) (own := [("_law_k", 12)]) (by decide +kernel)) (fun _ _ _ _ _ => (pg_name (i := 12) sc_law.nd rfl (Or.inl rfl))) (fun _ _ _ _ _ => pts_nil) (fun _ _ _ _ _ => (pe_cmpR op_eq (pv 12) (pv 11) (nomark _)))) (nomark _))
      (pss_one (ps_ret pe_bl))
      pss_nil)
      (pss_cons (ps_if (pt_not (pt_val (pe_call (ok_l_alike T) (hr.mono (by decide)) rfl T.m_l_alike T.F_l_alike.kp T.b_l_alike .nil pass0 (pa_cons (pv 4) (pa_cons (pv 3) pa_nil)))))
      (pss_one (ps_ret pe_bl))
      pss_nil)
      (pss_one (ps_if (PW.pt (pw_and (pt_val (pe_call (ok_l_is_name T) (hr.mono (by decide)) rfl T.m_l_is_name T.F_l_is_name.kp T.b_l_is_name .nil pass0 (pa_cons (pv 9) (pa_cons (pv 1) pa_nil)))) (pw_and1 (pt_cmpR op_ne (pe_meth (pv 4) T.c_Town T.t_Town_answers (ok_Town_answers T) (hr.mono (by decide)) T.b_Town_answers .nil pass0 (pa_cons (pv 9) pa_nil)) (pe_call (ok_l_awake T) (hr.mono (by decide)) rfl T.m_l_awake T.F_l_awake.kp T.b_l_awake .nil pass0 (pa_cons (pv 3) (pa_cons (pv 9) pa_nil))) (nomark _)))))
      (pss_one (ps_ret pe_bl))
      pss_nil))))
      pss_nil))))))))
      (pss_one (ps_ret (pe_call (ok_l_alike T) (hr.mono (by decide)) rfl T.m_l_alike T.F_l_alike.kp T.b_l_alike .nil pass0 (pa_cons (pv 4) (pa_cons (pv 3) pa_nil))))))))), ?_⟩
    rw [Nn.st_law]; try rw [Nn.cxK]
    try rw [Nn.cxW]
    obtain ⟨pn, Sc, sc0, sL, sn, sf⟩ := sqL_stay hS
    walk_at "wx"
    refine ⟨a, ns, rfl, hS, fun p B G wd room H1 ex1 hp w1 w2 r0 r1 hG tm1 op1 => ?_⟩
    have hS1 := ex1.ls hS
    walk_at "wx"
    refine x_make fun tp dx H2 htp ex2 htp2 => ?_
    refine ⟨tp, dx, wd, room, rfl, htp2, w1, w2, r0, r1, fun A H3 F et hF fr3 ta3 => ⟨rfl, ?_⟩⟩
    have nG : ¬ G tp := fun z => tm1.ex tp z htp
    have ex13 : Ex H1 H3 := fr3.ex ex2 fun y z => by rw [z]; exact htp
    have tm3 := tm1.ex' ex13
    have op3 : Open H3 B (TM.new wd room) := ex13.at op1
    have dj3 : ∀ a, ¬ (F a ∧ G a) := fun a z => by
      rcases hF a z.1 with e | e
      · rw [e] at z; exact nG z.2
      · exact tm1.ex a z.2 (ex2.back a e)
    have hT3 := Fr.tabs (ex1.trans ex13) (tabs0 (T := T) hT)
    have hS3 := ex13.ls hS1
    subst et
    walk_at "wx"
    refine ⟨len_ok rfl, fun r1' hr1 => ?_⟩
    have e1 := Ex.new (o := .lst [V.int 0, V.int 3, V.int 9]) hr1
    have hl1 := upd_same (H := H3) (a := r1') (o := .lst [V.int 0, V.int 3, V.int 9])
    have hS4 := e1.ls hS3
    generalize upd H3 r1' (.lst [V.int 0, V.int 3, V.int 9]) = H4 at e1 hl1 hS4 ⊢
    walk_at "wx"
    refine x_slL hS4 fun r2' hr2 => ?_
    have hcl : (cutV (ns.map V.int) (some 1) (some 9)).length ≤ 8 := cut_len (xs := ns.map V.int) (k := 1) (m := 9)
    refine x_cat (at_new hr2 hl1) upd_same (by rw [sizeLine_eq]; show 3 + _ ≤ _; omega) fun r hr => ?_
    have e2 := (e1.newT (o := .lst (cutV (ns.map V.int) (some 1) (some 9))) hr2).newT (o := .lst ([V.int 0, V.int 3, V.int 9] ++ cutV (ns.map V.int) (some 1) (some 9))) hr
    have hit : ∀ x ∈ [V.int 0, V.int 3, V.int 9] ++ cutV (ns.map V.int) (some 1) (some 9), ∃ i : Int, x = .int i := fun x hx => by
      rcases List.mem_append.mp hx with h | h
      · simp only [List.mem_cons, List.not_mem_nil, or_false] at h
        rcases h with h | h | h <;> exact ⟨_, h⟩
      · obtain ⟨i, _, rfl⟩ := List.mem_map.mp (cut_mem h)
        exact ⟨i, rfl⟩
    have hil : ([V.int 0, V.int 3, V.int 9] ++ cutV (ns.map V.int) (some 1) (some 9)).length ≤ 11 := by
      rw [List.length_append]; show 3 + _ ≤ _; omega
    have hrr := upd_same (H := upd H4 r2' (.lst (cutV (ns.map V.int) (some 1) (some 9)))) (a := r) (o := .lst ([V.int 0, V.int 3, V.int 9] ++ cutV (ns.map V.int) (some 1) (some 9)))
    have hr0 : H3 r = none := e1.back r (upd_back hr)
    have sc5 := sf (fun _ => False) _ _ sc0 ((ex1.trans ex13).trans e2).fr fun _ z => z
    have ps5 : pn → ¬ F a ∧ ¬ G a := fun z => ⟨fun y => by
      rcases hF a y with e | e
      · exact sn H sc0 z (ex1.back a (by rw [e]; exact htp))
      · exact sn H sc0 z (ex1.back a (ex2.back a e)), fun y => sn H sc0 z (hG a y)⟩
    generalize upd (upd H4 r2' (.lst (cutV (ns.map V.int) (some 1) (some 9)))) r (.lst ([V.int 0, V.int 3, V.int 9] ++ cutV (ns.map V.int) (some 1) (some 9))) = H5 at e2 hrr sc5 ⊢
    generalize [V.int 0, V.int 3, V.int 9] ++ cutV (ns.map V.int) (some 1) (some 9) = its at hit hrr hil
    have b5 : Pair T H5 A F (TM.new wd room) B G (TM.new wd room) [] := Pair.ex ⟨ta3, tm3, op3, dj3, hT3⟩ e2
    have nr5 : ¬ F r ∧ ¬ G r := ⟨fun z => ta3.ex r z hr0, fun z => tm3.ex r z hr0⟩
    walk_at "wx"
    refine ForW.by walk_list (fun i σ H' => ∃ (A : TA) (F : Addr → Prop) (B : MA) (G : Addr → Prop) (m : TM) (N : List Nat) (v5 v6 v7 : Option V), σ = [some (.ref a), some (.int wd), some (.int room), some (.ref B.md), some (.ref A.t), v5, v6, v7, none, none, none, none, none] ∧ Pair T H' A F m B G m [] ∧ m.Ok N ∧ m.wide = wd ∧ N.length ≤ i ∧ Sc H' ∧ (pn → ¬ F a ∧ ¬ G a) ∧ H' r = some (.lst its) ∧ ¬ F r ∧ ¬ G r)
      ⟨A, F, B, G, _, [], _, _, _, rfl, b5, TM.Ok.new w1 w2 r0 r1, rfl, Nat.zero_le _, sc5, ps5, hrr, nr5⟩ (fun i σ H' _ ⟨_, _, _, _, _, _, _, _, _, _, _, _, _, _, _, _, e, _⟩ => SqL.of e) ?_ ?_
    · rintro i x σ _ H6 hi ⟨A, F, B, G, m, N, v5, v6, v7, rfl, b6, k6, hw, hc, sc6, ps6, hr6, nF6, nG6⟩ ⟨rfl, hx⟩
      obtain ⟨z, rfl⟩ := hit x (List.mem_of_getElem? hx)
      have hi11 : i < its.length := hi
      clear hx hi
      walk_at "wx"
      have h60 : (0 : Int) < 10 ^ (60 : Int).toNat := by decide
      obtain ⟨c, hc60⟩ := Int.eq_ofNat_of_zero_le (Int.emod_nonneg z (Int.ne_of_gt h60))
      rw [hc60]
      have ec3 : (c : Int) / 3 = ((c / 3 : Nat) : Int) := by simp
      have ec5 : (c : Int) / 5 = ((c / 5 : Nat) : Int) := by simp
      have hz := k6.houses_len
      walk_at "wx"
      rw [ec3]
      refine wc_l_name rfl rfl b6.tm w2 fun n H7 ex7 hnw => ?_
      have b7 := b6.ex ex7
      have sc7 := sf (fun _ => False) _ _ sc6 ex7.fr fun _ z => z
      have hr7 := ex7.at hr6
      clear b6 sc6 hr6 ex7
      rw [← hw] at hnw
      have et := modD_t (B := B) (room := m.room) (ext := [])
      have eq := modD_q (B := B) (room := m.room) (ext := [])
      have md7 := b7.tm.md
      have mt7 := b7.tm.mt
      have e1 : (valV (dOf m.houses fun h => .ref (B.ma h)) (Sum.inl (n : Int))).isSome = decide (n ∈ m.houses) := dOf_has
      have hdl : (dOf m.houses fun h => V.ref (B.ma h)).length = m.houses.length := dOf_len
      walk_at "wx"
      rw [e1]
      refine x_ifN (fun hnin => ?_) fun hin => ?_
      · walk_at "wx"
        rw [ec5]
        refine wc_l_some rfl b7.tm hz k6.nd fun d H8 ex8 hd _ => ?_
        have b8 := b7.ex ex8
        have sc8 := sf (fun _ => False) _ _ sc7 ex8.fr fun _ z => z
        have hr8 := ex8.at hr7
        clear b7 sc7 hr7 ex8 md7 mt7
        have ok1 := k6.one' (n := n) (by omega) hnw
        have hnN : n ∈ N ++ [n] := by simp
        obtain ⟨dx8, ob8⟩ := b8.ta.tw.ob
        walk_at "wx"
        refine wc_Town_come rfl rfl b8.ta ok1 hnN hnin hd b8.tb fun p1 H9 A9 F9 hp1 fr9 h91 nF1 eA hF9 ta9 => ?_
        have b9 := b8.town fr9 ta9 hF9
        have nG1 : ¬ G p1 := fun z => b8.tm.ex p1 z hp1
        walk_at "wx"
        refine wc_l_come rfl rfl b9.tm b9.op ok1 hnN hnin (fun x z => TM.aw_house (hd x z)) fun p2 H10 B10 G10 hp2 fr10 h102 nG2 eB hG10 tm10 op10 => ?_
        have b10 := b9.model fr10 tm10 op10 hG10
        have w9 : Went H8 H9 A A9 F F9 B B G G := Went.town fr9 eA hF9
        have w10 := w9.trans (Went.model fr10 eB hG10 (A := A9) (F := F9))
        have h101 := fr10.at h91 nG1
        have sc10 := sf _ _ _ sc8 w10.fr fun z y => y.elim (ps6 z).1 (ps6 z).2
        have ps10 : pn → ¬ F9 a ∧ ¬ G10 a := fun z => ⟨fun y => (w10.hF a y).elim (ps6 z).1 (sn _ sc8 z), fun y => (w10.hG a y).elim (ps6 z).2 (sn _ sc8 z)⟩
        obtain ⟨hr10, nF10, nG10⟩ := w10.at hr8 nF6 nG6
        have em := w10.em
        have et' := w10.et
        have ok10 := ok1.comes hnin hnN (d := d)
        have hw10 : (m.comes n d).wide = wd := TM.comes_wide.trans hw
        have hin10 : n ∈ (m.comes n d).houses := by rw [TM.comes_houses]; simp
        have hl10 : (N ++ [n]).length ≤ i + 1 := by rw [List.length_append, List.length_singleton]; omega
        rw [← em, ← et']
        clear b8 b9 sc8 hr8 w9 w10 fr9 fr10 h91 tm10 ta9 op10 em et' eA eB hF9 hG10 ob8 ps6 nF6 nG6 hp1 hp2 et eq e1 hdl
        generalize m.comes n d = m2 at b10 ok10 hw10 hin10 h101 h102 ⊢
        refine x_neLN (SqL.of h101) (SqL.of h102) ?_
        rw [decide_eq_true rfl]
        walk_at "wx"
        refine x_ite (fun _ => ?_) fun _ => ?_
        · have et := modD_t (B := B10) (room := m2.room) (ext := [])
          have eq := modD_q (B := B10) (room := m2.room) (ext := [])
          have md10 := b10.tm.md
          have mq10 := b10.tm.mq
          have op10 : H10 B10.mt = some (.dK (dOf m2.houses fun h => .ref (B10.ma h))) := b10.op
          have hdl : (dOf m2.houses fun h => V.ref (B10.ma h)).length = m2.houses.length := dOf_len
          walk_at "wx"
          rw [hdl]
          refine x_ifD (fun _ => ?_) fun _ => ?_
          · walk_at "wx"
            refine x_dput mq10 (by rw [sizeLine_eq, dOf_len]; have := nodup_len ok10.hnd ok10.hh; have := ok10.houses_len; omega) ?_
            have ep : putK (dOf m2.hush fun _ => .bl true) (Sum.inl (n : Int)) (.bl true) = dOf (m2.hushed n).hush fun _ => .bl true := by
              unfold TM.hushed
              by_cases z : n ∈ m2.hush
              · rw [if_pos z]; exact dOf_put (f := fun _ => V.bl true) z
              · rw [if_neg z]; exact dOf_new (f := fun _ => V.bl true) z
            rw [ep]
            have e2 : ({ m2 with hush := (m2.hushed n).hush } : TM) = m2.hushed n := by
              unfold TM.hushed
              split <;> rfl
            have f11 := Fr.upd1 (o := .dK (dOf (m2.hushed n).hush fun _ => .bl true)) mq10
            have tm11 := b10.tm.hushM f11 upd_same
            rw [e2] at tm11
            have hhu : (m2.hushed n).houses = m2.houses := by unfold TM.hushed; split <;> rfl
            have op11 : Open (upd H10 B10.mq (.dK (dOf (m2.hushed n).hush fun _ => .bl true))) B10 (m2.hushed n) := by
              unfold Open; rw [hhu]; exact f11.at op10 b10.tm.dj.1
            have b11 := b10.model (f11.mono fun a z => by rw [z]; exact b10.tm.gg.2.2.1) tm11 op11 fun _ z => .inl z
            have w11 : Went H10 (upd H10 B10.mq (.dK (dOf (m2.hushed n).hush fun _ => .bl true))) A9 A9 F9 F9 B10 B10 G10 G10 := Went.model (f11.mono fun a z => by rw [z]; exact b10.tm.gg.2.2.1) rfl fun _ z => .inl z
            generalize upd H10 B10.mq (.dK (dOf (m2.hushed n).hush fun _ => .bl true)) = H11 at b11 w11 ⊢
            obtain ⟨dx11, ob11⟩ := b11.ta.tw.ob
            walk_at "wx"
            refine wc_Town_hush rfl b11.ta ok10.w1 (ok10.bd hin10) hin10 (by have := nodup_len ok10.hnd ok10.hh; have := ok10.houses_len; omega) fun H12 fr12 ta12 => ?_
            have b12 := b11.town fr12 ta12 fun _ z => .inl z
            have w12 : Went H11 H12 A9 A9 F9 F9 B10 B10 G10 G10 := Went.town fr12 rfl fun _ z => .inl z
            have w13 := w11.trans w12
            have sc12 := sf _ _ _ sc10 w13.fr fun z y => y.elim (ps10 z).1 (ps10 z).2
            obtain ⟨hr12, _, _⟩ := w13.at hr10 nF10 nG10
            walk_at "wx"
            exact ⟨A9, F9, B10, G10, _, N ++ [n], _, _, _, rfl, b12, ok10.hushed hin10, (show (m2.hushed n).wide = wd from (by unfold TM.hushed; split <;> rfl : (m2.hushed n).wide = m2.wide).trans hw10), hl10, sc12, ps10, hr12, nF10, nG10⟩
          · walk_at "wx"
            exact ⟨A9, F9, B10, G10, m2, N ++ [n], _, _, _, rfl, b10, ok10, hw10, hl10, sc10, ps10, hr10, nF10, nG10⟩
        · walk_at "wx"
          exact ⟨A9, F9, B10, G10, m2, N ++ [n], _, _, _, rfl, b10, ok10, hw10, hl10, sc10, ps10, hr10, nF10, nG10⟩
      · walk_at "wx"
        exact ⟨A, F, B, G, m, N, _, _, _, rfl, b7, k6, hw, by omega, sc7, ps6, hr7, nF6, nG6⟩
    · rintro σ H6 ⟨A, F, B, G, m, N, v5, v6, v7, rfl, b6, k6, hw, hc, sc6, ps6, _⟩
      clear nr5 ps5 sc5 b5 hrr hil hit
      have hS6 := sL _ sc6
      walk_at "wx"
      refine ⟨len_ok rfl, fun q1 hq1 => ?_⟩
      have e1 := Ex.new (o := .lst [V.int 0, V.int 4, V.int 7]) hq1
      have hl1 := upd_same (H := H6) (a := q1) (o := .lst [V.int 0, V.int 4, V.int 7])
      have hS7 := e1.ls hS6
      generalize upd H6 q1 (.lst [V.int 0, V.int 4, V.int 7]) = H7 at e1 hl1 hS7 ⊢
      walk_at "wx"
      refine x_slL hS7 fun q2 hq2 => ?_
      have hcl : (cutV (ns.map V.int) (some 1) (some 41)).length ≤ 40 := cut_len (xs := ns.map V.int) (k := 1) (m := 41)
      refine x_cat (at_new hq2 hl1) upd_same (by rw [sizeLine_eq]; show 3 + _ ≤ _; omega) fun r2 hr2 => ?_
      have e2 := (e1.newT (o := .lst (cutV (ns.map V.int) (some 1) (some 41))) hq2).newT (o := .lst ([V.int 0, V.int 4, V.int 7] ++ cutV (ns.map V.int) (some 1) (some 41))) hr2
      have hit : ∀ x ∈ [V.int 0, V.int 4, V.int 7] ++ cutV (ns.map V.int) (some 1) (some 41), ∃ i : Int, x = .int i := fun x hx => by
        rcases List.mem_append.mp hx with h | h
        · simp only [List.mem_cons, List.not_mem_nil, or_false] at h
          rcases h with h | h | h <;> exact ⟨_, h⟩
        · obtain ⟨i, _, rfl⟩ := List.mem_map.mp (cut_mem h)
          exact ⟨i, rfl⟩
      have hrr := upd_same (H := upd H7 q2 (.lst (cutV (ns.map V.int) (some 1) (some 41)))) (a := r2) (o := .lst ([V.int 0, V.int 4, V.int 7] ++ cutV (ns.map V.int) (some 1) (some 41)))
      have hr0 : H6 r2 = none := e1.back r2 (upd_back hr2)
      generalize upd (upd H7 q2 (.lst (cutV (ns.map V.int) (some 1) (some 41)))) r2 (.lst ([V.int 0, V.int 4, V.int 7] ++ cutV (ns.map V.int) (some 1) (some 41))) = H8 at e2 hrr ⊢
      generalize [V.int 0, V.int 4, V.int 7] ++ cutV (ns.map V.int) (some 1) (some 41) = its at hit hrr
      have b8 := b6.ex e2
      have hz := k6.houses_len
      walk_at "wx"
      refine ForW.by walk_list (fun i σ H' => ∃ (v5 v6 v7 v8 v9 v10 v11 v12 : Option V), σ = [some (.ref a), some (.int wd), some (.int room), some (.ref B.md), some (.ref A.t), v5, v6, v7, v8, v9, v10, v11, v12] ∧ Ex H8 H')
        ⟨_, _, _, _, _, _, _, _, rfl, Ex.refl⟩ (fun i σ H' _ ⟨_, _, _, _, _, _, _, _, _, e⟩ => SqL.of (e.at hrr)) ?_ ?_
      · rintro i x σ _ H9 hi ⟨v5, v6, v7, v8, v9, v10, v11, v12, rfl, ex9⟩ ⟨rfl, hx⟩
        obtain ⟨z, rfl⟩ := hit x (List.mem_of_getElem? hx)
        have b9 := b8.ex ex9
        clear hx hi
        walk_at "wx"
        have h60 : (0 : Int) < 10 ^ (60 : Int).toNat := by decide
        obtain ⟨c, hc60⟩ := Int.eq_ofNat_of_zero_le (Int.emod_nonneg z (Int.ne_of_gt h60))
        rw [hc60]
        have ec9 : (c : Int) % 9 = ((c % 9 : Nat) : Int) := by simp
        walk_at "wx"
        rw [ec9]
        have h8 : c % 9 ≤ 8 := by omega
        generalize c % 9 = kd at h8
        refine wc_l_mixed rfl rfl (by decide) fun r3 _ => ?_
        walk_at "wx"
        refine wc_l_thing (by rw [hw]) rfl b9.tm k6.w1 hz k6.nd fun v H10 ex10 hv10 => ?_
        have b10 := b9.ex ex10
        walk_at "wx"
        refine wc_l_mixed rfl rfl (by decide) fun r4 _ => ?_
        walk_at "wx"
        rw [show (r4 : Int) + (c : Int) / 9 = ((r4 + c / 9 : Nat) : Int) from by simp]
        refine wc_l_thing (by rw [hw]) rfl b10.tm k6.w1 hz k6.nd fun u H11 ex11 hu11 => ?_
        have b11 := b10.ex ex11
        have hv11 := hv10.ex ex11
        have ex011 := (ex9.trans ex10).trans ex11
        clear b9 b10 ex9 ex10 ex11 hv10
        walk_at "wx"
        refine wc_l_due (by rw [hw]) rfl h8 b11.tm k6 hv11 hu11 ?_
        by_cases h0 : dueL m kd v u = 0
        · rw [h0, told0]
          walk_at "wx"
          exact ⟨_, _, _, _, _, _, _, _, rfl, ex011⟩
        · rw [told1 h0]
          have hpos : (0 : Int) ≤ ((dueL m kd v u : Nat) : Int) := by omega
          walk_at "wx"
          refine x_ite (fun _ => ?_) fun z => absurd hpos z
          walk_at "wx"
          refine x_iteS (C := u ≠ .non ∨ dueL m kd v u < 2 ∨ dueL m kd v u = 3) (fun hc => ?_) fun n1 key => ?_
          · have ed := dueL_of (hc.imp (fun z => by omega) id) h0
            have hd : dueOf m kd v u ≠ 0 := by rw [ed]; exact h0
            rw [← ed]
            walk_at "wx"
            refine wc_l_refused rfl h8 ⟨b11.ta, k6⟩ hv11 hu11 b11.tb hd fun p12 H12 ex12 hp12 => ?_
            walk_at "wx"
            refine x_rgN (m := 8) (by decide) ?_
            refine LcW.any (vs := [12]) walk_rgN (by rw [sizeLine_eq]; decide) (fun k => V.bl (decide (k = dueOf m kd v u))) (fun _ _ => trivial) (fun j z H13 H14 hj ex14 hY Qe hQ => ?_) fun p13 H13 hp13 ex13 h13 => ?_
            · obtain ⟨rfl, rfl⟩ := hY
              walk_at "wx"
              refine ⟨rfl, ?_⟩
              walk_at "wx"
              have e : decide ((j : Int) = ((dueOf m kd v u : Nat) : Int)) = decide (j = dueOf m kd v u) := decide_eq_decide.mpr Int.ofNat_inj
              rw [e]
              exact hQ _ Ex.refl
            rw [range8] at h13 hp12
            refine x_neSame (bl_dp (ex13.at hp12)) (bl_dp h13) bl_shp ?_
            have ex23 := ex12.trans ex13
            have b13 := b11.ex ex23
            have hv13 := hv11.ex ex23
            have ex013 := ex011.trans ex23
            walk_at "wx"
            refine wc_l_alike b13.ta b13.tm b13.op k6 b13.dj fun H14 ex14 => ?_
            have b14 := b13.ex ex14
            have hv14 := hv13.ex ex14
            have ex014 := ex013.trans ex14
            walk_at "wx"
            refine wc_l_is_name (by rw [hw]) k6.w1 hv14 ?_
            cases hb : isnV v m.wide with
            | false =>
              walk_at "wx"
              exact ⟨_, _, _, _, _, _, _, _, rfl, ex014⟩
            | true =>
              obtain ⟨n, rfl, hn⟩ := isnV_nat hb
              obtain ⟨dx14, ob14⟩ := b14.ta.tw.ob
              walk_at "wx"
              refine TwAt.ans rfl b14.ta ?_
              walk_at "wx"
              refine wc_l_awake rfl b14.tm ?_
              walk_at "wx"
              exact ⟨_, _, _, _, _, _, _, _, rfl, ex014⟩
          · walk_at "wx"
            refine ⟨rfl, _, rfl, ?_⟩
            refine x_iteN (fun z => key (.inl z)) fun n2 => ?_
            walk_at "wx"
            refine x_ite (fun z => key (.inr (.inl (by omega)))) fun n3 => ?_
            walk_at "wx"
            refine x_ite (fun z => key (.inr (.inr (by omega)))) fun n4 => ?_
            walk_at "wx"
            exact ⟨_, _, _, _, _, _, _, _, rfl, ex011⟩
      · rintro σ H9 ⟨v5, v6, v7, v8, v9, v10, v11, v12, rfl, ex9⟩
        have b9 := b8.ex ex9
        walk_at "wx"
        exact wc_l_alike b9.ta b9.tm b9.op k6 b9.dj fun H10 _ => q H10
end
end Nn
namespace Nn
open PySem PySem.Spec PyProof.Rows L2
theorem factsL {w : World} {K : PySem.W.Frag} {h : Heap} {mg : Str → Option Value} {f : Addr} (X : K.In h) (G : h.Ns mainGlobals mg) (hfa : mg ("law" : Str) = some (.ref f)) (c : He.SaysX faL fnL [] tfL exL w h K) :
    LamX.LawAtS PySem.Challenge.rw_nearnames_k36_towns_refused w K CX0 11 63 "_law_script" mg f h := by
  obtain ⟨fd0, F0⟩ := c.t.d.def_ 0 (d := dd_is_name) rfl
  have b0 := FunD.bindsN (ps := ["thing", "wide"]) F0 fun _ _ _ _ _ _ us hl => match us, hl with | [_, _], _ => rfl
  obtain ⟨fd1, F1⟩ := c.t.d.def_ 1 (d := dd_far) rfl
  have b1 := FunD.bindsN (ps := ["one", "other"]) F1 fun _ _ _ _ _ _ us hl => match us, hl with | [_, _], _ => rfl
  obtain ⟨fd2, F2⟩ := c.t.d.def_ 2 (d := dd_nearer) rfl
  have b2 := FunD.bindsN (ps := ["goal", "one", "other"]) F2 fun _ _ _ _ _ _ us hl => match us, hl with | [_, _, _], _ => rfl
  obtain ⟨fd3, F3⟩ := c.t.d.def_ 3 (d := dd_by_nearness) rfl
  have b3 := FunD.bindsN (ps := ["goal", "names"]) F3 fun _ _ _ _ _ _ us hl => match us, hl with | [_, _], _ => rfl
  obtain ⟨fd4, F4⟩ := c.t.d.def_ 4 (d := dd_step) rfl
  have b4 := FunD.bindsN (ps := ["one", "other"]) F4 fun _ _ _ _ _ _ us hl => match us, hl with | [_, _], _ => rfl
  obtain ⟨fd5, F5⟩ := c.t.d.def_ 5 (d := dd_standing) rfl
  have b5 := FunD.bindsN (ps := ["goal", "room", "seen", "quiet"]) F5 fun _ _ _ _ _ _ us hl => match us, hl with | [_, _, _, _], _ => rfl
  obtain ⟨fd6, F6⟩ := c.t.d.def_ 6 (d := dd_asked) rfl
  have b6 := FunD.bindsN (ps := ["start", "goal", "room", "tells"]) F6 fun _ _ _ _ _ _ us hl => match us, hl with | [_, _, _, _], _ => rfl
  obtain ⟨fd7, F7⟩ := c.t.d.def_ 7 (d := dd_onward) rfl
  have b7 := FunD.bindsN (ps := ["here", "goal", "tells"]) F7 fun _ _ _ _ _ _ us hl => match us, hl with | [_, _, _], _ => rfl
  obtain ⟨fd8, F8⟩ := c.t.d.def_ 8 (d := dd_way) rfl
  have b8 := FunD.bindsN (ps := ["start", "goal", "tells"]) F8 fun _ _ _ _ _ _ us hl => match us, hl with | [_, _, _], _ => rfl
  obtain ⟨fd9, F9⟩ := c.t.d.def_ 9 (d := dd_Bucket_init) rfl
  have b9 := FunD.bindsN (ps := ["self", "room"]) F9 fun _ _ _ _ _ _ us hl => match us, hl with | [_, _], _ => rfl
  obtain ⟨fd10, F10⟩ := c.t.d.def_ 10 (d := dd_Bucket_names) rfl
  have b10 := FunD.bindsN (ps := ["self"]) F10 fun _ _ _ _ _ _ us hl => match us, hl with | [_], _ => rfl
  obtain ⟨fd11, F11⟩ := c.t.d.def_ 11 (d := dd_Bucket_hears) rfl
  have b11 := FunD.bindsN (ps := ["self", "name", "answers"]) F11 fun _ _ _ _ _ _ us hl => match us, hl with | [_, _, _], _ => rfl
  obtain ⟨fd12, F12⟩ := c.t.d.def_ 12 (d := dd_Bucket_drops) rfl
  have b12 := FunD.bindsN (ps := ["self", "name"]) F12 fun _ _ _ _ _ _ us hl => match us, hl with | [_, _], _ => rfl
  obtain ⟨fd13, F13⟩ := c.t.d.def_ 13 (d := dd_Table_init) rfl
  have b13 := FunD.bindsN (ps := ["self", "own", "wide", "room"]) F13 fun _ _ _ _ _ _ us hl => match us, hl with | [_, _, _, _], _ => rfl
  obtain ⟨fd14, F14⟩ := c.t.d.def_ 14 (d := dd_Table_bucket_for) rfl
  have b14 := FunD.bindsN (ps := ["self", "name"]) F14 fun _ _ _ _ _ _ us hl => match us, hl with | [_, _], _ => rfl
  obtain ⟨fd15, F15⟩ := c.t.d.def_ 15 (d := dd_Table_hears) rfl
  have b15 := FunD.bindsN (ps := ["self", "name", "answers"]) F15 fun _ _ _ _ _ _ us hl => match us, hl with | [_, _, _], _ => rfl
  obtain ⟨fd16, F16⟩ := c.t.d.def_ 16 (d := dd_Table_drops) rfl
  have b16 := FunD.bindsN (ps := ["self", "name"]) F16 fun _ _ _ _ _ _ us hl => match us, hl with | [_, _], _ => rfl
  obtain ⟨fd17, F17⟩ := c.t.d.def_ 17 (d := dd_Table_bucket) rfl
  have b17 := FunD.bindsN (ps := ["self", "k"]) F17 fun _ _ _ _ _ _ us hl => match us, hl with | [_, _], _ => rfl
  obtain ⟨fd18, F18⟩ := c.t.d.def_ 18 (d := dd_Table_keeps) rfl
  have b18 := FunD.bindsN (ps := ["self"]) F18 fun _ _ _ _ _ _ us hl => match us, hl with | [_], _ => rfl
  obtain ⟨fd19, F19⟩ := c.t.d.def_ 19 (d := dd_Table_nearest) rfl
  obtain ⟨ds19_0, v19_0, b19_0⟩ := F19.binds1 (ps := ["self", "goal", "many", "but"]) 4 1 (List.cons_ne_nil _ _) (by rfl) fun T kV doc pm an cdv ct us its hu hi => match us, its, hu, hi with | [_, _, _, _], [_], _, _ => ⟨_, rfl, rfl⟩
  obtain ⟨ds19_1, v19_1, b19_1⟩ := F19.binds1 (ps := ["self", "goal", "many", "but"]) 3 0 (List.cons_ne_nil _ _) (by rfl) fun T kV doc pm an cdv ct us its hu hi => match us, its, hu, hi with | [_, _, _], [_], _, _ => ⟨_, rfl, rfl⟩
  have b19 := vnil v19_0 b19_0
  obtain ⟨fd20, F20⟩ := c.t.d.def_ 20 (d := dd_is_size) rfl
  have b20 := FunD.bindsN (ps := ["thing", "most"]) F20 fun _ _ _ _ _ _ us hl => match us, hl with | [_, _], _ => rfl
  obtain ⟨fd21, F21⟩ := c.t.d.def_ 21 (d := dd_Town_init) rfl
  have b21 := FunD.bindsN (ps := ["self", "wide", "room"]) F21 fun _ _ _ _ _ _ us hl => match us, hl with | [_, _, _], _ => rfl
  obtain ⟨fd22, F22⟩ := c.t.d.def_ 22 (d := dd_Town_houses) rfl
  have b22 := FunD.bindsN (ps := ["self"]) F22 fun _ _ _ _ _ _ us hl => match us, hl with | [_], _ => rfl
  obtain ⟨fd23, F23⟩ := c.t.d.def_ 23 (d := dd_Town_answers) rfl
  have b23 := FunD.bindsN (ps := ["self", "name"]) F23 fun _ _ _ _ _ _ us hl => match us, hl with | [_, _], _ => rfl
  obtain ⟨fd24, F24⟩ := c.t.d.def_ 24 (d := dd_Town_answering) rfl
  have b24 := FunD.bindsN (ps := ["self"]) F24 fun _ _ _ _ _ _ us hl => match us, hl with | [_], _ => rfl
  obtain ⟨fd25, F25⟩ := c.t.d.def_ 25 (d := dd_Town_table) rfl
  have b25 := FunD.bindsN (ps := ["self", "house"]) F25 fun _ _ _ _ _ _ us hl => match us, hl with | [_, _], _ => rfl
  obtain ⟨fd26, F26⟩ := c.t.d.def_ 26 (d := dd_Town_look_awake) rfl
  have b26 := FunD.bindsN (ps := ["self", "house"]) F26 fun _ _ _ _ _ _ us hl => match us, hl with | [_, _], _ => rfl
  obtain ⟨fd27, F27⟩ := c.t.d.def_ 27 (d := dd_Town_look_named) rfl
  have b27 := FunD.bindsN (ps := ["self", "name"]) F27 fun _ _ _ _ _ _ us hl => match us, hl with | [_, _], _ => rfl
  obtain ⟨fd28, F28⟩ := c.t.d.def_ 28 (d := dd_Town_bucket) rfl
  have b28 := FunD.bindsN (ps := ["self", "house", "k"]) F28 fun _ _ _ _ _ _ us hl => match us, hl with | [_, _, _], _ => rfl
  obtain ⟨fd29, F29⟩ := c.t.d.def_ 29 (d := dd_Town_keeps) rfl
  have b29 := FunD.bindsN (ps := ["self", "house"]) F29 fun _ _ _ _ _ _ us hl => match us, hl with | [_, _], _ => rfl
  obtain ⟨fd30, F30⟩ := c.t.d.def_ 30 (d := dd_Town_tells) rfl
  have b30 := FunD.bindsN (ps := ["self", "house", "goal", "asker"]) F30 fun _ _ _ _ _ _ us hl => match us, hl with | [_, _, _, _], _ => rfl
  obtain ⟨fd31, F31⟩ := c.t.d.def_ 31 (d := dd_Town_hears) rfl
  have b31 := FunD.bindsN (ps := ["self", "house", "name"]) F31 fun _ _ _ _ _ _ us hl => match us, hl with | [_, _, _], _ => rfl
  obtain ⟨fd32, F32⟩ := c.t.d.def_ 32 (d := dd_Town_come_to) rfl
  have b32 := FunD.bindsN (ps := ["self", "house"]) F32 fun _ _ _ _ _ _ us hl => match us, hl with | [_, _], _ => rfl
  obtain ⟨fd33, F33⟩ := c.t.d.def_ 33 (d := dd_Town_ask) rfl
  have b33 := FunD.bindsN (ps := ["self", "start", "goal"]) F33 fun _ _ _ _ _ _ us hl => match us, hl with | [_, _, _], _ => rfl
  obtain ⟨fd34, F34⟩ := c.t.d.def_ 34 (d := dd_Town_way) rfl
  have b34 := FunD.bindsN (ps := ["self", "start", "goal"]) F34 fun _ _ _ _ _ _ us hl => match us, hl with | [_, _, _], _ => rfl
  obtain ⟨fd35, F35⟩ := c.t.d.def_ 35 (d := dd_Town_visit) rfl
  have b35 := FunD.bindsN (ps := ["self", "house", "door"]) F35 fun _ _ _ _ _ _ us hl => match us, hl with | [_, _, _], _ => rfl
  obtain ⟨fd36, F36⟩ := c.t.d.def_ 36 (d := dd_Town_come) rfl
  obtain ⟨ds36_0, v36_0, b36_0⟩ := F36.binds1 (ps := ["self", "name", "door"]) 3 1 (List.cons_ne_nil _ _) (by rfl) fun T kV doc pm an cdv ct us its hu hi => match us, its, hu, hi with | [_, _, _], [_], _, _ => ⟨_, rfl, rfl⟩
  obtain ⟨ds36_1, v36_1, b36_1⟩ := F36.binds1 (ps := ["self", "name", "door"]) 2 0 (List.cons_ne_nil _ _) (by rfl) fun T kV doc pm an cdv ct us its hu hi => match us, its, hu, hi with | [_, _], [_], _, _ => ⟨_, rfl, rfl⟩
  have b36 := vnil v36_0 b36_0
  obtain ⟨fd37, F37⟩ := c.t.d.def_ 37 (d := dd_Town_go) rfl
  have b37 := FunD.bindsN (ps := ["self", "house"]) F37 fun _ _ _ _ _ _ us hl => match us, hl with | [_, _], _ => rfl
  obtain ⟨fd38, F38⟩ := c.t.d.def_ 38 (d := dd_Town_hush) rfl
  have b38 := FunD.bindsN (ps := ["self", "house"]) F38 fun _ _ _ _ _ _ us hl => match us, hl with | [_, _], _ => rfl
  obtain ⟨fd39, F39⟩ := c.t.d.def_ 39 (d := dd_Town_wake) rfl
  have b39 := FunD.bindsN (ps := ["self", "house", "door"]) F39 fun _ _ _ _ _ _ us hl => match us, hl with | [_, _, _], _ => rfl
  obtain ⟨fd40, F40⟩ := c.t.d.def_ 40 (d := dd_l_mixed) rfl
  have b40 := FunD.bindsN (ps := ["_law_cell", "_law_k"]) F40 fun _ _ _ _ _ _ us hl => match us, hl with | [_, _], _ => rfl
  obtain ⟨fd41, F41⟩ := c.t.d.def_ 41 (d := dd_l_wide) rfl
  have b41 := FunD.bindsN (ps := ["_law_cell"]) F41 fun _ _ _ _ _ _ us hl => match us, hl with | [_], _ => rfl
  obtain ⟨fd42, F42⟩ := c.t.d.def_ 42 (d := dd_l_near) rfl
  have b42 := FunD.bindsN (ps := ["_law_signs", "_law_wide_here", "_law_first"]) F42 fun _ _ _ _ _ _ us hl => match us, hl with | [_, _, _], _ => rfl
  obtain ⟨fd43, F43⟩ := c.t.d.def_ 43 (d := dd_l_awake) rfl
  have b43 := FunD.bindsN (ps := ["_law_model", "_law_name_here"]) F43 fun _ _ _ _ _ _ us hl => match us, hl with | [_, _], _ => rfl
  obtain ⟨fd44, F44⟩ := c.t.d.def_ 44 (d := dd_l_hears) rfl
  have b44 := FunD.bindsN (ps := ["_law_model", "_law_house", "_law_name_here"]) F44 fun _ _ _ _ _ _ us hl => match us, hl with | [_, _, _], _ => rfl
  obtain ⟨fd45, F45⟩ := c.t.d.def_ 45 (d := dd_l_keeps) rfl
  have b45 := FunD.bindsN (ps := ["_law_model", "_law_house"]) F45 fun _ _ _ _ _ _ us hl => match us, hl with | [_, _], _ => rfl
  obtain ⟨fd46, F46⟩ := c.t.d.def_ 46 (d := dd_l_come_to) rfl
  have b46 := FunD.bindsN (ps := ["_law_model", "_law_house"]) F46 fun _ _ _ _ _ _ us hl => match us, hl with | [_, _], _ => rfl
  obtain ⟨fd47, F47⟩ := c.t.d.def_ 47 (d := dd_l_visit) rfl
  have b47 := FunD.bindsN (ps := ["_law_model", "_law_house", "_law_door"]) F47 fun _ _ _ _ _ _ us hl => match us, hl with | [_, _, _], _ => rfl
  obtain ⟨fd48, F48⟩ := c.t.d.def_ 48 (d := dd_l_come) rfl
  have b48 := FunD.bindsN (ps := ["_law_model", "_law_name_here", "_law_door"]) F48 fun _ _ _ _ _ _ us hl => match us, hl with | [_, _, _], _ => rfl
  obtain ⟨fd49, F49⟩ := c.t.d.def_ 49 (d := dd_l_alike) rfl
  have b49 := FunD.bindsN (ps := ["_law_town", "_law_model"]) F49 fun _ _ _ _ _ _ us hl => match us, hl with | [_, _], _ => rfl
  obtain ⟨fd50, F50⟩ := c.t.d.def_ 50 (d := dd_l_set) rfl
  have b50 := FunD.bindsN (ps := ["_law_script"]) F50 fun _ _ _ _ _ _ us hl => match us, hl with | [_], _ => rfl
  obtain ⟨fd51, F51⟩ := c.t.d.def_ 51 (d := dd_l_some) rfl
  have b51 := FunD.bindsN (ps := ["_law_model", "_law_cell"]) F51 fun _ _ _ _ _ _ us hl => match us, hl with | [_, _], _ => rfl
  obtain ⟨fd52, F52⟩ := c.t.d.def_ 52 (d := dd_l_name) rfl
  have b52 := FunD.bindsN (ps := ["_law_model", "_law_wide_here", "_law_cell"]) F52 fun _ _ _ _ _ _ us hl => match us, hl with | [_, _, _], _ => rfl
  obtain ⟨fd53, F53⟩ := c.t.d.def_ 53 (d := dd_l_marks) rfl
  have b53 := FunD.bindsN (ps := ["_law_e"]) F53 fun _ _ _ _ _ _ us hl => match us, hl with | [_], _ => rfl
  obtain ⟨fd54, F54⟩ := c.t.d.def_ 54 (d := dd_l_done) rfl
  have b54 := FunD.bindsN (ps := ["_law_town", "_law_kind", "_law_house", "_law_other"]) F54 fun _ _ _ _ _ _ us hl => match us, hl with | [_, _, _, _], _ => rfl
  obtain ⟨fd55, F55⟩ := c.t.d.def_ 55 (d := dd_l_refused) rfl
  have b55 := FunD.bindsN (ps := ["_law_town", "_law_kind", "_law_house", "_law_other"]) F55 fun _ _ _ _ _ _ us hl => match us, hl with | [_, _, _, _], _ => rfl
  obtain ⟨fd56, F56⟩ := c.t.d.def_ 56 (d := dd_l_is_name) rfl
  have b56 := FunD.bindsN (ps := ["_law_thing_here", "_law_wide_here"]) F56 fun _ _ _ _ _ _ us hl => match us, hl with | [_, _], _ => rfl
  obtain ⟨fd57, F57⟩ := c.t.d.def_ 57 (d := dd_l_of_house) rfl
  have b57 := FunD.bindsN (ps := ["_law_model", "_law_wide_here", "_law_house", "_law_awake_here"]) F57 fun _ _ _ _ _ _ us hl => match us, hl with | [_, _, _, _], _ => rfl
  obtain ⟨fd58, F58⟩ := c.t.d.def_ 58 (d := dd_l_due) rfl
  have b58 := FunD.bindsN (ps := ["_law_model", "_law_wide_here", "_law_kind", "_law_house", "_law_other"]) F58 fun _ _ _ _ _ _ us hl => match us, hl with | [_, _, _, _, _], _ => rfl
  obtain ⟨fd59, F59⟩ := c.t.d.def_ 59 (d := dd_l_thing) rfl
  have b59 := FunD.bindsN (ps := ["_law_model", "_law_wide_here", "_law_cell"]) F59 fun _ _ _ _ _ _ us hl => match us, hl with | [_, _, _], _ => rfl
  obtain ⟨fd60, F60⟩ := c.t.d.def_ 60 (d := dd_law) rfl
  have b60 := FunD.bindsN (ps := ["_law_script"]) F60 fun _ _ _ _ _ _ us hl => match us, hl with | [_], _ => rfl
  obtain ⟨tk0, ek0⟩ := He.int_ok X G (c.t.d.fact 103 (f := .int "MOST_WIDE" 60) rfl)
  obtain ⟨tk1, ek1⟩ := He.int_ok X G (c.t.d.fact 104 (f := .int "MOST_ROOM" 8) rfl)
  have e := hfa.symm.trans (He.glo_ok X G (c.t.d.fact 30 (f := .glo "law") rfl))
  cases e
  refine ⟨fd60, tfL.map (He.cT K), spLaw K, List.forall_mem_map.mpr fun p hp => c.empty p hp, List.forall_mem_map.mpr fun p hp => c.out p hp, List.forall_mem_map.mpr fun p hp => PySem.W.codeHd_of_K X (c.hd p hp), fun s v => FunD.bindsA (ps := ["_law_script"]) F60 (fun _ _ _ _ _ _ us hl => match us, hl with | [_], _ => rfl) s [v] rfl, fun H a ns hl _ hT hS => ⟨a, ns, rfl, hS, hl, hT, fun _ => rfl⟩, fun base KB GB hTB => ok_law (K := K) (mg := mg) (base := base) {
      a_is_name := (He.ga K "is_name"), d_is_name := fd0, F_is_name := F0, b_is_name := b0,
      m_is_name := He.glo_ok X G (c.t.d.fact 0 (f := .glo "is_name") rfl),
      a_far := (He.ga K "far"), d_far := fd1, F_far := F1, b_far := b1,
      m_far := He.glo_ok X G (c.t.d.fact 1 (f := .glo "far") rfl),
      a_nearer := (He.ga K "nearer"), d_nearer := fd2, F_nearer := F2, b_nearer := b2,
      m_nearer := He.glo_ok X G (c.t.d.fact 2 (f := .glo "nearer") rfl),
      a_by_nearness := (He.ga K "by_nearness"), d_by_nearness := fd3, F_by_nearness := F3, b_by_nearness := b3,
      m_by_nearness := He.glo_ok X G (c.t.d.fact 3 (f := .glo "by_nearness") rfl),
      a_step := (He.ga K "step"), d_step := fd4, F_step := F4, b_step := b4,
      m_step := He.glo_ok X G (c.t.d.fact 4 (f := .glo "step") rfl),
      a_standing := (He.ga K "standing"), d_standing := fd5, F_standing := F5, b_standing := b5,
      m_standing := He.glo_ok X G (c.t.d.fact 5 (f := .glo "standing") rfl),
      a_asked := (He.ga K "asked"), d_asked := fd6, F_asked := F6, b_asked := b6,
      m_asked := He.glo_ok X G (c.t.d.fact 6 (f := .glo "asked") rfl),
      a_onward := (He.ga K "onward"), d_onward := fd7, F_onward := F7, b_onward := b7,
      m_onward := He.glo_ok X G (c.t.d.fact 7 (f := .glo "onward") rfl),
      a_way := (He.ga K "way"), d_way := fd8, F_way := F8, b_way := b8,
      m_way := He.glo_ok X G (c.t.d.fact 8 (f := .glo "way") rfl),
      a_Bucket_init := (He.ma K (He.ga K "Bucket") "__init__"), d_Bucket_init := fd9, F_Bucket_init := F9, b_Bucket_init := b9,
      a_Bucket_names := (He.ma K (He.ga K "Bucket") "names"), d_Bucket_names := fd10, F_Bucket_names := F10, b_Bucket_names := b10,
      a_Bucket_hears := (He.ma K (He.ga K "Bucket") "hears"), d_Bucket_hears := fd11, F_Bucket_hears := F11, b_Bucket_hears := b11,
      a_Bucket_drops := (He.ma K (He.ga K "Bucket") "drops"), d_Bucket_drops := fd12, F_Bucket_drops := F12, b_Bucket_drops := b12,
      a_Table_init := (He.ma K (He.ga K "Table") "__init__"), d_Table_init := fd13, F_Table_init := F13, b_Table_init := b13,
      a_Table_bucket_for := (He.ma K (He.ga K "Table") "bucket_for"), d_Table_bucket_for := fd14, F_Table_bucket_for := F14, b_Table_bucket_for := b14,
      a_Table_hears := (He.ma K (He.ga K "Table") "hears"), d_Table_hears := fd15, F_Table_hears := F15, b_Table_hears := b15,
      a_Table_drops := (He.ma K (He.ga K "Table") "drops"), d_Table_drops := fd16, F_Table_drops := F16, b_Table_drops := b16,
      a_Table_bucket := (He.ma K (He.ga K "Table") "bucket"), d_Table_bucket := fd17, F_Table_bucket := F17, b_Table_bucket := b17,
      a_Table_keeps := (He.ma K (He.ga K "Table") "keeps"), d_Table_keeps := fd18, F_Table_keeps := F18, b_Table_keeps := b18,
      a_Table_nearest := (He.ma K (He.ga K "Table") "nearest"), d_Table_nearest := fd19, F_Table_nearest := F19, b_Table_nearest := b19,
      d_Table_nearest_1 := ds19_1, v_Table_nearest_1 := v19_1, b_Table_nearest_1 := b19_1,
      a_is_size := (He.ga K "is_size"), d_is_size := fd20, F_is_size := F20, b_is_size := b20,
      m_is_size := He.glo_ok X G (c.t.d.fact 9 (f := .glo "is_size") rfl),
      a_Town_init := (He.ma K (He.ga K "Town") "__init__"), d_Town_init := fd21, F_Town_init := F21, b_Town_init := b21,
      a_Town_houses := (He.ma K (He.ga K "Town") "houses"), d_Town_houses := fd22, F_Town_houses := F22, b_Town_houses := b22,
      a_Town_answers := (He.ma K (He.ga K "Town") "answers"), d_Town_answers := fd23, F_Town_answers := F23, b_Town_answers := b23,
      a_Town_answering := (He.ma K (He.ga K "Town") "answering"), d_Town_answering := fd24, F_Town_answering := F24, b_Town_answering := b24,
      a_Town_table := (He.ma K (He.ga K "Town") "table"), d_Town_table := fd25, F_Town_table := F25, b_Town_table := b25,
      a_Town_look_awake := (He.ma K (He.ga K "Town") "look_awake"), d_Town_look_awake := fd26, F_Town_look_awake := F26, b_Town_look_awake := b26,
      a_Town_look_named := (He.ma K (He.ga K "Town") "look_named"), d_Town_look_named := fd27, F_Town_look_named := F27, b_Town_look_named := b27,
      a_Town_bucket := (He.ma K (He.ga K "Town") "bucket"), d_Town_bucket := fd28, F_Town_bucket := F28, b_Town_bucket := b28,
      a_Town_keeps := (He.ma K (He.ga K "Town") "keeps"), d_Town_keeps := fd29, F_Town_keeps := F29, b_Town_keeps := b29,
      a_Town_tells := (He.ma K (He.ga K "Town") "tells"), d_Town_tells := fd30, F_Town_tells := F30, b_Town_tells := b30,
      a_Town_hears := (He.ma K (He.ga K "Town") "hears"), d_Town_hears := fd31, F_Town_hears := F31, b_Town_hears := b31,
      a_Town_come_to := (He.ma K (He.ga K "Town") "come_to"), d_Town_come_to := fd32, F_Town_come_to := F32, b_Town_come_to := b32,
      a_Town_ask := (He.ma K (He.ga K "Town") "ask"), d_Town_ask := fd33, F_Town_ask := F33, b_Town_ask := b33,
      a_Town_way := (He.ma K (He.ga K "Town") "way"), d_Town_way := fd34, F_Town_way := F34, b_Town_way := b34,
      a_Town_visit := (He.ma K (He.ga K "Town") "visit"), d_Town_visit := fd35, F_Town_visit := F35, b_Town_visit := b35,
      a_Town_come := (He.ma K (He.ga K "Town") "come"), d_Town_come := fd36, F_Town_come := F36, b_Town_come := b36,
      d_Town_come_1 := ds36_1, v_Town_come_1 := v36_1, b_Town_come_1 := b36_1,
      a_Town_go := (He.ma K (He.ga K "Town") "go"), d_Town_go := fd37, F_Town_go := F37, b_Town_go := b37,
      a_Town_hush := (He.ma K (He.ga K "Town") "hush"), d_Town_hush := fd38, F_Town_hush := F38, b_Town_hush := b38,
      a_Town_wake := (He.ma K (He.ga K "Town") "wake"), d_Town_wake := fd39, F_Town_wake := F39, b_Town_wake := b39,
      a_l_mixed := (He.ga K "_law_mixed"), d_l_mixed := fd40, F_l_mixed := F40, b_l_mixed := b40,
      m_l_mixed := He.glo_ok X G (c.t.d.fact 10 (f := .glo "_law_mixed") rfl),
      a_l_wide := (He.ga K "_law_wide"), d_l_wide := fd41, F_l_wide := F41, b_l_wide := b41,
      m_l_wide := He.glo_ok X G (c.t.d.fact 11 (f := .glo "_law_wide") rfl),
      a_l_near := (He.ga K "_law_near"), d_l_near := fd42, F_l_near := F42, b_l_near := b42,
      m_l_near := He.glo_ok X G (c.t.d.fact 12 (f := .glo "_law_near") rfl),
      a_l_awake := (He.ga K "_law_awake"), d_l_awake := fd43, F_l_awake := F43, b_l_awake := b43,
      m_l_awake := He.glo_ok X G (c.t.d.fact 13 (f := .glo "_law_awake") rfl),
      a_l_hears := (He.ga K "_law_hears"), d_l_hears := fd44, F_l_hears := F44, b_l_hears := b44,
      m_l_hears := He.glo_ok X G (c.t.d.fact 14 (f := .glo "_law_hears") rfl),
      a_l_keeps := (He.ga K "_law_keeps"), d_l_keeps := fd45, F_l_keeps := F45, b_l_keeps := b45,
      m_l_keeps := He.glo_ok X G (c.t.d.fact 15 (f := .glo "_law_keeps") rfl),
      a_l_come_to := (He.ga K "_law_come_to"), d_l_come_to := fd46, F_l_come_to := F46, b_l_come_to := b46,
      m_l_come_to := He.glo_ok X G (c.t.d.fact 16 (f := .glo "_law_come_to") rfl),
      a_l_visit := (He.ga K "_law_visit"), d_l_visit := fd47, F_l_visit := F47, b_l_visit := b47,
      m_l_visit := He.glo_ok X G (c.t.d.fact 17 (f := .glo "_law_visit") rfl),
      a_l_come := (He.ga K "_law_come"), d_l_come := fd48, F_l_come := F48, b_l_come := b48,
      m_l_come := He.glo_ok X G (c.t.d.fact 18 (f := .glo "_law_come") rfl),
      a_l_alike := (He.ga K "_law_alike"), d_l_alike := fd49, F_l_alike := F49, b_l_alike := b49,
      m_l_alike := He.glo_ok X G (c.t.d.fact 19 (f := .glo "_law_alike") rfl),
      a_l_set := (He.ga K "_law_set"), d_l_set := fd50, F_l_set := F50, b_l_set := b50,
      m_l_set := He.glo_ok X G (c.t.d.fact 20 (f := .glo "_law_set") rfl),
      a_l_some := (He.ga K "_law_some"), d_l_some := fd51, F_l_some := F51, b_l_some := b51,
      m_l_some := He.glo_ok X G (c.t.d.fact 21 (f := .glo "_law_some") rfl),
      a_l_name := (He.ga K "_law_name"), d_l_name := fd52, F_l_name := F52, b_l_name := b52,
      m_l_name := He.glo_ok X G (c.t.d.fact 22 (f := .glo "_law_name") rfl),
      a_l_marks := (He.ga K "_law_marks"), d_l_marks := fd53, F_l_marks := F53, b_l_marks := b53,
      m_l_marks := He.glo_ok X G (c.t.d.fact 23 (f := .glo "_law_marks") rfl),
      a_l_done := (He.ga K "_law_done"), d_l_done := fd54, F_l_done := F54, b_l_done := b54,
      m_l_done := He.glo_ok X G (c.t.d.fact 24 (f := .glo "_law_done") rfl),
      a_l_refused := (He.ga K "_law_refused"), d_l_refused := fd55, F_l_refused := F55, b_l_refused := b55,
      m_l_refused := He.glo_ok X G (c.t.d.fact 25 (f := .glo "_law_refused") rfl),
      a_l_is_name := (He.ga K "_law_is_name"), d_l_is_name := fd56, F_l_is_name := F56, b_l_is_name := b56,
      m_l_is_name := He.glo_ok X G (c.t.d.fact 26 (f := .glo "_law_is_name") rfl),
      a_l_of_house := (He.ga K "_law_of_house"), d_l_of_house := fd57, F_l_of_house := F57, b_l_of_house := b57,
      m_l_of_house := He.glo_ok X G (c.t.d.fact 27 (f := .glo "_law_of_house") rfl),
      a_l_due := (He.ga K "_law_due"), d_l_due := fd58, F_l_due := F58, b_l_due := b58,
      m_l_due := He.glo_ok X G (c.t.d.fact 28 (f := .glo "_law_due") rfl),
      a_l_thing := (He.ga K "_law_thing"), d_l_thing := fd59, F_l_thing := F59, b_l_thing := b59,
      m_l_thing := He.glo_ok X G (c.t.d.fact 29 (f := .glo "_law_thing") rfl),
      a_law := (He.ga K "law"), d_law := fd60, F_law := F60, b_law := b60,
      m_law := He.glo_ok X G (c.t.d.fact 30 (f := .glo "law") rfl),
      C_Bucket := He.ga K "Bucket", c_Bucket := He.cls_ok (c.t.d.fact 32 (f := .cls "Bucket") rfl), m_Bucket := He.glo_ok X G (c.t.d.fact 31 (f := .glo "Bucket") rfl), M_Bucket := He.mkr_ok (c.t.d.fact 33 (f := .mkr "Bucket") rfl),
      t_Bucket_names := He.meth_ok (c.t.d.fact 36 (f := .meth "Bucket" "names") rfl),
      t_Bucket_hears := He.meth_ok (c.t.d.fact 37 (f := .meth "Bucket" "hears") rfl),
      t_Bucket_drops := He.meth_ok (c.t.d.fact 38 (f := .meth "Bucket" "drops") rfl),
      n_Bucket_room := He.noat_ok (c.t.d.fact 34 (f := .noat "Bucket" "room") rfl),
      n_Bucket_line := He.noat_ok (c.t.d.fact 35 (f := .noat "Bucket" "line") rfl),
      C_Table := He.ga K "Table", c_Table := He.cls_ok (c.t.d.fact 40 (f := .cls "Table") rfl), m_Table := He.glo_ok X G (c.t.d.fact 39 (f := .glo "Table") rfl), M_Table := He.mkr_ok (c.t.d.fact 41 (f := .mkr "Table") rfl),
      t_Table_bucket_for := He.meth_ok (c.t.d.fact 46 (f := .meth "Table" "bucket_for") rfl),
      t_Table_hears := He.meth_ok (c.t.d.fact 47 (f := .meth "Table" "hears") rfl),
      t_Table_drops := He.meth_ok (c.t.d.fact 48 (f := .meth "Table" "drops") rfl),
      t_Table_bucket := He.meth_ok (c.t.d.fact 49 (f := .meth "Table" "bucket") rfl),
      t_Table_keeps := He.meth_ok (c.t.d.fact 50 (f := .meth "Table" "keeps") rfl),
      t_Table_nearest := He.meth_ok (c.t.d.fact 51 (f := .meth "Table" "nearest") rfl),
      n_Table_own := He.noat_ok (c.t.d.fact 42 (f := .noat "Table" "own") rfl),
      n_Table_wide := He.noat_ok (c.t.d.fact 43 (f := .noat "Table" "wide") rfl),
      n_Table_room := He.noat_ok (c.t.d.fact 44 (f := .noat "Table" "room") rfl),
      n_Table_buckets := He.noat_ok (c.t.d.fact 45 (f := .noat "Table" "buckets") rfl),
      C_Town := He.ga K "Town", c_Town := He.cls_ok (c.t.d.fact 53 (f := .cls "Town") rfl), m_Town := He.glo_ok X G (c.t.d.fact 52 (f := .glo "Town") rfl), M_Town := He.mkr_ok (c.t.d.fact 54 (f := .mkr "Town") rfl),
      t_Town_houses := He.meth_ok (c.t.d.fact 59 (f := .meth "Town" "houses") rfl),
      t_Town_answers := He.meth_ok (c.t.d.fact 60 (f := .meth "Town" "answers") rfl),
      t_Town_answering := He.meth_ok (c.t.d.fact 61 (f := .meth "Town" "answering") rfl),
      t_Town_table := He.meth_ok (c.t.d.fact 62 (f := .meth "Town" "table") rfl),
      t_Town_look_awake := He.meth_ok (c.t.d.fact 63 (f := .meth "Town" "look_awake") rfl),
      t_Town_look_named := He.meth_ok (c.t.d.fact 64 (f := .meth "Town" "look_named") rfl),
      t_Town_bucket := He.meth_ok (c.t.d.fact 65 (f := .meth "Town" "bucket") rfl),
      t_Town_keeps := He.meth_ok (c.t.d.fact 66 (f := .meth "Town" "keeps") rfl),
      t_Town_tells := He.meth_ok (c.t.d.fact 67 (f := .meth "Town" "tells") rfl),
      t_Town_hears := He.meth_ok (c.t.d.fact 68 (f := .meth "Town" "hears") rfl),
      t_Town_come_to := He.meth_ok (c.t.d.fact 69 (f := .meth "Town" "come_to") rfl),
      t_Town_ask := He.meth_ok (c.t.d.fact 70 (f := .meth "Town" "ask") rfl),
      t_Town_way := He.meth_ok (c.t.d.fact 71 (f := .meth "Town" "way") rfl),
      t_Town_visit := He.meth_ok (c.t.d.fact 72 (f := .meth "Town" "visit") rfl),
      t_Town_come := He.meth_ok (c.t.d.fact 73 (f := .meth "Town" "come") rfl),
      t_Town_go := He.meth_ok (c.t.d.fact 74 (f := .meth "Town" "go") rfl),
      t_Town_hush := He.meth_ok (c.t.d.fact 75 (f := .meth "Town" "hush") rfl),
      t_Town_wake := He.meth_ok (c.t.d.fact 76 (f := .meth "Town" "wake") rfl),
      n_Town_wide := He.noat_ok (c.t.d.fact 55 (f := .noat "Town" "wide") rfl),
      n_Town_room := He.noat_ok (c.t.d.fact 56 (f := .noat "Town" "room") rfl),
      n_Town_tables := He.noat_ok (c.t.d.fact 57 (f := .noat "Town" "tables") rfl),
      n_Town_hushed := He.noat_ok (c.t.d.fact 58 (f := .noat "Town" "hushed") rfl),
      m_way_asks := (He.glo_ok X G (c.t.d.fact 77 (f := .glo "way_asks") rfl)).trans (congrArg (fun z => some (Value.ref z)) (exL_ok c.more (p := ("way_asks", "way")) (List.mem_of_getElem? (i := 0) rfl))),
      C_NoHouse := He.ga K "NoHouse", m_NoHouse := He.glo_ok X G (c.t.d.fact 78 (f := .glo "NoHouse") rfl),
      C_Silent := He.ga K "Silent", m_Silent := He.glo_ok X G (c.t.d.fact 79 (f := .glo "Silent") rfl),
      C_NoName := He.ga K "NoName", m_NoName := He.glo_ok X G (c.t.d.fact 80 (f := .glo "NoName") rfl),
      C_Taken := He.ga K "Taken", m_Taken := He.glo_ok X G (c.t.d.fact 81 (f := .glo "Taken") rfl),
      C_NearError := He.ga K "NearError", m_NearError := He.glo_ok X G (c.t.d.fact 82 (f := .glo "NearError") rfl),
      C_NoSize := He.ga K "NoSize", m_NoSize := He.glo_ok X G (c.t.d.fact 83 (f := .glo "NoSize") rfl),
      C_NoTown := He.ga K "NoTown", m_NoTown := He.glo_ok X G (c.t.d.fact 84 (f := .glo "NoTown") rfl),
      C_NoLine := He.ga K "NoLine", m_NoLine := He.glo_ok X G (c.t.d.fact 85 (f := .glo "NoLine") rfl),
      xi_NoHouse := (He.exc_ok (c.t.d.fact 86 (f := .exc "NoHouse") rfl)).1, xk_NoHouse := (He.exc_ok (c.t.d.fact 86 (f := .exc "NoHouse") rfl)).2.1, xs_NoHouse := (He.exc_ok (c.t.d.fact 86 (f := .exc "NoHouse") rfl)).2.2.1, xt_NoHouse := (He.exc_ok (c.t.d.fact 86 (f := .exc "NoHouse") rfl)).2.2.2,
      ec_NoHouse := (exL_ec c.more (List.mem_of_getElem? (l := ecL) (i := 0) rfl)).1, xv_NoHouse := (exL_ec c.more (List.mem_of_getElem? (l := ecL) (i := 0) rfl)).2,
      xm_NoHouse_NearError := He.exm_ok (c.t.d.fact 87 (f := .exm "NoHouse" "NearError" true) rfl),
      xo_NoHouse_NoSize := exL_ko (p := ("NoHouse", "NoSize", false)) c.more (List.mem_of_getElem? (l := koL) (i := 0) rfl),
      xo_NoHouse_NoName := exL_ko (p := ("NoHouse", "NoName", false)) c.more (List.mem_of_getElem? (l := koL) (i := 1) rfl),
      xo_NoHouse_NoHouse := exL_ko (p := ("NoHouse", "NoHouse", true)) c.more (List.mem_of_getElem? (l := koL) (i := 2) rfl),
      xo_NoHouse_Taken := exL_ko (p := ("NoHouse", "Taken", false)) c.more (List.mem_of_getElem? (l := koL) (i := 3) rfl),
      xo_NoHouse_Silent := exL_ko (p := ("NoHouse", "Silent", false)) c.more (List.mem_of_getElem? (l := koL) (i := 4) rfl),
      xo_NoHouse_NoTown := exL_ko (p := ("NoHouse", "NoTown", false)) c.more (List.mem_of_getElem? (l := koL) (i := 5) rfl),
      xo_NoHouse_NoLine := exL_ko (p := ("NoHouse", "NoLine", false)) c.more (List.mem_of_getElem? (l := koL) (i := 6) rfl),
      xi_Silent := (He.exc_ok (c.t.d.fact 88 (f := .exc "Silent") rfl)).1, xk_Silent := (He.exc_ok (c.t.d.fact 88 (f := .exc "Silent") rfl)).2.1, xs_Silent := (He.exc_ok (c.t.d.fact 88 (f := .exc "Silent") rfl)).2.2.1, xt_Silent := (He.exc_ok (c.t.d.fact 88 (f := .exc "Silent") rfl)).2.2.2,
      ec_Silent := (exL_ec c.more (List.mem_of_getElem? (l := ecL) (i := 1) rfl)).1, xv_Silent := (exL_ec c.more (List.mem_of_getElem? (l := ecL) (i := 1) rfl)).2,
      xm_Silent_NearError := He.exm_ok (c.t.d.fact 89 (f := .exm "Silent" "NearError" true) rfl),
      xo_Silent_NoSize := exL_ko (p := ("Silent", "NoSize", false)) c.more (List.mem_of_getElem? (l := koL) (i := 7) rfl),
      xo_Silent_NoName := exL_ko (p := ("Silent", "NoName", false)) c.more (List.mem_of_getElem? (l := koL) (i := 8) rfl),
      xo_Silent_NoHouse := exL_ko (p := ("Silent", "NoHouse", false)) c.more (List.mem_of_getElem? (l := koL) (i := 9) rfl),
      xo_Silent_Taken := exL_ko (p := ("Silent", "Taken", false)) c.more (List.mem_of_getElem? (l := koL) (i := 10) rfl),
      xo_Silent_Silent := exL_ko (p := ("Silent", "Silent", true)) c.more (List.mem_of_getElem? (l := koL) (i := 11) rfl),
      xo_Silent_NoTown := exL_ko (p := ("Silent", "NoTown", false)) c.more (List.mem_of_getElem? (l := koL) (i := 12) rfl),
      xo_Silent_NoLine := exL_ko (p := ("Silent", "NoLine", false)) c.more (List.mem_of_getElem? (l := koL) (i := 13) rfl),
      xi_NoName := (He.exc_ok (c.t.d.fact 90 (f := .exc "NoName") rfl)).1, xk_NoName := (He.exc_ok (c.t.d.fact 90 (f := .exc "NoName") rfl)).2.1, xs_NoName := (He.exc_ok (c.t.d.fact 90 (f := .exc "NoName") rfl)).2.2.1, xt_NoName := (He.exc_ok (c.t.d.fact 90 (f := .exc "NoName") rfl)).2.2.2,
      ec_NoName := (exL_ec c.more (List.mem_of_getElem? (l := ecL) (i := 2) rfl)).1, xv_NoName := (exL_ec c.more (List.mem_of_getElem? (l := ecL) (i := 2) rfl)).2,
      xm_NoName_NearError := He.exm_ok (c.t.d.fact 91 (f := .exm "NoName" "NearError" true) rfl),
      xo_NoName_NoSize := exL_ko (p := ("NoName", "NoSize", false)) c.more (List.mem_of_getElem? (l := koL) (i := 14) rfl),
      xo_NoName_NoName := exL_ko (p := ("NoName", "NoName", true)) c.more (List.mem_of_getElem? (l := koL) (i := 15) rfl),
      xo_NoName_NoHouse := exL_ko (p := ("NoName", "NoHouse", false)) c.more (List.mem_of_getElem? (l := koL) (i := 16) rfl),
      xo_NoName_Taken := exL_ko (p := ("NoName", "Taken", false)) c.more (List.mem_of_getElem? (l := koL) (i := 17) rfl),
      xo_NoName_Silent := exL_ko (p := ("NoName", "Silent", false)) c.more (List.mem_of_getElem? (l := koL) (i := 18) rfl),
      xo_NoName_NoTown := exL_ko (p := ("NoName", "NoTown", false)) c.more (List.mem_of_getElem? (l := koL) (i := 19) rfl),
      xo_NoName_NoLine := exL_ko (p := ("NoName", "NoLine", false)) c.more (List.mem_of_getElem? (l := koL) (i := 20) rfl),
      xi_Taken := (He.exc_ok (c.t.d.fact 92 (f := .exc "Taken") rfl)).1, xk_Taken := (He.exc_ok (c.t.d.fact 92 (f := .exc "Taken") rfl)).2.1, xs_Taken := (He.exc_ok (c.t.d.fact 92 (f := .exc "Taken") rfl)).2.2.1, xt_Taken := (He.exc_ok (c.t.d.fact 92 (f := .exc "Taken") rfl)).2.2.2,
      ec_Taken := (exL_ec c.more (List.mem_of_getElem? (l := ecL) (i := 3) rfl)).1, xv_Taken := (exL_ec c.more (List.mem_of_getElem? (l := ecL) (i := 3) rfl)).2,
      xm_Taken_NearError := He.exm_ok (c.t.d.fact 93 (f := .exm "Taken" "NearError" true) rfl),
      xo_Taken_NoSize := exL_ko (p := ("Taken", "NoSize", false)) c.more (List.mem_of_getElem? (l := koL) (i := 21) rfl),
      xo_Taken_NoName := exL_ko (p := ("Taken", "NoName", false)) c.more (List.mem_of_getElem? (l := koL) (i := 22) rfl),
      xo_Taken_NoHouse := exL_ko (p := ("Taken", "NoHouse", false)) c.more (List.mem_of_getElem? (l := koL) (i := 23) rfl),
      xo_Taken_Taken := exL_ko (p := ("Taken", "Taken", true)) c.more (List.mem_of_getElem? (l := koL) (i := 24) rfl),
      xo_Taken_Silent := exL_ko (p := ("Taken", "Silent", false)) c.more (List.mem_of_getElem? (l := koL) (i := 25) rfl),
      xo_Taken_NoTown := exL_ko (p := ("Taken", "NoTown", false)) c.more (List.mem_of_getElem? (l := koL) (i := 26) rfl),
      xo_Taken_NoLine := exL_ko (p := ("Taken", "NoLine", false)) c.more (List.mem_of_getElem? (l := koL) (i := 27) rfl),
      z_ValueError := He.free_ok X G (c.t.d.fact 94 (f := .free "ValueError") rfl),
      z_bool := He.free_ok X G (c.t.d.fact 95 (f := .free "bool") rfl),
      z_int := He.free_ok X G (c.t.d.fact 96 (f := .free "int") rfl),
      z_isinstance := He.free_ok X G (c.t.d.fact 97 (f := .free "isinstance") rfl),
      z_len := He.free_ok X G (c.t.d.fact 98 (f := .free "len") rfl),
      z_list := He.free_ok X G (c.t.d.fact 99 (f := .free "list") rfl),
      z_range := He.free_ok X G (c.t.d.fact 100 (f := .free "range") rfl),
      z_sorted := He.free_ok X G (c.t.d.fact 101 (f := .free "sorted") rfl),
      z_sum := He.free_ok X G (c.t.d.fact 102 (f := .free "sum") rfl),
      t_MOST_WIDE := tk0, m_MOST_WIDE := ek0,
      t_MOST_ROOM := tk1, m_MOST_ROOM := ek1,
      k_Town_hears := He.codeOf K ("Town", some "hears"), P_Town_hears := He.tabOf K (He.codeOf K ("Town", some "hears")), tb_Town_hears := hTB _ (List.mem_map.mpr ⟨(("Town", some "hears") : He.Defn), by simp [tfL], rfl⟩), FC_Town_hears := func_of (p := ("Town", some "hears")) F31, z0_Town_hears := fun H h => h _ (List.mem_map.mpr ⟨(("Town", some "hears") : He.Defn), by simp [tfL], rfl⟩),
      k_Town_ask := He.codeOf K ("Town", some "ask"), P_Town_ask := He.tabOf K (He.codeOf K ("Town", some "ask")), tb_Town_ask := hTB _ (List.mem_map.mpr ⟨(("Town", some "ask") : He.Defn), by simp [tfL], rfl⟩), FC_Town_ask := func_of (p := ("Town", some "ask")) F33, z0_Town_ask := fun H h => h _ (List.mem_map.mpr ⟨(("Town", some "ask") : He.Defn), by simp [tfL], rfl⟩),
      k_Town_way := He.codeOf K ("Town", some "way"), P_Town_way := He.tabOf K (He.codeOf K ("Town", some "way")), tb_Town_way := hTB _ (List.mem_map.mpr ⟨(("Town", some "way") : He.Defn), by simp [tfL], rfl⟩), FC_Town_way := func_of (p := ("Town", some "way")) F34, z0_Town_way := fun H h => h _ (List.mem_map.mpr ⟨(("Town", some "way") : He.Defn), by simp [tfL], rfl⟩) }⟩
end Nn
open PySem PySem.W PySem.Calls PyProof.Rows
theorem PySem.Challenge.cw_nearnames_k36_towns_refused_holds : PySem.Challenge.rw_nearnames_k36_towns_refused.Holds := by
  w_on; o_law
  refine HandSHeadRun.head_any (r := OpenLaw.row PySem.Challenge.rw_nearnames_k36_towns_refused) (q := view (OpenLaw.row PySem.Challenge.rw_nearnames_k36_towns_refused).prog [51]) (H := Nn.hkX) (ob := Nn.obL) (M := 6000) (loose := Nn.looseL) (d := HandSHeadRun.topDef (OpenLaw.row PySem.Challenge.rw_nearnames_k36_towns_refused).prog 51) (kwd := []) Nn.obL_eq
    (by kernel_rfl) (fun s => by kernel_rfl) Nn.runL (by kernel_rfl) (by kernel_rfl) (by kernel_rfl) (by rfl) (by first | assumption | decide +kernel) (by decide +kernel) ⟨rfl, rfl, rfl, rfl, rfl, by decide +kernel⟩ ?hw ?hc
  case hw => w_witness2
  case hc =>
    refine LamX.walk_ofTsE (l := PySem.Challenge.rw_nearnames_k36_towns_refused) (n := 63) (k := 11) (x := "_law_script") (CX := fun _ => L2.CX0) rfl (by decide) (by kernel_rfl) ⟨rfl, by decide, by decide⟩ ?F (fun _ _ _ _ _ z => z)
    intro w mg fa h Y G hmg0
    obtain ⟨K, KX, c⟩ := Y
    have hmg : mg ("law" : PySem.Str) = some (.ref fa) := by
      have e : (HandSHeadRun.topDef (OpenLaw.row PySem.Challenge.rw_nearnames_k36_towns_refused).prog 51).name = ("law" : PySem.Str) := by kernel_rfl
      rw [← e]
      exact hmg0
    exact ⟨K, KX, Nn.factsL KX G hmg c⟩
