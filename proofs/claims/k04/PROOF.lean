import PyProof.Rows.All
import Wide.All
import OpenK.AllK
import Wide.FinOn
import HandS.ForMost
import HandS.Walk
import HandS.Wide
import HandS.WideBits
import HandS.IsInst
import HandS.EndBits
import HandS.SortInts
import HandS.Flow
import PySem.Challenge.RW_nearnames_k04_steps_and_spans
set_option Elab.async false
set_option linter.all false
set_option maxRecDepth 100000
set_option maxHeartbeats 4000000
namespace Nn
open PySem L2
def top (i : Nat) : Stmt := PySem.Challenge.pw_nearnames_k04_steps_and_spans.main.body.getD i (.Pass ⟨0, 0, 0, 0⟩)
abbrev s_far : Stmt := top 1
abbrev N_far : List Str := ["one", "other"]
theorem st_far (v0 v1 : V) : L2.start ["one", "other"] [v0, v1] = [some v0, some v1] := rfl
theorem sc_far : FnScope ["one", "other"] ["one", "other"] (defScope s_far) := ⟨rfl, rfl, rfl, by decide +kernel, rfl, by decide +kernel, by decide +kernel⟩
abbrev s_nearer : Stmt := top 2
abbrev N_nearer : List Str := ["goal", "one", "other"]
theorem st_nearer (v0 v1 v2 : V) : L2.start ["goal", "one", "other"] [v0, v1, v2] = [some v0, some v1, some v2] := rfl
theorem sc_nearer : FnScope ["goal", "one", "other"] ["goal", "one", "other"] (defScope s_nearer) := ⟨rfl, rfl, rfl, by decide +kernel, rfl, by decide +kernel, by decide +kernel⟩
abbrev s_step : Stmt := top 3
abbrev N_step : List Str := ["one", "other"]
theorem st_step (v0 v1 : V) : L2.start ["one", "other"] [v0, v1] = [some v0, some v1] := rfl
theorem sc_step : FnScope ["one", "other"] ["one", "other"] (defScope s_step) := ⟨rfl, rfl, rfl, by decide +kernel, rfl, by decide +kernel, by decide +kernel⟩
abbrev s_span : Stmt := top 4
abbrev N_span : List Str := ["name", "k", "low"]
theorem st_span (v0 v1 : V) : L2.start ["name", "k", "low"] [v0, v1] = [some v0, some v1, none] := rfl
theorem sc_span : FnScope ["name", "k", "low"] ["name", "k"] (defScope s_span) := ⟨rfl, rfl, rfl, by decide +kernel, rfl, by decide +kernel, by decide +kernel⟩
abbrev s_l_cell_at : Stmt := top 6
abbrev N_l_cell_at : List Str := ["_law_script", "_law_k"]
theorem st_l_cell_at (v0 v1 : V) : L2.start ["_law_script", "_law_k"] [v0, v1] = [some v0, some v1] := rfl
theorem sc_l_cell_at : FnScope ["_law_script", "_law_k"] ["_law_script", "_law_k"] (defScope s_l_cell_at) := ⟨rfl, rfl, rfl, by decide +kernel, rfl, by decide +kernel, by decide +kernel⟩
abbrev s_l_wide : Stmt := top 7
abbrev N_l_wide : List Str := ["_law_cell"]
theorem st_l_wide (v0 : V) : L2.start ["_law_cell"] [v0] = [some v0] := rfl
theorem sc_l_wide : FnScope ["_law_cell"] ["_law_cell"] (defScope s_l_wide) := ⟨rfl, rfl, rfl, by decide +kernel, rfl, by decide +kernel, by decide +kernel⟩
abbrev s_l_mixed : Stmt := top 8
abbrev N_l_mixed : List Str := ["_law_cell", "_law_k", "_law_number"]
theorem st_l_mixed (v0 v1 : V) : L2.start ["_law_cell", "_law_k", "_law_number"] [v0, v1] = [some v0, some v1, none] := rfl
theorem sc_l_mixed : FnScope ["_law_cell", "_law_k", "_law_number"] ["_law_cell", "_law_k"] (defScope s_l_mixed) := ⟨rfl, rfl, rfl, by decide +kernel, rfl, by decide +kernel, by decide +kernel⟩
abbrev s_l_names : Stmt := top 9
abbrev N_l_names : List Str := ["_law_cell", "_law_wide_here", "_law_many", "_law_names_here", "_law_k", "_law_base", "_law_near"]
theorem st_l_names (v0 v1 v2 : V) : L2.start ["_law_cell", "_law_wide_here", "_law_many", "_law_names_here", "_law_k", "_law_base", "_law_near"] [v0, v1, v2] = [some v0, some v1, some v2, none, none, none, none] := rfl
theorem sc_l_names : FnScope ["_law_cell", "_law_wide_here", "_law_many", "_law_names_here", "_law_k", "_law_base", "_law_near"] ["_law_cell", "_law_wide_here", "_law_many"] (defScope s_l_names) := ⟨rfl, rfl, rfl, by decide +kernel, rfl, by decide +kernel, by decide +kernel⟩
abbrev s_l_step : Stmt := top 10
abbrev N_l_step : List Str := ["_law_one", "_law_other", "_law_wide_here", "_law_found", "_law_k"]
theorem st_l_step (v0 v1 v2 : V) : L2.start ["_law_one", "_law_other", "_law_wide_here", "_law_found", "_law_k"] [v0, v1, v2] = [some v0, some v1, some v2, none, none] := rfl
theorem sc_l_step : FnScope ["_law_one", "_law_other", "_law_wide_here", "_law_found", "_law_k"] ["_law_one", "_law_other", "_law_wide_here"] (defScope s_l_step) := ⟨rfl, rfl, rfl, by decide +kernel, rfl, by decide +kernel, by decide +kernel⟩
abbrev s_l_whole : Stmt := top 11
abbrev N_l_whole : List Str := ["_law_found"]
theorem st_l_whole (v0 : V) : L2.start ["_law_found"] [v0] = [some v0] := rfl
theorem sc_l_whole : FnScope ["_law_found"] ["_law_found"] (defScope s_l_whole) := ⟨rfl, rfl, rfl, by decide +kernel, rfl, by decide +kernel, by decide +kernel⟩
abbrev s_l_span : Stmt := top 12
abbrev N_l_span : List Str := ["_law_name", "_law_k", "_law_wide_here", "_law_inside", "_law_found", "_law_low", "_law_high", "_law_one"]
theorem st_l_span (v0 v1 v2 v3 : V) : L2.start ["_law_name", "_law_k", "_law_wide_here", "_law_inside", "_law_found", "_law_low", "_law_high", "_law_one"] [v0, v1, v2, v3] = [some v0, some v1, some v2, some v3, none, none, none, none] := rfl
theorem sc_l_span : FnScope ["_law_name", "_law_k", "_law_wide_here", "_law_inside", "_law_found", "_law_low", "_law_high", "_law_one"] ["_law_name", "_law_k", "_law_wide_here", "_law_inside"] (defScope s_l_span) := ⟨rfl, rfl, rfl, by decide +kernel, rfl, by decide +kernel, by decide +kernel⟩
abbrev s_l_aside : Stmt := top 13
abbrev N_l_aside : List Str := ["_law_goal", "_law_name", "_law_k", "_law_other", "_law_inside", "_law_low", "_law_high", "_law_told", "_law_one"]
theorem st_l_aside (v0 v1 v2 v3 v4 : V) : L2.start ["_law_goal", "_law_name", "_law_k", "_law_other", "_law_inside", "_law_low", "_law_high", "_law_told", "_law_one"] [v0, v1, v2, v3, v4] = [some v0, some v1, some v2, some v3, some v4, none, none, none, none] := rfl
theorem sc_l_aside : FnScope ["_law_goal", "_law_name", "_law_k", "_law_other", "_law_inside", "_law_low", "_law_high", "_law_told", "_law_one"] ["_law_goal", "_law_name", "_law_k", "_law_other", "_law_inside"] (defScope s_l_aside) := ⟨rfl, rfl, rfl, by decide +kernel, rfl, by decide +kernel, by decide +kernel⟩
abbrev s_law : Stmt := top 14
abbrev N_law : List Str := ["_law_script", "_law_wide_here", "_law_names_here", "_law_more", "_law_j", "_law_name", "_law_other", "_law_found", "_law_k", "_law_inside"]
theorem st_law (v0 : V) : L2.start ["_law_script", "_law_wide_here", "_law_names_here", "_law_more", "_law_j", "_law_name", "_law_other", "_law_found", "_law_k", "_law_inside"] [v0] = [some v0, none, none, none, none, none, none, none, none, none] := rfl
theorem sc_law : FnScope ["_law_script", "_law_wide_here", "_law_names_here", "_law_more", "_law_j", "_law_name", "_law_other", "_law_found", "_law_k", "_law_inside"] ["_law_script"] (defScope s_law) := ⟨rfl, rfl, rfl, by decide +kernel, rfl, by decide +kernel, by decide +kernel⟩
structure Tx (K : PySem.W.Frag) (mg : Str → Option Value) where
  a_far : Addr
  d_far : FuncData
  F_far : Fun K "far" "far" s_far a_far d_far
  b_far : Binds K d_far ["one", "other"] []
  m_far : mg "far" = some (.ref a_far)
  a_nearer : Addr
  d_nearer : FuncData
  F_nearer : Fun K "nearer" "nearer" s_nearer a_nearer d_nearer
  b_nearer : Binds K d_nearer ["goal", "one", "other"] []
  m_nearer : mg "nearer" = some (.ref a_nearer)
  a_step : Addr
  d_step : FuncData
  F_step : Fun K "step" "step" s_step a_step d_step
  b_step : Binds K d_step ["one", "other"] []
  m_step : mg "step" = some (.ref a_step)
  a_span : Addr
  d_span : FuncData
  F_span : Fun K "span" "span" s_span a_span d_span
  b_span : Binds K d_span ["name", "k"] []
  m_span : mg "span" = some (.ref a_span)
  a_l_cell_at : Addr
  d_l_cell_at : FuncData
  F_l_cell_at : Fun K "_law_cell_at" "_law_cell_at" s_l_cell_at a_l_cell_at d_l_cell_at
  b_l_cell_at : Binds K d_l_cell_at ["_law_script", "_law_k"] []
  m_l_cell_at : mg "_law_cell_at" = some (.ref a_l_cell_at)
  a_l_wide : Addr
  d_l_wide : FuncData
  F_l_wide : Fun K "_law_wide" "_law_wide" s_l_wide a_l_wide d_l_wide
  b_l_wide : Binds K d_l_wide ["_law_cell"] []
  m_l_wide : mg "_law_wide" = some (.ref a_l_wide)
  a_l_mixed : Addr
  d_l_mixed : FuncData
  F_l_mixed : Fun K "_law_mixed" "_law_mixed" s_l_mixed a_l_mixed d_l_mixed
  b_l_mixed : Binds K d_l_mixed ["_law_cell", "_law_k"] []
  m_l_mixed : mg "_law_mixed" = some (.ref a_l_mixed)
  a_l_names : Addr
  d_l_names : FuncData
  F_l_names : Fun K "_law_names" "_law_names" s_l_names a_l_names d_l_names
  b_l_names : Binds K d_l_names ["_law_cell", "_law_wide_here", "_law_many"] []
  m_l_names : mg "_law_names" = some (.ref a_l_names)
  a_l_step : Addr
  d_l_step : FuncData
  F_l_step : Fun K "_law_step" "_law_step" s_l_step a_l_step d_l_step
  b_l_step : Binds K d_l_step ["_law_one", "_law_other", "_law_wide_here"] []
  m_l_step : mg "_law_step" = some (.ref a_l_step)
  a_l_whole : Addr
  d_l_whole : FuncData
  F_l_whole : Fun K "_law_whole" "_law_whole" s_l_whole a_l_whole d_l_whole
  b_l_whole : Binds K d_l_whole ["_law_found"] []
  m_l_whole : mg "_law_whole" = some (.ref a_l_whole)
  a_l_span : Addr
  d_l_span : FuncData
  F_l_span : Fun K "_law_span" "_law_span" s_l_span a_l_span d_l_span
  b_l_span : Binds K d_l_span ["_law_name", "_law_k", "_law_wide_here", "_law_inside"] []
  m_l_span : mg "_law_span" = some (.ref a_l_span)
  a_l_aside : Addr
  d_l_aside : FuncData
  F_l_aside : Fun K "_law_aside" "_law_aside" s_l_aside a_l_aside d_l_aside
  b_l_aside : Binds K d_l_aside ["_law_goal", "_law_name", "_law_k", "_law_other", "_law_inside"] []
  m_l_aside : mg "_law_aside" = some (.ref a_l_aside)
  a_law : Addr
  d_law : FuncData
  F_law : Fun K "law" "law" s_law a_law d_law
  b_law : Binds K d_law ["_law_script"] []
  m_law : mg "law" = some (.ref a_law)
  z_abs : mg "abs" = none
  z_bool : mg "bool" = none
  z_enumerate : mg "enumerate" = none
  z_int : mg "int" = none
  z_isinstance : mg "isinstance" = none
  z_len : mg "len" = none
  z_min : mg "min" = none
  z_range : mg "range" = none
  z_tuple : mg "tuple" = none
end Nn
/-! Steps through readings. -/
namespace Nn
open PySem L2
section
variable {K : PySem.W.Frag} {σ : L2.St} {H : Hp} {ta tb te tc : TE} {t u : TS} {c c' : TT} {D : Ends} {Q : VK} {x y v : V}

theorem cxK {CX : CXT} {P : Program} {w : World} {K : PySem.W.Frag} {mg : Str → Option Value} {base : Heap} {N : List Str} {q : Str} {sc : Scope} {f : Addr} {cd : Value} {A : Around} {outer : List Env} {s : Shared} {H : Hp} {E : XK} :
    (cxOf CX P w K mg base N q sc f cd A outer s H E).nox.K = K := rfl
theorem cxK' {CX : CXT} {P : Program} {w : World} {K : PySem.W.Frag} {mg : Str → Option Value} {base : Heap} {N : List Str} {q : Str} {sc : Scope} {f : Addr} {cd : Value} {A : Around} {outer : List Env} {s : Shared} {H : Hp} {E : XK} :
    (cxOf CX P w K mg base N q sc f cd A outer s H E).K = K := rfl
theorem x_seq (h : t { D with nx := u D } σ H) : tSeq t u D σ H := h
theorem x_next (h : D.nx σ H) : tNext D σ H := h
theorem x_asg {g : TG} (h : te σ H fun x H1 => g x σ H1 D.nx) : tAsg te g D σ H := h
theorem x_name {i : Nat} {R : L2.St → Hp → Prop} (h : R (σ.set i (some v)) H) : gName i v σ H R := h
theorem x_ret (h : te σ H D.rt) : tRet te D σ H := h
theorem x_retN (h : D.rt .non H) : tRetN D σ H := h
theorem x_drop (h : te σ H fun _ H1 => D.nx σ H1) : tDrop te D σ H := h
/-- the branches as they stand (not walked until the test is known) -/
def IfS (b : Bool) (t u : TS) (D : Ends) (σ : L2.St) (H : Hp) : Prop := if b = true then t D σ H else u D σ H
theorem x_ifD {p : Prop} [Decidable p] (h1 : p → t D σ H) (h2 : ¬ p → u D σ H) : IfS (decide p) t u D σ H := by
  unfold IfS
  by_cases h : p
  · rw [if_pos (decide_eq_true h)]; exact h1 h
  · rw [if_neg (by simp [h])]; exact h2 h
theorem x_ifN {p : Prop} [Decidable p] (h1 : ¬ p → t D σ H) (h2 : p → u D σ H) : IfS (!decide p) t u D σ H := by
  unfold IfS
  by_cases h : p
  · rw [if_neg (by simp [h])]; exact h2 h
  · rw [if_pos (by simp [h])]; exact h1 h
theorem x_ifB {b : Bool} (h1 : b = true → t D σ H) (h2 : b = false → u D σ H) : IfS b t u D σ H := by
  cases b with
  | true => exact h1 rfl
  | false => exact h2 rfl
theorem x_if {tt : TT} (h : tt σ H fun b H1 => if b = true then ta σ H1 Q else tb σ H1 Q) : tIf tt ta tb σ H Q := h
theorem x_var {i : Nat} (e : σ[i]? = some (some v)) (h : Q v H) : tVar i σ H Q := ⟨v, e, h⟩
theorem x_c (h : Q v H) : tC v σ H Q := h
theorem x_op {r : R2} (h : ta σ H fun x H1 => tb σ H1 fun y H2 => r x y H2 Q) : tOp r ta tb σ H Q := h
theorem x_un {r : V → Hp → VK → Prop} (h : ta σ H fun x H1 => r x H1 Q) : tUn r ta σ H Q := h
theorem x_cb {r : List V → Hp → VK → Prop} {ts : TA} (h : ts σ H fun vs H1 => r vs H1 Q) : tCB r ts σ H Q := h
theorem x_nil {R : List V → Hp → Prop} (h : R [] H) : tNil σ H R := h
theorem x_cons {ts : TA} {R : List V → Hp → Prop} (h : ta σ H fun x H1 => ts σ H1 fun xs H2 => R (x :: xs) H2) : tCons ta ts σ H R := h
theorem x_call {sp : Sp} {E : XK} {ts : TA} (h : ts σ H fun vs H1 => sp vs H1 Q E) : tCall sp [] E ts σ H Q := by
  unfold tCall; simpa only [List.append_nil] using h
theorem x_calld {sp : Sp} {E : XK} {ds : List V} {ts : TA} (h : ts σ H fun vs H1 => sp (vs ++ ds) H1 Q E) : tCall sp ds E ts σ H Q := h
theorem x_fld {f : Str} (h : ta σ H fun x H1 => ∃ a C dx fs v, x = .ref a ∧ H1 a = some (.ins C dx fs) ∧ Cls K C ∧ NoAttr K C f ∧ fs.lookup f = some v ∧ Q v H1) : tFld K ta f σ H Q := h
theorem x_tup {ts : TA} (h : ts σ H fun xs H1 => xs.length ≤ sizeLine ∧ ∀ p, H1 p = none → Q (.ref p) (upd H1 p (.tup xs))) : tTup ts σ H Q := h
theorem x_lst {ts : TA} (h : ts σ H fun xs H1 => xs.length ≤ sizeLine ∧ ∀ p, H1 p = none → Q (.ref p) (upd H1 p (.lst xs))) : tLst ts σ H Q := h

theorem x_test {R : Bool → Hp → Prop} (h : te σ H fun x H' => ∃ k, x = .bl k ∧ R k H') : tTest te σ H R := h
theorem x_B {R : Bool → Hp → Prop} (h : te σ H fun x H' => ∃ k, x = .bl k ∧ R k H') : tB te σ H R := h
theorem x_bl {R : Bool → Prop} {k : Bool} (h : R k) : ∃ k', V.bl k = V.bl k' ∧ R k' := ⟨k, rfl, h⟩
theorem x_and {R : Bool → Hp → Prop} (h : c σ H fun b H1 => if b = true then c' σ H1 R else R false H1) : tAnd c c' σ H R := h
theorem x_or {R : Bool → Hp → Prop} (h : c σ H fun b H1 => if b = true then R true H1 else c' σ H1 R) : tOr c c' σ H R := h
theorem x_not {R : Bool → Hp → Prop} (h : c σ H fun b H1 => R (!b) H1) : tNot c σ H R := h
theorem x_andV (h : ta σ H fun x H1 => ∃ c, x = .bl c ∧ if c = true then tb σ H1 Q else Q (.bl false) H1) : tAndV ta tb σ H Q := h
theorem x_orV (h : ta σ H fun x H1 => ∃ c, x = .bl c ∧ if c = true then Q (.bl true) H1 else tb σ H1 Q) : tOrV ta tb σ H Q := h
theorem x_notV (h : ta σ H fun x H1 => ∃ c, x = .bl c ∧ Q (.bl (!c)) H1) : tNotV ta σ H Q := h
theorem x_chain {r r' : R2} (h : ta σ H fun x H1 => tb σ H1 fun y H2 => r x y H2 fun z H3 => ∃ k, z = .bl k ∧ if k = true then tc σ H3 fun w H4 => r' y w H4 Q else Q (.bl false) H3) : tChain r r' ta tb tc σ H Q := h

theorem x_i0 {g : Int → Int → V} {i j : Int} (h : Q (g i j) H) : rI0 g (.int i) (.int j) H Q := ⟨i, j, rfl, rfl, h⟩
theorem x_i {C : Int → Int → Prop} {g : Int → Int → V} {i j : Int} (hc : C i j) (h : Q (g i j) H) : rI C g (.int i) (.int j) H Q := ⟨i, j, rfl, rfl, hc, h⟩
theorem x_u {g : Int → V} {i : Int} (h : Q (g i) H) : rU g (.int i) H Q := ⟨i, rfl, h⟩
theorem x_eqI {i j : Int} (h : Q (.bl (decide (i = j))) H) : rEq (.int i) (.int j) H Q := ⟨rfl, by
  have e : decide (V.int i = V.int j) = decide (i = j) := by simp
  rw [e]; exact h⟩
theorem x_neI {i j : Int} (h : Q (.bl (!decide (i = j))) H) : rNe (.int i) (.int j) H Q := ⟨rfl, by
  have e : decide (V.int i = V.int j) = decide (i = j) := by simp
  rw [e]; exact h⟩
theorem x_eqB {i j : Bool} (h : Q (.bl (decide (i = j))) H) : rEq (.bl i) (.bl j) H Q := ⟨rfl, by
  have e : decide (V.bl i = V.bl j) = decide (i = j) := by simp
  rw [e]; exact h⟩
theorem x_neB {i j : Bool} (h : Q (.bl (!decide (i = j))) H) : rNe (.bl i) (.bl j) H Q := ⟨rfl, by
  have e : decide (V.bl i = V.bl j) = decide (i = j) := by simp
  rw [e]; exact h⟩
theorem x_eqS {i j : Str} (h : Q (.bl (decide (i = j))) H) : rEq (.str i) (.str j) H Q := ⟨rfl, by
  have e : decide (V.str i = V.str j) = decide (i = j) := by simp
  rw [e]; exact h⟩
theorem x_neS {i j : Str} (h : Q (.bl (!decide (i = j))) H) : rNe (.str i) (.str j) H Q := ⟨rfl, by
  have e : decide (V.str i = V.str j) = decide (i = j) := by simp
  rw [e]; exact h⟩
theorem x_eq (e : scal x y = true) (h : Q (.bl (decide (x = y))) H) : rEq x y H Q := ⟨e, h⟩
theorem x_ne (e : scal x y = true) (h : Q (.bl (!decide (x = y))) H) : rNe x y H Q := ⟨e, h⟩

theorem x_ite {p A B : Prop} [Decidable p] (h1 : p → A) (h2 : ¬ p → B) : if decide p = true then A else B := by
  by_cases h : p
  · rw [if_pos (decide_eq_true h)]; exact h1 h
  · rw [if_neg (by simp [h])]; exact h2 h
theorem x_iteN {p A B : Prop} [Decidable p] (h1 : ¬ p → A) (h2 : p → B) : if (!decide p) = true then A else B := by
  by_cases h : p
  · rw [if_neg (by simp [h])]; exact h2 h
  · rw [if_pos (by simp [h])]; exact h1 h
theorem x_iteB {b : Bool} {A B : Prop} (h1 : b = true → A) (h2 : b = false → B) : if b = true then A else B := by
  cases b with
  | true => rw [if_pos rfl]; exact h1 rfl
  | false => rw [if_neg Bool.false_ne_true]; exact h2 rfl
theorem x_T {A B : Prop} (h : A) : if true = true then A else B := iteT h
theorem x_F {A B : Prop} (h : B) : if false = true then A else B := iteF h
theorem x_NT {A B : Prop} (h : B) : if (!true) = true then A else B := iteF h
theorem x_NF {A B : Prop} (h : A) : if (!false) = true then A else B := iteT h

/-! the built-ins' readings -/
theorem x_ixL {p : Addr} {xs : List V} {i : Int} (hS : SqL K H p xs) (e : atI xs i = some v) (h : Q v H) : rIxL K (.ref p) (.int i) H Q := ⟨p, xs, i, v, rfl, rfl, hS, e, h⟩
theorem x_ixT {p : Addr} {xs : List V} {i : Int} (hS : SqT K H p xs) (e : atI xs i = some v) (h : Q v H) : rIxT K (.ref p) (.int i) H Q := ⟨p, xs, i, v, rfl, rfl, hS, e, h⟩
def rAbs : List V → Hp → VK → Prop := fun xs H Q => ∃ i, xs = [.int i] ∧ Q (.int (if i < 0 then -i else i)) H
def rMin2 : List V → Hp → VK → Prop := fun xs H Q => ∃ i j, xs = [.int i, .int j] ∧ Q (.int (if j < i then j else i)) H
def rMax2 : List V → Hp → VK → Prop := fun xs H Q => ∃ i j, xs = [.int i, .int j] ∧ Q (.int (if j > i then j else i)) H
def rLenS (K : PySem.W.Frag) : List V → Hp → VK → Prop := fun xs H Q => ∃ p ys, xs = [.ref p] ∧ (SqL K H p ys ∨ SqT K H p ys) ∧ Q (.int ys.length) H
def rLenD : List V → Hp → VK → Prop := fun xs H Q => ∃ a kvs, xs = [V.ref a] ∧ H a = some (.dK kvs) ∧ Q (.int kvs.length) H
def rLenStr : List V → Hp → VK → Prop := fun xs H Q => ∃ z : Str, xs = [.str z] ∧ z.length ≤ sizeLine ∧ Q (.int z.length) H
def rInt1 : List V → Hp → VK → Prop := fun xs H Q => (∃ i, xs = [.int i] ∧ Q (.int i) H) ∨ ∃ k, xs = [.bl k] ∧ Q (.int (if k then 1 else 0)) H
def rListOf (K : PySem.W.Frag) : List V → Hp → VK → Prop := fun xs H Q => ∃ p ys, xs = [.ref p] ∧ (SqL K H p ys ∨ SqT K H p ys) ∧ ∀ l, H l = none → Q (.ref l) (upd H l (.lst ys))
theorem cb_abs {X : Cx} : CallR X (.builtin "abs") rAbs := call_abs
theorem cb_min2 {X : Cx} (hc : X.calm = true) : CallR X (.builtin "min") rMin2 := call_min2 hc
theorem cb_max2 {X : Cx} (hc : X.calm = true) : CallR X (.builtin "max") rMax2 := call_max2 hc
theorem cb_len {X : Cx} : CallR X (.builtin "len") (rLenS X.K) := call_len_seq
theorem cb_lenD {X : Cx} : CallR X (.builtin "len") rLenD := call_lenD
theorem cb_lenStr {X : Cx} : CallR X (.builtin "len") rLenStr := call_len_str
theorem cb_int {X : Cx} : CallR X (.type "int") rInt1 := call_int1
theorem cb_list {X : Cx} : CallR X (.type "list") (rListOf X.K) := call_list_of
theorem x_abs {i : Int} (h : Q (.int (i.natAbs : Int)) H) : rAbs [.int i] H Q :=
  ⟨i, rfl, by
    have e : (if i < 0 then -i else i) = (i.natAbs : Int) := by split <;> omega
    rw [e]; exact h⟩
theorem x_min2 {i j : Int} (h : Q (.int (min i j)) H) : rMin2 [.int i, .int j] H Q :=
  ⟨i, j, rfl, by
    have e : (if j < i then j else i) = min i j := by split <;> omega
    rw [e]; exact h⟩
theorem x_max2 {i j : Int} (h : Q (.int (max i j)) H) : rMax2 [.int i, .int j] H Q :=
  ⟨i, j, rfl, by
    have e : (if j > i then j else i) = max i j := by split <;> omega
    rw [e]; exact h⟩
theorem x_lenL {p : Addr} {ys : List V} (hS : SqL K H p ys) (h : Q (.int ys.length) H) : rLenS K [.ref p] H Q := ⟨p, ys, rfl, .inl hS, h⟩
theorem x_lenT {p : Addr} {ys : List V} (hS : SqT K H p ys) (h : Q (.int ys.length) H) : rLenS K [.ref p] H Q := ⟨p, ys, rfl, .inr hS, h⟩
theorem x_lenD {p : Addr} {kvs : List (Key × V)} (hS : H p = some (.dK kvs)) (h : Q (.int kvs.length) H) : rLenD [.ref p] H Q := ⟨p, kvs, rfl, hS, h⟩
theorem x_intI {i : Int} (h : Q (.int i) H) : rInt1 [.int i] H Q := .inl ⟨i, rfl, h⟩
theorem x_intB {b : Bool} (h : Q (.int (if b then 1 else 0)) H) : rInt1 [.bl b] H Q := .inr ⟨b, rfl, h⟩
theorem x_listL {p : Addr} {ys : List V} (hS : SqL K H p ys) (h : ∀ l, H l = none → Q (.ref l) (upd H l (.lst ys))) : rListOf K [.ref p] H Q := ⟨p, ys, rfl, .inl hS, h⟩
theorem x_sum {a : Addr} {ns : List Int} (hS : SqL K H a (ns.map V.int)) (h : Q (.int ns.sum) H) : rSum K [.ref a] H Q := ⟨a, ns, rfl, hS, h⟩
/-- isinstance of plain values, against built-in types -/
theorem x_isi {c : V} {t u : Value} {b : Bool} (k : ClsV c u) (ty : TyX K H x t) (e : PySem.W.kitOne K t u = some b) (h : Q (.bl b) H) : rIsi K [x, c] H Q := ⟨x, c, t, u, b, rfl, k, ty, e, h⟩
theorem x_isG {vs : List V} (h : rIsi K vs H Q) : rIsi K vs H Q := h
theorem x_isI_int {i : Int} (h : Q (.bl true) H) : rIsi K [.int i, .ty "int"] H Q := x_isi (.ty "int") (.base (.int i)) (kit_ty (by decide +kernel)) h
theorem x_isI_bool {i : Int} (h : Q (.bl false) H) : rIsi K [.int i, .ty "bool"] H Q := x_isi (.ty "bool") (.base (.int i)) (kit_ty (by decide +kernel)) h
theorem x_isI_str {i : Int} (h : Q (.bl false) H) : rIsi K [.int i, .ty "str"] H Q := x_isi (.ty "str") (.base (.int i)) (kit_ty (by decide +kernel)) h
theorem x_isB_int {c : Bool} (h : Q (.bl true) H) : rIsi K [.bl c, .ty "int"] H Q := x_isi (.ty "int") (.base (.bl c)) (kit_ty (by decide +kernel)) h
theorem x_isB_bool {c : Bool} (h : Q (.bl true) H) : rIsi K [.bl c, .ty "bool"] H Q := x_isi (.ty "bool") (.base (.bl c)) (kit_ty (by decide +kernel)) h
theorem x_isB_str {c : Bool} (h : Q (.bl false) H) : rIsi K [.bl c, .ty "str"] H Q := x_isi (.ty "str") (.base (.bl c)) (kit_ty (by decide +kernel)) h
theorem x_isS_int {z : Str} (h : Q (.bl false) H) : rIsi K [.str z, .ty "int"] H Q := x_isi (.ty "int") (.base (.str z)) (kit_ty (by decide +kernel)) h
theorem x_isS_bool {z : Str} (h : Q (.bl false) H) : rIsi K [.str z, .ty "bool"] H Q := x_isi (.ty "bool") (.base (.str z)) (kit_ty (by decide +kernel)) h
theorem x_isS_str {z : Str} (h : Q (.bl true) H) : rIsi K [.str z, .ty "str"] H Q := x_isi (.ty "str") (.base (.str z)) (kit_ty (by decide +kernel)) h
theorem x_isN_int  (h : Q (.bl false) H) : rIsi K [.non, .ty "int"] H Q := x_isi (.ty "int") (.base .non) (kit_ty (by decide +kernel)) h
theorem x_isN_bool  (h : Q (.bl false) H) : rIsi K [.non, .ty "bool"] H Q := x_isi (.ty "bool") (.base .non) (kit_ty (by decide +kernel)) h
theorem x_isN_str  (h : Q (.bl false) H) : rIsi K [.non, .ty "str"] H Q := x_isi (.ty "str") (.base .non) (kit_ty (by decide +kernel)) h
theorem x_isL_int {a : Addr} {xs : List V} (ha : H a = some (.lst xs)) (h : Q (.bl false) H) : rIsi K [.ref a, .ty "int"] H Q := x_isi (.ty "int") (.base (.lst ha)) (kit_ty (by decide +kernel)) h
theorem x_isL_list {a : Addr} {xs : List V} (ha : H a = some (.lst xs)) (h : Q (.bl true) H) : rIsi K [.ref a, .ty "list"] H Q := x_isi (.ty "list") (.base (.lst ha)) (kit_ty (by decide +kernel)) h
theorem x_isL_tuple {a : Addr} {xs : List V} (ha : H a = some (.lst xs)) (h : Q (.bl false) H) : rIsi K [.ref a, .ty "tuple"] H Q := x_isi (.ty "tuple") (.base (.lst ha)) (kit_ty (by decide +kernel)) h
theorem x_isT_int {a : Addr} {xs : List V} (ha : H a = some (.tup xs)) (h : Q (.bl false) H) : rIsi K [.ref a, .ty "int"] H Q := x_isi (.ty "int") (.base (.tup ha)) (kit_ty (by decide +kernel)) h
theorem x_isT_list {a : Addr} {xs : List V} (ha : H a = some (.tup xs)) (h : Q (.bl false) H) : rIsi K [.ref a, .ty "list"] H Q := x_isi (.ty "list") (.base (.tup ha)) (kit_ty (by decide +kernel)) h
theorem x_isT_tuple {a : Addr} {xs : List V} (ha : H a = some (.tup xs)) (h : Q (.bl true) H) : rIsi K [.ref a, .ty "tuple"] H Q := x_isi (.ty "tuple") (.base (.tup ha)) (kit_ty (by decide +kernel)) h
theorem x_isD_int {a : Addr} {kvs : List (Key × V)} (ha : H a = some (.dK kvs)) (h : Q (.bl false) H) : rIsi K [.ref a, .ty "int"] H Q := x_isi (.ty "int") (.base (.dK ha)) (kit_ty (by decide +kernel)) h
theorem x_isD_list {a : Addr} {kvs : List (Key × V)} (ha : H a = some (.dK kvs)) (h : Q (.bl false) H) : rIsi K [.ref a, .ty "list"] H Q := x_isi (.ty "list") (.base (.dK ha)) (kit_ty (by decide +kernel)) h
theorem x_isD_tuple {a : Addr} {kvs : List (Key × V)} (ha : H a = some (.dK kvs)) (h : Q (.bl false) H) : rIsi K [.ref a, .ty "tuple"] H Q := x_isi (.ty "tuple") (.base (.dK ha)) (kit_ty (by decide +kernel)) h

/-! heaps that grow -/
def Ex (H H' : Hp) : Prop := ∀ a o, H a = some o → H' a = some o
theorem Ex.refl {H : Hp} : Ex H H := fun _ _ h => h
theorem Ex.trans {H H1 H2 : Hp} (a : Ex H H1) (b : Ex H1 H2) : Ex H H2 := fun x o h => b x o (a x o h)
theorem Ex.new {H : Hp} {p : Addr} {o : HO} (h : H p = none) : Ex H (upd H p o) := fun a u e => by
  rw [upd_ne (ne_of_none e h)]; exact e
theorem Ex.newT {H H1 : Hp} {p : Addr} {o : HO} (a : Ex H H1) (h : H1 p = none) : Ex H (upd H1 p o) := a.trans (Ex.new h)
/-- an object that H does not know may change -/
theorem Ex.mut {H H' : Hp} {p : Addr} {o : HO} (e : Ex H H') (h : H p = none) : Ex H (upd H' p o) := fun a u ha => by
  rw [upd_ne (ne_of_none ha h)]; exact e a u ha
theorem Ex.free {H H' : Hp} {p : Addr} (e : Ex H H') (h : H' p = none) : H p = none := by
  cases h1 : H p with
  | none => rfl
  | some o => rw [e p o h1] at h; cases h
theorem Ex.ls {H H' : Hp} {a : Addr} {xs : List V} (e : Ex H H') (h : SqL K H a xs) : SqL K H' a xs := by
  rcases h with (h | ⟨o, h⟩) | h
  · exact .inl (.inl (e _ _ h))
  · exact .inl (.inr ⟨o, e _ _ h⟩)
  · exact .inr h
theorem Ex.tu {H H' : Hp} {a : Addr} {xs : List V} (e : Ex H H') (h : SqT K H a xs) : SqT K H' a xs := by
  rcases h with (h | ⟨o, h⟩) | h
  · exact .inl (.inl (e _ _ h))
  · exact .inl (.inr ⟨o, e _ _ h⟩)
  · exact .inr h

/-! loops -/
def ForW (g : TG) (tb : TS) (D : Ends) (J : It) (σ : L2.St) (H : Hp) : Prop := ∃ W : Nat → Nat → L2.St → Hp → Prop, (∃ m, W 0 m σ H) ∧ ∀ i m σ H, W i m σ H →
  (J.stop i H ∧ D.nx σ H) ∨ (J.go i H ∧ ∃ N : L2.St → Hp → Prop, (∀ σ' H', N σ' H' → ∃ m', m' < m ∧ W (i + 1) m' σ' H') ∧ ∀ x H', J.yld i H x H' → g x σ H' fun σ2 H2 => tb { D with nx := N, ct := N, bk := D.nx } σ2 H2)
theorem x_for {wi : TI} {g : TG} {tb : TS} (h : wi σ H fun J H1 => ForW g tb D J σ H1) : tFor wi g tb D σ H := h
theorem ForW.by {J : It} {n : Nat} {G : Hp → Prop} {Y : Nat → Hp → V → Hp → Prop} (w : Walk J n G Y) {g : TG} {tb : TS} (Pv : Nat → L2.St → Hp → Prop) (h0 : Pv 0 σ H) (hG : ∀ i σ H, i ≤ n → Pv i σ H → G H)
    (hs : ∀ i x σ H H', i < n → Pv i σ H → Y i H x H' → g x σ H' fun σ2 H2 => tb { D with nx := Pv (i + 1), ct := Pv (i + 1), bk := D.nx } σ2 H2) (hd : ∀ σ H, Pv n σ H → D.nx σ H) : ForW g tb D J σ H :=
  for_it w Pv h0 hG hs hd
def Rg1 (R : It → Hp → Prop) : List V → Hp → Prop := fun vs H1 => ∃ j : Int, vs = [.int j] ∧ -(2 ^ 62) ≤ j ∧ j < 2 ^ 62 ∧ R (Itr 0 j.toNat) H1
def Rg2 (R : It → Hp → Prop) : List V → Hp → Prop := fun vs H1 => ∃ i j : Int, vs = [.int i, .int j] ∧ (-(2 ^ 62) ≤ i ∧ i < 2 ^ 62 ∧ -(2 ^ 62) ≤ j ∧ j < 2 ^ 62) ∧ R (Itr i (j - i).toNat) H1
def RiL (K : PySem.W.Frag) (R : It → Hp → Prop) : VK := fun x H1 => ∃ a, x = .ref a ∧ (∃ xs, SqL K H1 a xs) ∧ R (Itl K a) H1
def RiT (K : PySem.W.Frag) (R : It → Hp → Prop) : VK := fun x H1 => ∃ a, x = .ref a ∧ (∃ xs, SqT K H1 a xs) ∧ R (Itt K a) H1
def RiE (K : PySem.W.Frag) (R : It → Hp → Prop) : List V → Hp → Prop := fun vs H1 => ∃ a xs, vs = [.ref a] ∧ SqL K H1 a xs ∧ R (Ite K a) H1
def RiZ (K : PySem.W.Frag) (R : It → Hp → Prop) : List V → Hp → Prop := fun vs H1 => ∃ a b xs ys, vs = [.ref a, .ref b] ∧ SqL K H1 a xs ∧ SqL K H1 b ys ∧ R (Itz K a b) H1
theorem x_rng1 {ts : TA} {R : It → Hp → Prop} (h : ts σ H (Rg1 R)) : iRng1 ts σ H R := h
theorem x_rng2 {ts : TA} {R : It → Hp → Prop} (h : ts σ H (Rg2 R)) : iRng2 ts σ H R := h
theorem x_rgN {m : Nat} {R : It → Hp → Prop} (hm : (m : Int) < 2 ^ 62) (h : R (Itr 0 m) H) : Rg1 R [V.int (m : Int)] H :=
  ⟨m, rfl, by omega, hm, by rw [Int.toNat_natCast]; exact h⟩
theorem walk_rgN {n : Nat} : Walk (Itr 0 n) n (fun _ => True) (YFn fun i => .int i) :=
  ⟨fun _ _ hi _ => hi, fun _ _ => Nat.le_refl _, fun _ _ _ _ _ _ y => ⟨y.1, by rw [y.2]; simp⟩⟩
theorem x_iList {R : It → Hp → Prop} (h : ta σ H (RiL K R)) : iList K ta σ H R := h
theorem x_iTup {R : It → Hp → Prop} (h : ta σ H (RiT K R)) : iTup K ta σ H R := h
theorem x_itL {a : Addr} {xs : List V} {R : It → Hp → Prop} (hS : SqL K H a xs) (h : R (Itl K a) H) : RiL K R (.ref a) H := ⟨a, rfl, ⟨xs, hS⟩, h⟩
theorem x_itT {a : Addr} {xs : List V} {R : It → Hp → Prop} (hS : SqT K H a xs) (h : R (Itt K a) H) : RiT K R (.ref a) H := ⟨a, rfl, ⟨xs, hS⟩, h⟩
theorem x_iEnum {ts : TA} {R : It → Hp → Prop} (h : ts σ H (RiE K R)) : iEnum K ts σ H R := h
theorem x_enL {a : Addr} {xs : List V} {R : It → Hp → Prop} (hS : SqL K H a xs) (h : R (Ite K a) H) : RiE K R [.ref a] H := ⟨a, xs, rfl, hS, h⟩
theorem x_iZip {ts : TA} {R : It → Hp → Prop} (h : ts σ H (RiZ K R)) : iZip K ts σ H R := h
theorem x_ziL {a b : Addr} {xs ys : List V} {R : It → Hp → Prop} (hS : SqL K H a xs) (hS2 : SqL K H b ys) (h : R (Itz K a b) H) : RiZ K R [.ref a, .ref b] H := ⟨a, b, xs, ys, rfl, hS, hS2, h⟩
theorem x_gTup {n : Nat} {gs : TGs} {R : L2.St → Hp → Prop} {a : Addr} {xs : List V} (hT : SqT K H a xs) (hl : xs.length = n) (h : gs xs σ H R) : gTup K n gs (.ref a) σ H R := ⟨a, xs, rfl, hT, hl, h⟩
theorem x_gCons {g : TG} {gs : TGs} {R : L2.St → Hp → Prop} {xs : List V} (h : g v σ H fun σ' H' => gs xs σ' H' R) : gCons g gs (v :: xs) σ H R := ⟨v, xs, rfl, h⟩
theorem x_gNil {R : L2.St → Hp → Prop} (h : R σ H) : gNil [] σ H R := ⟨rfl, h⟩
/-- a while's turn, or its end -/
def WhS (W : Nat → L2.St → Hp → Prop) (m : Nat) (t : TS) (D : Ends) (b : Bool) (σ : L2.St) (H : Hp) : Prop :=
  if b = true then ∃ N : L2.St → Hp → Prop, (∀ σ' H', N σ' H' → ∃ m', m' < m ∧ W m' σ' H') ∧ t { D with nx := N, ct := N, bk := D.nx } σ H else D.nx σ H
def Less (W : Nat → L2.St → Hp → Prop) (m : Nat) (σ' : L2.St) (H' : Hp) : Prop := ∃ m', m' < m ∧ W m' σ' H'
theorem x_while {W : Nat → L2.St → Hp → Prop} {m : Nat} (h0 : W m σ H) (hs : ∀ m σ H, W m σ H → c σ H fun b H1 => WhS W m t D b σ H1) : tWhile c t D σ H :=
  ⟨W, ⟨m, h0⟩, hs⟩
theorem x_whT {W : Nat → L2.St → Hp → Prop} {m : Nat} (h : t { D with nx := Less W m, ct := Less W m, bk := D.nx } σ H) : WhS W m t D true σ H := by
  unfold WhS; rw [if_pos rfl]; exact ⟨_, fun _ _ h => h, h⟩
theorem x_whF {W : Nat → L2.St → Hp → Prop} {m : Nat} (h : D.nx σ H) : WhS W m t D false σ H := by
  unfold WhS; rw [if_neg Bool.false_ne_true]; exact h
theorem x_whD {W : Nat → L2.St → Hp → Prop} {m : Nat} {p : Prop} [Decidable p] (h1 : p → t { D with nx := Less W m, ct := Less W m, bk := D.nx } σ H) (h2 : ¬ p → D.nx σ H) : WhS W m t D (decide p) σ H := by
  by_cases h : p
  · rw [decide_eq_true h]; exact x_whT (h1 h)
  · rw [decide_eq_false h]; exact x_whF (h2 h)
theorem x_aug {i : Nat} {ti : TIp} (e : σ[i]? = some (some x)) (h : te σ H fun y H1 => ti x y H1 fun z H2 => D.nx (σ.set i (some z)) H2) : tAug i te ti D σ H := ⟨x, e, h⟩

/-! methods of lists -/
theorem x_bm {T : String} {r : V → List V → Hp → VK → Prop} {ts : TA} (h : ta σ H fun x H1 => tyV K T x H1 ∧ ts σ H1 fun xs H2 => r x xs H2 Q) : tBM K T r ta ts σ H Q := h
theorem x_bm0 {T : String} {r : V → List V → Hp → VK → Prop} (h : ta σ H fun x H1 => tyV K T x H1 ∧ r x [] H1 Q) : tBM0 K T r ta σ H Q := h
theorem x_tyL {p : Addr} {xs : List V} {R : Prop} (hS : SqL K H p xs) (h : R) : tyV K "list" (.ref p) H ∧ R := ⟨.inl ⟨rfl, xs, hS⟩, h⟩
theorem x_append {l : Addr} {xs : List V} (hl : H l = some (.lst xs)) (hz : xs.length < sizeLine) (h : Q .non (upd H l (.lst (xs ++ [y])))) : rAppend (.ref l) [y] H Q := ⟨l, xs, y, rfl, rfl, hl, hz, h⟩

/-! operators of our own -/
theorem opr_imp {X : Cx} {f : Value → Value → Sem Value} {r r' : R2} (h : OpR X f r) (hi : ∀ x y H Q, r' x y H Q → r x y H Q) : OpR X f r' :=
  fun pins s σ H x y v u Q I rx ry hw => h pins s σ H x y v u Q I rx ry (hi x y H Q hw)
def rShl1 : R2 := fun x y H Q => ∃ k : Nat, x = .int 1 ∧ y = .int (k : Int) ∧ k ≤ 134217727 ∧ Q (.int ((2 ^ k : Nat) : Int)) H
theorem op_shl1 {X : Cx} : OpR X (binaryOp .LShift) rShl1 := opr_imp op_oneShl fun x y H Q ⟨k, h1, h2, h3, q⟩ => ⟨k, h1, h2, h3, by
  have e : ((2 ^ k : Nat) : Int) = 2 ^ k := by simp
  rw [← e]; exact q⟩
theorem x_shl1 {j : Int} {k : Nat} (hj : j = k) (hk : k ≤ 134217727) (h : Q (.int ((2 ^ k : Nat) : Int)) H) : rShl1 (.int 1) (.int j) H Q := ⟨k, rfl, by rw [hj], hk, h⟩
def rShrN : R2 := fun x y H Q => ∃ n k : Nat, x = .int n ∧ y = .int k ∧ Q (.int ((n / 2 ^ k : Nat) : Int)) H
def rShlN : R2 := fun x y H Q => ∃ n k : Nat, x = .int n ∧ y = .int k ∧ n < 2 ^ 64 ∧ k ≤ 1000000 ∧ Q (.int ((n * 2 ^ k : Nat) : Int)) H
def rXorN : R2 := fun x y H Q => ∃ n k : Nat, x = .int n ∧ y = .int k ∧ Q (.int ((n ^^^ k : Nat) : Int)) H
theorem op_shrN' {X : Cx} : OpR X (binaryOp .RShift) rShrN := opr_imp op_shr fun x y H Q ⟨n, k, h1, h2, q⟩ => ⟨n, k, h1, h2, by omega, by
  have e : ((n / 2 ^ k : Nat) : Int) = (n : Int) / 2 ^ (k : Int).toNat := by simp
  show Q (.int ((n : Int) / 2 ^ (k : Int).toNat)) H
  rw [← e]; exact q⟩
theorem op_shlN' {X : Cx} : OpR X (binaryOp .LShift) rShlN := opr_imp op_shl fun x y H Q ⟨n, k, h1, h2, h3, h4, q⟩ => ⟨n, k, h1, h2, ⟨by omega, by omega, by omega⟩, by
  have e : ((n * 2 ^ k : Nat) : Int) = (n : Int) * 2 ^ (k : Int).toNat := by simp
  show Q (.int ((n : Int) * 2 ^ (k : Int).toNat)) H
  rw [← e]; exact q⟩
theorem op_xorN {X : Cx} : OpR X (binaryOp .BitXor) rXorN := opr_imp op_xor fun x y H Q ⟨n, k, h1, h2, q⟩ => ⟨n, k, h1, h2, by
  show Q (.int (Builtin.bitXor n k)) H
  rw [Bits.bitXor_pp (Int.natCast_nonneg _) (Int.natCast_nonneg _)]; exact q⟩
theorem x_shrN {i j : Int} {n k : Nat} (hi : i = n) (hj : j = k) (h : Q (.int ((n / 2 ^ k : Nat) : Int)) H) : rShrN (.int i) (.int j) H Q := ⟨n, k, by rw [hi], by rw [hj], h⟩
theorem x_shlN {i j : Int} {n k : Nat} (hi : i = n) (hj : j = k) (hn : n < 2 ^ 64) (hk : k ≤ 1000000) (h : Q (.int ((n * 2 ^ k : Nat) : Int)) H) : rShlN (.int i) (.int j) H Q := ⟨n, k, by rw [hi], by rw [hj], hn, hk, h⟩
theorem x_xorN {i j : Int} {n k : Nat} (hi : i = n) (hj : j = k) (h : Q (.int ((n ^^^ k : Nat) : Int)) H) : rXorN (.int i) (.int j) H Q := ⟨n, k, by rw [hi], by rw [hj], h⟩
def rBits (Q : VK) : VK := fun x H1 => ∃ i, x = .int i ∧ Q (.int (Builtin.Int.intBits i : Nat)) H1
theorem e_bits : tBits ta σ H Q = ta σ H (rBits Q) := rfl
theorem x_bits {n : Nat} (h : Q (.int ((if n = 0 then 0 else n.log2 + 1 : Nat) : Int)) H) : rBits Q (.int (n : Int)) H := ⟨n, rfl, by
  have e : Builtin.Int.intBits (n : Int) = if n = 0 then 0 else n.log2 + 1 := by unfold Builtin.Int.intBits; simp
  rw [e]; exact h⟩
theorem two_pos {k : Nat} : (0 : Int) < ((2 ^ k : Nat) : Int) := by
  have := Nat.two_pow_pos k
  omega
theorem mod_two_lt {z : Int} {k : Nat} : ∃ r : Nat, r < 2 ^ k ∧ z % ((2 ^ k : Nat) : Int) = r := by
  have h0 := two_pos (k := k)
  have h1 := Int.emod_nonneg z (Int.ne_of_gt h0)
  have h2 := Int.emod_lt_of_pos z h0
  exact ⟨(z % ((2 ^ k : Nat) : Int)).toNat, by omega, by omega⟩
theorem div_two_cast {k : Nat} (z : Int) : z / 2 ^ (k : Int).toNat = z / ((2 ^ k : Nat) : Int) := by simp

/-! the definitional ones as equations, for dsimp -/
section
variable {K : PySem.W.Frag} {σ : L2.St} {H : Hp} {ta tb te tc : TE} {t u : TS} {c c' : TT} {D : Ends} {Q : VK} {x y v : V} {o : Option V}
theorem e_seq : tSeq t u D σ H = t { D with nx := u D } σ H := rfl
theorem e_next : tNext D σ H = D.nx σ H := rfl
theorem e_asg {g : TG} : tAsg te g D σ H = te σ H fun x H1 => g x σ H1 D.nx := rfl
theorem e_name {i : Nat} {R : L2.St → Hp → Prop} : gName i v σ H R = R (σ.set i (some v)) H := rfl
theorem e_ret : tRet te D σ H = te σ H D.rt := rfl
theorem e_retN : tRetN D σ H = D.rt .non H := rfl
theorem e_drop : tDrop te D σ H = te σ H fun _ H1 => D.nx σ H1 := rfl
theorem e_ifS : tIfS c t u D σ H = c σ H fun b H1 => IfS b t u D σ H1 := rfl
theorem e_IT : IfS true t u D σ H = t D σ H := rfl
theorem e_IF : IfS false t u D σ H = u D σ H := rfl
theorem e_INT : IfS (!true) t u D σ H = u D σ H := rfl
theorem e_INF : IfS (!false) t u D σ H = t D σ H := rfl
theorem e_if {tt : TT} : tIf tt ta tb σ H Q = tt σ H fun b H1 => if b = true then ta σ H1 Q else tb σ H1 Q := rfl
theorem e_varS {i : Nat} : tVar (i + 1) (o :: σ) H Q = tVar i σ H Q := rfl
theorem e_c : tC v σ H Q = Q v H := rfl
theorem e_op {r : R2} : tOp r ta tb σ H Q = ta σ H fun x H1 => tb σ H1 fun y H2 => r x y H2 Q := rfl
theorem e_un {r : V → Hp → VK → Prop} : tUn r ta σ H Q = ta σ H fun x H1 => r x H1 Q := rfl
theorem e_cb {r : List V → Hp → VK → Prop} {ts : TA} : tCB r ts σ H Q = ts σ H fun vs H1 => r vs H1 Q := rfl
theorem e_nil {R : List V → Hp → Prop} : tNil σ H R = R [] H := rfl
theorem e_cons {ts : TA} {R : List V → Hp → Prop} : tCons ta ts σ H R = ta σ H fun x H1 => ts σ H1 fun xs H2 => R (x :: xs) H2 := rfl
theorem e_test {R : Bool → Hp → Prop} : tTest te σ H R = te σ H fun x H' => ∃ k, x = .bl k ∧ R k H' := rfl
theorem e_B {R : Bool → Hp → Prop} : tB te σ H R = te σ H fun x H' => ∃ k, x = .bl k ∧ R k H' := rfl
theorem e_and {R : Bool → Hp → Prop} : tAnd c c' σ H R = c σ H fun b H1 => if b = true then c' σ H1 R else R false H1 := rfl
theorem e_or {R : Bool → Hp → Prop} : tOr c c' σ H R = c σ H fun b H1 => if b = true then R true H1 else c' σ H1 R := rfl
theorem e_not {R : Bool → Hp → Prop} : tNot c σ H R = c σ H fun b H1 => R (!b) H1 := rfl
theorem e_andV : tAndV ta tb σ H Q = ta σ H fun x H1 => ∃ c, x = .bl c ∧ if c = true then tb σ H1 Q else Q (.bl false) H1 := rfl
theorem e_orV : tOrV ta tb σ H Q = ta σ H fun x H1 => ∃ c, x = .bl c ∧ if c = true then Q (.bl true) H1 else tb σ H1 Q := rfl
theorem e_notV : tNotV ta σ H Q = ta σ H fun x H1 => ∃ c, x = .bl c ∧ Q (.bl (!c)) H1 := rfl
theorem e_chain {r r' : R2} : tChain r r' ta tb tc σ H Q = ta σ H fun x H1 => tb σ H1 fun y H2 => r x y H2 fun z H3 => ∃ k, z = .bl k ∧ if k = true then tc σ H3 fun w H4 => r' y w H4 Q else Q (.bl false) H3 := rfl
theorem e_for {wi : TI} {g : TG} {tb : TS} : tFor wi g tb D σ H = wi σ H fun J H1 => ForW g tb D J σ H1 := rfl
theorem e_rng1 {ts : TA} {R : It → Hp → Prop} : iRng1 ts σ H R = ts σ H (Rg1 R) := rfl
theorem e_rng2 {ts : TA} {R : It → Hp → Prop} : iRng2 ts σ H R = ts σ H (Rg2 R) := rfl
theorem e_iList {R : It → Hp → Prop} : iList K ta σ H R = ta σ H (RiL K R) := rfl
theorem e_iTup {R : It → Hp → Prop} : iTup K ta σ H R = ta σ H (RiT K R) := rfl
theorem e_iEnum {ts : TA} {R : It → Hp → Prop} : iEnum K ts σ H R = ts σ H (RiE K R) := rfl
theorem e_iZip {ts : TA} {R : It → Hp → Prop} : iZip K ts σ H R = ts σ H (RiZ K R) := rfl
theorem e_bm {T : String} {r : V → List V → Hp → VK → Prop} {ts : TA} : tBM K T r ta ts σ H Q = ta σ H fun x H1 => tyV K T x H1 ∧ ts σ H1 fun xs H2 => r x xs H2 Q := rfl
theorem e_bm0 {T : String} {r : V → List V → Hp → VK → Prop} : tBM0 K T r ta σ H Q = ta σ H fun x H1 => tyV K T x H1 ∧ r x [] H1 Q := rfl
theorem e_tup {ts : TA} : tTup ts σ H Q = ts σ H fun xs H1 => xs.length ≤ sizeLine ∧ ∀ p, H1 p = none → Q (.ref p) (upd H1 p (.tup xs)) := rfl
theorem e_lst {ts : TA} : tLst ts σ H Q = ts σ H fun xs H1 => xs.length ≤ sizeLine ∧ ∀ p, H1 p = none → Q (.ref p) (upd H1 p (.lst xs)) := rfl
theorem e_calld {sp : Sp} {E : XK} {ds : List V} {ts : TA} : tCall sp ds E ts σ H Q = ts σ H fun vs H1 => sp (vs ++ ds) H1 Q E := rfl
theorem e_T {A B : Prop} : (if true = true then A else B) = A := rfl
theorem e_F {A B : Prop} : (if false = true then A else B) = B := rfl
theorem e_NT {A B : Prop} : (if (!true) = true then A else B) = B := rfl
theorem e_NF {A B : Prop} : (if (!false) = true then A else B) = A := rfl
theorem x_v0 (h : Q v H) : tVar 0 (some v :: σ) H Q := ⟨v, rfl, h⟩
end
/-! pairs that an iterator lays -/
def YPairE (xs ys : Nat → Option V) : Nat → Hp → V → Hp → Prop := fun i H v H' => ∃ T x y, v = .ref T ∧ H T = none ∧ Ex H H' ∧ H' T = some (.tup [x, y]) ∧ xs i = some x ∧ ys i = some y
theorem YPair.e {xs ys : Nat → Option V} {i : Nat} {H : Hp} {v : V} {H' : Hp} (h : YPair xs ys i H v H') : YPairE xs ys i H v H' := by
  obtain ⟨T, x, y, h1, h2, rfl, h4, h5⟩ := h
  exact ⟨T, x, y, h1, h2, Ex.new h2, upd_same, h4, h5⟩
theorem walk_enumE {K : PySem.W.Frag} {a : Addr} {xs : List V} : Walk (Ite K a) xs.length (fun H => SqL K H a xs) (YPairE (fun i => some (.int (i : Nat))) (fun i => xs[i]?)) :=
  walk_enum.mono (fun _ h => h) fun _ _ _ _ _ _ y => YPair.e y
theorem walk_zipE {K : PySem.W.Frag} {a b : Addr} {xs ys : List V} {n : Nat} (hn : n = min xs.length ys.length) : Walk (Itz K a b) n (fun H => SqL K H a xs ∧ SqL K H b ys) (YPairE (fun i => xs[i]?) (fun i => ys[i]?)) :=
  (walk_zip hn).mono (fun _ h => h) fun _ _ _ _ _ _ y => YPair.e y

/-! equality of lists of ints -/
abbrev nV (n : Nat) : V := .int (n : Int)
theorem eqv_ints : ∀ (xs ys : List Int), PyData.eqv (.list (xs.map PyData.int)) (.list (ys.map PyData.int)) = decide (xs = ys)
  | [], [] => rfl
  | [], _ :: _ => rfl
  | _ :: _, [] => rfl
  | x :: xs, y :: ys => by
    have ih := eqv_ints xs ys
    have e : PyData.eqv (.list ((x :: xs).map PyData.int)) (.list ((y :: ys).map PyData.int)) = (decide (x = y) && PyData.eqv (.list (xs.map PyData.int)) (.list (ys.map PyData.int))) := by
      show PyData.eqvAll _ _ = _
      rfl
    rw [e, ih]
    by_cases h : x = y <;> by_cases h2 : xs = ys <;> simp [h, h2]
theorem dpAll_ints {K : PySem.W.Frag} {H : Hp} : ∀ xs : List Int, DpAll K H (xs.map V.int) (xs.map PyData.int)
  | [] => .nil
  | x :: xs => .cons (.int x) (dpAll_ints xs)
theorem shaped_ints (xs : List Int) : SeqAt.shaped (.list (xs.map PyData.int)) = true := by
  induction xs with
  | nil => rfl
  | cons x xs ih =>
    exact ih
theorem eqv_bools : ∀ (xs ys : List Bool), PyData.eqv (.list (xs.map PyData.bool)) (.list (ys.map PyData.bool)) = decide (xs = ys)
  | [], [] => rfl
  | [], _ :: _ => rfl
  | _ :: _, [] => rfl
  | x :: xs, y :: ys => by
    have ih := eqv_bools xs ys
    have e : PyData.eqv (.list ((x :: xs).map PyData.bool)) (.list ((y :: ys).map PyData.bool)) = ((x == y) && PyData.eqv (.list (xs.map PyData.bool)) (.list (ys.map PyData.bool))) := by
      show PyData.eqvAll _ _ = _
      rfl
    rw [e, ih]
    by_cases h : x = y <;> by_cases h2 : xs = ys <;> simp [h, h2]
theorem dpAll_bools {K : PySem.W.Frag} {H : Hp} : ∀ xs : List Bool, DpAll K H (xs.map V.bl) (xs.map PyData.bool)
  | [] => .nil
  | x :: xs => .cons (.bl x) (dpAll_bools xs)
theorem shaped_bools (xs : List Bool) : SeqAt.shaped (.list (xs.map PyData.bool)) = true := by
  induction xs with
  | nil => rfl
  | cons x xs ih => exact ih
theorem x_eqLB {K : PySem.W.Frag} {H : Hp} {Q : VK} {a b : Addr} {xs ys : List Bool} (ha : SqL K H a (xs.map V.bl)) (hb : SqL K H b (ys.map V.bl)) (h : Q (.bl (decide (xs = ys))) H) : rEqD K (.ref a) (.ref b) H Q :=
  ⟨_, _, .lst ha (dpAll_bools xs), .lst hb (dpAll_bools ys), shaped_bools xs, shaped_bools ys, by rw [eqv_bools]; exact h⟩
theorem map_nV (xs : List Nat) : xs.map nV = (xs.map fun n : Nat => (n : Int)).map V.int := by rw [List.map_map]; rfl
theorem nat_inj {xs ys : List Nat} : (xs.map fun n : Nat => (n : Int)) = (ys.map fun n : Nat => (n : Int)) ↔ xs = ys :=
  ⟨fun h => List.map_inj_right (f := fun n : Nat => (n : Int)) (fun a b e => Int.ofNat.inj e) |>.mp h, fun h => by rw [h]⟩
section
variable {K : PySem.W.Frag} {H : Hp} {Q : VK}
theorem x_eqLI {a b : Addr} {xs ys : List Int} (ha : SqL K H a (xs.map V.int)) (hb : SqL K H b (ys.map V.int)) (h : Q (.bl (decide (xs = ys))) H) : rEqD K (.ref a) (.ref b) H Q :=
  ⟨_, _, .lst ha (dpAll_ints xs), .lst hb (dpAll_ints ys), shaped_ints xs, shaped_ints ys, by rw [eqv_ints]; exact h⟩
theorem x_neLI {a b : Addr} {xs ys : List Int} (ha : SqL K H a (xs.map V.int)) (hb : SqL K H b (ys.map V.int)) (h : Q (.bl (!decide (xs = ys))) H) : rNeD K (.ref a) (.ref b) H Q :=
  ⟨_, _, .lst ha (dpAll_ints xs), .lst hb (dpAll_ints ys), shaped_ints xs, shaped_ints ys, by rw [eqv_ints]; exact h⟩
theorem x_eqLN {a b : Addr} {xs ys : List Nat} (ha : SqL K H a (xs.map nV)) (hb : SqL K H b (ys.map nV)) (h : Q (.bl (decide (xs = ys))) H) : rEqD K (.ref a) (.ref b) H Q := by
  rw [map_nV] at ha hb
  refine x_eqLI ha hb ?_
  have e : decide ((xs.map fun n : Nat => (n : Int)) = (ys.map fun n : Nat => (n : Int))) = decide (xs = ys) := decide_eq_decide.mpr nat_inj
  rw [e]; exact h
theorem x_neLN {a b : Addr} {xs ys : List Nat} (ha : SqL K H a (xs.map nV)) (hb : SqL K H b (ys.map nV)) (h : Q (.bl (!decide (xs = ys))) H) : rNeD K (.ref a) (.ref b) H Q := by
  rw [map_nV] at ha hb
  refine x_neLI ha hb ?_
  have e : decide ((xs.map fun n : Nat => (n : Int)) = (ys.map fun n : Nat => (n : Int))) = decide (xs = ys) := decide_eq_decide.mpr nat_inj
  rw [e]; exact h
end

/-! comprehensions over a list: one name, one test or none -/
def LcW (g : TG) (tt : TT) (te : TE) (vs : List Nat) (σ : L2.St) (Q : VK) : It → Hp → Prop := fun J H1 => ∀ D, H1 D = none → ∃ W : Nat → Nat → Hp → Prop, (∃ m, W 0 m (upd H1 D (.lst []))) ∧ ∀ i m H, W i m H →
  (J.stop i H ∧ Q (.ref D) H) ∨ (J.go i H ∧ ∃ Nx : Hp → Prop, (∀ H', Nx H' → ∃ m', m' < m ∧ W (i + 1) m' H') ∧ ∀ x H', J.yld i H x H' → g x (wipe σ vs) H' fun σ2 H2 => wipe σ2 vs = wipe σ vs ∧ tt σ2 H2 fun b H3 =>
    if b = true then te σ2 H3 fun y H4 => ∃ acc, H4 D = some (.lst acc) ∧ acc.length < sizeLine ∧ Nx (upd H4 D (.lst (acc ++ [y]))) else Nx H3)
theorem e_lc {wi : TI} {g : TG} {tt : TT} {te : TE} {vs : List Nat} {σ : L2.St} {H : Hp} {Q : VK} : tLc wi g tt te vs σ H Q = wi σ H (LcW g tt te vs σ Q) := rfl
theorem e_wipe0 {σ : L2.St} : wipe σ [] = σ := rfl
theorem e_wipe1 {σ : L2.St} {v : Nat} {vs : List Nat} : wipe σ (v :: vs) = (wipe σ vs).set v none := rfl
theorem e_yes {σ : L2.St} {H : Hp} {R : Bool → Hp → Prop} : tYes σ H R = R true H := rfl
theorem wipe_set1 {σ : L2.St} {i : Nat} {v : Option V} : wipe ((wipe σ [i]).set i v) [i] = wipe σ [i] := by
  show (((σ.set i none).set i v).set i none) = σ.set i none
  rw [List.set_set, List.set_set]
section
variable {K : PySem.W.Frag} {H : Hp} {Q : VK} {σ : L2.St} {tl te : TE} {tt : TT} {k : Nat}
/-- the list stands; test and element are reckoned of each item and change nothing that stood -/
theorem LcW.fm {a : Addr} {xs : List V} (p : V → Bool) (f : V → V) (hS : SqL K H a xs) (hz : xs.length < sizeLine)
    (ht : ∀ x ∈ xs, ∀ H', Ex H H' → ∀ R : Bool → Hp → Prop, (∀ H'', Ex H' H'' → R (p x) H'') → tt ((wipe σ [k]).set k (some x)) H' R)
    (he : ∀ x ∈ xs, p x = true → ∀ H', Ex H H' → ∀ Qe : VK, (∀ H'', Ex H' H'' → Qe (f x) H'') → te ((wipe σ [k]).set k (some x)) H' Qe)
    (hk : ∀ D H', H D = none → Ex H H' → H' D = some (.lst ((xs.filter p).map f)) → Q (.ref D) H') :
    LcW (gName k) tt te [k] σ Q (Itl K a) H := by
  intro D hD
  refine lc_list (K := K) (a := a) (xs := xs) (Qd := fun H' => Q (.ref D) H') (fun i H' => Ex H H' ∧ H' D = some (.lst (((xs.take i).filter p).map f))) ⟨Ex.new hD, by rw [upd_same]; rfl⟩ (fun i H' _ h => h.1.ls hS) ?_ ?_
  · rintro i x H1 hx ⟨ex, h1⟩
    have hm : x ∈ xs := List.mem_of_getElem? hx
    have et : xs.take (i + 1) = xs.take i ++ [x] := by rw [List.take_add_one, hx]; rfl
    refine ⟨wipe_set1, ht x hm H1 ex _ fun H2 ex2 => ?_⟩
    cases hp : p x with
    | true =>
      refine iteT (he x hm hp H2 (ex.trans ex2) _ fun H3 ex3 => ⟨_, ex3 _ _ (ex2 _ _ h1), ?_, ?_, ?_⟩)
      · rw [List.length_map]
        exact Nat.lt_of_le_of_lt (Nat.le_trans (List.length_filter_le _ _) (List.length_take_le' _ _)) hz
      · exact ((ex.trans ex2).trans ex3).mut hD
      · rw [upd_same, et, List.filter_append, List.map_append]
        simp [hp]
    | false =>
      refine iteF ⟨ex.trans ex2, ?_⟩
      rw [et, List.filter_append, List.map_append]
      simp [hp]
      simpa using ex2 _ _ h1
  · rintro H1 ⟨ex, h1⟩
    rw [List.take_length] at h1
    exact hk D H1 hD ex h1
end

theorem lt_ok {xs : List V} (h : decide (xs.length ≤ 1000) = true) : xs.length < sizeLine := Nat.lt_of_le_of_lt (of_decide_eq_true h) (by decide)
theorem len_ok {xs : List V} (h : decide (xs.length ≤ 1000) = true) : xs.length ≤ sizeLine := Nat.le_trans (of_decide_eq_true h) (by decide)
/-! new objects -/
theorem x_new {A : Prop} {R : Addr → Prop} (ha : A) (h : ∀ p, H p = none → R p) : A ∧ ∀ p, H p = none → R p := ⟨ha, h⟩
end
end Nn
local macro_rules | `(tactic| walk_at "wz") => `(tactic| dsimp only [↓Nn.e_next, ↓Nn.e_asg, ↓Nn.e_name, ↓Nn.e_ret, ↓Nn.e_retN, ↓Nn.e_drop, ↓Nn.e_ifS, ↓Nn.e_IT, ↓Nn.e_IF, ↓Nn.e_INT, ↓Nn.e_INF, ↓Nn.e_if, ↓Nn.e_varS, ↓Nn.e_c, ↓Nn.e_op, ↓Nn.e_un, ↓Nn.e_cb, ↓Nn.e_nil, ↓Nn.e_cons, ↓Nn.e_test, ↓Nn.e_B, ↓Nn.e_and, ↓Nn.e_or, ↓Nn.e_not, ↓Nn.e_andV, ↓Nn.e_orV, ↓Nn.e_notV, ↓Nn.e_chain, ↓Nn.e_for, ↓Nn.e_bits, ↓Nn.e_lc, ↓Nn.e_wipe0, ↓Nn.e_wipe1, ↓Nn.e_yes, ↓Nn.e_rng1, ↓Nn.e_rng2, ↓Nn.e_iList, ↓Nn.e_iTup, ↓Nn.e_iEnum, ↓Nn.e_iZip, ↓Nn.e_bm, ↓Nn.e_bm0, ↓Nn.e_tup, ↓Nn.e_lst, ↓Nn.e_calld, ↓Nn.e_T, ↓Nn.e_F, ↓Nn.e_NT, ↓Nn.e_NF, ↓List.set_cons_zero, ↓List.set_cons_succ, ↓List.cons_append, ↓List.nil_append])
local macro_rules | `(tactic| walk_at "wx") => `(tactic| repeat (walk_at "wx1"))
local macro_rules | `(tactic| walk_at "wx1") => `(tactic| (first
  | with_reducible refine Nn.x_v0 ?_
  | with_reducible refine Nn.x_seq ?_
  | walk_at "wz"
  | with_reducible refine Nn.x_bl ?_
  | with_reducible refine Nn.x_i0 ?_
  | ((with_reducible refine Nn.x_i ?_ ?_); (focus (walk_at "wside")))
  | with_reducible refine Nn.x_eqI ?_
  | with_reducible refine Nn.x_neI ?_
  | with_reducible refine Nn.x_whT ?_
  | with_reducible refine Nn.x_whF ?_
  | walk_at "wx2"))
local macro_rules | `(tactic| walk_at "wx2") => `(tactic| (first
  | ((with_reducible refine' Nn.x_ixL ?hS ?hA ?_); (case hS => walk_at "wsq"); (case hA => walk_at "wat"))
  | ((with_reducible refine' Nn.x_ixT ?hS ?hA ?_); (case hS => walk_at "wsqt"); (case hA => walk_at "wat"))
  | ((with_reducible refine' Nn.x_lenL ?hS ?_); (case hS => walk_at "wsq"))
  | ((with_reducible refine' Nn.x_lenT ?hS ?_); (case hS => walk_at "wsqt"))
  | ((with_reducible refine' Nn.x_tyL ?hS ?_); (case hS => walk_at "wsq"))
  | ((with_reducible refine' Nn.x_append ?hS ?hA ?_); (case hS => walk_at "wob"); (case hA => walk_at "wlen"))
  | ((with_reducible refine' Nn.x_gTup ?hS ?hA ?_); (case hS => walk_at "wsqt"); (case hA => rfl))
  | with_reducible refine Nn.x_gCons ?_
  | with_reducible refine Nn.x_gNil ?_
  | ((with_reducible refine' Nn.x_shl1 ?hS ?hA ?_); (case hS => walk_at "wnat"); (case hA => omega))
  | ((with_reducible refine Nn.x_rgN ?_ ?_); (focus (walk_at "wside")))
  | ((with_reducible refine' Nn.x_itL ?hS ?_); (case hS => walk_at "wsq"))
  | ((with_reducible refine' Nn.x_itT ?hS ?_); (case hS => walk_at "wsqt"))
  | ((with_reducible refine' Nn.x_enL ?hS ?_); (case hS => walk_at "wsq"))
  | ((with_reducible refine' Nn.x_ziL ?hS ?hA ?_); (case hS => walk_at "wsq"); (case hA => walk_at "wsq"))
  | ((with_reducible refine' Nn.x_lenD ?hS ?_); (case hS => walk_at "wob"))
  | ((with_reducible refine' Nn.x_shrN ?hS ?hA ?_); (case hS => walk_at "wnat"); (case hA => walk_at "wnat"))
  | ((with_reducible refine' Nn.x_xorN ?hS ?hA ?_); (case hS => walk_at "wnat"); (case hA => walk_at "wnat"))
  | ((with_reducible refine' Nn.x_shlN ?hS ?hA ?hB ?hC ?_); (case hS => walk_at "wnat"); (case hA => walk_at "wnat"); (case hB => walk_at "wpre"); (case hC => walk_at "wpre"))
  | with_reducible refine Nn.x_bits ?_
  | ((with_reducible refine' Nn.x_eqLN ?hS ?hA ?_); (case hS => walk_at "wsq"); (case hA => walk_at "wsq"))
  | ((with_reducible refine' Nn.x_neLN ?hS ?hA ?_); (case hS => walk_at "wsq"); (case hA => walk_at "wsq"))
  | with_reducible refine Nn.x_u ?_
  | with_reducible refine Nn.x_min2 ?_
  | with_reducible refine Nn.x_max2 ?_
  | with_reducible refine Nn.x_abs ?_
  | with_reducible refine Nn.x_eqB ?_
  | with_reducible refine Nn.x_neB ?_
  | with_reducible refine Nn.x_eqS ?_
  | with_reducible refine Nn.x_neS ?_
  | with_reducible refine Nn.x_intI ?_
  | with_reducible refine Nn.x_intB ?_
  | walk_at "wisi"
  | walk_at "wc"))
local macro_rules | `(tactic| walk_at "wside") => `(tactic| (first
  | with_reducible assumption
  | with_reducible exact Nn.two_pos
  | omega
  | (show (0 : Int) < _; first | omega | decide +kernel)
  | exact Or.inr ⟨by omega, by omega⟩
  | exact Or.inl ⟨by omega, by omega⟩
  | exact ⟨by omega, by decide +kernel⟩
  | exact ⟨by omega, by omega, by omega⟩
  | (show (0 : Int) ≤ _; first | omega | decide +kernel | exact Int.mul_nonneg (by omega) (by omega))))
local macro_rules | `(tactic| walk_at "wob") => `(tactic| (first
  | assumption
  | exact L2.upd_same))
local macro_rules | `(tactic| walk_at "wlen") => `(tactic| (rw [PySem.sizeLine_eq]; simp only [List.length_map, List.length_append, List.length_cons, List.length_nil]; omega))
local macro_rules | `(tactic| walk_at "wsqt") => `(tactic| (first
  | assumption
  | exact L2.SqT.of (by assumption)
  | exact Nn.Ex.tu (by assumption) (by assumption)
  | exact L2.SqT.of L2.upd_same))
local macro_rules | `(tactic| walk_at "wnat") => `(tactic| with_unfolding_all rfl)
local macro_rules | `(tactic| walk_at "wsq") => `(tactic| (first
  | assumption
  | exact L2.SqL.of (by assumption)
  | exact Nn.Ex.ls (by assumption) (by assumption)
  | exact L2.SqL.of L2.upd_same))
local macro_rules | `(tactic| walk_at "wat") => `(tactic| (first
  | assumption
  | with_unfolding_all rfl))
local macro_rules | `(tactic| walk_at "wisi") => `(tactic| ((with_reducible refine Nn.x_isG ?_); (first
  | with_reducible refine Nn.x_isI_int ?_
  | with_reducible refine Nn.x_isI_bool ?_
  | with_reducible refine Nn.x_isI_str ?_
  | with_reducible refine Nn.x_isB_int ?_
  | with_reducible refine Nn.x_isB_bool ?_
  | with_reducible refine Nn.x_isB_str ?_
  | with_reducible refine Nn.x_isS_int ?_
  | with_reducible refine Nn.x_isS_bool ?_
  | with_reducible refine Nn.x_isS_str ?_
  | with_reducible refine Nn.x_isN_int ?_
  | with_reducible refine Nn.x_isN_bool ?_
  | with_reducible refine Nn.x_isN_str ?_
  | ((with_reducible refine' Nn.x_isL_int ?hS ?_); (case hS => walk_at "wob"))
  | ((with_reducible refine' Nn.x_isL_list ?hS ?_); (case hS => walk_at "wob"))
  | ((with_reducible refine' Nn.x_isL_tuple ?hS ?_); (case hS => walk_at "wob"))
  | ((with_reducible refine' Nn.x_isT_int ?hS ?_); (case hS => walk_at "wob"))
  | ((with_reducible refine' Nn.x_isT_list ?hS ?_); (case hS => walk_at "wob"))
  | ((with_reducible refine' Nn.x_isT_tuple ?hS ?_); (case hS => walk_at "wob"))
  | ((with_reducible refine' Nn.x_isD_int ?hS ?_); (case hS => walk_at "wob"))
  | ((with_reducible refine' Nn.x_isD_list ?hS ?_); (case hS => walk_at "wob"))
  | ((with_reducible refine' Nn.x_isD_tuple ?hS ?_); (case hS => walk_at "wob")))))
local macro_rules | `(tactic| walk_at "wpre") => `(tactic| (first
  | with_reducible assumption
  | omega
  | refine ⟨?_, ?_⟩ <;> walk_at "wpre"))
namespace Nn
open PySem L2
/-! the bits -/
theorem xor_div_pow (a b k : Nat) : (a ^^^ b) / 2 ^ k = (a / 2 ^ k) ^^^ (b / 2 ^ k) := by
  rw [← Nat.shiftRight_eq_div_pow, ← Nat.shiftRight_eq_div_pow, ← Nat.shiftRight_eq_div_pow, Nat.shiftRight_xor_distrib]
theorem xor_mod_two (a b : Nat) : (a ^^^ b) % 2 = if a % 2 ≠ b % 2 then 1 else 0 := by
  have h := @Nat.xor_mod_two_eq_one a b
  rcases Nat.mod_two_eq_zero_or_one (a ^^^ b) with e | e
  · rw [e]
    split
    · rename_i q
      exact absurd (h.mpr (by omega)) (by omega)
    · rfl
  · rw [e]
    split
    · rfl
    · rename_i q
      exact absurd (h.mp e) (by omega)
theorem mod_pow_succ (x k : Nat) : x % 2 ^ (k + 1) = x % 2 ^ k + 2 ^ k * (x / 2 ^ k % 2) := Nat.mod_pow_succ
theorem xor_add (a b : Nat) : a ^^^ b ≤ a + b := by
  have h := Bits.nat_xor_add_and a b
  omega
theorem xor_tri (a b c : Nat) : a ^^^ c ≤ (a ^^^ b) + (b ^^^ c) := by
  have e : a ^^^ c = (a ^^^ b) ^^^ (b ^^^ c) := by
    rw [Nat.xor_assoc, ← Nat.xor_assoc b b c, Nat.xor_self, Nat.zero_xor]
  rw [e]; exact xor_add _ _

/-! the step, the span -/
def stepN (a b : Nat) : Nat := (a ^^^ b).log2
def lowN (n k : Nat) : Nat := ((n / 2 ^ k) ^^^ 1) * 2 ^ k
theorem xor_ne_zero {a b : Nat} (h : a ≠ b) : a ^^^ b ≠ 0 := fun e => h (by
  have q : a ^^^ (a ^^^ b) = a ^^^ 0 := by rw [e]
  rw [← Nat.xor_assoc, Nat.xor_self, Nat.zero_xor, Nat.xor_zero] at q
  exact q.symm)
theorem xor_eq_one {x y : Nat} : x ^^^ y = 1 ↔ y = x ^^^ 1 := by
  constructor
  · intro h; rw [← h, ← Nat.xor_assoc, Nat.xor_self, Nat.zero_xor]
  · intro h; rw [h, ← Nat.xor_assoc, Nat.xor_self, Nat.zero_xor]
theorem log2_eq {x k : Nat} (h : x ≠ 0) : x.log2 = k ↔ x / 2 ^ k = 1 := by
  have hp := Nat.two_pow_pos k
  constructor
  · intro e
    have h1 := Nat.log2_self_le h
    have h2 := Nat.lt_log2_self (n := x)
    rw [e] at h1 h2
    rw [Nat.pow_succ] at h2
    exact Nat.div_eq_of_lt_le (by omega) (by omega)
  · intro e
    have h1 : 2 ^ k ≤ x := by
      have := Nat.div_mul_le_self x (2 ^ k)
      rw [e] at this; omega
    have h2 : x < 2 ^ (k + 1) := by
      have := Nat.lt_div_mul_add (a := x) hp
      rw [e] at this
      rw [Nat.pow_succ]; omega
    exact (Nat.log2_eq_iff h).mpr ⟨h1, h2⟩
/-- the step is k just where the rest behind k is the one's with its last sign turned -/
theorem stepN_eq {a b k : Nat} (h : a ≠ b) : stepN a b = k ↔ b / 2 ^ k = (a / 2 ^ k) ^^^ 1 := by
  unfold stepN
  rw [log2_eq (xor_ne_zero h), xor_div_pow, xor_eq_one]
theorem xor_one_ne {x : Nat} : x ^^^ 1 ≠ x := fun e => by
  have q : x ^^^ (x ^^^ 1) = x ^^^ x := by rw [e]
  rw [← Nat.xor_assoc, Nat.xor_self, Nat.zero_xor] at q
  exact absurd q (by decide)
/-- in the span just those -/
theorem in_span {n k b : Nat} : (lowN n k ≤ b ∧ b ≤ lowN n k + 2 ^ k - 1) ↔ b / 2 ^ k = (n / 2 ^ k) ^^^ 1 := by
  have hp := Nat.two_pow_pos k
  unfold lowN
  constructor
  · intro ⟨h1, h2⟩
    exact Nat.div_eq_of_lt_le (by omega) (by rw [Nat.succ_mul]; omega)
  · intro e
    have h1 := Nat.div_mul_le_self b (2 ^ k)
    have h2 := Nat.lt_div_mul_add (a := b) hp
    rw [e] at h1 h2
    omega
theorem in_span_ne {n k b : Nat} (h : b / 2 ^ k = (n / 2 ^ k) ^^^ 1) : n ≠ b := fun e => by
  rw [← e] at h
  exact xor_one_ne h.symm
theorem span_step {n k b : Nat} : (lowN n k ≤ b ∧ b ≤ lowN n k + 2 ^ k - 1) ↔ (n ≠ b ∧ stepN n b = k) := by
  rw [in_span]
  constructor
  · intro h
    exact ⟨in_span_ne h, (stepN_eq (in_span_ne h)).mpr h⟩
  · intro ⟨h, e⟩
    exact (stepN_eq h).mp e
theorem low_lt {n k w : Nat} (hn : n < 2 ^ w) (hk : k < w) : lowN n k + 2 ^ k ≤ 2 ^ w := by
  have e : 2 ^ w = 2 ^ (w - k) * 2 ^ k := by rw [← Nat.pow_add]; congr 1; omega
  have h1 : n / 2 ^ k < 2 ^ (w - k) := Nat.div_lt_of_lt_mul (by rw [Nat.mul_comm, ← e]; exact hn)
  have h2 : (n / 2 ^ k) ^^^ 1 < 2 ^ (w - k) := Nat.xor_lt_two_pow h1 (Nat.one_lt_two_pow (by omega))
  unfold lowN
  rw [e, ← Nat.succ_mul]
  exact Nat.mul_le_mul_right _ h2
theorem stepN_lt {a b w : Nat} (ha : a < 2 ^ w) (hb : b < 2 ^ w) (h : a ≠ b) : stepN a b < w := (Nat.log2_lt (xor_ne_zero h)).mpr (Nat.xor_lt_two_pow ha hb)
theorem bitLen {x : Nat} : Builtin.Int.intBits (x : Int) = if x = 0 then 0 else x.log2 + 1 := by
  unfold Builtin.Int.intBits
  simp
/-- who is outside a span stands alike to all of it -/
theorem aside {g o one c k : Nat} (h1 : one / 2 ^ k = c) (h2 : o / 2 ^ k ≠ c) : g ^^^ o < g ^^^ one ↔ (g / 2 ^ k) ^^^ (o / 2 ^ k) < (g / 2 ^ k) ^^^ c := by
  have e1 := xor_div_pow g o k
  have e2 := xor_div_pow g one k
  rw [h1] at e2
  have ne : (g / 2 ^ k) ^^^ (o / 2 ^ k) ≠ (g / 2 ^ k) ^^^ c := fun e => h2 (by
    have q : (g / 2 ^ k) ^^^ ((g / 2 ^ k) ^^^ (o / 2 ^ k)) = (g / 2 ^ k) ^^^ ((g / 2 ^ k) ^^^ c) := by rw [e]
    rw [← Nat.xor_assoc, ← Nat.xor_assoc, Nat.xor_self, Nat.zero_xor, Nat.zero_xor] at q
    exact q)
  rw [← e1, ← e2] at ne ⊢
  constructor
  · intro h
    have := Nat.div_le_div_right (c := 2 ^ k) (Nat.le_of_lt h)
    omega
  · intro h
    exact Nat.lt_of_div_lt_div h
end Nn
/-! far: the bits' difference -/
namespace Nn
open PySem L2
section
variable {P : Program} {w : World} {K : PySem.W.Frag} {mg : Str → Option Value} {base : Heap} {H : Hp} {Q : VK} {E : XK}
def sp_far (_ : Tx K mg) : Sp := fun vs H Q E => ∃ (a : Nat) (b : Nat), vs = [.int a, .int b] ∧ (Q (.int ((a ^^^ b : Nat) : Int)) H)
theorem wc_far {T : Tx K mg} {a : Nat} {b : Nat} {i0 : Int} {i1 : Int} (e0 : i0 = a) (e1 : i1 = b)  (h : Q (.int ((a ^^^ b : Nat) : Int)) H) : sp_far T [.int i0, .int i1] H Q E := by
  subst e0 e1
  exact ⟨a, b, rfl, h⟩
theorem ok_far (T : Tx K mg) : FnOk P w K mg base CX0 1 T.a_far T.d_far ["one", "other"] (sp_far T) := by
  refine T.F_far.ok sc_far (fun vs H Q E h => ?_) (fun cdv A outer s H vs Q E hr h => ?_)
  · obtain ⟨a, b, rfl, q⟩ := h; rfl
  · obtain ⟨a, b, rfl, q⟩ := h
    refine ⟨_, (pss_one (ps_ret (pe_op op_xor (pv 0) (pv 1)))), ?_⟩
    rw [Nn.st_far]; try rw [Nn.cxK]
    walk_at "wx"
    rw [Bits.bitXor_pp (Int.natCast_nonneg _) (Int.natCast_nonneg _)]
    exact q
end
end Nn
local macro_rules | `(tactic| walk_at "wc") => `(tactic| ((with_reducible refine' Nn.wc_far ?hE0 ?hE1 (?_)); (case hE0 => walk_at "wnat"); (case hE1 => walk_at "wnat")))
/-! the laws' helpers: cells, width, mixed numbers, names -/
namespace Nn
open PySem L2
section
variable {P : Program} {w : World} {K : PySem.W.Frag} {mg : Str → Option Value} {base : Heap} {H : Hp} {Q : VK} {E : XK}
theorem nat_of {z : Int} (h : ∀ r : Nat, Q (.int r) H) (hz : 0 ≤ z) : Q (.int z) H := by
  obtain ⟨r, rfl⟩ := Int.eq_ofNat_of_zero_le hz
  exact h r
theorem atI_map {ns : List Int} {j : Nat} (h : j < ns.length) : atI (ns.map V.int) (j : Int) = some (.int ns[j]) := atI_nat (by simp [h])
theorem atI_nV {ns : List Nat} {j : Nat} (h : j < ns.length) : atI (ns.map nV) (j : Int) = some (nV ns[j]) := atI_nat (by simp [h])
theorem atI_neg1' {ns : List Nat} {j : Nat} (h : j < ns.length) : ∃ z, z ∈ ns ∧ atI (ns.map nV) ((j : Int) - 1) = some (nV z) := by
  unfold atI ixN
  by_cases hj : 0 ≤ (j : Int) - 1
  · rw [if_pos hj, if_pos (by simp; omega)]
    have h2 : ((j : Int) - 1).toNat < ns.length := by omega
    exact ⟨ns[((j : Int) - 1).toNat], List.getElem_mem h2, by
      show (ns.map nV)[_]? = _
      rw [List.getElem?_map, List.getElem?_eq_getElem h2]; rfl⟩
  · rw [if_neg hj, if_pos (by simp; omega)]
    have h2 : ((j : Int) - 1 + ((ns.map nV).length : Int)).toNat < ns.length := by simp; omega
    refine ⟨ns[((j : Int) - 1 + ((ns.map nV).length : Int)).toNat], List.getElem_mem h2, ?_⟩
    show (ns.map nV)[_]? = _
    rw [List.getElem?_map, List.getElem?_eq_getElem h2]; rfl
theorem atI_neg1 {ns : List Nat} {j : Nat} (h : j < ns.length) : ∃ z, atI (ns.map nV) ((j : Int) - 1) = some (nV z) := let ⟨z, _, e⟩ := atI_neg1' h; ⟨z, e⟩
def sp_l_cell_at (_ : Tx K mg) : Sp := fun vs H Q _ => ∃ (a : Addr) (ns : List Int) (k : Nat), vs = [.ref a, .int k] ∧ SqL K H a (ns.map V.int) ∧ ∀ n : Nat, Q (.int n) H
theorem wc_l_cell_at {T : Tx K mg} {a : Addr} {ns : List Int} {i : Int} {k : Nat} (hi : i = k) (hS : SqL K H a (ns.map V.int)) (h : ∀ n : Nat, Q (.int n) H) : sp_l_cell_at T [.ref a, .int i] H Q E := by
  subst hi; exact ⟨a, ns, k, rfl, hS, h⟩
theorem ok_l_cell_at (T : Tx K mg) : FnOk P w K mg base CX0 1 T.a_l_cell_at T.d_l_cell_at ["_law_script", "_law_k"] (sp_l_cell_at T) := by
  refine T.F_l_cell_at.ok sc_l_cell_at (fun vs H Q E h => ?_) (fun cdv A outer s H vs Q E hr h => ?_)
  · obtain ⟨a, ns, k, rfl, _⟩ := h; rfl
  · obtain ⟨a, ns, k, rfl, hS, q⟩ := h
    refine ⟨_, (pss_cons (ps_if (pt_cmpR op_lt (pv 1) (pe_callB cb_len (by rfl) T.z_len PySem.boot_len (pa_cons (pv 0) pa_nil)) (nomark _))
      (pss_one (ps_ret (pe_callB cb_abs (by rfl) T.z_abs (by decide +kernel) (pa_cons (pe_ix ix_list (pv 0) (pv 1) (fun _ _ => rfl)) pa_nil))))
      pss_nil)
      (pss_one (ps_ret pe_int))), ?_⟩
    rw [Nn.st_l_cell_at]; try rw [Nn.cxK]
    walk_at "wx"
    refine x_ifD (fun hk => ?_) (fun hk => ?_)
    · walk_at "wx"
      have hk' : k < ns.length := by simpa using hk
      refine x_ixL hS (atI_map hk') ?_
      walk_at "wx"
      exact q _
    · walk_at "wx"
      exact q 0
def sp_l_wide (_ : Tx K mg) : Sp := fun vs H Q _ => ∃ n : Nat, vs = [.int n] ∧ ∀ (w : Nat) H', 1 ≤ w → w ≤ 60 → Ex H H' → Q (.int w) H'
theorem wc_l_wide {T : Tx K mg} {i : Int} {k : Nat} (hi : i = k) (h : ∀ (w : Nat) H', 1 ≤ w → w ≤ 60 → Ex H H' → Q (.int w) H') : sp_l_wide T [.int i] H Q E := by
  subst hi; exact ⟨k, rfl, h⟩
theorem ok_l_wide (T : Tx K mg) : FnOk P w K mg base CX0 1 T.a_l_wide T.d_l_wide ["_law_cell"] (sp_l_wide T) := by
  refine T.F_l_wide.ok sc_l_wide (fun vs H Q E h => ?_) (fun cdv A outer s H vs Q E hr h => ?_)
  · obtain ⟨n, rfl, _⟩ := h; rfl
  · obtain ⟨n, rfl, q⟩ := h
    refine ⟨_, (pss_one (ps_ret (pe_op op_add pe_int (pe_op op_mod (pe_op op_fdivW (pv 0) pe_int) (pe_ix ix_list (pe_lst (pa_cons pe_int (pa_cons pe_int pa_nil))) (pe_op op_mod (pv 0) pe_int) (fun _ _ => rfl)))))), ?_⟩
    rw [Nn.st_l_wide]; try rw [Nn.cxK]
    walk_at "wx"
    refine ⟨by decide, fun p hp => ?_⟩
    walk_at "wx"
    rcases Int.emod_two_eq (n : Int) with e | e
    · rw [e]
      refine x_ixL (SqL.of upd_same) (by rfl) ?_
      walk_at "wx"
      obtain ⟨r, hr⟩ := Int.eq_ofNat_of_zero_le (Int.emod_nonneg ((n : Int) / 2) (by decide : (60 : Int) ≠ 0))
      have h2 := Int.emod_lt_of_pos ((n : Int) / 2) (by decide : (0 : Int) < 60)
      rw [hr] at h2 ⊢
      exact q (1 + r) _ (by omega) (by omega) (Ex.new hp)
    · rw [e]
      refine x_ixL (SqL.of upd_same) (by rfl) ?_
      walk_at "wx"
      obtain ⟨r, hr⟩ := Int.eq_ofNat_of_zero_le (Int.emod_nonneg ((n : Int) / 2) (by decide : (6 : Int) ≠ 0))
      have h2 := Int.emod_lt_of_pos ((n : Int) / 2) (by decide : (0 : Int) < 6)
      rw [hr] at h2 ⊢
      exact q (1 + r) _ (by omega) (by omega) (Ex.new hp)
def sp_l_mixed (_ : Tx K mg) : Sp := fun vs H Q _ => ∃ n k : Nat, vs = [.int n, .int k] ∧ ∀ r : Nat, Q (.int r) H
theorem wc_l_mixed {T : Tx K mg} {i j : Int} {n k : Nat} (hi : i = n) (hj : j = k) (h : ∀ r : Nat, Q (.int r) H) : sp_l_mixed T [.int i, .int j] H Q E := by
  subst hi hj; exact ⟨n, k, rfl, h⟩
theorem ok_l_mixed (T : Tx K mg) : FnOk P w K mg base CX0 1 T.a_l_mixed T.d_l_mixed ["_law_cell", "_law_k"] (sp_l_mixed T) := by
  refine T.F_l_mixed.ok sc_l_mixed (fun vs H Q E h => ?_) (fun cdv A outer s H vs Q E hr h => ?_)
  · obtain ⟨n, k, rfl, _⟩ := h; rfl
  · obtain ⟨n, k, rfl, q⟩ := h
    refine ⟨_, (pss_cons (ps_set (i := 2) sc_l_mixed.nd rfl (Or.inl rfl) (pe_op op_mod (pe_op op_mul (pe_op op_add (pe_op op_add (pv 0) (pe_op op_mul pe_int (pv 1))) pe_int) pe_int) (pe_op op_sub (pe_op op_pow pe_int pe_int) pe_int)))
      (pss_one (ps_ret (pe_op op_fdivW (pe_op op_mod (pe_op op_mul (pe_op op_add (pe_op op_add (pv 2) (pe_op op_mul pe_int (pv 1))) pe_int) pe_int) (pe_op op_sub (pe_op op_pow pe_int pe_int) pe_int)) pe_int)))), ?_⟩
    rw [Nn.st_l_mixed]; try rw [Nn.cxK]
    walk_at "wx"
    refine nat_of q ?_
    exact Int.ediv_nonneg (Int.emod_nonneg _ (by decide)) (by decide)
def sp_l_names (_ : Tx K mg) : Sp := fun vs H Q _ => ∃ c w m : Nat, vs = [.int c, .int w, .int m] ∧ w ≤ 60 ∧ m ≤ 100 ∧
  ∀ (p : Addr) (H' : Hp) (ns : List Nat), ns.length = m → (∀ x ∈ ns, x < 2 ^ w) → H p = none → Ex H H' → H' p = some (.lst (ns.map nV)) → Q (.ref p) H'
theorem wc_l_names {T : Tx K mg} {i j l : Int} {c w m : Nat} (hi : i = c) (hj : j = w) (hl : l = m) (hw : w ≤ 60) (hm : m ≤ 100)
    (h : ∀ (p : Addr) (H' : Hp) (ns : List Nat), ns.length = m → (∀ x ∈ ns, x < 2 ^ w) → H p = none → Ex H H' → H' p = some (.lst (ns.map nV)) → Q (.ref p) H') : sp_l_names T [.int i, .int j, .int l] H Q E := by
  subst hi hj hl; exact ⟨c, w, m, rfl, hw, hm, h⟩
theorem ok_l_names (T : Tx K mg) : FnOk P w K mg base CX0 2 T.a_l_names T.d_l_names ["_law_cell", "_law_wide_here", "_law_many"] (sp_l_names T) := by
  refine T.F_l_names.ok sc_l_names (fun vs H Q E h => ?_) (fun cdv A outer s H vs Q E hr h => ?_)
  · obtain ⟨c, w, m, rfl, _⟩ := h; rfl
  · obtain ⟨c, w, m, rfl, hw, hm, q⟩ := h
    refine ⟨_, (pss_cons (ps_set (i := 3) sc_l_names.nd rfl (Or.inl rfl) (pe_lst pa_nil))
      (pss_cons (ps_if (pt_cmpR op_eq (pe_op op_mod (pv 0) pe_int) pe_int (nomark _))
      (pss_cons (ps_for PassesOwn.never rfl (pi_range1 rfl T.z_range (pa_cons (pv 2) pa_nil)) (pg_name (i := 4) sc_l_names.nd rfl (Or.inl rfl))
      (pss_one (ps_expr (pe_bm PySem.F.plainAttrs_list PySem.F.slot_list_append PySem.F.type_list_append mt_append (pv 3) (pa_cons (pe_op op_mod (pe_op op_shr (pe_op op_fdivW (pv 0) pe_int) (pe_op op_mul (pv 1) (pv 4))) (pe_op op_shl1 pe_int (pv 1))) pa_nil)))))
      (pss_one (ps_ret (pv 3))))
      pss_nil)
      (pss_cons (ps_set (i := 5) sc_l_names.nd rfl (Or.inl rfl) (pe_op op_mod (pe_op op_mul (pe_call (ok_l_mixed T) hr rfl T.m_l_mixed T.F_l_mixed.kp T.b_l_mixed .nil pass0 (pa_cons (pe_op op_mod (pe_op op_fdivW (pv 0) pe_int) (pe_op op_pow pe_int pe_int)) (pa_cons pe_int pa_nil))) pe_int) (pe_op op_shl1 pe_int (pv 1))))
      (pss_cons (ps_for PassesOwn.never rfl (pi_range1 rfl T.z_range (pa_cons (pv 2) pa_nil)) (pg_name (i := 4) sc_l_names.nd rfl (Or.inl rfl))
      (pss_cons (ps_set (i := 6) sc_l_names.nd rfl (Or.inl rfl) (pe_call (ok_l_mixed T) hr rfl T.m_l_mixed T.F_l_mixed.kp T.b_l_mixed .nil pass0 (pa_cons (pe_op op_mod (pe_op op_fdivW (pv 0) pe_int) (pe_op op_pow pe_int pe_int)) (pa_cons (pe_op op_add (pv 4) pe_int) pa_nil))))
      (pss_one (ps_expr (pe_bm PySem.F.plainAttrs_list PySem.F.slot_list_append PySem.F.type_list_append mt_append (pv 3) (pa_cons (pe_op op_xor (pv 5) (pe_op op_mod (pe_op op_fdivW (pv 6) pe_int) (pe_op op_shl1 pe_int (pe_callB (cb_min2 rfl) (by rfl) T.z_min (by decide +kernel) (pa_cons (pv 1) (pa_cons (pe_op op_add pe_int (pe_op op_mod (pv 6) pe_int)) pa_nil)))))) pa_nil))))))
      (pss_one (ps_ret (pv 3))))))), ?_⟩
    rw [Nn.st_l_names]; try rw [Nn.cxK]
    walk_at "wx"
    refine ⟨by decide, fun p hp => ?_⟩
    walk_at "wx"
    refine x_ifD (fun hk => ?_) (fun hk => ?_)
    · walk_at "wx"
      refine ForW.by walk_rgN (fun i σ H' => ∃ (v : Option V) (ns : List Nat), σ = [some (.int c), some (.int w), some (.int m), some (.ref p), v, none, none] ∧ ns.length = i ∧ (∀ x ∈ ns, x < 2 ^ w) ∧ Ex H H' ∧ H' p = some (.lst (ns.map nV)))
        ⟨none, [], rfl, rfl, by simp, Ex.new hp, upd_same⟩ (fun _ _ _ _ _ => trivial) ?_ ?_
      · rintro i _ σ H1 _ hi ⟨v, ns, rfl, hn, hb, ex, hp1⟩ ⟨rfl, rfl⟩
        walk_at "wx"
        obtain ⟨r, hr, e⟩ := mod_two_lt (z := (c : Int) / 2 / 2 ^ (w * i : Int).toNat) (k := w)
        rw [e]
        refine ⟨_, ns ++ [r], rfl, by simp [hn], ?_, ex.mut hp, by rw [upd_same, List.map_append]; rfl⟩
        intro x hx
        rcases List.mem_append.mp hx with h | h
        · exact hb x h
        · rw [List.mem_singleton.mp h]; exact hr
      · rintro σ H1 ⟨v, ns, rfl, hn, hb, ex, hp1⟩
        walk_at "wx"
        exact q p H1 ns hn hb hp ex hp1
    · walk_at "wx"
      refine wc_l_mixed (n := c / 2 % 10 ^ 60) (by simp) (by rfl) fun b => ?_
      walk_at "wx"
      obtain ⟨b0, hb0, e0⟩ := mod_two_lt (z := (b * 16807 : Int)) (k := w)
      rw [e0]
      refine ForW.by walk_rgN (fun i σ H' => ∃ (v v' : Option V) (ns : List Nat), σ = [some (.int c), some (.int w), some (.int m), some (.ref p), v, some (.int b0), v'] ∧ ns.length = i ∧ (∀ x ∈ ns, x < 2 ^ w) ∧ Ex H H' ∧ H' p = some (.lst (ns.map nV)))
        ⟨none, none, [], rfl, rfl, by simp, Ex.new hp, upd_same⟩ (fun _ _ _ _ _ => trivial) ?_ ?_
      · rintro i _ σ H1 _ hi ⟨v, v', ns, rfl, hn, hb, ex, hp1⟩ ⟨rfl, rfl⟩
        walk_at "wx"
        refine wc_l_mixed (n := c / 2 % 10 ^ 60) (k := i + 1) (by simp) (by simp) fun d => ?_
        walk_at "wx"
        obtain ⟨mm, hmm, em⟩ : ∃ mm : Nat, mm ≤ w ∧ min (w : Int) (1 + (d : Int) % 6) = mm := ⟨(min (w : Int) (1 + (d : Int) % 6)).toNat, by omega, by omega⟩
        rw [em]
        walk_at "wx"
        obtain ⟨r, hr, e⟩ := mod_two_lt (z := (d : Int) / 64) (k := mm)
        rw [e]
        walk_at "wx"
        rw [Bits.bitXor_pp (Int.natCast_nonneg _) (Int.natCast_nonneg _)]
        refine ⟨_, _, ns ++ [b0 ^^^ r], rfl, by simp [hn], ?_, ex.mut hp, by rw [upd_same, List.map_append]; rfl⟩
        intro x hx
        rcases List.mem_append.mp hx with h | h
        · exact hb x h
        · rw [List.mem_singleton.mp h]
          exact Nat.xor_lt_two_pow hb0 (Nat.lt_of_lt_of_le hr (Nat.pow_le_pow_right (by decide) hmm))
      · rintro σ H1 ⟨v, v', ns, rfl, hn, hb, ex, hp1⟩
        walk_at "wx"
        exact q p H1 ns hn hb hp ex hp1
end
end Nn
local macro_rules | `(tactic| walk_at "wc") => `(tactic| ((with_reducible refine' Nn.wc_l_mixed ?hS ?hA (fun _ => ?_)); (case hS => walk_at "wnat"); (case hA => walk_at "wnat")))
local macro_rules | `(tactic| walk_at "wc") => `(tactic| ((with_reducible refine' Nn.wc_l_cell_at ?hS ?hA (fun _ => ?_)); (case hS => walk_at "wnat"); (case hA => walk_at "wsq")))
/-! nearer, step, span -/
namespace Nn
open PySem L2
section
variable {P : Program} {w : World} {K : PySem.W.Frag} {mg : Str → Option Value} {base : Heap} {H : Hp} {Q : VK} {E : XK}
def sp_nearer (_ : Tx K mg) : Sp := fun vs H Q E => ∃ (g : Nat) (a : Nat) (b : Nat), vs = [.int g, .int a, .int b] ∧ (Q (.bl (decide (g ^^^ a < g ^^^ b))) H)
theorem wc_nearer {T : Tx K mg} {g : Nat} {a : Nat} {b : Nat} {i0 : Int} {i1 : Int} {i2 : Int} (e0 : i0 = g) (e1 : i1 = a) (e2 : i2 = b)  (h : Q (.bl (decide (g ^^^ a < g ^^^ b))) H) : sp_nearer T [.int i0, .int i1, .int i2] H Q E := by
  subst e0 e1 e2
  exact ⟨g, a, b, rfl, h⟩
theorem ok_nearer (T : Tx K mg) : FnOk P w K mg base CX0 2 T.a_nearer T.d_nearer ["goal", "one", "other"] (sp_nearer T) := by
  refine T.F_nearer.ok sc_nearer (fun vs H Q E h => ?_) (fun cdv A outer s H vs Q E hr h => ?_)
  · obtain ⟨g, a, b, rfl, q⟩ := h; rfl
  · obtain ⟨g, a, b, rfl, q⟩ := h
    refine ⟨_, (pss_one (ps_ret (pe_cmpR op_lt (pe_call (ok_far T) hr rfl T.m_far T.F_far.kp T.b_far .nil pass0 (pa_cons (pv 0) (pa_cons (pv 1) pa_nil))) (pe_call (ok_far T) hr rfl T.m_far T.F_far.kp T.b_far .nil pass0 (pa_cons (pv 0) (pa_cons (pv 2) pa_nil))) (nomark _)))), ?_⟩
    rw [Nn.st_nearer]; try rw [Nn.cxK]
    walk_at "wx"
    have e : decide (((g ^^^ a : Nat) : Int) < ((g ^^^ b : Nat) : Int)) = decide (g ^^^ a < g ^^^ b) := by simp
    rw [e]; exact q
end
end Nn
local macro_rules | `(tactic| walk_at "wc") => `(tactic| ((with_reducible refine' Nn.wc_nearer ?hE0 ?hE1 ?hE2 (?_)); (case hE0 => walk_at "wnat"); (case hE1 => walk_at "wnat"); (case hE2 => walk_at "wnat")))
namespace Nn
open PySem L2
section
variable {P : Program} {w : World} {K : PySem.W.Frag} {mg : Str → Option Value} {base : Heap} {H : Hp} {Q : VK} {E : XK}
def sp_step (_ : Tx K mg) : Sp := fun vs H Q E => ∃ (a : Nat) (b : Nat), vs = [.int a, .int b] ∧ (a ≠ b) ∧ (Q (.int ((stepN a b : Nat) : Int)) H)
theorem wc_step {T : Tx K mg} {a : Nat} {b : Nat} {i0 : Int} {i1 : Int} (e0 : i0 = a) (e1 : i1 = b) (c0 : a ≠ b) (h : Q (.int ((stepN a b : Nat) : Int)) H) : sp_step T [.int i0, .int i1] H Q E := by
  subst e0 e1
  exact ⟨a, b, rfl, c0, h⟩
theorem ok_step (T : Tx K mg) : FnOk P w K mg base CX0 2 T.a_step T.d_step ["one", "other"] (sp_step T) := by
  refine T.F_step.ok sc_step (fun vs H Q E h => ?_) (fun cdv A outer s H vs Q E hr h => ?_)
  · obtain ⟨a, b, rfl, hpre, q⟩ := h; rfl
  · obtain ⟨a, b, rfl, hpre, q⟩ := h
    refine ⟨_, (pss_one (ps_ret (pe_op op_sub (pe_bits (pe_call (ok_far T) hr rfl T.m_far T.F_far.kp T.b_far .nil pass0 (pa_cons (pv 0) (pa_cons (pv 1) pa_nil)))) pe_int))), ?_⟩
    rw [Nn.st_step]; try rw [Nn.cxK]
    walk_at "wx"
    have e : (((if a ^^^ b = 0 then 0 else (a ^^^ b).log2 + 1 : Nat) : Nat) : Int) - 1 = ((stepN a b : Nat) : Int) := by
      rw [if_neg (xor_ne_zero hpre)]
      unfold stepN; omega
    rw [e]; exact q
def sp_span (_ : Tx K mg) : Sp := fun vs H Q E => ∃ (n : Nat) (k : Nat), vs = [.int n, .int k] ∧ (n < 2 ^ 60 ∧ k ≤ 60) ∧ (∀ p H', H p = none → Ex H H' → H' p = some (.tup [nV (lowN n k), nV (lowN n k + 2 ^ k - 1)]) → Q (.ref p) H')
theorem wc_span {T : Tx K mg} {n : Nat} {k : Nat} {i0 : Int} {i1 : Int} (e0 : i0 = n) (e1 : i1 = k) (c0 : n < 2 ^ 60 ∧ k ≤ 60) (h : ∀ p H', H p = none → Ex H H' → H' p = some (.tup [nV (lowN n k), nV (lowN n k + 2 ^ k - 1)]) → Q (.ref p) H') : sp_span T [.int i0, .int i1] H Q E := by
  subst e0 e1
  exact ⟨n, k, rfl, c0, h⟩
theorem ok_span (T : Tx K mg) : FnOk P w K mg base CX0 1 T.a_span T.d_span ["name", "k"] (sp_span T) := by
  refine T.F_span.ok sc_span (fun vs H Q E h => ?_) (fun cdv A outer s H vs Q E hr h => ?_)
  · obtain ⟨n, k, rfl, hpre, q⟩ := h; rfl
  · obtain ⟨n, k, rfl, hpre, q⟩ := h
    refine ⟨_, (pss_cons (ps_set (i := 2) sc_span.nd rfl (Or.inl rfl) (pe_op op_shlN' (pe_op op_xorN (pe_op op_shrN' (pv 0) (pv 1)) pe_int) (pv 1)))
      (pss_one (ps_ret (pe_tup (pa_cons (pv 2) (pa_cons (pe_op op_sub (pe_op op_add (pv 2) (pe_op op_shl1 pe_int (pv 1))) pe_int) pa_nil)))))), ?_⟩
    rw [Nn.st_span]; try rw [Nn.cxK]
    walk_at "wx"
    have h1 : n / 2 ^ k ^^^ 1 < 2 ^ 64 := Nat.xor_lt_two_pow (Nat.lt_of_le_of_lt (Nat.div_le_self _ _) (by omega)) (by decide)
    refine x_shlN rfl rfl h1 (by omega) ?_
    walk_at "wx"
    refine ⟨len_ok rfl, fun p hp => ?_⟩
    refine q p _ hp (Ex.new hp) ?_
    rw [upd_same]
    have hp := Nat.two_pow_pos k
    have e : ((lowN n k : Nat) : Int) + ((2 ^ k : Nat) : Int) - 1 = ((lowN n k + 2 ^ k - 1 : Nat) : Int) := by omega
    show some (HO.tup [nV (lowN n k), .int (((lowN n k : Nat) : Int) + ((2 ^ k : Nat) : Int) - 1)]) = _
    rw [e]
end
end Nn
local macro_rules | `(tactic| walk_at "wc") => `(tactic| ((with_reducible refine' Nn.wc_step ?hE0 ?hE1 ?hC0 (?_)); (case hE0 => walk_at "wnat"); (case hE1 => walk_at "wnat"); (case hC0 => walk_at "wpre")))
namespace Nn
open PySem L2
def lastD (x : Nat) : Nat → Option Nat
  | 0 => none
  | i + 1 => if x / 2 ^ i % 2 = 1 then some i else lastD x i
theorem lastD_eq (x : Nat) : ∀ i, lastD x i = if x % 2 ^ i = 0 then none else some (x % 2 ^ i).log2
  | 0 => by simp [lastD, Nat.mod_one]
  | i + 1 => by
    have hp := Nat.two_pow_pos i
    have h1 := mod_pow_succ x i
    have h2 : x % 2 ^ i < 2 ^ i := Nat.mod_lt _ hp
    unfold lastD
    by_cases h : x / 2 ^ i % 2 = 1
    · rw [if_pos h]
      rw [h] at h1
      have hne : x % 2 ^ (i + 1) ≠ 0 := by omega
      rw [if_neg hne]
      congr 1
      refine ((log2_eq hne).mpr ?_).symm
      rw [h1]
      exact Nat.div_eq_of_lt_le (by omega) (by omega)
    · rw [if_neg h, lastD_eq x i]
      have h0 : x / 2 ^ i % 2 = 0 := by omega
      rw [h0] at h1
      have e : x % 2 ^ (i + 1) = x % 2 ^ i := by omega
      rw [e]
theorem lastD_step {a b w : Nat} (ha : a < 2 ^ w) (hb : b < 2 ^ w) : lastD (a ^^^ b) w = if a = b then none else some (stepN a b) := by
  rw [lastD_eq, Nat.mod_eq_of_lt (Nat.xor_lt_two_pow ha hb)]
  by_cases h : a = b
  · rw [if_pos h, h, Nat.xor_self, if_pos rfl]
  · rw [if_neg h, if_neg (xor_ne_zero h)]; rfl
theorem bit_ne (a b i : Nat) : (a : Int) / 2 ^ (i : Int).toNat % 2 = (b : Int) / 2 ^ (i : Int).toNat % 2 ↔ ¬ (a ^^^ b) / 2 ^ i % 2 = 1 := by
  have h1 : (a : Int) / 2 ^ (i : Int).toNat % 2 = ((a / 2 ^ i % 2 : Nat) : Int) := by simp
  have h2 : (b : Int) / 2 ^ (i : Int).toNat % 2 = ((b / 2 ^ i % 2 : Nat) : Int) := by simp
  rw [h1, h2, xor_div_pow, xor_mod_two]
  constructor
  · intro h
    have h : a / 2 ^ i % 2 = b / 2 ^ i % 2 := by omega
    rw [if_neg (by omega)]; omega
  · intro h
    by_cases e : a / 2 ^ i % 2 = b / 2 ^ i % 2
    · rw [e]
    · exact absurd (if_pos e) h
def oV : Option Nat → V
  | none => .non
  | some n => nV n
section
variable {P : Program} {w : World} {K : PySem.W.Frag} {mg : Str → Option Value} {base : Heap} {H : Hp} {Q : VK} {E : XK}
def sp_l_step (_ : Tx K mg) : Sp := fun vs H Q E => ∃ (a : Nat) (b : Nat) (w : Nat), vs = [.int a, .int b, .int w] ∧ (a < 2 ^ w ∧ b < 2 ^ w ∧ w ≤ 60) ∧ (Q (oV (if a = b then none else some (stepN a b))) H)
theorem wc_l_step {T : Tx K mg} {a : Nat} {b : Nat} {w : Nat} {i0 : Int} {i1 : Int} {i2 : Int} (e0 : i0 = a) (e1 : i1 = b) (e2 : i2 = w) (c0 : a < 2 ^ w ∧ b < 2 ^ w ∧ w ≤ 60) (h : Q (oV (if a = b then none else some (stepN a b))) H) : sp_l_step T [.int i0, .int i1, .int i2] H Q E := by
  subst e0 e1 e2
  exact ⟨a, b, w, rfl, c0, h⟩
theorem ok_l_step (T : Tx K mg) : FnOk P w K mg base CX0 1 T.a_l_step T.d_l_step ["_law_one", "_law_other", "_law_wide_here"] (sp_l_step T) := by
  refine T.F_l_step.ok sc_l_step (fun vs H Q E h => ?_) (fun cdv A outer s H vs Q E hr h => ?_)
  · obtain ⟨a, b, w, rfl, hpre, q⟩ := h; rfl
  · obtain ⟨a, b, w, rfl, hpre, q⟩ := h
    refine ⟨_, (pss_cons (ps_set (i := 3) sc_l_step.nd rfl (Or.inl rfl) pe_non)
      (pss_cons (ps_for PassesOwn.never rfl (pi_range1 rfl T.z_range (pa_cons (pv 2) pa_nil)) (pg_name (i := 4) sc_l_step.nd rfl (Or.inl rfl))
      (pss_one (ps_if (pt_cmpR op_ne (pe_op op_mod (pe_op op_shr (pv 0) (pv 4)) pe_int) (pe_op op_mod (pe_op op_shr (pv 1) (pv 4)) pe_int) (nomark _))
      (pss_one (ps_set (i := 3) sc_l_step.nd rfl (Or.inl rfl) (pv 4)))
      pss_nil)))
      (pss_one (ps_ret (pv 3))))), ?_⟩
    rw [Nn.st_l_step]; try rw [Nn.cxK]
    walk_at "wx"
    refine ForW.by walk_rgN (fun i σ H' => ∃ v, σ = [some (.int a), some (.int b), some (.int w), some (oV (lastD (a ^^^ b) i)), v] ∧ H' = H) ⟨none, rfl, rfl⟩ (fun _ _ _ _ _ => trivial) ?_ ?_
    · rintro i _ σ H1 _ hi ⟨v, rfl, rfl⟩ ⟨rfl, rfl⟩
      walk_at "wx"
      refine x_ifN (fun h => ?_) (fun h => ?_)
      · walk_at "wx"
        rw [bit_ne] at h
        have e : lastD (a ^^^ b) (i + 1) = some i := if_pos (Decidable.not_not.mp h)
        refine ⟨some (.int i), ?_, rfl⟩
        rw [e]; rfl
      · walk_at "wx"
        rw [bit_ne] at h
        have e : lastD (a ^^^ b) (i + 1) = lastD (a ^^^ b) i := if_neg h
        refine ⟨some (.int i), ?_, rfl⟩
        rw [e]
    · rintro σ H1 ⟨v, rfl, rfl⟩
      walk_at "wx"
      rw [lastD_step hpre.1 hpre.2.1]
      exact q
def sp_l_whole (_ : Tx K mg) : Sp := fun vs H Q E => ∃ (a : Nat), vs = [.int a] ∧ (Q (.bl true) H)
theorem wc_l_whole {T : Tx K mg} {a : Nat} {i0 : Int} (e0 : i0 = a)  (h : Q (.bl true) H) : sp_l_whole T [.int i0] H Q E := by
  subst e0
  exact ⟨a, rfl, h⟩
theorem ok_l_whole (T : Tx K mg) : FnOk P w K mg base CX0 1 T.a_l_whole T.d_l_whole ["_law_found"] (sp_l_whole T) := by
  refine T.F_l_whole.ok sc_l_whole (fun vs H Q E h => ?_) (fun cdv A outer s H vs Q E hr h => ?_)
  · obtain ⟨a, rfl, q⟩ := h; rfl
  · obtain ⟨a, rfl, q⟩ := h
    refine ⟨_, (pss_one (ps_ret (pe_and (pe_callB call_isi (by rfl) T.z_isinstance (by decide +kernel) (pa_cons (pv 0) (pa_cons (pe_bltn (v := .ty "int") rfl T.z_int (by decide +kernel) rfl) pa_nil))) (pe_one (pe_not (pe_callB call_isi (by rfl) T.z_isinstance (by decide +kernel) (pa_cons (pv 0) (pa_cons (pe_bltn (v := .ty "bool") rfl T.z_bool (by decide +kernel) rfl) pa_nil)))))))), ?_⟩
    rw [Nn.st_l_whole]; try rw [Nn.cxK]
    walk_at "wx"
    exact q
end
end Nn
local macro_rules | `(tactic| walk_at "wc") => `(tactic| ((with_reducible refine' Nn.wc_l_step ?hE0 ?hE1 ?hE2 ?hC0 (?_)); (case hE0 => walk_at "wnat"); (case hE1 => walk_at "wnat"); (case hE2 => walk_at "wnat"); (case hC0 => walk_at "wpre")))
local macro_rules | `(tactic| walk_at "wc") => `(tactic| ((with_reducible refine' Nn.wc_l_whole ?hE0 (?_)); (case hE0 => walk_at "wnat")))
namespace Nn
open PySem L2
section
variable {P : Program} {w : World} {K : PySem.W.Frag} {mg : Str → Option Value} {base : Heap} {H : Hp} {Q : VK} {E : XK}
def sp_l_span (_ : Tx K mg) : Sp := fun vs H Q E => ∃ (n : Nat) (k : Nat) (w : Nat) (inside : Nat), vs = [.int n, .int k, .int w, .int inside] ∧ (n < 2 ^ w ∧ k < w ∧ w ≤ 60) ∧ (∀ H', Ex H H' → Q (.bl true) H')
theorem wc_l_span {T : Tx K mg} {n : Nat} {k : Nat} {w : Nat} {inside : Nat} {i0 : Int} {i1 : Int} {i2 : Int} {i3 : Int} (e0 : i0 = n) (e1 : i1 = k) (e2 : i2 = w) (e3 : i3 = inside) (c0 : n < 2 ^ w ∧ k < w ∧ w ≤ 60) (h : ∀ H', Ex H H' → Q (.bl true) H') : sp_l_span T [.int i0, .int i1, .int i2, .int i3] H Q E := by
  subst e0 e1 e2 e3
  exact ⟨n, k, w, inside, rfl, c0, h⟩
theorem ok_l_span (T : Tx K mg) : FnOk P w K mg base CX0 3 T.a_l_span T.d_l_span ["_law_name", "_law_k", "_law_wide_here", "_law_inside"] (sp_l_span T) := by
  refine T.F_l_span.ok sc_l_span (fun vs H Q E h => ?_) (fun cdv A outer s H vs Q E hr h => ?_)
  · obtain ⟨n, k, w, inside, rfl, hpre, q⟩ := h; rfl
  · obtain ⟨n, k, w, inside, rfl, hpre, q⟩ := h
    refine ⟨_, (pss_cons (ps_set (i := 4) sc_l_span.nd rfl (Or.inl rfl) (pe_call (ok_span T) (hr.mono (by decide)) rfl T.m_span T.F_span.kp T.b_span .nil pass0 (pa_cons (pv 0) (pa_cons (pv 1) pa_nil))))
      (pss_cons (ps_if (PW.pt (pw_or (pt_not (pt_val (pe_callB call_isi (by rfl) T.z_isinstance (by decide +kernel) (pa_cons (pv 4) (pa_cons (pe_bltn (v := .ty "tuple") rfl T.z_tuple (by decide +kernel) rfl) pa_nil))))) (pw_or (pt_cmpR op_ne (pe_callB cb_len (by rfl) T.z_len PySem.boot_len (pa_cons (pv 4) pa_nil)) pe_int (nomark _)) (pw_or (pt_not (pt_val (pe_call (ok_l_whole T) (hr.mono (by decide)) rfl T.m_l_whole T.F_l_whole.kp T.b_l_whole .nil pass0 (pa_cons (pe_ix ix_tup (pv 4) pe_int (fun _ _ => rfl)) pa_nil)))) (pw_or1 (pt_not (pt_val (pe_call (ok_l_whole T) (hr.mono (by decide)) rfl T.m_l_whole T.F_l_whole.kp T.b_l_whole .nil pass0 (pa_cons (pe_ix ix_tup (pv 4) pe_int (fun _ _ => rfl)) pa_nil)))))))))
      (pss_one (ps_ret pe_bl))
      pss_nil)
      (pss_cons (ps_asg (pv 4) (pg_tup (n := 2) rfl (pgs_cons (pg_name (i := 5) sc_l_span.nd rfl (Or.inl rfl)) (pgs_cons (pg_name (i := 6) sc_l_span.nd rfl (Or.inl rfl)) pgs_nil))))
      (pss_cons (ps_if (PW.pt (pw_or (pt_cmpR op_lt (pv 5) pe_int (nomark _)) (pw_or (pt_cmpR op_ge (pv 6) (pe_op op_shl1 pe_int (pv 2)) (nomark _)) (pw_or1 (pt_cmpR op_ne (pe_op op_add (pe_op op_sub (pv 6) (pv 5)) pe_int) (pe_op op_shl1 pe_int (pv 1)) (nomark _))))))
      (pss_one (ps_ret pe_bl))
      pss_nil)
      (pss_cons (ps_for PassesOwn.never rfl (pi_list (pe_lst (pa_cons (pv 5) (pa_cons (pv 6) (pa_cons (pe_op op_add (pv 5) (pe_op op_mod (pv 3) (pe_op op_shl1 pe_int (pv 1)))) pa_nil))))) (pg_name (i := 7) sc_l_span.nd rfl (Or.inl rfl))
      (pss_one (ps_if (PW.pt (pw_or (pt_cmpR op_ne (pe_call (ok_l_step T) (hr.mono (by decide)) rfl T.m_l_step T.F_l_step.kp T.b_l_step .nil pass0 (pa_cons (pv 0) (pa_cons (pv 7) (pa_cons (pv 2) pa_nil)))) (pv 1) (nomark _)) (pw_or1 (pt_cmpR op_ne (pe_call (ok_step T) hr rfl T.m_step T.F_step.kp T.b_step .nil pass0 (pa_cons (pv 0) (pa_cons (pv 7) pa_nil))) (pv 1) (nomark _)))))
      (pss_one (ps_ret pe_bl))
      pss_nil)))
      (pss_cons (ps_for PassesOwn.never rfl (pi_list (pe_lst (pa_cons (pe_op op_sub (pv 5) pe_int) (pa_cons (pe_op op_add (pv 6) pe_int) pa_nil)))) (pg_name (i := 7) sc_l_span.nd rfl (Or.inl rfl))
      (pss_one (ps_if (PW.pt (pw_and (pt_chain op_le op_lt pe_int (pv 7) (pe_op op_shl1 pe_int (pv 2))) (pw_and1 (pt_cmpR op_eq (pe_call (ok_l_step T) (hr.mono (by decide)) rfl T.m_l_step T.F_l_step.kp T.b_l_step .nil pass0 (pa_cons (pv 0) (pa_cons (pv 7) (pa_cons (pv 2) pa_nil)))) (pv 1) (nomark _)))))
      (pss_one (ps_ret pe_bl))
      pss_nil)))
      (pss_one (ps_ret pe_bl)))))))), ?_⟩
    rw [Nn.st_l_span]; try rw [Nn.cxK]
    walk_at "wx"
    obtain ⟨hn, hk, hw⟩ := hpre
    have hl := low_lt hn hk
    have h2k := Nat.two_pow_pos k
    have hw60 : 2 ^ w ≤ 2 ^ 60 := Nat.pow_le_pow_right (by decide) hw
    refine wc_span rfl rfl ⟨by omega, by omega⟩ fun p H1 hp ex1 hp1 => ?_
    walk_at "wx"
    refine x_iteN (fun h => absurd rfl h) (fun _ => ?_)
    walk_at "wx"
    refine x_ite (fun h => absurd h (by omega)) (fun _ => ?_)
    walk_at "wx"
    refine x_ite (fun h => absurd h (by omega)) (fun _ => ?_)
    walk_at "wx"
    refine x_ifN (fun h => absurd ?_ h) (fun _ => ?_)
    · omega
    walk_at "wx"
    obtain ⟨r, hr, er⟩ := mod_two_lt (z := (inside : Int)) (k := k)
    rw [er]
    refine ⟨len_ok rfl, fun l hl1 => ?_⟩
    walk_at "wx"
    refine ForW.by walk_list (fun i σ H' => ∃ v, σ = [some (nV n), some (nV k), some (nV w), some (nV inside), some (.ref p), some (nV (lowN n k)), some (nV (lowN n k + 2 ^ k - 1)), v] ∧ Ex H1 H' ∧ H' l = some (.lst [nV (lowN n k), nV (lowN n k + 2 ^ k - 1), .int ((lowN n k : Nat) + (r : Nat))])) ⟨none, rfl, Ex.new hl1, upd_same⟩ (fun i σ H' _ ⟨_, _, _, h⟩ => SqL.of h) ?_ ?_
    · rintro i x σ H2 _ hi ⟨v, rfl, ex2, hl2⟩ ⟨rfl, hx⟩
      obtain ⟨b, rfl, hb⟩ : ∃ b : Nat, x = nV b ∧ (lowN n k ≤ b ∧ b ≤ lowN n k + 2 ^ k - 1) := by
        have hm := List.mem_of_getElem? hx
        simp only [List.mem_cons, List.not_mem_nil, or_false] at hm
        rcases hm with rfl | rfl | rfl
        · exact ⟨_, rfl, by omega, by omega⟩
        · exact ⟨_, rfl, by omega, by omega⟩
        · exact ⟨lowN n k + r, rfl, by omega, by omega⟩
      have hs := span_step.mp hb
      walk_at "wx"
      rw [if_neg hs.1, hs.2]
      show rNe (nV k) _ _ _
      walk_at "wx"
      refine x_iteN (fun h => absurd rfl h) (fun _ => ?_)
      walk_at "wx"
      rw [hs.2]
      refine x_ifN (fun h => absurd rfl h) (fun _ => ?_)
      walk_at "wx"
      exact ⟨_, rfl, ex2, hl2⟩
    · rintro σ H2 ⟨v, rfl, ex2, hl2⟩
      walk_at "wx"
      refine ⟨len_ok rfl, fun l' hl3 => ?_⟩
      walk_at "wx"
      refine ForW.by walk_list (fun i σ H' => ∃ v, σ = [some (nV n), some (nV k), some (nV w), some (nV inside), some (.ref p), some (nV (lowN n k)), some (nV (lowN n k + 2 ^ k - 1)), v] ∧ Ex H1 H' ∧ H' l' = some (.lst [.int ((lowN n k : Nat) - 1), .int ((lowN n k + 2 ^ k - 1 : Nat) + 1)])) ⟨v, rfl, ex2.newT hl3, upd_same⟩ (fun i σ H' _ ⟨_, _, _, h⟩ => SqL.of h) ?_ ?_
      · rintro i x σ H2 _ hi ⟨v, rfl, ex2, hl2⟩ ⟨rfl, hx⟩
        obtain ⟨b, rfl, hb⟩ : ∃ b : Int, x = .int b ∧ (b < lowN n k ∨ ((lowN n k + 2 ^ k - 1 : Nat) : Int) < b) := by
          have hm := List.mem_of_getElem? hx
          simp only [List.mem_cons, List.not_mem_nil, or_false] at hm
          rcases hm with rfl | rfl
          · exact ⟨_, rfl, by omega⟩
          · exact ⟨_, rfl, by omega⟩
        walk_at "wx"
        refine x_ite (fun h0 => ?_) (fun h0 => ?_)
        · obtain ⟨b, rfl⟩ := Int.eq_ofNat_of_zero_le h0
          walk_at "wx"
          refine x_ite (fun h1 => ?_) (fun h1 => ?_)
          · have h1 : b < 2 ^ w := by omega
            walk_at "wx"
            have ns : ¬ (n ≠ b ∧ stepN n b = k) := fun h => by
              have := span_step.mpr h
              omega
            by_cases e : n = b
            · rw [if_pos e]
              refine x_eq (y := nV k) rfl ?_
              rw [decide_eq_false (by intro z; cases z)]
              walk_at "wx"
              exact ⟨_, rfl, ex2, hl2⟩
            · rw [if_neg e]
              show rEq (nV (stepN n b)) _ _ _
              walk_at "wx"
              refine x_ifD (fun h => absurd ⟨e, Int.ofNat.inj h⟩ ns) (fun _ => ?_)
              walk_at "wx"
              exact ⟨_, rfl, ex2, hl2⟩
          · walk_at "wx"
            exact ⟨_, rfl, ex2, hl2⟩
        · walk_at "wx"
          exact ⟨_, rfl, ex2, hl2⟩
      · rintro σ H2 ⟨v, rfl, ex2, hl2⟩
        walk_at "wx"
        exact q _ (ex1.trans ex2)
def sp_l_aside (_ : Tx K mg) : Sp := fun vs H Q E => ∃ (g : Nat) (n : Nat) (k : Nat) (o : Nat) (inside : Nat), vs = [.int g, .int n, .int k, .int o, .int inside] ∧ (n < 2 ^ 60 ∧ k ≤ 60) ∧ (∀ H', Ex H H' → Q (.bl true) H')
theorem wc_l_aside {T : Tx K mg} {g : Nat} {n : Nat} {k : Nat} {o : Nat} {inside : Nat} {i0 : Int} {i1 : Int} {i2 : Int} {i3 : Int} {i4 : Int} (e0 : i0 = g) (e1 : i1 = n) (e2 : i2 = k) (e3 : i3 = o) (e4 : i4 = inside) (c0 : n < 2 ^ 60 ∧ k ≤ 60) (h : ∀ H', Ex H H' → Q (.bl true) H') : sp_l_aside T [.int i0, .int i1, .int i2, .int i3, .int i4] H Q E := by
  subst e0 e1 e2 e3 e4
  exact ⟨g, n, k, o, inside, rfl, c0, h⟩
theorem ok_l_aside (T : Tx K mg) : FnOk P w K mg base CX0 3 T.a_l_aside T.d_l_aside ["_law_goal", "_law_name", "_law_k", "_law_other", "_law_inside"] (sp_l_aside T) := by
  refine T.F_l_aside.ok sc_l_aside (fun vs H Q E h => ?_) (fun cdv A outer s H vs Q E hr h => ?_)
  · obtain ⟨g, n, k, o, inside, rfl, hpre, q⟩ := h; rfl
  · obtain ⟨g, n, k, o, inside, rfl, hpre, q⟩ := h
    refine ⟨_, (pss_cons (ps_asg (pe_call (ok_span T) (hr.mono (by decide)) rfl T.m_span T.F_span.kp T.b_span .nil pass0 (pa_cons (pv 1) (pa_cons (pv 2) pa_nil))) (pg_tup (n := 2) rfl (pgs_cons (pg_name (i := 5) sc_l_aside.nd rfl (Or.inl rfl)) (pgs_cons (pg_name (i := 6) sc_l_aside.nd rfl (Or.inl rfl)) pgs_nil))))
      (pss_cons (ps_if (pt_chain op_le op_le (pv 5) (pv 3) (pv 6))
      (pss_one (ps_ret pe_bl))
      pss_nil)
      (pss_cons (ps_setLc (i := 7) (own := [("_law_one", 8)]) (g := (gName 8)) (by rfl) sc_l_aside.nd rfl rfl (sw_true rfl rfl rfl (by decide +kernel)) (pi_list (pe_lst (pa_cons (pv 5) (pa_cons (pv 6) (pa_cons (pe_op op_add (pv 5) (pe_op op_mod (pv 4) (pe_op op_shl1 pe_int (pv 2)))) pa_nil))))) (blkOk_by (N := N_l_aside) (sc := defScope s_l_aside) (own := [("_law_one", 8)]) (by decide +kernel)) (fun _ _ _ _ _ => (pg_name (i := 8) sc_l_aside.nd rfl (Or.inl rfl))) (fun _ _ _ _ _ => pts_nil) (fun _ _ _ _ _ => (pe_call (ok_nearer T) hr rfl T.m_nearer T.F_nearer.kp T.b_nearer .nil pass0 (pa_cons (pv 0) (pa_cons (pv 3) (pa_cons (pv 8) pa_nil))))))
      (pss_one (ps_ret (pe_or (pe_cmpR (op_eqD hr.units) (pv 7) (pe_lst (pa_cons pe_bl (pa_cons pe_bl (pa_cons pe_bl pa_nil)))) (nomark _)) (pe_one (pe_cmpR (op_eqD hr.units) (pv 7) (pe_lst (pa_cons pe_bl (pa_cons pe_bl (pa_cons pe_bl pa_nil)))) (nomark _))))))))), ?_⟩
    rw [Nn.st_l_aside]; try rw [Nn.cxK]
    walk_at "wx"
    obtain ⟨hn, hk⟩ := hpre
    have h2k := Nat.two_pow_pos k
    refine wc_span rfl rfl ⟨hn, hk⟩ fun p H1 hp ex1 hp1 => ?_
    walk_at "wx"
    by_cases hin : lowN n k ≤ o ∧ o ≤ lowN n k + 2 ^ k - 1
    · refine x_ite (fun _ => ?_) (fun h => absurd (by omega) h)
      walk_at "wx"
      refine x_ifD (fun _ => ?_) (fun h => absurd (by omega) h)
      walk_at "wx"
      exact q _ ex1
    · have ho := mt in_span.mpr hin
      refine x_ite (fun h1 => ?_) (fun h1 => ?_)
      · walk_at "wx"
        refine x_ifD (fun h2 => absurd ⟨by omega, by omega⟩ hin) (fun h2 => ?_)
        walk_at "wx"
        obtain ⟨r, hr, er⟩ := mod_two_lt (z := (inside : Int)) (k := k)
        rw [er]
        refine ⟨len_ok rfl, fun l hl1 => ?_⟩
        walk_at "wx"
        have hall : ∀ x ∈ [nV (lowN n k), nV (lowN n k + 2 ^ k - 1), V.int ((lowN n k : Nat) + (r : Nat))], ∃ b : Nat, x = nV b ∧ b / 2 ^ k = (n / 2 ^ k) ^^^ 1 := by
          intro x hm
          simp only [List.mem_cons, List.not_mem_nil, or_false] at hm
          rcases hm with rfl | rfl | rfl
          · exact ⟨_, rfl, in_span.mp ⟨by omega, by omega⟩⟩
          · exact ⟨_, rfl, in_span.mp ⟨by omega, by omega⟩⟩
          · exact ⟨lowN n k + r, rfl, in_span.mp ⟨by omega, by omega⟩⟩
        refine LcW.fm (fun _ => true) (fun _ => .bl (decide ((g / 2 ^ k) ^^^ (o / 2 ^ k) < (g / 2 ^ k) ^^^ ((n / 2 ^ k) ^^^ 1)))) (SqL.of upd_same) (lt_ok rfl) (fun x _ H' _ R h => h H' Ex.refl) ?_ ?_
        · intro x hx _ H' ex' Qe hQ
          obtain ⟨b, rfl, hb⟩ := hall x hx
          walk_at "wx"
          have e : decide (g ^^^ o < g ^^^ b) = decide ((g / 2 ^ k) ^^^ (o / 2 ^ k) < (g / 2 ^ k) ^^^ ((n / 2 ^ k) ^^^ 1)) := decide_eq_decide.mpr (aside hb ho)
          rw [e]
          exact hQ _ Ex.refl
        · intro D H2 hD ex2 hD2
          walk_at "wx"
          generalize decide ((g / 2 ^ k) ^^^ (o / 2 ^ k) < (g / 2 ^ k) ^^^ ((n / 2 ^ k) ^^^ 1)) = t at hD2
          have hD3 : H2 D = some (.lst ([t, t, t].map V.bl)) := hD2
          refine ⟨len_ok rfl, fun p2 hp2 => ?_⟩
          refine x_eqLB (xs := [t, t, t]) (ys := [true, true, true]) (SqL.of ((Ex.new hp2) _ _ hD3)) (SqL.of upd_same) ?_
          have exa := ex1.trans ((Ex.new (o := .lst [nV (lowN n k), nV (lowN n k + 2 ^ k - 1), V.int ((lowN n k : Nat) + (r : Nat))]) hl1).trans ex2)
          walk_at "wx"
          cases t with
          | true =>
            refine x_ite (fun _ => ?_) (fun h => absurd rfl h)
            exact q _ (exa.newT hp2)
          | false =>
            refine x_ite (fun h => absurd h (by decide)) (fun _ => ?_)
            walk_at "wx"
            refine ⟨len_ok rfl, fun p3 hp3 => ?_⟩
            refine x_eqLB (xs := [false, false, false]) (ys := [false, false, false]) (SqL.of ((Ex.new hp3) _ _ ((Ex.new hp2) _ _ hD3))) (SqL.of upd_same) ?_
            rw [decide_eq_true rfl]
            exact q _ ((exa.newT hp2).newT hp3)
      · walk_at "wx"
        obtain ⟨r, hr, er⟩ := mod_two_lt (z := (inside : Int)) (k := k)
        rw [er]
        refine ⟨len_ok rfl, fun l hl1 => ?_⟩
        walk_at "wx"
        have hall : ∀ x ∈ [nV (lowN n k), nV (lowN n k + 2 ^ k - 1), V.int ((lowN n k : Nat) + (r : Nat))], ∃ b : Nat, x = nV b ∧ b / 2 ^ k = (n / 2 ^ k) ^^^ 1 := by
          intro x hm
          simp only [List.mem_cons, List.not_mem_nil, or_false] at hm
          rcases hm with rfl | rfl | rfl
          · exact ⟨_, rfl, in_span.mp ⟨by omega, by omega⟩⟩
          · exact ⟨_, rfl, in_span.mp ⟨by omega, by omega⟩⟩
          · exact ⟨lowN n k + r, rfl, in_span.mp ⟨by omega, by omega⟩⟩
        refine LcW.fm (fun _ => true) (fun _ => .bl (decide ((g / 2 ^ k) ^^^ (o / 2 ^ k) < (g / 2 ^ k) ^^^ ((n / 2 ^ k) ^^^ 1)))) (SqL.of upd_same) (lt_ok rfl) (fun x _ H' _ R h => h H' Ex.refl) ?_ ?_
        · intro x hx _ H' ex' Qe hQ
          obtain ⟨b, rfl, hb⟩ := hall x hx
          walk_at "wx"
          have e : decide (g ^^^ o < g ^^^ b) = decide ((g / 2 ^ k) ^^^ (o / 2 ^ k) < (g / 2 ^ k) ^^^ ((n / 2 ^ k) ^^^ 1)) := decide_eq_decide.mpr (aside hb ho)
          rw [e]
          exact hQ _ Ex.refl
        · intro D H2 hD ex2 hD2
          walk_at "wx"
          generalize decide ((g / 2 ^ k) ^^^ (o / 2 ^ k) < (g / 2 ^ k) ^^^ ((n / 2 ^ k) ^^^ 1)) = t at hD2
          have hD3 : H2 D = some (.lst ([t, t, t].map V.bl)) := hD2
          refine ⟨len_ok rfl, fun p2 hp2 => ?_⟩
          refine x_eqLB (xs := [t, t, t]) (ys := [true, true, true]) (SqL.of ((Ex.new hp2) _ _ hD3)) (SqL.of upd_same) ?_
          have exa := ex1.trans ((Ex.new (o := .lst [nV (lowN n k), nV (lowN n k + 2 ^ k - 1), V.int ((lowN n k : Nat) + (r : Nat))]) hl1).trans ex2)
          walk_at "wx"
          cases t with
          | true =>
            refine x_ite (fun _ => ?_) (fun h => absurd rfl h)
            exact q _ (exa.newT hp2)
          | false =>
            refine x_ite (fun h => absurd h (by decide)) (fun _ => ?_)
            walk_at "wx"
            refine ⟨len_ok rfl, fun p3 hp3 => ?_⟩
            refine x_eqLB (xs := [false, false, false]) (ys := [false, false, false]) (SqL.of ((Ex.new hp3) _ _ ((Ex.new hp2) _ _ hD3))) (SqL.of upd_same) ?_
            rw [decide_eq_true rfl]
            exact q _ ((exa.newT hp2).newT hp3)
end
end Nn
namespace Nn
open PySem L2
section
variable {P : Program} {w : World} {K : PySem.W.Frag} {mg : Str → Option Value} {base : Heap} {H : Hp} {Q : VK} {E : XK}
def spLaw (K : PySem.W.Frag) : Sp := fun vs H Q _ => ∃ (a : Addr) (ns : List Int), vs = [.ref a] ∧ SqL K H a (ns.map V.int) ∧ ns.length ≤ 63 ∧ ∀ H', Q (.bl true) H'
def sp_law (_ : Tx K mg) : Sp := spLaw K
theorem ok_law (T : Tx K mg) : FnOk P w K mg base CX0 4 T.a_law T.d_law ["_law_script"] (sp_law T) := by
  refine T.F_law.ok sc_law (fun vs H Q E h => ?_) (fun cdv A outer s H vs Q E hr h => ?_)
  · obtain ⟨a, ns, rfl, _⟩ := h; rfl
  · obtain ⟨a, ns, rfl, hS, hlen, k⟩ := h
    refine ⟨_, (pss_cons (ps_set (i := 1) sc_law.nd rfl (Or.inl rfl) (pe_call (ok_l_wide T) (hr.mono (by decide)) rfl T.m_l_wide T.F_l_wide.kp T.b_l_wide .nil pass0 (pa_cons (pe_call (ok_l_cell_at T) (hr.mono (by decide)) rfl T.m_l_cell_at T.F_l_cell_at.kp T.b_l_cell_at .nil pass0 (pa_cons (pv 0) (pa_cons pe_int pa_nil))) pa_nil)))
      (pss_cons (ps_set (i := 2) sc_law.nd rfl (Or.inl rfl) (pe_call (ok_l_names T) (hr.mono (by decide)) rfl T.m_l_names T.F_l_names.kp T.b_l_names .nil pass0 (pa_cons (pe_call (ok_l_cell_at T) (hr.mono (by decide)) rfl T.m_l_cell_at T.F_l_cell_at.kp T.b_l_cell_at .nil pass0 (pa_cons (pv 0) (pa_cons pe_int pa_nil))) (pa_cons (pv 1) (pa_cons pe_int pa_nil)))))
      (pss_cons (ps_set (i := 3) sc_law.nd rfl (Or.inl rfl) (pe_call (ok_l_names T) (hr.mono (by decide)) rfl T.m_l_names T.F_l_names.kp T.b_l_names .nil pass0 (pa_cons (pe_call (ok_l_cell_at T) (hr.mono (by decide)) rfl T.m_l_cell_at T.F_l_cell_at.kp T.b_l_cell_at .nil pass0 (pa_cons (pv 0) (pa_cons pe_int pa_nil))) (pa_cons (pv 1) (pa_cons pe_int pa_nil)))))
      (pss_cons (ps_for PassesOwn.never rfl (pi_enum (by rfl) T.z_enumerate (pa_cons (pv 2) pa_nil)) (pg_tup (n := 2) rfl (pgs_cons (pg_name (i := 4) sc_law.nd rfl (Or.inl rfl)) (pgs_cons (pg_name (i := 5) sc_law.nd rfl (Or.inl rfl)) pgs_nil)))
      (pss_cons (ps_for PassesOwn.never rfl (pi_list (pe_lst (pa_cons (pe_ix ix_list (pv 2) (pe_op op_sub (pv 4) pe_int) (fun _ _ => rfl)) (pa_cons (pe_ix ix_list (pv 3) (pv 4) (fun _ _ => rfl)) pa_nil)))) (pg_name (i := 6) sc_law.nd rfl (Or.inl rfl))
      (pss_one (ps_if (pt_cmpR op_ne (pv 6) (pv 5) (nomark _))
      (pss_cons (ps_set (i := 7) sc_law.nd rfl (Or.inl rfl) (pe_call (ok_step T) (hr.mono (by decide)) rfl T.m_step T.F_step.kp T.b_step .nil pass0 (pa_cons (pv 5) (pa_cons (pv 6) pa_nil))))
      (pss_cons (ps_if (PW.pt (pw_or (pt_not (pt_val (pe_call (ok_l_whole T) (hr.mono (by decide)) rfl T.m_l_whole T.F_l_whole.kp T.b_l_whole .nil pass0 (pa_cons (pv 7) pa_nil)))) (pw_or (pt_cmpR op_ne (pv 7) (pe_call (ok_l_step T) (hr.mono (by decide)) rfl T.m_l_step T.F_l_step.kp T.b_l_step .nil pass0 (pa_cons (pv 5) (pa_cons (pv 6) (pa_cons (pv 1) pa_nil)))) (nomark _)) (pw_or1 (pt_cmpR op_ne (pe_call (ok_step T) (hr.mono (by decide)) rfl T.m_step T.F_step.kp T.b_step .nil pass0 (pa_cons (pv 6) (pa_cons (pv 5) pa_nil))) (pv 7) (nomark _))))))
      (pss_one (ps_ret pe_bl))
      pss_nil)
      (pss_one (ps_if (pt_not (pt_chain op_le op_le (pe_ix ix_tup (pe_call (ok_span T) (hr.mono (by decide)) rfl T.m_span T.F_span.kp T.b_span .nil pass0 (pa_cons (pv 5) (pa_cons (pv 7) pa_nil))) pe_int (fun _ _ => rfl)) (pv 6) (pe_ix ix_tup (pe_call (ok_span T) (hr.mono (by decide)) rfl T.m_span T.F_span.kp T.b_span .nil pass0 (pa_cons (pv 5) (pa_cons (pv 7) pa_nil))) pe_int (fun _ _ => rfl))))
      (pss_one (ps_ret pe_bl))
      pss_nil))))
      pss_nil)))
      (pss_cons (ps_for PassesOwn.never rfl (pi_range1 rfl T.z_range (pa_cons (pv 1) pa_nil)) (pg_name (i := 8) sc_law.nd rfl (Or.inl rfl))
      (pss_cons (ps_set (i := 9) sc_law.nd rfl (Or.inl rfl) (pe_call (ok_l_mixed T) (hr.mono (by decide)) rfl T.m_l_mixed T.F_l_mixed.kp T.b_l_mixed .nil pass0 (pa_cons (pe_op op_mod (pe_call (ok_l_cell_at T) (hr.mono (by decide)) rfl T.m_l_cell_at T.F_l_cell_at.kp T.b_l_cell_at .nil pass0 (pa_cons (pv 0) (pa_cons pe_int pa_nil))) (pe_op op_pow pe_int pe_int)) (pa_cons (pe_op op_add (pv 8) (pe_op op_mul pe_int (pv 4))) pa_nil))))
      (pss_one (ps_if (pt_not (pt_val (pe_call (ok_l_span T) hr rfl T.m_l_span T.F_l_span.kp T.b_l_span .nil pass0 (pa_cons (pv 5) (pa_cons (pv 8) (pa_cons (pv 1) (pa_cons (pv 9) pa_nil)))))))
      (pss_one (ps_ret pe_bl))
      pss_nil))))
      (pss_cons (ps_set (i := 8) sc_law.nd rfl (Or.inl rfl) (pe_op op_mod (pe_call (ok_l_mixed T) (hr.mono (by decide)) rfl T.m_l_mixed T.F_l_mixed.kp T.b_l_mixed .nil pass0 (pa_cons (pe_op op_mod (pe_call (ok_l_cell_at T) (hr.mono (by decide)) rfl T.m_l_cell_at T.F_l_cell_at.kp T.b_l_cell_at .nil pass0 (pa_cons (pv 0) (pa_cons pe_int pa_nil))) (pe_op op_pow pe_int pe_int)) (pa_cons (pv 4) pa_nil))) (pv 1)))
      (pss_one (ps_if (pt_not (pt_val (pe_call (ok_l_aside T) hr rfl T.m_l_aside T.F_l_aside.kp T.b_l_aside .nil pass0 (pa_cons (pe_ix ix_list (pv 3) (pe_op op_sub (pv 4) pe_int) (fun _ _ => rfl)) (pa_cons (pv 5) (pa_cons (pv 8) (pa_cons (pe_ix ix_list (pv 3) (pv 4) (fun _ _ => rfl)) (pa_cons (pe_call (ok_l_mixed T) (hr.mono (by decide)) rfl T.m_l_mixed T.F_l_mixed.kp T.b_l_mixed .nil pass0 (pa_cons (pe_op op_mod (pe_call (ok_l_cell_at T) (hr.mono (by decide)) rfl T.m_l_cell_at T.F_l_cell_at.kp T.b_l_cell_at .nil pass0 (pa_cons (pv 0) (pa_cons pe_int pa_nil))) (pe_op op_pow pe_int pe_int)) (pa_cons (pv 4) pa_nil))) pa_nil))))))))
      (pss_one (ps_ret pe_bl))
      pss_nil))))))
      (pss_one (ps_ret pe_bl)))))), ?_⟩
    rw [Nn.st_law]; try rw [Nn.cxK]
    walk_at "wx"
    refine wc_l_wide rfl fun w H1 hw1 hw2 ex1 => ?_
    walk_at "wx"
    refine wc_l_names rfl rfl (m := 8) rfl hw2 (by decide) fun p H2 xs hxl hxb hp ex2 hp2 => ?_
    have ex02 : Ex H H2 := ex1.trans ex2
    clear ex1 ex2
    walk_at "wx"
    refine wc_l_names rfl rfl (m := 8) rfl hw2 (by decide) fun p' H3 ys hyl hyb hp' ex3 hp3 => ?_
    have ex03 : Ex H H3 := ex02.trans ex3
    have hp33 := ex3 _ _ hp2
    have hw60 : 2 ^ w ≤ 2 ^ 60 := Nat.pow_le_pow_right (by decide) hw2
    walk_at "wx"
    refine ForW.by walk_enumE (fun i σ H' => ∃ v1 v2 v3 v4 v5 v6, σ = [some (.ref a), some (.int w), some (.ref p), some (.ref p'), v1, v2, v3, v4, v5, v6] ∧ Ex H H' ∧ H' p = some (.lst (xs.map nV)) ∧ H' p' = some (.lst (ys.map nV)))
      ⟨_, _, _, _, _, _, rfl, ex03, hp33, hp3⟩ (fun i σ H' _ ⟨_, _, _, _, _, _, _, _, h, _⟩ => SqL.of h) ?_ ?_
    · rintro i _ σ H4 H5 hi ⟨v1, v2, v3, v4, v5, v6, rfl, ex4, hpx, hpy⟩ ⟨T, x, y, rfl, hT, ex45, hT5, hx, hy⟩
      have ex5 : Ex H H5 := ex4.trans ex45
      have hpx := ex45 _ _ hpx
      have hpy := ex45 _ _ hpy
      rw [List.length_map] at hi
      clear ex4 ex45
      cases hx
      obtain rfl : y = nV xs[i] := by
        replace hy : (xs.map nV)[i]? = some y := hy
        rw [List.getElem?_map, List.getElem?_eq_getElem hi] at hy
        exact (Option.some.inj hy).symm
      have hn := hxb xs[i] (List.getElem_mem hi)
      generalize xs[i] = n at hn hT5
      have hi' : i < ys.length := by omega
      obtain ⟨z, hzm, hz⟩ := atI_neg1' (ns := xs) hi
      have hy2 := atI_nV hi'
      walk_at "wx"
      obtain ⟨z2, hzm2, hz2⟩ := atI_neg1' (ns := ys) hi'
      have hyn := hyb ys[i] (List.getElem_mem hi')
      have hzn := hxb z hzm
      generalize ys[i] = y0 at hyn hy2 ⊢
      refine ⟨len_ok rfl, fun l hl => ?_⟩
      walk_at "wx"
      refine ForW.by walk_list (fun _ σ H' => ∃ v7 v8, σ = [some (.ref a), some (.int w), some (.ref p), some (.ref p'), some (.int i), some (nV n), v7, v8, v5, v6] ∧ Ex H5 H' ∧ H' l = some (.lst [nV z, nV y0]))
        ⟨_, _, rfl, Ex.new hl, upd_same⟩ (fun i σ H' _ ⟨_, _, _, _, h⟩ => SqL.of h) ?_ ?_
      · rintro j x σ H6 _ hj ⟨v7, v8, rfl, ex6, hl6⟩ ⟨rfl, hx⟩
        obtain ⟨b, rfl, hb⟩ : ∃ b : Nat, x = nV b ∧ b < 2 ^ w := by
          have hm := List.mem_of_getElem? hx
          simp only [List.mem_cons, List.not_mem_nil, or_false] at hm
          rcases hm with rfl | rfl
          · exact ⟨_, rfl, hzn⟩
          · exact ⟨_, rfl, hyn⟩
        walk_at "wx"
        refine x_ifN (fun h => ?_) (fun h => ?_)
        · have hne : n ≠ b := fun e => h (by rw [e])
          have hne' : b ≠ n := fun e => h (by rw [e])
          have hst := stepN_lt hn hb hne
          have hcm : stepN b n = stepN n b := by unfold stepN; rw [Nat.xor_comm]
          walk_at "wx"
          rw [if_neg hne]
          show rNe _ (nV (stepN n b)) _ _
          walk_at "wx"
          refine x_iteN (fun h => absurd rfl h) (fun _ => ?_)
          walk_at "wx"
          rw [hcm]
          refine x_ifN (fun h => absurd rfl h) (fun _ => ?_)
          walk_at "wx"
          refine wc_span rfl rfl ⟨by omega, by omega⟩ fun q1 H7 hq1 ex7 hq17 => ?_
          walk_at "wx"
          have hin := span_step.mpr ⟨hne, rfl⟩
          refine x_ite (fun _ => ?_) (fun h => absurd (by omega) h)
          walk_at "wx"
          refine wc_span rfl rfl ⟨by omega, by omega⟩ fun q2 H8 hq2 ex8 hq28 => ?_
          walk_at "wx"
          refine x_ifN (fun h => absurd (by omega) h) (fun _ => ?_)
          walk_at "wx"
          exact ⟨_, _, rfl, (ex6.trans ex7).trans ex8, ex8 _ _ (ex7 _ _ hl6)⟩
        · walk_at "wx"
          exact ⟨_, _, rfl, ex6, hl6⟩
      · rintro σ H6 ⟨v7, v8, rfl, ex6, hl6⟩
        walk_at "wx"
        have ex06 := ex5.trans ex6
        refine ForW.by walk_rgN (fun _ σ H' => ∃ v9 v10, σ = [some (.ref a), some (.int w), some (.ref p), some (.ref p'), some (.int i), some (nV n), v7, v8, v9, v10] ∧ Ex H5 H')
          ⟨_, _, rfl, ex6⟩ (fun _ _ _ _ _ => trivial) ?_ ?_
        · rintro j _ σ H7 _ hj ⟨v9, v10, rfl, ex7⟩ ⟨rfl, rfl⟩
          have ex07 := ex5.trans ex7
          walk_at "wx"
          refine wc_l_span rfl rfl rfl rfl ⟨hn, hj, hw2⟩ fun H8 ex8 => ?_
          walk_at "wx"
          exact ⟨_, _, rfl, ex7.trans ex8⟩
        · rintro σ H7 ⟨v9, v10, rfl, ex7⟩
          have ex07 := ex5.trans ex7
          have hpy7 := ex7 _ _ hpy
          walk_at "wx"
          rename_i _ r7 _ _
          refine wc_l_aside rfl rfl (k := r7 % w) (by simp) rfl rfl ⟨by omega, by have := Nat.mod_lt r7 hw1; omega⟩ fun H8 ex8 => ?_
          walk_at "wx"
          exact ⟨_, _, _, _, _, _, rfl, ex07.trans ex8, ex8 _ _ (ex7 _ _ hpx), ex8 _ _ hpy7⟩
    · rintro σ H3 ⟨v1, v2, v3, v4, v5, v6, rfl, ex3, hp3⟩
      walk_at "wx"
      exact k _
end
end Nn
namespace Nn
open PySem L2
theorem all_mk {l : PySem.W.OpenLaw} {w : World} {K : PySem.W.Frag} {h : Heap} {mg : Str → Option Value} {fa a0 a1 a2 a3 a4 a5 a6 a7 a8 a9 a10 a11 a12 : Addr} (X : K.In h) (G : h.Ns mainGlobals mg) (hfa : mg "law" = some (.ref fa))
    {od0 an0 od1 an1 od2 an2 od3 an3 od4 an4 od5 an5 od6 an6 od7 an7 od8 an8 od9 an9 od10 an10 od11 an11 od12 an12 : Option Addr} {sl0 sl1 sl2 sl3 sl4 sl5 sl6 sl7 sl8 sl9 sl10 sl11 sl12 : Array (Option Value)} {oc0 kV0 dc0 pm0 cd0 ct0 oc1 kV1 dc1 pm1 cd1 ct1 oc2 kV2 dc2 pm2 cd2 ct2 oc3 kV3 dc3 pm3 cd3 ct3 oc4 kV4 dc4 pm4 cd4 ct4 oc5 kV5 dc5 pm5 cd5 ct5 oc6 kV6 dc6 pm6 cd6 ct6 oc7 kV7 dc7 pm7 cd7 ct7 oc8 kV8 dc8 pm8 cd8 ct8 oc9 kV9 dc9 pm9 cd9 ct9 oc10 kV10 dc10 pm10 cd10 ct10 oc11 kV11 dc11 pm11 cd11 ct11 oc12 kV12 dc12 pm12 cd12 ct12 : Value}
    (e0 : PySem.W.nsIn K mainGlobals "far" = some (some (.ref a0)))
    (l0 : K.lookup a0 = some ⟨oc0, od0, .func (PySem.W.fnOf "far" "far" (defArgs s_far) (defBody s_far) (defScope s_far) .none kV0 dc0 pm0 an0 cd0 ct0), sl0⟩)
    (c0 : PySem.W.codeIn K cd0 "far" = true)
    (k0 : PySem.W.keepIn K (.ref a0) = true)
    (e1 : PySem.W.nsIn K mainGlobals "nearer" = some (some (.ref a1)))
    (l1 : K.lookup a1 = some ⟨oc1, od1, .func (PySem.W.fnOf "nearer" "nearer" (defArgs s_nearer) (defBody s_nearer) (defScope s_nearer) .none kV1 dc1 pm1 an1 cd1 ct1), sl1⟩)
    (c1 : PySem.W.codeIn K cd1 "nearer" = true)
    (k1 : PySem.W.keepIn K (.ref a1) = true)
    (e2 : PySem.W.nsIn K mainGlobals "step" = some (some (.ref a2)))
    (l2 : K.lookup a2 = some ⟨oc2, od2, .func (PySem.W.fnOf "step" "step" (defArgs s_step) (defBody s_step) (defScope s_step) .none kV2 dc2 pm2 an2 cd2 ct2), sl2⟩)
    (c2 : PySem.W.codeIn K cd2 "step" = true)
    (k2 : PySem.W.keepIn K (.ref a2) = true)
    (e3 : PySem.W.nsIn K mainGlobals "span" = some (some (.ref a3)))
    (l3 : K.lookup a3 = some ⟨oc3, od3, .func (PySem.W.fnOf "span" "span" (defArgs s_span) (defBody s_span) (defScope s_span) .none kV3 dc3 pm3 an3 cd3 ct3), sl3⟩)
    (c3 : PySem.W.codeIn K cd3 "span" = true)
    (k3 : PySem.W.keepIn K (.ref a3) = true)
    (e4 : PySem.W.nsIn K mainGlobals "_law_cell_at" = some (some (.ref a4)))
    (l4 : K.lookup a4 = some ⟨oc4, od4, .func (PySem.W.fnOf "_law_cell_at" "_law_cell_at" (defArgs s_l_cell_at) (defBody s_l_cell_at) (defScope s_l_cell_at) .none kV4 dc4 pm4 an4 cd4 ct4), sl4⟩)
    (c4 : PySem.W.codeIn K cd4 "_law_cell_at" = true)
    (k4 : PySem.W.keepIn K (.ref a4) = true)
    (e5 : PySem.W.nsIn K mainGlobals "_law_wide" = some (some (.ref a5)))
    (l5 : K.lookup a5 = some ⟨oc5, od5, .func (PySem.W.fnOf "_law_wide" "_law_wide" (defArgs s_l_wide) (defBody s_l_wide) (defScope s_l_wide) .none kV5 dc5 pm5 an5 cd5 ct5), sl5⟩)
    (c5 : PySem.W.codeIn K cd5 "_law_wide" = true)
    (k5 : PySem.W.keepIn K (.ref a5) = true)
    (e6 : PySem.W.nsIn K mainGlobals "_law_mixed" = some (some (.ref a6)))
    (l6 : K.lookup a6 = some ⟨oc6, od6, .func (PySem.W.fnOf "_law_mixed" "_law_mixed" (defArgs s_l_mixed) (defBody s_l_mixed) (defScope s_l_mixed) .none kV6 dc6 pm6 an6 cd6 ct6), sl6⟩)
    (c6 : PySem.W.codeIn K cd6 "_law_mixed" = true)
    (k6 : PySem.W.keepIn K (.ref a6) = true)
    (e7 : PySem.W.nsIn K mainGlobals "_law_names" = some (some (.ref a7)))
    (l7 : K.lookup a7 = some ⟨oc7, od7, .func (PySem.W.fnOf "_law_names" "_law_names" (defArgs s_l_names) (defBody s_l_names) (defScope s_l_names) .none kV7 dc7 pm7 an7 cd7 ct7), sl7⟩)
    (c7 : PySem.W.codeIn K cd7 "_law_names" = true)
    (k7 : PySem.W.keepIn K (.ref a7) = true)
    (e8 : PySem.W.nsIn K mainGlobals "_law_step" = some (some (.ref a8)))
    (l8 : K.lookup a8 = some ⟨oc8, od8, .func (PySem.W.fnOf "_law_step" "_law_step" (defArgs s_l_step) (defBody s_l_step) (defScope s_l_step) .none kV8 dc8 pm8 an8 cd8 ct8), sl8⟩)
    (c8 : PySem.W.codeIn K cd8 "_law_step" = true)
    (k8 : PySem.W.keepIn K (.ref a8) = true)
    (e9 : PySem.W.nsIn K mainGlobals "_law_whole" = some (some (.ref a9)))
    (l9 : K.lookup a9 = some ⟨oc9, od9, .func (PySem.W.fnOf "_law_whole" "_law_whole" (defArgs s_l_whole) (defBody s_l_whole) (defScope s_l_whole) .none kV9 dc9 pm9 an9 cd9 ct9), sl9⟩)
    (c9 : PySem.W.codeIn K cd9 "_law_whole" = true)
    (k9 : PySem.W.keepIn K (.ref a9) = true)
    (e10 : PySem.W.nsIn K mainGlobals "_law_span" = some (some (.ref a10)))
    (l10 : K.lookup a10 = some ⟨oc10, od10, .func (PySem.W.fnOf "_law_span" "_law_span" (defArgs s_l_span) (defBody s_l_span) (defScope s_l_span) .none kV10 dc10 pm10 an10 cd10 ct10), sl10⟩)
    (c10 : PySem.W.codeIn K cd10 "_law_span" = true)
    (k10 : PySem.W.keepIn K (.ref a10) = true)
    (e11 : PySem.W.nsIn K mainGlobals "_law_aside" = some (some (.ref a11)))
    (l11 : K.lookup a11 = some ⟨oc11, od11, .func (PySem.W.fnOf "_law_aside" "_law_aside" (defArgs s_l_aside) (defBody s_l_aside) (defScope s_l_aside) .none kV11 dc11 pm11 an11 cd11 ct11), sl11⟩)
    (c11 : PySem.W.codeIn K cd11 "_law_aside" = true)
    (k11 : PySem.W.keepIn K (.ref a11) = true)
    (e12 : PySem.W.nsIn K mainGlobals "law" = some (some (.ref a12)))
    (l12 : K.lookup a12 = some ⟨oc12, od12, .func (PySem.W.fnOf "law" "law" (defArgs s_law) (defBody s_law) (defScope s_law) .none kV12 dc12 pm12 an12 cd12 ct12), sl12⟩)
    (c12 : PySem.W.codeIn K cd12 "law" = true)
    (k12 : PySem.W.keepIn K (.ref a12) = true)
    (z_abs : PySem.W.nsIn K mainGlobals "abs" = some none)
    (z_bool : PySem.W.nsIn K mainGlobals "bool" = some none)
    (z_enumerate : PySem.W.nsIn K mainGlobals "enumerate" = some none)
    (z_int : PySem.W.nsIn K mainGlobals "int" = some none)
    (z_isinstance : PySem.W.nsIn K mainGlobals "isinstance" = some none)
    (z_len : PySem.W.nsIn K mainGlobals "len" = some none)
    (z_min : PySem.W.nsIn K mainGlobals "min" = some none)
    (z_range : PySem.W.nsIn K mainGlobals "range" = some none)
    (z_tuple : PySem.W.nsIn K mainGlobals "tuple" = some none) :
    ∃ fd : FuncData, (∀ (s : Shared) (v : Value), BindsTo s fd ⟨[v], []⟩ [("_law_script", v)]) ∧ ∀ base : Heap, K.In base → base.Ns mainGlobals mg → FnOk l.prog w K mg base CX0 4 fa fd ["_law_script"] (spLaw K) := by
  have e := hfa.symm.trans (PySem.W.mg_of X G e12)
  cases e
  have F0 := fun_mk (st := s_far) l0 c0 k0
  have b0 := F0.binds (ps := ["one", "other"]) fun _ _ _ _ _ _ us hl => match us, hl with | [_, _], _ => rfl
  have F1 := fun_mk (st := s_nearer) l1 c1 k1
  have b1 := F1.binds (ps := ["goal", "one", "other"]) fun _ _ _ _ _ _ us hl => match us, hl with | [_, _, _], _ => rfl
  have F2 := fun_mk (st := s_step) l2 c2 k2
  have b2 := F2.binds (ps := ["one", "other"]) fun _ _ _ _ _ _ us hl => match us, hl with | [_, _], _ => rfl
  have F3 := fun_mk (st := s_span) l3 c3 k3
  have b3 := F3.binds (ps := ["name", "k"]) fun _ _ _ _ _ _ us hl => match us, hl with | [_, _], _ => rfl
  have F4 := fun_mk (st := s_l_cell_at) l4 c4 k4
  have b4 := F4.binds (ps := ["_law_script", "_law_k"]) fun _ _ _ _ _ _ us hl => match us, hl with | [_, _], _ => rfl
  have F5 := fun_mk (st := s_l_wide) l5 c5 k5
  have b5 := F5.binds (ps := ["_law_cell"]) fun _ _ _ _ _ _ us hl => match us, hl with | [_], _ => rfl
  have F6 := fun_mk (st := s_l_mixed) l6 c6 k6
  have b6 := F6.binds (ps := ["_law_cell", "_law_k"]) fun _ _ _ _ _ _ us hl => match us, hl with | [_, _], _ => rfl
  have F7 := fun_mk (st := s_l_names) l7 c7 k7
  have b7 := F7.binds (ps := ["_law_cell", "_law_wide_here", "_law_many"]) fun _ _ _ _ _ _ us hl => match us, hl with | [_, _, _], _ => rfl
  have F8 := fun_mk (st := s_l_step) l8 c8 k8
  have b8 := F8.binds (ps := ["_law_one", "_law_other", "_law_wide_here"]) fun _ _ _ _ _ _ us hl => match us, hl with | [_, _, _], _ => rfl
  have F9 := fun_mk (st := s_l_whole) l9 c9 k9
  have b9 := F9.binds (ps := ["_law_found"]) fun _ _ _ _ _ _ us hl => match us, hl with | [_], _ => rfl
  have F10 := fun_mk (st := s_l_span) l10 c10 k10
  have b10 := F10.binds (ps := ["_law_name", "_law_k", "_law_wide_here", "_law_inside"]) fun _ _ _ _ _ _ us hl => match us, hl with | [_, _, _, _], _ => rfl
  have F11 := fun_mk (st := s_l_aside) l11 c11 k11
  have b11 := F11.binds (ps := ["_law_goal", "_law_name", "_law_k", "_law_other", "_law_inside"]) fun _ _ _ _ _ _ us hl => match us, hl with | [_, _, _, _, _], _ => rfl
  have F12 := fun_mk (st := s_law) l12 c12 k12
  have b12 := F12.binds (ps := ["_law_script"]) fun _ _ _ _ _ _ us hl => match us, hl with | [_], _ => rfl
  exact ⟨_, fun s v => .of_eq rfl, fun base _ _ => ok_law (K := K) (mg := mg) {
      a_far := a0, d_far := _, F_far := F0, b_far := b0,
      m_far := PySem.W.mg_of X G e0,
      a_nearer := a1, d_nearer := _, F_nearer := F1, b_nearer := b1,
      m_nearer := PySem.W.mg_of X G e1,
      a_step := a2, d_step := _, F_step := F2, b_step := b2,
      m_step := PySem.W.mg_of X G e2,
      a_span := a3, d_span := _, F_span := F3, b_span := b3,
      m_span := PySem.W.mg_of X G e3,
      a_l_cell_at := a4, d_l_cell_at := _, F_l_cell_at := F4, b_l_cell_at := b4,
      m_l_cell_at := PySem.W.mg_of X G e4,
      a_l_wide := a5, d_l_wide := _, F_l_wide := F5, b_l_wide := b5,
      m_l_wide := PySem.W.mg_of X G e5,
      a_l_mixed := a6, d_l_mixed := _, F_l_mixed := F6, b_l_mixed := b6,
      m_l_mixed := PySem.W.mg_of X G e6,
      a_l_names := a7, d_l_names := _, F_l_names := F7, b_l_names := b7,
      m_l_names := PySem.W.mg_of X G e7,
      a_l_step := a8, d_l_step := _, F_l_step := F8, b_l_step := b8,
      m_l_step := PySem.W.mg_of X G e8,
      a_l_whole := a9, d_l_whole := _, F_l_whole := F9, b_l_whole := b9,
      m_l_whole := PySem.W.mg_of X G e9,
      a_l_span := a10, d_l_span := _, F_l_span := F10, b_l_span := b10,
      m_l_span := PySem.W.mg_of X G e10,
      a_l_aside := a11, d_l_aside := _, F_l_aside := F11, b_l_aside := b11,
      m_l_aside := PySem.W.mg_of X G e11,
      a_law := fa, d_law := _, F_law := F12, b_law := b12,
      m_law := PySem.W.mg_of X G e12,
      z_abs := PySem.W.mg_none_of X G z_abs,
      z_bool := PySem.W.mg_none_of X G z_bool,
      z_enumerate := PySem.W.mg_none_of X G z_enumerate,
      z_int := PySem.W.mg_none_of X G z_int,
      z_isinstance := PySem.W.mg_none_of X G z_isinstance,
      z_len := PySem.W.mg_none_of X G z_len,
      z_min := PySem.W.mg_none_of X G z_min,
      z_range := PySem.W.mg_none_of X G z_range,
      z_tuple := PySem.W.mg_none_of X G z_tuple }⟩
theorem walk {l : PySem.W.OpenLaw} {q : Program} {loose : List Str} {XP : (Str → Option Value) → Heap → Prop} {YP : World → Heap → Prop} {d : DefRec} {K : Params → PySem.W.Frag} (hn : l.most = some 63) (hdf : d.params.defaults = [])
    (hY : ∀ (w : World) (h : Heap), YP w h → (K w.params).In h)
    (F : ∀ (w : World) (mg : Str → Option Value) (fa : Addr) (h : Heap), (K w.params).In h → h.Ns mainGlobals mg → mg d.name = some (.ref fa) →
      ∃ fd : FuncData, (∀ (s : Shared) (u : Value), BindsTo s fd ⟨[u], []⟩ [("_law_script", u)]) ∧ ∀ base : Heap, (K w.params).In base → base.Ns mainGlobals mg → FnOk l.prog w (K w.params) mg base CX0 4 fa fd ["_law_script"] (spLaw (K w.params))) :
    PySem.W.WalkO q loose XP YP l.row.toRowW d [] (fun f vs => PySem.call f vs) :=
  L2.walk_of (n := 63) (k := 4) (x := "_law_script") (CX := fun _ => CX0) (sp := fun w => spLaw (K w.params)) hn (by decide) hdf ⟨rfl, by decide, by decide⟩ hY F (fun _ _ a ns hl _ hS => ⟨a, ns, rfl, hS, hl, fun _ => rfl⟩) fun _ _ _ _ _ z => z
end Nn
open PySem PySem.W PyProof.Rows
set_option maxRecDepth 100000 in
set_option maxHeartbeats 0 in
theorem PySem.Challenge.cw_nearnames_k04_steps_and_spans_holds : PySem.Challenge.rw_nearnames_k04_steps_and_spans.Holds := by
  w_on; o_law; k_head; (case hw => w_witness2)
  k_fill
  refine Nn.walk (l := PySem.Challenge.rw_nearnames_k04_steps_and_spans) rfl rfl (fun w h Y => PySem.W.kIn_of Y) ?F
  case F =>
    intro w mg fa h KX G hmg
    refine' Nn.all_mk KX G hmg ?e0 ?l0 ?c0 ?k0 ?e1 ?l1 ?c1 ?k1 ?e2 ?l2 ?c2 ?k2 ?e3 ?l3 ?c3 ?k3 ?e4 ?l4 ?c4 ?k4 ?e5 ?l5 ?c5 ?k5 ?e6 ?l6 ?c6 ?k6 ?e7 ?l7 ?c7 ?k7 ?e8 ?l8 ?c8 ?k8 ?e9 ?l9 ?c9 ?k9 ?e10 ?l10 ?c10 ?k10 ?e11 ?l11 ?c11 ?k11 ?e12 ?l12 ?c12 ?k12 ?z_abs ?z_bool ?z_enumerate ?z_int ?z_isinstance ?z_len ?z_min ?z_range ?z_tuple
    (case e0 => k_is)
    (case l0 => k_is)
    (case c0 => k_is)
    (case k0 => k_is)
    (case e1 => k_is)
    (case l1 => k_is)
    (case c1 => k_is)
    (case k1 => k_is)
    (case e2 => k_is)
    (case l2 => k_is)
    (case c2 => k_is)
    (case k2 => k_is)
    (case e3 => k_is)
    (case l3 => k_is)
    (case c3 => k_is)
    (case k3 => k_is)
    (case e4 => k_is)
    (case l4 => k_is)
    (case c4 => k_is)
    (case k4 => k_is)
    (case e5 => k_is)
    (case l5 => k_is)
    (case c5 => k_is)
    (case k5 => k_is)
    (case e6 => k_is)
    (case l6 => k_is)
    (case c6 => k_is)
    (case k6 => k_is)
    (case e7 => k_is)
    (case l7 => k_is)
    (case c7 => k_is)
    (case k7 => k_is)
    (case e8 => k_is)
    (case l8 => k_is)
    (case c8 => k_is)
    (case k8 => k_is)
    (case e9 => k_is)
    (case l9 => k_is)
    (case c9 => k_is)
    (case k9 => k_is)
    (case e10 => k_is)
    (case l10 => k_is)
    (case c10 => k_is)
    (case k10 => k_is)
    (case e11 => k_is)
    (case l11 => k_is)
    (case c11 => k_is)
    (case k11 => k_is)
    (case e12 => k_is)
    (case l12 => k_is)
    (case c12 => k_is)
    (case k12 => k_is)
    (case z_abs => k_is)
    (case z_bool => k_is)
    (case z_enumerate => k_is)
    (case z_int => k_is)
    (case z_isinstance => k_is)
    (case z_len => k_is)
    (case z_min => k_is)
    (case z_range => k_is)
    (case z_tuple => k_is)
