import PyProof.Rows.All
import Wide.All
import OpenK.AllK
import Wide.FinOn
import HandS.ForMost
import HandS.Walk
import HandS.Wide
import HandS.WideBits
import HandS.IsInst
import HandS.EndBits
import HandS.SortInts
import HandS.Flow
import HandS.Nested
import HandS.EndTab
import HandS.More
import HandS.SetFor
import HandS.Strs
import HandS.Zip
import HandS.CallLocal
import HandS.Defaults
import HandS.Head0
import HandS.Head1
import HandS.Head2
import HandS.HeadEnd
import HandS.HeadHook1
import HandS.HeadHook2
import HandS.HeadHook3
import HandS.HeadHook4
import HandS.HeadWalk
import HandS.DictComp
import HandS.DeepEq
import KE.SortKeyHeap
import PySem.Challenge.RW_nearnames_k24_fewer_silent
set_option Elab.async false
set_option linter.all false
set_option maxRecDepth 100000
set_option maxHeartbeats 4000000
/-! ### a def within a def, a parameter of which lies in a cell (a comprehension of its own captures it) -/
namespace NcX
open PySem PySem.Spec PyProof.Rows L2 NdefX LamX
theorem cells_acc : ∀ (names : List (Str × NameKind)) (n : Nat) (a b : List (Str × Addr)), cellsFrom n names (a ++ b) = cellsFrom n names a ++ b
  | [], _, _, _ => rfl
  | (x, k) :: r, n, a, b => by
    unfold cellsFrom
    split
    · exact cells_acc r (n + 1) ((x, n) :: a) b
    · exact cells_acc r n a b
theorem cells_tail (names : List (Str × NameKind)) (n : Nat) (b : List (Str × Addr)) : cellsFrom n names b = cellsFrom n names [] ++ b := cells_acc names n [] b
theorem store_cells {e1 e2 : Env} {n : Str} {v : Value} (hs : e1.scope = e2.scope) (hL : e1.locals = e2.locals) (hG : e1.globals = e2.globals) (hf : e1.scope.kind = .function) (hc : e1.kindOf n = some .local ∨ (e1.kindOf n = some .cell ∧ e1.cells.lookup n = e2.cells.lookup n)) :
    storeName e1 n v = storeName e2 n v := by
  have hk : e2.kindOf n = e1.kindOf n := by unfold Env.kindOf; rw [hs]
  have hf2 : e2.scope.kind = .function := by rw [← hs]; exact hf
  have c1 : (ScopeKind.function == ScopeKind.class) = false := by decide
  have c2 : (ScopeKind.function == ScopeKind.module) = false := by decide
  unfold storeName
  rw [hk]
  rcases hc with h | ⟨h, hc⟩
  · rw [h]
    simp only [show (some NameKind.local == some NameKind.globalImplicit) = false from by decide, Bool.false_and, Bool.false_eq_true, if_false, hf, hf2, c1, c2, Bool.false_or, hL, hG, Env.blockKind]
  · have hco : PySem.cellOf e1 n = PySem.cellOf e2 n := by
      unfold PySem.cellOf
      rw [hc]
    rw [h]
    simp only [show (some NameKind.cell == some NameKind.globalImplicit) = false from by decide, Bool.false_and, Bool.false_eq_true, if_false, hf, hf2, c1, c2, Bool.false_or, hL, hG, hco, Env.blockKind]
section
variable {M : Model} {A : Around} {E : Value → Shared → Prop} {s₀ s : Shared} {m cm : Str → Option Value} {env e2 : Env}
theorem wpAny_bindX (f : Str × Value → PUnit → Sem (ForInStep PUnit)) (hf : ∀ n v u, f (n, v) u = (do storeName e2 n v; pure (.yield ⟨⟩))) (hk : env.scope.kind = .function) :
    ∀ (binds : List (Str × Value)) (m cm : Str → Option Value) (s : Shared) (Q : PUnit → Shared → Prop), InCallC s₀ env.locals m env.cells cm s →
      (∀ x ∈ binds, env.kindOf x.1 = some .local ∨ (env.kindOf x.1 = some .cell ∧ (env.cells.lookup x.1).isSome = true)) → (∀ x ∈ binds, storeName e2 x.1 x.2 = storeName env x.1 x.2) →
      (∀ s', InCallC s₀ env.locals (bindL env.kindOf binds m) env.cells (bindC env.kindOf binds cm) s' → Q ⟨⟩ s') → wpAny M A (forIn binds ⟨⟩ f) Q E s
  | [], m, cm, s, Q, x, _, _, h => by rw [List.forIn_nil]; exact wpAny_pure (h s x)
  | (n, v) :: r, m, cm, s, Q, x, hkind, hst, h => by
    rw [List.forIn_cons, hf, show storeName e2 n v = storeName env n v from hst (n, v) List.mem_cons_self]
    have hr : ∀ y ∈ r, env.kindOf y.1 = some .local ∨ (env.kindOf y.1 = some .cell ∧ (env.cells.lookup y.1).isSome = true) := fun y hy => hkind y (List.mem_cons_of_mem _ hy)
    have hs : ∀ y ∈ r, storeName e2 y.1 y.2 = storeName env y.1 y.2 := fun y hy => hst y (List.mem_cons_of_mem _ hy)
    rcases hkind (n, v) List.mem_cons_self with hl | ⟨hl, hc⟩
    · refine wpAny_bind (wpAny_bind (stLC x hk hl fun s' x' => wpAny_pure (wpAny_bindX f hf hk r _ _ s' Q x' hr hs fun s'' x'' => h s'' ?_)))
      unfold bindL bindC; rw [if_pos hl, if_pos hl]; exact x''
    · obtain ⟨c, hc⟩ := Option.isSome_iff_exists.mp hc
      have hnl : ¬ env.kindOf n = some .local := by rw [hl]; decide
      refine wpAny_bind (wpAny_bind (stCC x hk hl hc fun s' x' => wpAny_pure (wpAny_bindX f hf hk r _ _ s' Q x' hr hs fun s'' x'' => h s'' ?_)))
      unfold bindL bindC; rw [if_neg hnl, if_neg hnl]; exact x''
end
section
variable {M : Model} {A : Around} {E : Value → Shared → Prop} {s : Shared}
theorem look_app {l r : List (Str × Addr)} {n : Str} {c : Addr} (h : l.lookup n = some c) : (l ++ r).lookup n = some c := by
  rw [List.lookup_append, h] <;> rfl
theorem wpAny_newEnvX {scope : Scope} {globals : Addr} {cl : List (Str × Addr)} {binds : List (Str × Value)} {qual : Str} {func : Option Addr} {code : Value} {builtins : Addr} {Q : Env → Shared → Prop}
    (hk : scope.kind = .function)
    (hkind : ∀ x ∈ binds, scope.names.lookup x.1 = some .local ∨ (scope.names.lookup x.1 = some .cell ∧ ((cellsFrom (s.heap.objs.size + 1) scope.names []).lookup x.1).isSome = true))
    (hQ : ∀ env, env = newEnv scope s.heap.objs.size globals (cellsFrom (s.heap.objs.size + 1) scope.names [] ++ cl) qual func code none builtins →
      ∀ s', InCallC s s.heap.objs.size (bindL env.kindOf binds fun _ => none) (cellsFrom (s.heap.objs.size + 1) scope.names []) (bindC env.kindOf binds fun _ => none) s' → Q env s') :
    wpAny M A (newFunctionEnv scope globals cl binds qual func code none builtins) Q E s := by
  simp only [newFunctionEnv, Option.isSome_none, Bool.false_eq_true, if_false]
  refine wpAny_bind (wpAny_alloc ?_)
  refine wpAny_bind (wpAny_layCells _ (fun name kind cells => by cases hkc : kind == NameKind.cell <;> simp [hkc]) _ _ _ _ ?_)
  have ok := cellsFrom_ok scope.names (s.heap.push { cls := .type "frame", data := .dict #[] }) (s.heap.objs.size + 1) [] ⟨fun _ _ hm => (nomatch hm), List.Pairwise.nil⟩ (by rw [Heap.size_push]; exact Nat.le_refl _)
  rw [Heap.size_push] at ok
  rw [show ({ s with heap := s.heap.push { cls := .type "frame", data := .dict #[] } } : Shared).heap.objs.size = s.heap.objs.size + 1 from Heap.size_push .., cells_tail]
  refine wpAny_bind (wpAny_bindX (s₀ := s) (e2 := newEnv scope s.heap.objs.size globals (cellsFrom (s.heap.objs.size + 1) scope.names [] ++ cl) qual func code none builtins) (env := newEnv scope s.heap.objs.size globals (cellsFrom (s.heap.objs.size + 1) scope.names []) qual func code none builtins)
    _ (fun _ _ _ => rfl) hk binds (fun _ => none) (fun _ => none) _ _
    ⟨⟨⟨_, _, rfl⟩, (Heap.Ns.new s.heap (.type "frame")).keeps (pushCells_keeps _ _), fun b o e => pushCells_keeps _ _ b o (Heap.get?_push_of_some _ e), Nat.le_refl _⟩,
      fun n c hc => (ok.empty n c (mem_of_lookup hc)).1, ok.apart, fun n c hm => (ok.empty n c hm).2⟩
    hkind (fun x hx => store_cells rfl rfl rfl hk ?_) fun s' x => wpAny_pure (hQ _ rfl s' x))
  rcases hkind x hx with h | ⟨h, hc⟩
  · exact .inl h
  · obtain ⟨c, hc⟩ := Option.isSome_iff_exists.mp hc
    refine .inr ⟨h, ?_⟩
    show (cellsFrom (s.heap.objs.size + 1) scope.names [] ++ cl).lookup x.1 = (cellsFrom (s.heap.objs.size + 1) scope.names []).lookup x.1
    rw [look_app hc, hc]
end
/-- its names: the parameters, plain or in cells, then the captured ones, then its locals; no other name lies in a cell -/
structure NScope (N ps fr : List Str) (sc : Scope) : Prop where
  kind : sc.kind = .function
  co : sc.isCoroutine = false
  gen : sc.isGenerator = false
  nd : N.Nodup
  pre : N.take (ps.length + fr.length) = ps ++ fr
  par : ∀ x ∈ ps, sc.names.lookup x = some .local ∨ sc.names.lookup x = some .cell
  cel : ∀ y ∈ sc.names, y.2 = .cell → y.1 ∈ ps
  free : ∀ y ∈ sc.names, y.2 = .free → y.1 ∈ fr
  frk : ∀ x ∈ fr, sc.names.lookup x = some .free
def nscB (N ps fr : List Str) (sc : Scope) : Bool :=
  decide (sc.kind = .function) && !sc.isCoroutine && !sc.isGenerator && decide N.Nodup && decide (N.take (ps.length + fr.length) = ps ++ fr) && ps.all (fun x => decide (sc.names.lookup x = some .local) || decide (sc.names.lookup x = some .cell)) && sc.names.all (fun y => !decide (y.2 = .cell) || decide (y.1 ∈ ps)) && sc.names.all (fun y => !decide (y.2 = .free) || decide (y.1 ∈ fr)) && fr.all (fun x => decide (sc.names.lookup x = some .free))
theorem nscope_by {N ps fr : List Str} {sc : Scope} (h : nscB N ps fr sc = true) : NScope N ps fr sc := by
  unfold nscB at h
  simp only [Bool.and_eq_true, Bool.not_eq_true', decide_eq_true_eq, List.all_eq_true, Bool.or_eq_true, decide_eq_false_iff_not] at h
  obtain ⟨⟨⟨⟨⟨⟨⟨⟨h1, h2⟩, h3⟩, h4⟩, h5⟩, h6⟩, h7⟩, h8⟩, h9⟩ := h
  exact ⟨h1, h2, h3, h4, h5, h6, fun y hy e => (h7 y hy).elim (fun z => absurd e z) id, fun y hy e => (h8 y hy).elim (fun z => absurd e z) id, h9⟩
abbrev cellsF (F : NF) (L : Addr) : List (Str × Addr) := cellsFrom (L + 1) F.scope.names [] ++ F.cl
abbrev envF (F : NF) (f L : Addr) : Env := PySem.W.envX F.qual F.scope L f (.ref F.c) (cellsF F L)
/-- the context of its body, at its entry -/
def ncx (CX : CXT) (P : Program) (w : World) (K : PySem.W.Frag) (mg : Str → Option Value) (base : Heap) (N : List Str) (F : NF) (f : Addr) (A : Around) (outer : List Env) (s : Shared) (H : Hp) (E : XK) : Cx where
  prog := P
  w := w
  K := K
  mg := mg
  base := base
  A := A.deeper (envF F f s.heap.objs.size)
  N := N
  s_0 := s
  H_0 := H
  env := envF F f s.heap.objs.size
  outer := outer
  stack := envF F f s.heap.objs.size :: outer
  ex := []
  calm := true
  fn := fun _ => false
  pn := []
  xe := fun e s' => wpAny (model P w) (A.deeper (envF F f s.heap.objs.size)) (leaving (envF F f s.heap.objs.size) e) (fun _ s'' => CX outer H s E e s'') (fun e' s'' => CX outer H s E e' s'') s'
theorem ncxK {CX : CXT} {P : Program} {w : World} {K : PySem.W.Frag} {mg : Str → Option Value} {base : Heap} {N : List Str} {F : NF} {f : Addr} {A : Around} {outer : List Env} {s : Shared} {H : Hp} {E : XK} : (ncx CX P w K mg base N F f A outer s H E).K = K := rfl
section
variable {CX : CXT} {P : Program} {w : World} {K : PySem.W.Frag} {mg : Str → Option Value} {base : Heap} {N ps fr : List Str} {F : NF} {f : Addr} {A : Around} {outer : List Env} {s : Shared} {H : Hp} {E : XK} {us : List Value} {vs : List V} {ws : List (Option V)}
theorem look_cases {l r : List (Str × Addr)} {n : Str} {c : Addr} (h : (l ++ r).lookup n = some c) : l.lookup n = some c ∨ (l.lookup n = none ∧ r.lookup n = some c) := by
  rw [List.lookup_append] at h
  cases e : l.lookup n with
  | none =>
    rw [e] at h
    exact .inr ⟨rfl, h⟩
  | some x =>
    rw [e] at h
    exact .inl h
theorem new_kind : ∀ {names : List (Str × NameKind)} {k : Nat} {acc : List (Str × Addr)} {n : Str} {c : Addr}, (n, c) ∈ cellsFrom k names acc → (n, NameKind.cell) ∈ names ∨ (n, c) ∈ acc
  | [], _, _, _, _, h => .inr h
  | (x, kd) :: r, k, acc, n, c, h => by
    unfold cellsFrom at h
    split at h
    · rename_i hk
      have hk : kd = NameKind.cell := eq_of_beq hk
      rcases new_kind h with z | z
      · exact .inl (List.mem_cons_of_mem _ z)
      · rcases List.mem_cons.mp z with z | z
        · cases z
          rw [hk]
          exact .inl List.mem_cons_self
        · exact .inr z
    · rcases new_kind h with z | z
      · exact .inl (List.mem_cons_of_mem _ z)
      · exact .inr z
theorem new_out (S : NScope N ps fr F.scope) {y : Str} {L : Nat} (hy : y ∈ fr) : (cellsFrom L F.scope.names []).lookup y = none := by
  cases e : (cellsFrom L F.scope.names []).lookup y with
  | none => rfl
  | some c =>
    exfalso
    rcases new_kind (PySem.mem_of_lookup e) with z | z
    · have hp := S.cel _ z rfl
      have nd : (ps ++ fr).Nodup := by
        rw [← S.pre]
        exact S.nd.sublist (List.take_sublist _ _)
      exact (List.nodup_append.mp nd).2.2 _ hp _ hy rfl
    · cases z
theorem inv_startC {s1 : Shared} (S : NScope N ps fr F.scope) (hd : A.handled = none) (e0 : Env0 P w K mg base A outer s H) (hl : vs.length = ps.length) (r : Vals vs us) (C : CellsAt F.cl fr ws s.heap H)
    (x : InCallC s s.heap.objs.size (bindL (envF F f s.heap.objs.size).kindOf (ps.zip us) fun _ => none) (cellsFrom (s.heap.objs.size + 1) F.scope.names []) (bindC (envF F f s.heap.objs.size).kindOf (ps.zip us) fun _ => none) s1) :
    Inv (ncx CX P w K mg base N F f A outer s H E) [] (startF N vs ws) H s1 := by
  have hpl : ps.length + fr.length ≤ N.length := by
    have q := congrArg List.length S.pre
    rw [List.length_take, List.length_append] at q
    omega
  obtain ⟨h1, tk, rfl, kp⟩ := x.done
  have noA : ∀ b : Addr, b ∉ (ncx CX P w K mg base N F f A outer s H E).ex := fun b z => absurd (show b ∈ ([] : List Addr) from z) (by simp)
  have cellK : ∀ {c : Addr} {v : Option Value}, s.heap.IsCell c v → h1.IsCell c v := fun {c v} ⟨o, ho, hd⟩ => ⟨o, kp _ _ ho, hd⟩
  have old : ∀ {y : Str} {c : Addr}, F.cl.lookup y = some c → c < s.heap.objs.size := fun {y c} e => by
    obtain ⟨v, o, ho, _⟩ := (C.all y c e).2
    exact Heap.lt_size ho
  have newge : ∀ {y : Str} {c : Addr}, (cellsFrom (s.heap.objs.size + 1) F.scope.names []).lookup y = some c → s.heap.objs.size < c := fun {y c} e => x.above y c (PySem.mem_of_lookup e)
  refine ⟨⟨e0.mod, S.kind, rfl, rfl, Nat.le_refl _, fun y z c h1 h2 => ?_, fun y hy => ?_, fun y c z _ => ?_, fun _ => hd, Around.frames_deeper e0.frames, .inr ⟨rfl, rfl⟩, fun b z => absurd z (noA b), e0.bs, e0.bsz, fun b _ _ => noA b,
      fun b z => absurd z (noA b), e0.funs, e0.frf⟩,
    rfl, e0.bare, Un.kept kp, ⟨_, x.toInCall.ns, fun i y v e1 e2 e3 => ?_⟩, fun y c e => ?_, e0.hok.fresh (Nat.le_refl _), fun y c e => ?_, fun q hq => absurd (show q ∈ ([] : List (Addr × Obj)) ++ [] from hq) (by simp), e0.hok.kept kp, ?_⟩
  · rcases look_cases h1 with a | ⟨_, a⟩ <;> rcases look_cases h2 with b | ⟨_, b⟩
    · exact name_of_addr x.apart (PySem.mem_of_lookup a) (PySem.mem_of_lookup b)
    · exact absurd (Nat.lt_trans (newge a) (old b)) (Nat.lt_irrefl _)
    · exact absurd (Nat.lt_trans (newge b) (old a)) (Nat.lt_irrefl _)
    · exact C.inj y z c a b
  · have hy : F.scope.names.lookup y = some .cell ∨ F.scope.names.lookup y = some .free := hy
    rcases hy with hy | hy
    · obtain ⟨c, e⟩ := cell_has (n := s.heap.objs.size + 1) hy
      exact ⟨c, look_app e⟩
    · have hf := S.free _ (PySem.mem_of_lookup hy) rfl
      obtain ⟨i, hi⟩ := List.mem_iff_getElem?.mp hf
      obtain ⟨c, hc, _⟩ := C.has i y hi
      refine ⟨c, ?_⟩
      show (cellsFrom (s.heap.objs.size + 1) F.scope.names [] ++ F.cl).lookup y = some c
      rw [List.lookup_append, new_out S hf]
      exact hc
  · have z : false = true := z
    cases z
  · have e1 : N[i]? = some y := e1
    have clen := C.len
    unfold startF at e2
    by_cases h1 : i < ps.length
    · have hq : (ps ++ fr)[i]? = some y := by
        rw [← S.pre, List.getElem?_take_of_lt (by omega)]
        exact e1
      rw [List.getElem?_append_left h1] at hq
      rw [List.getElem?_append_left (by rw [List.length_map]; omega), List.getElem?_map] at e2
      have ha : vs[i]? = some v := by
        cases e : vs[i]? with
        | none => rw [e] at e2; cases e2
        | some a => rw [e] at e2; cases e2; rfl
      obtain ⟨u, hu, rv⟩ := r.get ha
      have ndP : ps.Nodup := by
        have q := S.nd.sublist (List.take_sublist (ps.length + fr.length) N)
        rw [S.pre] at q
        exact (List.nodup_append.mp q).1
      refine ⟨u, rv, ?_⟩
      rcases S.par y (List.mem_of_getElem? hq) with k | k
      · exact .inl ⟨k, bindL_get ndP hq hu k⟩
      · obtain ⟨c, e⟩ := cell_has (n := s.heap.objs.size + 1) k
        refine .inr ⟨.inl k, c, look_app e, ?_⟩
        have q := x.cell y c e
        rw [bindC_get ndP hq hu (by show F.scope.names.lookup y ≠ _; rw [k]; decide)] at q
        exact q
    · rw [List.getElem?_append_right (by rw [List.length_map]; omega), List.length_map] at e2
      by_cases h2 : i < ps.length + fr.length
      · have hq : (ps ++ fr)[i]? = some y := by
          rw [← S.pre, List.getElem?_take_of_lt (by omega)]
          exact e1
        rw [List.getElem?_append_right (by omega)] at hq
        rw [List.getElem?_append_left (by omega), hl] at e2
        obtain ⟨c, hc, hv⟩ := C.has (i - ps.length) y hq
        obtain ⟨u, ru, hu⟩ := hv v e2
        refine ⟨u, ru, .inr ⟨.inr (S.frk y (List.mem_of_getElem? hq)), c, ?_, cellK hu⟩⟩
        show (cellsFrom (s.heap.objs.size + 1) F.scope.names [] ++ F.cl).lookup y = some c
        rw [List.lookup_append, new_out S (List.mem_of_getElem? hq)]
        exact hc
      · rw [List.getElem?_append_right (by omega), List.getElem?_replicate] at e2
        split at e2 <;> cases e2
  · rcases look_cases e with a | ⟨_, a⟩
    · exact ⟨_, x.cell y c a⟩
    · obtain ⟨v, z⟩ := (C.all y c a).2
      exact ⟨v, cellK z⟩
  · rcases look_cases e with a | ⟨_, a⟩
    · exact e0.hok.fresh (Nat.le_of_lt (newge a))
    · exact (C.all y c a).1
  · have clen := C.len
    unfold startF
    show _ = N.length
    rw [List.length_append, List.length_append, List.length_map, List.length_replicate]
    omega
end
section
variable {CX : CXT} {P : Program} {w : World} {K : PySem.W.Frag} {mg : Str → Option Value} {base : Heap} {N ps fr : List Str} {F : NF} {f : Addr} {k j : Nat} {sp sp' : List (Option V) → Sp}
/-- THE RULE -/
theorem nok_of (S : NScope N ps fr F.scope) (hb : ∀ (doc pm ctv : Value) (us : List Value), us.length = ps.length → bindArgs (F.fd doc pm ctv) ⟨us, []⟩ = pure (ps.zip us)) (len : ∀ ws vs H Q E, sp ws vs H Q E → vs.length = ps.length)
    (hbody : ∀ (A : Around) (outer : List Env) (s : Shared) (H : Hp) (vs : List V) (ws : List (Option V)) (Q : VK) (E : XK), Room k (A.deeper (envF F f s.heap.objs.size)) → H f = some (FnO f F) → H F.c = some (CodeO F.c F.qual) → ws.length = fr.length → sp ws vs H Q E →
      ∃ t, PSs (ncx CX P w K mg base N F f A outer s H E) F.body t ∧ t { nx := fun _ H' => Q .non H', rt := Q } (startF N vs ws) H) :
    NOk P w K mg base CX (k + 1) f F ps fr sp := by
  refine ⟨len, fun A outer s H us vs ws Q E hr e0 hf hc C r hsp => ?_⟩
  have hl := len _ _ _ _ _ hsp
  have lim : s.heap.NoLimit := e0.mod.nolimit.keeps fun b o e => (e0.bs b o e).1
  obtain ⟨od, sl, doc, pm, ctv, ho⟩ := fnO_at e0.hok hf
  refine codeAny_call_function hr.depth ho rfl S.co S.gen rfl (codeO_at e0.hok hc) ?_
  rw [hb doc pm ctv us (by rw [← r.length]; exact hl)]
  have hkind : ∀ y ∈ ps.zip us, F.scope.names.lookup y.1 = some .local ∨ (F.scope.names.lookup y.1 = some .cell ∧ ((cellsFrom (s.heap.objs.size + 1) F.scope.names []).lookup y.1).isSome = true) := fun ⟨n, v⟩ hy => by
    rcases S.par n (List.of_mem_zip hy).1 with q | q
    · exact .inl q
    · exact .inr ⟨q, PySem.W.cellsFrom_some _ _ _ (.inl q)⟩
  refine wpAny_pure (wpAny_newEnvX S.kind hkind fun env he s1 x => ?_)
  subst he
  refine ⟨lim.keeps x.toInCall.keep, ?_⟩
  show codeAny _ _ (.func F.body (envF F f s.heap.objs.size)) _ _
  refine codeAny_func ?_
  obtain ⟨t, ht, hq⟩ := hbody A outer s H vs ws Q E (hr.deeper _) hf hc C.len hsp
  have I : Inv (ncx CX P w K mg base N F f A outer s H E) [] (startF N vs ws) H s1 := inv_startC S hr.hd e0 hl r C x
  refine wpAny_mono (ht.run [] _ (startF N vs ws) H _ I hq) (fun fl s' hs => ?_) fun e s' hs => hs
  have fin : ∀ {σ' : L2.St} {H' : Hp} {v : V} {u : Value}, Inv (ncx CX P w K mg base N F f A outer s H E) [] σ' H' s' → L2.RelV v u → Q v H' → CE outer P w H s Q u s' :=
    fun {σ' H' v u} J rv q => ⟨v, H', J.os, J.bare, J.base, J.hok, rv, q⟩
  cases fl with
  | ret u =>
    obtain ⟨v, σ', H', J, rv, q⟩ := hs
    exact fin J rv q
  | next =>
    obtain ⟨σ', H', J, q⟩ := hs
    exact fin (v := V.non) (u := Value.none) J rfl q
  | brk =>
    obtain ⟨_, _, _, q⟩ := hs
    exact False.elim q
  | cont =>
    obtain ⟨_, _, _, q⟩ := hs
    exact False.elim q
end
end NcX
namespace Nn
open PySem L2
def nmAll (l c : Nat) : Str := if l = 95 ∧ c = 4 then (("_law_right" : Str) ++ ".<locals>.") ++ "_law_tells" else if l = 74 ∧ c = 34 then ("_law_by" : Str) ++ ".<locals>." ++ "<lambda>" else ""
end Nn
/-! Steps through readings. -/
namespace Nn
open PySem L2
section
variable {K : PySem.W.Frag} {σ : L2.St} {H : Hp} {ta tb te tc : TE} {t u : TS} {c c' : TT} {D : Ends} {Q : VK} {x y v : V}

theorem cxK {CX : CXT} {P : Program} {w : World} {K : PySem.W.Frag} {mg : Str → Option Value} {base : Heap} {N : List Str} {q : Str} {sc : Scope} {f : Addr} {cd : Value} {A : Around} {outer : List Env} {s : Shared} {H : Hp} {E : XK} :
    (cxOf CX P w K mg base N q sc f cd A outer s H E).nox.K = K := rfl
theorem cxK' {CX : CXT} {P : Program} {w : World} {K : PySem.W.Frag} {mg : Str → Option Value} {base : Heap} {N : List Str} {q : Str} {sc : Scope} {f : Addr} {cd : Value} {A : Around} {outer : List Env} {s : Shared} {H : Hp} {E : XK} :
    (cxOf CX P w K mg base N q sc f cd A outer s H E).K = K := rfl
theorem cxW {CX : CXT} {P : Program} {w : World} {K : PySem.W.Frag} {mg : Str → Option Value} {base : Heap} {N : List Str} {q : Str} {sc : Scope} {f : Addr} {cd : Value} {A : Around} {outer : List Env} {s : Shared} {H : Hp} {E : XK} :
    (cxOf CX P w K mg base N q sc f cd A outer s H E).w = w := rfl
theorem x_seq (h : t { D with nx := u D } σ H) : tSeq t u D σ H := h
theorem x_next (h : D.nx σ H) : tNext D σ H := h
theorem x_asg {g : TG} (h : te σ H fun x H1 => g x σ H1 D.nx) : tAsg te g D σ H := h
theorem x_name {i : Nat} {R : L2.St → Hp → Prop} (h : R (σ.set i (some v)) H) : gName i v σ H R := h
theorem x_ret (h : te σ H D.rt) : tRet te D σ H := h
theorem x_retN (h : D.rt .non H) : tRetN D σ H := h
theorem x_drop (h : te σ H fun _ H1 => D.nx σ H1) : tDrop te D σ H := h
/-- the branches as they stand (not walked until the test is known) -/
def IfS (b : Bool) (t u : TS) (D : Ends) (σ : L2.St) (H : Hp) : Prop := if b = true then t D σ H else u D σ H
theorem x_ifD {p : Prop} [Decidable p] (h1 : p → t D σ H) (h2 : ¬ p → u D σ H) : IfS (decide p) t u D σ H := by
  unfold IfS
  by_cases h : p
  · rw [if_pos (decide_eq_true h)]; exact h1 h
  · rw [if_neg (by simp [h])]; exact h2 h
theorem x_ifN {p : Prop} [Decidable p] (h1 : ¬ p → t D σ H) (h2 : p → u D σ H) : IfS (!decide p) t u D σ H := by
  unfold IfS
  by_cases h : p
  · rw [if_neg (by simp [h])]; exact h2 h
  · rw [if_pos (by simp [h])]; exact h1 h
theorem x_ifB {b : Bool} (h1 : b = true → t D σ H) (h2 : b = false → u D σ H) : IfS b t u D σ H := by
  cases b with
  | true => exact h1 rfl
  | false => exact h2 rfl
theorem x_INs {α : Type} [DecidableEq α] {b : α} (h : u D σ H) : IfS (!decide (b = b)) t u D σ H := by
  rw [decide_eq_true rfl]; exact h
theorem x_IEs {α : Type} [DecidableEq α] {b : α} (h : t D σ H) : IfS (decide (b = b)) t u D σ H := by
  rw [decide_eq_true rfl]; exact h
theorem x_if {tt : TT} (h : tt σ H fun b H1 => if b = true then ta σ H1 Q else tb σ H1 Q) : tIf tt ta tb σ H Q := h
theorem x_var {i : Nat} (e : σ[i]? = some (some v)) (h : Q v H) : tVar i σ H Q := ⟨v, e, h⟩
theorem x_c (h : Q v H) : tC v σ H Q := h
theorem x_op {r : R2} (h : ta σ H fun x H1 => tb σ H1 fun y H2 => r x y H2 Q) : tOp r ta tb σ H Q := h
theorem x_un {r : V → Hp → VK → Prop} (h : ta σ H fun x H1 => r x H1 Q) : tUn r ta σ H Q := h
theorem x_cb {r : List V → Hp → VK → Prop} {ts : TA} (h : ts σ H fun vs H1 => r vs H1 Q) : tCB r ts σ H Q := h
theorem x_nil {R : List V → Hp → Prop} (h : R [] H) : tNil σ H R := h
theorem x_cons {ts : TA} {R : List V → Hp → Prop} (h : ta σ H fun x H1 => ts σ H1 fun xs H2 => R (x :: xs) H2) : tCons ta ts σ H R := h
theorem x_call {sp : Sp} {E : XK} {ts : TA} (h : ts σ H fun vs H1 => sp vs H1 Q E) : tCall sp [] E ts σ H Q := by
  unfold tCall; simpa only [List.append_nil] using h
theorem x_calld {sp : Sp} {E : XK} {ds : List V} {ts : TA} (h : ts σ H fun vs H1 => sp (vs ++ ds) H1 Q E) : tCall sp ds E ts σ H Q := h
theorem x_tup {ts : TA} (h : ts σ H fun xs H1 => xs.length ≤ sizeLine ∧ ∀ p, H1 p = none → Q (.ref p) (upd H1 p (.tup xs))) : tTup ts σ H Q := h
theorem x_lst {ts : TA} (h : ts σ H fun xs H1 => xs.length ≤ sizeLine ∧ ∀ p, H1 p = none → Q (.ref p) (upd H1 p (.lst xs))) : tLst ts σ H Q := h

theorem x_test {R : Bool → Hp → Prop} (h : te σ H fun x H' => ∃ k, x = .bl k ∧ R k H') : tTest te σ H R := h
theorem x_B {R : Bool → Hp → Prop} (h : te σ H fun x H' => ∃ k, x = .bl k ∧ R k H') : tB te σ H R := h
theorem x_bl {R : Bool → Prop} {k : Bool} (h : R k) : ∃ k', V.bl k = V.bl k' ∧ R k' := ⟨k, rfl, h⟩
theorem x_and {R : Bool → Hp → Prop} (h : c σ H fun b H1 => if b = true then c' σ H1 R else R false H1) : tAnd c c' σ H R := h
theorem x_or {R : Bool → Hp → Prop} (h : c σ H fun b H1 => if b = true then R true H1 else c' σ H1 R) : tOr c c' σ H R := h
theorem x_not {R : Bool → Hp → Prop} (h : c σ H fun b H1 => R (!b) H1) : tNot c σ H R := h
theorem x_andV (h : ta σ H fun x H1 => ∃ c, x = .bl c ∧ if c = true then tb σ H1 Q else Q (.bl false) H1) : tAndV ta tb σ H Q := h
theorem x_orV (h : ta σ H fun x H1 => ∃ c, x = .bl c ∧ if c = true then Q (.bl true) H1 else tb σ H1 Q) : tOrV ta tb σ H Q := h
theorem x_notV (h : ta σ H fun x H1 => ∃ c, x = .bl c ∧ Q (.bl (!c)) H1) : tNotV ta σ H Q := h
theorem x_chain {r r' : R2} (h : ta σ H fun x H1 => tb σ H1 fun y H2 => r x y H2 fun z H3 => ∃ k, z = .bl k ∧ if k = true then tc σ H3 fun w H4 => r' y w H4 Q else Q (.bl false) H3) : tChain r r' ta tb tc σ H Q := h

theorem x_i0 {g : Int → Int → V} {i j : Int} (h : Q (g i j) H) : rI0 g (.int i) (.int j) H Q := ⟨i, j, rfl, rfl, h⟩
theorem x_i {C : Int → Int → Prop} {g : Int → Int → V} {i j : Int} (hc : C i j) (h : Q (g i j) H) : rI C g (.int i) (.int j) H Q := ⟨i, j, rfl, rfl, hc, h⟩
theorem x_u {g : Int → V} {i : Int} (h : Q (g i) H) : rU g (.int i) H Q := ⟨i, rfl, h⟩
theorem x_eqI {i j : Int} (h : Q (.bl (decide (i = j))) H) : rEq (.int i) (.int j) H Q := ⟨rfl, by
  have e : decide (V.int i = V.int j) = decide (i = j) := by simp
  rw [e]; exact h⟩
theorem x_neI {i j : Int} (h : Q (.bl (!decide (i = j))) H) : rNe (.int i) (.int j) H Q := ⟨rfl, by
  have e : decide (V.int i = V.int j) = decide (i = j) := by simp
  rw [e]; exact h⟩
theorem x_eqB {i j : Bool} (h : Q (.bl (decide (i = j))) H) : rEq (.bl i) (.bl j) H Q := ⟨rfl, by
  have e : decide (V.bl i = V.bl j) = decide (i = j) := by simp
  rw [e]; exact h⟩
theorem x_neB {i j : Bool} (h : Q (.bl (!decide (i = j))) H) : rNe (.bl i) (.bl j) H Q := ⟨rfl, by
  have e : decide (V.bl i = V.bl j) = decide (i = j) := by simp
  rw [e]; exact h⟩
theorem x_eqS {i j : Str} (h : Q (.bl (decide (i = j))) H) : rEq (.str i) (.str j) H Q := ⟨rfl, by
  have e : decide (V.str i = V.str j) = decide (i = j) := by simp
  rw [e]; exact h⟩
theorem x_neS {i j : Str} (h : Q (.bl (!decide (i = j))) H) : rNe (.str i) (.str j) H Q := ⟨rfl, by
  have e : decide (V.str i = V.str j) = decide (i = j) := by simp
  rw [e]; exact h⟩
theorem x_eq (e : scal x y = true) (h : Q (.bl (decide (x = y))) H) : rEq x y H Q := ⟨e, h⟩
theorem x_ne (e : scal x y = true) (h : Q (.bl (!decide (x = y))) H) : rNe x y H Q := ⟨e, h⟩

theorem x_ite {p A B : Prop} [Decidable p] (h1 : p → A) (h2 : ¬ p → B) : if decide p = true then A else B := by
  by_cases h : p
  · rw [if_pos (decide_eq_true h)]; exact h1 h
  · rw [if_neg (by simp [h])]; exact h2 h
theorem x_iteN {p A B : Prop} [Decidable p] (h1 : ¬ p → A) (h2 : p → B) : if (!decide p) = true then A else B := by
  by_cases h : p
  · rw [if_neg (by simp [h])]; exact h2 h
  · rw [if_pos (by simp [h])]; exact h1 h
theorem x_iteB {b : Bool} {A B : Prop} (h1 : b = true → A) (h2 : b = false → B) : if b = true then A else B := by
  cases b with
  | true => rw [if_pos rfl]; exact h1 rfl
  | false => rw [if_neg Bool.false_ne_true]; exact h2 rfl
theorem x_NEs {α : Type} [DecidableEq α] {b : α} {A B : Prop} (h : B) : if (!decide (b = b)) = true then A else B := by
  rw [decide_eq_true rfl]; exact iteF h
theorem x_Es {α : Type} [DecidableEq α] {b : α} {A B : Prop} (h : A) : if decide (b = b) = true then A else B := by
  rw [decide_eq_true rfl]; exact iteT h
theorem x_T {A B : Prop} (h : A) : if true = true then A else B := iteT h
theorem x_F {A B : Prop} (h : B) : if false = true then A else B := iteF h
theorem x_NT {A B : Prop} (h : B) : if (!true) = true then A else B := iteF h
theorem x_NF {A B : Prop} (h : A) : if (!false) = true then A else B := iteT h

/-! the built-ins' readings -/
theorem x_ixL {p : Addr} {xs : List V} {i : Int} (hS : SqL K H p xs) (e : atI xs i = some v) (h : Q v H) : rIxL K (.ref p) (.int i) H Q := ⟨p, xs, i, v, rfl, rfl, hS, e, h⟩
theorem x_ixT {p : Addr} {xs : List V} {i : Int} (hS : SqT K H p xs) (e : atI xs i = some v) (h : Q v H) : rIxT K (.ref p) (.int i) H Q := ⟨p, xs, i, v, rfl, rfl, hS, e, h⟩
def rAbs : List V → Hp → VK → Prop := fun xs H Q => ∃ i, xs = [.int i] ∧ Q (.int (if i < 0 then -i else i)) H
def rMin2 : List V → Hp → VK → Prop := fun xs H Q => ∃ i j, xs = [.int i, .int j] ∧ Q (.int (if j < i then j else i)) H
def rMax2 : List V → Hp → VK → Prop := fun xs H Q => ∃ i j, xs = [.int i, .int j] ∧ Q (.int (if j > i then j else i)) H
def rLenS (K : PySem.W.Frag) : List V → Hp → VK → Prop := fun xs H Q => ∃ p ys, xs = [.ref p] ∧ (SqL K H p ys ∨ SqT K H p ys) ∧ Q (.int ys.length) H
def rLenD : List V → Hp → VK → Prop := fun xs H Q => ∃ a kvs, xs = [V.ref a] ∧ H a = some (.dK kvs) ∧ Q (.int kvs.length) H
def rLenStr : List V → Hp → VK → Prop := fun xs H Q => ∃ z : Str, xs = [.str z] ∧ z.length ≤ sizeLine ∧ Q (.int z.length) H
def rInt1 : List V → Hp → VK → Prop := fun xs H Q => (∃ i, xs = [.int i] ∧ Q (.int i) H) ∨ ∃ k, xs = [.bl k] ∧ Q (.int (if k then 1 else 0)) H
def rListOf (K : PySem.W.Frag) : List V → Hp → VK → Prop := fun xs H Q => ∃ p ys, xs = [.ref p] ∧ (SqL K H p ys ∨ SqT K H p ys) ∧ ∀ l, H l = none → Q (.ref l) (upd H l (.lst ys))
theorem cb_abs {X : Cx} : CallR X (.builtin "abs") rAbs := call_abs
theorem cb_min2 {X : Cx} (hc : X.calm = true) : CallR X (.builtin "min") rMin2 := call_min2 hc
theorem cb_max2 {X : Cx} (hc : X.calm = true) : CallR X (.builtin "max") rMax2 := call_max2 hc
theorem cb_len {X : Cx} : CallR X (.builtin "len") (rLenS X.K) := call_len_seq
theorem cb_lenD {X : Cx} : CallR X (.builtin "len") rLenD := call_lenD
theorem cb_lenStr {X : Cx} : CallR X (.builtin "len") rLenStr := call_len_str
theorem cb_int {X : Cx} : CallR X (.type "int") rInt1 := call_int1
theorem cb_list {X : Cx} : CallR X (.type "list") (rListOf X.K) := call_list_of
theorem x_abs {i : Int} (h : Q (.int (i.natAbs : Int)) H) : rAbs [.int i] H Q :=
  ⟨i, rfl, by
    have e : (if i < 0 then -i else i) = (i.natAbs : Int) := by split <;> omega
    rw [e]; exact h⟩
theorem x_min2 {i j : Int} (h : Q (.int (min i j)) H) : rMin2 [.int i, .int j] H Q :=
  ⟨i, j, rfl, by
    have e : (if j < i then j else i) = min i j := by split <;> omega
    rw [e]; exact h⟩
theorem x_max2 {i j : Int} (h : Q (.int (max i j)) H) : rMax2 [.int i, .int j] H Q :=
  ⟨i, j, rfl, by
    have e : (if j > i then j else i) = max i j := by split <;> omega
    rw [e]; exact h⟩
theorem x_lenL {p : Addr} {ys : List V} (hS : SqL K H p ys) (h : Q (.int ys.length) H) : rLenS K [.ref p] H Q := ⟨p, ys, rfl, .inl hS, h⟩
theorem x_lenT {p : Addr} {ys : List V} (hS : SqT K H p ys) (h : Q (.int ys.length) H) : rLenS K [.ref p] H Q := ⟨p, ys, rfl, .inr hS, h⟩
theorem x_lenD {p : Addr} {kvs : List (Key × V)} (hS : H p = some (.dK kvs)) (h : Q (.int kvs.length) H) : rLenD [.ref p] H Q := ⟨p, kvs, rfl, hS, h⟩
theorem x_intI {i : Int} (h : Q (.int i) H) : rInt1 [.int i] H Q := .inl ⟨i, rfl, h⟩
theorem x_intB {b : Bool} (h : Q (.int (if b then 1 else 0)) H) : rInt1 [.bl b] H Q := .inr ⟨b, rfl, h⟩
theorem x_listL {p : Addr} {ys : List V} (hS : SqL K H p ys) (h : ∀ l, H l = none → Q (.ref l) (upd H l (.lst ys))) : rListOf K [.ref p] H Q := ⟨p, ys, rfl, .inl hS, h⟩
theorem x_sum {a : Addr} {ns : List Int} (hS : SqL K H a (ns.map V.int)) (h : Q (.int ns.sum) H) : rSum K [.ref a] H Q := ⟨a, ns, rfl, hS, h⟩
/-- isinstance of plain values, against built-in types -/
theorem x_isi {c : V} {t u : Value} {b : Bool} (k : ClsV c u) (ty : TyX K H x t) (e : PySem.W.kitOne K t u = some b) (h : Q (.bl b) H) : rIsi K [x, c] H Q := ⟨x, c, t, u, b, rfl, k, ty, e, h⟩
theorem x_isG {vs : List V} (h : rIsi K vs H Q) : rIsi K vs H Q := h
theorem x_isI_int {i : Int} (h : Q (.bl true) H) : rIsi K [.int i, .ty "int"] H Q := x_isi (.ty "int") (.base (.int i)) (kit_ty (by decide +kernel)) h
theorem x_isI_bool {i : Int} (h : Q (.bl false) H) : rIsi K [.int i, .ty "bool"] H Q := x_isi (.ty "bool") (.base (.int i)) (kit_ty (by decide +kernel)) h
theorem x_isI_str {i : Int} (h : Q (.bl false) H) : rIsi K [.int i, .ty "str"] H Q := x_isi (.ty "str") (.base (.int i)) (kit_ty (by decide +kernel)) h
theorem x_isB_int {c : Bool} (h : Q (.bl true) H) : rIsi K [.bl c, .ty "int"] H Q := x_isi (.ty "int") (.base (.bl c)) (kit_ty (by decide +kernel)) h
theorem x_isB_bool {c : Bool} (h : Q (.bl true) H) : rIsi K [.bl c, .ty "bool"] H Q := x_isi (.ty "bool") (.base (.bl c)) (kit_ty (by decide +kernel)) h
theorem x_isB_str {c : Bool} (h : Q (.bl false) H) : rIsi K [.bl c, .ty "str"] H Q := x_isi (.ty "str") (.base (.bl c)) (kit_ty (by decide +kernel)) h
theorem x_isS_int {z : Str} (h : Q (.bl false) H) : rIsi K [.str z, .ty "int"] H Q := x_isi (.ty "int") (.base (.str z)) (kit_ty (by decide +kernel)) h
theorem x_isS_bool {z : Str} (h : Q (.bl false) H) : rIsi K [.str z, .ty "bool"] H Q := x_isi (.ty "bool") (.base (.str z)) (kit_ty (by decide +kernel)) h
theorem x_isS_str {z : Str} (h : Q (.bl true) H) : rIsi K [.str z, .ty "str"] H Q := x_isi (.ty "str") (.base (.str z)) (kit_ty (by decide +kernel)) h
theorem x_isN_int  (h : Q (.bl false) H) : rIsi K [.non, .ty "int"] H Q := x_isi (.ty "int") (.base .non) (kit_ty (by decide +kernel)) h
theorem x_isN_bool  (h : Q (.bl false) H) : rIsi K [.non, .ty "bool"] H Q := x_isi (.ty "bool") (.base .non) (kit_ty (by decide +kernel)) h
theorem x_isN_str  (h : Q (.bl false) H) : rIsi K [.non, .ty "str"] H Q := x_isi (.ty "str") (.base .non) (kit_ty (by decide +kernel)) h
theorem x_isL_int {a : Addr} {xs : List V} (ha : H a = some (.lst xs)) (h : Q (.bl false) H) : rIsi K [.ref a, .ty "int"] H Q := x_isi (.ty "int") (.base (.lst ha)) (kit_ty (by decide +kernel)) h
theorem x_isL_list {a : Addr} {xs : List V} (ha : H a = some (.lst xs)) (h : Q (.bl true) H) : rIsi K [.ref a, .ty "list"] H Q := x_isi (.ty "list") (.base (.lst ha)) (kit_ty (by decide +kernel)) h
theorem x_isL_tuple {a : Addr} {xs : List V} (ha : H a = some (.lst xs)) (h : Q (.bl false) H) : rIsi K [.ref a, .ty "tuple"] H Q := x_isi (.ty "tuple") (.base (.lst ha)) (kit_ty (by decide +kernel)) h
theorem x_isT_int {a : Addr} {xs : List V} (ha : H a = some (.tup xs)) (h : Q (.bl false) H) : rIsi K [.ref a, .ty "int"] H Q := x_isi (.ty "int") (.base (.tup ha)) (kit_ty (by decide +kernel)) h
theorem x_isT_list {a : Addr} {xs : List V} (ha : H a = some (.tup xs)) (h : Q (.bl false) H) : rIsi K [.ref a, .ty "list"] H Q := x_isi (.ty "list") (.base (.tup ha)) (kit_ty (by decide +kernel)) h
theorem x_isT_tuple {a : Addr} {xs : List V} (ha : H a = some (.tup xs)) (h : Q (.bl true) H) : rIsi K [.ref a, .ty "tuple"] H Q := x_isi (.ty "tuple") (.base (.tup ha)) (kit_ty (by decide +kernel)) h
theorem x_isD_int {a : Addr} {kvs : List (Key × V)} (ha : H a = some (.dK kvs)) (h : Q (.bl false) H) : rIsi K [.ref a, .ty "int"] H Q := x_isi (.ty "int") (.base (.dK ha)) (kit_ty (by decide +kernel)) h
theorem x_isD_list {a : Addr} {kvs : List (Key × V)} (ha : H a = some (.dK kvs)) (h : Q (.bl false) H) : rIsi K [.ref a, .ty "list"] H Q := x_isi (.ty "list") (.base (.dK ha)) (kit_ty (by decide +kernel)) h
theorem x_isD_tuple {a : Addr} {kvs : List (Key × V)} (ha : H a = some (.dK kvs)) (h : Q (.bl false) H) : rIsi K [.ref a, .ty "tuple"] H Q := x_isi (.ty "tuple") (.base (.dK ha)) (kit_ty (by decide +kernel)) h

/-! heaps that grow -/
/-- no table of code objects (these grow where a def is made within a def) -/
def NT : HO → Prop | .tbl _ => False | _ => True
/-- no table, nothing told by its object -/
def NX : HO → Prop | .tbl _ => False | .ext _ => False | _ => True
theorem NX.nt {o : HO} (h : NX o) : NT o := by cases o <;> first | trivial | exact h
/-- all but what S names stays; tables stay tables; nothing is lost -/
structure Fr (S : Addr → Prop) (H H' : Hp) : Prop where
  keep : ∀ a o, H a = some o → NT o → ¬ S a → H' a = some o
  tab : ∀ P, NdefX.TabN H P nmAll → NdefX.TabN H' P nmAll
  back : ∀ a, H' a = none → H a = none
abbrev Ex (H H' : Hp) : Prop := Fr (fun _ => False) H H'
theorem atI_hd {x : V} {r : List V} : atI (x :: r) 0 = some x := atI_nat (xs := x :: r) (j := 0) rfl
theorem at_new {H : Hp} {p a : Addr} {o u : HO} (h : H p = none) (k : H a = some u) : upd H p o a = some u := by rw [upd_ne (ne_of_none k h)]; exact k
theorem at_upd {H : Hp} {p a : Addr} {o u v : HO} (h : H p = some v) (k : H a = some u) (d : v ≠ u) : upd H p o a = some u := by rw [upd_ne (ne_of k h (Ne.symm d))]; exact k
theorem Ex.at {H H' : Hp} {a : Addr} {o : HO} (e : Ex H H') (h : H a = some o) (n : NT o := by trivial) : H' a = some o := e.keep a o h n id
theorem Fr.at {S : Addr → Prop} {H H' : Hp} {a : Addr} {o : HO} (e : Fr S H H') (h : H a = some o) (hs : ¬ S a) (n : NT o := by trivial) : H' a = some o := e.keep a o h n hs
theorem Fr.refl {S : Addr → Prop} {H : Hp} : Fr S H H := ⟨fun _ _ h _ _ => h, fun _ h => h, fun _ h => h⟩
theorem Ex.refl {H : Hp} : Ex H H := Fr.refl
theorem Ex.trans {H H1 H2 : Hp} (a : Ex H H1) (b : Ex H1 H2) : Ex H H2 := ⟨fun x o h n _ => b.at (a.at h n) n, fun P h => b.tab P (a.tab P h), fun x h => a.back x (b.back x h)⟩
theorem Fr.trans {S : Addr → Prop} {H H1 H2 : Hp} (a : Fr S H H1) (b : Fr S H1 H2) : Fr S H H2 := ⟨fun x o h n s => b.keep x o (a.keep x o h n s) n s, fun P h => b.tab P (a.tab P h), fun x h => a.back x (b.back x h)⟩
theorem Fr.mono {S S' : Addr → Prop} {H H1 : Hp} (a : Fr S H H1) (h : ∀ x, S x → S' x) : Fr S' H H1 := ⟨fun x o e n s => a.keep x o e n fun z => s (h x z), a.tab, a.back⟩
theorem Ex.fr {S : Addr → Prop} {H H1 : Hp} (a : Ex H H1) : Fr S H H1 := Fr.mono a fun _ z => z.elim
/-- of what S names, all is newer than H -/
theorem Fr.ex {S : Addr → Prop} {H H0 H1 : Hp} (a : Fr S H H1) (e : Ex H0 H) (h : ∀ x, S x → H0 x = none) : Ex H0 H1 :=
  ⟨fun x o q n _ => a.keep x o (e.at q n) n fun z => (by rw [h x z] at q; cases q), fun P q => a.tab P (e.tab P q), fun x q => e.back x (a.back x q)⟩
theorem upd_back {H : Hp} {p x : Addr} {o : HO} (h : upd H p o x = none) : H x = none := by
  unfold upd at h
  split at h
  · cases h
  · exact h
theorem Ex.new {H : Hp} {p : Addr} {o : HO} (h : H p = none) : Ex H (upd H p o) :=
  ⟨fun a u e _ _ => by rw [upd_ne (ne_of_none e h)]; exact e, fun P t => t.ext fun b u e => by rw [upd_ne (ne_of_none e h)]; exact e, fun _ z => upd_back z⟩
theorem Ex.newT {H H1 : Hp} {p : Addr} {o : HO} (a : Ex H H1) (h : H1 p = none) : Ex H (upd H1 p o) := a.trans (Ex.new h)
/-- one object is changed -/
theorem Fr.upd1 {H : Hp} {p : Addr} {o u : HO} (h : H p = some u) (hu : NX u := by trivial) : Fr (fun a => a = p) H (upd H p o) :=
  ⟨fun a v e _ s => by rw [upd_ne s]; exact e, fun P ⟨ps, h1, h2, h3⟩ => by
    have nP : P ≠ p := fun z => by rw [z, h] at h1; cases h1; exact hu
    refine ⟨ps, by rw [upd_ne nP]; exact h1, h2, fun pos cv hc => ?_⟩
    obtain ⟨c, e1, e2⟩ := h3 pos cv hc
    have nc : c ≠ p := fun z => by
      rw [z, h] at e2
      have e2 := Option.some.inj e2
      rw [e2] at hu
      exact hu
    exact ⟨c, e1, by rw [upd_ne nc]; exact e2⟩, fun _ z => upd_back z⟩
/-- an object that H does not know may change -/
theorem Ex.mut {H H' : Hp} {p : Addr} {o u : HO} (e : Ex H H') (h : H p = none) (h' : H' p = some u) (hu : NX u := by trivial) : Ex H (upd H' p o) :=
  (Fr.upd1 h' hu).ex e fun x z => by rw [z]; exact h
theorem Ex.ls {H H' : Hp} {a : Addr} {xs : List V} (e : Ex H H') (h : SqL K H a xs) : SqL K H' a xs := by
  rcases h with (h | ⟨o, h⟩) | h
  · exact .inl (.inl (e.at h))
  · exact .inl (.inr ⟨o, e.at h⟩)
  · exact .inr h
theorem Ex.tu {H H' : Hp} {a : Addr} {xs : List V} (e : Ex H H') (h : SqT K H a xs) : SqT K H' a xs := by
  rcases h with (h | ⟨o, h⟩) | h
  · exact .inl (.inl (e.at h))
  · exact .inl (.inr ⟨o, e.at h⟩)
  · exact .inr h

/-! loops -/
def ForW (g : TG) (tb : TS) (D : Ends) (J : It) (σ : L2.St) (H : Hp) : Prop := ∃ W : Nat → Nat → L2.St → Hp → Prop, (∃ m, W 0 m σ H) ∧ ∀ i m σ H, W i m σ H →
  (J.stop i H ∧ D.nx σ H) ∨ (J.go i H ∧ ∃ N : L2.St → Hp → Prop, (∀ σ' H', N σ' H' → ∃ m', m' < m ∧ W (i + 1) m' σ' H') ∧ ∀ x H', J.yld i H x H' → g x σ H' fun σ2 H2 => tb { D with nx := N, ct := N, bk := D.nx } σ2 H2)
theorem x_for {wi : TI} {g : TG} {tb : TS} (h : wi σ H fun J H1 => ForW g tb D J σ H1) : tFor wi g tb D σ H := h
theorem ForW.by {J : It} {n : Nat} {G : Hp → Prop} {Y : Nat → Hp → V → Hp → Prop} (w : Walk J n G Y) {g : TG} {tb : TS} (Pv : Nat → L2.St → Hp → Prop) (h0 : Pv 0 σ H) (hG : ∀ i σ H, i ≤ n → Pv i σ H → G H)
    (hs : ∀ i x σ H H', i < n → Pv i σ H → Y i H x H' → g x σ H' fun σ2 H2 => tb { D with nx := Pv (i + 1), ct := Pv (i + 1), bk := D.nx } σ2 H2) (hd : ∀ σ H, Pv n σ H → D.nx σ H) : ForW g tb D J σ H :=
  for_it w Pv h0 hG hs hd
def Rg1 (R : It → Hp → Prop) : List V → Hp → Prop := fun vs H1 => ∃ j : Int, vs = [.int j] ∧ -(2 ^ 62) ≤ j ∧ j < 2 ^ 62 ∧ R (Itr 0 j.toNat) H1
def Rg2 (R : It → Hp → Prop) : List V → Hp → Prop := fun vs H1 => ∃ i j : Int, vs = [.int i, .int j] ∧ (-(2 ^ 62) ≤ i ∧ i < 2 ^ 62 ∧ -(2 ^ 62) ≤ j ∧ j < 2 ^ 62) ∧ R (Itr i (j - i).toNat) H1
def RiL (K : PySem.W.Frag) (R : It → Hp → Prop) : VK := fun x H1 => ∃ a, x = .ref a ∧ (∃ xs, SqL K H1 a xs) ∧ R (Itl K a) H1
def RiT (K : PySem.W.Frag) (R : It → Hp → Prop) : VK := fun x H1 => ∃ a, x = .ref a ∧ (∃ xs, SqT K H1 a xs) ∧ R (Itt K a) H1
def RiE (K : PySem.W.Frag) (R : It → Hp → Prop) : List V → Hp → Prop := fun vs H1 => ∃ a xs, vs = [.ref a] ∧ SqL K H1 a xs ∧ R (Ite K a) H1
def RiZ (K : PySem.W.Frag) (R : It → Hp → Prop) : List V → Hp → Prop := fun vs H1 => ∃ a b xs ys, vs = [.ref a, .ref b] ∧ SqL K H1 a xs ∧ SqL K H1 b ys ∧ R (Itz K a b) H1
theorem x_rng1 {ts : TA} {R : It → Hp → Prop} (h : ts σ H (Rg1 R)) : iRng1 ts σ H R := h
theorem x_rng2 {ts : TA} {R : It → Hp → Prop} (h : ts σ H (Rg2 R)) : iRng2 ts σ H R := h
theorem x_rgN {m : Nat} {R : It → Hp → Prop} (hm : (m : Int) < 2 ^ 62) (h : R (Itr 0 m) H) : Rg1 R [V.int (m : Int)] H :=
  ⟨m, rfl, by omega, hm, by rw [Int.toNat_natCast]; exact h⟩
theorem walk_rgN {n : Nat} : Walk (Itr 0 n) n (fun _ => True) (YFn fun i => .int i) :=
  ⟨fun _ _ hi _ => hi, fun _ _ => Nat.le_refl _, fun _ _ _ _ _ _ y => ⟨y.1, by rw [y.2]; simp⟩⟩
theorem x_iList {R : It → Hp → Prop} (h : ta σ H (RiL K R)) : iList K ta σ H R := h
theorem x_iTup {R : It → Hp → Prop} (h : ta σ H (RiT K R)) : iTup K ta σ H R := h
theorem x_itL {a : Addr} {xs : List V} {R : It → Hp → Prop} (hS : SqL K H a xs) (h : R (Itl K a) H) : RiL K R (.ref a) H := ⟨a, rfl, ⟨xs, hS⟩, h⟩
theorem x_itT {a : Addr} {xs : List V} {R : It → Hp → Prop} (hS : SqT K H a xs) (h : R (Itt K a) H) : RiT K R (.ref a) H := ⟨a, rfl, ⟨xs, hS⟩, h⟩
theorem x_iEnum {ts : TA} {R : It → Hp → Prop} (h : ts σ H (RiE K R)) : iEnum K ts σ H R := h
theorem x_enL {a : Addr} {xs : List V} {R : It → Hp → Prop} (hS : SqL K H a xs) (h : R (Ite K a) H) : RiE K R [.ref a] H := ⟨a, xs, rfl, hS, h⟩
theorem x_iZip {ts : TA} {R : It → Hp → Prop} (h : ts σ H (RiZ K R)) : iZip K ts σ H R := h
theorem x_ziL {a b : Addr} {xs ys : List V} {R : It → Hp → Prop} (hS : SqL K H a xs) (hS2 : SqL K H b ys) (h : R (Itz K a b) H) : RiZ K R [.ref a, .ref b] H := ⟨a, b, xs, ys, rfl, hS, hS2, h⟩
theorem x_gTup {n : Nat} {gs : TGs} {R : L2.St → Hp → Prop} {a : Addr} {xs : List V} (hT : SqT K H a xs) (hl : xs.length = n) (h : gs xs σ H R) : gTup K n gs (.ref a) σ H R := ⟨a, xs, rfl, hT, hl, h⟩
theorem x_gCons {g : TG} {gs : TGs} {R : L2.St → Hp → Prop} {xs : List V} (h : g v σ H fun σ' H' => gs xs σ' H' R) : gCons g gs (v :: xs) σ H R := ⟨v, xs, rfl, h⟩
theorem x_gNil {R : L2.St → Hp → Prop} (h : R σ H) : gNil [] σ H R := ⟨rfl, h⟩
/-- a while's turn, or its end -/
def WhS (W : Nat → L2.St → Hp → Prop) (m : Nat) (t : TS) (D : Ends) (b : Bool) (σ : L2.St) (H : Hp) : Prop :=
  if b = true then ∃ N : L2.St → Hp → Prop, (∀ σ' H', N σ' H' → ∃ m', m' < m ∧ W m' σ' H') ∧ t { D with nx := N, ct := N, bk := D.nx } σ H else D.nx σ H
def Less (W : Nat → L2.St → Hp → Prop) (m : Nat) (σ' : L2.St) (H' : Hp) : Prop := ∃ m', m' < m ∧ W m' σ' H'
theorem x_while {W : Nat → L2.St → Hp → Prop} {m : Nat} (h0 : W m σ H) (hs : ∀ m σ H, W m σ H → c σ H fun b H1 => WhS W m t D b σ H1) : tWhile c t D σ H :=
  ⟨W, ⟨m, h0⟩, hs⟩
theorem x_whT {W : Nat → L2.St → Hp → Prop} {m : Nat} (h : t { D with nx := Less W m, ct := Less W m, bk := D.nx } σ H) : WhS W m t D true σ H := by
  unfold WhS; rw [if_pos rfl]; exact ⟨_, fun _ _ h => h, h⟩
theorem x_whF {W : Nat → L2.St → Hp → Prop} {m : Nat} (h : D.nx σ H) : WhS W m t D false σ H := by
  unfold WhS; rw [if_neg Bool.false_ne_true]; exact h
theorem x_whD {W : Nat → L2.St → Hp → Prop} {m : Nat} {p : Prop} [Decidable p] (h1 : p → t { D with nx := Less W m, ct := Less W m, bk := D.nx } σ H) (h2 : ¬ p → D.nx σ H) : WhS W m t D (decide p) σ H := by
  by_cases h : p
  · rw [decide_eq_true h]; exact x_whT (h1 h)
  · rw [decide_eq_false h]; exact x_whF (h2 h)
def RAug (f : Int → Int → Int) (i : Nat) (x : V) (R : L2.St → Hp → Prop) (σ : L2.St) : VK := fun y H => ipI f x y H fun z H2 => R (σ.set i (some z)) H2
theorem x_augI {f : Int → Int → Int} {i : Nat} {k j : Int} {R : L2.St → Hp → Prop} (h : R (σ.set i (some (.int (f k j)))) H) : RAug f i (.int k) R σ (.int j) H := ⟨k, j, rfl, rfl, h⟩
theorem x_aug2 {i : Nat} {f : Int → Int → Int} (e : σ[i]? = some (some x)) (h : te σ H (RAug f i x D.nx σ)) : tAug i te (ipI f) D σ H := ⟨x, e, h⟩
/-- what follows a statement is shown once, from Mid -/
theorem x_cut (Mid : L2.St → Hp → Prop) (h : t { D with nx := Mid } σ H) (k : ∀ σ' H', Mid σ' H' → u D σ' H') : C8.tCut t u D σ H := ⟨Mid, h, k⟩
theorem x_aug {i : Nat} {ti : TIp} (e : σ[i]? = some (some x)) (h : te σ H fun y H1 => ti x y H1 fun z H2 => D.nx (σ.set i (some z)) H2) : tAug i te ti D σ H := ⟨x, e, h⟩

/-! methods of lists -/
theorem x_bm {T : String} {r : V → List V → Hp → VK → Prop} {ts : TA} (h : ta σ H fun x H1 => tyV K T x H1 ∧ ts σ H1 fun xs H2 => r x xs H2 Q) : tBM K T r ta ts σ H Q := h
theorem x_bm0 {T : String} {r : V → List V → Hp → VK → Prop} (h : ta σ H fun x H1 => tyV K T x H1 ∧ r x [] H1 Q) : tBM0 K T r ta σ H Q := h
theorem x_tyL {p : Addr} {xs : List V} {R : Prop} (hS : SqL K H p xs) (h : R) : tyV K "list" (.ref p) H ∧ R := ⟨.inl ⟨rfl, xs, hS⟩, h⟩
theorem x_append {l : Addr} {xs : List V} (hl : H l = some (.lst xs)) (hz : xs.length < sizeLine) (h : Q .non (upd H l (.lst (xs ++ [y])))) : rAppend (.ref l) [y] H Q := ⟨l, xs, y, rfl, rfl, hl, hz, h⟩

/-! operators of our own -/
theorem opr_imp {X : Cx} {f : Value → Value → Sem Value} {r r' : R2} (h : OpR X f r) (hi : ∀ x y H Q, r' x y H Q → r x y H Q) : OpR X f r' :=
  fun pins s σ H x y v u Q I rx ry hw => h pins s σ H x y v u Q I rx ry (hi x y H Q hw)
def rShl1 : R2 := fun x y H Q => ∃ k : Nat, x = .int 1 ∧ y = .int (k : Int) ∧ k ≤ 134217727 ∧ Q (.int ((2 ^ k : Nat) : Int)) H
theorem op_shl1 {X : Cx} : OpR X (binaryOp .LShift) rShl1 := opr_imp op_oneShl fun x y H Q ⟨k, h1, h2, h3, q⟩ => ⟨k, h1, h2, h3, by
  have e : ((2 ^ k : Nat) : Int) = 2 ^ k := by simp
  rw [← e]; exact q⟩
theorem x_shl1 {j : Int} {k : Nat} (hj : j = k) (hk : k ≤ 134217727) (h : Q (.int ((2 ^ k : Nat) : Int)) H) : rShl1 (.int 1) (.int j) H Q := ⟨k, rfl, by rw [hj], hk, h⟩
def rShrN : R2 := fun x y H Q => ∃ n k : Nat, x = .int n ∧ y = .int k ∧ Q (.int ((n / 2 ^ k : Nat) : Int)) H
def rShlN : R2 := fun x y H Q => ∃ n k : Nat, x = .int n ∧ y = .int k ∧ n < 2 ^ 64 ∧ k ≤ 1000000 ∧ Q (.int ((n * 2 ^ k : Nat) : Int)) H
def rXorN : R2 := fun x y H Q => ∃ n k : Nat, x = .int n ∧ y = .int k ∧ Q (.int ((n ^^^ k : Nat) : Int)) H
theorem op_shrN' {X : Cx} : OpR X (binaryOp .RShift) rShrN := opr_imp op_shr fun x y H Q ⟨n, k, h1, h2, q⟩ => ⟨n, k, h1, h2, by omega, by
  have e : ((n / 2 ^ k : Nat) : Int) = (n : Int) / 2 ^ (k : Int).toNat := by simp
  show Q (.int ((n : Int) / 2 ^ (k : Int).toNat)) H
  rw [← e]; exact q⟩
theorem op_shlN' {X : Cx} : OpR X (binaryOp .LShift) rShlN := opr_imp op_shl fun x y H Q ⟨n, k, h1, h2, h3, h4, q⟩ => ⟨n, k, h1, h2, ⟨by omega, by omega, by omega⟩, by
  have e : ((n * 2 ^ k : Nat) : Int) = (n : Int) * 2 ^ (k : Int).toNat := by simp
  show Q (.int ((n : Int) * 2 ^ (k : Int).toNat)) H
  rw [← e]; exact q⟩
theorem op_xorN {X : Cx} : OpR X (binaryOp .BitXor) rXorN := opr_imp op_xor fun x y H Q ⟨n, k, h1, h2, q⟩ => ⟨n, k, h1, h2, by
  show Q (.int (Builtin.bitXor n k)) H
  rw [Bits.bitXor_pp (Int.natCast_nonneg _) (Int.natCast_nonneg _)]; exact q⟩
theorem x_shrN {i j : Int} {n k : Nat} (hi : i = n) (hj : j = k) (h : Q (.int ((n / 2 ^ k : Nat) : Int)) H) : rShrN (.int i) (.int j) H Q := ⟨n, k, by rw [hi], by rw [hj], h⟩
theorem x_shlN {i j : Int} {n k : Nat} (hi : i = n) (hj : j = k) (hn : n < 2 ^ 64) (hk : k ≤ 1000000) (h : Q (.int ((n * 2 ^ k : Nat) : Int)) H) : rShlN (.int i) (.int j) H Q := ⟨n, k, by rw [hi], by rw [hj], hn, hk, h⟩
theorem x_xorN {i j : Int} {n k : Nat} (hi : i = n) (hj : j = k) (h : Q (.int ((n ^^^ k : Nat) : Int)) H) : rXorN (.int i) (.int j) H Q := ⟨n, k, by rw [hi], by rw [hj], h⟩
def rBits (Q : VK) : VK := fun x H1 => ∃ i, x = .int i ∧ Q (.int (Builtin.Int.intBits i : Nat)) H1
theorem e_bits : tBits ta σ H Q = ta σ H (rBits Q) := rfl
theorem x_bits {n : Nat} (h : Q (.int ((if n = 0 then 0 else n.log2 + 1 : Nat) : Int)) H) : rBits Q (.int (n : Int)) H := ⟨n, rfl, by
  have e : Builtin.Int.intBits (n : Int) = if n = 0 then 0 else n.log2 + 1 := by unfold Builtin.Int.intBits; simp
  rw [e]; exact h⟩
theorem two_pos {k : Nat} : (0 : Int) < ((2 ^ k : Nat) : Int) := by
  have := Nat.two_pow_pos k
  omega
theorem mod_two_lt {z : Int} {k : Nat} : ∃ r : Nat, r < 2 ^ k ∧ z % ((2 ^ k : Nat) : Int) = r := by
  have h0 := two_pos (k := k)
  have h1 := Int.emod_nonneg z (Int.ne_of_gt h0)
  have h2 := Int.emod_lt_of_pos z h0
  exact ⟨(z % ((2 ^ k : Nat) : Int)).toNat, by omega, by omega⟩
theorem div_two_cast {k : Nat} (z : Int) : z / 2 ^ (k : Int).toNat = z / ((2 ^ k : Nat) : Int) := by simp

/-! within a comprehension: the constants told -/
section
variable {X : Cx} {K : PySem.W.Frag}
theorem op_eqDK (hu : X.A.units + 64 < cLine) (h : X.K = K) : OpR X (compareOp .Eq) (rEqD K) := h ▸ op_eqD hu
theorem op_neDK (hu : X.A.units + 64 < cLine) (h : X.K = K) : OpR X (compareOp .NotEq) (rNeD K) := h ▸ op_neD hu
theorem op_inK (h : X.K = K) : OpR X (compareOp .In) (rIn K false) := h ▸ op_in_seq
theorem op_notInK (h : X.K = K) : OpR X (compareOp .NotIn) (rIn K true) := h ▸ op_notIn_seq
theorem sl_listK (h : X.K = K) : SlR X (rSlL K) := h ▸ sl_list
theorem ix_listK (h : X.K = K) : IxR X (rIxL K) := h ▸ ix_list
theorem ix_tupK (h : X.K = K) : IxR X (rIxT K) := h ▸ ix_tup
theorem cb_lenK (h : X.K = K) : CallR X (.builtin "len") (rLenS K) := h ▸ cb_len
theorem call_isiK (h : X.K = K) : CallR X (.builtin "isinstance") (rIsi K) := h ▸ call_isi
end
/-! the definitional ones as equations, for dsimp -/
section
variable {K : PySem.W.Frag} {σ : L2.St} {H : Hp} {ta tb te tc : TE} {t u : TS} {c c' : TT} {D : Ends} {Q : VK} {x y v : V} {o : Option V}
theorem e_seq : tSeq t u D σ H = t { D with nx := u D } σ H := rfl
theorem e_next : tNext D σ H = D.nx σ H := rfl
theorem e_asg {g : TG} : tAsg te g D σ H = te σ H fun x H1 => g x σ H1 D.nx := rfl
theorem e_name {i : Nat} {R : L2.St → Hp → Prop} : gName i v σ H R = R (σ.set i (some v)) H := rfl
theorem e_ret : tRet te D σ H = te σ H D.rt := rfl
theorem e_retN : tRetN D σ H = D.rt .non H := rfl
theorem e_drop : tDrop te D σ H = te σ H fun _ H1 => D.nx σ H1 := rfl
theorem e_ifS : tIfS c t u D σ H = c σ H fun b H1 => IfS b t u D σ H1 := rfl
theorem e_IT : IfS true t u D σ H = t D σ H := rfl
theorem e_IF : IfS false t u D σ H = u D σ H := rfl
theorem e_INT : IfS (!true) t u D σ H = u D σ H := rfl
theorem e_INF : IfS (!false) t u D σ H = t D σ H := rfl
theorem e_if {tt : TT} : tIf tt ta tb σ H Q = tt σ H fun b H1 => if b = true then ta σ H1 Q else tb σ H1 Q := rfl
theorem e_varS {i : Nat} : tVar (i + 1) (o :: σ) H Q = tVar i σ H Q := rfl
theorem e_c : tC v σ H Q = Q v H := rfl
theorem e_op {r : R2} : tOp r ta tb σ H Q = ta σ H fun x H1 => tb σ H1 fun y H2 => r x y H2 Q := rfl
theorem e_un {r : V → Hp → VK → Prop} : tUn r ta σ H Q = ta σ H fun x H1 => r x H1 Q := rfl
theorem e_cb {r : List V → Hp → VK → Prop} {ts : TA} : tCB r ts σ H Q = ts σ H fun vs H1 => r vs H1 Q := rfl
theorem e_nil {R : List V → Hp → Prop} : tNil σ H R = R [] H := rfl
theorem e_cons {ts : TA} {R : List V → Hp → Prop} : tCons ta ts σ H R = ta σ H fun x H1 => ts σ H1 fun xs H2 => R (x :: xs) H2 := rfl
theorem e_test {R : Bool → Hp → Prop} : tTest te σ H R = te σ H fun x H' => ∃ k, x = .bl k ∧ R k H' := rfl
theorem e_B {R : Bool → Hp → Prop} : tB te σ H R = te σ H fun x H' => ∃ k, x = .bl k ∧ R k H' := rfl
theorem e_and {R : Bool → Hp → Prop} : tAnd c c' σ H R = c σ H fun b H1 => if b = true then c' σ H1 R else R false H1 := rfl
theorem e_or {R : Bool → Hp → Prop} : tOr c c' σ H R = c σ H fun b H1 => if b = true then R true H1 else c' σ H1 R := rfl
theorem e_not {R : Bool → Hp → Prop} : tNot c σ H R = c σ H fun b H1 => R (!b) H1 := rfl
theorem e_andV : tAndV ta tb σ H Q = ta σ H fun x H1 => ∃ c, x = .bl c ∧ if c = true then tb σ H1 Q else Q (.bl false) H1 := rfl
theorem e_orV : tOrV ta tb σ H Q = ta σ H fun x H1 => ∃ c, x = .bl c ∧ if c = true then Q (.bl true) H1 else tb σ H1 Q := rfl
theorem e_notV : tNotV ta σ H Q = ta σ H fun x H1 => ∃ c, x = .bl c ∧ Q (.bl (!c)) H1 := rfl
theorem e_chain {r r' : R2} : tChain r r' ta tb tc σ H Q = ta σ H fun x H1 => tb σ H1 fun y H2 => r x y H2 fun z H3 => ∃ k, z = .bl k ∧ if k = true then tc σ H3 fun w H4 => r' y w H4 Q else Q (.bl false) H3 := rfl
theorem e_for {wi : TI} {g : TG} {tb : TS} : tFor wi g tb D σ H = wi σ H fun J H1 => ForW g tb D J σ H1 := rfl
theorem e_rng1 {ts : TA} {R : It → Hp → Prop} : iRng1 ts σ H R = ts σ H (Rg1 R) := rfl
theorem e_rng2 {ts : TA} {R : It → Hp → Prop} : iRng2 ts σ H R = ts σ H (Rg2 R) := rfl
theorem e_iList {R : It → Hp → Prop} : iList K ta σ H R = ta σ H (RiL K R) := rfl
theorem e_iTup {R : It → Hp → Prop} : iTup K ta σ H R = ta σ H (RiT K R) := rfl
theorem e_iEnum {ts : TA} {R : It → Hp → Prop} : iEnum K ts σ H R = ts σ H (RiE K R) := rfl
theorem e_iZip {ts : TA} {R : It → Hp → Prop} : iZip K ts σ H R = ts σ H (RiZ K R) := rfl
theorem e_bm {T : String} {r : V → List V → Hp → VK → Prop} {ts : TA} : tBM K T r ta ts σ H Q = ta σ H fun x H1 => tyV K T x H1 ∧ ts σ H1 fun xs H2 => r x xs H2 Q := rfl
theorem e_bm0 {T : String} {r : V → List V → Hp → VK → Prop} : tBM0 K T r ta σ H Q = ta σ H fun x H1 => tyV K T x H1 ∧ r x [] H1 Q := rfl
theorem e_tup {ts : TA} : tTup ts σ H Q = ts σ H fun xs H1 => xs.length ≤ sizeLine ∧ ∀ p, H1 p = none → Q (.ref p) (upd H1 p (.tup xs)) := rfl
theorem e_lst {ts : TA} : tLst ts σ H Q = ts σ H fun xs H1 => xs.length ≤ sizeLine ∧ ∀ p, H1 p = none → Q (.ref p) (upd H1 p (.lst xs)) := rfl
theorem e_calld {sp : Sp} {E : XK} {ds : List V} {ts : TA} : tCall sp ds E ts σ H Q = ts σ H fun vs H1 => sp (vs ++ ds) H1 Q E := rfl
theorem e_T {A B : Prop} : (if true = true then A else B) = A := rfl
theorem e_F {A B : Prop} : (if false = true then A else B) = B := rfl
theorem e_NT {A B : Prop} : (if (!true) = true then A else B) = B := rfl
theorem e_NF {A B : Prop} : (if (!false) = true then A else B) = A := rfl
theorem x_v0 (h : Q v H) : tVar 0 (some v :: σ) H Q := ⟨v, rfl, h⟩
end
/-! pairs that an iterator lays -/
def YPairE (xs ys : Nat → Option V) : Nat → Hp → V → Hp → Prop := fun i H v H' => ∃ T x y, v = .ref T ∧ H T = none ∧ Ex H H' ∧ H' T = some (.tup [x, y]) ∧ xs i = some x ∧ ys i = some y
theorem YPair.e {xs ys : Nat → Option V} {i : Nat} {H : Hp} {v : V} {H' : Hp} (h : YPair xs ys i H v H') : YPairE xs ys i H v H' := by
  obtain ⟨T, x, y, h1, h2, rfl, h4, h5⟩ := h
  exact ⟨T, x, y, h1, h2, Ex.new h2, upd_same, h4, h5⟩
theorem walk_enumE {K : PySem.W.Frag} {a : Addr} {xs : List V} : Walk (Ite K a) xs.length (fun H => SqL K H a xs) (YPairE (fun i => some (.int (i : Nat))) (fun i => xs[i]?)) :=
  walk_enum.mono (fun _ h => h) fun _ _ _ _ _ _ y => YPair.e y
theorem walk_zipE {K : PySem.W.Frag} {a b : Addr} {xs ys : List V} {n : Nat} (hn : n = min xs.length ys.length) : Walk (Itz K a b) n (fun H => SqL K H a xs ∧ SqL K H b ys) (YPairE (fun i => xs[i]?) (fun i => ys[i]?)) :=
  (walk_zip hn).mono (fun _ h => h) fun _ _ _ _ _ _ y => YPair.e y

/-! equality of lists of ints -/
abbrev nV (n : Nat) : V := .int (n : Int)
theorem eqv_ints : ∀ (xs ys : List Int), PyData.eqv (.list (xs.map PyData.int)) (.list (ys.map PyData.int)) = decide (xs = ys)
  | [], [] => rfl
  | [], _ :: _ => rfl
  | _ :: _, [] => rfl
  | x :: xs, y :: ys => by
    have ih := eqv_ints xs ys
    have e : PyData.eqv (.list ((x :: xs).map PyData.int)) (.list ((y :: ys).map PyData.int)) = (decide (x = y) && PyData.eqv (.list (xs.map PyData.int)) (.list (ys.map PyData.int))) := by
      show PyData.eqvAll _ _ = _
      rfl
    rw [e, ih]
    by_cases h : x = y <;> by_cases h2 : xs = ys <;> simp [h, h2]
theorem dpAll_ints {K : PySem.W.Frag} {H : Hp} : ∀ xs : List Int, DpAll K H (xs.map V.int) (xs.map PyData.int)
  | [] => .nil
  | x :: xs => .cons (.int x) (dpAll_ints xs)
theorem shaped_ints (xs : List Int) : SeqAt.shaped (.list (xs.map PyData.int)) = true := by
  induction xs with
  | nil => rfl
  | cons x xs ih =>
    exact ih
theorem eqv_bools : ∀ (xs ys : List Bool), PyData.eqv (.list (xs.map PyData.bool)) (.list (ys.map PyData.bool)) = decide (xs = ys)
  | [], [] => rfl
  | [], _ :: _ => rfl
  | _ :: _, [] => rfl
  | x :: xs, y :: ys => by
    have ih := eqv_bools xs ys
    have e : PyData.eqv (.list ((x :: xs).map PyData.bool)) (.list ((y :: ys).map PyData.bool)) = ((x == y) && PyData.eqv (.list (xs.map PyData.bool)) (.list (ys.map PyData.bool))) := by
      show PyData.eqvAll _ _ = _
      rfl
    rw [e, ih]
    by_cases h : x = y <;> by_cases h2 : xs = ys <;> simp [h, h2]
theorem dpAll_bools {K : PySem.W.Frag} {H : Hp} : ∀ xs : List Bool, DpAll K H (xs.map V.bl) (xs.map PyData.bool)
  | [] => .nil
  | x :: xs => .cons (.bl x) (dpAll_bools xs)
theorem shaped_bools (xs : List Bool) : SeqAt.shaped (.list (xs.map PyData.bool)) = true := by
  induction xs with
  | nil => rfl
  | cons x xs ih => exact ih
theorem x_eqLB {K : PySem.W.Frag} {H : Hp} {Q : VK} {a b : Addr} {xs ys : List Bool} (ha : SqL K H a (xs.map V.bl)) (hb : SqL K H b (ys.map V.bl)) (h : Q (.bl (decide (xs = ys))) H) : rEqD K (.ref a) (.ref b) H Q :=
  ⟨_, _, .lst ha (dpAll_bools xs), .lst hb (dpAll_bools ys), shaped_bools xs, shaped_bools ys, by rw [eqv_bools]; exact h⟩
theorem map_nV (xs : List Nat) : xs.map nV = (xs.map fun n : Nat => (n : Int)).map V.int := by rw [List.map_map]; rfl
theorem nat_inj {xs ys : List Nat} : (xs.map fun n : Nat => (n : Int)) = (ys.map fun n : Nat => (n : Int)) ↔ xs = ys :=
  ⟨fun h => List.map_inj_right (f := fun n : Nat => (n : Int)) (fun a b e => Int.ofNat.inj e) |>.mp h, fun h => by rw [h]⟩
section
variable {K : PySem.W.Frag} {H : Hp} {Q : VK}
theorem x_eqLI {a b : Addr} {xs ys : List Int} (ha : SqL K H a (xs.map V.int)) (hb : SqL K H b (ys.map V.int)) (h : Q (.bl (decide (xs = ys))) H) : rEqD K (.ref a) (.ref b) H Q :=
  ⟨_, _, .lst ha (dpAll_ints xs), .lst hb (dpAll_ints ys), shaped_ints xs, shaped_ints ys, by rw [eqv_ints]; exact h⟩
theorem x_neLI {a b : Addr} {xs ys : List Int} (ha : SqL K H a (xs.map V.int)) (hb : SqL K H b (ys.map V.int)) (h : Q (.bl (!decide (xs = ys))) H) : rNeD K (.ref a) (.ref b) H Q :=
  ⟨_, _, .lst ha (dpAll_ints xs), .lst hb (dpAll_ints ys), shaped_ints xs, shaped_ints ys, by rw [eqv_ints]; exact h⟩
theorem x_eqLN {a b : Addr} {xs ys : List Nat} (ha : SqL K H a (xs.map nV)) (hb : SqL K H b (ys.map nV)) (h : Q (.bl (decide (xs = ys))) H) : rEqD K (.ref a) (.ref b) H Q := by
  rw [map_nV] at ha hb
  refine x_eqLI ha hb ?_
  have e : decide ((xs.map fun n : Nat => (n : Int)) = (ys.map fun n : Nat => (n : Int))) = decide (xs = ys) := decide_eq_decide.mpr nat_inj
  rw [e]; exact h
theorem x_neLN {a b : Addr} {xs ys : List Nat} (ha : SqL K H a (xs.map nV)) (hb : SqL K H b (ys.map nV)) (h : Q (.bl (!decide (xs = ys))) H) : rNeD K (.ref a) (.ref b) H Q := by
  rw [map_nV] at ha hb
  refine x_neLI ha hb ?_
  have e : decide ((xs.map fun n : Nat => (n : Int)) = (ys.map fun n : Nat => (n : Int))) = decide (xs = ys) := decide_eq_decide.mpr nat_inj
  rw [e]; exact h
end

theorem nat_of {H : Hp} {Q : VK} {z : Int} (h : ∀ r : Nat, Q (.int r) H) (hz : 0 ≤ z) : Q (.int z) H := by
  obtain ⟨r, rfl⟩ := Int.eq_ofNat_of_zero_le hz
  exact h r
theorem atI_map {ns : List Int} {j : Nat} (h : j < ns.length) : atI (ns.map V.int) (j : Int) = some (.int ns[j]) := atI_nat (by simp [h])
theorem atI_nV {ns : List Nat} {j : Nat} (h : j < ns.length) : atI (ns.map nV) (j : Int) = some (nV ns[j]) := atI_nat (by simp [h])
theorem atI_neg1' {ns : List Nat} {j : Nat} (h : j < ns.length) : ∃ z, z ∈ ns ∧ atI (ns.map nV) ((j : Int) - 1) = some (nV z) := by
  unfold atI ixN
  by_cases hj : 0 ≤ (j : Int) - 1
  · rw [if_pos hj, if_pos (by simp; omega)]
    have h2 : ((j : Int) - 1).toNat < ns.length := by omega
    exact ⟨ns[((j : Int) - 1).toNat], List.getElem_mem h2, by
      show (ns.map nV)[_]? = _
      rw [List.getElem?_map, List.getElem?_eq_getElem h2]; rfl⟩
  · rw [if_neg hj, if_pos (by simp; omega)]
    have h2 : ((j : Int) - 1 + ((ns.map nV).length : Int)).toNat < ns.length := by simp; omega
    refine ⟨ns[((j : Int) - 1 + ((ns.map nV).length : Int)).toNat], List.getElem_mem h2, ?_⟩
    show (ns.map nV)[_]? = _
    rw [List.getElem?_map, List.getElem?_eq_getElem h2]; rfl
theorem atI_neg1 {ns : List Nat} {j : Nat} (h : j < ns.length) : ∃ z, atI (ns.map nV) ((j : Int) - 1) = some (nV z) := let ⟨z, _, e⟩ := atI_neg1' h; ⟨z, e⟩
/-! comprehensions over a list: one name, one test or none -/
def LcW (g : TG) (tt : TT) (te : TE) (vs : List Nat) (σ : L2.St) (Q : VK) : It → Hp → Prop := fun J H1 => ∀ D, H1 D = none → ∃ W : Nat → Nat → Hp → Prop, (∃ m, W 0 m (upd H1 D (.lst []))) ∧ ∀ i m H, W i m H →
  (J.stop i H ∧ Q (.ref D) H) ∨ (J.go i H ∧ ∃ Nx : Hp → Prop, (∀ H', Nx H' → ∃ m', m' < m ∧ W (i + 1) m' H') ∧ ∀ x H', J.yld i H x H' → g x (wipe σ vs) H' fun σ2 H2 => wipe σ2 vs = wipe σ vs ∧ tt σ2 H2 fun b H3 =>
    if b = true then te σ2 H3 fun y H4 => ∃ acc, H4 D = some (.lst acc) ∧ acc.length < sizeLine ∧ Nx (upd H4 D (.lst (acc ++ [y]))) else Nx H3)
theorem e_lc {wi : TI} {g : TG} {tt : TT} {te : TE} {vs : List Nat} {σ : L2.St} {H : Hp} {Q : VK} : tLc wi g tt te vs σ H Q = wi σ H (LcW g tt te vs σ Q) := rfl
theorem e_wipe0 {σ : L2.St} : wipe σ [] = σ := rfl
theorem e_wipe1 {σ : L2.St} {v : Nat} {vs : List Nat} : wipe σ (v :: vs) = (wipe σ vs).set v none := rfl
theorem e_yes {σ : L2.St} {H : Hp} {R : Bool → Hp → Prop} : tYes σ H R = R true H := rfl
theorem wipe_set1 {σ : L2.St} {i : Nat} {v : Option V} : wipe ((wipe σ [i]).set i v) [i] = wipe σ [i] := by
  show (((σ.set i none).set i v).set i none) = σ.set i none
  rw [List.set_set, List.set_set]
section
variable {K : PySem.W.Frag} {H : Hp} {Q : VK} {σ : L2.St} {tl te : TE} {tt : TT} {k : Nat}
/-- the list stands; test and element are reckoned of each item and change nothing that stood -/
theorem LcW.fmA {α : Type} {emb : α → V} {a : Addr} {xs : List α} (p : α → Bool) (f : α → V) (hS : SqL K H a (xs.map emb)) (hz : xs.length < sizeLine)
    (ht : ∀ x ∈ xs, ∀ H', Ex H H' → ∀ R : Bool → Hp → Prop, (∀ H'', Ex H' H'' → R (p x) H'') → tt ((wipe σ [k]).set k (some (emb x))) H' R)
    (he : ∀ x ∈ xs, p x = true → ∀ H', Ex H H' → ∀ Qe : VK, (∀ H'', Ex H' H'' → Qe (f x) H'') → te ((wipe σ [k]).set k (some (emb x))) H' Qe)
    (hk : ∀ D H', H D = none → Ex H H' → H' D = some (.lst ((xs.filter p).map f)) → Q (.ref D) H') :
    LcW (gName k) tt te [k] σ Q (Itl K a) H := by
  intro D hD
  refine lc_list (K := K) (a := a) (xs := xs.map emb) (Qd := fun H' => Q (.ref D) H') (fun i H' => Ex H H' ∧ H' D = some (.lst (((xs.take i).filter p).map f))) ⟨Ex.new hD, by rw [upd_same]; rfl⟩ (fun i H' _ h => h.1.ls hS) ?_ ?_
  · rintro i y H1 hx ⟨ex, h1⟩
    obtain ⟨x, hxi, rfl⟩ : ∃ x, xs[i]? = some x ∧ y = emb x := by
      rw [List.getElem?_map] at hx
      cases e : xs[i]? with
      | none => rw [e] at hx; cases hx
      | some x => rw [e] at hx; exact ⟨x, rfl, (Option.some.inj hx).symm⟩
    have hm : x ∈ xs := List.mem_of_getElem? hxi
    have et : xs.take (i + 1) = xs.take i ++ [x] := by rw [List.take_add_one, hxi]; rfl
    refine ⟨wipe_set1, ht x hm H1 ex _ fun H2 ex2 => ?_⟩
    cases hp : p x with
    | true =>
      refine iteT (he x hm hp H2 (ex.trans ex2) _ fun H3 ex3 => ⟨_, ex3.at (ex2.at h1), ?_, ?_, ?_⟩)
      · rw [List.length_map]
        exact Nat.lt_of_le_of_lt (Nat.le_trans (List.length_filter_le _ _) (List.length_take_le' _ _)) hz
      · exact ((ex.trans ex2).trans ex3).mut hD (ex3.at (ex2.at h1))
      · rw [upd_same, et, List.filter_append, List.map_append]
        simp [hp]
    | false =>
      refine iteF ⟨ex.trans ex2, ?_⟩
      rw [et, List.filter_append, List.map_append]
      simp [hp]
      simpa using ex2.at h1
  · rintro H1 ⟨ex, h1⟩
    rw [List.length_map, List.take_length] at h1
    exact hk D H1 hD ex h1
theorem LcW.fm {a : Addr} {xs : List V} (p : V → Bool) (f : V → V) (hS : SqL K H a xs) (hz : xs.length < sizeLine)
    (ht : ∀ x ∈ xs, ∀ H', Ex H H' → ∀ R : Bool → Hp → Prop, (∀ H'', Ex H' H'' → R (p x) H'') → tt ((wipe σ [k]).set k (some x)) H' R)
    (he : ∀ x ∈ xs, p x = true → ∀ H', Ex H H' → ∀ Qe : VK, (∀ H'', Ex H' H'' → Qe (f x) H'') → te ((wipe σ [k]).set k (some x)) H' Qe)
    (hk : ∀ D H', H D = none → Ex H H' → H' D = some (.lst ((xs.filter p).map f)) → Q (.ref D) H') :
    LcW (gName k) tt te [k] σ Q (Itl K a) H := LcW.fmA (emb := id) p f (by rw [List.map_id]; exact hS) hz ht he hk
/-- over whatever walks; item, test and element are reckoned and change nothing that stood -/
theorem LcW.fmW {J : It} {n : Nat} {G : Hp → Prop} {Y : Nat → Hp → V → Hp → Prop} (w : Walk J n G Y) (hz : n < sizeLine) (g : Nat → V) (p : Nat → Bool) (f : Nat → V) (hG : ∀ H', Ex H H' → G H') (hY : ∀ i H1 x H2, i < n → Y i H1 x H2 → x = g i ∧ Ex H1 H2)
    (ht : ∀ i, i < n → ∀ H', Ex H H' → ∀ R : Bool → Hp → Prop, (∀ H'', Ex H' H'' → R (p i) H'') → tt ((wipe σ [k]).set k (some (g i))) H' R)
    (he : ∀ i, i < n → p i = true → ∀ H', Ex H H' → ∀ Qe : VK, (∀ H'', Ex H' H'' → Qe (f i) H'') → te ((wipe σ [k]).set k (some (g i))) H' Qe)
    (hk : ∀ D H', H D = none → Ex H H' → H' D = some (.lst (((List.range n).filter p).map f)) → Q (.ref D) H') : LcW (gName k) tt te [k] σ Q J H := by
  intro D hD
  refine lc_it w (Qd := fun H' => Q (.ref D) H') (fun i H' => Ex H H' ∧ H' D = some (.lst (((List.range i).filter p).map f))) ⟨Ex.new hD, by rw [upd_same]; rfl⟩ (fun i H' _ h => hG H' h.1) ?_ ?_
  · rintro i x H1 H2 hi ⟨ex, h1⟩ y
    obtain ⟨rfl, ex12⟩ := hY i H1 x H2 hi y
    have ex2 := ex.trans ex12
    have h2 := ex12.at h1
    refine ⟨wipe_set1, ht i hi H2 ex2 _ fun H3 ex3 => ?_⟩
    have h3 := ex3.at h2
    have ex03 := ex2.trans ex3
    cases hp : p i with
    | true =>
      refine iteT (he i hi hp H3 ex03 _ fun H4 ex4 => ⟨_, ex4.at h3, ?_, (ex03.trans ex4).mut hD (ex4.at h3), ?_⟩)
      · rw [List.length_map]
        exact Nat.lt_of_le_of_lt (Nat.le_trans (List.length_filter_le _ _) (by rw [List.length_range]; omega)) hz
      · rw [upd_same, List.range_succ, List.filter_append, List.map_append]
        simp [hp]
    | false =>
      refine iteF ⟨ex03, ?_⟩
      rw [List.range_succ, List.filter_append, List.map_append]
      simp [hp]
      simpa using h3
  · rintro H1 ⟨ex, h1⟩
    exact hk D H1 hD ex h1
/-- over range(n) -/
theorem LcW.rng {n : Nat} (hz : n < sizeLine) (p : Nat → Bool) (f : Nat → V)
    (ht : ∀ i, i < n → ∀ H', Ex H H' → ∀ R : Bool → Hp → Prop, (∀ H'', Ex H' H'' → R (p i) H'') → tt ((wipe σ [k]).set k (some (nV i))) H' R)
    (he : ∀ i, i < n → p i = true → ∀ H', Ex H H' → ∀ Qe : VK, (∀ H'', Ex H' H'' → Qe (f i) H'') → te ((wipe σ [k]).set k (some (nV i))) H' Qe)
    (hk : ∀ D H', H D = none → Ex H H' → H' D = some (.lst (((List.range n).filter p).map f)) → Q (.ref D) H') : LcW (gName k) tt te [k] σ Q (Itr 0 n) H :=
  LcW.fmW walk_rgN hz nV p f (fun _ _ => trivial) (fun i H1 x H2 _ y => ⟨y.2, by rw [y.1]; exact Ex.refl⟩) ht he hk
/-- a plain map -/
theorem LcW.map {α : Type} {emb : α → V} {a : Addr} {xs : List α} (f : α → V) (hS : SqL K H a (xs.map emb)) (hz : xs.length < sizeLine)
    (he : ∀ x ∈ xs, ∀ H', Ex H H' → ∀ Qe : VK, (∀ H'', Ex H' H'' → Qe (f x) H'') → te ((wipe σ [k]).set k (some (emb x))) H' Qe)
    (hk : ∀ D H', H D = none → Ex H H' → H' D = some (.lst (xs.map f)) → Q (.ref D) H') :
    LcW (gName k) tYes te [k] σ Q (Itl K a) H :=
  LcW.fmA (fun _ => true) f hS hz (fun _ _ _ _ _ h => h _ Ex.refl) (fun x hx _ H' e Qe h => he x hx H' e Qe h) fun D H' h1 h2 h3 => hk D H' h1 h2 (by rw [h3, List.filter_eq_self.mpr fun _ _ => rfl])
/-- a plain filter -/
theorem LcW.filt {α : Type} {emb : α → V} {a : Addr} {xs : List α} (p : α → Bool) (hS : SqL K H a (xs.map emb)) (hz : xs.length < sizeLine)
    (ht : ∀ x ∈ xs, ∀ H', Ex H H' → ∀ R : Bool → Hp → Prop, (∀ H'', Ex H' H'' → R (p x) H'') → tt ((wipe σ [k]).set k (some (emb x))) H' R)
    (he : ∀ x ∈ xs, p x = true → ∀ H', Ex H H' → ∀ Qe : VK, Qe (emb x) H' → te ((wipe σ [k]).set k (some (emb x))) H' Qe)
    (hk : ∀ D H', H D = none → Ex H H' → H' D = some (.lst ((xs.filter p).map emb)) → Q (.ref D) H') :
    LcW (gName k) tt te [k] σ Q (Itl K a) H :=
  LcW.fmA p emb hS hz ht (fun x hx hp H' e Qe h => he x hx hp H' e Qe (h H' Ex.refl)) hk
end

theorem lt_ok {xs : List V} (h : decide (xs.length ≤ 1000) = true) : xs.length < sizeLine := Nat.lt_of_le_of_lt (of_decide_eq_true h) (by decide)
theorem len_ok {xs : List V} (h : decide (xs.length ≤ 1000) = true) : xs.length ≤ sizeLine := Nat.le_trans (of_decide_eq_true h) (by decide)
/-! dicts -/
abbrev nK (n : Nat) : Key := .inl (n : Int)
theorem nK_inj {a b : Nat} (h : nK a = nK b) : a = b := Int.ofNat.inj (Sum.inl.inj h)
def RDg (Q : VK) : V → V → Hp → Prop := fun x y H2 => ∃ a v, x = .ref a ∧ DGet H2 a y (some v) ∧ Q v H2
def RDi (Q : VK) : V → V → Hp → Prop := fun x y H2 => ∃ a o, x = .ref a ∧ DGet H2 a y o ∧ Q (.bl o.isSome) H2
def RDn (Q : VK) : V → V → Hp → Prop := fun x y H2 => ∃ a o, x = .ref a ∧ DGet H2 a y o ∧ Q (.bl (!o.isSome)) H2
def RDp (R : Hp → Prop) : V → V → V → Hp → Prop := fun x y v H3 => ∃ a H4, x = .ref a ∧ DPut H3 a y v H4 ∧ R H4
def RDN (Q : VK) : Hp → Prop := fun H => ∀ p, H p = none → Q (.ref p) (upd H p (.dK []))
section
variable {K : PySem.W.Frag} {σ : L2.St} {H : Hp} {td ty tv tx : TE} {D : Ends} {Q : VK}
theorem e_dget : tDGet td ty σ H Q = td σ H fun x H1 => ty σ H1 fun y H2 => RDg Q x y H2 := rfl
theorem e_din : tDIn ty td σ H Q = ty σ H fun y H1 => td σ H1 fun x H2 => RDi Q x y H2 := rfl
theorem e_dnin : tDNotIn ty td σ H Q = ty σ H fun y H1 => td σ H1 fun x H2 => RDn Q x y H2 := rfl
theorem e_dput : sDPut td ty tv D σ H = tv σ H fun v H1 => td σ H1 fun x H2 => ty σ H2 fun y H3 => RDp (D.nx σ) x y v H3 := rfl
theorem e_dnew : tDNewK σ H Q = RDN Q H := rfl
theorem x_dget {a : Addr} {kvs : List (Key × V)} {i : Int} {v : V} (h : H a = some (.dK kvs)) (e : valV kvs (.inl i) = some v) (k : Q v H) : RDg Q (.ref a) (.int i) H := ⟨a, v, rfl, .inl ⟨kvs, .inl i, .inl h, rfl, e.symm⟩, k⟩
theorem x_din {a : Addr} {kvs : List (Key × V)} {i : Int} (h : H a = some (.dK kvs)) (k : Q (.bl (valV kvs (.inl i)).isSome) H) : RDi Q (.ref a) (.int i) H := ⟨a, _, rfl, .inl ⟨kvs, .inl i, .inl h, rfl, rfl⟩, k⟩
theorem x_dnin {a : Addr} {kvs : List (Key × V)} {i : Int} (h : H a = some (.dK kvs)) (k : Q (.bl (!(valV kvs (.inl i)).isSome)) H) : RDn Q (.ref a) (.int i) H := ⟨a, _, rfl, .inl ⟨kvs, .inl i, .inl h, rfl, rfl⟩, k⟩
theorem x_dput {R : Hp → Prop} {a : Addr} {kvs : List (Key × V)} {i : Int} {v : V} (h : H a = some (.dK kvs)) (hz : kvs.length < sizeLine) (k : R (upd H a (.dK (putK kvs (.inl i) v)))) : RDp R (.ref a) (.int i) v H := ⟨a, _, rfl, .inl ⟨kvs, .inl i, h, rfl, hz, rfl⟩, k⟩
theorem x_dnew (h : ∀ p, H p = none → Q (.ref p) (upd H p (.dK []))) : RDN Q H := h
end
/-- sorted(d), d's keys ints, fewer than 64 -/
def rSortDI : List V → Hp → VK → Prop := fun xs H Q => ∃ (a : Addr) (kvs : List (Key × V)) (ks : List Int), xs = [.ref a] ∧ Rd H a (.dK kvs) ∧ kvs.map (·.1) = ks.map Sum.inl ∧ ks.length < 64 ∧
    ∀ (ys : List Int) (p : Addr), ys.Perm ks → ys.Pairwise (· ≤ ·) → H p = none → Q (.ref p) (upd H p (.lst (ys.map V.int)))
theorem cb_sortD {X : Cx} (hc : X.calm = true) : CallR X (.builtin "sorted") rSortDI := call_sortedDI hc

/-! objects: fields, methods -/
def RFld (K : PySem.W.Frag) (f : Str) (Q : VK) : VK := fun x H1 => ∃ a C dx fs v, x = .ref a ∧ H1 a = some (.ins C dx fs) ∧ Cls K C ∧ NoAttr K C f ∧ fs.lookup f = some v ∧ Q v H1
def RSf (K : PySem.W.Frag) (f : Str) (y : V) (R : Hp → Prop) : VK := fun x H2 => ∃ a C dx fs, x = .ref a ∧ H2 a = some (.ins C dx fs) ∧ Cls K C ∧ NoAttr K C f ∧ fs.length < 1000 ∧ R (upd H2 a (.ins C dx (putF f y fs)))
def RMt (C : Addr) (m : Str) (sp : Sp) (dvs : List V) (E : XK) (t : TA) (σ : L2.St) (Q : VK) : VK := fun x H1 => ∃ a dx fs, x = .ref a ∧ H1 a = some (.ins C dx fs) ∧ fs.lookup m = none ∧ t σ H1 fun vs H2 => sp (x :: (vs ++ dvs)) H2 Q E
section
variable {K : PySem.W.Frag} {σ : L2.St} {H : Hp} {ta tv : TE} {D : Ends} {Q : VK} {v y : V} {f m : Str} {a C dx : Addr} {fs : List (Str × V)} {sp : Sp} {dvs : List V} {E : XK} {t : TA}
theorem e_fld : tFld K ta f σ H Q = ta σ H (RFld K f Q) := rfl
theorem e_sfld : sFld K ta tv f D σ H = tv σ H fun y H1 => ta σ H1 (RSf K f y (D.nx σ)) := rfl
theorem e_meth : tMeth C m sp dvs E ta t σ H Q = ta σ H (RMt C m sp dvs E t σ Q) := rfl
theorem x_fld (h : H a = some (.ins C dx fs)) (c : Cls K C) (n : NoAttr K C f) (l : fs.lookup f = some v) (k : Q v H) : RFld K f Q (.ref a) H := ⟨a, C, dx, fs, v, rfl, h, c, n, l, k⟩
theorem x_sfld {R : Hp → Prop} {fs' : List (Str × V)} (h : H a = some (.ins C dx fs)) (c : Cls K C) (n : NoAttr K C f) (e : putF f y fs = fs') (hz : decide (fs.length < 1000) = true) (k : R (upd H a (.ins C dx fs'))) : RSf K f y R (.ref a) H := ⟨a, C, dx, fs, rfl, h, c, n, of_decide_eq_true hz, by rw [e]; exact k⟩
theorem x_meth (h : H a = some (.ins C dx fs)) (l : fs.lookup m = none) (k : t σ H fun vs H2 => sp (.ref a :: (vs ++ dvs)) H2 Q E) : RMt C m sp dvs E t σ Q (.ref a) H := ⟨a, dx, fs, rfl, h, l, k⟩
end
/-! slices -/
section
variable {K : PySem.W.Frag} {σ : L2.St} {H : Hp} {ta : TE} {tl th : TO} {Q : VK} {R : Option Int → Hp → Prop}
theorem e_sl {r : V → Option Int → Option Int → Hp → VK → Prop} : tSl r ta tl th σ H Q = ta σ H fun x H1 => tl σ H1 fun l H2 => th σ H2 fun u H3 => r x l u H3 Q := rfl
theorem e_nopart : tNoPart σ H R = R none H := rfl
def RPt (R : Option Int → Hp → Prop) : VK := fun x H1 => ∃ i, x = .int i ∧ R (some i) H1
theorem e_part : tPart ta σ H R = ta σ H (RPt R) := rfl
theorem x_part {i : Int} (h : R (some i) H) : RPt R (.int i) H := ⟨i, rfl, h⟩
theorem x_slL {p : Addr} {xs : List V} {lo hi : Option Int} (hS : SqL K H p xs) (h : ∀ q, H q = none → Q (.ref q) (upd H q (.lst (cutV xs lo hi)))) : rSlL K (.ref p) lo hi H Q := ⟨p, xs, rfl, hS, h⟩
theorem cut_take {xs : List V} {k : Nat} : cutV xs none (some (k : Int)) = xs.take k := by
  unfold cutV
  rw [HT.sIx_none, HT.sIx_nat, List.drop_zero, Nat.sub_zero]
  by_cases h : k ≤ xs.length
  · rw [Nat.min_eq_left h]
  · rw [Nat.min_eq_right (by omega), List.take_of_length_le (Nat.le_refl _), List.take_of_length_le (i := k) (by omega)]
theorem cut_drop {xs : List V} {k : Nat} : cutV xs (some (k : Int)) none = xs.drop k := by
  unfold cutV
  rw [HT.sIx_none, HT.sIx_nat]
  by_cases h : k ≤ xs.length
  · rw [Nat.min_eq_left h, List.take_of_length_le (by rw [List.length_drop]; omega)]
  · rw [Nat.min_eq_right (by omega), List.drop_of_length_le (Nat.le_refl _), List.drop_of_length_le (by omega), List.take_nil]
end
/-! members, methods of lists of names -/
theorem inV_nat {n : Nat} : ∀ {ns : List Nat}, inV (nV n) (ns.map nV) = decide (n ∈ ns)
  | [] => rfl
  | m :: r => by
    have ih := inV_nat (n := n) (ns := r)
    unfold inV at ih ⊢
    rw [List.map_cons, List.any_cons, ih]
    show (((m : Int) == (n : Int)) || decide (n ∈ r)) = _
    by_cases e : m = n
    · simp [e]
    · have e' : ¬ (m : Int) = n := fun z => e (Int.ofNat.inj z)
      simp [e', Ne.symm e]
theorem flat_nat (ns : List Nat) : (ns.map nV).all flatV = true := by
  rw [List.all_eq_true]
  intro x hx
  obtain ⟨n, _, rfl⟩ := List.mem_map.mp hx
  rfl
section
variable {K : PySem.W.Frag} {H : Hp} {Q : VK}
theorem x_inN {i : Int} {n : Nat} {p : Addr} {ns : List Nat} (hi : i = n) (hS : SqL K H p (ns.map nV)) (h : Q (.bl (decide (n ∈ ns))) H) : rIn K false (.int i) (.ref p) H Q := by
  subst hi; exact ⟨p, _, rfl, .inl hS, rfl, flat_nat ns, by rw [inV_nat]; exact h⟩
theorem x_ninN {i : Int} {n : Nat} {p : Addr} {ns : List Nat} (hi : i = n) (hS : SqL K H p (ns.map nV)) (h : Q (.bl (!decide (n ∈ ns))) H) : rIn K true (.int i) (.ref p) H Q := by
  subst hi; exact ⟨p, _, rfl, .inl hS, rfl, flat_nat ns, by rw [inV_nat]; exact h⟩
theorem erase_first {n : Nat} : ∀ {ns : List Nat}, n ∈ ns → ∃ j : Nat, (ns.map fun n : Nat => (n : Int))[j]? = some (n : Int) ∧ (∀ m : Nat, m < j → (ns.map fun n : Nat => (n : Int))[m]? ≠ some (n : Int)) ∧ ns.eraseIdx j = ns.erase n
  | [], h => by cases h
  | m :: r, h => by
    by_cases e : m = n
    · refine ⟨0, by simp [e], fun m h => absurd h (Nat.not_lt_zero _), by simp [e]⟩
    · have hr : n ∈ r := by
        rcases List.mem_cons.mp h with z | z
        · exact absurd z.symm e
        · exact z
      obtain ⟨j, h1, h2, h3⟩ := erase_first hr
      refine ⟨j + 1, by simpa using h1, fun k hk => ?_, ?_⟩
      · cases k with
        | zero =>
          intro z
          have z : some ((m : Nat) : Int) = some (n : Int) := z
          exact e (Int.ofNat.inj (Option.some.inj z))
        | succ k => exact h2 k (by omega)
      · rw [List.eraseIdx_cons_succ, h3, List.erase_cons_tail (by simpa using e)]
theorem eraseIdx_mapV {α β : Type} (f : α → β) : ∀ (xs : List α) (j : Nat), (xs.map f).eraseIdx j = (xs.eraseIdx j).map f
  | [], _ => rfl
  | _ :: _, 0 => rfl
  | x :: r, j + 1 => by
    show f x :: (r.map f).eraseIdx j = f x :: (r.eraseIdx j).map f
    rw [eraseIdx_mapV f r j]
theorem x_remove {i : Int} {n : Nat} {l : Addr} {ns : List Nat} (hi : i = n) (hl : H l = some (.lst (ns.map nV))) (hn : n ∈ ns) (h : Q .non (upd H l (.lst ((ns.erase n).map nV)))) : rRemI (.ref l) [.int i] H Q := by
  subst hi
  obtain ⟨j, h1, h2, h3⟩ := erase_first hn
  refine ⟨l, ns.map fun n : Nat => (n : Int), n, j, rfl, rfl, by rw [← map_nV]; exact hl, h1, h2, ?_⟩
  have e : ((ns.map fun n : Nat => (n : Int)).eraseIdx j).map V.int = (ns.erase n).map nV := by
    rw [eraseIdx_mapV, h3, ← map_nV]
  rw [e]; exact h
theorem x_pop0 {l : Addr} {x : V} {xs : List V} (hl : H l = some (.lst (x :: xs))) (h : Q x (upd H l (.lst xs))) : rPopAt (.ref l) [.int 0] H Q :=
  ⟨l, x :: xs, 0, 0, x, rfl, rfl, hl, by decide, by decide, by unfold seqIndex?; simp, rfl, h⟩
end

/-! len(set(names)), [:-1] -/
def RLs (K : PySem.W.Frag) (Q : VK) : VK := fun x H1 => ∃ (l : Addr) (ns : List Int), x = .ref l ∧ SqL K H1 l (ns.map V.int) ∧ ns.Nodup ∧ ns.length ≤ 4000 ∧ Q (.int (ns.length : Nat)) H1
theorem e_lenSet {K : PySem.W.Frag} {σ : L2.St} {H : Hp} {ta : TE} {Q : VK} : RZ.tLenSetI K ta σ H Q = ta σ H (RLs K Q) := rfl
theorem x_lenSet {K : PySem.W.Frag} {H : Hp} {Q : VK} {a : Addr} {ns : List Nat} (hS : SqL K H a (ns.map nV)) (nd : ns.Nodup) (hz : ns.length ≤ 4000) (h : Q (.int (ns.length : Nat)) H) : RLs K Q (.ref a) H :=
  ⟨a, ns.map fun n : Nat => (n : Int), rfl, by rw [← map_nV]; exact hS, List.Pairwise.map _ (fun a b h e => h (Int.ofNat.inj e)) nd, by rw [List.length_map]; exact hz, by rw [List.length_map]; exact h⟩
theorem cut_init {xs : List V} : cutV xs none (some (-1)) = xs.dropLast := by
  unfold cutV
  rw [HT.sIx_none, List.drop_zero, Nat.sub_zero]
  have e : HT.sIx xs.length xs.length (some (-1)) = xs.length - 1 := by
    unfold HT.sIx
    simp
    omega
  rw [e, List.dropLast_eq_take]
theorem x_truB {K : PySem.W.Frag} {H : Hp} {R : Bool → Prop} {b : Bool} (h : R b) : ∃ k, TruV K (.bl b) H k ∧ R k := ⟨b, rfl, h⟩
/-! dicts that are locked while they are walked -/
def LockD (D : Ends) (d : Addr) (od : Obj) (u : HO) : Ends := ⟨fun σ' H' => H' d = some (.frz od u) ∧ D.nx σ' (upd H' d u), fun v H' => H' d = some (.frz od u) ∧ D.rt v (upd H' d u), fun σ' H' => H' d = some (.frz od u) ∧ D.bk σ' (upd H' d u), fun σ' H' => H' d = some (.frz od u) ∧ D.ct σ' (upd H' d u)⟩
theorem x_lock {t : TS} {D : Ends} {σ : L2.St} {H : Hp} {d : Addr} {kvs : List (Key × V)} (h : H d = some (.dK kvs)) (k : ∀ od, t (LockD D d od (.dK kvs)) σ (upd H d (.frz od (.dK kvs)))) : tLock t D σ H := ⟨d, .dK kvs, h, trivial, k⟩
def RiK (R : It → Hp → Prop) : VK := fun x H1 => ∃ d o, x = .ref d ∧ ((∃ kvs, H1 d = some (.frz o (.dK kvs)) ∧ R (Itk d o kvs) H1) ∨ ∃ kvs, H1 d = some (.frz o (.dT kvs)) ∧ R (Itkt d o kvs) H1)
theorem e_keys {td : TE} {σ : L2.St} {H : Hp} {R : It → Hp → Prop} : iKeys td σ H R = td σ H (RiK R) := rfl
theorem x_itK {H : Hp} {R : It → Hp → Prop} {d : Addr} {o : Obj} {kvs : List (Key × V)} (h : H d = some (.frz o (.dK kvs))) (k : R (Itk d o kvs) H) : RiK R (.ref d) H := ⟨d, o, rfl, .inl ⟨kvs, h, k⟩⟩
theorem Fr.less {S : Addr → Prop} {H H1 : Hp} (f : Fr S H H1) (h : ∀ a, S a → H1 a = H a) : Ex H H1 :=
  ⟨fun a o e n _ => by
    by_cases s : S a
    · rw [h a s]; exact e
    · exact f.keep a o e n s, f.tab, f.back⟩
theorem Ex.unlock {H H' : Hp} {d : Addr} {od : Obj} {kvs : List (Key × V)} (h : H d = some (.dK kvs)) (e : Ex (upd H d (.frz od (.dK kvs))) H') : Ex H (upd H' d (.dK kvs)) :=
  (((Fr.upd1 (o := .frz od (.dK kvs)) h).trans (e.fr (S := fun a => a = d))).trans (Fr.upd1 (o := .dK kvs) (e.at upd_same))).less fun a z => by rw [z, upd_same, h]
theorem Rd.fr {S : Addr → Prop} {H H' : Hp} {a : Addr} {kvs : List (Key × V)} (h : Rd H a (.dK kvs)) (f : Fr S H H') (s : ¬ S a) : Rd H' a (.dK kvs) := by
  rcases h with h | ⟨o, h⟩
  · exact .inl (f.at h s)
  · exact .inr ⟨o, f.at h s⟩
section
variable {H : Hp} {Q : VK} {a : Addr} {kvs : List (Key × V)} {i : Int} {z : Str} {v : V}
theorem x_dgetR (h : Rd H a (.dK kvs)) (e : valV kvs (.inl i) = some v) (k : Q v H) : RDg Q (.ref a) (.int i) H := ⟨a, v, rfl, .inl ⟨kvs, .inl i, h, rfl, e.symm⟩, k⟩
theorem x_dgetS (h : Rd H a (.dK kvs)) (e : valV kvs (.inr z) = some v) (k : Q v H) : RDg Q (.ref a) (.str z) H := ⟨a, v, rfl, .inl ⟨kvs, .inr z, h, rfl, e.symm⟩, k⟩
theorem x_dinR (h : Rd H a (.dK kvs)) (k : Q (.bl (valV kvs (.inl i)).isSome) H) : RDi Q (.ref a) (.int i) H := ⟨a, _, rfl, .inl ⟨kvs, .inl i, h, rfl, rfl⟩, k⟩
theorem x_dninR (h : Rd H a (.dK kvs)) (k : Q (.bl (!(valV kvs (.inl i)).isSome)) H) : RDn Q (.ref a) (.int i) H := ⟨a, _, rfl, .inl ⟨kvs, .inl i, h, rfl, rfl⟩, k⟩
end
def RDG2 (ty tx : TE) (σ : L2.St) (Q : VK) : VK := fun x H1 => ∃ a, x = .ref a ∧ IsD H1 a ∧ ty σ H1 fun y H2 => tx σ H2 fun z H3 => ∃ o, DGet H3 a y o ∧ Q (o.getD z) H3
def RG2 (a : Addr) (Q : VK) : V → V → Hp → Prop := fun y z H3 => ∃ o, DGet H3 a y o ∧ Q (o.getD z) H3
theorem e_dget2 {td ty tx : TE} {σ : L2.St} {H : Hp} {Q : VK} : tDGet2 td ty tx σ H Q = td σ H (RDG2 ty tx σ Q) := rfl
theorem x_dget2 {ty tx : TE} {σ : L2.St} {H : Hp} {Q : VK} {a : Addr} {kvs : List (Key × V)} (h : H a = some (.dK kvs)) (k : ty σ H fun y H2 => tx σ H2 fun z H3 => RG2 a Q y z H3) : RDG2 ty tx σ Q (.ref a) H := ⟨a, rfl, .inl ⟨kvs, .inl h⟩, k⟩
theorem x_g2 {H : Hp} {Q : VK} {a : Addr} {kvs : List (Key × V)} {i : Int} {z : V} (h : H a = some (.dK kvs)) (k : Q ((valV kvs (.inl i)).getD z) H) : RG2 a Q (.int i) z H := ⟨_, .inl ⟨kvs, .inl i, .inl h, rfl, rfl⟩, k⟩
def RDP1 (ty : TE) (σ : L2.St) (Q : VK) : VK := fun x H1 => ∃ a, x = .ref a ∧ IsD H1 a ∧ ty σ H1 fun y H2 => ∃ kvs k v, H2 a = some (.dK kvs) ∧ y = kV k ∧ valV kvs k = some v ∧ Q v (upd H2 a (.dK (dropK kvs k)))
def RP1 (a : Addr) (Q : VK) : VK := fun y H2 => ∃ kvs k v, H2 a = some (.dK kvs) ∧ y = kV k ∧ valV kvs k = some v ∧ Q v (upd H2 a (.dK (dropK kvs k)))
theorem e_dpop1 {td ty : TE} {σ : L2.St} {H : Hp} {Q : VK} : tDPop1 td ty σ H Q = td σ H (RDP1 ty σ Q) := rfl
theorem x_dpop1 {ty : TE} {σ : L2.St} {H : Hp} {Q : VK} {a : Addr} {kvs : List (Key × V)} (h : H a = some (.dK kvs)) (k : ty σ H (RP1 a Q)) : RDP1 ty σ Q (.ref a) H := ⟨a, rfl, .inl ⟨kvs, .inl h⟩, k⟩
theorem x_p1 {H : Hp} {Q : VK} {a : Addr} {kvs : List (Key × V)} {i : Int} {v : V} (h : H a = some (.dK kvs)) (e : valV kvs (.inl i) = some v) (k : Q v (upd H a (.dK (dropK kvs (.inl i))))) : RP1 a Q (.int i) H := ⟨kvs, .inl i, v, h, rfl, e, k⟩
def RDP2 (ty tx : TE) (σ : L2.St) (Q : VK) : VK := fun x H1 => ∃ a, x = .ref a ∧ IsD H1 a ∧ ty σ H1 fun y H2 => tx σ H2 fun z H3 => ∃ kvs k, H3 a = some (.dK kvs) ∧ y = kV k ∧ (∀ v, valV kvs k = some v → Q v (upd H3 a (.dK (dropK kvs k)))) ∧ (valV kvs k = none → Q z H3)
def RP2 (a : Addr) (Q : VK) : V → V → Hp → Prop := fun y z H3 => ∃ kvs k, H3 a = some (.dK kvs) ∧ y = kV k ∧ (∀ v, valV kvs k = some v → Q v (upd H3 a (.dK (dropK kvs k)))) ∧ (valV kvs k = none → Q z H3)
theorem e_dpop2 {td ty tx : TE} {σ : L2.St} {H : Hp} {Q : VK} : tDPop2 td ty tx σ H Q = td σ H (RDP2 ty tx σ Q) := rfl
theorem x_dpop2 {ty tx : TE} {σ : L2.St} {H : Hp} {Q : VK} {a : Addr} {kvs : List (Key × V)} (h : H a = some (.dK kvs)) (k : ty σ H fun y H2 => tx σ H2 fun z H3 => RP2 a Q y z H3) : RDP2 ty tx σ Q (.ref a) H := ⟨a, rfl, .inl ⟨kvs, .inl h⟩, k⟩
theorem x_p2 {H : Hp} {Q : VK} {a : Addr} {kvs : List (Key × V)} {i : Int} {z : V} (h : H a = some (.dK kvs)) (k1 : ∀ v, valV kvs (.inl i) = some v → Q v (upd H a (.dK (dropK kvs (.inl i))))) (k2 : valV kvs (.inl i) = none → Q z H) : RP2 a Q (.int i) z H := ⟨kvs, .inl i, h, rfl, k1, k2⟩
def rListD : List V → Hp → VK → Prop := fun xs H Q => ∃ (a : Addr) (kvs : List (Key × V)), xs = [.ref a] ∧ Rd H a (.dK kvs) ∧ ∀ p, H p = none → Q (.ref p) (upd H p (.lst (kvs.map fun kv => kV kv.1)))
theorem cb_listD {X : Cx} (hc : X.calm = true) : CallR X (.type "list") rListD := call_listD hc
/-! is None, is not None -/
def rIsNn : R2 := fun x y H Q => y = .non ∧ Q (.bl (decide (x = .non))) H
def rNotNn : R2 := fun x y H Q => y = .non ∧ Q (.bl (!decide (x = .non))) H
theorem op_isNn {X : Cx} : OpR X (compareOp .Is) rIsNn := op_isN
theorem op_notNn {X : Cx} : OpR X (compareOp .IsNot) rNotNn := op_notN
section
variable {H : Hp} {Q : VK} {i : Int} {b : Bool} {z : Str} {a : Addr}
theorem x_isNN (h : Q (.bl true) H) : rIsNn .non .non H Q := ⟨rfl, by rw [decide_eq_true rfl]; exact h⟩
theorem x_isNI (h : Q (.bl false) H) : rIsNn (.int i) .non H Q := ⟨rfl, by rw [decide_eq_false (fun z => by cases z)]; exact h⟩
theorem x_isNB (h : Q (.bl false) H) : rIsNn (.bl b) .non H Q := ⟨rfl, by rw [decide_eq_false (fun z => by cases z)]; exact h⟩
theorem x_isNS (h : Q (.bl false) H) : rIsNn (.str z) .non H Q := ⟨rfl, by rw [decide_eq_false (fun z => by cases z)]; exact h⟩
theorem x_isNR (h : Q (.bl false) H) : rIsNn (.ref a) .non H Q := ⟨rfl, by rw [decide_eq_false (fun z => by cases z)]; exact h⟩
theorem x_notNN (h : Q (.bl false) H) : rNotNn .non .non H Q := ⟨rfl, by rw [decide_eq_true rfl]; exact h⟩
theorem x_notNI (h : Q (.bl true) H) : rNotNn (.int i) .non H Q := ⟨rfl, by rw [decide_eq_false (fun z => by cases z)]; exact h⟩
theorem x_notNB (h : Q (.bl true) H) : rNotNn (.bl b) .non H Q := ⟨rfl, by rw [decide_eq_false (fun z => by cases z)]; exact h⟩
theorem x_notNS (h : Q (.bl true) H) : rNotNn (.str z) .non H Q := ⟨rfl, by rw [decide_eq_false (fun z => by cases z)]; exact h⟩
theorem x_notNR (h : Q (.bl true) H) : rNotNn (.ref a) .non H Q := ⟨rfl, by rw [decide_eq_false (fun z => by cases z)]; exact h⟩
end
/-! new objects -/
theorem x_new {A : Prop} {R : Addr → Prop} (ha : A) (h : ∀ p, H p = none → R p) : A ∧ ∀ p, H p = none → R p := ⟨ha, h⟩
/-- a def with defaults, no exception out -/
theorem _root_.L2.FunD.okD {P : Program} {w : World} {K : PySem.W.Frag} {mg : Str → Option Value} {base : Heap} {x qual : Str} {st : Stmt} {f : Addr} {fd : FuncData} {dvs : List V} {kws : List (Str × V)} {N ps : List Str} {k : Nat} {sp : Sp} (F : FunD K x qual (defArgs st) (defBody st) (defScope st) dvs kws f fd) (S : FnScope N ps (defScope st)) (len : ∀ vs H Q E, sp vs H Q E → vs.length = ps.length)
    (hbody : ∀ (cdv : Value) (A : Around) (outer : List Env) (s : Shared) (H : Hp) (vs : List V) (Q : VK) (E : XK), Room k (A.deeper (PyProof.Rows.envOfC qual (defScope st) s.heap.objs.size f cdv)) → sp vs H Q E →
      ∃ t, PSs (cxOf CX0 P w K mg base N qual (defScope st) f cdv A outer s H E).nox (defBody st) t ∧ t { nx := fun _ H' => Q .non H', rt := Q } (start N vs) H) : FnOk P w K mg base CX0 (k + 1) f fd ps sp :=
  F.ok (CX := CX0) S len fun cdv A outer s H vs Q E hr h => let ⟨t, a, b⟩ := hbody cdv A outer s H vs Q E hr h; ⟨t, a.nox, b⟩
theorem fund_mk {K : PySem.W.Frag} {x qual : Str} {st : Stmt} {f D : Addr} {oc tc : Value} {od an td : Option Addr} {osl tl : Array (Option Value)} {kV doc pm cdv ct : Value} {tn : Nat} {its : List Value} {ds : List V} (l : K.lookup f = some ⟨oc, od, .func (PySem.W.fnOf x qual (defArgs st) (defBody st) (defScope st) (.ref D) kV doc pm an cdv ct), osl⟩)
    (c : PySem.W.codeIn K cdv qual = true) (k : PySem.W.keepIn K (.ref f) = true) (t : K.lookup D = some ⟨tc, td, .seq its.toArray tn, tl⟩) (v : Vals ds its) (hd : ds ≠ [] := by simp) : FunD K x qual (defArgs st) (defBody st) (defScope st) ds [] f (PySem.W.fnOf x qual (defArgs st) (defBody st) (defScope st) (.ref D) kV doc pm an cdv ct) :=
  ⟨⟨oc, od, .ref D, kV, doc, pm, an, cdv, ct, osl, rfl, l, c, .inr ⟨hd, D, _, its, tn, rfl, t, rfl, v⟩, .inl rfl⟩, k⟩
theorem vnil {K : PySem.W.Frag} {fd : FuncData} {ps : List Str} {ds : List Value} (v : Vals [] ds) (b : Binds K fd ps ds) : Binds K fd ps [] := by
  cases v
  exact b
/-! making, sorting, extending; comprehensions over whatever walks -/
def RMk (C : Addr) (sp : Sp) (dvs : List V) (E : XK) (Q : VK) : List V → Hp → Prop := fun vs H1 => ∀ x dx, H1 x = none → H1 dx = none → dx ≠ x → sp (.ref x :: (vs ++ dvs)) (upd (upd H1 dx (.own x)) x (.ins C dx [])) (fun v H2 => v = .non ∧ Q (.ref x) H2) E
theorem e_make {C : Addr} {sp : Sp} {dvs : List V} {E : XK} {t : TA} {σ : L2.St} {H : Hp} {Q : VK} : tMake C sp dvs E t σ H Q = t σ H (RMk C sp dvs E Q) := rfl
theorem x_make {C : Addr} {sp : Sp} {dvs vs : List V} {E : XK} {H : Hp} {Q : VK} (h : ∀ x dx H1, H x = none → Ex H H1 → H1 x = some (.ins C dx []) → sp (.ref x :: (vs ++ dvs)) H1 (fun v H2 => v = .non ∧ Q (.ref x) H2) E) : RMk C sp dvs E Q vs H :=
  fun x dx hx hdx ne => h x dx _ hx ((Ex.new hdx).newT (by rw [upd_ne (Ne.symm ne)]; exact hx)) upd_same
theorem x_extend {H : Hp} {Q : VK} {l b : Addr} {xs zs : List V} (hl : H l = some (.lst xs)) (hb : H b = some (.lst zs)) (hz : xs.length + zs.length ≤ sizeLine) (h : Q .non (upd H l (.lst (xs ++ zs)))) : rExtend (.ref l) [.ref b] H Q := ⟨l, b, xs, zs, rfl, rfl, hl, hb, hz, h⟩
theorem x_clear {H : Hp} {Q : VK} {l : Addr} {xs : List V} (hl : H l = some (.lst xs)) (h : Q .non (upd H l (.lst []))) : rClear (.ref l) [] H Q := ⟨l, xs, rfl, rfl, hl, h⟩
theorem LcW.by1 {J : It} {n : Nat} {G : Hp → Prop} {Y : Nat → Hp → V → Hp → Prop} {te : TE} {k : Nat} {σ : L2.St} {H : Hp} {Q : VK} (w : Walk J n G Y) (hz : n < sizeLine) (Pv : Addr → Nat → List V → Hp → Prop)
    (h0 : ∀ D, H D = none → Pv D 0 [] (upd H D (.lst [])))
    (hG : ∀ D i acc H', H D = none → i ≤ n → Pv D i acc H' → G H')
    (hs : ∀ D i acc x H1 H1', i < n → H D = none → Pv D i acc H1 → H1 D = some (.lst acc) → Y i H1 x H1' → ∀ Qe : VK, (∀ y H4, H4 D = some (.lst acc) → Pv D (i + 1) (acc ++ [y]) (upd H4 D (.lst (acc ++ [y]))) → Qe y H4) → te ((wipe σ [k]).set k (some x)) H1' Qe)
    (hd : ∀ D acc H', H D = none → Pv D n acc H' → H' D = some (.lst acc) → acc.length = n → Q (.ref D) H') : LcW (gName k) tYes te [k] σ Q J H := by
  intro D hD
  refine lc_it w (Qd := fun H' => Q (.ref D) H') (fun i H' => ∃ acc, acc.length = i ∧ H' D = some (.lst acc) ∧ Pv D i acc H') ⟨[], rfl, upd_same, h0 D hD⟩ (fun i H' hi ⟨acc, _, _, p⟩ => hG D i acc H' hD hi p) ?_ ?_
  · rintro i x H1 H1' hi ⟨acc, hl, ha, p⟩ y
    refine ⟨wipe_set1, ?_⟩
    rw [e_yes]
    refine iteT ?_
    refine hs D i acc x H1 H1' hi hD p ha y _ fun y H4 h4 p4 => ⟨acc, h4, by rw [hl]; exact Nat.lt_trans hi hz, acc ++ [y], by simp [hl], upd_same, p4⟩
  · rintro H1 ⟨acc, hl, ha, p⟩
    exact hd D acc H1 hD p ha hl
end
/-! ranges downwards, list + list, insert -/
def Rg3 (R : It → Hp → Prop) : List V → Hp → Prop := fun vs H1 => ∃ (i j c : Int) (n : Nat), vs = [.int i, .int j, .int c] ∧ RgC i j c n ∧ R (Itc i c n) H1
theorem e_rng3 {σ : L2.St} {H : Hp} {ts : TA} {R : It → Hp → Prop} : iRng3 ts σ H R = ts σ H (Rg3 R) := rfl
theorem x_rgDown {m : Nat} {H : Hp} {R : It → Hp → Prop} (hm : (m : Int) < 2 ^ 61) (h : R (Itc ((m : Int) - 1) (-1) m) H) : Rg3 R [V.int ((m : Int) - 1), .int (-1), .int (-1)] H :=
  ⟨_, _, _, m, rfl, by
    have q := RgC.neg (i := (m : Int) - 1) (j := -1) (by omega) (by omega) (by omega) (by omega)
    have e : ((m : Int) - 1 - -1).toNat = m := by omega
    rw [e] at q; exact q, h⟩
theorem walk_down {n : Nat} : Walk (Itc ((n : Int) - 1) (-1) n) n (fun _ => True) (fun i H x H' => H' = H ∧ ∃ k : Nat, k = n - 1 - i ∧ x = .int (k : Int)) :=
  ⟨fun _ _ hi _ => hi, fun _ _ => Nat.le_refl _, fun i H x H' hi _ y => ⟨y.1, n - 1 - i, rfl, by
    rw [y.2]
    have e : (n : Int) - 1 + (i : Nat) * -1 = ((n - 1 - i : Nat) : Int) := by omega
    rw [e]⟩⟩
theorem x_cat {H : Hp} {Q : VK} {a b : Addr} {xs zs : List V} (ha : H a = some (.lst xs)) (hb : H b = some (.lst zs)) (hz : xs.length + zs.length ≤ sizeLine) (h : ∀ p, H p = none → Q (.ref p) (upd H p (.lst (xs ++ zs)))) : rCat (.ref a) (.ref b) H Q := ⟨a, b, xs, zs, rfl, rfl, ha, hb, hz, h⟩
def rInsert : V → List V → Hp → VK → Prop := fun x vs H Q => ∃ (l : Addr) (xs : List V) (i : Int) (y : V), x = .ref l ∧ vs = [.int i, y] ∧ H l = some (.lst xs) ∧ xs.length < sizeLine ∧ 0 ≤ i ∧ i < 2 ^ 63 ∧
    Q .non (upd H l (.lst (xs.take i.toNat ++ [y] ++ xs.drop i.toNat)))
theorem mt_ins {X : Cx} : MtR X "list.insert" rInsert := mt_insert
theorem x_insert {H : Hp} {Q : VK} {l : Addr} {xs : List V} {i : Int} {k : Nat} {y : V} (hi : i = k) (hl : H l = some (.lst xs)) (hz : xs.length < sizeLine) (hk : k < 2 ^ 62) (h : Q .non (upd H l (.lst (xs.take k ++ [y] ++ xs.drop k)))) : rInsert (.ref l) [.int i, y] H Q :=
  ⟨l, xs, i, y, rfl, rfl, hl, hz, by omega, by omega, by rw [hi, Int.toNat_natCast]; exact h⟩
theorem cut_len {xs : List V} {k m : Nat} : (cutV xs (some (k : Int)) (some (m : Int))).length ≤ m - k := by
  unfold cutV
  rw [HT.sIx_nat, HT.sIx_nat, List.length_take]
  omega
theorem cut_mem {xs : List V} {lo hi : Option Int} {x : V} (h : x ∈ cutV xs lo hi) : x ∈ xs := List.mem_of_mem_drop (List.mem_of_mem_take h)
theorem absI (i : Int) : ∃ n : Nat, (if i < 0 then -i else i) = (n : Int) := ⟨i.natAbs, by split <;> omega⟩
/-! equal by what is read -/
def Shp (d : PyData) (k : Nat) : Prop := d.canLay0 = true ∧ d.depth ≤ k
theorem Shp.mono {d : PyData} {k j : Nat} (h : Shp d k) (e : k ≤ j) : Shp d j := ⟨h.1, Nat.le_trans h.2 e⟩
theorem shp_all {k : Nat} : ∀ {xs : List PyData}, (∀ x ∈ xs, Shp x k) → PyData.canLayAll0 xs = true ∧ PyData.depthAll xs ≤ k
  | [], _ => by simp [PyData.canLayAll0, PyData.depthAll]
  | x :: xs, h => by
    have h1 := h x (List.mem_cons_self ..)
    have h2 := shp_all (xs := xs) fun y hy => h y (List.mem_cons_of_mem _ hy)
    simp only [PyData.canLayAll0, PyData.depthAll, h1.1, h2.1, Bool.and_self, true_and]
    exact Nat.max_le.mpr ⟨h1.2, h2.2⟩
theorem Shp.lst {k : Nat} {xs : List PyData} (h : ∀ x ∈ xs, Shp x k) : Shp (.list xs) (k + 1) := by
  have q := shp_all h
  exact ⟨by simp only [PyData.canLay0]; exact q.1, by simp only [PyData.depth]; omega⟩
theorem Shp.tup {k : Nat} {xs : List PyData} (h : ∀ x ∈ xs, Shp x k) : Shp (.tuple xs) (k + 1) := by
  have q := shp_all h
  exact ⟨by simp only [PyData.canLay0]; exact q.1, by simp only [PyData.depth]; omega⟩
theorem Shp.int {i : Int} : Shp (.int i) 0 := ⟨by simp only [PyData.canLay0], by simp only [PyData.depth]; exact Nat.le_refl _⟩
theorem Shp.bl {i : Bool} : Shp (.bool i) 0 := ⟨by simp only [PyData.canLay0], by simp only [PyData.depth]; exact Nat.le_refl _⟩
theorem Shp.non : Shp .none 0 := ⟨by simp only [PyData.canLay0], by simp only [PyData.depth]; exact Nat.le_refl _⟩
theorem Shp.str {x : Str} (h : PyData.canLay0 (.str x) = true) : Shp (.str x) 0 := ⟨h, by simp only [PyData.depth]; exact Nat.le_refl _⟩
theorem Shp.ints {xs : List Int} : Shp (.list (xs.map PyData.int)) 1 := Shp.lst fun x hx => by
  obtain ⟨i, _, rfl⟩ := List.mem_map.mp hx; exact Shp.int
theorem Shp.ok {d : PyData} {k : Nat} (h : Shp d k) (hk : k ≤ 64 := by decide) : SeqAt.shaped d = true := by
  unfold SeqAt.shaped
  rw [h.1, decide_eq_true (Nat.le_trans h.2 hk)]; rfl
theorem Dp.natsL {K : PySem.W.Frag} {H : Hp} {a : Addr} {xs : List Nat} (h : SqL K H a (xs.map nV)) : Dp K H (.ref a) (.list ((xs.map fun n : Nat => (n : Int)).map PyData.int)) := .lst (by rw [map_nV] at h; exact h) (dpAll_ints _)
theorem x_neSame {K : PySem.W.Frag} {H : Hp} {Q : VK} {x y : V} {d : PyData} {k : Nat} (hx : Dp K H x d) (hy : Dp K H y d) (hs : Shp d k) (h : Q (.bl false) H) (hk : k ≤ 64 := by decide) : rNeD K x y H Q := ⟨d, d, hx, hy, hs.ok hk, hs.ok hk, by
  rw [SeqAt.eqv_refl d hs.1]; exact h⟩
theorem x_eqSame {K : PySem.W.Frag} {H : Hp} {Q : VK} {x y : V} {d : PyData} {k : Nat} (hx : Dp K H x d) (hy : Dp K H y d) (hs : Shp d k) (h : Q (.bl true) H) (hk : k ≤ 64 := by decide) : rEqD K x y H Q := ⟨d, d, hx, hy, hs.ok hk, hs.ok hk, by
  rw [SeqAt.eqv_refl d hs.1]; exact h⟩
end Nn
/-! A made function handed to a def: the cells that it captured lie as they lay at the entry. -/
namespace Nn
open PySem PySem.Spec PyProof.Rows L2 NdefX LamX
section
variable {X : Cx} {pins : List (Addr × Obj)} {σ : L2.St} {H : Hp} {s : Shared} {cl : List (Str × Addr)} {fr : List Str} {ws : List (Option V)} {js : List Nat}
theorem cells_later (C : CellsAt cl fr ws X.s_0.heap X.H_0) (hx : X.ex = []) (I : Inv X pins σ H s) : CellsAt cl fr ws s.heap H := by
  have nx : ∀ c : Addr, c ∉ X.ex := fun c z => by rw [hx] at z; cases z
  have kp : ∀ y c, cl.lookup y = some c → ∀ v, X.s_0.heap.IsCell c v → s.heap.IsCell c v := fun y c e v ⟨o, ho, hd⟩ => by
    obtain ⟨sl, h⟩ := I.base.any ho (C.all y c e).1 (nx c)
    exact ⟨_, h, hd⟩
  refine ⟨C.len, fun y c e => ?_, C.inj, fun i y e => ?_⟩
  · obtain ⟨n, v, z⟩ := C.all y c e
    refine ⟨?_, v, kp y c e v z⟩
    obtain ⟨o, ho, _⟩ := z
    exact I.base.free c o ho n (nx c)
  · obtain ⟨c, hc, hv⟩ := C.has i y e
    refine ⟨c, hc, fun v ev => ?_⟩
    obtain ⟨u, r, z⟩ := hv v ev
    exact ⟨u, r, kp y c hc _ z⟩
/-- where a running def knows what the cells hold -/
structure Prov (X : Cx) (cl : List (Str × Addr)) (fr : List Str) (ws : L2.St → List (Option V)) : Prop where
  at_ : ∀ (pins : List (Addr × Obj)) (σ : L2.St) (H : Hp) (s : Shared), Inv X pins σ H s → CellsAt cl fr (ws σ) s.heap H
theorem Prov.entry (C : CellsAt cl fr ws X.s_0.heap X.H_0) (hx : X.ex = []) : Prov X cl fr fun _ => ws := ⟨fun _ _ _ _ I => cells_later C hx I⟩
theorem Prov.own (c : X.Ok → Caps X cl fr js) : Prov X cl fr fun σ => js.map (slotAt σ) := ⟨fun _ _ _ _ I => cells_of I (c I.ok)⟩
end
/-- a def that is handed a made function whose cells hold ws -/
structure FnOkC (P : Program) (w : World) (K : PySem.W.Frag) (mg : Str → Option Value) (base : Heap) (CX : CXT) (k : Nat) (f : Addr) (fd : FuncData) (ps : List Str) (cl : List (Str × Addr)) (fr : List Str) (ws : List (Option V)) (sp : Sp) : Prop where
  len : ∀ vs H Q E, sp vs H Q E → vs.length = ps.length
  run : ∀ (A : Around) (outer : List Env) (s : Shared) (H : Hp) (args : Args) (us : List Value) (vs : List V) (Q : VK) (E : XK), Room k A → Env0 P w K mg base A outer s H → BindsTo s fd args (ps.zip us) → Vals vs us → CellsAt cl fr ws s.heap H → sp vs H Q E →
    codeAny (model P w) A (.call (.ref f) args) (CR CX outer P w H s Q E) s
theorem fn_ofC {CX : CXT} {P : Program} {w : World} {K : PySem.W.Frag} {mg : Str → Option Value} {base : Heap} {k : Nat} {f : Addr} {name qual : Str} {params : Arguments} {body : List Stmt} {scope : Scope} {dV kV doc pm cdv ct oc : Value} {an od : Option Addr}
    {osl : Array (Option Value)} {N ps : List Str} {cl : List (Str × Addr)} {fr : List Str} {ws : List (Option V)} {sp : Sp} (lk : K.lookup f = some ⟨oc, od, .func (PySem.W.fnOf name qual params body scope dV kV doc pm an cdv ct), osl⟩) (hcd : PySem.W.codeIn K cdv qual = true) (S : FnScope N ps scope)
    (len : ∀ vs H Q E, sp vs H Q E → vs.length = ps.length)
    (hbody : ∀ (A : Around) (outer : List Env) (s : Shared) (H : Hp) (vs : List V) (Q : VK) (E : XK), Room k (A.deeper (envOfC qual scope s.heap.objs.size f cdv)) → CellsAt cl fr ws s.heap H → sp vs H Q E →
      ∃ t, PSs (cxOf CX P w K mg base N qual scope f cdv A outer s H E) body t ∧ t { nx := fun _ H' => Q .non H', rt := Q } (start N vs) H) :
    FnOkC P w K mg base CX (k + 1) f (PySem.W.fnOf name qual params body scope dV kV doc pm an cdv ct) ps cl fr ws sp := by
  refine ⟨len, fun A outer s H args us vs Q E hr e0 hb r hC hsp => ?_⟩
  -- a promise that knows the very heap and state of this entry is not to be had of a def's rule: the rule is gone through once more
  have hl := len _ _ _ _ hsp
  have KX : K.In s.heap := e0.mod.kin.keeps fun b o e => (e0.bs b o e).1
  have lim : s.heap.NoLimit := e0.mod.nolimit.keeps fun b o e => (e0.bs b o e).1
  have hkind : ∀ y ∈ ps.zip us, scope.names.lookup y.1 = some .local ∨ (scope.names.lookup y.1 = some .cell ∧ ((cellsFrom (s.heap.objs.size + 1) scope.names []).lookup y.1).isSome = true) := fun ⟨n, v⟩ hy => by
    rcases S.par n (List.of_mem_zip hy).1 with q | q
    · exact .inl q
    · exact .inr ⟨q, PySem.W.cellsFrom_some _ _ _ (.inl q)⟩
  refine codeAny_call_function hr.depth (KX _ _ lk) rfl S.co S.gen rfl (PySem.W.codeRec_of KX hcd) (hb _ _ _ _ ?_)
  refine wpAny_newFunctionEnv_cells S.kind hkind fun env he s1 x => ?_
  subst he
  refine ⟨lim.keeps x.toInCall.keep, codeAny_func ?_⟩
  obtain ⟨t, ht, hq⟩ := hbody A outer s H vs Q E (hr.deeper _) hC hsp
  have I : Inv (cxOf CX P w K mg base N qual scope f cdv A outer s H E) [] (start N vs) H s1 := inv_start S hr.hd e0 hl r x
  refine wpAny_mono (ht.run [] s1 (start N vs) H _ I hq) (fun fl s' hs => ?_) fun e s' hs => hs
  have fin : ∀ {σ' : L2.St} {H' : Hp} {v : V} {u : Value}, Inv (cxOf CX P w K mg base N qual scope f cdv A outer s H E) [] σ' H' s' → L2.RelV v u → Q v H' → CE outer P w H s Q u s' :=
    fun {σ' H' v u} J rv q => ⟨v, H', J.os, J.bare, J.base, J.hok, rv, q⟩
  cases fl with
  | ret u =>
    obtain ⟨v, σ', H', J, rv, q⟩ := hs
    exact fin J rv q
  | next =>
    obtain ⟨σ', H', J, q⟩ := hs
    exact fin (v := V.non) (u := Value.none) J rfl q
  | brk =>
    obtain ⟨_, _, _, q⟩ := hs
    exact False.elim q
  | cont =>
    obtain ⟨_, _, _, q⟩ := hs
    exact False.elim q
theorem Fun.okC {P : Program} {w : World} {K : PySem.W.Frag} {mg : Str → Option Value} {base : Heap} {x qual : Str} {st : Stmt} {f : Addr} {fd : FuncData} {N ps : List Str} {k : Nat} {cl : List (Str × Addr)} {fr : List Str} {ws : List (Option V)} {sp : Sp} (F : Fun K x qual st f fd) (S : FnScope N ps (defScope st)) (len : ∀ vs H Q E, sp vs H Q E → vs.length = ps.length)
    (hbody : ∀ (cdv : Value) (A : Around) (outer : List Env) (s : Shared) (H : Hp) (vs : List V) (Q : VK) (E : XK), Room k (A.deeper (envOfC qual (defScope st) s.heap.objs.size f cdv)) → CellsAt cl fr ws s.heap H → sp vs H Q E →
      ∃ t, PSs (cxOf CX0 P w K mg base N qual (defScope st) f cdv A outer s H E).nox (defBody st) t ∧ t { nx := fun _ H' => Q .non H', rt := Q } (start N vs) H) : FnOkC P w K mg base CX0 (k + 1) f fd ps cl fr ws sp := by
  obtain ⟨oc, od, kV, doc, pm, an, cdv, ct, osl, rfl, lk, hcd⟩ := F.ex
  refine fn_ofC lk hcd S len fun A outer s H vs Q E hr hC hsp => ?_
  obtain ⟨t, h, q⟩ := hbody cdv A outer s H vs Q E hr hC hsp
  exact ⟨t, h.nox, q⟩
/-- a def that needs no cells serves where they are told -/
theorem FnOkC.of {P : Program} {w : World} {K : PySem.W.Frag} {mg : Str → Option Value} {base : Heap} {CX : CXT} {k : Nat} {f : Addr} {fd : FuncData} {ps : List Str} {cl : List (Str × Addr)} {fr : List Str} {ws : List (Option V)} {sp : Sp} (F : FnOk P w K mg base CX k f fd ps sp) : FnOkC P w K mg base CX k f fd ps cl fr ws sp :=
  ⟨F.len, fun A outer s H args us vs Q E hr e0 hb r _ h => F.run A outer s H args us vs Q E hr e0 hb r h⟩
section
variable {X : Cx} {CX : CXT} {k j i : Nat} {f C : Addr} {fd : FuncData} {ps : List Str} {cl : List (Str × Addr)} {fr : List Str} {ws : L2.St → List (Option V)} {sp : List (Option V) → Sp} {dvs : List V} {ds : List Value} {E : XK} {x m : Str} {p pos apos : Pos} {e o : Expr} {es : List Expr} {ta : TE} {t : TA}
theorem run_fnC {pins : List (Addr × Obj)} {σ : L2.St} {H : Hp} {s : Shared} {Q : VK} {us : List Value} {vs : List V} (F : FnOkC X.prog X.w X.K X.mg X.base CX k f fd ps cl fr (ws σ) (sp (ws σ))) (pr : Prov X cl fr ws) (hr : Room k X.A) (hb : Binds X.K fd ps ds) (hd : Vals dvs ds) (hx : Passes CX X E)
    (I : Inv X pins σ H s) (r : Vals vs us) (h : sp (ws σ) (vs ++ dvs) H Q E) : wpAny (model X.prog X.w) X.A (call (.ref f) us) (EP X pins σ Q) X.xe s := by
  have r2 : Vals (vs ++ dvs) (us ++ ds) := r.append hd
  have hl : (us ++ ds).length = ps.length := by rw [← r2.length]; exact F.len _ _ _ _ h
  refine wpAny_call (codeAny_mono (F.run X.A X.stack s H ⟨us, []⟩ (us ++ ds) (vs ++ dvs) Q E hr I.env0 (hb s us I.kIn hl) r2 (pr.at_ pins σ H s I) h) fun r s' hq => ?_)
  cases r with
  | error e => exact hx pins σ H s e s' I hq
  | ok fl =>
    cases fl with
    | ret u => exact I.after hq
    | next => exact False.elim hq
    | brk => exact False.elim hq
    | cont => exact False.elim hq
def tCallC (ws : L2.St → List (Option V)) (sp : List (Option V) → Sp) (dvs : List V) (E : XK) (t : TA) : TE := fun σ H Q => t σ H fun vs H1 => sp (ws σ) (vs ++ dvs) H1 Q E
theorem pe_callC (F : ∀ ws, FnOkC X.prog X.w X.K X.mg X.base CX k f fd ps cl fr ws (sp ws)) (pr : Prov X cl fr ws) (hr : Room k X.A) (hg : Gl X x) (hm : X.mg x = some (.ref f)) (hk : PySem.W.keepIn X.K (.ref f) = true) (hb : Binds X.K fd ps ds) (hd : Vals dvs ds) (hx : Passes CX X E)
    (ha : PA X (e :: es) t) (hdb : (x == ("__debug__" : Str)) = false := by decide) (he : starEach (e :: es) X.env = (false, eval e X.env) :: starEach es X.env := by rfl) (hpl : (backTo pos (starEach es X.env)).any (·.1) = false := by rfl) :
    PE X (.Call (.Name x p) (e :: es) [] pos) (tCallC ws sp dvs E t) := by
  refine ⟨fun pins s σ H Q I h => ?_⟩
  refine wpAny_Call_Name_kw (ld_glob I hg hm ?_ hdb)
  refine PySem.W.callWith_K (h₀ := X.base) I.ok.mod.kin hk (thn (ha.run pos pins s σ H _ I h) fun us s1 ⟨vs, H1, I1, r, q⟩ => ⟨I1.kIn, ?_⟩) he hpl
  exact run_fnC (F _) pr hr hb hd hx I1 r q
def tMethC (C : Addr) (m : Str) (ws : L2.St → List (Option V)) (sp : List (Option V) → Sp) (dvs : List V) (E : XK) (ta : TE) (t : TA) : TE := fun σ H Q => ta σ H fun x H1 => ∃ a dx fs, x = .ref a ∧ H1 a = some (.ins C dx fs) ∧ fs.lookup m = none ∧
  t σ H1 fun vs H2 => sp (ws σ) (x :: (vs ++ dvs)) H2 Q E
theorem pe_methC {pl : Sem Bool} (he : PE X o ta) (c : Cls X.K C) (hm : Meth X.K C m f) (F : ∀ ws, FnOkC X.prog X.w X.K X.mg X.base CX k f fd ps cl fr ws (sp ws)) (pr : Prov X cl fr ws) (hr : Room k X.A) (hb : Binds X.K fd ps ds) (hd : Vals dvs ds) (hx : Passes CX X E) (ha : PA X (e :: es) t)
    (hst : starEach (e :: es) X.env = (false, eval e X.env) :: starEach es X.env := by rfl) (hpl : (backTo pos (starEach es X.env)).any (·.1) = false := by rfl)
    (ht : eval (.Call (.Attribute o m apos) (e :: es) [] pos) X.env = (do
      let ov ← eval o X.env
      standAt apos.atName
      let (f, first) ← holding [ov] (getMethod ov m pl)
      callWith pos f first (backTo pos (starEach (e :: es) X.env)) (backToKw pos (keywordEach [] X.env))) := by rfl) :
    PE X (.Call (.Attribute o m apos) (e :: es) [] pos) (tMethC C m ws sp dvs E ta t) := by
  refine ⟨fun pins s σ H Q I h => ?_⟩
  refine PySem.W.methodCall_KW (pl := pl) (thn (he.run pins s σ H _ I h) fun u s1 ⟨x, H1, I1, rx, a, dx, fs, ex, ea, l, q⟩ => ?_) ht
  subst ex
  obtain rfl : u = Value.ref a := rx
  refine getmeth_ok I1 ea c hm l ?_
  refine PySem.W.callWith_K (first := [.ref a]) (h₀ := X.base) I.ok.mod.kin hm.kp (thn (ha.run pos pins s1 σ H1 _ I1 q) fun us s2 ⟨vs, H2, I2, r, q2⟩ => ⟨I2.kIn, ?_⟩) hst hpl
  exact run_fnC (us := .ref a :: us) (vs := .ref a :: vs) (F _) pr hr hb hd hx I2 (.cons rfl r) q2
/-- a call of a name that holds the made function F -/
def tCallF (F : NF) (i : Nat) (ws : L2.St → List (Option V)) (sp : Addr → List (Option V) → Sp) (E : XK) (t : TA) : TE := fun σ H Q => ∃ f, σ[i]? = some (some (.ref f)) ∧ H f = some (FnO f F) ∧
  t σ H fun vs H1 => H1 f = some (FnO f F) ∧ H1 F.c = some (CodeO F.c F.qual) ∧ sp f (ws σ) vs H1 Q E
theorem pe_callF {F : NF} {sp : Addr → List (Option V) → Sp} (Fn : ∀ f, NOk X.prog X.w X.K X.mg X.base CX k f F ps fr (sp f)) (pr : Prov X F.cl fr ws) (hr : Room j X.A) (hk : k ≤ j) (hx : Passes CX X E) (hN : X.N[i]? = some x) (hv : Vis X.env.scope x) (ha : PA X (e :: es) t)
    (hd : (x == ("__debug__" : Str)) = false := by decide) (hcd : (x == ("__classdict__" : Str)) = false := by decide)
    (he : starEach (e :: es) X.env = (false, eval e X.env) :: starEach es X.env := by rfl) (hpl : (backTo pos (starEach es X.env)).any (·.1) = false := by rfl) :
    PE X (.Call (.Name x p) (e :: es) [] pos) (tCallF F i ws sp E t) := by
  refine ⟨fun pins s σ H Q I h => ?_⟩
  obtain ⟨f, hs, hf, ht⟩ := h
  refine wpAny_Call_Name_kw (thn ((pe_var (pos := p) hN hv hd hcd).run pins s σ H (fun v H1 => v = .ref f ∧ H1 = H) I ⟨.ref f, hs, rfl, rfl⟩) fun u s1 ⟨v, H1, I1, r1, q1⟩ => ?_)
  obtain ⟨ev, eH⟩ := q1
  subst ev
  rw [eH] at I1
  obtain rfl : u = Value.ref f := r1
  refine PySem.W.callWith_F (first := []) (fnAt_of I1 hf) (thn (ha.run pos pins s1 σ H _ I1 ht) fun us s2 ⟨vs, H2, I2, r, h1, h2, q⟩ => ⟨fnAt_of I2 h1, ?_⟩) he hpl
  show wpAny _ _ (call (.ref f) us) _ _ _
  refine wpAny_call (codeAny_mono ((Fn f).run X.A X.stack s2 H2 us vs _ Q E (hr.mono hk) I2.env0 h1 h2 (pr.at_ pins σ H2 s2 I2) r q) fun r s' hq => ?_)
  cases r with
  | error e => exact hx pins σ H2 s2 e s' I2 hq
  | ok fl =>
    cases fl with
    | ret u => exact I2.after hq
    | next => exact False.elim hq
    | brk => exact False.elim hq
    | cont => exact False.elim hq
end
end Nn

/-! closures in sight: their readings, for the walk -/
namespace Nn
open PySem PySem.Spec PyProof.Rows L2 NdefX LamX
theorem FunD.okC {P : Program} {w : World} {K : PySem.W.Frag} {mg : Str → Option Value} {base : Heap} {x qual : Str} {st : Stmt} {f : Addr} {fd : FuncData} {dvs : List V} {kws : List (Str × V)} {N ps : List Str} {k : Nat} {cl : List (Str × Addr)} {fr : List Str} {ws : List (Option V)} {sp : Sp} (F : FunD K x qual (defArgs st) (defBody st) (defScope st) dvs kws f fd) (S : FnScope N ps (defScope st)) (len : ∀ vs H Q E, sp vs H Q E → vs.length = ps.length)
    (hbody : ∀ (cdv : Value) (A : Around) (outer : List Env) (s : Shared) (H : Hp) (vs : List V) (Q : VK) (E : XK), Room k (A.deeper (envOfC qual (defScope st) s.heap.objs.size f cdv)) → CellsAt cl fr ws s.heap H → sp vs H Q E →
      ∃ t, PSs (cxOf CX0 P w K mg base N qual (defScope st) f cdv A outer s H E).nox (defBody st) t ∧ t { nx := fun _ H' => Q .non H', rt := Q } (start N vs) H) : FnOkC P w K mg base CX0 (k + 1) f fd ps cl fr ws sp := by
  obtain ⟨oc, od, dV, kV, doc, pm, an, cdv, ct, osl, rfl, lk, hcd, _, _⟩ := F.ex
  refine fn_ofC lk hcd S len fun A outer s H vs Q E hr hC hsp => ?_
  obtain ⟨t, h, q⟩ := hbody cdv A outer s H vs Q E hr hC hsp
  exact ⟨t, h.nox, q⟩
def RMtC (C : Addr) (m : Str) (ws : L2.St → List (Option V)) (sp : List (Option V) → Sp) (dvs : List V) (E : XK) (t : TA) (σ : L2.St) (Q : VK) : VK := fun x H1 => ∃ a dx fs, x = .ref a ∧ H1 a = some (.ins C dx fs) ∧ fs.lookup m = none ∧ t σ H1 fun vs H2 => sp (ws σ) (x :: (vs ++ dvs)) H2 Q E
theorem e_methC {C : Addr} {m : Str} {ws : L2.St → List (Option V)} {sp : List (Option V) → Sp} {dvs : List V} {E : XK} {ta : TE} {t : TA} {σ : L2.St} {H : Hp} {Q : VK} : tMethC C m ws sp dvs E ta t σ H Q = ta σ H (RMtC C m ws sp dvs E t σ Q) := rfl
theorem x_methC {C : Addr} {m : Str} {ws : L2.St → List (Option V)} {sp : List (Option V) → Sp} {dvs : List V} {E : XK} {t : TA} {σ : L2.St} {H : Hp} {Q : VK} {a dx : Addr} {fs : List (Str × V)} (h : H a = some (.ins C dx fs)) (l : fs.lookup m = none) (k : t σ H fun vs H2 => sp (ws σ) (.ref a :: (vs ++ dvs)) H2 Q E) : RMtC C m ws sp dvs E t σ Q (.ref a) H := ⟨a, dx, fs, rfl, h, l, k⟩
theorem e_callC {ws : L2.St → List (Option V)} {sp : List (Option V) → Sp} {dvs : List V} {E : XK} {t : TA} {σ : L2.St} {H : Hp} {Q : VK} : tCallC ws sp dvs E t σ H Q = t σ H fun vs H1 => sp (ws σ) (vs ++ dvs) H1 Q E := rfl
/-- a statement that is never come to -/
def tDead : TS := fun _ _ _ => False
theorem ps_dead {X : Cx} {st : Stmt} : PS X st tDead := ⟨fun _ _ _ _ _ _ h => h.elim⟩
end Nn
namespace Nn
open PySem L2
def top (i : Nat) : Stmt := PySem.Challenge.pw_nearnames_k24_fewer_silent.main.body.getD i (.Pass ⟨0, 0, 0, 0⟩)
abbrev s_far : Stmt := top 1
abbrev N_far : List Str := ["one", "other"]
theorem st_far (v0 v1 : V) : L2.start ["one", "other"] [v0, v1] = [some v0, some v1] := rfl
theorem sc_far : FnScope ["one", "other"] ["one", "other"] (defScope s_far) := ⟨rfl, rfl, rfl, by decide +kernel, rfl, by decide +kernel, by decide +kernel⟩
abbrev s_nearer : Stmt := top 2
abbrev N_nearer : List Str := ["goal", "one", "other"]
theorem st_nearer (v0 v1 v2 : V) : L2.start ["goal", "one", "other"] [v0, v1, v2] = [some v0, some v1, some v2] := rfl
theorem sc_nearer : FnScope ["goal", "one", "other"] ["goal", "one", "other"] (defScope s_nearer) := ⟨rfl, rfl, rfl, by decide +kernel, rfl, by decide +kernel, by decide +kernel⟩
abbrev s_by_nearness : Stmt := top 3
abbrev N_by_nearness : List Str := ["goal", "names", "by_far", "name", "one"]
theorem st_by_nearness (v0 v1 : V) : L2.start ["goal", "names", "by_far", "name", "one"] [v0, v1] = [some v0, some v1, none, none, none] := rfl
theorem sc_by_nearness : FnScope ["goal", "names", "by_far", "name", "one"] ["goal", "names"] (defScope s_by_nearness) := ⟨rfl, rfl, rfl, by decide +kernel, rfl, by decide +kernel, by decide +kernel⟩
abbrev s_standing : Stmt := top 5
abbrev N_standing : List Str := ["goal", "room", "seen", "quiet", "name"]
theorem st_standing (v0 v1 v2 v3 : V) : L2.start ["goal", "room", "seen", "quiet", "name"] [v0, v1, v2, v3] = [some v0, some v1, some v2, some v3, none] := rfl
theorem sc_standing : FnScope ["goal", "room", "seen", "quiet", "name"] ["goal", "room", "seen", "quiet"] (defScope s_standing) := ⟨rfl, rfl, rfl, by decide +kernel, rfl, by decide +kernel, by decide +kernel⟩
abbrev s_asked : Stmt := top 6
abbrev N_asked : List Str := ["start", "goal", "room", "tells", "row", "seen", "name", "quiet", "left", "house", "told", "done"]
theorem st_asked (v0 v1 v2 v3 : V) : L2.start ["start", "goal", "room", "tells", "row", "seen", "name", "quiet", "left", "house", "told", "done"] [v0, v1, v2, v3] = [some v0, some v1, some v2, some v3, none, none, none, none, none, none, none, none] := rfl
theorem sc_asked : FnScope ["start", "goal", "room", "tells", "row", "seen", "name", "quiet", "left", "house", "told", "done"] ["start", "goal", "room", "tells"] (defScope s_asked) := ⟨rfl, rfl, rfl, by decide +kernel, rfl, by decide +kernel, by decide +kernel⟩
abbrev s_onward : Stmt := top 7
abbrev N_onward : List Str := ["here", "goal", "tells", "name"]
theorem st_onward (v0 v1 v2 : V) : L2.start ["here", "goal", "tells", "name"] [v0, v1, v2] = [some v0, some v1, some v2, none] := rfl
theorem sc_onward : FnScope ["here", "goal", "tells", "name"] ["here", "goal", "tells"] (defScope s_onward) := ⟨rfl, rfl, rfl, by decide +kernel, rfl, by decide +kernel, by decide +kernel⟩
abbrev s_way : Stmt := top 8
abbrev N_way : List Str := ["start", "goal", "tells", "line", "other"]
theorem st_way (v0 v1 v2 : V) : L2.start ["start", "goal", "tells", "line", "other"] [v0, v1, v2] = [some v0, some v1, some v2, none, none] := rfl
theorem sc_way : FnScope ["start", "goal", "tells", "line", "other"] ["start", "goal", "tells"] (defScope s_way) := ⟨rfl, rfl, rfl, by decide +kernel, rfl, by decide +kernel, by decide +kernel⟩
abbrev s_l_mixed : Stmt := top 10
abbrev N_l_mixed : List Str := ["_law_cell", "_law_k"]
theorem st_l_mixed (v0 v1 : V) : L2.start ["_law_cell", "_law_k"] [v0, v1] = [some v0, some v1] := rfl
theorem sc_l_mixed : FnScope ["_law_cell", "_law_k"] ["_law_cell", "_law_k"] (defScope s_l_mixed) := ⟨rfl, rfl, rfl, by decide +kernel, rfl, by decide +kernel, by decide +kernel⟩
abbrev s_l_digits : Stmt := top 11
abbrev N_l_digits : List Str := ["_law_cell", "_law_base", "_law_many", "_law_found", "_law_k"]
theorem st_l_digits (v0 v1 v2 : V) : L2.start ["_law_cell", "_law_base", "_law_many", "_law_found", "_law_k"] [v0, v1, v2] = [some v0, some v1, some v2, none, none] := rfl
theorem sc_l_digits : FnScope ["_law_cell", "_law_base", "_law_many", "_law_found", "_law_k"] ["_law_cell", "_law_base", "_law_many"] (defScope s_l_digits) := ⟨rfl, rfl, rfl, by decide +kernel, rfl, by decide +kernel, by decide +kernel⟩
abbrev s_l_wide : Stmt := top 12
abbrev N_l_wide : List Str := ["_law_cell"]
theorem st_l_wide (v0 : V) : L2.start ["_law_cell"] [v0] = [some v0] := rfl
theorem sc_l_wide : FnScope ["_law_cell"] ["_law_cell"] (defScope s_l_wide) := ⟨rfl, rfl, rfl, by decide +kernel, rfl, by decide +kernel, by decide +kernel⟩
abbrev s_l_near : Stmt := top 13
abbrev N_l_near : List Str := ["_law_signs", "_law_wide_here", "_law_first"]
theorem st_l_near (v0 v1 v2 : V) : L2.start ["_law_signs", "_law_wide_here", "_law_first"] [v0, v1, v2] = [some v0, some v1, some v2] := rfl
theorem sc_l_near : FnScope ["_law_signs", "_law_wide_here", "_law_first"] ["_law_signs", "_law_wide_here", "_law_first"] (defScope s_l_near) := ⟨rfl, rfl, rfl, by decide +kernel, rfl, by decide +kernel, by decide +kernel⟩
abbrev s_l_pool : Stmt := top 14
abbrev N_l_pool : List Str := ["_law_cell", "_law_wide_here", "_law_many", "_law_pool_here", "_law_signs", "_law_k", "_law_name"]
theorem st_l_pool (v0 v1 v2 : V) : L2.start ["_law_cell", "_law_wide_here", "_law_many", "_law_pool_here", "_law_signs", "_law_k", "_law_name"] [v0, v1, v2] = [some v0, some v1, some v2, none, none, none, none] := rfl
theorem sc_l_pool : FnScope ["_law_cell", "_law_wide_here", "_law_many", "_law_pool_here", "_law_signs", "_law_k", "_law_name"] ["_law_cell", "_law_wide_here", "_law_many"] (defScope s_l_pool) := ⟨rfl, rfl, rfl, by decide +kernel, rfl, by decide +kernel, by decide +kernel⟩
abbrev s_l_by : Stmt := top 15
abbrev N_l_by : List Str := ["_law_goal", "_law_names", "_law_found", "_law_name"]
theorem st_l_by (v0 v1 : V) : L2.start ["_law_goal", "_law_names", "_law_found", "_law_name"] [v0, v1] = [some v0, some v1, none, none] := rfl
theorem sc_l_by : FnScope ["_law_goal", "_law_names", "_law_found", "_law_name"] ["_law_goal", "_law_names"] (defScope s_l_by) := ⟨rfl, rfl, rfl, by decide +kernel, rfl, by decide +kernel, by decide +kernel⟩
abbrev s_l_step : Stmt := top 16
abbrev N_l_step : List Str := ["_law_one", "_law_other", "_law_k"]
theorem st_l_step (v0 v1 : V) : L2.start ["_law_one", "_law_other", "_law_k"] [v0, v1] = [some v0, some v1, none] := rfl
theorem sc_l_step : FnScope ["_law_one", "_law_other", "_law_k"] ["_law_one", "_law_other"] (defScope s_l_step) := ⟨rfl, rfl, rfl, by decide +kernel, rfl, by decide +kernel, by decide +kernel⟩
abbrev s_l_kept : Stmt := top 17
abbrev N_l_kept : List Str := ["_law_pool_here", "_law_house", "_law_room", "_law_cell", "_law_parts", "_law_name", "_law_k", "_law_kept_here", "_law_some", "_law_j"]
theorem st_l_kept (v0 v1 v2 v3 : V) : L2.start ["_law_pool_here", "_law_house", "_law_room", "_law_cell", "_law_parts", "_law_name", "_law_k", "_law_kept_here", "_law_some", "_law_j"] [v0, v1, v2, v3] = [some v0, some v1, some v2, some v3, none, none, none, none, none, none] := rfl
theorem sc_l_kept : FnScope ["_law_pool_here", "_law_house", "_law_room", "_law_cell", "_law_parts", "_law_name", "_law_k", "_law_kept_here", "_law_some", "_law_j"] ["_law_pool_here", "_law_house", "_law_room", "_law_cell"] (defScope s_l_kept) := ⟨rfl, rfl, rfl, by decide +kernel, rfl, by decide +kernel, by decide +kernel⟩
abbrev s_l_right : Stmt := top 18
abbrev N_l_right : List Str := ["_law_keeps", "_law_awake", "_law_wide_here", "_law_room", "_law_start", "_law_goal", "_law_tells", "_law_row", "_law_found", "_law_others", "_law_name", "_law_line"]
theorem st_l_right (v0 v1 v2 v3 v4 v5 : V) : L2.start ["_law_keeps", "_law_awake", "_law_wide_here", "_law_room", "_law_start", "_law_goal", "_law_tells", "_law_row", "_law_found", "_law_others", "_law_name", "_law_line"] [v0, v1, v2, v3, v4, v5] = [some v0, some v1, some v2, some v3, some v4, some v5, none, none, none, none, none, none] := rfl
theorem sc_l_right : FnScope ["_law_keeps", "_law_awake", "_law_wide_here", "_law_room", "_law_start", "_law_goal", "_law_tells", "_law_row", "_law_found", "_law_others", "_law_name", "_law_line"] ["_law_keeps", "_law_awake", "_law_wide_here", "_law_room", "_law_start", "_law_goal"] (defScope s_l_right) := ⟨rfl, rfl, rfl, by decide +kernel, rfl, by decide +kernel, by decide +kernel⟩
abbrev s_law : Stmt := top 19
abbrev N_law : List Str := ["_law_script", "_law_cells", "_law_cell", "_law_head", "_law_wide_here", "_law_room", "_law_pool_here", "_law_keeps", "_law_k", "_law_name", "_law_quiet", "_law_awake", "_law_start", "_law_aims", "_law_goal"]
theorem st_law (v0 : V) : L2.start ["_law_script", "_law_cells", "_law_cell", "_law_head", "_law_wide_here", "_law_room", "_law_pool_here", "_law_keeps", "_law_k", "_law_name", "_law_quiet", "_law_awake", "_law_start", "_law_aims", "_law_goal"] [v0] = [some v0, none, none, none, none, none, none, none, none, none, none, none, none, none, none] := rfl
theorem sc_law : FnScope ["_law_script", "_law_cells", "_law_cell", "_law_head", "_law_wide_here", "_law_room", "_law_pool_here", "_law_keeps", "_law_k", "_law_name", "_law_quiet", "_law_awake", "_law_start", "_law_aims", "_law_goal"] ["_law_script"] (defScope s_law) := ⟨rfl, rfl, rfl, by decide +kernel, rfl, by decide +kernel, by decide +kernel⟩
abbrev s_l_right__law_tells : Stmt := (defBody s_l_right).getD 0 (.Pass ⟨0, 0, 0, 0⟩)
abbrev N_l_right__law_tells : List Str := ["_law_house", "_law_aim", "_law_asker", "_law_awake", "_law_room", "_law_keeps", "_law_name"]
abbrev fr_l_right__law_tells : List Str := ["_law_awake", "_law_room", "_law_keeps"]
theorem nsc_l_right__law_tells : NcX.NScope N_l_right__law_tells ["_law_house", "_law_aim", "_law_asker"] fr_l_right__law_tells (C8.fnScope s_l_right__law_tells) := NcX.nscope_by (by decide +kernel)
theorem st_l_right__law_tells (v0 v1 v2 : V) (w0 w1 w2 : Option V) : NdefX.startF ["_law_house", "_law_aim", "_law_asker", "_law_awake", "_law_room", "_law_keeps", "_law_name"] [v0, v1, v2] [w0, w1, w2] = [some v0, some v1, some v2, w0, w1, w2, none] := rfl
theorem ndB_l_right__law_tells : NdefX.ndefB (defScope s_l_right) (C8.fnScope s_l_right__law_tells) fr_l_right__law_tells = true := by decide +kernel
abbrev nf_l_right__law_tells (cl : List (Str × Addr)) (c : Addr) : NdefX.NF := NdefX.NF.of s_l_right__law_tells "_law_tells" ((("_law_right" : Str) ++ ".<locals>.") ++ "_law_tells") cl c
theorem nm_l_right__law_tells : nmAll 95 4 = (("_law_right" : Str) ++ ".<locals>.") ++ "_law_tells" := by decide +kernel
theorem nm_lam_l_by : nmAll 74 34 = (("_law_by" : Str) ++ ".<locals>.") ++ "<lambda>" := by decide +kernel
def tfL : List He.Defn := [("_law_by", none), ("_law_right", none)]
def Tabs0 (K : PySem.W.Frag) (H : Hp) : Prop := ∀ p ∈ tfL.map (He.cT K), H p.2 = some (.tbl #[])
end Nn
/-! A made function that outlives the def that made it: its cells are tracked from the maker's end on. -/
namespace Nn
open PySem PySem.Spec PyProof.Rows L2 NdefX LamX
/-- a cell that holds v -/
def CellO (c : Addr) (v : V) : HO := .ext fun h => ∃ u, L2.RelV v u ∧ h.IsCell c (some u)
theorem cellO_ok {P : Program} {w : World} {H : Hp} {h : Heap} {c : Addr} {v : V} {u : Value} (r : L2.RelV v u) (e : h.IsCell c (some u)) : ObjOk P w H h c (CellO c v) := by
  obtain ⟨o, ho, hd⟩ := e
  exact ⟨⟨u, r, o, ho, hd⟩, ⟨o, ho⟩, fun h1 h2 ⟨u1, r1, o1, h3, h4⟩ k => ⟨u1, r1, o1, k _ h3, h4⟩⟩
/-- the cells of a function are tracked: they hold vs -/
structure CellsT (H : Hp) (cl : List (Str × Addr)) (fr : List Str) (vs : List V) : Prop where
  len : vs.length = fr.length
  all : ∀ y c, cl.lookup y = some c → ∃ v, H c = some (CellO c v)
  inj : ∀ x y c, cl.lookup x = some c → cl.lookup y = some c → x = y
  has : ∀ (i : Nat) (y : Str), fr[i]? = some y → ∃ c v, cl.lookup y = some c ∧ vs[i]? = some v ∧ H c = some (CellO c v)
open Classical in
noncomputable def strip (H : Hp) (cl : List (Str × Addr)) : Hp := fun b => if ∃ y, cl.lookup y = some b then none else H b
open Classical in
noncomputable def relay (H H' : Hp) (cl : List (Str × Addr)) : Hp := fun b => if ∃ y, cl.lookup y = some b then H b else H' b
section
variable {H H' : Hp} {cl : List (Str × Addr)} {fr : List Str} {vs : List V} {a : Addr} {o : HO}
theorem strip_in {y : Str} (h : cl.lookup y = some a) : strip H cl a = none := by unfold strip; rw [if_pos ⟨y, h⟩]
theorem strip_out (h : ¬ ∃ y, cl.lookup y = some a) : strip H cl a = H a := by unfold strip; rw [if_neg h]
theorem relay_in {y : Str} (h : cl.lookup y = some a) : relay H H' cl a = H a := by unfold relay; rw [if_pos ⟨y, h⟩]
theorem relay_out (h : ¬ ∃ y, cl.lookup y = some a) : relay H H' cl a = H' a := by unfold relay; rw [if_neg h]
theorem CellsT.no (C : CellsT H cl fr vs) (h : H a = some o) (n : NX o) : ¬ ∃ y, cl.lookup y = some a := fun ⟨y, e⟩ => by
  obtain ⟨v, hv⟩ := C.all y a e
  rw [h] at hv
  have hv := Option.some.inj hv
  rw [hv] at n
  exact n
/-- what is no cell stays in sight -/
theorem strip_at (C : CellsT H cl fr vs) (h : H a = some o) (n : NX o := by trivial) : strip H cl a = some o := by rw [strip_out (C.no h n)]; exact h
theorem strip_none (h : H a = none) : strip H cl a = none := by
  by_cases e : ∃ y, cl.lookup y = some a
  · obtain ⟨y, e⟩ := e; exact strip_in e
  · rw [strip_out e]; exact h
theorem relay_at (C : CellsT H cl fr vs) (f : strip H cl a = none → H' a = none) (h : H' a = some o) : relay H H' cl a = some o := by
  by_cases e : ∃ y, cl.lookup y = some a
  · obtain ⟨y, e⟩ := e
    rw [f (strip_in e)] at h; cases h
  · rw [relay_out e]; exact h
theorem relay_strip : relay H (strip H cl) cl = H := funext fun a => by
  by_cases e : ∃ y, cl.lookup y = some a
  · obtain ⟨y, e⟩ := e; exact relay_in e
  · rw [relay_out e, strip_out e]
/-- no cell is a code object -/
def Sep (H : Hp) (cl : List (Str × Addr)) : Prop := ∀ y a, cl.lookup y = some a → ∀ q, H a ≠ some (CodeO a q)
/-- the call leaves the cells untold -/
def Shut (H' : Hp) (cl : List (Str × Addr)) : Prop := ∀ y a, cl.lookup y = some a → H' a = none
/-- how the heap goes on over a call of the function -/
theorem CellsT.goes {S : Addr → Prop} (C : CellsT H cl fr vs) (se : Sep H cl) (sh : Shut H' cl) (f : Fr S (strip H cl) H') : Fr S H (relay H H' cl) where
  keep := fun a o h n s => by
    by_cases e : ∃ y, cl.lookup y = some a
    · obtain ⟨y, e⟩ := e
      rw [relay_in e]; exact h
    · rw [relay_out e]
      exact f.keep a o (by rw [strip_out e]; exact h) n s
  tab := fun P ⟨ps, h1, h2, h3⟩ => by
    have noP : ∀ {Hx : Hp} {qs : Array Value}, Hx P = some (.tbl qs) → (∀ y, cl.lookup y = some P → Hx P = none ∨ ∃ v, Hx P = some (CellO P v)) → ¬ ∃ y, cl.lookup y = some P := fun {Hx qs} e k ⟨y, hy⟩ => by
      rcases k y hy with z | ⟨v, z⟩
      · rw [e] at z; cases z
      · rw [e] at z
        have z := Option.some.inj z
        unfold CellO at z
        cases z
    have n1 := noP h1 fun y hy => .inr (C.all y P hy)
    have t1 : TabN (strip H cl) P nmAll := ⟨ps, by rw [strip_out n1]; exact h1, h2, fun pos cv hc => by
      obtain ⟨c, e1, e2⟩ := h3 pos cv hc
      refine ⟨c, e1, ?_⟩
      rw [strip_out fun ⟨y, hy⟩ => se y c hy _ e2]
      exact e2⟩
    obtain ⟨qs, g1, g2, g3⟩ := f.tab P t1
    have n2 := noP g1 fun y hy => .inl (sh y P hy)
    refine ⟨qs, by rw [relay_out n2]; exact g1, g2, fun pos cv hc => ?_⟩
    obtain ⟨c, e1, e2⟩ := g3 pos cv hc
    refine ⟨c, e1, ?_⟩
    rw [relay_out fun ⟨y, hy⟩ => by rw [sh y c hy] at e2; cases e2]
    exact e2
  back := fun a h => by
    by_cases e : ∃ y, cl.lookup y = some a
    · obtain ⟨y, e⟩ := e
      rw [relay_in e] at h; exact h
    · rw [relay_out e] at h
      have q := f.back a h
      rw [strip_out e] at q
      exact q
theorem CellsT.ex (C : CellsT H cl fr vs) (e : ∀ a o, H a = some o → NT o → H' a = some o) : CellsT H' cl fr vs :=
  ⟨C.len, fun y c h => let ⟨v, z⟩ := C.all y c h; ⟨v, e _ _ z trivial⟩, C.inj, fun i y h => let ⟨c, v, h1, h2, h3⟩ := C.has i y h; ⟨c, v, h1, h2, e _ _ h3 trivial⟩⟩
end
section
variable {P : Program} {w : World} {K : PySem.W.Frag} {mg : Str → Option Value} {base : Heap} {k : Nat} {f : Addr} {F : NF} {ps fr : List Str} {sp : List (Option V) → Sp}
theorem run_T (Fn : NOk P w K mg base CX0 k f F ps fr sp) {A : Around} {outer : List Env} {s : Shared} {H : Hp} {us : List Value} {vs zs : List V} {Q : VK} {E : XK} (hr : Room k A) (e0 : Env0 P w K mg base A outer s H) (hf : H f = some (FnO f F)) (hc : H F.c = some (CodeO F.c F.qual)) (C : CellsT H F.cl fr zs) (r : Vals vs us)
    (h : Sep H F.cl → sp (zs.map some) vs (strip H F.cl) (fun v H' => Shut H' F.cl → Q v (relay H H' F.cl)) E) : codeAny (model P w) A (.call (.ref f) ⟨us, []⟩) (CR CX0 outer P w H s Q E) s := by
  have cellAt : ∀ y a, F.cl.lookup y = some a → ∃ v u, H a = some (CellO a v) ∧ L2.RelV v u ∧ s.heap.IsCell a (some u) := fun y a e => by
    obtain ⟨v, hv⟩ := C.all y a e
    obtain ⟨⟨u, r1, z⟩, _, _⟩ := e0.hok a _ hv
    exact ⟨v, u, hv, r1, z⟩
  have noFn : ¬ ∃ y, F.cl.lookup y = some f := fun ⟨y, e⟩ => by
    obtain ⟨v, u, _, _, o, ho, hd⟩ := cellAt y f e
    obtain ⟨od, sl, doc, pm, ctv, z⟩ := fnO_at e0.hok hf
    rw [z] at ho; cases ho; cases hd
  have sep : Sep H F.cl := fun y a e q z => by
    obtain ⟨v, u, _, _, o, ho, hd⟩ := cellAt y a e
    obtain ⟨c, oc, ws, t, e1, e2, e3, _⟩ := codeO_at e0.hok z
    cases e1
    rw [e2] at ho; cases ho
    rw [hd] at e3; cases e3
  have noC : ¬ ∃ y, F.cl.lookup y = some F.c := fun ⟨y, e⟩ => sep y _ e _ hc
  have outOf : ∀ {b : Addr} {o : HO}, H b = some o → (∀ v, o ≠ CellO b v) → strip H F.cl b = some o := fun {b o} e n => by
    rw [strip_out fun ⟨y, z⟩ => by
      obtain ⟨v, hv⟩ := C.all y b z
      rw [e] at hv
      exact n v (Option.some.inj hv)]
    exact e
  have hok1 : HOk P w (strip H F.cl) s.heap := fun a o q => by
    have na : ¬ ∃ y, F.cl.lookup y = some a := fun ⟨y, z⟩ => by rw [strip_in z] at q; cases q
    rw [strip_out na] at q
    refine (e0.hok a o q).stay (fun _ _ _ z => z) (fun b z => outOf z fun v q => ?_) (fun b xs z => outOf z fun v q => ?_)
    · unfold CellO at q; cases q
    · unfold CellO at q; cases q
  have e1 : Env0 P w K mg base A outer s (strip H F.cl) := ⟨e0.frames, e0.mod, fun b o q => ⟨(e0.bs b o q).1, strip_none (e0.bs b o q).2⟩, e0.bsz, e0.funs, fun b q => strip_none (e0.frf b q), hok1, e0.bare⟩
  have C1 : CellsAt F.cl fr (zs.map some) s.heap (strip H F.cl) := ⟨by rw [List.length_map]; exact C.len, fun y c e => by
      obtain ⟨v, u, _, _, z⟩ := cellAt y c e
      exact ⟨strip_in e, _, z⟩, C.inj, fun i y e => by
      obtain ⟨c, v, h1, h2, h3⟩ := C.has i y e
      refine ⟨c, h1, fun v' hv' => ?_⟩
      rw [List.getElem?_map, h2] at hv'
      cases hv'
      obtain ⟨⟨u, r1, z⟩, _, _⟩ := e0.hok c _ h3
      exact ⟨u, r1, z⟩⟩
  refine codeAny_mono (Fn.run A outer s (strip H F.cl) us vs (zs.map some) _ E hr e1 (by rw [strip_out noFn]; exact hf) (by rw [strip_out noC]; exact hc) C1 r (h sep)) fun rr s' hq => ?_
  cases rr with
  | error e => exact hq
  | ok fl =>
    cases fl with
    | next => exact hq
    | brk => exact hq
    | cont => exact hq
    | ret u =>
      obtain ⟨v, H', os, bare, un, hok, rv, q⟩ := hq
      have shut : Shut H' F.cl := fun y a e => by
        obtain ⟨_, _, _, _, o, ho, _⟩ := cellAt y a e
        exact un.free a o ho (strip_in e) (by simp)
      have key : ∀ {b : Addr} {o o' : HO}, H b = some o → (∀ v, o ≠ CellO b v) → (strip H F.cl b = some o → H' b = some o') → relay H H' F.cl b = some o' := fun {b o o'} e n g => by
        have z := outOf e n
        have z' : ¬ ∃ y, F.cl.lookup y = some b := fun ⟨y, q⟩ => by rw [strip_in q] at z; cases z
        rw [relay_out z']
        exact g z
      have un2 : Un (frs outer) [] H (relay H H' F.cl) s.heap s'.heap := by
        refine ⟨fun b o e n => un.keep b o e (strip_none n), fun b o e n => un.slot b o e (strip_none n), fun b o e n hx => ?_, un.there, fun b xs e => ?_, fun b o u e => ?_, fun b ps e => ?_⟩
        · by_cases z : ∃ y, F.cl.lookup y = some b
          · obtain ⟨y, z⟩ := z
            rw [relay_in z]; exact n
          · rw [relay_out z]; exact un.free b o e (strip_none n) hx
        · exact key e (fun v q => by unfold CellO at q; cases q) (un.tups b xs)
        · exact key e (fun v q => by unfold CellO at q; cases q) (un.frzs b o u)
        · have z := outOf e fun v q => by unfold CellO at q; cases q
          obtain ⟨more, hm⟩ := un.tbls b ps z
          exact ⟨more, key e (fun v q => by unfold CellO at q; cases q) fun _ => hm⟩
      have inR : ∀ {b : Addr} {o : HO}, H' b = some o → relay H H' F.cl b = some o := fun {b o} e => by
        rw [relay_out fun ⟨y, z⟩ => by rw [shut y b z] at e; cases e]
        exact e
      refine ⟨v, relay H H' F.cl, os, bare, un2, fun a o e => ?_, rv, q shut⟩
      by_cases z : ∃ y, F.cl.lookup y = some a
      · obtain ⟨y, z⟩ := z
        rw [relay_in z] at e
        obtain ⟨v1, u1, h1, r1, ob, ho, hd⟩ := cellAt y a z
        rw [h1] at e; cases e
        have nf : a ∉ frs outer := fun q => by rw [e0.frf a q] at h1; cases h1
        exact cellO_ok r1 ⟨ob, un.keep a ob ho (strip_in z) nf (by simp), hd⟩
      · rw [relay_out z] at e
        exact (hok a o e).stay (fun _ _ _ q => q) (fun b q => inR q) fun b xs q => inR q
/-- f(..), f a name that holds a function whose cells are tracked -/
def tCallT (F : NF) (i : Nat) (fr : List Str) (sp : Addr → List (Option V) → Sp) (t : TA) : TE := fun σ H Q => ∃ f zs, σ[i]? = some (some (.ref f)) ∧ H f = some (FnO f F) ∧
  t σ H fun vs H1 => H1 f = some (FnO f F) ∧ H1 F.c = some (CodeO F.c F.qual) ∧ CellsT H1 F.cl fr zs ∧ (Sep H1 F.cl → sp f (zs.map some) vs (strip H1 F.cl) (fun v H' => Shut H' F.cl → Q v (relay H1 H' F.cl)) E0)
theorem pe_callT {X : Cx} {i j : Nat} {x : Str} {p pos : Pos} {e : Expr} {es : List Expr} {t : TA} {sp : Addr → List (Option V) → Sp} (Fn : ∀ f, NOk X.prog X.w X.K X.mg X.base CX0 k f F ps fr (sp f)) (hr : Room j X.A) (hk : k ≤ j) (hN : X.N[i]? = some x) (hv : Vis X.env.scope x) (ha : PA X (e :: es) t)
    (hd : (x == ("__debug__" : Str)) = false := by decide) (hcd : (x == ("__classdict__" : Str)) = false := by decide)
    (he : starEach (e :: es) X.env = (false, eval e X.env) :: starEach es X.env := by rfl) (hpl : (backTo pos (starEach es X.env)).any (·.1) = false := by rfl) :
    PE X (.Call (.Name x p) (e :: es) [] pos) (tCallT F i fr sp t) := by
  refine ⟨fun pins s σ H Q I h => ?_⟩
  obtain ⟨f, zs, hs, hf, ht⟩ := h
  refine wpAny_Call_Name_kw (thn ((pe_var (pos := p) hN hv hd hcd).run pins s σ H (fun v H1 => v = .ref f ∧ H1 = H) I ⟨.ref f, hs, rfl, rfl⟩) fun u s1 ⟨v, H1, I1, r1, q1⟩ => ?_)
  obtain ⟨ev, eH⟩ := q1
  subst ev
  rw [eH] at I1
  obtain rfl : u = Value.ref f := r1
  refine PySem.W.callWith_F (first := []) (fnAt_of I1 hf) (thn (ha.run pos pins s1 σ H _ I1 ht) fun us s2 ⟨vs, H2, I2, r, h1, h2, C, q⟩ => ⟨fnAt_of I2 h1, ?_⟩) he hpl
  show wpAny _ _ (call (.ref f) us) _ _ _
  refine wpAny_call (codeAny_mono (run_T (Fn f) (hr.mono hk) I2.env0 h1 h2 C r q) fun r s' hq => ?_)
  cases r with
  | error e => exact False.elim hq
  | ok fl =>
    cases fl with
    | ret u => exact I2.after hq
    | next => exact False.elim hq
    | brk => exact False.elim hq
    | cont => exact False.elim hq
end
end Nn

/-! A def that makes a function and tells it. -/
namespace Nn
open PySem PySem.Spec PyProof.Rows L2 NdefX LamX
/-- a def whose code object is known -/
structure FunC (K : PySem.W.Frag) (x qual : Str) (st : Stmt) (f : Addr) (fd : FuncData) (c : Addr) : Prop where
  ex : ∃ (oc : Value) (od : Option Addr) (kV doc pm : Value) (an : Option Addr) (ct : Value) (osl : Array (Option Value)),
    fd = PySem.W.fnOf x qual (defArgs st) (defBody st) (defScope st) .none kV doc pm an (.ref c) ct ∧ K.lookup f = some ⟨oc, od, .func fd, osl⟩ ∧ PySem.W.codeIn K (.ref c) qual = true
theorem func_of {K : PySem.W.Frag} {x qual : Str} {st : Stmt} {p : He.Defn} {fd : FuncData} (F : FunD K x qual (defArgs st) (defBody st) (defScope st) [] [] (He.fAd K p) fd) : FunC K x qual st (He.fAd K p) fd (He.codeOf K p) := by
  obtain ⟨oc, od, dV, kV, doc, pm, an, cdv, ct, osl, rfl, lk, hcd, hD, hK⟩ := F.ex
  rcases hD with ⟨_, rfl⟩ | ⟨e, _⟩
  · obtain ⟨c, rfl⟩ := He.codeIn_ref hcd
    rw [He.codeOf_eq lk rfl]
    exact ⟨oc, od, kV, doc, pm, an, ct, osl, rfl, lk, hcd⟩
  · exact absurd rfl e
theorem FunC.okC {P : Program} {w : World} {K : PySem.W.Frag} {mg : Str → Option Value} {base : Heap} {x qual : Str} {st : Stmt} {f c : Addr} {fd : FuncData} {N ps : List Str} {k : Nat} {sp : Sp} (F : FunC K x qual st f fd c) (S : FnScope N ps (defScope st)) (len : ∀ vs H Q E, sp vs H Q E → vs.length = ps.length)
    (hbody : ∀ (A : Around) (outer : List Env) (s : Shared) (H : Hp) (vs : List V) (Q : VK) (E : XK), Room k (A.deeper (envOfC qual (defScope st) s.heap.objs.size f (.ref c))) → sp vs H Q E →
      ∃ t, PSs (cxOf CX0 P w K mg base N qual (defScope st) f (.ref c) A outer s H E).nox (defBody st) t ∧ t { nx := fun _ H' => Q .non H', rt := Q } (start N vs) H) : FnOk P w K mg base CX0 (k + 1) f fd ps sp := by
  obtain ⟨oc, od, kV, doc, pm, an, ct, osl, rfl, lk, hcd⟩ := F.ex
  refine fn_of lk hcd S len fun A outer s H vs Q E hr hsp => ?_
  obtain ⟨t, h, q⟩ := hbody A outer s H vs Q E hr hsp
  exact ⟨t, h.nox, q⟩
/-- the reading of a nested def: all tables are told of -/
def tNdefA (P : Addr) (i : Nat) (mk : Addr → NF) : TS := fun D σ H => TabN H P nmAll ∧ ∀ (f c' : Addr) (H1 : Hp), Ex H H1 → H f = none → H1 f = some (FnO f (mk c')) → H1 c' = some (CodeO c' (mk c').qual) → D.nx (σ.set i (some (.ref f))) H1
open Classical in
theorem ps_ndefA {X : Cx} {st : Stmt} {c P : Addr} {name : Str} {pos : Pos} {i : Nat} (hst : st = .FunctionDef name (C8.fnArgs st) (C8.fnBody st) [] none [] (C8.fnScope st) none name pos) (TB : TabB X.base X.mg c P) (hcode : X.env.code = .ref c) (hn : nmAll pos.line pos.col = X.env.qual ++ name)
    (hfree : ∀ y ∈ (C8.fnScope st).names, y.2 = .free → X.env.scope.names.lookup y.1 = some .cell ∨ X.env.scope.names.lookup y.1 = some .free) (hd0 : (C8.fnArgs st).defaults = []) (hk0 : (C8.fnArgs st).kw_defaults = []) (ha : annTrees (C8.fnArgs st) none X.env = [])
    (hN : X.N.Nodup) (hi : X.N[i]? = some name) (hx : Loc X.env.scope name) (hf : X.fn name = true ∨ X.env.scope.names.lookup name = some .local) :
    PS X st (tNdefA P i (NF.of st name (X.env.qual ++ name) (cloFrom X.env.cells (C8.fnScope st).names []))) := by
  refine ⟨fun pins s σ H D I h => ?_⟩
  obtain ⟨hT, h⟩ := h
  have lt : ∀ P', TabN H P' nmAll → P' < s.heap.objs.size := fun P' ⟨ps, e, _⟩ => I.hok.lt e
  have mem : ∀ P', TabN H P' nmAll → (P', nmAll) ∈ ((List.range s.heap.objs.size).filter fun P' => decide (TabN H P' nmAll)).map fun P' => (P', nmAll) := fun P' t =>
    List.mem_map.mpr ⟨P', List.mem_filter.mpr ⟨List.mem_range.mpr (lt P' t), decide_eq_true t⟩, rfl⟩
  refine (ps_ndefMS (T := ((List.range s.heap.objs.size).filter fun P' => decide (TabN H P' nmAll)).map fun P' => (P', nmAll)) (nm := nmAll) hst TB hcode (mem P hT) hn (fun p hp _ => ?_) hfree hd0 hk0 ha hN hi hx hf).run pins s σ H D I ⟨fun p hp => ?_, fun f c' H1 eN nn T1 f0 f1 c1 => h f c' H1 ⟨fun a o e n _ => eN a o e fun ps z => by rw [z] at n; exact n, fun P' t => T1 _ (mem P' t), nn⟩ f0 f1 c1⟩
  · obtain ⟨_, _, rfl⟩ := List.mem_map.mp hp; rfl
  · obtain ⟨P', hp2, rfl⟩ := List.mem_map.mp hp
    have q := (List.mem_filter.mp hp2).2
    simpa using q
open Classical in
noncomputable def layC (H : Hp) (cl : List (Str × Addr)) (fr : List Str) (zs : List V) : Hp := fun b =>
  if h : ∃ v, ∃ (i : Nat) (y : Str), fr[i]? = some y ∧ cl.lookup y = some b ∧ zs[i]? = some v then some (CellO b h.choose) else H b
theorem slot_set {σ : L2.St} {i j : Nat} {v : Option V} (h : i ≠ j) : NdefX.slotAt (σ.set i v) j = NdefX.slotAt σ j := by
  unfold NdefX.slotAt
  rw [List.getElem?_set_ne h]
theorem FunC.okMk {P : Program} {w : World} {K : PySem.W.Frag} {mg : Str → Option Value} {base : Heap} {x qual nm : Str} {st st1 : Stmt} {p1 p2 pos : Pos} {f c Pt : Addr} {fd : FuncData} {N ps fr : List Str} {js : List Nat} {i k : Nat} {sp : Sp}
    (F : FunC K x qual st f fd c) (S : FnScope N ps (defScope st)) (hb : defBody st = [st1, .Return (some (.Name nm p1)) p2]) (TB : TabB base mg c Pt) (hst : st1 = .FunctionDef nm (C8.fnArgs st1) (C8.fnBody st1) [] none [] (C8.fnScope st1) none nm pos)
    (hn : nmAll pos.line pos.col = (qual ++ ".<locals>.") ++ nm) (hB : ndefB (defScope st) (C8.fnScope st1) fr = true) (hfa : ∀ y ∈ (C8.fnScope st1).names, y.2 = .free → y.1 ∈ fr) (nd : fr.Nodup) (hd0 : (C8.fnArgs st1).defaults = []) (hk0 : (C8.fnArgs st1).kw_defaults = [])
    (ha : ∀ env, annTrees (C8.fnArgs st1) none env = []) (hi : N[i]? = some nm) (hloc : (defScope st).names.lookup nm = some .local) (hjs : js.map (fun j => N[j]?) = fr.map some) (hji : i ∉ js) (len : ∀ vs H Q E, sp vs H Q E → vs.length = ps.length)
    (hsp : ∀ vs H Q E, sp vs H Q E → TabN H Pt nmAll ∧ ∃ zs : List V, js.map (NdefX.slotAt (start N vs)) = zs.map some ∧ ∀ f' cl c' H', Ex H H' → H f' = none →
      H' f' = some (FnO f' (NF.of st1 nm ((qual ++ ".<locals>.") ++ nm) cl c')) → H' c' = some (CodeO c' ((qual ++ ".<locals>.") ++ nm)) → CellsT H' cl fr zs → Q (.ref f') H')
    (hnd : (nm == ("__debug__" : Str)) = false := by decide) (hcd' : (nm == ("__classdict__" : Str)) = false := by decide) : FnOk P w K mg base CX0 (k + 1) f fd ps sp := by
  obtain ⟨oc, od, kV, doc, pm, an, ct, osl, rfl, lk, hcd⟩ := F.ex
  refine ⟨len, fun A outer s H args us vs Q E hr e0 hbi r hs0 => ?_⟩
  have hl := len _ _ _ _ hs0
  have KX : K.In s.heap := e0.mod.kin.keeps fun b o e => (e0.bs b o e).1
  have lim : s.heap.NoLimit := e0.mod.nolimit.keeps fun b o e => (e0.bs b o e).1
  have hkind : ∀ y ∈ ps.zip us, (defScope st).names.lookup y.1 = some .local ∨ ((defScope st).names.lookup y.1 = some .cell ∧ ((cellsFrom (s.heap.objs.size + 1) (defScope st).names []).lookup y.1).isSome = true) := fun ⟨n, v⟩ hy => by
    rcases S.par n (List.of_mem_zip hy).1 with q | q
    · exact .inl q
    · exact .inr ⟨q, PySem.W.cellsFrom_some _ _ _ (.inl q)⟩
  refine codeAny_call_function hr.depth (KX _ _ lk) rfl S.co S.gen rfl (PySem.W.codeRec_of KX hcd) (hbi _ _ _ _ ?_)
  refine wpAny_newFunctionEnv_cells S.kind hkind fun env he s1 x => ?_
  subst he
  refine ⟨lim.keeps x.toInCall.keep, codeAny_func ?_⟩
  have I : Inv (cxOf CX0 P w K mg base N qual (defScope st) f (.ref c) A outer s H E) [] (start N vs) H s1 := inv_start S hr.hd e0 hl r x
  obtain ⟨hT3, zs, hz, hend⟩ := hsp vs H Q E hs0
  have h1 := ps_ndefA (X := cxOf CX0 P w K mg base N qual (defScope st) f (.ref c) A outer s H E) (i := i) hst TB rfl hn (ndef_free hB) hd0 hk0 (ha _) S.nd hi (.inl hloc) (.inl rfl)
  rw [hb]
  refine wpAny_execs_cons (wpAny_mono (h1.run [] s1 (start N vs) H { nx := fun σ' H1 => ∃ f' c', σ' = (start N vs).set i (some (.ref f')) ∧ Ex H H1 ∧ H f' = none ∧ H1 f' = some (FnO f' (NF.of st1 nm ((qual ++ ".<locals>.") ++ nm) (cloFrom (cellsFrom (s.heap.objs.size + 1) (defScope st).names []) (C8.fnScope st1).names []) c')) ∧ H1 c' = some (CodeO c' ((qual ++ ".<locals>.") ++ nm)), rt := fun _ _ => False } I
    ⟨hT3, fun f' c' H1 eN f0 f1 c1 => ⟨f', c', rfl, eN, f0, f1, c1⟩⟩) (fun fl s2 hs => ?_) fun e s' hs => hs)
  cases fl with
  | ret u => obtain ⟨_, _, _, _, _, q⟩ := hs; exact q.elim
  | brk => obtain ⟨_, _, _, q⟩ := hs; exact q.elim
  | cont => obtain ⟨_, _, _, q⟩ := hs; exact q.elim
  | next =>
    obtain ⟨σ', H1, J, f', c', rfl, eN, f0, f1, c1⟩ := hs
    have hlen : i < (start N vs).length := by
      have q := I.len
      rw [q]
      exact (List.getElem?_eq_some_iff.mp hi).1
    refine wpAny_execs_cons (wpAny_Return_some (thn ((pe_var (X := cxOf CX0 P w K mg base N qual (defScope st) f (.ref c) A outer s H E) (pos := p1) hi (.inl hloc) hnd hcd').run [] s2 _ H1 (fun v H2 => v = .ref f' ∧ H2 = H1) J ⟨.ref f', List.getElem?_set_self hlen, rfl, rfl⟩) fun u s3 ⟨v, H2, J2, rv, ev, eH⟩ => ?_))
    subst ev
    rw [eH] at J2
    have cp : Caps (cxOf CX0 P w K mg base N qual (defScope st) f (.ref c) A outer s H E) (cloFrom (cellsFrom (s.heap.objs.size + 1) (defScope st).names []) (C8.fnScope st1).names []) fr js := Caps.made J2.ok (ndef_free hB) (ndef_fr hB) hjs
    have C := cells_of J2 cp
    have eσ : js.map (NdefX.slotAt ((start N vs).set i (some (.ref f')))) = zs.map some := by
      rw [← hz]
      exact List.map_congr_left fun j hj => slot_set fun e => hji (e ▸ hj)
    rw [eσ] at C
    generalize hcl : cloFrom (cellsFrom (s.heap.objs.size + 1) (defScope st).names []) (C8.fnScope st1).names [] = cl at f1 C cp
    have new : ∀ y b, cl.lookup y = some b → s.heap.objs.size ≤ b := fun y b e => J2.ok.cab y b rfl (cp.sub y b e)
    have hH1 : ∀ y b, cl.lookup y = some b → H1 b = none := fun y b e => (C.all y b e).1
    have spec : ∀ {b : Addr} {v : V}, (∃ (i : Nat) (y : Str), fr[i]? = some y ∧ cl.lookup y = some b ∧ zs[i]? = some v) → ∃ u, L2.RelV v u ∧ s3.heap.IsCell b (some u) := fun {b v} ⟨j, y, h1, h2, h3⟩ => by
      obtain ⟨a, ha, hv⟩ := C.has j y h1
      rw [h2] at ha; cases ha
      exact hv v (by rw [List.getElem?_map, h3]; rfl)
    have outL : ∀ {b : Addr}, (¬ ∃ y, cl.lookup y = some b) → layC H1 cl fr zs b = H1 b := fun {b} n => by
      unfold layC
      rw [dif_neg]
      rintro ⟨v, j, y, _, h2, _⟩
      exact n ⟨y, h2⟩
    have atL : ∀ {b : Addr} {o : HO}, H1 b = some o → layC H1 cl fr zs b = some o := fun {b o} e => by
      rw [outL fun ⟨y, z⟩ => by rw [hH1 y b z] at e; cases e]
      exact e
    have inL : ∀ {b : Addr} {v : V} {j : Nat} {y : Str}, fr[j]? = some y → cl.lookup y = some b → zs[j]? = some v → layC H1 cl fr zs b = some (CellO b v) := fun {b v j y} h1 h2 h3 => by
      have hx : ∃ v, ∃ (i : Nat) (y : Str), fr[i]? = some y ∧ cl.lookup y = some b ∧ zs[i]? = some v := ⟨v, j, y, h1, h2, h3⟩
      unfold layC
      rw [dif_pos hx]
      obtain ⟨j2, y2, g1, g2, g3⟩ := hx.choose_spec
      have ey : y2 = y := C.inj y2 y b g2 h2
      rw [ey] at g1
      have hjl : j < fr.length := (List.getElem?_eq_some_iff.mp h1).1
      have ej : j = j2 := (List.getElem?_inj hjl nd).mp (h1.trans g1.symm)
      rw [← ej, h3] at g3
      rw [Option.some.inj g3]
    have hfull : ∀ y b, cl.lookup y = some b → ∃ (j : Nat) (v : V), fr[j]? = some y ∧ zs[j]? = some v := fun y b e => by
      have hmem : y ∈ fr := by
        rw [← hcl] at e
        rcases cloFrom_mem (PySem.mem_of_lookup e) with hm | ⟨h1, _⟩
        · cases hm
        · exact hfa _ h1 rfl
      obtain ⟨j, hj⟩ := List.getElem?_of_mem hmem
      have hjz : j < zs.length := by
        have q := C.len
        rw [List.length_map] at q
        rw [q]
        exact (List.getElem?_eq_some_iff.mp hj).1
      exact ⟨j, zs[j], hj, List.getElem?_eq_getElem hjz⟩
    have cT : CellsT (layC H1 cl fr zs) cl fr zs := ⟨by have q := C.len; rw [List.length_map] at q; exact q, fun y b e => by
        obtain ⟨j, v, h1, h3⟩ := hfull y b e
        exact ⟨v, inL h1 e h3⟩, C.inj, fun j y h1 => by
        obtain ⟨b, hb, _⟩ := C.has j y h1
        obtain ⟨j2, v, g1, g3⟩ := hfull y b hb
        have hjl : j < fr.length := (List.getElem?_eq_some_iff.mp h1).1
        have ej : j = j2 := (List.getElem?_inj hjl nd).mp (h1.trans g1.symm)
        rw [← ej] at g3
        exact ⟨b, v, hb, g3, inL h1 hb g3⟩⟩
    have un : Un (frs outer) [] H H1 s.heap s3.heap := J2.base
    have un2 : Un (frs outer) [] H (layC H1 cl fr zs) s.heap s3.heap := ⟨un.keep, un.slot, fun b o e n hx => by
        rw [outL fun ⟨y, z⟩ => absurd (Heap.lt_size e) (Nat.not_lt_of_le (new y b z))]
        exact un.free b o e n hx, un.there, fun b xs e => atL (un.tups b xs e), fun b o u e => atL (un.frzs b o u e), fun b ps e => by
        obtain ⟨more, hm⟩ := un.tbls b ps e
        exact ⟨more, atL hm⟩⟩
    refine (show CE outer P w H s Q u s3 from ⟨.ref f', layC H1 cl fr zs, J2.os, J2.bare, un2, fun a o e => ?_, rv, hend f' cl c' _ ⟨fun b o e n s => atL (eN.keep b o e n s), fun P' t => (eN.tab P' t).ext fun b o e => atL e, fun b e => ?_⟩ f0 (atL f1) (atL c1) cT⟩)
    · by_cases z : ∃ y, cl.lookup y = some a
      · obtain ⟨y, z⟩ := z
        obtain ⟨j, v, h1, h3⟩ := hfull y a z
        rw [inL h1 z h3] at e
        cases e
        obtain ⟨u1, r1, hc⟩ := spec ⟨j, y, h1, z, h3⟩
        exact cellO_ok r1 hc
      · rw [outL z] at e
        exact (J2.hok a o e).stay (fun _ _ _ q => q) (fun b q => atL q) fun b xs q => atL q
    · by_cases z : ∃ y, cl.lookup y = some b
      · obtain ⟨y, z⟩ := z
        obtain ⟨j, v, h1, h3⟩ := hfull y b z
        rw [inL h1 z h3] at e
        cases e
      · rw [outL z] at e
        exact eN.back b e
end Nn

namespace Nn
open PySem L2
structure Tx (K : PySem.W.Frag) (mg : Str → Option Value) (base : Heap) where
  a_far : Addr
  d_far : FuncData
  F_far : FunD K "far" "far" (defArgs s_far) (defBody s_far) (defScope s_far) [] [] a_far d_far
  b_far : Binds K d_far ["one", "other"] []
  m_far : mg "far" = some (.ref a_far)
  a_nearer : Addr
  d_nearer : FuncData
  F_nearer : FunD K "nearer" "nearer" (defArgs s_nearer) (defBody s_nearer) (defScope s_nearer) [] [] a_nearer d_nearer
  b_nearer : Binds K d_nearer ["goal", "one", "other"] []
  m_nearer : mg "nearer" = some (.ref a_nearer)
  a_by_nearness : Addr
  d_by_nearness : FuncData
  F_by_nearness : FunD K "by_nearness" "by_nearness" (defArgs s_by_nearness) (defBody s_by_nearness) (defScope s_by_nearness) [] [] a_by_nearness d_by_nearness
  b_by_nearness : Binds K d_by_nearness ["goal", "names"] []
  m_by_nearness : mg "by_nearness" = some (.ref a_by_nearness)
  a_standing : Addr
  d_standing : FuncData
  F_standing : FunD K "standing" "standing" (defArgs s_standing) (defBody s_standing) (defScope s_standing) [] [] a_standing d_standing
  b_standing : Binds K d_standing ["goal", "room", "seen", "quiet"] []
  m_standing : mg "standing" = some (.ref a_standing)
  a_asked : Addr
  d_asked : FuncData
  F_asked : FunD K "asked" "asked" (defArgs s_asked) (defBody s_asked) (defScope s_asked) [] [] a_asked d_asked
  b_asked : Binds K d_asked ["start", "goal", "room", "tells"] []
  m_asked : mg "asked" = some (.ref a_asked)
  a_onward : Addr
  d_onward : FuncData
  F_onward : FunD K "onward" "onward" (defArgs s_onward) (defBody s_onward) (defScope s_onward) [] [] a_onward d_onward
  b_onward : Binds K d_onward ["here", "goal", "tells"] []
  m_onward : mg "onward" = some (.ref a_onward)
  a_way : Addr
  d_way : FuncData
  F_way : FunD K "way" "way" (defArgs s_way) (defBody s_way) (defScope s_way) [] [] a_way d_way
  b_way : Binds K d_way ["start", "goal", "tells"] []
  m_way : mg "way" = some (.ref a_way)
  a_l_mixed : Addr
  d_l_mixed : FuncData
  F_l_mixed : FunD K "_law_mixed" "_law_mixed" (defArgs s_l_mixed) (defBody s_l_mixed) (defScope s_l_mixed) [] [] a_l_mixed d_l_mixed
  b_l_mixed : Binds K d_l_mixed ["_law_cell", "_law_k"] []
  m_l_mixed : mg "_law_mixed" = some (.ref a_l_mixed)
  a_l_digits : Addr
  d_l_digits : FuncData
  F_l_digits : FunD K "_law_digits" "_law_digits" (defArgs s_l_digits) (defBody s_l_digits) (defScope s_l_digits) [] [] a_l_digits d_l_digits
  b_l_digits : Binds K d_l_digits ["_law_cell", "_law_base", "_law_many"] []
  m_l_digits : mg "_law_digits" = some (.ref a_l_digits)
  a_l_wide : Addr
  d_l_wide : FuncData
  F_l_wide : FunD K "_law_wide" "_law_wide" (defArgs s_l_wide) (defBody s_l_wide) (defScope s_l_wide) [] [] a_l_wide d_l_wide
  b_l_wide : Binds K d_l_wide ["_law_cell"] []
  m_l_wide : mg "_law_wide" = some (.ref a_l_wide)
  a_l_near : Addr
  d_l_near : FuncData
  F_l_near : FunD K "_law_near" "_law_near" (defArgs s_l_near) (defBody s_l_near) (defScope s_l_near) [] [] a_l_near d_l_near
  b_l_near : Binds K d_l_near ["_law_signs", "_law_wide_here", "_law_first"] []
  m_l_near : mg "_law_near" = some (.ref a_l_near)
  a_l_pool : Addr
  d_l_pool : FuncData
  F_l_pool : FunD K "_law_pool" "_law_pool" (defArgs s_l_pool) (defBody s_l_pool) (defScope s_l_pool) [] [] a_l_pool d_l_pool
  b_l_pool : Binds K d_l_pool ["_law_cell", "_law_wide_here", "_law_many"] []
  m_l_pool : mg "_law_pool" = some (.ref a_l_pool)
  a_l_by : Addr
  d_l_by : FuncData
  F_l_by : FunD K "_law_by" "_law_by" (defArgs s_l_by) (defBody s_l_by) (defScope s_l_by) [] [] a_l_by d_l_by
  b_l_by : Binds K d_l_by ["_law_goal", "_law_names"] []
  m_l_by : mg "_law_by" = some (.ref a_l_by)
  a_l_step : Addr
  d_l_step : FuncData
  F_l_step : FunD K "_law_step" "_law_step" (defArgs s_l_step) (defBody s_l_step) (defScope s_l_step) [] [] a_l_step d_l_step
  b_l_step : Binds K d_l_step ["_law_one", "_law_other"] []
  m_l_step : mg "_law_step" = some (.ref a_l_step)
  a_l_kept : Addr
  d_l_kept : FuncData
  F_l_kept : FunD K "_law_kept" "_law_kept" (defArgs s_l_kept) (defBody s_l_kept) (defScope s_l_kept) [] [] a_l_kept d_l_kept
  b_l_kept : Binds K d_l_kept ["_law_pool_here", "_law_house", "_law_room", "_law_cell"] []
  m_l_kept : mg "_law_kept" = some (.ref a_l_kept)
  a_l_right : Addr
  d_l_right : FuncData
  F_l_right : FunD K "_law_right" "_law_right" (defArgs s_l_right) (defBody s_l_right) (defScope s_l_right) [] [] a_l_right d_l_right
  b_l_right : Binds K d_l_right ["_law_keeps", "_law_awake", "_law_wide_here", "_law_room", "_law_start", "_law_goal"] []
  m_l_right : mg "_law_right" = some (.ref a_l_right)
  a_law : Addr
  d_law : FuncData
  F_law : FunD K "law" "law" (defArgs s_law) (defBody s_law) (defScope s_law) [] [] a_law d_law
  b_law : Binds K d_law ["_law_script"] []
  m_law : mg "law" = some (.ref a_law)
  z_all : mg "all" = none
  z_enumerate : mg "enumerate" = none
  z_len : mg "len" = none
  z_list : mg "list" = none
  z_min : mg "min" = none
  z_range : mg "range" = none
  z_sorted : mg "sorted" = none
  z_sum : mg "sum" = none
  k_l_by : Addr
  P_l_by : Addr
  tb_l_by : LamX.TabB base mg k_l_by P_l_by
  FC_l_by : FunC K "_law_by" "_law_by" s_l_by a_l_by d_l_by k_l_by
  z0_l_by : ∀ H : Hp, Tabs0 K H → H P_l_by = some (.tbl #[])
  k_l_right : Addr
  P_l_right : Addr
  tb_l_right : LamX.TabB base mg k_l_right P_l_right
  FC_l_right : FunC K "_law_right" "_law_right" s_l_right a_l_right d_l_right k_l_right
  z0_l_right : ∀ H : Hp, Tabs0 K H → H P_l_right = some (.tbl #[])
def tabsL {K : PySem.W.Frag} {mg : Str → Option Value} {base : Heap} (T : Tx K mg base) : List NdefX.NTab := [(T.P_l_by, nmAll), (T.P_l_right, nmAll)]
theorem tabm_l_by {K : PySem.W.Frag} {mg : Str → Option Value} {base : Heap} {T : Tx K mg base} : (T.P_l_by, nmAll) ∈ tabsL T := by simp [tabsL]
theorem tabm_l_right {K : PySem.W.Frag} {mg : Str → Option Value} {base : Heap} {T : Tx K mg base} : (T.P_l_right, nmAll) ∈ tabsL T := by simp [tabsL]
theorem tabnm {K : PySem.W.Frag} {mg : Str → Option Value} {base : Heap} {T : Tx K mg base} : ∀ p ∈ tabsL T, p.2 = nmAll := by simp [tabsL]
theorem Fr.tabs {K : PySem.W.Frag} {mg : Str → Option Value} {base : Heap} {T : Tx K mg base} {S : Addr → Prop} {H H' : Hp} (f : Fr S H H') (t : NdefX.TabsN (tabsL T) H) : NdefX.TabsN (tabsL T) H' := fun p hp => by
  have e := tabnm p hp
  have q := t p hp
  rw [e] at q ⊢
  exact f.tab p.1 q
theorem tabs0 {K : PySem.W.Frag} {mg : Str → Option Value} {base : Heap} {T : Tx K mg base} {H : Hp} (h : Tabs0 K H) : NdefX.TabsN (tabsL T) H := by
  unfold NdefX.TabsN tabsL
  simp only [List.mem_cons, List.not_mem_nil, or_false, forall_eq_or_imp, forall_eq, false_imp_iff, implies_true]
  exact ⟨NdefX.TabN.nil (T.z0_l_by H h), NdefX.TabN.nil (T.z0_l_right H h)⟩
end Nn
local macro_rules | `(tactic| walk_at "wz") => `(tactic| dsimp only [↓Nn.e_next, ↓Nn.e_asg, ↓Nn.e_name, ↓Nn.e_ret, ↓Nn.e_retN, ↓Nn.e_drop, ↓Nn.e_ifS, ↓Nn.e_IT, ↓Nn.e_IF, ↓Nn.e_INT, ↓Nn.e_INF, ↓Nn.e_if, ↓Nn.e_varS, ↓Nn.e_c, ↓Nn.e_op, ↓Nn.e_un, ↓Nn.e_cb, ↓Nn.e_nil, ↓Nn.e_cons, ↓Nn.e_test, ↓Nn.e_B, ↓Nn.e_and, ↓Nn.e_or, ↓Nn.e_not, ↓Nn.e_andV, ↓Nn.e_orV, ↓Nn.e_notV, ↓Nn.e_chain, ↓Nn.e_for, ↓Nn.e_fld, ↓Nn.e_sfld, ↓Nn.e_meth, ↓Nn.e_methC, ↓Nn.e_callC, ↓Nn.e_make, ↓Nn.e_sl, ↓Nn.e_nopart, ↓Nn.e_part, ↓Nn.e_dget, ↓Nn.e_dget2, ↓Nn.e_dpop1, ↓Nn.e_dpop2, ↓Nn.e_din, ↓Nn.e_dnin, ↓Nn.e_dput, ↓Nn.e_dnew, ↓Nn.e_bits, ↓Nn.e_lenSet, ↓Nn.e_lc, ↓Nn.e_wipe0, ↓Nn.e_wipe1, ↓Nn.e_yes, ↓Nn.e_rng1, ↓Nn.e_rng2, ↓Nn.e_rng3, ↓Nn.e_iList, ↓Nn.e_iTup, ↓Nn.e_keys, ↓Nn.e_iEnum, ↓Nn.e_iZip, ↓Nn.e_bm, ↓Nn.e_bm0, ↓Nn.e_tup, ↓Nn.e_lst, ↓Nn.e_calld, ↓Nn.e_T, ↓Nn.e_F, ↓Nn.e_NT, ↓Nn.e_NF, ↓List.set_cons_zero, ↓List.set_cons_succ, ↓List.cons_append, ↓List.nil_append])
local macro_rules | `(tactic| walk_at "wx") => `(tactic| repeat (walk_at "wx1"))
local macro_rules | `(tactic| walk_at "wx1") => `(tactic| (first
  | with_reducible refine Nn.x_v0 ?_
  | with_reducible refine Nn.x_seq ?_
  | walk_at "wz"
  | with_reducible refine Nn.x_bl ?_
  | with_reducible refine Nn.x_i0 ?_
  | ((with_reducible refine Nn.x_i ?_ ?_); (focus (walk_at "wside")))
  | with_reducible refine Nn.x_eqI ?_
  | with_reducible refine Nn.x_neI ?_
  | with_reducible refine Nn.x_INs ?_
  | with_reducible refine Nn.x_IEs ?_
  | with_reducible refine Nn.x_NEs ?_
  | with_reducible refine Nn.x_Es ?_
  | with_reducible refine Nn.x_whT ?_
  | with_reducible refine Nn.x_whF ?_
  | walk_at "wx2"))
local macro_rules | `(tactic| walk_at "wx2") => `(tactic| (first
  | ((with_reducible refine' Nn.x_ixL ?hS ?hA ?_); (case hS => walk_at "wsq"); (case hA => walk_at "wat"))
  | ((with_reducible refine' Nn.x_ixT ?hS ?hA ?_); (case hS => walk_at "wsqt"); (case hA => walk_at "wat"))
  | ((with_reducible refine' Nn.x_lenL ?hS ?_); (case hS => walk_at "wsq"))
  | ((with_reducible refine' Nn.x_lenT ?hS ?_); (case hS => walk_at "wsqt"))
  | ((with_reducible refine' Nn.x_tyL ?hS ?_); (case hS => walk_at "wsq"))
  | ((with_reducible refine' Nn.x_append ?hS ?hA ?_); (case hS => walk_at "wob"); (case hA => walk_at "wlen"))
  | ((with_reducible refine' Nn.x_gTup ?hS ?hA ?_); (case hS => walk_at "wsqt"); (case hA => rfl))
  | with_reducible refine Nn.x_gCons ?_
  | with_reducible refine Nn.x_gNil ?_
  | ((with_reducible refine' Nn.x_shl1 ?hS ?hA ?_); (case hS => walk_at "wnat"); (case hA => omega))
  | ((with_reducible refine Nn.x_rgN ?_ ?_); (focus (walk_at "wside")))
  | ((with_reducible refine Nn.x_rgDown ?_ ?_); (focus (walk_at "wside")))
  | ((with_reducible refine' Nn.x_itL ?hS ?_); (case hS => walk_at "wsq"))
  | ((with_reducible refine' Nn.x_itT ?hS ?_); (case hS => walk_at "wsqt"))
  | ((with_reducible refine' Nn.x_enL ?hS ?_); (case hS => walk_at "wsq"))
  | ((with_reducible refine' Nn.x_ziL ?hS ?hA ?_); (case hS => walk_at "wsq"); (case hA => walk_at "wsq"))
  | ((with_reducible refine' Nn.x_lenD ?hS ?_); (case hS => walk_at "wob"))
  | ((with_reducible refine' Nn.x_shrN ?hS ?hA ?_); (case hS => walk_at "wnat"); (case hA => walk_at "wnat"))
  | ((with_reducible refine' Nn.x_xorN ?hS ?hA ?_); (case hS => walk_at "wnat"); (case hA => walk_at "wnat"))
  | ((with_reducible refine' Nn.x_shlN ?hS ?hA ?hB ?hC ?_); (case hS => walk_at "wnat"); (case hA => walk_at "wnat"); (case hB => walk_at "wpre"); (case hC => walk_at "wpre"))
  | with_reducible refine Nn.x_bits ?_
  | ((with_reducible refine' Nn.x_eqLN ?hS ?hA ?_); (case hS => walk_at "wsq"); (case hA => walk_at "wsq"))
  | ((with_reducible refine' Nn.x_neLN ?hS ?hA ?_); (case hS => walk_at "wsq"); (case hA => walk_at "wsq"))
  | ((with_reducible refine' Nn.x_dget ?hS ?hA ?_); (case hS => walk_at "wob"); (case hA => walk_at "wat"))
  | ((with_reducible refine' Nn.x_din ?hS ?_); (case hS => walk_at "wob"))
  | ((with_reducible refine' Nn.x_dnin ?hS ?_); (case hS => walk_at "wob"))
  | ((with_reducible refine' Nn.x_dgetR ?hS ?hA ?_); (case hS => assumption); (case hA => walk_at "wat"))
  | ((with_reducible refine' Nn.x_dgetS ?hS ?hA ?_); (case hS => walk_at "wrd"); (case hA => assumption))
  | ((with_reducible refine' Nn.x_dinR ?hS ?_); (case hS => assumption))
  | ((with_reducible refine' Nn.x_dninR ?hS ?_); (case hS => assumption))
  | ((with_reducible refine' Nn.x_itK ?hS ?_); (case hS => walk_at "wob"))
  | ((with_reducible refine' Nn.x_dpop1 ?hS ?_); (case hS => walk_at "wob"))
  | ((with_reducible refine' Nn.x_p1 ?hS ?hA ?_); (case hS => walk_at "wob"); (case hA => assumption))
  | ((with_reducible refine' Nn.x_dpop2 ?hS ?_); (case hS => walk_at "wob"))
  | ((with_reducible refine' Nn.x_dget2 ?hS ?_); (case hS => walk_at "wob"))
  | ((with_reducible refine' Nn.x_g2 ?hS ?_); (case hS => walk_at "wob"))
  | ((with_reducible refine' Nn.x_dput ?hS ?hA ?_); (case hS => walk_at "wob"); (case hA => walk_at "wlen"))
  | ((with_reducible refine' Nn.x_fld ?hS ?hA ?hB ?hC ?_); (case hS => walk_at "wob"); (case hA => assumption); (case hB => assumption); (case hC => walk_at "wlk"))
  | ((with_reducible refine' Nn.x_sfld ?hS ?hA ?hB ?hE ?hC ?_); (case hS => walk_at "wob"); (case hA => assumption); (case hB => assumption); (case hE => walk_at "wput"); (case hC => rfl))
  | ((with_reducible refine' Nn.x_meth ?hS ?hA ?_); (case hS => walk_at "wob"); (case hA => walk_at "wnolk"))
  | ((with_reducible refine' Nn.x_methC ?hS ?hA ?_); (case hS => walk_at "wob"); (case hA => walk_at "wnolk"))
  | ((with_reducible refine' Nn.x_inN ?hS ?hA ?_); (case hS => walk_at "wnat"); (case hA => walk_at "wsq"))
  | ((with_reducible refine' Nn.x_ninN ?hS ?hA ?_); (case hS => walk_at "wnat"); (case hA => walk_at "wsq"))
  | with_reducible refine Nn.x_truB ?_
  | ((with_reducible refine' Nn.x_aug2 ?hS ?_); (case hS => rfl))
  | with_reducible refine Nn.x_augI ?_
  | with_reducible refine Nn.x_isNN ?_
  | with_reducible refine Nn.x_isNI ?_
  | with_reducible refine Nn.x_isNB ?_
  | with_reducible refine Nn.x_isNS ?_
  | with_reducible refine Nn.x_isNR ?_
  | with_reducible refine Nn.x_notNN ?_
  | with_reducible refine Nn.x_notNI ?_
  | with_reducible refine Nn.x_notNB ?_
  | with_reducible refine Nn.x_notNS ?_
  | with_reducible refine Nn.x_notNR ?_
  | with_reducible refine Nn.x_part ?_
  | with_reducible refine Nn.x_u ?_
  | with_reducible refine Nn.x_min2 ?_
  | with_reducible refine Nn.x_max2 ?_
  | with_reducible refine Nn.x_abs ?_
  | with_reducible refine Nn.x_eqB ?_
  | with_reducible refine Nn.x_neB ?_
  | with_reducible refine Nn.x_eqS ?_
  | with_reducible refine Nn.x_neS ?_
  | with_reducible refine Nn.x_intI ?_
  | with_reducible refine Nn.x_intB ?_
  | walk_at "wisi"
  | walk_at "wc"))
local macro_rules | `(tactic| walk_at "wside") => `(tactic| (first
  | with_reducible assumption
  | with_reducible exact Nn.two_pos
  | omega
  | (show (0 : Int) < _; first | omega | decide +kernel)
  | exact Or.inr ⟨by omega, by omega⟩
  | exact Or.inl ⟨by omega, by omega⟩
  | exact ⟨by omega, by decide +kernel⟩
  | exact ⟨by omega, by omega, by omega⟩
  | (show (0 : Int) ≤ _; first | omega | decide +kernel | exact Int.mul_nonneg (by omega) (by omega))))
local macro_rules | `(tactic| walk_at "wob") => `(tactic| (first
  | assumption
  | exact L2.upd_same
  | ((with_reducible refine' Nn.at_new ?hNone ?hKept); (case hNone => assumption); (case hKept => walk_at "wob"))
  | ((with_reducible refine' Nn.at_upd ?hSome ?hAt ?hDif); (case hSome => assumption); (case hAt => walk_at "wob"); (case hDif => (intro z; cases z)))
  | exact Nn.Ex.at (by assumption) (by assumption)))
local macro_rules | `(tactic| walk_at "wrd") => `(tactic| (first
  | assumption
  | ((refine' Or.inl ?hOb); (case hOb => walk_at "wob"))))
local macro_rules | `(tactic| walk_at "wlen") => `(tactic| (rw [PySem.sizeLine_eq]; simp only [List.length_map, List.length_append, List.length_cons, List.length_nil]; omega))
local macro_rules | `(tactic| walk_at "wsqt") => `(tactic| (first
  | assumption
  | ((refine' L2.SqT.of ?hOb); (case hOb => walk_at "wob"))
  | exact Nn.Ex.tu (by assumption) (by assumption)
  | exact L2.SqT.of L2.upd_same))
local macro_rules | `(tactic| walk_at "wnat") => `(tactic| with_unfolding_all rfl)
local macro_rules | `(tactic| walk_at "wsq") => `(tactic| (first
  | assumption
  | ((refine' L2.SqL.of ?hOb); (case hOb => walk_at "wob"))
  | exact Nn.Ex.ls (by assumption) (by assumption)
  | exact Nn.Ex.ls (Nn.Ex.new (by assumption)) (by assumption)
  | exact L2.SqL.of L2.upd_same))
local macro_rules | `(tactic| walk_at "wat") => `(tactic| (first
  | assumption
  | exact Nn.atI_hd
  | with_unfolding_all rfl))
local macro_rules | `(tactic| walk_at "wisi") => `(tactic| ((with_reducible refine Nn.x_isG ?_); (first
  | with_reducible refine Nn.x_isI_int ?_
  | with_reducible refine Nn.x_isI_bool ?_
  | with_reducible refine Nn.x_isI_str ?_
  | with_reducible refine Nn.x_isB_int ?_
  | with_reducible refine Nn.x_isB_bool ?_
  | with_reducible refine Nn.x_isB_str ?_
  | with_reducible refine Nn.x_isS_int ?_
  | with_reducible refine Nn.x_isS_bool ?_
  | with_reducible refine Nn.x_isS_str ?_
  | with_reducible refine Nn.x_isN_int ?_
  | with_reducible refine Nn.x_isN_bool ?_
  | with_reducible refine Nn.x_isN_str ?_
  | ((with_reducible refine' Nn.x_isL_int ?hS ?_); (case hS => walk_at "wob"))
  | ((with_reducible refine' Nn.x_isL_list ?hS ?_); (case hS => walk_at "wob"))
  | ((with_reducible refine' Nn.x_isL_tuple ?hS ?_); (case hS => walk_at "wob"))
  | ((with_reducible refine' Nn.x_isT_int ?hS ?_); (case hS => walk_at "wob"))
  | ((with_reducible refine' Nn.x_isT_list ?hS ?_); (case hS => walk_at "wob"))
  | ((with_reducible refine' Nn.x_isT_tuple ?hS ?_); (case hS => walk_at "wob"))
  | ((with_reducible refine' Nn.x_isD_int ?hS ?_); (case hS => walk_at "wob"))
  | ((with_reducible refine' Nn.x_isD_list ?hS ?_); (case hS => walk_at "wob"))
  | ((with_reducible refine' Nn.x_isD_tuple ?hS ?_); (case hS => walk_at "wob")))))
local macro_rules | `(tactic| walk_at "wpre") => `(tactic| (first
  | with_reducible assumption
  | omega
  | refine ⟨?_, ?_⟩ <;> walk_at "wpre"))

namespace Nn
open PySem L2
/-! the bits -/
theorem xor_div_pow (a b k : Nat) : (a ^^^ b) / 2 ^ k = (a / 2 ^ k) ^^^ (b / 2 ^ k) := by
  rw [← Nat.shiftRight_eq_div_pow, ← Nat.shiftRight_eq_div_pow, ← Nat.shiftRight_eq_div_pow, Nat.shiftRight_xor_distrib]
theorem xor_mod_two (a b : Nat) : (a ^^^ b) % 2 = if a % 2 ≠ b % 2 then 1 else 0 := by
  have h := @Nat.xor_mod_two_eq_one a b
  rcases Nat.mod_two_eq_zero_or_one (a ^^^ b) with e | e
  · rw [e]
    split
    · rename_i q
      exact absurd (h.mpr (by omega)) (by omega)
    · rfl
  · rw [e]
    split
    · rfl
    · rename_i q
      exact absurd (h.mp e) (by omega)
theorem mod_pow_succ (x k : Nat) : x % 2 ^ (k + 1) = x % 2 ^ k + 2 ^ k * (x / 2 ^ k % 2) := Nat.mod_pow_succ
theorem xor_add (a b : Nat) : a ^^^ b ≤ a + b := by
  have h := Bits.nat_xor_add_and a b
  omega
theorem xor_tri (a b c : Nat) : a ^^^ c ≤ (a ^^^ b) + (b ^^^ c) := by
  have e : a ^^^ c = (a ^^^ b) ^^^ (b ^^^ c) := by
    rw [Nat.xor_assoc, ← Nat.xor_assoc b b c, Nat.xor_self, Nat.zero_xor]
  rw [e]; exact xor_add _ _

/-! the step, the span -/
def stepN (a b : Nat) : Nat := (a ^^^ b).log2
def lowN (n k : Nat) : Nat := ((n / 2 ^ k) ^^^ 1) * 2 ^ k
theorem xor_ne_zero {a b : Nat} (h : a ≠ b) : a ^^^ b ≠ 0 := fun e => h (by
  have q : a ^^^ (a ^^^ b) = a ^^^ 0 := by rw [e]
  rw [← Nat.xor_assoc, Nat.xor_self, Nat.zero_xor, Nat.xor_zero] at q
  exact q.symm)
theorem xor_eq_one {x y : Nat} : x ^^^ y = 1 ↔ y = x ^^^ 1 := by
  constructor
  · intro h; rw [← h, ← Nat.xor_assoc, Nat.xor_self, Nat.zero_xor]
  · intro h; rw [h, ← Nat.xor_assoc, Nat.xor_self, Nat.zero_xor]
theorem log2_eq {x k : Nat} (h : x ≠ 0) : x.log2 = k ↔ x / 2 ^ k = 1 := by
  have hp := Nat.two_pow_pos k
  constructor
  · intro e
    have h1 := Nat.log2_self_le h
    have h2 := Nat.lt_log2_self (n := x)
    rw [e] at h1 h2
    rw [Nat.pow_succ] at h2
    exact Nat.div_eq_of_lt_le (by omega) (by omega)
  · intro e
    have h1 : 2 ^ k ≤ x := by
      have := Nat.div_mul_le_self x (2 ^ k)
      rw [e] at this; omega
    have h2 : x < 2 ^ (k + 1) := by
      have := Nat.lt_div_mul_add (a := x) hp
      rw [e] at this
      rw [Nat.pow_succ]; omega
    exact (Nat.log2_eq_iff h).mpr ⟨h1, h2⟩
/-- the step is k just where the rest behind k is the one's with its last sign turned -/
theorem stepN_eq {a b k : Nat} (h : a ≠ b) : stepN a b = k ↔ b / 2 ^ k = (a / 2 ^ k) ^^^ 1 := by
  unfold stepN
  rw [log2_eq (xor_ne_zero h), xor_div_pow, xor_eq_one]
theorem xor_one_ne {x : Nat} : x ^^^ 1 ≠ x := fun e => by
  have q : x ^^^ (x ^^^ 1) = x ^^^ x := by rw [e]
  rw [← Nat.xor_assoc, Nat.xor_self, Nat.zero_xor] at q
  exact absurd q (by decide)
/-- in the span just those -/
theorem in_span {n k b : Nat} : (lowN n k ≤ b ∧ b ≤ lowN n k + 2 ^ k - 1) ↔ b / 2 ^ k = (n / 2 ^ k) ^^^ 1 := by
  have hp := Nat.two_pow_pos k
  unfold lowN
  constructor
  · intro ⟨h1, h2⟩
    exact Nat.div_eq_of_lt_le (by omega) (by rw [Nat.succ_mul]; omega)
  · intro e
    have h1 := Nat.div_mul_le_self b (2 ^ k)
    have h2 := Nat.lt_div_mul_add (a := b) hp
    rw [e] at h1 h2
    omega
theorem in_span_ne {n k b : Nat} (h : b / 2 ^ k = (n / 2 ^ k) ^^^ 1) : n ≠ b := fun e => by
  rw [← e] at h
  exact xor_one_ne h.symm
theorem span_step {n k b : Nat} : (lowN n k ≤ b ∧ b ≤ lowN n k + 2 ^ k - 1) ↔ (n ≠ b ∧ stepN n b = k) := by
  rw [in_span]
  constructor
  · intro h
    exact ⟨in_span_ne h, (stepN_eq (in_span_ne h)).mpr h⟩
  · intro ⟨h, e⟩
    exact (stepN_eq h).mp e
theorem low_lt {n k w : Nat} (hn : n < 2 ^ w) (hk : k < w) : lowN n k + 2 ^ k ≤ 2 ^ w := by
  have e : 2 ^ w = 2 ^ (w - k) * 2 ^ k := by rw [← Nat.pow_add]; congr 1; omega
  have h1 : n / 2 ^ k < 2 ^ (w - k) := Nat.div_lt_of_lt_mul (by rw [Nat.mul_comm, ← e]; exact hn)
  have h2 : (n / 2 ^ k) ^^^ 1 < 2 ^ (w - k) := Nat.xor_lt_two_pow h1 (Nat.one_lt_two_pow (by omega))
  unfold lowN
  rw [e, ← Nat.succ_mul]
  exact Nat.mul_le_mul_right _ h2
theorem stepN_lt {a b w : Nat} (ha : a < 2 ^ w) (hb : b < 2 ^ w) (h : a ≠ b) : stepN a b < w := (Nat.log2_lt (xor_ne_zero h)).mpr (Nat.xor_lt_two_pow ha hb)
theorem bitLen {x : Nat} : Builtin.Int.intBits (x : Int) = if x = 0 then 0 else x.log2 + 1 := by
  unfold Builtin.Int.intBits
  simp
/-- who is outside a span stands alike to all of it -/
theorem aside {g o one c k : Nat} (h1 : one / 2 ^ k = c) (h2 : o / 2 ^ k ≠ c) : g ^^^ o < g ^^^ one ↔ (g / 2 ^ k) ^^^ (o / 2 ^ k) < (g / 2 ^ k) ^^^ c := by
  have e1 := xor_div_pow g o k
  have e2 := xor_div_pow g one k
  rw [h1] at e2
  have ne : (g / 2 ^ k) ^^^ (o / 2 ^ k) ≠ (g / 2 ^ k) ^^^ c := fun e => h2 (by
    have q : (g / 2 ^ k) ^^^ ((g / 2 ^ k) ^^^ (o / 2 ^ k)) = (g / 2 ^ k) ^^^ ((g / 2 ^ k) ^^^ c) := by rw [e]
    rw [← Nat.xor_assoc, ← Nat.xor_assoc, Nat.xor_self, Nat.zero_xor, Nat.zero_xor] at q
    exact q)
  rw [← e1, ← e2] at ne ⊢
  constructor
  · intro h
    have := Nat.div_le_div_right (c := 2 ^ k) (Nat.le_of_lt h)
    omega
  · intro h
    exact Nat.lt_of_div_lt_div h
end Nn
namespace Nn
/-! lists without twice, rising; by nearness -/
def insU (x : Nat) : List Nat → List Nat
  | [] => [x]
  | y :: r => if x < y then x :: y :: r else if x = y then y :: r else y :: insU x r
def sortU : List Nat → List Nat
  | [] => []
  | x :: r => insU x (sortU r)
theorem mem_insU {x z : Nat} : ∀ {l : List Nat}, z ∈ insU x l ↔ z = x ∨ z ∈ l
  | [] => by simp [insU]
  | y :: r => by
    unfold insU
    by_cases h : x < y
    · rw [if_pos h]; simp
    · rw [if_neg h]
      by_cases e : x = y
      · rw [if_pos e, e]; simp
      · rw [if_neg e, List.mem_cons, mem_insU (l := r), List.mem_cons]
        constructor
        · rintro (h | h | h)
          · exact .inr (.inl h)
          · exact .inl h
          · exact .inr (.inr h)
        · rintro (h | h | h)
          · exact .inr (.inl h)
          · exact .inl h
          · exact .inr (.inr h)
theorem insU_sorted {x : Nat} : ∀ {l : List Nat}, l.Pairwise (· < ·) → (insU x l).Pairwise (· < ·)
  | [], _ => by simp [insU]
  | y :: r, h => by
    have h1 := List.pairwise_cons.mp h
    unfold insU
    by_cases hx : x < y
    · rw [if_pos hx]
      refine List.pairwise_cons.mpr ⟨fun z hz => ?_, h⟩
      rcases List.mem_cons.mp hz with e | hz
      · omega
      · have := h1.1 z hz; omega
    · rw [if_neg hx]
      by_cases e : x = y
      · rw [if_pos e]; exact h
      · rw [if_neg e]
        refine List.pairwise_cons.mpr ⟨fun z hz => ?_, insU_sorted h1.2⟩
        rcases mem_insU.mp hz with e | hz
        · omega
        · exact h1.1 z hz
theorem mem_sortU {z : Nat} : ∀ {l : List Nat}, z ∈ sortU l ↔ z ∈ l
  | [] => by simp [sortU]
  | x :: r => by unfold sortU; rw [mem_insU, mem_sortU (l := r), List.mem_cons]
theorem sortU_sorted : ∀ l : List Nat, (sortU l).Pairwise (· < ·)
  | [] => by simp [sortU]
  | x :: r => insU_sorted (sortU_sorted r)
/-- two rising lists of the same members are one -/
theorem rising_eq : ∀ {a b : List Nat}, a.Pairwise (· < ·) → b.Pairwise (· < ·) → (∀ z, z ∈ a ↔ z ∈ b) → a = b
  | [], [], _, _, _ => rfl
  | [], y :: r, _, _, h => absurd ((h y).mpr (List.mem_cons_self ..)) (by simp)
  | x :: r, [], _, _, h => absurd ((h x).mp (List.mem_cons_self ..)) (by simp)
  | x :: r, y :: s, ha, hb, h => by
    have h1 := List.pairwise_cons.mp ha
    have h2 := List.pairwise_cons.mp hb
    have e : x = y := by
      have a1 := (h x).mp (List.mem_cons_self ..)
      have a2 := (h y).mpr (List.mem_cons_self ..)
      rcases List.mem_cons.mp a1 with e | a1
      · exact e
      · rcases List.mem_cons.mp a2 with e | a2
        · exact e.symm
        · have b1 := h1.1 y a2
          have b2 := h2.1 x a1
          omega
    subst e
    refine congrArg (x :: ·) (rising_eq h1.2 h2.2 fun z => ?_)
    constructor
    · intro hz
      rcases List.mem_cons.mp ((h z).mp (List.mem_cons_of_mem _ hz)) with e | q
      · have := h1.1 z hz; omega
      · exact q
    · intro hz
      rcases List.mem_cons.mp ((h z).mpr (List.mem_cons_of_mem _ hz)) with e | q
      · have := h2.1 z hz; omega
      · exact q
theorem rising_nodup {l : List Nat} (h : l.Pairwise (· < ·)) : l.Nodup := h.imp fun {a b} q => Nat.ne_of_lt q
theorem sortU_of_rising {l : List Nat} (h : l.Pairwise (· < ·)) : sortU l = l := rising_eq (sortU_sorted l) h fun _ => mem_sortU
theorem sortU_congr {a b : List Nat} (h : ∀ z, z ∈ a ↔ z ∈ b) : sortU a = sortU b := rising_eq (sortU_sorted _) (sortU_sorted _) fun z => by rw [mem_sortU, mem_sortU, h]
theorem nodup_len : ∀ {a b : List Nat}, a.Nodup → (∀ z ∈ a, z ∈ b) → a.length ≤ b.length
  | [], _, _, _ => Nat.zero_le _
  | x :: r, b, h, hs => by
    have h1 := List.nodup_cons.mp h
    have hx := hs x (List.mem_cons_self ..)
    have e := List.length_erase_of_mem hx
    have hp : 0 < b.length := List.length_pos_of_mem hx
    have ih := nodup_len (b := b.erase x) h1.2 fun z hz => by
      have ne : z ≠ x := fun e => h1.1 (e ▸ hz)
      exact (List.mem_erase_of_ne ne).mpr (hs z (List.mem_cons_of_mem _ hz))
    rw [List.length_cons]
    omega
theorem xor_self_left (g n : Nat) : g ^^^ (g ^^^ n) = n := by rw [← Nat.xor_assoc, Nat.xor_self, Nat.zero_xor]
theorem xor_inj {g a b : Nat} (h : g ^^^ a = g ^^^ b) : a = b := by
  have q : g ^^^ (g ^^^ a) = g ^^^ (g ^^^ b) := by rw [h]
  rwa [xor_self_left, xor_self_left] at q
/-- by nearness to g, each once -/
def byN (g : Nat) (ns : List Nat) : List Nat := (sortU (ns.map (g ^^^ ·))).map (g ^^^ ·)
theorem mem_byN {g z : Nat} {ns : List Nat} : z ∈ byN g ns ↔ z ∈ ns := by
  unfold byN
  rw [List.mem_map]
  constructor
  · rintro ⟨k, hk, rfl⟩
    obtain ⟨n, hn, rfl⟩ := List.mem_map.mp (mem_sortU.mp hk)
    rw [xor_self_left]; exact hn
  · intro h
    exact ⟨g ^^^ z, mem_sortU.mpr (List.mem_map.mpr ⟨z, h, rfl⟩), xor_self_left _ _⟩
theorem byN_sorted (g : Nat) (ns : List Nat) : (byN g ns).Pairwise fun a b => g ^^^ a < g ^^^ b := by
  unfold byN
  rw [List.pairwise_map]
  exact (sortU_sorted _).imp fun {a b} h => by rw [xor_self_left, xor_self_left]; exact h
theorem byN_nodup (g : Nat) (ns : List Nat) : (byN g ns).Nodup := (byN_sorted g ns).imp fun {a b} h e => by rw [e] at h; exact Nat.lt_irrefl _ h
/-- the one list that is ordered so, with these members -/
theorem byN_uniq {g : Nat} {ns l : List Nat} (hs : l.Pairwise fun a b => g ^^^ a < g ^^^ b) (hm : ∀ z, z ∈ l ↔ z ∈ ns) : l = byN g ns := by
  have e : l.map (g ^^^ ·) = sortU (ns.map (g ^^^ ·)) := by
    refine rising_eq (List.pairwise_map.mpr hs) (sortU_sorted _) fun z => ?_
    rw [mem_sortU, List.mem_map, List.mem_map]
    constructor
    · rintro ⟨a, h, e⟩; exact ⟨a, (hm a).mp h, e⟩
    · rintro ⟨a, h, e⟩; exact ⟨a, (hm a).mpr h, e⟩
  unfold byN
  rw [← e, List.map_map]
  have : ((g ^^^ ·) ∘ (g ^^^ ·) : Nat → Nat) = id := funext fun n => xor_self_left g n
  rw [this, List.map_id]
theorem byN_congr {g : Nat} {a b : List Nat} (h : ∀ z, z ∈ a ↔ z ∈ b) : byN g a = byN g b := byN_uniq (byN_sorted g a) fun z => by rw [mem_byN, h]
theorem byN_len_le {g : Nat} {ns : List Nat} : (byN g ns).length ≤ ns.length := nodup_len (byN_nodup g ns) fun _ h => mem_byN.mp h
theorem byN_len {g g' : Nat} {ns : List Nat} : (byN g ns).length = (byN g' ns).length :=
  Nat.le_antisymm (nodup_len (byN_nodup _ _) fun _ h => mem_byN.mpr (mem_byN.mp h)) (nodup_len (byN_nodup _ _) fun _ h => mem_byN.mpr (mem_byN.mp h))
end Nn
/-! set(list of ints), as the layer's sets are kept -/
namespace Nn
open PySem PySem.Spec PyProof.Rows L2
section
variable {P : Program} {w : World} {A : Around} {E : Value → Shared → Prop} {s : Shared}
/-- a set's object, just made -/
abbrev newS (w : World) : Obj := { cls := .type "set", dict := none, data := .set #[] 0 (.fresh 0 0 (!w.params.followText "set-order")) }
/-- what the filling of a new set at S by the list at l does -/
def Filled (w : World) (S : Addr) (ns : List Int) (s s2 : Shared) : Prop := ∃ (h2 : Heap) (tk c : Nat), s2 = { s with heap := h2, toks := tk } ∧ SetR w h2 S (fun j => decide (j ∈ ns)) c ∧ c ≤ ns.length ∧ ∀ b o, b ≠ S → s.heap.get? b = some o → h2.get? b = some o
set_option maxRecDepth 100000 in
set_option maxHeartbeats 3200000 in
theorem fill_set {S l : Addr} {items : Array Value} {ns : List Int} {Q : Value → Shared → Prop} (hh : A.handled = none) (hS : s.heap.get? S = some (newS w)) (hl : s.heap.IsList l items) (hit : IntsAre items.toList ns) (hb : ns.length + 1 < scanBound)
    (h : ∀ s2, Filled w S ns s s2 → Q .none s2) : codeAny (model P w) A (.call (.builtin "set.__init__") ⟨[.ref S, .ref l], []⟩) (wants Q E) s := by
  have hT : Shared.TypeIs s (.ref S) "set" := ⟨_, hS, rfl⟩
  have hlen : items.size = ns.length := by
    have q := IntsAre.length hit
    rwa [Array.length_toList] at q
  have hlS : l ≠ S := fun z => by
    obtain ⟨o, ho, _, n, hd⟩ := hl
    rw [z, hS] at ho
    cases ho
    cases hd
  refine codeAny_call_builtin F.called_set.init.plain F.entry_set_init (check_set_init_1 hT ?_)
  obtain ⟨⟨oc, od, ob, osl⟩, hol, hcl, nl, hdl⟩ := id hl
  simp only at hcl hdl
  subst hcl hdl
  have a1 := F.sub_list_set
  have a2 := F.sub_list_frozenset
  have a3 : (Value.type "list" == Value.type "dict") = false := by decide
  unfold Builtin.«set.__init__» noKeywords Builtin.Frozenset.updateFrom
  generalize hPI : pyIter = PI
  wp_walk
  subst hPI
  refine wpAny_pyIter_list hl ?_
  refine wpAny_bind (wpAny_runValue ?_)
  have hi3 : A.in1.in1.handled = none := by simp [hh]
  have low : ∀ {b : Addr} {o : Obj}, s.heap.get? b = some o → b ≠ s.heap.objs.size := fun e => Nat.ne_of_lt (Heap.lt_size e)
  have hfp : S ∉ [s.heap.objs.size, l] := by
    simp only [List.mem_cons, List.not_mem_nil, or_false, not_or]
    exact ⟨low hS, hlS.symm⟩
  have hS2 : ∀ o : Obj, (s.heap.push o).get? S = some (newS w) := fun o => Heap.get?_push_of_some _ hS
  have hv2 : ∀ (i : Nat) (v : Value), items[i]? = some v → ∃ k t, ns[i]? = some k ∧ v = .int k t := fun i v hv => by
    have hi : i < ns.length := by rw [← hlen]; exact (Array.getElem?_eq_some_iff.mp hv).1
    obtain ⟨t, e⟩ := PyProof.Rows.IntsAre.int_at hit i v ((Array.getElem?_toList).trans hv)
    refine ⟨ns[i], t, List.getElem?_eq_getElem hi, e.trans ?_⟩
    rw [List.getD_eq_getElem?_getD, List.getElem?_eq_getElem hi]; rfl
  refine set_update_ints ((Walks.list hi3 _ l (low hol) items).toS) S hfp ns hlen hb hv2 (items.size - 0) 0 _ (by omega) (Nat.zero_le _) ?hSt ?hS0 ?hR
  · exact ⟨⟨_, Heap.get?_push_size _ rfl, rfl, rfl⟩, hl.push _⟩
  · exact ⟨0, Nat.le_refl 0, setR_new_at (w := w) (hS2 _)⟩
  · rintro ⟨h2, g2, d2, tk2, o2⟩ c hm hc hR
    obtain rfl : g2 = s.gens := hm.gens
    obtain rfl : d2 = s.drawn := hm.drawn
    obtain rfl : o2 = s.os := hm.os
    rw [hlen] at hc
    show wpAny (model P w) _ (pure ()) _ _ _
    refine wpAny_pure ?_
    show wpAny (model P w) _ (ret Value.none) _ _ _
    refine wpAny_pure ?_
    refine h _ ⟨h2, tk2, c, rfl, hR, hc, fun b o nb e => hm.heap b o ?_ (Heap.get?_push_of_some _ e)⟩
    simp only [List.mem_cons, List.not_mem_nil, or_false, not_or]
    exact ⟨nb, low e⟩
set_option maxRecDepth 100000 in
set_option maxHeartbeats 3200000 in
theorem call_set_L {l : Addr} {items : Array Value} {ns : List Int} {Q : Value → Shared → Prop} (hh : A.handled = none) (hl : s.heap.IsList l items) (hit : IntsAre items.toList ns) (hb : ns.length + 1 < scanBound)
    (h : ∀ s2, Filled w s.heap.objs.size ns { s with heap := s.heap.push (newS w) } s2 → Q (.ref s.heap.objs.size) s2) : wpAny (model P w) A (call (.type "set") [.ref l]) Q E s := by
  obtain ⟨c, tl, hmro⟩ := F.called_set.mro
  have b1 := F.called_set.made
  have b2 := F.called_set.sub
  have b3 := F.called_set.notType
  have b4 := F.called_set.canCreate
  have b5 := F.typeCall_set_1 (.ref l)
  refine wpAny_call (codeAny_of_tree ?_)
  show wpAny (model P w) _ (callAny (.type "set") ⟨[.ref l], []⟩) _ _ s
  refine wpAny_pure ⟨Code.quiet_builtin _ (by decide +kernel), ?_⟩
  refine codeAny_builtin F.entry_type_call ?_
  rw [Around.under_plain (weight_type_call_type "set" [.ref l] []) rfl]
  repeat (any_goals (first | assumption | wp_step))
  refine codeAny_mono (code_set_led1 (.ref l) (E := E) (Q₁ := fun o s1 => o = .ref s.heap.objs.size ∧ s1 = { s with heap := s.heap.push (newS w) }) ⟨rfl, rfl⟩) fun r s1 hr => ?_
  match r, hr with
  | .error e, hr => exact hr
  | .ok .next, hr => exact hr.elim
  | .ok .brk, hr => exact hr.elim
  | .ok .cont, hr => exact hr.elim
  | .ok (.ret o), hr =>
    obtain ⟨rfl, rfl⟩ := hr
    have hS : (s.heap.push (newS w)).get? s.heap.objs.size = some (newS w) := Heap.get?_push_size _ rfl
    have hT : Shared.TypeIs { s with heap := s.heap.push (newS w) } (.ref s.heap.objs.size) "set" := ⟨_, hS, rfl⟩
    have b6 := F.called_set.init.lookup
    have b7 := F.called_set.init.bind (.ref s.heap.objs.size)
    repeat (any_goals (first | assumption | wp_step))
    refine codeAny_mono (fill_set (S := s.heap.objs.size) (l := l) (ns := ns) (items := items) (E := E) (Q := fun r s2 => r = .none ∧ Filled w s.heap.objs.size ns { s with heap := s.heap.push (newS w) } s2) (by simp [hh]) hS (hl.push _) hit hb fun s2 f => ⟨rfl, f⟩) fun r2 s2 hr2 => ?_
    match r2, hr2 with
    | .error e, hr2 => exact hr2
    | .ok .next, hr2 => exact hr2.elim
    | .ok .brk, hr2 => exact hr2.elim
    | .ok .cont, hr2 => exact hr2.elim
    | .ok (.ret o), hr2 =>
      obtain ⟨rfl, f⟩ := hr2
      obtain ⟨h2, tk, c2, rfl, g1, g2, g3⟩ := id f
      repeat (any_goals (first | assumption | wp_step))
      exact h _ f
end
/-- set(xs), xs a list of ints -/
def rSetL (K : PySem.W.Frag) (w : World) : List V → Hp → VK → Prop := fun xs H Q => ∃ (l : Addr) (ns : List Int), xs = [.ref l] ∧ SqL K H l (ns.map V.int) ∧ ns.length ≤ 4000 ∧ ∀ p c, H p = none → c ≤ ns.length → Q (.ref p) (upd H p (SetO w p (fun j => decide (j ∈ ns)) c))
theorem cr_setL {X : Cx} (hc : X.calm = true) : CallR X (.type "set") (rSetL X.K X.w) := by
  intro pins s σ H xs us Q I r h
  obtain ⟨l, ns, rfl, hq, hz, q⟩ := h
  rw [Vals.ref1 r]
  obtain ⟨its, r2, pl, hz2⟩ := I.list hq
  refine call_set_L (I.ok.hd hc) pl.isList (by simpa using RZ.intsAre_vals r2) (by unfold scanBound; omega) fun s2 f => ?_
  obtain ⟨h2, tk, c, rfl, g1, g2, g3⟩ := f
  have nf : H s.heap.objs.size = none := I.hok.fresh (Nat.le_refl _)
  refine ⟨.ref _, upd H s.heap.objs.size (SetO X.w s.heap.objs.size (fun j => decide (j ∈ ns)) c), I.laid (t' := tk) (fun b u e => g3 b u (Nat.ne_of_lt (Heap.lt_size e)) (Heap.get?_push_of_some _ e)) (Nat.le_refl _) (setO_new g1), rfl, q _ c nf g2⟩
/-- how many members a rising list of them has -/
theorem x_setL {K : PySem.W.Frag} {w : World} {H : Hp} {Q : VK} {l : Addr} {ns : List Nat} (hS : SqL K H l (ns.map nV)) (hz : ns.length ≤ 4000) (h : ∀ p c, H p = none → c ≤ ns.length → Q (.ref p) (upd H p (SetO w p (fun j => decide (j ∈ ns.map fun n : Nat => (n : Int))) c))) : rSetL K w [.ref l] H Q :=
  ⟨l, ns.map fun n : Nat => (n : Int), rfl, by rw [← map_nV]; exact hS, by rw [List.length_map]; exact hz, fun p c hp hc => h p c hp (by rw [List.length_map] at hc; exact hc)⟩
theorem x_sortSet {w : World} {H : Hp} {Q : VK} {p : Addr} {ns : List Nat} {c : Nat} (hp : H p = some (SetO w p (fun j => decide (j ∈ ns.map fun n : Nat => (n : Int))) c)) (hc : c < 64) (h : ∀ q, H q = none → Q (.ref q) (upd H q (.lst ((sortU ns).map nV)))) : rSortedSet w [.ref p] H Q := by
  refine ⟨p, _, c, rfl, hp, hc, fun ys q hr hm hl hq => ?_⟩
  have hmem : ∀ y ∈ ys, ∃ n : Nat, n ∈ ns ∧ y = (n : Int) := fun y hy => by
    obtain ⟨n, hn, e⟩ := List.mem_map.mp (of_decide_eq_true ((hm y).mp hy))
    exact ⟨n, hn, e.symm⟩
  have e : ys = (sortU ns).map fun n : Nat => (n : Int) := by
    have e1 : ys = (ys.map Int.toNat).map fun n : Nat => (n : Int) := by
      rw [List.map_map]
      refine (List.map_id ys).symm.trans (List.map_congr_left fun y hy => ?_)
      obtain ⟨n, _, rfl⟩ := hmem y hy
      simp
    have e2 : ys.map Int.toNat = sortU ns := rising_eq (by
      refine List.pairwise_map.mpr (hr.imp_of_mem fun {a b} ha hb hab => ?_)
      obtain ⟨n, _, rfl⟩ := hmem a ha
      obtain ⟨m, _, rfl⟩ := hmem b hb
      simp; omega) (sortU_sorted _) fun z => by
      rw [mem_sortU]
      constructor
      · intro hz
        obtain ⟨y, hy, e⟩ := List.mem_map.mp hz
        obtain ⟨n, hn, rfl⟩ := hmem y hy
        rw [← e]; simpa using hn
      · intro hz
        exact List.mem_map.mpr ⟨(z : Int), (hm _).mpr (decide_eq_true (List.mem_map.mpr ⟨z, hz, rfl⟩)), by simp⟩
    rw [e1, e2]
  rw [e, ← map_nV]
  exact h q hq
theorem x_sortN {K : PySem.W.Frag} {H : Hp} {Q : VK} {a : Addr} {ns : List Nat} (hS : SqL K H a (ns.map nV)) (nd : ns.Nodup) (h : ∀ p, H p = none → Q (.ref p) (upd H p (.lst ((sortU ns).map nV)))) : rSortedI K [.ref a] H Q := by
  refine ⟨a, ns.map fun n : Nat => (n : Int), rfl, by rw [← map_nV]; exact hS, fun ys p hperm hsort hp => ?_⟩
  obtain ⟨zs, rfl⟩ : ∃ zs : List Nat, ys = zs.map fun n : Nat => (n : Int) := by
    refine ⟨ys.map Int.toNat, ?_⟩
    rw [List.map_map]
    refine (List.map_id ys).symm.trans (List.map_congr_left fun y hy => ?_)
    obtain ⟨n, _, rfl⟩ := List.mem_map.mp (hperm.mem_iff.mp hy)
    simp
  have hzs : zs = sortU ns := by
    have hmem : ∀ z, z ∈ zs ↔ z ∈ ns := fun z => by
      constructor
      · intro hz
        obtain ⟨n, hn, e⟩ := List.mem_map.mp (hperm.mem_iff.mp (List.mem_map.mpr ⟨z, hz, rfl⟩))
        rw [← Int.ofNat.inj e]; exact hn
      · intro hz
        obtain ⟨n, hn, e⟩ := List.mem_map.mp (hperm.mem_iff.mpr (List.mem_map.mpr ⟨z, hz, rfl⟩))
        rw [← Int.ofNat.inj e]; exact hn
    refine rising_eq ?_ (sortU_sorted _) fun z => by rw [hmem, mem_sortU]
    have nz : zs.Nodup := by
      have q : (zs.map fun n : Nat => (n : Int)).Nodup := hperm.nodup_iff.mpr (List.Pairwise.map _ (fun a b h e => h (Int.ofNat.inj e)) nd)
      exact (List.pairwise_map.mp q).imp fun h e => h (by rw [e])
    have le : zs.Pairwise (· ≤ ·) := (List.pairwise_map.mp hsort).imp fun h => by omega
    exact (nz.and le).imp fun h => by omega
  rw [hzs, ← map_nV]
  exact h p hp
end Nn
/-! far: the bits' difference -/
namespace Nn
open PySem L2
section
variable {P : Program} {w : World} {K : PySem.W.Frag} {mg : Str → Option Value} {base : Heap} {H : Hp} {Q : VK} {E : XK}
def sp_far (_ : Tx K mg base) : Sp := fun vs H Q E => ∃ (a : Nat) (b : Nat), vs = [.int a, .int b] ∧ (Q (.int ((a ^^^ b : Nat) : Int)) H)
theorem wc_far {T : Tx K mg base} {a : Nat} {b : Nat} {i0 : Int} {i1 : Int} (e0 : i0 = a) (e1 : i1 = b)  (h : Q (.int ((a ^^^ b : Nat) : Int)) H) : sp_far T [.int i0, .int i1] H Q E := by
  subst e0 e1
  exact ⟨a, b, rfl, h⟩
theorem ok_far (T : Tx K mg base) : FnOk P w K mg base CX0 1 T.a_far T.d_far ["one", "other"] (sp_far T) := by
  refine T.F_far.okD sc_far (fun vs H Q E h => ?_) (fun cdv A outer s H vs Q E hr h => ?_)
  · obtain ⟨a, b, rfl, q⟩ := h; rfl
  · obtain ⟨a, b, rfl, q⟩ := h
    have hu := hu_of hr
    refine ⟨_, (pss_one (ps_ret (pe_op op_xor (pv 0) (pv 1)))), ?_⟩
    rw [Nn.st_far]; try rw [Nn.cxK]
    try rw [Nn.cxW]
    walk_at "wx"
    rw [Bits.bitXor_pp (Int.natCast_nonneg _) (Int.natCast_nonneg _)]
    exact q
end
end Nn
local macro_rules | `(tactic| walk_at "wc") => `(tactic| ((with_reducible refine' Nn.wc_far ?hE0 ?hE1 (?_)); (case hE0 => walk_at "wnat"); (case hE1 => walk_at "wnat")))
/-! nearer, step, span -/
namespace Nn
open PySem L2
section
variable {P : Program} {w : World} {K : PySem.W.Frag} {mg : Str → Option Value} {base : Heap} {H : Hp} {Q : VK} {E : XK}
def sp_nearer (_ : Tx K mg base) : Sp := fun vs H Q E => ∃ (g : Nat) (a : Nat) (b : Nat), vs = [.int g, .int a, .int b] ∧ (Q (.bl (decide (g ^^^ a < g ^^^ b))) H)
theorem wc_nearer {T : Tx K mg base} {g : Nat} {a : Nat} {b : Nat} {i0 : Int} {i1 : Int} {i2 : Int} (e0 : i0 = g) (e1 : i1 = a) (e2 : i2 = b)  (h : Q (.bl (decide (g ^^^ a < g ^^^ b))) H) : sp_nearer T [.int i0, .int i1, .int i2] H Q E := by
  subst e0 e1 e2
  exact ⟨g, a, b, rfl, h⟩
theorem ok_nearer (T : Tx K mg base) : FnOk P w K mg base CX0 2 T.a_nearer T.d_nearer ["goal", "one", "other"] (sp_nearer T) := by
  refine T.F_nearer.okD sc_nearer (fun vs H Q E h => ?_) (fun cdv A outer s H vs Q E hr h => ?_)
  · obtain ⟨g, a, b, rfl, q⟩ := h; rfl
  · obtain ⟨g, a, b, rfl, q⟩ := h
    have hu := hu_of hr
    refine ⟨_, (pss_one (ps_ret (pe_cmpR op_lt (pe_call (ok_far T) hr rfl T.m_far T.F_far.kp T.b_far .nil pass0 (pa_cons (pv 0) (pa_cons (pv 1) pa_nil))) (pe_call (ok_far T) hr rfl T.m_far T.F_far.kp T.b_far .nil pass0 (pa_cons (pv 0) (pa_cons (pv 2) pa_nil))) (nomark _)))), ?_⟩
    rw [Nn.st_nearer]; try rw [Nn.cxK]
    try rw [Nn.cxW]
    walk_at "wx"
    have e : decide (((g ^^^ a : Nat) : Int) < ((g ^^^ b : Nat) : Int)) = decide (g ^^^ a < g ^^^ b) := by simp
    rw [e]; exact q
end
end Nn
local macro_rules | `(tactic| walk_at "wc") => `(tactic| ((with_reducible refine' Nn.wc_nearer ?hE0 ?hE1 ?hE2 (?_)); (case hE0 => walk_at "wnat"); (case hE1 => walk_at "wnat"); (case hE2 => walk_at "wnat")))
/-! by_nearness -/
namespace Nn
open PySem L2
section
variable {P : Program} {w : World} {K : PySem.W.Frag} {mg : Str → Option Value} {base : Heap} {H : Hp} {Q : VK} {E : XK}
/-- the dict of by_nearness: the keys ks, each with its name -/
def farD (g : Nat) (ks : List Nat) : List (Key × V) := ks.map fun k => (nK k, nV (g ^^^ k))
theorem farD_val {g n : Nat} : ∀ {ks : List Nat}, valV (farD g ks) (nK n) = if n ∈ ks then some (nV (g ^^^ n)) else none
  | [] => rfl
  | k :: r => by
    by_cases e : k = n
    · rw [if_pos (by simp [e])]
      show valV ((nK k, nV (g ^^^ k)) :: farD g r) (nK n) = _
      rw [valV_pos (by rw [e]), e]
    · show valV ((nK k, nV (g ^^^ k)) :: farD g r) (nK n) = _
      rw [valV_neg (by intro z; exact e (nK_inj z)), farD_val]
      simp [e, Ne.symm e]
theorem mem_cast {z : Nat} {l : List Nat} : (z : Int) ∈ l.map (fun n : Nat => (n : Int)) ↔ z ∈ l := by
  rw [List.mem_map]
  exact ⟨fun ⟨a, h, e⟩ => by rw [← Int.ofNat.inj e]; exact h, fun h => ⟨z, h, rfl⟩⟩
theorem farD_put {g n : Nat} {ks : List Nat} : putK (farD g ks) (nK (g ^^^ n)) (nV n) = farD g (if g ^^^ n ∈ ks then ks else ks ++ [g ^^^ n]) := by
  by_cases h : g ^^^ n ∈ ks
  · rw [if_pos h]
    unfold putK
    have e : ((farD g ks).any fun kv => decide (kv.1 = nK (g ^^^ n))) = true := by rw [valV_any, farD_val, if_pos h]; rfl
    rw [if_pos e]
    unfold farD
    rw [List.map_map]
    refine List.map_congr_left fun k _ => ?_
    show (if nK k = nK (g ^^^ n) then (nK k, nV n) else (nK k, nV (g ^^^ k))) = _
    by_cases q : k = g ^^^ n
    · rw [if_pos (by rw [q]), q, xor_self_left]
    · rw [if_neg fun z => q (nK_inj z)]
  · rw [if_neg h, putK_new _ (by rw [farD_val, if_neg h])]
    unfold farD
    rw [List.map_append]
    simp [xor_self_left]
def sp_by_nearness (_ : Tx K mg base) : Sp := fun vs H Q E => ∃ (g : Nat) (p_names : Addr) (names : List Nat), vs = [.int g, .ref p_names] ∧ (SqL K H p_names (names.map nV)) ∧ ((byN g names).length < 64 ∧ names.length ≤ 100000) ∧ (∀ p H', H p = none → Ex H H' → H' p = some (.lst ((byN g names).map nV)) → Q (.ref p) H')
theorem wc_by_nearness {T : Tx K mg base} {g : Nat} {p_names : Addr} {names : List Nat} {i0 : Int} (e0 : i0 = g) (c0 : SqL K H p_names (names.map nV)) (c1 : (byN g names).length < 64 ∧ names.length ≤ 100000) (h : ∀ p H', H p = none → Ex H H' → H' p = some (.lst ((byN g names).map nV)) → Q (.ref p) H') : sp_by_nearness T [.int i0, .ref p_names] H Q E := by
  subst e0
  exact ⟨g, p_names, names, rfl, c0, c1, h⟩
theorem ok_by_nearness (T : Tx K mg base) : FnOk P w K mg base CX0 2 T.a_by_nearness T.d_by_nearness ["goal", "names"] (sp_by_nearness T) := by
  refine T.F_by_nearness.okD sc_by_nearness (fun vs H Q E h => ?_) (fun cdv A outer s H vs Q E hr h => ?_)
  · obtain ⟨g, p_names, names, rfl, hS0, hpre, q⟩ := h; rfl
  · obtain ⟨g, p_names, names, rfl, hS0, hpre, q⟩ := h
    have hu := hu_of hr
    refine ⟨_, (pss_cons (ps_set (i := 2) sc_by_nearness.nd rfl (Or.inr rfl) pe_dnewK)
      (pss_cons (ps_for PassesOwn.never rfl (pi_list (pv 1)) (pg_name (i := 3) sc_by_nearness.nd rfl (Or.inl rfl))
      (pss_one (ps_dput hu (pv 2) (pe_call (ok_far T) hr rfl T.m_far T.F_far.kp T.b_far .nil pass0 (pa_cons (pv 0) (pa_cons (pv 3) pa_nil))) (pv 3) rfl)))
      (pss_one (ps_ret (pe_lc (own := [("one", 4)]) (g := (gName 4)) (by rfl) sc_by_nearness.nd (pi_list (pe_callB (cb_sortD rfl) (by rfl) T.z_sorted (by decide +kernel) (pa_cons (pv 2) pa_nil))) (blkOk_by (N := N_by_nearness) (sc := defScope s_by_nearness) (own := [("one", 4)]) (by decide +kernel)) (fun _ _ _ _ _ => (pg_name (i := 4) sc_by_nearness.nd rfl (Or.inl rfl))) (fun _ _ _ _ _ => pts_nil) (fun _ _ _ _ _ => (pe_dget hu (pv 2) (pv 4) (fun _ _ => rfl)))))))), ?_⟩
    rw [Nn.st_by_nearness]; try rw [Nn.cxK]
    try rw [Nn.cxW]
    walk_at "wx"
    intro d hd
    walk_at "wx"
    obtain ⟨h64, hz⟩ := hpre
    refine ForW.by walk_list (fun i σ H' => ∃ (v : Option V) (ks : List Nat), σ = [some (.int g), some (.ref p_names), some (.ref d), v, none] ∧ Ex H H' ∧ H' d = some (.dK (farD g ks)) ∧ ks.Nodup ∧ (∀ k, k ∈ ks ↔ k ∈ (names.take i).map (g ^^^ ·)))
      ⟨none, [], rfl, Ex.new hd, upd_same, List.nodup_nil, by simp⟩ (fun i σ H' _ ⟨_, _, _, e, _⟩ => e.ls hS0) ?_ ?_
    · rintro i x σ H1 _ hi ⟨v, ks, rfl, ex1, h1, nd, hm⟩ ⟨rfl, hx⟩
      rw [List.length_map] at hi
      obtain rfl : x = nV names[i] := by
        rw [List.getElem?_map, List.getElem?_eq_getElem hi] at hx
        exact (Option.some.inj hx).symm
      have et : names.take (i + 1) = names.take i ++ [names[i]] := by rw [List.take_add_one, List.getElem?_eq_getElem hi]; rfl
      have hk64 : ks.length ≤ (byN g names).length := by
        have e : (byN g names).length = (sortU (names.map (g ^^^ ·))).length := by unfold byN; rw [List.length_map]
        rw [e]
        refine nodup_len nd fun k hk => mem_sortU.mpr ?_
        obtain ⟨n, hn, rfl⟩ := List.mem_map.mp ((hm k).mp hk)
        exact List.mem_map.mpr ⟨n, List.mem_of_mem_take hn, rfl⟩
      walk_at "wx"
      refine x_dput h1 (by unfold farD; rw [sizeLine_eq, List.length_map]; omega) ?_
      have hput : putK (farD g ks) (Sum.inl ((g ^^^ names[i] : Nat) : Int)) (nV names[i]) = farD g (if g ^^^ names[i] ∈ ks then ks else ks ++ [g ^^^ names[i]]) := farD_put
      rw [hput]
      refine ⟨_, _, rfl, ex1.mut hd h1, upd_same, ?_, fun k => ?_⟩
      · by_cases h : g ^^^ names[i] ∈ ks
        · rw [if_pos h]; exact nd
        · rw [if_neg h]; exact nd_snoc nd h
      · rw [et, List.map_append, List.mem_append, ← hm]
        by_cases h : g ^^^ names[i] ∈ ks
        · rw [if_pos h]
          constructor
          · exact .inl
          · rintro (q | q)
            · exact q
            · rw [List.map_singleton, List.mem_singleton] at q; rw [q]; exact h
        · rw [if_neg h, List.mem_append]; simp
    · rintro σ H1 ⟨v, ks, rfl, ex1, h1, nd, hm⟩
      rw [List.length_map, List.take_length] at hm
      have hkeys : (farD g ks).map (·.1) = (ks.map fun n : Nat => (n : Int)).map Sum.inl := by unfold farD; rw [List.map_map, List.map_map]; rfl
      have hk64 : ks.length ≤ (byN g names).length := by
        have e : (byN g names).length = (sortU (names.map (g ^^^ ·))).length := by unfold byN; rw [List.length_map]
        rw [e]
        exact nodup_len nd fun k hk => mem_sortU.mpr ((hm k).mp hk)
      walk_at "wx"
      refine ⟨d, _, _, rfl, .inl h1, hkeys, by rw [List.length_map]; omega, fun ys p hperm hsort hp => ?_⟩
      obtain ⟨zs, rfl⟩ : ∃ zs : List Nat, ys = zs.map fun n : Nat => (n : Int) := by
        refine ⟨ys.map Int.toNat, ?_⟩
        rw [List.map_map]
        refine (List.map_id ys).symm.trans (List.map_congr_left fun y hy => ?_)
        obtain ⟨n, _, rfl⟩ := List.mem_map.mp (hperm.mem_iff.mp hy)
        simp
      have hzs : zs = sortU (names.map (g ^^^ ·)) := by
        have hmem : ∀ z, z ∈ zs ↔ z ∈ ks := fun z => by
          rw [← mem_cast (l := zs), ← mem_cast (l := ks)]
          exact hperm.mem_iff
        refine rising_eq ?_ (sortU_sorted _) fun z => by rw [hmem, hm, mem_sortU]
        have nz : zs.Nodup := by
          have q : (zs.map fun n : Nat => (n : Int)).Nodup := hperm.nodup_iff.mpr (List.Pairwise.map _ (fun a b h e => h (Int.ofNat.inj e)) nd)
          exact (List.pairwise_map.mp q).imp fun h e => h (by rw [e])
        have le : zs.Pairwise (· ≤ ·) := (List.pairwise_map.mp hsort).imp fun h => by omega
        exact (nz.and le).imp fun h => by omega
      walk_at "wx"
      refine LcW.map (emb := nV) (xs := zs) (fun k => nV (g ^^^ k)) (SqL.of (by rw [upd_same, ← map_nV])) ?_ ?_ ?_
      · have e : zs.length = (byN g names).length := by rw [hzs]; unfold byN; rw [List.length_map]
        rw [e, sizeLine_eq]; omega
      · intro k hk H2 ex2 Qe hQ
        have hd2 : H2 d = some (.dK (farD g ks)) := ex2.at ((Ex.new hp).at h1)
        have hkk : k ∈ ks := (hm k).mpr (mem_sortU.mp (by rw [← hzs]; exact hk))
        have hv : valV (farD g ks) (Sum.inl (k : Int)) = some (nV (g ^^^ k)) := by
          have q := farD_val (g := g) (n := k) (ks := ks)
          rw [if_pos hkk] at q
          exact q
        walk_at "wx"
        exact hQ _ Ex.refl
      · intro D H2 hD ex2 hD2
        refine q D H2 ?_ ((ex1.newT hp).trans ex2) ?_
        · exact (ex1.newT hp).back D hD
        · rw [hD2, hzs]; unfold byN; rw [List.map_map]; rfl
end
end Nn
/-! sorted(xs, key=lambda x: g ^ x), g a name of the def that the lambda captures -/
namespace Nn
open PySem PySem.Spec PyProof.Rows L2 NdefX LamX
/-- by nearness -/
def sortX (g : Nat) (l : List Nat) : List Nat := l.mergeSort fun a b => decide (g ^^^ a ≤ g ^^^ b)
theorem sortX_byN {g : Nat} {l : List Nat} (nd : l.Nodup) : sortX g l = byN g l := by
  refine byN_uniq ?_ fun z => (List.mergeSort_perm l _).mem_iff
  have hs : (sortX g l).Pairwise fun a b => decide (g ^^^ a ≤ g ^^^ b) = true := List.pairwise_mergeSort (fun a b c h1 h2 => by simp only [decide_eq_true_eq] at h1 h2 ⊢; omega) (fun a b => by simp only [Bool.or_eq_true, decide_eq_true_eq]; omega) l
  have nd2 : (sortX g l).Nodup := (List.mergeSort_perm l _).nodup_iff.mpr nd
  refine (hs.and nd2).imp fun {a b} h => ?_
  obtain ⟨h1, h2⟩ := h
  have h1 := of_decide_eq_true h1
  have h3 : g ^^^ a ≠ g ^^^ b := fun e => h2 (xor_inj e)
  omega
theorem sortX_mem {g z : Nat} {l : List Nat} : z ∈ sortX g l ↔ z ∈ l := (List.mergeSort_perm l _).mem_iff
theorem sortX_len {g : Nat} {l : List Nat} : (sortX g l).length = l.length := List.length_mergeSort l
/-- the call of such a lambda: pure -/
theorem lam_call {prog : Program} {w : World} {A : Around} {s : Shared} {f c' : Addr} {q gx x : Str} {params : Arguments} {body : Expr} {scope : Scope} {cl : List (Str × Addr)} {pm ctv : Value} {cg : Addr} {g n : Nat} {tg tn : Tok} {a b : Str} {pa pb bp : Pos}
    (ho : s.heap.get? f = some (PySem.W.kla_obj "<lambda>" q params body scope cl pm c' ctv)) (hc : s.heap.CodeRec (.ref c') q) (lim : s.heap.NoLimit) (hroom : A.depth < recursionLimit)
    (hk : scope.kind = .function) (hco : scope.isCoroutine = false) (hgen : scope.isGenerator = false) (hcell : ∀ y ∈ scope.names, y.2 ≠ .cell) (hx : scope.names.lookup x = some .local) (hg : scope.names.lookup gx = some .free)
    (hb : ∀ v, bindArgs (PySem.W.kla_fn "<lambda>" q params body scope cl pm (.ref c') ctv) ⟨[v], []⟩ = pure [(x, v)])
    (hbody : body = .BinOp (.Name a pa) .BitXor (.Name b pb) bp) (hab : (a = gx ∧ b = x) ∨ (a = x ∧ b = gx))
    (hcg : cl.lookup gx = some cg) (hgc : s.heap.IsCell cg (some (.int g tg))) (hdx : (x == ("__debug__" : Str)) = false) (hdg : (gx == ("__debug__" : Str)) = false) (hcd : (gx == ("__classdict__" : Str)) = false) :
    wpAny (model prog w) A (call (.ref f) [.int n tn]) (PySem.W.KeyPure (.int ((g ^^^ n : Nat) : Int)) s) (fun _ _ => False) s := by
  refine wpAny_call (PySem.W.kla_callFunE hroom ho rfl hco hgen rfl hc ?_)
  rw [hb]
  refine wpAny_pure (wpAny_newFunctionEnv hcell (fun y hy => ?_) (fun h₁ hns hsb => ⟨lim.fresh _ hsb, ?_⟩) hk)
  · obtain rfl := List.mem_singleton.mp hy; exact hx
  · refine PySem.W.kla_codeExpr ?_
    have kp : ∀ b o, s.heap.get? b = some o → h₁.get? b = some o := fun b o e => hsb.extBut b o (Nat.ne_of_lt (Heap.lt_size e)) (Heap.get?_push_of_some _ e)
    have cellK : h₁.IsCell cg (some (.int g tg)) := by obtain ⟨o, h1, h2⟩ := hgc; exact ⟨o, kp _ _ h1, h2⟩
    have hl : ([(x, Value.int n tn)] : List (Str × Value)).reverse.lookup x = some (.int n tn) := by simp [List.lookup]
    rw [hbody]
    refine wpAny_BinOp ?_
    rcases hab with ⟨rfl, rfl⟩ | ⟨rfl, rfl⟩
    · refine wpAny_Name (wpAny_loadName_free hk hg hcg cellK ?_ hcd) hdg
      refine wpAny_Name (wpAny_loadName_local hk hx hns hl ?_) hdx
      refine xor_int ?_
      refine ⟨_, _, rfl, kp, ?_⟩
      rw [Bits.bitXor_pp (Int.natCast_nonneg _) (Int.natCast_nonneg _)]
      exact .int _ _
    · refine wpAny_Name (wpAny_loadName_local hk hx hns hl ?_) hdx
      refine wpAny_Name (wpAny_loadName_free hk hg hcg cellK ?_ hcd) hdg
      refine xor_int ?_
      refine ⟨_, _, rfl, kp, ?_⟩
      rw [Bits.bitXor_pp (Int.natCast_nonneg _) (Int.natCast_nonneg _), Nat.xor_comm]
      exact .int _ _
section
variable {X : Cx} {pins : List (Addr × Obj)} {σ : L2.St} {H : Hp} {s : Shared}
/-- the lambda is made: its code object is new, or found in the table -/
theorem lam_make {c P : Addr} {params : Arguments} {body : Expr} {scope : Scope} {pos : Pos} {E Q : Value → Shared → Prop} (I : Inv X pins σ H s) (TB : TabB X.base X.mg c P) (hcode : X.env.code = .ref c)
    (hn : nmAll pos.line pos.col = X.env.qual ++ "<lambda>") (hT : TabN H P nmAll) (hdef : defaultsOf params X.env = ([], [])) (hfree : ∀ y ∈ scope.names, y.2 = .free → ∃ c, X.env.cells.lookup y.1 = some c)
    (h : ∀ (f c' : Addr) (pm ctv : Value) (H1 : Hp) (s' : Shared), Inv X pins σ H1 s' → Ex H H1 → s'.heap.get? f = some (PySem.W.kla_obj "<lambda>" (X.env.qual ++ "<lambda>") params body scope (cloFrom X.env.cells scope.names []) pm c' ctv) →
      s'.heap.CodeRec (.ref c') (X.env.qual ++ "<lambda>") → Q (.ref f) s') :
    wpAny (model X.prog X.w) X.A (eval (.Lambda params body scope pos) X.env) Q E s := by
  obtain ⟨ps, hP, ht, ha⟩ := hT
  refine PySem.W.kla_eval hdef ?_
  have bP : s.heap.BuiltinsAt X.mg P := TB.bm.keeps I.bk
  have hP' : s.heap.get? P = some { cls := .none, data := .fields ps } := I.hok P _ hP
  cases hc : codeAmong pos ps.toList with
  | none =>
    refine PySem.W.kla_makeFunction (mg := X.mg) (c := c) (P := P) (ps := ps) (closure_ok hfree) I.ok.glob (I.mod.glob.keeps I.bk) hcode (TB.code.keeps I.bk) hP' ht hc TB.gP bP fun c' ctv h' tk hx hge hlt hrec htb => ?_
    obtain ⟨c2, oc, vs, t, e2, hoc, hd, hv⟩ := hrec
    cases e2
    have nC : H c' = none := I.hok.fresh hge
    have I1 := inv_table (t' := tk) (more := #[rawInt pos.line, rawInt pos.col, .ref c']) (h' := h'.push (PySem.W.kla_obj "<lambda>" (X.env.qual ++ "<lambda>") params body scope (cloFrom X.env.cells scope.names []) ((X.mg "__name__").getD .none) c' ctv)) I hP
      (fun b o hb e => Heap.get?_push_of_some _ (hx b o hb e)) (Heap.get?_push_of_some _ htb) hge ⟨oc, vs, t, Heap.get?_push_of_some _ hoc, hd, hv⟩
    have eL : (ps ++ #[rawInt pos.line, rawInt pos.col, .ref c']).toList = ps.toList ++ [rawInt pos.line, rawInt pos.col, .ref c'] := by simp
    have hE : ExtN H (upd (upd H P (.tbl (ps ++ #[rawInt pos.line, rawInt pos.col, .ref c']))) c' (CodeO c' (X.env.qual ++ "<lambda>"))) := fun b o e n => by
      rw [upd_ne (ne_of_none e nC), upd_ne (fun z => n ps (Option.some.inj (e.symm.trans (by rw [z]; exact hP))))]
      exact e
    refine h h'.objs.size c' ((X.mg "__name__").getD .none) ctv _ _ I1 ⟨fun a o e n _ => hE a o e fun ps z => by rw [z] at n; exact n, fun P' ⟨ps', a1, a2, a3⟩ => ?_, fun b e => upd_none (upd_none e)⟩ (Heap.get?_push_size _ rfl) ⟨c', oc, vs, t, rfl, Heap.get?_push_of_some _ hoc, hd, hv⟩
    by_cases hb : P' = P
    · subst hb
      rw [hP] at a1
      cases a1
      refine ⟨_, by rw [upd_ne (ne_of_none hP nC), upd_same], by rw [eL]; exact PySem.TriplesOk_snoc _ _ _ _ ht, fun p' cv hcv => ?_⟩
      rw [eL] at hcv
      rcases among_app2 _ ht hcv with z | ⟨z, z1, z2⟩
      · obtain ⟨c0, e1, e2⟩ := ha p' cv z
        exact ⟨c0, e1, hE _ _ e2 codeO_ne⟩
      · refine ⟨c', z, ?_⟩
        rw [← z1, ← z2, hn]
        exact upd_same
    · refine ⟨ps', by rw [upd_ne (ne_of_none a1 nC), upd_ne hb]; exact a1, a2, fun p' cv hcv => ?_⟩
      obtain ⟨c0, e1, e2⟩ := a3 p' cv hcv
      exact ⟨c0, e1, hE _ _ e2 codeO_ne⟩
  | some cv =>
    obtain ⟨c', e, hco⟩ := ha pos cv hc
    subst e
    rw [hn] at hco
    refine PySem.W.kla_makeFunctionHit (mg := X.mg) (c := c) (P := P) (ps := ps) (closure_ok hfree) I.ok.glob (I.mod.glob.keeps I.bk) hcode (TB.code.keeps I.bk) hP' ht hc bP fun ctv h' tk hx hsz => ?_
    have I1 : Inv X pins σ H { s with heap := h'.push (PySem.W.kla_obj "<lambda>" (X.env.qual ++ "<lambda>") params body scope (cloFrom X.env.cells scope.names []) ((X.mg "__name__").getD .none) c' ctv), toks := tk } := I.kept fun b o e => Heap.get?_push_of_some _ (hx b o e)
    exact h h'.objs.size c' ((X.mg "__name__").getD .none) ctv H _ I1 Ex.refl (Heap.get?_push_size _ rfl) (codeO_at I1.hok hco)
end
/-- the words of such a lambda -/
structure LamXor (sc : Scope) (scope : Scope) (gx x : Str) : Prop where
  kind : scope.kind = .function
  co : scope.isCoroutine = false
  gen : scope.isGenerator = false
  nocell : ∀ y ∈ scope.names, y.2 ≠ .cell
  loc : scope.names.lookup x = some .local
  free : scope.names.lookup gx = some .free
  frs : ∀ y ∈ scope.names, y.2 = .free → sc.names.lookup y.1 = some .cell ∨ sc.names.lookup y.1 = some .free
  dx : (x == ("__debug__" : Str)) = false
  dg : (gx == ("__debug__" : Str)) = false
  cd : (gx == ("__classdict__" : Str)) = false
def lamXorB (sc : Scope) (scope : Scope) (gx x : Str) : Bool :=
  decide (scope.kind = .function) && !scope.isCoroutine && !scope.isGenerator && scope.names.all (fun y => !decide (y.2 = .cell)) && decide (scope.names.lookup x = some .local) && decide (scope.names.lookup gx = some .free) &&
    scope.names.all (fun y => !decide (y.2 = .free) || decide (sc.names.lookup y.1 = some .cell) || decide (sc.names.lookup y.1 = some .free)) && !(x == ("__debug__" : Str)) && !(gx == ("__debug__" : Str)) && !(gx == ("__classdict__" : Str))
theorem lamxor_by {sc scope : Scope} {gx x : Str} (h : lamXorB sc scope gx x = true) : LamXor sc scope gx x := by
  unfold lamXorB at h
  simp only [Bool.and_eq_true, Bool.or_eq_true, Bool.not_eq_true', decide_eq_true_eq, decide_eq_false_iff_not, List.all_eq_true] at h
  obtain ⟨⟨⟨⟨⟨⟨⟨⟨⟨h1, h2⟩, h3⟩, h4⟩, h5⟩, h6⟩, h7⟩, h8⟩, h9⟩, h10⟩ := h
  exact ⟨h1, h2, h3, h4, h5, h6, fun y hy e => by
    rcases h7 y hy with (z | z) | z
    · exact absurd e z
    · exact .inl z
    · exact .inr z, h8, h9, h10⟩
def RSx (K : PySem.W.Frag) (P : Addr) (gi : Nat) (σ : L2.St) (Q : VK) : VK := fun x H1 => ∃ (a : Addr) (ns : List Nat) (g : Nat), x = .ref a ∧ SqL K H1 a (ns.map nV) ∧ σ[gi]? = some (some (nV g)) ∧ TabN H1 P nmAll ∧ ∀ p H2, H1 p = none → Ex H1 H2 → H2 p = some (.lst ((sortX g ns).map nV)) → Q (.ref p) H2
def tSortX (K : PySem.W.Frag) (P : Addr) (gi : Nat) (te : TE) : TE := fun σ H Q => te σ H (RSx K P gi σ Q)
theorem e_sortx {K : PySem.W.Frag} {P : Addr} {gi : Nat} {te : TE} {σ : L2.St} {H : Hp} {Q : VK} : tSortX K P gi te σ H Q = te σ H (RSx K P gi σ Q) := rfl
theorem x_sortx {K : PySem.W.Frag} {P : Addr} {gi : Nat} {σ : L2.St} {H : Hp} {Q : VK} {a : Addr} {ns : List Nat} {g : Nat} (hS : SqL K H a (ns.map nV)) (hg : σ[gi]? = some (some (nV g))) (hT : TabN H P nmAll) (h : ∀ p H2, H p = none → Ex H H2 → H2 p = some (.lst ((sortX g ns).map nV)) → Q (.ref p) H2) : RSx K P gi σ Q (.ref a) H := ⟨a, ns, g, rfl, hS, hg, hT, h⟩
theorem eachNat : ∀ {ns : List Nat} {us : List Value}, Vals (ns.map nV) us → PySem.W.EachIs (fun (v : Value) (n : Nat) => ∃ t, v = .int n t) us ns
  | [], _, h => by cases h; exact .nil
  | n :: r, _, h => by
    cases h with
    | cons h1 h2 => exact .cons h1 (eachNat h2)
theorem natVals : ∀ {ns : List Nat} {us : List Value}, PySem.W.EachIs (fun (v : Value) (n : Nat) => ∃ t, v = .int n t) us ns → Vals (ns.map nV) us
  | [], _, h => by cases h; exact .nil
  | n :: r, _, h => by
    cases h with
    | cons h1 h2 => exact .cons h1 (natVals h2)
theorem pe_sortX {X : Cx} {e : Expr} {te : TE} {p pos lp kp : Pos} {params : Arguments} {body : Expr} {scope : Scope} {c P : Addr} {gi k : Nat} {gx x a b : Str} {pa pb bp : Pos}
    (he : PE X e te) (TB : TabB X.base X.mg c P) (hcode : X.env.code = .ref c) (hn : nmAll lp.line lp.col = X.env.qual ++ "<lambda>") (hg : Gl X "sorted") (hm : X.mg "sorted" = none) (hr : Room k X.A)
    (L : LamXor X.env.scope scope gx x) (hdef : defaultsOf params X.env = ([], [])) (hb : ∀ q cl pm cdv ctv v, bindArgs (PySem.W.kla_fn "<lambda>" q params body scope cl pm cdv ctv) ⟨[v], []⟩ = pure [(x, v)])
    (hbody : body = .BinOp (.Name a pa) .BitXor (.Name b pb) bp) (hab : (a = gx ∧ b = x) ∨ (a = x ∧ b = gx)) (hgi : X.N[gi]? = some gx)
    (hs : starEach [e] X.env = (false, eval e X.env) :: starEach [] X.env := by rfl)
    (h1 : backTo pos (starEach [e] X.env) = (false, eval e X.env) :: backTo pos (starEach [] X.env) := by rfl) (hpl : (backTo pos (starEach [e] X.env)).any (·.1) = false := by rfl) :
    PE X (.Call (.Name "sorted" p) [e] [⟨some "key", .Lambda params body scope lp, kp⟩] pos) (tSortX X.K P gi te) := by
  refine ⟨fun pins s σ H Q I h => ?_⟩
  refine wpAny_Call_Name_kw (ld_blt I hg hm rfl ?_)
  refine PyProof.Rows.callWith_kw (thn ((pa_cons he pa_nil hs).run pos pins s σ H (fun vs H1 => match vs with
    | [x] => RSx X.K P gi σ Q x H1
    | _ => False) I h) fun us s1 ⟨vs, H1, I1, r1, q1⟩ => ?_) h1 hpl rfl rfl
  match vs, r1, q1 with
  | [v], r1, ⟨la, ns, g, ev, hS, hσ, hT, q⟩ =>
    subst ev
    obtain rfl := Vals.ref1 r1
    have hfree : ∀ y ∈ scope.names, y.2 = .free → ∃ c, X.env.cells.lookup y.1 = some c := fun y hy e => (L.frs y hy e).elim (fun z => I1.ok.has _ (.inl z)) fun z => I1.ok.has _ (.inr z)
    show wpAny _ _ (evalAll ((do let v ← eval (.Lambda params body scope lp) X.env; standAt pos; pure v) :: [])) _ _ s1
    refine wpAny_evalAll_cons (wpAny_bind (lam_make I1 TB hcode hn hT hdef hfree fun f c' pm ctv H2 s2 I2 ex2 ho hcr => wpAny_bind (wpAny_standAt (wpAny_pure (wpAny_evalAll_nil ?_)))))
    show wpAny _ _ (call (.builtin "sorted") [.ref la] [(Str.ofString "key", .ref f)]) _ _ s2
    obtain ⟨its, rv, hl, hz⟩ := I2.list (ex2.ls hS)
    have ei := eachNat rv
    have hmem : (gx, NameKind.free) ∈ scope.names := PySem.mem_of_lookup L.free
    obtain ⟨m, hns, hl2⟩ := I2.loc
    have hv := L.frs _ hmem rfl
    obtain ⟨u, ru, lk⟩ := hl2 gi gx (nV g) hgi hσ (hv.elim (fun z => .inr (.inl z)) fun z => .inr (.inr z))
    obtain ⟨tg, rfl⟩ := ru
    obtain ⟨cg, hcg, hcell⟩ : ∃ cg, X.env.cells.lookup gx = some cg ∧ s2.heap.IsCell cg (some (.int g tg)) := by
      rcases lk with ⟨z, _⟩ | ⟨_, c, e1, e2⟩
      · have z : X.env.scope.names.lookup gx = some .local := z
        rcases hv with k | k <;> rw [show X.env.scope.names.lookup gx = _ from k] at z <;> cases z
      · exact ⟨c, e1, e2⟩
    have hclo := clo_has hfree hmem hcg
    refine PySem.W.sorted_key_data (b := false) (R := fun (v : Value) (n : Nat) => ∃ t, v = .int n t) (fun n : Nat => .int ((g ^^^ n : Nat) : Int)) hl.isList ei (PySem.W.AllAlike.of fun _ _ => by simp [PySem.W.alike]) (PySem.W.Sortable.others fun _ => ⟨by simp, by simp⟩) (by rw [List.length_map] at hz; exact hz)
      (fun n _ => by have := hr.un; simp only [PyData.depth]; omega) (ksk_s1 _ _) (fun _ => ksk_l1 _ _) (fun _ => ksk_t1 _ _) (fun v n ⟨t, hv⟩ _ h tk kp => ?_) fun out c h' tk kp fresh hD hlen eo => ?_
    · subst hv
      refine lam_call (tg := tg) (s := { s2 with heap := h, toks := tk }) (kp _ _ ho) ?_ (I2.nolimit.keeps kp) hr.depth L.kind L.co L.gen L.nocell L.loc L.free (hb _ _ _ _ _) hbody hab hclo ?_ L.dx L.dg L.cd
      · obtain ⟨c2, oc, vs, t, e2, hoc, hd, hv⟩ := hcr
        exact ⟨c2, oc, vs, t, e2, kp _ _ hoc, hd, hv⟩
      · obtain ⟨o, z1, z2⟩ := hcell
        exact ⟨o, kp _ _ z1, z2⟩
    · rw [PySem.W.dataLe_int (fun n : Nat => ((g ^^^ n : Nat) : Int))] at eo
      have e3 : (fun a b : Nat => decide (((g ^^^ a : Nat) : Int) ≤ ((g ^^^ b : Nat) : Int))) = fun a b => decide (g ^^^ a ≤ g ^^^ b) := by
        funext a b; exact decide_eq_decide.mpr Int.ofNat_le
      rw [e3] at eo
      have rv2 := natVals eo
      have nP : H2 (s2.heap.objs.size + 1) = none := I2.hok.fresh (Nat.le_succ _)
      refine ⟨.ref _, upd H2 (s2.heap.objs.size + 1) (.lst ((sortX g ns).map nV)), I2.laid (t' := tk) kp (Nat.le_succ _) ⟨?_, _, c, rv2, hD⟩, rfl, q _ _ (ex2.back _ nP) (ex2.newT nP) upd_same⟩
      rw [List.length_map] at hz ⊢
      unfold sortX
      rw [List.length_mergeSort]
      exact hz
end Nn
/-! the laws' helpers: mixed numbers, sizes, names near one another -/
namespace Nn
open PySem L2
section
variable {P : Program} {w : World} {K : PySem.W.Frag} {mg : Str → Option Value} {base : Heap} {H : Hp} {Q : VK} {E : XK}
def sp_l_mixed (_ : Tx K mg base) : Sp := fun vs H Q E => ∃ (c : Nat) (k : Nat), vs = [.int c, .int k] ∧ (k ≤ 1000) ∧ (∀ r : Nat, r < 2 ^ 31 → Q (.int r) H)
theorem wc_l_mixed {T : Tx K mg base} {c : Nat} {k : Nat} {i0 : Int} {i1 : Int} (e0 : i0 = c) (e1 : i1 = k) (c0 : k ≤ 1000) (h : ∀ r : Nat, r < 2 ^ 31 → Q (.int r) H) : sp_l_mixed T [.int i0, .int i1] H Q E := by
  subst e0 e1
  exact ⟨c, k, rfl, c0, h⟩
theorem ok_l_mixed (T : Tx K mg base) : FnOk P w K mg base CX0 1 T.a_l_mixed T.d_l_mixed ["_law_cell", "_law_k"] (sp_l_mixed T) := by
  refine T.F_l_mixed.okD sc_l_mixed (fun vs H Q E h => ?_) (fun cdv A outer s H vs Q E hr h => ?_)
  · obtain ⟨c, k, rfl, hpre, q⟩ := h; rfl
  · obtain ⟨c, k, rfl, hpre, q⟩ := h
    have hu := hu_of hr
    refine ⟨_, (pss_one (ps_ret (pe_op op_fdivW (pe_op op_mod (pe_op op_add (pe_op op_add (pe_op op_add (pe_op op_mul (pe_op op_mod (pv 0) pe_int) pe_int) (pe_op op_mul (pe_op op_mul pe_int (pv 1)) (pv 1))) (pe_op op_mul pe_int (pv 1))) pe_int) pe_int) pe_int))), ?_⟩
    rw [Nn.st_l_mixed]; try rw [Nn.cxK]
    try rw [Nn.cxW]
    walk_at "wx"
    have h0 : (0 : Int) ≤ ((c : Int) % 2147483629 * 48271 + 69621 * (k : Int) * (k : Int) + 16807 * (k : Int) + 11) % 2147483647 / 7 := Int.ediv_nonneg (Int.emod_nonneg _ (by decide)) (by decide)
    have h1 := Int.emod_lt_of_pos ((c : Int) % 2147483629 * 48271 + 69621 * (k : Int) * (k : Int) + 16807 * (k : Int) + 11) (by decide : (0 : Int) < 2147483647)
    generalize ((c : Int) % 2147483629 * 48271 + 69621 * (k : Int) * (k : Int) + 16807 * (k : Int) + 11) % 2147483647 = z at h0 h1 ⊢
    obtain ⟨r, hr⟩ := Int.eq_ofNat_of_zero_le h0
    rw [hr]
    exact q r (by omega)
def sp_l_wide (_ : Tx K mg base) : Sp := fun vs H Q E => ∃ (c : Nat), vs = [.int c] ∧ (∀ (wd : Nat) H', 1 ≤ wd → wd ≤ 60 → Ex H H' → Q (.int wd) H')
theorem wc_l_wide {T : Tx K mg base} {c : Nat} {i0 : Int} (e0 : i0 = c)  (h : ∀ (wd : Nat) H', 1 ≤ wd → wd ≤ 60 → Ex H H' → Q (.int wd) H') : sp_l_wide T [.int i0] H Q E := by
  subst e0
  exact ⟨c, rfl, h⟩
theorem ok_l_wide (T : Tx K mg base) : FnOk P w K mg base CX0 1 T.a_l_wide T.d_l_wide ["_law_cell"] (sp_l_wide T) := by
  refine T.F_l_wide.okD sc_l_wide (fun vs H Q E h => ?_) (fun cdv A outer s H vs Q E hr h => ?_)
  · obtain ⟨c, rfl, q⟩ := h; rfl
  · obtain ⟨c, rfl, q⟩ := h
    have hu := hu_of hr
    refine ⟨_, (pss_one (ps_ret (pe_ix ix_list (pe_lst (pa_cons (pe_op op_add pe_int (pe_op op_mod (pe_op op_fdivW (pv 0) pe_int) pe_int)) (pa_cons (pe_op op_add pe_int (pe_op op_mod (pe_op op_fdivW (pv 0) pe_int) pe_int)) (pa_cons pe_int (pa_cons (pe_op op_add pe_int (pe_op op_mod (pe_op op_fdivW (pv 0) pe_int) pe_int)) pa_nil))))) (pe_op op_mod (pv 0) pe_int) (fun _ _ => rfl)))), ?_⟩
    rw [Nn.st_l_wide]; try rw [Nn.cxK]
    try rw [Nn.cxW]
    walk_at "wx"
    refine ⟨len_ok rfl, fun p hp => ?_⟩
    have hp1 := upd_same (H := H) (a := p) (o := .lst [V.int (1 + (c : Int) / 4 % 60), V.int (3 + (c : Int) / 4 % 4), V.int 4, V.int (1 + (c : Int) / 4 % 8)])
    have ex := Ex.new (o := .lst [V.int (1 + (c : Int) / 4 % 60), V.int (3 + (c : Int) / 4 % 4), V.int 4, V.int (1 + (c : Int) / 4 % 8)]) hp
    generalize upd H p (.lst [V.int (1 + (c : Int) / 4 % 60), V.int (3 + (c : Int) / 4 % 4), V.int 4, V.int (1 + (c : Int) / 4 % 8)]) = H1 at hp1 ex ⊢
    walk_at "wx"
    have hc : (c : Int) % 4 = 0 ∨ (c : Int) % 4 = 1 ∨ (c : Int) % 4 = 2 ∨ (c : Int) % 4 = 3 := by omega
    have fin : ∀ z : Int, 1 ≤ z → z ≤ 60 → Q (.int z) H1 := fun z h1 h2 => by
      obtain ⟨r, rfl⟩ := Int.eq_ofNat_of_zero_le (by omega : 0 ≤ z)
      exact q r H1 (by omega) (by omega) ex
    rcases hc with e | e | e | e <;> rw [e]
    · exact x_ixL (SqL.of hp1) (by rfl) (fin _ (by omega) (by omega))
    · exact x_ixL (SqL.of hp1) (by rfl) (fin _ (by omega) (by omega))
    · exact x_ixL (SqL.of hp1) (by rfl) (fin _ (by omega) (by omega))
    · exact x_ixL (SqL.of hp1) (by rfl) (fin _ (by omega) (by omega))
def sp_l_near (_ : Tx K mg base) : Sp := fun vs H Q E => ∃ (s : Nat) (wd : Nat) (f : Nat), vs = [.int s, .int wd, .int f] ∧ (wd ≤ 60) ∧ (∀ r : Nat, r < 2 ^ wd → Q (.int r) H)
theorem wc_l_near {T : Tx K mg base} {s : Nat} {wd : Nat} {f : Nat} {i0 : Int} {i1 : Int} {i2 : Int} (e0 : i0 = s) (e1 : i1 = wd) (e2 : i2 = f) (c0 : wd ≤ 60) (h : ∀ r : Nat, r < 2 ^ wd → Q (.int r) H) : sp_l_near T [.int i0, .int i1, .int i2] H Q E := by
  subst e0 e1 e2
  exact ⟨s, wd, f, rfl, c0, h⟩
theorem ok_l_near (T : Tx K mg base) : FnOk P w K mg base CX0 1 T.a_l_near T.d_l_near ["_law_signs", "_law_wide_here", "_law_first"] (sp_l_near T) := by
  refine T.F_l_near.okD sc_l_near (fun vs H Q E h => ?_) (fun cdv A outer s H vs Q E hr h => ?_)
  · obtain ⟨s, wd, f, rfl, hpre, q⟩ := h; rfl
  · obtain ⟨s, wd, f, rfl, hpre, q⟩ := h
    have hu := hu_of hr
    refine ⟨_, (pss_cons (ps_if (pt_cmpR op_eq (pe_op op_mod (pv 0) pe_int) pe_int (nomark _))
      (pss_one (ps_ret (pe_op op_mod (pe_op op_fdivW (pv 0) pe_int) (pe_op op_shl1 pe_int (pv 1)))))
      pss_nil)
      (pss_one (ps_ret (pe_op op_mod (pe_op op_xorN (pv 2) (pe_op op_mod (pe_op op_fdivW (pv 0) pe_int) pe_int)) (pe_op op_shl1 pe_int (pv 1)))))), ?_⟩
    rw [Nn.st_l_near]; try rw [Nn.cxK]
    try rw [Nn.cxW]
    walk_at "wx"
    refine x_ifD (fun _ => ?_) fun _ => ?_
    · walk_at "wx"
      obtain ⟨r, hr1, e⟩ := mod_two_lt (z := (s : Int) / 2) (k := wd)
      rw [e]
      exact q r hr1
    · walk_at "wx"
      obtain ⟨r, hr1, e⟩ := mod_two_lt (z := ((f ^^^ s / 2 % Int.natAbs 16 : Nat) : Int)) (k := wd)
      rw [e]
      exact q r hr1
end
end Nn
/-! the laws of asks: digits, pools of names, names by nearness -/
namespace Nn
open PySem L2
section
variable {P : Program} {w : World} {K : PySem.W.Frag} {mg : Str → Option Value} {base : Heap} {H H' : Hp} {Q : VK} {E : XK}
/-- each once, as they come first -/
def oncesN (l : List Nat) : List Nat := l.foldl (fun a x => if x ∈ a then a else a ++ [x]) []
theorem onces_go : ∀ (l a : List Nat), a.Nodup → (l.foldl (fun a x => if x ∈ a then a else a ++ [x]) a).Nodup ∧ ∀ z, z ∈ l.foldl (fun a x => if x ∈ a then a else a ++ [x]) a ↔ z ∈ a ∨ z ∈ l
  | [], a, nd => ⟨nd, fun z => by simp⟩
  | x :: r, a, nd => by
    rw [List.foldl_cons]
    by_cases hx : x ∈ a
    · rw [if_pos hx]
      obtain ⟨h1, h2⟩ := onces_go r a nd
      refine ⟨h1, fun z => (h2 z).trans ⟨fun q => q.elim .inl fun q => .inr (List.mem_cons_of_mem _ q), fun q => q.elim .inl fun q => (List.mem_cons.mp q).elim (fun e => .inl (by rw [e]; exact hx)) .inr⟩⟩
    · rw [if_neg hx]
      obtain ⟨h1, h2⟩ := onces_go r (a ++ [x]) (nd_snoc nd hx)
      refine ⟨h1, fun z => (h2 z).trans ?_⟩
      rw [List.mem_append, List.mem_singleton, List.mem_cons, or_assoc]
theorem onces_nodup {l : List Nat} : (oncesN l).Nodup := (onces_go l [] List.nodup_nil).1
theorem onces_mem {l : List Nat} {z : Nat} : z ∈ oncesN l ↔ z ∈ l := ((onces_go l [] List.nodup_nil).2 z).trans (by simp)
theorem onces_snoc {l : List Nat} {x : Nat} : oncesN (l ++ [x]) = if x ∈ oncesN l then oncesN l else oncesN l ++ [x] := by
  unfold oncesN; rw [List.foldl_append]; rfl
theorem onces_len {l : List Nat} : (oncesN l).length ≤ l.length := nodup_len onces_nodup fun _ h => onces_mem.mp h
theorem by_onces {g : Nat} {l : List Nat} : sortX g (oncesN l) = byN g l := (sortX_byN onces_nodup).trans (byN_congr fun _ => onces_mem)
def sp_l_by (T : Tx K mg base) : Sp := fun vs H Q _ => ∃ (a : Addr) (g : Nat) (l : List Nat), vs = [.int g, .ref a] ∧ SqL K H a (l.map nV) ∧ l.length ≤ 100000 ∧ NdefX.TabsN (tabsL T) H ∧ ∀ p H', H p = none → Ex H H' → H' p = some (.lst ((byN g l).map nV)) → Q (.ref p) H'
theorem wc_l_by {T : Tx K mg base} {a : Addr} {g : Nat} {l : List Nat} {i : Int} (hi : i = g) (hS : SqL K H a (l.map nV)) (hz : l.length ≤ 100000) (hT : NdefX.TabsN (tabsL T) H) (q : ∀ p H', H p = none → Ex H H' → H' p = some (.lst ((byN g l).map nV)) → Q (.ref p) H') : sp_l_by T [.int i, .ref a] H Q E := by
  subst hi; exact ⟨a, g, l, rfl, hS, hz, hT, q⟩
theorem ok_l_by (T : Tx K mg base) : FnOk P w K mg base CX0 1 T.a_l_by T.d_l_by ["_law_goal", "_law_names"] (sp_l_by T) := by
  refine T.FC_l_by.okC sc_l_by (fun vs H Q E h => ?_) (fun A outer s H vs Q E hr h => ?_)
  · obtain ⟨a, g, l, rfl, _⟩ := h; rfl
  · obtain ⟨a, g, l, rfl, hS, hz, hT, q⟩ := h
    have hu := hu_of hr
    refine ⟨_, (pss_cons (ps_set (i := 2) sc_l_by.nd rfl (Or.inl rfl) (pe_lst pa_nil))
      (pss_cons (ps_for PassesOwn.never rfl (pi_list (pv 1)) (pg_name (i := 3) sc_l_by.nd rfl (Or.inl rfl))
      (pss_one (ps_if (pt_cmpR op_notIn_seq (pv 3) (pv 2) rfl)
      (pss_one (ps_expr (pe_bm PySem.F.plainAttrs_list PySem.F.slot_list_append PySem.F.type_list_append mt_append (pv 2) (pa_cons (pv 3) pa_nil))))
      pss_nil)))
      (pss_one (ps_ret (pe_sortX (gi := 0) (gx := "_law_goal") (x := "_law_name") (a := "_law_goal") (b := "_law_name") (pv 2) T.tb_l_by rfl nm_lam_l_by (by rfl) T.z_sorted hr (lamxor_by (by show lamXorB (defScope s_l_by) _ _ _ = true; decide +kernel)) rfl (fun _ _ _ _ _ _ => rfl) rfl (.inl ⟨rfl, rfl⟩) rfl))))), ?_⟩
    rw [Nn.st_l_by]; try rw [Nn.cxK]
    try rw [Nn.cxW]
    walk_at "wx"
    refine ⟨len_ok rfl, fun p1 hp1 => ?_⟩
    have ex1 := Ex.new (o := .lst []) hp1
    have h1 := upd_same (H := H) (a := p1) (o := .lst [])
    generalize upd H p1 (.lst []) = H1 at ex1 h1 ⊢
    walk_at "wx"
    refine ForW.by walk_list (fun i σ H' => ∃ (v3 : Option V), σ = [some (.int g), some (.ref a), some (.ref p1), v3] ∧ Ex H H' ∧ H' p1 = some (.lst ((oncesN (l.take i)).map nV))) ⟨_, rfl, ex1, h1⟩ (fun i σ H' _ ⟨_, _, e, _⟩ => e.ls hS) ?_ ?_
    · rintro i x σ _ H2 hi ⟨v3, rfl, ex2, h2⟩ ⟨rfl, hx⟩
      rw [List.length_map] at hi
      obtain rfl : x = nV l[i] := by
        rw [List.getElem?_map, List.getElem?_eq_getElem hi] at hx
        exact (Option.some.inj hx).symm
      have et : l.take (i + 1) = l.take i ++ [l[i]] := by rw [List.take_add_one, List.getElem?_eq_getElem hi]; rfl
      have hol : (oncesN (l.take i)).length ≤ 100000 := Nat.le_trans onces_len (by rw [List.length_take]; omega)
      walk_at "wx"
      refine x_ifN (fun hn => ?_) fun hn => ?_
      · walk_at "wx"
        refine ⟨_, rfl, ex2.mut hp1 h2, ?_⟩
        rw [upd_same, et, onces_snoc, if_neg hn, List.map_append]; rfl
      · walk_at "wx"
        refine ⟨_, rfl, ex2, ?_⟩
        rw [et, onces_snoc, if_pos hn]; exact h2
    · rintro σ H2 ⟨v3, rfl, ex2, h2⟩
      rw [List.length_map, List.take_length] at h2
      walk_at "wx"
      rw [e_sortx]
      walk_at "wx"
      refine x_sortx (SqL.of h2) rfl ((Fr.tabs ex2 hT) _ tabm_l_by) fun p3 H3 hp3 ex3 h3 => ?_
      rw [by_onces] at h3
      exact q p3 H3 (ex2.back p3 hp3) (ex2.trans ex3) h3
theorem cdivs {i : Int} {b : Nat} (h0 : 0 < b) (h : b < 2 ^ 60) : CDivW i (b : Int) := wide_div (b := 60) (by omega) (by rw [Int.natAbs_natCast]; exact h) (by decide) (by decide)
theorem sumN : ∀ {l : List Nat}, (l.map fun n : Nat => (n : Int)).sum = ((l.sum : Nat) : Int)
  | [] => rfl
  | x :: r => by rw [List.map_cons, List.sum_cons, sumN (l := r), List.sum_cons]; omega
/-- sum(l[:1]) -/
theorem x_sum1 {a : Addr} {l : List Nat} (hS : SqL K H a (l.map nV)) (h : ∀ p H', H p = none → Ex H H' → Q (.int ((l.take 1).sum : Nat)) H') : rSlL K (.ref a) none (some 1) H fun x H1 => rSum K [x] H1 Q := by
  refine x_slL hS fun p1 hp1 => ?_
  have e1 : cutV (l.map nV) none (some 1) = ((l.take 1).map fun n : Nat => (n : Int)).map V.int := by
    have q : cutV (l.map nV) none (some 1) = (l.map nV).take 1 := cut_take (xs := l.map nV) (k := 1)
    rw [q, ← List.map_take, map_nV]
  rw [e1]
  refine x_sum (SqL.of upd_same) ?_
  rw [sumN]
  exact h p1 _ hp1 (Ex.new hp1)
def sp_l_digits (_ : Tx K mg base) : Sp := fun vs H Q _ => ∃ (c b n : Nat), vs = [.int c, .int b, .int n] ∧ 0 < b ∧ b < 2 ^ 60 ∧ n ≤ 1000 ∧ ∀ (p : Addr) (ds : List Nat) (H' : Hp), H p = none → Ex H H' → H' p = some (.lst (ds.map nV)) → ds.length = n → (∀ d ∈ ds, d < b) → Q (.ref p) H'
theorem wc_l_digits {T : Tx K mg base} {c b n : Nat} {i j k : Int} (hi : i = c) (hj : j = b) (hk : k = n) (h0 : 0 < b) (h1 : b < 2 ^ 60) (h2 : n ≤ 1000) (q : ∀ (p : Addr) (ds : List Nat) (H' : Hp), H p = none → Ex H H' → H' p = some (.lst (ds.map nV)) → ds.length = n → (∀ d ∈ ds, d < b) → Q (.ref p) H') : sp_l_digits T [.int i, .int j, .int k] H Q E := by
  subst hi hj hk; exact ⟨c, b, n, rfl, h0, h1, h2, q⟩
theorem ok_l_digits (T : Tx K mg base) : FnOk P w K mg base CX0 1 T.a_l_digits T.d_l_digits ["_law_cell", "_law_base", "_law_many"] (sp_l_digits T) := by
  refine T.F_l_digits.okD sc_l_digits (fun vs H Q E h => ?_) (fun cdv A outer s H vs Q E hr h => ?_)
  · obtain ⟨c, b, n, rfl, _⟩ := h; rfl
  · obtain ⟨c, b, n, rfl, h0, h1, h2, q⟩ := h
    have hu := hu_of hr
    refine ⟨_, (pss_cons (ps_set (i := 3) sc_l_digits.nd rfl (Or.inl rfl) (pe_lst pa_nil))
      (pss_cons (ps_for PassesOwn.never rfl (pi_range1 rfl T.z_range (pa_cons (pv 2) pa_nil)) (pg_name (i := 4) sc_l_digits.nd rfl (Or.inl rfl))
      (pss_cons (ps_expr (pe_bm PySem.F.plainAttrs_list PySem.F.slot_list_append PySem.F.type_list_append mt_append (pv 3) (pa_cons (pe_op op_mod (pv 0) (pv 1)) pa_nil)))
      (pss_one (ps_set (i := 0) sc_l_digits.nd rfl (Or.inl rfl) (pe_op op_fdivW (pv 0) (pv 1))))))
      (pss_one (ps_ret (pv 3))))), ?_⟩
    rw [Nn.st_l_digits]; try rw [Nn.cxK]
    try rw [Nn.cxW]
    walk_at "wx"
    refine ⟨len_ok rfl, fun p1 hp1 => ?_⟩
    have ex1 := Ex.new (o := .lst []) hp1
    have h11 := upd_same (H := H) (a := p1) (o := .lst [])
    generalize upd H p1 (.lst []) = H1 at ex1 h11 ⊢
    walk_at "wx"
    refine ForW.by walk_rgN (fun i σ H' => ∃ (c' : Nat) (ds : List Nat) (v : Option V), σ = [some (.int c'), some (.int b), some (.int n), some (.ref p1), v] ∧ Ex H H' ∧ H' p1 = some (.lst (ds.map nV)) ∧ ds.length = i ∧ ∀ d ∈ ds, d < b) ⟨c, [], _, rfl, ex1, h11, rfl, by simp⟩ (fun _ _ _ _ _ => trivial) ?_ ?_
    · rintro i _ σ _ H2 hi ⟨c', ds, v, rfl, ex2, h2', hl, hd⟩ ⟨rfl, rfl⟩
      walk_at "wx"
      refine x_i (cdivs h0 h1) ?_
      have e1 : (c' : Int) % (b : Int) = ((c' % b : Nat) : Int) := rfl
      have e2 : (c' : Int) / (b : Int) = ((c' / b : Nat) : Int) := rfl
      rw [e1, e2]
      walk_at "wx"
      refine ⟨_, ds ++ [c' % b], _, rfl, ex2.mut hp1 h2', by rw [upd_same, List.map_append]; rfl, by simp [hl], fun d hdd => ?_⟩
      rcases List.mem_append.mp hdd with z | z
      · exact hd d z
      · rw [List.mem_singleton.mp z]; exact Nat.mod_lt _ h0
    · rintro σ H2 ⟨c', ds, v, rfl, ex2, h2', hl, hd⟩
      walk_at "wx"
      exact q p1 ds H2 hp1 ex2 h2' hl hd
def sp_l_pool (_ : Tx K mg base) : Sp := fun vs H Q _ => ∃ (c wd n : Nat), vs = [.int c, .int wd, .int n] ∧ wd ≤ 60 ∧ n ≤ 900 ∧ ∀ (p : Addr) (pl : List Nat) (H' : Hp), H p = none → Ex H H' → H' p = some (.lst (pl.map nV)) → pl.Nodup → pl.length ≤ n → (0 < n → pl ≠ []) → (∀ x ∈ pl, x < 2 ^ wd) → Q (.ref p) H'
theorem wc_l_pool {T : Tx K mg base} {c wd n : Nat} {i j k : Int} (hi : i = c) (hj : j = wd) (hk : k = n) (h1 : wd ≤ 60) (h2 : n ≤ 900) (q : ∀ (p : Addr) (pl : List Nat) (H' : Hp), H p = none → Ex H H' → H' p = some (.lst (pl.map nV)) → pl.Nodup → pl.length ≤ n → (0 < n → pl ≠ []) → (∀ x ∈ pl, x < 2 ^ wd) → Q (.ref p) H') : sp_l_pool T [.int i, .int j, .int k] H Q E := by
  subst hi hj hk; exact ⟨c, wd, n, rfl, h1, h2, q⟩
theorem ok_l_pool (T : Tx K mg base) : FnOk P w K mg base CX0 2 T.a_l_pool T.d_l_pool ["_law_cell", "_law_wide_here", "_law_many"] (sp_l_pool T) := by
  refine T.F_l_pool.okD sc_l_pool (fun vs H Q E h => ?_) (fun cdv A outer s H vs Q E hr h => ?_)
  · obtain ⟨c, wd, n, rfl, _⟩ := h; rfl
  · obtain ⟨c, wd, n, rfl, h1, h2, q⟩ := h
    have hu := hu_of hr
    refine ⟨_, (pss_cons (ps_set (i := 3) sc_l_pool.nd rfl (Or.inl rfl) (pe_lst pa_nil))
      (pss_cons (ps_set (i := 4) sc_l_pool.nd rfl (Or.inl rfl) (pv 0))
      (pss_cons (ps_for PassesOwn.never rfl (pi_range1 rfl T.z_range (pa_cons (pv 2) pa_nil)) (pg_name (i := 5) sc_l_pool.nd rfl (Or.inl rfl))
      (pss_cons (ps_set (i := 6) sc_l_pool.nd rfl (Or.inl rfl) (pe_call (ok_l_near T) hr rfl T.m_l_near T.F_l_near.kp T.b_l_near .nil pass0 (pa_cons (pv 4) (pa_cons (pv 1) (pa_cons (pe_callB (cr_sum rfl) (by rfl) T.z_sum (by decide +kernel) (pa_cons (pe_slice sl_list (pv 3) po_none (po_some pe_int)) pa_nil)) pa_nil)))))
      (C8.pss_cut (ps_if (pt_cmpR op_eq (pe_op op_mod (pe_op op_fdivW (pv 0) pe_int) pe_int) pe_int (nomark _))
      (pss_one (ps_set (i := 6) sc_l_pool.nd rfl (Or.inl rfl) (pe_call (ok_l_near T) hr rfl T.m_l_near T.F_l_near.kp T.b_l_near .nil pass0 (pa_cons (pe_op op_mul (pe_call (ok_l_mixed T) hr rfl T.m_l_mixed T.F_l_mixed.kp T.b_l_mixed .nil pass0 (pa_cons (pv 4) (pa_cons (pv 5) pa_nil))) (pe_call (ok_l_mixed T) hr rfl T.m_l_mixed T.F_l_mixed.kp T.b_l_mixed .nil pass0 (pa_cons (pv 4) (pa_cons (pe_op op_add (pv 5) pe_int) pa_nil)))) (pa_cons (pv 1) (pa_cons (pe_callB (cr_sum rfl) (by rfl) T.z_sum (by decide +kernel) (pa_cons (pe_slice sl_list (pv 3) po_none (po_some pe_int)) pa_nil)) pa_nil))))))
      pss_nil)
      (pss_cons (ps_if (pt_cmpR op_notIn_seq (pv 6) (pv 3) rfl)
      (pss_one (ps_expr (pe_bm PySem.F.plainAttrs_list PySem.F.slot_list_append PySem.F.type_list_append mt_append (pv 3) (pa_cons (pv 6) pa_nil))))
      pss_nil)
      (pss_one (ps_set (i := 4) sc_l_pool.nd rfl (Or.inl rfl) (pe_op op_fdivW (pv 4) (pe_ix ix_list (pe_lst (pa_cons pe_int (pa_cons pe_int pa_nil))) (pe_op op_mod (pe_op op_fdivW (pv 0) pe_int) pe_int) (fun _ _ => rfl)))))))))
      (pss_one (ps_ret (pv 3)))))), ?_⟩
    rw [Nn.st_l_pool]; try rw [Nn.cxK]
    try rw [Nn.cxW]
    walk_at "wx"
    refine ⟨len_ok rfl, fun p1 hp1 => ?_⟩
    have ex1 := Ex.new (o := .lst []) hp1
    have h11 := upd_same (H := H) (a := p1) (o := .lst [])
    generalize upd H p1 (.lst []) = H1 at ex1 h11 ⊢
    walk_at "wx"
    refine ForW.by walk_rgN (fun i σ H' => ∃ (sg : Nat) (pl : List Nat) (v5 v6 : Option V), σ = [some (.int c), some (.int wd), some (.int n), some (.ref p1), some (.int sg), v5, v6] ∧ Ex H H' ∧ H' p1 = some (.lst (pl.map nV)) ∧ pl.Nodup ∧ pl.length ≤ i ∧ (0 < i → pl ≠ []) ∧ ∀ x ∈ pl, x < 2 ^ wd) ⟨c, [], _, _, rfl, ex1, h11, List.nodup_nil, Nat.le_refl _, fun h => absurd h (Nat.lt_irrefl _), by simp⟩ (fun _ _ _ _ _ => trivial) ?_ ?_
    · rintro i _ σ _ H2 hi ⟨sg, pl, v5, v6, rfl, ex2, h2', nd, hl, hne, hb⟩ ⟨rfl, rfl⟩
      walk_at "wx"
      refine x_sum1 (SqL.of h2') fun p3 H3 hp3 ex3 => ?_
      have h3 := ex3.at h2'
      refine wc_l_near rfl rfl rfl h1 fun nm hnm => ?_
      walk_at "wx"
      refine x_cut (fun σ' H' => ∃ nm : Nat, nm < 2 ^ wd ∧ σ' = [some (.int c), some (.int wd), some (.int n), some (.ref p1), some (.int sg), some (.int i), some (.int nm)] ∧ Ex H2 H') ?_ ?_
      · walk_at "wx"
        refine x_ifD (fun _ => ?_) fun _ => ?_
        · walk_at "wx"
          refine wc_l_mixed rfl rfl (by omega) fun m1 hm1 => ?_
          walk_at "wx"
          refine wc_l_mixed (k := i + 20) rfl (by omega) (by omega) fun m2 hm2 => ?_
          walk_at "wx"
          refine x_sum1 (SqL.of h3) fun p4 H4 hp4 ex4 => ?_
          refine wc_l_near (s := m1 * m2) (by simp) rfl rfl h1 fun nm2 hnm2 => ?_
          walk_at "wx"
          exact ⟨nm2, hnm2, rfl, ex3.trans ex4⟩
        · walk_at "wx"
          exact ⟨nm, hnm, rfl, ex3⟩
      · rintro σ' H4 ⟨nm2, hnm2, rfl, ex4⟩
        have h4 := ex4.at h2'
        have ex04 := ex2.trans ex4
        have hz : (c : Int) / 2 % 2 = 0 ∨ (c : Int) / 2 % 2 = 1 := by omega
        walk_at "wx"
        refine x_ifN (fun hn => ?_) fun hn => ?_
        · walk_at "wx"
          have ex5 := ex04.mut (o := .lst (pl.map nV ++ [nV nm2])) hp1 h4
          have h5 : upd H4 p1 (.lst (pl.map nV ++ [nV nm2])) p1 = some (.lst ((pl ++ [nm2]).map nV)) := by rw [upd_same, List.map_append]; rfl
          generalize upd H4 p1 (.lst (pl.map nV ++ [nV nm2])) = H5 at ex5 h5 ⊢
          refine ⟨len_ok rfl, fun p6 hp6 => ?_⟩
          have h6 := at_new (o := .lst [V.int 32, V.int 1]) hp6 h5
          have ex6 := ex5.newT (o := .lst [V.int 32, V.int 1]) hp6
          have h66 := upd_same (H := H5) (a := p6) (o := .lst [V.int 32, V.int 1])
          generalize upd H5 p6 (.lst [V.int 32, V.int 1]) = H6 at h6 ex6 h66 ⊢
          walk_at "wx"
          rcases hz with e | e <;> rw [e]
          · refine x_ixL (SqL.of h66) (by rfl) ?_
            walk_at "wx"
            exact ⟨sg / 32, pl ++ [nm2], _, _, rfl, ex6, h6, nd_snoc nd hn, by simp; omega, fun _ => by simp, fun x hx => (List.mem_append.mp hx).elim (hb x) fun z => by rw [List.mem_singleton.mp z]; exact hnm2⟩
          · refine x_ixL (SqL.of h66) (by rfl) ?_
            walk_at "wx"
            exact ⟨sg / 1, pl ++ [nm2], _, _, rfl, ex6, h6, nd_snoc nd hn, by simp; omega, fun _ => by simp, fun x hx => (List.mem_append.mp hx).elim (hb x) fun z => by rw [List.mem_singleton.mp z]; exact hnm2⟩
        · have hn : nm2 ∈ pl := hn
          have hne' : pl ≠ [] := fun z => by rw [z] at hn; cases hn
          walk_at "wx"
          refine ⟨len_ok rfl, fun p6 hp6 => ?_⟩
          have h6 := at_new (o := .lst [V.int 32, V.int 1]) hp6 h4
          have ex6 := ex04.newT (o := .lst [V.int 32, V.int 1]) hp6
          have h66 := upd_same (H := H4) (a := p6) (o := .lst [V.int 32, V.int 1])
          generalize upd H4 p6 (.lst [V.int 32, V.int 1]) = H6 at h6 ex6 h66 ⊢
          walk_at "wx"
          rcases hz with e | e <;> rw [e]
          · refine x_ixL (SqL.of h66) (by rfl) ?_
            walk_at "wx"
            exact ⟨sg / 32, pl, _, _, rfl, ex6, h6, nd, by omega, fun _ => hne', hb⟩
          · refine x_ixL (SqL.of h66) (by rfl) ?_
            walk_at "wx"
            exact ⟨sg / 1, pl, _, _, rfl, ex6, h6, nd, by omega, fun _ => hne', hb⟩
    · rintro σ H2 ⟨sg, pl, v5, v6, rfl, ex2, h2', nd, hl, hne, hb⟩
      walk_at "wx"
      exact q p1 pl H2 hp1 ex2 h2' nd hl hne hb
end
end Nn
/-! dicts of names (where no town is); a name or none -/
namespace Nn
open PySem L2
/-- a dict of names -/
def dOf (hs : List Nat) (f : Nat → V) : List (Key × V) := hs.map fun h => (nK h, f h)
theorem dOf_val {f : Nat → V} {n : Nat} : ∀ {hs : List Nat}, valV (dOf hs f) (nK n) = if n ∈ hs then some (f n) else none
  | [] => rfl
  | k :: r => by
    show valV ((nK k, f k) :: dOf r f) (nK n) = _
    by_cases e : k = n
    · rw [valV_pos (by rw [e]), e, if_pos (by simp)]
    · rw [valV_neg (by intro z; exact e (nK_inj z)), dOf_val]
      simp [Ne.symm e]
theorem dOf_has {f : Nat → V} {n : Nat} {hs : List Nat} : (valV (dOf hs f) (nK n)).isSome = decide (n ∈ hs) := by
  rw [dOf_val]
  by_cases h : n ∈ hs
  · rw [if_pos h, decide_eq_true h]; rfl
  · rw [if_neg h, decide_eq_false h]; rfl
theorem dOf_keys {f : Nat → V} {hs : List Nat} : (dOf hs f).map (·.1) = (hs.map fun n : Nat => (n : Int)).map Sum.inl := by
  unfold dOf; rw [List.map_map, List.map_map]; rfl
theorem dOf_len {f : Nat → V} {hs : List Nat} : (dOf hs f).length = hs.length := by unfold dOf; rw [List.length_map]
theorem dOf_new {f : Nat → V} {hs : List Nat} {n : Nat} (h : n ∉ hs) : putK (dOf hs f) (nK n) (f n) = dOf (hs ++ [n]) f := by
  rw [putK_new _ (by rw [dOf_val, if_neg h])]
  unfold dOf; rw [List.map_append]; rfl
theorem dOf_put {f : Nat → V} {hs : List Nat} {n : Nat} (h : n ∈ hs) : putK (dOf hs f) (nK n) (f n) = dOf hs f := by
  unfold putK
  rw [if_pos (by rw [valV_any, dOf_val, if_pos h]; rfl)]
  unfold dOf
  rw [List.map_map]
  refine List.map_congr_left fun k _ => ?_
  show (if nK k = nK n then (nK k, f n) else (nK k, f k)) = _
  by_cases q : k = n
  · rw [if_pos (by rw [q]), q]
  · rw [if_neg fun z => q (nK_inj z)]
theorem dOf_upd {hs : List Nat} {f : Nat → V} {n : Nat} {v : V} : putK (dOf hs f) (nK n) v = dOf (if n ∈ hs then hs else hs ++ [n]) fun k => if k = n then v else f k := by
  by_cases h : n ∈ hs
  · rw [if_pos h]
    unfold putK
    rw [if_pos (by rw [valV_any, dOf_val, if_pos h]; rfl)]
    unfold dOf
    rw [List.map_map]
    refine List.map_congr_left fun k _ => ?_
    show (if nK k = nK n then (nK k, v) else (nK k, f k)) = (nK k, if k = n then v else f k)
    by_cases q : k = n
    · rw [if_pos (by rw [q]), if_pos q]
    · rw [if_neg fun z => q (nK_inj z), if_neg q]
  · rw [if_neg h, putK_new _ (by rw [dOf_val, if_neg h])]
    unfold dOf
    rw [List.map_append]
    congr 1
    · refine List.map_congr_left fun k hk => ?_
      show (nK k, f k) = (nK k, if k = n then v else f k)
      rw [if_neg fun z => h (by rw [← z]; exact hk)]
    · simp
theorem dOf_congr {hs : List Nat} {f g : Nat → V} (h : ∀ x ∈ hs, f x = g x) : dOf hs f = dOf hs g := List.map_congr_left fun x hx => by rw [h x hx]
def oN : Option Nat → V
  | none => .non
  | some n => nV n
end Nn
/-! asks and ways, plainly -/
namespace Nn
abbrev Tell := Nat → Nat → Nat → Option (List Nat)
/-- the so many nearest of what was seen and not found silent -/
def standN (g room : Nat) (seen quiet : List Nat) : List Nat := (byN g (seen.filter fun x => !decide (x ∈ quiet))).take room
structure AskSt where
  row : List (Nat × Option (List Nat))
  seen : List Nat
  quiet : List Nat
namespace AskSt
def done (s : AskSt) : List Nat := s.row.map (·.1)
def left (g room : Nat) (s : AskSt) : List Nat := (standN g room s.seen s.quiet).filter fun x => !decide (x ∈ s.done)
def add (start h : Nat) (s : AskSt) : Option (List Nat) → AskSt
  | none => ⟨s.row ++ [(h, none)], s.seen, s.quiet ++ [h]⟩
  | some l => ⟨s.row ++ [(h, some l)], s.seen ++ l.filter fun x => !decide (x = start), s.quiet⟩
def first (t : Nat → Option (List Nat)) (start : Nat) : AskSt := ⟨[(start, t start)], ((t start).getD []).filter fun x => !decide (x = start), []⟩
def nextOf (t : Nat → Option (List Nat)) (start : Nat) (s : AskSt) : List Nat → AskSt
  | [] => s
  | h :: _ => s.add start h (t h)
/-- so many asked behind the start -/
def run (t : Nat → Option (List Nat)) (start g room : Nat) : Nat → AskSt
  | 0 => first t start
  | k + 1 => nextOf t start (run t start g room k) ((run t start g room k).left g room)
structure Ok (t : Nat → Option (List Nat)) (start : Nat) (N : List Nat) (s : AskSt) : Prop where
  nd : s.done.Nodup
  dn : ∀ x ∈ s.done, x = start ∨ x ∈ N
  st : start ∈ s.done
  sn : ∀ x ∈ s.seen, x ∈ N ∧ x ≠ start
  qd : ∀ x, x ∈ s.quiet ↔ x ∈ s.done ∧ t x = none
  ql : s.quiet.length ≤ s.row.length
  sl : s.seen.length ≤ 100 * s.row.length
  rt : ∀ e ∈ s.row, e.2 = t e.1
  sd : ∀ x ∈ s.done, x = start ∨ x ∈ s.seen
  hd : s.row.head? = some (start, t start)
  tl : ∀ y ∈ s.done, ∀ l, t y = some l → ∀ x ∈ l, x = start ∨ x ∈ s.seen
  sf : ∀ x ∈ s.seen, ∃ y ∈ s.done, ∃ l, t y = some l ∧ x ∈ l
variable {t : Nat → Option (List Nat)} {start g room h : Nat} {N : List Nat} {s : AskSt}
theorem mem_stand {x : Nat} {seen quiet : List Nat} (hx : x ∈ standN g room seen quiet) : x ∈ seen ∧ x ∉ quiet := by
  have q := List.mem_filter.mp (mem_byN.mp (List.mem_of_mem_take hx))
  exact ⟨q.1, by simpa using q.2⟩
theorem mem_left {x : Nat} (hx : x ∈ s.left g room) : x ∈ s.seen ∧ x ∉ s.quiet ∧ x ∉ s.done := by
  have q := List.mem_filter.mp hx
  obtain ⟨a, b⟩ := mem_stand q.1
  exact ⟨a, b, by simpa using q.2⟩
theorem Ok.len (k : s.Ok t start N) : s.row.length ≤ N.length + 1 := by
  have q := nodup_len k.nd (b := start :: N) fun x hx => (k.dn x hx).elim (fun e => by rw [e]; simp) fun e => List.mem_cons_of_mem _ e
  unfold done at q
  rw [List.length_map, List.length_cons] at q
  exact q
theorem nd_snoc' {n : Nat} {xs : List Nat} (h : xs.Nodup) (hn : n ∉ xs) : (xs ++ [n]).Nodup := List.nodup_append.mpr ⟨h, by simp, fun a ha b hb e => hn (by rw [← List.mem_singleton.mp hb, ← e]; exact ha)⟩
theorem add_done {o : Option (List Nat)} : (s.add start h o).done = s.done ++ [h] := by
  cases o <;> simp [add, done]
theorem Ok.first (h0 : t start ≠ none) (hl : ∀ h l, t h = some l → l.length ≤ 100 ∧ ∀ x ∈ l, x ∈ N) : (AskSt.first t start).Ok t start N := by
  obtain ⟨l, e⟩ : ∃ l, t start = some l := by
    cases h : t start with
    | none => exact absurd h h0
    | some l => exact ⟨l, rfl⟩
  obtain ⟨q1, q2⟩ := hl _ _ e
  unfold AskSt.first
  rw [e]
  have hsub : ∀ x ∈ l.filter (fun x => !decide (x = start)), x ∈ l ∧ x ≠ start := fun x hx => by
    have q := List.mem_filter.mp hx
    exact ⟨q.1, by simpa using q.2⟩
  refine ⟨by simp [done], by simp [done], by simp [done], fun x hx => ⟨q2 x (hsub x hx).1, (hsub x hx).2⟩, fun x => ?_, by simp, ?_, by simp [e], by simp [done], by simp [e], fun y hy l' e' x hx => ?_, fun x hx => ⟨start, by simp [done], l, e, (hsub x hx).1⟩⟩
  · constructor
    · intro z; cases z
    · rintro ⟨z, z2⟩
      rw [done, List.map_cons, List.map_nil, List.mem_singleton] at z
      rw [z] at z2
      exact absurd z2 h0
  · show (l.filter _).length ≤ 100 * 1
    exact Nat.le_trans (List.length_filter_le _ _) (by omega)
  · simp [done] at hy
    subst hy
    rw [e] at e'
    cases e'
    by_cases z : x = y
    · exact .inl z
    · exact .inr (List.mem_filter.mpr ⟨hx, by simp [z]⟩)
theorem Ok.add (k : s.Ok t start N) (hl : ∀ h l, t h = some l → l.length ≤ 100 ∧ ∀ x ∈ l, x ∈ N) (hh : h ∈ s.left g room) : (s.add start h (t h)).Ok t start N := by
  obtain ⟨h1, h2, h3⟩ := mem_left hh
  have nd : (s.add start h (t h)).done.Nodup := by rw [add_done]; exact nd_snoc' k.nd h3
  have dn : ∀ x ∈ (s.add start h (t h)).done, x = start ∨ x ∈ N := fun x hx => by
    rw [add_done] at hx
    rcases List.mem_append.mp hx with z | z
    · exact k.dn x z
    · rw [List.mem_singleton.mp z]; exact .inr (k.sn h h1).1
  have st : start ∈ (s.add start h (t h)).done := by rw [add_done]; exact List.mem_append.mpr (.inl k.st)
  have hne : s.row ≠ [] := fun z => by
    have q := k.st
    unfold done at q
    rw [z] at q; cases q
  have hdd : ∀ o, (s.add start h o).row.head? = some (start, t start) := fun o => by
    have e : (s.add start h o).row = s.row ++ [(h, o)] := by cases o <;> rfl
    rw [e, ← k.hd]
    cases hr : s.row with
    | nil => exact absurd hr hne
    | cons a b => rfl
  have mdn : ∀ o x, x ∈ (s.add start h o).done ↔ x ∈ s.done ∨ x = h := fun o x => by rw [add_done, List.mem_append, List.mem_singleton]
  cases e : t h with
  | none =>
    rw [e] at nd dn st
    refine ⟨nd, dn, st, k.sn, fun x => ?_, ?_, ?_, fun y hy => ?_, fun x hx => ?_, hdd _, fun y hy l' e' x hx => ?_, fun x hx => ?_⟩
    · rw [mdn]
      show x ∈ s.quiet ++ [h] ↔ _
      rw [List.mem_append, List.mem_singleton, k.qd]
      constructor
      · rintro (z | z)
        · exact ⟨.inl z.1, z.2⟩
        · exact ⟨.inr z, by rw [z]; exact e⟩
      · rintro ⟨z | z, z2⟩
        · exact .inl ⟨z, z2⟩
        · exact .inr z
    · show (s.quiet ++ [h]).length ≤ (s.row ++ [(h, none)]).length
      have := k.ql
      simp only [List.length_append, List.length_cons, List.length_nil]; omega
    · show s.seen.length ≤ 100 * (s.row ++ [(h, none)]).length
      have := k.sl
      simp only [List.length_append, List.length_cons, List.length_nil]; omega
    · rcases List.mem_append.mp hy with z | z
      · exact k.rt y z
      · rw [List.mem_singleton.mp z]; exact e.symm
    · rcases (mdn _ x).mp hx with z | z
      · exact k.sd x z
      · rw [z]; exact .inr h1
    · rcases (mdn _ y).mp hy with z | z
      · exact k.tl y z l' e' x hx
      · rw [z, e] at e'; cases e'
    · obtain ⟨y, hy, q⟩ := k.sf x hx
      exact ⟨y, (mdn _ y).mpr (.inl hy), q⟩
  | some l =>
    rw [e] at nd dn st
    obtain ⟨q1, q2⟩ := hl _ _ e
    have hsub : ∀ x ∈ l.filter (fun x => !decide (x = start)), x ∈ l ∧ x ≠ start := fun x hx => by
      have q := List.mem_filter.mp hx
      exact ⟨q.1, by simpa using q.2⟩
    refine ⟨nd, dn, st, fun x hx => ?_, fun x => ?_, ?_, ?_, fun y hy => ?_, fun x hx => ?_, hdd _, fun y hy l' e' x hx => ?_, fun x hx => ?_⟩
    · rcases List.mem_append.mp hx with z | z
      · exact k.sn x z
      · exact ⟨q2 x (hsub x z).1, (hsub x z).2⟩
    · rw [mdn]
      show x ∈ s.quiet ↔ _
      rw [k.qd]
      constructor
      · rintro ⟨a, b⟩; exact ⟨.inl a, b⟩
      · rintro ⟨z | z, z2⟩
        · exact ⟨z, z2⟩
        · rw [z, e] at z2; cases z2
    · show s.quiet.length ≤ (s.row ++ [(h, some l)]).length
      have := k.ql
      simp only [List.length_append, List.length_cons, List.length_nil]; omega
    · show (s.seen ++ l.filter _).length ≤ 100 * (s.row ++ [(h, some l)]).length
      have := k.sl
      have := List.length_filter_le (fun x => !decide (x = start)) l
      simp only [List.length_append, List.length_cons, List.length_nil]; omega
    · rcases List.mem_append.mp hy with z | z
      · exact k.rt y z
      · rw [List.mem_singleton.mp z]; exact e.symm
    · rcases (mdn _ x).mp hx with z | z
      · exact (k.sd x z).imp id fun z => List.mem_append.mpr (.inl z)
      · rw [z]; exact .inr (List.mem_append.mpr (.inl h1))
    · rcases (mdn _ y).mp hy with z | z
      · exact (k.tl y z l' e' x hx).imp id fun z => List.mem_append.mpr (.inl z)
      · rw [z, e] at e'; cases e'
        by_cases z : x = start
        · exact .inl z
        · exact .inr (List.mem_append.mpr (.inr (List.mem_filter.mpr ⟨hx, by simp [z]⟩)))
    · rcases List.mem_append.mp hx with z | z
      · obtain ⟨y, hy, q⟩ := k.sf x z
        exact ⟨y, (mdn _ y).mpr (.inl hy), q⟩
      · exact ⟨h, (mdn _ h).mpr (.inr rfl), l, e, (hsub x z).1⟩
theorem run_ok {g room : Nat} (h0 : t start ≠ none) (hl : ∀ h l, t h = some l → l.length ≤ 100 ∧ ∀ x ∈ l, x ∈ N) : ∀ k, (run t start g room k).Ok t start N
  | 0 => Ok.first h0 hl
  | k + 1 => by
    have ih := run_ok (g := g) (room := room) h0 hl k
    show (nextOf t start (run t start g room k) ((run t start g room k).left g room)).Ok t start N
    cases e : (run t start g room k).left g room with
    | nil => exact ih
    | cons x r => exact ih.add (g := g) (room := room) hl (by rw [e]; simp)
theorem run_next {k : Nat} {x : Nat} {r : List Nat} (h : (run t start g room k).left g room = x :: r) : run t start g room (k + 1) = (run t start g room k).add start x (t x) := by
  show nextOf t start (run t start g room k) ((run t start g room k).left g room) = _
  rw [h]; rfl
theorem run_end {k : Nat} (h : (run t start g room k).left g room = []) : ∀ j, run t start g room (k + j) = run t start g room k
  | 0 => rfl
  | j + 1 => by
    have ih := run_end h j
    show nextOf t start (run t start g room (k + j)) ((run t start g room (k + j)).left g room) = _
    rw [ih, h]; rfl
end AskSt
/-- the end of an ask -/
@[irreducible] def askEnd (t : Nat → Option (List Nat)) (start g room : Nat) : AskSt := AskSt.run t start g room 64
theorem askEnd_eq {t : Nat → Option (List Nat)} {start g room k : Nat} (hk : k ≤ 64) (h : (AskSt.run t start g room k).left g room = []) : askEnd t start g room = AskSt.run t start g room k := by
  obtain ⟨j, e⟩ : ∃ j, 64 = k + j := ⟨64 - k, by omega⟩
  unfold askEnd
  rw [e]
  exact AskSt.run_end h j
theorem askEnd_ok {t : Nat → Option (List Nat)} {start g room : Nat} {N : List Nat} (h0 : t start ≠ none) (hl : ∀ h l, t h = some l → l.length ≤ 100 ∧ ∀ x ∈ l, x ∈ N) : (askEnd t start g room).Ok t start N := by
  unfold askEnd
  exact AskSt.run_ok h0 hl 64
def askFound (t : Nat → Option (List Nat)) (start g room : Nat) : List Nat := standN g room (askEnd t start g room).seen (askEnd t start g room).quiet
theorem AskSt.run_len {t : Nat → Option (List Nat)} {start g room : Nat} : ∀ {k : Nat}, (AskSt.run t start g room k).left g room ≠ [] → (AskSt.run t start g room k).row.length = k + 1
  | 0, _ => rfl
  | k + 1, h => by
    cases e : (AskSt.run t start g room k).left g room with
    | nil =>
      have q := AskSt.run_end e 1
      rw [q] at h
      exact absurd e h
    | cons x r =>
      have ih := AskSt.run_len (k := k) (by rw [e]; simp)
      rw [AskSt.run_next e]
      have z : ∀ o, ((AskSt.run t start g room k).add start x o).row.length = (AskSt.run t start g room k).row.length + 1 := fun o => by cases o <;> simp [AskSt.add]
      rw [z, ih]
theorem askEnd_left {t : Nat → Option (List Nat)} {start g room : Nat} {N : List Nat} (h0 : t start ≠ none) (hl : ∀ h l, t h = some l → l.length ≤ 100 ∧ ∀ x ∈ l, x ∈ N) (hN : N.length < 64) : (askEnd t start g room).left g room = [] := by
  refine Classical.byContradiction fun z => ?_
  unfold askEnd at z
  have q := AskSt.run_len (k := 64) z
  have := (AskSt.run_ok (start := start) (g := g) (room := room) h0 hl 64).len
  omega
/-! ways -/
def onwN (t : Tell) (x g : Nat) : Option Nat := (byN g ((t x g x).getD [])).find? fun n => (t n g x).isSome
def upTo (p : Nat → Bool) : List Nat → List Nat
  | [] => []
  | x :: r => if p x = true then [x] else x :: upTo p r
def onwC (t : Tell) (x g : Nat) : List (Nat × Nat × Nat) := (x, g, x) :: (upTo (fun n => (t n g x).isSome) (byN g ((t x g x).getD []))).map fun n => (n, g, x)
theorem upTo_hit {p : Nat → Bool} : ∀ {l : List Nat} {i : Nat} (hi : i < l.length), (∀ x ∈ l.take i, p x = false) → p l[i] = true → upTo p l = l.take (i + 1) ∧ l.find? p = some l[i]
  | [], i, hi, _, _ => absurd hi (Nat.not_lt_zero _)
  | x :: r, 0, _, _, h => by
    have h : p x = true := h
    refine ⟨?_, ?_⟩
    · unfold upTo; rw [if_pos h]; rfl
    · rw [List.find?_cons_of_pos h]; rfl
  | x :: r, i + 1, hi, h0, h => by
    have hx : p x = false := h0 x (by simp)
    have hi' : i < r.length := by simpa using hi
    obtain ⟨a, b⟩ := upTo_hit (l := r) (i := i) hi' (fun y hy => h0 y (by simp [hy])) h
    refine ⟨?_, ?_⟩
    · unfold upTo; rw [if_neg (by simp [hx]), a]; rfl
    · rw [List.find?_cons_of_neg (by simp [hx]), b]; rfl
theorem upTo_no {p : Nat → Bool} : ∀ {l : List Nat}, (∀ x ∈ l, p x = false) → upTo p l = l ∧ l.find? p = none
  | [], _ => ⟨rfl, rfl⟩
  | x :: r, h => by
    have hx : p x = false := h x (by simp)
    obtain ⟨a, b⟩ := upTo_no (l := r) fun y hy => h y (by simp [hy])
    exact ⟨by unfold upTo; rw [if_neg (by simp [hx]), a], by rw [List.find?_cons_of_neg (by simp [hx]), b]⟩
def wayN (t : Tell) (g x : Nat) : List Nat :=
  match onwN t x g with
  | none => [x]
  | some y => if g ^^^ y < g ^^^ x then x :: wayN t g y else [x]
termination_by g ^^^ x
def wayC (t : Tell) (g x : Nat) : List (Nat × Nat × Nat) := (wayN t g x).flatMap fun y => onwC t y g
theorem wayN_none {t : Tell} {g x : Nat} (h : onwN t x g = none) : wayN t g x = [x] := by
  rw [wayN, h]
theorem wayN_far {t : Tell} {g x y : Nat} (h : onwN t x g = some y) (h2 : ¬ g ^^^ y < g ^^^ x) : wayN t g x = [x] := by
  rw [wayN, h]
  simp only [if_neg h2]
theorem wayN_on {t : Tell} {g x y : Nat} (h : onwN t x g = some y) (h2 : g ^^^ y < g ^^^ x) : wayN t g x = x :: wayN t g y := by
  rw [wayN, h]
  simp only [if_pos h2]
theorem onwN_mem {t : Tell} {x g y : Nat} (h : onwN t x g = some y) : (∃ l, t x g x = some l ∧ y ∈ l) ∧ (t y g x).isSome = true := by
  unfold onwN at h
  have h1 := List.mem_of_find?_eq_some h
  have h2 := List.find?_some h
  refine ⟨?_, h2⟩
  have h1 := mem_byN.mp h1
  cases e : t x g x with
  | none => rw [e] at h1; cases h1
  | some l => rw [e] at h1; exact ⟨l, rfl, h1⟩
end Nn
/-! functions that tell what houses tell; ways by them -/
namespace Nn
open PySem L2
section
variable {P : Program} {w : World} {K : PySem.W.Frag} {mg : Str → Option Value} {base : Heap} {H H' : Hp} {Q : VK} {E : XK}
/-- a function's words and promise -/
structure Tel (P : Program) (w : World) (K : PySem.W.Frag) (mg : Str → Option Value) (base : Heap) where
  st : Stmt
  name : Str
  qual : Str
  ps : List Str
  fr : List Str
  sp : List (Option V) → Sp
  ok : ∀ (cl : List (Str × Addr)) (cd f : Addr), NdefX.NOk P w K mg base CX0 2 f (NdefX.NF.of st name qual cl cd) ps fr sp
def AnsV (K : PySem.W.Frag) (H : Hp) (v : V) : Option (List Nat) → Prop
  | none => v = .non
  | some l => ∃ p, v = .ref p ∧ SqL K H p (l.map nV)
theorem AnsV.ex {v : V} {o : Option (List Nat)} (e : Ex H H') (a : AnsV K H v o) : AnsV K H' v o := by
  cases o with
  | none => exact a
  | some l => obtain ⟨p, h1, h2⟩ := a; exact ⟨p, h1, e.ls h2⟩
/-- the function f stands, and tells -/
structure TelAt (Z : Tel P w K mg base) (cl : List (Str × Addr)) (ws : List (Option V)) (f : Addr) where
  cd : Addr
  I : Hp → List (Nat × Nat × Nat) → Prop
  FF : Addr → Prop
  S : Addr → Prop
  tell : Tell
  N : List Nat
  fn : ∀ {H : Hp} {cs : List (Nat × Nat × Nat)}, I H cs → H f = some (NdefX.FnO f (NdefX.NF.of Z.st Z.name Z.qual cl cd)) ∧ H cd = some (LamX.CodeO cd (NdefX.NF.of Z.st Z.name Z.qual cl cd).qual)
  fr : ∀ {H H' : Hp} {R : Addr → Prop} {cs : List (Nat × Nat × Nat)}, I H cs → Fr R H H' → (∀ a, R a → ¬ FF a ∧ ∃ xs, H a = some (.lst xs)) → I H' cs
  sub : ∀ a, S a → FF a
  live : ∀ {H : Hp} {cs : List (Nat × Nat × Nat)} {a : Addr}, I H cs → FF a → H a ≠ none
  nl : N.length < 63
  tl : ∀ h g a l, tell h g a = some l → l.length ≤ 100 ∧ ∀ x ∈ l, x ∈ N
  sil : ∀ h g a g' a', (tell h g a).isSome = (tell h g' a').isSome
  say : ∀ {H : Hp} {cs : List (Nat × Nat × Nat)} {h g a : Nat} {Q : VK} {E : XK}, I H cs → cs.length ≤ 1000000 → (h ∈ N ∨ tell h g a ≠ none) → (∀ v H', Fr S H H' → I H' (cs ++ [(h, g, a)]) → AnsV K H' v (tell h g a) → Q v H') → Z.sp ws [.int h, .int g, .int a] H Q E
variable {Z : Tel P w K mg base} {cl : List (Str × Addr)} {ws : List (Option V)} {f : Addr}
theorem TelAt.exI (t : TelAt Z cl ws f) {cs : List (Nat × Nat × Nat)} (h : t.I H cs) (e : Ex H H') : t.I H' cs := t.fr h e fun _ z => z.elim
theorem TelAt.mut (t : TelAt Z cl ws f) {cs : List (Nat × Nat × Nat)} {a : Addr} {xs : List V} {o : HO} (h : t.I H cs) (ha : H a = some (.lst xs)) (n : ¬ t.FF a) : t.I (upd H a o) cs :=
  t.fr h (Fr.upd1 (o := o) ha) fun b z => by rw [z]; exact ⟨n, xs, ha⟩
theorem Fr.mut {S : Addr → Prop} {H H' : Hp} {p : Addr} {o u : HO} (e : Fr S H H') (h : H p = none) (h' : H' p = some u) (hu : NX u := by trivial) : Fr S H (upd H' p o) :=
  have b := Fr.upd1 (o := o) h' hu
  ⟨fun x o1 e1 n s => b.keep x o1 (e.keep x o1 e1 n s) n fun z => (by rw [z, h] at e1; cases e1), fun P t => b.tab P (e.tab P t), fun x e1 => e.back x (b.back x e1)⟩
/-- what is new to H0 is none of the function's own -/
theorem TelAt.new (t : TelAt Z cl ws f) {cs : List (Nat × Nat × Nat)} {a : Addr} (h : t.I H cs) (n : H a = none) : ¬ t.FF a := fun z => t.live h z n
theorem byN_lt {N l : List Nat} {g : Nat} (hl : ∀ x ∈ l, x ∈ N) (hN : N.length < 63) : (byN g l).length < 64 :=
  Nat.lt_of_le_of_lt (nodup_len (byN_nodup g l) fun x hx => hl x (mem_byN.mp hx)) (by omega)
theorem upTo_len {p : Nat → Bool} : ∀ {l : List Nat}, (upTo p l).length ≤ l.length
  | [] => Nat.le_refl _
  | x :: r => by
    unfold upTo
    split
    · simp
    · have := upTo_len (p := p) (l := r)
      simp only [List.length_cons]; omega
end
end Nn
namespace Nn
open PySem L2
section
variable {P : Program} {w : World} {K : PySem.W.Frag} {mg : Str → Option Value} {base : Heap} {H H' : Hp} {Q : VK} {E : XK} {Z : Tel P w K mg base} {cl : List (Str × Addr)} {ws : List (Option V)} {f : Addr}
def sp_onward (_ : Tx K mg base) (Z : Tel P w K mg base) (cl : List (Str × Addr)) (ws : List (Option V)) : Sp := fun vs H Q _ => ∃ (f : Addr) (x g : Nat) (t : TelAt Z cl ws f) (cs : List (Nat × Nat × Nat)), vs = [.int x, .int g, .ref f] ∧ t.I H cs ∧ t.tell x g x ≠ none ∧ cs.length ≤ 900000 ∧
  ∀ H', Fr t.S H H' → t.I H' (cs ++ onwC t.tell x g) → Q (oN (onwN t.tell x g)) H'
theorem wc_onward {T : Tx K mg base} (t : TelAt Z cl ws f) {x g : Nat} {i j : Int} {cs : List (Nat × Nat × Nat)} (hi : i = x) (hj : j = g) (hI : t.I H cs) (h0 : t.tell x g x ≠ none) (hz : cs.length ≤ 900000) (q : ∀ H', Fr t.S H H' → t.I H' (cs ++ onwC t.tell x g) → Q (oN (onwN t.tell x g)) H') : sp_onward T Z cl ws [.int i, .int j, .ref f] H Q E := by
  subst hi hj; exact ⟨f, x, g, t, cs, rfl, hI, h0, hz, q⟩
theorem ok_onward (T : Tx K mg base) (Z : Tel P w K mg base) {cl : List (Str × Addr)} (ws : List (Option V)) : FnOkC P w K mg base CX0 3 T.a_onward T.d_onward ["here", "goal", "tells"] cl Z.fr ws (sp_onward T Z cl ws) := by
  refine FunD.okC T.F_onward sc_onward (fun vs H Q E h => ?_) (fun cdv A outer s H vs Q E hr hC h => ?_)
  · obtain ⟨f, x, g, t, cs, rfl, _⟩ := h; rfl
  · obtain ⟨f, x, g, t, cs, rfl, hI, h0, hcz, q⟩ := h
    have hu := hu_of hr
    refine ⟨_, (pss_cons (ps_for PassesOwn.never rfl (pi_list (pe_call (ok_by_nearness T) hr rfl T.m_by_nearness T.F_by_nearness.kp T.b_by_nearness .nil pass0 (pa_cons (pv 1) (pa_cons (pe_callF (F := NdefX.NF.of Z.st Z.name Z.qual cl t.cd) (i := 2) (sp := fun _ => Z.sp) (fun f => Z.ok cl t.cd f) (Prov.entry hC rfl) hr (by decide) pass0 rfl (by first | exact Or.inl rfl | exact Or.inr (Or.inl rfl) | exact Or.inr (Or.inr rfl)) (pa_cons (pv 0) (pa_cons (pv 1) (pa_cons (pv 0) pa_nil)))) pa_nil)))) (pg_name (i := 3) sc_onward.nd rfl (Or.inl rfl))
      (pss_one (ps_if (pt_cmpR op_notNn (pe_callF (F := NdefX.NF.of Z.st Z.name Z.qual cl t.cd) (i := 2) (sp := fun _ => Z.sp) (fun f => Z.ok cl t.cd f) (Prov.entry hC rfl) hr (by decide) pass0 rfl (by first | exact Or.inl rfl | exact Or.inr (Or.inl rfl) | exact Or.inr (Or.inr rfl)) (pa_cons (pv 3) (pa_cons (pv 1) (pa_cons (pv 0) pa_nil)))) pe_non (nomark _))
      (pss_one (ps_ret (pv 3)))
      pss_nil)))
      (pss_one (ps_ret pe_non))), ?_⟩
    rw [Nn.st_onward]; try rw [Nn.cxK]
    try rw [Nn.cxW]
    walk_at "wx"
    refine ⟨f, rfl, (t.fn hI).1, ?_⟩
    walk_at "wx"
    refine ⟨(t.fn hI).1, (t.fn hI).2, ?_⟩
    refine t.say hI (by omega) (.inr h0) fun v H1 fr1 hI1 ha => ?_
    obtain ⟨l, hl⟩ : ∃ l, t.tell x g x = some l := by
      cases e : t.tell x g x with
      | none => exact absurd e h0
      | some l => exact ⟨l, rfl⟩
    rw [hl] at ha
    obtain ⟨p, rfl, hp⟩ := ha
    obtain ⟨hl1, hl2⟩ := t.tl _ _ _ _ hl
    have hby := byN_lt (g := g) hl2 t.nl
    walk_at "wx"
    refine wc_by_nearness rfl hp ⟨hby, by omega⟩ fun p2 H2 hp2 ex2 h2 => ?_
    have hI2 := t.exI hI1 ex2
    have nF : ¬ t.FF p2 := t.new hI1 hp2
    have egd : (t.tell x g x).getD [] = l := by rw [hl]; rfl
    walk_at "wx"
    refine ForW.by walk_list (fun i σ H' => ∃ (v : Option V), σ = [some (.int x), some (.int g), some (.ref f), v] ∧ Fr t.S H H' ∧ H' p2 = some (.lst ((byN g l).map nV)) ∧ (∀ n ∈ (byN g l).take i, (t.tell n g x).isSome = false) ∧ t.I H' (cs ++ ((x, g, x) :: ((byN g l).take i).map fun n => (n, g, x))))
      ⟨_, rfl, fr1.trans ex2.fr, h2, by simp, by simpa using hI2⟩ (fun i σ H' _ ⟨_, _, _, e, _⟩ => SqL.of e) ?_ ?_
    · rintro i y σ _ H3 hi ⟨v, rfl, fr3, h3, hno, hI3⟩ ⟨rfl, hx⟩
      rw [List.length_map] at hi
      obtain rfl : y = nV (byN g l)[i] := by
        rw [List.getElem?_map, List.getElem?_eq_getElem hi] at hx
        exact (Option.some.inj hx).symm
      have et : (byN g l).take (i + 1) = (byN g l).take i ++ [(byN g l)[i]] := by rw [List.take_add_one, List.getElem?_eq_getElem hi]; rfl
      have hcl : (cs ++ ((x, g, x) :: ((byN g l).take i).map fun n => (n, g, x))).length ≤ 1000000 := by
        have := List.length_take_le' i (byN g l)
        simp only [List.length_append, List.length_cons, List.length_map]; omega
      walk_at "wx"
      refine ⟨f, rfl, (t.fn hI3).1, ?_⟩
      walk_at "wx"
      refine ⟨(t.fn hI3).1, (t.fn hI3).2, ?_⟩
      refine t.say (h := (byN g l)[i]) (g := g) (a := x) hI3 hcl (.inl (hl2 _ (mem_byN.mp (List.getElem_mem hi)))) fun v4 H4 fr4 hI4 ha4 => ?_
      have ecs : cs ++ ((x, g, x) :: ((byN g l).take i).map fun n => (n, g, x)) ++ [((byN g l)[i], g, x)] = cs ++ ((x, g, x) :: ((byN g l).take (i + 1)).map fun n => (n, g, x)) := by
        rw [et, List.map_append, List.append_assoc, List.cons_append]; rfl
      rw [ecs] at hI4
      have h4 := fr4.at h3 fun z => nF (t.sub _ z)
      cases e : t.tell (byN g l)[i] g x with
      | none =>
        rw [e] at ha4
        obtain rfl : v4 = .non := ha4
        walk_at "wx"
        refine ⟨_, rfl, fr3.trans fr4, h4, fun n hn => ?_, hI4⟩
        rw [et] at hn
        rcases List.mem_append.mp hn with z | z
        · exact hno n z
        · rw [List.mem_singleton.mp z, e]; rfl
      | some l4 =>
        rw [e] at ha4
        obtain ⟨p4, rfl, _⟩ := ha4
        walk_at "wx"
        obtain ⟨a, b⟩ := upTo_hit (p := fun n => (t.tell n g x).isSome) (l := byN g l) hi hno (by rw [e]; rfl)
        have eo : onwN t.tell x g = some (byN g l)[i] := by unfold onwN; rw [egd]; exact b
        have ec : onwC t.tell x g = (x, g, x) :: ((byN g l).take (i + 1)).map fun n => (n, g, x) := by unfold onwC; rw [egd, a]
        have q2 := q H4 (fr3.trans fr4) (by rw [ec]; exact hI4)
        rw [eo] at q2
        exact q2
    · rintro σ H3 ⟨v, rfl, fr3, h3, hno, hI3⟩
      rw [List.length_map, List.take_length] at hno hI3
      walk_at "wx"
      obtain ⟨a, b⟩ := upTo_no (p := fun n => (t.tell n g x).isSome) (l := byN g l) hno
      have eo : onwN t.tell x g = none := by unfold onwN; rw [egd]; exact b
      have ec : onwC t.tell x g = (x, g, x) :: (byN g l).map fun n => (n, g, x) := by unfold onwC; rw [egd, a]
      have q2 := q H3 fr3 (by rw [ec]; exact hI3)
      rw [eo] at q2
      exact q2
def sp_way (_ : Tx K mg base) (Z : Tel P w K mg base) (cl : List (Str × Addr)) (ws : List (Option V)) : Sp := fun vs H Q _ => ∃ (f : Addr) (x g : Nat) (t : TelAt Z cl ws f) (cs : List (Nat × Nat × Nat)), vs = [.int x, .int g, .ref f] ∧ t.I H cs ∧ t.tell x g x ≠ none ∧ cs.length ≤ 500000 ∧
  ∀ p H', H p = none → Fr t.S H H' → H' p = some (.lst ((wayN t.tell g x).map nV)) → ¬ t.FF p → t.I H' (cs ++ wayC t.tell g x) → Q (.ref p) H'
theorem wc_way {T : Tx K mg base} (t : TelAt Z cl ws f) {x g : Nat} {i j : Int} {cs : List (Nat × Nat × Nat)} (hi : i = x) (hj : j = g) (hI : t.I H cs) (h0 : t.tell x g x ≠ none) (hz : cs.length ≤ 500000) (q : ∀ p H', H p = none → Fr t.S H H' → H' p = some (.lst ((wayN t.tell g x).map nV)) → ¬ t.FF p → t.I H' (cs ++ wayC t.tell g x) → Q (.ref p) H') : sp_way T Z cl ws [.int i, .int j, .ref f] H Q E := by
  subst hi hj; exact ⟨f, x, g, t, cs, rfl, hI, h0, hz, q⟩
theorem onwC_len (t : TelAt Z cl ws f) {x g : Nat} : (onwC t.tell x g).length ≤ 101 := by
  unfold onwC
  rw [List.length_cons, List.length_map]
  have h1 := upTo_len (p := fun n => (t.tell n g x).isSome) (l := byN g ((t.tell x g x).getD []))
  have h2 : (byN g ((t.tell x g x).getD [])).length ≤ 100 := by
    refine Nat.le_trans byN_len_le ?_
    cases e : t.tell x g x with
    | none => exact Nat.zero_le _
    | some l => exact (t.tl _ _ _ _ e).1
  omega
theorem flatC_len (t : TelAt Z cl ws f) {g : Nat} : ∀ {l : List Nat}, (l.flatMap fun y => onwC t.tell y g).length ≤ 101 * l.length
  | [] => by simp
  | x :: r => by
    have h1 := onwC_len t (x := x) (g := g)
    have h2 := flatC_len t (g := g) (l := r)
    rw [List.flatMap_cons, List.length_append, List.length_cons]; omega
theorem x_optN {o : Option Nat} {R : V → Prop} (h1 : o = none → R .non) (h2 : ∀ n, o = some n → R (nV n)) : R (oN o) := by
  cases o with
  | none => exact h1 rfl
  | some n => exact h2 n rfl
theorem ok_way (T : Tx K mg base) (Z : Tel P w K mg base) {cl : List (Str × Addr)} (ws : List (Option V)) : FnOkC P w K mg base CX0 4 T.a_way T.d_way ["start", "goal", "tells"] cl Z.fr ws (sp_way T Z cl ws) := by
  refine FunD.okC T.F_way sc_way (fun vs H Q E h => ?_) (fun cdv A outer s H vs Q E hr hC h => ?_)
  · obtain ⟨f, x, g, t, cs, rfl, _⟩ := h; rfl
  · obtain ⟨f, x, g, t, cs, rfl, hI, h0, hcz, q⟩ := h
    have hu := hu_of hr
    refine ⟨_, (pss_cons (ps_set (i := 3) sc_way.nd rfl (Or.inl rfl) (pe_lst (pa_cons (pv 0) pa_nil)))
      (pss_cons (ps_set (i := 4) sc_way.nd rfl (Or.inl rfl) (pe_callC (fun ws => ok_onward T Z ws) (Prov.entry hC rfl) hr rfl T.m_onward T.F_onward.kp T.b_onward .nil pass0 (pa_cons (pv 0) (pa_cons (pv 1) (pa_cons (pv 2) pa_nil)))))
      (pss_cons (ps_while PassesOwn.never (PW.pt (pw_and (pt_cmpR op_notNn (pv 4) pe_non (nomark _)) (pw_and1 (pt_val (pe_call (ok_nearer T) (hr.mono (by decide)) rfl T.m_nearer T.F_nearer.kp T.b_nearer .nil pass0 (pa_cons (pv 1) (pa_cons (pv 4) (pa_cons (pe_ix ix_list (pv 3) (pe_un un_neg pe_int) (fun _ _ => rfl)) pa_nil))))))))
      (pss_cons (ps_expr (pe_bm PySem.F.plainAttrs_list PySem.F.slot_list_append PySem.F.type_list_append mt_append (pv 3) (pa_cons (pv 4) pa_nil)))
      (pss_one (ps_set (i := 4) sc_way.nd rfl (Or.inl rfl) (pe_callC (fun ws => ok_onward T Z ws) (Prov.entry hC rfl) hr rfl T.m_onward T.F_onward.kp T.b_onward .nil pass0 (pa_cons (pv 4) (pa_cons (pv 1) (pa_cons (pv 2) pa_nil))))))))
      (pss_one (ps_ret (pv 3)))))), ?_⟩
    rw [Nn.st_way]; try rw [Nn.cxK]
    try rw [Nn.cxW]
    walk_at "wx"
    refine ⟨len_ok rfl, fun p hp => ?_⟩
    have ex1 := Ex.new (o := .lst [V.int (x : Int)]) hp
    have h1 := upd_same (H := H) (a := p) (o := .lst [V.int (x : Int)])
    have hI1 := t.exI hI ex1
    have nF : ¬ t.FF p := t.new hI hp
    generalize upd H p (.lst [V.int (x : Int)]) = H1 at ex1 h1 hI1 ⊢
    walk_at "wx"
    refine wc_onward t rfl rfl hI1 h0 (by omega) fun H2 fr2 hI2 => ?_
    have h2 := fr2.at h1 fun z => nF (t.sub _ z)
    walk_at "wx"
    refine x_while (W := fun mm σ H' => ∃ (pre : List Nat) (y : Nat), σ = [some (.int x), some (.int g), some (.ref f), some (.ref p), some (oN (onwN t.tell y g))] ∧ Fr t.S H H' ∧ H' p = some (.lst ((pre ++ [y]).map nV)) ∧ t.I H' (cs ++ (pre ++ [y]).flatMap fun y => onwC t.tell y g) ∧ wayN t.tell g x = pre ++ wayN t.tell g y ∧ t.tell y g y ≠ none ∧
        (pre ++ [y]).Nodup ∧ (∀ z ∈ pre ++ [y], z = x ∨ z ∈ t.N) ∧ (∀ z ∈ pre, g ^^^ y < g ^^^ z) ∧ mm + pre.length = 64) (m := 64)
      ⟨[], x, rfl, ex1.fr.trans fr2, by simpa using h2, by simpa using hI2, by simp, h0, by simp, by simp, by simp, rfl⟩ ?_
    rintro mm σ H3 ⟨pre, y, rfl, fr3, h3, hI3, hw, hy0, nd, hN, hnear, hmm⟩
    have hlen : (pre ++ [y]).length ≤ 63 := by
      have := nodup_len nd (b := x :: t.N) fun z hz => (hN z hz).elim (fun e => by rw [e]; simp) fun e => List.mem_cons_of_mem _ e
      have := t.nl
      simp only [List.length_cons] at *
      omega
    have hfl := flatC_len t (g := g) (l := pre ++ [y])
    walk_at "wx"
    cases e : onwN t.tell y g with
    | none =>
      have eo : oN none = .non := rfl
      rw [eo]
      walk_at "wx"
      have ew := wayN_none e
      refine q p H3 hp fr3 (by rw [hw, ew]; exact h3) nF ?_
      have ec : wayC t.tell g x = (pre ++ [y]).flatMap fun y => onwC t.tell y g := by unfold wayC; rw [hw, ew]
      rw [ec]; exact hI3
    | some z =>
      have eo : oN (some z) = nV z := rfl
      rw [eo]
      have hat : atI ((pre ++ [y]).map nV) (-1) = some (nV y) := by
        rw [List.map_append]
        exact atI_last (pre.map nV) (nV y)
      walk_at "wx"
      refine x_whD (fun hlt => ?_) fun hge => ?_
      · obtain ⟨⟨l, hl, hzl⟩, hza⟩ := onwN_mem e
        have hzN := (t.tl _ _ _ _ hl).2 z hzl
        have hz0 : t.tell z g z ≠ none := fun c => by
          have := t.sil z g y g z
          rw [hza, c] at this; cases this
        walk_at "wx"
        have hI4 := t.mut (o := .lst ((pre ++ [y]).map nV ++ [V.int (z : Int)])) hI3 h3 nF
        have fr4 : Fr t.S H (upd H3 p (.lst ((pre ++ [y]).map nV ++ [V.int (z : Int)]))) := fr3.mut hp h3
        have h4 := upd_same (H := H3) (a := p) (o := .lst ((pre ++ [y]).map nV ++ [V.int (z : Int)]))
        generalize upd H3 p (.lst ((pre ++ [y]).map nV ++ [V.int (z : Int)])) = H4 at hI4 fr4 h4 ⊢
        have ee : (pre ++ [y]).map nV ++ [V.int (z : Int)] = ((pre ++ [y]) ++ [z]).map nV := by rw [List.map_append (l₁ := pre ++ [y])]; rfl
        rw [ee] at h4
        refine wc_onward t rfl rfl hI4 hz0 (by simp only [List.length_append] at *; omega) fun H5 fr5 hI5 => ?_
        have h5 := fr5.at h4 fun z => nF (t.sub _ z)
        refine ⟨mm - 1, by simp only [List.length_append, List.length_cons, List.length_nil] at hlen; omega, pre ++ [y], z, rfl, fr4.trans fr5, h5, ?_, ?_, hz0, ?_, ?_, ?_, ?_⟩
        · rw [List.flatMap_append (xs := pre ++ [y]), ← List.append_assoc]
          simpa using hI5
        · rw [hw, wayN_on e hlt, List.append_assoc]; rfl
        · refine nd_snoc nd fun c => ?_
          rcases List.mem_append.mp c with c | c
          · have := hnear z c; omega
          · rw [List.mem_singleton.mp c] at hlt; omega
        · intro u hu
          rcases List.mem_append.mp hu with c | c
          · exact hN u c
          · rw [List.mem_singleton.mp c]; exact .inr hzN
        · intro u hu
          rcases List.mem_append.mp hu with c | c
          · have := hnear u c; omega
          · rw [List.mem_singleton.mp c]; exact hlt
        · simp only [List.length_append, List.length_cons, List.length_nil] at *; omega
      · walk_at "wx"
        have ew := wayN_far e hge
        refine q p H3 hp fr3 (by rw [hw, ew]; exact h3) nF ?_
        have ec : wayC t.tell g x = (pre ++ [y]).flatMap fun y => onwC t.tell y g := by unfold wayC; rw [hw, ew]
        rw [ec]; exact hI3
end
end Nn
/-! asks by functions that tell -/
namespace Nn
open PySem L2
section
variable {P : Program} {w : World} {K : PySem.W.Frag} {mg : Str → Option Value} {base : Heap} {H H' : Hp} {Q : VK} {E : XK}
def sp_standing (_ : Tx K mg base) : Sp := fun vs H Q E => ∃ (g : Nat) (room : Nat) (p_seen : Addr) (seen : List Nat) (p_quiet : Addr) (quiet : List Nat), vs = [.int g, .int room, .ref p_seen, .ref p_quiet] ∧ (SqL K H p_seen (seen.map nV)) ∧ (SqL K H p_quiet (quiet.map nV)) ∧ ((byN g seen).length < 64 ∧ seen.length ≤ 100000 ∧ quiet.length ≤ 100000) ∧ (∀ p H', H p = none → Ex H H' → H' p = some (.lst ((standN g room seen quiet).map nV)) → Q (.ref p) H')
theorem wc_standing {T : Tx K mg base} {g : Nat} {room : Nat} {p_seen : Addr} {seen : List Nat} {p_quiet : Addr} {quiet : List Nat} {i0 : Int} {i1 : Int} (e0 : i0 = g) (e1 : i1 = room) (c0 : SqL K H p_seen (seen.map nV)) (c1 : SqL K H p_quiet (quiet.map nV)) (c2 : (byN g seen).length < 64 ∧ seen.length ≤ 100000 ∧ quiet.length ≤ 100000) (h : ∀ p H', H p = none → Ex H H' → H' p = some (.lst ((standN g room seen quiet).map nV)) → Q (.ref p) H') : sp_standing T [.int i0, .int i1, .ref p_seen, .ref p_quiet] H Q E := by
  subst e0 e1
  exact ⟨g, room, p_seen, seen, p_quiet, quiet, rfl, c0, c1, c2, h⟩
theorem ok_standing (T : Tx K mg base) : FnOk P w K mg base CX0 3 T.a_standing T.d_standing ["goal", "room", "seen", "quiet"] (sp_standing T) := by
  refine T.F_standing.okD sc_standing (fun vs H Q E h => ?_) (fun cdv A outer s H vs Q E hr h => ?_)
  · obtain ⟨g, room, p_seen, seen, p_quiet, quiet, rfl, hS0, hS1, hpre, q⟩ := h; rfl
  · obtain ⟨g, room, p_seen, seen, p_quiet, quiet, rfl, hS0, hS1, hpre, q⟩ := h
    have hu := hu_of hr
    refine ⟨_, (pss_one (ps_ret (pe_slice sl_list (pe_call (ok_by_nearness T) hr rfl T.m_by_nearness T.F_by_nearness.kp T.b_by_nearness .nil pass0 (pa_cons (pv 0) (pa_cons (pe_lc (own := [("name", 4)]) (g := (gName 4)) (by rfl) sc_standing.nd (pi_list (pv 2)) (blkOk_by (N := N_standing) (sc := defScope s_standing) (own := [("name", 4)]) (by decide +kernel)) (fun _ _ _ _ _ => (pg_name (i := 4) sc_standing.nd rfl (Or.inl rfl))) (fun _ _ _ _ _ => pts_one ((pt_cmpR (op_notInK (K := K) rfl) (pv 4) (pv 3) rfl))) (fun _ _ _ _ _ => (pv 4))) pa_nil))) po_none (po_some (pv 1))))), ?_⟩
    rw [Nn.st_standing]; try rw [Nn.cxK]
    try rw [Nn.cxW]
    walk_at "wx"
    obtain ⟨hb, hz1, hz2⟩ := hpre
    refine LcW.filt (emb := nV) (xs := seen) (fun x => !decide (x ∈ quiet)) hS0 (by rw [sizeLine_eq]; omega) (fun x _ H2 ex2 R hR => ?_) (fun x _ _ H2 ex2 Qe hQ => ?_) fun p1 H1 hp1 ex1 h1 => ?_
    · walk_at "wx"
      exact hR _ Ex.refl
    · walk_at "wx"
      exact hQ
    · walk_at "wx"
      have hfl := List.length_filter_le (fun x => !decide (x ∈ quiet)) seen
      have hby : (byN g (seen.filter fun x => !decide (x ∈ quiet))).length ≤ (byN g seen).length := nodup_len (byN_nodup _ _) fun x hx => mem_byN.mpr (List.mem_filter.mp (mem_byN.mp hx)).1
      refine wc_by_nearness rfl (SqL.of h1) ⟨by omega, by omega⟩ fun p2 H2 hp2 ex2 h2 => ?_
      walk_at "wx"
      refine x_slL (SqL.of h2) fun p3 hp3 => ?_
      rw [cut_take]
      refine q p3 _ ((ex1.trans ex2).back p3 hp3) ((ex1.trans ex2).newT hp3) ?_
      rw [upd_same]; unfold standN; rw [List.map_take]
def oA : Option Addr → V
  | none => .non
  | some a => .ref a
theorem _root_.L2.SqL.upd_ne' {K : PySem.W.Frag} {H : Hp} {a r : Addr} {xs ys : List V} {o : HO} (h : SqL K H a xs) (hr : H r = some (.lst ys)) (ne : ys ≠ xs) : SqL K (upd H r o) a xs := by
  rcases h with (h | ⟨od, h⟩) | h
  · exact .inl (.inl (by rw [upd_ne fun z => by rw [z, hr] at h; exact ne (HO.lst.inj (Option.some.inj h))]; exact h))
  · exact .inl (.inr ⟨od, by rw [upd_ne fun z => by rw [z, hr] at h; cases h]; exact h⟩)
  · exact .inr h
/-- a row's tuple; new to H0 -/
structure RowE (H0 H' : Hp) (e : Addr × Option Addr) (x : Nat × Option (List Nat)) : Prop where
  tp : H' e.1 = some (.tup [nV x.1, oA e.2])
  n1 : H0 e.1 = none
  so : ∀ l, x.2 = some l → ∃ a, e.2 = some a ∧ H' a = some (.lst (l.map nV)) ∧ H0 a = none
  no : x.2 = none → e.2 = none
theorem RowE.cell {H0 H' : Hp} {e : Addr × Option Addr} {x : Nat × Option (List Nat)} (r : RowE H0 H' e x) {a : Addr} (h : e.2 = some a) : ∃ l, x.2 = some l ∧ H' a = some (.lst (l.map nV)) ∧ H0 a = none := by
  cases q : x.2 with
  | none => rw [r.no q] at h; cases h
  | some l =>
    obtain ⟨b, h1, h2, h3⟩ := r.so l q
    rw [h] at h1; cases h1
    exact ⟨l, rfl, h2, h3⟩
theorem RowE.keep {H0 H' H2 : Hp} {e : Addr × Option Addr} {x : Nat × Option (List Nat)} (r : RowE H0 H' e x) (h1 : H2 e.1 = H' e.1) (h2 : ∀ a, e.2 = some a → H2 a = H' a) : RowE H0 H2 e x :=
  ⟨by rw [h1]; exact r.tp, r.n1, fun l q => by
    obtain ⟨a, e1, e2, e3⟩ := r.so l q
    exact ⟨a, e1, by rw [h2 a e1]; exact e2, e3⟩, r.no⟩
/-- a row -/
structure RowAt (H0 H' : Hp) (r : Addr) (es : List (Addr × Option Addr)) (row : List (Nat × Option (List Nat))) : Prop where
  ro : H' r = some (.lst (es.map fun e => .ref e.1))
  len : es.length = row.length
  at_ : ∀ (i : Nat) (e : Addr × Option Addr) (x : Nat × Option (List Nat)), es[i]? = some e → row[i]? = some x → RowE H0 H' e x
  nd : (es.filterMap (·.2)).Nodup
  r0 : es ≠ []
  nr : H0 r = none
theorem RowAt.el {H0 : Hp} {r : Addr} {es : List (Addr × Option Addr)} {row : List (Nat × Option (List Nat))} (a : RowAt H0 H' r es row) {e : Addr × Option Addr} (h : e ∈ es) : ∃ x ∈ row, RowE H0 H' e x := by
  obtain ⟨i, hi⟩ := List.getElem?_of_mem h
  have hl : i < row.length := by rw [← a.len]; exact (List.getElem?_eq_some_iff.mp hi).1
  exact ⟨row[i], List.getElem_mem hl, a.at_ i e _ hi (List.getElem?_eq_getElem hl)⟩
theorem refs_ne {es : List (Addr × Option Addr)} {l : List Nat} (h0 : es ≠ []) : (es.map fun e => V.ref e.1) ≠ l.map nV := fun z => by
  cases es with
  | nil => exact h0 rfl
  | cons e r =>
    cases l with
    | nil => cases z
    | cons x l => rw [List.map_cons, List.map_cons] at z; injection z with z1 z2; cases z1
theorem RowAt.fr {H0 H'' : Hp} {R : Addr → Prop} {r : Addr} {es : List (Addr × Option Addr)} {row : List (Nat × Option (List Nat))} (a : RowAt H0 H' r es row) (f : Fr R H' H'') (h : ∀ b, R b → H0 b ≠ none) : RowAt H0 H'' r es row := by
  refine ⟨f.at a.ro fun z => h _ z a.nr, a.len, fun i e x he hx => ?_, a.nd, a.r0, a.nr⟩
  have q := a.at_ i e x he hx
  refine q.keep ?_ fun b hb => ?_
  · rw [q.tp]; exact f.at q.tp fun z => h _ z q.n1
  · obtain ⟨l, _, h2, h3⟩ := q.cell hb
    rw [h2]; exact f.at h2 fun z => h _ z h3
/-- what an ask carries -/
structure AskAt (H0 H' : Hp) (r sa qa : Addr) (es : List (Addr × Option Addr)) (s : AskSt) : Prop where
  ra : RowAt H0 H' r es s.row
  sn : H' sa = some (.lst (s.seen.map nV))
  qt : H' qa = some (.lst (s.quiet.map nV))
  new : H0 sa = none ∧ H0 qa = none
  ne : sa ≠ qa ∧ ∀ e ∈ es, e.2 ≠ some sa ∧ e.2 ≠ some qa
theorem AskAt.fr {H0 H'' : Hp} {R : Addr → Prop} {r sa qa : Addr} {es : List (Addr × Option Addr)} {s : AskSt} (a : AskAt H0 H' r sa qa es s) (f : Fr R H' H'') (h : ∀ b, R b → H0 b ≠ none) : AskAt H0 H'' r sa qa es s :=
  ⟨a.ra.fr f h, f.at a.sn fun z => h _ z a.new.1, f.at a.qt fun z => h _ z a.new.2, a.new, a.ne⟩
theorem AskAt.rne {H0 : Hp} {r sa qa : Addr} {es : List (Addr × Option Addr)} {s : AskSt} (a : AskAt H0 H' r sa qa es s) : r ≠ sa ∧ r ≠ qa :=
  ⟨fun z => by
    have e := a.ra.ro
    rw [z, a.sn] at e
    exact refs_ne a.ra.r0 (HO.lst.inj (Option.some.inj e)).symm, fun z => by
    have e := a.ra.ro
    rw [z, a.qt] at e
    exact refs_ne a.ra.r0 (HO.lst.inj (Option.some.inj e)).symm⟩
/-- one more -/
theorem AskAt.step {H0 H2 : Hp} {r sa qa : Addr} {es : List (Addr × Option Addr)} {s s' : AskSt} {e : Addr × Option Addr} {x : Nat × Option (List Nat)} (a : AskAt H0 H' r sa qa es s) (kp : ∀ b o, NT o → H' b = some o → b ≠ r → b ≠ sa → b ≠ qa → H2 b = some o)
    (hr : H2 r = some (.lst ((es ++ [e]).map fun e => .ref e.1))) (hs : H2 sa = some (.lst (s'.seen.map nV))) (hq : H2 qa = some (.lst (s'.quiet.map nV))) (hrow : s'.row = s.row ++ [x]) (he : RowE H0 H2 e x) (hn : ∀ l, e.2 = some l → l ≠ sa ∧ l ≠ qa ∧ H' l = none) : AskAt H0 H2 r sa qa (es ++ [e]) s' := by
  refine ⟨⟨hr, ?_, fun i e' x' h1 h2 => ?_, ?_, by simp, a.ra.nr⟩, hs, hq, a.new, a.ne.1, fun e' h' => ?_⟩
  · rw [hrow, List.length_append, List.length_append, a.ra.len]; rfl
  · rw [hrow] at h2
    by_cases hi : i < es.length
    · rw [List.getElem?_append_left hi] at h1
      rw [List.getElem?_append_left (by rw [← a.ra.len]; exact hi)] at h2
      have q := a.ra.at_ i e' x' h1 h2
      refine q.keep ?_ fun b hb => ?_
      · rw [q.tp]
        exact kp _ _ trivial q.tp (fun z => by have := q.tp; rw [z, a.ra.ro] at this; cases this) (fun z => by have := q.tp; rw [z, a.sn] at this; cases this) fun z => by have := q.tp; rw [z, a.qt] at this; cases this
      · obtain ⟨l, _, g2, g3⟩ := q.cell hb
        have hm := a.ne.2 e' (List.mem_of_getElem? h1)
        rw [g2]
        exact kp _ _ trivial g2 (fun z => by rw [z, a.ra.ro] at g2; exact refs_ne a.ra.r0 (HO.lst.inj (Option.some.inj g2))) (fun z => hm.1 (by rw [hb, z])) fun z => hm.2 (by rw [hb, z])
    · have hl := (List.getElem?_eq_some_iff.mp h1).1
      have ei : i = es.length := by simp at hl; omega
      rw [ei, List.getElem?_append_right (Nat.le_refl _), Nat.sub_self] at h1
      rw [ei, a.ra.len, List.getElem?_append_right (Nat.le_refl _), Nat.sub_self] at h2
      cases h1; cases h2; exact he
  · rw [List.filterMap_append]
    cases q : e.2 with
    | none =>
      have e0 : List.filterMap (fun x : Addr × Option Addr => x.2) [e] = [] := by simp [q]
      rw [e0, List.append_nil]; exact a.ra.nd
    | some l =>
      have e0 : List.filterMap (fun x : Addr × Option Addr => x.2) [e] = [l] := by simp [q]
      rw [e0]
      refine List.nodup_append.mpr ⟨a.ra.nd, by simp, fun b hb c hc z => ?_⟩
      rw [List.mem_singleton.mp hc] at z
      obtain ⟨e', h1, h2⟩ := List.mem_filterMap.mp hb
      obtain ⟨x', _, q'⟩ := a.ra.el h1
      obtain ⟨_, _, g2, _⟩ := q'.cell h2
      rw [z, (hn l q).2.2] at g2; cases g2
  · rcases List.mem_append.mp h' with z | z
    · exact a.ne.2 e' z
    · rw [List.mem_singleton.mp z]
      exact ⟨fun q => (hn _ q).1 rfl, fun q => (hn _ q).2.1 rfl⟩
/-- [house for house, told in row] -/
theorem LcW.row {σ : L2.St} {i j : Nat} (hij : i ≠ j) {r : Addr} {es : List (Addr × Option Addr)} {row : List (Nat × Option (List Nat))} (hr : H r = some (.lst (es.map fun e => .ref e.1))) (hl : es.length = row.length) (hz : row.length ≤ 1000)
    (ha : ∀ (k : Nat) (e : Addr × Option Addr) (x : Nat × Option (List Nat)), es[k]? = some e → row[k]? = some x → H e.1 = some (.tup [nV x.1, oA e.2])) (hi : i < σ.length) (hk : ∀ D H', H D = none → Ex H H' → H' D = some (.lst ((row.map (·.1)).map nV)) → Q (.ref D) H') :
    LcW (gTup K 2 (gCons (gName i) (gCons (gName j) gNil))) tYes (tVar i) [i, j] σ Q (Itl K r) H := by
  intro D hD
  refine lc_list (K := K) (a := r) (xs := es.map fun e => V.ref e.1) (Qd := fun H' => Q (.ref D) H') (fun n H' => Ex H H' ∧ H' D = some (.lst (((row.take n).map (·.1)).map nV))) ⟨Ex.new hD, by rw [upd_same]; rfl⟩ (fun n H' _ h => SqL.of (h.1.at hr)) ?_ ?_
  · rintro n y H1 hx ⟨ex, h1⟩
    obtain ⟨e, he, rfl⟩ : ∃ e, es[n]? = some e ∧ y = .ref e.1 := by
      rw [List.getElem?_map] at hx
      cases q : es[n]? with
      | none => rw [q] at hx; cases hx
      | some e => rw [q] at hx; exact ⟨e, rfl, (Option.some.inj hx).symm⟩
    have hn : n < row.length := by rw [← hl]; exact (List.getElem?_eq_some_iff.mp he).1
    have tp := ex.at (ha n e row[n] he (List.getElem?_eq_getElem hn))
    have et : row.take (n + 1) = row.take n ++ [row[n]] := by rw [List.take_add_one, List.getElem?_eq_getElem hn]; rfl
    refine x_gTup (SqT.of tp) rfl (x_gCons (x_name (x_gCons (x_name (x_gNil ?_)))))
    have e1 : wipe (((wipe σ [i, j]).set i (some (nV row[n].1))).set j (some (oA e.2))) [i, j] = wipe σ [i, j] := by
      show ((((((σ.set j none).set i none).set i _).set j _).set j none).set i none) = (σ.set j none).set i none
      refine List.ext_getElem? fun k => ?_
      by_cases h1 : i = k
      · subst h1; simp [List.getElem?_set]
      · by_cases h2 : j = k
        · subst h2; simp [List.getElem?_set, hij]
        · simp [List.getElem?_set, h1, h2]
    refine ⟨e1, ?_⟩
    rw [e_yes]
    refine iteT ?_
    refine x_var (v := nV row[n].1) ?_ ⟨_, h1, ?_, ex.mut hD h1, ?_⟩
    · rw [List.getElem?_set_ne (Ne.symm hij)]
      refine List.getElem?_set_self ?_
      show i < ((σ.set j none).set i none).length
      rw [List.length_set, List.length_set]; exact hi
    · rw [sizeLine_eq, List.length_map, List.length_map]
      have := List.length_take_le' n row
      omega
    · rw [upd_same, et, List.map_append, List.map_append]; rfl
  · rintro H1 ⟨ex, h1⟩
    rw [List.length_map, hl, List.take_length] at h1
    exact hk D H1 hD ex h1
end
end Nn
namespace Nn
open PySem L2
section
variable {P : Program} {w : World} {K : PySem.W.Frag} {mg : Str → Option Value} {base : Heap} {H H' : Hp} {Q : VK} {E : XK} {Z : Tel P w K mg base} {cl : List (Str × Addr)} {ws : List (Option V)} {f : Addr}
def rowC (row : List (Nat × Option (List Nat))) (g start : Nat) : List (Nat × Nat × Nat) := row.map fun x => (x.1, g, start)
abbrev TelAt.t1 (t : TelAt Z cl ws f) (g start : Nat) : Nat → Option (List Nat) := fun h => t.tell h g start
theorem TelAt.tl1 (t : TelAt Z cl ws f) {g start : Nat} : ∀ h l, t.t1 g start h = some l → l.length ≤ 100 ∧ ∀ x ∈ l, x ∈ t.N := fun h l e => t.tl h g start l e
def sp_asked (_ : Tx K mg base) (Z : Tel P w K mg base) (cl : List (Str × Addr)) (ws : List (Option V)) : Sp := fun vs H Q _ => ∃ (f : Addr) (start g room : Nat) (t : TelAt Z cl ws f) (cs : List (Nat × Nat × Nat)), vs = [.int start, .int g, .int room, .ref f] ∧ t.I H cs ∧ t.tell start g start ≠ none ∧ cs.length ≤ 500000 ∧
  ∀ p r fd es H', Fr t.S H H' → H p = none → H' p = some (.tup [.ref r, .ref fd]) → RowAt H H' r es (askEnd (t.t1 g start) start g room).row → H fd = none → H' fd = some (.lst ((askFound (t.t1 g start) start g room).map nV)) → (∀ e ∈ es, e.2 ≠ some fd) → t.I H' (cs ++ rowC (askEnd (t.t1 g start) start g room).row g start) → Q (.ref p) H'
theorem wc_asked {T : Tx K mg base} (t : TelAt Z cl ws f) {start g room : Nat} {i j k : Int} {cs : List (Nat × Nat × Nat)} (hi : i = start) (hj : j = g) (hk : k = room) (hI : t.I H cs) (h0 : t.tell start g start ≠ none) (hz : cs.length ≤ 500000)
    (q : ∀ p r fd es H', Fr t.S H H' → H p = none → H' p = some (.tup [.ref r, .ref fd]) → RowAt H H' r es (askEnd (t.t1 g start) start g room).row → H fd = none → H' fd = some (.lst ((askFound (t.t1 g start) start g room).map nV)) → (∀ e ∈ es, e.2 ≠ some fd) → t.I H' (cs ++ rowC (askEnd (t.t1 g start) start g room).row g start) → Q (.ref p) H') : sp_asked T Z cl ws [.int i, .int j, .int k, .ref f] H Q E := by
  subst hi hj hk; exact ⟨f, start, g, room, t, cs, rfl, hI, h0, hz, q⟩
theorem ok_asked (T : Tx K mg base) (Z : Tel P w K mg base) {cl : List (Str × Addr)} (ws : List (Option V)) : FnOkC P w K mg base CX0 4 T.a_asked T.d_asked ["start", "goal", "room", "tells"] cl Z.fr ws (sp_asked T Z cl ws) := by
  refine FunD.okC T.F_asked sc_asked (fun vs H Q E h => ?_) (fun cdv A outer s H vs Q E hr hC h => ?_)
  · obtain ⟨f, start, g, room, t, cs, rfl, _⟩ := h; rfl
  · obtain ⟨f, start, g, room, t, cs, rfl, hI, h0, hcz, q⟩ := h
    have hu := hu_of hr
    have hnl := t.nl
    have hok : ∀ k, (AskSt.run (t.t1 g start) start g room k).Ok (t.t1 g start) start t.N := AskSt.run_ok h0 t.tl1
    obtain ⟨l0, hl0⟩ : ∃ l, t.tell start g start = some l := by
      cases e : t.tell start g start with
      | none => exact absurd e h0
      | some l => exact ⟨l, rfl⟩
    obtain ⟨hl1, hl2⟩ := t.tl _ _ _ _ hl0
    refine ⟨_, (pss_cons (ps_set (i := 4) sc_asked.nd rfl (Or.inl rfl) (pe_lst (pa_cons (pe_tup (pa_cons (pv 0) (pa_cons (pe_callTy cb_list (by rfl) T.z_list (by decide +kernel) (pa_cons (pe_callF (F := NdefX.NF.of Z.st Z.name Z.qual cl t.cd) (i := 3) (sp := fun _ => Z.sp) (fun f => Z.ok cl t.cd f) (Prov.entry hC rfl) hr (by decide) pass0 rfl (by first | exact Or.inl rfl | exact Or.inr (Or.inl rfl) | exact Or.inr (Or.inr rfl)) (pa_cons (pv 0) (pa_cons (pv 1) (pa_cons (pv 0) pa_nil)))) pa_nil)) pa_nil))) pa_nil)))
      (pss_cons (ps_setLc (i := 5) (own := [("name", 6)]) (g := (gName 6)) (by rfl) sc_asked.nd rfl rfl (sw_true rfl rfl rfl (by decide +kernel)) (pi_list (pe_ix ix_tup (pe_ix ix_list (pv 4) pe_int (fun _ _ => rfl)) pe_int (fun _ _ => rfl))) (blkOk_by (N := N_asked) (sc := defScope s_asked) (own := [("name", 6)]) (by decide +kernel)) (fun _ _ _ _ _ => (pg_name (i := 6) sc_asked.nd rfl (Or.inl rfl))) (fun _ _ _ _ _ => pts_one ((pt_cmpR op_ne (pv 6) (pv 0) (nomark _)))) (fun _ _ _ _ _ => (pv 6)))
      (pss_cons (ps_set (i := 7) sc_asked.nd rfl (Or.inl rfl) (pe_lst pa_nil))
      (pss_cons (ps_set (i := 8) sc_asked.nd rfl (Or.inl rfl) (pe_call (ok_standing T) hr rfl T.m_standing T.F_standing.kp T.b_standing .nil pass0 (pa_cons (pv 1) (pa_cons (pv 2) (pa_cons (pv 5) (pa_cons (pv 7) pa_nil))))))
      (pss_cons (ps_while PassesOwn.never (pt_cmpR op_gt (pe_callB cb_len (by rfl) T.z_len PySem.boot_len (pa_cons (pv 8) pa_nil)) pe_int (nomark _))
      (pss_cons (ps_set (i := 9) sc_asked.nd rfl (Or.inl rfl) (pe_ix ix_list (pv 8) pe_int (fun _ _ => rfl)))
      (pss_cons (ps_set (i := 10) sc_asked.nd rfl (Or.inl rfl) (pe_callF (F := NdefX.NF.of Z.st Z.name Z.qual cl t.cd) (i := 3) (sp := fun _ => Z.sp) (fun f => Z.ok cl t.cd f) (Prov.entry hC rfl) hr (by decide) pass0 rfl (by first | exact Or.inl rfl | exact Or.inr (Or.inl rfl) | exact Or.inr (Or.inr rfl)) (pa_cons (pv 9) (pa_cons (pv 1) (pa_cons (pv 0) pa_nil)))))
      (C8.pss_cut (ps_if (pt_cmpR op_isNn (pv 10) pe_non (nomark _))
      (pss_cons (ps_expr (pe_bm PySem.F.plainAttrs_list PySem.F.slot_list_append PySem.F.type_list_append mt_append (pv 7) (pa_cons (pv 9) pa_nil)))
      (pss_one (ps_expr (pe_bm PySem.F.plainAttrs_list PySem.F.slot_list_append PySem.F.type_list_append mt_append (pv 4) (pa_cons (pe_tup (pa_cons (pv 9) (pa_cons pe_non pa_nil))) pa_nil)))))
      (pss_cons (ps_expr (pe_bm PySem.F.plainAttrs_list PySem.F.slot_list_append PySem.F.type_list_append mt_append (pv 4) (pa_cons (pe_tup (pa_cons (pv 9) (pa_cons (pe_callTy cb_list (by rfl) T.z_list (by decide +kernel) (pa_cons (pv 10) pa_nil)) pa_nil))) pa_nil)))
      (pss_one (ps_expr (pe_bm PySem.F.plainAttrs_list PySem.F.slot_list_extend PySem.F.type_list_extend mt_extend (pv 5) (pa_cons (pe_lc (own := [("name", 6)]) (g := (gName 6)) (by rfl) sc_asked.nd (pi_list (pv 10)) (blkOk_by (N := N_asked) (sc := defScope s_asked) (own := [("name", 6)]) (by decide +kernel)) (fun _ _ _ _ _ => (pg_name (i := 6) sc_asked.nd rfl (Or.inl rfl))) (fun _ _ _ _ _ => pts_one ((pt_cmpR op_ne (pv 6) (pv 0) (nomark _)))) (fun _ _ _ _ _ => (pv 6))) pa_nil))))))
      (pss_cons (ps_set (i := 11) sc_asked.nd rfl (Or.inr rfl) (pe_lc (own := [("house", 9), ("told", 10)]) (g := (gTup K 2 (gCons (gName 9) (gCons (gName 10) gNil)))) (by rfl) sc_asked.nd (pi_list (pv 4)) (blkOk_by (N := N_asked) (sc := defScope s_asked) (own := [("house", 9), ("told", 10)]) (by decide +kernel)) (fun _ _ _ _ _ => (pg_tup (n := 2) rfl (pgs_cons (pg_name (i := 9) sc_asked.nd rfl (Or.inl rfl)) (pgs_cons (pg_name (i := 10) sc_asked.nd rfl (Or.inl rfl)) pgs_nil)))) (fun _ _ _ _ _ => pts_nil) (fun _ _ _ _ _ => (pv 9))))
      (pss_one (ps_setLc (i := 8) (own := [("name", 6)]) (g := (gName 6)) (by rfl) sc_asked.nd rfl rfl (sw_true rfl rfl rfl (by decide +kernel)) (pi_list (pe_call (ok_standing T) hr rfl T.m_standing T.F_standing.kp T.b_standing .nil pass0 (pa_cons (pv 1) (pa_cons (pv 2) (pa_cons (pv 5) (pa_cons (pv 7) pa_nil)))))) (blkOk_by (N := N_asked) (sc := defScope s_asked) (own := [("name", 6)]) (by decide +kernel)) (fun _ _ _ _ _ => (pg_name (i := 6) sc_asked.nd rfl (Or.inl rfl))) (fun _ _ _ _ _ => pts_one ((pt_cmpR (op_notInK (K := K) rfl) (pv 6) (pv 11) rfl))) (fun _ _ _ _ _ => (pv 6)))))))))
      (pss_one (ps_ret (pe_tup (pa_cons (pv 4) (pa_cons (pe_call (ok_standing T) hr rfl T.m_standing T.F_standing.kp T.b_standing .nil pass0 (pa_cons (pv 1) (pa_cons (pv 2) (pa_cons (pv 5) (pa_cons (pv 7) pa_nil))))) pa_nil)))))))))), ?_⟩
    rw [Nn.st_asked]; try rw [Nn.cxK]
    try rw [Nn.cxW]
    walk_at "wx"
    refine ⟨f, rfl, (t.fn hI).1, ?_⟩
    walk_at "wx"
    refine ⟨(t.fn hI).1, (t.fn hI).2, ?_⟩
    refine t.say hI (by omega) (.inr h0) fun v H1 fr1 hI1 ha => ?_
    rw [hl0] at ha
    obtain ⟨p0, rfl, hp0⟩ := ha
    walk_at "wx"
    refine x_listL hp0 fun l hl => ?_
    have exl := Ex.new (o := .lst (l0.map nV)) hl
    have h2l := upd_same (H := H1) (a := l) (o := .lst (l0.map nV))
    have hl0' : H l = none := fr1.back l hl
    generalize upd H1 l (.lst (l0.map nV)) = H2 at exl h2l ⊢
    refine ⟨len_ok rfl, fun tp htp => ?_⟩
    have ext := Ex.new (o := .tup [V.int (start : Int), .ref l]) htp
    have h3t := upd_same (H := H2) (a := tp) (o := .tup [V.int (start : Int), .ref l])
    have h3l := ext.at h2l
    have htp0 : H tp = none := fr1.back tp (exl.back tp htp)
    generalize upd H2 tp (.tup [V.int (start : Int), .ref l]) = H3 at ext h3t h3l ⊢
    refine ⟨len_ok rfl, fun r hr' => ?_⟩
    have exr := Ex.new (o := .lst [V.ref tp]) hr'
    have h4r := upd_same (H := H3) (a := r) (o := .lst [V.ref tp])
    have h4t := exr.at h3t
    have h4l := exr.at h3l
    have hr0 : H r = none := fr1.back r (exl.back r (ext.back r hr'))
    generalize upd H3 r (.lst [V.ref tp]) = H4 at exr h4r h4t h4l ⊢
    have ex14 := (exl.trans ext).trans exr
    have hI4 := t.exI hI1 ex14
    have fr4 : Fr t.S H H4 := fr1.trans ex14.fr
    clear hp0 exl ext exr h2l h3t h3l hl htp hr' ex14
    walk_at "wx"
    refine LcW.filt (emb := nV) (xs := l0) (fun x => !decide (x = start)) (SqL.of h4l) (by rw [sizeLine_eq]; omega) (fun x _ H5 ex5 R hR => ?_) (fun x _ _ H5 ex5 Qe hQ => ?_) fun sa H5 hsa ex5 h5 => ?_
    · walk_at "wx"
      have e : decide ((x : Int) = (start : Int)) = decide (x = start) := decide_eq_decide.mpr ⟨fun z => Int.ofNat.inj z, fun z => by rw [z]⟩
      rw [e]
      exact hR _ Ex.refl
    · walk_at "wx"
      exact hQ
    have hsa0 : H sa = none := fr4.back sa hsa
    have h5r := ex5.at h4r
    have h5t := ex5.at h4t
    have h5l := ex5.at h4l
    have nsl : l ≠ sa := ne_of_none h4l hsa
    have hI5 := t.exI hI4 ex5
    have fr5 : Fr t.S H H5 := fr4.trans ex5.fr
    clear h4r h4t h4l hI4 fr4 ex5 hsa
    walk_at "wx"
    refine ⟨len_ok rfl, fun qa hqa => ?_⟩
    have ex6 := Ex.new (o := .lst []) hqa
    have h6q := upd_same (H := H5) (a := qa) (o := .lst [])
    have hqa0 : H qa = none := fr5.back qa hqa
    have nsq : sa ≠ qa := ne_of_none h5 hqa
    have nlq : l ≠ qa := ne_of_none h5l hqa
    generalize upd H5 qa (.lst []) = H6 at ex6 h6q ⊢
    have hI6 := t.exI hI5 ex6
    have fr6 : Fr t.S H H6 := fr5.trans ex6.fr
    have a6 : AskAt H H6 r sa qa [(tp, some l)] (AskSt.run (t.t1 g start) start g room 0) := by
      have e0 : AskSt.run (t.t1 g start) start g room 0 = ⟨[(start, some l0)], l0.filter fun x => !decide (x = start), []⟩ := by
        show AskSt.first (t.t1 g start) start = _
        unfold AskSt.first
        have e1 : t.t1 g start start = some l0 := hl0
        rw [e1]; rfl
      rw [e0]
      refine ⟨⟨ex6.at h5r, rfl, fun i e x he hx => ?_, by simp, by simp, hr0⟩, ex6.at h5, h6q, ⟨hsa0, hqa0⟩, nsq, fun e he => ?_⟩
      · cases i with
        | zero =>
          cases he; cases hx
          exact ⟨ex6.at h5t, htp0, fun l' e => ⟨l, rfl, by cases e; exact ex6.at h5l, hl0'⟩, fun e => by cases e⟩
        | succ i => simp at he
      · rw [List.mem_singleton.mp he]
        exact ⟨fun z => nsl (Option.some.inj z), fun z => nlq (Option.some.inj z)⟩
    have c6 : cs ++ [(start, g, start)] = cs ++ rowC (AskSt.run (t.t1 g start) start g room 0).row g start := rfl
    rw [c6] at hI6
    clear h5r h5t h5l h5 hI5 fr5 ex6 h6q hqa hI1 fr1 c6 nsq nlq nsl hl0'
    have byl : ∀ k, (byN g (AskSt.run (t.t1 g start) start g room k).seen).length < 64 := fun k => byN_lt (fun x hx => ((hok k).sn x hx).1) hnl
    have rl : ∀ k, (AskSt.run (t.t1 g start) start g room k).row.length ≤ 63 := fun k => by have := (hok k).len; omega
    have sl : ∀ k, (AskSt.run (t.t1 g start) start g room k).seen.length ≤ 6300 := fun k => by have := (hok k).sl; have := rl k; omega
    have ql : ∀ k, (AskSt.run (t.t1 g start) start g room k).quiet.length ≤ 63 := fun k => by have := (hok k).ql; have := rl k; omega
    have lst : ∀ k, (standN g room (AskSt.run (t.t1 g start) start g room k).seen (AskSt.run (t.t1 g start) start g room k).quiet).length ≤ 64 := fun k => by
      unfold standN
      refine Nat.le_trans (List.length_take_le' _ _) (Nat.le_trans (nodup_len (byN_nodup _ _) (b := byN g (AskSt.run (t.t1 g start) start g room k).seen) fun x hx => mem_byN.mpr (List.mem_filter.mp (mem_byN.mp hx)).1) ?_)
      have := byl k; omega
    walk_at "wx"
    refine wc_standing rfl rfl (SqL.of a6.sn) (SqL.of a6.qt) ⟨byl 0, by have := sl 0; omega, by have := ql 0; omega⟩ fun la H7 hla ex7 h7 => ?_
    have hS : ∀ b, t.S b → H b ≠ none := fun b z => t.live hI (t.sub _ z)
    have a7 : AskAt H H7 r sa qa [(tp, some l)] (AskSt.run (t.t1 g start) start g room 0) := a6.fr ex7 fun _ z => z.elim
    have hI7 := t.exI hI6 ex7
    have e7 : standN g room (AskSt.run (t.t1 g start) start g room 0).seen (AskSt.run (t.t1 g start) start g room 0).quiet = (AskSt.run (t.t1 g start) start g room 0).left g room := by
      unfold AskSt.left
      refine (List.filter_eq_self.mpr fun x hx => ?_).symm
      have h1 := ((hok 0).sn x (AskSt.mem_stand hx).1).2
      have h2 : (AskSt.run (t.t1 g start) start g room 0).done = [start] := rfl
      rw [h2]; simp [h1]
    rw [e7] at h7
    walk_at "wx"
    refine x_while (W := fun mm σ H' => ∃ (es : List (Addr × Option Addr)) (k : Nat) (la : Addr) (v9 v10 v11 : Option V), σ = [some (.int start), some (.int g), some (.int room), some (.ref f), some (.ref r), some (.ref sa), none, some (.ref qa), some (.ref la), v9, v10, v11] ∧ Fr t.S H H' ∧ AskAt H H' r sa qa es (AskSt.run (t.t1 g start) start g room k) ∧
        H' la = some (.lst (((AskSt.run (t.t1 g start) start g room k).left g room).map nV)) ∧ t.I H' (cs ++ rowC (AskSt.run (t.t1 g start) start g room k).row g start) ∧ mm + k = 64) (m := 64)
      ⟨_, 0, la, _, _, _, rfl, fr6.trans ex7.fr, a7, h7, hI7, rfl⟩ ?_
    clear a6 a7 hI6 hI7 fr6 h7 ex7 hla e7 hl0 hl1 hl2 htp0
    rintro mm σ H8 ⟨es, k, la, v9, v10, v11, rfl, fr8, a8, h8, hI8, hmm⟩
    have hrl := rl k
    have hcsl : (cs ++ rowC (AskSt.run (t.t1 g start) start g room k).row g start).length ≤ 1000000 := by
      unfold rowC; rw [List.length_append, List.length_map]; omega
    walk_at "wx"
    refine x_whD (fun hlt => ?_) fun hge => ?_
    · obtain ⟨x, rest, hx⟩ : ∃ x rest, (AskSt.run (t.t1 g start) start g room k).left g room = x :: rest := by
        cases e : (AskSt.run (t.t1 g start) start g room k).left g room with
        | nil => rw [e] at hlt; simp at hlt
        | cons x rest => exact ⟨x, rest, rfl⟩
      have hkl := AskSt.run_len (k := k) (by rw [hx]; simp)
      have hnext := AskSt.run_next hx
      rw [hx, List.map_cons] at h8
      walk_at "wx"
      refine ⟨f, rfl, (t.fn hI8).1, ?_⟩
      walk_at "wx"
      refine ⟨(t.fn hI8).1, (t.fn hI8).2, ?_⟩
      refine t.say (h := x) (g := g) (a := start) hI8 hcsl (.inl ((hok k).sn x (AskSt.mem_left (by rw [hx]; exact List.mem_cons_self)).1).1) fun v H9 fr9 hI9 ha => ?_
      have a9 := a8.fr fr9 hS
      have fr09 := fr8.trans fr9
      clear hI8 a8 h8 fr8 fr9
      have hqt := a9.qt
      have hro := a9.ra.ro
      have hsn := a9.sn
      have hql := ql k
      have hsl := sl k
      have hel := a9.ra.len
      have nr := a9.rne
      have nF : ∀ b, H b = none → ¬ t.FF b := fun b z => t.new hI z
      walk_at "wx"
      refine x_cut (fun σ' H' => ∃ (es' : List (Addr × Option Addr)), σ' = [some (.int start), some (.int g), some (.int room), some (.ref f), some (.ref r), some (.ref sa), none, some (.ref qa), some (.ref la), some (.int x), some v, v11] ∧ Fr t.S H H' ∧ AskAt H H' r sa qa es' (AskSt.run (t.t1 g start) start g room (k + 1)) ∧ t.I H' (cs ++ rowC (AskSt.run (t.t1 g start) start g room (k + 1)).row g start)) ?_ ?_
      · rw [hnext]
        have e1 : t.t1 g start x = t.tell x g start := rfl
        rw [e1]
        cases e : t.tell x g start with
        | none =>
          rw [e] at ha
          obtain rfl : v = .non := ha
          walk_at "wx"
          have hI10 := t.mut (o := .lst ((AskSt.run (t.t1 g start) start g room k).quiet.map nV ++ [V.int (x : Int)])) hI9 hqt (nF _ a9.new.2)
          have fr10 : Fr t.S H (upd H9 qa (.lst ((AskSt.run (t.t1 g start) start g room k).quiet.map nV ++ [V.int (x : Int)]))) := fr09.mut a9.new.2 hqt
          have h10q := upd_same (H := H9) (a := qa) (o := .lst ((AskSt.run (t.t1 g start) start g room k).quiet.map nV ++ [V.int (x : Int)]))
          have kp10 : ∀ b o, H9 b = some o → b ≠ qa → upd H9 qa (.lst ((AskSt.run (t.t1 g start) start g room k).quiet.map nV ++ [V.int (x : Int)])) b = some o := fun b o h n => by rw [upd_ne n]; exact h
          generalize upd H9 qa (.lst ((AskSt.run (t.t1 g start) start g room k).quiet.map nV ++ [V.int (x : Int)])) = H10 at hI10 fr10 h10q kp10 ⊢
          have h10r := kp10 _ _ hro nr.2
          walk_at "wx"
          refine ⟨len_ok rfl, fun tp htp => ?_⟩
          have ext := Ex.new (o := .tup [V.int (x : Int), .non]) htp
          have h11t := upd_same (H := H10) (a := tp) (o := .tup [V.int (x : Int), .non])
          have htp9 : H9 tp = none := by
            cases z : H9 tp with
            | none => rfl
            | some o =>
              by_cases c : tp = qa
              · rw [c, h10q] at htp; cases htp
              · rw [kp10 _ _ z c] at htp; cases htp
          have kp11 : ∀ b o, H9 b = some o → b ≠ qa → upd H10 tp (.tup [V.int (x : Int), .non]) b = some o := fun b o h n => by
            rw [upd_ne fun z => by rw [z, htp9] at h; cases h]; exact kp10 b o h n
          have h11q := at_new (o := .tup [V.int (x : Int), .non]) htp h10q
          have hI11 := t.exI hI10 ext
          have fr11 := fr10.trans ext.fr
          generalize upd H10 tp (.tup [V.int (x : Int), .non]) = H11 at ext h11t kp11 h11q hI11 fr11 ⊢
          have h11r := kp11 _ _ hro nr.2
          walk_at "wx"
          have ntr : tp ≠ r := fun z => by rw [z, h11r] at h11t; cases h11t
          refine ⟨es ++ [(tp, none)], rfl, fr11.mut a9.ra.nr h11r, ?_, ?_⟩
          · refine a9.step (fun b o _ h n1 n2 n3 => ?_) ?_ ?_ ?_ rfl ⟨?_, fr09.back tp htp9, fun l z => (by cases z), fun _ => rfl⟩ fun l z => by cases z
            · rw [upd_ne n1]; exact kp11 b o h n3
            · rw [upd_same, List.map_append]; rfl
            · rw [upd_ne nr.1.symm]; exact kp11 _ _ hsn a9.ne.1
            · rw [upd_ne nr.2.symm, h11q]
              show _ = some (HO.lst (((AskSt.run (t.t1 g start) start g room k).quiet ++ [x]).map nV))
              rw [List.map_append]; rfl
            · rw [upd_ne ntr]; exact h11t
          · have q2 := t.mut (o := .lst ((es.map fun e => V.ref e.1) ++ [V.ref tp])) hI11 h11r (nF _ a9.ra.nr)
            have ec : cs ++ rowC (AskSt.run (t.t1 g start) start g room k).row g start ++ [(x, g, start)] = cs ++ rowC ((AskSt.run (t.t1 g start) start g room k).add start x none).row g start := by
              show _ = cs ++ rowC ((AskSt.run (t.t1 g start) start g room k).row ++ [(x, none)]) g start
              unfold rowC; rw [List.map_append, List.append_assoc]; rfl
            rw [← ec]; exact q2
        | some l =>
          rw [e] at ha
          obtain ⟨pl, rfl, hpl⟩ := ha
          obtain ⟨hl1, hl2⟩ := t.tl _ _ _ _ e
          walk_at "wx"
          refine x_listL hpl fun lc hlc => ?_
          have ex10 := Ex.new (o := .lst (l.map nV)) hlc
          have h10l := upd_same (H := H9) (a := lc) (o := .lst (l.map nV))
          generalize upd H9 lc (.lst (l.map nV)) = H10 at ex10 h10l ⊢
          refine ⟨len_ok rfl, fun tp htp => ?_⟩
          have ex11 := ex10.newT (o := .tup [nV x, .ref lc]) htp
          have h11t := upd_same (H := H10) (a := tp) (o := .tup [nV x, .ref lc])
          have h11l := at_new (o := .tup [nV x, .ref lc]) htp h10l
          have htp9 : H9 tp = none := ex10.back tp htp
          generalize upd H10 tp (.tup [nV x, .ref lc]) = H11 at ex11 h11t h11l ⊢
          clear h10l ex10 htp
          have h11r := ex11.at hro
          refine x_append h11r (by rw [sizeLine_eq, List.length_map]; omega) ?_
          have ntr : tp ≠ r := fun z => by rw [z, h11r] at h11t; cases h11t
          have nlr : lc ≠ r := fun z => by rw [z, hro] at hlc; cases hlc
          have nls : lc ≠ sa := fun z => by rw [z, hsn] at hlc; cases hlc
          have nlq : lc ≠ qa := fun z => by rw [z, hqt] at hlc; cases hlc
          have nts : tp ≠ sa := fun z => by rw [z, hsn] at htp9; cases htp9
          have hI12 := t.mut (o := .lst ((es.map fun e => V.ref e.1) ++ [V.ref tp])) (t.exI hI9 ex11) h11r (nF _ a9.ra.nr)
          have fr12 : Fr t.S H (upd H11 r (.lst ((es.map fun e => V.ref e.1) ++ [V.ref tp]))) := (fr09.trans ex11.fr).mut a9.ra.nr h11r
          have hpl12 : SqL K (upd H11 r (.lst ((es.map fun e => V.ref e.1) ++ [V.ref tp]))) pl (l.map nV) := (ex11.ls hpl).upd_ne' h11r (refs_ne a9.ra.r0)
          have h12r := upd_same (H := H11) (a := r) (o := .lst ((es.map fun e => V.ref e.1) ++ [V.ref tp]))
          have h12t : upd H11 r (.lst ((es.map fun e => V.ref e.1) ++ [V.ref tp])) tp = _ := (upd_ne ntr).trans h11t
          have h12l : upd H11 r (.lst ((es.map fun e => V.ref e.1) ++ [V.ref tp])) lc = _ := (upd_ne nlr).trans h11l
          have kp12 : ∀ b o, NT o → H9 b = some o → b ≠ r → upd H11 r (.lst ((es.map fun e => V.ref e.1) ++ [V.ref tp])) b = some o := fun b o nt h n => by rw [upd_ne n]; exact ex11.at h nt
          generalize upd H11 r (.lst ((es.map fun e => V.ref e.1) ++ [V.ref tp])) = H12 at hI12 fr12 hpl12 h12r h12t h12l kp12 ⊢
          clear h11r h11t h11l ex11
          have h12s := kp12 _ _ (by trivial) hsn nr.1.symm
          have h12q := kp12 _ _ (by trivial) hqt nr.2.symm
          walk_at "wx"
          refine LcW.filt (emb := nV) (xs := l) (fun y => !decide (y = start)) hpl12 (by rw [sizeLine_eq]; omega) (fun y _ H13 ex13 R hR => ?_) (fun y _ _ H13 ex13 Qe hQ => ?_) fun p5 H13 hp5 ex13 h13 => ?_
          · walk_at "wx"
            have e : decide ((y : Int) = (start : Int)) = decide (y = start) := decide_eq_decide.mpr ⟨fun z => Int.ofNat.inj z, fun z => by rw [z]⟩
            rw [e]
            exact hR _ Ex.refl
          · walk_at "wx"
            exact hQ
          have h13s := ex13.at h12s
          refine x_extend h13s h13 (by rw [sizeLine_eq, List.length_map, List.length_map]; have := List.length_filter_le (fun y => !decide (y = start)) l; omega) ?_
          have fr13 : Fr t.S H H13 := fr12.trans ex13.fr
          refine ⟨es ++ [(tp, some lc)], rfl, fr13.mut a9.new.1 h13s, ?_, ?_⟩
          · refine a9.step (fun b o nt h n1 n2 n3 => ?_) ?_ ?_ ?_ rfl ⟨?_, fr09.back tp htp9, fun l' z => ⟨lc, rfl, ?_, fr09.back lc hlc⟩, fun z => (by cases z)⟩ fun l' z => by cases z; exact ⟨nls, nlq, hlc⟩
            · rw [upd_ne n2]; exact ex13.at (kp12 b o nt h n1) nt
            · rw [upd_ne nr.1, ex13.at h12r, List.map_append]; rfl
            · rw [upd_same]
              show _ = some (HO.lst (((AskSt.run (t.t1 g start) start g room k).seen ++ l.filter fun y => !decide (y = start)).map nV))
              rw [List.map_append]
            · rw [upd_ne a9.ne.1.symm]; exact ex13.at h12q
            · rw [upd_ne nts]; exact ex13.at h12t
            · cases z; rw [upd_ne nls]; exact ex13.at h12l
          · have q2 := t.mut (o := .lst ((AskSt.run (t.t1 g start) start g room k).seen.map nV ++ (l.filter fun y => !decide (y = start)).map nV)) (t.exI hI12 ex13) h13s (nF _ a9.new.1)
            have ec : cs ++ rowC (AskSt.run (t.t1 g start) start g room k).row g start ++ [(x, g, start)] = cs ++ rowC ((AskSt.run (t.t1 g start) start g room k).add start x (some l)).row g start := by
              show _ = cs ++ rowC ((AskSt.run (t.t1 g start) start g room k).row ++ [(x, some l)]) g start
              unfold rowC; rw [List.map_append, List.append_assoc]; rfl
            rw [← ec]; exact q2
      · rintro σ' H12 ⟨es', rfl, fr12, a12, hI12⟩
        have hro2 := a12.ra.ro
        have hrl2 := rl (k + 1)
        have hsl2 := sl (k + 1)
        have hql2 := ql (k + 1)
        clear hI9 a9 fr09 hqt hro hsn
        walk_at "wx"
        refine LcW.row (by decide) hro2 a12.ra.len (by omega) (fun i e y he hy => (a12.ra.at_ i e y he hy).tp) (by simp) fun D H13 hD ex13 h13 => ?_
        have a13 := a12.fr ex13 fun _ z => z.elim
        have hI13 := t.exI hI12 ex13
        walk_at "wx"
        refine wc_standing rfl rfl (SqL.of a13.sn) (SqL.of a13.qt) ⟨byl (k + 1), by omega, by omega⟩ fun p14 H14 hp14 ex14 h14 => ?_
        have a14 := a13.fr ex14 fun _ z => z.elim
        have hI14 := t.exI hI13 ex14
        have h14d := ex14.at h13
        have hdl : (AskSt.run (t.t1 g start) start g room (k + 1)).row.length ≤ 63 := hrl2
        walk_at "wx"
        refine LcW.filt (emb := nV) (xs := standN g room (AskSt.run (t.t1 g start) start g room (k + 1)).seen (AskSt.run (t.t1 g start) start g room (k + 1)).quiet) (fun y => !decide (y ∈ (AskSt.run (t.t1 g start) start g room (k + 1)).row.map (·.1))) (SqL.of h14) (by rw [sizeLine_eq]; have := lst (k + 1); omega) (fun y _ H15 ex15 R hR => ?_) (fun y _ _ H15 ex15 Qe hQ => ?_) fun p15 H15 hp15 ex15 h15 => ?_
        · walk_at "wx"
          exact hR _ Ex.refl
        · walk_at "wx"
          exact hQ
        walk_at "wx"
        exact ⟨mm - 1, by omega, es', k + 1, p15, _, _, _, rfl, ((fr12.trans ex13.fr).trans ex14.fr).trans ex15.fr, a14.fr ex15 fun _ z => z.elim, h15, t.exI hI14 ex15, by omega⟩
    · have hnil : (AskSt.run (t.t1 g start) start g room k).left g room = [] := by
        rw [List.length_map] at hge
        exact List.eq_nil_of_length_eq_zero (by omega)
      have hend := askEnd_eq (by omega) hnil
      have hsl := sl k
      have hql := ql k
      walk_at "wx"
      refine wc_standing rfl rfl (SqL.of a8.sn) (SqL.of a8.qt) ⟨byl k, by omega, by omega⟩ fun fd H9 hfd ex9 h9 => ?_
      refine ⟨len_ok rfl, fun p hp => ?_⟩
      have exp := Ex.new (o := .tup [V.ref r, V.ref fd]) hp
      have ex10 := ex9.trans exp
      refine q p r fd es _ (fr8.trans ex10.fr) (fr8.back p (ex9.back p hp)) upd_same ?_ (fr8.back fd hfd) ?_ (fun e he c => ?_) ?_
      · rw [hend]; exact a8.ra.fr ex10 fun _ z => z.elim
      · unfold askFound; rw [hend]; exact exp.at h9
      · obtain ⟨y, _, re⟩ := a8.ra.el he
        obtain ⟨_, _, g2, _⟩ := re.cell c
        rw [g2] at hfd; cases hfd
      · rw [hend]; exact t.exI hI8 ex10
end
end Nn
/-! asks find the nearest; ways lead there -/
namespace Nn
/-- who keeps whom; who answers -/
structure Net (pl : List Nat) (K : Nat → List Nat) (live : Nat → Bool) (room : Nat) : Prop where
  sub : ∀ h ∈ pl, ∀ x ∈ K h, x ∈ pl ∧ x ≠ h
  hole : ∀ h ∈ pl, ∀ y ∈ pl, live y = true → y ≠ h → ∃ z ∈ K h, live z = true ∧ stepN h z = stepN h y
  few : ∀ l : List Nat, l.Nodup → (∀ x ∈ l, x ∈ pl) → l.length = room → ∃ w ∈ l, live w = true
  r0 : 0 < room
/-- each tells of what it keeps the room nearest but the asker -/
def tellK (pl : List Nat) (K : Nat → List Nat) (live : Nat → Bool) (room : Nat) : Tell := fun h g a => if h ∈ pl ∧ live h = true then some (((byN g (K h)).filter fun n => !decide (n = a)).take room) else none
theorem byN_filter {g : Nat} {l : List Nat} {p : Nat → Bool} : (byN g l).filter p = byN g (l.filter p) :=
  byN_uniq ((byN_sorted g l).filter _) fun z => by rw [List.mem_filter, mem_byN, List.mem_filter]
theorem sorted_take {g m z : Nat} {l : List Nat} (hs : l.Pairwise fun a b => g ^^^ a < g ^^^ b) (hz : z ∈ l) (hn : z ∉ l.take m) : (l.take m).length = m ∧ ∀ w ∈ l.take m, g ^^^ w < g ^^^ z := by
  have hd : z ∈ l.drop m := by
    rw [← List.take_append_drop m l] at hz
    exact (List.mem_append.mp hz).resolve_left hn
  have hl : m < l.length := by
    have := List.length_pos_of_mem hd
    rw [List.length_drop] at this; omega
  refine ⟨by rw [List.length_take]; omega, fun w hw => ?_⟩
  rw [← List.take_append_drop m l] at hs
  exact (List.pairwise_append.mp hs).2.2 w hw z hd
/-- a name with so many nearer ones is not among the nearest -/
theorem rank_out {g m x : Nat} {D l : List Nat} (hD : D.Nodup) (hm : D.length = m) (hd : ∀ o ∈ D, o ∈ l ∧ g ^^^ o < g ^^^ x) : x ∉ (byN g l).take m := fun hx => by
  obtain ⟨i, hi⟩ := List.getElem?_of_mem hx
  have him : i < m := by
    have := (List.getElem?_eq_some_iff.mp hi).1
    rw [List.length_take] at this; omega
  rw [List.getElem?_take_of_lt him] at hi
  have hs := byN_sorted g l
  have hsub : ∀ o ∈ D, o ∈ (byN g l).take i := fun o ho => by
    obtain ⟨h1, h2⟩ := hd o ho
    have hob := mem_byN (g := g).mpr h1
    refine Classical.byContradiction fun hn => ?_
    have hod : o ∈ (byN g l).drop i := by
      rw [← List.take_append_drop i (byN g l)] at hob
      exact (List.mem_append.mp hob).resolve_left hn
    obtain ⟨hil, hix⟩ := List.getElem?_eq_some_iff.mp hi
    rw [List.drop_eq_getElem_cons hil, hix] at hod
    rcases List.mem_cons.mp hod with e | e
    · rw [e] at h2; omega
    · rw [← List.take_append_drop i (byN g l), List.drop_eq_getElem_cons hil, hix] at hs
      have := (List.pairwise_cons.mp (List.pairwise_append.mp hs).2.1).1 o e
      omega
  have := nodup_len hD hsub
  rw [List.length_take] at this
  omega
theorem take_same {g : Nat} : ∀ (m : Nat) {a b : List Nat}, a.Pairwise (fun x y => g ^^^ x < g ^^^ y) → b.Pairwise (fun x y => g ^^^ x < g ^^^ y) → (∀ x ∈ a, x ∈ b) → (∀ x ∈ b.take m, x ∈ a) → a.take m = b.take m
  | 0, _, _, _, _, _, _ => rfl
  | m + 1, [], [], _, _, _, _ => rfl
  | m + 1, [], y :: b, _, _, _, h => by have := h y (by simp); cases this
  | m + 1, x :: a, [], _, _, h, _ => by have := h x (by simp); cases this
  | m + 1, x :: a, y :: b, ha, hb, h1, h2 => by
    have ha' := List.pairwise_cons.mp ha
    have hb' := List.pairwise_cons.mp hb
    have e : x = y := by
      have q1 := h1 x (by simp)
      have q2 := h2 y (by simp)
      rcases List.mem_cons.mp q1 with e | e
      · exact e
      · rcases List.mem_cons.mp q2 with e2 | e2
        · exact e2.symm
        · have := hb'.1 x e
          have := ha'.1 y e2
          omega
    subst e
    rw [List.take_succ_cons, List.take_succ_cons, take_same m ha'.2 hb'.2 (fun z hz => ?_) fun z hz => ?_]
    · rcases List.mem_cons.mp (h1 z (List.mem_cons_of_mem _ hz)) with e | e
      · have := ha'.1 z hz
        rw [e] at this; omega
      · exact e
    · rcases List.mem_cons.mp (h2 z (by rw [List.take_succ_cons]; exact List.mem_cons_of_mem _ hz)) with e | e
      · have := hb'.1 z (List.mem_of_mem_take hz)
        rw [e] at this; omega
      · exact e
/-- all outside a half are nearer than all of it, or none is -/
theorem aside2 {g o z x k : Nat} (hz : z / 2 ^ k = x / 2 ^ k) (ho : o / 2 ^ k ≠ x / 2 ^ k) : g ^^^ o < g ^^^ z ↔ g ^^^ o < g ^^^ x :=
  (aside hz ho).trans (aside rfl ho).symm
theorem half_ne {y x : Nat} (h : y ≠ x) : y / 2 ^ stepN y x ≠ x / 2 ^ stepN y x := fun e => by
  have q := (stepN_eq h).mp rfl
  rw [← e] at q
  exact xor_one_ne q.symm
theorem half_eq {y x z : Nat} (h : y ≠ x) (h2 : y ≠ z) (e : stepN y z = stepN y x) : z / 2 ^ stepN y x = x / 2 ^ stepN y x := by
  rw [(stepN_eq h2).mp e, (stepN_eq h).mp rfl]
/-- of one half: nearer to one another -/
theorem half_near {y x o : Nat} (h : y ≠ x) (e : o / 2 ^ stepN y x = x / 2 ^ stepN y x) : o ^^^ x < y ^^^ x := by
  have hp := Nat.two_pow_pos (stepN y x)
  have e3 : (o ^^^ x) / 2 ^ stepN y x = 0 := by rw [xor_div_pow, e, Nat.xor_self]
  have h2 : 2 ^ stepN y x ≤ y ^^^ x := Nat.log2_self_le (xor_ne_zero h)
  rcases Nat.div_eq_zero_iff.mp e3 with q | q <;> omega
theorem least_of {f : Nat → Nat} : ∀ {l : List Nat}, l ≠ [] → ∃ y ∈ l, ∀ h ∈ l, f y ≤ f h
  | [], h => absurd rfl h
  | [x], _ => ⟨x, by simp, fun h hh => by rw [List.mem_singleton.mp hh]; exact Nat.le_refl _⟩
  | x :: y :: r, _ => by
    obtain ⟨z, hz, hl⟩ := least_of (f := f) (l := y :: r) (List.cons_ne_nil _ _)
    by_cases e : f x ≤ f z
    · exact ⟨x, by simp, fun h hh => (List.mem_cons.mp hh).elim (fun q => by rw [q]; exact Nat.le_refl _) fun q => Nat.le_trans e (hl h q)⟩
    · exact ⟨z, List.mem_cons_of_mem _ hz, fun h hh => (List.mem_cons.mp hh).elim (fun q => by rw [q]; omega) fun q => hl h q⟩
section
variable {pl : List Nat} {K : Nat → List Nat} {live : Nat → Bool} {room start g : Nat}
abbrev tK (pl : List Nat) (K : Nat → List Nat) (live : Nat → Bool) (room g start : Nat) : Nat → Option (List Nat) := fun h => tellK pl K live room h g start
theorem tellK_mem (n : Net pl K live room) {h a : Nat} {l : List Nat} (e : tellK pl K live room h g a = some l) : ∀ x ∈ l, x ∈ pl := by
  unfold tellK at e
  split at e
  · rename_i q
    cases e
    intro x hx
    exact (n.sub h q.1 x (mem_byN.mp ((List.mem_filter.mp (List.mem_of_mem_take hx)).1))).1
  · cases e
/-- what an ask has seen at its end -/
structure Ended (pl : List Nat) (K : Nat → List Nat) (live : Nat → Bool) (room start g : Nat) (s : AskSt) : Prop where
  ok : s.Ok (tK pl K live room g start) start pl
  lf : s.left g room = []
  st : start ∈ pl
  lv : live start = true
theorem Ended.dnp {s : AskSt} (e : Ended pl K live room start g s) {h : Nat} (hh : h ∈ s.done) : h ∈ pl := (e.ok.dn h hh).elim (fun z => by rw [z]; exact e.st) id
theorem Ended.quiet {s : AskSt} (e : Ended pl K live room start g s) {h : Nat} : h ∈ s.quiet ↔ h ∈ s.done ∧ live h = false := by
  rw [e.ok.qd]
  refine and_congr_right fun hd => ?_
  show tellK pl K live room h g start = none ↔ _
  unfold tellK
  have hp := e.dnp hd
  cases hl : live h with
  | true => rw [if_pos ⟨hp, rfl⟩]; simp
  | false => rw [if_neg fun z => by cases z.2]; simp
theorem Ended.stand {s : AskSt} (e : Ended pl K live room start g s) {x : Nat} (hx : x ∈ standN g room s.seen s.quiet) : x ∈ s.seen ∧ x ∈ s.done ∧ live x = true := by
  have q := AskSt.mem_stand hx
  have hd : x ∈ s.done := Classical.byContradiction fun z => by
    have : x ∈ s.left g room := List.mem_filter.mpr ⟨hx, by simp [z]⟩
    rw [e.lf] at this; cases this
  refine ⟨q.1, hd, ?_⟩
  cases hl : live x with
  | true => rfl
  | false => exact absurd (e.quiet.mpr ⟨hd, hl⟩) q.2
/-- the heart of it: of a living name that was not met, so many living ones that were met are nearer, or at least one -/
theorem Ended.far {s : AskSt} (n : Net pl K live room) (e : Ended pl K live room start g s) {x : Nat} (hx : x ∈ pl) (hlx : live x = true) (hs : x ≠ start) (hn : x ∉ s.seen) :
    ((∀ h ∈ pl, live h = true) → ∃ D : List Nat, D.Nodup ∧ D.length = room ∧ ∀ o ∈ D, (o ∈ pl ∧ o ≠ start) ∧ g ^^^ o < g ^^^ x) ∧ ∃ o, o ∈ pl ∧ o ≠ start ∧ live o = true ∧ g ^^^ o < g ^^^ x := by
  have hxd : x ∉ s.done := fun z => (e.ok.sd x z).elim hs hn
  -- the answering one that was asked and is nearest to x
  have hne : s.done.filter live ≠ [] := fun z => by
    have : start ∈ s.done.filter live := List.mem_filter.mpr ⟨e.ok.st, e.lv⟩
    rw [z] at this; cases this
  obtain ⟨y, hy, hmin⟩ := least_of (f := fun h => h ^^^ x) hne
  obtain ⟨hyd, hyl⟩ := List.mem_filter.mp hy
  have hyp := e.dnp hyd
  have hyx : y ≠ x := fun z => hxd (by rw [← z]; exact hyd)
  obtain ⟨z, hzK, hzl, hzs⟩ := n.hole y hyp x hx hlx (fun w => hyx w.symm)
  obtain ⟨hzp, hzy⟩ := n.sub y hyp z hzK
  have hzh : z / 2 ^ stepN y x = x / 2 ^ stepN y x := half_eq hyx (fun w => hzy w.symm) hzs
  -- who answered is not of x' half
  have hout : ∀ o ∈ s.done, live o = true → o / 2 ^ stepN y x ≠ x / 2 ^ stepN y x := fun o ho hol q => by
    have h1 := half_near hyx q
    have h2 := hmin o (List.mem_filter.mpr ⟨ho, hol⟩)
    omega
  have hzst : z ≠ start := fun w => hout start e.ok.st e.lv (by rw [← w]; exact hzh)
  -- one of x' half that was seen and answers
  have met : ∀ w, w ∈ s.seen → live w = true → w / 2 ^ stepN y x = x / 2 ^ stepN y x → ((∀ h ∈ pl, live h = true) → ∃ D : List Nat, D.Nodup ∧ D.length = room ∧ ∀ o ∈ D, (o ∈ pl ∧ o ≠ start) ∧ g ^^^ o < g ^^^ x) ∧ ∃ o, o ∈ pl ∧ o ≠ start ∧ live o = true ∧ g ^^^ o < g ^^^ x := fun w hw hwl hwh => by
    have hwq : w ∉ s.quiet := fun q => by have := (e.quiet.mp q).2; rw [hwl] at this; cases this
    have hwd : w ∉ s.done := fun q => hout w q hwl hwh
    have hwb : w ∈ byN g (s.seen.filter fun x => !decide (x ∈ s.quiet)) := mem_byN.mpr (List.mem_filter.mpr ⟨hw, by simp [hwq]⟩)
    have hwL : w ∉ (byN g (s.seen.filter fun x => !decide (x ∈ s.quiet))).take room := fun q => hwd (e.stand q).2.1
    obtain ⟨t1, t2⟩ := sorted_take (byN_sorted g _) hwb hwL
    have all : ∀ o ∈ (byN g (s.seen.filter fun x => !decide (x ∈ s.quiet))).take room, ((o ∈ pl ∧ o ≠ start) ∧ g ^^^ o < g ^^^ x) ∧ live o = true := fun o ho => by
      obtain ⟨q1, q2, q3⟩ := e.stand ho
      exact ⟨⟨e.ok.sn o q1, (aside2 hwh (hout o q2 q3)).mp (t2 o ho)⟩, q3⟩
    refine ⟨fun _ => ⟨_, (byN_nodup g _).sublist (List.take_sublist _ _), t1, fun o ho => (all o ho).1⟩, ?_⟩
    obtain ⟨o, ho⟩ := List.exists_mem_of_length_pos (by rw [t1]; exact n.r0 : 0 < ((byN g (s.seen.filter fun x => !decide (x ∈ s.quiet))).take room).length)
    obtain ⟨⟨⟨q1, q2⟩, q3⟩, q4⟩ := all o ho
    exact ⟨o, q1, q2, q4, q3⟩
  have told : ∀ w ∈ ((byN g (K y)).filter fun n => !decide (n = start)).take room, w ∈ s.seen := fun w hw => by
    have hty : tK pl K live room g start y = some (((byN g (K y)).filter fun n => !decide (n = start)).take room) := by
      show tellK pl K live room y g start = _
      unfold tellK; rw [if_pos ⟨hyp, hyl⟩]
    refine (e.ok.tl y hyd _ hty w hw).resolve_left fun q => ?_
    have := (List.mem_filter.mp (List.mem_of_mem_take hw)).2
    simp [q] at this
  have hzM : z ∈ (byN g (K y)).filter fun n => !decide (n = start) := List.mem_filter.mpr ⟨mem_byN.mpr hzK, by simp [hzst]⟩
  by_cases hzt : z ∈ ((byN g (K y)).filter fun n => !decide (n = start)).take room
  · exact met z (told z hzt) hzl hzh
  · obtain ⟨t1, t2⟩ := sorted_take ((byN_sorted g (K y)).filter _) hzM hzt
    have tnd : (((byN g (K y)).filter fun n => !decide (n = start)).take room).Nodup := ((byN_nodup g (K y)).filter _).sublist (List.take_sublist _ _)
    have tp : ∀ w ∈ ((byN g (K y)).filter fun n => !decide (n = start)).take room, w ∈ pl ∧ w ≠ start := fun w hw => by
      obtain ⟨q1, q2⟩ := List.mem_filter.mp (List.mem_of_mem_take hw)
      exact ⟨(n.sub y hyp w (mem_byN.mp q1)).1, by simpa using q2⟩
    by_cases hh : ∃ w ∈ ((byN g (K y)).filter fun n => !decide (n = start)).take room, live w = true ∧ w / 2 ^ stepN y x = x / 2 ^ stepN y x
    · obtain ⟨w, hw, hwl, hwh⟩ := hh
      exact met w (told w hw) hwl hwh
    · obtain ⟨w, hw, hwl⟩ := n.few _ tnd (fun w hw => (tp w hw).1) t1
      have hwn : w / 2 ^ stepN y x ≠ x / 2 ^ stepN y x := fun q => hh ⟨w, hw, hwl, q⟩
      exact ⟨fun hall => ⟨_, tnd, t1, fun o ho => ⟨tp o ho, (aside2 hzh fun q => hh ⟨o, ho, hall o (tp o ho).1, q⟩).mp (t2 o ho)⟩⟩, w, (tp w hw).1, (tp w hw).2, hwl, (aside2 hzh hwn).mp (t2 w hw)⟩
/-- where all answer: so many that are nearest -/
theorem Ended.all {s : AskSt} (n : Net pl K live room) (e : Ended pl K live room start g s) (hall : ∀ h ∈ pl, live h = true) : standN g room s.seen s.quiet = (byN g (pl.filter fun x => !decide (x = start))).take room := by
  have hq : s.quiet = [] := List.eq_nil_iff_forall_not_mem.mpr fun x hx => by
    obtain ⟨q1, q2⟩ := e.quiet.mp hx
    rw [hall x (e.dnp q1)] at q2; cases q2
  unfold standN
  rw [hq]
  have ef : (s.seen.filter fun x => !decide (x ∈ ([] : List Nat))) = s.seen := List.filter_eq_self.mpr fun x _ => by simp
  rw [ef]
  refine take_same room (byN_sorted g _) (byN_sorted g _) (fun x hx => ?_) fun x hx => ?_
  · obtain ⟨q1, q2⟩ := e.ok.sn x (mem_byN.mp hx)
    exact mem_byN.mpr (List.mem_filter.mpr ⟨q1, by simp [q2]⟩)
  · obtain ⟨q1, q2⟩ := List.mem_filter.mp (mem_byN.mp (List.mem_of_mem_take hx))
    have q2 : x ≠ start := by simpa using q2
    refine mem_byN.mpr (Classical.byContradiction fun hn => ?_)
    obtain ⟨D, d1, d2, d3⟩ := (e.far n q1 (hall x q1) q2 hn).1 hall
    refine rank_out (g := g) (x := x) (l := pl.filter fun x => !decide (x = start)) d1 d2 (fun o ho => ?_) hx
    obtain ⟨⟨g1, g2⟩, g3⟩ := d3 o ho
    exact ⟨List.mem_filter.mpr ⟨g1, by simp [g2]⟩, g3⟩
/-- the nearest of all others that answer is found first -/
theorem Ended.first {s : AskSt} (n : Net pl K live room) (e : Ended pl K live room start g s) : (standN g room s.seen s.quiet).head? = (byN g (pl.filter fun x => live x && !decide (x = start))).head? := by
  have sub : ∀ x ∈ standN g room s.seen s.quiet, x ∈ pl.filter fun x => live x && !decide (x = start) := fun x hx => by
    obtain ⟨q1, q2, q3⟩ := e.stand hx
    obtain ⟨q4, q5⟩ := e.ok.sn x q1
    exact List.mem_filter.mpr ⟨q4, by simp [q3, q5]⟩
  cases eb : byN g (pl.filter fun x => live x && !decide (x = start)) with
  | nil =>
    cases es : standN g room s.seen s.quiet with
    | nil => rfl
    | cons x r =>
      have := mem_byN (g := g).mpr (sub x (by rw [es]; simp))
      rw [eb] at this; cases this
  | cons x r =>
    have hxm : x ∈ pl.filter fun x => live x && !decide (x = start) := mem_byN (g := g).mp (by rw [eb]; simp)
    obtain ⟨hxp, hx2⟩ := List.mem_filter.mp hxm
    rw [Bool.and_eq_true] at hx2
    obtain ⟨hxl, hxs⟩ := hx2
    have hxs : x ≠ start := by simpa using hxs
    have hmin : ∀ o, o ∈ pl → o ≠ start → live o = true → g ^^^ x ≤ g ^^^ o := fun o h1 h2 h3 => by
      have ho : o ∈ byN g (pl.filter fun x => live x && !decide (x = start)) := mem_byN.mpr (List.mem_filter.mpr ⟨h1, by simp [h2, h3]⟩)
      have hs := byN_sorted g (pl.filter fun x => live x && !decide (x = start))
      rw [eb] at ho hs
      rcases List.mem_cons.mp ho with q | q
      · rw [q]; exact Nat.le_refl _
      · exact Nat.le_of_lt ((List.pairwise_cons.mp hs).1 o q)
    have hxseen : x ∈ s.seen := Classical.byContradiction fun hn => by
      obtain ⟨o, o1, o2, o3, o4⟩ := (e.far n hxp hxl hxs hn).2
      have := hmin o o1 o2 o3
      omega
    have hxq : x ∉ s.quiet := fun q => by have := (e.quiet.mp q).2; rw [hxl] at this; cases this
    have hxb : x ∈ byN g (s.seen.filter fun x => !decide (x ∈ s.quiet)) := mem_byN.mpr (List.mem_filter.mpr ⟨hxseen, by simp [hxq]⟩)
    cases ea : byN g (s.seen.filter fun x => !decide (x ∈ s.quiet)) with
    | nil => rw [ea] at hxb; cases hxb
    | cons y r' =>
      have hr := n.r0
      obtain ⟨m, rfl⟩ : ∃ m, room = m + 1 := ⟨room - 1, by omega⟩
      have hst : standN g (m + 1) s.seen s.quiet = y :: r'.take m := by unfold standN; rw [ea]; rfl
      rw [hst]
      have hy := sub y (by rw [hst]; simp)
      obtain ⟨y1, y2⟩ := List.mem_filter.mp hy
      rw [Bool.and_eq_true] at y2
      have q1 := hmin y y1 (by simpa using y2.2) y2.1
      have hs := byN_sorted g (s.seen.filter fun x => !decide (x ∈ s.quiet))
      rw [ea] at hxb hs
      have exy : y = x := by
        rcases List.mem_cons.mp hxb with q | q
        · exact q.symm
        · have := (List.pairwise_cons.mp hs).1 x q
          omega
      rw [exy]; rfl
/-- the next house of a way -/
theorem way_next (n : Net pl K live room) {x n0 : Nat} (hx : x ∈ pl) (hxl : live x = true) (h0 : n0 ∈ pl) (hl0 : live n0 = true) (hmin : ∀ o ∈ pl, live o = true → g ^^^ n0 ≤ g ^^^ o) (hne : x ≠ n0) :
    ∃ y, onwN (tellK pl K live room) x g = some y ∧ y ∈ pl ∧ live y = true ∧ g ^^^ y < g ^^^ x ∧ (y = n0 ∨ stepN y n0 < stepN x n0) := by
  obtain ⟨z, hzK, hzl, hzs⟩ := n.hole x hx n0 h0 hl0 (fun w => hne w.symm)
  obtain ⟨hzp, hzx⟩ := n.sub x hx z hzK
  have hzh : z / 2 ^ stepN x n0 = n0 / 2 ^ stepN x n0 := half_eq hne (fun w => hzx w.symm) hzs
  have hxh := half_ne hne
  have h1 : g ^^^ n0 < g ^^^ x := by
    have q := hmin x hx hxl
    have : g ^^^ n0 ≠ g ^^^ x := fun e => hne (xor_inj e).symm
    omega
  have hzlt : g ^^^ z < g ^^^ x := by
    have q : ¬ g ^^^ x < g ^^^ z := fun q => by
      have := (aside2 hzh hxh).mp q
      omega
    have : g ^^^ z ≠ g ^^^ x := fun e => hzx (xor_inj e)
    omega
  have eL : tellK pl K live room x g x = some (((byN g (K x)).filter fun n => !decide (n = x)).take room) := by unfold tellK; rw [if_pos ⟨hx, hxl⟩]
  have tp : ∀ w ∈ ((byN g (K x)).filter fun n => !decide (n = x)).take room, w ∈ pl ∧ w ≠ x := fun w hw => by
    obtain ⟨q1, q2⟩ := List.mem_filter.mp (List.mem_of_mem_take hw)
    exact ⟨(n.sub x hx w (mem_byN.mp q1)).1, by simpa using q2⟩
  have hzM : z ∈ (byN g (K x)).filter fun n => !decide (n = x) := List.mem_filter.mpr ⟨mem_byN.mpr hzK, by simp [hzx]⟩
  have tnd : (((byN g (K x)).filter fun n => !decide (n = x)).take room).Nodup := ((byN_nodup g (K x)).filter _).sublist (List.take_sublist _ _)
  obtain ⟨w, hw, hwl, hwz⟩ : ∃ w ∈ ((byN g (K x)).filter fun n => !decide (n = x)).take room, live w = true ∧ g ^^^ w ≤ g ^^^ z := by
    by_cases hzt : z ∈ ((byN g (K x)).filter fun n => !decide (n = x)).take room
    · exact ⟨z, hzt, hzl, Nat.le_refl _⟩
    · obtain ⟨t1, t2⟩ := sorted_take ((byN_sorted g (K x)).filter _) hzM hzt
      obtain ⟨w, hw, hwl⟩ := n.few _ tnd (fun w hw => (tp w hw).1) t1
      exact ⟨w, hw, hwl, Nat.le_of_lt (t2 w hw)⟩
  generalize hL : ((byN g (K x)).filter fun n => !decide (n = x)).take room = L at eL tp tnd hw
  have eo : onwN (tellK pl K live room) x g = (byN g L).find? fun n => (tellK pl K live room n g x).isSome := by unfold onwN; rw [eL]; rfl
  have hsome : ∀ o ∈ pl, (tellK pl K live room o g x).isSome = live o := fun o ho => by
    unfold tellK
    cases e : live o with
    | true => rw [if_pos ⟨ho, rfl⟩]; rfl
    | false => rw [if_neg fun z => by cases z.2]; rfl
  cases ef : (byN g L).find? fun n => (tellK pl K live room n g x).isSome with
  | none =>
    have q := List.find?_eq_none.mp ef w (mem_byN.mpr hw)
    rw [hsome w (tp w hw).1, hwl] at q
    exact absurd rfl q
  | some y =>
    have hym := mem_byN.mp (List.mem_of_find?_eq_some ef)
    have hyl := List.find?_some ef
    rw [hsome y (tp y hym).1] at hyl
    -- none that answers is ahead of it
    have hyw : g ^^^ y ≤ g ^^^ w := by
      obtain ⟨i, hi, hia, hib⟩ := List.find?_eq_some_iff_getElem.mp ef |>.2
      have hs := byN_sorted g L
      have hwb := mem_byN (g := g).mpr hw
      obtain ⟨j, hj⟩ := List.getElem?_of_mem hwb
      obtain ⟨hjl, hjw⟩ := List.getElem?_eq_some_iff.mp hj
      rcases Nat.lt_trichotomy j i with q | q | q
      · have := hib j q
        rw [hjw, hsome w (tp w hw).1, hwl] at this
        cases this
      · subst q; rw [← hia, hjw]; exact Nat.le_refl _
      · have := List.pairwise_iff_getElem.mp hs i j hi hjl q
        rw [hia, hjw] at this
        exact Nat.le_of_lt this
    refine ⟨y, by rw [eo, ef], (tp y hym).1, hyl, by omega, ?_⟩
    by_cases e : y = n0
    · exact .inl e
    · right
      have hyh : y / 2 ^ stepN x n0 = n0 / 2 ^ stepN x n0 := Classical.byContradiction fun q => by
        have hyz : y ≠ z := fun w => q (by rw [w]; exact hzh)
        have h2 : g ^^^ y < g ^^^ z := by
          have : g ^^^ y ≠ g ^^^ z := fun e => hyz (xor_inj e)
          omega
        have h3 := (aside2 hzh q).mp h2
        have := hmin y (tp y hym).1 hyl
        omega
      have e3 : (y ^^^ n0) / 2 ^ stepN x n0 = 0 := by rw [xor_div_pow, hyh, Nat.xor_self]
      have hp := Nat.two_pow_pos (stepN x n0)
      have h4 : y ^^^ n0 < 2 ^ stepN x n0 := by
        rcases Nat.div_eq_zero_iff.mp e3 with q | q
        · omega
        · exact q
      exact (Nat.log2_lt (xor_ne_zero e)).mpr h4
theorem way_end (n : Net pl K live room) {n0 : Nat} (h0 : n0 ∈ pl) (hl0 : live n0 = true) (hmin : ∀ o ∈ pl, live o = true → g ^^^ n0 ≤ g ^^^ o) : wayN (tellK pl K live room) g n0 = [n0] := by
  cases e : onwN (tellK pl K live room) n0 g with
  | none => exact wayN_none e
  | some y =>
    obtain ⟨⟨l, h1, h2⟩, h3⟩ := onwN_mem e
    have hyp := tellK_mem n h1 y h2
    have hyl : live y = true := by
      unfold tellK at h3
      split at h3
      · rename_i q; exact q.2
      · cases h3
    exact wayN_far e (by have := hmin y hyp hyl; omega)
/-- a way leads to the nearest that answers, in few steps -/
theorem way_leads (n : Net pl K live room) {n0 : Nat} (h0 : n0 ∈ pl) (hl0 : live n0 = true) (hmin : ∀ o ∈ pl, live o = true → g ^^^ n0 ≤ g ^^^ o) : ∀ (s x : Nat), stepN x n0 < s → x ∈ pl → live x = true → x ≠ n0 →
    (∃ r, wayN (tellK pl K live room) g x = x :: r) ∧ (wayN (tellK pl K live room) g x).getLast? = some n0 ∧ (wayN (tellK pl K live room) g x).length ≤ stepN x n0 + 2 ∧ (wayN (tellK pl K live room) g x).Pairwise (fun a b => g ^^^ b < g ^^^ a) ∧ (∀ y ∈ wayN (tellK pl K live room) g x, y ∈ pl ∧ live y = true ∧ g ^^^ y ≤ g ^^^ x)
  | 0, _, h, _, _, _ => absurd h (Nat.not_lt_zero _)
  | s + 1, x, h, hx, hxl, hne => by
    obtain ⟨y, e, hy, hyl, hlt, hor⟩ := way_next n hx hxl h0 hl0 hmin hne
    rw [wayN_on e hlt]
    have hw0 := way_end n h0 hl0 hmin
    by_cases hy0 : y = n0
    · rw [hy0, hw0]
      rw [hy0] at hlt hy hyl
      refine ⟨⟨_, rfl⟩, rfl, by simp, by simp [hlt], fun z hz => ?_⟩
      simp at hz
      rcases hz with q | q
      · rw [q]; exact ⟨hx, hxl, Nat.le_refl _⟩
      · rw [q]; exact ⟨hy, hyl, Nat.le_of_lt hlt⟩
    · have hst := hor.resolve_left hy0
      obtain ⟨⟨r, er⟩, i2, i3, i4, i5⟩ := way_leads n h0 hl0 hmin s y (by omega) hy hyl hy0
      refine ⟨⟨_, rfl⟩, ?_, by rw [List.length_cons]; omega, List.pairwise_cons.mpr ⟨fun z hz => by have := (i5 z hz).2.2; omega, i4⟩, fun z hz => ?_⟩
      · rw [er, List.getLast?_cons_cons, ← er]; exact i2
      · rcases List.mem_cons.mp hz with q | q
        · rw [q]; exact ⟨hx, hxl, Nat.le_refl _⟩
        · obtain ⟨q1, q2, q3⟩ := i5 z q
          exact ⟨q1, q2, by omega⟩
/-- the same of any start -/
theorem way_all (n : Net pl K live room) {n0 x : Nat} (h0 : n0 ∈ pl) (hl0 : live n0 = true) (hmin : ∀ o ∈ pl, live o = true → g ^^^ n0 ≤ g ^^^ o) (hx : x ∈ pl) (hxl : live x = true) :
    (∃ r, wayN (tellK pl K live room) g x = x :: r) ∧ (wayN (tellK pl K live room) g x).getLast? = some n0 ∧ (∀ wd, (∀ y ∈ pl, y < 2 ^ wd) → (wayN (tellK pl K live room) g x).length ≤ wd + 1) ∧ (wayN (tellK pl K live room) g x).Pairwise (fun a b => g ^^^ b < g ^^^ a) ∧ (∀ y ∈ wayN (tellK pl K live room) g x, y ∈ pl ∧ live y = true) := by
  by_cases e : x = n0
  · subst e
    rw [way_end n h0 hl0 hmin]
    exact ⟨⟨_, rfl⟩, rfl, fun wd _ => by simp, by simp, fun y hy => by rw [List.mem_singleton.mp hy]; exact ⟨hx, hxl⟩⟩
  · obtain ⟨a, b, c, d, f⟩ := way_leads n h0 hl0 hmin _ x (Nat.lt_succ_self _) hx hxl e
    exact ⟨a, b, fun wd hb => by have := stepN_lt (hb x hx) (hb n0 h0) e; omega, d, fun y hy => ⟨(f y hy).1, (f y hy).2.1⟩⟩
end
end Nn
/-! sorted(a dict) -/
namespace Nn
open PySem L2
section
variable {K : PySem.W.Frag}
theorem x_sortDN {H : Hp} {Q : VK} {a : Addr} {hs : List Nat} {f : Nat → V} (hd : Rd H a (.dK (dOf hs f))) (hz : hs.length < 64) (nd : hs.Nodup) (h : ∀ p, H p = none → Q (.ref p) (upd H p (.lst ((sortU hs).map nV)))) : rSortDI [.ref a] H Q := by
  refine ⟨a, _, hs.map fun n : Nat => (n : Int), rfl, hd, dOf_keys, by rw [List.length_map]; exact hz, fun ys p hperm hsort hp => ?_⟩
  obtain ⟨zs, rfl⟩ : ∃ zs : List Nat, ys = zs.map fun n : Nat => (n : Int) := by
    refine ⟨ys.map Int.toNat, ?_⟩
    rw [List.map_map]
    refine (List.map_id ys).symm.trans (List.map_congr_left fun y hy => ?_)
    obtain ⟨n, _, rfl⟩ := List.mem_map.mp (hperm.mem_iff.mp hy)
    simp
  have hzs : zs = sortU hs := by
    have hmem : ∀ z, z ∈ zs ↔ z ∈ hs := fun z => by
      rw [← mem_cast (l := zs), ← mem_cast (l := hs)]
      exact hperm.mem_iff
    refine rising_eq ?_ (sortU_sorted _) fun z => by rw [hmem, mem_sortU]
    have nz : zs.Nodup := by
      have q : (zs.map fun n : Nat => (n : Int)).Nodup := hperm.nodup_iff.mpr (List.Pairwise.map _ (fun a b h e => h (Int.ofNat.inj e)) nd)
      exact (List.pairwise_map.mp q).imp fun h e => h (by rw [e])
    have le : zs.Pairwise (· ≤ ·) := (List.pairwise_map.mp hsort).imp fun h => by omega
    exact (nz.and le).imp fun h => by omega
  rw [hzs, ← map_nV]
  exact h p hp
end
end Nn
/-! comprehensions over whatever walks; the last of a list -/
namespace Nn
open PySem L2
section
variable {K : PySem.W.Frag} {H : Hp} {Q : VK}
theorem LcW.any {J : It} {n : Nat} {G : Hp → Prop} {Y : Nat → Hp → V → Hp → Prop} {g : TG} {te : TE} {vs : List Nat} {σ : L2.St} (w : Walk J n G Y) (hz : n < sizeLine) (f : Nat → V) (hG : ∀ H', Ex H H' → G H')
    (hs : ∀ i x H1 H2, i < n → Ex H H1 → Y i H1 x H2 → ∀ Qe : VK, (∀ H'', Ex H1 H'' → Qe (f i) H'') → g x (wipe σ vs) H2 fun σ2 H3 => wipe σ2 vs = wipe σ vs ∧ te σ2 H3 Qe)
    (hk : ∀ D H', H D = none → Ex H H' → H' D = some (.lst ((List.range n).map f)) → Q (.ref D) H') : LcW g tYes te vs σ Q J H := by
  intro D hD
  refine lc_it w (Qd := fun H' => Q (.ref D) H') (fun i H' => Ex H H' ∧ H' D = some (.lst ((List.range i).map f))) ⟨Ex.new hD, by rw [upd_same]; rfl⟩ (fun i H' _ h => hG H' h.1) ?_ ?_
  · rintro i x H1 H2 hi ⟨ex, h1⟩ y
    exact hs i x H1 H2 hi ex y _ fun H'' ex2 => ⟨_, ex2.at h1, by rw [List.length_map, List.length_range]; omega, (ex.trans ex2).mut hD (ex2.at h1), by rw [upd_same, List.range_succ, List.map_append]; rfl⟩
  · rintro H1 ⟨ex, h1⟩
    exact hk D H1 hD ex h1
theorem range_getD {n : Nat} {l : List Nat} (h : n = l.length) : ((List.range n).map fun i => nV (l.getD i 0)) = l.map nV := by
  subst h
  refine List.ext_getElem (by simp) fun i h1 h2 => ?_
  have h3 : i < l.length := by simpa using h2
  simp [List.getD_eq_getElem?_getD, List.getElem?_eq_getElem h3]
theorem range_true {n : Nat} : ((List.range n).map fun _ => V.bl true) = ((List.range n).map fun _ => true).map V.bl := by rw [List.map_map]; rfl
theorem all_true {n : Nat} : (((List.range n).map fun _ => true).all id) = true := List.all_eq_true.mpr fun x hx => by
  obtain ⟨_, _, rfl⟩ := List.mem_map.mp hx; rfl
theorem atI_lastN {l : List Nat} {n : Nat} (h : l.getLast? = some n) : atI (l.map nV) (-1) = some (nV n) := by
  obtain ⟨pre, rfl⟩ := List.getLast?_eq_some_iff.mp h
  rw [List.map_append]
  exact atI_last (pre.map nV) (nV n)
theorem x_slTo {p : Addr} {l : List Nat} {m : Nat} {i : Int} (hi : i = m) (hS : SqL K H p (l.map nV)) (h : ∀ (q : Addr) (H' : Hp), H q = none → Ex H H' → H' q = some (.lst ((l.take m).map nV)) → Q (.ref q) H') : rSlL K (.ref p) none (some i) H Q := by
  subst hi
  refine x_slL hS fun q hq => ?_
  rw [cut_take, ← List.map_take]
  exact h q _ hq (Ex.new hq) upd_same
theorem x_slFrom {p : Addr} {l : List Nat} {m : Nat} {i : Int} (hi : i = m) (hS : SqL K H p (l.map nV)) (h : ∀ (q : Addr) (H' : Hp), H q = none → Ex H H' → H' q = some (.lst ((l.drop m).map nV)) → Q (.ref q) H') : rSlL K (.ref p) (some i) none H Q := by
  subst hi
  refine x_slL hS fun q hq => ?_
  rw [cut_drop, ← List.map_drop]
  exact h q _ hq (Ex.new hq) upd_same
theorem x_slInit {p : Addr} {l : List Nat} (hS : SqL K H p (l.map nV)) (h : ∀ (q : Addr) (H' : Hp), H q = none → Ex H H' → H' q = some (.lst (l.dropLast.map nV)) → Q (.ref q) H') : rSlL K (.ref p) none (some (-1)) H Q := by
  refine x_slL hS fun q hq => ?_
  rw [cut_init, ← List.map_dropLast]
  exact h q _ hq (Ex.new hq) upd_same
end
end Nn
namespace Nn
open PySem L2
theorem Ex.new' {H H' : Hp} {p : Addr} {o : HO} (h : H p = none) (e : upd H p o = H') : Ex H H' := by rw [← e]; exact Ex.new h
theorem new_at {H H' : Hp} {p : Addr} {o : HO} (e : upd H p o = H') : H' p = some o := by rw [← e]; exact upd_same
end Nn
namespace Nn
open PySem L2
theorem x_allB {K : PySem.W.Frag} {H : Hp} {Q : VK} {a : Addr} {bs : List Bool} (hS : SqL K H a (bs.map V.bl)) (h : Q (.bl (bs.all id)) H) : rAll K [.ref a] H Q := ⟨a, bs, rfl, hS, h⟩
end Nn
/-! k23, k24: what houses keep: of each span room of the names, or all -/
namespace Nn
open PySem L2
/-- a dict of names to lists of names -/
structure DLAt (H : Hp) (d : Addr) (ks : List Nat) (L : Nat → List Nat) (pa : Nat → Addr) : Prop where
  at_ : H d = some (.dK (dOf ks fun k => .ref (pa k)))
  el : ∀ k ∈ ks, H (pa k) = some (.lst ((L k).map nV))
theorem DLAt.fr {H H' : Hp} {d : Addr} {ks : List Nat} {L : Nat → List Nat} {pa : Nat → Addr} {R : Addr → Prop} (a : DLAt H d ks L pa) (f : Fr R H H') (h1 : ¬ R d) (h2 : ∀ k ∈ ks, ¬ R (pa k)) : DLAt H' d ks L pa := ⟨f.at a.at_ h1, fun k hk => f.at (a.el k hk) (h2 k hk)⟩
theorem DLAt.ex {H H' : Hp} {d : Addr} {ks : List Nat} {L : Nat → List Nat} {pa : Nat → Addr} (a : DLAt H d ks L pa) (f : Ex H H') : DLAt H' d ks L pa := a.fr f id fun _ _ => id
theorem DLAt.put {H : Hp} {d D n : Addr} {ks l : List Nat} {L : Nat → List Nat} {pa : Nat → Addr} (a : DLAt H d ks L pa) (hD : H D = some (.lst (l.map nV))) :
    DLAt (upd H d (.dK (putK (dOf ks fun k => .ref (pa k)) (nK n) (.ref D)))) d (if n ∈ ks then ks else ks ++ [n]) (fun x => if x = n then l else L x) (fun x => if x = n then D else pa x) := by
  have ne : ∀ {b : Addr} {xs : List V}, H b = some (.lst xs) → b ≠ d := fun e z => by rw [z, a.at_] at e; cases e
  refine ⟨?_, fun k hk => ?_⟩
  · rw [upd_same, dOf_upd]
    congr 2
    refine dOf_congr fun x _ => ?_
    by_cases e : x = n
    · simp [e]
    · simp [e]
  · by_cases e : k = n
    · rw [if_pos e, if_pos e, upd_ne (ne hD)]; exact hD
    · rw [if_neg e, if_neg e]
      have hk : k ∈ ks := by
        split at hk
        · exact hk
        · exact (List.mem_append.mp hk).resolve_right fun z => e (List.mem_singleton.mp z)
      rw [upd_ne (ne (a.el k hk))]; exact a.el k hk
/-- so it is kept -/
structure Kept (pl : List Nat) (h room : Nat) (ks : List Nat) : Prop where
  sub : ∀ x ∈ ks, x ∈ pl ∧ x ≠ h
  all : ∀ y ∈ pl, y ≠ h → y ∈ ks ∨ ∃ D : List Nat, D.Nodup ∧ D.length = room ∧ ∀ z ∈ D, z ∈ ks ∧ stepN h z = stepN h y
  len : ks.length ≤ 8 * pl.length
theorem x_popN {H : Hp} {Q : VK} {l : Addr} {ns : List Nat} {r : Nat} {i : Int} (hi : i = r) (hl : H l = some (.lst (ns.map nV))) (hr : r < ns.length) (hz : ns.length < 2 ^ 62) (h : Q (nV ns[r]) (upd H l (.lst ((ns.eraseIdx r).map nV)))) : rPopAt (.ref l) [.int i] H Q := by
  subst hi
  refine ⟨l, _, _, r, nV ns[r], rfl, rfl, hl, by omega, by omega, ?_, by rw [List.getElem?_map, List.getElem?_eq_getElem hr]; rfl, by rw [eraseIdx_mapV]; exact h⟩
  unfold seqIndex?
  rw [List.length_map]
  have e : ¬ ((r : Int) < 0) := by omega
  rw [if_neg e]
  simp
  omega
theorem perm_eraseIdx : ∀ {l : List Nat} {i : Nat} (h : i < l.length), (l[i] :: l.eraseIdx i).Perm l
  | x :: r, 0, _ => List.Perm.refl _
  | x :: r, i + 1, h => by
    have h' : i < r.length := Nat.lt_of_succ_lt_succ h
    have ih := perm_eraseIdx (l := r) (i := i) h'
    show (r[i] :: x :: r.eraseIdx i).Perm (x :: r)
    exact (List.Perm.swap _ _ _).trans (ih.cons x)
theorem at_mod {l : List Nat} {x : Nat} (hl : l ≠ []) : ∃ h, h ∈ l ∧ atI (l.map nV) ((x : Int) % ((l.length : Nat) : Int)) = some (nV h) := by
  have hpos : 0 < l.length := List.length_pos_iff.mpr hl
  have hlt : x % l.length < l.length := Nat.mod_lt _ hpos
  exact ⟨l[x % l.length], List.getElem_mem hlt, by rw [← Int.natCast_emod]; exact atI_nV hlt⟩
theorem log2_gt {x i : Nat} (h : x ≠ 0) : 1 < x / 2 ^ i ↔ i < x.log2 := by
  have h1 := Nat.le_log2 h (k := i + 1)
  have h2 := Nat.le_div_iff_mul_le (Nat.two_pow_pos i) (x := 2) (y := x)
  rw [Nat.pow_succ, Nat.mul_comm] at h1
  omega
section
variable {P : Program} {w : World} {K : PySem.W.Frag} {mg : Str → Option Value} {base : Heap} {H H' : Hp} {Q : VK} {E : XK}
def sp_l_step (_ : Tx K mg base) : Sp := fun vs H Q E => ∃ (a : Nat) (b : Nat), vs = [.int a, .int b] ∧ (a ≠ b) ∧ (Q (.int ((stepN a b : Nat) : Int)) H)
theorem wc_l_step {T : Tx K mg base} {a : Nat} {b : Nat} {i0 : Int} {i1 : Int} (e0 : i0 = a) (e1 : i1 = b) (c0 : a ≠ b) (h : Q (.int ((stepN a b : Nat) : Int)) H) : sp_l_step T [.int i0, .int i1] H Q E := by
  subst e0 e1
  exact ⟨a, b, rfl, c0, h⟩
theorem ok_l_step (T : Tx K mg base) : FnOk P w K mg base CX0 1 T.a_l_step T.d_l_step ["_law_one", "_law_other"] (sp_l_step T) := by
  refine T.F_l_step.okD sc_l_step (fun vs H Q E h => ?_) (fun cdv A outer s H vs Q E hr h => ?_)
  · obtain ⟨a, b, rfl, _⟩ := h; rfl
  · obtain ⟨a, b, rfl, hne, q⟩ := h
    have hu := hu_of hr
    have hx0 := xor_ne_zero hne
    have hlog : (a ^^^ b).log2 = stepN a b := rfl
    refine ⟨_, (pss_cons (ps_set (i := 2) sc_l_step.nd rfl (Or.inl rfl) pe_int)
      (pss_cons (ps_while PassesOwn.never (pt_cmpR op_gt (pe_op op_shrN' (pe_op op_xorN (pv 0) (pv 1)) (pv 2)) pe_int (nomark _))
      (pss_one (ps_set (i := 2) sc_l_step.nd rfl (Or.inl rfl) (pe_op op_add (pv 2) pe_int))))
      (pss_one (ps_ret (pv 2))))), ?_⟩
    rw [Nn.st_l_step]; try rw [Nn.cxK]
    try rw [Nn.cxW]
    walk_at "wx"
    refine x_while (m := stepN a b) (W := fun mm σ H' => ∃ (i : Nat), σ = [some (.int a), some (.int b), some (.int i)] ∧ H = H' ∧ i + mm = stepN a b) ⟨0, rfl, rfl, by omega⟩ ?_
    rintro mm σ _ ⟨i, rfl, rfl, hi⟩
    walk_at "wx"
    have e : decide (((1 : Int)) < (((a ^^^ b) / 2 ^ i : Nat) : Int)) = decide (i < stepN a b) := decide_eq_decide.mpr (by rw [← hlog, ← log2_gt hx0]; omega)
    rw [e]
    refine x_whD (fun hlt => ?_) fun hge => ?_
    · walk_at "wx"
      exact ⟨mm - 1, by omega, i + 1, rfl, rfl, by omega⟩
    · have ei : i = stepN a b := by omega
      subst ei
      walk_at "wx"
      exact q
end
end Nn
local macro_rules | `(tactic| walk_at "wc") => `(tactic| ((with_reducible refine' Nn.wc_l_step ?hE0 ?hE1 ?hC0 (?_)); (case hE0 => walk_at "wnat"); (case hE1 => walk_at "wnat"); (case hC0 => walk_at "wpre")))
namespace Nn
open PySem L2
section
variable {P : Program} {w : World} {K : PySem.W.Frag} {mg : Str → Option Value} {base : Heap} {H H' : Hp} {Q : VK} {E : XK}
def sp_l_kept (_ : Tx K mg base) : Sp := fun vs H Q _ => ∃ (a : Addr) (pl : List Nat) (h room c : Nat), vs = [.ref a, .int h, .int room, .int c] ∧ SqL K H a (pl.map nV) ∧ pl.Nodup ∧ pl.length ≤ 60 ∧ 0 < room ∧ room ≤ 8 ∧ ∀ (p : Addr) (ks : List Nat) (H' : Hp), H p = none → Ex H H' → H' p = some (.lst (ks.map nV)) → Kept pl h room ks → Q (.ref p) H'
theorem wc_l_kept {T : Tx K mg base} {a : Addr} {pl : List Nat} {h room c : Nat} {i j k : Int} (hi : i = h) (hj : j = room) (hk : k = c) (h1 : SqL K H a (pl.map nV)) (nd : pl.Nodup) (hz : pl.length ≤ 60) (h2 : 0 < room) (h3 : room ≤ 8) (q : ∀ (p : Addr) (ks : List Nat) (H' : Hp), H p = none → Ex H H' → H' p = some (.lst (ks.map nV)) → Kept pl h room ks → Q (.ref p) H') : sp_l_kept T [.ref a, .int i, .int j, .int k] H Q E := by
  subst hi hj hk; exact ⟨a, pl, h, room, c, rfl, h1, nd, hz, h2, h3, q⟩
theorem ok_l_kept (T : Tx K mg base) : FnOk P w K mg base CX0 2 T.a_l_kept T.d_l_kept ["_law_pool_here", "_law_house", "_law_room", "_law_cell"] (sp_l_kept T) := by
  refine T.F_l_kept.okD sc_l_kept (fun vs H Q E h => ?_) (fun cdv A outer s H vs Q E hr h => ?_)
  · obtain ⟨a, pl, h0, room, c, rfl, _⟩ := h; rfl
  · obtain ⟨a, pl, h0, room, c, rfl, hS, nd, hz, r0, r8, q⟩ := h
    have hu := hu_of hr
    refine ⟨_, (pss_cons (ps_set (i := 4) sc_l_kept.nd rfl (Or.inl rfl) pe_dnewK)
      (pss_cons (ps_for PassesOwn.never rfl (pi_list (pv 0)) (pg_name (i := 5) sc_l_kept.nd rfl (Or.inl rfl))
      (pss_one (ps_if (pt_cmpR op_ne (pv 5) (pv 1) (nomark _))
      (pss_cons (ps_set (i := 6) sc_l_kept.nd rfl (Or.inl rfl) (pe_call (ok_l_step T) hr rfl T.m_l_step T.F_l_step.kp T.b_l_step .nil pass0 (pa_cons (pv 1) (pa_cons (pv 5) pa_nil))))
      (pss_one (ps_dput hu (pv 4) (pv 6) (pe_op op_cat (pe_dget2 hu (pv 4) (pv 6) (pe_lst pa_nil) ⟨rfl, rfl, rfl, rfl⟩) (pe_lst (pa_cons (pv 5) pa_nil))) rfl)))
      pss_nil)))
      (pss_cons (ps_set (i := 7) sc_l_kept.nd rfl (Or.inl rfl) (pe_lst pa_nil))
      (pss_cons (ps_for PassesOwn.never rfl (pi_list (pe_callB (cb_sortD rfl) (by rfl) T.z_sorted (by decide +kernel) (pa_cons (pv 4) pa_nil))) (pg_name (i := 6) sc_l_kept.nd rfl (Or.inl rfl))
      (pss_cons (ps_set (i := 8) sc_l_kept.nd rfl (Or.inl rfl) (pe_callTy cb_list (by rfl) T.z_list (by decide +kernel) (pa_cons (pe_dget hu (pv 4) (pv 6) (fun _ _ => rfl)) pa_nil)))
      (pss_one (ps_for PassesOwn.never rfl (pi_range1 rfl T.z_range (pa_cons (pe_callB (cb_min2 rfl) (by rfl) T.z_min (by decide +kernel) (pa_cons (pv 2) (pa_cons (pe_callB cb_len (by rfl) T.z_len PySem.boot_len (pa_cons (pv 8) pa_nil)) pa_nil))) pa_nil)) (pg_name (i := 9) sc_l_kept.nd rfl (Or.inl rfl))
      (pss_cons (ps_expr (pe_bm PySem.F.plainAttrs_list PySem.F.slot_list_append PySem.F.type_list_append mt_append (pv 7) (pa_cons (pe_bm PySem.F.plainAttrs_list PySem.F.slot_list_pop PySem.F.type_list_pop mt_popAt (pv 8) (pa_cons (pe_op op_mod (pv 3) (pe_callB cb_len (by rfl) T.z_len PySem.boot_len (pa_cons (pv 8) pa_nil))) pa_nil)) pa_nil)))
      (pss_one (ps_set (i := 3) sc_l_kept.nd rfl (Or.inl rfl) (pe_op op_fdivW (pv 3) (pe_op op_add (pe_callB cb_len (by rfl) T.z_len PySem.boot_len (pa_cons (pv 8) pa_nil)) pe_int)))))))))
      (pss_one (ps_ret (pv 7))))))), ?_⟩
    rw [Nn.st_l_kept]; try rw [Nn.cxK]
    try rw [Nn.cxW]
    walk_at "wx"
    refine fun d hd => ?_
    have ex1 := Ex.new (o := .dK []) hd
    have dl1 : DLAt (upd H d (.dK [])) d [] (fun _ => []) (fun _ => d) := ⟨upd_same, fun n hn => by cases hn⟩
    generalize upd H d (.dK []) = H1 at ex1 dl1 ⊢
    walk_at "wx"
    refine ForW.by walk_list (fun i σ H' => ∃ (ks : List Nat) (L : Nat → List Nat) (pa : Nat → Addr) (v5 v6 : Option V), σ = [some (.ref a), some (.int h0), some (.int room), some (.int c), some (.ref d), v5, v6, none, none, none] ∧ Ex H H' ∧ DLAt H' d ks L pa ∧ ks.Nodup ∧ ks.length ≤ i ∧ (∀ k ∈ ks, L k = (pl.take i).filter fun n => !decide (n = h0) && decide (stepN h0 n = k)) ∧ ∀ n ∈ pl.take i, n ≠ h0 → stepN h0 n ∈ ks)
      ⟨[], _, _, _, _, rfl, ex1, dl1, List.nodup_nil, Nat.le_refl _, by simp, by simp⟩ (fun i σ H' _ ⟨_, _, _, _, _, _, e, _⟩ => e.ls hS) ?_ ?_
    · rintro i x σ _ H2 hi ⟨ks, L, pa, v5, v6, rfl, ex2, dl2, knd, kl, hL, hks⟩ ⟨rfl, hx⟩
      rw [List.length_map] at hi
      obtain rfl : x = nV pl[i] := by
        rw [List.getElem?_map, List.getElem?_eq_getElem hi] at hx
        exact (Option.some.inj hx).symm
      have et : pl.take (i + 1) = pl.take i ++ [pl[i]] := by rw [List.take_add_one, List.getElem?_eq_getElem hi]; rfl
      rw [et]
      generalize pl[i] = n
      have hdl : (dOf ks fun k => V.ref (pa k)).length ≤ 60 := by rw [dOf_len]; omega
      have dla := dl2.at_
      walk_at "wx"
      refine x_ifN (fun hne => ?_) fun he => ?_
      · have hne : h0 ≠ n := fun z => hne (by rw [z])
        walk_at "wx"
        refine ⟨len_ok rfl, fun p3 hp3 => ?_⟩
        have ex3 := Ex.new (o := .lst []) hp3
        have h33 := upd_same (H := H2) (a := p3) (o := .lst [])
        have dl3 := dl2.ex ex3
        have ex03 := ex2.trans ex3
        generalize upd H2 p3 (.lst []) = H3 at ex3 h33 dl3 ex03 ⊢
        have dla3 := dl3.at_
        refine x_g2 dla3 ?_
        obtain ⟨px, epx, hpx⟩ : ∃ px, (valV (dOf ks fun k => V.ref (pa k)) (Sum.inl ((stepN h0 n : Nat) : Int))).getD (.ref p3) = .ref px ∧ H3 px = some (.lst ((if stepN h0 n ∈ ks then L (stepN h0 n) else []).map nV)) := by
          have ev : valV (dOf ks fun k => V.ref (pa k)) (Sum.inl ((stepN h0 n : Nat) : Int)) = if stepN h0 n ∈ ks then some (.ref (pa (stepN h0 n))) else none := dOf_val (f := fun k => V.ref (pa k))
          rw [ev]
          by_cases hk : stepN h0 n ∈ ks
          · rw [if_pos hk, if_pos hk]; exact ⟨_, rfl, dl3.el _ hk⟩
          · rw [if_neg hk, if_neg hk]; exact ⟨_, rfl, h33⟩
        rw [epx]
        have hll : (if stepN h0 n ∈ ks then L (stepN h0 n) else []).length ≤ 60 := by
          split
          · rename_i hk
            rw [hL _ hk]
            exact Nat.le_trans (List.length_filter_le _ _) (by rw [List.length_take]; omega)
          · exact Nat.zero_le _
        walk_at "wx"
        refine ⟨len_ok rfl, fun p4 hp4 => ?_⟩
        have h4x := at_new (o := .lst [nV n]) hp4 hpx
        have ex04 := ex03.newT (o := .lst [nV n]) hp4
        have h44 := upd_same (H := H3) (a := p4) (o := .lst [nV n])
        have dl4 := dl3.ex (Ex.new (o := .lst [nV n]) hp4)
        generalize upd H3 p4 (.lst [nV n]) = H4 at h4x ex04 h44 dl4 ⊢
        refine x_cat h4x h44 (by rw [sizeLine_eq, List.length_map]; show _ + 1 ≤ _; omega) fun p5 hp5 => ?_
        have ecat : (if stepN h0 n ∈ ks then L (stepN h0 n) else []).map nV ++ [nV n] = ((if stepN h0 n ∈ ks then L (stepN h0 n) else []) ++ [n]).map nV := by rw [List.map_append]; rfl
        rw [ecat]
        have ex05 := ex04.newT (o := .lst (((if stepN h0 n ∈ ks then L (stepN h0 n) else []) ++ [n]).map nV)) hp5
        have h55 := upd_same (H := H4) (a := p5) (o := .lst (((if stepN h0 n ∈ ks then L (stepN h0 n) else []) ++ [n]).map nV))
        have dl5 := dl4.ex (Ex.new (o := .lst (((if stepN h0 n ∈ ks then L (stepN h0 n) else []) ++ [n]).map nV)) hp5)
        generalize upd H4 p5 (.lst (((if stepN h0 n ∈ ks then L (stepN h0 n) else []) ++ [n]).map nV)) = H5 at ex05 h55 dl5 ⊢
        have dla5 := dl5.at_
        walk_at "wx"
        refine x_dput dla5 (by rw [sizeLine_eq]; omega) ?_
        have dl6 := dl5.put (n := stepN h0 n) h55
        refine ⟨_, _, _, _, _, rfl, ex05.mut hd dla5, dl6, ?_, ?_, fun k hk => ?_, fun z hz hzn => ?_⟩
        · split
          · exact knd
          · exact nd_snoc knd ‹_›
        · by_cases hk' : stepN h0 n ∈ ks
          · rw [if_pos hk']; omega
          · rw [if_neg hk', List.length_append, List.length_singleton]; omega
        · rw [List.filter_append]
          by_cases e : k = stepN h0 n
          · rw [if_pos e, e]
            have e1 : [n].filter (fun z => !decide (z = h0) && decide (stepN h0 z = stepN h0 n)) = [n] := by simp [Ne.symm hne]
            rw [e1]
            congr 1
            by_cases hk' : stepN h0 n ∈ ks
            · rw [if_pos hk']; exact hL _ hk'
            · rw [if_neg hk']
              refine (List.filter_eq_nil_iff.mpr fun z hz w => ?_).symm
              simp only [Bool.and_eq_true, Bool.not_eq_true', decide_eq_false_iff_not, decide_eq_true_eq] at w
              exact hk' (by rw [← w.2]; exact hks z hz w.1)
          · rw [if_neg e]
            have e1 : [n].filter (fun z => !decide (z = h0) && decide (stepN h0 z = k)) = [] := by simp [Ne.symm e]
            rw [e1, List.append_nil]
            refine hL k ?_
            split at hk
            · exact hk
            · exact (List.mem_append.mp hk).resolve_right fun z => e (List.mem_singleton.mp z)
        · rcases List.mem_append.mp hz with z1 | z1
          · have := hks z z1 hzn
            split
            · exact this
            · exact List.mem_append.mpr (.inl this)
          · rw [List.mem_singleton.mp z1]
            split
            · assumption
            · simp
      · have he : n = h0 := Int.ofNat.inj he
        walk_at "wx"
        have e1 : ∀ k, [n].filter (fun z => !decide (z = h0) && decide (stepN h0 z = k)) = [] := fun k => by simp [he]
        refine ⟨_, _, _, _, _, rfl, ex2, dl2, knd, by omega, fun k hk => by rw [List.filter_append, e1, List.append_nil]; exact hL k hk, fun z hz hzn => ?_⟩
        rcases List.mem_append.mp hz with z1 | z1
        · exact hks z z1 hzn
        · rw [List.mem_singleton.mp z1] at hzn; exact absurd he hzn
    · rintro σ H2 ⟨ks, L, pa, v5, v6, rfl, ex2, dl2, knd, kl, hL, hks⟩
      rw [List.length_map, List.take_length] at hL hks
      rw [List.length_map] at kl
      walk_at "wx"
      refine ⟨len_ok rfl, fun p3 hp3 => ?_⟩
      have ex3 := Ex.new (o := .lst []) hp3
      have h33 := upd_same (H := H2) (a := p3) (o := .lst [])
      have dl3 := dl2.ex ex3
      have ex03 := ex2.trans ex3
      have hp30 : H p3 = none := ex2.back p3 hp3
      generalize upd H2 p3 (.lst []) = H3 at ex3 h33 dl3 ex03 ⊢
      walk_at "wx"
      refine x_sortDN (.inl dl3.at_) (by omega) knd fun p4 hp4 => ?_
      have ex4 := Ex.new (o := .lst ((sortU ks).map nV)) hp4
      have h44 := upd_same (H := H3) (a := p4) (o := .lst ((sortU ks).map nV))
      have h34 := at_new (o := .lst ((sortU ks).map nV)) hp4 h33
      have dl4 := dl3.ex ex4
      have ex04 := ex03.trans ex4
      generalize upd H3 p4 (.lst ((sortU ks).map nV)) = H4 at ex4 h44 h34 dl4 ex04 ⊢
      have hsl : (sortU ks).length ≤ pl.length := Nat.le_trans (nodup_len (rising_nodup (sortU_sorted ks)) fun x hx => mem_sortU.mp hx) kl
      have n43 : p3 ≠ p4 := ne_of_none h33 hp4
      walk_at "wx"
      have nd3 : d ≠ p3 := ne_of_none dl2.at_ hp3
      have np3 : ∀ k ∈ ks, pa k ≠ p3 := fun k hk => ne_of_none (dl2.el k hk) hp3
      refine ForW.by walk_list (fun i σ H' => ∃ (c' : Nat) (kk : List Nat) (v6 v8 v9 : Option V), σ = [some (.ref a), some (.int h0), some (.int room), some (.int c'), some (.ref d), v5, v6, some (.ref p3), v8, v9] ∧ Ex H H' ∧ DLAt H' d ks L pa ∧ H' p4 = some (.lst ((sortU ks).map nV)) ∧ H' p3 = some (.lst (kk.map nV)) ∧ (∀ x ∈ kk, x ∈ pl ∧ x ≠ h0) ∧ kk.length ≤ 8 * i ∧ ∀ y ∈ pl, y ≠ h0 → stepN h0 y ∈ (sortU ks).take i → y ∈ kk ∨ ∃ D : List Nat, D.Nodup ∧ D.length = room ∧ ∀ z ∈ D, z ∈ kk ∧ stepN h0 z = stepN h0 y)
        ⟨_, [], _, _, _, rfl, ex04, dl4, h44, h34, by simp, by simp, by simp⟩ (fun i σ H' _ ⟨_, _, _, _, _, _, _, _, e, _⟩ => SqL.of e) ?_ ?_
      · rintro i x σ _ H5 hi ⟨c', kk, v6, v8, v9, rfl, ex5, dl5, h45, h35, hsub, hkl, hall⟩ ⟨rfl, hx⟩
        rw [List.length_map] at hi
        obtain rfl : x = nV (sortU ks)[i] := by
          rw [List.getElem?_map, List.getElem?_eq_getElem hi] at hx
          exact (Option.some.inj hx).symm
        have hkm : (sortU ks)[i] ∈ ks := mem_sortU.mp (List.getElem_mem hi)
        have et : (sortU ks).take (i + 1) = (sortU ks).take i ++ [(sortU ks)[i]] := by rw [List.take_add_one, List.getElem?_eq_getElem hi]; rfl
        rw [et]
        generalize (sortU ks)[i] = k at hkm et
        have dla5 := dl5.at_
        have ev : valV (dOf ks fun k => V.ref (pa k)) (Sum.inl (k : Int)) = some (.ref (pa k)) := by
          have q := dOf_val (f := fun k => V.ref (pa k)) (n := k) (hs := ks)
          rw [if_pos hkm] at q; exact q
        have hLk := hL k hkm
        have hLl : (L k).length ≤ 60 := by rw [hLk]; exact Nat.le_trans (List.length_filter_le _ _) hz
        have hLn : (L k).Nodup := by rw [hLk]; exact nd.filter _
        have hLm : ∀ z, z ∈ L k ↔ z ∈ pl ∧ z ≠ h0 ∧ stepN h0 z = k := fun z => by rw [hLk, List.mem_filter]; simp
        walk_at "wx"
        refine x_listL (SqL.of (dl5.el k hkm)) fun q1 hq1 => ?_
        have exq := Ex.new (o := .lst ((L k).map nV)) hq1
        have hqq := upd_same (H := H5) (a := q1) (o := .lst ((L k).map nV))
        have h46 := at_new (o := .lst ((L k).map nV)) hq1 h45
        have h36 := at_new (o := .lst ((L k).map nV)) hq1 h35
        have dl6 := dl5.ex exq
        have ex6 := ex5.trans exq
        have n3q : p3 ≠ q1 := ne_of_none h35 hq1
        have n4q : p4 ≠ q1 := ne_of_none h45 hq1
        have ndq : d ≠ q1 := ne_of_none dla5 hq1
        have npq : ∀ k ∈ ks, pa k ≠ q1 := fun k hk => ne_of_none (dl5.el k hk) hq1
        have hq0 : H q1 = none := ex5.back q1 hq1
        generalize upd H5 q1 (.lst ((L k).map nV)) = H6 at exq hqq h46 h36 dl6 ex6 ⊢
        have emin : min (room : Int) (((L k).map nV).length : Int) = ((min room (L k).length : Nat) : Int) := by rw [List.length_map]; omega
        walk_at "wx"
        rw [emin]
        walk_at "wx"
        refine ForW.by walk_rgN (fun j σ H' => ∃ (c2 : Nat) (s mo : List Nat) (v9 : Option V), σ = [some (.ref a), some (.int h0), some (.int room), some (.int c2), some (.ref d), v5, some (nV k), some (.ref p3), some (.ref q1), v9] ∧ Ex H H' ∧ DLAt H' d ks L pa ∧ H' p4 = some (.lst ((sortU ks).map nV)) ∧ H' p3 = some (.lst ((kk ++ mo).map nV)) ∧ H' q1 = some (.lst (s.map nV)) ∧ (mo ++ s).Perm (L k) ∧ mo.length = j)
          ⟨_, L k, [], _, rfl, ex6, dl6, h46, by rw [List.append_nil]; exact h36, hqq, List.Perm.refl _, rfl⟩ (fun _ _ _ _ _ => trivial) ?_ ?_
        · rintro j _ σ _ H7 hj ⟨c2, s, mo, v9, rfl, ex7, dl7, h47, h37, hq7, hpm, hml⟩ ⟨rfl, rfl⟩
          have hsl2 : mo.length + s.length = (L k).length := by rw [← List.length_append]; exact hpm.length_eq
          have hs0 : 0 < s.length := by omega
          have hr : c2 % s.length < s.length := Nat.mod_lt _ hs0
          have hsm : (s.map nV).length = s.length := List.length_map _
          walk_at "wx"
          rw [hsm]
          refine x_popN (r := c2 % s.length) rfl hq7 hr (by omega) ?_
          have fu := Fr.upd1 (o := .lst ((s.eraseIdx (c2 % s.length)).map nV)) hq7
          have hq8 := upd_same (H := H7) (a := q1) (o := .lst ((s.eraseIdx (c2 % s.length)).map nV))
          have h48 := fu.at h47 n4q
          have h38 := fu.at h37 n3q
          have dl8 := dl7.fr fu ndq npq
          have ex8 := ex7.mut (o := .lst ((s.eraseIdx (c2 % s.length)).map nV)) hq0 hq7
          generalize upd H7 q1 (.lst ((s.eraseIdx (c2 % s.length)).map nV)) = H8 at hq8 h48 h38 dl8 ex8 ⊢
          have hpe := perm_eraseIdx hr
          have hel : (s.eraseIdx (c2 % s.length)).length + 1 = s.length := by rw [List.length_eraseIdx, if_pos hr]; omega
          generalize s[c2 % s.length] = z at hpe ⊢
          generalize s.eraseIdx (c2 % s.length) = s' at hq8 hpe hel
          have hlz : ((kk ++ mo).map nV).length < 100000 := by rw [List.length_map, List.length_append]; omega
          refine x_append h38 (by rw [sizeLine_eq]; omega) ?_
          have fu2 := Fr.upd1 (o := .lst ((kk ++ mo).map nV ++ [nV z])) h38
          have hq9 := fu2.at hq8 n3q.symm
          have h49 := fu2.at h48 n43.symm
          have dl9 := dl8.fr fu2 nd3 np3
          have ex9 := ex8.mut (o := .lst ((kk ++ mo).map nV ++ [nV z])) hp30 h38
          have h39 : upd H8 p3 (.lst ((kk ++ mo).map nV ++ [nV z])) p3 = some (.lst ((kk ++ (mo ++ [z])).map nV)) := by rw [upd_same, ← List.append_assoc, List.map_append (l₁ := kk ++ mo)]; rfl
          generalize upd H8 p3 (.lst ((kk ++ mo).map nV ++ [nV z])) = H9 at hq9 h49 dl9 ex9 h39 ⊢
          walk_at "wx"
          have e1 : ((s'.map nV).length : Int) + 1 = ((s'.length + 1 : Nat) : Int) := by rw [List.length_map]; rfl
          rw [e1]
          refine x_i (cdivs (by omega) (by omega)) ?_
          have e2 : (c2 : Int) / ((s'.length + 1 : Nat) : Int) = ((c2 / (s'.length + 1) : Nat) : Int) := rfl
          rw [e2]
          walk_at "wx"
          refine ⟨_, s', mo ++ [z], _, rfl, ex9, dl9, h49, h39, hq9, ?_, by simp [hml]⟩
          rw [List.append_assoc]
          exact (List.Perm.append_left mo hpe).trans hpm
        · rintro σ H7 ⟨c2, s, mo, v9, rfl, ex7, dl7, h47, h37, hq7, hpm, hml⟩
          have hsl2 : mo.length + s.length = (L k).length := by rw [← List.length_append]; exact hpm.length_eq
          have hmoL : ∀ z ∈ mo, z ∈ L k := fun z hz => hpm.mem_iff.mp (List.mem_append.mpr (.inl hz))
          walk_at "wx"
          refine ⟨_, kk ++ mo, _, _, _, rfl, ex7, dl7, h47, h37, fun x hx => ?_, by rw [List.length_append]; omega, fun y hy hyn hys => ?_⟩
          · rcases List.mem_append.mp hx with w | w
            · exact hsub x w
            · have := (hLm x).mp (hmoL x w); exact ⟨this.1, this.2.1⟩
          · rcases List.mem_append.mp hys with w | w
            · rcases hall y hy hyn w with g1 | ⟨D, g1, g2, g3⟩
              · exact .inl (List.mem_append.mpr (.inl g1))
              · exact .inr ⟨D, g1, g2, fun z hz => ⟨List.mem_append.mpr (.inl (g3 z hz).1), (g3 z hz).2⟩⟩
            · have ek := List.mem_singleton.mp w
              by_cases hlt : (L k).length ≤ room
              · have hs0 : s = [] := List.eq_nil_of_length_eq_zero (by omega)
                rw [hs0, List.append_nil] at hpm
                exact .inl (List.mem_append.mpr (.inr (hpm.mem_iff.mpr ((hLm y).mpr ⟨hy, hyn, ek⟩))))
              · refine .inr ⟨mo, ?_, by omega, fun z hz => ⟨List.mem_append.mpr (.inr hz), by rw [ek]; exact ((hLm z).mp (hmoL z hz)).2.2⟩⟩
                exact (List.nodup_append.mp (hpm.nodup_iff.mpr hLn)).1
      · rintro σ H5 ⟨c', kk, v6, v8, v9, rfl, ex5, dl5, h45, h35, hsub, hkl, hall⟩
        rw [List.length_map] at hkl
        rw [List.length_map, List.take_length] at hall
        walk_at "wx"
        exact q p3 kk H5 hp30 ex5 h35 ⟨hsub, fun y hy hyn => hall y hy hyn (mem_sortU.mpr (hks y hy hyn)), by omega⟩
end
end Nn
namespace Nn
open PySem L2
theorem Kept.net {pl : List Nat} {L : Nat → List Nat} {live : Nat → Bool} {room : Nat} (h : ∀ n ∈ pl, Kept pl n room (L n)) (few : ∀ l : List Nat, l.Nodup → (∀ x ∈ l, x ∈ pl) → l.length = room → ∃ w ∈ l, live w = true) (r0 : 0 < room) : Net pl L live room :=
  ⟨fun n hn x hx => (h n hn).sub x hx, fun n hn y hy hl hne => by
    rcases (h n hn).all y hy hne with q | ⟨D, d1, d2, d3⟩
    · exact ⟨y, q, hl, rfl⟩
    · obtain ⟨w, hw, hwl⟩ := few D d1 (fun x hx => ((h n hn).sub x (d3 x hx).1).1) d2
      exact ⟨w, (d3 w hw).1, hwl, (d3 w hw).2⟩, few, r0⟩
theorem tellK_len {pl : List Nat} {L : Nat → List Nat} {live : Nat → Bool} {room h g a : Nat} {l : List Nat} (e : tellK pl L live room h g a = some l) : l.length ≤ room := by
  unfold tellK at e
  split at e
  · cases e
    rw [List.length_take]
    exact Nat.min_le_left _ _
  · cases e
theorem tellK_some {pl : List Nat} {L : Nat → List Nat} {live : Nat → Bool} {room h g a : Nat} (h1 : h ∈ pl) (h2 : live h = true) : tellK pl L live room h g a = some (((byN g (L h)).filter fun n => !decide (n = a)).take room) := by
  unfold tellK; rw [if_pos ⟨h1, h2⟩]
theorem tellK_sil {pl : List Nat} {L : Nat → List Nat} {live : Nat → Bool} {room h g a g' a' : Nat} : (tellK pl L live room h g a).isSome = (tellK pl L live room h g' a').isSome := by
  unfold tellK
  split <;> rfl
theorem least_in {pl : List Nat} {p : Nat → Bool} {g x : Nat} (hx : x ∈ pl) (hp : p x = true) : ∃ n0 r, byN g (pl.filter p) = n0 :: r ∧ n0 ∈ pl ∧ p n0 = true ∧ ∀ o ∈ pl, p o = true → g ^^^ n0 ≤ g ^^^ o := by
  have hxf : x ∈ byN g (pl.filter p) := mem_byN.mpr (List.mem_filter.mpr ⟨hx, hp⟩)
  cases e : byN g (pl.filter p) with
  | nil => rw [e] at hxf; cases hxf
  | cons n0 r =>
    have hn : n0 ∈ pl.filter p := mem_byN (g := g).mp (by rw [e]; simp)
    obtain ⟨h1, h2⟩ := List.mem_filter.mp hn
    refine ⟨n0, r, rfl, h1, h2, fun o ho hpo => ?_⟩
    have hof : o ∈ byN g (pl.filter p) := mem_byN.mpr (List.mem_filter.mpr ⟨ho, hpo⟩)
    have hs := byN_sorted g (pl.filter p)
    rw [e] at hof hs
    rcases List.mem_cons.mp hof with q | q
    · rw [q]; exact Nat.le_refl _
    · exact Nat.le_of_lt ((List.pairwise_cons.mp hs).1 o q)
end Nn
/-! k24: fewer silent than room -/
namespace Nn
open PySem L2
section
variable {P : Program} {w : World} {K : PySem.W.Frag} {mg : Str → Option Value} {base : Heap} {H H' : Hp} {Q : VK} {E : XK}
def sp_l_right__law_tells (T : Tx K mg base) : List (Option V) → Sp := fun ws vs H Q _ => ∃ (d aw : Addr) (pl al : List Nat) (L : Nat → List Nat) (pa : Nat → Addr) (room h g a : Nat), ws = [some (.ref aw), some (.int room), some (.ref d)] ∧ vs = [.int h, .int g, .int a] ∧ h ∈ pl ∧ DLAt H d pl L pa ∧ H aw = some (.lst (al.map nV)) ∧ (L h).length ≤ 10000 ∧ NdefX.TabsN (tabsL T) H ∧
  ∀ v H', Ex H H' → AnsV K H' v (if h ∈ al then some (((byN g (L h)).filter fun n => !decide (n = a)).take room) else none) → Q v H'
theorem nok_l_right__law_tells (T : Tx K mg base) {cl : List (Str × Addr)} {c : Addr} (f : Addr) : NdefX.NOk P w K mg base CX0 2 f (nf_l_right__law_tells cl c) ["_law_house", "_law_aim", "_law_asker"] fr_l_right__law_tells (sp_l_right__law_tells T) := by
  refine NcX.nok_of (N := N_l_right__law_tells) nsc_l_right__law_tells (fun doc pm ctv us hl => match us, hl with | [_, _, _], _ => rfl) (fun ws vs H Q E h => ?_) (fun A outer s H vs ws Q E hr hf hc hwl h => ?_)
  · obtain ⟨d, aw, pl, al, L, pa, room, h0, g, a, _, rfl, _⟩ := h; rfl
  · obtain ⟨d, aw, pl, al, L, pa, room, h0, g, a, rfl, rfl, hh, dl, haw, hz, hT, q⟩ := h
    have hu := hu_of hr
    refine ⟨_, (pss_cons (ps_if (pt_cmpR op_notIn_seq (pv 0) (pv 3) rfl)
      (pss_one (ps_ret pe_non))
      pss_nil)
      (pss_one (ps_ret (pe_slice sl_list (pe_lc (own := [("_law_name", 6)]) (g := (gName 6)) (by rfl) nsc_l_right__law_tells.nd (pi_list (pe_call (ok_l_by T) hr rfl T.m_l_by T.F_l_by.kp T.b_l_by .nil pass0 (pa_cons (pv 1) (pa_cons (pe_dget hu (pv 5) (pv 0) (fun _ _ => rfl)) pa_nil)))) (blkOk_by (N := N_l_right__law_tells) (sc := defScope s_l_right__law_tells) (own := [("_law_name", 6)]) (by decide +kernel)) (fun _ _ _ _ _ => (pg_name (i := 6) nsc_l_right__law_tells.nd rfl (Or.inl rfl))) (fun _ _ _ _ _ => pts_one ((pt_cmpR op_ne (pv 6) (pv 2) (nomark _)))) (fun _ _ _ _ _ => (pv 6))) po_none (po_some (pv 4)))))), ?_⟩
    rw [Nn.st_l_right__law_tells]; try rw [Nn.cxK]
    try rw [Nn.cxW]
    try rw [NcX.ncxK]
    have dla := dl.at_
    have ev : valV (dOf pl fun k => V.ref (pa k)) (Sum.inl (h0 : Int)) = some (.ref (pa h0)) := by
      have q := dOf_val (f := fun k => V.ref (pa k)) (n := h0) (hs := pl)
      rw [if_pos hh] at q; exact q
    walk_at "wx"
    refine x_ifN (fun hn => ?_) fun hn => ?_
    · walk_at "wx"
      refine q _ H Ex.refl ?_
      rw [if_neg hn]; exact rfl
    rw [if_pos hn] at q
    walk_at "wx"
    refine wc_l_by rfl (SqL.of (dl.el h0 hh)) (by omega) hT fun p1 H1 hp1 ex1 h1 => ?_
    have hbl : (byN g (L h0)).length ≤ 10000 := Nat.le_trans byN_len_le hz
    walk_at "wx"
    refine LcW.filt (emb := nV) (xs := byN g (L h0)) (fun x => !decide (x = a)) (SqL.of h1) (by rw [sizeLine_eq]; omega) (fun x _ H2 ex2 R hR => ?_) (fun x _ _ H2 ex2 Qe hQ => ?_) fun p2 H2 hp2 ex2 h2 => ?_
    · walk_at "wx"
      have e : decide ((x : Int) = (a : Int)) = decide (x = a) := decide_eq_decide.mpr ⟨fun z => Int.ofNat.inj z, fun z => by rw [z]⟩
      rw [e]
      exact hR _ Ex.refl
    · walk_at "wx"
      exact hQ
    · walk_at "wx"
      refine x_slTo rfl (SqL.of h2) fun p3 H3 hp3 ex3 h3 => ?_
      exact q _ H3 ((ex1.trans ex2).trans ex3) ⟨p3, rfl, SqL.of h3⟩
def tel_l_right__law_tells (T : Tx K mg base) : Tel P w K mg base where
  st := s_l_right__law_tells
  name := "_law_tells"
  qual := (("_law_right" : Str) ++ ".<locals>.") ++ "_law_tells"
  ps := ["_law_house", "_law_aim", "_law_asker"]
  fr := fr_l_right__law_tells
  sp := sp_l_right__law_tells T
  ok := fun cl cd f => (nok_l_right__law_tells T f).mono (by decide)
abbrev lvB (al : List Nat) : Nat → Bool := fun x => decide (x ∈ al)
/-- it stands and tells -/
def telK (T : Tx K mg base) (d aw : Addr) (pl al : List Nat) (L : Nat → List Nat) (pa : Nat → Addr) (room : Nat) (n : Net pl L (lvB al) room) (hpl : pl.length < 63) (h8 : room ≤ 8) (hL : ∀ h ∈ pl, (L h).length ≤ 10000) (cl : List (Str × Addr)) (f cd : Addr) : TelAt (tel_l_right__law_tells (P := P) (w := w) T) cl [some (.ref aw), some (.int room), some (.ref d)] f where
  cd := cd
  I := fun H _ => DLAt H d pl L pa ∧ H aw = some (.lst (al.map nV)) ∧ NdefX.TabsN (tabsL T) H ∧ H f = some (NdefX.FnO f (nf_l_right__law_tells cl cd)) ∧ H cd = some (LamX.CodeO cd (nf_l_right__law_tells cl cd).qual)
  FF := fun x => x = d ∨ x = aw ∨ (∃ n ∈ pl, x = pa n) ∨ x = f ∨ x = cd
  S := fun _ => False
  tell := tellK pl L (lvB al) room
  N := pl
  fn := fun h => h.2.2.2
  fr := fun h fr hR => ⟨h.1.fr fr (fun z => (hR _ z).1 (.inl rfl)) fun n hn z => (hR _ z).1 (.inr (.inr (.inl ⟨n, hn, rfl⟩))), fr.at h.2.1 fun z => (hR _ z).1 (.inr (.inl rfl)), Fr.tabs fr h.2.2.1, fr.at h.2.2.2.1 fun z => (hR _ z).1 (.inr (.inr (.inr (.inl rfl)))), fr.at h.2.2.2.2 fun z => (hR _ z).1 (.inr (.inr (.inr (.inr rfl))))⟩
  sub := fun _ z => z.elim
  live := fun {H cs x} h z => by
    rcases z with z | z | ⟨n, hn, z⟩ | z | z
    · rw [z, h.1.at_]; exact fun c => by cases c
    · rw [z, h.2.1]; exact fun c => by cases c
    · rw [z, h.1.el n hn]; exact fun c => by cases c
    · rw [z, h.2.2.2.1]; exact fun c => by cases c
    · rw [z, h.2.2.2.2]; exact fun c => by cases c
  nl := hpl
  tl := fun h g a l e => ⟨Nat.le_trans (tellK_len e) (by omega), tellK_mem n e⟩
  sil := fun h g a g' a' => tellK_sil
  say := fun {H cs h g a Q E} hI hz hor q => by
    have hh : h ∈ pl := hor.elim id fun e => by
      unfold tellK at e
      split at e
      · rename_i z; exact z.1
      · exact absurd rfl e
    refine ⟨d, aw, pl, al, L, pa, room, h, g, a, rfl, rfl, hh, hI.1, hI.2.1, hL h hh, hI.2.2.1, fun v H' ex ha => q _ H' ex ⟨hI.1.ex ex, ex.at hI.2.1, Fr.tabs ex hI.2.2.1, ex.at hI.2.2.2.1, ex.at hI.2.2.2.2⟩ ?_⟩
    have e : tellK pl L (lvB al) room h g a = if h ∈ al then some (((byN g (L h)).filter fun n => !decide (n = a)).take room) else none := by
      unfold tellK
      by_cases hal : h ∈ al
      · rw [if_pos hal, if_pos ⟨hh, decide_eq_true hal⟩]
      · rw [if_neg hal, if_neg fun z => hal (of_decide_eq_true z.2)]
    rw [e]
    exact ha
/-- those that answer -/
structure Awk (pl al : List Nat) (live : Nat → Bool) : Prop where
  eq : al = pl.filter live
theorem take1_head {l : List Nat} : l.take 1 = l.head?.toList := by cases l <;> rfl
theorem map_true {l : List Nat} : (l.map fun _ => V.bl true) = (l.map fun _ => true).map V.bl := by rw [List.map_map]; rfl
theorem all_trueL {l : List Nat} : ((l.map fun _ => true).all id) = true := List.all_eq_true.mpr fun x hx => by
  obtain ⟨_, _, rfl⟩ := List.mem_map.mp hx; rfl
def sp_l_right (T : Tx K mg base) : Sp := fun vs H Q _ => ∃ (d aw : Addr) (pl al : List Nat) (L : Nat → List Nat) (pa : Nat → Addr) (wd room x g : Nat), vs = [.ref d, .ref aw, .int wd, .int room, .int x, .int g] ∧ DLAt H d pl L pa ∧ H aw = some (.lst (al.map nV)) ∧ Net pl L (lvB al) room ∧ (∀ y ∈ al, y ∈ pl) ∧ pl.Nodup ∧ pl.length ≤ 60 ∧ al.length ≤ 60 ∧ room ≤ 8 ∧ wd ≤ 60 ∧ (∀ h ∈ pl, (L h).length ≤ 10000) ∧ (∀ y ∈ pl, y < 2 ^ wd) ∧ x ∈ al ∧ NdefX.TabsN (tabsL T) H ∧ ∀ H', Ex H H' → Q (.bl true) H'
theorem wc_l_right {T : Tx K mg base} {d aw : Addr} {pl al : List Nat} {L : Nat → List Nat} {pa : Nat → Addr} {wd room x g : Nat} {i j k l : Int} (hi : i = wd) (hj : j = room) (hk : k = x) (hl : l = g) (h1 : DLAt H d pl L pa) (h2 : H aw = some (.lst (al.map nV))) (n : Net pl L (lvB al) room) (has : ∀ y ∈ al, y ∈ pl) (nd : pl.Nodup) (hz : pl.length ≤ 60) (hza : al.length ≤ 60) (h8 : room ≤ 8) (hw : wd ≤ 60) (hL : ∀ h ∈ pl, (L h).length ≤ 10000) (hb : ∀ y ∈ pl, y < 2 ^ wd) (hx : x ∈ al) (hT : NdefX.TabsN (tabsL T) H)
    (q : ∀ H', Ex H H' → Q (.bl true) H') : sp_l_right T [.ref d, .ref aw, .int i, .int j, .int k, .int l] H Q E := by
  subst hi hj hk hl; exact ⟨d, aw, pl, al, L, pa, wd, room, x, g, rfl, h1, h2, n, has, nd, hz, hza, h8, hw, hL, hb, hx, hT, q⟩
theorem ok_l_right (T : Tx K mg base) : FnOk P w K mg base CX0 5 T.a_l_right T.d_l_right ["_law_keeps", "_law_awake", "_law_wide_here", "_law_room", "_law_start", "_law_goal"] (sp_l_right T) := by
  refine T.FC_l_right.okC sc_l_right (fun vs H Q E h => ?_) (fun A outer s H vs Q E hr h => ?_)
  · obtain ⟨d, aw, pl, al, L, pa, wd, room, x, g, rfl, _⟩ := h; rfl
  · obtain ⟨d, aw, pl, al, L, pa, wd, room, x, g, rfl, dl, hS, n, has, nd, hz, hza, h8, hw, hL, hb, hxa, hT, q⟩ := h
    have hu := hu_of hr
    have hx := has x hxa
    have hlx : lvB al x = true := decide_eq_true hxa
    have hne : tellK pl L (lvB al) room x g x ≠ none := by rw [tellK_some hx hlx]; exact fun c => by cases c
    have tl1 : ∀ h l, tK pl L (lvB al) room g x h = some l → l.length ≤ 100 ∧ ∀ y ∈ l, y ∈ pl := fun h l e => ⟨Nat.le_trans (tellK_len e) (by omega), tellK_mem n e⟩
    have en : Ended pl L (lvB al) room x g (askEnd (tK pl L (lvB al) room g x) x g room) := ⟨askEnd_ok hne tl1, askEnd_left hne tl1 (by omega), hx, hlx⟩
    have efd : (askFound (tK pl L (lvB al) room g x) x g room).head? = (byN g (pl.filter fun y => lvB al y && !decide (y = x))).head? := Ended.first n en
    have esub : ∀ y ∈ askFound (tK pl L (lvB al) room g x) x g room, y ∈ al ∧ y ≠ x := fun y hy => by
      obtain ⟨q1, q2, q3⟩ := en.stand hy
      exact ⟨of_decide_eq_true q3, (en.ok.sn y q1).2⟩
    have ebf : (byN g al).filter (fun y => !decide (y = x)) = byN g (pl.filter fun y => lvB al y && !decide (y = x)) := by
      rw [byN_filter]
      refine byN_congr fun z => ?_
      rw [List.mem_filter, List.mem_filter, Bool.and_eq_true]
      exact ⟨fun h => ⟨has z h.1, decide_eq_true h.1, h.2⟩, fun h => ⟨of_decide_eq_true h.2.1, h.2.2⟩⟩
    obtain ⟨n0, rr, ebn, hn0, hnl, hmin⟩ := least_in (p := lvB al) (g := g) hx hlx
    obtain ⟨⟨r, er⟩, wl, wlen, wpw, wmem⟩ := way_all n hn0 hnl hmin hx hlx
    have wlen := wlen wd hb
    have ebn : byN g al = n0 :: rr := by
      rw [← ebn]
      refine byN_congr fun z => ?_
      rw [List.mem_filter]
      exact ⟨fun h => ⟨has z h, decide_eq_true h⟩, fun h => of_decide_eq_true h.2⟩
    refine ⟨_, (pss_cons (ps_ndefA (st := s_l_right__law_tells) (i := 6) rfl T.tb_l_right rfl nm_l_right__law_tells (NdefX.ndef_free ndB_l_right__law_tells) rfl rfl rfl sc_l_right.nd rfl (Or.inl rfl) (.inl rfl))
      (pss_cons (ps_asg (pe_callC (fun ws => ok_asked T (tel_l_right__law_tells T) ws) (Prov.own (js := [1, 3, 0]) fun ok => NdefX.Caps.made ok (NdefX.ndef_free ndB_l_right__law_tells) (NdefX.ndef_fr ndB_l_right__law_tells) rfl) hr rfl T.m_asked T.F_asked.kp T.b_asked .nil pass0 (pa_cons (pv 4) (pa_cons (pv 5) (pa_cons (pv 3) (pa_cons (pv 6) pa_nil))))) (pg_tup (n := 2) rfl (pgs_cons (pg_name (i := 7) sc_l_right.nd rfl (Or.inl rfl)) (pgs_cons (pg_name (i := 8) sc_l_right.nd rfl (Or.inl rfl)) pgs_nil))))
      (pss_cons (ps_set (i := 9) sc_l_right.nd rfl (Or.inr rfl) (pe_lc (own := [("_law_name", 10)]) (g := (gName 10)) (by rfl) sc_l_right.nd (pi_list (pe_call (ok_l_by T) (hr.mono (by decide)) rfl T.m_l_by T.F_l_by.kp T.b_l_by .nil pass0 (pa_cons (pv 5) (pa_cons (pv 1) pa_nil)))) (blkOk_by (N := N_l_right) (sc := defScope s_l_right) (own := [("_law_name", 10)]) (by decide +kernel)) (fun _ _ _ _ _ => (pg_name (i := 10) sc_l_right.nd rfl (Or.inl rfl))) (fun _ _ _ _ _ => pts_one ((pt_cmpR op_ne (pv 10) (pv 4) (nomark _)))) (fun _ _ _ _ _ => (pv 10))))
      (pss_cons (ps_if (PW.pt (pw_or (pt_cmpR (op_neD hr.units) (pe_slice sl_list (pv 8) po_none (po_some pe_int)) (pe_slice sl_list (pv 9) po_none (po_some pe_int)) (nomark _)) (pw_or1 (pt_not (pt_val (pe_callB (cr_all rfl) (by rfl) T.z_all (by decide +kernel) (pa_cons (pe_lc (own := [("_law_name", 10)]) (g := (gName 10)) (by rfl) sc_l_right.nd (pi_list (pv 8)) (blkOk_by (N := N_l_right) (sc := defScope s_l_right) (own := [("_law_name", 10)]) (by decide +kernel)) (fun _ _ _ _ _ => (pg_name (i := 10) sc_l_right.nd rfl (Or.inl rfl))) (fun _ _ _ _ _ => pts_nil) (fun _ _ _ _ _ => (pe_cmpR (op_inK (K := K) rfl) (pv 10) (pv 9) rfl))) pa_nil)))))))
      (pss_one (ps_ret pe_bl))
      pss_nil)
      (pss_cons (ps_set (i := 11) sc_l_right.nd rfl (Or.inl rfl) (pe_callC (fun ws => ok_way T (tel_l_right__law_tells T) ws) (Prov.own (js := [1, 3, 0]) fun ok => NdefX.Caps.made ok (NdefX.ndef_free ndB_l_right__law_tells) (NdefX.ndef_fr ndB_l_right__law_tells) rfl) hr rfl T.m_way T.F_way.kp T.b_way .nil pass0 (pa_cons (pv 4) (pa_cons (pv 5) (pa_cons (pv 6) pa_nil)))))
      (pss_one (ps_ret (pe_and (pe_cmpR op_eq (pe_ix ix_list (pv 11) pe_int (fun _ _ => rfl)) (pv 4) (nomark _)) (pe_and (pe_cmpR op_eq (pe_ix ix_list (pv 11) (pe_un un_neg pe_int) (fun _ _ => rfl)) (pe_ix ix_list (pe_call (ok_l_by T) (hr.mono (by decide)) rfl T.m_l_by T.F_l_by.kp T.b_l_by .nil pass0 (pa_cons (pv 5) (pa_cons (pv 1) pa_nil))) pe_int (fun _ _ => rfl)) (nomark _)) (pe_one (pe_cmpR op_le (pe_callB cb_len (by rfl) T.z_len PySem.boot_len (pa_cons (pv 11) pa_nil)) (pe_op op_add (pv 2) pe_int) (nomark _)))))))))))), ?_⟩
    rw [Nn.st_l_right]; try rw [Nn.cxK]
    try rw [Nn.cxW]
    walk_at "wx"
    refine ⟨hT _ tabm_l_right, fun f cd H2 ex2 hf0 hf hcd => ?_⟩
    generalize L2.cloFrom _ _ _ = cl at hf hcd ⊢
    have hf : H2 f = some (NdefX.FnO f (nf_l_right__law_tells cl cd)) := hf
    have hcd : H2 cd = some (LamX.CodeO cd (nf_l_right__law_tells cl cd).qual) := hcd
    have dl2 := dl.ex ex2
    have hT2 := Fr.tabs ex2 hT
    have hS2 := ex2.at hS
    walk_at "wx"
    refine wc_asked (telK T d aw pl al L pa room n (by omega) h8 hL cl f cd) (cs := []) rfl rfl rfl ⟨dl2, hS2, hT2, hf, hcd⟩ hne (by simp) fun p4 r4 fd4 es4 H4 ex4 hp4 h4 ra4 hfd hfd4 nfd hI4 => ?_
    have ex4 : Ex H2 H4 := ex4
    have hfd4 : H4 fd4 = some (.lst ((askFound (tK pl L (lvB al) room g x) x g room).map nV)) := hfd4
    have hfl0 : (askFound (tK pl L (lvB al) room g x) x g room).length ≤ 100000 := by
      unfold askFound standN
      rw [List.length_take]
      omega
    generalize askFound (tK pl L (lvB al) room g x) x g room = fd at hfl0 hfd4 efd esub
    obtain ⟨dl4, hS4, hT4, hf4, hcd4⟩ := hI4
    clear ra4 nfd
    walk_at "wx"
    refine wc_l_by rfl (SqL.of hS4) (by omega) hT4 fun p5 H5 hp5 ex5 h5 => ?_
    have hbl : (byN g al).length ≤ 60 := Nat.le_trans byN_len_le hza
    walk_at "wx"
    refine LcW.filt (emb := nV) (xs := byN g al) (fun y => !decide (y = x)) (SqL.of h5) (by rw [sizeLine_eq]; omega) (fun y _ H6 ex6 R hR => ?_) (fun y _ _ H6 ex6 Qe hQ => ?_) fun p6 H6 hp6 ex6 h6 => ?_
    · walk_at "wx"
      have e : decide ((y : Int) = (x : Int)) = decide (y = x) := decide_eq_decide.mpr ⟨fun z => Int.ofNat.inj z, fun z => by rw [z]⟩
      rw [e]
      exact hR _ Ex.refl
    · walk_at "wx"
      exact hQ
    · rw [ebf] at h6
      have ex46 := ex5.trans ex6
      have hfd6 := ex46.at hfd4
      have htk : fd.take 1 = (byN g (pl.filter fun y => lvB al y && !decide (y = x))).take 1 := by
        rw [take1_head, take1_head, efd]
      walk_at "wx"
      refine x_slTo (m := 1) rfl (SqL.of hfd6) fun p7 H7 hp7 ex7 h7 => ?_
      have h67 := ex7.at h6
      have hfd7 := ex7.at hfd6
      walk_at "wx"
      refine x_slTo (m := 1) rfl (SqL.of h67) fun p8 H8 hp8 ex8 h8' => ?_
      have h68 := ex8.at h67
      have h78 := ex8.at h7
      have hfd8 := ex8.at hfd7
      refine x_neLN (SqL.of h78) (SqL.of h8') ?_
      rw [htk, decide_eq_true rfl]
      have hfl : fd.length ≤ 100000 := hfl0
      walk_at "wx"
      refine LcW.map (emb := nV) (xs := fd) (fun _ => V.bl true) (SqL.of hfd8) (by rw [sizeLine_eq]; omega) (fun y hy H9 ex9 Qe hQ => ?_) fun p9 H9 hp9 ex9 h9 => ?_
      · have h69 := ex9.at h68
        have hin : y ∈ byN g (pl.filter fun y => lvB al y && !decide (y = x)) := by
          obtain ⟨q1, q2⟩ := esub y hy
          exact mem_byN.mpr (List.mem_filter.mpr ⟨has y q1, by simp [q1, q2]⟩)
        walk_at "wx"
        rw [decide_eq_true hin]
        exact hQ _ Ex.refl
      rw [map_true] at h9
      refine x_allB (SqL.of h9) ?_
      rw [all_trueL]
      have ex49 := ((ex46.trans ex7).trans ex8).trans ex9
      have dl9 := dl4.ex ex49
      have hS9 := ex49.at hS4
      have hT9 := Fr.tabs ex49 hT4
      walk_at "wx"
      refine wc_way (telK T d aw pl al L pa room n (by omega) h8 hL cl f cd) (cs := []) rfl rfl ⟨dl9, hS9, hT9, ex49.at hf4, ex49.at hcd4⟩ hne (by simp) fun p10 H10 hp10 ex10 h10 nF10 hI10 => ?_
      have ex10 : Ex H9 H10 := ex10
      have h10 : H10 p10 = some (.lst ((wayN (tellK pl L (lvB al) room) g x).map nV)) := h10
      generalize wayN (tellK pl L (lvB al) room) g x = W at h10 er wl wlen wpw wmem
      have hat0 : atI (W.map nV) 0 = some (nV x) := by rw [er]; exact atI_hd
      have hat1 := atI_lastN wl
      have ex010 := ((ex2.trans ex4).trans ex49).trans ex10
      have hS10 := ex010.at hS
      have hWl : (W.map nV).length = W.length := List.length_map _
      walk_at "wx"
      refine wc_l_by rfl (SqL.of hS10) (by omega) (Fr.tabs ex010 hT) fun p11 H11 hp11 ex11 h11 => ?_
      rw [ebn] at h11
      have hat5 : atI ((n0 :: rr).map nV) 0 = some (nV n0) := atI_hd
      have h1011 := ex11.at h10
      walk_at "wx"
      rw [hWl]
      have e : decide ((W.length : Int) ≤ (wd : Int) + 1) = true := decide_eq_true (by omega)
      rw [e]
      exact q H11 (ex010.trans ex11)
theorem cut_nV {l : List Nat} {lo hi : Option Int} : ∃ l' : List Nat, cutV (l.map nV) lo hi = l'.map nV ∧ l'.length ≤ l.length ∧ ∀ x ∈ l', x ∈ l := by
  unfold cutV
  exact ⟨_, by rw [← List.map_drop, ← List.map_take], by rw [List.length_take, List.length_drop]; omega, fun x hx => List.mem_of_mem_drop (List.mem_of_mem_take hx)⟩
theorem x_slN {p : Addr} {l : List Nat} {lo hi : Option Int} (hS : SqL K H p (l.map nV)) (h : ∀ (l' : List Nat) (q : Addr) (H' : Hp), H q = none → Ex H H' → H' q = some (.lst (l'.map nV)) → l'.length ≤ l.length → (∀ x ∈ l', x ∈ l) → Q (.ref q) H') : rSlL K (.ref p) lo hi H Q := by
  obtain ⟨l', e, h1, h2⟩ := cut_nV (l := l) (lo := lo) (hi := hi)
  refine x_slL hS fun q hq => ?_
  rw [e]
  exact h l' q _ hq (Ex.new hq) upd_same h1 h2
theorem x_sumN {a : Addr} {l : List Nat} (hS : SqL K H a (l.map nV)) (h : Q (.int ((l.sum : Nat) : Int)) H) : rSum K [.ref a] H Q := by
  rw [map_nV] at hS
  refine x_sum hS ?_
  rw [sumN]; exact h
def spLaw (K : PySem.W.Frag) : Sp := fun vs H Q _ => ∃ (a : Addr) (ns : List Int), vs = [.ref a] ∧ SqL K H a (ns.map V.int) ∧ ns.length ≤ 63 ∧ Tabs0 K H ∧ ∀ H', Q (.bl true) H'
def sp_law (_ : Tx K mg base) : Sp := spLaw K
theorem ok_law (T : Tx K mg base) : FnOk P w K mg base CX0 6 T.a_law T.d_law ["_law_script"] (sp_law T) := by
  refine T.F_law.okD sc_law (fun vs H Q E h => ?_) (fun cdv A outer s H vs Q E hr h => ?_)
  · obtain ⟨a, ns, rfl, _⟩ := h; rfl
  · obtain ⟨a, ns, rfl, hS, hlen, hT, q⟩ := h
    have hu := hu_of hr
    refine ⟨_, (pss_cons (ps_setLc (i := 1) (own := [("_law_cell", 2)]) (g := (gName 2)) (by rfl) sc_law.nd rfl rfl (sw_true rfl rfl rfl (by decide +kernel)) (pi_list (pe_slice sl_list (pv 0) po_none (po_some pe_int))) (blkOk_by (N := N_law) (sc := defScope s_law) (own := [("_law_cell", 2)]) (by decide +kernel)) (fun _ _ _ _ _ => (pg_name (i := 2) sc_law.nd rfl (Or.inl rfl))) (fun _ _ _ _ _ => pts_nil) (fun _ _ _ _ _ => (pe_op op_mod (pv 2) (pe_op op_pow pe_int pe_int))))
      (pss_cons (ps_set (i := 3) sc_law.nd rfl (Or.inl rfl) (pe_callB (cr_sum rfl) (by rfl) T.z_sum (by decide +kernel) (pa_cons (pe_slice sl_list (pv 1) po_none (po_some pe_int)) pa_nil)))
      (pss_cons (ps_set (i := 4) sc_law.nd rfl (Or.inl rfl) (pe_call (ok_l_wide T) (hr.mono (by decide)) rfl T.m_l_wide T.F_l_wide.kp T.b_l_wide .nil pass0 (pa_cons (pv 3) pa_nil)))
      (pss_cons (ps_set (i := 5) sc_law.nd rfl (Or.inl rfl) (pe_op op_add pe_int (pe_op op_mod (pe_callB (cr_sum rfl) (by rfl) T.z_sum (by decide +kernel) (pa_cons (pe_slice sl_list (pv 1) (po_some pe_int) (po_some pe_int)) pa_nil)) pe_int)))
      (pss_cons (ps_set (i := 6) sc_law.nd rfl (Or.inr rfl) (pe_call (ok_l_pool T) (hr.mono (by decide)) rfl T.m_l_pool T.F_l_pool.kp T.b_l_pool .nil pass0 (pa_cons (pe_op op_fdivW (pv 3) pe_int) (pa_cons (pv 4) (pa_cons (pe_op op_add pe_int (pe_op op_mod (pe_op op_fdivW (pe_callB (cr_sum rfl) (by rfl) T.z_sum (by decide +kernel) (pa_cons (pe_slice sl_list (pv 1) (po_some pe_int) (po_some pe_int)) pa_nil)) pe_int) pe_int)) pa_nil)))))
      (pss_cons (ps_set (i := 7) sc_law.nd rfl (Or.inl rfl) pe_dnewK)
      (pss_cons (ps_for PassesOwn.never rfl (pi_enum (by rfl) T.z_enumerate (pa_cons (pv 6) pa_nil)) (pg_tup (n := 2) rfl (pgs_cons (pg_name (i := 8) sc_law.nd rfl (Or.inl rfl)) (pgs_cons (pg_name (i := 9) sc_law.nd rfl (Or.inl rfl)) pgs_nil)))
      (pss_one (ps_dput hu (pv 7) (pv 9) (pe_call (ok_l_kept T) (hr.mono (by decide)) rfl T.m_l_kept T.F_l_kept.kp T.b_l_kept .nil pass0 (pa_cons (pv 6) (pa_cons (pv 9) (pa_cons (pv 5) (pa_cons (pe_callB (cr_sum rfl) (by rfl) T.z_sum (by decide +kernel) (pa_cons (pe_slice sl_list (pv 1) (po_some (pe_op op_add pe_int (pv 8))) (po_some (pe_op op_add pe_int (pv 8)))) pa_nil)) pa_nil))))) rfl)))
      (pss_cons (ps_for PassesOwn.never rfl (pi_list (pe_op op_cat (pe_lst (pa_cons (pv 3) (pa_cons (pe_op op_fdivW (pv 3) pe_int) pa_nil))) (pe_slice sl_list (pv 1) (po_some pe_int) po_none))) (pg_name (i := 2) sc_law.nd rfl (Or.inl rfl))
      (pss_cons (ps_set (i := 10) sc_law.nd rfl (Or.inr rfl) (pe_lc (own := [("_law_k", 8)]) (g := (gName 8)) (by rfl) sc_law.nd (pi_list (pe_call (ok_l_digits T) (hr.mono (by decide)) rfl T.m_l_digits T.F_l_digits.kp T.b_l_digits .nil pass0 (pa_cons (pv 2) (pa_cons (pe_callB cb_len (by rfl) T.z_len PySem.boot_len (pa_cons (pv 6) pa_nil)) (pa_cons (pe_op op_sub (pv 5) pe_int) pa_nil))))) (blkOk_by (N := N_law) (sc := defScope s_law) (own := [("_law_k", 8)]) (by decide +kernel)) (fun _ _ _ _ _ => (pg_name (i := 8) sc_law.nd rfl (Or.inl rfl))) (fun _ _ _ _ _ => pts_nil) (fun _ _ _ _ _ => (pe_ix (ix_listK (K := K) rfl) (pv 6) (pv 8) (fun _ _ => rfl)))))
      (pss_cons (ps_setLc (i := 11) (own := [("_law_name", 9)]) (g := (gName 9)) (by rfl) sc_law.nd rfl rfl (sw_true rfl rfl rfl (by decide +kernel)) (pi_list (pv 6)) (blkOk_by (N := N_law) (sc := defScope s_law) (own := [("_law_name", 9)]) (by decide +kernel)) (fun _ _ _ _ _ => (pg_name (i := 9) sc_law.nd rfl (Or.inl rfl))) (fun _ _ _ _ _ => pts_one ((pt_cmpR (op_notInK (K := K) rfl) (pv 9) (pv 10) rfl))) (fun _ _ _ _ _ => (pv 9)))
      (pss_one (ps_if (pt_cmpR (op_neD hr.units) (pv 11) (pe_lst pa_nil) (nomark _))
      (pss_cons (ps_set (i := 12) sc_law.nd rfl (Or.inl rfl) (pe_ix ix_list (pv 11) (pe_op op_mod (pe_op op_fdivW (pv 2) pe_int) (pe_callB cb_len (by rfl) T.z_len PySem.boot_len (pa_cons (pv 11) pa_nil))) (fun _ _ => rfl)))
      (pss_cons (ps_set (i := 13) sc_law.nd rfl (Or.inl rfl) (pe_op op_cat (pv 6) (pe_lst (pa_cons (pe_op op_mod (pe_op op_fdivW (pv 2) pe_int) (pe_op op_shl1 pe_int (pv 4))) pa_nil))))
      (pss_cons (ps_set (i := 14) sc_law.nd rfl (Or.inl rfl) (pe_ix ix_list (pv 13) (pe_op op_mod (pe_op op_fdivW (pv 2) pe_int) (pe_callB cb_len (by rfl) T.z_len PySem.boot_len (pa_cons (pv 13) pa_nil))) (fun _ _ => rfl)))
      (pss_one (ps_if (pt_not (pt_val (pe_call (ok_l_right T) hr rfl T.m_l_right T.F_l_right.kp T.b_l_right .nil pass0 (pa_cons (pv 7) (pa_cons (pv 11) (pa_cons (pv 4) (pa_cons (pv 5) (pa_cons (pv 12) (pa_cons (pv 14) pa_nil)))))))))
      (pss_one (ps_ret pe_bl))
      pss_nil)))))
      pss_nil)))))
      (pss_one (ps_ret pe_bl)))))))))), ?_⟩
    rw [Nn.st_law]; try rw [Nn.cxK]
    try rw [Nn.cxW]
    walk_at "wx"
    refine x_slL hS fun p1 hp1 => ?_
    have e1 : cutV (ns.map V.int) none (some 63) = (ns.take 63).map V.int := by
      have q : cutV (ns.map V.int) none (some 63) = (ns.map V.int).take 63 := cut_take (xs := ns.map V.int) (k := 63)
      rw [q, ← List.map_take]
    rw [e1]
    have ex1 := Ex.new (o := .lst ((ns.take 63).map V.int)) hp1
    have h1 := upd_same (H := H) (a := p1) (o := .lst ((ns.take 63).map V.int))
    generalize upd H p1 (.lst ((ns.take 63).map V.int)) = H1 at ex1 h1 ⊢
    have hnl : (ns.take 63).length ≤ 63 := by rw [List.length_take]; omega
    generalize ns.take 63 = ms at h1 hnl
    walk_at "wx"
    have h60 : (0 : Int) < 10 ^ (60 : Int).toNat := by decide
    refine LcW.map (emb := V.int) (xs := ms) (fun i => nV (i % 10 ^ (60 : Int).toNat).toNat) (SqL.of h1) (by rw [sizeLine_eq]; omega) (fun i _ H2 ex2 Qe hQ => ?_) fun p2 H2 hp2 ex2 h2 => ?_
    · walk_at "wx"
      have e : ((i % 10 ^ (60 : Int).toNat).toNat : Int) = i % 10 ^ (60 : Int).toNat := Int.toNat_of_nonneg (Int.emod_nonneg i (Int.ne_of_gt h60))
      have hQ := hQ H2 Ex.refl
      rw [show nV (i % 10 ^ (60 : Int).toNat).toNat = .int (i % 10 ^ (60 : Int).toNat) from congrArg V.int e] at hQ
      exact hQ
    · have em : (ms.map fun i => nV (i % 10 ^ (60 : Int).toNat).toNat) = (ms.map fun i => (i % 10 ^ (60 : Int).toNat).toNat).map nV := by rw [List.map_map]; rfl
      rw [em] at h2
      have hcl : (ms.map fun i => (i % 10 ^ (60 : Int).toNat).toNat).length ≤ 63 := by rw [List.length_map]; exact hnl
      generalize (ms.map fun i => (i % 10 ^ (60 : Int).toNat).toNat) = cn at h2 hcl
      have ex02 := ex1.trans ex2
      have hT2 := Fr.tabs ex02 (tabs0 (T := T) hT)
      walk_at "wx"
      refine x_sum1 (SqL.of h2) fun p3 H3 hp3 ex3 => ?_
      generalize (List.take 1 cn).sum = hd
      have hT3 := Fr.tabs ex3 hT2
      have h23 := ex3.at h2
      walk_at "wx"
      refine wc_l_wide rfl fun wd H4 w1 w2 ex4 => ?_
      have hT4 := Fr.tabs ex4 hT3
      have h24 := ex4.at h23
      clear h2 h23 ex02 hT2 hT3
      walk_at "wx"
      refine x_slN (SqL.of h24) fun l5 p5 H5 hp5 ex5 h5 _ _ => ?_
      refine x_sumN (SqL.of h5) ?_
      have h25 := ex5.at h24
      have hT5 := Fr.tabs ex5 hT4
      obtain ⟨room, hroom, r0, r4⟩ : ∃ room : Nat, (1 : Int) + ((l5.sum : Nat) : Int) % 4 = (room : Int) ∧ 0 < room ∧ room ≤ 4 := ⟨1 + l5.sum % 4, by omega, by omega, by omega⟩
      walk_at "wx"
      rw [hroom]
      walk_at "wx"
      refine x_slN (SqL.of h25) fun l6 p6 H6 hp6 ex6 h6 _ _ => ?_
      refine x_sumN (SqL.of h6) ?_
      have h26 := ex6.at h25
      have hT6 := Fr.tabs ex6 hT5
      walk_at "wx"
      refine wc_l_pool (c := hd / 256) (n := 1 + l6.sum / 4 % 10) rfl rfl (by omega) w2 (by omega) fun pp pl H7 hp7 ex7 h7 nd hpl hpne hpb => ?_
      have hplne : pl ≠ [] := hpne (by omega)
      have hpl10 : pl.length ≤ 10 := by omega
      have h27 := ex7.at h26
      have hT7 := Fr.tabs ex7 hT6
      clear h24 h25 h26 h5 h6 hT4 hT5 hT6 hpl hpne
      walk_at "wx"
      refine fun d hd' => ?_
      have ex8 := Ex.new (o := .dK []) hd'
      have dl8 : DLAt (upd H7 d (.dK [])) d [] (fun _ => []) (fun _ => d) := ⟨upd_same, fun n hn => by cases hn⟩
      have h28 := ex8.at h27
      have h78 := ex8.at h7
      have hT8 := Fr.tabs ex8 hT7
      generalize upd H7 d (.dK []) = H8 at ex8 dl8 h28 h78 hT8 ⊢
      walk_at "wx"
      refine ForW.by walk_enumE (fun i σ H' => ∃ (L : Nat → List Nat) (pa : Nat → Addr) (v8 v9 : Option V), σ = [some (.ref a), some (.ref p2), none, some (.int hd), some (.int wd), some (.int room), some (.ref pp), some (.ref d), v8, v9, none, none, none, none, none] ∧ Ex H7 H' ∧ DLAt H' d (pl.take i) L pa ∧ ∀ n ∈ pl.take i, Kept pl n room (L n))
        ⟨_, _, _, _, rfl, ex8, dl8, by simp⟩ (fun i σ H' _ ⟨_, _, _, _, _, e, _⟩ => SqL.of (e.at h7)) ?_ ?_
      · rintro i _ σ H9 H10 hi ⟨L, pa, v8, v9, rfl, ex9, dl9, hk⟩ ⟨tq, xk, y, rfl, htq, ex10, htq10, hxk, hy⟩
        rw [List.length_map] at hi
        have hy : (pl.map nV)[i]? = some y := hy
        obtain rfl : y = nV pl[i] := by
          rw [List.getElem?_map, List.getElem?_eq_getElem hi] at hy
          exact (Option.some.inj hy).symm
        cases hxk
        clear hy
        have et : pl.take (i + 1) = pl.take i ++ [pl[i]] := by rw [List.take_add_one, List.getElem?_eq_getElem hi]; rfl
        have hni : pl[i] ∉ pl.take i := fun z => by
          have q := nd
          rw [← List.take_append_drop (i + 1) pl, et] at q
          exact (List.nodup_append.mp (List.nodup_append.mp q).1).2.2 _ z _ (by simp) rfl
        rw [et]
        generalize pl[i] = n at hni htq10 ⊢
        have ex710 := ex9.trans ex10
        have h710 := ex710.at h7
        have h210 := ex710.at h27
        have dl10 := dl9.ex ex10
        walk_at "wx"
        refine x_slN (SqL.of h210) fun l11 p11 H11 hp11 ex11 h11 _ _ => ?_
        refine x_sumN (SqL.of h11) ?_
        have h711 := ex11.at h710
        have dl11 := dl10.ex ex11
        walk_at "wx"
        refine wc_l_kept rfl rfl rfl (SqL.of h711) nd (by omega) r0 (by omega) fun p12 ks H12 hp12 ex12 h12 kp => ?_
        have dl12 := dl11.ex ex12
        have dla12 := dl12.at_
        have hdl : (dOf (pl.take i) fun k => V.ref (pa k)).length ≤ 60 := by rw [dOf_len, List.length_take]; omega
        walk_at "wx"
        refine x_dput dla12 (by rw [sizeLine_eq]; omega) ?_
        have dl13 := dl12.put (n := n) h12
        rw [if_neg hni] at dl13
        have ex712 := (ex710.trans ex11).trans ex12
        refine ⟨_, _, _, _, rfl, ex712.mut hd' dla12, dl13, fun z hz => ?_⟩
        by_cases e : z = n
        · rw [if_pos e, e]; exact kp
        · rw [if_neg e]
          exact hk z ((List.mem_append.mp hz).resolve_right fun w => e (List.mem_singleton.mp w))
      · rintro σ H9 ⟨L, pa, v8, v9, rfl, ex9, dl9, hk⟩
        rw [List.length_map, List.take_length] at dl9 hk
        have hL : ∀ h ∈ pl, (L h).length ≤ 10000 := fun h hh => by have := (hk h hh).len; omega
        have h29 := ex9.at h27
        have h79 := ex9.at h7
        have hT9 := Fr.tabs ex9 hT7
        clear h28 h78 hT8 ex8 dl8
        walk_at "wx"
        refine ⟨len_ok rfl, fun q1 hq1 => ?_⟩
        have exa := Ex.new (o := .lst [V.int (hd : Int), V.int ((hd : Int) / 7)]) hq1
        have h7a := exa.at h79
        have h2a := exa.at h29
        have hqa := upd_same (H := H9) (a := q1) (o := .lst [V.int (hd : Int), V.int ((hd : Int) / 7)])
        have dla := dl9.ex exa
        have hTa := Fr.tabs exa hT9
        generalize upd H9 q1 (.lst [V.int (hd : Int), V.int ((hd : Int) / 7)]) = Ha at exa h7a h2a hqa dla hTa ⊢
        walk_at "wx"
        refine x_slN (SqL.of h2a) fun lb q2 Hb hq2 exb hb hlb _ => ?_
        have hqb := exb.at hqa
        have eqb : Hb q1 = some (.lst ([hd, hd / 7].map nV)) := hqb
        refine x_cat eqb hb (by rw [sizeLine_eq, List.length_map, List.length_map]; show 2 + _ ≤ _; omega) fun q3 hq3 => ?_
        have ecat : [hd, hd / 7].map nV ++ lb.map nV = (hd :: hd / 7 :: lb).map nV := rfl
        rw [ecat]
        have exc := exb.newT (o := .lst ((hd :: hd / 7 :: lb).map nV)) hq3
        have hqc := upd_same (H := Hb) (a := q3) (o := .lst ((hd :: hd / 7 :: lb).map nV))
        generalize upd Hb q3 (.lst ((hd :: hd / 7 :: lb).map nV)) = Hc at exc hqc ⊢
        have h7c := exc.at h7a
        have dlc := dla.ex exc
        have hTc := Fr.tabs exc hTa
        clear h7a h2a hqa dla hTa hqb eqb hb exb
        have hcl2 : (hd :: hd / 7 :: lb).length ≤ 65 := by rw [List.length_cons, List.length_cons]; omega
        generalize (hd :: hd / 7 :: lb) = cl2 at hqc hcl2
        walk_at "wx"
        refine ForW.by walk_list (fun i σ H' => ∃ (v2 v8 v9 v10 v11 v12 v13 v14 : Option V), σ = [some (.ref a), some (.ref p2), v2, some (.int hd), some (.int wd), some (.int room), some (.ref pp), some (.ref d), v8, v9, v10, v11, v12, v13, v14] ∧ Ex Hc H') ⟨_, _, _, _, _, _, _, _, rfl, Ex.refl⟩ (fun i σ H' _ ⟨_, _, _, _, _, _, _, _, _, e⟩ => SqL.of (e.at hqc)) ?_ ?_
        · rintro i y σ _ H11 hi ⟨v2, v8', v9', v10, v11, v12, v13, v14, rfl, exA⟩ ⟨rfl, hy⟩
          obtain ⟨cc, rfl⟩ : ∃ cc : Nat, y = nV cc := by
            rw [List.getElem?_map] at hy
            cases e : cl2[i]? with
            | none => rw [e] at hy; cases hy
            | some z => rw [e] at hy; exact ⟨z, (Option.some.inj hy).symm⟩
          have h711 := exA.at h7c
          have hpm : (pl.map nV).length = pl.length := List.length_map _
          have hpos : 0 < pl.length := List.length_pos_iff.mpr hplne
          clear hy
          have er1 : (room : Int) - 1 = ((room - 1 : Nat) : Int) := by omega
          walk_at "wx"
          rw [hpm, er1]
          refine wc_l_digits rfl rfl rfl hpos (by omega) (by omega) fun p12 ds H12 hp12 ex12 h12 hdl hdb => ?_
          have exB := exA.trans ex12
          have h712 := ex12.at h711
          walk_at "wx"
          refine LcW.map (emb := nV) (xs := ds) (fun k => nV (pl.getD k 0)) (SqL.of h12) (by rw [sizeLine_eq]; omega) (fun k hk H13 ex13 Qe hQ => ?_) fun p13 H13 hp13 ex13 h13 => ?_
          · have hkl := hdb k hk
            have h713 := ex13.at h712
            have hatk : atI (pl.map nV) (k : Int) = some (nV (pl.getD k 0)) := by
              rw [atI_nV hkl, List.getD_eq_getElem?_getD, List.getElem?_eq_getElem hkl]; rfl
            walk_at "wx"
            exact hQ _ Ex.refl
          have em : (ds.map fun k => nV (pl.getD k 0)) = (ds.map fun k => pl.getD k 0).map nV := by rw [List.map_map]; rfl
          rw [em] at h13
          have hql : (ds.map fun k => pl.getD k 0).length < room := by rw [List.length_map]; omega
          generalize (ds.map fun k => pl.getD k 0) = qs at h13 hql
          have exC := exB.trans ex13
          have h713 := ex13.at h712
          walk_at "wx"
          refine LcW.filt (emb := nV) (xs := pl) (fun n => !decide (n ∈ qs)) (SqL.of h713) (by rw [sizeLine_eq]; omega) (fun n _ H14 ex14 R hR => ?_) (fun n _ _ H14 ex14 Qe hQ => ?_) fun p14 H14 hp14 ex14 h14 => ?_
          · have h1314 := ex14.at h13
            walk_at "wx"
            exact hR _ Ex.refl
          · walk_at "wx"
            exact hQ
          have exD := exC.trans ex14
          have has : ∀ y ∈ pl.filter (fun n => !decide (n ∈ qs)), y ∈ pl := fun y hy => (List.mem_filter.mp hy).1
          have hal : (pl.filter (fun n => !decide (n ∈ qs))).length ≤ 10 := Nat.le_trans (List.length_filter_le _ _) hpl10
          have few : ∀ l : List Nat, l.Nodup → (∀ x ∈ l, x ∈ pl) → l.length = room → ∃ w ∈ l, lvB (pl.filter (fun n => !decide (n ∈ qs))) w = true := fun l hn hs hl => by
            refine Classical.byContradiction fun hne => ?_
            have hsub : ∀ x ∈ l, x ∈ qs := fun x hx => Classical.byContradiction fun hq => hne ⟨x, hx, decide_eq_true (List.mem_filter.mpr ⟨hs x hx, by simp [hq]⟩)⟩
            have := nodup_len hn hsub
            omega
          generalize pl.filter (fun n => !decide (n ∈ qs)) = al at h14 has hal few
          have net : Net pl L (lvB al) room := Kept.net hk few r0
          have h714 := ex14.at h713
          walk_at "wx"
          refine ⟨len_ok rfl, fun q14 hq14 => ?_⟩
          generalize hU : upd _ q14 _ = H15
          have ex15 := Ex.new' hq14 hU
          have h15 := new_at hU
          clear hU
          have h1415 := ex15.at h14
          refine x_neLN (ys := []) (SqL.of h1415) (SqL.of h15) ?_
          by_cases hae : al = []
          · rw [decide_eq_true hae]
            walk_at "wx"
            exact ⟨_, _, _, _, _, _, _, _, rfl, exD.trans ex15⟩
          rw [decide_eq_false hae]
          have exE := exD.trans ex15
          have h715 := ex15.at h714
          have ham : (al.map nV).length = al.length := List.length_map _
          have hapos : 0 < al.length := List.length_pos_iff.mpr hae
          walk_at "wx"
          have e3 : (cc : Int) / 3 = ((cc / 3 : Nat) : Int) := rfl
          rw [ham, e3]
          obtain ⟨st, hst, hat2⟩ := at_mod (x := cc / 3) hae
          refine x_ixL (SqL.of h1415) hat2 ?_
          walk_at "wx"
          obtain ⟨ax, hax, eax⟩ := mod_two_lt (z := (cc : Int) / 16) (k := wd)
          rw [eax]
          refine ⟨len_ok rfl, fun q16 hq16 => ?_⟩
          generalize hU : upd _ q16 _ = H16
          have ex16 := Ex.new' hq16 hU
          have h16 := new_at hU
          clear hU
          have h716 := ex16.at h715
          have e16l : H16 q16 = some (.lst ([ax].map nV)) := h16
          refine x_cat h716 e16l (by rw [sizeLine_eq, List.length_map, List.length_map]; show _ + 1 ≤ _; omega) fun q17 hq17 => ?_
          have ecat2 : pl.map nV ++ [ax].map nV = (pl ++ [ax]).map nV := by rw [List.map_append]
          rw [ecat2]
          generalize hU : upd H16 q17 _ = H17
          have ex17 := Ex.new' hq17 hU
          have h17 := new_at hU
          clear hU
          have hal1 : (pl ++ [ax]).length = pl.length + 1 := by simp
          have halm : ((pl ++ [ax]).map nV).length = pl.length + 1 := by rw [List.length_map, hal1]
          walk_at "wx"
          have e16 : (cc : Int) / 16 = ((cc / 16 : Nat) : Int) := rfl
          rw [List.length_map, e16]
          obtain ⟨gg, hgg, hat⟩ := at_mod (x := cc / 16) (l := pl ++ [ax]) (by simp)
          refine x_ixL (SqL.of h17) hat ?_
          have exF := (exE.trans ex16).trans ex17
          have h1417 := ex17.at (ex16.at h1415)
          walk_at "wx"
          refine wc_l_right rfl rfl rfl rfl (dlc.ex exF) h1417 net has nd (by omega) (by omega) (by omega) w2 hL hpb hst (Fr.tabs exF hTc) fun H18 ex18 => ?_
          walk_at "wx"
          exact ⟨_, _, _, _, _, _, _, _, rfl, exF.trans ex18⟩
        · rintro σ H10 ⟨v2, v8', v9', v10, v11, v12, v13, v14, rfl, ex10⟩
          walk_at "wx"
          exact q H10
end
end Nn
namespace Nn
open PySem PySem.Spec PyProof.Rows L2
def dd_far : He.DefD := ⟨("far", none), "far", "far", defArgs s_far, defBody s_far, defScope s_far, [], []⟩
def dd_nearer : He.DefD := ⟨("nearer", none), "nearer", "nearer", defArgs s_nearer, defBody s_nearer, defScope s_nearer, [], []⟩
def dd_by_nearness : He.DefD := ⟨("by_nearness", none), "by_nearness", "by_nearness", defArgs s_by_nearness, defBody s_by_nearness, defScope s_by_nearness, [], []⟩
def dd_standing : He.DefD := ⟨("standing", none), "standing", "standing", defArgs s_standing, defBody s_standing, defScope s_standing, [], []⟩
def dd_asked : He.DefD := ⟨("asked", none), "asked", "asked", defArgs s_asked, defBody s_asked, defScope s_asked, [], []⟩
def dd_onward : He.DefD := ⟨("onward", none), "onward", "onward", defArgs s_onward, defBody s_onward, defScope s_onward, [], []⟩
def dd_way : He.DefD := ⟨("way", none), "way", "way", defArgs s_way, defBody s_way, defScope s_way, [], []⟩
def dd_l_mixed : He.DefD := ⟨("_law_mixed", none), "_law_mixed", "_law_mixed", defArgs s_l_mixed, defBody s_l_mixed, defScope s_l_mixed, [], []⟩
def dd_l_digits : He.DefD := ⟨("_law_digits", none), "_law_digits", "_law_digits", defArgs s_l_digits, defBody s_l_digits, defScope s_l_digits, [], []⟩
def dd_l_wide : He.DefD := ⟨("_law_wide", none), "_law_wide", "_law_wide", defArgs s_l_wide, defBody s_l_wide, defScope s_l_wide, [], []⟩
def dd_l_near : He.DefD := ⟨("_law_near", none), "_law_near", "_law_near", defArgs s_l_near, defBody s_l_near, defScope s_l_near, [], []⟩
def dd_l_pool : He.DefD := ⟨("_law_pool", none), "_law_pool", "_law_pool", defArgs s_l_pool, defBody s_l_pool, defScope s_l_pool, [], []⟩
def dd_l_by : He.DefD := ⟨("_law_by", none), "_law_by", "_law_by", defArgs s_l_by, defBody s_l_by, defScope s_l_by, [], []⟩
def dd_l_step : He.DefD := ⟨("_law_step", none), "_law_step", "_law_step", defArgs s_l_step, defBody s_l_step, defScope s_l_step, [], []⟩
def dd_l_kept : He.DefD := ⟨("_law_kept", none), "_law_kept", "_law_kept", defArgs s_l_kept, defBody s_l_kept, defScope s_l_kept, [], []⟩
def dd_l_right : He.DefD := ⟨("_law_right", none), "_law_right", "_law_right", defArgs s_l_right, defBody s_l_right, defScope s_l_right, [], []⟩
def dd_law : He.DefD := ⟨("law", none), "law", "law", defArgs s_law, defBody s_law, defScope s_law, [], []⟩
def fnL : List He.DefD := [dd_far, dd_nearer, dd_by_nearness, dd_standing, dd_asked, dd_onward, dd_way, dd_l_mixed, dd_l_digits, dd_l_wide, dd_l_near, dd_l_pool, dd_l_by, dd_l_step, dd_l_kept, dd_l_right, dd_law]
def faL : List He.Fa := [.glo "far",
  .glo "nearer",
  .glo "by_nearness",
  .glo "standing",
  .glo "asked",
  .glo "onward",
  .glo "way",
  .glo "_law_mixed",
  .glo "_law_digits",
  .glo "_law_wide",
  .glo "_law_near",
  .glo "_law_pool",
  .glo "_law_by",
  .glo "_law_step",
  .glo "_law_kept",
  .glo "_law_right",
  .glo "law",
  .free "all",
  .free "enumerate",
  .free "len",
  .free "list",
  .free "min",
  .free "range",
  .free "sorted",
  .free "sum"]
abbrev RW : PySem.W.OpenRow := PySem.W.OpenLaw.row PySem.Challenge.rw_nearnames_k24_fewer_silent
def aliL : List (Str × Str) := []
def exL (K : PySem.W.Frag) : Bool := aliL.all fun p => decide (He.ga K p.1 = He.ga K p.2)
theorem exL_ok {K : PySem.W.Frag} (h : exL K = true) {p : Str × Str} (hp : p ∈ aliL) : He.ga K p.1 = He.ga K p.2 := of_decide_eq_true (List.all_eq_true.mp h p hp)
abbrev hkX : PySem.W.Hook := He.hookX 6 faL fnL [] tfL exL
def obL (s : PySem.W.SharedT) : He.AlX := He.obsX 6 faL fnL [] tfL exL (HandSHeadRun.getT s)
theorem obL_eq (s : PySem.W.SharedT) : obL s = hkX.obs s.abs := He.obsX_eq (HandSHeadRun.getT_eq s)
def loose0 : List Str := ["far", "nearer", "by_nearness", "standing", "asked", "onward", "way", "_law_mixed", "_law_digits", "_law_wide", "_law_near", "_law_pool", "_law_by", "_law_step", "_law_kept", "_law_right"]
def looseL : List Str := loose0
theorem runL (w : World) : HandSHeadRun.RunEq RW (PySem.W.view RW.prog [19]) hkX obL 6000 looseL w := by
  intro os
  kernel_rfl
theorem factsL {w : World} {K : PySem.W.Frag} {h : Heap} {mg : Str → Option Value} {f : Addr} (X : K.In h) (G : h.Ns mainGlobals mg) (hfa : mg ("law" : Str) = some (.ref f)) (c : He.SaysX faL fnL [] tfL exL w h K) :
    LamX.LawAtS PySem.Challenge.rw_nearnames_k24_fewer_silent w K CX0 6 63 "_law_script" mg f h := by
  obtain ⟨fd0, F0⟩ := c.t.d.def_ 0 (d := dd_far) rfl
  have b0 := FunD.bindsN (ps := ["one", "other"]) F0 fun _ _ _ _ _ _ us hl => match us, hl with | [_, _], _ => rfl
  obtain ⟨fd1, F1⟩ := c.t.d.def_ 1 (d := dd_nearer) rfl
  have b1 := FunD.bindsN (ps := ["goal", "one", "other"]) F1 fun _ _ _ _ _ _ us hl => match us, hl with | [_, _, _], _ => rfl
  obtain ⟨fd2, F2⟩ := c.t.d.def_ 2 (d := dd_by_nearness) rfl
  have b2 := FunD.bindsN (ps := ["goal", "names"]) F2 fun _ _ _ _ _ _ us hl => match us, hl with | [_, _], _ => rfl
  obtain ⟨fd3, F3⟩ := c.t.d.def_ 3 (d := dd_standing) rfl
  have b3 := FunD.bindsN (ps := ["goal", "room", "seen", "quiet"]) F3 fun _ _ _ _ _ _ us hl => match us, hl with | [_, _, _, _], _ => rfl
  obtain ⟨fd4, F4⟩ := c.t.d.def_ 4 (d := dd_asked) rfl
  have b4 := FunD.bindsN (ps := ["start", "goal", "room", "tells"]) F4 fun _ _ _ _ _ _ us hl => match us, hl with | [_, _, _, _], _ => rfl
  obtain ⟨fd5, F5⟩ := c.t.d.def_ 5 (d := dd_onward) rfl
  have b5 := FunD.bindsN (ps := ["here", "goal", "tells"]) F5 fun _ _ _ _ _ _ us hl => match us, hl with | [_, _, _], _ => rfl
  obtain ⟨fd6, F6⟩ := c.t.d.def_ 6 (d := dd_way) rfl
  have b6 := FunD.bindsN (ps := ["start", "goal", "tells"]) F6 fun _ _ _ _ _ _ us hl => match us, hl with | [_, _, _], _ => rfl
  obtain ⟨fd7, F7⟩ := c.t.d.def_ 7 (d := dd_l_mixed) rfl
  have b7 := FunD.bindsN (ps := ["_law_cell", "_law_k"]) F7 fun _ _ _ _ _ _ us hl => match us, hl with | [_, _], _ => rfl
  obtain ⟨fd8, F8⟩ := c.t.d.def_ 8 (d := dd_l_digits) rfl
  have b8 := FunD.bindsN (ps := ["_law_cell", "_law_base", "_law_many"]) F8 fun _ _ _ _ _ _ us hl => match us, hl with | [_, _, _], _ => rfl
  obtain ⟨fd9, F9⟩ := c.t.d.def_ 9 (d := dd_l_wide) rfl
  have b9 := FunD.bindsN (ps := ["_law_cell"]) F9 fun _ _ _ _ _ _ us hl => match us, hl with | [_], _ => rfl
  obtain ⟨fd10, F10⟩ := c.t.d.def_ 10 (d := dd_l_near) rfl
  have b10 := FunD.bindsN (ps := ["_law_signs", "_law_wide_here", "_law_first"]) F10 fun _ _ _ _ _ _ us hl => match us, hl with | [_, _, _], _ => rfl
  obtain ⟨fd11, F11⟩ := c.t.d.def_ 11 (d := dd_l_pool) rfl
  have b11 := FunD.bindsN (ps := ["_law_cell", "_law_wide_here", "_law_many"]) F11 fun _ _ _ _ _ _ us hl => match us, hl with | [_, _, _], _ => rfl
  obtain ⟨fd12, F12⟩ := c.t.d.def_ 12 (d := dd_l_by) rfl
  have b12 := FunD.bindsN (ps := ["_law_goal", "_law_names"]) F12 fun _ _ _ _ _ _ us hl => match us, hl with | [_, _], _ => rfl
  obtain ⟨fd13, F13⟩ := c.t.d.def_ 13 (d := dd_l_step) rfl
  have b13 := FunD.bindsN (ps := ["_law_one", "_law_other"]) F13 fun _ _ _ _ _ _ us hl => match us, hl with | [_, _], _ => rfl
  obtain ⟨fd14, F14⟩ := c.t.d.def_ 14 (d := dd_l_kept) rfl
  have b14 := FunD.bindsN (ps := ["_law_pool_here", "_law_house", "_law_room", "_law_cell"]) F14 fun _ _ _ _ _ _ us hl => match us, hl with | [_, _, _, _], _ => rfl
  obtain ⟨fd15, F15⟩ := c.t.d.def_ 15 (d := dd_l_right) rfl
  have b15 := FunD.bindsN (ps := ["_law_keeps", "_law_awake", "_law_wide_here", "_law_room", "_law_start", "_law_goal"]) F15 fun _ _ _ _ _ _ us hl => match us, hl with | [_, _, _, _, _, _], _ => rfl
  obtain ⟨fd16, F16⟩ := c.t.d.def_ 16 (d := dd_law) rfl
  have b16 := FunD.bindsN (ps := ["_law_script"]) F16 fun _ _ _ _ _ _ us hl => match us, hl with | [_], _ => rfl
  have e := hfa.symm.trans (He.glo_ok X G (c.t.d.fact 16 (f := .glo "law") rfl))
  cases e
  refine ⟨fd16, tfL.map (He.cT K), spLaw K, List.forall_mem_map.mpr fun p hp => c.empty p hp, List.forall_mem_map.mpr fun p hp => c.out p hp, List.forall_mem_map.mpr fun p hp => PySem.W.codeHd_of_K X (c.hd p hp), fun s v => FunD.bindsA (ps := ["_law_script"]) F16 (fun _ _ _ _ _ _ us hl => match us, hl with | [_], _ => rfl) s [v] rfl, fun H a ns hl _ hT hS => ⟨a, ns, rfl, hS, hl, hT, fun _ => rfl⟩, fun base KB GB hTB => ok_law (K := K) (mg := mg) (base := base) {
      a_far := (He.ga K "far"), d_far := fd0, F_far := F0, b_far := b0,
      m_far := He.glo_ok X G (c.t.d.fact 0 (f := .glo "far") rfl),
      a_nearer := (He.ga K "nearer"), d_nearer := fd1, F_nearer := F1, b_nearer := b1,
      m_nearer := He.glo_ok X G (c.t.d.fact 1 (f := .glo "nearer") rfl),
      a_by_nearness := (He.ga K "by_nearness"), d_by_nearness := fd2, F_by_nearness := F2, b_by_nearness := b2,
      m_by_nearness := He.glo_ok X G (c.t.d.fact 2 (f := .glo "by_nearness") rfl),
      a_standing := (He.ga K "standing"), d_standing := fd3, F_standing := F3, b_standing := b3,
      m_standing := He.glo_ok X G (c.t.d.fact 3 (f := .glo "standing") rfl),
      a_asked := (He.ga K "asked"), d_asked := fd4, F_asked := F4, b_asked := b4,
      m_asked := He.glo_ok X G (c.t.d.fact 4 (f := .glo "asked") rfl),
      a_onward := (He.ga K "onward"), d_onward := fd5, F_onward := F5, b_onward := b5,
      m_onward := He.glo_ok X G (c.t.d.fact 5 (f := .glo "onward") rfl),
      a_way := (He.ga K "way"), d_way := fd6, F_way := F6, b_way := b6,
      m_way := He.glo_ok X G (c.t.d.fact 6 (f := .glo "way") rfl),
      a_l_mixed := (He.ga K "_law_mixed"), d_l_mixed := fd7, F_l_mixed := F7, b_l_mixed := b7,
      m_l_mixed := He.glo_ok X G (c.t.d.fact 7 (f := .glo "_law_mixed") rfl),
      a_l_digits := (He.ga K "_law_digits"), d_l_digits := fd8, F_l_digits := F8, b_l_digits := b8,
      m_l_digits := He.glo_ok X G (c.t.d.fact 8 (f := .glo "_law_digits") rfl),
      a_l_wide := (He.ga K "_law_wide"), d_l_wide := fd9, F_l_wide := F9, b_l_wide := b9,
      m_l_wide := He.glo_ok X G (c.t.d.fact 9 (f := .glo "_law_wide") rfl),
      a_l_near := (He.ga K "_law_near"), d_l_near := fd10, F_l_near := F10, b_l_near := b10,
      m_l_near := He.glo_ok X G (c.t.d.fact 10 (f := .glo "_law_near") rfl),
      a_l_pool := (He.ga K "_law_pool"), d_l_pool := fd11, F_l_pool := F11, b_l_pool := b11,
      m_l_pool := He.glo_ok X G (c.t.d.fact 11 (f := .glo "_law_pool") rfl),
      a_l_by := (He.ga K "_law_by"), d_l_by := fd12, F_l_by := F12, b_l_by := b12,
      m_l_by := He.glo_ok X G (c.t.d.fact 12 (f := .glo "_law_by") rfl),
      a_l_step := (He.ga K "_law_step"), d_l_step := fd13, F_l_step := F13, b_l_step := b13,
      m_l_step := He.glo_ok X G (c.t.d.fact 13 (f := .glo "_law_step") rfl),
      a_l_kept := (He.ga K "_law_kept"), d_l_kept := fd14, F_l_kept := F14, b_l_kept := b14,
      m_l_kept := He.glo_ok X G (c.t.d.fact 14 (f := .glo "_law_kept") rfl),
      a_l_right := (He.ga K "_law_right"), d_l_right := fd15, F_l_right := F15, b_l_right := b15,
      m_l_right := He.glo_ok X G (c.t.d.fact 15 (f := .glo "_law_right") rfl),
      a_law := (He.ga K "law"), d_law := fd16, F_law := F16, b_law := b16,
      m_law := He.glo_ok X G (c.t.d.fact 16 (f := .glo "law") rfl),
      z_all := He.free_ok X G (c.t.d.fact 17 (f := .free "all") rfl),
      z_enumerate := He.free_ok X G (c.t.d.fact 18 (f := .free "enumerate") rfl),
      z_len := He.free_ok X G (c.t.d.fact 19 (f := .free "len") rfl),
      z_list := He.free_ok X G (c.t.d.fact 20 (f := .free "list") rfl),
      z_min := He.free_ok X G (c.t.d.fact 21 (f := .free "min") rfl),
      z_range := He.free_ok X G (c.t.d.fact 22 (f := .free "range") rfl),
      z_sorted := He.free_ok X G (c.t.d.fact 23 (f := .free "sorted") rfl),
      z_sum := He.free_ok X G (c.t.d.fact 24 (f := .free "sum") rfl),
      k_l_by := He.codeOf K ("_law_by", none), P_l_by := He.tabOf K (He.codeOf K ("_law_by", none)), tb_l_by := hTB _ (List.mem_map.mpr ⟨(("_law_by", none) : He.Defn), by simp [tfL], rfl⟩), FC_l_by := func_of (p := ("_law_by", none)) F12, z0_l_by := fun H h => h _ (List.mem_map.mpr ⟨(("_law_by", none) : He.Defn), by simp [tfL], rfl⟩),
      k_l_right := He.codeOf K ("_law_right", none), P_l_right := He.tabOf K (He.codeOf K ("_law_right", none)), tb_l_right := hTB _ (List.mem_map.mpr ⟨(("_law_right", none) : He.Defn), by simp [tfL], rfl⟩), FC_l_right := func_of (p := ("_law_right", none)) F15, z0_l_right := fun H h => h _ (List.mem_map.mpr ⟨(("_law_right", none) : He.Defn), by simp [tfL], rfl⟩) }⟩
end Nn
open PySem PySem.W PySem.Calls PyProof.Rows
theorem PySem.Challenge.cw_nearnames_k24_fewer_silent_holds : PySem.Challenge.rw_nearnames_k24_fewer_silent.Holds := by
  w_on; o_law
  refine HandSHeadRun.head_any (r := OpenLaw.row PySem.Challenge.rw_nearnames_k24_fewer_silent) (q := view (OpenLaw.row PySem.Challenge.rw_nearnames_k24_fewer_silent).prog [19]) (H := Nn.hkX) (ob := Nn.obL) (M := 6000) (loose := Nn.looseL) (d := HandSHeadRun.topDef (OpenLaw.row PySem.Challenge.rw_nearnames_k24_fewer_silent).prog 19) (kwd := []) Nn.obL_eq
    (by kernel_rfl) (fun s => by kernel_rfl) Nn.runL (by kernel_rfl) (by kernel_rfl) (by kernel_rfl) (by rfl) (by first | assumption | decide +kernel) (by decide +kernel) ⟨rfl, rfl, rfl, rfl, rfl, by decide +kernel⟩ ?hw ?hc
  case hw => w_witness2
  case hc =>
    refine LamX.walk_ofTsE (l := PySem.Challenge.rw_nearnames_k24_fewer_silent) (n := 63) (k := 6) (x := "_law_script") (CX := fun _ => L2.CX0) rfl (by decide) (by kernel_rfl) ⟨rfl, by decide, by decide⟩ ?F (fun _ _ _ _ _ z => z)
    intro w mg fa h Y G hmg0
    obtain ⟨K, KX, c⟩ := Y
    have hmg : mg ("law" : PySem.Str) = some (.ref fa) := by
      have e : (HandSHeadRun.topDef (OpenLaw.row PySem.Challenge.rw_nearnames_k24_fewer_silent).prog 19).name = ("law" : PySem.Str) := by kernel_rfl
      rw [← e]
      exact hmg0
    exact ⟨K, KX, Nn.factsL KX G hmg c⟩
