import PyProof.Rows.All
import PyProof.CRoomFacts
import PyProof.Rules
import PyProof.WalksMore
import Wide.All
import OpenK.AllK
import Wide.FinOn
import PyProof.EnumIter
import PyProof.ListNew
import PyProof.FactsAll.list_2
import PyProof.ReprLoop
import PyProof.MeetsSeq2
import PyProof.MeetsSeq3
import Wide.BytesRules
import PyProof.AutoRange
import PyProof.RangeIter
import KE.BytesMulAny
import PyProof.MeetsDict
import PyProof.MeetsSeq
import PyProof.AutoListH
import PyProof.Walk
import PyProof.WalkLemmas
import PyProof.AutoIntG2
import PyProof.SliceMore
import PySem.Challenge.RW_pq0686_02
set_option Elab.async false
namespace Mine
theorem mcS {α : Type} {a : α} {l : List α} : a ∈ a :: l := List.mem_cons_self
theorem mcT {α : Type} {a b : α} {l : List α} (h : a ∈ l) : a ∈ b :: l := List.mem_cons_of_mem _ h
end Mine
noncomputable section
open PySem
namespace Mine
noncomputable def eqR (op : CmpOp) (a b : Value) : Sem Value := do
  let ta ← typeOf a
  let tb ← typeOf b
  match ta, tb with
  | .type n, .type m => match n == "list" && m == "list" with
    | true => do
      match ← tryCompare a (cmpInfo op).2.1 b with
      | some v => pure v
      | none => unsupported "eqR"
    | false => unsupported "eqR"
  | _, _ => unsupported "eqR"
noncomputable def cmpR (op : CmpOp) (a b : Value) : Sem Value := match op with
  | .Eq => match a with
    | .ref x => match b with
      | .ref y => eqR .Eq (.ref x) (.ref y)
      | b => compareOp .Eq (.ref x) b
    | a => compareOp .Eq a b
  | .NotEq => match a with
    | .ref x => match b with
      | .ref y => eqR .NotEq (.ref x) (.ref y)
      | b => compareOp .NotEq (.ref x) b
    | a => compareOp .NotEq a b
  | op => compareOp op a b
noncomputable def evalR1 (e : Expr) (env : Env) : Sem Value := match e with
  | .Compare l [op] [r] pos => do
    let a ← eval l env
    let b ← holding [a] (markedBehindIn op r (eval r env))
    standAt pos
    operate [a, b] (cmpR op a b)
  | e => eval e env
noncomputable def testR (e : Expr) (env : Env) : Sem Bool := match e with
  | .Compare l [op] [r] pos => do
    let a ← eval l env
    let b ← holding [a] (markedBehindIn op r (eval r env))
    standAt pos
    let c ← operate [a, b] (cmpR op a b)
    holding [c] (truthy c)
  | e => isTrue e env (eval e env)
noncomputable def evalR (e : Expr) (env : Env) : Sem Value := match e with
  | .BoolOp op [x, y] pos => boolOp pos op [evalR1 x env, evalR1 y env]
  | .IfExp t b o _ => do
    if ← testR t env then evalR1 b env else evalR1 o env
  | e => evalR1 e env
noncomputable def testR2 (e : Expr) (env : Env) : Sem Bool := match e with
  | .IfExp t b o _ => do
    if ← testR t env then testR b env else testR o env
  | .BoolOp op [x, y] _ => do
    match op, ← testR x env with
    | .And, false => pure false
    | .Or, true => pure true
    | op, _ => do
      match op, ← testR y env with
      | .And, false => pure false
      | .Or, true => pure true
      | op, _ => pure (op == .And)
  | e => testR e env
noncomputable def retR (s : Stmt) (env : Env) : Sem Flow := match s with
  | .Return (some e) pos => do
    standAt pos
    return .ret (← evalR e env)
  | s => exec s env
noncomputable def execR (s : Stmt) (env : Env) : Sem Flow := match s with
  | .If t [s] [] pos => do
    standAt pos
    if ← testR2 t env then do
      match ← retR s env with
      | .next => pure .next
      | f => pure f
    else pure .next
  | .Assign [.Name x pos'] (.IfExp t b o pos'') pos => do
    standAt pos
    let v ← evalR (.IfExp t b o pos'') env
    standAt pos'
    bindName env x v
    pure .next
  | s => retR s env
noncomputable def execsR : List Stmt → Env → Sem Flow
  | [], _ => pure .next
  | s :: rest, env => do
    match ← execR s env with
    | .next => execsR rest env
    | f => pure f
noncomputable def bodyR (env : Env) (body : List Stmt) : Sem Flow := match env.func with
  | some a => match (Nat.beq a 811 || (Nat.beq a 816 || Nat.beq a 823)) || (Nat.beq a 809 || Nat.beq a 830) with
    | true => execsR body env
    | false => execs body env
  | none => execs body env
noncomputable def compR (e : Expr) (depth : Nat) (r : Addr) (acc : Value) (env : Env) : Sem Fin := match ((clausesOf e)[depth]?).elim false (·.is_async != 0) with
  | true => denote table (.compStart e depth (.ref r) acc env)
  | false => match (Code.compStart e depth (.ref r) acc env).isFrame with
    | true => denote table (.compStart e depth (.ref r) acc env)
    | false => do
      let o ← load r
      match o.cls with
      | .type n => match n == "range_iterator" with
        | true => again (.compLoop e depth (.ref r) acc env)
        | false => denote table (.compStart e depth (.ref r) acc env)
      | _ => denote table (.compStart e depth (.ref r) acc env)
end Mine
end

noncomputable section
open PySem
set_option maxRecDepth 100000
namespace Mine
section
variable {M : Model} {Γ : Ctx}
open Sem (wp)
theorem eqR_sound {op : CmpOp} {x y : Addr} (hop : op = .Eq ∨ op = .NotEq) (hu : Γ.units < cLine) {Q : Value → Pos → Shared → Prop} {E : Value → Pos → Shared → Prop} {p : Pos} {s : Shared} (h : wp M Γ (eqR op (.ref x) (.ref y)) Q E p s) : wp M Γ (compareOp op (.ref x) (.ref y)) Q E p s := by
  have hc : compareOp op (.ref x) (.ref y) = richCompare op (.ref x) (.ref y) := by rcases hop with rfl | rfl <;> rfl
  rw [hc]
  unfold richCompare
  rw [Sem.wp_holding, Sem.wp_bind']
  refine Sem.wp_cRoomFor _ _ hu ?_
  have ho : oneThing? op (.ref x) (.ref y) = none := by rcases hop with rfl | rfl <;> rfl
  rw [ho]
  unfold eqR at h
  rw [Sem.wp_bind'] at h
  rw [Sem.wp_bind']
  refine Sem.wp_mono _ _ _ (fun ta p1 s1 h1 => ?_) (fun _ _ _ h => h) _ _ h
  clear h
  rw [Sem.wp_bind'] at h1
  rw [Sem.wp_bind']
  refine Sem.wp_mono _ _ _ (fun tb p2 s2 h2 => ?_) (fun _ _ _ h => h) _ _ h1
  clear h1
  cases ta with
  | type n =>
    cases tb with
    | type m =>
      cases e : (n == "list" && m == "list") with
      | false => simp only [e] at h2; exact ((Sem.wp_unsupported ..).mp h2).elim
      | true =>
        simp only [e] at h2
        rw [Bool.and_eq_true, beq_iff_eq, beq_iff_eq] at e
        obtain ⟨rfl, rfl⟩ := e
        rw [if_neg (by simp)]
        rw [Sem.wp_bind'] at h2
        show wp M Γ (pure false >>= _) _ _ _ _
        rw [Sem.wp_bind', Sem.wp_pure']
        show wp M Γ (tryCompare (.ref x) (cmpInfo op).2.1 (.ref y) >>= _) _ _ _ _
        rw [Sem.wp_bind']
        refine Sem.wp_mono _ _ _ (fun r p s h => ?_) (fun _ _ _ h => h) _ _ h2
        cases r with
        | none => exact ((Sem.wp_unsupported ..).mp h).elim
        | some v => exact h
    | _ => exact ((Sem.wp_unsupported ..).mp h2).elim
  | _ => exact ((Sem.wp_unsupported ..).mp h2).elim
theorem cmpR_sound {op : CmpOp} {a b : Value} (hu : Γ.units < cLine) {Q : Value → Pos → Shared → Prop} {E : Value → Pos → Shared → Prop} {p : Pos} {s : Shared} (h : wp M Γ (cmpR op a b) Q E p s) : wp M Γ (compareOp op a b) Q E p s := by
  cases op with
  | Eq => cases a with
    | ref x => cases b with
      | ref y => exact eqR_sound (.inl rfl) hu h
      | _ => exact h
    | _ => exact h
  | NotEq => cases a with
    | ref x => cases b with
      | ref y => exact eqR_sound (.inr rfl) hu h
      | _ => exact h
    | _ => exact h
  | _ => exact h
theorem evalR1_sound {e : Expr} {env : Env} (hu : Γ.units < cLine) {Q : Value → Pos → Shared → Prop} {E : Value → Pos → Shared → Prop} {p : Pos} {s : Shared} (h : wp M Γ (evalR1 e env) Q E p s) : wp M Γ (eval e env) Q E p s := by
  unfold evalR1 at h
  split at h
  · rw [eval_Compare1]
    rw [Sem.wp_bind'] at h ⊢
    refine Sem.wp_mono _ _ _ (fun a p s h => ?_) (fun _ _ _ h => h) _ _ h
    rw [Sem.wp_bind'] at h ⊢
    refine Sem.wp_mono _ _ _ (fun b p s h => ?_) (fun _ _ _ h => h) _ _ h
    rw [Sem.wp_bind'] at h ⊢
    refine Sem.wp_mono _ _ _ (fun _ p s h => ?_) (fun _ _ _ h => h) _ _ h
    rw [Sem.wp_operate] at h ⊢
    exact cmpR_sound hu h
  · exact h
theorem testR_sound {e : Expr} {env : Env} (hu : Γ.units < cLine) {Q : Bool → Pos → Shared → Prop} {E : Value → Pos → Shared → Prop} {p : Pos} {s : Shared} (h : wp M Γ (testR e env) Q E p s) : wp M Γ (isTrue e env (eval e env)) Q E p s := by
  unfold testR at h
  split at h
  · rw [isTrue_Compare1]
    rw [Sem.wp_bind'] at h ⊢
    refine Sem.wp_mono _ _ _ (fun a p s h => ?_) (fun _ _ _ h => h) _ _ h
    rw [Sem.wp_bind'] at h ⊢
    refine Sem.wp_mono _ _ _ (fun b p s h => ?_) (fun _ _ _ h => h) _ _ h
    rw [Sem.wp_bind'] at h ⊢
    refine Sem.wp_mono _ _ _ (fun _ p s h => ?_) (fun _ _ _ h => h) _ _ h
    rw [Sem.wp_bind', Sem.wp_operate] at h ⊢
    exact cmpR_sound hu h
  · exact h
theorem eval_And (op : BoolOp) (x y : Expr) (pos : Pos) (env : Env) : eval (.BoolOp op [x, y] pos) env = boolOp pos op [eval x env, eval y env] := rfl
theorem eval_If (t b o : Expr) (pos : Pos) (env : Env) : eval (.IfExp t b o pos) env = (do if ← isTrue t env (eval t env) then eval b env else eval o env) := rfl
theorem evalR_sound {e : Expr} {env : Env} (hu : Γ.units < cLine) {Q : Value → Pos → Shared → Prop} {E : Value → Pos → Shared → Prop} {p : Pos} {s : Shared} (h : wp M Γ (evalR e env) Q E p s) : wp M Γ (eval e env) Q E p s := by
  unfold evalR at h
  split at h
  · rename_i op x y pos
    rw [eval_And]
    unfold boolOp at h ⊢
    rw [Sem.wp_bind'] at h ⊢
    refine Sem.wp_mono _ _ _ (fun v p s h => ?_) (fun _ _ _ h => h) _ _ (evalR1_sound hu h)
    rw [Sem.wp_bind'] at h ⊢
    refine Sem.wp_mono _ _ _ (fun _ p s h => ?_) (fun _ _ _ h => h) _ _ h
    rw [Sem.wp_bind'] at h ⊢
    refine Sem.wp_mono _ _ _ (fun t p s h => ?_) (fun _ _ _ h => h) _ _ h
    split
    · exact h
    · exact h
    · rename_i h1 h2
      have h : wp M Γ (boolOp pos op [evalR1 y env]) Q E p s := by
        split at h
        · exact absurd rfl (h1 rfl)
        · exact absurd rfl (h2 rfl)
        · exact h
      exact evalR1_sound hu h
  · rw [eval_If]
    rw [Sem.wp_bind'] at h ⊢
    refine Sem.wp_mono _ _ _ (fun b p s h => ?_) (fun _ _ _ h => h) _ _ (testR_sound hu h)
    cases b with
    | true => rw [if_pos rfl] at h ⊢; exact evalR1_sound hu h
    | false => rw [if_neg (by simp)] at h ⊢; exact evalR1_sound hu h
  · exact evalR1_sound hu h
theorem isTrue_If (t b o : Expr) (pos : Pos) (env : Env) (v : Sem Value) : isTrue (.IfExp t b o pos) env v = (do if ← isTrue t env (eval t env) then isTrue b env (eval b env) else isTrue o env (eval o env)) := rfl
theorem isTrue_two (op : BoolOp) (x y : Expr) (pos : Pos) (env : Env) (v : Sem Value) : isTrue (.BoolOp op [x, y] pos) env v = (isTrue x env (eval x env) >>= fun b => match op, b with
    | .And, false => pure false
    | .Or, true => pure true
    | op, _ => isTrue y env (eval y env) >>= fun b => match op, b with
      | .And, false => pure false
      | .Or, true => pure true
      | op, _ => pure (op == .And)) := by
  show (isTrue x env (eval x env) >>= _) = _
  refine congrArg _ (funext fun b => ?_)
  cases op <;> cases b <;> first | rfl | (show (isTrue y env (eval y env) >>= _) = _; refine congrArg _ (funext fun b => ?_); cases b <;> rfl)
theorem testR2_sound {e : Expr} {env : Env} (hu : Γ.units < cLine) {Q : Bool → Pos → Shared → Prop} {E : Value → Pos → Shared → Prop} {p : Pos} {s : Shared} (h : wp M Γ (testR2 e env) Q E p s) : wp M Γ (isTrue e env (eval e env)) Q E p s := by
  unfold testR2 at h
  split at h
  · rw [isTrue_If]
    rw [Sem.wp_bind'] at h ⊢
    refine Sem.wp_mono _ _ _ (fun b p s h => ?_) (fun _ _ _ h => h) _ _ (testR_sound hu h)
    cases b with
    | true => rw [if_pos rfl] at h ⊢; exact testR_sound hu h
    | false => rw [if_neg (by simp)] at h ⊢; exact testR_sound hu h
  · rename_i op x y pos
    rw [isTrue_two]
    rw [Sem.wp_bind'] at h ⊢
    refine Sem.wp_mono _ _ _ (fun b p s h => ?_) (fun _ _ _ h => h) _ _ (testR_sound hu h)
    cases op <;> cases b <;> first
      | exact h
      | (
        show wp M Γ (isTrue y env (eval y env) >>= _) Q E p s
        have h : wp M Γ (testR y env >>= _) Q E p s := h
        rw [Sem.wp_bind'] at h ⊢
        refine Sem.wp_mono _ _ _ (fun b p s h => ?_) (fun _ _ _ h => h) _ _ (testR_sound hu h)
        cases b <;> exact h)
  · exact testR_sound hu h
theorem retR_sound {st : Stmt} {env : Env} (hu : Γ.units < cLine) {Q : Flow → Pos → Shared → Prop} {E : Value → Pos → Shared → Prop} {p : Pos} {s : Shared} (h : wp M Γ (retR st env) Q E p s) : wp M Γ (exec st env) Q E p s := by
  unfold retR at h
  split at h
  · rw [exec_Return_some]
    rw [Sem.wp_bind'] at h ⊢
    refine Sem.wp_mono _ _ _ (fun _ p s h => ?_) (fun _ _ _ h => h) _ _ h
    rw [Sem.wp_bind'] at h ⊢
    exact evalR_sound hu h
  · exact h
theorem swaps_no {t b o : Expr} {pos : Pos} {x : Option Expr} {line : Nat} {env : Env} : swapsWith (.IfExp t b o pos) x line env = pure false := rfl
theorem execR_sound {st : Stmt} {env : Env} (hu : Γ.units < cLine) {Q : Flow → Pos → Shared → Prop} {E : Value → Pos → Shared → Prop} {p : Pos} {s : Shared} (h : wp M Γ (execR st env) Q E p s) : wp M Γ (exec st env) Q E p s := by
  unfold execR at h
  split at h
  · rw [exec_If]
    rw [Sem.wp_bind'] at h ⊢
    refine Sem.wp_mono _ _ _ (fun _ p s h => ?_) (fun _ _ _ h => h) _ _ h
    rw [Sem.wp_bind'] at h ⊢
    refine Sem.wp_mono _ _ _ (fun b p s h => ?_) (fun _ _ _ h => h) _ _ (testR2_sound hu h)
    cases b with
    | false => exact h
    | true =>
      rw [if_pos rfl] at h ⊢
      rw [execs_cons]
      rw [Sem.wp_bind'] at h ⊢
      exact retR_sound hu h
  · rw [exec_Assign_Name _ _ _ _ _ swaps_no]
    rw [Sem.wp_bind'] at h ⊢
    refine Sem.wp_mono _ _ _ (fun _ p s h => ?_) (fun _ _ _ h => h) _ _ h
    rw [Sem.wp_bind'] at h ⊢
    exact evalR_sound hu h
  · exact retR_sound hu h
theorem execsR_sound {env : Env} (hu : Γ.units < cLine) : ∀ {body : List Stmt} {Q : Flow → Pos → Shared → Prop} {E : Value → Pos → Shared → Prop} {p : Pos} {s : Shared}, wp M Γ (execsR body env) Q E p s → wp M Γ (execs body env) Q E p s
  | [], _, _, _, _, h => h
  | st :: rest, Q, E, p, s, h => by
    have h : wp M Γ (execR st env >>= fun f => match f with | .next => execsR rest env | f => pure f) Q E p s := h
    rw [execs_cons]
    rw [Sem.wp_bind'] at h ⊢
    refine Sem.wp_mono _ _ _ (fun f p s h => ?_) (fun _ _ _ h => h) _ _ (execR_sound hu h)
    cases f with
    | next => exact execsR_sound hu h
    | _ => exact h
theorem bodyR_sound {env : Env} (hu : Γ.units < cLine) {body : List Stmt} {Q : Flow → Pos → Shared → Prop} {E : Value → Pos → Shared → Prop} {p : Pos} {s : Shared} (h : wp M Γ (bodyR env body) Q E p s) : wp M Γ (execs body env) Q E p s := by
  unfold bodyR at h
  split at h
  · split at h
    · exact execsR_sound hu h
    · exact h
  · exact h
theorem iter_range {P : Program} {w : World} {A : Around} {E : Value → Shared → Prop} {s : Shared} {it : Addr} {Q : Value → Shared → Prop} (hT : s.TypeIs (.ref it) "range_iterator") (h : Q (.ref it) s) : wpAny (model P w) A (pyIter (.ref it)) Q E s := by
  refine wpAny_pyIter_slot hT F.slot_range_iterator_iter (wpAny_call_entry F.slot_range_iterator_iter hT F.entry_range_iterator_iter ?_ (F.args_range_iterator_iter_1 _))
  show wpAny _ _ (ret (.ref it)) _ _ s
  exact wpAny_pure ⟨_, rfl, "range_iterator", _, hT, F.slot_range_iterator_next.lookup, h⟩
theorem compR_sound {P : Program} {w : World} {e : Expr} {depth : Nat} {r : Addr} {acc : Value} {env : Env} {Q : Fin → Pos → Shared → Prop} {E : Value → Pos → Shared → Prop} {p : Pos} {s : Shared}
    (h : wp (model P w) Γ (compR e depth r acc env) (fun f _ s => (∀ p, Q f p s) ∧ s.heap.NoLimit) E p s) : wp (model P w) Γ (denote table (.compStart e depth (.ref r) acc env)) Q E p s := by
  have weak : ∀ (t : Sem Fin), wp (model P w) Γ t (fun f _ s => (∀ p, Q f p s) ∧ s.heap.NoLimit) E p s → wp (model P w) Γ t Q E p s := fun t h =>
    Sem.wp_mono _ _ t (fun _ p _ h => h.1 p) (fun _ _ _ h => h) p s h
  unfold compR at h
  split at h
  · exact weak _ h
  · rename_i ha
    split at h
    · exact weak _ h
    · rename_i hf
      rw [Sem.wp_bind'] at h
      obtain ⟨o, ho, h⟩ : ∃ o, s.heap.get? r = some o ∧ _ := by
        have h' := h
        unfold load at h'
        rw [Sem.wp_load] at h'
        exact h'
      rw [Sem.wp_pure] at h
      split at h
      · rename_i n hcls
        split at h
        · rename_i hn
          have hn : n = "range_iterator" := by simpa using hn
          subst hn
          have hq : ∀ p, Q (.again (.compLoop e depth (.ref r) acc env)) p s := by
            unfold again at h
            rw [Sem.wp_pure'] at h
            exact h.1
          have hI := iter_range (P := P) (w := w) (A := ⟨Γ.handled, frameCount Γ.below + Γ.code.weight, none, none, Γ.units⟩) (E := fun _ _ => False) (s := s) (it := r) (Q := fun v s' => v = .ref r ∧ s' = s) ⟨o, ho, hcls⟩ ⟨rfl, rfl⟩ Γ
          have hI : ∀ p, _ := fun p => hI p ⟨rfl, Nat.le_refl _, fun _ h => (nomatch h), fun _ h => (nomatch h), Nat.le_refl _⟩
          show wp (model P w) Γ (if (Code.compStart e depth (.ref r) acc env).isFrame then (compStart e depth (.ref r) acc env).onRaise (leaving env) else (compStart e depth (.ref r) acc env).onRaise (fun x => do noteFrame x env; standAt theWindowsPlace)) Q E p s
          rw [hf, if_neg (by simp), Sem.wp_onRaise]
          unfold compStart
          rw [ha]
          rw [if_neg (by simp)]
          rw [Sem.wp_bind']
          unfold ask
          rw [Sem.wp_ask, Sem.wp_pure]
          have go : ∀ p, wp (model P w) Γ (pyIter (.ref r) >>= fun v => again (.compLoop e depth v acc env)) Q (fun e p' s' => wp (model P w) Γ (do noteFrame e env; standAt theWindowsPlace) (fun x p'' s'' => E e p'' s'') E p' s') p s := fun p => by
            rw [Sem.wp_bind']
            refine Sem.wp_mono _ _ _ (fun v p' s' (hv : v = .ref r ∧ s' = s) => ?_) (fun _ _ _ h => h.elim) _ _ (hI p)
            obtain ⟨rfl, rfl⟩ := hv
            unfold again
            rw [Sem.wp_pure']
            exact hq p'
          split
          · unfold again
            rw [Sem.wp_pure']
            exact hq p
          · show wp (model P w) Γ (.rule "comprehension.iter-twice" fun _ => _) Q _ p s
            rw [Sem.wp_rule]
            split
            · rename_i g hg
              show wp (model P w) Γ (.at g.iter.pos fun _ => _) Q _ p s
              rw [Sem.wp_at]
              exact go _
            · exact go _
        · exact weak _ h
      · exact weak _ h
end
end Mine
end

noncomputable section
open PySem PySem.W PySem.W.X PyProof.Rows
set_option maxRecDepth 1000000
set_option maxHeartbeats 0
namespace Mine
structure Vn where
  prog : Program
  w : World
  kt : KT
  lim : Nat
noncomputable abbrev Vn.M (V : Vn) : Model := model V.prog V.w
noncomputable abbrev Bk := List (Nat × Nat)
noncomputable def ad (σ : Bk) (s : Nat) : Nat := List.rec (motive := fun _ => Nat) 0 (fun b _ ih => Bool.rec (motive := fun _ => Nat) ih (b.2 + (s - b.1)) (Nat.ble b.1 s)) σ
noncomputable abbrev Mem := List (Nat × Obj)
noncomputable def memIn (h : Heap) (l : Mem) : Prop := ∀ p ∈ l, h.get? p.1 = some p.2
structure Spec where
  code : Code
  dep : Nat
  need : List Bool := []
  bel : Option (List Env × Bool) := none
  pre : Mem
  touch : List Nat
  na : Nat
  nt : Nat
  res : List Nat → List Nat → Result
  postT : List Nat → List Nat → List (Option Obj)
  postN : List Nat → List Nat → List Obj
  rawP : List Nat := []
  rawQ : List Nat := []
noncomputable def okC (c : Code) : Bool := match c with
  | .builtin id _ => !(id == "claim.caller")
  | _ => true
noncomputable def nth (l : List Nat) : Nat → Nat := List.rec (motive := fun _ => Nat → Nat) (fun _ => 0) (fun a _ ih i => Nat.rec (motive := fun _ => Nat) a (fun i _ => ih i) i) l
noncomputable def nthB (l : List Bool) : Nat → Bool := List.rec (motive := fun _ => Nat → Bool) (fun _ => true) (fun a _ ih i => Nat.rec (motive := fun _ => Bool) a (fun i _ => ih i) i) l
noncomputable def sel (ks ix : List Nat) : List Nat := List.rec (motive := fun _ => List Nat) [] (fun i _ ih => nth ks i :: ih) ix
noncomputable def fsts (m : Mem) : List Nat := List.rec (motive := fun _ => List Nat) [] (fun q _ ih => q.1 :: ih) m
noncomputable def lenL {α : Type} (m : List α) : Nat := List.rec (motive := fun _ => Nat) 0 (fun _ _ ih => ih + 1) m
noncomputable def Spec.touchA (S : Spec) : List Nat := sel (fsts S.pre) S.touch
structure Spec.Ends (S : Spec) (as ts : List Nat) (h h' : Heap) : Prop where
  na : as.length = S.na
  nt : ts.length = S.nt
  postT : ∀ i (hi : i < (S.postT as ts).length) o, (S.postT as ts)[i] = some o → h'.get? (nth S.touchA i) = some o
  postN : ∀ i (hi : i < (S.postN as ts).length), h'.get? (nth as i) = some (S.postN as ts)[i]
  keep : ∀ b o, h.get? b = some o → b ∉ S.touchA → h'.get? b = some o
  fresh : ∀ a ∈ as, h.objs.size ≤ a ∧ a < h'.objs.size
  apart : as.Nodup
  size : h.objs.size ≤ h'.objs.size
structure Spec.At (V : Vn) (S : Spec) (h : Heap) : Prop where
  kt : V.kt.Holds h 1 0
  mem : memIn h S.pre
  off : ∀ q ∈ S.pre, V.kt.get q.1 = none
  apart : (S.pre.map (·.1)).Nodup
  lim : V.lim ≤ h.objs.size
  need : ∀ b ∈ S.need, b = true
noncomputable def cenvs (c : Code) : List Env := match c.isFrame with
  | true => match c.env? with
    | some e => [e]
    | none => []
  | false => []
noncomputable def envsB : List (Code × Pos) → List Env
  | [] => []
  | x :: l => cenvs x.1 ++ envsB l
noncomputable def ucB (l : List (Code × Pos)) : Bool := l.any fun x => x.1.isCaller
noncomputable def Low (l : List (Code × Pos)) (d : Nat) : Prop := frameCount l ≤ d ∧ unitsOf l ≤ 9 * d
noncomputable def Spec.Holds (V : Vn) (S : Spec) : Prop := ∀ (Γ : Ctx) (p : Pos) (h : Heap) (g : Array GenState) (d : Drawn) (t : Nat) (os : OsState),
  Γ.code = S.code → Γ.handled = none → Low Γ.below S.dep → (∀ es, S.bel = some es → (envsB Γ.below, ucB Γ.below) = es) → S.At V h →
  ∃ as ts h' t', Returns V.M Γ p ⟨h, g, d, t, os⟩ (S.res as ts) ⟨h', g, d, t', os⟩ ∧ S.Ends as ts h h'
structure CS (V : Vn) where
  S : Spec
  ok : S.Holds V
structure Dp (V : Vn) where
  k : Nat
  get : List Nat → List Obj → Nat → Option (CS V)
noncomputable def kput : Nat → KT → Nat → Option Obj → KT := Nat.rec (motive := fun _ => KT → Nat → Option Obj → KT) (fun t _ _ => t)
  (fun _ ih t i o => KT.rec (motive := fun _ => KT)
    (Bool.rec (motive := fun _ => KT) (Bool.rec (motive := fun _ => KT) (.node none .nil (ih .nil (i / 2 - 1) o)) (.node none (ih .nil (i / 2) o) .nil) (Nat.beq (i % 2) 1)) (.node o .nil .nil) (Nat.beq i 0))
    (fun v l r _ _ => Bool.rec (motive := fun _ => KT) (Bool.rec (motive := fun _ => KT) (.node v l (ih r (i / 2 - 1) o)) (.node v (ih l (i / 2) o) r) (Nat.beq (i % 2) 1)) (.node o l r) (Nat.beq i 0)) t)
structure Hs where
  l : List Nat
  as : List Nat
  ts : List Nat
inductive Tr where
  | run (t : Sem PySem.Fin)
  | seg (t : Tr) (k : PySem.Fin → Tr)
  | onr (t : Tr) (h : Value → Tr)
  | eqI (a b : Int) (k : Tr)
  | envs (k : List Env → Bool → Tr)
  | nat (k : Nat → Tr)
inductive Kn where
  | base
  | ret (c : Code) (hd : Option Value) (d : Nat) (k : Result → Sem PySem.Fin) (κ : Kn)
  | seg (k : PySem.Fin → Tr) (κ : Kn)
  | onr (h : Value → Tr) (κ : Kn)
structure St where
  σ : Bk
  nx : Nat
  τ : Bk
  nt : Nat
  T : KT
inductive Ob where
  | ok
  | stop (n m : Nat)
  | eqN (a b : Nat) (r : Ob)
  | eqC (a b : Code) (r : Ob)
  | eqB (a b : Bool) (r : Ob)
  | eqI (a b : Int) (r : Ob)
  | eqE (a b : List Env × Bool) (r : Ob)
  | eqO (a b : Obj) (r : Ob)
  | eqR (a b : Result) (r : Ob)
  | eqT (a b : Sem PySem.Fin) (r : Ob)
  | all (f : Nat → Ob)
  | allS (f : Pos → (Nat → Pos) → List (Code × Pos) → Ob)
noncomputable def Ob.den : Ob → Prop
  | .ok => True
  | .stop _ _ => False
  | .eqN a b r => a = b ∧ r.den
  | .eqC a b r => a = b ∧ r.den
  | .eqB a b r => a = b ∧ r.den
  | .eqI a b r => a = b ∧ r.den
  | .eqE a b r => a = b ∧ r.den
  | .eqO a b r => a = b ∧ r.den
  | .eqR a b r => a = b ∧ r.den
  | .eqT a b r => a = b ∧ r.den
  | .all f => ∀ n, (f n).den
  | .allS f => ∀ a b c, (f a b c).den
noncomputable def Ob.one (o : Ob) : Ob := Ob.rec (motive := fun _ => Ob) .ok .stop (fun a b _ ih => .eqN a b ih) (fun a b _ ih => .eqC a b ih) (fun a b _ ih => .eqB a b ih) (fun a b _ ih => .eqI a b ih) (fun a b _ ih => .eqE a b ih) (fun a b _ ih => .eqO a b ih) (fun a b _ ih => .eqR a b ih) (fun a b _ ih => .eqT a b ih) (fun _ ih => .all ih) (fun _ ih => .allS ih) o
noncomputable def Ob.two (o : Ob) : Ob := Ob.rec (motive := fun _ => Ob) .ok (fun _ _ => .ok) (fun a _ _ ih => .eqN a a ih) (fun a _ _ ih => .eqC a a ih) (fun a _ _ ih => .eqB a a ih) (fun a _ _ ih => .eqI a a ih) (fun a _ _ ih => .eqE a a ih) (fun a _ _ ih => .eqO a a ih) (fun a _ _ ih => .eqR a a ih) (fun a _ _ ih => .eqT a a ih) (fun _ ih => .all ih) (fun _ ih => .allS ih) o
theorem Ob.den_of : ∀ {o : Ob}, o.one = o.two → o.den
  | .ok, _ => trivial
  | .stop _ _, h => nomatch (show Ob.stop _ _ = Ob.ok from h)
  | .eqN a b r, h => by
    obtain ⟨_, h2, h3⟩ := Ob.eqN.inj (show Ob.eqN a b r.one = Ob.eqN a a r.two from h)
    exact ⟨h2.symm, den_of h3⟩
  | .eqC a b r, h => by
    obtain ⟨_, h2, h3⟩ := Ob.eqC.inj (show Ob.eqC a b r.one = Ob.eqC a a r.two from h)
    exact ⟨h2.symm, den_of h3⟩
  | .eqB a b r, h => by
    obtain ⟨_, h2, h3⟩ := Ob.eqB.inj (show Ob.eqB a b r.one = Ob.eqB a a r.two from h)
    exact ⟨h2.symm, den_of h3⟩
  | .eqI a b r, h => by
    obtain ⟨_, h2, h3⟩ := Ob.eqI.inj (show Ob.eqI a b r.one = Ob.eqI a a r.two from h)
    exact ⟨h2.symm, den_of h3⟩
  | .eqE a b r, h => by
    obtain ⟨_, h2, h3⟩ := Ob.eqE.inj (show Ob.eqE a b r.one = Ob.eqE a a r.two from h)
    exact ⟨h2.symm, den_of h3⟩
  | .eqO a b r, h => by
    obtain ⟨_, h2, h3⟩ := Ob.eqO.inj (show Ob.eqO a b r.one = Ob.eqO a a r.two from h)
    exact ⟨h2.symm, den_of h3⟩
  | .eqR a b r, h => by
    obtain ⟨_, h2, h3⟩ := Ob.eqR.inj (show Ob.eqR a b r.one = Ob.eqR a a r.two from h)
    exact ⟨h2.symm, den_of h3⟩
  | .eqT a b r, h => by
    obtain ⟨_, h2, h3⟩ := Ob.eqT.inj (show Ob.eqT a b r.one = Ob.eqT a a r.two from h)
    exact ⟨h2.symm, den_of h3⟩
  | .all f, h => fun n => den_of (congrFun (Ob.all.inj (show Ob.all (fun n => (f n).one) = Ob.all (fun n => (f n).two) from h)) n)
  | .allS f, h => fun a b c => den_of (congrFun (congrFun (congrFun (Ob.allS.inj (show Ob.allS (fun a b c => (f a b c).one) = Ob.allS (fun a b c => (f a b c).two) from h)) a) b) c)
structure NF where
  l : List (List Nat → Bool)
  ok : ∀ f ∈ l, ∀ ns, f ns = true
noncomputable def NF.nil : NF := ⟨[], fun _ h => nomatch h⟩
noncomputable def nthF (l : List (List Nat → Bool)) : Nat → List Nat → Bool := List.rec (motive := fun _ => Nat → List Nat → Bool) (fun _ _ => true) (fun a _ ih i => Nat.rec (motive := fun _ => List Nat → Bool) a (fun i _ => ih i) i) l
structure Cf where
  s₀ : Nat
  S : Spec
  fk : Bool
  N : NF
noncomputable abbrev Cf.upd (C : Cf) : List Nat := C.S.touch
noncomputable abbrev Go := Hs → Code → Option Value → Nat → Kn → Sem PySem.Fin → St → Ob
noncomputable abbrev Hd := Go → Cf → Hs → Code → Option Value → Nat → Kn → St → Ob
noncomputable def kst (below : List (Code × Pos)) (κ : Kn) : (Nat → Pos) → List (Code × Pos) := Kn.rec (motive := fun _ => (Nat → Pos) → List (Code × Pos)) (fun _ => below) (fun c _ _ _ _ ih ps => (c, ps 0) :: ih (fun i => ps i.succ)) (fun _ _ ih => ih) (fun _ _ ih => ih) κ
noncomputable def appE (l r : List Env) : List Env := List.rec (motive := fun _ => List Env) r (fun a _ ih => a :: ih) l
noncomputable def kenvs (bel : Option (List Env × Bool)) (κ : Kn) : Option (List Env × Bool) := Kn.rec (motive := fun _ => Option (List Env × Bool)) bel (fun c _ _ _ _ ih => Option.rec (motive := fun _ => Option (List Env × Bool)) none (fun es => some (appE (cenvs c) es.1, es.2)) ih) (fun _ _ ih => ih) (fun _ _ ih => ih) κ
noncomputable def belOk (want have_ : Option (List Env × Bool)) (o : Ob) : Ob := Option.rec (motive := fun _ => Ob) o (fun w => Option.rec (motive := fun _ => Ob) (.stop 18 2) (fun h => .eqE h w o) have_) want
noncomputable def ob {α : Type} (o : Option α) (f : α → Ob) : Ob := Option.rec (motive := fun _ => Ob) (.stop 1 0) f o
noncomputable def bf (n : Nat) (b : Bool) (x : Ob) : Ob := Bool.rec (motive := fun _ => Ob) (.stop 2 n) x b
noncomputable def callTree (self : Addr) (fd : FuncData) (args : Args) : Sem PySem.Fin := do
  let q ← match fd.code with
    | .none => pure fd.qualname
    | c => do match ← field c 1 with
      | .str q _ => pure q
      | _ => pure fd.qualname
  let env ← newFunctionEnv fd.scope fd.globals fd.closure (← bindArgs fd args) (q ++ ".<locals>.") (some self) fd.code none fd.builtins
  pure (.again (match fd.body with | .stmts b => .func b env | .expr e => .expr e env))
noncomputable def backV (b : Bool) : Value := match b with
  | true => .notImplemented
  | false => .none
noncomputable def keptM (b : Bool) (env : Env) (imp_ : Bool) : List Env → Sem Value
  | [] => if env.scope.isGenerator || env.scope.isCoroutine then pure .none else pure (backV b)
  | caller :: l => keptBack env imp_ (caller :: l)
noncomputable def readyM (b : Bool) : List Env → Sem Unit
  | [] => pure ()
  | env :: outer => do
    let some f := env.frame | unsupported "frame:not-modelled"
    if ((← load f).slots.getD 3 none).isSome then return
    let imp_ ← behindIsImport env outer
    let back ← keptM b env imp_ outer
    update f fun o => { o with slots := #[some env.code, some (.ref env.globals), o.slots.getD 2 none, some back, o.slots.getD 4 none, env.func.map Value.ref,
                                            some (.ref env.builtins)]
                                          ++ (env.cells.map fun c => some (.ref c.2)).toArray }
    readyM b outer
noncomputable def frameObjM (b : Bool) : List Env → Sem (Option Value)
  | [] => pure none
  | env :: outer => do
    readyM b (env :: outer)
    return env.frame.map Value.ref
noncomputable def tzN : Nat → Nat → Nat
  | 0, _ => 0
  | f + 1, n => match n % 2 with
    | 0 => tzN f (n / 2) + 1
    | _ => 0
noncomputable def prN (a b : Nat) : Nat := 2 ^ a * (2 * b + 1)
noncomputable def fsN (n : Nat) : Nat := tzN n n
noncomputable def snN (n : Nat) : Nat := (n / 2 ^ fsN n) / 2
theorem tzN_pr (b : Nat) : ∀ (a f : Nat), a < f → tzN f (2 ^ a * (2 * b + 1)) = a
  | 0, f + 1, _ => by
    have : (2 ^ 0 * (2 * b + 1)) % 2 = 1 := by lia
    unfold tzN
    rw [this]
    rfl
  | a + 1, f + 1, h => by
    have e : 2 ^ (a + 1) * (2 * b + 1) = 2 * (2 ^ a * (2 * b + 1)) := by rw [Nat.pow_succ, Nat.mul_comm (2 ^ a) 2, Nat.mul_assoc]
    have h1 : (2 * (2 ^ a * (2 * b + 1))) % 2 = 0 := by lia
    have h2 : (2 * (2 ^ a * (2 * b + 1))) / 2 = 2 ^ a * (2 * b + 1) := by lia
    unfold tzN
    rw [e, h1, h2]
    show tzN f _ + 1 = a + 1
    rw [tzN_pr b a f (by lia)]
theorem fsN_pr (a b : Nat) : fsN (prN a b) = a := by
  unfold fsN prN
  refine tzN_pr b a _ ?_
  have h1 : a < 2 ^ a := Nat.lt_two_pow_self
  have h2 : 2 ^ a * 1 ≤ 2 ^ a * (2 * b + 1) := Nat.mul_le_mul_left _ (by lia)
  lia
theorem snN_pr (a b : Nat) : snN (prN a b) = b := by
  unfold snN
  rw [fsN_pr]
  unfold prN
  rw [Nat.mul_div_cancel_left _ (Nat.two_pow_pos a)]
  lia
noncomputable def lsN : Nat → Nat → List Nat
  | 0, _ => []
  | k + 1, n => fsN n :: lsN k (snN n)
theorem lsN_of : ∀ l : List Nat, ∃ n, lsN l.length n = l
  | [] => ⟨0, rfl⟩
  | a :: l => by
    obtain ⟨n, e⟩ := lsN_of l
    refine ⟨prN a n, ?_⟩
    show fsN (prN a n) :: lsN l.length (snN (prN a n)) = _
    rw [fsN_pr, snN_pr, e]
noncomputable def cq (q i : Nat) : Value := match fsN q with
  | 0 => .none
  | _ => match i with
    | 0 => .int (fsN (snN q) : Int) 0
    | 1 => .int (fsN (snN (snN q)) : Int) 0
    | 2 => .int (fsN (snN (snN (snN q))) : Int) 0
    | 3 => .int (fsN (snN (snN (snN (snN q)))) : Int) 0
    | 4 => match fsN (snN (snN (snN (snN (snN q))))) with
      | 0 => .none
      | _ => .str ⟨(lsN (fsN (snN (snN (snN (snN (snN (snN (snN q)))))))) (snN (snN (snN (snN (snN (snN (snN (snN q))))))))).toArray⟩ 0
    | _ => .bool (fsN (snN (snN (snN (snN (snN (snN q)))))) == 1)
theorem cq_of (f : Addr) (hn : Bool) (acts : List (Code × Pos)) : ∃ q, ∀ i, i < 6 → cq q i = Z.cellQ i (Z.placeOf f hn acts) := by
  have none_ : ∀ l : List Value, l = [] → ∃ q, ∀ i, i < 6 → cq q i = Z.cellQ i l := fun l e => by
    subst e
    refine ⟨prN 0 0, fun i hi => ?_⟩
    rw [Z.cellQ_is]
    unfold cq
    rw [fsN_pr]
    match i, hi with
    | 0, _ => rfl
    | 1, _ => rfl
    | 2, _ => rfl
    | 3, _ => rfl
    | 4, _ => rfl
    | 5, _ => rfl
  have some_ : ∀ (a b c d : Nat) (s : Value) (z : Bool), (s = .none ∨ ∃ l : List Nat, s = .str ⟨l.toArray⟩ 0) → ∃ q, ∀ i, i < 6 → cq q i = Z.cellQ i [rawInt a, rawInt b, rawInt c, rawInt d, s, .bool z] := fun a b c d s z hs => by
    rcases hs with rfl | ⟨l, rfl⟩
    · refine ⟨prN 1 (prN a (prN b (prN c (prN d (prN 0 (prN (match z with | true => 1 | false => 0) (prN 0 0))))))), fun i hi => ?_⟩
      rw [Z.cellQ_is]
      unfold cq
      simp only [fsN_pr, snN_pr]
      match i, hi with
      | 0, _ => rfl
      | 1, _ => rfl
      | 2, _ => rfl
      | 3, _ => rfl
      | 4, _ => rfl
      | 5, _ => cases z <;> rfl
    · obtain ⟨n, e⟩ := lsN_of l
      refine ⟨prN 1 (prN a (prN b (prN c (prN d (prN 1 (prN (match z with | true => 1 | false => 0) (prN l.length n))))))), fun i hi => ?_⟩
      rw [Z.cellQ_is]
      unfold cq
      simp only [fsN_pr, snN_pr, e]
      match i, hi with
      | 0, _ => rfl
      | 1, _ => rfl
      | 2, _ => rfl
      | 3, _ => rfl
      | 4, _ => rfl
      | 5, _ => cases z <;> rfl
  unfold Z.placeOf
  cases acts.find? fun (c, _) => c.env?.bind (·.frame) == some f with
  | none => exact none_ _ rfl
  | some cp =>
    obtain ⟨c, pos⟩ := cp
    show ∃ q, ∀ i, i < 6 → cq q i = Z.cellQ i (if pos.line == 0 then [] else [rawInt pos.line, rawInt pos.endLine, rawInt pos.col, rawInt pos.endCol] ++ EntryCells.cells f hn acts)
    by_cases h : (pos.line == 0) = true
    · rw [if_pos h]; exact none_ _ rfl
    · rw [if_neg h]
      unfold EntryCells.cells
      cases EntryCells.beneath f acts with
      | none => exact some_ _ _ _ _ _ _ (.inl rfl)
      | some ids =>
        show ∃ q, ∀ i, i < 6 → cq q i = Z.cellQ i ([rawInt pos.line, rawInt pos.endLine, rawInt pos.col, rawInt pos.endCol] ++ [if (EntryCells.make ids).length > sizeLine then .none else .str (EntryCells.make ids) 0, .bool hn])
        refine some_ _ _ _ _ _ _ ?_
        split
        · exact .inl rfl
        · exact .inr ⟨_, rfl⟩
noncomputable def noteA (head : Value) (es : List Env) (b : Bool) : Sem PySem.Fin := do
  if head != .none then setField head 3 .none
  let fr ← (do match ← frameObjM b es with
    | some f => pure f
    | none => unsupported "internal:frame-not-on-the-stack")
  pure (.done (.ret fr))
noncomputable def noteB (e : Value) (f : Addr) (head fr : Value) (q : Nat) : Sem PySem.Fin := do
  let t ← newFields "traceback" [head, fr, .none, rawInt f, .none, cq q 0, cq q 1, cq q 2, cq q 3, cq q 4, cq q 5]
  setField e 1 t
  pure (.done .next)
noncomputable def noteTr (e : Value) (env : Env) (k : Tr) : Tr := match env.frame with
  | none => .run (unsupported "frame:not-modelled")
  | some f => .seg (.run (do pure (.done (.ret (← field e 1))))) fun fin => match fin with
    | .done (.ret head) => .seg (.run (match head with
      | .none => pure (.done .brk)
      | h => do pure (.done (.ret (← field h 3))))) fun fin => match fin with
      | .done (.ret (.int j t)) => .eqI j f (.eqI t 0 k)
      | _ => .envs fun es b => match es with
        | [] => .run (unsupported "internal:frame-not-on-the-stack")
        | e0 :: es => match e0.frame with
          | none => .run (unsupported "internal:frame-not-on-the-stack")
          | some f0 => .eqI f0 f (.seg (.run (noteA head (e0 :: es) b)) fun fin => match fin with
            | .done (.ret fr) => .nat fun q => .seg (.run (noteB e f head fr q)) fun _ => k
            | _ => .run (unsupported "internal:note"))
    | _ => .run (unsupported "internal:note")
noncomputable def leavingTr (env : Env) (e : Value) : Tr := noteTr e env (.run (do setFlight e none; .raise e))
noncomputable def turnTr (env : Env) (e : Value) : Tr := noteTr e env (.run (do theTreesLotGoes e; .raise e))
noncomputable def hasTry : List Stmt → Bool
  | [] => false
  | .Try .. :: _ => true
  | _ :: l => hasTry l
noncomputable def tryTr (body : List Stmt) (handlers : List ExceptHandler) (env : Env) (pos : Pos) : Tr := .onr (.run (do
    standAt pos
    pure (.done (← execs body env)))) fun e => noteTr e env (.run (do
    if handlers.isEmpty then .raise e
    setFlight e none
    pure (.done (← handleBy e env handlers))))
noncomputable def bodyTr (env : Env) : List Stmt → Tr
  | [] => .run (pure (.done .next))
  | .Try body handlers [] [] pos :: rest => .seg (tryTr body handlers env pos) fun fin => match fin with
    | .done .next => bodyTr env rest
    | f => .run (pure f)
  | s :: rest => .seg (.run (do pure (.done (← exec s env)))) fun fin => match fin with
    | .done .next => bodyTr env rest
    | f => .run (pure f)
noncomputable def funcTr (body : List Stmt) (env : Env) : Tr := match hasTry body with
  | false => .onr (.run (do
    point
    match ← bodyR env body with
    | .ret v => ret v
    | _ => ret .none)) (leavingTr env)
  | true => .onr (.seg (bodyTr env body) fun fin => match fin with
    | .done (.ret v) => .run (ret v)
    | _ => .run (ret .none)) (leavingTr env)
noncomputable def ownedOf (o : Obj) : PySem.Fin := match o.cls, o.data with
  | .type n, .fields vs =>
    if ["enumerate", "zip", "dict_itemiterator", "dict_reverseitemiterator", "odict_iterator", "itertools.zip_longest", "itertools.pairwise"].contains n then
      match (vs[0]? : Option Value) with
      | some (.int j t) => .done (.ret (.int j t))
      | _ => .done .brk
    else .done .brk
  | _, _ => .done .brk
noncomputable def forTr (target : Expr) (it : Value) (body orelse : List Stmt) (env : Env) : Tr :=
  let rest (v : Value) : Sem PySem.Fin := do
    assign target env v
    match ← execs body env with
    | .next | .cont => again (.forLoop target it body orelse env)
    | .brk => pure (.done .next)
    | .ret v => pure (.done (.ret v))
  .onr (.seg (.run (do
    standAt target.pos
    match ← (pyNext it).onRaise (fun _ => standAt { target.pos with line := 0 }) with
    | none => pure (PySem.Fin.done .brk)
    | some v => pure (PySem.Fin.done (.ret v)))) fun fin => match fin with
  | .done (.ret v) => match it, v with
    | .ref r, .ref a =>
      .seg (.run (do pure (ownedOf (← load r)))) fun fin => match fin with
      | .done (.ret (.int j t)) => .eqI j a (.eqI t 0 (.run (do
          rule "for.unpacks-the-owned-tuple"
          updateField r 0 .none
          rest v)))
      | _ => .run (rest v)
    | _, _ => .run (rest v)
  | _ => .run (again (.block orelse env))) (turnTr env)
noncomputable def enterTree (c : Code) : Tr := match c with
  | .call (.ref a) args => .run (do
     let o ← load a
     match o.data with
     | .func fd => match fd.scope.isGenerator with
       | false => match fd.scope.isCoroutine with
         | false => callTree a fd args
         | true => denote table c
       | true => denote table c
     | _ => denote table c)
  | .func body env => funcTr body env
  | .forLoop target it body orelse env => match target with
    | .Tuple .. => forTr target it body orelse env
    | _ => .onr (.run (forTurn target it body orelse env)) (turnTr env)
  | .whileLoop test body orelse env => .onr (.run (whileTurn test body orelse env)) (turnTr env)
  | .compStart e depth it acc env => match it with
    | .ref r => .run (compR e depth r acc env)
    | it => .run (denote table (.compStart e depth it acc env))
  | c => .run (denote table c)
noncomputable def hTr (T : Tr) : Hd := Tr.rec (motive := fun _ => Hd) (fun t ih _ hs c hd d κ st => ih hs c hd d κ t st) (fun _ k r _ ih C hs c hd d κ st => r ih C hs c hd d (.seg k κ) st)
  (fun _ h r _ ih C hs c hd d κ st => r ih C hs c hd d (.onr h κ) st) (fun a b _ r ih C hs c hd d κ st => .eqI a b (r ih C hs c hd d κ st)) (fun _ r ih C hs c hd d κ st => Option.rec (motive := fun _ => Ob) (.stop 19 0) (fun es => r (appE (cenvs c) es.1) es.2 ih C hs c hd d κ st) (kenvs C.S.bel κ)) (fun _ r ih C hs c hd d κ st => .all fun q => .all fun t' => r q ih C hs c hd d κ ⟨st.σ, st.nx, (st.nt + 1, t') :: (st.nt, q) :: st.τ, st.nt + 1, st.T⟩) T
noncomputable def allN (b n : Nat) : (List Nat → Ob) → Ob := Nat.rec (motive := fun _ => (List Nat → Ob) → Ob) (fun P => P []) (fun _ ih P => .all fun a : Nat => ih fun l => P ((a + b) :: l)) n
noncomputable def slotsOk (st : St) (n : Nat) : List Nat → (List Nat → List Nat → List Obj → List Nat → Ob) → Ob := Nat.rec (motive := fun _ => List Nat → (List Nat → List Nat → List Obj → List Nat → Ob) → Ob) (fun l go => go [] [] [] l)
  (fun _ ih l go => List.rec (motive := fun _ => Ob) (.stop 3 0) (fun k l _ => Nat.rec (motive := fun _ => Ob) (.stop 3 1) (fun k _ => ob (st.T.get k) fun o => ih l fun ks as os l => go (k :: ks) (ad st.σ k :: as) (o :: os) l) k) l) n
noncomputable def slotsDyn (st : St) (k : Nat) (l : List Nat) (go : List Nat → List Nat → List Obj → List Nat → Ob) : Ob := Bool.rec (motive := fun _ => Ob) (slotsOk st k l go) (List.rec (motive := fun _ => Ob) (.stop 3 4) (fun n l _ => slotsOk st n l go) l) (Nat.beq k 1000)
noncomputable def preOk (st : St) (m : Mem) : List Nat → Ob → Ob := List.rec (motive := fun _ => List Nat → Ob → Ob) (fun ks go => List.rec (motive := fun _ => Ob) go (fun _ _ _ => .stop 3 2) ks)
  (fun q _ ih ks go => List.rec (motive := fun _ => Ob) (.stop 3 3) (fun k ks _ => .eqN (ad st.σ k) q.1 (ob (st.T.get k) fun o => .eqO o q.2 (ih ks go))) ks) m
noncomputable def splitN (c : Nat) : List Nat → (List Nat → List Nat → Ob) → Ob := Nat.rec (motive := fun _ => List Nat → (List Nat → List Nat → Ob) → Ob) (fun l K => K [] l)
  (fun _ ih l K => List.rec (motive := fun _ => Ob) (.stop 4 2) (fun a l _ => ih l fun ns l => K (a :: ns) l) l) c
noncomputable def letsN (σ τ : Bk) (l : List Nat) : List Nat := List.rec (motive := fun _ => List Nat) [] (fun a _ ih => Bool.rec (motive := fun _ => Nat) (ad τ (a / 2)) (ad σ (a / 2)) (Nat.beq (a % 2) 1) :: ih) l
noncomputable def needOk (N : List (List Nat → Bool)) (σ τ : Bk) (own : List Bool) (m : List Bool) : List Nat → (List Nat → Ob) → Ob := List.rec (motive := fun _ => List Nat → (List Nat → Ob) → Ob) (fun l go => go l)
  (fun b _ ih l go => List.rec (motive := fun _ => Ob) (.stop 4 0) (fun k l _ => Bool.rec (motive := fun _ => Ob)
    (.eqB b (Nat.rec (motive := fun _ => Bool) true (fun k _ => nthB own k) k) (ih l go))
    (List.rec (motive := fun _ => Ob) (.stop 4 1) (fun c l _ => splitN c l fun ns l => .eqB b (nthF N (k - 5000) (letsN σ τ ns)) (ih l go)) l) (Nat.ble 5000 k)) l) m
noncomputable def putL (T : KT) (kp : List Nat) : List (Option Obj) → KT := List.rec (motive := fun _ => List (Option Obj) → KT) (fun _ => T) (fun k _ ih m => List.rec (motive := fun _ => KT) T (fun q m _ => kput 40 (ih m) k q) m) kp
noncomputable def blocks (σ : Bk) (nx n' : Nat) (as : List Nat) : Bk := List.rec (motive := fun _ => Nat → Bk → Bk) (fun i σ => (i, n') :: σ) (fun a _ ih i σ => ih (i + 1) ((i, a) :: σ)) as nx σ
noncomputable def nodupB (l : List Nat) : Bool := List.rec (motive := fun _ => Bool) true (fun a l ih => and (not (List.rec (motive := fun _ => Bool) false (fun b _ jh => or (Nat.beq a b) jh) l)) ih) l
noncomputable def inB (a : Nat) (l : List Nat) : Bool := List.rec (motive := fun _ => Bool) false (fun b _ jh => or (Nat.beq a b) jh) l
noncomputable def allB (f : Nat → Bool) (l : List Nat) : Bool := List.rec (motive := fun _ => Bool) true (fun a _ ih => and (f a) ih) l
noncomputable def adAll (σ : Bk) (l : List Nat) : List Nat := List.rec (motive := fun _ => List Nat) [] (fun a _ ih => ad σ a :: ih) l
noncomputable def tsAll (σ τ : Bk) (l : List Nat) : Nat → List Nat := List.rec (motive := fun _ => Nat → List Nat) (fun _ => []) (fun a _ ih m => Nat.rec (motive := fun _ => List Nat)
  (Bool.rec (motive := fun _ => List Nat) (Bool.rec (motive := fun _ => List Nat) (ad τ a :: ih 0) (ih 2) (Nat.beq a 778)) (ih 1) (Nat.beq a 777)) (fun m _ => Nat.rec (motive := fun _ => List Nat) (ad σ a :: ih 0) (fun _ _ => a :: ih 0) m) m) l
noncomputable def iota (n : Nat) : Nat → List Nat := Nat.rec (motive := fun _ => Nat → List Nat) (fun _ => []) (fun _ ih i => i :: ih (i + 1)) n
noncomputable def finOk (st : St) (ks : List Nat) : List (Option Obj) → Ob := List.rec (motive := fun _ => List (Option Obj) → Ob) (fun m => List.rec (motive := fun _ => Ob) .ok (fun _ _ _ => .stop 6 0) m)
  (fun k _ ih m => List.rec (motive := fun _ => Ob) (.stop 6 1) (fun q m _ => Option.rec (motive := fun _ => Ob) (ih m) (fun q => ob (st.T.get k) fun o => .eqO o q (ih m)) q) m) ks
noncomputable def app (l r : List Nat) : List Nat := List.rec (motive := fun _ => List Nat) r (fun a _ ih => a :: ih) l
noncomputable def appO (l : List (Option Obj)) (r : List Obj) : List (Option Obj) := List.rec (motive := fun _ => List (Option Obj)) (List.rec (motive := fun _ => List (Option Obj)) [] (fun a _ ih => some a :: ih) r) (fun a _ ih => a :: ih) l
noncomputable def endF (C : Cf) (hs : Hs) (r : Result) (st : St) : Ob :=
  bf 60 (and (nodupB hs.as) (and (allB (fun s => and (Nat.ble C.s₀ s) (Nat.blt s st.nx)) hs.as) (and (Nat.beq (lenL hs.as) C.S.na) (and (Nat.beq (lenL (tsAll st.σ st.τ hs.ts 0)) C.S.nt) (and (Nat.beq (lenL (C.S.postT (adAll st.σ hs.as) (tsAll st.σ st.τ hs.ts 0))) (lenL C.S.touch)) (and (Nat.beq (lenL (C.S.postN (adAll st.σ hs.as) (tsAll st.σ st.τ hs.ts 0))) C.S.na) (allB (fun i => Nat.blt i C.s₀) C.S.touch)))))))
    (.eqR r (C.S.res (adAll st.σ hs.as) (tsAll st.σ st.τ hs.ts 0)) (finOk st (app C.S.touch hs.as) (appO (C.S.postT (adAll st.σ hs.as) (tsAll st.σ st.τ hs.ts 0)) (C.S.postN (adAll st.σ hs.as) (tsAll st.σ st.τ hs.ts 0)))))
noncomputable def retH (r : Result) : Hd := fun ih C hs _ _ _ κ st => Kn.rec (motive := fun _ => Ob)
  (endF C hs r st) (fun c hd d k κ _ => ih hs c hd d κ (k r) st) (fun _ _ _ => .stop 7 0) (fun _ _ _ => .stop 7 1) κ
noncomputable def spec (L : Nat) (C : Cf) (have_ : Option (List Env × Bool)) (S : Spec) (ks l as ts : List Nat) (d : Nat) (hd : Option Value) (c' : Code) (st : St) (go : List Nat → List Nat → Hs → St → Ob) : Ob :=
  Option.rec (motive := fun _ => Ob)
    (.eqC c' S.code (belOk S.bel have_ (preOk st S.pre ks (needOk C.N.l st.σ st.τ C.S.need S.need l fun l => bf 8 (and (Nat.ble d S.dep) (and (nodupB ks) (and (Nat.blt (st.nx + S.na) 1000000) (and (allB (fun i => Nat.blt i (lenL ks)) S.touch) (allB (fun k => or (Nat.ble C.s₀ k) (inB k C.upd)) (sel ks S.touch))))))
      (allN L S.na fun bs => allN 0 S.nt fun us => .all fun n' => .all fun t' => bf 9 (and (Nat.beq (lenL (S.postT bs us)) (lenL S.touch)) (Nat.beq (lenL (S.postN bs us)) S.na))
        (go bs us ⟨l, as, ts⟩ ⟨blocks st.σ st.nx (n' + L) bs, st.nx + S.na, blocks st.τ st.nt t' us, st.nt + S.nt, putL st.T (app (sel ks S.touch) (iota S.na st.nx)) (appO (S.postT bs us) (S.postN bs us))⟩))))))
    (fun _ => .stop 8 0) hd
noncomputable def specD {V : Vn} (C : Cf) (have_ : Option (List Env × Bool)) (D : Dp V) (hs : Hs) (d : Nat) (hd : Option Value) (c' : Code) (st : St) (go : Spec → List Nat → List Nat → Hs → St → Ob) : Ob :=
  slotsDyn st D.k hs.l fun ks as os l => List.rec (motive := fun _ => Ob) (.stop 5 0) (fun alt l _ => Option.rec (motive := fun _ => Ob) (.stop 5 1) (fun S => spec V.lim C have_ S.S ks l hs.as hs.ts d hd c' st (go S.S)) (D.get as os alt)) l
section
variable (V : Vn) (F : Code → Option (Dp V))
noncomputable def inl (c' : Code) (h : Option Value) (k : Result → Sem PySem.Fin) : Hd := fun ih C hs c hd d κ st => bf 10 (and (okC c') (Nat.ble d 900))
  (Option.rec (motive := fun _ => Ob) (hTr (enterTree c') ih C hs c' hd (d + 5) (.ret c hd d k κ) st)
    (fun e => Value.rec (motive := fun _ => Ob) (.stop 9 0) (.stop 9 1) (.stop 9 2) (fun _ => .stop 9 3) (fun _ _ => .stop 9 4) (fun _ _ => .stop 9 5) (fun _ _ => .stop 9 6) (fun _ _ => .stop 9 7) (fun _ => .stop 9 8) (fun _ => .stop 9 9)
      (fun a => hTr (enterTree c') ih C hs c' (some (.ref a)) (d + 5) (.ret c hd d k κ) st) e) h)
noncomputable def hCall (c' : Code) (h : Option Value) (k : Result → Sem PySem.Fin) : Hd := fun ih C hs c hd d κ st => Option.rec (motive := fun _ => Ob) (inl c' h k ih C hs c hd d κ st)
  (fun D => Option.rec (motive := fun _ => Ob) (specD C (kenvs C.S.bel (.ret c hd d k κ)) D hs (d + 5) hd c' st fun S as ts hs st' => ih hs c hd d κ (k (S.res as ts)) st') (fun _ => .stop 8 1) h) (F c')
noncomputable def tail (c' : Code) : Hd := fun ih C hs _ hd d κ st => bf 11 (and (okC c') (and c'.quiet (Nat.ble d 900))) (hTr (enterTree c') ih C hs c' hd d κ st)
noncomputable def hAgain (c' : Code) : Hd := fun ih C hs c hd d κ st => Option.rec (motive := fun _ => Ob) (tail c' ih C hs c hd d κ st)
  (fun D => bf 12 (and (okC c') c'.quiet) (specD C (kenvs C.S.bel κ) D hs d hd c' st fun S as ts hs st' => retH (S.res as ts) ih C hs c hd d κ st')) (F c')
noncomputable def hFin (f : PySem.Fin) : Hd := PySem.Fin.rec (motive := fun _ => Hd) (fun fl => retH (.ok fl)) (fun c => hAgain V F c) f
noncomputable def hPure (f : PySem.Fin) : Hd := fun ih C hs c hd d κ st => Kn.rec (motive := fun _ => Ob) (hFin V F f ih C hs c hd d .base st) (fun c1 hd1 d1 k κ' _ => hFin V F f ih C hs c hd d (.ret c1 hd1 d1 k κ') st)
  (fun k κ' _ => hTr (k f) ih C hs c hd d κ' st) (fun _ _ r => r) κ
noncomputable def hRaise (e : Value) : Hd := fun ih C hs c hd d κ st => Kn.rec (motive := fun _ => Ob) (retH (.error e) ih C hs c hd d .base st) (fun c1 hd1 d1 k κ' _ => retH (.error e) ih C hs c hd d (.ret c1 hd1 d1 k κ') st)
  (fun _ _ r => r) (fun h κ' _ => hTr (h e) ih C hs c hd d κ' st) κ
noncomputable def hSkip (k : Unit → Sem PySem.Fin) : Hd := fun ih _ hs c hd d κ st => ih hs c hd d κ (k ()) st
noncomputable def hLoad (a : Addr) (k : Obj → Sem PySem.Fin) : Hd := fun ih _ hs c hd d κ st => List.rec (motive := fun _ => Ob)
  (.stop 13 0)
  (fun s r _ => Nat.rec (motive := fun _ => Ob) (ob (V.kt.get a) fun o => ih ⟨r, hs.as, hs.ts⟩ c hd d κ (k o) st)
    (fun s _ => .eqN a (ad st.σ s) (ob (st.T.get s) fun o => ih ⟨r, hs.as, hs.ts⟩ c hd d κ (k o) st)) s) hs.l
noncomputable def hUpd (a : Addr) (f : Obj → Obj) (k : Unit → Sem PySem.Fin) : Hd := fun ih C hs c hd d κ st => List.rec (motive := fun _ => Ob)
  (.stop 14 0)
  (fun s r _ => Nat.rec (motive := fun _ => Ob) (.stop 14 1)
    (fun s _ => .eqN a (ad st.σ s) (bf 14 (or (Nat.ble C.s₀ s) (inB s C.upd)) (ob (st.T.get s) fun o => bf 15 (not (f o).isFreed) (ih ⟨r, hs.as, hs.ts⟩ c hd d κ (k ()) ⟨st.σ, st.nx, st.τ, st.nt, kput 40 st.T s (some (f o))⟩)))) s) hs.l
noncomputable def hAlloc (o : Obj) (k : Addr → Sem PySem.Fin) : Hd := fun ih _ hs c hd d κ st => bf 16 (and (not o.isFreed) (Nat.blt st.nx 1000000)) (ih hs c hd d κ (k (ad st.σ st.nx)) ⟨st.σ, st.nx + 1, st.τ, st.nt, kput 40 st.T st.nx (some o)⟩)
noncomputable def hFresh (k : Tok → Sem PySem.Fin) : Hd := fun ih _ hs c hd d κ st => ih hs c hd d κ (k (ad st.τ st.nt)) ⟨st.σ, st.nx, st.τ, st.nt + 1, st.T⟩
noncomputable def adv (st : St) (n : Nat) : Sem PySem.Fin → List Nat → (Sem PySem.Fin → List Nat → Ob) → Ob := Nat.rec (motive := fun _ => Sem PySem.Fin → List Nat → (Sem PySem.Fin → List Nat → Ob) → Ob) (fun t l K => K t l)
  (fun _ ih t l K => Sem.rec (motive := fun _ => Ob)
    (fun _ => .stop 62 0) (fun _ => .stop 62 1) (fun _ => .stop 62 2) (fun _ => .stop 62 3) (fun _ k _ => ih (k ()) l K) (fun _ k _ => ih (k ()) l K)
    (fun a _ k _ => List.rec (motive := fun _ => Ob) (.stop 13 1) (fun s r _ => Nat.rec (motive := fun _ => Ob) (ob (V.kt.get a) fun o => ih (k o) r K) (fun s _ => .eqN a (ad st.σ s) (ob (st.T.get s) fun o => ih (k o) r K)) s) l)
    (fun _ _ _ _ _ => .stop 62 4) (fun _ _ _ => .stop 62 5)
    (fun a k _ => List.rec (motive := fun _ => Ob) (.stop 13 1) (fun s r _ => Nat.rec (motive := fun _ => Ob) (ob (V.kt.get a) fun o => ih (k (some o)) r K) (fun s _ => .eqN a (ad st.σ s) (ob (st.T.get s) fun o => ih (k (some o)) r K)) s) l)
    (fun _ k _ => ih (k ()) l K) (fun _ _ _ => .stop 62 6) (fun _ _ => .stop 62 7) (fun _ _ => .stop 62 8) (fun _ _ _ _ => .stop 62 9) (fun _ _ _ _ => .stop 62 10) (fun _ _ _ _ _ _ => .stop 62 11) (fun _ _ _ => .stop 62 12)
    (fun _ _ _ => .stop 62 13) (fun _ _ _ => .stop 62 14) (fun _ _ _ _ _ => .stop 62 15) (fun _ _ _ _ _ => .stop 62 16) (fun _ _ => .stop 62 17) (fun _ _ _ => .stop 62 18) (fun _ _ => .stop 62 19) (fun _ _ _ _ _ _ => .stop 62 20) t) n
noncomputable def hAsk (k : Setting → Sem PySem.Fin) : Hd := fun ih C hs c hd d κ st => Bool.rec (motive := fun _ => Ob) (ih hs c hd d κ (k ⟨V.prog, V.w.params⟩) st)
  (List.rec (motive := fun _ => Ob) (.stop 61 0) (fun m l _ => Nat.rec (motive := fun _ => Ob) (ih ⟨l, hs.as, hs.ts⟩ c hd d κ (k ⟨V.prog, V.w.params⟩) st)
    (fun m _ => adv V st m (k ⟨V.prog, (V.w.withFollow "special-get-raises" true).params⟩) l fun t1 l => adv V st m (k ⟨V.prog, (V.w.withFollow "special-get-raises" false).params⟩) l fun t2 l => .eqT t1 t2 (ih ⟨l, hs.as, hs.ts⟩ c hd d κ t1 st)) m) hs.l) C.fk
noncomputable def hHandled (own : Bool) (k : Option Value → Sem PySem.Fin) : Hd := fun ih _ hs c hd d κ st => bf 17 (not own) (ih hs c hd d κ (k hd) st)
noncomputable def hStack (k : List (Code × Pos) → Sem PySem.Fin) : Hd := fun ih _ hs c hd d κ st => .allS fun p ps below => ih hs c hd d κ (k ((c, p) :: kst below κ ps)) st
noncomputable def hNay (n : Nat) : Hd := fun _ _ _ _ _ _ _ _ => .stop n 0
noncomputable def disp (t : Sem PySem.Fin) : Hd := Sem.rec (motive := fun _ => Hd)
  (fun a => hPure V F a) (fun e => hRaise e) (fun _ => hNay 30) (fun _ => hNay 31) (fun _ k _ => hSkip k) (fun _ k _ => hSkip k)
  (fun a _ k _ => hLoad V a k) (fun a _ f k _ => hUpd a f k) (fun o k _ => hAlloc o k) (fun a k _ => hLoad V a fun o => k (some o)) (fun _ k _ => hSkip k) (fun _ _ _ => hNay 32)
  (fun k _ => hFresh k) (fun k _ => hAsk V k) (fun _ _ _ _ => hNay 33) (fun _ _ _ _ => hNay 34) (fun c h _ _ k _ => hCall V F c h k) (fun own k _ => hHandled own k)
  (fun _ _ _ => hNay 35) (fun _ _ _ => hNay 36) (fun _ _ _ _ _ => hNay 37) (fun _ _ _ _ _ => hNay 38) (fun k _ => hStack k) (fun _ _ _ => hNay 39) (fun _ _ => hNay 40) (fun _ _ _ _ _ _ => hNay 41) t
noncomputable def sim (C : Cf) (n : Nat) : Go := Nat.rec (motive := fun _ => Go) (fun _ _ _ _ _ _ _ => .stop 50 0) (fun _ ih hs c hd d κ t st => disp V F t ih C hs c hd d κ st) n
noncomputable def preT (m : Mem) : Nat → KT → KT := List.rec (motive := fun _ => Nat → KT → KT) (fun _ T => T) (fun q _ ih i T => ih (i + 1) (kput 40 T i (some q.2))) m
noncomputable def st₀ (S : Spec) (n t : Nat) : St := ⟨blocks [] 0 n (fsts S.pre), lenL S.pre, [(0, t)], 0, preT S.pre 0 .nil⟩
noncomputable def startB (fk : Bool) (N : NF) (S : Spec) (fuel : Nat) (hs : Hs) (n t : Nat) : Ob :=
  bf 51 (and (okC S.code) (and (Nat.ble S.dep 900) (Nat.ble (lenL S.pre) 1000))) (hTr (enterTree S.code) (sim V F ⟨lenL S.pre, S, fk, N⟩ fuel) ⟨lenL S.pre, S, fk, N⟩ hs S.code none S.dep .base (st₀ S n t))
noncomputable def start (S : Spec) (fuel : Nat) (hs : Hs) (n t : Nat) : Ob := startB V F false NF.nil S fuel hs n t
end
theorem start_rfl : @start = @start := rfl
end Mine
lay_z Mine.start
name_z startZ for Mine.start by Mine.start_rfl
end

noncomputable section
open PySem PySem.W PySem.W.X PyProof.Rows
set_option maxRecDepth 100000
namespace Mine
theorem kput_nil (n : Nat) (i : Nat) (o : Option Obj) : kput (n + 1) .nil i o = if i = 0 then .node o .nil .nil else if i % 2 = 1 then .node none (kput n .nil (i / 2) o) .nil else .node none .nil (kput n .nil (i / 2 - 1) o) := by
  show Bool.rec (motive := fun _ => KT) (Bool.rec (motive := fun _ => KT) (.node none .nil (kput n .nil (i / 2 - 1) o)) (.node none (kput n .nil (i / 2) o) .nil) (Nat.beq (i % 2) 1)) (.node o .nil .nil) (Nat.beq i 0) = _
  rw [BT.beq_eq, BT.beq_eq]
  by_cases h0 : i = 0
  · rw [if_pos h0, decide_eq_true h0]
  · rw [if_neg h0, decide_eq_false h0]
    by_cases p : i % 2 = 1
    · rw [if_pos p, decide_eq_true p]
    · rw [if_neg p, decide_eq_false p]
theorem kput_node (n : Nat) (v : Option Obj) (l r : KT) (i : Nat) (o : Option Obj) : kput (n + 1) (.node v l r) i o = if i = 0 then .node o l r else if i % 2 = 1 then .node v (kput n l (i / 2) o) r else .node v l (kput n r (i / 2 - 1) o) := by
  show Bool.rec (motive := fun _ => KT) (Bool.rec (motive := fun _ => KT) (.node v l (kput n r (i / 2 - 1) o)) (.node v (kput n l (i / 2) o) r) (Nat.beq (i % 2) 1)) (.node o l r) (Nat.beq i 0) = _
  rw [BT.beq_eq, BT.beq_eq]
  by_cases h0 : i = 0
  · rw [if_pos h0, decide_eq_true h0]
  · rw [if_neg h0, decide_eq_false h0]
    by_cases p : i % 2 = 1
    · rw [if_pos p, decide_eq_true p]
    · rw [if_neg p, decide_eq_false p]
theorem get_put : ∀ (n : Nat) (t : KT) (i j : Nat) (o : Option Obj), i + 1 < 2 ^ n → (kput n t i o).get j = if j = i then o else t.get j
  | 0, _, i, _, _, h => by simp at h
  | n + 1, .nil, i, j, o, h => by
    rw [Nat.pow_succ] at h
    rw [kput_nil]
    by_cases h0 : i = 0
    · subst h0
      rw [if_pos rfl, KT.get_node]
      by_cases hj : j = 0
      · simp [hj]
      · simp [hj, KT.get]
    · rw [if_neg h0]
      by_cases p : i % 2 = 1
      · rw [if_pos p, KT.get_node, get_put n .nil (i / 2) (j / 2) o (by lia)]
        by_cases hj : j = 0
        · subst hj; rw [if_pos rfl, if_neg (Ne.symm h0)]; rfl
        · rw [if_neg hj]
          by_cases q : j % 2 = 1
          · rw [if_pos q]
            by_cases e : j = i
            · rw [if_pos (by rw [e]), if_pos e]
            · rw [if_neg (by lia), if_neg e]; rfl
          · rw [if_neg q, if_neg (by intro e; exact q (e ▸ p))]; rfl
      · rw [if_neg p, KT.get_node, get_put n .nil (i / 2 - 1) (j / 2 - 1) o (by lia)]
        by_cases hj : j = 0
        · subst hj; rw [if_pos rfl, if_neg (Ne.symm h0)]; rfl
        · rw [if_neg hj]
          by_cases q : j % 2 = 1
          · rw [if_pos q, if_neg (by intro e; exact p (e ▸ q))]; rfl
          · rw [if_neg q]
            by_cases e : j = i
            · rw [if_pos (by rw [e]), if_pos e]
            · rw [if_neg (by lia), if_neg e]; rfl
  | n + 1, .node v l r, i, j, o, h => by
    rw [Nat.pow_succ] at h
    rw [kput_node]
    by_cases h0 : i = 0
    · subst h0
      rw [if_pos rfl, KT.get_node, KT.get_node]
      by_cases hj : j = 0
      · simp [hj]
      · simp [hj]
    · rw [if_neg h0]
      by_cases p : i % 2 = 1
      · rw [if_pos p, KT.get_node, KT.get_node, get_put n l (i / 2) (j / 2) o (by lia)]
        by_cases hj : j = 0
        · subst hj; rw [if_pos rfl, if_neg (Ne.symm h0), if_pos rfl]
        · rw [if_neg hj, if_neg hj]
          by_cases q : j % 2 = 1
          · rw [if_pos q, if_pos q]
            by_cases e : j = i
            · rw [if_pos (by rw [e]), if_pos e]
            · rw [if_neg (by lia), if_neg e]
          · rw [if_neg q, if_neg q, if_neg (by intro e; exact q (e ▸ p))]
      · rw [if_neg p, KT.get_node, KT.get_node, get_put n r (i / 2 - 1) (j / 2 - 1) o (by lia)]
        by_cases hj : j = 0
        · subst hj; rw [if_pos rfl, if_neg (Ne.symm h0), if_pos rfl]
        · rw [if_neg hj, if_neg hj]
          by_cases q : j % 2 = 1
          · rw [if_pos q, if_pos q, if_neg (by intro e; exact p (e ▸ q))]
          · rw [if_neg q, if_neg q]
            by_cases e : j = i
            · rw [if_pos (by rw [e]), if_pos e]
            · rw [if_neg (by lia), if_neg e]
theorem put_get {t : KT} {i j : Nat} {o : Option Obj} (h : i < 1000000) : (kput 40 t i o).get j = if j = i then o else t.get j := by
  refine get_put 40 t i j o ?_
  have : (2:Nat)^40 = 1099511627776 := by decide
  lia
theorem bfT {n : Nat} {b : Bool} {x : Ob} (h : (bf n b x).den) : b = true ∧ x.den := by
  cases b with
  | false => exact (show False from h).elim
  | true => exact ⟨rfl, h⟩
theorem obT {α : Type} {o : Option α} {f : α → Ob} (h : (ob o f).den) : ∃ x, o = some x ∧ (f x).den := by
  cases o with
  | none => exact (show False from h).elim
  | some x => exact ⟨x, rfl, h⟩
theorem andT {a b : Bool} (h : and a b = true) : a = true ∧ b = true := by cases a <;> cases b <;> first | exact ⟨rfl, rfl⟩ | cases h
theorem inB_iff {a : Nat} : ∀ {l : List Nat}, inB a l = true → a ∈ l
  | [], h => nomatch (show false = true from h)
  | b :: l, h => by
    have h : or (Nat.beq a b) (inB a l) = true := h
    cases e : Nat.beq a b with
    | true => exact Nat.eq_of_beq_eq_true e ▸ List.mem_cons_self ..
    | false => rw [e] at h; exact mcT (inB_iff h)
theorem inB_of {a : Nat} : ∀ {l : List Nat}, a ∈ l → inB a l = true
  | b :: l, h => by
    show or (Nat.beq a b) (inB a l) = true
    cases h with
    | head => rw [Nat.beq_refl]; rfl
    | tail _ h => rw [inB_of h]; cases Nat.beq a b <;> rfl
theorem allB_iff {f : Nat → Bool} : ∀ {l : List Nat}, allB f l = true → ∀ a ∈ l, f a = true
  | b :: l, h, a, m => by
    have h : and (f b) (allB f l) = true := h
    cases m with
    | head => exact (andT h).1
    | tail _ m => exact allB_iff (andT h).2 a m
theorem nodupB_iff : ∀ {l : List Nat}, nodupB l = true → l.Nodup
  | [], _ => .nil
  | a :: l, h => by
    have h : and (not (inB a l)) (nodupB l) = true := h
    refine List.nodup_cons.2 ⟨fun m => ?_, nodupB_iff (andT h).2⟩
    have := (andT h).1
    rw [inB_of m] at this; cases this
theorem orT {a b : Bool} (h : or a b = true) : a = true ∨ b = true := by cases a <;> cases b <;> first | exact .inl rfl | exact .inr rfl | cases h
theorem nth_mem {l : List Nat} {i : Nat} : ∀ {ix : List Nat}, i ∈ ix → nth l i ∈ sel l ix
  | j :: ix, h => by
    show nth l i ∈ nth l j :: sel l ix
    cases h with
    | head => exact List.mem_cons_self ..
    | tail _ h => exact mcT (nth_mem h)
theorem mem_sel {l : List Nat} {a : Nat} : ∀ {ix : List Nat}, a ∈ sel l ix → ∃ i ∈ ix, a = nth l i
  | j :: ix, h => by
    have h : a ∈ nth l j :: sel l ix := h
    cases h with
    | head => exact ⟨j, List.mem_cons_self .., rfl⟩
    | tail _ h => obtain ⟨i, m, e⟩ := mem_sel h; exact ⟨i, mcT m, e⟩
theorem blt_iff {a b : Nat} (h : Nat.blt a b = true) : a < b := Nat.le_of_ble_eq_true h
theorem ble_iff {a b : Nat} (h : Nat.ble a b = true) : a ≤ b := Nat.le_of_ble_eq_true h
noncomputable def pick {β : Type} (cd : Value) (qn : Str) (jp : Str → Sem β) : Sem β := match cd with
  | .none => do
    let q ← pure qn
    jp q
  | c => do match ← field c 1 with
    | .str q _ => do
      let q ← pure q
      jp q
    | _ => do
      let q ← pure qn
      jp q
theorem pick_mono {β γ : Type} {M : Model} {Γ : Ctx} {Q : β → Pos → Shared → Prop} {Q' : γ → Pos → Shared → Prop} {E : Value → Pos → Shared → Prop} {p : Pos} {s : Shared} {jp : Str → Sem β} {jp' : Str → Sem γ} (cd : Value) (qn : Str)
    (k : ∀ q p s, Sem.wp M Γ (jp q) Q E p s → Sem.wp M Γ (jp' q) Q' E p s) (h : Sem.wp M Γ (pick cd qn jp) Q E p s) : Sem.wp M Γ (pick cd qn jp') Q' E p s := by
  have main : ∀ c : Value, Sem.wp M Γ (do match ← field c 1 with
    | .str q _ => do
      let q ← pure q
      jp q
    | _ => do
      let q ← pure qn
      jp q) Q E p s → Sem.wp M Γ (do match ← field c 1 with
    | .str q _ => do
      let q ← pure q
      jp' q
    | _ => do
      let q ← pure qn
      jp' q) Q' E p s := by
    intro c h
    rw [Sem.wp_bind'] at h ⊢
    refine Sem.wp_mono _ _ _ ?_ (fun _ _ _ h => h) p s h
    intro x p s h
    cases x <;> exact k _ _ _ h
  cases cd <;> first | exact main _ h | exact k _ _ _ h
noncomputable def wpT (M : Model) (Γ : Ctx) : Tr → (PySem.Fin → Pos → Shared → Prop) → (Value → Pos → Shared → Prop) → Pos → Shared → Prop
  | .run t, Q, E, p, s => Sem.wp M Γ t Q E p s
  | .seg t k, Q, E, p, s => wpT M Γ t (fun f p s => wpT M Γ (k f) Q E p s) E p s
  | .onr t h, Q, E, p, s => wpT M Γ t Q (fun e p s => wpT M Γ (h e) Q E p s) p s
  | .eqI a b k, Q, E, p, s => a = b ∧ wpT M Γ k Q E p s
  | .envs k, Q, E, p, s => wpT M Γ (k (cenvs Γ.code ++ envsB Γ.below) (Γ.code.isCaller || ucB Γ.below)) Q E p s
  | .nat k, Q, E, p, s => ∀ q, wpT M Γ (k q) Q E p s
theorem wpT_mono {M : Model} {Γ : Ctx} : ∀ (T : Tr) {Q Q' : PySem.Fin → Pos → Shared → Prop} {E E' : Value → Pos → Shared → Prop} {p : Pos} {s : Shared}, (∀ f p s, Q f p s → Q' f p s) → (∀ e p s, E e p s → E' e p s) → wpT M Γ T Q E p s → wpT M Γ T Q' E' p s
  | .run t, _, _, _, _, p, s, hq, he, h => Sem.wp_mono _ _ t hq he p s h
  | .seg t k, _, _, _, _, _, _, hq, he, h => wpT_mono t (fun f _ _ h => wpT_mono (k f) hq he h) he h
  | .onr t k, _, _, _, _, _, _, hq, he, h => wpT_mono t hq (fun e _ _ h => wpT_mono (k e) hq he h) h
  | .eqI _ _ k, _, _, _, _, _, _, hq, he, h => ⟨h.1, wpT_mono k hq he h.2⟩
  | .envs k, _, _, _, _, _, _, hq, he, h => wpT_mono (k _ _) hq he (show wpT M Γ (k (cenvs Γ.code ++ envsB Γ.below) (Γ.code.isCaller || ucB Γ.below)) _ _ _ _ from h)
  | .nat k, _, _, _, _, _, _, hq, he, h => fun q => wpT_mono (k q) hq he (h q)
theorem field_inv {M : Model} {Γ : Ctx} {v : Value} {i : Nat} {Q : Value → Pos → Shared → Prop} {E : Value → Pos → Shared → Prop} {p : Pos} {s : Shared} (h : Sem.wp M Γ (field v i) Q E p s) :
    ∃ x, ∀ (Q' : Value → Pos → Shared → Prop) (E' : Value → Pos → Shared → Prop), Sem.wp M Γ (field v i) Q' E' p s ↔ Q' x p s := by
  cases v with
  | ref a =>
    have un : ∀ (Q' : Value → Pos → Shared → Prop) (E' : Value → Pos → Shared → Prop), Sem.wp M Γ (field (.ref a) i) Q' E' p s = (∃ o, s.heap.get? a = some o ∧ Sem.wp M Γ (match o.data with | .fields vs => pure vs | _ => unsupported "internal:no-fields") (fun vs p s => Sem.wp M Γ (match vs[i]? with | some x => pure x | none => unsupported "internal:no-such-field") Q' E' p s) E' p s) := fun Q' E' => by
      show Sem.wp M Γ ((load a >>= fun o => match o.data with | .fields vs => pure vs | _ => unsupported "internal:no-fields") >>= fun vs => match vs[i]? with | some x => pure x | none => unsupported "internal:no-such-field") Q' E' p s = _
      rw [Sem.wp_bind', Sem.wp_bind']
      unfold load
      rw [Sem.wp_load]
      simp only [Sem.wp_pure]
    rw [un] at h
    obtain ⟨o, ho, h⟩ := h
    have uq : ∀ (Q' : Value → Pos → Shared → Prop) (E' : Value → Pos → Shared → Prop), Sem.wp M Γ (field (.ref a) i) Q' E' p s ↔ Sem.wp M Γ (match o.data with | .fields vs => pure vs | _ => unsupported "internal:no-fields") (fun vs p s => Sem.wp M Γ (match vs[i]? with | some x => pure x | none => unsupported "internal:no-such-field") Q' E' p s) E' p s := fun Q' E' => by
      rw [un]
      refine ⟨fun ⟨o', e, q⟩ => ?_, fun q => ⟨o, ho, q⟩⟩
      rw [ho] at e; cases e; exact q
    split at h
    · rename_i vs hd
      rw [Sem.wp_pure'] at h
      cases hv : vs[i]? with
      | none => rw [hv] at h; simp [unsupported] at h
      | some x =>
        refine ⟨x, fun Q' E' => ?_⟩
        rw [uq, hd, Sem.wp_pure', hv, Sem.wp_pure']
    · simp [unsupported] at h
  | _ => simp [field, fieldsOf, unsupported] at h
theorem stack_eq {M : Model} {Γ : Ctx} {Q : List (Code × Pos) → Pos → Shared → Prop} {E : Value → Pos → Shared → Prop} {p : Pos} {s : Shared} : Sem.wp M Γ stack Q E p s = Q ((Γ.code, p) :: Γ.below) p s := by
  unfold stack; rw [Sem.wp_stack, Sem.wp_pure]
noncomputable def esOf (Γ : Ctx) : List Env := cenvs Γ.code ++ envsB Γ.below
theorem esOf_eq (Γ : Ctx) (p : Pos) : ((((Γ.code, p) :: Γ.below).filter (·.1.isFrame)).filterMap (·.1.env?)) = esOf Γ := by
  have : ∀ l : List (Code × Pos), (l.filter (·.1.isFrame)).filterMap (·.1.env?) = envsB l := by
    intro l
    induction l with
    | nil => rfl
    | cons x l ih =>
      unfold envsB cenvs
      rw [List.filter_cons]
      cases x.1.isFrame with
      | true =>
        rw [if_pos rfl, List.filterMap_cons, ih]
        cases x.1.env? <;> rfl
      | false => exact ih
  exact this _
theorem frameEnvs_eq {M : Model} {Γ : Ctx} {Q : List Env → Pos → Shared → Prop} {E : Value → Pos → Shared → Prop} {p : Pos} {s : Shared} : Sem.wp M Γ frameEnvs Q E p s = Q (esOf Γ) p s := by
  show Sem.wp M Γ (stack >>= fun l => pure ((l.filter (·.1.isFrame)).filterMap (·.1.env?))) Q E p s = _
  rw [Sem.wp_bind', stack_eq, Sem.wp_pure', esOf_eq]
noncomputable def ucOf (Γ : Ctx) : Bool := Γ.code.isCaller || ucB Γ.below
theorem under_eq {M : Model} {Γ : Ctx} {Q : Bool → Pos → Shared → Prop} {E : Value → Pos → Shared → Prop} {p : Pos} {s : Shared} : Sem.wp M Γ underTheClaimsCaller Q E p s = Q (ucOf Γ) p s := by
  show Sem.wp M Γ (stack >>= fun l => pure (l.any fun (c, _) => match c with | .builtin "claim.caller" _ => true | _ => false)) Q E p s = _
  rw [Sem.wp_bind', stack_eq, Sem.wp_pure']
  rfl
theorem kept_eq {M : Model} {Γ : Ctx} {env : Env} {im : Bool} : ∀ {l : List Env} {Q : Value → Pos → Shared → Prop} {E : Value → Pos → Shared → Prop} {p : Pos} {s : Shared}, Sem.wp M Γ (keptBack env im l) Q E p s = Sem.wp M Γ (keptM (ucOf Γ) env im l) Q E p s
  | [], Q, E, p, s => by
    unfold keptM
    show Sem.wp M Γ (if (env.scope.isGenerator || env.scope.isCoroutine) = true then pure .none else do return if ← underTheClaimsCaller then .notImplemented else .none) Q E p s = _
    by_cases h : (env.scope.isGenerator || env.scope.isCoroutine) = true
    · rw [if_pos h, if_pos h]
    · rw [if_neg h, if_neg h]
      show Sem.wp M Γ (underTheClaimsCaller >>= fun b => pure (if b = true then Value.notImplemented else Value.none)) Q E p s = _
      rw [Sem.wp_bind', under_eq, Sem.wp_pure', Sem.wp_pure']
      cases ucOf Γ <;> rfl
  | _ :: _, _, _, _, _ => rfl
theorem wp_congr {α : Type} {M : Model} {Γ : Ctx} {t : Sem α} {Q Q' : α → Pos → Shared → Prop} {E : Value → Pos → Shared → Prop} {p : Pos} {s : Shared} (h : ∀ a p s, Q a p s = Q' a p s) : Sem.wp M Γ t Q E p s = Sem.wp M Γ t Q' E p s := by
  have : Q = Q' := funext fun a => funext fun p => funext fun s => h a p s
  rw [this]
theorem ready_eq {M : Model} {Γ : Ctx} : ∀ {l : List Env} {Q : Unit → Pos → Shared → Prop} {E : Value → Pos → Shared → Prop} {p : Pos} {s : Shared}, Sem.wp M Γ (readyFrames l) Q E p s = Sem.wp M Γ (readyM (ucOf Γ) l) Q E p s
  | [], _, _, _, _ => rfl
  | env :: outer, Q, E, p, s => by
    unfold readyFrames readyM
    cases env.frame with
    | none => rfl
    | some f =>
      show Sem.wp M Γ (load f >>= _) Q E p s = Sem.wp M Γ (load f >>= _) Q E p s
      rw [Sem.wp_bind', Sem.wp_bind']
      refine wp_congr fun o p s => ?_
      by_cases h : (o.slots.getD 3 none).isSome = true
      · rw [if_pos h, if_pos h]
      · rw [if_neg h, if_neg h]
        show Sem.wp M Γ (behindIsImport env outer >>= _) Q E p s = Sem.wp M Γ (behindIsImport env outer >>= _) Q E p s
        rw [Sem.wp_bind', Sem.wp_bind']
        refine wp_congr fun im p s => ?_
        show Sem.wp M Γ (keptBack env im outer >>= _) Q E p s = Sem.wp M Γ (keptM (ucOf Γ) env im outer >>= _) Q E p s
        rw [Sem.wp_bind', Sem.wp_bind', kept_eq]
        refine wp_congr fun bk p s => ?_
        rw [Sem.wp_bind', Sem.wp_bind']
        refine wp_congr fun _ p s => ?_
        exact ready_eq
theorem frameObj_eq {M : Model} {Γ : Ctx} {l : List Env} {Q : Option Value → Pos → Shared → Prop} {E : Value → Pos → Shared → Prop} {p : Pos} {s : Shared} : Sem.wp M Γ (frameObject l) Q E p s = Sem.wp M Γ (frameObjM (ucOf Γ) l) Q E p s := by
  cases l with
  | nil => rfl
  | cons env outer =>
    show Sem.wp M Γ (readyFrames (env :: outer) >>= _) Q E p s = Sem.wp M Γ (readyM (ucOf Γ) (env :: outer) >>= _) Q E p s
    rw [Sem.wp_bind', Sem.wp_bind', ready_eq]
theorem frameOf_eq {M : Model} {Γ : Ctx} {env e0 : Env} {es : List Env} (h : esOf Γ = e0 :: es) (hf : e0.frame = env.frame) {Q : Value → Pos → Shared → Prop} {E : Value → Pos → Shared → Prop} {p : Pos} {s : Shared} :
    Sem.wp M Γ (frameOf env) Q E p s = Sem.wp M Γ (do match ← frameObjM (ucOf Γ) (e0 :: es) with
    | some f => pure f
    | none => unsupported "internal:frame-not-on-the-stack") Q E p s := by
  show Sem.wp M Γ (frameEnvs >>= fun l => frameObject (l.dropWhile (·.frame != env.frame)) >>= fun f => match f with
    | some f => pure f
    | none => unsupported "internal:frame-not-on-the-stack") Q E p s = Sem.wp M Γ (frameObjM (ucOf Γ) (e0 :: es) >>= fun f => match f with
    | some f => pure f
    | none => unsupported "internal:frame-not-on-the-stack") Q E p s
  rw [Sem.wp_bind', frameEnvs_eq, h]
  have : (e0 :: es).dropWhile (·.frame != env.frame) = e0 :: es := by
    rw [List.dropWhile_cons, hf]
    simp
  rw [this, Sem.wp_bind', Sem.wp_bind', frameObj_eq]
noncomputable def noteG (e : Value) (env : Env) (f : Addr) (head : Value) : Sem Unit := do
  let fr ← frameOf env
  let acts ← stack
  let t ← newFields "traceback" [head, fr, .none, rawInt f, .none, Z.cellQ 0 (Z.placeOf f (head != .none) acts), Z.cellQ 1 (Z.placeOf f (head != .none) acts), Z.cellQ 2 (Z.placeOf f (head != .none) acts), Z.cellQ 3 (Z.placeOf f (head != .none) acts), Z.cellQ 4 (Z.placeOf f (head != .none) acts), Z.cellQ 5 (Z.placeOf f (head != .none) acts)]
  setField e 1 t
theorem noteG_of {M : Model} {Γ : Ctx} {env e0 : Env} {es : List Env} (h : esOf Γ = e0 :: es) (hf : e0.frame = env.frame) {e : Value} {f : Addr} {head : Value} {k : Tr} {Q : PySem.Fin → Pos → Shared → Prop} {E : Value → Pos → Shared → Prop} {p : Pos} {s : Shared}
    (w : Sem.wp M Γ (do match ← frameObjM (ucOf Γ) (e0 :: es) with
    | some f => pure f
    | none => unsupported "internal:frame-not-on-the-stack") (fun fr p s => ∀ q, Sem.wp M Γ (noteB e f head fr q) (fun _ p s => wpT M Γ k Q E p s) E p s) E p s) : Sem.wp M Γ (noteG e env f head) (fun _ p s => wpT M Γ k Q E p s) E p s := by
  unfold noteG
  rw [Sem.wp_bind', frameOf_eq h hf]
  refine Sem.wp_mono _ _ _ ?_ (fun _ _ _ h => h) _ _ w
  intro fr p s w
  rw [Sem.wp_bind', stack_eq]
  obtain ⟨q, hq⟩ := cq_of f (head != .none) ((Γ.code, p) :: Γ.below)
  have w := w q
  unfold noteB at w
  rw [hq 0 (by lia), hq 1 (by lia), hq 2 (by lia), hq 3 (by lia), hq 4 (by lia), hq 5 (by lia), Sem.wp_bind'] at w
  rw [Sem.wp_bind']
  refine Sem.wp_mono _ _ _ ?_ (fun _ _ _ h => h) _ _ w
  intro t p s w
  rw [Sem.wp_bind'] at w
  refine Sem.wp_mono _ _ _ ?_ (fun _ _ _ h => h) _ _ w
  intro _ p s w
  rwa [Sem.wp_pure'] at w
theorem noteQ_un (e : Value) (env : Env) (f : Addr) (hf : env.frame = some f) : Z.noteFrameQ e env = (field e 1 >>= fun head => match decide (head = Value.none) with
    | true => noteG e env f head
    | false => field head 3 >>= fun x => match x == rawInt f with
      | true => pure ()
      | false => setField head 3 .none >>= fun _ => noteG e env f head) := by
  unfold Z.noteFrameQ
  rw [hf]
  show (field e 1 >>= _) = (field e 1 >>= _)
  refine congrArg _ (funext fun head => ?_)
  by_cases h : head = Value.none
  · subst h; rfl
  · have h1 : (head != Value.none) = true := by simpa using h
    show (if (head != Value.none) = true then _ else _) = _
    rw [if_pos h1, decide_eq_false h]
    refine congrArg _ (funext fun x => ?_)
    cases x == rawInt f with
    | true => rfl
    | false => rfl
theorem wpT_seg {M : Model} {Γ : Ctx} {t : Tr} {k : PySem.Fin → Tr} {Q : PySem.Fin → Pos → Shared → Prop} {E : Value → Pos → Shared → Prop} {p : Pos} {s : Shared} : wpT M Γ (.seg t k) Q E p s = wpT M Γ t (fun f p s => wpT M Γ (k f) Q E p s) E p s := rfl
theorem wpT_run {M : Model} {Γ : Ctx} {t : Sem PySem.Fin} {Q : PySem.Fin → Pos → Shared → Prop} {E : Value → Pos → Shared → Prop} {p : Pos} {s : Shared} : wpT M Γ (.run t) Q E p s = Sem.wp M Γ t Q E p s := rfl
theorem noteA_un (head : Value) (es : List Env) (b : Bool) : noteA head es b = (match decide (head = Value.none) with
    | true => ((do match ← frameObjM b es with
      | some f => pure f
      | none => unsupported "internal:frame-not-on-the-stack") >>= fun fr => pure (PySem.Fin.done (.ret fr)))
    | false => setField head 3 .none >>= fun _ => ((do match ← frameObjM b es with
      | some f => pure f
      | none => unsupported "internal:frame-not-on-the-stack") >>= fun fr => pure (PySem.Fin.done (.ret fr)))) := by
  unfold noteA
  by_cases h : head = Value.none
  · subst h; rfl
  · have h1 : (head != Value.none) = true := by simpa using h
    show (if (head != Value.none) = true then _ else _) = _
    rw [if_pos h1, decide_eq_false h]
    try rfl
theorem noteTr_sound {M : Model} {Γ : Ctx} {env : Env} {e : Value} {k : Tr} {Q : PySem.Fin → Pos → Shared → Prop} {E : Value → Pos → Shared → Prop} {p : Pos} {s : Shared} (h : wpT M Γ (noteTr e env k) Q E p s) :
    Sem.wp M Γ (noteFrame e env) (fun _ p s => wpT M Γ k Q E p s) E p s := by
  rw [Z.noteFrameQ_eq]
  unfold noteTr at h
  cases hf : env.frame with
  | none => rw [hf] at h; simp [wpT, unsupported] at h
  | some f =>
    rw [hf] at h
    rw [noteQ_un e env f hf, Sem.wp_bind']
    have h : Sem.wp M Γ (field e 1 >>= fun head => pure (PySem.Fin.done (.ret head))) (fun fin p s => wpT M Γ (match fin with
      | .done (.ret head) => .seg (.run (match head with
        | .none => pure (.done .brk)
        | h => do pure (.done (.ret (← field h 3))))) fun fin => match fin with
        | .done (.ret (.int j t)) => .eqI j f (.eqI t 0 k)
        | _ => .envs fun es b => match es with
          | [] => .run (unsupported "internal:frame-not-on-the-stack")
          | e0 :: es => match e0.frame with
            | none => .run (unsupported "internal:frame-not-on-the-stack")
            | some f0 => .eqI f0 f (.seg (.run (noteA head (e0 :: es) b)) fun fin => match fin with
              | .done (.ret fr) => .nat fun q => .seg (.run (noteB e f head fr q)) fun _ => k
              | _ => .run (unsupported "internal:note"))
      | _ => .run (unsupported "internal:note")) Q E p s) E p s := h
    rw [Sem.wp_bind'] at h
    obtain ⟨head, rd⟩ := field_inv h
    rw [rd, Sem.wp_pure'] at h
    rw [rd]
    -- the road that writes
    have road : wpT M Γ (.envs fun es b => match es with
          | [] => .run (unsupported "internal:frame-not-on-the-stack")
          | e0 :: es => match e0.frame with
            | none => .run (unsupported "internal:frame-not-on-the-stack")
            | some f0 => .eqI f0 f (.seg (.run (noteA head (e0 :: es) b)) fun fin => match fin with
              | .done (.ret fr) => .nat fun q => .seg (.run (noteB e f head fr q)) fun _ => k
              | _ => .run (unsupported "internal:note"))) Q E p s → Sem.wp M Γ (match decide (head = Value.none) with
            | true => noteG e env f head
            | false => setField head 3 .none >>= fun _ => noteG e env f head) (fun _ p s => wpT M Γ k Q E p s) E p s := by
      intro h
      have h : wpT M Γ (match esOf Γ with
          | [] => .run (unsupported "internal:frame-not-on-the-stack")
          | e0 :: es => match e0.frame with
            | none => .run (unsupported "internal:frame-not-on-the-stack")
            | some f0 => .eqI f0 f (.seg (.run (noteA head (e0 :: es) (ucOf Γ))) fun fin => match fin with
              | .done (.ret fr) => .nat fun q => .seg (.run (noteB e f head fr q)) fun _ => k
              | _ => .run (unsupported "internal:note"))) Q E p s := h
      cases hes : esOf Γ with
      | nil => rw [hes] at h; simp [wpT, unsupported] at h
      | cons e0 es =>
        rw [hes] at h
        cases h0 : e0.frame with
        | none => simp only [h0] at h; simp [wpT, unsupported] at h
        | some f0 =>
          simp only [h0] at h
          obtain ⟨hff, h⟩ : (f0 : Int) = f ∧ Sem.wp M Γ (noteA head (e0 :: es) (ucOf Γ)) (fun fin p s => wpT M Γ (match fin with
              | .done (.ret fr) => .nat fun q => .seg (.run (noteB e f head fr q)) fun _ => k
              | _ => .run (unsupported "internal:note")) Q E p s) E p s := h
          have hff : e0.frame = env.frame := by rw [h0, hf]; exact congrArg some (Int.ofNat.inj hff)
          have fin_ : ∀ {p s}, Sem.wp M Γ ((do match ← frameObjM (ucOf Γ) (e0 :: es) with
              | some f => pure f
              | none => unsupported "internal:frame-not-on-the-stack") >>= fun fr => pure (PySem.Fin.done (.ret fr))) (fun fin p s => wpT M Γ (match fin with
              | .done (.ret fr) => .nat fun q => .seg (.run (noteB e f head fr q)) fun _ => k
              | _ => .run (unsupported "internal:note")) Q E p s) E p s → Sem.wp M Γ (noteG e env f head) (fun _ p s => wpT M Γ k Q E p s) E p s := by
            intro p s h
            rw [Sem.wp_bind'] at h
            refine noteG_of hes hff (Sem.wp_mono _ _ _ ?_ (fun _ _ _ h => h) _ _ h)
            intro fr p s h
            rw [Sem.wp_pure'] at h
            exact h
          rw [noteA_un] at h
          cases hd : decide (head = Value.none) with
          | true => rw [hd] at h; exact fin_ h
          | false =>
            rw [hd] at h
            have h : Sem.wp M Γ (setField head 3 .none >>= fun _ => ((do match ← frameObjM (ucOf Γ) (e0 :: es) with
              | some f => pure f
              | none => unsupported "internal:frame-not-on-the-stack") >>= fun fr => pure (PySem.Fin.done (.ret fr)))) _ E p s := h
            show Sem.wp M Γ (setField head 3 .none >>= fun _ => noteG e env f head) _ E p s
            rw [Sem.wp_bind'] at h ⊢
            refine Sem.wp_mono _ _ _ ?_ (fun _ _ _ h => h) _ _ h
            intro _ p s h
            exact fin_ h
    cases head with
    | none =>
      have h : wpT M Γ (.seg (.run (pure (PySem.Fin.done .brk))) _) Q E p s := h
      rw [wpT_seg, wpT_run, Sem.wp_pure'] at h
      exact road h
    | _ =>
      have h : wpT M Γ (.seg (.run (field _ 3 >>= fun x => pure (PySem.Fin.done (.ret x)))) _) Q E p s := h
      rw [wpT_seg, wpT_run] at h
      rw [Sem.wp_bind'] at h
      obtain ⟨x, rd3⟩ := field_inv h
      rw [rd3, Sem.wp_pure'] at h
      show Sem.wp M Γ (field _ 3 >>= fun x => match x == rawInt f with
        | true => pure ()
        | false => setField _ 3 .none >>= fun _ => noteG e env f _) _ E p s
      rw [Sem.wp_bind', rd3]
      cases x with
      | int j t =>
        obtain ⟨h1, h2, h⟩ : j = f ∧ ((t : Int) = 0) ∧ wpT M Γ k Q E p s := h
        have ht : t = 0 := Int.ofNat.inj h2
        subst h1; subst ht
        have : (Value.int (f : Int) 0 == rawInt f) = true := by simp [rawInt]
        rw [this, Sem.wp_pure']
        exact h
      | _ =>
        rw [show (_ == rawInt f) = false from by first | rfl | simp [rawInt]]
        exact road h
theorem leavingTr_sound {M : Model} {Γ : Ctx} {env : Env} {e : Value} {Q : PySem.Fin → Pos → Shared → Prop} {E : Value → Pos → Shared → Prop} {p : Pos} {s : Shared} (h : wpT M Γ (leavingTr env e) Q E p s) :
    Sem.wp M Γ (leaving env e) (fun _ p s => E e p s) E p s := by
  unfold leaving
  rw [Sem.wp_bind']
  refine Sem.wp_mono _ _ _ ?_ (fun _ _ _ h => h) _ _ (noteTr_sound h)
  intro _ p s h
  have h : Sem.wp M Γ (setFlight e none >>= fun _ => (.raise e : Sem PySem.Fin)) Q E p s := h
  rw [Sem.wp_bind'] at h
  refine Sem.wp_mono _ _ _ ?_ (fun _ _ _ h => h) _ _ h
  intro _ p s h
  rwa [Sem.wp_raise] at h
theorem turnTr_sound {M : Model} {Γ : Ctx} {env : Env} {e : Value} {Q : PySem.Fin → Pos → Shared → Prop} {E : Value → Pos → Shared → Prop} {p : Pos} {s : Shared} (h : wpT M Γ (turnTr env e) Q E p s) :
    Sem.wp M Γ (do noteFrame e env; theTreesLotGoes e) (fun _ p s => E e p s) E p s := by
  rw [Sem.wp_bind']
  refine Sem.wp_mono _ _ _ ?_ (fun _ _ _ h => h) _ _ (noteTr_sound h)
  intro _ p s h
  have h : Sem.wp M Γ (theTreesLotGoes e >>= fun _ => (.raise e : Sem PySem.Fin)) Q E p s := h
  rw [Sem.wp_bind'] at h
  refine Sem.wp_mono _ _ _ ?_ (fun _ _ _ h => h) _ _ h
  intro _ p s h
  rwa [Sem.wp_raise] at h
theorem tryTr_sound {M : Model} {Γ : Ctx} {body : List Stmt} {handlers : List ExceptHandler} {env : Env} {pos : Pos} {Q : PySem.Fin → Pos → Shared → Prop} {E : Value → Pos → Shared → Prop} {p : Pos} {s : Shared} (h : wpT M Γ (tryTr body handlers env pos) Q E p s) :
    Sem.wp M Γ (exec (.Try body handlers [] [] pos) env) (fun f p s => Q (.done f) p s) E p s := by
  show Sem.wp M Γ (standAt pos >>= fun _ => tryStmt false (execs body env) handlers (execs [] env) [] env) _ E p s
  have h : Sem.wp M Γ (standAt pos >>= fun _ => execs body env >>= fun f => pure (PySem.Fin.done f)) Q (fun e p s => wpT M Γ (noteTr e env (.run (do
    if handlers.isEmpty then .raise e
    setFlight e none
    pure (.done (← handleBy e env handlers))))) Q E p s) p s := h
  rw [Sem.wp_bind'] at h ⊢
  unfold standAt at h ⊢
  rw [Sem.wp_at, Sem.wp_pure] at h ⊢
  rw [Sem.wp_bind'] at h
  unfold tryStmt
  simp only [List.isEmpty_nil, if_true]
  show Sem.wp M Γ ((execs body env).attempt >>= _) _ _ _ _
  rw [Sem.wp_bind', Sem.wp_attempt]
  refine Sem.wp_mono _ _ _ ?_ ?_ _ _ h
  · intro f p s h
    rw [Sem.wp_pure'] at h
    cases f <;> first | (rw [Sem.wp_pure']; exact h) | (show Sem.wp M Γ (execs [] env) _ E p s; unfold execs; rw [Sem.wp_pure']; exact h)
  · intro e p s h
    show Sem.wp M Γ (noteFrame e env >>= _) _ E p s
    rw [Sem.wp_bind']
    refine Sem.wp_mono _ _ _ ?_ (fun _ _ _ h => h) _ _ (noteTr_sound h)
    intro _ p s h
    cases hh : handlers.isEmpty with
    | true =>
      simp only [wpT, hh, if_true] at h
      simp only [if_true]
      first | (rw [Sem.wp_bind'] at h; rw [Sem.wp_bind']; simpa using h) | simpa using h
    | false =>
      simp only [wpT, hh, Bool.false_eq_true, if_false] at h
      simp only [Bool.false_eq_true, if_false, Bool.false_and]
      first
        | (simpa using h)
        | (rw [Sem.wp_bind'] at h ⊢; simpa using h)
theorem bodyTr_sound {M : Model} {Γ : Ctx} {env : Env} : ∀ {body : List Stmt} {Q : PySem.Fin → Pos → Shared → Prop} {E : Value → Pos → Shared → Prop} {p : Pos} {s : Shared}, wpT M Γ (bodyTr env body) Q E p s →
    Sem.wp M Γ (execs body env) (fun f p s => Q (.done f) p s) E p s
  | [], Q, E, p, s, h => by
    unfold execs
    have h : Sem.wp M Γ (pure (PySem.Fin.done .next)) Q E p s := h
    rw [Sem.wp_pure'] at h ⊢
    exact h
  | st :: rest, Q, E, p, s, h => by
    have fin : ∀ {p s}, Sem.wp M Γ (exec st env) (fun f p s => wpT M Γ (match (PySem.Fin.done f) with
      | .done .next => bodyTr env rest
      | f => .run (pure f)) Q E p s) E p s → Sem.wp M Γ (execs (st :: rest) env) (fun f p s => Q (.done f) p s) E p s := by
      intro p s h
      unfold execs
      rw [Sem.wp_bind']
      refine Sem.wp_mono _ _ _ ?_ (fun _ _ _ h => h) _ _ h
      intro f p s h
      cases f with
      | next => exact bodyTr_sound h
      | brk => have h : Sem.wp M Γ (pure (PySem.Fin.done .brk)) Q E p s := h; rw [Sem.wp_pure'] at h ⊢; exact h
      | cont => have h : Sem.wp M Γ (pure (PySem.Fin.done .cont)) Q E p s := h; rw [Sem.wp_pure'] at h ⊢; exact h
      | ret v => have h : Sem.wp M Γ (pure (PySem.Fin.done (.ret v))) Q E p s := h; rw [Sem.wp_pure'] at h ⊢; exact h
    have plain : wpT M Γ (.seg (.run (do pure (.done (← exec st env)))) fun fin => match fin with
      | .done .next => bodyTr env rest
      | f => .run (pure f)) Q E p s → Sem.wp M Γ (execs (st :: rest) env) (fun f p s => Q (.done f) p s) E p s := by
      intro h
      refine fin ?_
      have h : Sem.wp M Γ (exec st env >>= fun f => pure (PySem.Fin.done f)) _ E p s := h
      rw [Sem.wp_bind'] at h
      refine Sem.wp_mono _ _ _ ?_ (fun _ _ _ h => h) _ _ h
      intro f p s h
      rwa [Sem.wp_pure'] at h
    unfold bodyTr at h
    split at h
    · rename_i e; cases e
    · rename_i e
      cases e
      refine fin ?_
      exact tryTr_sound (Q := fun fin p s => wpT M Γ (match fin with
        | .done .next => bodyTr env rest
        | f => .run (pure f)) Q E p s) h
    · rename_i e
      cases e
      exact plain h
theorem funcTr_sound {M : Model} {Γ : Ctx} (hu : Γ.units < cLine) {body : List Stmt} {env : Env} {Q : PySem.Fin → Pos → Shared → Prop} {E : Value → Pos → Shared → Prop} {p : Pos} {s : Shared} (h : wpT M Γ (funcTr body env) Q E p s) :
    Sem.wp M Γ (denote table (.func body env)) Q E p s := by
  show Sem.wp M Γ (point >>= fun _ => (execs body env).onRaise (leaving env) >>= fun f => match f with
    | .ret v => ret v
    | _ => ret .none) Q E p s
  rw [Sem.wp_bind']
  unfold point
  rw [Sem.wp_point, Sem.wp_pure, Sem.wp_bind', Sem.wp_onRaise]
  unfold funcTr at h
  split at h
  · have h : Sem.wp M Γ (point >>= fun _ => bodyR env body >>= fun f => match f with
      | .ret v => ret v
      | _ => ret .none) Q (fun e p s => wpT M Γ (leavingTr env e) Q E p s) p s := h
    rw [Sem.wp_bind'] at h
    unfold point at h
    rw [Sem.wp_point, Sem.wp_pure, Sem.wp_bind'] at h
    refine Sem.wp_mono _ _ _ ?_ ?_ _ _ (bodyR_sound hu h)
    · intro f p s h
      cases f <;> (unfold ret at h ⊢; rw [Sem.wp_pure'] at h ⊢; exact h)
    · intro e p s h
      exact leavingTr_sound h
  · have h := bodyTr_sound (show wpT M Γ (bodyTr env body) (fun fin p s => wpT M Γ (match fin with
      | .done (.ret v) => .run (ret v)
      | _ => .run (ret .none)) Q (fun e p s => wpT M Γ (leavingTr env e) Q E p s) p s) (fun e p s => wpT M Γ (leavingTr env e) Q E p s) p s from h)
    refine Sem.wp_mono _ _ _ ?_ ?_ _ _ h
    · intro f p s h
      cases f <;> (unfold ret; rw [Sem.wp_pure']; unfold ret at h; exact (Sem.wp_pure' ..).mp h)
    · intro e p s h
      exact leavingTr_sound h
theorem rule_eq {M : Model} {Γ : Ctx} {tag : String} {Q : Unit → Pos → Shared → Prop} {E : Value → Pos → Shared → Prop} {p : Pos} {s : Shared} : Sem.wp M Γ (rule tag) Q E p s = Q () p s := by
  unfold rule; rw [Sem.wp_rule, Sem.wp_pure]
noncomputable def ownG (r a : Nat) (o : Obj) : Sem Unit := match o.cls, o.data with
  | .type n, .fields vs =>
    if ["enumerate", "zip", "dict_itemiterator", "dict_reverseitemiterator", "odict_iterator", "itertools.zip_longest", "itertools.pairwise"].contains n && vs[0]? == some (rawInt a) then do
      rule "for.unpacks-the-owned-tuple"
      updateField r 0 .none
    else pure ()
  | _, _ => pure ()
theorem ownG_is {es : List Expr} {k : Nat} {pos : Pos} {r a : Nat} : letOwnedTupleGo (.Tuple es k pos) (.ref r) (.ref a) = load r >>= ownG r a := rfl
theorem owned_cases (r a : Nat) (o : Obj) : (∃ (j : Int) (t : Nat), ownedOf o = .done (.ret (.int j t)) ∧ (j = (a : Int) → t = 0 → ownG r a o = (rule "for.unpacks-the-owned-tuple" >>= fun _ => updateField r 0 .none))) ∨ (ownedOf o = .done .brk ∧ ownG r a o = pure ()) := by
  obtain ⟨c, d, dt, sl⟩ := o
  cases c with
  | type n => cases dt with
    | fields vs =>
      show (∃ (j : Int) (t : Nat), (if ["enumerate", "zip", "dict_itemiterator", "dict_reverseitemiterator", "odict_iterator", "itertools.zip_longest", "itertools.pairwise"].contains n then
        (match (vs[0]? : Option Value) with
        | some (.int j t) => PySem.Fin.done (.ret (.int j t))
        | _ => .done .brk) else .done .brk) = PySem.Fin.done (.ret (.int j t)) ∧ (j = (a : Int) → t = 0 → (if ["enumerate", "zip", "dict_itemiterator", "dict_reverseitemiterator", "odict_iterator", "itertools.zip_longest", "itertools.pairwise"].contains n && vs[0]? == some (rawInt a) then do
          rule "for.unpacks-the-owned-tuple"
          updateField r 0 .none
          else pure ()) = _)) ∨ ((if ["enumerate", "zip", "dict_itemiterator", "dict_reverseitemiterator", "odict_iterator", "itertools.zip_longest", "itertools.pairwise"].contains n then
        (match (vs[0]? : Option Value) with
        | some (.int j t) => PySem.Fin.done (.ret (.int j t))
        | _ => .done .brk) else .done .brk) = _ ∧ (if ["enumerate", "zip", "dict_itemiterator", "dict_reverseitemiterator", "odict_iterator", "itertools.zip_longest", "itertools.pairwise"].contains n && vs[0]? == some (rawInt a) then do
          rule "for.unpacks-the-owned-tuple"
          updateField r 0 .none
          else pure ()) = pure ())
      generalize ["enumerate", "zip", "dict_itemiterator", "dict_reverseitemiterator", "odict_iterator", "itertools.zip_longest", "itertools.pairwise"].contains n = b
      generalize vs[0]? = q
      cases b with
      | false => exact .inr ⟨rfl, rfl⟩
      | true =>
        cases q with
        | none => exact .inr ⟨rfl, rfl⟩
        | some x =>
          cases x with
          | int j t =>
            refine .inl ⟨j, t, rfl, ?_⟩
            rintro rfl rfl
            rw [if_pos (by simp [rawInt])]
          | _ => exact .inr ⟨rfl, by rw [if_neg (by simp [rawInt])]⟩
    | _ => exact .inr ⟨rfl, rfl⟩
  | _ => exact .inr ⟨rfl, rfl⟩
theorem owned_sound {M : Model} {Γ : Ctx} {es : List Expr} {k : Nat} {pos : Pos} {r a : Nat} {rest : Sem PySem.Fin} {Q : PySem.Fin → Pos → Shared → Prop} {E : Value → Pos → Shared → Prop} {p : Pos} {s : Shared}
    (h : Sem.wp M Γ (do pure (ownedOf (← load r))) (fun fin p s => wpT M Γ (match fin with
      | .done (.ret (.int j t)) => .eqI j a (.eqI t 0 (.run (do
          rule "for.unpacks-the-owned-tuple"
          updateField r 0 .none
          rest)))
      | _ => .run rest) Q E p s) E p s) : Sem.wp M Γ (letOwnedTupleGo (.Tuple es k pos) (.ref r) (.ref a) >>= fun _ => rest) Q E p s := by
  rw [ownG_is]
  rw [Sem.wp_bind'] at h
  rw [Sem.wp_bind', Sem.wp_bind']
  unfold load at h ⊢
  rw [Sem.wp_load] at h ⊢
  obtain ⟨o, ho, h⟩ := h
  refine ⟨o, ho, ?_⟩
  rw [Sem.wp_pure, Sem.wp_pure'] at h
  rw [Sem.wp_pure]
  rcases owned_cases r a o with ⟨j, t, e, g⟩ | ⟨e, g⟩
  · rw [e] at h
    obtain ⟨h1, h2, h⟩ : j = (a : Int) ∧ (t : Int) = 0 ∧ Sem.wp M Γ (rule "for.unpacks-the-owned-tuple" >>= fun _ => updateField r 0 .none >>= fun _ => rest) Q E p s := h
    rw [g h1 (Int.ofNat.inj h2), Sem.wp_bind']
    rw [Sem.wp_bind'] at h
    refine Sem.wp_mono _ _ _ ?_ (fun _ _ _ h => h) _ _ h
    intro _ p s h
    rwa [Sem.wp_bind'] at h
  · rw [e] at h
    rw [g, Sem.wp_pure']
    exact h
theorem forTr_sound {M : Model} {Γ : Ctx} {es : List Expr} {k : Nat} {pos : Pos} {it : Value} {body orelse : List Stmt} {env : Env} {Q : PySem.Fin → Pos → Shared → Prop} {E : Value → Pos → Shared → Prop} {p : Pos} {s : Shared} (h : wpT M Γ (forTr (.Tuple es k pos) it body orelse env) Q E p s) :
    Sem.wp M Γ (denote table (.forLoop (.Tuple es k pos) it body orelse env)) Q E p s := by
  show Sem.wp M Γ ((forTurn (.Tuple es k pos) it body orelse env).onRaise fun x => do noteFrame x env; theTreesLotGoes x) Q E p s
  rw [Sem.wp_onRaise]
  unfold forTr at h
  refine Sem.wp_mono _ _ _ (fun _ _ _ h => h) (fun e p s (h : wpT M Γ (turnTr env e) Q E p s) => turnTr_sound h) _ _ ?_
  simp only [wpT] at h
  unfold forTurn
  rw [Sem.wp_bind'] at h ⊢
  unfold standAt at h ⊢
  rw [Sem.wp_at, Sem.wp_pure] at h ⊢
  rw [Sem.wp_bind'] at h ⊢
  refine Sem.wp_mono _ _ _ ?_ (fun _ _ _ h => h) _ _ h
  intro o p s h
  cases o with
  | none =>
    rw [Sem.wp_pure'] at h
    exact h
  | some v =>
    rw [Sem.wp_pure'] at h
    cases it with
    | ref r => cases v with
      | ref a => exact owned_sound h
      | _ => exact h
    | _ => exact h
theorem loopTr_sound {M : Model} {Γ : Ctx} {t : Sem PySem.Fin} {env : Env} {Q : PySem.Fin → Pos → Shared → Prop} {E : Value → Pos → Shared → Prop} {p : Pos} {s : Shared} (h : wpT M Γ (.onr (.run t) (turnTr env)) Q E p s) :
    Sem.wp M Γ (t.onRaise fun x => do noteFrame x env; theTreesLotGoes x) Q E p s := by
  rw [Sem.wp_onRaise]
  exact Sem.wp_mono _ _ _ (fun _ _ _ h => h) (fun e p s (h : wpT M Γ (turnTr env e) Q E p s) => turnTr_sound h) _ _ h
theorem enterC_sound {P : Program} {w : World} {Γ : Ctx} {Q : PySem.Fin → Pos → Shared → Prop} {E : Value → Pos → Shared → Prop} {p : Pos} {s : Shared} (hd : frameCount Γ.below + Γ.code.weight < recursionLimit) (a : Nat) (args : Args)
    (h : Sem.wp (model P w) Γ (do
     let o ← load a
     match o.data with
     | .func fd => match fd.scope.isGenerator with
       | false => match fd.scope.isCoroutine with
         | false => callTree a fd args
         | true => denote table (.call (.ref a) args)
       | true => denote table (.call (.ref a) args)
     | _ => denote table (.call (.ref a) args)) (fun f _ s => (∀ p, Q f p s) ∧ s.heap.NoLimit) E p s) : Sem.wp (model P w) Γ (denote table (.call (.ref a) args)) Q E p s := by
  have weak : ∀ (t : Sem PySem.Fin), Sem.wp (model P w) Γ t (fun f _ s => (∀ p, Q f p s) ∧ s.heap.NoLimit) E p s → Sem.wp (model P w) Γ t Q E p s := fun t h =>
    Sem.wp_mono _ _ t (fun _ p _ h => h.1 p) (fun _ _ _ h => h) p s h
  rw [Sem.wp_bind'] at h
  obtain ⟨o, ho, h⟩ : ∃ o, s.heap.get? a = some o ∧ _ := by
    have h' := h
    unfold load at h'
    rw [Sem.wp_load] at h'
    exact h'
  rw [Sem.wp_pure] at h
  split at h
  · rename_i fd e
    split at h
    · rename_i hg
      split at h
      · rename_i hc
        show Sem.wp (model P w) Γ (callAny (.ref a) args) Q E p s
        unfold callAny
        simp only
        rw [Sem.wp_bind']
        show Sem.wp (model P w) Γ (Sem.load a none Sem.pure) _ _ p s
        rw [Sem.wp_load]
        refine ⟨o, ho, ?_⟩
        rw [Sem.wp_pure]
        simp only [e]
        refine pick_mono (jp := _) (jp' := _) fd.code fd.qualname ?_ h
        intro q p s h
        rw [Sem.wp_bind'] at h ⊢
        refine Sem.wp_mono _ _ _ ?_ (fun _ _ _ h => h) p s h
        intro bs p s h
        rw [Sem.wp_bind'] at h ⊢
        refine Sem.wp_mono _ _ _ ?_ (fun _ _ _ h => h) p s h
        intro env p s h
        rw [Sem.wp_pure'] at h
        have := wpAny_enterFrame (M := model P w) (A := ⟨Γ.handled, frameCount Γ.below + Γ.code.weight, none, none, Γ.units⟩) (Q := fun _ s' => s' = s) (E := fun _ _ => False) h.2 hd rfl Γ p ⟨rfl, Nat.le_refl _, fun _ h => (nomatch h), fun _ h => (nomatch h), Nat.le_refl _⟩
        rw [Sem.wp_bind']
        refine Sem.wp_mono _ _ _ ?_ (fun _ _ _ h => h.elim) p s this
        intro _ p' s' e'
        subst e'
        rw [hg, hc]
        exact h.1 p'
      · exact weak _ h
    · exact weak _ h
  · exact weak _ h
theorem enter_sound {P : Program} {w : World} {Γ : Ctx} {Q : PySem.Fin → Pos → Shared → Prop} {E : Value → Pos → Shared → Prop} {p : Pos} {s : Shared} (hd : frameCount Γ.below + Γ.code.weight < recursionLimit) (hu : Γ.units < cLine) (c : Code)
    (h : wpT (model P w) Γ (enterTree c) (fun f _ s => (∀ p, Q f p s) ∧ s.heap.NoLimit) E p s) : Sem.wp (model P w) Γ (denote table c) Q E p s := by
  have weak : ∀ (t : Sem PySem.Fin), Sem.wp (model P w) Γ t (fun f _ s => (∀ p, Q f p s) ∧ s.heap.NoLimit) E p s → Sem.wp (model P w) Γ t Q E p s := fun t h =>
    Sem.wp_mono _ _ t (fun _ p _ h => h.1 p) (fun _ _ _ h => h) p s h
  unfold enterTree at h
  split at h
  · exact enterC_sound hd _ _ h
  · exact weak _ (funcTr_sound hu h)
  · split at h
    · exact weak _ (forTr_sound h)
    · exact weak _ (loopTr_sound h)
  · exact weak _ (loopTr_sound h)
  · split at h
    · exact compR_sound h
    · exact weak _ h
  · exact weak _ h

theorem cUnits_le {c : Code} (h : c.weight ≤ 5) : c.cUnits ≤ 45 := by
  have hf : c.frames ≤ c.weight := by unfold Code.weight; lia
  unfold Code.cUnits
  split <;> omega
theorem Low.mono {l : List (Code × Pos)} {d d' : Nat} (h : Low l d) (e : d ≤ d') : Low l d' := ⟨Nat.le_trans h.1 e, Nat.le_trans h.2 (by lia)⟩
theorem Low.cons {l : List (Code × Pos)} {d : Nat} {c : Code} {p : Pos} (h : Low l d) (w : c.weight ≤ 5) : Low ((c, p) :: l) (d + 5) := by
  have := cUnits_le w
  obtain ⟨h1, h2⟩ := h
  exact ⟨by rw [frameCount_cons]; lia, by rw [unitsOf_cons]; lia⟩
theorem Low.units {Γ : Ctx} {d : Nat} (h : Low Γ.below d) (w : Γ.code.weight ≤ 5) (hd : d ≤ 905) : Γ.units < cLine := by
  have := cUnits_le w
  have := h.2
  unfold Ctx.units cLine; lia
structure VOk (V : Vn) : Prop where
  nl : ∀ h, V.kt.Holds h 1 0 → h.NoLimit
structure Rp (V : Vn) (C : Cf) (h₀ : Heap) (st : St) (h : Heap) (t : Nat) : Prop where
  size : h.objs.size = ad st.σ st.nx
  lin : ∀ s, st.nx ≤ s → ad st.σ s = ad st.σ st.nx + (s - st.nx)
  lt : ∀ s, s < st.nx → ad st.σ s < h.objs.size
  apart : ∀ s s', s < s' → s' < st.nx → ad st.σ s ≠ ad st.σ s'
  off : ∀ s, s < st.nx → V.kt.get (ad st.σ s) = none
  new : ∀ s, C.s₀ ≤ s → s < st.nx → h₀.objs.size ≤ ad st.σ s
  pre : ∀ s, s < C.s₀ → ad st.σ s = nth (fsts C.S.pre) s
  own : ∀ s o, st.T.get s = some o → s < st.nx ∧ h.get? (ad st.σ s) = some o
  kt : V.kt.Holds h 1 0
  keep : ∀ b o, h₀.get? b = some o → b ∉ C.S.touchA → h.get? b = some o
  few : st.nx ≤ 1000000
  le : C.s₀ ≤ st.nx
  big : h₀.objs.size ≤ h.objs.size
  tok : t = ad st.τ st.nt
  tlin : ∀ s, st.nt ≤ s → ad st.τ s = ad st.τ st.nt + (s - st.nt)
noncomputable def QP (V : Vn) (Γ : Ctx) (R : Result → Shared → Prop) : PySem.Fin → Pos → Shared → Prop := fun f _ s => (∀ p, Sem.finPost V.M Γ R f p s) ∧ s.heap.NoLimit
noncomputable def EP (R : Result → Shared → Prop) : Value → Pos → Shared → Prop := fun e _ s => R (.error e) s
inductive Cts (V : Vn) (bel : Option (List Env × Bool)) (R₀ : Result → Shared → Prop) : Kn → Ctx → (PySem.Fin → Pos → Shared → Prop) → (Value → Pos → Shared → Prop) → Prop
  | base {Γ : Ctx} : (∀ es, bel = some es → (envsB Γ.below, ucB Γ.below) = es) → Cts V bel R₀ .base Γ (QP V Γ R₀) (EP R₀)
  | ret {c : Code} {hd : Option Value} {d : Nat} {k : Result → Sem PySem.Fin} {κ : Kn} {Γ Γ' : Ctx} {Q : PySem.Fin → Pos → Shared → Prop} {E : Value → Pos → Shared → Prop} {p' : Pos} : Cts V bel R₀ κ Γ' Q E → Γ'.code = c → Γ'.handled = hd → Low Γ'.below d → c.weight ≤ 5 → Γ.below = (c, p') :: Γ'.below →
    Cts V bel R₀ (.ret c hd d k κ) Γ (QP V Γ (fun r s => Sem.wp V.M Γ' (k r) Q E p' s)) (EP (fun r s => Sem.wp V.M Γ' (k r) Q E p' s))
  | seg {k : PySem.Fin → Tr} {κ : Kn} {Γ : Ctx} {Q : PySem.Fin → Pos → Shared → Prop} {E : Value → Pos → Shared → Prop} : Cts V bel R₀ κ Γ Q E → Cts V bel R₀ (.seg k κ) Γ (fun f p s => wpT V.M Γ (k f) Q E p s) E
  | onr {h : Value → Tr} {κ : Kn} {Γ : Ctx} {Q : PySem.Fin → Pos → Shared → Prop} {E : Value → Pos → Shared → Prop} : Cts V bel R₀ κ Γ Q E → Cts V bel R₀ (.onr h κ) Γ Q (fun e p s => wpT V.M Γ (h e) Q E p s)
theorem Cts.stack {V : Vn} {bel : Option (List Env × Bool)} {R₀ : Result → Shared → Prop} : ∀ {κ : Kn} {Γ : Ctx} {Q : PySem.Fin → Pos → Shared → Prop} {E : Value → Pos → Shared → Prop}, Cts V bel R₀ κ Γ Q E → ∃ (below : List (Code × Pos)) (ps : Nat → Pos), Γ.below = kst below κ ps
  | .base, Γ, _, _, _ => ⟨Γ.below, fun _ => default, rfl⟩
  | .ret c hd d k κ, Γ, _, _, h => by
    cases h with
    | @ret _ _ _ _ _ _ Γ' R' _ p' a b e f g i =>
      obtain ⟨below, ps, q⟩ := Cts.stack a
      refine ⟨below, fun i => Nat.rec (motive := fun _ => Pos) p' (fun i _ => ps i) i, ?_⟩
      rw [i, q]
      rfl
  | .seg k κ, Γ, _, _, h => by
    cases h with
    | seg a => obtain ⟨below, ps, q⟩ := Cts.stack a; exact ⟨below, ps, q⟩
  | .onr k κ, Γ, _, _, h => by
    cases h with
    | onr a => obtain ⟨below, ps, q⟩ := Cts.stack a; exact ⟨below, ps, q⟩
theorem appE_eq : ∀ l r, appE l r = l ++ r
  | [], _ => rfl
  | a :: l, r => by show a :: appE l r = _; rw [appE_eq l r]; rfl
theorem not_caller {c : Code} (h : c.weight ≤ 5) : c.isCaller = false := by
  cases e : c.isCaller with
  | false => rfl
  | true =>
    unfold Code.weight at h
    rw [e] at h
    have : claimMargin = 300 := rfl
    simp only [if_true] at h
    lia
theorem Cts.envs {V : Vn} {bel : Option (List Env × Bool)} {R₀ : Result → Shared → Prop} : ∀ {κ : Kn} {Γ : Ctx} {Q : PySem.Fin → Pos → Shared → Prop} {E : Value → Pos → Shared → Prop}, Cts V bel R₀ κ Γ Q E → ∀ es, kenvs bel κ = some es → (envsB Γ.below, ucB Γ.below) = es
  | .base, Γ, _, _, h, es, e => by
    cases h with
    | base h => exact h es e
  | .ret c hd d k κ, Γ, _, _, h, es, e => by
    cases h with
    | @ret _ _ _ _ _ _ Γ' R' _ p' a b e' f g i =>
      have e : Option.rec (motive := fun _ => Option (List Env × Bool)) none (fun es => some (appE (cenvs c) es.1, es.2)) (kenvs bel κ) = some es := e
      cases hk : kenvs bel κ with
      | none => rw [hk] at e; cases e
      | some es' =>
        rw [hk] at e
        cases e
        have q := Cts.envs a es' hk
        rw [i, appE_eq]
        show (cenvs c ++ envsB Γ'.below, c.isCaller || ucB Γ'.below) = _
        rw [not_caller g, Bool.false_or, ← q]
  | .seg k κ, Γ, _, _, h, es, e => by
    cases h with
    | seg a => exact Cts.envs a es e
  | .onr k κ, Γ, _, _, h, es, e => by
    cases h with
    | onr a => exact Cts.envs a es e
theorem belOk_iff {want have_ : Option (List Env × Bool)} {o : Ob} (h : (belOk want have_ o).den) : o.den ∧ ∀ es, want = some es → have_ = some es := by
  cases want with
  | none => exact ⟨h, fun _ h => (nomatch h)⟩
  | some w =>
    cases have_ with
    | none => exact (show False from h).elim
    | some l =>
      obtain ⟨h1, h2⟩ := (show l = w ∧ o.den from h)
      exact ⟨h2, fun es e => by cases e; rw [h1]⟩
theorem okC_weight {c : Code} (h : okC c = true) : c.weight ≤ 5 := by
  have hf : c.isCaller = false → c.frames ≤ 3 := by
    intro _
    unfold Code.frames
    split <;> first | omega | skip
    split <;> omega
  have hk : c.isCaller = false := by
    unfold okC at h
    unfold Code.isCaller
    split
    · rename_i e
      simp at h
    · rfl
  have := hf hk
  unfold Code.weight
  rw [hk]
  simp only [Bool.false_eq_true, if_false]
  split <;> split <;> lia
noncomputable def R0 (C : Cf) (h₀ : Heap) (g : Array GenState) (d : Drawn) (os : OsState) : Result → Shared → Prop := fun r s =>
  ∃ as ts, r = C.S.res as ts ∧ C.S.Ends as ts h₀ s.heap ∧ s.gens = g ∧ s.drawn = d ∧ s.os = os
end Mine
end

noncomputable section
open PySem PySem.W PySem.W.X PyProof.Rows
set_option maxRecDepth 100000
namespace Mine
theorem fsts_eq : ∀ m : Mem, fsts m = m.map (·.1)
  | [] => rfl
  | q :: m => by show q.1 :: fsts m = _; rw [fsts_eq m]; rfl
theorem lenL_eq {α : Type} : ∀ m : List α, lenL m = m.length
  | [] => rfl
  | q :: m => by show lenL m + 1 = _; rw [lenL_eq m]; rfl
theorem adAll_eq (σ : Bk) : ∀ l, adAll σ l = l.map (ad σ)
  | [] => rfl
  | a :: l => by show ad σ a :: adAll σ l = _; rw [adAll_eq σ l]; rfl
theorem app_eq : ∀ l r, app l r = l ++ r
  | [], _ => rfl
  | a :: l, r => by show a :: app l r = _; rw [app_eq l r]; rfl
theorem appO_eq : ∀ l r, appO l r = l ++ r.map some
  | [], [] => rfl
  | [], b :: r => by show some b :: appO [] r = _; rw [appO_eq [] r]; rfl
  | a :: l, r => by show a :: appO l r = _; rw [appO_eq l r]; rfl
theorem sel_len (ks : List Nat) : ∀ ix, (sel ks ix).length = ix.length
  | [] => rfl
  | i :: ix => by show (sel ks ix).length + 1 = _; rw [sel_len ks ix]; rfl
theorem iota_len : ∀ n i, (iota n i).length = n
  | 0, _ => rfl
  | n + 1, i => by show (iota n (i + 1)).length + 1 = _; rw [iota_len n]
theorem nth_sel {ks : List Nat} : ∀ {ix : List Nat} {i : Nat}, i < ix.length → nth (sel ks ix) i = nth ks (nth ix i)
  | _ :: _, 0, _ => rfl
  | _ :: ix, i + 1, h => nth_sel (ix := ix) (Nat.lt_of_succ_lt_succ h)
theorem nth_iota : ∀ {n i j : Nat}, j < n → nth (iota n i) j = i + j
  | n + 1, i, 0, _ => rfl
  | n + 1, i, j + 1, h => by
    have := nth_iota (n := n) (i := i + 1) (j := j) (Nat.lt_of_succ_lt_succ h)
    rw [show i + (j + 1) = i + 1 + j by lia, ← this]; rfl
theorem nth_get {l : List Nat} : ∀ {i : Nat} (h : i < l.length), nth l i = l[i] := by
  induction l with
  | nil => intro i h; cases h
  | cons a l ih => intro i h; cases i with
    | zero => rfl
    | succ i => exact ih (Nat.lt_of_succ_lt_succ h)
theorem nth_map {f : Nat → Nat} {l : List Nat} {i : Nat} (h : i < l.length) : nth (l.map f) i = f (nth l i) := by
  rw [nth_get h, nth_get (by rw [List.length_map]; exact h), List.getElem_map]
theorem allN_iff {b : Nat} : ∀ {n : Nat} {P : List Nat → Ob}, (allN b n P).den → ∀ as, as.length = n → (∀ a ∈ as, b ≤ a) → (P as).den
  | 0, P, h, as, e, _ => by
    cases as with
    | nil => exact h
    | cons => cases e
  | n + 1, P, h, as, e, l => by
    cases as with
    | nil => cases e
    | cons a as =>
      have := l a mcS
      have q := allN_iff (n := n) (P := fun l => P ((a - b + b) :: l)) (h (a - b)) as (Nat.succ.inj e) (fun a h => l a (mcT h))
      rwa [Nat.sub_add_cancel this] at q
theorem slotsOk_iff {st : St} : ∀ {n : Nat} {l : List Nat} {go : List Nat → List Nat → List Obj → List Nat → Ob}, (slotsOk st n l go).den → ∃ ks as os l', (go ks as os l').den
  | 0, l, go, h => ⟨[], [], [], l, h⟩
  | n + 1, [], _, h => (show False from h).elim
  | n + 1,0 :: _, _, h => (show False from h).elim
  | n + 1, (k + 1) :: l, go, h => by
    have h : (ob (st.T.get k) fun o => slotsOk st n l fun ks as os l => go (k :: ks) (ad st.σ k :: as) (o :: os) l).den := h
    obtain ⟨o, _, h⟩ := obT h
    obtain ⟨ks, as, os, l', h⟩ := slotsOk_iff h
    exact ⟨_, _, _, _, h⟩
theorem slotsDyn_iff {st : St} {k : Nat} {l : List Nat} {go : List Nat → List Nat → List Obj → List Nat → Ob} (h : (slotsDyn st k l go).den) : ∃ ks as os l', (go ks as os l').den := by
  unfold slotsDyn at h
  cases e : Nat.beq k 1000 with
  | false => rw [e] at h; exact slotsOk_iff h
  | true =>
    rw [e] at h
    cases l with
    | nil => exact (show False from h).elim
    | cons n l => exact slotsOk_iff (show (slotsOk st n l go).den from h)
theorem splitN_iff : ∀ {c : Nat} {l : List Nat} {K : List Nat → List Nat → Ob}, (splitN c l K).den → ∃ ns l', (K ns l').den
  | 0, l, _, h => ⟨[], l, h⟩
  | c + 1, [], _, h => (show False from h).elim
  | c + 1, a :: l, K, h => by
    obtain ⟨ns, l', h⟩ := splitN_iff (show (splitN c l fun ns l => K (a :: ns) l).den from h)
    exact ⟨_, _, h⟩
theorem nthF_true {N : List (List Nat → Bool)} (h : ∀ f ∈ N, ∀ ns, f ns = true) (k : Nat) (ns : List Nat) : nthF N k ns = true := by
  induction N generalizing k with
  | nil => rfl
  | cons a N ih => cases k with
    | zero => exact h a mcS ns
    | succ k => exact ih (fun b hb => h b (mcT hb)) k
theorem needOk_iff {N : List (List Nat → Bool)} {σ τ : Bk} {own : List Bool} (hN : ∀ f ∈ N, ∀ ns, f ns = true) : ∀ {m : List Bool} {l : List Nat} {go : List Nat → Ob}, (∀ b ∈ own, b = true) → (needOk N σ τ own m l go).den → ∃ l', (go l').den ∧ ∀ b ∈ m, b = true
  | [], l, _, _, h => ⟨l, h, fun _ h => (nomatch h)⟩
  | b :: m, [], _, _, h => (show False from h).elim
  | b :: m, k :: l, go, ho, h => by
    replace h : (Bool.rec (motive := fun _ => Ob)
      (.eqB b (Nat.rec (motive := fun _ => Bool) true (fun k _ => nthB own k) k) (needOk N σ τ own m l go))
      (List.rec (motive := fun _ => Ob) (.stop 4 1) (fun c l _ => splitN c l fun ns l => .eqB b (nthF N (k - 5000) (letsN σ τ ns)) (needOk N σ τ own m l go)) l) (Nat.ble 5000 k) : Ob).den := h
    cases e5 : Nat.ble 5000 k with
    | true =>
      rw [e5] at h
      cases l with
      | nil => exact (show False from h).elim
      | cons c l =>
        obtain ⟨ns, l1, h1, h⟩ := splitN_iff (show (splitN c l fun ns l => .eqB b (nthF N (k - 5000) (letsN σ τ ns)) (needOk N σ τ own m l go)).den from h)
        obtain ⟨l', h2, h3⟩ := needOk_iff hN ho (show (needOk N σ τ own m l1 go).den from h)
        refine ⟨l', h2, fun b' hb => ?_⟩
        cases hb with
        | head => rw [show b = _ from h1]; exact nthF_true hN _ _
        | tail _ hb => exact h3 b' hb
    | false =>
    rw [e5] at h
    obtain ⟨h1, h⟩ : b = (Nat.rec (motive := fun _ => Bool) true (fun k _ => nthB own k) k) ∧ (needOk N σ τ own m l go).den := h
    obtain ⟨l', h2, h3⟩ := needOk_iff hN ho h
    refine ⟨l', h2, fun b' hb => ?_⟩
    cases hb with
    | head =>
      rw [h1]
      cases k with
      | zero => rfl
      | succ k =>
        show nthB own k = true
        clear h h1 h2 h3 e5
        induction own generalizing k with
        | nil => rfl
        | cons a own ih => cases k with
          | zero => exact ho a mcS
          | succ k => exact ih (fun b hb => ho b (mcT hb)) k
    | tail _ hb => exact h3 b' hb
theorem preOk_iff {st : St} : ∀ {m : Mem} {ks : List Nat} {go : Ob}, (preOk st m ks go).den →
    go.den ∧ fsts m = ks.map (ad st.σ) ∧ (∀ q ∈ m, ∃ k ∈ ks, q.1 = ad st.σ k ∧ st.T.get k = some q.2) ∧ (∀ k ∈ ks, ∃ q ∈ m, q.1 = ad st.σ k ∧ st.T.get k = some q.2)
  | [], [], go, h => ⟨h, rfl, fun _ h => (nomatch h), fun _ h => (nomatch h)⟩
  | [], _ :: _, _, h => (show False from h).elim
  | q :: m, [], _, h => (show False from h).elim
  | q :: m, k :: ks, go, h => by
    obtain ⟨h1, h⟩ : ad st.σ k = q.1 ∧ (ob (st.T.get k) fun o => .eqO o q.2 (preOk st m ks go)).den := h
    obtain ⟨o, ho, h⟩ := obT h
    obtain ⟨rfl, h⟩ : o = q.2 ∧ (preOk st m ks go).den := h
    obtain ⟨i0, i1, i2, i3⟩ := preOk_iff h
    refine ⟨i0, by rw [List.map_cons, ← i1, h1]; rfl, fun q' hq => ?_, fun k' hk => ?_⟩
    · cases hq with
      | head => exact ⟨k, List.mem_cons_self .., h1.symm, ho⟩
      | tail _ hq => obtain ⟨k', m1, m2⟩ := i2 q' hq; exact ⟨k', mcT m1, m2⟩
    · cases hk with
      | head => exact ⟨q, List.mem_cons_self .., h1.symm, ho⟩
      | tail _ hk => obtain ⟨q', m1, m2⟩ := i3 k' hk; exact ⟨q', mcT m1, m2⟩
theorem putL_cons (T : KT) (k : Nat) (kp : List Nat) (q : Option Obj) (m : List (Option Obj)) : putL T (k :: kp) (q :: m) = kput 40 (putL T kp m) k q := rfl
theorem putL_get {T : KT} {j : Nat} {o : Obj} : ∀ {kp : List Nat} {m : List (Option Obj)}, kp.length = m.length → (∀ k ∈ kp, k < 1000000) → (putL T kp m).get j = some o →
    (∃ (i : Nat) (hi : i < m.length), i < kp.length ∧ nth kp i = j ∧ m[i] = some o) ∨ (j ∉ kp ∧ T.get j = some o) := by
  intro kp
  induction kp with
  | nil =>
    intro m h _ e
    cases m with
    | nil => exact .inr ⟨fun h => (nomatch h), e⟩
    | cons => cases h
  | cons k kp ih =>
    intro m h hk e
    cases m with
    | nil => cases h
    | cons q m =>
      have h : kp.length = m.length := Nat.succ.inj h
      rw [putL_cons, put_get (hk k mcS)] at e
      by_cases hj : j = k
      · rw [if_pos hj] at e
        exact .inl ⟨0, Nat.zero_lt_succ _, Nat.zero_lt_succ _, hj.symm, e⟩
      · rw [if_neg hj] at e
        rcases ih h (fun k hk' => hk k (mcT hk')) e with ⟨i, hi, a, b, c⟩ | ⟨a, b⟩
        · exact .inl ⟨i + 1, Nat.succ_lt_succ hi, Nat.succ_lt_succ a, b, c⟩
        · refine .inr ⟨fun h' => ?_, b⟩
          cases h' with
          | head => exact hj rfl
          | tail _ h' => exact a h'
theorem ad_cons (b : Nat × Nat) (σ : Bk) (s : Nat) : ad (b :: σ) s = if b.1 ≤ s then b.2 + (s - b.1) else ad σ s := by
  show Bool.rec (motive := fun _ => Nat) (ad σ s) (b.2 + (s - b.1)) (Nat.ble b.1 s) = _
  by_cases h : b.1 ≤ s
  · rw [if_pos h, Nat.ble_eq_true_of_le h]
  · rw [if_neg h]
    cases e : Nat.ble b.1 s with
    | true => exact absurd (ble_iff e) h
    | false => rfl
theorem blocks_old {n' : Nat} : ∀ {as : List Nat} {σ : Bk} {nx s : Nat}, s < nx → ad (blocks σ nx n' as) s = ad σ s
  | [], σ, nx, s, h => by
    show ad ((nx, n') :: σ) s = _
    rw [ad_cons, if_neg (by simp; lia)]
  | a :: as, σ, nx, s, h => by
    show ad (blocks ((nx, a) :: σ) (nx + 1) n' as) s = _
    rw [blocks_old (Nat.lt_succ_of_lt h), ad_cons, if_neg (by simp; lia)]
theorem blocks_new {n' : Nat} : ∀ {as : List Nat} {σ : Bk} {nx i : Nat}, i < as.length → ad (blocks σ nx n' as) (nx + i) = nth as i
  | a :: as, σ, nx, 0, _ => by
    show ad (blocks ((nx, a) :: σ) (nx + 1) n' as) nx = a
    rw [blocks_old (Nat.lt_succ_self _), ad_cons, if_pos (Nat.le_refl _), Nat.sub_self]; rfl
  | a :: as, σ, nx, i + 1, h => by
    show ad (blocks ((nx, a) :: σ) (nx + 1) n' as) (nx + (i + 1)) = nth as i
    rw [← blocks_new (n' := n') (σ := (nx, a) :: σ) (nx := nx + 1) (Nat.lt_of_succ_lt_succ h)]
    congr 1; lia
theorem blocks_end {n' : Nat} : ∀ {as : List Nat} {σ : Bk} {nx s : Nat}, nx + as.length ≤ s → ad (blocks σ nx n' as) s = n' + (s - (nx + as.length))
  | [], σ, nx, s, h => by
    show ad ((nx, n') :: σ) s = _
    rw [ad_cons, if_pos (show nx ≤ s from h)]; rfl
  | a :: as, σ, nx, s, h => by
    show ad (blocks ((nx, a) :: σ) (nx + 1) n' as) s = _
    rw [List.length_cons] at h ⊢
    rw [blocks_end (by lia)]
    congr 2; lia
theorem holds_iff {h : Heap} : ∀ {t : KT} {s b : Nat}, (∀ j o, t.get j = some o → h.get? (s * j + b) = some o) → KT.Holds h s b t
  | .nil, _, _, _ => trivial
  | .node v l r, s, b, H => by
    refine ⟨fun o e => ?_, holds_iff fun j o e => ?_, holds_iff fun j o e => ?_⟩
    · have := H 0 o (by rw [KT.get_node, if_pos rfl]; exact e)
      rwa [Nat.mul_zero, Nat.zero_add] at this
    · have := H (2 * j + 1) o (by rw [KT.get_node, if_neg (by lia), if_pos (by lia)]; rw [show (2 * j + 1) / 2 = j by lia]; exact e)
      rw [show s * (2 * j + 1) + b = 2 * s * j + (s + b) by rw [Nat.mul_add, Nat.mul_one, ← Nat.mul_assoc, Nat.mul_comm s 2]; lia] at this
      exact this
    · have := H (2 * j + 2) o (by rw [KT.get_node, if_neg (by lia), if_neg (by lia)]; rw [show (2 * j + 2) / 2 - 1 = j by lia]; exact e)
      rw [show s * (2 * j + 2) + b = 2 * s * j + (2 * s + b) by rw [Nat.mul_add, ← Nat.mul_assoc, Nat.mul_comm s 2]; lia] at this
      exact this
theorem kt_get {V : Vn} {h : Heap} (H : V.kt.Holds h 1 0) {a : Nat} {o : Obj} (e : V.kt.get a = some o) : h.get? a = some o := kt_at H e
theorem kt_of {V : Vn} {h : Heap} (H : ∀ a o, V.kt.get a = some o → h.get? a = some o) : V.kt.Holds h 1 0 := holds_iff fun j o e => by
  rw [Nat.one_mul, Nat.add_zero]; exact H j o e
section
variable {V : Vn} {C : Cf} {h₀ h : Heap} {st : St} {t : Nat}
theorem Rp.inj (D : Rp V C h₀ st h t) {s s' : Nat} (a : s < st.nx) (b : s' < st.nx) (e : ad st.σ s = ad st.σ s') : s = s' := by
  rcases Nat.lt_trichotomy s s' with q | q | q
  · exact absurd e (D.apart s s' q b)
  · exact q
  · exact absurd e.symm (D.apart s' s q a)
theorem Rp.alloc (A : C.S.At V h₀) (D : Rp V C h₀ st h t) {o : Obj} (hf : o.isFreed = false) (hn : st.nx < 1000000) : Rp V C h₀ ⟨st.σ, st.nx + 1, st.τ, st.nt, kput 40 st.T st.nx (some o)⟩ (h.push o) t := by
  have hl := D.lin (st.nx + 1) (Nat.le_succ _)
  rw [Nat.add_sub_cancel_left] at hl
  refine ⟨by rw [Heap.size_push, D.size]; exact hl.symm, fun s hs => ?_, fun s hs => ?_, fun s s' a b => ?_, fun s hs => ?_, fun s a b => ?_, D.pre, fun s o' e => ?_, ?_, fun b o' e q => Heap.get?_push_of_some _ (D.keep b o' e q), hn, Nat.le_succ_of_le D.le, by rw [Heap.size_push]; exact Nat.le_succ_of_le D.big, D.tok, D.tlin⟩
  · show ad st.σ s = ad st.σ (st.nx + 1) + (s - (st.nx + 1))
    have hs : st.nx + 1 ≤ s := hs
    rw [hl, D.lin s (by lia)]; lia
  · rw [Heap.size_push]
    rcases Nat.lt_or_eq_of_le (Nat.le_of_lt_succ hs) with q | q
    · exact Nat.lt_succ_of_lt (D.lt s q)
    · rw [q, ← D.size]; exact Nat.lt_succ_self _
  · have b : s' < st.nx + 1 := b
    rcases Nat.lt_or_eq_of_le (Nat.le_of_lt_succ b) with q | q
    · exact D.apart s s' a q
    · have a : s < st.nx := q ▸ a
      have := D.lt s a
      show ad st.σ s ≠ ad st.σ s'
      have e' : ad st.σ s' = h.objs.size := by rw [q, D.size]
      rw [e']; exact Nat.ne_of_lt this
  · rcases Nat.lt_or_eq_of_le (Nat.le_of_lt_succ hs) with q | q
    · exact D.off s q
    · cases e : V.kt.get (ad st.σ s) with
      | none => rfl
      | some o =>
        have := Heap.lt_size (kt_get D.kt e)
        rw [q, ← D.size] at this; exact absurd this (Nat.lt_irrefl _)
  · rcases Nat.lt_or_eq_of_le (Nat.le_of_lt_succ b) with q | q
    · exact D.new s a q
    · show _ ≤ ad st.σ s
      rw [q, ← D.size]; exact D.big
  · have e : (kput 40 st.T st.nx (some o)).get s = some o' := e
    rw [put_get hn] at e
    by_cases hs : s = st.nx
    · rw [if_pos hs] at e
      cases e
      refine ⟨hs ▸ Nat.lt_succ_self _, ?_⟩
      show (h.push o).get? (ad st.σ s) = some o
      rw [hs, ← D.size]; exact Heap.get?_push_size _ hf
    · rw [if_neg hs] at e
      have z := D.own s o' e
      exact ⟨Nat.lt_succ_of_lt z.1, Heap.get?_push_of_some _ z.2⟩
  · exact KT.Holds.keeps (fun b o' e => Heap.get?_push_of_some _ e) D.kt
theorem Rp.update (A : C.S.At V h₀) (D : Rp V C h₀ st h t) {s : Nat} {o : Obj} {f : Obj → Obj} (e : st.T.get s = some o) (hf : (f o).isFreed = false) (hn : C.s₀ ≤ s ∨ s ∈ C.upd) :
    Rp V C h₀ ⟨st.σ, st.nx, st.τ, st.nt, kput 40 st.T s (some (f o))⟩ (h.update (ad st.σ s) f) t := by
  have z := D.own _ _ e
  have hb : Heap.SameBut (ad st.σ s) h (h.update (ad st.σ s) f) := Heap.SameBut.update ..
  have hlt : s < 1000000 := Nat.lt_of_lt_of_le z.1 D.few
  have notin : ∀ b o', h₀.get? b = some o' → b ∉ C.S.touchA → b ≠ ad st.σ s := fun b o' e' q r => by
    by_cases w : C.s₀ ≤ s
    · have h1 := D.new s w z.1
      have h2 := Heap.lt_size e'
      rw [r] at h2
      exact Nat.lt_irrefl _ (Nat.lt_of_lt_of_le h2 h1)
    · refine q ?_
      rcases hn with n | n
      · exact absurd n w
      · rw [r, D.pre s (Nat.lt_of_not_le w)]; exact nth_mem n
  refine ⟨by rw [hb.1]; exact D.size, D.lin, fun s' q => by rw [hb.1]; exact D.lt s' q, D.apart, D.off, D.new, D.pre, fun s' o' e' => ?_, ?_, fun b o' e' q => (hb.2 b (notin b o' e' q)).trans (D.keep b o' e' q), D.few, D.le, by rw [hb.1]; exact D.big, D.tok, D.tlin⟩
  · have e' : (kput 40 st.T s (some (f o))).get s' = some o' := e'
    rw [put_get hlt] at e'
    by_cases w : s' = s
    · rw [if_pos w] at e'
      cases e'
      refine ⟨w ▸ z.1, ?_⟩
      rw [w]
      first | exact Heap.get?_update_self f z.2 hf | exact Heap.get?_update_self _ z.2 hf
    · rw [if_neg w] at e'
      have y := D.own s' o' e'
      exact ⟨y.1, (hb.2 _ fun r => w (D.inj y.1 z.1 r)).trans y.2⟩
  · refine kt_of fun a o' e' => ?_
    refine (hb.2 a fun r => ?_).trans (kt_get D.kt e')
    have := D.off s z.1
    rw [← r, e'] at this
    cases this
end
end Mine
end

noncomputable section
open PySem PySem.W PySem.W.X PyProof.Rows
set_option maxRecDepth 100000
namespace Mine
section
variable {V : Vn} {C : Cf} {h₀ h : Heap} {st : St} {t : Nat}
theorem spec_sound (A : C.S.At V h₀) (D : Rp V C h₀ st h t) {S : Spec} (ok : S.Holds V) {have_ : Option (List Env × Bool)} {ks l as₀ ts₀ : List Nat} {d : Nat} {hd : Option Value} {c' : Code} {go : List Nat → List Nat → Hs → St → Ob} {Γ : Ctx}
    (H : (spec V.lim C have_ S ks l as₀ ts₀ d hd c' st go).den) (hl : ∀ es, have_ = some es → (envsB Γ.below, ucB Γ.below) = es) (hc : Γ.code = c') (hh : Γ.handled = hd) (hb : Low Γ.below d) (p : Pos) (g : Array GenState) (dr : Drawn) (os : OsState) :
    ∃ as ts hs' st' h' t', Returns V.M Γ p ⟨h, g, dr, t, os⟩ (S.res as ts) ⟨h', g, dr, t', os⟩ ∧ (go as ts hs' st').den ∧ Rp V C h₀ st' h' t' := by
  cases hd with
  | some _ => exact (show False from H).elim
  | none =>
  obtain ⟨H1, H⟩ : c' = S.code ∧ (belOk S.bel have_ (preOk st S.pre ks _)).den := H
  obtain ⟨H, hbel⟩ := belOk_iff H
  obtain ⟨H, P1, P2, P3⟩ := preOk_iff H
  obtain ⟨l', H, hN⟩ := needOk_iff C.N.ok A.need H
  obtain ⟨hB, H3⟩ := bfT H
  obtain ⟨b1, hB⟩ := andT hB
  obtain ⟨b2, hB⟩ := andT hB
  obtain ⟨b4, hB⟩ := andT hB
  obtain ⟨b0, b5⟩ := andT hB
  have liveK : ∀ k ∈ ks, ∃ o, st.T.get k = some o := fun k hk => let ⟨q, _, _, e⟩ := P3 k hk; ⟨_, e⟩
  have ltK : ∀ k ∈ ks, k < st.nx := fun k hk => let ⟨o, e⟩ := liveK k hk; (D.own k o e).1
  have ixlt : ∀ i ∈ S.touch, i < ks.length := fun i hi => by
    have := blt_iff (allB_iff b0 i hi)
    rwa [lenL_eq] at this
  have nthK : ∀ i, i < ks.length → nth ks i ∈ ks := fun i hi => by rw [nth_get hi]; exact List.getElem_mem hi
  have tA : ∀ b, b ∈ S.touchA → ∃ k, k ∈ sel ks S.touch ∧ k ∈ ks ∧ b = ad st.σ k := fun b hb => by
    obtain ⟨i, hi, e⟩ := mem_sel hb
    have hl := ixlt i hi
    rw [P1, nth_map hl] at e
    exact ⟨_, nth_mem hi, nthK i hl, e⟩
  have sK : ∀ k, k ∈ sel ks S.touch → k ∈ ks ∧ (C.s₀ ≤ k ∨ k ∈ C.upd) := fun k hk => by
    obtain ⟨i, hi, e⟩ := mem_sel hk
    refine ⟨e ▸ nthK i (ixlt i hi), ?_⟩
    rcases orT (allB_iff b5 k hk) with q | q
    · exact .inl (ble_iff q)
    · exact .inr (inB_iff q)
  have at' : S.At V h := ⟨D.kt, fun q hq => by
      obtain ⟨k, hk, e1, e2⟩ := P2 q hq
      rw [e1]; exact (D.own k _ e2).2, fun q hq => by
      obtain ⟨k, hk, e1, e2⟩ := P2 q hq
      rw [e1]; exact D.off k (ltK k hk), by
      rw [← fsts_eq, P1]
      have nd := nodupB_iff b2
      rw [List.Nodup, List.pairwise_map]
      refine List.Pairwise.imp_of_mem ?_ nd
      intro a b ha hb hne e
      exact hne (D.inj (ltK a ha) (ltK b hb) e), Nat.le_trans A.lim D.big, hN⟩
  obtain ⟨as, ts, h', t', hr, E⟩ := ok Γ p h g dr t os (by rw [hc, H1]) hh (hb.mono (ble_iff b1)) (fun cs e => hl cs (hbel cs e)) at'
  have hlim : V.lim ≤ h.objs.size := Nat.le_trans A.lim D.big
  have hlim' : h'.objs.size - V.lim + V.lim = h'.objs.size := Nat.sub_add_cancel (Nat.le_trans hlim E.size)
  have H3 := (allN_iff (allN_iff H3 as E.na fun a ha => Nat.le_trans hlim (E.fresh a ha).1) ts E.nt fun _ _ => Nat.zero_le _) (h'.objs.size - V.lim) t'
  rw [hlim'] at H3
  obtain ⟨hL, H4⟩ := bfT H3
  obtain ⟨l1, l2⟩ := andT hL
  have l1 := Nat.eq_of_beq_eq_true l1
  have l2 := Nat.eq_of_beq_eq_true l2
  rw [lenL_eq, lenL_eq] at l1
  rw [lenL_eq] at l2
  have hna := E.na
  have old : ∀ s, s < st.nx → ad (blocks st.σ st.nx h'.objs.size as) s = ad st.σ s := fun s hs => blocks_old hs
  have fresh : ∀ s, st.nx ≤ s → s < st.nx + S.na → ∃ (i : Nat) (hi : i < as.length), s = st.nx + i ∧ ad (blocks st.σ st.nx h'.objs.size as) s = as[i] := fun s h1 h2 => by
    refine ⟨s - st.nx, by lia, by lia, ?_⟩
    rw [← nth_get, ← blocks_new (n' := h'.objs.size) (σ := st.σ) (nx := st.nx) (by lia)]
    congr 1; lia
  have n3 := blt_iff b4
  have kpB : ∀ k ∈ app (sel ks S.touch) (iota S.na st.nx), k < st.nx + S.na := fun k hk => by
    rw [app_eq] at hk
    rcases List.mem_append.1 hk with q | q
    · have := ltK k (sK k q).1; lia
    · obtain ⟨i, hi, rfl⟩ := List.mem_iff_getElem.1 q
      have hi' := hi
      rw [iota_len] at hi'
      rw [← nth_get hi, nth_iota hi']; lia
  refine ⟨as, ts, _, ⟨blocks st.σ st.nx h'.objs.size as, st.nx + S.na, blocks st.τ st.nt t' ts, st.nt + S.nt, putL st.T (app (sel ks S.touch) (iota S.na st.nx)) (appO (S.postT as ts) (S.postN as ts))⟩, h', t', hr, H4, ?_⟩
  have endA : ∀ s, st.nx + S.na ≤ s → ad (blocks st.σ st.nx h'.objs.size as) s = h'.objs.size + (s - (st.nx + S.na)) := fun s hs => by
    rw [blocks_end (by lia), hna]
  have endT : ∀ s, st.nt + S.nt ≤ s → ad (blocks st.τ st.nt t' ts) s = t' + (s - (st.nt + S.nt)) := fun s hs => by
    rw [blocks_end (by rw [E.nt]; exact hs), E.nt]
  refine ⟨?_, fun s hs => ?_, fun s hs => ?_, fun s s' a b => ?_, fun s hs => ?_, fun s a b => ?_, fun s hs => ?_, fun s o e => ?_, ?_, fun b o e q => ?_, Nat.le_of_lt n3, Nat.le_trans D.le (Nat.le_add_right ..), Nat.le_trans D.big E.size, ?_, fun s hs => ?_⟩
  · show h'.objs.size = ad (blocks st.σ st.nx h'.objs.size as) (st.nx + S.na)
    rw [endA _ (Nat.le_refl _), Nat.sub_self]; rfl
  · show ad (blocks st.σ st.nx h'.objs.size as) s = ad (blocks st.σ st.nx h'.objs.size as) (st.nx + S.na) + (s - (st.nx + S.na))
    rw [endA _ (Nat.le_refl _), endA s hs, Nat.sub_self]; rfl
  · show ad (blocks st.σ st.nx h'.objs.size as) s < _
    by_cases w : s < st.nx
    · rw [old s w]; exact Nat.lt_of_lt_of_le (D.lt s w) E.size
    · obtain ⟨i, hi, _, e⟩ := fresh s (Nat.le_of_not_lt w) hs
      rw [e]; exact (E.fresh _ (List.getElem_mem hi)).2
  · show ad (blocks st.σ st.nx h'.objs.size as) s ≠ ad (blocks st.σ st.nx h'.objs.size as) s'
    by_cases w' : s' < st.nx
    · rw [old s' w', old s (Nat.lt_trans a w')]; exact D.apart s s' a w'
    · obtain ⟨i', hi', x', e'⟩ := fresh s' (Nat.le_of_not_lt w') b
      rw [e']
      by_cases w : s < st.nx
      · rw [old s w]
        exact Nat.ne_of_lt (Nat.lt_of_lt_of_le (D.lt s w) (E.fresh _ (List.getElem_mem hi')).1)
      · obtain ⟨i, hi, x, e⟩ := fresh s (Nat.le_of_not_lt w) (Nat.lt_trans a b)
        rw [e]
        exact List.pairwise_iff_getElem.1 E.apart i i' hi hi' (by lia)
  · show V.kt.get (ad (blocks st.σ st.nx h'.objs.size as) s) = none
    by_cases w : s < st.nx
    · rw [old s w]; exact D.off s w
    · obtain ⟨i, hi, _, e⟩ := fresh s (Nat.le_of_not_lt w) hs
      rw [e]
      cases z : V.kt.get as[i] with
      | none => rfl
      | some o => exact absurd (Heap.lt_size (kt_get D.kt z)) (Nat.not_lt_of_le (E.fresh _ (List.getElem_mem hi)).1)
  · show _ ≤ ad (blocks st.σ st.nx h'.objs.size as) s
    by_cases w : s < st.nx
    · rw [old s w]; exact D.new s a w
    · obtain ⟨i, hi, _, e⟩ := fresh s (Nat.le_of_not_lt w) b
      rw [e]; exact Nat.le_trans D.big (E.fresh _ (List.getElem_mem hi)).1
  · show ad (blocks st.σ st.nx h'.objs.size as) s = _
    rw [old s (Nat.lt_of_lt_of_le hs D.le)]; exact D.pre s hs
  · have e : (putL st.T (app (sel ks S.touch) (iota S.na st.nx)) (appO (S.postT as ts) (S.postN as ts))).get s = some o := e
    show s < st.nx + S.na ∧ h'.get? (ad (blocks st.σ st.nx h'.objs.size as) s) = some o
    rcases putL_get (by rw [app_eq, appO_eq, List.length_append, List.length_append, List.length_map, sel_len, iota_len, l1, l2]) (fun k hk => Nat.lt_trans (kpB k hk) n3) e with ⟨i, hi, hi', e1, e2⟩ | ⟨hk, e'⟩
    · have hs : s < st.nx + S.na := kpB s (by rw [← e1, nth_get hi']; exact List.getElem_mem hi')
      refine ⟨hs, ?_⟩
      by_cases w : i < S.touch.length
      · have wt : i < (S.postT as ts).length := by rw [l1]; exact w
        have e5 : (S.postT as ts)[i] = some o := by
          rw [← e2]
          simp only [appO_eq]
          rw [List.getElem_append_left wt]
        have e3 := E.postT i wt o e5
        have ws : i < (sel ks S.touch).length := by rw [sel_len]; exact w
        have es : nth (sel ks S.touch) i = s := by
          rw [← e1, nth_get hi', nth_get ws]
          simp only [app_eq]
          rw [List.getElem_append_left ws]
        have hn : nth S.touch i ∈ S.touch := by rw [nth_get w]; exact List.getElem_mem w
        have et : nth S.touchA i = ad st.σ s := by
          unfold Spec.touchA
          rw [nth_sel w, P1, nth_map (ixlt _ hn), ← nth_sel w, es]
        rw [old s (by rw [← es, nth_sel w]; exact ltK _ (nthK _ (ixlt _ hn))), ← et, e3]
      · have hi2 := hi
        rw [appO_eq, List.length_append, List.length_map, l1, l2] at hi2
        have wt : i - S.touch.length < (S.postN as ts).length := by rw [l2]; lia
        have e3 := E.postN (i - S.touch.length) wt
        have es : s = st.nx + (i - S.touch.length) := by
          rw [← e1, nth_get hi']
          simp only [app_eq]
          rw [List.getElem_append_right (by rw [sel_len]; lia), ← nth_get, sel_len, nth_iota (by lia)]
        rw [es, blocks_new (by lia), e3, ← e2]
        simp only [appO_eq]
        rw [List.getElem_append_right (by rw [l1]; lia), List.getElem_map]
        congr 2; congr 1; rw [l1]
    · have z := D.own s o e'
      refine ⟨Nat.lt_of_lt_of_le z.1 (Nat.le_add_right ..), ?_⟩
      rw [old s z.1]
      refine E.keep _ _ z.2 fun ht => hk ?_
      obtain ⟨k, hk', hk2, e3⟩ := tA _ ht
      rw [D.inj z.1 (ltK k hk2) e3, app_eq]
      exact List.mem_append_left _ hk'
  · refine kt_of fun a o e => E.keep _ _ (kt_get D.kt e) fun ht => ?_
    obtain ⟨k, hk', hk2, e3⟩ := tA _ ht
    have := D.off k (ltK k hk2)
    rw [← e3, e] at this
    cases this
  · refine E.keep _ _ (D.keep b o e q) fun ht => ?_
    obtain ⟨k, hk', hk2, e3⟩ := tA _ ht
    by_cases w : C.s₀ ≤ k
    · have h1 := D.new k w (ltK k hk2)
      have h2 := Heap.lt_size e
      rw [e3] at h2
      exact Nat.lt_irrefl _ (Nat.lt_of_lt_of_le h2 h1)
    · refine q ?_
      rcases (sK k hk').2 with n | n
      · exact absurd n w
      · rw [e3, D.pre k (Nat.lt_of_not_le w)]; exact nth_mem n
  · show t' = ad (blocks st.τ st.nt t' ts) (st.nt + S.nt)
    rw [endT _ (Nat.le_refl _), Nat.sub_self]; rfl
  · show ad (blocks st.τ st.nt t' ts) s = ad (blocks st.τ st.nt t' ts) (st.nt + S.nt) + (s - (st.nt + S.nt))
    rw [endT _ (Nat.le_refl _), endT s hs, Nat.sub_self]; rfl
theorem specD_sound (A : C.S.At V h₀) (D : Rp V C h₀ st h t) {have_ : Option (List Env × Bool)} {dp : Dp V} {hs : Hs} {d : Nat} {hd : Option Value} {c' : Code} {go : Spec → List Nat → List Nat → Hs → St → Ob}
    (H : (specD C have_ dp hs d hd c' st go).den) {Γ : Ctx} (hl : ∀ es, have_ = some es → (envsB Γ.below, ucB Γ.below) = es) (hc : Γ.code = c') (hh : Γ.handled = hd) (hb : Low Γ.below d) (p : Pos) (g : Array GenState) (dr : Drawn) (os : OsState) :
    ∃ S as ts hs' st' h' t', Returns V.M Γ p ⟨h, g, dr, t, os⟩ (S.res as ts) ⟨h', g, dr, t', os⟩ ∧ (go S as ts hs' st').den ∧ Rp V C h₀ st' h' t' := by
  obtain ⟨ks, as, os', l, H⟩ := slotsDyn_iff H
  cases l with
  | nil => exact (show False from H).elim
  | cons alt l =>
    have H : (Option.rec (motive := fun _ => Ob) (.stop 5 1) (fun S => spec V.lim C have_ S.S ks l hs.as hs.ts d hd c' st (go S.S)) (dp.get as os' alt) : Ob).den := H
    cases e : dp.get as os' alt with
    | none => rw [e] at H; exact (show False from H).elim
    | some S =>
      rw [e] at H
      exact ⟨S.S, spec_sound A D S.ok H hl hc hh hb p g dr os⟩
theorem finOk_iff {st : St} : ∀ {ks : List Nat} {m : List (Option Obj)}, (finOk st ks m).den → ks.length = m.length ∧ ∀ i (hi : i < m.length) o, m[i] = some o → st.T.get (nth ks i) = some o
  | [], [], _ => ⟨rfl, fun _ h => (nomatch h)⟩
  | [], _ :: _, h => (show False from h).elim
  | _ :: _, [], h => (show False from h).elim
  | k :: ks, none :: m, h => by
    obtain ⟨h1, h2⟩ := finOk_iff (show (finOk st ks m).den from h)
    refine ⟨by rw [List.length_cons, List.length_cons, h1], fun i hi o e => ?_⟩
    cases i with
    | zero => cases e
    | succ i => exact h2 i (Nat.lt_of_succ_lt_succ hi) o e
  | k :: ks, some q :: m, h => by
    have h : (ob (st.T.get k) fun o => .eqO o q (finOk st ks m)).den := h
    obtain ⟨o, ho, h⟩ := obT h
    obtain ⟨rfl, h3⟩ : o = q ∧ (finOk st ks m).den := h
    obtain ⟨h1, h2⟩ := finOk_iff h3
    refine ⟨by rw [List.length_cons, List.length_cons, h1], fun i hi o' e => ?_⟩
    cases i with
    | zero => cases e; exact ho
    | succ i => exact h2 i (Nat.lt_of_succ_lt_succ hi) o' e
theorem end_sound (hC : C.s₀ = lenL C.S.pre) (D : Rp V C h₀ st h t) {hs : Hs} {r : Result} (H : (endF C hs r st).den) (g : Array GenState) (dr : Drawn) (os : OsState) :
    R0 C h₀ g dr os r ⟨h, g, dr, t, os⟩ := by
  obtain ⟨hB, H⟩ := bfT H
  obtain ⟨b1, hB⟩ := andT hB
  obtain ⟨b2, hB⟩ := andT hB
  obtain ⟨b3, hB⟩ := andT hB
  obtain ⟨b4, hB⟩ := andT hB
  obtain ⟨b5, hB⟩ := andT hB
  obtain ⟨b6, b7⟩ := andT hB
  have b3 := Nat.eq_of_beq_eq_true b3
  have b4 := Nat.eq_of_beq_eq_true b4
  have b5 := Nat.eq_of_beq_eq_true b5
  have b6 := Nat.eq_of_beq_eq_true b6
  rw [lenL_eq] at b3 b4 b6
  rw [lenL_eq, lenL_eq] at b5
  obtain ⟨e1, H⟩ : r = _ ∧ (finOk st _ _).den := H
  obtain ⟨_, e2⟩ := finOk_iff H
  have sl : ∀ s ∈ hs.as, C.s₀ ≤ s ∧ s < st.nx := fun s hs => let x := andT (allB_iff b2 s hs); ⟨ble_iff x.1, blt_iff x.2⟩
  refine ⟨adAll st.σ hs.as, tsAll st.σ st.τ hs.ts 0, e1, ⟨?_, ?_, fun i hi o ho => ?_, fun i hi => ?_, D.keep, fun a ha => ?_, ?_, D.big⟩, rfl, rfl, rfl⟩
  · rw [adAll_eq, List.length_map]; exact b3
  · exact b4
  · have hi' : i < C.S.touch.length := by rw [← b5]; exact hi
    have e5 : (appO (C.S.postT (adAll st.σ hs.as) (tsAll st.σ st.τ hs.ts 0)) (C.S.postN (adAll st.σ hs.as) (tsAll st.σ st.τ hs.ts 0)))[i]'(by rw [appO_eq, List.length_append]; lia) = some o := by
      simp only [appO_eq]
      rw [List.getElem_append_left hi]
      exact ho
    have e3 := e2 i (by rw [appO_eq, List.length_append]; lia) o e5
    have hn : nth C.S.touch i < C.s₀ := by rw [nth_get hi']; exact blt_iff (allB_iff b7 _ (List.getElem_mem hi'))
    have e4 : nth (app C.S.touch hs.as) i = nth C.S.touch i := by
      rw [nth_get (by rw [app_eq, List.length_append]; lia), nth_get hi']
      simp only [app_eq]
      rw [List.getElem_append_left hi']
    rw [e4] at e3
    have := (D.own _ _ e3).2
    rw [D.pre _ hn] at this
    unfold Spec.touchA
    rw [nth_sel hi']
    exact this
  · have hi' : i < hs.as.length := by rw [b3, ← b6]; exact hi
    have hT : C.S.touch.length + i < (app C.S.touch hs.as).length := by rw [app_eq, List.length_append]; lia
    have hO : C.S.touch.length + i < (appO (C.S.postT (adAll st.σ hs.as) (tsAll st.σ st.τ hs.ts 0)) (C.S.postN (adAll st.σ hs.as) (tsAll st.σ st.τ hs.ts 0))).length := by rw [appO_eq, List.length_append, List.length_map]; lia
    have e5 : (appO (C.S.postT (adAll st.σ hs.as) (tsAll st.σ st.τ hs.ts 0)) (C.S.postN (adAll st.σ hs.as) (tsAll st.σ st.τ hs.ts 0)))[C.S.touch.length + i]'hO = some (C.S.postN (adAll st.σ hs.as) (tsAll st.σ st.τ hs.ts 0))[i] := by
      simp only [appO_eq]
      rw [List.getElem_append_right (by lia), List.getElem_map]
      congr 2; lia
    have e3 := e2 (C.S.touch.length + i) hO _ e5
    have e4 : nth (app C.S.touch hs.as) (C.S.touch.length + i) = nth hs.as i := by
      rw [nth_get hT, nth_get hi']
      simp only [app_eq]
      rw [List.getElem_append_right (by lia)]
      congr 1; lia
    rw [e4] at e3
    have := (D.own _ _ e3).2
    have e6 : nth (adAll st.σ hs.as) i = ad st.σ (nth hs.as i) := by rw [adAll_eq, nth_map hi']
    rw [e6]
    exact this
  · rw [adAll_eq] at ha
    obtain ⟨s, hs, rfl⟩ := List.mem_map.1 ha
    exact ⟨D.new s (sl s hs).1 (sl s hs).2, D.lt s (sl s hs).2⟩
  · rw [adAll_eq, List.Nodup, List.pairwise_map]
    refine List.Pairwise.imp_of_mem ?_ (nodupB_iff b1)
    intro a b ha hb hne e
    exact hne (D.inj (sl a ha).2 (sl b hb).2 e)
end
end Mine
end

noncomputable section
open PySem PySem.W PySem.W.X PyProof.Rows
set_option maxRecDepth 100000
namespace Mine
section
variable {V : Vn} {F : Code → Option (Dp V)} {C : Cf} {h₀ : Heap} {g : Array GenState} {dr : Drawn} {os : OsState}
noncomputable def IHy (V : Vn) (C : Cf) (h₀ : Heap) (g : Array GenState) (dr : Drawn) (os : OsState) (ih : Go) : Prop :=
  ∀ hs c hd dd κ t st, (ih hs c hd dd κ t st).den → ∀ Γ Q E p h k, Γ.code = c → Rp V C h₀ st h k → Γ.handled = hd → Low Γ.below dd → Γ.code.weight ≤ 5 → Cts V C.S.bel (R0 C h₀ g dr os) κ Γ Q E →
    Sem.wp V.M Γ t Q E p ⟨h, g, dr, k, os⟩
theorem tr_sound {ih : Go} (I : IHy V C h₀ g dr os ih) : ∀ {T : Tr} {hs : Hs} {c : Code} {hd : Option Value} {dd : Nat} {κ : Kn} {st : St}, (hTr T ih C hs c hd dd κ st).den → ∀ {Γ : Ctx} {Q : PySem.Fin → Pos → Shared → Prop} {E : Value → Pos → Shared → Prop} {p : Pos} {h : Heap} {k : Nat},
    Γ.code = c → Rp V C h₀ st h k → Γ.handled = hd → Low Γ.below dd → Γ.code.weight ≤ 5 → Cts V C.S.bel (R0 C h₀ g dr os) κ Γ Q E → wpT V.M Γ T Q E p ⟨h, g, dr, k, os⟩
  | .run t, _, _, _, _, _, _, H, _, _, _, _, _, _, e, D, hh, hb, hw, K => I _ _ _ _ _ t _ H _ _ _ _ _ _ e D hh hb hw K
  | .seg t k, _, _, _, _, _, _, H, _, _, _, _, _, _, e, D, hh, hb, hw, K => tr_sound I (T := t) H e D hh hb hw (.seg K)
  | .onr t k, _, _, _, _, _, _, H, _, _, _, _, _, _, e, D, hh, hb, hw, K => tr_sound I (T := t) H e D hh hb hw (.onr K)
  | .eqI _ _ k, _, _, _, _, _, _, H, _, _, _, _, _, _, e, D, hh, hb, hw, K => ⟨H.1, tr_sound I (T := k) H.2 e D hh hb hw K⟩
  | .envs k, hs, c, hd, dd, κ, st, H, Γ, Q, E, p, h, tk, e, D, hh, hb, hw, K => by
    have H : (Option.rec (motive := fun _ => Ob) (.stop 19 0) (fun es => hTr (k (appE (cenvs c) es.1) es.2) ih C hs c hd dd κ st) (kenvs C.S.bel κ) : Ob).den := H
    show wpT V.M Γ (k (cenvs Γ.code ++ envsB Γ.below) (Γ.code.isCaller || ucB Γ.below)) Q E p _
    cases hk : kenvs C.S.bel κ with
    | none => rw [hk] at H; exact (show False from H).elim
    | some es =>
      rw [hk] at H
      have H : (hTr (k (appE (cenvs c) es.1) es.2) ih C hs c hd dd κ st).den := H
      have q := K.envs es hk
      have q1 : envsB Γ.below = es.1 := congrArg Prod.fst q
      have q2 : ucB Γ.below = es.2 := congrArg Prod.snd q
      rw [not_caller hw, Bool.false_or, q1, q2, e, ← appE_eq]
      exact tr_sound I H e D hh hb hw K
  | .nat k, hs, c, hd, dd, κ, st, H, Γ, Q, E, p, h, tk, e, D, hh, hb, hw, K => fun q => by
    have H : (hTr (k q) ih C hs c hd dd κ ⟨st.σ, st.nx, (st.nt + 1, tk) :: (st.nt, q) :: st.τ, st.nt + 1, st.T⟩).den := H q tk
    have end_ : ∀ s, st.nt + 1 ≤ s → ad ((st.nt + 1, tk) :: (st.nt, q) :: st.τ) s = tk + (s - (st.nt + 1)) := fun s hs => by
      rw [ad_cons, if_pos hs]
    have D' : Rp V C h₀ ⟨st.σ, st.nx, (st.nt + 1, tk) :: (st.nt, q) :: st.τ, st.nt + 1, st.T⟩ h tk := ⟨D.size, D.lin, D.lt, D.apart, D.off, D.new, D.pre, D.own, D.kt, D.keep, D.few, D.le, D.big, by
        show tk = ad ((st.nt + 1, tk) :: (st.nt, q) :: st.τ) (st.nt + 1)
        rw [end_ _ (Nat.le_refl _), Nat.sub_self]; rfl, fun s hs => by
        have hs : st.nt + 1 ≤ s := hs
        show ad ((st.nt + 1, tk) :: (st.nt, q) :: st.τ) s = ad ((st.nt + 1, tk) :: (st.nt, q) :: st.τ) (st.nt + 1) + (s - (st.nt + 1))
        rw [end_ _ hs, end_ _ (Nat.le_refl _), Nat.sub_self]; rfl⟩
    exact tr_sound I H e D' hh hb hw K
theorem ret_sound (hC : C.s₀ = lenL C.S.pre) {ih : Go} (I : IHy V C h₀ g dr os ih) {r : Result} {hs : Hs} {c : Code} {hd : Option Value} {dd : Nat} {κ : Kn} {st : St} (H : (retH r ih C hs c hd dd κ st).den)
    {Γ : Ctx} {Q : PySem.Fin → Pos → Shared → Prop} {E : Value → Pos → Shared → Prop} {h : Heap} {t : Nat} (D : Rp V C h₀ st h t) (K : Cts V C.S.bel (R0 C h₀ g dr os) κ Γ Q E) :
    ∃ R, Q = QP V Γ R ∧ E = EP R ∧ R r ⟨h, g, dr, t, os⟩ := by
  cases K with
  | base q => exact ⟨_, rfl, rfl, end_sound hC D (show (endF C hs r st).den from H) g dr os⟩
  | @ret c' hd' d' k κ' _ Γ' Q' E' p' K' e1 e2 e3 e4 e5 =>
    have H : (ih hs c' hd' d' κ' (k r) st).den := H
    exact ⟨_, rfl, rfl, I hs c' hd' d' κ' (k r) st H Γ' Q' E' p' h t e1 D e2 e3 (by rw [e1]; exact e4) K'⟩
  | seg => exact (show False from H).elim
  | onr => exact (show False from H).elim
theorem code_sound (O : VOk V) {ih : Go} (I : IHy V C h₀ g dr os ih) {hs : Hs} {c' : Code} {hd : Option Value} {dd : Nat} {κ : Kn} {st : St} (H : (hTr (enterTree c') ih C hs c' hd dd κ st).den) (ok : okC c' = true) (hdd : dd ≤ 905)
    {Γ : Ctx} {R : Result → Shared → Prop} {p : Pos} {h : Heap} {t : Nat} (e : Γ.code = c') (D : Rp V C h₀ st h t) (hh : Γ.handled = hd) (hb : Low Γ.below dd) (K : Cts V C.S.bel (R0 C h₀ g dr os) κ Γ (QP V Γ R) (EP R)) : wpCode V.M Γ R p ⟨h, g, dr, t, os⟩ := by
  have hw : Γ.code.weight ≤ 5 := by rw [e]; exact okC_weight ok
  rw [wpCode_iff_wp]
  have := tr_sound I H e D hh hb hw K (p := p)
  rw [← e] at this
  exact enter_sound (Q := Sem.finPost V.M Γ R) (by have := hb.1; unfold recursionLimit; lia) (hb.units hw hdd) Γ.code this
theorem inl_sound (O : VOk V) {ih : Go} (I : IHy V C h₀ g dr os ih) {hs : Hs} {c c' : Code} {hd h' : Option Value} {k : Result → Sem PySem.Fin} {dd : Nat} {κ : Kn} {st : St} (H : (inl c' h' k ih C hs c hd dd κ st).den)
    {Γ : Ctx} {Q : PySem.Fin → Pos → Shared → Prop} {E : Value → Pos → Shared → Prop} {p : Pos} {h : Heap} {t : Nat} (e : Γ.code = c) (D : Rp V C h₀ st h t) (hh : Γ.handled = hd) (hb : Low Γ.below dd) (hw : Γ.code.weight ≤ 5) (K : Cts V C.S.bel (R0 C h₀ g dr os) κ Γ Q E) :
    wpCode V.M (Γ.enter c' h' p) (fun r s => Sem.wp V.M Γ (k r) Q E p s) p ⟨h, g, dr, t, os⟩ := by
  obtain ⟨hB, H⟩ := bfT H
  obtain ⟨b1, b2⟩ := andT hB
  have b2 := ble_iff b2
  have K' : ∀ hm, Cts V C.S.bel (R0 C h₀ g dr os) (.ret c hd dd k κ) ⟨c', hm, markOver h' Γ.own none, (Γ.code, p) :: Γ.below, Γ.past⟩ (QP V _ (fun r s => Sem.wp V.M Γ (k r) Q E p s)) (EP (fun r s => Sem.wp V.M Γ (k r) Q E p s)) :=
    fun hm => .ret K e hh hb (e ▸ hw) (by rw [e])
  have fc : Low ((Γ.code, p) :: Γ.below) (dd + 5) := hb.cons hw
  cases h' with
  | none => exact code_sound O I (show (hTr (enterTree c') ih C hs c' hd (dd + 5) (.ret c hd dd k κ) st).den from H) b1 (by lia) rfl D hh fc (K' _)
  | some v =>
    cases v with
    | ref a =>
      refine code_sound O I (show (hTr (enterTree c') ih C hs c' (some (.ref a)) (dd + 5) (.ret c hd dd k κ) st).den from H) b1 (by lia) rfl D ?_ fc (K' _)
      rfl
    | _ => exact (show False from H).elim
theorem call_sound (O : VOk V) (A : C.S.At V h₀) {ih : Go} (I : IHy V C h₀ g dr os ih) {hs : Hs} {c c' : Code} {hd h' : Option Value} {k : Result → Sem PySem.Fin} {dd : Nat} {κ : Kn} {st : St} (H : (hCall V F c' h' k ih C hs c hd dd κ st).den)
    {Γ : Ctx} {Q : PySem.Fin → Pos → Shared → Prop} {E : Value → Pos → Shared → Prop} {p : Pos} {h : Heap} {t : Nat} (e : Γ.code = c) (D : Rp V C h₀ st h t) (hh : Γ.handled = hd) (hb : Low Γ.below dd) (hw : Γ.code.weight ≤ 5) (K : Cts V C.S.bel (R0 C h₀ g dr os) κ Γ Q E) :
    wpCode V.M (Γ.enter c' h' p) (fun r s => Sem.wp V.M Γ (k r) Q E p s) p ⟨h, g, dr, t, os⟩ := by
  have fc : Low ((Γ.code, p) :: Γ.below) (dd + 5) := hb.cons hw
  unfold hCall at H
  cases hF : F c' with
  | none =>
    rw [hF] at H
    exact inl_sound O I (show (inl c' h' k ih C hs c hd dd κ st).den from H) e D hh hb hw K
  | some S =>
    rw [hF] at H
    cases h' with
    | some _ => exact (show False from H).elim
    | none =>
      have H : (specD C (kenvs C.S.bel (.ret c hd dd k κ)) S hs (dd + 5) hd c' st fun S as ts hs st' => ih hs c hd dd κ (k (S.res as ts)) st').den := H
      have K' : Cts V C.S.bel (R0 C h₀ g dr os) (.ret c hd dd k κ) (Γ.enter c' none p) _ _ := .ret K e hh hb (e ▸ hw) (by rw [← e]; rfl)
      obtain ⟨S, as, ts, hs', st', h1, t', hr, hg, D'⟩ := specD_sound A D H (Γ := Γ.enter c' none p) (fun cs q => K'.envs cs q) rfl hh fc p g dr os
      exact ⟨_, _, hr, I _ _ _ _ _ _ _ hg Γ Q E p h1 t' e D' hh hb hw K⟩
theorem Cts.top {bel : Option (List Env × Bool)} {R₀ : Result → Shared → Prop} {κ : Kn} {Γ : Ctx} {Q : PySem.Fin → Pos → Shared → Prop} {E : Value → Pos → Shared → Prop} (K : Cts V bel R₀ κ Γ Q E) (hk : κ = .base ∨ ∃ c hd d k κ', κ = .ret c hd d k κ') :
    ∃ R, Q = QP V Γ R ∧ E = EP R ∧ ∀ c, Cts V bel R₀ κ (Γ.goto c) (QP V (Γ.goto c) R) (EP R) := by
  cases K with
  | base q => exact ⟨_, rfl, rfl, fun c => .base q⟩
  | ret a b e f g i => exact ⟨_, rfl, rfl, fun c => .ret a b e f g i⟩
  | seg => rcases hk with h | ⟨_, _, _, _, _, h⟩ <;> cases h
  | onr => rcases hk with h | ⟨_, _, _, _, _, h⟩ <;> cases h
theorem fin_sound (O : VOk V) (hC : C.s₀ = lenL C.S.pre) (A : C.S.At V h₀) {ih : Go} (I : IHy V C h₀ g dr os ih) {f : PySem.Fin} {hs : Hs} {c : Code} {hd : Option Value} {dd : Nat} {κ : Kn} {st : St} (H : (hFin V F f ih C hs c hd dd κ st).den)
    {Γ : Ctx} {Q : PySem.Fin → Pos → Shared → Prop} {E : Value → Pos → Shared → Prop} {p : Pos} {h : Heap} {t : Nat} (D : Rp V C h₀ st h t) (hh : Γ.handled = hd) (hb : Low Γ.below dd) (K : Cts V C.S.bel (R0 C h₀ g dr os) κ Γ Q E) (hk : κ = .base ∨ ∃ c hd d k κ', κ = .ret c hd d k κ') : Q f p ⟨h, g, dr, t, os⟩ := by
  have nl : h.NoLimit := O.nl h D.kt
  cases f with
  | done fl =>
    obtain ⟨R, rfl, rfl, r⟩ := ret_sound hC I (show (retH (.ok fl) ih C hs c hd dd κ st).den from H) D K
    exact ⟨fun p => r, nl⟩
  | again c' =>
    have H : (hAgain V F c' ih C hs c hd dd κ st).den := H
    obtain ⟨R, rfl, rfl, K'⟩ := K.top hk
    refine ⟨fun p => ?_, nl⟩
    unfold hAgain at H
    cases hF : F c' with
    | none =>
      rw [hF] at H
      obtain ⟨hB, H⟩ := bfT (show (tail c' ih C hs c hd dd κ st).den from H)
      obtain ⟨b1, b2⟩ := andT hB
      obtain ⟨b2, b3⟩ := andT b2
      exact ⟨b2, code_sound O I (Γ := Γ.goto c') H b1 (Nat.le_trans (ble_iff b3) (by lia)) rfl D hh hb (K' c')⟩
    | some S =>
      rw [hF] at H
      obtain ⟨hB, H⟩ := bfT (show (bf 12 _ _).den from H)
      refine ⟨(andT hB).2, ?_⟩
      have H : (specD C (kenvs C.S.bel κ) S hs dd hd c' st fun S as ts hs st' => retH (S.res as ts) ih C hs c hd dd κ st').den := H
      obtain ⟨S, as, ts, hs', st', h1, t', hr, hg, D'⟩ := specD_sound A D H (Γ := Γ.goto c') (fun cs q => K.envs cs q) rfl hh hb p g dr os
      obtain ⟨R', e1, e2, r⟩ := ret_sound hC I hg D' K
      have e3 : R (S.res as ts) ⟨h1, g, dr, t', os⟩ := by
        cases hr' : S.res as ts with
        | ok fl =>
          rw [hr'] at r
          have : QP V Γ R (.done fl) p ⟨h1, g, dr, t', os⟩ = QP V Γ R' (.done fl) p ⟨h1, g, dr, t', os⟩ := congrFun (congrFun (congrFun e1 (.done fl)) p) _
          have q : QP V Γ R' (.done fl) p ⟨h1, g, dr, t', os⟩ := ⟨fun p => r, O.nl h1 D'.kt⟩
          rw [← this] at q
          exact q.1 p
        | error e =>
          rw [hr'] at r
          have : EP R e p ⟨h1, g, dr, t', os⟩ = EP R' e p ⟨h1, g, dr, t', os⟩ := congrFun (congrFun (congrFun e2 e) p) _
          have q : EP R' e p ⟨h1, g, dr, t', os⟩ := r
          rw [← this] at q
          exact q
      exact ⟨_, _, hr, e3⟩
theorem pure_sound (O : VOk V) (hC : C.s₀ = lenL C.S.pre) (A : C.S.At V h₀) {ih : Go} (I : IHy V C h₀ g dr os ih) {f : PySem.Fin} {hs : Hs} {c : Code} {hd : Option Value} {dd : Nat} {st : St} {Γ : Ctx} {p : Pos} {h : Heap} {t : Nat} (e : Γ.code = c) (D : Rp V C h₀ st h t) (hh : Γ.handled = hd) (hb : Low Γ.below dd) (hw : Γ.code.weight ≤ 5) :
    ∀ {κ : Kn} {Q : PySem.Fin → Pos → Shared → Prop} {E : Value → Pos → Shared → Prop}, (hPure V F f ih C hs c hd dd κ st).den → Cts V C.S.bel (R0 C h₀ g dr os) κ Γ Q E → Q f p ⟨h, g, dr, t, os⟩
  | .base, _, _, H, K => fin_sound O hC A I (show (hFin V F f ih C hs c hd dd .base st).den from H) D hh hb K (.inl rfl)
  | .ret c1 hd1 d1 k κ, _, _, H, K => fin_sound O hC A I (show (hFin V F f ih C hs c hd dd (.ret c1 hd1 d1 k κ) st).den from H) D hh hb K (.inr ⟨_, _, _, _, _, rfl⟩)
  | .seg k κ, _, _, H, .seg K => tr_sound I (show (hTr (k f) ih C hs c hd dd κ st).den from H) e D hh hb hw K
  | .onr _ κ, _, _, H, .onr K => pure_sound O hC A I e D hh hb hw (show (hPure V F f ih C hs c hd dd κ st).den from H) K
theorem raise_sound (hC : C.s₀ = lenL C.S.pre) {ih : Go} (I : IHy V C h₀ g dr os ih) {x : Value} {hs : Hs} {c : Code} {hd : Option Value} {dd : Nat} {st : St} {Γ : Ctx} {p : Pos} {h : Heap} {t : Nat} (e : Γ.code = c) (D : Rp V C h₀ st h t) (hh : Γ.handled = hd) (hb : Low Γ.below dd) (hw : Γ.code.weight ≤ 5) :
    ∀ {κ : Kn} {Q : PySem.Fin → Pos → Shared → Prop} {E : Value → Pos → Shared → Prop}, (hRaise x ih C hs c hd dd κ st).den → Cts V C.S.bel (R0 C h₀ g dr os) κ Γ Q E → E x p ⟨h, g, dr, t, os⟩
  | .base, _, _, H, K => by
    obtain ⟨R, rfl, rfl, r⟩ := ret_sound hC I (show (retH (.error x) ih C hs c hd dd .base st).den from H) D K
    exact r
  | .ret c1 hd1 d1 k κ, _, _, H, K => by
    obtain ⟨R, rfl, rfl, r⟩ := ret_sound hC I (show (retH (.error x) ih C hs c hd dd (.ret c1 hd1 d1 k κ) st).den from H) D K
    exact r
  | .seg _ κ, _, _, H, .seg K => raise_sound hC I e D hh hb hw (show (hRaise x ih C hs c hd dd κ st).den from H) K
  | .onr k κ, _, _, H, .onr K => tr_sound I (show (hTr (k x) ih C hs c hd dd κ st).den from H) e D hh hb hw K
theorem adv_sound {Γ : Ctx} {Q : PySem.Fin → Pos → Shared → Prop} {E : Value → Pos → Shared → Prop} {st : St} {h : Heap} {tk : Nat} (D : Rp V C h₀ st h tk) : ∀ {n : Nat} {t : Sem PySem.Fin} {l : List Nat} {K : Sem PySem.Fin → List Nat → Ob}, (adv V st n t l K).den →
    ∃ t' l', (K t' l').den ∧ ((∀ p, Sem.wp V.M Γ t' Q E p ⟨h, g, dr, tk, os⟩) → ∀ p, Sem.wp V.M Γ t Q E p ⟨h, g, dr, tk, os⟩)
  | 0, t, l, _, H => ⟨t, l, H, id⟩
  | n + 1, t, l, K, H => by
    have skip : ∀ {t1 : Sem PySem.Fin}, (adv V st n t1 l K).den → (∀ p, ∃ p', Sem.wp V.M Γ t Q E p ⟨h, g, dr, tk, os⟩ = Sem.wp V.M Γ t1 Q E p' ⟨h, g, dr, tk, os⟩) →
        ∃ t' l', (K t' l').den ∧ ((∀ p, Sem.wp V.M Γ t' Q E p ⟨h, g, dr, tk, os⟩) → ∀ p, Sem.wp V.M Γ t Q E p ⟨h, g, dr, tk, os⟩) := fun H e => by
      obtain ⟨t', l', h1, h2⟩ := adv_sound D H
      exact ⟨t', l', h1, fun q p => by
        obtain ⟨p', e⟩ := e p
        rw [e]; exact h2 q p'⟩
    cases t with
    | rule tag k => exact skip (show (adv V st n (k ()) l K).den from H) fun p => ⟨p, by rw [Sem.wp_rule]⟩
    | «at» p' k => exact skip (show (adv V st n (k ()) l K).den from H) fun p => ⟨p', by rw [Sem.wp_at]⟩
    | point s k => exact skip (show (adv V st n (k ()) l K).den from H) fun p => ⟨p, by rw [Sem.wp_point]⟩
    | load a part k =>
      cases l with
      | nil => exact (show False from H).elim
      | cons s l =>
        cases s with
        | zero =>
          obtain ⟨o, ho, H⟩ := obT (show (ob (V.kt.get a) _).den from H)
          obtain ⟨t', l', h1, h2⟩ := adv_sound D H
          exact ⟨t', l', h1, fun q p => by rw [Sem.wp_load]; exact ⟨o, kt_get D.kt ho, h2 q p⟩⟩
        | succ s =>
          obtain ⟨ha, H⟩ := (show a = ad st.σ s ∧ (ob (st.T.get s) _).den from H)
          obtain ⟨o, ho, H⟩ := obT H
          obtain ⟨t', l', h1, h2⟩ := adv_sound D H
          exact ⟨t', l', h1, fun q p => by rw [Sem.wp_load]; exact ⟨o, ha ▸ (D.own s o ho).2, h2 q p⟩⟩
    | loadIfAlive a k =>
      cases l with
      | nil => exact (show False from H).elim
      | cons s l =>
        cases s with
        | zero =>
          obtain ⟨o, ho, H⟩ := obT (show (ob (V.kt.get a) _).den from H)
          obtain ⟨t', l', h1, h2⟩ := adv_sound D H
          exact ⟨t', l', h1, fun q p => by rw [Sem.wp_loadIfAlive, kt_get D.kt ho]; exact h2 q p⟩
        | succ s =>
          obtain ⟨ha, H⟩ := (show a = ad st.σ s ∧ (ob (st.T.get s) _).den from H)
          obtain ⟨o, ho, H⟩ := obT H
          obtain ⟨t', l', h1, h2⟩ := adv_sound D H
          exact ⟨t', l', h1, fun q p => by rw [Sem.wp_loadIfAlive, ha, (D.own s o ho).2]; exact h2 q p⟩
    | _ => exact (show False from H).elim
theorem params_follow (w : World) (r : String) (b : Bool) (e : w.params.followText r = b) : (w.withFollow r b).params = w.params := by
  subst e; rw [World.withFollow_self]
theorem sim_sound (O : VOk V) (hC : C.s₀ = lenL C.S.pre) (A : C.S.At V h₀) : ∀ n, IHy V C h₀ g dr os (sim V F C n)
  | 0 => fun _ _ _ _ _ _ _ H => (show False from H).elim
  | n + 1 => fun hs c hd dd κ t st H Γ Q E p h tk e D hh hb hw K => by
    have I := sim_sound O hC A n
    have nl : h.NoLimit := O.nl h D.kt
    have next : ∀ {hs' t' st'}, (sim V F C n hs' c hd dd κ t' st').den → ∀ {p' h' tk'}, Rp V C h₀ st' h' tk' → Sem.wp V.M Γ t' Q E p' ⟨h', g, dr, tk', os⟩ :=
      fun {hs' t' st'} H {p' h' tk'} D' => I _ _ _ _ _ _ _ H Γ Q E p' h' tk' e D' hh hb hw K
    have H : (disp V F t (sim V F C n) C hs c hd dd κ st).den := H
    obtain ⟨l, as, ts⟩ := hs
    cases t with
    | pure f =>
      rw [Sem.wp_pure]
      exact pure_sound O hC A I e D hh hb hw (show (hPure V F f (sim V F C n) C _ c hd dd κ st).den from H) K
    | raise v => rw [Sem.wp_raise]; exact raise_sound hC I e D hh hb hw (show (hRaise v (sim V F C n) C _ c hd dd κ st).den from H) K
    | rule tag k => rw [Sem.wp_rule]; exact next (show (sim V F C n _ c hd dd κ (k ()) st).den from H) D
    | «at» p' k => rw [Sem.wp_at]; exact next (show (sim V F C n _ c hd dd κ (k ()) st).den from H) D
    | point l k => rw [Sem.wp_point]; exact next (show (sim V F C n _ c hd dd κ (k ()) st).den from H) D
    | load a part k =>
      rw [Sem.wp_load]
      have H : (hLoad V a k (sim V F C n) C ⟨l, as, ts⟩ c hd dd κ st).den := H
      cases l with
      | nil => exact (show False from H).elim
      | cons s l =>
        cases s with
        | zero =>
          obtain ⟨o, ho, H⟩ := obT (show (ob (V.kt.get a) _).den from H)
          exact ⟨o, kt_get D.kt ho, next H D⟩
        | succ s =>
          obtain ⟨ha, H⟩ := (show a = ad st.σ s ∧ (ob (st.T.get s) _).den from H)
          obtain ⟨o, ho, H⟩ := obT H
          exact ⟨o, ha ▸ (D.own s o ho).2, next H D⟩
    | loadIfAlive a k =>
      rw [Sem.wp_loadIfAlive]
      have H : (hLoad V a (fun o => k (some o)) (sim V F C n) C ⟨l, as, ts⟩ c hd dd κ st).den := H
      cases l with
      | nil => exact (show False from H).elim
      | cons s l =>
        cases s with
        | zero =>
          obtain ⟨o, ho, H⟩ := obT (show (ob (V.kt.get a) _).den from H)
          have := kt_get D.kt ho
          rw [this]; exact next H D
        | succ s =>
          obtain ⟨ha, H⟩ := (show a = ad st.σ s ∧ (ob (st.T.get s) _).den from H)
          obtain ⟨o, ho, H⟩ := obT H
          have := (D.own s o ho).2
          rw [ha, this]; exact next H D
    | update a part f k =>
      rw [Sem.wp_update]
      have H : (hUpd a f k (sim V F C n) C ⟨l, as, ts⟩ c hd dd κ st).den := H
      cases l with
      | nil => exact (show False from H).elim
      | cons s l =>
        cases s with
        | zero => exact (show False from H).elim
        | succ s =>
          obtain ⟨ha, H⟩ := (show a = ad st.σ s ∧ (bf 14 _ _).den from H)
          obtain ⟨h1, H⟩ := bfT H
          obtain ⟨o, ho, H⟩ := obT H
          obtain ⟨h2, H⟩ := bfT H
          have hf : (f o).isFreed = false := by
            cases z : (f o).isFreed with
            | false => rfl
            | true => rw [z] at h2; cases h2
          refine ⟨by rw [ha, (D.own s o ho).2]; rfl, ?_⟩
          have D' := D.update A ho hf ((orT h1).imp ble_iff inB_iff)
          rw [← ha] at D'
          exact next H D'
    | alloc o k =>
      rw [Sem.wp_alloc]
      obtain ⟨hB, H⟩ := bfT (show (bf 16 _ _).den from H)
      obtain ⟨b1, b2⟩ := andT hB
      have hf : o.isFreed = false := by
        cases z : o.isFreed with
        | false => rfl
        | true => rw [z] at b1; cases b1
      have D' := D.alloc A hf (blt_iff b2)
      have := next H (p' := p) D'
      rw [← D.size] at this
      exact this
    | fresh k =>
      rw [Sem.wp_fresh]
      have hl := D.tlin (st.nt + 1) (Nat.le_succ _)
      rw [Nat.add_sub_cancel_left] at hl
      have D' : Rp V C h₀ ⟨st.σ, st.nx, st.τ, st.nt + 1, st.T⟩ h (tk + 1) := ⟨D.size, D.lin, D.lt, D.apart, D.off, D.new, D.pre, D.own, D.kt, D.keep, D.few, D.le, D.big, by
        show tk + 1 = ad st.τ (st.nt + 1)
        rw [hl, D.tok], fun s hs => by
        have hs : st.nt + 1 ≤ s := hs
        show ad st.τ s = ad st.τ (st.nt + 1) + (s - (st.nt + 1))
        rw [hl, D.tlin s (by lia)]; lia⟩
      have := next (show (sim V F C n _ c hd dd κ (k (ad st.τ st.nt)) ⟨st.σ, st.nx, st.τ, st.nt + 1, st.T⟩).den from H) (p' := p) D'
      rw [← D.tok] at this
      exact this
    | ask k =>
      rw [Sem.wp_ask]
      have H : (hAsk V k (sim V F C n) C ⟨l, as, ts⟩ c hd dd κ st).den := H
      unfold hAsk at H
      cases e' : C.fk with
      | false => rw [e'] at H; exact next (show (sim V F C n _ c hd dd κ (k ⟨V.prog, V.w.params⟩) st).den from H) D
      | true =>
        rw [e'] at H
        cases l with
        | nil => exact (show False from H).elim
        | cons m l =>
          cases m with
          | zero => exact next (show (sim V F C n ⟨l, as, ts⟩ c hd dd κ (k ⟨V.prog, V.w.params⟩) st).den from H) D
          | succ m =>
            have H : (adv V st m (k ⟨V.prog, (V.w.withFollow "special-get-raises" true).params⟩) l fun t1 l => adv V st m (k ⟨V.prog, (V.w.withFollow "special-get-raises" false).params⟩) l fun t2 l => .eqT t1 t2 (sim V F C n ⟨l, as, ts⟩ c hd dd κ t1 st)).den := H
            obtain ⟨t1, l1, H, r1⟩ := adv_sound (g := g) (dr := dr) (os := os) (Γ := Γ) (Q := Q) (E := E) D H
            obtain ⟨t2, l2, H, r2⟩ := adv_sound (g := g) (dr := dr) (os := os) (Γ := Γ) (Q := Q) (E := E) D H
            obtain ⟨e2, H⟩ := (show t1 = t2 ∧ (sim V F C n ⟨l2, as, ts⟩ c hd dd κ t1 st).den from H)
            have H1 : ∀ p, Sem.wp V.M Γ t1 Q E p ⟨h, g, dr, tk, os⟩ := fun p => next H D
            show Sem.wp V.M Γ (k ⟨V.prog, V.w.params⟩) Q E p ⟨h, g, dr, tk, os⟩
            cases e3 : V.w.params.followText "special-get-raises" with
            | true => rw [← params_follow V.w _ true e3]; exact r1 H1 p
            | false => rw [← params_follow V.w _ false e3]; exact r2 (e2 ▸ H1) p
    | call c' h' gd l k =>
      rw [Sem.wp_call]
      exact call_sound O A I (show (hCall V F c' h' k (sim V F C n) C _ c hd dd κ st).den from H) e D hh hb hw K
    | handled own k =>
      rw [Sem.wp_handled]
      obtain ⟨h1, H⟩ := bfT (show (bf 17 (not own) _).den from H)
      cases own with
      | true => cases h1
      | false =>
        show Sem.wp V.M Γ (k Γ.handled) _ _ _ _
        rw [hh]; exact next H D
    | stack k =>
      rw [Sem.wp_stack]
      obtain ⟨below, ps, q⟩ := K.stack
      have H : ∀ (p : Pos) (ps : Nat → Pos) (below : List (Code × Pos)), (sim V F C n _ c hd dd κ (k ((c, p) :: kst below κ ps)) st).den := H
      rw [q, e]
      exact next (H p ps below) D
    | unsupported w => exact (show False from H).elim
    | finish w => exact (show False from H).elim
    | register a k => exact (show False from H).elim
    | choose a n k => exact (show False from H).elim
    | os a n k => exact (show False from H).elim
    | newGen a k => exact (show False from H).elim
    | genState a k => exact (show False from H).elim
    | resume a b c k => exact (show False from H).elim
    | yield a b c k => exact (show False from H).elim
    | fork a k => exact (show False from H).elim
    | thread k => exact (show False from H).elim
    | await a b c d k => exact (show False from H).elim
end
end Mine
end

noncomputable section
open PySem PySem.W PySem.W.X PyProof.Rows
set_option maxRecDepth 100000
namespace Mine
theorem preT_get {j : Nat} {o : Obj} : ∀ {m : Mem} {i : Nat} {T : KT}, i + m.length ≤ 1000 → (preT m i T).get j = some o → T.get j = some o ∨ ∃ (x : Nat) (hx : x < m.length), j = i + x ∧ (m[x]'hx).2 = o
  | [], _, _, _, e => .inl e
  | q :: m, i, T, h, e => by
    rw [List.length_cons] at h
    rcases preT_get (m := m) (i := i + 1) (T := kput 40 T i (some q.2)) (by lia) e with e | ⟨x, hx, e1, e2⟩
    · rw [put_get (by lia)] at e
      by_cases w : j = i
      · rw [if_pos w] at e
        cases e
        exact .inr ⟨0, Nat.zero_lt_succ _, w, rfl⟩
      · rw [if_neg w] at e; exact .inl e
    · exact .inr ⟨x + 1, Nat.succ_lt_succ hx, by lia, e2⟩
theorem startB_holds {fk : Bool} {N : NF} {V : Vn} {F : Code → Option (Dp V)} (O : VOk V) {S : Spec} (fuel : Nat) (hs : Hs) (H : ∀ m t, (startB V F fk N S fuel hs (m + V.lim) t).one = (startB V F fk N S fuel hs (m + V.lim) t).two) : S.Holds V := by
  intro Γ p h g d t os hc hh hb hl A
  have hn : h.objs.size = (h.objs.size - V.lim) + V.lim := by have := A.lim; lia
  obtain ⟨hB, H⟩ := bfT (Ob.den_of (H (h.objs.size - V.lim) t))
  rw [← hn] at H
  obtain ⟨b1, b2⟩ := andT hB
  obtain ⟨b2, b3⟩ := andT b2
  have b3 := ble_iff b3
  rw [lenL_eq] at b3
  have lenE : (S.pre.map (·.1)).length = S.pre.length := List.length_map ..
  have addr : ∀ s (hs : s < S.pre.length), ad (blocks [] 0 h.objs.size (S.pre.map (·.1))) s = (S.pre[s]'hs).1 := fun s hs => by
    have := blocks_new (n' := h.objs.size) (σ := []) (nx := 0) (as := S.pre.map (·.1)) (i := s) (by rw [lenE]; exact hs)
    rw [Nat.zero_add] at this
    rw [this, nth_get (by rw [lenE]; exact hs), List.getElem_map]
  have D : Rp V ⟨lenL S.pre, S, fk, N⟩ h (st₀ S h.objs.size t) h t := by
    unfold st₀
    rw [lenL_eq, fsts_eq]
    have endA : ∀ s, S.pre.length ≤ s → ad (blocks [] 0 h.objs.size (S.pre.map (·.1))) s = h.objs.size + (s - S.pre.length) := fun s hs => by
      rw [blocks_end (by rw [lenE]; lia), lenE, Nat.zero_add]
    refine ⟨?_, fun s hs => ?_, fun s hs => ?_, fun s s' a b => ?_, fun s hs => ?_, fun s a b => absurd b (Nat.not_lt_of_le a), fun s hs => ?_, fun s o e => ?_, A.kt, fun b o e _ => e, ?_, Nat.le_refl _, Nat.le_refl _, ?_, fun s _ => ?_⟩
    · show _ = ad _ S.pre.length
      rw [endA _ (Nat.le_refl _), Nat.sub_self]; rfl
    · show ad _ s = ad _ S.pre.length + (s - S.pre.length)
      rw [endA _ (Nat.le_refl _), endA s hs, Nat.sub_self]; rfl
    · have hs : s < S.pre.length := hs
      show ad _ s < _
      rw [addr s hs]
      exact Heap.lt_size (A.mem _ (List.getElem_mem hs))
    · have b : s' < S.pre.length := b
      show ad _ s ≠ ad _ s'
      rw [addr s (Nat.lt_trans a b), addr s' b]
      have := List.pairwise_iff_getElem.1 A.apart s s' (by rw [lenE]; exact Nat.lt_trans a b) (by rw [lenE]; exact b) a
      rw [List.getElem_map, List.getElem_map] at this
      exact this
    · have hs : s < S.pre.length := hs
      show V.kt.get (ad _ s) = none
      rw [addr s hs]
      exact A.off _ (List.getElem_mem hs)
    · have hs : s < S.pre.length := hs
      show ad _ s = nth (fsts S.pre) s
      rw [addr s hs, fsts_eq, nth_get (by rw [lenE]; exact hs), List.getElem_map]
    · rcases preT_get (m := S.pre) (i := 0) (T := .nil) (by lia) e with e | ⟨x, hx, e1, e2⟩
      · cases e
      · rw [Nat.zero_add] at e1
        subst e1
        refine ⟨hx, ?_⟩
        show h.get? (ad _ s) = some o
        rw [addr s hx, ← e2]
        exact A.mem _ (List.getElem_mem hx)
    · show S.pre.length ≤ _
      lia
    · show t = ad [(0, t)] 0
      rw [ad_cons, if_pos (Nat.le_refl _)]; rfl
    · show ad [(0, t)] s = ad [(0, t)] 0 + (s - 0)
      rw [ad_cons, ad_cons, if_pos (Nat.zero_le _), if_pos (Nat.zero_le _)]; rfl
  have I := sim_sound (F := F) (C := ⟨lenL S.pre, S, fk, N⟩) (g := g) (dr := d) (os := os) O rfl A fuel
  have b2 := ble_iff b2
  obtain ⟨r, s', hr, as, ts, e1, e2, e3, e4, e5⟩ := code_sound O I H b1 (by lia) hc D hh hb (.base hl) (p := p)
  obtain ⟨h', g', d', t', os'⟩ := s'
  cases e3; cases e4; cases e5
  rw [e1] at hr
  exact ⟨as, ts, h', t', hr, e2⟩
theorem start_holds {V : Vn} {F : Code → Option (Dp V)} (O : VOk V) {S : Spec} (fuel : Nat) (hs : Hs) (H : ∀ m t, (start V F S fuel hs (m + V.lim) t).one = (start V F S fuel hs (m + V.lim) t).two) : S.Holds V := startB_holds (fk := false) O fuel hs H
end Mine
end

noncomputable section
open PySem PySem.W PySem.W.X PyProof.Rows
set_option maxRecDepth 1000000
set_option maxHeartbeats 0
namespace Mine
noncomputable def fV (v : Value) (K : Value → Ob) : Ob := Value.rec (motive := fun _ => Ob) (K .none) (K .ellipsis) (K .notImplemented) (fun b => K (.bool b)) (fun i t => K (.int i t)) (fun b t => K (.float b t)) (fun s t => K (.str s t)) (fun b t => K (.bytes b t)) (fun n => K (.type n)) (fun i => K (.builtin i)) (fun a => K (.ref a)) v
theorem fV_eq (v : Value) (K : Value → Ob) : fV v K = K v := by cases v <;> rfl
noncomputable def fVs (l : List Value) : (List Value → Ob) → Ob := List.rec (motive := fun _ => (List Value → Ob) → Ob) (fun K => K []) (fun v _ ih K => fV v fun v => ih fun l => K (v :: l)) l
theorem fVs_eq : ∀ (l : List Value) (K : List Value → Ob), fVs l K = K l
  | [], _ => rfl
  | v :: l, K => by
    show (fV v fun v => fVs l fun l => K (v :: l)) = _
    rw [fV_eq, fVs_eq l]
noncomputable def fE (e : DictEntry) (K : DictEntry → Ob) : Ob := DictEntry.rec (motive := fun _ => Ob) (fun h k v => fV k fun k => fV v fun v => K ⟨h, k, v⟩) e
theorem fE_eq (e : DictEntry) (K : DictEntry → Ob) : fE e K = K e := by
  cases e; show (fV _ fun k => fV _ fun v => K _) = _; rw [fV_eq, fV_eq]
noncomputable def fEs (l : List DictEntry) : (List DictEntry → Ob) → Ob := List.rec (motive := fun _ => (List DictEntry → Ob) → Ob) (fun K => K []) (fun v _ ih K => fE v fun v => ih fun l => K (v :: l)) l
theorem fEs_eq : ∀ (l : List DictEntry) (K : List DictEntry → Ob), fEs l K = K l
  | [], _ => rfl
  | v :: l, K => by
    show (fE v fun v => fEs l fun l => K (v :: l)) = _
    rw [fE_eq, fEs_eq l]
noncomputable def fOV (v : Option Value) (K : Option Value → Ob) : Ob := Option.rec (motive := fun _ => Ob) (K none) (fun v => fV v fun v => K (some v)) v
theorem fOV_eq (v : Option Value) (K : Option Value → Ob) : fOV v K = K v := by
  cases v
  · rfl
  · show (fV _ fun v => K _) = _; rw [fV_eq]
noncomputable def fSl (l : List (Option Value)) : (List (Option Value) → Ob) → Ob := List.rec (motive := fun _ => (List (Option Value) → Ob) → Ob) (fun K => K []) (fun v _ ih K => Option.rec (motive := fun _ => Ob) (ih fun l => K (none :: l)) (fun v => ih fun l => K (some v :: l)) v) l
theorem fSl_eq : ∀ (l : List (Option Value)) (K : List (Option Value) → Ob), fSl l K = K l
  | [], _ => rfl
  | none :: l, K => fSl_eq l fun l => K (none :: l)
  | some v :: l, K => fSl_eq l fun l => K (some v :: l)
noncomputable def fD (b : Bool) (d : Data) (K : Data → Ob) : Ob := Data.rec (motive := fun _ => Ob) (K .plain) (fun v => K (.prim v)) (fun xs n => Array.rec (motive := fun _ => Ob) (fun l => fVs l fun l => K (.seq ⟨l⟩ n)) xs)
  (fun es n => Bool.rec (motive := fun _ => Ob) (Array.rec (motive := fun _ => Ob) (fun l => fEs l fun l => K (.dict ⟨l⟩ n)) es) (K (.dict es n)) b)
  (fun es n t => K (.set es n t)) (fun b n => K (.bytearray b n)) (fun v => fOV v fun v => K (.cell v)) (fun f => K (.func f)) (fun c => K (.cls c)) (fun xs => Array.rec (motive := fun _ => Ob) (fun l => Bool.rec (motive := fun _ => Ob) (fVs l fun l => K (.fields ⟨l⟩)) (K (.fields ⟨l⟩)) (Nat.beq (lenL l) 11)) xs) (K .freed) d
theorem fD_eq (b : Bool) (d : Data) (K : Data → Ob) : fD b d K = K d := by
  cases d with
  | seq xs n => obtain ⟨l⟩ := xs; exact fVs_eq l (fun l => K (.seq ⟨l⟩ n))
  | dict es n =>
    cases b with
    | false => obtain ⟨l⟩ := es; exact fEs_eq l _
    | true => rfl
  | cell v => exact fOV_eq v (fun v => K (.cell v))
  | fields xs =>
    obtain ⟨l⟩ := xs
    show (Bool.rec (motive := fun _ => Ob) (fVs l fun l => K (.fields ⟨l⟩)) (K (.fields ⟨l⟩)) (Nat.beq (lenL l) 11) : Ob) = _
    cases Nat.beq (lenL l) 11
    · exact fVs_eq l fun l => K (.fields ⟨l⟩)
    · rfl
  | _ => rfl
noncomputable def fO (o : Obj) (K : Obj → Ob) : Ob := Obj.rec (motive := fun _ => Ob) (fun c d dt sl => fV c fun c => Array.rec (motive := fun _ => Ob) (fun l => fSl l fun l => fD (List.rec (motive := fun _ => Bool) false (fun _ _ _ => true) l) dt fun dt => Option.rec (motive := fun _ => Ob) (K ⟨c, none, dt, ⟨l⟩⟩) (fun a => K ⟨c, some a, dt, ⟨l⟩⟩) d) sl) o
theorem fO_eq (o : Obj) (K : Obj → Ob) : fO o K = K o := by
  obtain ⟨c, d, dt, ⟨l⟩⟩ := o
  show (fV c fun c => fSl l fun l => fD (List.rec (motive := fun _ => Bool) false (fun _ _ _ => true) l) dt fun dt => Option.rec (motive := fun _ => Ob) (K ⟨c, none, dt, ⟨l⟩⟩) (fun a => K ⟨c, some a, dt, ⟨l⟩⟩) d) = K ⟨c, d, dt, ⟨l⟩⟩
  rw [fV_eq, fSl_eq, fD_eq]
  cases d <;> rfl
noncomputable def fOO (o : Option Obj) (K : Option Obj → Ob) : Ob := Option.rec (motive := fun _ => Ob) (K none) (fun v => fO v fun v => K (some v)) o
theorem fOO_eq (v : Option Obj) (K : Option Obj → Ob) : fOO v K = K v := by
  cases v
  · rfl
  · show (fO _ fun v => K _) = _; rw [fO_eq]
noncomputable def fOOb (b : Bool) (o : Option Obj) (K : Option Obj → Ob) : Ob := Bool.rec (motive := fun _ => Ob) (fOO o K) (Option.rec (motive := fun _ => Ob) (K none) (fun v => K (some v)) o) b
theorem fOOb_eq (b : Bool) (v : Option Obj) (K : Option Obj → Ob) : fOOb b v K = K v := by
  cases b
  · exact fOO_eq v K
  · cases v <;> rfl
noncomputable def putF (T : KT) (R : List Nat) (kp : List Nat) : Nat → List (Option Obj) → (KT → Ob) → Ob := List.rec (motive := fun _ => Nat → List (Option Obj) → (KT → Ob) → Ob) (fun _ _ K => K T) (fun k _ ih i m K => List.rec (motive := fun _ => Ob) (K T) (fun q m _ => fOOb (inB i R) q fun q => ih (i + 1) m fun T => K (kput 40 T k q)) m) kp
theorem putF_eq (T : KT) (R : List Nat) : ∀ (kp : List Nat) (i : Nat) (m : List (Option Obj)) (K : KT → Ob), putF T R kp i m K = K (putL T kp m)
  | [], _, _, _ => rfl
  | k :: kp, _, [], _ => rfl
  | k :: kp, i, q :: m, K => by
    show (fOOb (inB i R) q fun q => putF T R kp (i + 1) m fun T => K (kput 40 T k q)) = _
    rw [fOOb_eq, putF_eq T R kp (i + 1) m]; rfl
noncomputable def specF (L : Nat) (C : Cf) (have_ : Option (List Env × Bool)) (S : Spec) (ks l as ts : List Nat) (d : Nat) (hd : Option Value) (c' : Code) (st : St) (go : List Nat → List Nat → Hs → St → Ob) : Ob :=
  Option.rec (motive := fun _ => Ob)
    (.eqC c' S.code (belOk S.bel have_ (preOk st S.pre ks (needOk C.N.l st.σ st.τ C.S.need S.need l fun l => bf 8 (and (Nat.ble d S.dep) (and (nodupB ks) (and (Nat.blt (st.nx + S.na) 1000000) (and (allB (fun i => Nat.blt i (lenL ks)) S.touch) (allB (fun k => or (Nat.ble C.s₀ k) (inB k C.upd)) (sel ks S.touch))))))
      (allN L S.na fun bs => allN 0 S.nt fun us => .all fun n' => .all fun t' => bf 9 (and (Nat.beq (lenL (S.postT bs us)) (lenL S.touch)) (Nat.beq (lenL (S.postN bs us)) S.na))
        (putF st.T S.rawQ (app (sel ks S.touch) (iota S.na st.nx)) 0 (appO (S.postT bs us) (S.postN bs us)) fun T' => go bs us ⟨l, as, ts⟩ ⟨blocks st.σ st.nx (n' + L) bs, st.nx + S.na, blocks st.τ st.nt t' us, st.nt + S.nt, T'⟩))))))
    (fun _ => .stop 8 0) hd
theorem specF_eq : @specF = @spec := by
  funext L C have_ S ks l as ts d hd c' st go
  unfold specF spec
  simp only [putF_eq]
noncomputable def specDF {V : Vn} (C : Cf) (have_ : Option (List Env × Bool)) (D : Dp V) (hs : Hs) (d : Nat) (hd : Option Value) (c' : Code) (st : St) (go : Spec → List Nat → List Nat → Hs → St → Ob) : Ob :=
  slotsDyn st D.k hs.l fun ks as os l => List.rec (motive := fun _ => Ob) (.stop 5 0) (fun alt l _ => Option.rec (motive := fun _ => Ob) (.stop 5 1) (fun S => specF V.lim C have_ S.S ks l hs.as hs.ts d hd c' st (go S.S)) (D.get as os alt)) l
theorem specDF_eq : @specDF = @specD := by
  funext V C have_ D hs d hd c' st go
  unfold specDF specD
  rw [specF_eq]
section
variable (V : Vn) (F : Code → Option (Dp V))
noncomputable def hCallF (c' : Code) (h : Option Value) (k : Result → Sem PySem.Fin) : Hd := fun ih C hs c hd d κ st => Option.rec (motive := fun _ => Ob) (inl c' h k ih C hs c hd d κ st)
  (fun D => Option.rec (motive := fun _ => Ob) (specDF C (kenvs C.S.bel (.ret c hd d k κ)) D hs (d + 5) hd c' st fun S as ts hs st' => ih hs c hd d κ (k (S.res as ts)) st') (fun _ => .stop 8 1) h) (F c')
theorem hCallF_eq : hCallF V F = hCall V F := by
  funext c' h k
  unfold hCallF hCall
  rw [specDF_eq]
noncomputable def hAgainF (c' : Code) : Hd := fun ih C hs c hd d κ st => Option.rec (motive := fun _ => Ob) (tail c' ih C hs c hd d κ st)
  (fun D => bf 12 (and (okC c') c'.quiet) (specDF C (kenvs C.S.bel κ) D hs d hd c' st fun S as ts hs st' => retH (S.res as ts) ih C hs c hd d κ st')) (F c')
theorem hAgainF_eq : hAgainF V F = hAgain V F := by
  funext c'
  unfold hAgainF hAgain
  rw [specDF_eq]
noncomputable def hFinF (f : PySem.Fin) : Hd := PySem.Fin.rec (motive := fun _ => Hd) (fun fl => retH (.ok fl)) (fun c => hAgainF V F c) f
theorem hFinF_eq : hFinF V F = hFin V F := by
  unfold hFinF hFin
  rw [hAgainF_eq]
noncomputable def hPureF (f : PySem.Fin) : Hd := fun ih C hs c hd d κ st => Kn.rec (motive := fun _ => Ob) (hFinF V F f ih C hs c hd d .base st) (fun c1 hd1 d1 k κ' _ => hFinF V F f ih C hs c hd d (.ret c1 hd1 d1 k κ') st)
  (fun k κ' _ => hTr (k f) ih C hs c hd d κ' st) (fun _ _ r => r) κ
theorem hPureF_eq : hPureF V F = hPure V F := by
  unfold hPureF hPure
  rw [hFinF_eq]
noncomputable def hUpdF (a : Addr) (f : Obj → Obj) (k : Unit → Sem PySem.Fin) : Hd := fun ih C hs c hd d κ st => List.rec (motive := fun _ => Ob)
  (.stop 14 0)
  (fun s r _ => Nat.rec (motive := fun _ => Ob) (.stop 14 1)
    (fun s _ => .eqN a (ad st.σ s) (bf 14 (or (Nat.ble C.s₀ s) (inB s C.upd)) (ob (st.T.get s) fun o => fO (f o) fun o => bf 15 (not o.isFreed) (ih ⟨r, hs.as, hs.ts⟩ c hd d κ (k ()) ⟨st.σ, st.nx, st.τ, st.nt, kput 40 st.T s (some o)⟩)))) s) hs.l
theorem hUpdF_eq : hUpdF = hUpd := by
  funext a f k ih C hs c hd d κ st
  unfold hUpdF hUpd
  simp only [fO_eq]
noncomputable def hAllocF (o : Obj) (k : Addr → Sem PySem.Fin) : Hd := fun ih _ hs c hd d κ st => fO o fun o => bf 16 (and (not o.isFreed) (Nat.blt st.nx 1000000)) (ih hs c hd d κ (k (ad st.σ st.nx)) ⟨st.σ, st.nx + 1, st.τ, st.nt, kput 40 st.T st.nx (some o)⟩)
theorem hAllocF_eq : hAllocF = hAlloc := by
  funext o k ih C hs c hd d κ st
  unfold hAllocF hAlloc
  simp only [fO_eq]
noncomputable def dispF (t : Sem PySem.Fin) : Hd := Sem.rec (motive := fun _ => Hd)
  (fun a => hPureF V F a) (fun e => hRaise e) (fun _ => hNay 30) (fun _ => hNay 31) (fun _ k _ => hSkip k) (fun _ k _ => hSkip k)
  (fun a _ k _ => hLoad V a k) (fun a _ f k _ => hUpdF a f k) (fun o k _ => hAllocF o k) (fun a k _ => hLoad V a fun o => k (some o)) (fun _ k _ => hSkip k) (fun _ _ _ => hNay 32)
  (fun k _ => hFresh k) (fun k _ => hAsk V k) (fun _ _ _ _ => hNay 33) (fun _ _ _ _ => hNay 34) (fun c h _ _ k _ => hCallF V F c h k) (fun own k _ => hHandled own k)
  (fun _ _ _ => hNay 35) (fun _ _ _ => hNay 36) (fun _ _ _ _ _ => hNay 37) (fun _ _ _ _ _ => hNay 38) (fun k _ => hStack k) (fun _ _ _ => hNay 39) (fun _ _ => hNay 40) (fun _ _ _ _ _ _ => hNay 41) t
theorem dispF_eq : dispF V F = disp V F := by
  unfold dispF disp
  rw [hPureF_eq, hUpdF_eq, hAllocF_eq, hCallF_eq]
noncomputable def simF (C : Cf) (n : Nat) : Go := Nat.rec (motive := fun _ => Go) (fun _ _ _ _ _ _ _ => .stop 50 0) (fun _ ih hs c hd d κ t st => dispF V F t ih C hs c hd d κ st) n
theorem simF_eq : simF V F = sim V F := by
  unfold simF sim
  rw [dispF_eq]
noncomputable def fOb (b : Bool) (o : Obj) (K : Obj → Ob) : Ob := Bool.rec (motive := fun _ => Ob) (fO o K) (K o) b
theorem fOb_eq (b : Bool) (v : Obj) (K : Obj → Ob) : fOb b v K = K v := by
  cases b
  · exact fO_eq v K
  · rfl
noncomputable def preF (R : List Nat) (m : Mem) : Nat → KT → (KT → Ob) → Ob := List.rec (motive := fun _ => Nat → KT → (KT → Ob) → Ob) (fun _ T K => K T) (fun q _ ih i T K => Prod.rec (motive := fun _ => Ob) (fun _ q2 => fOb (inB i R) q2 fun o => ih (i + 1) (kput 40 T i (some o)) K) q) m
theorem preF_eq (R : List Nat) : ∀ (m : Mem) (i : Nat) (T : KT) (K : KT → Ob), preF R m i T K = K (preT m i T)
  | [], _, _, _ => rfl
  | q :: m, i, T, K => by
    show (fOb (inB i R) q.2 fun o => preF R m (i + 1) (kput 40 T i (some o)) K) = _
    rw [fOb_eq, preF_eq R m]; rfl
noncomputable def startF (N : NF) (S : Spec) (fuel : Nat) (hs : Hs) (n t : Nat) : Ob :=
  bf 51 (and (okC S.code) (and (Nat.ble S.dep 900) (Nat.ble (lenL S.pre) 1000))) (preF S.rawP S.pre 0 .nil fun T => hTr (enterTree S.code) (simF V F ⟨lenL S.pre, S, true, N⟩ fuel) ⟨lenL S.pre, S, true, N⟩ hs S.code none S.dep .base ⟨blocks [] 0 n (fsts S.pre), lenL S.pre, [(0, t)], 0, T⟩)
theorem startF_start : startF V F = startB V F true := by
  funext N S fuel hs n t
  unfold startF startB st₀
  simp only [preF_eq, simF_eq]
end
theorem startF_rfl : @startF = @startF := rfl
theorem startF_holds {V : Vn} {F : Code → Option (Dp V)} (O : VOk V) (N : NF) {S : Spec} (fuel : Nat) (hs : Hs) (H : ∀ m t, (startF V F N S fuel hs (m + V.lim) t).one = (startF V F N S fuel hs (m + V.lim) t).two) : S.Holds V :=
  startB_holds (fk := true) (N := N) (F := F) O fuel hs (by rw [← startF_start]; exact H)
end Mine
lay_z Mine.startF
name_z startFZ for Mine.startF by Mine.startF_rfl
namespace Mine
theorem sS {V : Vn} {F : Code → Option (Dp V)} (O : VOk V) {S : Spec} (fuel : Nat) (hs : Hs) (H : ∀ m t, (PySem.W.ZFast.startZ V F S fuel hs (m + V.lim) t).one = (PySem.W.ZFast.startZ V F S fuel hs (m + V.lim) t).two) : S.Holds V := start_holds (F := F) O fuel hs fun m t => by
  rw [PySem.W.ZFast.startZ_eq]
  exact H m t
theorem sN {V : Vn} {F : Code → Option (Dp V)} (O : VOk V) (N : NF) {S : Spec} (fuel : Nat) (hs : Hs) (H : ∀ m t, (PySem.W.ZFast.startFZ V F N S fuel hs (m + V.lim) t).one = (PySem.W.ZFast.startFZ V F N S fuel hs (m + V.lim) t).two) : S.Holds V :=
  startF_holds (F := F) O N fuel hs fun m t => by
    rw [PySem.W.ZFast.startFZ_eq]
    exact H m t
theorem sF {V : Vn} {F : Code → Option (Dp V)} (O : VOk V) {S : Spec} (fuel : Nat) (hs : Hs) (H : ∀ m t, (PySem.W.ZFast.startFZ V F NF.nil S fuel hs (m + V.lim) t).one = (PySem.W.ZFast.startFZ V F NF.nil S fuel hs (m + V.lim) t).two) : S.Holds V := sN O NF.nil fuel hs H
end Mine
end

noncomputable section
open PySem PySem.W PySem.W.X PyProof.Rows
set_option maxRecDepth 1000000
set_option maxHeartbeats 0
namespace Mine
noncomputable def topT (tb : String → Option Builtin) (p : Program) (w : World) (n₀ : Nat) (ann : Option Value) : Nat → SharedT → Thread → Option SharedT
  | 0, _, _ => none
  | n + 1, s, t => match through t with
    | true => some s
    | false => match stepOk n₀ ann t with
      | false => none
      | true => match stepT (denote tb) p w s t with
        | some (s', t') => topT tb p w n₀ ann n s' t'
        | none => none
theorem topT_of {tb : String → Option Builtin} {p : Program} {w : World} {n₀ : Nat} {ann : Option Value} : ∀ {n : Nat} {s s' : SharedT} {t : Thread}, topT tb p w n₀ ann n s t = some s' → topRun tb p w n₀ ann n s.abs t = some s'.abs
  | 0, _, _, _, h => by cases h
  | n + 1, s, s', t, h => by
    unfold topT at h
    unfold topRun
    cases ht : through t with
    | true => rw [ht] at h; cases h; rfl
    | false =>
      rw [ht] at h
      cases hk : stepOk n₀ ann t with
      | false => rw [hk] at h; cases h
      | true =>
        rw [hk] at h
        cases hs : stepT (denote tb) p w s t with
        | none => rw [hs] at h; cases h
        | some r => obtain ⟨s₂, t₂⟩ := r; rw [hs] at h; rw [stepT_spec hs]; exact topT_of h
theorem topRun_more {tb : String → Option Builtin} {p : Program} {w : World} {n₀ : Nat} {ann : Option Value} (k : Nat) : ∀ {n : Nat} {s r : Shared} {t : Thread}, topRun tb p w n₀ ann n s t = some r → topRun tb p w n₀ ann (n + k) s t = some r
  | 0, _, _, _, h => by cases h
  | n + 1, s, r, t, h => by
    rw [show n + 1 + k = n + k + 1 by lia]
    unfold topRun at h ⊢
    cases ht : through t with
    | true => rw [ht] at h; exact h
    | false =>
      rw [ht] at h
      cases hk : stepOk n₀ ann t with
      | false => rw [hk] at h; cases h
      | true =>
        rw [hk] at h
        cases hs : step (denote tb) p w s t with
        | halt o s₂ => rw [hs] at h; cases h
        | go s₂ t₂ => rw [hs] at h; exact topRun_more k h
noncomputable def seeT (T : BT) (as : List Addr) : List (Option Obj) := as.map fun a => (T.get a).bind alive
theorem seeT_get {s : SharedT} {as : List Addr} {vs : List Obj} (e : seeT s.tree as = vs.map some) (lt : (as.all fun a => Nat.blt a s.n) = true) : as.map s.abs.heap.get? = vs.map some := by
  rw [← e]
  unfold seeT
  refine List.map_congr_left fun a ha => ?_
  have hl : a < s.n := Nat.le_of_ble_eq_true (List.all_eq_true.mp lt a ha)
  obtain ⟨v, hv, q⟩ : ∃ v ∈ vs, (s.tree.get a).bind alive = some v := by
    have : (s.tree.get a).bind alive ∈ vs.map some := by rw [← e]; exact List.mem_map.mpr ⟨a, ha, rfl⟩
    obtain ⟨v, hv, q⟩ := List.mem_map.mp this
    exact ⟨v, hv, q.symm⟩
  cases g : s.tree.get a with
  | none => rw [g] at q; cases q
  | some o => exact abs_get hl g
theorem leftO_of {p q : Program} {loose : List Str} {N m₀ M n t : Nat} {ann : Option Value} {T₀ : Params → BT} {life : Life} {as : List Addr} {K : Params → Frag}
    (open_ : ∀ w : World, (fencedOpening treeTable p w N).map (fun s => (s.heap, s.gens, s.drawn, s.toks)) = some (boot_heap w.params, Array.mk [], boot_drawn, boot_toks))
    (h0 : ∀ P, boot_heap P = absHeap (T₀ P) m₀ life)
    (size : ∀ w : World, ((boot_heap w.params).isNs mainGlobals, (boot_heap w.params).objs.size, (boot_heap w.params).nsMap mainGlobals "__annotations__") = (true, m₀, ann))
    (run : ∀ (w : World) (os : OsState), (topT treeTable p w m₀ ann M ⟨T₀ w.params, m₀, life, Array.mk [], boot_drawn, boot_toks, os⟩ (topStub p)).map
        (fun s => (staticsOk (importedModules p.main.body) (boot_heap w.params) s.abs.heap && namesBound p s.abs.heap && gensDone s.abs && laidKept (boot_heap w.params) s.abs.heap,
          openSeen q loose (importedModules p.main.body) (fun _ => true) true s.abs, (as.all fun a => Nat.blt a s.n), seeT s.tree as, s.n, s.toks)) =
        some (true, openGood q loose, true, (K w.params).map fun x => some x.2, n, t))
    (le : Nat.ble M N = true) : LeftO p q loose (fun _ => true) (obsZ as) (valZ K n t) N := fun w => by
  obtain ⟨⟨h, gs, d, k, os⟩, e, e'⟩ := Option.map_eq_some_iff.mp (open_ w)
  obtain ⟨rfl, rfl, rfl, rfl⟩ : h = boot_heap w.params ∧ gs = Array.mk [] ∧ d = boot_drawn ∧ k = boot_toks := by simpa using e'
  obtain ⟨z1, z2, z3⟩ : _ ∧ _ ∧ _ := by simpa only [Prod.mk.injEq] using size w
  obtain ⟨s, hs, hv⟩ := Option.map_eq_some_iff.mp (run w os)
  obtain ⟨l1, l2, l3, l4, l5, l6⟩ : _ ∧ _ ∧ _ ∧ _ ∧ _ ∧ _ := by simpa only [Prod.mk.injEq] using hv
  have r := topRun_more (N - M) (topT_of hs)
  rw [show M + (N - M) = N by have := Nat.le_of_ble_eq_true le; lia] at r
  have r' : topRun treeTable p w m₀ ann N ⟨boot_heap w.params, Array.mk [], boot_drawn, boot_toks, os⟩ (topStub p) = some s.abs := by rw [h0]; exact r
  have tf : topFrom treeTable p w N ⟨boot_heap w.params, Array.mk [], boot_drawn, boot_toks, os⟩ = some s.abs := by
    unfold topFrom
    dsimp only
    rw [z1, z2, z3, r']
    show (match staticsOk (importedModules p.main.body) (boot_heap w.params) s.abs.heap && namesBound p s.abs.heap && gensDone s.abs && laidKept (boot_heap w.params) s.abs.heap with | true => _ | false => _) = _
    rw [l1]
  unfold openEnds
  rw [e]
  show (topFrom treeTable p w N _).map _ = _
  rw [tf]
  refine congrArg some (Prod.ext l2 ?_)
  show (as.map s.abs.heap.get?, s.abs.heap.objs.size, s.abs.toks) = ((K w.params).map fun p => some p.2, n, t)
  have l4' : seeT s.tree as = ((K w.params).map (·.2)).map some := by rw [l4, List.map_map]; rfl
  rw [seeT_get l4' l3, List.map_map]
  refine Prod.ext rfl (Prod.ext ?_ l6)
  show (absHeap s.tree s.n s.life).objs.size = n
  rw [absHeap_size]; exact l5
noncomputable abbrev kE (P : Params) (s : Str) (t : Nat) (v : Value) : DictEntry := ⟨PyData.keyHash P s, .str s t, v⟩
abbrev pw : Program := PySem.Challenge.pw_pq0686_02
noncomputable def noS : Stmt := .Pass ⟨0,0,0,0⟩
noncomputable def stm (i : Nat) : Stmt := pw.main.body.getD i noS
noncomputable def sub (s : Stmt) (j : Nat) : Stmt := match s with
  | .ClassDef _ _ _ b .. => b.getD j noS
  | .FunctionDef _ _ b .. => b.getD j noS
  | _ => noS
noncomputable def fn (s : Stmt) (qual : Str) (dflt kw mod code : Value) (g b : Addr) : Data := match s with
  | .FunctionDef name args body _ _ _ scope _ _ _ => .func { name := name, qualname := qual, params := args, body := .stmts body, scope := scope, globals := g, closure := [], defaults := dflt, kwdefaults := kw, pyModule := mod, code := code, builtins := b }
  | _ => .freed
noncomputable def o0 (P : Params) : Obj := { cls := .type "dict", dict := none, data := .dict #[kE P ⟨#[95,95,110,97,109,101,95,95]⟩ 1 (.str ⟨#[98,117,105,108,116,105,110,115]⟩ 160), kE P ⟨#[95,95,100,111,99,95,95]⟩ 2 (.builtin "builtins.__doc__:str#opaque"), kE P ⟨#[95,95,112,97,99,107,97,103,101,95,95]⟩ 3 (.builtin "builtins.__package__:str#opaque"), kE P ⟨#[95,95,108,111,97,100,101,114,95,95]⟩ 4 (.builtin "builtins.__loader__:shared#opaque"), kE P ⟨#[95,95,115,112,101,99,95,95]⟩ 5 (.builtin "builtins.__spec__#opaque"), kE P ⟨#[95,95,98,117,105,108,100,95,99,108,97,115,115,95,95]⟩ 6 (.builtin "__build_class__"), kE P ⟨#[95,95,105,109,112,111,114,116,95,95]⟩ 7 (.builtin "__import__"), kE P ⟨#[97,98,115]⟩ 8 (.builtin "abs"), kE P ⟨#[97,108,108]⟩ 9 (.builtin "all"), kE P ⟨#[97,110,121]⟩ 10 (.builtin "any"), kE P ⟨#[97,115,99,105,105]⟩ 11 (.builtin "ascii"), kE P ⟨#[98,105,110]⟩ 12 (.builtin "bin"), kE P ⟨#[98,114,101,97,107,112,111,105,110,116]⟩ 13 (.builtin "breakpoint"), kE P ⟨#[99,97,108,108,97,98,108,101]⟩ 14 (.builtin "callable"), kE P ⟨#[99,104,114]⟩ 15 (.builtin "chr"), kE P ⟨#[99,111,109,112,105,108,101]⟩ 16 (.builtin "compile"), kE P ⟨#[100,101,108,97,116,116,114]⟩ 17 (.builtin "delattr"), kE P ⟨#[100,105,114]⟩ 18 (.builtin "dir"), kE P ⟨#[100,105,118,109,111,100]⟩ 19 (.builtin "divmod"), kE P ⟨#[101,118,97,108]⟩ 20 (.builtin "eval"), kE P ⟨#[101,120,101,99]⟩ 21 (.builtin "exec"), kE P ⟨#[102,111,114,109,97,116]⟩ 22 (.builtin "format"), kE P ⟨#[103,101,116,97,116,116,114]⟩ 23 (.builtin "getattr"), kE P ⟨#[103,108,111,98,97,108,115]⟩ 24 (.builtin "globals"), kE P ⟨#[104,97,115,97,116,116,114]⟩ 25 (.builtin "hasattr"), kE P ⟨#[104,97,115,104]⟩ 26 (.builtin "hash"), kE P ⟨#[104,101,120]⟩ 27 (.builtin "hex"), kE P ⟨#[105,100]⟩ 28 (.builtin "id"), kE P ⟨#[105,110,112,117,116]⟩ 29 (.builtin "input"), kE P ⟨#[105,115,105,110,115,116,97,110,99,101]⟩ 30 (.builtin "isinstance"), kE P ⟨#[105,115,115,117,98,99,108,97,115,115]⟩ 31 (.builtin "issubclass"), kE P ⟨#[105,116,101,114]⟩ 32 (.builtin "iter"), kE P ⟨#[97,105,116,101,114]⟩ 33 (.builtin "aiter"), kE P ⟨#[108,101,110]⟩ 34 (.builtin "len"), kE P ⟨#[108,111,99,97,108,115]⟩ 35 (.builtin "locals"), kE P ⟨#[109,97,120]⟩ 36 (.builtin "max"), kE P ⟨#[109,105,110]⟩ 37 (.builtin "min"), kE P ⟨#[110,101,120,116]⟩ 38 (.builtin "next"), kE P ⟨#[97,110,101,120,116]⟩ 39 (.builtin "anext"), kE P ⟨#[111,99,116]⟩ 40 (.builtin "oct"), kE P ⟨#[111,114,100]⟩ 41 (.builtin "ord"), kE P ⟨#[112,111,119]⟩ 42 (.builtin "pow"), kE P ⟨#[112,114,105,110,116]⟩ 43 (.builtin "print"), kE P ⟨#[114,101,112,114]⟩ 44 (.builtin "repr"), kE P ⟨#[114,111,117,110,100]⟩ 45 (.builtin "round"), kE P ⟨#[115,101,116,97,116,116,114]⟩ 46 (.builtin "setattr"), kE P ⟨#[115,111,114,116,101,100]⟩ 47 (.builtin "sorted"), kE P ⟨#[115,117,109]⟩ 48 (.builtin "sum"), kE P ⟨#[118,97,114,115]⟩ 49 (.builtin "vars"), kE P ⟨#[78,111,110,101]⟩ 50 .none, kE P ⟨#[69,108,108,105,112,115,105,115]⟩ 51 (.ellipsis), kE P ⟨#[78,111,116,73,109,112,108,101,109,101,110,116,101,100]⟩ 52 (.notImplemented), kE P ⟨#[70,97,108,115,101]⟩ 53 (.bool false), kE P ⟨#[84,114,117,101]⟩ 54 (.bool true), kE P ⟨#[98,111,111,108]⟩ 55 (.type "bool"), kE P ⟨#[109,101,109,111,114,121,118,105,101,119]⟩ 56 (.type "memoryview"), kE P ⟨#[98,121,116,101,97,114,114,97,121]⟩ 57 (.type "bytearray"), kE P ⟨#[98,121,116,101,115]⟩ 58 (.type "bytes"), kE P ⟨#[99,108,97,115,115,109,101,116,104,111,100]⟩ 59 (.type "classmethod"), kE P ⟨#[99,111,109,112,108,101,120]⟩ 60 (.type "complex"), kE P ⟨#[100,105,99,116]⟩ 61 (.type "dict"), kE P ⟨#[101,110,117,109,101,114,97,116,101]⟩ 62 (.type "enumerate"), kE P ⟨#[102,105,108,116,101,114]⟩ 63 (.type "filter"), kE P ⟨#[102,108,111,97,116]⟩ 64 (.type "float"), kE P ⟨#[102,114,111,122,101,110,115,101,116]⟩ 65 (.type "frozenset"), kE P ⟨#[112,114,111,112,101,114,116,121]⟩ 66 (.type "property"), kE P ⟨#[105,110,116]⟩ 67 (.type "int"), kE P ⟨#[108,105,115,116]⟩ 68 (.type "list"), kE P ⟨#[109,97,112]⟩ 69 (.type "map"), kE P ⟨#[111,98,106,101,99,116]⟩ 70 (.type "object"), kE P ⟨#[114,97,110,103,101]⟩ 71 (.type "range"), kE P ⟨#[114,101,118,101,114,115,101,100]⟩ 72 (.type "reversed"), kE P ⟨#[115,101,116]⟩ 73 (.type "set"), kE P ⟨#[115,108,105,99,101]⟩ 74 (.type "slice"), kE P ⟨#[115,116,97,116,105,99,109,101,116,104,111,100]⟩ 75 (.type "staticmethod"), kE P ⟨#[115,116,114]⟩ 76 (.type "str"), kE P ⟨#[115,117,112,101,114]⟩ 77 (.type "super"), kE P ⟨#[116,117,112,108,101]⟩ 78 (.type "tuple"), kE P ⟨#[116,121,112,101]⟩ 79 (.type "type"), kE P ⟨#[122,105,112]⟩ 80 (.type "zip"), kE P ⟨#[95,95,100,101,98,117,103,95,95]⟩ 81 (.bool true), kE P ⟨#[66,97,115,101,69,120,99,101,112,116,105,111,110]⟩ 82 (.type "BaseException"), kE P ⟨#[66,97,115,101,69,120,99,101,112,116,105,111,110,71,114,111,117,112]⟩ 83 (.type "BaseExceptionGroup"), kE P ⟨#[69,120,99,101,112,116,105,111,110]⟩ 84 (.type "Exception"), kE P ⟨#[71,101,110,101,114,97,116,111,114,69,120,105,116]⟩ 85 (.type "GeneratorExit"), kE P ⟨#[75,101,121,98,111,97,114,100,73,110,116,101,114,114,117,112,116]⟩ 86 (.type "KeyboardInterrupt"), kE P ⟨#[83,121,115,116,101,109,69,120,105,116]⟩ 87 (.type "SystemExit"), kE P ⟨#[65,114,105,116,104,109,101,116,105,99,69,114,114,111,114]⟩ 88 (.type "ArithmeticError"), kE P ⟨#[65,115,115,101,114,116,105,111,110,69,114,114,111,114]⟩ 89 (.type "AssertionError"), kE P ⟨#[65,116,116,114,105,98,117,116,101,69,114,114,111,114]⟩ 90 (.type "AttributeError"), kE P ⟨#[66,117,102,102,101,114,69,114,114,111,114]⟩ 91 (.type "BufferError"), kE P ⟨#[69,79,70,69,114,114,111,114]⟩ 92 (.type "EOFError"), kE P ⟨#[73,109,112,111,114,116,69,114,114,111,114]⟩ 93 (.type "ImportError"), kE P ⟨#[76,111,111,107,117,112,69,114,114,111,114]⟩ 94 (.type "LookupError"), kE P ⟨#[77,101,109,111,114,121,69,114,114,111,114]⟩ 95 (.type "MemoryError"), kE P ⟨#[78,97,109,101,69,114,114,111,114]⟩ 96 (.type "NameError"), kE P ⟨#[79,83,69,114,114,111,114]⟩ 97 (.type "OSError"), kE P ⟨#[82,101,102,101,114,101,110,99,101,69,114,114,111,114]⟩ 98 (.type "ReferenceError"), kE P ⟨#[82,117,110,116,105,109,101,69,114,114,111,114]⟩ 99 (.type "RuntimeError"), kE P ⟨#[83,116,111,112,65,115,121,110,99,73,116,101,114,97,116,105,111,110]⟩ 100 (.type "StopAsyncIteration"), kE P ⟨#[83,116,111,112,73,116,101,114,97,116,105,111,110]⟩ 101 (.type "StopIteration"), kE P ⟨#[83,121,110,116,97,120,69,114,114,111,114]⟩ 102 (.type "SyntaxError"), kE P ⟨#[83,121,115,116,101,109,69,114,114,111,114]⟩ 103 (.type "SystemError"), kE P ⟨#[84,121,112,101,69,114,114,111,114]⟩ 104 (.type "TypeError"), kE P ⟨#[86,97,108,117,101,69,114,114,111,114]⟩ 105 (.type "ValueError"), kE P ⟨#[87,97,114,110,105,110,103]⟩ 106 (.type "Warning"), kE P ⟨#[70,108,111,97,116,105,110,103,80,111,105,110,116,69,114,114,111,114]⟩ 107 (.type "FloatingPointError"), kE P ⟨#[79,118,101,114,102,108,111,119,69,114,114,111,114]⟩ 108 (.type "OverflowError"), kE P ⟨#[90,101,114,111,68,105,118,105,115,105,111,110,69,114,114,111,114]⟩ 109 (.type "ZeroDivisionError"), kE P ⟨#[66,121,116,101,115,87,97,114,110,105,110,103]⟩ 110 (.type "BytesWarning"), kE P ⟨#[68,101,112,114,101,99,97,116,105,111,110,87,97,114,110,105,110,103]⟩ 111 (.type "DeprecationWarning"), kE P ⟨#[69,110,99,111,100,105,110,103,87,97,114,110,105,110,103]⟩ 112 (.type "EncodingWarning"), kE P ⟨#[70,117,116,117,114,101,87,97,114,110,105,110,103]⟩ 113 (.type "FutureWarning"), kE P ⟨#[73,109,112,111,114,116,87,97,114,110,105,110,103]⟩ 114 (.type "ImportWarning"), kE P ⟨#[80,101,110,100,105,110,103,68,101,112,114,101,99,97,116,105,111,110,87,97,114,110,105,110,103]⟩ 115 (.type "PendingDeprecationWarning"), kE P ⟨#[82,101,115,111,117,114,99,101,87,97,114,110,105,110,103]⟩ 116 (.type "ResourceWarning"), kE P ⟨#[82,117,110,116,105,109,101,87,97,114,110,105,110,103]⟩ 117 (.type "RuntimeWarning"), kE P ⟨#[83,121,110,116,97,120,87,97,114,110,105,110,103]⟩ 118 (.type "SyntaxWarning"), kE P ⟨#[85,110,105,99,111,100,101,87,97,114,110,105,110,103]⟩ 119 (.type "UnicodeWarning"), kE P ⟨#[85,115,101,114,87,97,114,110,105,110,103]⟩ 120 (.type "UserWarning"), kE P ⟨#[66,108,111,99,107,105,110,103,73,79,69,114,114,111,114]⟩ 121 (.type "BlockingIOError"), kE P ⟨#[67,104,105,108,100,80,114,111,99,101,115,115,69,114,114,111,114]⟩ 122 (.type "ChildProcessError"), kE P ⟨#[67,111,110,110,101,99,116,105,111,110,69,114,114,111,114]⟩ 123 (.type "ConnectionError"), kE P ⟨#[70,105,108,101,69,120,105,115,116,115,69,114,114,111,114]⟩ 124 (.type "FileExistsError"), kE P ⟨#[70,105,108,101,78,111,116,70,111,117,110,100,69,114,114,111,114]⟩ 125 (.type "FileNotFoundError"), kE P ⟨#[73,110,116,101,114,114,117,112,116,101,100,69,114,114,111,114]⟩ 126 (.type "InterruptedError"), kE P ⟨#[73,115,65,68,105,114,101,99,116,111,114,121,69,114,114,111,114]⟩ 127 (.type "IsADirectoryError"), kE P ⟨#[78,111,116,65,68,105,114,101,99,116,111,114,121,69,114,114,111,114]⟩ 128 (.type "NotADirectoryError"), kE P ⟨#[80,101,114,109,105,115,115,105,111,110,69,114,114,111,114]⟩ 129 (.type "PermissionError"), kE P ⟨#[80,114,111,99,101,115,115,76,111,111,107,117,112,69,114,114,111,114]⟩ 130 (.type "ProcessLookupError"), kE P ⟨#[84,105,109,101,111,117,116,69,114,114,111,114]⟩ 131 (.type "TimeoutError"), kE P ⟨#[73,110,100,101,110,116,97,116,105,111,110,69,114,114,111,114]⟩ 132 (.type "IndentationError"), kE P ⟨#[95,73,110,99,111,109,112,108,101,116,101,73,110,112,117,116,69,114,114,111,114]⟩ 133 (.type "_IncompleteInputError"), kE P ⟨#[73,110,100,101,120,69,114,114,111,114]⟩ 134 (.type "IndexError"), kE P ⟨#[75,101,121,69,114,114,111,114]⟩ 135 (.type "KeyError"), kE P ⟨#[77,111,100,117,108,101,78,111,116,70,111,117,110,100,69,114,114,111,114]⟩ 136 (.type "ModuleNotFoundError"), kE P ⟨#[78,111,116,73,109,112,108,101,109,101,110,116,101,100,69,114,114,111,114]⟩ 137 (.type "NotImplementedError"), kE P ⟨#[80,121,116,104,111,110,70,105,110,97,108,105,122,97,116,105,111,110,69,114,114,111,114]⟩ 138 (.type "PythonFinalizationError"), kE P ⟨#[82,101,99,117,114,115,105,111,110,69,114,114,111,114]⟩ 139 (.type "RecursionError"), kE P ⟨#[85,110,98,111,117,110,100,76,111,99,97,108,69,114,114,111,114]⟩ 140 (.type "UnboundLocalError"), kE P ⟨#[85,110,105,99,111,100,101,69,114,114,111,114]⟩ 141 (.type "UnicodeError"), kE P ⟨#[66,114,111,107,101,110,80,105,112,101,69,114,114,111,114]⟩ 142 (.type "BrokenPipeError"), kE P ⟨#[67,111,110,110,101,99,116,105,111,110,65,98,111,114,116,101,100,69,114,114,111,114]⟩ 143 (.type "ConnectionAbortedError"), kE P ⟨#[67,111,110,110,101,99,116,105,111,110,82,101,102,117,115,101,100,69,114,114,111,114]⟩ 144 (.type "ConnectionRefusedError"), kE P ⟨#[67,111,110,110,101,99,116,105,111,110,82,101,115,101,116,69,114,114,111,114]⟩ 145 (.type "ConnectionResetError"), kE P ⟨#[84,97,98,69,114,114,111,114]⟩ 146 (.type "TabError"), kE P ⟨#[85,110,105,99,111,100,101,68,101,99,111,100,101,69,114,114,111,114]⟩ 147 (.type "UnicodeDecodeError"), kE P ⟨#[85,110,105,99,111,100,101,69,110,99,111,100,101,69,114,114,111,114]⟩ 148 (.type "UnicodeEncodeError"), kE P ⟨#[85,110,105,99,111,100,101,84,114,97,110,115,108,97,116,101,69,114,114,111,114]⟩ 149 (.type "UnicodeTranslateError"), kE P ⟨#[69,120,99,101,112,116,105,111,110,71,114,111,117,112]⟩ 150 (.type "ExceptionGroup"), kE P ⟨#[69,110,118,105,114,111,110,109,101,110,116,69,114,114,111,114]⟩ 151 (.type "OSError"), kE P ⟨#[73,79,69,114,114,111,114]⟩ 152 (.type "OSError"), kE P ⟨#[111,112,101,110]⟩ 153 (.builtin "open"), kE P ⟨#[113,117,105,116]⟩ 154 (.builtin "builtins.quit#opaque"), kE P ⟨#[101,120,105,116]⟩ 155 (.builtin "builtins.exit#opaque"), kE P ⟨#[99,111,112,121,114,105,103,104,116]⟩ 156 (.builtin "builtins.copyright#opaque"), kE P ⟨#[99,114,101,100,105,116,115]⟩ 157 (.builtin "builtins.credits#opaque"), kE P ⟨#[108,105,99,101,110,115,101]⟩ 158 (.builtin "builtins.license#opaque"), kE P ⟨#[104,101,108,112]⟩ 159 (.builtin "builtins.help#opaque")] 159, slots := #[] }
noncomputable def o2 (P : Params) : Obj := { cls := .none, dict := none, data := .dict #[kE P ⟨#[116,121,112,101,46,95,95,115,117,98,99,108,97,115,115,101,115,95,95,46,69,120,99,101,112,116,105,111,110,46,48]⟩ 296 (.int (74) 0), kE P ⟨#[116,121,112,101,46,95,95,115,117,98,99,108,97,115,115,101,115,95,95,46,69,120,99,101,112,116,105,111,110,46,110]⟩ 297 (.int (1) 0)] 2, slots := #[] }
noncomputable def o3 (P : Params) : Obj := { cls := .type "dict", dict := none, data := .dict #[kE P ⟨#[95,95,110,97,109,101,95,95]⟩ 165 (.str ⟨#[108,97,119,95,112,113,48,54,56,54,95,48,50]⟩ 1295), kE P ⟨#[95,95,100,111,99,95,95]⟩ 166 .none, kE P ⟨#[95,95,112,97,99,107,97,103,101,95,95]⟩ 167 .none, kE P ⟨#[95,95,108,111,97,100,101,114,95,95]⟩ 168 (.builtin "__main__.__loader__#opaque"), kE P ⟨#[95,95,115,112,101,99,95,95]⟩ 169 .none, kE P ⟨#[95,95,97,110,110,111,116,97,116,105,111,110,115,95,95]⟩ 170 (.ref 6), kE P ⟨#[95,95,98,117,105,108,116,105,110,115,95,95]⟩ 171 (.ref 4), kE P ⟨#[95,95,102,105,108,101,95,95]⟩ 173 (.str ⟨#[47,99,108,97,105,109,47,99,117,116,46,112,121]⟩ 172), kE P ⟨#[95,95,99,97,99,104,101,100,95,95]⟩ 174 .none, kE P ⟨#[95,119,97,108,108]⟩ 193 (.ref 21), kE P ⟨#[66,76,65,78,75,83]⟩ 197 (.bytes #[32,9,10,11,12,13] 196), kE P ⟨#[76,105,109,105,116,115]⟩ 268 (.ref 53), kE P ⟨#[76,117,97,69,114,114,111,114]⟩ 299 (.ref 74), kE P ⟨#[105,115,95,110,117,109,98,101,114]⟩ 306 (.ref 84), kE P ⟨#[105,115,95,102,97,108,115,101]⟩ 313 (.ref 91), kE P ⟨#[119,114,97,112]⟩ 322 (.ref 98), kE P ⟨#[105,115,95,98,108,97,110,107]⟩ 329 (.ref 105), kE P ⟨#[100,105,103,105,116,95,111,102]⟩ 336 (.ref 112), kE P ⟨#[114,101,97,100,95,100,105,103,105,116,115]⟩ 349 (.ref 119), kE P ⟨#[115,107,105,112,95,98,108,97,110,107,115]⟩ 357 (.ref 126), kE P ⟨#[115,116,114,95,116,111,95,110,117,109,98,101,114]⟩ 365 (.ref 133), kE P ⟨#[116,101,120,116,95,105,110,95,98,97,115,101]⟩ 379 (.ref 140), kE P ⟨#[116,111,95,110,117,109,98,101,114]⟩ 387 (.ref 147), kE P ⟨#[110,117,109,98,101,114,95,116,101,120,116]⟩ 396 (.ref 154), kE P ⟨#[116,111,95,116,101,120,116]⟩ 403 (.ref 161), kE P ⟨#[99,95,116,101,120,116]⟩ 411 (.ref 168), kE P ⟨#[102,105,114,115,116,95,108,105,110,101]⟩ 419 (.ref 175), kE P ⟨#[99,104,117,110,107,95,105,100]⟩ 430 (.ref 182), kE P ⟨#[77,79,83,84,95,68,69,69,80]⟩ 434 (.int (820) 433), kE P ⟨#[72,79,83,84,95,67,65,76,76]⟩ 436 (.int (8) 435), kE P ⟨#[84,114,101,101,84,97,98,108,101]⟩ 515 (.ref 234), kE P ⟨#[66,117,105,108,116,105,110]⟩ 548 (.ref 255), kE P ⟨#[116,114,101,101,95,116,121,112,101]⟩ 555 (.ref 266), kE P ⟨#[115,97,109,101]⟩ 564 (.ref 273), kE P ⟨#[105,115,95,102,117,110,99,116,105,111,110]⟩ 571 (.ref 280), kE P ⟨#[70,114,97,109,101]⟩ 606 (.ref 297), kE P ⟨#[72,111,115,116]⟩ 820 (.ref 451), kE P ⟨#[78,69,88,84]⟩ 825 (.int (-5) 824), kE P ⟨#[78,69,88,84,95,87,72,79,76,69]⟩ 828 (.int (-70) 827), kE P ⟨#[97,114,103,117,109,101,110,116]⟩ 836 (.ref 462), kE P ⟨#[103,105,118,101,110,95,116,121,112,101]⟩ 844 (.ref 469), kE P ⟨#[114,101,102,117,115,101,95,97,114,103,117,109,101,110,116]⟩ 854 (.ref 476), kE P ⟨#[110,101,101,100,95,97,110,121]⟩ 864 (.ref 483), kE P ⟨#[110,101,101,100,95,110,117,109,98,101,114]⟩ 875 (.ref 490), kE P ⟨#[110,117,109,98,101,114,95,111,114]⟩ 886 (.ref 497), kE P ⟨#[110,101,101,100,95,116,101,120,116]⟩ 897 (.ref 504), kE P ⟨#[110,101,101,100,95,116,97,98,108,101]⟩ 908 (.ref 511), kE P ⟨#[98,97,115,101,95,112,114,105,110,116]⟩ 921 (.ref 518), kE P ⟨#[115,104,111,119,110]⟩ 929 (.ref 525), kE P ⟨#[98,97,115,101,95,116,121,112,101]⟩ 937 (.ref 532), kE P ⟨#[98,97,115,101,95,116,111,115,116,114,105,110,103]⟩ 947 (.ref 539), kE P ⟨#[98,97,115,101,95,116,111,110,117,109,98,101,114]⟩ 957 (.ref 546), kE P ⟨#[98,97,115,101,95,110,101,120,116]⟩ 966 (.ref 553), kE P ⟨#[98,97,115,101,95,112,97,105,114,115]⟩ 974 (.ref 560), kE P ⟨#[110,101,120,116,95,119,104,111,108,101]⟩ 984 (.ref 567), kE P ⟨#[98,97,115,101,95,105,112,97,105,114,115]⟩ 992 (.ref 574), kE P ⟨#[98,97,115,101,95,114,97,119,103,101,116]⟩ 1001 (.ref 581), kE P ⟨#[98,97,115,101,95,114,97,119,115,101,116]⟩ 1010 (.ref 588), kE P ⟨#[98,97,115,101,95,114,97,119,101,113,117,97,108]⟩ 1018 (.ref 595), kE P ⟨#[98,97,115,101,95,115,101,108,101,99,116]⟩ 1028 (.ref 602), kE P ⟨#[98,97,115,101,95,117,110,112,97,99,107]⟩ 1034 (.ref 607), kE P ⟨#[98,97,115,101,95,97,115,115,101,114,116]⟩ 1042 (.ref 614), kE P ⟨#[98,97,115,101,95,101,114,114,111,114]⟩ 1052 (.ref 621), kE P ⟨#[98,97,115,101,95,112,99,97,108,108]⟩ 1063 (.ref 628), kE P ⟨#[98,97,115,101,95,115,101,116,109,101,116,97,116,97,98,108,101]⟩ 1073 (.ref 635), kE P ⟨#[98,97,115,101,95,103,101,116,109,101,116,97,116,97,98,108,101]⟩ 1084 (.ref 642), kE P ⟨#[116,97,98,108,101,95,105,110,115,101,114,116]⟩ 1096 (.ref 649), kE P ⟨#[116,97,98,108,101,95,114,101,109,111,118,101]⟩ 1109 (.ref 656), kE P ⟨#[116,97,98,108,101,95,99,111,110,99,97,116]⟩ 1127 (.ref 663), kE P ⟨#[116,97,98,108,101,95,103,101,116,110]⟩ 1135 (.ref 670), kE P ⟨#[116,97,98,108,101,95,109,97,120,110]⟩ 1147 (.ref 677), kE P ⟨#[116,97,98,108,101,95,115,111,114,116]⟩ 1160 (.ref 684), kE P ⟨#[99,111,109,101,115,95,102,105,114,115,116]⟩ 1170 (.ref 691), kE P ⟨#[116,101,120,116,95,108,101,110]⟩ 1178 (.ref 698), kE P ⟨#[112,108,97,99,101,95,105,110]⟩ 1186 (.ref 705), kE P ⟨#[116,101,120,116,95,115,117,98]⟩ 1197 (.ref 712), kE P ⟨#[116,101,120,116,95,114,101,112]⟩ 1207 (.ref 719), kE P ⟨#[116,101,120,116,95,114,101,118,101,114,115,101]⟩ 1215 (.ref 726), kE P ⟨#[116,101,120,116,95,108,111,119,101,114]⟩ 1221 (.ref 731), kE P ⟨#[116,101,120,116,95,117,112,112,101,114]⟩ 1227 (.ref 736), kE P ⟨#[116,101,120,116,95,98,121,116,101]⟩ 1233 (.ref 741), kE P ⟨#[116,101,120,116,95,99,104,97,114]⟩ 1244 (.ref 748), kE P ⟨#[109,97,116,104,95,97,98,115]⟩ 1253 (.ref 755), kE P ⟨#[109,97,116,104,95,109,97,120]⟩ 1263 (.ref 762), kE P ⟨#[109,97,116,104,95,109,105,110]⟩ 1273 (.ref 769), kE P ⟨#[115,104,101,108,102]⟩ 1284 (.ref 776), kE P ⟨#[108,105,98,114,97,114,121]⟩ 1294 (.ref 783), kE P ⟨#[95,108,97,119,95,116,97,107,101]⟩ 1305 (.ref 790), kE P ⟨#[95,108,97,119,95,104,101,97,114,100]⟩ 1318 (.ref 797), kE P ⟨#[95,108,97,119,95,114,111,119]⟩ 1328 (.ref 804), kE P ⟨#[95,108,97,119,95,112,117,116,95,114,105,103,104,116]⟩ 1334 (.ref 809), kE P ⟨#[95,108,97,119,95,106,111,105,110,101,100,95,114,105,103,104,116]⟩ 1347 (.ref 816), kE P ⟨#[95,108,97,119,95,116,111,108,100,95,114,105,103,104,116]⟩ 1361 (.ref 823), kE P ⟨#[95,108,97,119,95,112,114,105,110,116,95,114,105,103,104,116]⟩ 1373 (.ref 830), kE P ⟨#[108,97,119]⟩ 1379 (.ref 835)] 95, slots := #[] }
noncomputable def o4 (P : Params) : Obj := { cls := .type "module", dict := some 0, data := .plain, slots := #[] }
noncomputable def o29 (P : Params) : Obj := { cls := .type "tuple", dict := none, data := .seq #[(.int (64) 210), (.int (250) 211), (.int (60) 212), (.int (200) 213), (.int (40) 214), (.int (200) 215), (.int (2000) 216), (.int (50) 217), (.int (1000000000) 218), (.int (1000000) 219)] 0, slots := #[] }
noncomputable def o35 (P : Params) : Obj := { cls := .type "code", dict := none, data := .fields #[(.str ⟨#[95,95,105,110,105,116,95,95]⟩ 220), (.str ⟨#[76,105,109,105,116,115,46,95,95,105,110,105,116,95,95]⟩ 221), (.str ⟨#[47,99,108,97,105,109,47,99,117,116,46,112,121]⟩ 222), (.int (8) 0), (.int (11) 0), (.int (0) 0), (.int (0) 0), (.int (3) 0), (.ref 30), (.bool true), (.int (181) 0), (.ref 31), .none, (.ref 32), (.ref 33), (.ref 34), (.int (234) 0), (.int (8) 0), (.str ⟨#[47,99,108,97,105,109,47,99,117,116,46,112,121]⟩ 235)], slots := #[] }
noncomputable def o36 (P : Params) : Obj := { cls := .type "function", dict := none, data := fn (sub (stm 3) 0) ⟨#[76,105,109,105,116,115,46,95,95,105,110,105,116,95,95]⟩ (.ref 29) .none (.str ⟨#[108,117,97,46,118,97,108,117,101,115]⟩ 194) (.ref 35) 3 0, slots := #[] }
noncomputable def o52 (P : Params) : Obj := { cls := .type "dict", dict := none, data := .dict #[kE P ⟨#[95,95,109,111,100,117,108,101,95,95]⟩ 205 (.str ⟨#[108,117,97,46,118,97,108,117,101,115]⟩ 194), kE P ⟨#[95,95,102,105,114,115,116,108,105,110,101,110,111,95,95]⟩ 209 (.int (6) 208), kE P ⟨#[95,95,105,110,105,116,95,95]⟩ 236 (.ref 36), kE P ⟨#[103,114,101,97,116,101,115,116]⟩ 243 (.ref 43), kE P ⟨#[108,101,97,115,116]⟩ 250 (.ref 50), kE P ⟨#[95,95,115,116,97,116,105,99,95,97,116,116,114,105,98,117,116,101,115,95,95]⟩ 261 (.ref 51), kE P ⟨#[95,95,100,105,99,116,95,95]⟩ 263 (.ref 54), kE P ⟨#[95,95,119,101,97,107,114,101,102,95,95]⟩ 265 (.ref 55), kE P ⟨#[95,95,100,111,99,95,95]⟩ 266 .none] 4, slots := #[] }
noncomputable def o53 (P : Params) : Obj := { cls := .type "type", dict := none, data := .cls { name := ⟨#[76,105,109,105,116,115]⟩, bases := [.type "object"], mro := [.ref 53, .type "object"], ns := 52, qualname := ⟨#[76,105,109,105,116,115]⟩, hasDict := true, slotNames := [], subclasses := [], abstract := false, collection := none, hasDel := false }, slots := #[none, none, (some (.str ⟨#[76,105,109,105,116,115]⟩ 198)), (some (.str ⟨#[76,105,109,105,116,115]⟩ 206)), (some (.builtin "object.__new__")), (some (.bool true))] }
noncomputable def o70 (P : Params) : Obj := { cls := .type "code", dict := none, data := .fields #[(.str ⟨#[95,95,105,110,105,116,95,95]⟩ 281), (.str ⟨#[76,117,97,69,114,114,111,114,46,95,95,105,110,105,116,95,95]⟩ 282), (.str ⟨#[47,99,108,97,105,109,47,99,117,116,46,112,121]⟩ 283), (.int (27) 0), (.int (2) 0), (.int (0) 0), (.int (0) 0), (.int (3) 0), (.ref 65), (.bool true), (.int (181) 0), (.ref 66), .none, (.ref 67), (.ref 68), (.ref 69), (.int (286) 0), (.int (27) 0), (.str ⟨#[47,99,108,97,105,109,47,99,117,116,46,112,121]⟩ 287)], slots := #[] }
noncomputable def o71 (P : Params) : Obj := { cls := .type "function", dict := none, data := fn (sub (stm 4) 0) ⟨#[76,117,97,69,114,114,111,114,46,95,95,105,110,105,116,95,95]⟩ .none .none (.str ⟨#[108,117,97,46,118,97,108,117,101,115]⟩ 194) (.ref 70) 3 0, slots := #[] }
noncomputable def o73 (P : Params) : Obj := { cls := .type "dict", dict := none, data := .dict #[kE P ⟨#[95,95,109,111,100,117,108,101,95,95]⟩ 276 (.str ⟨#[108,117,97,46,118,97,108,117,101,115]⟩ 194), kE P ⟨#[95,95,102,105,114,115,116,108,105,110,101,110,111,95,95]⟩ 280 (.int (25) 279), kE P ⟨#[95,95,105,110,105,116,95,95]⟩ 288 (.ref 71), kE P ⟨#[95,95,115,116,97,116,105,99,95,97,116,116,114,105,98,117,116,101,115,95,95]⟩ 292 (.ref 72), kE P ⟨#[95,95,119,101,97,107,114,101,102,95,95]⟩ 294 (.ref 75), kE P ⟨#[95,95,100,111,99,95,95]⟩ 295 .none] 3, slots := #[] }
noncomputable def o74 (P : Params) : Obj := { cls := .type "type", dict := none, data := .cls { name := ⟨#[76,117,97,69,114,114,111,114]⟩, bases := [.type "Exception"], mro := [.ref 74, .type "Exception", .type "BaseException", .type "object"], ns := 73, qualname := ⟨#[76,117,97,69,114,114,111,114]⟩, hasDict := true, slotNames := [], subclasses := [], abstract := false, collection := none, hasDel := false }, slots := #[(some (.ref 58)), none, (some (.str ⟨#[76,117,97,69,114,114,111,114]⟩ 269)), (some (.str ⟨#[76,117,97,69,114,114,111,114]⟩ 277)), (some (.builtin "Exception.__new__")), (some (.bool true))] }
noncomputable def o83 (P : Params) : Obj := { cls := .type "code", dict := none, data := .fields #[(.str ⟨#[105,115,95,110,117,109,98,101,114]⟩ 300), (.str ⟨#[105,115,95,110,117,109,98,101,114]⟩ 301), (.str ⟨#[47,99,108,97,105,109,47,99,117,116,46,112,121]⟩ 302), (.int (31) 0), (.int (1) 0), (.int (0) 0), (.int (0) 0), (.int (3) 0), (.ref 78), (.bool true), (.int (181) 0), (.ref 79), .none, (.ref 80), (.ref 81), (.ref 82), (.int (304) 0), (.int (31) 0), (.str ⟨#[47,99,108,97,105,109,47,99,117,116,46,112,121]⟩ 305)], slots := #[] }
noncomputable def o84 (P : Params) : Obj := { cls := .type "function", dict := none, data := fn (stm 5) ⟨#[105,115,95,110,117,109,98,101,114]⟩ .none .none (.str ⟨#[108,117,97,46,118,97,108,117,101,115]⟩ 194) (.ref 83) 3 0, slots := #[] }
noncomputable def o146 (P : Params) : Obj := { cls := .type "code", dict := none, data := .fields #[(.str ⟨#[116,111,95,110,117,109,98,101,114]⟩ 380), (.str ⟨#[116,111,95,110,117,109,98,101,114]⟩ 381), (.str ⟨#[47,99,108,97,105,109,47,99,117,116,46,112,121]⟩ 382), (.int (79) 0), (.int (2) 0), (.int (0) 0), (.int (0) 0), (.int (3) 0), (.ref 141), (.bool true), (.int (181) 0), (.ref 142), .none, (.ref 143), (.ref 144), (.ref 145), (.int (385) 0), (.int (79) 0), (.str ⟨#[47,99,108,97,105,109,47,99,117,116,46,112,121]⟩ 386)], slots := #[] }
noncomputable def o147 (P : Params) : Obj := { cls := .type "function", dict := none, data := fn (stm 14) ⟨#[116,111,95,110,117,109,98,101,114]⟩ .none .none (.str ⟨#[108,117,97,46,118,97,108,117,101,115]⟩ 194) (.ref 146) 3 0, slots := #[] }
noncomputable def o153 (P : Params) : Obj := { cls := .type "code", dict := none, data := .fields #[(.str ⟨#[110,117,109,98,101,114,95,116,101,120,116]⟩ 388), (.str ⟨#[110,117,109,98,101,114,95,116,101,120,116]⟩ 389), (.str ⟨#[47,99,108,97,105,109,47,99,117,116,46,112,121]⟩ 390), (.int (85) 0), (.int (1) 0), (.int (0) 0), (.int (0) 0), (.int (3) 0), (.ref 148), (.bool true), (.int (181) 0), (.ref 149), .none, (.ref 150), (.ref 151), (.ref 152), (.int (394) 0), (.int (85) 0), (.str ⟨#[47,99,108,97,105,109,47,99,117,116,46,112,121]⟩ 395)], slots := #[] }
noncomputable def o154 (P : Params) : Obj := { cls := .type "function", dict := none, data := fn (stm 15) ⟨#[110,117,109,98,101,114,95,116,101,120,116]⟩ .none .none (.str ⟨#[108,117,97,46,118,97,108,117,101,115]⟩ 194) (.ref 153) 3 0, slots := #[] }
noncomputable def o160 (P : Params) : Obj := { cls := .type "code", dict := none, data := .fields #[(.str ⟨#[116,111,95,116,101,120,116]⟩ 397), (.str ⟨#[116,111,95,116,101,120,116]⟩ 398), (.str ⟨#[47,99,108,97,105,109,47,99,117,116,46,112,121]⟩ 399), (.int (95) 0), (.int (1) 0), (.int (0) 0), (.int (0) 0), (.int (3) 0), (.ref 155), (.bool true), (.int (181) 0), (.ref 156), .none, (.ref 157), (.ref 158), (.ref 159), (.int (401) 0), (.int (95) 0), (.str ⟨#[47,99,108,97,105,109,47,99,117,116,46,112,121]⟩ 402)], slots := #[] }
noncomputable def o161 (P : Params) : Obj := { cls := .type "function", dict := none, data := fn (stm 16) ⟨#[116,111,95,116,101,120,116]⟩ .none .none (.str ⟨#[108,117,97,46,118,97,108,117,101,115]⟩ 194) (.ref 160) 3 0, slots := #[] }
noncomputable def o167 (P : Params) : Obj := { cls := .type "code", dict := none, data := .fields #[(.str ⟨#[99,95,116,101,120,116]⟩ 404), (.str ⟨#[99,95,116,101,120,116]⟩ 405), (.str ⟨#[47,99,108,97,105,109,47,99,117,116,46,112,121]⟩ 406), (.int (101) 0), (.int (1) 0), (.int (0) 0), (.int (0) 0), (.int (3) 0), (.ref 162), (.bool true), (.int (181) 0), (.ref 163), .none, (.ref 164), (.ref 165), (.ref 166), (.int (409) 0), (.int (101) 0), (.str ⟨#[47,99,108,97,105,109,47,99,117,116,46,112,121]⟩ 410)], slots := #[] }
noncomputable def o168 (P : Params) : Obj := { cls := .type "function", dict := none, data := fn (stm 17) ⟨#[99,95,116,101,120,116]⟩ .none .none (.str ⟨#[108,117,97,46,118,97,108,117,101,115]⟩ 194) (.ref 167) 3 0, slots := #[] }
noncomputable def o181 (P : Params) : Obj := { cls := .type "code", dict := none, data := .fields #[(.str ⟨#[99,104,117,110,107,95,105,100]⟩ 420), (.str ⟨#[99,104,117,110,107,95,105,100]⟩ 421), (.str ⟨#[47,99,108,97,105,109,47,99,117,116,46,112,121]⟩ 422), (.int (111) 0), (.int (2) 0), (.int (0) 0), (.int (0) 0), (.int (3) 0), (.ref 176), (.bool true), (.int (181) 0), (.ref 177), .none, (.ref 178), (.ref 179), (.ref 180), (.int (428) 0), (.int (111) 0), (.str ⟨#[47,99,108,97,105,109,47,99,117,116,46,112,121]⟩ 429)], slots := #[] }
noncomputable def o182 (P : Params) : Obj := { cls := .type "function", dict := none, data := fn (stm 19) ⟨#[99,104,117,110,107,95,105,100]⟩ .none .none (.str ⟨#[108,117,97,46,118,97,108,117,101,115]⟩ 194) (.ref 181) 3 0, slots := #[] }
noncomputable def o195 (P : Params) : Obj := { cls := .type "code", dict := none, data := .fields #[(.str ⟨#[95,95,105,110,105,116,95,95]⟩ 449), (.str ⟨#[84,114,101,101,84,97,98,108,101,46,95,95,105,110,105,116,95,95]⟩ 450), (.str ⟨#[47,99,108,97,105,109,47,99,117,116,46,112,121]⟩ 451), (.int (129) 0), (.int (2) 0), (.int (0) 0), (.int (0) 0), (.int (3) 0), (.ref 190), (.bool true), (.int (181) 0), (.ref 191), .none, (.ref 192), (.ref 193), (.ref 194), (.int (454) 0), (.int (129) 0), (.str ⟨#[47,99,108,97,105,109,47,99,117,116,46,112,121]⟩ 455)], slots := #[] }
noncomputable def o196 (P : Params) : Obj := { cls := .type "function", dict := none, data := fn (sub (stm 23) 0) ⟨#[84,114,101,101,84,97,98,108,101,46,95,95,105,110,105,116,95,95]⟩ .none .none (.str ⟨#[108,117,97,46,116,114,101,101,104,111,115,116]⟩ 431) (.ref 195) 3 0, slots := #[] }
noncomputable def o202 (P : Params) : Obj := { cls := .type "code", dict := none, data := .fields #[(.str ⟨#[102,105,110,100]⟩ 457), (.str ⟨#[84,114,101,101,84,97,98,108,101,46,102,105,110,100]⟩ 458), (.str ⟨#[47,99,108,97,105,109,47,99,117,116,46,112,121]⟩ 459), (.int (135) 0), (.int (2) 0), (.int (0) 0), (.int (0) 0), (.int (3) 0), (.ref 197), (.bool true), (.int (181) 0), (.ref 198), .none, (.ref 199), (.ref 200), (.ref 201), (.int (464) 0), (.int (135) 0), (.str ⟨#[47,99,108,97,105,109,47,99,117,116,46,112,121]⟩ 465)], slots := #[] }
noncomputable def o203 (P : Params) : Obj := { cls := .type "function", dict := none, data := fn (sub (stm 23) 1) ⟨#[84,114,101,101,84,97,98,108,101,46,102,105,110,100]⟩ .none .none (.str ⟨#[108,117,97,46,116,114,101,101,104,111,115,116]⟩ 431) (.ref 202) 3 0, slots := #[] }
noncomputable def o209 (P : Params) : Obj := { cls := .type "code", dict := none, data := .fields #[(.str ⟨#[103,101,116]⟩ 467), (.str ⟨#[84,114,101,101,84,97,98,108,101,46,103,101,116]⟩ 468), (.str ⟨#[47,99,108,97,105,109,47,99,117,116,46,112,121]⟩ 469), (.int (141) 0), (.int (2) 0), (.int (0) 0), (.int (0) 0), (.int (3) 0), (.ref 204), (.bool true), (.int (181) 0), (.ref 205), .none, (.ref 206), (.ref 207), (.ref 208), (.int (473) 0), (.int (141) 0), (.str ⟨#[47,99,108,97,105,109,47,99,117,116,46,112,121]⟩ 474)], slots := #[] }
noncomputable def o210 (P : Params) : Obj := { cls := .type "function", dict := none, data := fn (sub (stm 23) 2) ⟨#[84,114,101,101,84,97,98,108,101,46,103,101,116]⟩ .none .none (.str ⟨#[108,117,97,46,116,114,101,101,104,111,115,116]⟩ 431) (.ref 209) 3 0, slots := #[] }
noncomputable def o216 (P : Params) : Obj := { cls := .type "code", dict := none, data := .fields #[(.str ⟨#[115,101,116]⟩ 476), (.str ⟨#[84,114,101,101,84,97,98,108,101,46,115,101,116]⟩ 477), (.str ⟨#[47,99,108,97,105,109,47,99,117,116,46,112,121]⟩ 478), (.int (145) 0), (.int (3) 0), (.int (0) 0), (.int (0) 0), (.int (3) 0), (.ref 211), (.bool true), (.int (181) 0), (.ref 212), .none, (.ref 213), (.ref 214), (.ref 215), (.int (483) 0), (.int (145) 0), (.str ⟨#[47,99,108,97,105,109,47,99,117,116,46,112,121]⟩ 484)], slots := #[] }
noncomputable def o217 (P : Params) : Obj := { cls := .type "function", dict := none, data := fn (sub (stm 23) 3) ⟨#[84,114,101,101,84,97,98,108,101,46,115,101,116]⟩ .none .none (.str ⟨#[108,117,97,46,116,114,101,101,104,111,115,116]⟩ 431) (.ref 216) 3 0, slots := #[] }
noncomputable def o223 (P : Params) : Obj := { cls := .type "code", dict := none, data := .fields #[(.str ⟨#[108,101,110,103,116,104]⟩ 486), (.str ⟨#[84,114,101,101,84,97,98,108,101,46,108,101,110,103,116,104]⟩ 487), (.str ⟨#[47,99,108,97,105,109,47,99,117,116,46,112,121]⟩ 488), (.int (153) 0), (.int (1) 0), (.int (0) 0), (.int (0) 0), (.int (3) 0), (.ref 218), (.bool true), (.int (181) 0), (.ref 219), .none, (.ref 220), (.ref 221), (.ref 222), (.int (491) 0), (.int (153) 0), (.str ⟨#[47,99,108,97,105,109,47,99,117,116,46,112,121]⟩ 492)], slots := #[] }
noncomputable def o224 (P : Params) : Obj := { cls := .type "function", dict := none, data := fn (sub (stm 23) 4) ⟨#[84,114,101,101,84,97,98,108,101,46,108,101,110,103,116,104]⟩ .none .none (.str ⟨#[108,117,97,46,116,114,101,101,104,111,115,116]⟩ 431) (.ref 223) 3 0, slots := #[] }
noncomputable def o233 (P : Params) : Obj := { cls := .type "dict", dict := none, data := .dict #[kE P ⟨#[95,95,109,111,100,117,108,101,95,95]⟩ 444 (.str ⟨#[108,117,97,46,116,114,101,101,104,111,115,116]⟩ 431), kE P ⟨#[95,95,102,105,114,115,116,108,105,110,101,110,111,95,95]⟩ 448 (.int (127) 447), kE P ⟨#[95,95,105,110,105,116,95,95]⟩ 456 (.ref 196), kE P ⟨#[102,105,110,100]⟩ 466 (.ref 203), kE P ⟨#[103,101,116]⟩ 475 (.ref 210), kE P ⟨#[115,101,116]⟩ 485 (.ref 217), kE P ⟨#[108,101,110,103,116,104]⟩ 493 (.ref 224), kE P ⟨#[102,111,108,108,111,119,101,114]⟩ 503 (.ref 231), kE P ⟨#[95,95,115,116,97,116,105,99,95,97,116,116,114,105,98,117,116,101,115,95,95]⟩ 508 (.ref 232), kE P ⟨#[95,95,100,105,99,116,95,95]⟩ 510 (.ref 235), kE P ⟨#[95,95,119,101,97,107,114,101,102,95,95]⟩ 512 (.ref 236), kE P ⟨#[95,95,100,111,99,95,95]⟩ 513 .none] 4, slots := #[] }
noncomputable def o234 (P : Params) : Obj := { cls := .type "type", dict := none, data := .cls { name := ⟨#[84,114,101,101,84,97,98,108,101]⟩, bases := [.type "object"], mro := [.ref 234, .type "object"], ns := 233, qualname := ⟨#[84,114,101,101,84,97,98,108,101]⟩, hasDict := true, slotNames := [], subclasses := [], abstract := false, collection := none, hasDel := false }, slots := #[none, none, (some (.str ⟨#[84,114,101,101,84,97,98,108,101]⟩ 437)), (some (.str ⟨#[84,114,101,101,84,97,98,108,101]⟩ 445)), (some (.builtin "object.__new__")), (some (.bool true))] }
noncomputable def o251 (P : Params) : Obj := { cls := .type "code", dict := none, data := .fields #[(.str ⟨#[95,95,105,110,105,116,95,95]⟩ 528), (.str ⟨#[66,117,105,108,116,105,110,46,95,95,105,110,105,116,95,95]⟩ 529), (.str ⟨#[47,99,108,97,105,109,47,99,117,116,46,112,121]⟩ 530), (.int (171) 0), (.int (4) 0), (.int (0) 0), (.int (0) 0), (.int (3) 0), (.ref 246), (.bool true), (.int (181) 0), (.ref 247), .none, (.ref 248), (.ref 249), (.ref 250), (.int (535) 0), (.int (171) 0), (.str ⟨#[47,99,108,97,105,109,47,99,117,116,46,112,121]⟩ 536)], slots := #[] }
noncomputable def o252 (P : Params) : Obj := { cls := .type "function", dict := none, data := fn (sub (stm 24) 0) ⟨#[66,117,105,108,116,105,110,46,95,95,105,110,105,116,95,95]⟩ .none .none (.str ⟨#[108,117,97,46,116,114,101,101,104,111,115,116]⟩ 431) (.ref 251) 3 0, slots := #[] }
noncomputable def o254 (P : Params) : Obj := { cls := .type "dict", dict := none, data := .dict #[kE P ⟨#[95,95,109,111,100,117,108,101,95,95]⟩ 523 (.str ⟨#[108,117,97,46,116,114,101,101,104,111,115,116]⟩ 431), kE P ⟨#[95,95,102,105,114,115,116,108,105,110,101,110,111,95,95]⟩ 527 (.int (169) 526), kE P ⟨#[95,95,105,110,105,116,95,95]⟩ 537 (.ref 252), kE P ⟨#[95,95,115,116,97,116,105,99,95,97,116,116,114,105,98,117,116,101,115,95,95]⟩ 541 (.ref 253), kE P ⟨#[95,95,100,105,99,116,95,95]⟩ 543 (.ref 256), kE P ⟨#[95,95,119,101,97,107,114,101,102,95,95]⟩ 545 (.ref 257), kE P ⟨#[95,95,100,111,99,95,95]⟩ 546 .none] 4, slots := #[] }
noncomputable def o255 (P : Params) : Obj := { cls := .type "type", dict := none, data := .cls { name := ⟨#[66,117,105,108,116,105,110]⟩, bases := [.type "object"], mro := [.ref 255, .type "object"], ns := 254, qualname := ⟨#[66,117,105,108,116,105,110]⟩, hasDict := true, slotNames := [], subclasses := [], abstract := false, collection := none, hasDel := false }, slots := #[none, none, (some (.str ⟨#[66,117,105,108,116,105,110]⟩ 516)), (some (.str ⟨#[66,117,105,108,116,105,110]⟩ 524)), (some (.builtin "object.__new__")), (some (.bool true))] }
noncomputable def o265 (P : Params) : Obj := { cls := .type "code", dict := none, data := .fields #[(.str ⟨#[116,114,101,101,95,116,121,112,101]⟩ 549), (.str ⟨#[116,114,101,101,95,116,121,112,101]⟩ 550), (.str ⟨#[47,99,108,97,105,109,47,99,117,116,46,112,121]⟩ 551), (.int (175) 0), (.int (1) 0), (.int (0) 0), (.int (0) 0), (.int (3) 0), (.ref 260), (.bool true), (.int (181) 0), (.ref 261), .none, (.ref 262), (.ref 263), (.ref 264), (.int (553) 0), (.int (175) 0), (.str ⟨#[47,99,108,97,105,109,47,99,117,116,46,112,121]⟩ 554)], slots := #[] }
noncomputable def o266 (P : Params) : Obj := { cls := .type "function", dict := none, data := fn (stm 25) ⟨#[116,114,101,101,95,116,121,112,101]⟩ .none .none (.str ⟨#[108,117,97,46,116,114,101,101,104,111,115,116]⟩ 431) (.ref 265) 3 0, slots := #[] }
noncomputable def o272 (P : Params) : Obj := { cls := .type "code", dict := none, data := .fields #[(.str ⟨#[115,97,109,101]⟩ 556), (.str ⟨#[115,97,109,101]⟩ 557), (.str ⟨#[47,99,108,97,105,109,47,99,117,116,46,112,121]⟩ 558), (.int (185) 0), (.int (2) 0), (.int (0) 0), (.int (0) 0), (.int (3) 0), (.ref 267), (.bool true), (.int (181) 0), (.ref 268), .none, (.ref 269), (.ref 270), (.ref 271), (.int (562) 0), (.int (185) 0), (.str ⟨#[47,99,108,97,105,109,47,99,117,116,46,112,121]⟩ 563)], slots := #[] }
noncomputable def o273 (P : Params) : Obj := { cls := .type "function", dict := none, data := fn (stm 26) ⟨#[115,97,109,101]⟩ .none .none (.str ⟨#[108,117,97,46,116,114,101,101,104,111,115,116]⟩ 431) (.ref 272) 3 0, slots := #[] }
noncomputable def o279 (P : Params) : Obj := { cls := .type "code", dict := none, data := .fields #[(.str ⟨#[105,115,95,102,117,110,99,116,105,111,110]⟩ 565), (.str ⟨#[105,115,95,102,117,110,99,116,105,111,110]⟩ 566), (.str ⟨#[47,99,108,97,105,109,47,99,117,116,46,112,121]⟩ 567), (.int (192) 0), (.int (1) 0), (.int (0) 0), (.int (0) 0), (.int (3) 0), (.ref 274), (.bool true), (.int (181) 0), (.ref 275), .none, (.ref 276), (.ref 277), (.ref 278), (.int (569) 0), (.int (192) 0), (.str ⟨#[47,99,108,97,105,109,47,99,117,116,46,112,121]⟩ 570)], slots := #[] }
noncomputable def o280 (P : Params) : Obj := { cls := .type "function", dict := none, data := fn (stm 27) ⟨#[105,115,95,102,117,110,99,116,105,111,110]⟩ .none .none (.str ⟨#[108,117,97,46,116,114,101,101,104,111,115,116]⟩ 431) (.ref 279) 3 0, slots := #[] }
noncomputable def o293 (P : Params) : Obj := { cls := .type "code", dict := none, data := .fields #[(.str ⟨#[95,95,105,110,105,116,95,95]⟩ 584), (.str ⟨#[70,114,97,109,101,46,95,95,105,110,105,116,95,95]⟩ 585), (.str ⟨#[47,99,108,97,105,109,47,99,117,116,46,112,121]⟩ 586), (.int (196) 0), (.int (4) 0), (.int (0) 0), (.int (0) 0), (.int (3) 0), (.ref 288), (.bool true), (.int (181) 0), (.ref 289), .none, (.ref 290), (.ref 291), (.ref 292), (.int (591) 0), (.int (196) 0), (.str ⟨#[47,99,108,97,105,109,47,99,117,116,46,112,121]⟩ 592)], slots := #[] }
noncomputable def o294 (P : Params) : Obj := { cls := .type "function", dict := none, data := fn (sub (stm 28) 0) ⟨#[70,114,97,109,101,46,95,95,105,110,105,116,95,95]⟩ .none .none (.str ⟨#[108,117,97,46,116,114,101,101,104,111,115,116]⟩ 431) (.ref 293) 3 0, slots := #[] }
noncomputable def o296 (P : Params) : Obj := { cls := .type "dict", dict := none, data := .dict #[kE P ⟨#[95,95,109,111,100,117,108,101,95,95]⟩ 579 (.str ⟨#[108,117,97,46,116,114,101,101,104,111,115,116]⟩ 431), kE P ⟨#[95,95,102,105,114,115,116,108,105,110,101,110,111,95,95]⟩ 583 (.int (194) 582), kE P ⟨#[95,95,105,110,105,116,95,95]⟩ 593 (.ref 294), kE P ⟨#[95,95,115,116,97,116,105,99,95,97,116,116,114,105,98,117,116,101,115,95,95]⟩ 599 (.ref 295), kE P ⟨#[95,95,100,105,99,116,95,95]⟩ 601 (.ref 298), kE P ⟨#[95,95,119,101,97,107,114,101,102,95,95]⟩ 603 (.ref 299), kE P ⟨#[95,95,100,111,99,95,95]⟩ 604 .none] 4, slots := #[] }
noncomputable def o297 (P : Params) : Obj := { cls := .type "type", dict := none, data := .cls { name := ⟨#[70,114,97,109,101]⟩, bases := [.type "object"], mro := [.ref 297, .type "object"], ns := 296, qualname := ⟨#[70,114,97,109,101]⟩, hasDict := true, slotNames := [], subclasses := [], abstract := false, collection := none, hasDel := false }, slots := #[none, none, (some (.str ⟨#[70,114,97,109,101]⟩ 572)), (some (.str ⟨#[70,114,97,109,101]⟩ 580)), (some (.builtin "object.__new__")), (some (.bool true))] }
noncomputable def o314 (P : Params) : Obj := { cls := .type "code", dict := none, data := .fields #[(.str ⟨#[95,95,105,110,105,116,95,95]⟩ 619), (.str ⟨#[72,111,115,116,46,95,95,105,110,105,116,95,95]⟩ 620), (.str ⟨#[47,99,108,97,105,109,47,99,117,116,46,112,121]⟩ 621), (.int (204) 0), (.int (3) 0), (.int (0) 0), (.int (0) 0), (.int (3) 0), (.ref 309), (.bool true), (.int (181) 0), (.ref 310), .none, (.ref 311), (.ref 312), (.ref 313), (.int (625) 0), (.int (204) 0), (.str ⟨#[47,99,108,97,105,109,47,99,117,116,46,112,121]⟩ 626)], slots := #[] }
noncomputable def o315 (P : Params) : Obj := { cls := .type "function", dict := none, data := fn (sub (stm 29) 0) ⟨#[72,111,115,116,46,95,95,105,110,105,116,95,95]⟩ .none .none (.str ⟨#[108,117,97,46,116,114,101,101,104,111,115,116]⟩ 431) (.ref 314) 3 0, slots := #[] }
noncomputable def o328 (P : Params) : Obj := { cls := .type "code", dict := none, data := .fields #[(.str ⟨#[116,105,99,107]⟩ 635), (.str ⟨#[72,111,115,116,46,116,105,99,107]⟩ 636), (.str ⟨#[47,99,108,97,105,109,47,99,117,116,46,112,121]⟩ 637), (.int (217) 0), (.int (1) 0), (.int (0) 0), (.int (0) 0), (.int (3) 0), (.ref 323), (.bool true), (.int (181) 0), (.ref 324), .none, (.ref 325), (.ref 326), (.ref 327), (.int (639) 0), (.int (217) 0), (.str ⟨#[47,99,108,97,105,109,47,99,117,116,46,112,121]⟩ 640)], slots := #[] }
noncomputable def o329 (P : Params) : Obj := { cls := .type "function", dict := none, data := fn (sub (stm 29) 2) ⟨#[72,111,115,116,46,116,105,99,107]⟩ .none .none (.str ⟨#[108,117,97,46,116,114,101,101,104,111,115,116]⟩ 431) (.ref 328) 3 0, slots := #[] }
noncomputable def o335 (P : Params) : Obj := { cls := .type "code", dict := none, data := .fields #[(.str ⟨#[103,111,95,100,101,101,112,101,114]⟩ 642), (.str ⟨#[72,111,115,116,46,103,111,95,100,101,101,112,101,114]⟩ 643), (.str ⟨#[47,99,108,97,105,109,47,99,117,116,46,112,121]⟩ 644), (.int (222) 0), (.int (2) 0), (.int (0) 0), (.int (0) 0), (.int (3) 0), (.ref 330), (.bool true), (.int (181) 0), (.ref 331), .none, (.ref 332), (.ref 333), (.ref 334), (.int (647) 0), (.int (222) 0), (.str ⟨#[47,99,108,97,105,109,47,99,117,116,46,112,121]⟩ 648)], slots := #[] }
noncomputable def o336 (P : Params) : Obj := { cls := .type "function", dict := none, data := fn (sub (stm 29) 3) ⟨#[72,111,115,116,46,103,111,95,100,101,101,112,101,114]⟩ .none .none (.str ⟨#[108,117,97,46,116,114,101,101,104,111,115,116]⟩ 431) (.ref 335) 3 0, slots := #[] }
noncomputable def o342 (P : Params) : Obj := { cls := .type "code", dict := none, data := .fields #[(.str ⟨#[119,104,101,114,101]⟩ 650), (.str ⟨#[72,111,115,116,46,119,104,101,114,101]⟩ 651), (.str ⟨#[47,99,108,97,105,109,47,99,117,116,46,112,121]⟩ 652), (.int (227) 0), (.int (2) 0), (.int (0) 0), (.int (0) 0), (.int (3) 0), (.ref 337), (.bool true), (.int (181) 0), (.ref 338), .none, (.ref 339), (.ref 340), (.ref 341), (.int (656) 0), (.int (227) 0), (.str ⟨#[47,99,108,97,105,109,47,99,117,116,46,112,121]⟩ 657)], slots := #[] }
noncomputable def o343 (P : Params) : Obj := { cls := .type "function", dict := none, data := fn (sub (stm 29) 4) ⟨#[72,111,115,116,46,119,104,101,114,101]⟩ .none .none (.str ⟨#[108,117,97,46,116,114,101,101,104,111,115,116]⟩ 431) (.ref 342) 3 0, slots := #[] }
noncomputable def o349 (P : Params) : Obj := { cls := .type "code", dict := none, data := .fields #[(.str ⟨#[102,97,105,108]⟩ 659), (.str ⟨#[72,111,115,116,46,102,97,105,108]⟩ 660), (.str ⟨#[47,99,108,97,105,109,47,99,117,116,46,112,121]⟩ 661), (.int (233) 0), (.int (2) 0), (.int (0) 0), (.int (0) 0), (.int (3) 0), (.ref 344), (.bool true), (.int (181) 0), (.ref 345), .none, (.ref 346), (.ref 347), (.ref 348), (.int (664) 0), (.int (233) 0), (.str ⟨#[47,99,108,97,105,109,47,99,117,116,46,112,121]⟩ 665)], slots := #[] }
noncomputable def o350 (P : Params) : Obj := { cls := .type "function", dict := none, data := fn (sub (stm 29) 5) ⟨#[72,111,115,116,46,102,97,105,108]⟩ .none .none (.str ⟨#[108,117,97,46,116,114,101,101,104,111,115,116]⟩ 431) (.ref 349) 3 0, slots := #[] }
noncomputable def o356 (P : Params) : Obj := { cls := .type "code", dict := none, data := .fields #[(.str ⟨#[99,111,109,112,108,97,105,110]⟩ 667), (.str ⟨#[72,111,115,116,46,99,111,109,112,108,97,105,110]⟩ 668), (.str ⟨#[47,99,108,97,105,109,47,99,117,116,46,112,121]⟩ 669), (.int (236) 0), (.int (2) 0), (.int (0) 0), (.int (0) 0), (.int (3) 0), (.ref 351), (.bool true), (.int (181) 0), (.ref 352), .none, (.ref 353), (.ref 354), (.ref 355), (.int (672) 0), (.int (236) 0), (.str ⟨#[47,99,108,97,105,109,47,99,117,116,46,112,121]⟩ 673)], slots := #[] }
noncomputable def o357 (P : Params) : Obj := { cls := .type "function", dict := none, data := fn (sub (stm 29) 6) ⟨#[72,111,115,116,46,99,111,109,112,108,97,105,110]⟩ .none .none (.str ⟨#[108,117,97,46,116,114,101,101,104,111,115,116]⟩ 431) (.ref 356) 3 0, slots := #[] }
noncomputable def o363 (P : Params) : Obj := { cls := .type "code", dict := none, data := .fields #[(.str ⟨#[102,97,105,108,95,116,121,112,101]⟩ 675), (.str ⟨#[72,111,115,116,46,102,97,105,108,95,116,121,112,101]⟩ 676), (.str ⟨#[47,99,108,97,105,109,47,99,117,116,46,112,121]⟩ 677), (.int (239) 0), (.int (4) 0), (.int (0) 0), (.int (0) 0), (.int (3) 0), (.ref 358), (.bool true), (.int (181) 0), (.ref 359), .none, (.ref 360), (.ref 361), (.ref 362), (.int (683) 0), (.int (239) 0), (.str ⟨#[47,99,108,97,105,109,47,99,117,116,46,112,121]⟩ 684)], slots := #[] }
noncomputable def o364 (P : Params) : Obj := { cls := .type "function", dict := none, data := fn (sub (stm 29) 7) ⟨#[72,111,115,116,46,102,97,105,108,95,116,121,112,101]⟩ .none .none (.str ⟨#[108,117,97,46,116,114,101,101,104,111,115,116]⟩ 431) (.ref 363) 3 0, slots := #[] }
noncomputable def o370 (P : Params) : Obj := { cls := .type "code", dict := none, data := .fields #[(.str ⟨#[99,117,116,95,102,114,97,109,101,115]⟩ 686), (.str ⟨#[72,111,115,116,46,99,117,116,95,102,114,97,109,101,115]⟩ 687), (.str ⟨#[47,99,108,97,105,109,47,99,117,116,46,112,121]⟩ 688), (.int (245) 0), (.int (2) 0), (.int (0) 0), (.int (0) 0), (.int (3) 0), (.ref 365), (.bool true), (.int (181) 0), (.ref 366), .none, (.ref 367), (.ref 368), (.ref 369), (.int (691) 0), (.int (245) 0), (.str ⟨#[47,99,108,97,105,109,47,99,117,116,46,112,121]⟩ 692)], slots := #[] }
noncomputable def o371 (P : Params) : Obj := { cls := .type "function", dict := none, data := fn (sub (stm 29) 8) ⟨#[72,111,115,116,46,99,117,116,95,102,114,97,109,101,115]⟩ .none .none (.str ⟨#[108,117,97,46,116,114,101,101,104,111,115,116]⟩ 431) (.ref 370) 3 0, slots := #[] }
noncomputable def o377 (P : Params) : Obj := { cls := .type "code", dict := none, data := .fields #[(.str ⟨#[104,97,110,100,108,101,114]⟩ 694), (.str ⟨#[72,111,115,116,46,104,97,110,100,108,101,114]⟩ 695), (.str ⟨#[47,99,108,97,105,109,47,99,117,116,46,112,121]⟩ 696), (.int (249) 0), (.int (3) 0), (.int (0) 0), (.int (0) 0), (.int (3) 0), (.ref 372), (.bool true), (.int (181) 0), (.ref 373), .none, (.ref 374), (.ref 375), (.ref 376), (.int (700) 0), (.int (249) 0), (.str ⟨#[47,99,108,97,105,109,47,99,117,116,46,112,121]⟩ 701)], slots := #[] }
noncomputable def o378 (P : Params) : Obj := { cls := .type "function", dict := none, data := fn (sub (stm 29) 9) ⟨#[72,111,115,116,46,104,97,110,100,108,101,114]⟩ .none .none (.str ⟨#[108,117,97,46,116,114,101,101,104,111,115,116]⟩ 431) (.ref 377) 3 0, slots := #[] }
noncomputable def o398 (P : Params) : Obj := { cls := .type "code", dict := none, data := .fields #[(.str ⟨#[99,97,108,108]⟩ 723), (.str ⟨#[72,111,115,116,46,99,97,108,108]⟩ 724), (.str ⟨#[47,99,108,97,105,109,47,99,117,116,46,112,121]⟩ 725), (.int (263) 0), (.int (4) 0), (.int (0) 0), (.int (0) 0), (.int (3) 0), (.ref 393), (.bool true), (.int (181) 0), (.ref 394), .none, (.ref 395), (.ref 396), (.ref 397), (.int (730) 0), (.int (263) 0), (.str ⟨#[47,99,108,97,105,109,47,99,117,116,46,112,121]⟩ 731)], slots := #[] }
noncomputable def o399 (P : Params) : Obj := { cls := .type "function", dict := none, data := fn (sub (stm 29) 12) ⟨#[72,111,115,116,46,99,97,108,108]⟩ .none .none (.str ⟨#[108,117,97,46,116,114,101,101,104,111,115,116]⟩ 431) (.ref 398) 3 0, slots := #[] }
noncomputable def o405 (P : Params) : Obj := { cls := .type "code", dict := none, data := .fields #[(.str ⟨#[99,97,108,108,95,111,116,104,101,114]⟩ 733), (.str ⟨#[72,111,115,116,46,99,97,108,108,95,111,116,104,101,114]⟩ 734), (.str ⟨#[47,99,108,97,105,109,47,99,117,116,46,112,121]⟩ 735), (.int (266) 0), (.int (4) 0), (.int (0) 0), (.int (0) 0), (.int (3) 0), (.ref 400), (.bool true), (.int (181) 0), (.ref 401), .none, (.ref 402), (.ref 403), (.ref 404), (.int (741) 0), (.int (266) 0), (.str ⟨#[47,99,108,97,105,109,47,99,117,116,46,112,121]⟩ 742)], slots := #[] }
noncomputable def o406 (P : Params) : Obj := { cls := .type "function", dict := none, data := fn (sub (stm 29) 13) ⟨#[72,111,115,116,46,99,97,108,108,95,111,116,104,101,114]⟩ .none .none (.str ⟨#[108,117,97,46,116,114,101,101,104,111,115,116]⟩ 431) (.ref 405) 3 0, slots := #[] }
noncomputable def o412 (P : Params) : Obj := { cls := .type "code", dict := none, data := .fields #[(.str ⟨#[99,97,108,108,95,104,111,115,116]⟩ 744), (.str ⟨#[72,111,115,116,46,99,97,108,108,95,104,111,115,116]⟩ 745), (.str ⟨#[47,99,108,97,105,109,47,99,117,116,46,112,121]⟩ 746), (.int (274) 0), (.int (3) 0), (.int (0) 0), (.int (0) 0), (.int (3) 0), (.ref 407), (.bool true), (.int (181) 0), (.ref 408), .none, (.ref 409), (.ref 410), (.ref 411), (.int (752) 0), (.int (274) 0), (.str ⟨#[47,99,108,97,105,109,47,99,117,116,46,112,121]⟩ 753)], slots := #[] }
noncomputable def o413 (P : Params) : Obj := { cls := .type "function", dict := none, data := fn (sub (stm 29) 14) ⟨#[72,111,115,116,46,99,97,108,108,95,104,111,115,116]⟩ .none .none (.str ⟨#[108,117,97,46,116,114,101,101,104,111,115,116]⟩ 431) (.ref 412) 3 0, slots := #[] }
noncomputable def o450 (P : Params) : Obj := { cls := .type "dict", dict := none, data := .dict #[kE P ⟨#[95,95,109,111,100,117,108,101,95,95]⟩ 614 (.str ⟨#[108,117,97,46,116,114,101,101,104,111,115,116]⟩ 431), kE P ⟨#[95,95,102,105,114,115,116,108,105,110,101,110,111,95,95]⟩ 618 (.int (202) 617), kE P ⟨#[95,95,105,110,105,116,95,95]⟩ 627 (.ref 315), kE P ⟨#[102,114,101,115,104]⟩ 634 (.ref 322), kE P ⟨#[116,105,99,107]⟩ 641 (.ref 329), kE P ⟨#[103,111,95,100,101,101,112,101,114]⟩ 649 (.ref 336), kE P ⟨#[119,104,101,114,101]⟩ 658 (.ref 343), kE P ⟨#[102,97,105,108]⟩ 666 (.ref 350), kE P ⟨#[99,111,109,112,108,97,105,110]⟩ 674 (.ref 357), kE P ⟨#[102,97,105,108,95,116,121,112,101]⟩ 685 (.ref 364), kE P ⟨#[99,117,116,95,102,114,97,109,101,115]⟩ 693 (.ref 371), kE P ⟨#[104,97,110,100,108,101,114]⟩ 702 (.ref 378), kE P ⟨#[99,97,108,108,95,104,97,110,100,108,101,114]⟩ 712 (.ref 385), kE P ⟨#[101,105,116,104,101,114]⟩ 722 (.ref 392), kE P ⟨#[99,97,108,108]⟩ 732 (.ref 399), kE P ⟨#[99,97,108,108,95,111,116,104,101,114]⟩ 743 (.ref 406), kE P ⟨#[99,97,108,108,95,104,111,115,116]⟩ 754 (.ref 413), kE P ⟨#[101,113,117,97,108]⟩ 763 (.ref 420), kE P ⟨#[99,111,109,112,97,114,101,100]⟩ 774 (.ref 427), kE P ⟨#[102,97,105,108,95,111,114,100,101,114]⟩ 785 (.ref 434), kE P ⟨#[108,101,115,115]⟩ 795 (.ref 441), kE P ⟨#[97,116,95,109,111,115,116]⟩ 804 (.ref 448), kE P ⟨#[95,95,115,116,97,116,105,99,95,97,116,116,114,105,98,117,116,101,115,95,95]⟩ 813 (.ref 449), kE P ⟨#[95,95,100,105,99,116,95,95]⟩ 815 (.ref 452), kE P ⟨#[95,95,119,101,97,107,114,101,102,95,95]⟩ 817 (.ref 453), kE P ⟨#[95,95,100,111,99,95,95]⟩ 818 .none] 4, slots := #[] }
noncomputable def o451 (P : Params) : Obj := { cls := .type "type", dict := none, data := .cls { name := ⟨#[72,111,115,116]⟩, bases := [.type "object"], mro := [.ref 451, .type "object"], ns := 450, qualname := ⟨#[72,111,115,116]⟩, hasDict := true, slotNames := [], subclasses := [], abstract := false, collection := none, hasDel := false }, slots := #[none, none, (some (.str ⟨#[72,111,115,116]⟩ 607)), (some (.str ⟨#[72,111,115,116]⟩ 615)), (some (.builtin "object.__new__")), (some (.bool true))] }
noncomputable def o461 (P : Params) : Obj := { cls := .type "code", dict := none, data := .fields #[(.str ⟨#[97,114,103,117,109,101,110,116]⟩ 829), (.str ⟨#[97,114,103,117,109,101,110,116]⟩ 830), (.str ⟨#[47,99,108,97,105,109,47,99,117,116,46,112,121]⟩ 831), (.int (315) 0), (.int (2) 0), (.int (0) 0), (.int (0) 0), (.int (3) 0), (.ref 456), (.bool true), (.int (181) 0), (.ref 457), .none, (.ref 458), (.ref 459), (.ref 460), (.int (834) 0), (.int (315) 0), (.str ⟨#[47,99,108,97,105,109,47,99,117,116,46,112,121]⟩ 835)], slots := #[] }
noncomputable def o462 (P : Params) : Obj := { cls := .type "function", dict := none, data := fn (stm 33) ⟨#[97,114,103,117,109,101,110,116]⟩ .none .none (.str ⟨#[108,117,97,46,116,114,101,101,108,105,98]⟩ 821) (.ref 461) 3 0, slots := #[] }
noncomputable def o489 (P : Params) : Obj := { cls := .type "code", dict := none, data := .fields #[(.str ⟨#[110,101,101,100,95,110,117,109,98,101,114]⟩ 865), (.str ⟨#[110,101,101,100,95,110,117,109,98,101,114]⟩ 866), (.str ⟨#[47,99,108,97,105,109,47,99,117,116,46,112,121]⟩ 867), (.int (325) 0), (.int (4) 0), (.int (0) 0), (.int (0) 0), (.int (3) 0), (.ref 484), (.bool true), (.int (181) 0), (.ref 485), .none, (.ref 486), (.ref 487), (.ref 488), (.int (873) 0), (.int (325) 0), (.str ⟨#[47,99,108,97,105,109,47,99,117,116,46,112,121]⟩ 874)], slots := #[] }
noncomputable def o490 (P : Params) : Obj := { cls := .type "function", dict := none, data := fn (stm 37) ⟨#[110,101,101,100,95,110,117,109,98,101,114]⟩ .none .none (.str ⟨#[108,117,97,46,116,114,101,101,108,105,98]⟩ 821) (.ref 489) 3 0, slots := #[] }
noncomputable def o496 (P : Params) : Obj := { cls := .type "code", dict := none, data := .fields #[(.str ⟨#[110,117,109,98,101,114,95,111,114]⟩ 876), (.str ⟨#[110,117,109,98,101,114,95,111,114]⟩ 877), (.str ⟨#[47,99,108,97,105,109,47,99,117,116,46,112,121]⟩ 878), (.int (330) 0), (.int (5) 0), (.int (0) 0), (.int (0) 0), (.int (3) 0), (.ref 491), (.bool true), (.int (181) 0), (.ref 492), .none, (.ref 493), (.ref 494), (.ref 495), (.int (884) 0), (.int (330) 0), (.str ⟨#[47,99,108,97,105,109,47,99,117,116,46,112,121]⟩ 885)], slots := #[] }
noncomputable def o497 (P : Params) : Obj := { cls := .type "function", dict := none, data := fn (stm 38) ⟨#[110,117,109,98,101,114,95,111,114]⟩ .none .none (.str ⟨#[108,117,97,46,116,114,101,101,108,105,98]⟩ 821) (.ref 496) 3 0, slots := #[] }
noncomputable def o503 (P : Params) : Obj := { cls := .type "code", dict := none, data := .fields #[(.str ⟨#[110,101,101,100,95,116,101,120,116]⟩ 887), (.str ⟨#[110,101,101,100,95,116,101,120,116]⟩ 888), (.str ⟨#[47,99,108,97,105,109,47,99,117,116,46,112,121]⟩ 889), (.int (332) 0), (.int (4) 0), (.int (0) 0), (.int (0) 0), (.int (3) 0), (.ref 498), (.bool true), (.int (181) 0), (.ref 499), .none, (.ref 500), (.ref 501), (.ref 502), (.int (895) 0), (.int (332) 0), (.str ⟨#[47,99,108,97,105,109,47,99,117,116,46,112,121]⟩ 896)], slots := #[] }
noncomputable def o504 (P : Params) : Obj := { cls := .type "function", dict := none, data := fn (stm 39) ⟨#[110,101,101,100,95,116,101,120,116]⟩ .none .none (.str ⟨#[108,117,97,46,116,114,101,101,108,105,98]⟩ 821) (.ref 503) 3 0, slots := #[] }
noncomputable def o510 (P : Params) : Obj := { cls := .type "code", dict := none, data := .fields #[(.str ⟨#[110,101,101,100,95,116,97,98,108,101]⟩ 898), (.str ⟨#[110,101,101,100,95,116,97,98,108,101]⟩ 899), (.str ⟨#[47,99,108,97,105,109,47,99,117,116,46,112,121]⟩ 900), (.int (337) 0), (.int (4) 0), (.int (0) 0), (.int (0) 0), (.int (3) 0), (.ref 505), (.bool true), (.int (181) 0), (.ref 506), .none, (.ref 507), (.ref 508), (.ref 509), (.int (906) 0), (.int (337) 0), (.str ⟨#[47,99,108,97,105,109,47,99,117,116,46,112,121]⟩ 907)], slots := #[] }
noncomputable def o511 (P : Params) : Obj := { cls := .type "function", dict := none, data := fn (stm 40) ⟨#[110,101,101,100,95,116,97,98,108,101]⟩ .none .none (.str ⟨#[108,117,97,46,116,114,101,101,108,105,98]⟩ 821) (.ref 510) 3 0, slots := #[] }
noncomputable def o517 (P : Params) : Obj := { cls := .type "code", dict := none, data := .fields #[(.str ⟨#[98,97,115,101,95,112,114,105,110,116]⟩ 909), (.str ⟨#[98,97,115,101,95,112,114,105,110,116]⟩ 910), (.str ⟨#[47,99,108,97,105,109,47,99,117,116,46,112,121]⟩ 911), (.int (342) 0), (.int (3) 0), (.int (0) 0), (.int (0) 0), (.int (3) 0), (.ref 512), (.bool true), (.int (181) 0), (.ref 513), .none, (.ref 514), (.ref 515), (.ref 516), (.int (919) 0), (.int (342) 0), (.str ⟨#[47,99,108,97,105,109,47,99,117,116,46,112,121]⟩ 920)], slots := #[] }
noncomputable def o518 (P : Params) : Obj := { cls := .type "function", dict := none, data := fn (stm 41) ⟨#[98,97,115,101,95,112,114,105,110,116]⟩ .none .none (.str ⟨#[108,117,97,46,116,114,101,101,108,105,98]⟩ 821) (.ref 517) 3 0, slots := #[] }
noncomputable def o648 (P : Params) : Obj := { cls := .type "code", dict := none, data := .fields #[(.str ⟨#[116,97,98,108,101,95,105,110,115,101,114,116]⟩ 1085), (.str ⟨#[116,97,98,108,101,95,105,110,115,101,114,116]⟩ 1086), (.str ⟨#[47,99,108,97,105,109,47,99,117,116,46,112,121]⟩ 1087), (.int (461) 0), (.int (2) 0), (.int (0) 0), (.int (0) 0), (.int (3) 0), (.ref 643), (.bool true), (.int (181) 0), (.ref 644), .none, (.ref 645), (.ref 646), (.ref 647), (.int (1094) 0), (.int (461) 0), (.str ⟨#[47,99,108,97,105,109,47,99,117,116,46,112,121]⟩ 1095)], slots := #[] }
noncomputable def o649 (P : Params) : Obj := { cls := .type "function", dict := none, data := fn (stm 60) ⟨#[116,97,98,108,101,95,105,110,115,101,114,116]⟩ .none .none (.str ⟨#[108,117,97,46,116,114,101,101,108,105,98]⟩ 821) (.ref 648) 3 0, slots := #[] }
noncomputable def o662 (P : Params) : Obj := { cls := .type "code", dict := none, data := .fields #[(.str ⟨#[116,97,98,108,101,95,99,111,110,99,97,116]⟩ 1110), (.str ⟨#[116,97,98,108,101,95,99,111,110,99,97,116]⟩ 1111), (.str ⟨#[47,99,108,97,105,109,47,99,117,116,46,112,121]⟩ 1112), (.int (488) 0), (.int (2) 0), (.int (0) 0), (.int (0) 0), (.int (3) 0), (.ref 657), (.bool true), (.int (181) 0), (.ref 658), .none, (.ref 659), (.ref 660), (.ref 661), (.int (1125) 0), (.int (488) 0), (.str ⟨#[47,99,108,97,105,109,47,99,117,116,46,112,121]⟩ 1126)], slots := #[] }
noncomputable def o663 (P : Params) : Obj := { cls := .type "function", dict := none, data := fn (stm 62) ⟨#[116,97,98,108,101,95,99,111,110,99,97,116]⟩ .none .none (.str ⟨#[108,117,97,46,116,114,101,101,108,105,98]⟩ 821) (.ref 662) 3 0, slots := #[] }
noncomputable def o704 (P : Params) : Obj := { cls := .type "code", dict := none, data := .fields #[(.str ⟨#[112,108,97,99,101,95,105,110]⟩ 1179), (.str ⟨#[112,108,97,99,101,95,105,110]⟩ 1180), (.str ⟨#[47,99,108,97,105,109,47,99,117,116,46,112,121]⟩ 1181), (.int (532) 0), (.int (2) 0), (.int (0) 0), (.int (0) 0), (.int (3) 0), (.ref 699), (.bool true), (.int (181) 0), (.ref 700), .none, (.ref 701), (.ref 702), (.ref 703), (.int (1184) 0), (.int (532) 0), (.str ⟨#[47,99,108,97,105,109,47,99,117,116,46,112,121]⟩ 1185)], slots := #[] }
noncomputable def o705 (P : Params) : Obj := { cls := .type "function", dict := none, data := fn (stm 68) ⟨#[112,108,97,99,101,95,105,110]⟩ .none .none (.str ⟨#[108,117,97,46,116,114,101,101,108,105,98]⟩ 821) (.ref 704) 3 0, slots := #[] }
noncomputable def o718 (P : Params) : Obj := { cls := .type "code", dict := none, data := .fields #[(.str ⟨#[116,101,120,116,95,114,101,112]⟩ 1198), (.str ⟨#[116,101,120,116,95,114,101,112]⟩ 1199), (.str ⟨#[47,99,108,97,105,109,47,99,117,116,46,112,121]⟩ 1200), (.int (539) 0), (.int (2) 0), (.int (0) 0), (.int (0) 0), (.int (3) 0), (.ref 713), (.bool true), (.int (181) 0), (.ref 714), .none, (.ref 715), (.ref 716), (.ref 717), (.int (1205) 0), (.int (539) 0), (.str ⟨#[47,99,108,97,105,109,47,99,117,116,46,112,121]⟩ 1206)], slots := #[] }
noncomputable def o719 (P : Params) : Obj := { cls := .type "function", dict := none, data := fn (stm 70) ⟨#[116,101,120,116,95,114,101,112]⟩ .none .none (.str ⟨#[108,117,97,46,116,114,101,101,108,105,98]⟩ 821) (.ref 718) 3 0, slots := #[] }
noncomputable def o740 (P : Params) : Obj := { cls := .type "code", dict := none, data := .fields #[(.str ⟨#[116,101,120,116,95,98,121,116,101]⟩ 1228), (.str ⟨#[116,101,120,116,95,98,121,116,101]⟩ 1229), (.str ⟨#[47,99,108,97,105,109,47,99,117,116,46,112,121]⟩ 1230), (.int (550) 0), (.int (2) 0), (.int (0) 0), (.int (0) 0), (.int (3) 0), (.ref 737), (.bool true), (.int (181) 0), (.ref 738), .none, .none, .none, (.ref 739), (.int (1231) 0), (.int (550) 0), (.str ⟨#[47,99,108,97,105,109,47,99,117,116,46,112,121]⟩ 1232)], slots := #[] }
noncomputable def o741 (P : Params) : Obj := { cls := .type "function", dict := none, data := fn (stm 74) ⟨#[116,101,120,116,95,98,121,116,101]⟩ .none .none (.str ⟨#[108,117,97,46,116,114,101,101,108,105,98]⟩ 821) (.ref 740) 3 0, slots := #[] }
noncomputable def o775 (P : Params) : Obj := { cls := .type "code", dict := none, data := .fields #[(.str ⟨#[115,104,101,108,102]⟩ 1274), (.str ⟨#[115,104,101,108,102]⟩ 1275), (.str ⟨#[47,99,108,97,105,109,47,99,117,116,46,112,121]⟩ 1276), (.int (578) 0), (.int (2) 0), (.int (0) 0), (.int (0) 0), (.int (3) 0), (.ref 770), (.bool true), (.int (181) 0), (.ref 771), .none, (.ref 772), (.ref 773), (.ref 774), (.int (1282) 0), (.int (578) 0), (.str ⟨#[47,99,108,97,105,109,47,99,117,116,46,112,121]⟩ 1283)], slots := #[] }
noncomputable def o776 (P : Params) : Obj := { cls := .type "function", dict := none, data := fn (stm 79) ⟨#[115,104,101,108,102]⟩ .none .none (.str ⟨#[108,117,97,46,116,114,101,101,108,105,98]⟩ 821) (.ref 775) 3 0, slots := #[] }
noncomputable def o778 (P : Params) : Obj := { cls := .none, dict := none, data := .fields #[], slots := #[] }
noncomputable def o782 (P : Params) : Obj := { cls := .type "code", dict := none, data := .fields #[(.str ⟨#[108,105,98,114,97,114,121]⟩ 1285), (.str ⟨#[108,105,98,114,97,114,121]⟩ 1286), (.str ⟨#[47,99,108,97,105,109,47,99,117,116,46,112,121]⟩ 1287), (.int (583) 0), (.int (1) 0), (.int (0) 0), (.int (0) 0), (.int (3) 0), (.ref 777), (.bool true), (.int (181) 0), (.ref 778), .none, (.ref 779), (.ref 780), (.ref 781), (.int (1292) 0), (.int (583) 0), (.str ⟨#[47,99,108,97,105,109,47,99,117,116,46,112,121]⟩ 1293)], slots := #[] }
noncomputable def o783 (P : Params) : Obj := { cls := .type "function", dict := none, data := fn (stm 80) ⟨#[108,105,98,114,97,114,121]⟩ .none .none (.str ⟨#[108,117,97,46,116,114,101,101,108,105,98]⟩ 821) (.ref 782) 3 0, slots := #[] }
noncomputable def o789 (P : Params) : Obj := { cls := .type "code", dict := none, data := .fields #[(.str ⟨#[95,108,97,119,95,116,97,107,101]⟩ 1297), (.str ⟨#[95,108,97,119,95,116,97,107,101]⟩ 1298), (.str ⟨#[47,99,108,97,105,109,47,99,117,116,46,112,121]⟩ 1299), (.int (597) 0), (.int (2) 0), (.int (0) 0), (.int (0) 0), (.int (3) 0), (.ref 784), (.bool true), (.int (181) 0), (.ref 785), .none, (.ref 786), (.ref 787), (.ref 788), (.int (1303) 0), (.int (597) 0), (.str ⟨#[47,99,108,97,105,109,47,99,117,116,46,112,121]⟩ 1304)], slots := #[] }
noncomputable def o790 (P : Params) : Obj := { cls := .type "function", dict := none, data := fn (stm 82) ⟨#[95,108,97,119,95,116,97,107,101]⟩ .none .none (.str ⟨#[108,97,119,95,112,113,48,54,56,54,95,48,50]⟩ 1295) (.ref 789) 3 0, slots := #[] }
noncomputable def o796 (P : Params) : Obj := { cls := .type "code", dict := none, data := .fields #[(.str ⟨#[95,108,97,119,95,104,101,97,114,100]⟩ 1306), (.str ⟨#[95,108,97,119,95,104,101,97,114,100]⟩ 1307), (.str ⟨#[47,99,108,97,105,109,47,99,117,116,46,112,121]⟩ 1308), (.int (601) 0), (.int (4) 0), (.int (0) 0), (.int (0) 0), (.int (3) 0), (.ref 791), (.bool true), (.int (181) 0), (.ref 792), .none, (.ref 793), (.ref 794), (.ref 795), (.int (1316) 0), (.int (601) 0), (.str ⟨#[47,99,108,97,105,109,47,99,117,116,46,112,121]⟩ 1317)], slots := #[] }
noncomputable def o797 (P : Params) : Obj := { cls := .type "function", dict := none, data := fn (stm 83) ⟨#[95,108,97,119,95,104,101,97,114,100]⟩ .none .none (.str ⟨#[108,97,119,95,112,113,48,54,56,54,95,48,50]⟩ 1295) (.ref 796) 3 0, slots := #[] }
noncomputable def o803 (P : Params) : Obj := { cls := .type "code", dict := none, data := .fields #[(.str ⟨#[95,108,97,119,95,114,111,119]⟩ 1319), (.str ⟨#[95,108,97,119,95,114,111,119]⟩ 1320), (.str ⟨#[47,99,108,97,105,109,47,99,117,116,46,112,121]⟩ 1321), (.int (610) 0), (.int (1) 0), (.int (0) 0), (.int (0) 0), (.int (3) 0), (.ref 798), (.bool true), (.int (181) 0), (.ref 799), .none, (.ref 800), (.ref 801), (.ref 802), (.int (1326) 0), (.int (610) 0), (.str ⟨#[47,99,108,97,105,109,47,99,117,116,46,112,121]⟩ 1327)], slots := #[] }
noncomputable def o804 (P : Params) : Obj := { cls := .type "function", dict := none, data := fn (stm 84) ⟨#[95,108,97,119,95,114,111,119]⟩ .none .none (.str ⟨#[108,97,119,95,112,113,48,54,56,54,95,48,50]⟩ 1295) (.ref 803) 3 0, slots := #[] }
noncomputable def o808 (P : Params) : Obj := { cls := .type "code", dict := none, data := .fields #[(.str ⟨#[95,108,97,119,95,112,117,116,95,114,105,103,104,116]⟩ 1329), (.str ⟨#[95,108,97,119,95,112,117,116,95,114,105,103,104,116]⟩ 1330), (.str ⟨#[47,99,108,97,105,109,47,99,117,116,46,112,121]⟩ 1331), (.int (615) 0), (.int (4) 0), (.int (0) 0), (.int (0) 0), (.int (3) 0), (.ref 805), (.bool true), (.int (181) 0), (.ref 806), .none, .none, .none, (.ref 807), (.int (1332) 0), (.int (615) 0), (.str ⟨#[47,99,108,97,105,109,47,99,117,116,46,112,121]⟩ 1333)], slots := #[] }
noncomputable def o809 (P : Params) : Obj := { cls := .type "function", dict := none, data := fn (stm 85) ⟨#[95,108,97,119,95,112,117,116,95,114,105,103,104,116]⟩ .none .none (.str ⟨#[108,97,119,95,112,113,48,54,56,54,95,48,50]⟩ 1295) (.ref 808) 3 0, slots := #[] }
noncomputable def o815 (P : Params) : Obj := { cls := .type "code", dict := none, data := .fields #[(.str ⟨#[95,108,97,119,95,106,111,105,110,101,100,95,114,105,103,104,116]⟩ 1335), (.str ⟨#[95,108,97,119,95,106,111,105,110,101,100,95,114,105,103,104,116]⟩ 1336), (.str ⟨#[47,99,108,97,105,109,47,99,117,116,46,112,121]⟩ 1337), (.int (630) 0), (.int (4) 0), (.int (0) 0), (.int (0) 0), (.int (3) 0), (.ref 810), (.bool true), (.int (181) 0), (.ref 811), .none, (.ref 812), (.ref 813), (.ref 814), (.int (1345) 0), (.int (630) 0), (.str ⟨#[47,99,108,97,105,109,47,99,117,116,46,112,121]⟩ 1346)], slots := #[] }
noncomputable def o816 (P : Params) : Obj := { cls := .type "function", dict := none, data := fn (stm 86) ⟨#[95,108,97,119,95,106,111,105,110,101,100,95,114,105,103,104,116]⟩ .none .none (.str ⟨#[108,97,119,95,112,113,48,54,56,54,95,48,50]⟩ 1295) (.ref 815) 3 0, slots := #[] }
noncomputable def o822 (P : Params) : Obj := { cls := .type "code", dict := none, data := .fields #[(.str ⟨#[95,108,97,119,95,116,111,108,100,95,114,105,103,104,116]⟩ 1348), (.str ⟨#[95,108,97,119,95,116,111,108,100,95,114,105,103,104,116]⟩ 1349), (.str ⟨#[47,99,108,97,105,109,47,99,117,116,46,112,121]⟩ 1350), (.int (635) 0), (.int (3) 0), (.int (0) 0), (.int (0) 0), (.int (3) 0), (.ref 817), (.bool true), (.int (181) 0), (.ref 818), .none, (.ref 819), (.ref 820), (.ref 821), (.int (1359) 0), (.int (635) 0), (.str ⟨#[47,99,108,97,105,109,47,99,117,116,46,112,121]⟩ 1360)], slots := #[] }
noncomputable def o823 (P : Params) : Obj := { cls := .type "function", dict := none, data := fn (stm 87) ⟨#[95,108,97,119,95,116,111,108,100,95,114,105,103,104,116]⟩ .none .none (.str ⟨#[108,97,119,95,112,113,48,54,56,54,95,48,50]⟩ 1295) (.ref 822) 3 0, slots := #[] }
noncomputable def o825 (P : Params) : Obj := { cls := .none, dict := none, data := .fields #[], slots := #[] }
noncomputable def o829 (P : Params) : Obj := { cls := .type "code", dict := none, data := .fields #[(.str ⟨#[95,108,97,119,95,112,114,105,110,116,95,114,105,103,104,116]⟩ 1362), (.str ⟨#[95,108,97,119,95,112,114,105,110,116,95,114,105,103,104,116]⟩ 1363), (.str ⟨#[47,99,108,97,105,109,47,99,117,116,46,112,121]⟩ 1364), (.int (643) 0), (.int (3) 0), (.int (0) 0), (.int (0) 0), (.int (3) 0), (.ref 824), (.bool true), (.int (181) 0), (.ref 825), .none, (.ref 826), (.ref 827), (.ref 828), (.int (1371) 0), (.int (643) 0), (.str ⟨#[47,99,108,97,105,109,47,99,117,116,46,112,121]⟩ 1372)], slots := #[] }
noncomputable def o830 (P : Params) : Obj := { cls := .type "function", dict := none, data := fn (stm 88) ⟨#[95,108,97,119,95,112,114,105,110,116,95,114,105,103,104,116]⟩ .none .none (.str ⟨#[108,97,119,95,112,113,48,54,56,54,95,48,50]⟩ 1295) (.ref 829) 3 0, slots := #[] }
noncomputable def o834 (P : Params) : Obj := { cls := .type "code", dict := none, data := .fields #[(.str ⟨#[108,97,119]⟩ 1374), (.str ⟨#[108,97,119]⟩ 1375), (.str ⟨#[47,99,108,97,105,109,47,99,117,116,46,112,121]⟩ 1376), (.int (654) 0), (.int (1) 0), (.int (0) 0), (.int (0) 0), (.int (3) 0), (.ref 831), (.bool true), (.int (181) 0), (.ref 832), .none, .none, .none, (.ref 833), (.int (1377) 0), (.int (654) 0), (.str ⟨#[47,99,108,97,105,109,47,99,117,116,46,112,121]⟩ 1378)], slots := #[] }
noncomputable def o835 (P : Params) : Obj := { cls := .type "function", dict := none, data := fn (stm 89) ⟨#[108,97,119]⟩ .none .none (.str ⟨#[108,97,119,95,112,113,48,54,56,54,95,48,50]⟩ 1295) (.ref 834) 3 0, slots := #[] }
noncomputable def asK : List Nat := [0,2,3,4,29,35,36,52,53,70,71,73,74,83,84,146,147,153,154,160,161,167,168,181,182,195,196,202,203,209,210,216,217,223,224,233,234,251,252,254,255,265,266,272,273,279,280,293,294,296,297,314,315,328,329,335,336,342,343,349,350,356,357,363,364,370,371,377,378,398,399,405,406,412,413,450,451,461,462,489,490,496,497,503,504,510,511,517,518,648,649,662,663,704,705,718,719,740,741,775,776,778,782,783,789,790,796,797,803,804,808,809,815,816,822,823,825,829,830,834,835]
noncomputable def hK (P : Params) : Frag := [(0, o0 P), (2, o2 P), (3, o3 P), (4, o4 P), (29, o29 P), (35, o35 P), (36, o36 P), (52, o52 P), (53, o53 P), (70, o70 P), (71, o71 P), (73, o73 P), (74, o74 P), (83, o83 P), (84, o84 P), (146, o146 P), (147, o147 P), (153, o153 P), (154, o154 P), (160, o160 P), (161, o161 P), (167, o167 P), (168, o168 P), (181, o181 P), (182, o182 P), (195, o195 P), (196, o196 P), (202, o202 P), (203, o203 P), (209, o209 P), (210, o210 P), (216, o216 P), (217, o217 P), (223, o223 P), (224, o224 P), (233, o233 P), (234, o234 P), (251, o251 P), (252, o252 P), (254, o254 P), (255, o255 P), (265, o265 P), (266, o266 P), (272, o272 P), (273, o273 P), (279, o279 P), (280, o280 P), (293, o293 P), (294, o294 P), (296, o296 P), (297, o297 P), (314, o314 P), (315, o315 P), (328, o328 P), (329, o329 P), (335, o335 P), (336, o336 P), (342, o342 P), (343, o343 P), (349, o349 P), (350, o350 P), (356, o356 P), (357, o357 P), (363, o363 P), (364, o364 P), (370, o370 P), (371, o371 P), (377, o377 P), (378, o378 P), (398, o398 P), (399, o399 P), (405, o405 P), (406, o406 P), (412, o412 P), (413, o413 P), (450, o450 P), (451, o451 P), (461, o461 P), (462, o462 P), (489, o489 P), (490, o490 P), (496, o496 P), (497, o497 P), (503, o503 P), (504, o504 P), (510, o510 P), (511, o511 P), (517, o517 P), (518, o518 P), (648, o648 P), (649, o649 P), (662, o662 P), (663, o663 P), (704, o704 P), (705, o705 P), (718, o718 P), (719, o719 P), (740, o740 P), (741, o741 P), (775, o775 P), (776, o776 P), (778, o778 P), (782, o782 P), (783, o783 P), (789, o789 P), (790, o790 P), (796, o796 P), (797, o797 P), (803, o803 P), (804, o804 P), (808, o808 P), (809, o809 P), (815, o815 P), (816, o816 P), (822, o822 P), (823, o823 P), (825, o825 P), (829, o829 P), (830, o830 P), (834, o834 P), (835, o835 P)]
noncomputable def looseK : List Str := [⟨#[95,119,97,108,108]⟩, ⟨#[66,76,65,78,75,83]⟩, ⟨#[76,105,109,105,116,115]⟩, ⟨#[76,117,97,69,114,114,111,114]⟩, ⟨#[105,115,95,110,117,109,98,101,114]⟩, ⟨#[105,115,95,102,97,108,115,101]⟩, ⟨#[119,114,97,112]⟩, ⟨#[105,115,95,98,108,97,110,107]⟩, ⟨#[100,105,103,105,116,95,111,102]⟩, ⟨#[114,101,97,100,95,100,105,103,105,116,115]⟩, ⟨#[115,107,105,112,95,98,108,97,110,107,115]⟩, ⟨#[115,116,114,95,116,111,95,110,117,109,98,101,114]⟩, ⟨#[116,101,120,116,95,105,110,95,98,97,115,101]⟩, ⟨#[116,111,95,110,117,109,98,101,114]⟩, ⟨#[110,117,109,98,101,114,95,116,101,120,116]⟩, ⟨#[116,111,95,116,101,120,116]⟩, ⟨#[99,95,116,101,120,116]⟩, ⟨#[102,105,114,115,116,95,108,105,110,101]⟩, ⟨#[99,104,117,110,107,95,105,100]⟩, ⟨#[77,79,83,84,95,68,69,69,80]⟩, ⟨#[72,79,83,84,95,67,65,76,76]⟩, ⟨#[84,114,101,101,84,97,98,108,101]⟩, ⟨#[66,117,105,108,116,105,110]⟩, ⟨#[116,114,101,101,95,116,121,112,101]⟩, ⟨#[115,97,109,101]⟩, ⟨#[105,115,95,102,117,110,99,116,105,111,110]⟩, ⟨#[70,114,97,109,101]⟩, ⟨#[72,111,115,116]⟩, ⟨#[78,69,88,84]⟩, ⟨#[78,69,88,84,95,87,72,79,76,69]⟩, ⟨#[97,114,103,117,109,101,110,116]⟩, ⟨#[103,105,118,101,110,95,116,121,112,101]⟩, ⟨#[114,101,102,117,115,101,95,97,114,103,117,109,101,110,116]⟩, ⟨#[110,101,101,100,95,97,110,121]⟩, ⟨#[110,101,101,100,95,110,117,109,98,101,114]⟩, ⟨#[110,117,109,98,101,114,95,111,114]⟩, ⟨#[110,101,101,100,95,116,101,120,116]⟩, ⟨#[110,101,101,100,95,116,97,98,108,101]⟩, ⟨#[98,97,115,101,95,112,114,105,110,116]⟩, ⟨#[115,104,111,119,110]⟩, ⟨#[98,97,115,101,95,116,121,112,101]⟩, ⟨#[98,97,115,101,95,116,111,115,116,114,105,110,103]⟩, ⟨#[98,97,115,101,95,116,111,110,117,109,98,101,114]⟩, ⟨#[98,97,115,101,95,110,101,120,116]⟩, ⟨#[98,97,115,101,95,112,97,105,114,115]⟩, ⟨#[110,101,120,116,95,119,104,111,108,101]⟩, ⟨#[98,97,115,101,95,105,112,97,105,114,115]⟩, ⟨#[98,97,115,101,95,114,97,119,103,101,116]⟩, ⟨#[98,97,115,101,95,114,97,119,115,101,116]⟩, ⟨#[98,97,115,101,95,114,97,119,101,113,117,97,108]⟩, ⟨#[98,97,115,101,95,115,101,108,101,99,116]⟩, ⟨#[98,97,115,101,95,117,110,112,97,99,107]⟩, ⟨#[98,97,115,101,95,97,115,115,101,114,116]⟩, ⟨#[98,97,115,101,95,101,114,114,111,114]⟩, ⟨#[98,97,115,101,95,112,99,97,108,108]⟩, ⟨#[98,97,115,101,95,115,101,116,109,101,116,97,116,97,98,108,101]⟩, ⟨#[98,97,115,101,95,103,101,116,109,101,116,97,116,97,98,108,101]⟩, ⟨#[116,97,98,108,101,95,105,110,115,101,114,116]⟩, ⟨#[116,97,98,108,101,95,114,101,109,111,118,101]⟩, ⟨#[116,97,98,108,101,95,99,111,110,99,97,116]⟩, ⟨#[116,97,98,108,101,95,103,101,116,110]⟩, ⟨#[116,97,98,108,101,95,109,97,120,110]⟩, ⟨#[116,97,98,108,101,95,115,111,114,116]⟩, ⟨#[99,111,109,101,115,95,102,105,114,115,116]⟩, ⟨#[116,101,120,116,95,108,101,110]⟩, ⟨#[112,108,97,99,101,95,105,110]⟩, ⟨#[116,101,120,116,95,115,117,98]⟩, ⟨#[116,101,120,116,95,114,101,112]⟩, ⟨#[116,101,120,116,95,114,101,118,101,114,115,101]⟩, ⟨#[116,101,120,116,95,108,111,119,101,114]⟩, ⟨#[116,101,120,116,95,117,112,112,101,114]⟩, ⟨#[116,101,120,116,95,98,121,116,101]⟩, ⟨#[116,101,120,116,95,99,104,97,114]⟩, ⟨#[109,97,116,104,95,97,98,115]⟩, ⟨#[109,97,116,104,95,109,97,120]⟩, ⟨#[109,97,116,104,95,109,105,110]⟩, ⟨#[115,104,101,108,102]⟩, ⟨#[108,105,98,114,97,114,121]⟩, ⟨#[95,108,97,119,95,116,97,107,101]⟩, ⟨#[95,108,97,119,95,104,101,97,114,100]⟩, ⟨#[95,108,97,119,95,114,111,119]⟩, ⟨#[95,108,97,119,95,112,117,116,95,114,105,103,104,116]⟩, ⟨#[95,108,97,119,95,106,111,105,110,101,100,95,114,105,103,104,116]⟩, ⟨#[95,108,97,119,95,116,111,108,100,95,114,105,103,104,116]⟩, ⟨#[95,108,97,119,95,112,114,105,110,116,95,114,105,103,104,116]⟩]
noncomputable def T0 (P : Params) : BT := (((((((((((BT.nil.ins 0 (boot_o_0 P)).ins 1 (boot_o_1 P)).ins 2 (boot_o_2 P)).ins 3 (boot_o_3 P)).ins 4 (boot_o_4 P)).ins 5 (boot_o_5 P)).ins 6 (boot_o_6 P)).ins 7 (boot_o_7 P)).ins 8 (boot_o_8 P)).ins 9 (boot_o_9 P)).ins 10 (boot_o_10 P))
theorem boot_is (P : Params) : boot_heap P = absHeap (T0 P) 11 {} := by kernel_rfl
end Mine
end

noncomputable section
open PySem PySem.W PySem.W.X PyProof.Rows
set_option maxRecDepth 1000000
set_option maxHeartbeats 0
namespace Mine
noncomputable def topSee (p q : Program) (loose mods : List Str) (m₀ : Nat) (ann : Option Value) (M : Nat) (st : SharedT) (bh : Heap) (as : List Addr) (w : World) :=
  (topT treeTable p w m₀ ann M st (topStub p)).map
        (fun s => (staticsOk mods bh s.abs.heap && namesBound p s.abs.heap && gensDone s.abs && laidKept bh s.abs.heap,
          openSeen q loose mods (fun _ => true) true s.abs, (as.all fun a => Nat.blt a s.n), seeT s.tree as, s.n, s.toks))
theorem topSee_rfl : @topSee = @topSee := rfl
end Mine
lay_quick Mine.topSee
name_quick topSeeQ for Mine.topSee by Mine.topSee_rfl
end

noncomputable section
open PySem PySem.W PySem.W.X PyProof.Rows
set_option maxRecDepth 1000000
set_option maxHeartbeats 0
namespace Mine
theorem opens : opening pw = plainProg pw.main.scope.names := by kernel_rfl
theorem open1 : ∀ w : World, (fencedOpening treeTable pw w 6000).map (fun s => (s.heap, s.gens, s.drawn, s.toks)) = some (boot_heap w.params, Array.mk [], boot_drawn, boot_toks) :=
  boot_open opens (by kernel_rfl) (fun s => by kernel_rfl)
theorem size1 : ∀ w : World, ((boot_heap w.params).isNs mainGlobals, (boot_heap w.params).objs.size, (boot_heap w.params).nsMap mainGlobals "__annotations__") = (true, 11, some (.ref 6)) := fun w => by kernel_rfl
noncomputable abbrev qw : Program := { pw with main := { pw.main with body := pw.main.body.drop 89 } }
theorem run1 : ∀ (w : World) (os : OsState), topSee pw qw looseK (importedModules pw.main.body) 11 (some (.ref 6)) 5000 ⟨T0 w.params, 11, {}, Array.mk [], boot_drawn, boot_toks, os⟩ (boot_heap w.params) asK w =
   some (true, openGood qw looseK, true, (hK w.params).map fun x => some x.2,836,1380) := fun w os => by
  rw [PySem.W.Fast.topSeeQ_eq]
  kernel_rfl
end Mine
end

noncomputable section
open PySem PySem.W PySem.W.X PyProof.Rows
set_option maxRecDepth 1000000
set_option maxHeartbeats 0
namespace Mine
theorem left1 : LeftO pw qw looseK (fun _ => true) (obsZ asK) (valZ hK 836 1380) 6000 :=
  leftO_of open1 boot_is size1 (fun w os => run1 w os) (by kernel_rfl)
theorem ws_rfl : @OpenLaw.wellSaid = @OpenLaw.wellSaid := rfl
end Mine
name_quick wellQ for PySem.W.OpenLaw.wellSaid by Mine.ws_rfl
namespace Mine
theorem well1 : PySem.Challenge.rw_pq0686_02.wellSaid = true := by
  rw [PySem.W.Fast.wellQ_eq]
  kernel_rfl
end Mine
end

noncomputable section
open PySem PySem.W PySem.W.X PyProof.Rows
set_option maxRecDepth 1000000
set_option maxHeartbeats 0
namespace Mine
noncomputable def dLaw : DefRec := match stm 89 with
  | .FunctionDef name args body _ _ _ scope _ _ pos => { name := name, params := args, body := body, scope := scope, pos := pos }
  | _ => { name := "law", params := { posonlyargs := [], args := [], vararg := none, kwonlyargs := [], kw_defaults := [], kwarg := none, defaults := [] }, body := [], scope := { kind := .function, names := [], isGenerator := false, isCoroutine := false, more := [] }, pos := ⟨0,0,0,0⟩ }
abbrev rL : OpenRow := PySem.Challenge.rw_pq0686_02.row
theorem hdef1 : defOf qw rL.name = some (dLaw, []) := by kernel_rfl
theorem hp1 : rL.prog.theDef rL.name = some (dLaw.params, dLaw.body, dLaw.scope) := by kernel_rfl
theorem hk1 : kwWritten? dLaw.params.kwonlyargs dLaw.params.kw_defaults = some [] := by kernel_rfl
theorem ok1 : (chainsOk qw && opensWell rL.prog && (frees rL.toRowW && rL.toRowW.within.isEmpty)) = true := by kernel_rfl
theorem bare1 : rL.prog.bare := ⟨rfl, rfl, rfl, rfl, rfl, by decide +kernel⟩
theorem prom1 : rL.toRowW.promised := ⟨[.list []], by kernel_rfl, by kernel_rfl⟩
theorem head (call : WalkX qw looseK (fun _ _ => True) (obsZ asK) (valZ hK 836 1380) rL.toRowW dLaw [] fun f vs => PySem.call f vs) : PySem.Challenge.rw_pq0686_02.Holds :=
  holds_law well1 fun k1 => holds_openX (r := rL) (q := qw) (loose := looseK) (Xt := fun _ => true) (XP := fun _ _ => True) (Yf := obsZ asK) (Ya := valZ hK 836 1380) (N := 6000) left1
    (fun _ _ => trivial) (fun _ _ _ _ _ => trivial) hdef1 hp1 hk1 (fun _ _ => recFacts_of rfl) (by kernel_rfl) k1 ok1 bare1 prom1 call
noncomputable def kt0 (P : Params) : KT := (.node (some (o0 P)) (.node none (.node (some (o3 P)) (.node none (.node none (.node none (.node none (.node none (.node (some (o255 P)) (.node (some (o511 P)) .nil .nil) .nil) .nil) .nil) (.node none .nil (.node (some (o223 P)) .nil .nil))) (.node none (.node none (.node none (.node none .nil (.node (some (o783 P)) .nil .nil)) (.node (some (o399 P)) .nil .nil)) (.node none (.node (some (o335 P)) .nil .nil) (.node none (.node (some (o719 P)) .nil .nil) .nil))) (.node none (.node none (.node none .nil (.node (some (o815 P)) .nil .nil)) .nil) .nil))) (.node none (.node none (.node (some (o71 P)) (.node none (.node none .nil (.node (some (o775 P)) .nil .nil)) .nil) .nil) (.node none (.node (some (o167 P)) .nil .nil) .nil)) (.node none (.node none (.node none (.node (some (o279 P)) .nil .nil) (.node none (.node (some (o663 P)) .nil .nil) .nil)) (.node none (.node (some (o343 P)) .nil .nil) .nil)) (.node none (.node none (.node none .nil (.node (some (o823 P)) .nil .nil)) .nil) (.node none .nil (.node (some (o503 P)) .nil .nil)))))) (.node none (.node none (.node (some (o35 P)) (.node none .nil (.node (some (o195 P)) (.node none .nil (.node (some (o835 P)) .nil .nil)) (.node (some (o451 P)) .nil .nil))) (.node none (.node none (.node none .nil (.node (some (o803 P)) .nil .nil)) .nil) .nil)) (.node none (.node (some (o83 P)) (.node (some (o147 P)) .nil .nil) .nil) (.node none .nil (.node none (.node (some (o371 P)) .nil .nil) .nil)))) (.node none (.node none (.node none .nil (.node (some (o203 P)) .nil .nil)) (.node none .nil (.node none (.node (some (o363 P)) .nil .nil) .nil))) (.node none .nil (.node none (.node none (.node (some (o315 P)) .nil .nil) .nil) (.node (some (o251 P)) .nil .nil)))))) (.node none (.node none (.node none (.node none (.node none .nil (.node none .nil (.node none (.node (some (o705 P)) .nil .nil) .nil))) (.node none (.node (some (o161 P)) .nil .nil) .nil)) (.node none (.node none (.node none (.node (some (o273 P)) .nil .nil) .nil) (.node (some (o209 P)) .nil .nil)) (.node none .nil (.node none .nil (.node (some (o497 P)) .nil .nil))))) (.node none (.node none (.node (some (o73 P)) (.node none (.node (some (o265 P)) .nil .nil) (.node none (.node (some (o649 P)) .nil .nil) .nil)) (.node none (.node (some (o329 P)) .nil .nil) .nil)) (.node none (.node none (.node (some (o297 P)) .nil (.node (some (o809 P)) .nil .nil)) .nil) (.node (some (o233 P)) .nil (.node (some (o489 P)) .nil .nil)))) (.node none (.node none (.node (some (o153 P)) .nil .nil) (.node (some (o217 P)) .nil .nil)) (.node none .nil (.node none (.node (some (o377 P)) .nil .nil) .nil))))) (.node none (.node none (.node none (.node none (.node none (.node none (.node (some (o517 P)) .nil .nil) .nil) .nil) .nil) (.node none (.node none (.node (some (o293 P)) .nil .nil) .nil) (.node none (.node (some (o357 P)) .nil .nil) (.node none (.node (some (o741 P)) .nil .nil) .nil)))) (.node (some (o53 P)) (.node none (.node none (.node none .nil (.node (some (o789 P)) .nil .nil)) (.node (some (o405 P)) .nil .nil)) .nil) (.node none (.node (some (o181 P)) .nil .nil) .nil))) (.node (some (o29 P)) (.node none (.node none .nil (.node none .nil (.node (some (o461 P)) .nil .nil))) .nil) (.node none (.node none (.node none (.node none .nil (.node (some (o797 P)) .nil .nil)) (.node (some (o413 P)) .nil .nil)) (.node none (.node (some (o349 P)) .nil .nil) .nil)) (.node none (.node none (.node none .nil (.node (some (o829 P)) .nil .nil)) .nil) .nil)))))) (.node (some (o2 P)) (.node (some (o4 P)) (.node none (.node none (.node none (.node none .nil (.node none .nil (.node none (.node (some (o704 P)) .nil .nil) .nil))) (.node none (.node (some (o160 P)) .nil .nil) (.node (some (o224 P)) .nil .nil))) (.node none (.node none (.node none (.node (some (o272 P)) .nil .nil) .nil) (.node none (.node (some (o336 P)) .nil .nil) .nil)) (.node none (.node none (.node none .nil (.node (some (o816 P)) .nil .nil)) .nil) (.node none .nil (.node (some (o496 P)) .nil .nil))))) (.node none (.node none (.node none (.node none (.node none .nil (.node (some (o776 P)) .nil .nil)) (.node none (.node (some (o648 P)) .nil .nil) .nil)) (.node none (.node (some (o328 P)) .nil .nil) .nil)) (.node none (.node (some (o168 P)) (.node (some (o296 P)) .nil (.node (some (o808 P)) .nil .nil)) .nil) .nil)) (.node none (.node none (.node none (.node (some (o280 P)) .nil .nil) .nil) (.node (some (o216 P)) .nil .nil)) (.node none .nil (.node none .nil (.node (some (o504 P)) .nil .nil)))))) (.node none (.node none (.node (some (o36 P)) (.node none .nil (.node (some (o196 P)) .nil .nil)) (.node none (.node none (.node none .nil (.node (some (o804 P)) .nil .nil)) .nil) (.node none (.node (some (o356 P)) .nil .nil) (.node none (.node (some (o740 P)) .nil .nil) .nil)))) (.node (some (o52 P)) (.node (some (o84 P)) .nil .nil) .nil)) (.node none (.node none .nil (.node none .nil (.node none (.node (some (o364 P)) .nil .nil) .nil))) (.node none (.node none (.node none (.node none .nil (.node (some (o796 P)) .nil .nil)) (.node (some (o412 P)) .nil .nil)) .nil) (.node none .nil (.node (some (o252 P)) .nil .nil)))))) (.node none (.node none (.node none (.node none (.node none .nil (.node none (.node none .nil (.node (some (o834 P)) .nil .nil)) (.node (some (o450 P)) .nil .nil))) .nil) (.node none (.node none (.node (some (o146 P)) .nil .nil) (.node (some (o210 P)) .nil .nil)) (.node none .nil (.node none (.node (some (o370 P)) .nil .nil) .nil)))) (.node none (.node none (.node (some (o74 P)) (.node none (.node (some (o266 P)) .nil .nil) .nil) (.node (some (o202 P)) .nil .nil)) (.node none .nil (.node (some (o234 P)) .nil (.node (some (o490 P)) .nil .nil)))) (.node none (.node none (.node (some (o154 P)) .nil .nil) .nil) (.node none (.node none (.node (some (o314 P)) .nil .nil) .nil) (.node none (.node (some (o378 P)) .nil .nil) .nil))))) (.node none (.node none (.node none (.node (some (o70 P)) (.node none (.node none (.node (some (o518 P)) .nil .nil) .nil) .nil) .nil) (.node none (.node none (.node (some (o294 P)) .nil .nil) .nil) .nil)) (.node none (.node none (.node none (.node none .nil (.node (some (o790 P)) .nil .nil)) (.node (some (o406 P)) (.node (some (o662 P)) .nil .nil) .nil)) (.node none (.node (some (o342 P)) .nil .nil) .nil)) (.node none (.node (some (o182 P)) (.node none .nil (.node (some (o822 P)) .nil .nil)) .nil) .nil))) (.node none (.node none (.node none (.node none (.node none .nil (.node (some (o782 P)) .nil .nil)) (.node (some (o398 P)) .nil .nil)) (.node none .nil (.node (some (o462 P)) (.node (some (o718 P)) .nil .nil) .nil))) .nil) (.node none (.node none .nil (.node none (.node (some (o350 P)) .nil .nil) .nil)) (.node none (.node none (.node none .nil (.node (some (o830 P)) .nil .nil)) .nil) (.node (some (o254 P)) .nil (.node (some (o510 P)) .nil .nil)))))))))
noncomputable def VV (w : World) : Vn := ⟨rL.prog, w, kt0 w.params, 837⟩
noncomputable def h2 (P : Params) : Heap := ⟨#[o2 P, o2 P, o2 P], {}⟩
theorem ns2g (P : Params) : (h2 P).get? cStatics = some (o2 P) := rfl
theorem ns2 (P : Params) : (h2 P).noLimitOk = true := by
  unfold Heap.noLimitOk Heap.isNs Heap.nsMap
  rw [ns2g]
  kernel_rfl
theorem kt2 (P : Params) : (kt0 P).get cStatics = some (o2 P) := by kernel_rfl
theorem vok (w : World) : VOk (VV w) := ⟨fun h H => Heap.NoLimit.at (Heap.NoLimit.of_ok (ns2 w.params)) fun o e => by
  rw [ns2g] at e
  cases e
  exact kt_get (V := VV w) H (kt2 w.params)⟩
end Mine
end

noncomputable section
open PySem PySem.W PySem.W.X PySem.W.ZRun PyProof.Rows
set_option maxRecDepth 1000000
set_option maxHeartbeats 0
namespace Mine
noncomputable abbrev oTab (vs : Array Value) : Obj := { cls := .none, data := .fields vs }
noncomputable def S_law (its : Array Value) (nd : List Bool) (u : Bool) : Spec := { code := .call (.ref 835) ⟨[.ref 836], []⟩, dep := 320, need := nd, bel := some ([], u), pre := [(836, { cls := .type "list", data := .seq its }), (778, oTab #[]), (825, oTab #[])], touch := [1,2], na := 0, nt := 2, res := fun _ _ => .ok (.ret (.bool true)), postT := fun _ ts => [some (oTab #[.int 585 0, .int 4 0, .ref (nth ts 0)]), some (oTab #[.int 646 0, .int 54 0, .ref (nth ts 1)])], postN := fun _ _ => [] }
theorem law_keeps {its : Array Value} {nd : List Bool} {u : Bool} {as ts : List Nat} {h h' : Heap} (E : (S_law its nd u).Ends as ts h h') (t1 : isCodeTable h 778) (t2 : isCodeTable h 825) (o1 : h.get? 778 = some (oTab #[])) (o2 : h.get? 825 = some (oTab #[])) : OldK h h' := by
  have p1 := E.postT 0 (by show 0 < 2; decide) _ rfl
  have p2 := E.postT 1 (by show 1 < 2; decide) _ rfl
  have q1 : h'.get? 778 = some (oTab #[.int 585 0, .int 4 0, .ref (nth ts 0)]) := p1
  have q2 : h'.get? 825 = some (oTab #[.int 646 0, .int 54 0, .ref (nth ts 1)]) := p2
  have keep : ∀ b o, h.get? b = some o → b ≠ 778 → b ≠ 825 → h'.get? b = some o := fun b o e n1 n2 => E.keep b o e (by
    show b ∉ [778,825]
    simp [n1, n2])
  refine ⟨fun b o e => ?_, fun b o e => ?_⟩
  · by_cases n1 : b = 778
    · subst n1; rw [o1] at e; cases e
      exact .inr (.inl ⟨t1, rfl, #[], _, rfl, by rw [q1, Array.empty_append]⟩)
    by_cases n2 : b = 825
    · subst n2; rw [o2] at e; cases e
      exact .inr (.inl ⟨t2, rfl, #[], _, rfl, by rw [q2, Array.empty_append]⟩)
    exact .inl (keep b o e n1 n2)
  · by_cases n1 : b = 778
    · subst n1; exact ⟨_, q1⟩
    by_cases n2 : b = 825
    · subst n2; exact ⟨_, q2⟩
    exact ⟨_, keep b o e n1 n2⟩
noncomputable def scriptOk (its : Array Value) : Bool := Nat.blt its.size 1000 && its.toList.all fun v => match v with | .int _ _ => true | _ => false
theorem in_of {h : Heap} {K : Frag} {a : Addr} {o : Obj} (A : AllIn h K) (m : (a, o) ∈ K) : h.get? a = some o := by
  induction K with
  | nil => cases m
  | cons p K ih => cases m with
    | head => exact A.1
    | tail _ m => exact ih A.2 m
noncomputable def noTab (p : Addr × Obj) : Bool := !(Nat.beq p.1 778 || Nat.beq p.1 825)
noncomputable abbrev hK0 (P : Params) : Frag := List.filter noTab (hK P)
theorem kt0_is (P : Params) : kt0 P = KT.of (hK0 P) := by kernel_rfl
theorem allIn_filter {h : Heap} {f : Addr × Obj → Bool} {K : Frag} (A : AllIn h K) : AllIn h (K.filter f) := by
  induction K with
  | nil => exact trivial
  | cons p K ih =>
    rw [List.filter_cons]
    by_cases hp : f p = true
    · rw [if_pos hp]; exact ⟨A.1, ih A.2⟩
    · rw [if_neg hp]; exact ih A.2
theorem hK0_in {h : Heap} {P : Params} (A : AllIn h (hK P)) : AllIn h (hK0 P) := @allIn_filter h noTab (hK P) A
theorem holds_eq {h : Heap} {t t' : KT} (e : t = t') (H : KT.Holds h 1 0 t') : KT.Holds h 1 0 t := by rw [e]; exact H
theorem holds_fr {h : Heap} {t : KT} {K : Frag} (e : t = KT.of K) (A : AllIn h K) : KT.Holds h 1 0 t := holds_eq e (holds_of A)
theorem kt0_holds {h : Heap} {P : Params} (A : AllIn h (hK P)) : KT.Holds h 1 0 (kt0 P) := @holds_fr h (kt0 P) (hK0 P) (kt0_is P) (@allIn_filter h noTab (hK P) A)
theorem ints_len : ∀ {vs : List Value} {ns : List Int}, IntsAre vs ns → vs.length = ns.length ∧ (vs.all fun v => match v with | .int _ _ => true | _ => false) = true
  | _, _, .nil => ⟨rfl, rfl⟩
  | _, _, .cons n t h => by
    have := ints_len h
    exact ⟨by rw [List.length_cons, List.length_cons, this.1], by rw [List.all_cons, this.2]; rfl⟩
theorem ints_ok {vs : List Value} {ns : List Int} (h : IntsAre vs ns) (l : ns.length ≤ 63) : scriptOk vs.toArray = true := by
  have := ints_len h
  unfold scriptOk
  rw [Bool.and_eq_true]
  refine ⟨Nat.ble_eq_true_of_le ?_, this.2⟩
  show vs.toArray.size + 1 ≤ 1000
  rw [List.size_toArray, this.1]; omega
theorem allIn_keeps {h h' : Heap} (k : ∀ b o, h.get? b = some o → h'.get? b = some o) {K : Frag} (A : AllIn h K) : AllIn h' K := by
  induction K with
  | nil => exact trivial
  | cons p K ih => exact ⟨k _ _ A.1, ih A.2⟩
theorem envsB_eq : ∀ l : List (Code × Pos), envsB l = envsOf l
  | [] => rfl
  | x :: l => by
    obtain ⟨c, p⟩ := x
    rw [envsOf_cons, ← envsB_eq l]
    show cenvs c ++ envsB l = _
    congr 1
    unfold cenvs Code.envs
    cases c.isFrame with
    | true => cases c.env? <;> rfl
    | false => rfl
theorem law_end {w : World} {s₁ : Shared} {its : List Value} {ns : List Int} {cl : Str → Option Addr} {mean : ExcName → Option Value} (hlaw : ∀ (w : World) (its : Array Value) (u : Bool), (S_law its [scriptOk its] u).Holds (VV w))
    (KX : (hK w.params).In s₁.heap) (A1 : AllIn s₁.heap (hK w.params)) (hsz : s₁.heap.objs.size = 837) (hobj : s₁.heap.get? 836 = some { cls := .type "list", data := .seq its.toArray }) (hI : IntsAre its ns) (hc : ¬ ((63 : Nat) : Int) < (ns.length : Int)) (hg : s₁.gens = #[]) (args : List WData)
    (hr : ∀ cls, rL.claim.raises args cls = false) (hp : rL.claim.post args (.bool true) args = true) :
    wpAny (model rL.prog w) callerA (call (.ref 835) [.ref 836]) (fun v s' => GoodWG rL.claim cl mean args s₁ (.ok (.ret v)) s') (fun e s' => GoodWG rL.claim cl mean args s₁ (.error e) s') s₁ := by
  intro Γ p hΓ
  have o1 : s₁.heap.get? 778 = some (oTab #[]) := KX 778 _ (by kernel_rfl)
  have o2 : s₁.heap.get? 825 = some (oTab #[]) := KX 825 _ (by kernel_rfl)
  have c1 : s₁.heap.get? 782 = some (o782 w.params) := KX 782 _ (by kernel_rfl)
  have c2 : s₁.heap.get? 829 = some (o829 w.params) := KX 829 _ (by kernel_rfl)
  have t1 : isCodeTable s₁.heap 778 := ⟨782, _, _, c1, rfl, rfl, rfl⟩
  have t2 : isCodeTable s₁.heap 825 := ⟨829, _, _, c2, rfl, rfl, rfl⟩
  obtain ⟨h, g, d, t, os⟩ := s₁
  cases hg
  have hes : cenvs Γ.code ++ envsB Γ.below = [] := by
    have := hΓ.2.2.1 [] rfl
    rw [← envsB_eq] at this
    rw [← this]
    congr 1
    unfold cenvs Code.envs
    cases Γ.code.isFrame with
    | true => cases Γ.code.env? <;> rfl
    | false => rfl
  have hb : Low (Γ.enter (.call (.ref 835) ⟨[.ref 836], []⟩) none p).below 320 := by
    show Low ((Γ.code, p) :: Γ.below) 320
    have h1 := hΓ.2.1
    have h2 : callerA.depth = 301 := rfl
    have h3 : Γ.units ≤ callerA.units := hΓ.2.2.2.2
    have h4 : callerA.units = 4 := rfl
    refine ⟨?_, ?_⟩
    · rw [frameCount_cons]; omega
    · rw [unitsOf_cons]
      unfold Ctx.units at h3
      omega
  have At : (S_law its.toArray [scriptOk its.toArray] (ucB (Γ.enter (.call (.ref 835) ⟨[.ref 836], []⟩) none p).below)).At (VV w) h := by
    refine ⟨kt0_holds A1, fun q hq => ?_, fun q hq => ?_, ?_, by show 837 ≤ h.objs.size; rw [show h.objs.size = 837 from hsz]; exact Nat.le_refl _, fun b hb => ?_⟩
    · change q ∈ [(836, ({ cls := .type "list", data := .seq its.toArray } : Obj)), (778, oTab #[]), (825, oTab #[])] at hq
      simp only [List.mem_cons, List.not_mem_nil, or_false] at hq
      rcases hq with rfl | rfl | rfl <;> assumption
    · change q ∈ [(836, ({ cls := .type "list", data := .seq its.toArray } : Obj)), (778, oTab #[]), (825, oTab #[])] at hq
      simp only [List.mem_cons, List.not_mem_nil, or_false] at hq
      rcases hq with rfl | rfl | rfl <;> exact (by kernel_rfl)
    · show [836,778,825].Nodup
      decide
    · change b ∈ [scriptOk its.toArray] at hb
      simp only [List.mem_cons, List.not_mem_nil, or_false] at hb
      rw [hb]
      exact ints_ok hI (by omega)
  obtain ⟨as, ts, h', t', r, E⟩ := hlaw w its.toArray (ucB (Γ.enter (.call (.ref 835) ⟨[.ref 836], []⟩) none p).below) (Γ.enter (.call (.ref 835) ⟨[.ref 836], []⟩) none p) p h #[] d t os rfl hΓ.1 hb (fun es e => by cases e; exact Prod.ext hes rfl) At
  show Sem.wp _ Γ (run (.call (.ref 835) ⟨[.ref 836], []⟩) >>= _) _ _ p _
  rw [Sem.wp_bind']
  unfold run
  rw [Sem.wp_call]
  refine ⟨_, _, r, ?_⟩
  show Sem.wp _ Γ (.pure (Flow.ret (.bool true))) _ _ p _
  rw [Sem.wp_pure]
  show Sem.wp _ Γ (pure (Value.bool true)) _ _ p _
  rw [Sem.wp_pure']
  exact ⟨.inl ⟨_, _, [], rfl, hr, ReadsW.bool true, hp, fun _ => ⟨List.nodup_nil, fun _ hm => (nomatch hm)⟩⟩, law_keeps E t1 t2 o1 o2, rfl, AllBare.empty⟩
theorem law1 (hlaw : ∀ (w : World) (its : Array Value) (u : Bool), (S_law its [scriptOk its] u).Holds (VV w)) : PySem.Challenge.rw_pq0686_02.Holds := head (by
  k_fill
  intro w s₀ s₁ mg mb G Y fa o pm cd doc dV kV ho hd hcd hD hmg hg args vals as L hpre hlay hrd hwl hlo
  obtain ⟨ZH, ZI, ZN, ZT⟩ := z_facts (K := hK) (as := asK) (fun P => rfl) Y
  refine Ground.open G ?_
  intro T B D TE TW
  wrow_args hpre hlay hrd hwl hlo
  obtain ⟨hat, hsz⟩ := script_at L
  rw [ZN] at hat hsz
  subst hat
  (with_reducible rename IntsAre _ _ => hI)
  (with_reducible rename Heap.IsList _ _ _ => hL)
  have KX : (hK w.params).In s₁.heap := InK.keeps w _ _ ZI L.keeps
  have A1 : AllIn s₁.heap (hK w.params) := allIn_keeps L.keeps ZH
  have hfa : fa = 835 := by
    have := mg_of KX T.g (n := dLaw.name) (v := .ref 835) (by kernel_rfl)
    rw [hmg] at this
    exact Value.ref.inj (Option.some.inj this)
  subst hfa
  exact law_end hlaw KX A1 hsz (script_obj L hL) hI (by assumption) hg _ (fun _ => rfl) (by kernel_rfl))
end Mine
end

noncomputable section
open PySem PySem.W PySem.W.X PyProof.Rows
set_option maxRecDepth 1000000
set_option maxHeartbeats 0
namespace Mine
noncomputable abbrev oInst (c d : Nat) : Obj := { cls := .ref c, dict := some d }
noncomputable abbrev oDict (es : Array DictEntry) (n : Nat) : Obj := { cls := .type "dict", data := .dict es n }
noncomputable abbrev oList (xs : Array Value) (n : Nat) : Obj := { cls := .type "list", data := .seq xs n }
noncomputable abbrev oTuple (xs : Array Value) : Obj := { cls := .type "tuple", data := .seq xs }
noncomputable abbrev oFrame (es : Array DictEntry) (n : Nat) : Obj := { cls := .type "frame", data := .dict es n }
noncomputable abbrev en (h : Int) (s : Str) (t : Nat) (v : Value) : DictEntry := ⟨h, .str s t, v⟩
noncomputable def noF {V : Vn} : Code → Option (Dp V) := fun _ => none
theorem twoW {P : World → Prop} (h : ∀ (b : Bool) (w : World), P (w.withFollow "special-get-raises" b)) (w : World) : P w :=
  byRow2 "special-get-raises" (fun w => h false w) (fun w => h true w) w
noncomputable def S_tt (v : Value) (b : Array UInt8) : Spec := { code := .call (.ref 266) ⟨[v], []⟩, dep := 800, pre := [], touch := [], na := 0, nt := 1, res := fun _ ts => .ok (.ret (.bytes b (nth ts 0))), postT := fun _ _ => [], postN := fun _ _ => [] }
noncomputable def S_ttR (a c d : Nat) (b : Array UInt8) : Spec := { code := .call (.ref 266) ⟨[.ref a], []⟩, dep := 800, pre := [(a, oInst c d)], touch := [], na := 0, nt := 1, res := fun _ ts => .ok (.ret (.bytes b (nth ts 0))), postT := fun _ _ => [], postN := fun _ _ => [] }
theorem ttB (w : World) (x : Array UInt8) (t : Nat) : (S_tt (.bytes x t) (#[115,116,114,105,110,103] : Array UInt8)).Holds (VV w) :=
  sS (F := noF) (vok w) 400 ⟨[0,0,1,1,1,0,0,1,0,0,0,0,1,0,0,0,0,1,0,0], [], [3]⟩ fun m t => by kernel_rfl
theorem ttI (w : World) (x : Int) (t : Nat) : (S_tt (.int x t) (#[110,117,109,98,101,114] : Array UInt8)).Holds (VV w) :=
  sS (F := noF) (vok w) 400 ⟨[0,0,1,1,1,0,0,1,0,0,0,0,1,0,0], [], [2]⟩ fun m t => by kernel_rfl
theorem ttO (w : World) (x : Bool) : (S_tt (.bool x) (#[98,111,111,108,101,97,110] : Array UInt8)).Holds (VV w) :=
  sS (F := noF) (vok w) 400 ⟨[0,0,1,1,1,0,0,1,0,0], [], [1]⟩ fun m t => by kernel_rfl
theorem ttN (w : World) : (S_tt .none (#[110,105,108] : Array UInt8)).Holds (VV w) :=
  sS (F := noF) (vok w) 400 ⟨[0,0,1,1,1], [], [1]⟩ fun m t => by kernel_rfl
theorem ttT (w : World) (a d : Nat) : (S_ttR a 234 d (#[116,97,98,108,101] : Array UInt8)).Holds (VV w) :=
  sS (F := noF) (vok w) 400 ⟨[0,0,2,2,2,0,0,2,0,0,1,1,0,1,0,0,0,1,0,0,0,0,0,0,1,0,1,0,0,0,0,2,0,0,1,1,0,1,0,0,0,1,0,0,0,0,0,0,1,0,1,0,0,0,0,2,0,0,1,1,0,1,0,0,0,1,0,0,0,0,0,0,1,0,1,0,0,0,0,2,0,1], [], [4]⟩ fun m t => by kernel_rfl
theorem ttF (w : World) (a d : Nat) : (S_ttR a 255 d (#[102,117,110,99,116,105,111,110] : Array UInt8)).Holds (VV w) :=
  sS (F := noF) (vok w) 400 ⟨[0,0,2,2,2,0,0,2,0,0,1,1,0,1,0,0,0,1,0,0,0,0,0,0,1,0,1,0,0,0,0,2,0,0,1,1,0,1,0,0,0,1,0,0,0,0,0,0,1,0,1,0,0,0,0,2,0,0,1,1,0,1,0,0,0,1,0,0,0,0,0,0,1,0,1,0,0,0,0,2,0,1,0,0,1,0,1,0,0,0,1,0,0,0,0,0,0,1,0,1,0,0], [], [5]⟩ fun m t => by kernel_rfl
noncomputable def D_tt (w : World) (v : Value) : Option (Dp (VV w)) := match v with
  | .bytes x t => some ⟨0, fun _ _ _ => some ⟨_, ttB w x t⟩⟩
  | .int x t => some ⟨0, fun _ _ _ => some ⟨_, ttI w x t⟩⟩
  | .bool x => some ⟨0, fun _ _ _ => some ⟨_, ttO w x⟩⟩
  | .none => some ⟨0, fun _ _ _ => some ⟨_, ttN w⟩⟩
  | .ref a => some ⟨1, fun _ os _ => match os with
    | [o] => match o.cls with
      | .ref c => match o.dict with
        | some d => match Nat.beq c 234 with
          | true => some ⟨_, ttT w a d⟩
          | false => some ⟨_, ttF w a d⟩
        | none => none
      | _ => none
    | _ => none⟩
  | _ => none
noncomputable def F_tt (w : World) (c : Code) : Option (Dp (VV w)) := match c with
  | .call (.ref a) ⟨[v], []⟩ => match Nat.beq a 266 with
    | true => D_tt w v
    | false => none
  | _ => none
noncomputable def sameV (v v' : Value) : Bool := match v, v' with
  | .int x _, .int y _ => @decide (x = y) (Z.eqZ x y)
  | .bytes x _, .bytes y _ => Builtin.Bytes.order x.toList y.toList == .eq
  | _, _ => false
noncomputable def kind2 (v v' : Value) : Bool := match v, v' with
  | .int _ _, .int _ _ => true
  | .bytes _ _, .bytes _ _ => true
  | _, _ => false
noncomputable def S_same (v v' : Value) (nd : List Bool) (b : Bool) : Spec := { code := .call (.ref 273) ⟨[v, v'], []⟩, dep := 790, need := nd, pre := [], touch := [], na := 0, nt := 0, res := fun _ _ => .ok (.ret (.bool b)), postT := fun _ _ => [], postN := fun _ _ => [] }
theorem sameBB (w : World) (x y : Array UInt8) (t u : Nat) : (S_same (.bytes x t) (.bytes y u) [] (sameV (.bytes x t) (.bytes y u))).Holds (VV w) :=
  twoW (P := fun w => (S_same (.bytes x t) (.bytes y u) [] (sameV (.bytes x t) (.bytes y u))).Holds (VV w))
    (fun b w => by
      cases b <;> exact sS (F := F_tt _) (vok _) 400 ⟨[0,0,1,1,1,1,0,1,0,0,1,1,1,0,1,0,0,1,1,1,1], [], []⟩ fun m t => by kernel_rfl) w
theorem sameII (w : World) (x y : Int) (t u : Nat) : (S_same (.int x t) (.int y u) [] (sameV (.int x t) (.int y u))).Holds (VV w) :=
  twoW (P := fun w => (S_same (.int x t) (.int y u) [] (sameV (.int x t) (.int y u))).Holds (VV w))
    (fun b w => by
      cases b <;> exact sS (F := F_tt _) (vok _) 400 ⟨[0,0,1,1,1,1,0,1,0,0,1,1,1,0,1,0,0,1,1,1,1], [], []⟩ fun m t => by kernel_rfl) w
theorem Spec.Holds.more {V : Vn} {S : Spec} {nd : List Bool} (h : (∀ b ∈ nd, b = true) → S.Holds V) (e : S.need = []) : ({ S with need := nd } : Spec).Holds V := by
  intro Γ p hp g d t os hc hh hb hl A
  have := h A.need Γ p hp g d t os hc hh hb hl ⟨A.kt, A.mem, A.off, A.apart, A.lim, by rw [e]; intro b h; cases h⟩
  obtain ⟨as, ts, h', t', r, E⟩ := this
  exact ⟨as, ts, h', t', r, ⟨E.na, E.nt, E.postT, E.postN, E.keep, E.fresh, E.apart, E.size⟩⟩
theorem kind2_cases {v v' : Value} (h : kind2 v v' = true) : (∃ x t y u, v = .int x t ∧ v' = .int y u) ∨ (∃ x t y u, v = .bytes x t ∧ v' = .bytes y u) := by
  cases v with
  | int x t => cases v' with
    | int y u => exact .inl ⟨_, _, _, _, rfl, rfl⟩
    | _ => cases h
  | bytes x t => cases v' with
    | bytes y u => exact .inr ⟨_, _, _, _, rfl, rfl⟩
    | _ => cases h
  | _ => cases h
theorem same_any (w : World) (v v' : Value) (nd : List Bool) (b : Bool) (h : (∀ b ∈ nd, b = true) → kind2 v v' = true ∧ sameV v v' = b) : (S_same v v' nd b).Holds (VV w) :=
  Spec.Holds.more (S := S_same v v' [] b) (fun q => by
    obtain ⟨h1, rfl⟩ := h q
    rcases kind2_cases h1 with ⟨x, t, y, u, rfl, rfl⟩ | ⟨x, t, y, u, rfl, rfl⟩
    · exact sameII w x y t u
    · exact sameBB w x y t u) rfl
noncomputable def D_same (w : World) (v v' : Value) : Dp (VV w) := ⟨0, fun _ _ alt => match alt with
  | 0 => some ⟨S_same v v' [kind2 v v'] (sameV v v'), same_any w v v' _ _ fun h => ⟨h _ mcS, rfl⟩⟩
  | 1 => some ⟨S_same v v' [kind2 v v', sameV v v'] true, same_any w v v' _ _ fun h => ⟨h _ mcS, h _ (mcT mcS)⟩⟩
  | _ => some ⟨S_same v v' [kind2 v v', !sameV v v'] false, same_any w v v' _ _ fun h => ⟨h _ mcS, by
      have := h _ (mcT mcS)
      cases q : sameV v v' with
      | false => rfl
      | true => rw [q] at this; cases this⟩⟩⟩
noncomputable def F1 (w : World) (c : Code) : Option (Dp (VV w)) := match c with
  | .call (.ref a) ⟨[v], []⟩ => match Nat.beq a 266 with
    | true => D_tt w v
    | false => none
  | .call (.ref a) ⟨[v, v'], []⟩ => match Nat.beq a 273 with
    | true => some (D_same w v v')
    | false => none
  | _ => none
noncomputable abbrev oIter (l : Value) (i : Int) : Obj := { cls := .type "list_iterator", data := .fields #[l, .int i 0] }
theorem spec_by {V : Vn} {S : Spec} (hq : ∀ Γ : Ctx, Γ.code = S.code → Γ.handled = none → ∀ (A : Around), A.handled = none → A.depth = frameCount Γ.below + Γ.code.weight → Γ.In A → ∀ (h : Heap) (g : Array GenState) (d : Drawn) (t : Nat) (os : OsState), S.At V h →
    wpAny V.M A (denote table S.code) (fun fin s' => ∃ f, fin = .done f ∧ ∃ as ts, Except.ok f = S.res as ts ∧ S.Ends as ts h s'.heap ∧ s'.gens = g ∧ s'.drawn = d ∧ s'.os = os)
      (fun e s' => ∃ as ts, Except.error e = S.res as ts ∧ S.Ends as ts h s'.heap ∧ s'.gens = g ∧ s'.drawn = d ∧ s'.os = os) ⟨h, g, d, t, os⟩) : S.Holds V := by
  intro Γ p h g d t os hc hh hb _ A
  have hin : Γ.In ⟨none, frameCount Γ.below + Γ.code.weight, none, none, Γ.units⟩ := ⟨hh, Nat.le_refl _, fun _ h => (nomatch h), fun _ h => (nomatch h), Nat.le_refl _⟩
  have := hq Γ hc hh _ rfl rfl hin h g d t os A Γ p hin
  have w : wpCode V.M Γ (fun r s' => ∃ as ts, r = S.res as ts ∧ S.Ends as ts h s'.heap ∧ s'.gens = g ∧ s'.drawn = d ∧ s'.os = os) p ⟨h, g, d, t, os⟩ := by
    rw [wpCode_iff_wp, hc]
    refine Sem.wp_mono _ _ _ ?_ (fun _ _ _ h => h) _ _ this
    rintro fin p s ⟨f, rfl, h⟩
    exact h
  obtain ⟨r, ⟨h', g', d', t', os'⟩, hr, as, ts, e1, e2, e3, e4, e5⟩ := w
  cases e3; cases e4; cases e5
  rw [e1] at hr
  exact ⟨as, ts, h', t', hr, e2⟩
theorem den_wp {V : Vn} {A : Around} {id : String} {b : Builtin} {args : Args} {Q : PySem.Fin → Shared → Prop} {E : Value → Shared → Prop} {s : Shared} (e : entryFor table id = some b) (h : wpAny V.M A (b args) Q E s) : wpAny V.M A (denote table (.builtin id args)) Q E s := by
  have : denote table (.builtin id args) = b args := by
    show (match entryFor table id with | some b => b args | none => unsupported ((withoutEnding? id "#data").getD id)) = _
    rw [e]
  rw [this]; exact h
theorem den_wp2 {V : Vn} {A : Around} {c : Code} {id : String} {b : Builtin} {args : Args} {Q : PySem.Fin → Shared → Prop} {E : Value → Shared → Prop} {s : Shared} (hc : c = .builtin id args) (e : entryFor table id = some b) (h : wpAny V.M A (b args) Q E s) : wpAny V.M A (denote table c) Q E s := by
  subst hc; exact den_wp e h
theorem ends_one {V : Vn} {S : Spec} {ts : List Nat} {h : Heap} {a : Nat} {o o' : Obj} {f : Obj → Obj} (e0 : S.na = 0) (e1 : ts.length = S.nt) (e2 : S.touchA = [a]) (e3 : S.postT [] ts = [some o']) (e4 : S.postN [] ts = [])
    (ho : h.get? a = some o) (hf : f o = o') (hn : o'.isFreed = false) : S.Ends [] ts h (h.update a f) := by
  have hb : Heap.SameBut a h (h.update a f) := Heap.SameBut.update ..
  refine ⟨e0.symm, e1, fun j hj q hq => ?_, fun j hj => ?_, fun b o e ht => ?_, fun a ha => (nomatch ha), List.nodup_nil, by rw [hb.1]; exact Nat.le_refl _⟩
  · cases j with
    | zero =>
      rw [e2]
      have : o' = q := by
        have := hq
        simp only [e3] at this
        exact Option.some.inj this
      subst this
      show (h.update a f).get? a = some o'
      rw [← hf]
      exact Heap.get?_update_self f ho (by rw [hf]; exact hn)
    | succ j => rw [e3] at hj; cases hj with | step hj => exact (nomatch hj)
  · rw [e4] at hj; exact (nomatch hj)
  · refine (hb.2 b fun q => ht ?_).trans e
    rw [e2, q]; exact List.mem_cons_self ..
theorem ends_same {S : Spec} {ts : List Nat} {h : Heap} (e0 : S.na = 0) (e1 : ts.length = S.nt) (e2 : S.touch = []) (e3 : S.postT [] ts = []) (e4 : S.postN [] ts = []) : S.Ends [] ts h h := by
  refine ⟨e0.symm, e1, fun j hj => ?_, fun j hj => ?_, fun b o e _ => e, fun a ha => (nomatch ha), List.nodup_nil, Nat.le_refl _⟩
  · rw [e3] at hj; exact (nomatch hj)
  · rw [e4] at hj; exact (nomatch hj)
noncomputable def S_next (it l : Nat) (xs : Array Value) (n : Nat) (i : Nat) (v : Value) : Spec := { code := .builtin "list_iterator.__next__" ⟨[.ref it], []⟩, dep := 850, pre := [(it, oIter (.ref l) (Int.ofNat i)), (l, oList xs n)], touch := [0], na := 0, nt := 0, res := fun _ _ => .ok (.ret v), postT := fun _ _ => [some (oIter (.ref l) (Int.ofNat i + 1))], postN := fun _ _ => [] }
noncomputable def S_nextE (it l : Nat) (xs : Array Value) (n : Nat) (i : Nat) : Spec := { code := .builtin "list_iterator.__next__" ⟨[.ref it], []⟩, dep := 850, pre := [(it, oIter (.ref l) (Int.ofNat i)), (l, oList xs n)], touch := [0], na := 2, nt := 0, res := fun a _ => .error (.ref (nth a 1)), postT := fun _ _ => [none], postN := fun a _ => [oTuple #[], { cls := .type "StopIteration", data := .fields #[.ref (nth a 0), .none, .none, .none, .bool false, .none] }] }
theorem next_item {V : Vn} {it l : Nat} {xs : Array Value} {n : Nat} {i : Nat} {v : Value} (hx : xs[i]? = some v) : (S_next it l xs n i v).Holds V := by
  refine spec_by fun Γ hc hh A hA hd hin h g d t os At => ?_
  have hit : h.get? it = some (oIter (.ref l) (Int.ofNat i)) := At.mem _ mcS
  have hl : h.get? l = some (oList xs n) := At.mem _ (mcT mcS)
  refine @den_wp2 _ _ _ _ _ _ _ _ _ rfl entry_listiter_next ?_
  show wpAny _ _ (field (.ref it) 0 >>= _) _ _ _
  refine wpAny_bind (wpAny_field hit rfl (x := .ref l) rfl ?_)
  show wpAny _ _ (if (Value.ref l == Value.none) = true then _ else _) _ _ _
  rw [if_neg (show ¬ ((Value.ref l == Value.none) = true) from Bool.false_ne_true)]
  show wpAny _ _ (field (.ref it) 1 >>= _) _ _ _
  refine wpAny_bind (wpAny_field hit rfl (x := .int (Int.ofNat i) 0) rfl ?_)
  show wpAny _ _ (seqItems? (.ref l) >>= _) _ _ _
  refine wpAny_bind (wpAny_seqItems hl rfl ?_)
  show wpAny _ _ (match xs[i]? with | some x => _ | none => _) _ _ _
  rw [hx]
  exact wpAny_bind (wpAny_setField hit rfl (by simp) (wpAny_pure ⟨_, rfl, [], [], rfl, ends_one (V := V) rfl rfl rfl rfl rfl hit rfl rfl, rfl, rfl, rfl⟩))
theorem next_end {V : Vn} {it l : Nat} {xs : Array Value} {n : Nat} {i : Nat} (hx : xs[i]? = none) : (S_nextE it l xs n i).Holds V := by
  refine spec_by fun Γ hc hh A hA hd hin h g d t os At => ?_
  have hit : h.get? it = some (oIter (.ref l) (Int.ofNat i)) := At.mem _ mcS
  have hl : h.get? l = some (oList xs n) := At.mem _ (mcT mcS)
  refine @den_wp2 _ _ _ _ _ _ _ _ _ rfl entry_listiter_next ?_
  show wpAny _ _ (field (.ref it) 0 >>= _) _ _ _
  refine wpAny_bind (wpAny_field hit rfl (x := .ref l) rfl ?_)
  show wpAny _ _ (if (Value.ref l == Value.none) = true then _ else _) _ _ _
  rw [if_neg (show ¬ ((Value.ref l == Value.none) = true) from Bool.false_ne_true)]
  show wpAny _ _ (field (.ref it) 1 >>= _) _ _ _
  refine wpAny_bind (wpAny_field hit rfl (x := .int (Int.ofNat i) 0) rfl ?_)
  show wpAny _ _ (seqItems? (.ref l) >>= _) _ _ _
  refine wpAny_bind (wpAny_seqItems hl rfl ?_)
  show wpAny _ _ (match xs[i]? with | some x => _ | none => _) _ _ _
  rw [hx]
  refine wpAny_bind (wpAny_rule (wpAny_bind (wpAny_setField hit rfl (by simp) ?_)))
  show wpAny _ _ (newExc (.type "StopIteration") [] >>= _) _ _ _
  refine wpAny_bind ?_
  unfold newExc newTuple
  refine wpAny_bind (wpAny_newObj_type ?_ (by size_fits))
  refine wpAny_bind (m := firstArgMember _ _) (wpAny_of_eq (a := Value.none) (by first | rfl | (unfold firstArgMember; rfl)) ?_)
  refine wpAny_newObj_type ?_ (by size_fits)
  unfold raiseNew
  refine wpAny_bind (wpAny_handled ?_)
  rw [hA]
  refine wpAny_bind (wpAny_pure (wpAny_throw ?_))
  have hb : Heap.SameBut it h (h.update it (Obj.mapFields fun vs => vs.setIfInBounds 0 .none)) := Heap.SameBut.update ..
  generalize h.update it (Obj.mapFields fun vs => vs.setIfInBounds 0 .none) = h1 at hb
  refine ⟨[h1.objs.size, h1.objs.size + 1], [], by show Except.error _ = Except.error _; rw [Heap.size_push]; rfl, ⟨rfl, rfl, fun j hj q hq => ?_, fun j hj => ?_, fun b o e ht => ?_, fun a ha => ?_, ?_, ?_⟩, rfl, rfl, rfl⟩
  · cases j with
    | zero => cases hq
    | succ j => cases hj with | step hj => exact (nomatch hj)
  · match j, hj with
    | 0, _ => exact Heap.get?_push_of_some _ (Heap.get?_push_size _ rfl)
    | 1, _ =>
      show Heap.get? _ (h1.objs.size + 1) = _
      have := Heap.get?_push_size (h1.push (oTuple #[])) (o := { cls := .type "StopIteration", data := .fields #[.ref h1.objs.size, .none, .none, .none, .bool false, .none] }) rfl
      rw [Heap.size_push] at this
      exact this
    | j + 2, hj => exact absurd hj (Nat.not_lt_of_le (Nat.le_add_left 2 j))
  · exact Heap.get?_push_of_some _ (Heap.get?_push_of_some _ ((hb.2 b fun q => ht (by subst q; exact List.mem_cons_self ..)).trans e))
  · show _ ∧ _ < (Heap.push (Heap.push h1 _) _).objs.size
    rw [Heap.size_push, Heap.size_push, ← hb.1]
    simp only [List.mem_cons, List.not_mem_nil, or_false] at ha
    lia
  · simp
  · show _ ≤ (Heap.push (Heap.push h1 _) _).objs.size
    rw [Heap.size_push, Heap.size_push, ← hb.1]; lia
theorem fits_nat {i : Nat} (h : i < 1000000) : Builtin.List.listFitsIndex (Int.ofNat i) = true := by
  refine fitsIndex_of (Int.natCast_nonneg i) ?_
  have : (Int.ofNat i) = (i : Int) := rfl
  rw [this]; lia

noncomputable def S_item (l : Nat) (xs : Array Value) (n : Nat) (i : Nat) (t : Nat) (v : Value) : Spec := { code := .builtin "list.__getitem__" ⟨[.ref l, .int (Int.ofNat i) t], []⟩, dep := 850, pre := [(l, oList xs n)], touch := [], na := 0, nt := 0, res := fun _ _ => .ok (.ret v), postT := fun _ _ => [], postN := fun _ _ => [] }
theorem item_wp {V : Vn} {l : Nat} {xs : Array Value} {n : Nat} {i : Int} {t : Nat} {v : Value} {A : Around} {h : Heap} {g : Array GenState} {d : Drawn} {tk : Nat} {os : OsState} {Q : PySem.Fin → Shared → Prop} {E : Value → Shared → Prop} (h0 : 0 ≤ i) (hx : xs[i.toNat]? = some v) (hl : h.get? l = some (oList xs n)) (hi : Builtin.List.listFitsIndex i = true)
   (hq : Q (.done (.ret v)) ⟨h, g, d, tk, os⟩) : wpAny V.M A (Builtin.«list.__getitem__» ⟨[.ref l, .int i t], []⟩) Q E ⟨h, g, d, tk, os⟩ := by
  show wpAny _ _ (Builtin.List.listSubscript? (.int i t) >>= _) _ _ _
  refine wpAny_bind (wpAny_listSubscript_int hi ?_)
  clear hi
  obtain ⟨j, rfl⟩ := Int.eq_ofNat_of_zero_le h0
  have hx' : xs[j]? = some v := hx
  show wpAny _ _ ((seqItemAt l j >>= fun r => pure (r.map (j, ·))) >>= _) _ _ _
  refine wpAny_bind (wpAny_bind (wpAny_seqItemAt hl rfl (wpAny_pure ?_)))
  rw [hx']
  exact wpAny_bind (wpAny_pure (wpAny_pure hq))
theorem item_at {V : Vn} {l : Nat} {xs : Array Value} {n : Nat} {i t : Nat} {v : Value} (hx : xs[i]? = some v) (hi : i < 1000000) : (S_item l xs n i t v).Holds V := by
  refine spec_by fun Γ hc hh A hA hd hin h g d tk os At => ?_
  have hl : h.get? l = some (oList xs n) := At.mem _ mcS
  have h0 : (0 : Int) ≤ Int.ofNat i := Int.natCast_nonneg i
  have hf := fits_nat hi
  clear hi
  have hx' : xs[(Int.ofNat i).toNat]? = some v := hx
  generalize hk : Int.ofNat i = k at h0 hf hx'
  unfold S_item
  rw [hk]
  exact @den_wp2 _ _ _ _ _ _ _ _ _ rfl entry_list_getitem (item_wp h0 hx' hl hf ⟨_, rfl, [], [], rfl, ends_same rfl rfl rfl rfl rfl, rfl, rfl, rfl⟩)
noncomputable def S_put (l : Nat) (xs : Array Value) (n : Nat) (i : Nat) (t : Nat) (v : Value) : Spec := { code := .builtin "list.__setitem__" ⟨[.ref l, .int (Int.ofNat i) t, v], []⟩, dep := 850, pre := [(l, oList xs n)], touch := [0], na := 0, nt := 0, res := fun _ _ => .ok (.ret .none), postT := fun _ _ => [some (oList (xs.setIfInBounds i v) n)], postN := fun _ _ => [] }
theorem put_wp {V : Vn} {l : Nat} {xs : Array Value} {n : Nat} {i : Int} {t : Nat} {v : Value} {A : Around} {h : Heap} {g : Array GenState} {d : Drawn} {tk : Nat} {os : OsState} {Q : PySem.Fin → Shared → Prop} {E : Value → Shared → Prop} (h0 : 0 ≤ i) (hx : i.toNat < xs.size) (hl : h.get? l = some (oList xs n)) (hi : Builtin.List.listFitsIndex i = true)
   (hq : Q (.done (.ret .none)) ⟨h.update l (Obj.mapSeq (·.setIfInBounds i.toNat v)), g, d, tk, os⟩) : wpAny V.M A (Builtin.«list.__setitem__» ⟨[.ref l, .int i t, v], []⟩) Q E ⟨h, g, d, tk, os⟩ := by
  show wpAny _ _ (Builtin.List.listSubscript? (.int i t) >>= _) _ _ _
  refine wpAny_bind (wpAny_listSubscript_int hi ?_)
  clear hi
  obtain ⟨j, rfl⟩ := Int.eq_ofNat_of_zero_le h0
  have hx' : xs[j]? = some xs[j] := Array.getElem?_eq_getElem hx
  show wpAny _ _ ((seqItemAt l j >>= fun r => pure (r.map (j, ·))) >>= _) _ _ _
  refine wpAny_bind (wpAny_bind (wpAny_seqItemAt hl rfl (wpAny_pure ?_)))
  rw [hx']
  refine wpAny_bind (wpAny_setSeqItemAt hl rfl ?_)
  exact wpAny_bind (wpAny_pure (wpAny_pure hq))
theorem put_at {V : Vn} {l : Nat} {xs : Array Value} {n : Nat} {i t : Nat} {v : Value} (hx : i < xs.size) (hi : i < 1000000) : (S_put l xs n i t v).Holds V := by
  refine spec_by fun Γ hc hh A hA hd hin h g d tk os At => ?_
  have hl : h.get? l = some (oList xs n) := At.mem _ mcS
  have h0 : (0 : Int) ≤ Int.ofNat i := Int.natCast_nonneg i
  have hf := fits_nat hi
  clear hi
  have hx' : (Int.ofNat i).toNat < xs.size := hx
  have hk' : (Int.ofNat i).toNat = i := rfl
  generalize hk : Int.ofNat i = k at h0 hf hx' hk'
  unfold S_put
  rw [hk]
  exact @den_wp2 _ _ _ _ _ _ _ _ _ rfl entry_list_setitem (put_wp h0 hx' hl hf ⟨_, rfl, [], [], rfl, ends_one (V := V) rfl rfl rfl rfl rfl hl (by rw [hk']; simp [Obj.mapSeq]) rfl, rfl, rfl, rfl⟩)
noncomputable def S_push (l : Nat) (xs : Array Value) (n : Nat) (v : Value) : Spec := { code := .builtin "list.append" ⟨[.ref l, v], []⟩, dep := 850, need := [Nat.blt xs.size 1000], pre := [(l, oList xs n)], touch := [0], na := 0, nt := 0, res := fun _ _ => .ok (.ret .none), postT := fun _ _ => [some (oList (xs.push v) (n + 1))], postN := fun _ _ => [] }
theorem push_at {V : Vn} {l : Nat} {xs : Array Value} {n : Nat} {v : Value} : (S_push l xs n v).Holds V := by
  refine spec_by fun Γ hc hh A hA hd hin h g d tk os At => ?_
  have hl : h.get? l = some (oList xs n) := At.mem _ mcS
  have hs : xs.size < 1000 := blt_iff (At.need _ mcS)
  refine @den_wp2 _ _ _ _ _ _ _ _ _ rfl entry_list_append ?_
  refine wpAny_bind (wpAny_pure ?_)
  refine wpAny_bind ?_
  refine wpAny_updateSeq hl rfl ?_ (by unfold sizeLine; lia) (by rw [Array.size_push]; unfold sizeLine; lia)
  refine wpAny_pure ⟨_, rfl, [], [], rfl, ends_one (V := V) rfl rfl rfl rfl rfl hl (by
    have : (xs.size + 1 == xs.size) = false := by rw [beq_eq_false_iff_ne]; lia
    simp [Obj.mapSeq, this]) rfl, rfl, rfl, rfl⟩
noncomputable def fdOf (o : Obj) : FuncData := match o.data with | .func f => f | _ => default
noncomputable def bodyOf (o : Obj) : List Stmt := match (fdOf o).body with | .stmts b => b | .expr _ => []
noncomputable def nthS (l : List Stmt) : Nat → Stmt := List.rec (motive := fun _ => Nat → Stmt) (fun _ => noS) (fun a _ ih i => Nat.rec (motive := fun _ => Stmt) a (fun i _ => ih i) i) l
noncomputable def forCode (s : Stmt) (it : Value) (env : Env) : Code := match s with | .For t _ b e _ => .forLoop t it b e env | _ => default
noncomputable def whileCode (s : Stmt) (env : Env) : Code := match s with | .While t b e _ => .whileLoop t b e env | _ => default
noncomputable abbrev envF (o : Obj) (a L : Nat) (q : Str) (cells : List (Str × Addr)) : Env := { scope := (fdOf o).scope, locals := L, globals := 3, cells := cells, qual := q, func := some a, code := (fdOf o).code, frame := some L, builtins := 0 }
noncomputable def idIs (id : String) (n : Nat) : Bool := PySem.W.S.eqLit n id
theorem Spec.Holds.less {V : Vn} {S : Spec} (h : S.Holds V) (n : ∀ b ∈ S.need, b = true) : ({ S with need := [] } : Spec).Holds V := by
  intro Γ p hp g d t os hc hh hb hl A
  obtain ⟨as, ts, h', t', r, E⟩ := h Γ p hp g d t os hc hh hb hl ⟨A.kt, A.mem, A.off, A.apart, A.lim, n⟩
  exact ⟨as, ts, h', t', r, ⟨E.na, E.nt, E.postT, E.postN, E.keep, E.fresh, E.apart, E.size⟩⟩
noncomputable def findI : List Value → Value → Nat → Option Nat
  | [], _, _ => none
  | k :: ks, key, i => match sameV k key with
    | true => some i
    | false => findI ks key (i + 1)
noncomputable abbrev oEnum (it : Value) (i : Int) (old : Value) : Obj := { cls := .type "enumerate", data := .fields #[.none, .bool false, it, .int i 0, .none, old] }
section
variable (w : World)
noncomputable abbrev esL2 (h1 : Int) (t1 : Nat) (sf : Value) (h2 : Int) (t2 : Nat) (key : Value) : Array DictEntry := #[en h1 (⟨#[115,101,108,102]⟩ : Str) t1 sf, en h2 (⟨#[107,101,121]⟩ : Str) t2 key]
noncomputable abbrev esL4 (h1 : Int) (t1 : Nat) (sf : Value) (h2 : Int) (t2 : Nat) (key : Value) (h3 : Int) (t3 : Nat) (v3 : Value) (h4 : Int) (t4 : Nat) (v4 : Value) : Array DictEntry := #[en h1 (⟨#[115,101,108,102]⟩ : Str) t1 sf, en h2 (⟨#[107,101,121]⟩ : Str) t2 key, en h3 (⟨#[97,116]⟩ : Str) t3 v3, en h4 (⟨#[107,110,111,119,110]⟩ : Str) t4 v4]
noncomputable def S_fl (F E I kl : Nat) (es : Array DictEntry) (n : Nat) (old : Value) (i : Nat) (ks : Array Value) (m : Nat) (nd : List Bool) (r : List Nat → Result) : Spec := {
  code := forCode (nthS (bodyOf (o203 w.params)) 0) (.ref E) (envF (o203 w.params) 203 F (⟨#[84,114,101,101,84,97,98,108,101,46,102,105,110,100,46,60,108,111,99,97,108,115,62,46]⟩ : Str) [])
  dep := 780, need := nd, pre := [(F, oFrame es n), (E, oEnum (.ref I) (Int.ofNat i) old), (I, oIter (.ref kl) (Int.ofNat i)), (kl, oList ks m)], touch := [0,1,2], na := 0, nt := 1
  res := fun _ ts => r ts, postT := fun _ _ => [none, none, none], postN := fun _ _ => [] }
noncomputable def F_next (it kl : Nat) (ks : Array Value) (m i : Nat) (v : Value) (hv : ks[i]? = some v) (c : Code) : Option (Dp (VV w)) := match c with
  | .builtin id ⟨[.ref _], []⟩ => match idIs id 36058839055461744822429329989390181918337346850548333 with
    | true => some ⟨2, fun as _ _ => match as with
      | it :: _ => some ⟨S_next it kl ks m i v, next_item hv⟩
      | _ => none⟩
    | false => none
  | c => F1 w c
noncomputable def F_nextE (kl : Nat) (ks : Array Value) (m i : Nat) (hv : ks[i]? = none) (c : Code) : Option (Dp (VV w)) := match c with
  | .builtin id ⟨[.ref _], []⟩ => match idIs id 36058839055461744822429329989390181918337346850548333 with
    | true => some ⟨2, fun as _ _ => match as with
      | it :: _ => some ⟨S_nextE it kl ks m i, next_end hv⟩
      | _ => none⟩
    | false => none
  | _ => none
end
noncomputable def F_rest (w : World) (f : Code → Option (Dp (VV w))) (F E I kl : Nat) (h1 : Int) (t1 : Nat) (sf : Nat) (h2 : Int) (t2 : Nat) (key : Value) (i : Nat) (ks : Array Value) (m : Nat) (r : List Nat → Result)
    (ih : ∀ (h3 : Int) (t3 : Nat) (v3 : Value) (h4 : Int) (t4 : Nat) (v4 : Value) (n : Nat) (old : Value), (S_fl w F E I kl (esL4 h1 t1 (.ref sf) h2 t2 key h3 t3 v3 h4 t4 v4) n old i ks m [] r).Holds (VV w)) (c : Code) : Option (Dp (VV w)) := match c with
  | .forLoop _ _ _ _ _ => some ⟨4, fun _ os _ => match os with
    | [oF, oE, _, _] => match oF.data with
      | .dict es n => match es.toList with
        | [_, _, e3, e4] => match e3.key with
          | .str _ t3 => match e4.key with
            | .str _ t4 => match oE.data with
              | .fields vs => some ⟨_, ih e3.hash t3 e3.val e4.hash t4 e4.val n (vs.toList.getD 5 .none)⟩
              | _ => none
            | _ => none
          | _ => none
        | _ => none
      | _ => none
    | _ => none⟩
  | c => f c
theorem flT1B (w : World) (F E I kl : Nat) (h1 : Int) (t1 : Nat) (sf : Nat) (h2 : Int) (t2 : Nat) (y : Array UInt8) (u : Nat) (n : Nat) (old : Value) (i : Nat) (ks : Array Value) (m : Nat) (x : Array UInt8) (t : Nat) (hv : ks[i]? = some (.bytes x t)) : (S_fl w F E I kl (esL2 h1 t1 (.ref sf) h2 t2 (.bytes y u)) n old i ks m [kind2 (.bytes x t) (.bytes y u), sameV (.bytes x t) (.bytes y u)] (fun ts => .ok (.ret (.int (Int.ofNat i) (nth ts 0))))).Holds (VV w) :=
  (byRow2 "special-get-raises" (P := fun w => (S_fl w F E I kl (esL2 h1 t1 (.ref sf) h2 t2 (.bytes y u)) n old i ks m [kind2 (.bytes x t) (.bytes y u), sameV (.bytes x t) (.bytes y u)] (fun ts => .ok (.ret (.int (Int.ofNat i) (nth ts 0))))).Holds (VV w)) (fun w => sS (F := F_next (w.withFollow "special-get-raises" false) I kl ks m i _ hv) (vok _) 1000 ⟨[2,2,2,3,3,3,4,0,2,2,2,2,2,2,2,2,2,2,2,2,2,2,2,2,2,5,5,5,5,6,6,6,6,6,5,6,6,6,6,6,6,5,6,6,6,6,6,6,5,6,6,8,1,1,1,1,0,1,1,0,1,1,2,1], [], [0]⟩ fun m t => by kernel_rfl) (fun w => sS (F := F_next (w.withFollow "special-get-raises" true) I kl ks m i _ hv) (vok _) 1000 ⟨[2,2,2,3,3,3,4,0,2,2,2,2,2,2,2,2,2,2,2,2,2,2,2,2,2,5,5,5,5,6,6,6,6,6,5,6,6,6,6,6,6,5,6,6,6,6,6,6,5,6,6,8,1,1,1,1,0,1,1,0,1,1,2,1], [], [0]⟩ fun m t => by kernel_rfl) w)
theorem flT2B (w : World) (F E I kl : Nat) (h1 : Int) (t1 : Nat) (sf : Nat) (h2 : Int) (t2 : Nat) (y : Array UInt8) (u : Nat) (h3 : Int) (t3 : Nat) (v3 : Value) (h4 : Int) (t4 : Nat) (v4 : Value) (n : Nat) (old : Value) (i : Nat) (ks : Array Value) (m : Nat) (x : Array UInt8) (t : Nat) (hv : ks[i]? = some (.bytes x t)) : (S_fl w F E I kl (esL4 h1 t1 (.ref sf) h2 t2 (.bytes y u) h3 t3 v3 h4 t4 v4) n old i ks m [kind2 (.bytes x t) (.bytes y u), sameV (.bytes x t) (.bytes y u)] (fun ts => .ok (.ret (.int (Int.ofNat i) (nth ts 0))))).Holds (VV w) :=
  (byRow2 "special-get-raises" (P := fun w => (S_fl w F E I kl (esL4 h1 t1 (.ref sf) h2 t2 (.bytes y u) h3 t3 v3 h4 t4 v4) n old i ks m [kind2 (.bytes x t) (.bytes y u), sameV (.bytes x t) (.bytes y u)] (fun ts => .ok (.ret (.int (Int.ofNat i) (nth ts 0))))).Holds (VV w)) (fun w => sS (F := F_next (w.withFollow "special-get-raises" false) I kl ks m i _ hv) (vok _) 1000 ⟨[2,2,2,3,3,3,4,0,2,2,2,2,2,2,2,2,2,2,2,2,2,2,2,2,2,5,5,5,5,6,6,6,6,6,5,6,6,6,6,6,6,5,6,6,6,6,6,6,5,6,6,8,1,1,1,1,0,1,1,0,1,1,2,1], [], [0]⟩ fun m t => by kernel_rfl) (fun w => sS (F := F_next (w.withFollow "special-get-raises" true) I kl ks m i _ hv) (vok _) 1000 ⟨[2,2,2,3,3,3,4,0,2,2,2,2,2,2,2,2,2,2,2,2,2,2,2,2,2,5,5,5,5,6,6,6,6,6,5,6,6,6,6,6,6,5,6,6,6,6,6,6,5,6,6,8,1,1,1,1,0,1,1,0,1,1,2,1], [], [0]⟩ fun m t => by kernel_rfl) w)
theorem flN1B (w : World) (F E I kl : Nat) (h1 : Int) (t1 : Nat) (sf : Nat) (h2 : Int) (t2 : Nat) (y : Array UInt8) (u : Nat) (n : Nat) (old : Value) (i : Nat) (ks : Array Value) (m : Nat) (r : List Nat → Result) (ih : ∀ (w : World) (h3 : Int) (t3 : Nat) (v3 : Value) (h4 : Int) (t4 : Nat) (v4 : Value) (n : Nat) (old : Value), (S_fl w F E I kl (esL4 h1 t1 (.ref sf) h2 t2 (.bytes y u) h3 t3 v3 h4 t4 v4) n old (i + 1) ks m [] r).Holds (VV w)) (x : Array UInt8) (t : Nat) (hv : ks[i]? = some (.bytes x t)) : (S_fl w F E I kl (esL2 h1 t1 (.ref sf) h2 t2 (.bytes y u)) n old i ks m [kind2 (.bytes x t) (.bytes y u), !sameV (.bytes x t) (.bytes y u)] r).Holds (VV w) :=
  (byRow2 "special-get-raises" (P := fun w => (S_fl w F E I kl (esL2 h1 t1 (.ref sf) h2 t2 (.bytes y u)) n old i ks m [kind2 (.bytes x t) (.bytes y u), !sameV (.bytes x t) (.bytes y u)] r).Holds (VV w)) (fun w => sS (F := F_rest (w.withFollow "special-get-raises" false) (F_next (w.withFollow "special-get-raises" false) I kl ks m i _ hv) F E I kl h1 t1 sf h2 t2 (.bytes y u) (i + 1) ks m r (ih (w.withFollow "special-get-raises" false))) (vok _) 1000 ⟨[2,2,2,3,3,3,4,0,2,2,2,2,2,2,2,2,2,2,2,2,2,2,2,2,2,5,5,5,5,6,6,6,6,6,5,6,6,6,6,6,6,5,6,6,6,6,6,6,5,6,6,8,1,1,1,1,0,1,1,0,2,1,2,1,2,3,4,0], [], [3]⟩ fun m t => by kernel_rfl) (fun w => sS (F := F_rest (w.withFollow "special-get-raises" true) (F_next (w.withFollow "special-get-raises" true) I kl ks m i _ hv) F E I kl h1 t1 sf h2 t2 (.bytes y u) (i + 1) ks m r (ih (w.withFollow "special-get-raises" true))) (vok _) 1000 ⟨[2,2,2,3,3,3,4,0,2,2,2,2,2,2,2,2,2,2,2,2,2,2,2,2,2,5,5,5,5,6,6,6,6,6,5,6,6,6,6,6,6,5,6,6,6,6,6,6,5,6,6,8,1,1,1,1,0,1,1,0,2,1,2,1,2,3,4,0], [], [3]⟩ fun m t => by kernel_rfl) w)
theorem flN2B (w : World) (F E I kl : Nat) (h1 : Int) (t1 : Nat) (sf : Nat) (h2 : Int) (t2 : Nat) (y : Array UInt8) (u : Nat) (h3 : Int) (t3 : Nat) (v3 : Value) (h4 : Int) (t4 : Nat) (v4 : Value) (n : Nat) (old : Value) (i : Nat) (ks : Array Value) (m : Nat) (r : List Nat → Result) (ih : ∀ (w : World) (h3 : Int) (t3 : Nat) (v3 : Value) (h4 : Int) (t4 : Nat) (v4 : Value) (n : Nat) (old : Value), (S_fl w F E I kl (esL4 h1 t1 (.ref sf) h2 t2 (.bytes y u) h3 t3 v3 h4 t4 v4) n old (i + 1) ks m [] r).Holds (VV w)) (x : Array UInt8) (t : Nat) (hv : ks[i]? = some (.bytes x t)) : (S_fl w F E I kl (esL4 h1 t1 (.ref sf) h2 t2 (.bytes y u) h3 t3 v3 h4 t4 v4) n old i ks m [kind2 (.bytes x t) (.bytes y u), !sameV (.bytes x t) (.bytes y u)] r).Holds (VV w) :=
  (byRow2 "special-get-raises" (P := fun w => (S_fl w F E I kl (esL4 h1 t1 (.ref sf) h2 t2 (.bytes y u) h3 t3 v3 h4 t4 v4) n old i ks m [kind2 (.bytes x t) (.bytes y u), !sameV (.bytes x t) (.bytes y u)] r).Holds (VV w)) (fun w => sS (F := F_rest (w.withFollow "special-get-raises" false) (F_next (w.withFollow "special-get-raises" false) I kl ks m i _ hv) F E I kl h1 t1 sf h2 t2 (.bytes y u) (i + 1) ks m r (ih (w.withFollow "special-get-raises" false))) (vok _) 1000 ⟨[2,2,2,3,3,3,4,0,2,2,2,2,2,2,2,2,2,2,2,2,2,2,2,2,2,5,5,5,5,6,6,6,6,6,5,6,6,6,6,6,6,5,6,6,6,6,6,6,5,6,6,8,1,1,1,1,0,1,1,0,2,1,2,1,2,3,4,0], [], [3]⟩ fun m t => by kernel_rfl) (fun w => sS (F := F_rest (w.withFollow "special-get-raises" true) (F_next (w.withFollow "special-get-raises" true) I kl ks m i _ hv) F E I kl h1 t1 sf h2 t2 (.bytes y u) (i + 1) ks m r (ih (w.withFollow "special-get-raises" true))) (vok _) 1000 ⟨[2,2,2,3,3,3,4,0,2,2,2,2,2,2,2,2,2,2,2,2,2,2,2,2,2,5,5,5,5,6,6,6,6,6,5,6,6,6,6,6,6,5,6,6,6,6,6,6,5,6,6,8,1,1,1,1,0,1,1,0,2,1,2,1,2,3,4,0], [], [3]⟩ fun m t => by kernel_rfl) w)
theorem flT1I (w : World) (F E I kl : Nat) (h1 : Int) (t1 : Nat) (sf : Nat) (h2 : Int) (t2 : Nat) (y : Int) (u : Nat) (n : Nat) (old : Value) (i : Nat) (ks : Array Value) (m : Nat) (x : Int) (t : Nat) (hv : ks[i]? = some (.int x t)) : (S_fl w F E I kl (esL2 h1 t1 (.ref sf) h2 t2 (.int y u)) n old i ks m [kind2 (.int x t) (.int y u), sameV (.int x t) (.int y u)] (fun ts => .ok (.ret (.int (Int.ofNat i) (nth ts 0))))).Holds (VV w) :=
  (byRow2 "special-get-raises" (P := fun w => (S_fl w F E I kl (esL2 h1 t1 (.ref sf) h2 t2 (.int y u)) n old i ks m [kind2 (.int x t) (.int y u), sameV (.int x t) (.int y u)] (fun ts => .ok (.ret (.int (Int.ofNat i) (nth ts 0))))).Holds (VV w)) (fun w => sS (F := F_next (w.withFollow "special-get-raises" false) I kl ks m i _ hv) (vok _) 1000 ⟨[2,2,2,3,3,3,4,0,2,2,2,2,2,2,2,2,2,2,2,2,2,2,2,2,2,5,5,5,5,6,6,6,6,6,5,6,6,6,6,6,6,5,6,6,6,6,6,6,5,6,6,8,1,1,1,1,0,1,1,0,1,1,2,1], [], [0]⟩ fun m t => by kernel_rfl) (fun w => sS (F := F_next (w.withFollow "special-get-raises" true) I kl ks m i _ hv) (vok _) 1000 ⟨[2,2,2,3,3,3,4,0,2,2,2,2,2,2,2,2,2,2,2,2,2,2,2,2,2,5,5,5,5,6,6,6,6,6,5,6,6,6,6,6,6,5,6,6,6,6,6,6,5,6,6,8,1,1,1,1,0,1,1,0,1,1,2,1], [], [0]⟩ fun m t => by kernel_rfl) w)
theorem flT2I (w : World) (F E I kl : Nat) (h1 : Int) (t1 : Nat) (sf : Nat) (h2 : Int) (t2 : Nat) (y : Int) (u : Nat) (h3 : Int) (t3 : Nat) (v3 : Value) (h4 : Int) (t4 : Nat) (v4 : Value) (n : Nat) (old : Value) (i : Nat) (ks : Array Value) (m : Nat) (x : Int) (t : Nat) (hv : ks[i]? = some (.int x t)) : (S_fl w F E I kl (esL4 h1 t1 (.ref sf) h2 t2 (.int y u) h3 t3 v3 h4 t4 v4) n old i ks m [kind2 (.int x t) (.int y u), sameV (.int x t) (.int y u)] (fun ts => .ok (.ret (.int (Int.ofNat i) (nth ts 0))))).Holds (VV w) :=
  (byRow2 "special-get-raises" (P := fun w => (S_fl w F E I kl (esL4 h1 t1 (.ref sf) h2 t2 (.int y u) h3 t3 v3 h4 t4 v4) n old i ks m [kind2 (.int x t) (.int y u), sameV (.int x t) (.int y u)] (fun ts => .ok (.ret (.int (Int.ofNat i) (nth ts 0))))).Holds (VV w)) (fun w => sS (F := F_next (w.withFollow "special-get-raises" false) I kl ks m i _ hv) (vok _) 1000 ⟨[2,2,2,3,3,3,4,0,2,2,2,2,2,2,2,2,2,2,2,2,2,2,2,2,2,5,5,5,5,6,6,6,6,6,5,6,6,6,6,6,6,5,6,6,6,6,6,6,5,6,6,8,1,1,1,1,0,1,1,0,1,1,2,1], [], [0]⟩ fun m t => by kernel_rfl) (fun w => sS (F := F_next (w.withFollow "special-get-raises" true) I kl ks m i _ hv) (vok _) 1000 ⟨[2,2,2,3,3,3,4,0,2,2,2,2,2,2,2,2,2,2,2,2,2,2,2,2,2,5,5,5,5,6,6,6,6,6,5,6,6,6,6,6,6,5,6,6,6,6,6,6,5,6,6,8,1,1,1,1,0,1,1,0,1,1,2,1], [], [0]⟩ fun m t => by kernel_rfl) w)
theorem flN1I (w : World) (F E I kl : Nat) (h1 : Int) (t1 : Nat) (sf : Nat) (h2 : Int) (t2 : Nat) (y : Int) (u : Nat) (n : Nat) (old : Value) (i : Nat) (ks : Array Value) (m : Nat) (r : List Nat → Result) (ih : ∀ (w : World) (h3 : Int) (t3 : Nat) (v3 : Value) (h4 : Int) (t4 : Nat) (v4 : Value) (n : Nat) (old : Value), (S_fl w F E I kl (esL4 h1 t1 (.ref sf) h2 t2 (.int y u) h3 t3 v3 h4 t4 v4) n old (i + 1) ks m [] r).Holds (VV w)) (x : Int) (t : Nat) (hv : ks[i]? = some (.int x t)) : (S_fl w F E I kl (esL2 h1 t1 (.ref sf) h2 t2 (.int y u)) n old i ks m [kind2 (.int x t) (.int y u), !sameV (.int x t) (.int y u)] r).Holds (VV w) :=
  (byRow2 "special-get-raises" (P := fun w => (S_fl w F E I kl (esL2 h1 t1 (.ref sf) h2 t2 (.int y u)) n old i ks m [kind2 (.int x t) (.int y u), !sameV (.int x t) (.int y u)] r).Holds (VV w)) (fun w => sS (F := F_rest (w.withFollow "special-get-raises" false) (F_next (w.withFollow "special-get-raises" false) I kl ks m i _ hv) F E I kl h1 t1 sf h2 t2 (.int y u) (i + 1) ks m r (ih (w.withFollow "special-get-raises" false))) (vok _) 1000 ⟨[2,2,2,3,3,3,4,0,2,2,2,2,2,2,2,2,2,2,2,2,2,2,2,2,2,5,5,5,5,6,6,6,6,6,5,6,6,6,6,6,6,5,6,6,6,6,6,6,5,6,6,8,1,1,1,1,0,1,1,0,2,1,2,1,2,3,4,0], [], [3]⟩ fun m t => by kernel_rfl) (fun w => sS (F := F_rest (w.withFollow "special-get-raises" true) (F_next (w.withFollow "special-get-raises" true) I kl ks m i _ hv) F E I kl h1 t1 sf h2 t2 (.int y u) (i + 1) ks m r (ih (w.withFollow "special-get-raises" true))) (vok _) 1000 ⟨[2,2,2,3,3,3,4,0,2,2,2,2,2,2,2,2,2,2,2,2,2,2,2,2,2,5,5,5,5,6,6,6,6,6,5,6,6,6,6,6,6,5,6,6,6,6,6,6,5,6,6,8,1,1,1,1,0,1,1,0,2,1,2,1,2,3,4,0], [], [3]⟩ fun m t => by kernel_rfl) w)
theorem flN2I (w : World) (F E I kl : Nat) (h1 : Int) (t1 : Nat) (sf : Nat) (h2 : Int) (t2 : Nat) (y : Int) (u : Nat) (h3 : Int) (t3 : Nat) (v3 : Value) (h4 : Int) (t4 : Nat) (v4 : Value) (n : Nat) (old : Value) (i : Nat) (ks : Array Value) (m : Nat) (r : List Nat → Result) (ih : ∀ (w : World) (h3 : Int) (t3 : Nat) (v3 : Value) (h4 : Int) (t4 : Nat) (v4 : Value) (n : Nat) (old : Value), (S_fl w F E I kl (esL4 h1 t1 (.ref sf) h2 t2 (.int y u) h3 t3 v3 h4 t4 v4) n old (i + 1) ks m [] r).Holds (VV w)) (x : Int) (t : Nat) (hv : ks[i]? = some (.int x t)) : (S_fl w F E I kl (esL4 h1 t1 (.ref sf) h2 t2 (.int y u) h3 t3 v3 h4 t4 v4) n old i ks m [kind2 (.int x t) (.int y u), !sameV (.int x t) (.int y u)] r).Holds (VV w) :=
  (byRow2 "special-get-raises" (P := fun w => (S_fl w F E I kl (esL4 h1 t1 (.ref sf) h2 t2 (.int y u) h3 t3 v3 h4 t4 v4) n old i ks m [kind2 (.int x t) (.int y u), !sameV (.int x t) (.int y u)] r).Holds (VV w)) (fun w => sS (F := F_rest (w.withFollow "special-get-raises" false) (F_next (w.withFollow "special-get-raises" false) I kl ks m i _ hv) F E I kl h1 t1 sf h2 t2 (.int y u) (i + 1) ks m r (ih (w.withFollow "special-get-raises" false))) (vok _) 1000 ⟨[2,2,2,3,3,3,4,0,2,2,2,2,2,2,2,2,2,2,2,2,2,2,2,2,2,5,5,5,5,6,6,6,6,6,5,6,6,6,6,6,6,5,6,6,6,6,6,6,5,6,6,8,1,1,1,1,0,1,1,0,2,1,2,1,2,3,4,0], [], [3]⟩ fun m t => by kernel_rfl) (fun w => sS (F := F_rest (w.withFollow "special-get-raises" true) (F_next (w.withFollow "special-get-raises" true) I kl ks m i _ hv) F E I kl h1 t1 sf h2 t2 (.int y u) (i + 1) ks m r (ih (w.withFollow "special-get-raises" true))) (vok _) 1000 ⟨[2,2,2,3,3,3,4,0,2,2,2,2,2,2,2,2,2,2,2,2,2,2,2,2,2,5,5,5,5,6,6,6,6,6,5,6,6,6,6,6,6,5,6,6,6,6,6,6,5,6,6,8,1,1,1,1,0,1,1,0,2,1,2,1,2,3,4,0], [], [3]⟩ fun m t => by kernel_rfl) w)
theorem flE1 (w : World) (F E I kl : Nat) (h1 : Int) (t1 : Nat) (sf : Nat) (h2 : Int) (t2 : Nat) (key : Value) (n : Nat) (old : Value) (i : Nat) (ks : Array Value) (m : Nat) (hv : ks[i]? = none) : (S_fl w F E I kl (esL2 h1 t1 (.ref sf) h2 t2 key) n old i ks m [] (fun _ => .ok .next)).Holds (VV w) :=
  sS (F := F_nextE w kl ks m i hv) (vok _) 1000 ⟨[2,2,2,3,3,3,4,0,6], [], [0]⟩ fun m t => by kernel_rfl
theorem flE2 (w : World) (F E I kl : Nat) (h1 : Int) (t1 : Nat) (sf : Nat) (h2 : Int) (t2 : Nat) (key : Value) (h3 : Int) (t3 : Nat) (v3 : Value) (h4 : Int) (t4 : Nat) (v4 : Value) (n : Nat) (old : Value) (i : Nat) (ks : Array Value) (m : Nat) (hv : ks[i]? = none) : (S_fl w F E I kl (esL4 h1 t1 (.ref sf) h2 t2 key h3 t3 v3 h4 t4 v4) n old i ks m [] (fun _ => .ok .next)).Holds (VV w) :=
  sS (F := F_nextE w kl ks m i hv) (vok _) 1000 ⟨[2,2,2,3,3,3,4,0,6], [], [0]⟩ fun m t => by kernel_rfl
noncomputable def kinds (ks : Array Value) (key : Value) : Bool := ks.toList.all fun k => kind2 k key
noncomputable def flRes (o : Option Nat) : List Nat → Result := match o with
  | some j => fun ts => .ok (.ret (.int (Int.ofNat j) (nth ts 0)))
  | none => fun _ => .ok .next
theorem findI_step {ks : List Value} {key v : Value} {i : Nat} (h : ks[i]? = some v) : findI (ks.drop i) key i = match sameV v key with | true => some i | false => findI (ks.drop (i + 1)) key (i + 1) := by
  have hi : i < ks.length := by
    rcases Nat.lt_or_ge i ks.length with q | q
    · exact q
    · rw [List.getElem?_eq_none q] at h; cases h
  have e : ks.drop i = v :: ks.drop (i + 1) := by
    rw [List.drop_eq_getElem_cons hi]
    rw [List.getElem?_eq_getElem hi] at h
    cases h; rfl
  rw [e]; rfl
theorem fl_later (w : World) (F E I kl : Nat) (h1 : Int) (t1 : Nat) (sf : Nat) (h2 : Int) (t2 : Nat) (key : Value) (ks : Array Value) (m : Nat) (hk : kinds ks key = true) : ∀ (k i : Nat), ks.size - i = k → ∀ (w : World) (h3 : Int) (t3 : Nat) (v3 : Value) (h4 : Int) (t4 : Nat) (v4 : Value) (n : Nat) (old : Value),
    (S_fl w F E I kl (esL4 h1 t1 (.ref sf) h2 t2 key h3 t3 v3 h4 t4 v4) n old i ks m [] (flRes (findI (ks.toList.drop i) key i))).Holds (VV w) := by
  intro k
  induction k with
  | zero =>
    intro i hi w h3 t3 v3 h4 t4 v4 n old
    have hn : ks[i]? = none := Array.getElem?_eq_none (by omega)
    have : ks.toList.drop i = [] := List.drop_eq_nil_of_le (by rw [Array.length_toList]; omega)
    rw [this]
    exact flE2 w F E I kl h1 t1 sf h2 t2 key h3 t3 v3 h4 t4 v4 n old i ks m hn
  | succ k ih =>
    intro i hi w h3 t3 v3 h4 t4 v4 n old
    have hlt : i < ks.size := by omega
    have hv : ks[i]? = some ks[i] := Array.getElem?_eq_getElem hlt
    have hk2 : kind2 ks[i] key = true := List.all_eq_true.mp hk _ (Array.getElem_mem_toList hlt)
    rw [findI_step (v := ks[i]) (by rw [Array.getElem?_toList]; exact hv)]
    generalize ks[i] = v at hv hk2
    have ih' := ih (i + 1) (by omega)
    have go : ∀ {nd : List Bool} {r : List Nat → Result}, (S_fl w F E I kl (esL4 h1 t1 (.ref sf) h2 t2 key h3 t3 v3 h4 t4 v4) n old i ks m nd r).Holds (VV w) → (∀ b ∈ nd, b = true) → (S_fl w F E I kl (esL4 h1 t1 (.ref sf) h2 t2 key h3 t3 v3 h4 t4 v4) n old i ks m [] r).Holds (VV w) := fun h n => Spec.Holds.less h n
    cases hs : sameV v key with
    | true =>
      rcases kind2_cases hk2 with ⟨x, t, y, u, rfl, rfl⟩ | ⟨x, t, y, u, rfl, rfl⟩
      · exact go (flT2I w F E I kl h1 t1 sf h2 t2 y u h3 t3 v3 h4 t4 v4 n old i ks m x t hv) (by intro b hb; simp only [List.mem_cons, List.not_mem_nil, or_false] at hb; rcases hb with rfl | rfl <;> assumption)
      · exact go (flT2B w F E I kl h1 t1 sf h2 t2 y u h3 t3 v3 h4 t4 v4 n old i ks m x t hv) (by intro b hb; simp only [List.mem_cons, List.not_mem_nil, or_false] at hb; rcases hb with rfl | rfl <;> assumption)
    | false =>
      rcases kind2_cases hk2 with ⟨x, t, y, u, rfl, rfl⟩ | ⟨x, t, y, u, rfl, rfl⟩
      · exact go (flN2I w F E I kl h1 t1 sf h2 t2 y u h3 t3 v3 h4 t4 v4 n old i ks m _ ih' x t hv) (by intro b hb; simp only [List.mem_cons, List.not_mem_nil, or_false] at hb; rcases hb with rfl | rfl <;> first | assumption | (rw [hs]; rfl))
      · exact go (flN2B w F E I kl h1 t1 sf h2 t2 y u h3 t3 v3 h4 t4 v4 n old i ks m _ ih' x t hv) (by intro b hb; simp only [List.mem_cons, List.not_mem_nil, or_false] at hb; rcases hb with rfl | rfl <;> first | assumption | (rw [hs]; rfl))
theorem fl_first (w : World) (F E I kl : Nat) (h1 : Int) (t1 : Nat) (sf : Nat) (h2 : Int) (t2 : Nat) (key : Value) (ks : Array Value) (m : Nat) (hk : kinds ks key = true) (n : Nat) (old : Value) :
    (S_fl w F E I kl (esL2 h1 t1 (.ref sf) h2 t2 key) n old 0 ks m [] (flRes (findI ks.toList key 0))).Holds (VV w) := by
  rcases Nat.eq_zero_or_pos ks.size with h0 | hlt
  · have hn : ks[0]? = none := Array.getElem?_eq_none (by omega)
    have : ks.toList = [] := List.eq_nil_of_length_eq_zero (by rw [Array.length_toList]; exact h0)
    rw [this]
    exact flE1 w F E I kl h1 t1 sf h2 t2 key n old 0 ks m hn
  · have hv : ks[0]? = some ks[0] := Array.getElem?_eq_getElem hlt
    have hk2 : kind2 ks[0] key = true := List.all_eq_true.mp hk _ (Array.getElem_mem_toList hlt)
    have e := findI_step (ks := ks.toList) (key := key) (i := 0) (v := ks[0]) (by rw [Array.getElem?_toList]; exact hv)
    rw [List.drop_zero] at e
    rw [e]
    generalize ks[0] = v at hv hk2
    have ih' := fl_later w F E I kl h1 t1 sf h2 t2 key ks m hk _ 1 rfl
    have go : ∀ {nd : List Bool} {r : List Nat → Result}, (S_fl w F E I kl (esL2 h1 t1 (.ref sf) h2 t2 key) n old 0 ks m nd r).Holds (VV w) → (∀ b ∈ nd, b = true) → (S_fl w F E I kl (esL2 h1 t1 (.ref sf) h2 t2 key) n old 0 ks m [] r).Holds (VV w) := fun h n => Spec.Holds.less h n
    cases hs : sameV v key with
    | true =>
      rcases kind2_cases hk2 with ⟨x, t, y, u, rfl, rfl⟩ | ⟨x, t, y, u, rfl, rfl⟩
      · exact go (flT1I w F E I kl h1 t1 sf h2 t2 y u n old 0 ks m x t hv) (by intro b hb; simp only [List.mem_cons, List.not_mem_nil, or_false] at hb; rcases hb with rfl | rfl <;> assumption)
      · exact go (flT1B w F E I kl h1 t1 sf h2 t2 y u n old 0 ks m x t hv) (by intro b hb; simp only [List.mem_cons, List.not_mem_nil, or_false] at hb; rcases hb with rfl | rfl <;> assumption)
    | false =>
      rcases kind2_cases hk2 with ⟨x, t, y, u, rfl, rfl⟩ | ⟨x, t, y, u, rfl, rfl⟩
      · exact go (flN1I w F E I kl h1 t1 sf h2 t2 y u n old 0 ks m _ ih' x t hv) (by intro b hb; simp only [List.mem_cons, List.not_mem_nil, or_false] at hb; rcases hb with rfl | rfl <;> first | assumption | (rw [hs]; rfl))
      · exact go (flN1B w F E I kl h1 t1 sf h2 t2 y u n old 0 ks m _ ih' x t hv) (by intro b hb; simp only [List.mem_cons, List.not_mem_nil, or_false] at hb; rcases hb with rfl | rfl <;> first | assumption | (rw [hs]; rfl))
structure Tab where
  h1 : Int
  t1 : Nat
  num : Value
  h2 : Int
  t2 : Nat
  kl : Nat
  h3 : Int
  t3 : Nat
  vl : Nat
  h4 : Int
  t4 : Nat
  mt : Value
  n : Nat
noncomputable def Tab.obj (T : Tab) : Obj := oDict #[en T.h1 (⟨#[110,117,109,98,101,114]⟩ : Str) T.t1 T.num, en T.h2 (⟨#[107,101,121,115]⟩ : Str) T.t2 (.ref T.kl), en T.h3 (⟨#[118,97,108,117,101,115]⟩ : Str) T.t3 (.ref T.vl), en T.h4 (⟨#[109,101,116,97]⟩ : Str) T.t4 T.mt] T.n
noncomputable def strTok (v : Value) : Nat := match v with | .str _ t => t | _ => 0
noncomputable def refOf (v : Value) : Nat := match v with | .ref a => a | _ => 0
noncomputable def tabOf (o : Obj) : Option Tab := match o.data with
  | .dict es n => match es.toList with
    | [e1, e2, e3, e4] => some ⟨e1.hash, strTok e1.key, e1.val, e2.hash, strTok e2.key, refOf e2.val, e3.hash, strTok e3.key, refOf e3.val, e4.hash, strTok e4.key, e4.val, n⟩
    | _ => none
  | _ => none
noncomputable def seqOf (o : Obj) : Option (Array Value × Nat) := match o.data with
  | .seq xs n => some (xs, n)
  | _ => none
noncomputable def findV (o : Option Nat) : Int := match o with | some j => Int.ofNat j | none => -1
noncomputable def S_find (a d : Nat) (T : Tab) (ks : Array Value) (m : Nat) (key : Value) (nd : List Bool) (r : Int) : Spec := { code := .call (.ref 203) ⟨[.ref a, key], []⟩, dep := 770, need := nd, pre := [(a, oInst 234 d), (d, T.obj), (T.kl, oList ks m)], touch := [], na := 0, nt := 1, res := fun _ ts => .ok (.ret (.int r (nth ts 0))), postT := fun _ _ => [], postN := fun _ _ => [] }
noncomputable def F_loop (w : World) (a : Nat) (key : Value) (ks : Array Value) (m : Nat) (kl : Nat) (r : List Nat → Result)
    (ih : ∀ (F E I : Nat) (h1 : Int) (t1 : Nat) (h2 : Int) (t2 : Nat) (n : Nat) (old : Value), (S_fl w F E I kl (esL2 h1 t1 (.ref a) h2 t2 key) n old 0 ks m [] r).Holds (VV w)) (c : Code) : Option (Dp (VV w)) := match c with
  | .forLoop _ _ _ _ _ => some ⟨4, fun as os _ => match as with
    | [F, E, I, _] => match os with
      | [oF, oE, _, _] => match oF.data with
        | .dict es n => match es.toList with
          | [e1, e2] => match oE.data with
            | .fields vs => some ⟨_, ih F E I e1.hash (strTok e1.key) e2.hash (strTok e2.key) n (vs.toList.getD 5 .none)⟩
            | _ => none
          | _ => none
        | _ => none
      | _ => none
    | _ => none⟩
  | _ => none
theorem findTB (w : World) (a d : Nat) (T : Tab) (ks : Array Value) (m : Nat) (y : Array UInt8) (u : Nat) (j : Nat) (ih : ∀ (w : World) (F E I : Nat) (h1 : Int) (t1 : Nat) (h2 : Int) (t2 : Nat) (n : Nat) (old : Value), (S_fl w F E I T.kl (esL2 h1 t1 (.ref a) h2 t2 (.bytes y u)) n old 0 ks m [] (flRes (some j))).Holds (VV w)) : (S_find a d T ks m (.bytes y u) [] (Int.ofNat j)).Holds (VV w) :=
  (byRow2 "special-get-raises" (P := fun w => (S_find a d T ks m (.bytes y u) [] (Int.ofNat j)).Holds (VV w)) (fun w => sS (F := F_loop (w.withFollow "special-get-raises" false) a (.bytes y u) ks m T.kl (flRes (some j)) (ih (w.withFollow "special-get-raises" false))) (vok _) 1000 ⟨[0,0,4,4,4,4,0,0,4,1,0,0,0,1,0,0,0,1,1,0,2,3,3,3,5,6,6,6,6,6,6,6,6,4,6,5,3,0], [], [3]⟩ fun m t => by kernel_rfl) (fun w => sS (F := F_loop (w.withFollow "special-get-raises" true) a (.bytes y u) ks m T.kl (flRes (some j)) (ih (w.withFollow "special-get-raises" true))) (vok _) 1000 ⟨[0,0,4,4,4,4,0,0,4,1,0,0,0,1,0,0,0,1,1,0,2,3,3,3,5,6,6,6,6,6,6,6,6,4,6,5,3,0], [], [3]⟩ fun m t => by kernel_rfl) w)
theorem findNB (w : World) (a d : Nat) (T : Tab) (ks : Array Value) (m : Nat) (y : Array UInt8) (u : Nat) (ih : ∀ (w : World) (F E I : Nat) (h1 : Int) (t1 : Nat) (h2 : Int) (t2 : Nat) (n : Nat) (old : Value), (S_fl w F E I T.kl (esL2 h1 t1 (.ref a) h2 t2 (.bytes y u)) n old 0 ks m [] (flRes none)).Holds (VV w)) : (S_find a d T ks m (.bytes y u) [] (-1)).Holds (VV w) :=
  (byRow2 "special-get-raises" (P := fun w => (S_find a d T ks m (.bytes y u) [] (-1)).Holds (VV w)) (fun w => sS (F := F_loop (w.withFollow "special-get-raises" false) a (.bytes y u) ks m T.kl (flRes none) (ih (w.withFollow "special-get-raises" false))) (vok _) 1000 ⟨[0,0,4,4,4,4,0,0,4,1,0,0,0,1,0,0,0,1,1,0,2,3,3,3,5,6,6,6,6,6,6,6,6,4,6,5,3,0], [], [5]⟩ fun m t => by kernel_rfl) (fun w => sS (F := F_loop (w.withFollow "special-get-raises" true) a (.bytes y u) ks m T.kl (flRes none) (ih (w.withFollow "special-get-raises" true))) (vok _) 1000 ⟨[0,0,4,4,4,4,0,0,4,1,0,0,0,1,0,0,0,1,1,0,2,3,3,3,5,6,6,6,6,6,6,6,6,4,6,5,3,0], [], [5]⟩ fun m t => by kernel_rfl) w)
theorem findTI (w : World) (a d : Nat) (T : Tab) (ks : Array Value) (m : Nat) (y : Int) (u : Nat) (j : Nat) (ih : ∀ (w : World) (F E I : Nat) (h1 : Int) (t1 : Nat) (h2 : Int) (t2 : Nat) (n : Nat) (old : Value), (S_fl w F E I T.kl (esL2 h1 t1 (.ref a) h2 t2 (.int y u)) n old 0 ks m [] (flRes (some j))).Holds (VV w)) : (S_find a d T ks m (.int y u) [] (Int.ofNat j)).Holds (VV w) :=
  (byRow2 "special-get-raises" (P := fun w => (S_find a d T ks m (.int y u) [] (Int.ofNat j)).Holds (VV w)) (fun w => sS (F := F_loop (w.withFollow "special-get-raises" false) a (.int y u) ks m T.kl (flRes (some j)) (ih (w.withFollow "special-get-raises" false))) (vok _) 1000 ⟨[0,0,4,4,4,4,0,0,4,1,0,0,0,1,0,0,0,1,1,0,2,3,3,3,5,6,6,6,6,6,6,6,6,4,6,5,3,0], [], [3]⟩ fun m t => by kernel_rfl) (fun w => sS (F := F_loop (w.withFollow "special-get-raises" true) a (.int y u) ks m T.kl (flRes (some j)) (ih (w.withFollow "special-get-raises" true))) (vok _) 1000 ⟨[0,0,4,4,4,4,0,0,4,1,0,0,0,1,0,0,0,1,1,0,2,3,3,3,5,6,6,6,6,6,6,6,6,4,6,5,3,0], [], [3]⟩ fun m t => by kernel_rfl) w)
theorem findNI (w : World) (a d : Nat) (T : Tab) (ks : Array Value) (m : Nat) (y : Int) (u : Nat) (ih : ∀ (w : World) (F E I : Nat) (h1 : Int) (t1 : Nat) (h2 : Int) (t2 : Nat) (n : Nat) (old : Value), (S_fl w F E I T.kl (esL2 h1 t1 (.ref a) h2 t2 (.int y u)) n old 0 ks m [] (flRes none)).Holds (VV w)) : (S_find a d T ks m (.int y u) [] (-1)).Holds (VV w) :=
  (byRow2 "special-get-raises" (P := fun w => (S_find a d T ks m (.int y u) [] (-1)).Holds (VV w)) (fun w => sS (F := F_loop (w.withFollow "special-get-raises" false) a (.int y u) ks m T.kl (flRes none) (ih (w.withFollow "special-get-raises" false))) (vok _) 1000 ⟨[0,0,4,4,4,4,0,0,4,1,0,0,0,1,0,0,0,1,1,0,2,3,3,3,5,6,6,6,6,6,6,6,6,4,6,5,3,0], [], [5]⟩ fun m t => by kernel_rfl) (fun w => sS (F := F_loop (w.withFollow "special-get-raises" true) a (.int y u) ks m T.kl (flRes none) (ih (w.withFollow "special-get-raises" true))) (vok _) 1000 ⟨[0,0,4,4,4,4,0,0,4,1,0,0,0,1,0,0,0,1,1,0,2,3,3,3,5,6,6,6,6,6,6,6,6,4,6,5,3,0], [], [5]⟩ fun m t => by kernel_rfl) w)
noncomputable def plain (v : Value) : Bool := match v with | .int .. => true | .bytes .. => true | _ => false
theorem plain_cases {v : Value} (h : plain v = true) : (∃ y u, v = .int y u) ∨ (∃ y u, v = .bytes y u) := by
  cases v with
  | int y u => exact .inl ⟨_, _, rfl⟩
  | bytes y u => exact .inr ⟨_, _, rfl⟩
  | _ => cases h
theorem find_any (w : World) (a d : Nat) (T : Tab) (ks : Array Value) (m : Nat) (key : Value) : (S_find a d T ks m key [plain key, kinds ks key] (findV (findI ks.toList key 0))).Holds (VV w) :=
  Spec.Holds.more (S := S_find a d T ks m key [] (findV (findI ks.toList key 0))) (fun q => by
    have hp := q _ mcS
    have hk := q _ (mcT mcS)
    have ih := fun w F E I h1 t1 h2 t2 n old => fl_first w F E I T.kl h1 t1 a h2 t2 key ks m hk n old
    cases hf : findI ks.toList key 0 with
    | none =>
      rw [hf] at ih
      rcases plain_cases hp with ⟨y, u, rfl⟩ | ⟨y, u, rfl⟩
      · exact findNI w a d T ks m y u ih
      · exact findNB w a d T ks m y u ih
    | some j =>
      rw [hf] at ih
      rcases plain_cases hp with ⟨y, u, rfl⟩ | ⟨y, u, rfl⟩
      · exact findTI w a d T ks m y u j ih
      · exact findTB w a d T ks m y u j ih) rfl
noncomputable def F_at (w : World) (SF : Spec) (hF : SF.Holds (VV w)) (l : Nat) (xs : Array Value) (n j : Nat) (v : Value) (hv : xs[j]? = some v) (hj : j < 1000000) (c : Code) : Option (Dp (VV w)) := match c with
  | .call (.ref f) ⟨[_, _], []⟩ => match Nat.beq f 203 with
    | true => some ⟨3, fun _ _ _ => some ⟨SF, hF⟩⟩
    | false => none
  | .builtin id ⟨[.ref _, .int _ t], []⟩ => match idIs id 128106587276438692081757506308484131437 with
    | true => some ⟨1, fun _ _ _ => some ⟨S_item l xs n j t v, item_at hv hj⟩⟩
    | false => none
  | .builtin id ⟨[.ref _, .int _ t, v'], []⟩ => match idIs id 128106587276438692082622197436939266669 with
    | true => some ⟨1, fun _ _ _ => some ⟨S_put l xs n j t v', put_at (by
        rcases Nat.lt_or_ge j xs.size with q | q
        · exact q
        · rw [Array.getElem?_eq_none q] at hv; cases hv) hj⟩⟩
    | false => none
  | _ => none
noncomputable def F_no (w : World) (SF : Spec) (hF : SF.Holds (VV w)) (c : Code) : Option (Dp (VV w)) := match c with
  | .call (.ref f) ⟨[_, _], []⟩ => match Nat.beq f 203 with
    | true => some ⟨3, fun _ _ _ => some ⟨SF, hF⟩⟩
    | false => none
  | .builtin id ⟨[.ref l, v'], []⟩ => match idIs id 122627580202994350266018413 with
    | true => some ⟨1, fun _ os _ => match os with
      | [o] => match seqOf o with
        | some (xs, n) => some ⟨S_push l xs n v', push_at⟩
        | none => none
      | _ => none⟩
    | false => none
  | _ => none
noncomputable def S_get (a d : Nat) (T : Tab) (ks : Array Value) (m : Nat) (vs : Array Value) (mv : Nat) (key : Value) (nd : List Bool) (v : Value) : Spec := { code := .call (.ref 210) ⟨[.ref a, key], []⟩, dep := 760, need := nd, pre := [(a, oInst 234 d), (d, T.obj), (T.kl, oList ks m), (T.vl, oList vs mv)], touch := [], na := 0, nt := 0, res := fun _ _ => .ok (.ret v), postT := fun _ _ => [], postN := fun _ _ => [] }
noncomputable def S_set (a d : Nat) (T : Tab) (ks : Array Value) (m : Nat) (vs : Array Value) (mv : Nat) (key v : Value) (nd : List Bool) (ks' : Array Value) (m' : Nat) (vs' : Array Value) (mv' : Nat) : Spec := { code := .call (.ref 217) ⟨[.ref a, key, v], []⟩, dep := 760, need := nd, pre := [(a, oInst 234 d), (d, T.obj), (T.kl, oList ks m), (T.vl, oList vs mv)], touch := [2,3], na := 0, nt := 0, res := fun _ _ => .ok (.ret .none), postT := fun _ _ => [some (oList ks' m'), some (oList vs' mv')], postN := fun _ _ => [] }
theorem getNB (w : World) (a d : Nat) (T : Tab) (ks : Array Value) (m : Nat) (vs : Array Value) (mv : Nat) (y : Array UInt8) (u : Nat) (hF : ∀ w : World, (S_find a d T ks m (.bytes y u) [] (-1)).Holds (VV w)) : (S_get a d T ks m vs mv (.bytes y u) [] .none).Holds (VV w) :=
  (byRow2 "special-get-raises" (P := fun w => (S_get a d T ks m vs mv (.bytes y u) [] .none).Holds (VV w)) (fun w => sS (F := F_no (w.withFollow "special-get-raises" false) _ (hF (w.withFollow "special-get-raises" false))) (vok _) 1000 ⟨[0,0,5,5,5,5,5,1,0,0,0,1,0,0,0,1,0,0,0,0,1,2,5,0,1,2,3,0,5,5,5], [], []⟩ fun m t => by kernel_rfl) (fun w => sS (F := F_no (w.withFollow "special-get-raises" true) _ (hF (w.withFollow "special-get-raises" true))) (vok _) 1000 ⟨[0,0,5,5,5,5,5,1,0,0,0,1,0,0,0,1,0,0,0,0,1,2,5,0,1,2,3,0,5,5,5], [], []⟩ fun m t => by kernel_rfl) w)
theorem setNB (w : World) (a d : Nat) (T : Tab) (ks : Array Value) (m : Nat) (vs : Array Value) (mv : Nat) (y : Array UInt8) (u : Nat) (hF : ∀ w : World, (S_find a d T ks m (.bytes y u) [] (-1)).Holds (VV w)) : (S_set a d T ks m vs mv (.bytes y u) .none [] ks m vs mv).Holds (VV w) :=
  (byRow2 "special-get-raises" (P := fun w => (S_set a d T ks m vs mv (.bytes y u) .none [] ks m vs mv).Holds (VV w)) (fun w => sS (F := F_no (w.withFollow "special-get-raises" false) _ (hF (w.withFollow "special-get-raises" false))) (vok _) 1000 ⟨[0,0,5,5,5,5,5,5,5,1,0,0,0,1,0,0,0,1,0,0,0,0,1,2,5,0,1,2,3,0,5,5,5,5], [], []⟩ fun m t => by kernel_rfl) (fun w => sS (F := F_no (w.withFollow "special-get-raises" true) _ (hF (w.withFollow "special-get-raises" true))) (vok _) 1000 ⟨[0,0,5,5,5,5,5,5,5,1,0,0,0,1,0,0,0,1,0,0,0,0,1,2,5,0,1,2,3,0,5,5,5,5], [], []⟩ fun m t => by kernel_rfl) w)
theorem getTBR (w : World) (a d : Nat) (T : Tab) (ks : Array Value) (m : Nat) (vs : Array Value) (mv : Nat) (y : Array UInt8) (u : Nat) (j : Nat) (hF : ∀ w : World, (S_find a d T ks m (.bytes y u) [] (Int.ofNat j)).Holds (VV w)) (z : Nat) (hv : vs[j]? = some (.ref z)) (hj : j < 1000000) : (S_get a d T ks m vs mv (.bytes y u) [] (.ref z)).Holds (VV w) :=
  (byRow2 "special-get-raises" (P := fun w => (S_get a d T ks m vs mv (.bytes y u) [] (.ref z)).Holds (VV w)) (fun w => sS (F := F_at (w.withFollow "special-get-raises" false) _ (hF (w.withFollow "special-get-raises" false)) T.vl vs mv j _ hv hj) (vok _) 1000 ⟨[0,0,5,5,5,5,5,1,0,0,0,1,0,0,0,1,0,0,0,0,1,2,5,0,1,2,3,0,5,5,5,5,1,0,0,0,1,0,0,0,1,1,0,2,5,4,4,4,4,4,0], [], []⟩ fun m t => by kernel_rfl) (fun w => sS (F := F_at (w.withFollow "special-get-raises" true) _ (hF (w.withFollow "special-get-raises" true)) T.vl vs mv j _ hv hj) (vok _) 1000 ⟨[0,0,5,5,5,5,5,1,0,0,0,1,0,0,0,1,0,0,0,0,1,2,5,0,1,2,3,0,5,5,5,5,1,0,0,0,1,0,0,0,1,1,0,2,5,4,4,4,4,4,0], [], []⟩ fun m t => by kernel_rfl) w)
theorem setFBR (w : World) (a d : Nat) (T : Tab) (ks : Array Value) (m : Nat) (vs : Array Value) (mv : Nat) (y : Array UInt8) (u : Nat) (j : Nat) (hF : ∀ w : World, (S_find a d T ks m (.bytes y u) [] (Int.ofNat j)).Holds (VV w)) (z : Nat) (v₀ : Value) (hv : vs[j]? = some v₀) (hj : j < 1000000) : (S_set a d T ks m vs mv (.bytes y u) (.ref z) [] ks m (vs.setIfInBounds j (.ref z)) mv).Holds (VV w) :=
  (byRow2 "special-get-raises" (P := fun w => (S_set a d T ks m vs mv (.bytes y u) (.ref z) [] ks m (vs.setIfInBounds j (.ref z)) mv).Holds (VV w)) (fun w => sS (F := F_at (w.withFollow "special-get-raises" false) _ (hF (w.withFollow "special-get-raises" false)) T.vl vs mv j _ hv hj) (vok _) 1000 ⟨[0,0,5,5,5,5,5,5,5,1,0,0,0,1,0,0,0,1,0,0,0,0,1,2,5,0,1,2,3,0,5,5,5,5,5,1,0,0,0,1,0,0,0,1,1,0,2,5,4,4,4,4,0], [], []⟩ fun m t => by kernel_rfl) (fun w => sS (F := F_at (w.withFollow "special-get-raises" true) _ (hF (w.withFollow "special-get-raises" true)) T.vl vs mv j _ hv hj) (vok _) 1000 ⟨[0,0,5,5,5,5,5,5,5,1,0,0,0,1,0,0,0,1,0,0,0,0,1,2,5,0,1,2,3,0,5,5,5,5,5,1,0,0,0,1,0,0,0,1,1,0,2,5,4,4,4,4,0], [], []⟩ fun m t => by kernel_rfl) w)
theorem getTBI (w : World) (a d : Nat) (T : Tab) (ks : Array Value) (m : Nat) (vs : Array Value) (mv : Nat) (y : Array UInt8) (u : Nat) (j : Nat) (hF : ∀ w : World, (S_find a d T ks m (.bytes y u) [] (Int.ofNat j)).Holds (VV w)) (z : Int) (s : Nat) (hv : vs[j]? = some (.int z s)) (hj : j < 1000000) : (S_get a d T ks m vs mv (.bytes y u) [] (.int z s)).Holds (VV w) :=
  (byRow2 "special-get-raises" (P := fun w => (S_get a d T ks m vs mv (.bytes y u) [] (.int z s)).Holds (VV w)) (fun w => sS (F := F_at (w.withFollow "special-get-raises" false) _ (hF (w.withFollow "special-get-raises" false)) T.vl vs mv j _ hv hj) (vok _) 1000 ⟨[0,0,5,5,5,5,5,1,0,0,0,1,0,0,0,1,0,0,0,0,1,2,5,0,1,2,3,0,5,5,5,5,1,0,0,0,1,0,0,0,1,1,0,2,5,4,4,4,4,4,0], [], []⟩ fun m t => by kernel_rfl) (fun w => sS (F := F_at (w.withFollow "special-get-raises" true) _ (hF (w.withFollow "special-get-raises" true)) T.vl vs mv j _ hv hj) (vok _) 1000 ⟨[0,0,5,5,5,5,5,1,0,0,0,1,0,0,0,1,0,0,0,0,1,2,5,0,1,2,3,0,5,5,5,5,1,0,0,0,1,0,0,0,1,1,0,2,5,4,4,4,4,4,0], [], []⟩ fun m t => by kernel_rfl) w)
theorem setFBI (w : World) (a d : Nat) (T : Tab) (ks : Array Value) (m : Nat) (vs : Array Value) (mv : Nat) (y : Array UInt8) (u : Nat) (j : Nat) (hF : ∀ w : World, (S_find a d T ks m (.bytes y u) [] (Int.ofNat j)).Holds (VV w)) (z : Int) (s : Nat) (v₀ : Value) (hv : vs[j]? = some v₀) (hj : j < 1000000) : (S_set a d T ks m vs mv (.bytes y u) (.int z s) [] ks m (vs.setIfInBounds j (.int z s)) mv).Holds (VV w) :=
  (byRow2 "special-get-raises" (P := fun w => (S_set a d T ks m vs mv (.bytes y u) (.int z s) [] ks m (vs.setIfInBounds j (.int z s)) mv).Holds (VV w)) (fun w => sS (F := F_at (w.withFollow "special-get-raises" false) _ (hF (w.withFollow "special-get-raises" false)) T.vl vs mv j _ hv hj) (vok _) 1000 ⟨[0,0,5,5,5,5,5,5,5,1,0,0,0,1,0,0,0,1,0,0,0,0,1,2,5,0,1,2,3,0,5,5,5,5,5,1,0,0,0,1,0,0,0,1,1,0,2,5,4,4,4,4,0], [], []⟩ fun m t => by kernel_rfl) (fun w => sS (F := F_at (w.withFollow "special-get-raises" true) _ (hF (w.withFollow "special-get-raises" true)) T.vl vs mv j _ hv hj) (vok _) 1000 ⟨[0,0,5,5,5,5,5,5,5,1,0,0,0,1,0,0,0,1,0,0,0,0,1,2,5,0,1,2,3,0,5,5,5,5,5,1,0,0,0,1,0,0,0,1,1,0,2,5,4,4,4,4,0], [], []⟩ fun m t => by kernel_rfl) w)
theorem getTBB (w : World) (a d : Nat) (T : Tab) (ks : Array Value) (m : Nat) (vs : Array Value) (mv : Nat) (y : Array UInt8) (u : Nat) (j : Nat) (hF : ∀ w : World, (S_find a d T ks m (.bytes y u) [] (Int.ofNat j)).Holds (VV w)) (z : Array UInt8) (s : Nat) (hv : vs[j]? = some (.bytes z s)) (hj : j < 1000000) : (S_get a d T ks m vs mv (.bytes y u) [] (.bytes z s)).Holds (VV w) :=
  (byRow2 "special-get-raises" (P := fun w => (S_get a d T ks m vs mv (.bytes y u) [] (.bytes z s)).Holds (VV w)) (fun w => sS (F := F_at (w.withFollow "special-get-raises" false) _ (hF (w.withFollow "special-get-raises" false)) T.vl vs mv j _ hv hj) (vok _) 1000 ⟨[0,0,5,5,5,5,5,1,0,0,0,1,0,0,0,1,0,0,0,0,1,2,5,0,1,2,3,0,5,5,5,5,1,0,0,0,1,0,0,0,1,1,0,2,5,4,4,4,4,4,0], [], []⟩ fun m t => by kernel_rfl) (fun w => sS (F := F_at (w.withFollow "special-get-raises" true) _ (hF (w.withFollow "special-get-raises" true)) T.vl vs mv j _ hv hj) (vok _) 1000 ⟨[0,0,5,5,5,5,5,1,0,0,0,1,0,0,0,1,0,0,0,0,1,2,5,0,1,2,3,0,5,5,5,5,1,0,0,0,1,0,0,0,1,1,0,2,5,4,4,4,4,4,0], [], []⟩ fun m t => by kernel_rfl) w)
theorem setFBB (w : World) (a d : Nat) (T : Tab) (ks : Array Value) (m : Nat) (vs : Array Value) (mv : Nat) (y : Array UInt8) (u : Nat) (j : Nat) (hF : ∀ w : World, (S_find a d T ks m (.bytes y u) [] (Int.ofNat j)).Holds (VV w)) (z : Array UInt8) (s : Nat) (v₀ : Value) (hv : vs[j]? = some v₀) (hj : j < 1000000) : (S_set a d T ks m vs mv (.bytes y u) (.bytes z s) [] ks m (vs.setIfInBounds j (.bytes z s)) mv).Holds (VV w) :=
  (byRow2 "special-get-raises" (P := fun w => (S_set a d T ks m vs mv (.bytes y u) (.bytes z s) [] ks m (vs.setIfInBounds j (.bytes z s)) mv).Holds (VV w)) (fun w => sS (F := F_at (w.withFollow "special-get-raises" false) _ (hF (w.withFollow "special-get-raises" false)) T.vl vs mv j _ hv hj) (vok _) 1000 ⟨[0,0,5,5,5,5,5,5,5,1,0,0,0,1,0,0,0,1,0,0,0,0,1,2,5,0,1,2,3,0,5,5,5,5,5,1,0,0,0,1,0,0,0,1,1,0,2,5,4,4,4,4,0], [], []⟩ fun m t => by kernel_rfl) (fun w => sS (F := F_at (w.withFollow "special-get-raises" true) _ (hF (w.withFollow "special-get-raises" true)) T.vl vs mv j _ hv hj) (vok _) 1000 ⟨[0,0,5,5,5,5,5,5,5,1,0,0,0,1,0,0,0,1,0,0,0,0,1,2,5,0,1,2,3,0,5,5,5,5,5,1,0,0,0,1,0,0,0,1,1,0,2,5,4,4,4,4,0], [], []⟩ fun m t => by kernel_rfl) w)
theorem getTBN (w : World) (a d : Nat) (T : Tab) (ks : Array Value) (m : Nat) (vs : Array Value) (mv : Nat) (y : Array UInt8) (u : Nat) (j : Nat) (hF : ∀ w : World, (S_find a d T ks m (.bytes y u) [] (Int.ofNat j)).Holds (VV w))  (hv : vs[j]? = some .none) (hj : j < 1000000) : (S_get a d T ks m vs mv (.bytes y u) [] .none).Holds (VV w) :=
  (byRow2 "special-get-raises" (P := fun w => (S_get a d T ks m vs mv (.bytes y u) [] .none).Holds (VV w)) (fun w => sS (F := F_at (w.withFollow "special-get-raises" false) _ (hF (w.withFollow "special-get-raises" false)) T.vl vs mv j _ hv hj) (vok _) 1000 ⟨[0,0,5,5,5,5,5,1,0,0,0,1,0,0,0,1,0,0,0,0,1,2,5,0,1,2,3,0,5,5,5,5,1,0,0,0,1,0,0,0,1,1,0,2,5,4,4,4,4,4,0], [], []⟩ fun m t => by kernel_rfl) (fun w => sS (F := F_at (w.withFollow "special-get-raises" true) _ (hF (w.withFollow "special-get-raises" true)) T.vl vs mv j _ hv hj) (vok _) 1000 ⟨[0,0,5,5,5,5,5,1,0,0,0,1,0,0,0,1,0,0,0,0,1,2,5,0,1,2,3,0,5,5,5,5,1,0,0,0,1,0,0,0,1,1,0,2,5,4,4,4,4,4,0], [], []⟩ fun m t => by kernel_rfl) w)
theorem setFBN (w : World) (a d : Nat) (T : Tab) (ks : Array Value) (m : Nat) (vs : Array Value) (mv : Nat) (y : Array UInt8) (u : Nat) (j : Nat) (hF : ∀ w : World, (S_find a d T ks m (.bytes y u) [] (Int.ofNat j)).Holds (VV w))  (v₀ : Value) (hv : vs[j]? = some v₀) (hj : j < 1000000) : (S_set a d T ks m vs mv (.bytes y u) .none [] ks m (vs.setIfInBounds j .none) mv).Holds (VV w) :=
  (byRow2 "special-get-raises" (P := fun w => (S_set a d T ks m vs mv (.bytes y u) .none [] ks m (vs.setIfInBounds j .none) mv).Holds (VV w)) (fun w => sS (F := F_at (w.withFollow "special-get-raises" false) _ (hF (w.withFollow "special-get-raises" false)) T.vl vs mv j _ hv hj) (vok _) 1000 ⟨[0,0,5,5,5,5,5,5,5,1,0,0,0,1,0,0,0,1,0,0,0,0,1,2,5,0,1,2,3,0,5,5,5,5,5,1,0,0,0,1,0,0,0,1,1,0,2,5,4,4,4,4,0], [], []⟩ fun m t => by kernel_rfl) (fun w => sS (F := F_at (w.withFollow "special-get-raises" true) _ (hF (w.withFollow "special-get-raises" true)) T.vl vs mv j _ hv hj) (vok _) 1000 ⟨[0,0,5,5,5,5,5,5,5,1,0,0,0,1,0,0,0,1,0,0,0,0,1,2,5,0,1,2,3,0,5,5,5,5,5,1,0,0,0,1,0,0,0,1,1,0,2,5,4,4,4,4,0], [], []⟩ fun m t => by kernel_rfl) w)
theorem setABR (w : World) (a d : Nat) (T : Tab) (ks : Array Value) (m : Nat) (vs : Array Value) (mv : Nat) (y : Array UInt8) (u : Nat) (hF : ∀ w : World, (S_find a d T ks m (.bytes y u) [] (-1)).Holds (VV w)) (z : Nat) : (S_set a d T ks m vs mv (.bytes y u) (.ref z) [Nat.blt ks.size 1000, Nat.blt vs.size 1000] (ks.push (.bytes y u)) (m + 1) (vs.push (.ref z)) (mv + 1)).Holds (VV w) :=
  (byRow2 "special-get-raises" (P := fun w => (S_set a d T ks m vs mv (.bytes y u) (.ref z) [Nat.blt ks.size 1000, Nat.blt vs.size 1000] (ks.push (.bytes y u)) (m + 1) (vs.push (.ref z)) (mv + 1)).Holds (VV w)) (fun w => sS (F := F_no (w.withFollow "special-get-raises" false) _ (hF (w.withFollow "special-get-raises" false))) (vok _) 1000 ⟨[0,0,5,5,5,5,5,5,5,1,0,0,0,1,0,0,0,1,0,0,0,0,1,2,5,0,1,2,3,0,5,5,5,5,5,1,0,0,0,1,0,0,0,1,1,0,2,3,3,3,3,5,3,3,0,1,5,1,0,0,0,1,0,0,0,1,1,0,2,4,4,4,4,5,4,4,0,2], [], []⟩ fun m t => by kernel_rfl) (fun w => sS (F := F_no (w.withFollow "special-get-raises" true) _ (hF (w.withFollow "special-get-raises" true))) (vok _) 1000 ⟨[0,0,5,5,5,5,5,5,5,1,0,0,0,1,0,0,0,1,0,0,0,0,1,2,5,0,1,2,3,0,5,5,5,5,5,1,0,0,0,1,0,0,0,1,1,0,2,3,3,3,3,5,3,3,0,1,5,1,0,0,0,1,0,0,0,1,1,0,2,4,4,4,4,5,4,4,0,2], [], []⟩ fun m t => by kernel_rfl) w)
theorem setABI (w : World) (a d : Nat) (T : Tab) (ks : Array Value) (m : Nat) (vs : Array Value) (mv : Nat) (y : Array UInt8) (u : Nat) (hF : ∀ w : World, (S_find a d T ks m (.bytes y u) [] (-1)).Holds (VV w)) (z : Int) (s : Nat) : (S_set a d T ks m vs mv (.bytes y u) (.int z s) [Nat.blt ks.size 1000, Nat.blt vs.size 1000] (ks.push (.bytes y u)) (m + 1) (vs.push (.int z s)) (mv + 1)).Holds (VV w) :=
  (byRow2 "special-get-raises" (P := fun w => (S_set a d T ks m vs mv (.bytes y u) (.int z s) [Nat.blt ks.size 1000, Nat.blt vs.size 1000] (ks.push (.bytes y u)) (m + 1) (vs.push (.int z s)) (mv + 1)).Holds (VV w)) (fun w => sS (F := F_no (w.withFollow "special-get-raises" false) _ (hF (w.withFollow "special-get-raises" false))) (vok _) 1000 ⟨[0,0,5,5,5,5,5,5,5,1,0,0,0,1,0,0,0,1,0,0,0,0,1,2,5,0,1,2,3,0,5,5,5,5,5,1,0,0,0,1,0,0,0,1,1,0,2,3,3,3,3,5,3,3,0,1,5,1,0,0,0,1,0,0,0,1,1,0,2,4,4,4,4,5,4,4,0,2], [], []⟩ fun m t => by kernel_rfl) (fun w => sS (F := F_no (w.withFollow "special-get-raises" true) _ (hF (w.withFollow "special-get-raises" true))) (vok _) 1000 ⟨[0,0,5,5,5,5,5,5,5,1,0,0,0,1,0,0,0,1,0,0,0,0,1,2,5,0,1,2,3,0,5,5,5,5,5,1,0,0,0,1,0,0,0,1,1,0,2,3,3,3,3,5,3,3,0,1,5,1,0,0,0,1,0,0,0,1,1,0,2,4,4,4,4,5,4,4,0,2], [], []⟩ fun m t => by kernel_rfl) w)
theorem setABB (w : World) (a d : Nat) (T : Tab) (ks : Array Value) (m : Nat) (vs : Array Value) (mv : Nat) (y : Array UInt8) (u : Nat) (hF : ∀ w : World, (S_find a d T ks m (.bytes y u) [] (-1)).Holds (VV w)) (z : Array UInt8) (s : Nat) : (S_set a d T ks m vs mv (.bytes y u) (.bytes z s) [Nat.blt ks.size 1000, Nat.blt vs.size 1000] (ks.push (.bytes y u)) (m + 1) (vs.push (.bytes z s)) (mv + 1)).Holds (VV w) :=
  (byRow2 "special-get-raises" (P := fun w => (S_set a d T ks m vs mv (.bytes y u) (.bytes z s) [Nat.blt ks.size 1000, Nat.blt vs.size 1000] (ks.push (.bytes y u)) (m + 1) (vs.push (.bytes z s)) (mv + 1)).Holds (VV w)) (fun w => sS (F := F_no (w.withFollow "special-get-raises" false) _ (hF (w.withFollow "special-get-raises" false))) (vok _) 1000 ⟨[0,0,5,5,5,5,5,5,5,1,0,0,0,1,0,0,0,1,0,0,0,0,1,2,5,0,1,2,3,0,5,5,5,5,5,1,0,0,0,1,0,0,0,1,1,0,2,3,3,3,3,5,3,3,0,1,5,1,0,0,0,1,0,0,0,1,1,0,2,4,4,4,4,5,4,4,0,2], [], []⟩ fun m t => by kernel_rfl) (fun w => sS (F := F_no (w.withFollow "special-get-raises" true) _ (hF (w.withFollow "special-get-raises" true))) (vok _) 1000 ⟨[0,0,5,5,5,5,5,5,5,1,0,0,0,1,0,0,0,1,0,0,0,0,1,2,5,0,1,2,3,0,5,5,5,5,5,1,0,0,0,1,0,0,0,1,1,0,2,3,3,3,3,5,3,3,0,1,5,1,0,0,0,1,0,0,0,1,1,0,2,4,4,4,4,5,4,4,0,2], [], []⟩ fun m t => by kernel_rfl) w)
theorem getNI (w : World) (a d : Nat) (T : Tab) (ks : Array Value) (m : Nat) (vs : Array Value) (mv : Nat) (y : Int) (u : Nat) (hF : ∀ w : World, (S_find a d T ks m (.int y u) [] (-1)).Holds (VV w)) : (S_get a d T ks m vs mv (.int y u) [] .none).Holds (VV w) :=
  (byRow2 "special-get-raises" (P := fun w => (S_get a d T ks m vs mv (.int y u) [] .none).Holds (VV w)) (fun w => sS (F := F_no (w.withFollow "special-get-raises" false) _ (hF (w.withFollow "special-get-raises" false))) (vok _) 1000 ⟨[0,0,5,5,5,5,5,1,0,0,0,1,0,0,0,1,0,0,0,0,1,2,5,0,1,2,3,0,5,5,5], [], []⟩ fun m t => by kernel_rfl) (fun w => sS (F := F_no (w.withFollow "special-get-raises" true) _ (hF (w.withFollow "special-get-raises" true))) (vok _) 1000 ⟨[0,0,5,5,5,5,5,1,0,0,0,1,0,0,0,1,0,0,0,0,1,2,5,0,1,2,3,0,5,5,5], [], []⟩ fun m t => by kernel_rfl) w)
theorem setNI (w : World) (a d : Nat) (T : Tab) (ks : Array Value) (m : Nat) (vs : Array Value) (mv : Nat) (y : Int) (u : Nat) (hF : ∀ w : World, (S_find a d T ks m (.int y u) [] (-1)).Holds (VV w)) : (S_set a d T ks m vs mv (.int y u) .none [] ks m vs mv).Holds (VV w) :=
  (byRow2 "special-get-raises" (P := fun w => (S_set a d T ks m vs mv (.int y u) .none [] ks m vs mv).Holds (VV w)) (fun w => sS (F := F_no (w.withFollow "special-get-raises" false) _ (hF (w.withFollow "special-get-raises" false))) (vok _) 1000 ⟨[0,0,5,5,5,5,5,5,5,1,0,0,0,1,0,0,0,1,0,0,0,0,1,2,5,0,1,2,3,0,5,5,5,5], [], []⟩ fun m t => by kernel_rfl) (fun w => sS (F := F_no (w.withFollow "special-get-raises" true) _ (hF (w.withFollow "special-get-raises" true))) (vok _) 1000 ⟨[0,0,5,5,5,5,5,5,5,1,0,0,0,1,0,0,0,1,0,0,0,0,1,2,5,0,1,2,3,0,5,5,5,5], [], []⟩ fun m t => by kernel_rfl) w)
theorem getTIR (w : World) (a d : Nat) (T : Tab) (ks : Array Value) (m : Nat) (vs : Array Value) (mv : Nat) (y : Int) (u : Nat) (j : Nat) (hF : ∀ w : World, (S_find a d T ks m (.int y u) [] (Int.ofNat j)).Holds (VV w)) (z : Nat) (hv : vs[j]? = some (.ref z)) (hj : j < 1000000) : (S_get a d T ks m vs mv (.int y u) [] (.ref z)).Holds (VV w) :=
  (byRow2 "special-get-raises" (P := fun w => (S_get a d T ks m vs mv (.int y u) [] (.ref z)).Holds (VV w)) (fun w => sS (F := F_at (w.withFollow "special-get-raises" false) _ (hF (w.withFollow "special-get-raises" false)) T.vl vs mv j _ hv hj) (vok _) 1000 ⟨[0,0,5,5,5,5,5,1,0,0,0,1,0,0,0,1,0,0,0,0,1,2,5,0,1,2,3,0,5,5,5,5,1,0,0,0,1,0,0,0,1,1,0,2,5,4,4,4,4,4,0], [], []⟩ fun m t => by kernel_rfl) (fun w => sS (F := F_at (w.withFollow "special-get-raises" true) _ (hF (w.withFollow "special-get-raises" true)) T.vl vs mv j _ hv hj) (vok _) 1000 ⟨[0,0,5,5,5,5,5,1,0,0,0,1,0,0,0,1,0,0,0,0,1,2,5,0,1,2,3,0,5,5,5,5,1,0,0,0,1,0,0,0,1,1,0,2,5,4,4,4,4,4,0], [], []⟩ fun m t => by kernel_rfl) w)
theorem setFIR (w : World) (a d : Nat) (T : Tab) (ks : Array Value) (m : Nat) (vs : Array Value) (mv : Nat) (y : Int) (u : Nat) (j : Nat) (hF : ∀ w : World, (S_find a d T ks m (.int y u) [] (Int.ofNat j)).Holds (VV w)) (z : Nat) (v₀ : Value) (hv : vs[j]? = some v₀) (hj : j < 1000000) : (S_set a d T ks m vs mv (.int y u) (.ref z) [] ks m (vs.setIfInBounds j (.ref z)) mv).Holds (VV w) :=
  (byRow2 "special-get-raises" (P := fun w => (S_set a d T ks m vs mv (.int y u) (.ref z) [] ks m (vs.setIfInBounds j (.ref z)) mv).Holds (VV w)) (fun w => sS (F := F_at (w.withFollow "special-get-raises" false) _ (hF (w.withFollow "special-get-raises" false)) T.vl vs mv j _ hv hj) (vok _) 1000 ⟨[0,0,5,5,5,5,5,5,5,1,0,0,0,1,0,0,0,1,0,0,0,0,1,2,5,0,1,2,3,0,5,5,5,5,5,1,0,0,0,1,0,0,0,1,1,0,2,5,4,4,4,4,0], [], []⟩ fun m t => by kernel_rfl) (fun w => sS (F := F_at (w.withFollow "special-get-raises" true) _ (hF (w.withFollow "special-get-raises" true)) T.vl vs mv j _ hv hj) (vok _) 1000 ⟨[0,0,5,5,5,5,5,5,5,1,0,0,0,1,0,0,0,1,0,0,0,0,1,2,5,0,1,2,3,0,5,5,5,5,5,1,0,0,0,1,0,0,0,1,1,0,2,5,4,4,4,4,0], [], []⟩ fun m t => by kernel_rfl) w)
theorem getTII (w : World) (a d : Nat) (T : Tab) (ks : Array Value) (m : Nat) (vs : Array Value) (mv : Nat) (y : Int) (u : Nat) (j : Nat) (hF : ∀ w : World, (S_find a d T ks m (.int y u) [] (Int.ofNat j)).Holds (VV w)) (z : Int) (s : Nat) (hv : vs[j]? = some (.int z s)) (hj : j < 1000000) : (S_get a d T ks m vs mv (.int y u) [] (.int z s)).Holds (VV w) :=
  (byRow2 "special-get-raises" (P := fun w => (S_get a d T ks m vs mv (.int y u) [] (.int z s)).Holds (VV w)) (fun w => sS (F := F_at (w.withFollow "special-get-raises" false) _ (hF (w.withFollow "special-get-raises" false)) T.vl vs mv j _ hv hj) (vok _) 1000 ⟨[0,0,5,5,5,5,5,1,0,0,0,1,0,0,0,1,0,0,0,0,1,2,5,0,1,2,3,0,5,5,5,5,1,0,0,0,1,0,0,0,1,1,0,2,5,4,4,4,4,4,0], [], []⟩ fun m t => by kernel_rfl) (fun w => sS (F := F_at (w.withFollow "special-get-raises" true) _ (hF (w.withFollow "special-get-raises" true)) T.vl vs mv j _ hv hj) (vok _) 1000 ⟨[0,0,5,5,5,5,5,1,0,0,0,1,0,0,0,1,0,0,0,0,1,2,5,0,1,2,3,0,5,5,5,5,1,0,0,0,1,0,0,0,1,1,0,2,5,4,4,4,4,4,0], [], []⟩ fun m t => by kernel_rfl) w)
theorem setFII (w : World) (a d : Nat) (T : Tab) (ks : Array Value) (m : Nat) (vs : Array Value) (mv : Nat) (y : Int) (u : Nat) (j : Nat) (hF : ∀ w : World, (S_find a d T ks m (.int y u) [] (Int.ofNat j)).Holds (VV w)) (z : Int) (s : Nat) (v₀ : Value) (hv : vs[j]? = some v₀) (hj : j < 1000000) : (S_set a d T ks m vs mv (.int y u) (.int z s) [] ks m (vs.setIfInBounds j (.int z s)) mv).Holds (VV w) :=
  (byRow2 "special-get-raises" (P := fun w => (S_set a d T ks m vs mv (.int y u) (.int z s) [] ks m (vs.setIfInBounds j (.int z s)) mv).Holds (VV w)) (fun w => sS (F := F_at (w.withFollow "special-get-raises" false) _ (hF (w.withFollow "special-get-raises" false)) T.vl vs mv j _ hv hj) (vok _) 1000 ⟨[0,0,5,5,5,5,5,5,5,1,0,0,0,1,0,0,0,1,0,0,0,0,1,2,5,0,1,2,3,0,5,5,5,5,5,1,0,0,0,1,0,0,0,1,1,0,2,5,4,4,4,4,0], [], []⟩ fun m t => by kernel_rfl) (fun w => sS (F := F_at (w.withFollow "special-get-raises" true) _ (hF (w.withFollow "special-get-raises" true)) T.vl vs mv j _ hv hj) (vok _) 1000 ⟨[0,0,5,5,5,5,5,5,5,1,0,0,0,1,0,0,0,1,0,0,0,0,1,2,5,0,1,2,3,0,5,5,5,5,5,1,0,0,0,1,0,0,0,1,1,0,2,5,4,4,4,4,0], [], []⟩ fun m t => by kernel_rfl) w)
theorem getTIB (w : World) (a d : Nat) (T : Tab) (ks : Array Value) (m : Nat) (vs : Array Value) (mv : Nat) (y : Int) (u : Nat) (j : Nat) (hF : ∀ w : World, (S_find a d T ks m (.int y u) [] (Int.ofNat j)).Holds (VV w)) (z : Array UInt8) (s : Nat) (hv : vs[j]? = some (.bytes z s)) (hj : j < 1000000) : (S_get a d T ks m vs mv (.int y u) [] (.bytes z s)).Holds (VV w) :=
  (byRow2 "special-get-raises" (P := fun w => (S_get a d T ks m vs mv (.int y u) [] (.bytes z s)).Holds (VV w)) (fun w => sS (F := F_at (w.withFollow "special-get-raises" false) _ (hF (w.withFollow "special-get-raises" false)) T.vl vs mv j _ hv hj) (vok _) 1000 ⟨[0,0,5,5,5,5,5,1,0,0,0,1,0,0,0,1,0,0,0,0,1,2,5,0,1,2,3,0,5,5,5,5,1,0,0,0,1,0,0,0,1,1,0,2,5,4,4,4,4,4,0], [], []⟩ fun m t => by kernel_rfl) (fun w => sS (F := F_at (w.withFollow "special-get-raises" true) _ (hF (w.withFollow "special-get-raises" true)) T.vl vs mv j _ hv hj) (vok _) 1000 ⟨[0,0,5,5,5,5,5,1,0,0,0,1,0,0,0,1,0,0,0,0,1,2,5,0,1,2,3,0,5,5,5,5,1,0,0,0,1,0,0,0,1,1,0,2,5,4,4,4,4,4,0], [], []⟩ fun m t => by kernel_rfl) w)
theorem setFIB (w : World) (a d : Nat) (T : Tab) (ks : Array Value) (m : Nat) (vs : Array Value) (mv : Nat) (y : Int) (u : Nat) (j : Nat) (hF : ∀ w : World, (S_find a d T ks m (.int y u) [] (Int.ofNat j)).Holds (VV w)) (z : Array UInt8) (s : Nat) (v₀ : Value) (hv : vs[j]? = some v₀) (hj : j < 1000000) : (S_set a d T ks m vs mv (.int y u) (.bytes z s) [] ks m (vs.setIfInBounds j (.bytes z s)) mv).Holds (VV w) :=
  (byRow2 "special-get-raises" (P := fun w => (S_set a d T ks m vs mv (.int y u) (.bytes z s) [] ks m (vs.setIfInBounds j (.bytes z s)) mv).Holds (VV w)) (fun w => sS (F := F_at (w.withFollow "special-get-raises" false) _ (hF (w.withFollow "special-get-raises" false)) T.vl vs mv j _ hv hj) (vok _) 1000 ⟨[0,0,5,5,5,5,5,5,5,1,0,0,0,1,0,0,0,1,0,0,0,0,1,2,5,0,1,2,3,0,5,5,5,5,5,1,0,0,0,1,0,0,0,1,1,0,2,5,4,4,4,4,0], [], []⟩ fun m t => by kernel_rfl) (fun w => sS (F := F_at (w.withFollow "special-get-raises" true) _ (hF (w.withFollow "special-get-raises" true)) T.vl vs mv j _ hv hj) (vok _) 1000 ⟨[0,0,5,5,5,5,5,5,5,1,0,0,0,1,0,0,0,1,0,0,0,0,1,2,5,0,1,2,3,0,5,5,5,5,5,1,0,0,0,1,0,0,0,1,1,0,2,5,4,4,4,4,0], [], []⟩ fun m t => by kernel_rfl) w)
theorem getTIN (w : World) (a d : Nat) (T : Tab) (ks : Array Value) (m : Nat) (vs : Array Value) (mv : Nat) (y : Int) (u : Nat) (j : Nat) (hF : ∀ w : World, (S_find a d T ks m (.int y u) [] (Int.ofNat j)).Holds (VV w))  (hv : vs[j]? = some .none) (hj : j < 1000000) : (S_get a d T ks m vs mv (.int y u) [] .none).Holds (VV w) :=
  (byRow2 "special-get-raises" (P := fun w => (S_get a d T ks m vs mv (.int y u) [] .none).Holds (VV w)) (fun w => sS (F := F_at (w.withFollow "special-get-raises" false) _ (hF (w.withFollow "special-get-raises" false)) T.vl vs mv j _ hv hj) (vok _) 1000 ⟨[0,0,5,5,5,5,5,1,0,0,0,1,0,0,0,1,0,0,0,0,1,2,5,0,1,2,3,0,5,5,5,5,1,0,0,0,1,0,0,0,1,1,0,2,5,4,4,4,4,4,0], [], []⟩ fun m t => by kernel_rfl) (fun w => sS (F := F_at (w.withFollow "special-get-raises" true) _ (hF (w.withFollow "special-get-raises" true)) T.vl vs mv j _ hv hj) (vok _) 1000 ⟨[0,0,5,5,5,5,5,1,0,0,0,1,0,0,0,1,0,0,0,0,1,2,5,0,1,2,3,0,5,5,5,5,1,0,0,0,1,0,0,0,1,1,0,2,5,4,4,4,4,4,0], [], []⟩ fun m t => by kernel_rfl) w)
theorem setFIN (w : World) (a d : Nat) (T : Tab) (ks : Array Value) (m : Nat) (vs : Array Value) (mv : Nat) (y : Int) (u : Nat) (j : Nat) (hF : ∀ w : World, (S_find a d T ks m (.int y u) [] (Int.ofNat j)).Holds (VV w))  (v₀ : Value) (hv : vs[j]? = some v₀) (hj : j < 1000000) : (S_set a d T ks m vs mv (.int y u) .none [] ks m (vs.setIfInBounds j .none) mv).Holds (VV w) :=
  (byRow2 "special-get-raises" (P := fun w => (S_set a d T ks m vs mv (.int y u) .none [] ks m (vs.setIfInBounds j .none) mv).Holds (VV w)) (fun w => sS (F := F_at (w.withFollow "special-get-raises" false) _ (hF (w.withFollow "special-get-raises" false)) T.vl vs mv j _ hv hj) (vok _) 1000 ⟨[0,0,5,5,5,5,5,5,5,1,0,0,0,1,0,0,0,1,0,0,0,0,1,2,5,0,1,2,3,0,5,5,5,5,5,1,0,0,0,1,0,0,0,1,1,0,2,5,4,4,4,4,0], [], []⟩ fun m t => by kernel_rfl) (fun w => sS (F := F_at (w.withFollow "special-get-raises" true) _ (hF (w.withFollow "special-get-raises" true)) T.vl vs mv j _ hv hj) (vok _) 1000 ⟨[0,0,5,5,5,5,5,5,5,1,0,0,0,1,0,0,0,1,0,0,0,0,1,2,5,0,1,2,3,0,5,5,5,5,5,1,0,0,0,1,0,0,0,1,1,0,2,5,4,4,4,4,0], [], []⟩ fun m t => by kernel_rfl) w)
theorem setAIR (w : World) (a d : Nat) (T : Tab) (ks : Array Value) (m : Nat) (vs : Array Value) (mv : Nat) (y : Int) (u : Nat) (hF : ∀ w : World, (S_find a d T ks m (.int y u) [] (-1)).Holds (VV w)) (z : Nat) : (S_set a d T ks m vs mv (.int y u) (.ref z) [Nat.blt ks.size 1000, Nat.blt vs.size 1000] (ks.push (.int y u)) (m + 1) (vs.push (.ref z)) (mv + 1)).Holds (VV w) :=
  (byRow2 "special-get-raises" (P := fun w => (S_set a d T ks m vs mv (.int y u) (.ref z) [Nat.blt ks.size 1000, Nat.blt vs.size 1000] (ks.push (.int y u)) (m + 1) (vs.push (.ref z)) (mv + 1)).Holds (VV w)) (fun w => sS (F := F_no (w.withFollow "special-get-raises" false) _ (hF (w.withFollow "special-get-raises" false))) (vok _) 1000 ⟨[0,0,5,5,5,5,5,5,5,1,0,0,0,1,0,0,0,1,0,0,0,0,1,2,5,0,1,2,3,0,5,5,5,5,5,1,0,0,0,1,0,0,0,1,1,0,2,3,3,3,3,5,3,3,0,1,5,1,0,0,0,1,0,0,0,1,1,0,2,4,4,4,4,5,4,4,0,2], [], []⟩ fun m t => by kernel_rfl) (fun w => sS (F := F_no (w.withFollow "special-get-raises" true) _ (hF (w.withFollow "special-get-raises" true))) (vok _) 1000 ⟨[0,0,5,5,5,5,5,5,5,1,0,0,0,1,0,0,0,1,0,0,0,0,1,2,5,0,1,2,3,0,5,5,5,5,5,1,0,0,0,1,0,0,0,1,1,0,2,3,3,3,3,5,3,3,0,1,5,1,0,0,0,1,0,0,0,1,1,0,2,4,4,4,4,5,4,4,0,2], [], []⟩ fun m t => by kernel_rfl) w)
theorem setAII (w : World) (a d : Nat) (T : Tab) (ks : Array Value) (m : Nat) (vs : Array Value) (mv : Nat) (y : Int) (u : Nat) (hF : ∀ w : World, (S_find a d T ks m (.int y u) [] (-1)).Holds (VV w)) (z : Int) (s : Nat) : (S_set a d T ks m vs mv (.int y u) (.int z s) [Nat.blt ks.size 1000, Nat.blt vs.size 1000] (ks.push (.int y u)) (m + 1) (vs.push (.int z s)) (mv + 1)).Holds (VV w) :=
  (byRow2 "special-get-raises" (P := fun w => (S_set a d T ks m vs mv (.int y u) (.int z s) [Nat.blt ks.size 1000, Nat.blt vs.size 1000] (ks.push (.int y u)) (m + 1) (vs.push (.int z s)) (mv + 1)).Holds (VV w)) (fun w => sS (F := F_no (w.withFollow "special-get-raises" false) _ (hF (w.withFollow "special-get-raises" false))) (vok _) 1000 ⟨[0,0,5,5,5,5,5,5,5,1,0,0,0,1,0,0,0,1,0,0,0,0,1,2,5,0,1,2,3,0,5,5,5,5,5,1,0,0,0,1,0,0,0,1,1,0,2,3,3,3,3,5,3,3,0,1,5,1,0,0,0,1,0,0,0,1,1,0,2,4,4,4,4,5,4,4,0,2], [], []⟩ fun m t => by kernel_rfl) (fun w => sS (F := F_no (w.withFollow "special-get-raises" true) _ (hF (w.withFollow "special-get-raises" true))) (vok _) 1000 ⟨[0,0,5,5,5,5,5,5,5,1,0,0,0,1,0,0,0,1,0,0,0,0,1,2,5,0,1,2,3,0,5,5,5,5,5,1,0,0,0,1,0,0,0,1,1,0,2,3,3,3,3,5,3,3,0,1,5,1,0,0,0,1,0,0,0,1,1,0,2,4,4,4,4,5,4,4,0,2], [], []⟩ fun m t => by kernel_rfl) w)
theorem setAIB (w : World) (a d : Nat) (T : Tab) (ks : Array Value) (m : Nat) (vs : Array Value) (mv : Nat) (y : Int) (u : Nat) (hF : ∀ w : World, (S_find a d T ks m (.int y u) [] (-1)).Holds (VV w)) (z : Array UInt8) (s : Nat) : (S_set a d T ks m vs mv (.int y u) (.bytes z s) [Nat.blt ks.size 1000, Nat.blt vs.size 1000] (ks.push (.int y u)) (m + 1) (vs.push (.bytes z s)) (mv + 1)).Holds (VV w) :=
  (byRow2 "special-get-raises" (P := fun w => (S_set a d T ks m vs mv (.int y u) (.bytes z s) [Nat.blt ks.size 1000, Nat.blt vs.size 1000] (ks.push (.int y u)) (m + 1) (vs.push (.bytes z s)) (mv + 1)).Holds (VV w)) (fun w => sS (F := F_no (w.withFollow "special-get-raises" false) _ (hF (w.withFollow "special-get-raises" false))) (vok _) 1000 ⟨[0,0,5,5,5,5,5,5,5,1,0,0,0,1,0,0,0,1,0,0,0,0,1,2,5,0,1,2,3,0,5,5,5,5,5,1,0,0,0,1,0,0,0,1,1,0,2,3,3,3,3,5,3,3,0,1,5,1,0,0,0,1,0,0,0,1,1,0,2,4,4,4,4,5,4,4,0,2], [], []⟩ fun m t => by kernel_rfl) (fun w => sS (F := F_no (w.withFollow "special-get-raises" true) _ (hF (w.withFollow "special-get-raises" true))) (vok _) 1000 ⟨[0,0,5,5,5,5,5,5,5,1,0,0,0,1,0,0,0,1,0,0,0,0,1,2,5,0,1,2,3,0,5,5,5,5,5,1,0,0,0,1,0,0,0,1,1,0,2,3,3,3,3,5,3,3,0,1,5,1,0,0,0,1,0,0,0,1,1,0,2,4,4,4,4,5,4,4,0,2], [], []⟩ fun m t => by kernel_rfl) w)
noncomputable def easy (v : Value) : Bool := match v with | .none => true | .int .. => true | .bytes .. => true | .ref _ => true | _ => false
noncomputable def easyAll (vs : Array Value) : Bool := vs.toList.all easy
noncomputable def getV (ks vs : Array Value) (key : Value) : Value := match findI ks.toList key 0 with
  | some j => vs.toList.getD j .none
  | none => .none
noncomputable def isNo (v : Value) : Bool := match v with | .none => true | _ => false
noncomputable def setKs (ks : Array Value) (key v : Value) : Array Value := match findI ks.toList key 0 with
  | some _ => ks
  | none => match isNo v with | true => ks | false => ks.push key
noncomputable def setM (ks : Array Value) (key v : Value) (m : Nat) : Nat := match findI ks.toList key 0 with
  | some _ => m
  | none => match isNo v with | true => m | false => m + 1
noncomputable def setVs (ks vs : Array Value) (key v : Value) : Array Value := match findI ks.toList key 0 with
  | some j => vs.setIfInBounds j v
  | none => match isNo v with | true => vs | false => vs.push v
theorem findI_lt {key : Value} : ∀ {ks : List Value} {i j : Nat}, findI ks key i = some j → i ≤ j ∧ j < i + ks.length
  | [], _, _, h => by cases h
  | k :: ks, i, j, h => by
    unfold findI at h
    cases e : sameV k key with
    | true => rw [e] at h; cases h; exact ⟨Nat.le_refl _, by rw [List.length_cons]; lia⟩
    | false =>
      rw [e] at h
      have := findI_lt (ks := ks) h
      rw [List.length_cons]; lia
noncomputable def tabNeed (ks vs : Array Value) (key : Value) : List Bool := [plain key && kinds ks key, Nat.beq ks.size vs.size && Nat.blt ks.size 1000, easyAll vs]
theorem tab_need {ks vs : Array Value} {key : Value} (q : ∀ b ∈ tabNeed ks vs key, b = true) : plain key = true ∧ kinds ks key = true ∧ ks.size = vs.size ∧ ks.size < 1000 ∧ easyAll vs = true := by
  have h1 := q _ mcS
  have h2 := q _ (mcT mcS)
  have h3 := q _ (mcT (mcT mcS))
  rw [Bool.and_eq_true] at h1 h2
  exact ⟨h1.1, h1.2, Nat.eq_of_beq_eq_true h2.1, blt_iff h2.2, h3⟩
theorem find_some (w : World) {a d : Nat} {T : Tab} {ks : Array Value} {m : Nat} {key : Value} (hp : plain key = true) (hk : kinds ks key = true) {r : Option Nat} (hf : findI ks.toList key 0 = r) : (S_find a d T ks m key [] (findV r)).Holds (VV w) := by
  rw [← hf]
  exact Spec.Holds.less (find_any w a d T ks m key) (by
    intro b hb
    change b ∈ [plain key, kinds ks key] at hb
    simp only [List.mem_cons, List.not_mem_nil, or_false] at hb
    rcases hb with rfl | rfl <;> assumption)
theorem easy_cases {v : Value} (h : easy v = true) : v = .none ∨ (∃ y u, v = .int y u) ∨ (∃ y u, v = .bytes y u) ∨ ∃ y, v = .ref y := by
  cases v with
  | none => exact .inl rfl
  | int y u => exact .inr (.inl ⟨_, _, rfl⟩)
  | bytes y u => exact .inr (.inr (.inl ⟨_, _, rfl⟩))
  | ref y => exact .inr (.inr (.inr ⟨_, rfl⟩))
  | _ => cases h
theorem get_any (w : World) (a d : Nat) (T : Tab) (ks : Array Value) (m : Nat) (vs : Array Value) (mv : Nat) (key : Value) : (S_get a d T ks m vs mv key (tabNeed ks vs key) (getV ks vs key)).Holds (VV w) :=
  Spec.Holds.more (S := S_get a d T ks m vs mv key [] (getV ks vs key)) (fun q => by
    obtain ⟨hp, hk, hz, hlt, he⟩ := tab_need q
    cases hf : findI ks.toList key 0 with
    | none =>
      have hF := fun w => find_some w (a := a) (d := d) (T := T) (m := m) hp hk hf
      have e : getV ks vs key = .none := by unfold getV; rw [hf]
      rw [e]
      rcases plain_cases hp with ⟨y, u, rfl⟩ | ⟨y, u, rfl⟩
      · exact getNI w a d T ks m vs mv y u hF
      · exact getNB w a d T ks m vs mv y u hF
    | some j =>
      have hF := fun w => find_some w (a := a) (d := d) (T := T) (m := m) hp hk hf
      have hj : j < vs.size := by have := findI_lt hf; rw [Array.length_toList] at this; lia
      have hv : vs[j]? = some vs[j] := Array.getElem?_eq_getElem hj
      have e : getV ks vs key = vs[j] := by
        unfold getV; rw [hf]
        show vs.toList.getD j .none = _
        rw [List.getD_eq_getElem?_getD, Array.getElem?_toList, hv]; rfl
      rw [e]
      have hy : easy vs[j] = true := List.all_eq_true.mp he _ (Array.getElem_mem_toList hj)
      have hj' : j < 1000000 := by lia
      generalize vs[j] = v at hv hy
      rcases plain_cases hp with ⟨y, u, rfl⟩ | ⟨y, u, rfl⟩
      · rcases easy_cases hy with rfl | ⟨z, s, rfl⟩ | ⟨z, s, rfl⟩ | ⟨z, rfl⟩
        · exact getTIN w a d T ks m vs mv y u j hF hv hj'
        · exact getTII w a d T ks m vs mv y u j hF z s hv hj'
        · exact getTIB w a d T ks m vs mv y u j hF z s hv hj'
        · exact getTIR w a d T ks m vs mv y u j hF z hv hj'
      · rcases easy_cases hy with rfl | ⟨z, s, rfl⟩ | ⟨z, s, rfl⟩ | ⟨z, rfl⟩
        · exact getTBN w a d T ks m vs mv y u j hF hv hj'
        · exact getTBI w a d T ks m vs mv y u j hF z s hv hj'
        · exact getTBB w a d T ks m vs mv y u j hF z s hv hj'
        · exact getTBR w a d T ks m vs mv y u j hF z hv hj') rfl
theorem set_any (w : World) (a d : Nat) (T : Tab) (ks : Array Value) (m : Nat) (vs : Array Value) (mv : Nat) (key v : Value) : (S_set a d T ks m vs mv key v (easy v :: tabNeed ks vs key) (setKs ks key v) (setM ks key v m) (setVs ks vs key v) (setM ks key v mv)).Holds (VV w) :=
  Spec.Holds.more (S := S_set a d T ks m vs mv key v [] (setKs ks key v) (setM ks key v m) (setVs ks vs key v) (setM ks key v mv)) (fun q => by
    have hy := q _ mcS
    obtain ⟨hp, hk, hz, hlt, he⟩ := tab_need fun b hb => q b (mcT hb)
    unfold setKs setM setVs
    cases hf : findI ks.toList key 0 with
    | none =>
      have hF := fun w => find_some w (a := a) (d := d) (T := T) (m := m) hp hk hf
      have hn : ∀ b ∈ [Nat.blt ks.size 1000, Nat.blt vs.size 1000], b = true := by
        intro b hb
        simp only [List.mem_cons, List.not_mem_nil, or_false] at hb
        rcases hb with rfl | rfl
        · exact Nat.ble_eq_true_of_le hlt
        · rw [← hz]; exact Nat.ble_eq_true_of_le hlt
      rcases plain_cases hp with ⟨y, u, rfl⟩ | ⟨y, u, rfl⟩
      · rcases easy_cases hy with rfl | ⟨z, s, rfl⟩ | ⟨z, s, rfl⟩ | ⟨z, rfl⟩
        · exact setNI w a d T ks m vs mv y u hF
        · exact Spec.Holds.less (setAII w a d T ks m vs mv y u hF z s) hn
        · exact Spec.Holds.less (setAIB w a d T ks m vs mv y u hF z s) hn
        · exact Spec.Holds.less (setAIR w a d T ks m vs mv y u hF z) hn
      · rcases easy_cases hy with rfl | ⟨z, s, rfl⟩ | ⟨z, s, rfl⟩ | ⟨z, rfl⟩
        · exact setNB w a d T ks m vs mv y u hF
        · exact Spec.Holds.less (setABI w a d T ks m vs mv y u hF z s) hn
        · exact Spec.Holds.less (setABB w a d T ks m vs mv y u hF z s) hn
        · exact Spec.Holds.less (setABR w a d T ks m vs mv y u hF z) hn
    | some j =>
      have hF := fun w => find_some w (a := a) (d := d) (T := T) (m := m) hp hk hf
      have hj : j < vs.size := by have := findI_lt hf; rw [Array.length_toList] at this; lia
      have hv : vs[j]? = some vs[j] := Array.getElem?_eq_getElem hj
      have hj' : j < 1000000 := by lia
      generalize vs[j] = v₀ at hv
      rcases plain_cases hp with ⟨y, u, rfl⟩ | ⟨y, u, rfl⟩
      · rcases easy_cases hy with rfl | ⟨z, s, rfl⟩ | ⟨z, s, rfl⟩ | ⟨z, rfl⟩
        · exact setFIN w a d T ks m vs mv y u j hF v₀ hv hj'
        · exact setFII w a d T ks m vs mv y u j hF z s v₀ hv hj'
        · exact setFIB w a d T ks m vs mv y u j hF z s v₀ hv hj'
        · exact setFIR w a d T ks m vs mv y u j hF z v₀ hv hj'
      · rcases easy_cases hy with rfl | ⟨z, s, rfl⟩ | ⟨z, s, rfl⟩ | ⟨z, rfl⟩
        · exact setFBN w a d T ks m vs mv y u j hF v₀ hv hj'
        · exact setFBI w a d T ks m vs mv y u j hF z s v₀ hv hj'
        · exact setFBB w a d T ks m vs mv y u j hF z s v₀ hv hj'
        · exact setFBR w a d T ks m vs mv y u j hF z v₀ hv hj') rfl
noncomputable def D_find (w : World) (key : Value) : Dp (VV w) := ⟨3, fun as os _ => match as with
  | [a, d, _] => match os with
    | [_, o2, o3] => match tabOf o2 with
      | some T => match seqOf o3 with
        | some (ks, m) => some ⟨_, find_any w a d T ks m key⟩
        | none => none
      | none => none
    | _ => none
  | _ => none⟩
noncomputable def D_get (w : World) (key : Value) : Dp (VV w) := ⟨4, fun as os _ => match as with
  | [a, d, _, _] => match os with
    | [_, o2, o3, o4] => match tabOf o2 with
      | some T => match seqOf o3 with
        | some (ks, m) => match seqOf o4 with
          | some (vs, mv) => some ⟨_, get_any w a d T ks m vs mv key⟩
          | none => none
        | none => none
      | none => none
    | _ => none
  | _ => none⟩
noncomputable def D_set (w : World) (key v : Value) : Dp (VV w) := ⟨4, fun as os _ => match as with
  | [a, d, _, _] => match os with
    | [_, o2, o3, o4] => match tabOf o2 with
      | some T => match seqOf o3 with
        | some (ks, m) => match seqOf o4 with
          | some (vs, mv) => some ⟨_, set_any w a d T ks m vs mv key v⟩
          | none => none
        | none => none
      | none => none
    | _ => none
  | _ => none⟩
end Mine
end

noncomputable section
open PySem PySem.W PySem.W.X PyProof.Rows
set_option maxRecDepth 1000000
set_option maxHeartbeats 0
namespace Mine
noncomputable def hashOf (P : Params) (s : Str) : Int := if s.cps.isEmpty then 0 else reduceHash (P.strHash s.cps)
theorem hashOf_rfl : @hashOf = @hashOf := rfl
end Mine
lay_z Mine.hashOf
name_z hashOfZ for Mine.hashOf by Mine.hashOf_rfl
namespace Mine
open PySem.W.ZFast (hashOfZ)
noncomputable def S_cmp (id : String) (x : Int) (t : Nat) (y : Int) (u : Nat) (nd : List Bool) (b : Bool) : Spec := { code := .builtin id ⟨[.int x t, .int y u], []⟩, dep := 870, need := nd, pre := [], touch := [], na := 0, nt := 0, res := fun _ _ => .ok (.ret (.bool b)), postT := fun _ _ => [], postN := fun _ _ => [] }
noncomputable abbrev eqB (x y : Int) : Bool := @decide (x = y) (Z.eqZ x y)
noncomputable abbrev ltB (x y : Int) : Bool := @decide (x < y) (Z.ltZ x y)
noncomputable abbrev leB (x y : Int) : Bool := @decide (x ≤ y) (Z.leZ x y)
theorem cmp_eq (w : World) (x : Int) (t : Nat) (y : Int) (u : Nat) : (S_cmp "int.__eq__" x t y u [] (eqB x y)).Holds (VV w) :=
  sS (F := noF) (vok _) 100 ⟨[], [], []⟩ fun m t => by kernel_rfl
theorem cmp_ne (w : World) (x : Int) (t : Nat) (y : Int) (u : Nat) : (S_cmp "int.__ne__" x t y u [] (!eqB x y)).Holds (VV w) :=
  sS (F := noF) (vok _) 100 ⟨[], [], []⟩ fun m t => by kernel_rfl
theorem cmp_lt (w : World) (x : Int) (t : Nat) (y : Int) (u : Nat) : (S_cmp "int.__lt__" x t y u [] (ltB x y)).Holds (VV w) :=
  sS (F := noF) (vok _) 100 ⟨[], [], []⟩ fun m t => by kernel_rfl
theorem cmp_le (w : World) (x : Int) (t : Nat) (y : Int) (u : Nat) : (S_cmp "int.__le__" x t y u [] (leB x y)).Holds (VV w) :=
  sS (F := noF) (vok _) 100 ⟨[], [], []⟩ fun m t => by kernel_rfl
theorem cmp_gt (w : World) (x : Int) (t : Nat) (y : Int) (u : Nat) : (S_cmp "int.__gt__" x t y u [] (ltB y x)).Holds (VV w) :=
  sS (F := noF) (vok _) 100 ⟨[], [], []⟩ fun m t => by kernel_rfl
theorem cmp_ge (w : World) (x : Int) (t : Nat) (y : Int) (u : Nat) : (S_cmp "int.__ge__" x t y u [] (leB y x)).Holds (VV w) :=
  sS (F := noF) (vok _) 100 ⟨[], [], []⟩ fun m t => by kernel_rfl
noncomputable abbrev oTabD (P : Params) (t1 : Nat) (num : Value) (t2 : Nat) (kl : Nat) (t3 : Nat) (vl : Nat) (t4 : Nat) : Obj := oDict #[en (hashOfZ P (⟨#[110,117,109,98,101,114]⟩ : Str)) (⟨#[110,117,109,98,101,114]⟩ : Str) t1 num, en (hashOfZ P (⟨#[107,101,121,115]⟩ : Str)) (⟨#[107,101,121,115]⟩ : Str) t2 (.ref kl), en (hashOfZ P (⟨#[118,97,108,117,101,115]⟩ : Str)) (⟨#[118,97,108,117,101,115]⟩ : Str) t3 (.ref vl), en (hashOfZ P (⟨#[109,101,116,97]⟩ : Str)) (⟨#[109,101,116,97]⟩ : Str) t4 .none] 4
noncomputable def S_newT (w : World) (x : Int) (t : Nat) : Spec := { code := .call (.ref 234) ⟨[.int x t], []⟩, dep := 800, pre := [], touch := [], na := 4, nt := 4, res := fun as _ => .ok (.ret (.ref (nth as 0))), postT := fun _ _ => [], postN := fun as ts => [oInst 234 (nth as 1), oTabD w.params (nth ts 0) (.int x t) (nth ts 1) (nth as 2) (nth ts 2) (nth as 3) (nth ts 3), oList #[] 0, oList #[] 0] }
noncomputable def S_newB (w : World) (x : Int) (t : Nat) (y : Array UInt8) (u : Nat) (f : Nat) : Spec := { code := .call (.ref 255) ⟨[.int x t, .bytes y u, .ref f], []⟩, dep := 800, pre := [], touch := [], na := 2, nt := 3, res := fun as _ => .ok (.ret (.ref (nth as 0))), postT := fun _ _ => [], postN := fun as ts => [oInst 255 (nth as 1), oDict #[en (hashOfZ w.params (⟨#[110,117,109,98,101,114]⟩ : Str)) (⟨#[110,117,109,98,101,114]⟩ : Str) (nth ts 0) (.int x t), en (hashOfZ w.params (⟨#[110,97,109,101]⟩ : Str)) (⟨#[110,97,109,101]⟩ : Str) (nth ts 1) (.bytes y u), en (hashOfZ w.params (⟨#[119,111,114,107]⟩ : Str)) (⟨#[119,111,114,107]⟩ : Str) (nth ts 2) (.ref f)] 3] }
theorem newT (w : World) (x : Int) (t : Nat) : (S_newT w x t).Holds (VV w) :=
  sS (F := noF) (vok _) 1000 ⟨[0,0,0,0,0,0,0,0,0,0,0,0,0,0,0,0,0,0,0,0,0,0,0,0,0,0,0,2,0,2,0,0,0,0,0,0,3,3,3,3,3,3,2,0,0,0,2,0,2,0,2,0,0,0,2,0,1,1,1,3,2,0,0,0,2,0,2,0,2,0,0,0,2,0,1,1,1,3,2,0,0,0,2,0,2,0,2,0,0,0,2,0,1,1,1,3,2,0,0,0,2,0,2,0,2,0,0,0,2,0,1,1,1], [1,0,3,4], [3,5,7,9]⟩ fun m t => by kernel_rfl
theorem newB (w : World) (x : Int) (t : Nat) (y : Array UInt8) (u : Nat) (f : Nat) : (S_newB w x t y u f).Holds (VV w) :=
  sS (F := noF) (vok _) 1000 ⟨[0,0,0,0,0,0,0,0,0,0,0,0,0,0,0,0,0,0,0,0,0,0,0,0,0,0,0,2,0,2,0,0,0,0,0,0,3,3,3,3,3,3,3,3,3,3,2,0,0,0,2,0,2,0,2,0,0,0,2,0,1,1,1,3,3,2,0,0,0,2,0,2,0,2,0,0,0,2,0,1,1,1,3,3,2,0,0,0,2,0,2,0,2,0,0,0,2,0,1,1,1], [1,0], [5,7,9]⟩ fun m t => by kernel_rfl
end Mine
end

noncomputable section
open PySem PySem.W PySem.W.X PyProof.Rows
set_option maxRecDepth 1000000
set_option maxHeartbeats 0
namespace Mine
open PySem.W.ZFast (hashOfZ)
theorem cmp_T {w : World} {id : String} {x : Int} {t : Nat} {y : Int} {u : Nat} {b : Bool} (h : (S_cmp id x t y u [] b).Holds (VV w)) : (S_cmp id x t y u [b] true).Holds (VV w) := by
  refine Spec.Holds.more (S := S_cmp id x t y u [] true) (nd := [b]) (fun q => ?_) rfl
  have := q _ mcS
  rw [this] at h; exact h
theorem cmp_F {w : World} {id : String} {x : Int} {t : Nat} {y : Int} {u : Nat} {b : Bool} (h : (S_cmp id x t y u [] b).Holds (VV w)) : (S_cmp id x t y u [!b] false).Holds (VV w) := by
  refine Spec.Holds.more (S := S_cmp id x t y u [] false) (nd := [!b]) (fun q => ?_) rfl
  have := q _ mcS
  cases b with
  | false => exact h
  | true => cases this
noncomputable def D_cmp {w : World} {id : String} {x : Int} {t : Nat} {y : Int} {u : Nat} {b : Bool} (h : (S_cmp id x t y u [] b).Holds (VV w)) : Dp (VV w) := ⟨0, fun _ _ alt => match alt with
  | 0 => some ⟨_, cmp_T h⟩
  | _ => some ⟨_, cmp_F h⟩⟩
noncomputable def F_cmp (w : World) (id : String) (x : Int) (t : Nat) (y : Int) (u : Nat) : Option (Dp (VV w)) :=
  match idIs id 455126529904428302298986 with
  | true => some (D_cmp (cmp_gt w x t y u))
  | false => match idIs id 455125450447892616933226 with
    | true => some (D_cmp (cmp_le w x t y u))
    | false => match idIs id 455126531311803185852266 with
      | true => some (D_cmp (cmp_lt w x t y u))
      | false => match idIs id 455126313168696235093866 with
        | true => some (D_cmp (cmp_eq w x t y u))
        | false => match idIs id 455125451010842570354538 with
          | true => some (D_cmp (cmp_ne w x t y u))
          | false => match idIs id 455125449040517733379946 with
            | true => some (D_cmp (cmp_ge w x t y u))
            | false => none
structure Lim where
  h : Nat → Int
  t : Nat → Nat
  x : Nat → Int
  u : Nat → Nat
  n : Nat
noncomputable def Lim.obj (L : Lim) : Obj := oDict #[en (L.h 0) (⟨#[119,105,100,116,104]⟩ : Str) (L.t 0) (.int (L.x 0) (L.u 0)), en (L.h 1) (⟨#[114,101,103,105,115,116,101,114,115]⟩ : Str) (L.t 1) (.int (L.x 1) (L.u 1)), en (L.h 2) (⟨#[117,112,118,97,108,117,101,115]⟩ : Str) (L.t 2) (.int (L.x 2) (L.u 2)), en (L.h 3) (⟨#[108,111,99,97,108,95,110,97,109,101,115]⟩ : Str) (L.t 3) (.int (L.x 3) (L.u 3)), en (L.h 4) (⟨#[99,99,97,108,108,115]⟩ : Str) (L.t 4) (.int (L.x 4) (L.u 4)), en (L.h 5) (⟨#[102,114,97,109,101,115]⟩ : Str) (L.t 5) (.int (L.x 5) (L.u 5)), en (L.h 6) (⟨#[115,116,97,99,107]⟩ : Str) (L.t 6) (.int (L.x 6) (L.u 6)), en (L.h 7) (⟨#[102,108,117,115,104]⟩ : Str) (L.t 7) (.int (L.x 7) (L.u 7)), en (L.h 8) (⟨#[115,116,101,112,115]⟩ : Str) (L.t 8) (.int (L.x 8) (L.u 8)), en (L.h 9) (⟨#[116,101,120,116]⟩ : Str) (L.t 9) (.int (L.x 9) (L.u 9))] L.n
noncomputable def enAt (es : Array DictEntry) (i : Nat) : DictEntry := es.toList.getD i ⟨0, .none, .none⟩
noncomputable def intOf (v : Value) : Int := match v with | .int x _ => x | _ => 0
noncomputable def tokOf (v : Value) : Nat := match v with | .int _ t => t | .bytes _ t => t | .str _ t => t | _ => 0
noncomputable def limOf (o : Obj) : Option Lim := match o.data with
  | .dict es n => some ⟨fun i => (enAt es i).hash, fun i => strTok (enAt es i).key, fun i => intOf (enAt es i).val, fun i => tokOf (enAt es i).val, n⟩
  | _ => none
structure Hst where
  h : Nat → Int
  t : Nat → Nat
  lim : Nat
  chunk : Value
  out : Nat
  made : Value
  tx : Nat
  n : Nat
noncomputable def Hst.obj (S : Hst) (steps : Int) (ts : Nat) (fr : Nat) (deep : Int) (td : Nat) : Obj := oDict #[en (S.h 0) (⟨#[108,105,109,105,116,115]⟩ : Str) (S.t 0) (.ref S.lim), en (S.h 1) (⟨#[99,104,117,110,107]⟩ : Str) (S.t 1) S.chunk, en (S.h 2) (⟨#[111,117,116]⟩ : Str) (S.t 2) (.ref S.out), en (S.h 3) (⟨#[115,116,101,112,115]⟩ : Str) (S.t 3) (.int steps ts), en (S.h 4) (⟨#[109,97,100,101]⟩ : Str) (S.t 4) S.made, en (S.h 5) (⟨#[102,114,97,109,101,115]⟩ : Str) (S.t 5) (.ref fr), en (S.h 6) (⟨#[100,101,101,112]⟩ : Str) (S.t 6) (.int deep td), en (S.h 7) (⟨#[116,101,120,116,115]⟩ : Str) (S.t 7) (.ref S.tx)] S.n
structure Hv where
  steps : Int
  ts : Nat
  fr : Nat
  deep : Int
  td : Nat
noncomputable def hostOf (o : Obj) : Option (Hst × Hv) := match o.data with
  | .dict es n => some (⟨fun i => (enAt es i).hash, fun i => strTok (enAt es i).key, refOf (enAt es 0).val, (enAt es 1).val, refOf (enAt es 2).val, (enAt es 4).val, refOf (enAt es 7).val, n⟩, ⟨intOf (enAt es 3).val, tokOf (enAt es 3).val, refOf (enAt es 5).val, intOf (enAt es 6).val, tokOf (enAt es 6).val⟩)
  | _ => none
noncomputable def S_tick (H hd ld : Nat) (S : Hst) (L : Lim) (steps : Int) (ts fr : Nat) (deep : Int) (td : Nat) : Spec := { code := .call (.ref 329) ⟨[.ref H], []⟩, dep := 800, need := [!ltB (L.x 8) (steps + 1)], pre := [(H, oInst 451 hd), (hd, S.obj steps ts fr deep td), (S.lim, oInst 53 ld), (ld, L.obj)], touch := [1], na := 0, nt := 1, res := fun _ _ => .ok (.ret .none), postT := fun _ us => [some (S.obj (steps + 1) (nth us 0) fr deep td)], postN := fun _ _ => [] }
noncomputable def S_deeper (H hd : Nat) (S : Hst) (steps : Int) (ts fr : Nat) (deep : Int) (td : Nat) (many : Int) (tm : Nat) : Spec := { code := .call (.ref 336) ⟨[.ref H, .int many tm], []⟩, dep := 800, need := [!ltB 820 (deep + many)], pre := [(H, oInst 451 hd), (hd, S.obj steps ts fr deep td)], touch := [1], na := 0, nt := 1, res := fun _ _ => .ok (.ret .none), postT := fun _ us => [some (S.obj steps ts fr (deep + many) (nth us 0))], postN := fun _ _ => [] }
noncomputable def oFrameD (P : Params) (t1 : Nat) (x : Int) (tx : Nat) (t2 : Nat) (c : Nat) (t3 : Nat) (e : Nat) (t4 : Nat) (line : Int) (u4 : Nat) (t5 : Nat) (deep : Int) (u5 : Nat) : Obj := oDict #[en (hashOfZ P (⟨#[110,117,109,98,101,114]⟩ : Str)) (⟨#[110,117,109,98,101,114]⟩ : Str) t1 (.int x tx), en (hashOfZ P (⟨#[99,101,108,108,115]⟩ : Str)) (⟨#[99,101,108,108,115]⟩ : Str) t2 (.ref c), en (hashOfZ P (⟨#[101,120,116,114,97]⟩ : Str)) (⟨#[101,120,116,114,97]⟩ : Str) t3 (.ref e), en (hashOfZ P (⟨#[108,105,110,101]⟩ : Str)) (⟨#[108,105,110,101]⟩ : Str) t4 (.int line u4), en (hashOfZ P (⟨#[100,101,101,112]⟩ : Str)) (⟨#[100,101,101,112]⟩ : Str) t5 (.int deep u5)] 5
noncomputable def S_Frame (w : World) (x : Int) (t c e : Nat) : Spec := { code := .call (.ref 297) ⟨[.int x t, .ref c, .ref e], []⟩, dep := 800, pre := [], touch := [], na := 2, nt := 7, res := fun as _ => .ok (.ret (.ref (nth as 0))), postT := fun _ _ => [], postN := fun as ts => [oInst 297 (nth as 1), oFrameD w.params (nth ts 0) x t (nth ts 1) c (nth ts 2) e (nth ts 3) 0 (nth ts 5) (nth ts 4) 0 (nth ts 6)] }
noncomputable def F_c (w : World) (c : Code) : Option (Dp (VV w)) := match c with
  | .builtin id ⟨[.int x t, .int y u], []⟩ => F_cmp w id x t y u
  | _ => none
theorem tick (w : World) (H hd ld : Nat) (S : Hst) (L : Lim) (steps : Int) (ts fr : Nat) (deep : Int) (td : Nat) : (S_tick H hd ld S L steps ts fr deep td).Holds (VV w) :=
  (byRow2 "special-get-raises" (P := fun w => (S_tick H hd ld S L steps ts fr deep td).Holds (VV w)) (fun w => sS (F := F_c (w.withFollow "special-get-raises" false)) (vok _) 1000 ⟨[0,0,5,5,5,1,0,0,0,1,0,0,0,1,1,0,2,1,0,0,0,1,0,1,0,1,0,0,0,1,0,2,2,2,5,1,0,0,0,1,0,0,0,1,1,0,2,5,1,0,0,0,1,0,0,0,1,1,0,2,3,0,0,0,3,0,0,0,3,3,0,4,1,1], [], [3]⟩ fun m t => by kernel_rfl) (fun w => sS (F := F_c (w.withFollow "special-get-raises" true)) (vok _) 1000 ⟨[0,0,5,5,5,1,0,0,0,1,0,0,0,1,1,0,2,1,0,0,0,1,0,1,0,1,0,0,0,1,0,2,2,2,5,1,0,0,0,1,0,0,0,1,1,0,2,5,1,0,0,0,1,0,0,0,1,1,0,2,3,0,0,0,3,0,0,0,3,3,0,4,1,1], [], [3]⟩ fun m t => by kernel_rfl) w)
theorem deeper (w : World) (H hd : Nat) (S : Hst) (steps : Int) (ts fr : Nat) (deep : Int) (td : Nat) (many : Int) (tm : Nat) : (S_deeper H hd S steps ts fr deep td many tm).Holds (VV w) :=
  (byRow2 "special-get-raises" (P := fun w => (S_deeper H hd S steps ts fr deep td many tm).Holds (VV w)) (fun w => sS (F := F_c (w.withFollow "special-get-raises" false)) (vok _) 1000 ⟨[0,0,3,3,3,3,3,1,0,0,0,1,0,0,0,1,1,0,2,3,1,0,0,0,1,0,1,0,1,0,0,0,1,0,2,2,2,3,1,0,0,0,1,0,0,0,1,1,0,2,0,1,1], [], [3]⟩ fun m t => by kernel_rfl) (fun w => sS (F := F_c (w.withFollow "special-get-raises" true)) (vok _) 1000 ⟨[0,0,3,3,3,3,3,1,0,0,0,1,0,0,0,1,1,0,2,3,1,0,0,0,1,0,1,0,1,0,0,0,1,0,2,2,2,3,1,0,0,0,1,0,0,0,1,1,0,2,0,1,1], [], [3]⟩ fun m t => by kernel_rfl) w)
theorem Frame (w : World) (x : Int) (t c e : Nat) : (S_Frame w x t c e).Holds (VV w) :=
  sS (F := noF) (vok _) 1000 ⟨[0,0,0,0,0,0,0,0,0,0,0,0,0,0,0,0,0,0,0,0,0,0,0,0,0,0,0,2,0,2,0,0,0,0,0,0,3,3,3,3,3,3,3,3,3,3,2,0,0,0,2,0,2,0,2,0,0,0,2,0,1,1,1,3,3,2,0,0,0,2,0,2,0,2,0,0,0,2,0,1,1,1,3,3,2,0,0,0,2,0,2,0,2,0,0,0,2,0,1,1,1,3,2,0,0,0,2,0,2,0,2,0,0,0,2,0,1,1,1,3,2,0,0,0,2,0,2,0,2,0,0,0,2,0,1,1,1], [1,0], [5,7,9,12,15,10,13]⟩ fun m t => by kernel_rfl
noncomputable def S_i2 (id : String) (x : Int) (t : Nat) (y : Int) (u : Nat) (r : Int) : Spec := { code := .builtin id ⟨[.int x t, .int y u], []⟩, dep := 850, pre := [], touch := [], na := 0, nt := 1, res := fun _ ts => .ok (.ret (.int r (nth ts 0))), postT := fun _ _ => [], postN := fun _ _ => [] }
noncomputable def S_abs (x : Int) (t : Nat) (nt : Nat) (r : List Nat → Value) : Spec := { code := .builtin "int.__abs__" ⟨[.int x t], []⟩, dep := 850, pre := [], touch := [], na := 0, nt := nt, res := fun _ ts => .ok (.ret (r ts)), postT := fun _ _ => [], postN := fun _ _ => [] }
theorem modQ (w : World) (x : Int) (t k u : Nat) : (S_i2 "int.__mod__" x t (Int.ofNat (k + 1)) u (Z.modQ x (Int.ofNat (k + 1)))).Holds (VV w) :=
  sS (F := noF) (vok _) 100 ⟨[], [], [0]⟩ fun m t => by kernel_rfl
theorem divQ2 (w : World) (x : Int) (t u : Nat) : (S_i2 "int.__floordiv__" x t 2 u (Z.divQ x 2)).Holds (VV w) :=
  sS (F := noF) (vok _) 100 ⟨[], [], [0]⟩ fun m t => by kernel_rfl
theorem divQ3 (w : World) (x : Int) (t u : Nat) : (S_i2 "int.__floordiv__" x t 3 u (Z.divQ x 3)).Holds (VV w) :=
  sS (F := noF) (vok _) 100 ⟨[], [], [0]⟩ fun m t => by kernel_rfl
theorem divQ10 (w : World) (x : Int) (t u : Nat) : (S_i2 "int.__floordiv__" x t 10 u (Z.divQ x 10)).Holds (VV w) :=
  sS (F := noF) (vok _) 100 ⟨[], [], [0]⟩ fun m t => by kernel_rfl
theorem absP (w : World) (k t : Nat) : (S_abs (Int.ofNat k) t 0 (fun _ => .int (Int.ofNat k) t)).Holds (VV w) :=
  sS (F := noF) (vok _) 100 ⟨[], [], []⟩ fun m t => by kernel_rfl
theorem absN (w : World) (k t : Nat) : (S_abs (Int.negSucc k) t 1 (fun ts => .int (Int.ofNat (k + 1)) (nth ts 0))).Holds (VV w) :=
  sS (F := noF) (vok _) 100 ⟨[], [], [0]⟩ fun m t => by kernel_rfl
theorem mod_any (w : World) (x : Int) (t k u : Nat) : (S_i2 "int.__mod__" x t (Int.ofNat (k + 1)) u (x.fmod (Int.ofNat (k + 1)))).Holds (VV w) := by
  rw [Z.modQ_eq]; exact modQ w x t k u
theorem div_2 (w : World) (x : Int) (t u : Nat) : (S_i2 "int.__floordiv__" x t 2 u (x.fdiv 2)).Holds (VV w) := by
  rw [Z.divQ_eq]; exact divQ2 w x t u
theorem div_3 (w : World) (x : Int) (t u : Nat) : (S_i2 "int.__floordiv__" x t 3 u (x.fdiv 3)).Holds (VV w) := by
  rw [Z.divQ_eq]; exact divQ3 w x t u
theorem div_10 (w : World) (x : Int) (t u : Nat) : (S_i2 "int.__floordiv__" x t 10 u (x.fdiv 10)).Holds (VV w) := by
  rw [Z.divQ_eq]; exact divQ10 w x t u
theorem abs_any (w : World) (x : Int) (t : Nat) : (S_abs x t 1 (fun ts => .int (Int.ofNat x.natAbs) (nth ts 0))).Holds (VV w) := by
  cases x with
  | negSucc k => exact absN w k t
  | ofNat k =>
    intro Γ p hp g d tk os hc hh hb hl A
    obtain ⟨as, ts, h', t', r, E⟩ := absP w k t Γ p hp g d tk os hc hh hb hl ⟨A.kt, A.mem, A.off, A.apart, A.lim, A.need⟩
    exact ⟨as, [t], h', t', r, ⟨E.na, rfl, fun i hi => (nomatch hi), fun i hi => (nomatch hi), E.keep, E.fresh, E.apart, E.size⟩⟩
noncomputable def D_mod (w : World) (x : Int) (t : Nat) (y : Int) (u : Nat) : Option (Dp (VV w)) := match y with
  | .ofNat k' => match k' with
    | k + 1 => some ⟨0, fun _ _ _ => some ⟨_, mod_any w x t k u⟩⟩
    | 0 => none
  | _ => none
noncomputable def D_div (w : World) (x : Int) (t : Nat) (y : Int) (u : Nat) : Option (Dp (VV w)) := match eqB y 10 with
  | true => some ⟨0, fun _ _ _ => some ⟨_, div_10 w x t u⟩⟩
  | false => match eqB y 3 with
    | true => some ⟨0, fun _ _ _ => some ⟨_, div_3 w x t u⟩⟩
    | false => match eqB y 2 with
      | true => some ⟨0, fun _ _ _ => some ⟨_, div_2 w x t u⟩⟩
      | false => none
noncomputable def F_int (w : World) (id : String) (x : Int) (t : Nat) (y : Int) (u : Nat) : Option (Dp (VV w)) :=
  match idIs id 116512097088030077292474218 with
  | true => D_mod w x t y u
  | false => match idIs id 128106770130096871752080967664072486762 with
    | true => D_div w x t y u
    | false => F_cmp w id x t y u
noncomputable def F_i (w : World) (c : Code) : Option (Dp (VV w)) := match c with
  | .builtin id ⟨[.int x t, .int y u], []⟩ => F_int w id x t y u
  | .builtin id ⟨[.int x t], []⟩ => match idIs id 116512372849064760722157418 with
    | true => some ⟨0, fun _ _ _ => some ⟨_, abs_any w x t⟩⟩
    | false => none
  | _ => none
noncomputable def S_itemI (l : Nat) (xs : Array Value) (n : Nat) (i : Int) (t : Nat) (v : Value) : Spec := { code := .builtin "list.__getitem__" ⟨[.ref l, .int i t], []⟩, dep := 850, pre := [(l, oList xs n)], touch := [], na := 0, nt := 0, res := fun _ _ => .ok (.ret v), postT := fun _ _ => [], postN := fun _ _ => [] }
theorem itemI_at {V : Vn} {l : Nat} {xs : Array Value} {n : Nat} {i : Int} {t : Nat} {v : Value} (h0 : 0 ≤ i) (hx : xs[i.toNat]? = some v) (hi : i < 1000000) : (S_itemI l xs n i t v).Holds V := by
  refine spec_by fun Γ hc hh A hA hd hin h g d tk os At => ?_
  have hl : h.get? l = some (oList xs n) := At.mem _ mcS
  have hf : Builtin.List.listFitsIndex i = true := fitsIndex_of h0 (by lia)
  clear hi
  exact @den_wp2 _ _ _ _ _ _ _ _ _ rfl entry_list_getitem (item_wp h0 hx hl hf ⟨_, rfl, [], [], rfl, ends_same rfl rfl rfl rfl rfl, rfl, rfl, rfl⟩)
noncomputable def S_len (l : Nat) (xs : Array Value) (n : Nat) : Spec := { code := .builtin "len" ⟨[.ref l], []⟩, dep := 850, need := [Nat.blt xs.size 1000000], pre := [(l, oList xs n)], touch := [], na := 0, nt := 1, res := fun _ ts => .ok (.ret (.int (Int.ofNat xs.size) (nth ts 0))), postT := fun _ _ => [], postN := fun _ _ => [] }
theorem len_wp {V : Vn} {l : Nat} {xs : Array Value} {n : Nat} {A : Around} {h : Heap} {g : Array GenState} {d : Drawn} {tk : Nat} {os : OsState} {Q : PySem.Fin → Shared → Prop} {E : Value → Shared → Prop} (hl : h.get? l = some (oList xs n)) (hfit : (xs.size : Int) < 2 ^ 63)
   (hq : Q (.done (.ret (.int xs.size (tk + 1)))) ⟨h, g, d, tk + 1 + 1, os⟩) : wpAny V.M A (Builtin.«len» ⟨[.ref l], []⟩) Q E ⟨h, g, d, tk, os⟩ := by
  have hL : Heap.IsList (Shared.heap ⟨h, g, d, tk, os⟩) l xs := ⟨_, hl, rfl, n, rfl⟩
  unfold Builtin.«len»
  refine wpAny_bind (m := oneArg "len" _) (wpAny_pure ?_)
  refine wpAny_bind (m := callSpecial? (.ref l) (Str.ofString "__len__")) (wpAny_callSpecial?_slot (name := Str.ofString "__len__") hL.typeIs slot_list_len
    (wpAny_call_entry slot_list_len hL.typeIs entry_list_len ?_ (args_list_len _)))
  · show wpAny _ _ (do retInt (← seqSize l)) _ _ _
    unfold seqSize
    refine wpAny_bind (wpAny_bind (wpAny_load hl ?_))
    refine wpAny_pure (wpAny_bind (wpAny_mkInt (wpAny_pure ⟨_, rfl, ?_⟩)))
    refine wpAny_bind (wpAny_holding (wpAny_pure ?_))
    refine wpAny_bind (wpAny_letGo ?_)
    show wpAny _ _ (if ((xs.size : Nat) : Int) < 0 then _ else _) _ _ _
    rw [if_neg (by lia)]
    show wpAny _ _ (if ((xs.size : Nat) : Int) ≥ 2 ^ 63 then _ else _) _ _ _
    rw [if_neg (by lia)]
    exact wpAny_bind (wpAny_mkInt (wpAny_pure hq))
theorem len_at {V : Vn} {l : Nat} {xs : Array Value} {n : Nat} : (S_len l xs n).Holds V := by
  refine spec_by fun Γ hc hh A hA hd hin h g d tk os At => ?_
  have hl : h.get? l = some (oList xs n) := At.mem _ mcS
  have hs : xs.size < 1000000 := blt_iff (At.need _ mcS)
  have hf : (xs.size : Int) < 2 ^ 63 := by lia
  clear hs
  exact @den_wp2 _ _ _ _ _ _ _ _ _ rfl entry_len (len_wp hl hf ⟨_, rfl, [], [tk + 1], rfl, ends_same rfl rfl rfl rfl rfl, rfl, rfl, rfl⟩)
noncomputable def S_mul (x : Int) (t : Nat) (y : Int) (u : Nat) : Spec := { code := .builtin "int.__mul__" ⟨[.int x t, .int y u], []⟩, dep := 850, need := [Nat.blt x.natAbs 1000], pre := [], touch := [], na := 0, nt := 1, res := fun _ ts => .ok (.ret (.int (x * y) (nth ts 0))), postT := fun _ _ => [], postN := fun _ _ => [] }
theorem mul_is {x : Int} {t : Nat} {y : Int} {u : Nat} (hm : IntMulOk x y) : Builtin.«int.__mul__» ⟨[.int x t, .int y u], []⟩ = retInt (x * y) := by
  show (ite _ _ _ : Sem PySem.Fin) = _
  rw [if_neg hm]
theorem small_mul {x y : Int} (h : x.natAbs < 1000) : IntMulOk x y := .of_left (by
  unfold Builtin.Int.intBits
  split
  · exact Nat.zero_le _
  · rename_i q
    have h0 : x.natAbs ≠ 0 := by
      intro e
      exact q (by simpa using e)
    have : x.natAbs.log2 < 10 := (Nat.log2_lt h0).2 (by lia)
    lia)
theorem mul_at {V : Vn} {x : Int} {t : Nat} {y : Int} {u : Nat} : (S_mul x t y u).Holds V := by
  refine spec_by fun Γ hc hh A hA hd hin h g d tk os At => ?_
  have hs : x.natAbs < 1000 := blt_iff (At.need _ mcS)
  refine @den_wp2 _ _ _ _ _ _ _ _ _ rfl entry_int_mul ?_
  rw [mul_is (small_mul hs)]
  exact wpAny_bind (wpAny_mkInt (wpAny_pure ⟨_, rfl, [], [tk], rfl, ends_same rfl rfl rfl rfl rfl, rfl, rfl, rfl⟩))
theorem blB {i : Int} (h : (leB 0 i && ltB i 1000000) = true) : 0 ≤ i ∧ i < 1000000 := by
  rw [Bool.and_eq_true] at h
  exact ⟨@of_decide_eq_true _ (Z.leZ 0 i) h.1, @of_decide_eq_true _ (Z.ltZ i 1000000) h.2⟩
noncomputable def D_itemE {V : Vn} (l : Nat) (xs : Array Value) (n : Nat) (i : Int) (t : Nat) : Option (CS V) := match hx : xs[i.toNat]? with
  | some v => match hb : (leB 0 i && ltB i 1000000) with
    | true => some ⟨S_itemI l xs n i t v, itemI_at (blB hb).1 hx (blB hb).2⟩
    | false => none
  | none => none
noncomputable def D_len {V : Vn} : Dp V := ⟨1, fun as os _ => match as with
  | [l] => match os with
    | [o] => match seqOf o with
      | some (xs, n) => some ⟨S_len l xs n, len_at⟩
      | none => none
    | _ => none
  | _ => none⟩
noncomputable def F_it (w : World) (l : Nat) (xs : Array Value) (n : Nat) (i : Int) (v : Value) (h0 : 0 ≤ i) (hx : xs[i.toNat]? = some v) (hi : i < 1000000) (c : Code) : Option (Dp (VV w)) := match c with
  | .builtin id ⟨[.ref _, .int i' t], []⟩ => match idIs id 128106587276438692081757506308484131437 with
    | true => some ⟨1, fun as os alt => match alt with
      | 0 => some ⟨S_itemI l xs n i t v, itemI_at h0 hx hi⟩
      | _ => match as with
        | [l'] => match os with
          | [o] => match seqOf o with
            | some (xs', n') => D_itemE l' xs' n' i' t
            | none => none
          | _ => none
        | _ => none⟩
    | false => none
  | .builtin id ⟨[.ref _], []⟩ => match idIs id 7300717 with
    | true => some D_len
    | false => none
  | c => F_i w c
noncomputable def F_l (w : World) (c : Code) : Option (Dp (VV w)) := match c with
  | .builtin id ⟨[.ref _], []⟩ => match idIs id 7300717 with
    | true => some D_len
    | false => none
  | .builtin id ⟨[.int x t, .int y u], []⟩ => match idIs id 116512245094328231196454762 with
    | true => some ⟨0, fun _ _ _ => some ⟨S_mul x t y u, mul_at⟩⟩
    | false => F_int w id x t y u
  | c => F_i w c
noncomputable def S_arg (l : Nat) (xs : Array Value) (n : Nat) (at_ : Int) (t : Nat) (nd : List Bool) (v : Value) : Spec := { code := .call (.ref 462) ⟨[.ref l, .int at_ t], []⟩, dep := 780, need := nd, pre := [(l, oList xs n)], touch := [], na := 0, nt := 0, res := fun _ _ => .ok (.ret v), postT := fun _ _ => [], postN := fun _ _ => [] }
theorem argF1 (w : World) (l : Nat) (xs : Array Value) (n t : Nat) : (S_arg l xs n 1 t [!leB 1 (Int.ofNat xs.size), Nat.blt xs.size 1000000] .none).Holds (VV w) :=
  (byRow2 "special-get-raises" (P := fun w => (S_arg l xs n 1 t [!leB 1 (Int.ofNat xs.size), Nat.blt xs.size 1000000] .none).Holds (VV w)) (fun w => sS (F := F_l (w.withFollow "special-get-raises" false)) (vok _) 1000 ⟨[0,0,2,2,2,2,2,0,0,2,1,0,2,1,1], [], []⟩ fun m t => by kernel_rfl) (fun w => sS (F := F_l (w.withFollow "special-get-raises" true)) (vok _) 1000 ⟨[0,0,2,2,2,2,2,0,0,2,1,0,2,1,1], [], []⟩ fun m t => by kernel_rfl) w)
theorem argT1R (w : World) (l : Nat) (xs : Array Value) (n t : Nat) (z : Nat) (h0 : (0 : Int) ≤ 1 - 1) (hx : xs[((1 : Int) - 1).toNat]? = some (.ref z)) (hi : (1 : Int) - 1 < 1000000) : (S_arg l xs n 1 t [leB 1 (Int.ofNat xs.size), Nat.blt xs.size 1000000] (.ref z)).Holds (VV w) :=
  (byRow2 "special-get-raises" (P := fun w => (S_arg l xs n 1 t [leB 1 (Int.ofNat xs.size), Nat.blt xs.size 1000000] (.ref z)).Holds (VV w)) (fun w => sS (F := F_it (w.withFollow "special-get-raises" false) l xs n (1 - 1) (.ref z) h0 hx hi) (vok _) 1000 ⟨[0,0,2,2,2,2,2,0,0,2,1,0,2,0,1,2,2,1,1,1,1,1,0], [], []⟩ fun m t => by kernel_rfl) (fun w => sS (F := F_it (w.withFollow "special-get-raises" true) l xs n (1 - 1) (.ref z) h0 hx hi) (vok _) 1000 ⟨[0,0,2,2,2,2,2,0,0,2,1,0,2,0,1,2,2,1,1,1,1,1,0], [], []⟩ fun m t => by kernel_rfl) w)
theorem argT1I (w : World) (l : Nat) (xs : Array Value) (n t : Nat) (z : Int) (s : Nat) (h0 : (0 : Int) ≤ 1 - 1) (hx : xs[((1 : Int) - 1).toNat]? = some (.int z s)) (hi : (1 : Int) - 1 < 1000000) : (S_arg l xs n 1 t [leB 1 (Int.ofNat xs.size), Nat.blt xs.size 1000000] (.int z s)).Holds (VV w) :=
  (byRow2 "special-get-raises" (P := fun w => (S_arg l xs n 1 t [leB 1 (Int.ofNat xs.size), Nat.blt xs.size 1000000] (.int z s)).Holds (VV w)) (fun w => sS (F := F_it (w.withFollow "special-get-raises" false) l xs n (1 - 1) (.int z s) h0 hx hi) (vok _) 1000 ⟨[0,0,2,2,2,2,2,0,0,2,1,0,2,0,1,2,2,1,1,1,1,1,0], [], []⟩ fun m t => by kernel_rfl) (fun w => sS (F := F_it (w.withFollow "special-get-raises" true) l xs n (1 - 1) (.int z s) h0 hx hi) (vok _) 1000 ⟨[0,0,2,2,2,2,2,0,0,2,1,0,2,0,1,2,2,1,1,1,1,1,0], [], []⟩ fun m t => by kernel_rfl) w)
theorem argT1B (w : World) (l : Nat) (xs : Array Value) (n t : Nat) (z : Array UInt8) (s : Nat) (h0 : (0 : Int) ≤ 1 - 1) (hx : xs[((1 : Int) - 1).toNat]? = some (.bytes z s)) (hi : (1 : Int) - 1 < 1000000) : (S_arg l xs n 1 t [leB 1 (Int.ofNat xs.size), Nat.blt xs.size 1000000] (.bytes z s)).Holds (VV w) :=
  (byRow2 "special-get-raises" (P := fun w => (S_arg l xs n 1 t [leB 1 (Int.ofNat xs.size), Nat.blt xs.size 1000000] (.bytes z s)).Holds (VV w)) (fun w => sS (F := F_it (w.withFollow "special-get-raises" false) l xs n (1 - 1) (.bytes z s) h0 hx hi) (vok _) 1000 ⟨[0,0,2,2,2,2,2,0,0,2,1,0,2,0,1,2,2,1,1,1,1,1,0], [], []⟩ fun m t => by kernel_rfl) (fun w => sS (F := F_it (w.withFollow "special-get-raises" true) l xs n (1 - 1) (.bytes z s) h0 hx hi) (vok _) 1000 ⟨[0,0,2,2,2,2,2,0,0,2,1,0,2,0,1,2,2,1,1,1,1,1,0], [], []⟩ fun m t => by kernel_rfl) w)
theorem argT1N (w : World) (l : Nat) (xs : Array Value) (n t : Nat)  (h0 : (0 : Int) ≤ 1 - 1) (hx : xs[((1 : Int) - 1).toNat]? = some .none) (hi : (1 : Int) - 1 < 1000000) : (S_arg l xs n 1 t [leB 1 (Int.ofNat xs.size), Nat.blt xs.size 1000000] .none).Holds (VV w) :=
  (byRow2 "special-get-raises" (P := fun w => (S_arg l xs n 1 t [leB 1 (Int.ofNat xs.size), Nat.blt xs.size 1000000] .none).Holds (VV w)) (fun w => sS (F := F_it (w.withFollow "special-get-raises" false) l xs n (1 - 1) .none h0 hx hi) (vok _) 1000 ⟨[0,0,2,2,2,2,2,0,0,2,1,0,2,0,1,2,2,1,1,1,1,1,0], [], []⟩ fun m t => by kernel_rfl) (fun w => sS (F := F_it (w.withFollow "special-get-raises" true) l xs n (1 - 1) .none h0 hx hi) (vok _) 1000 ⟨[0,0,2,2,2,2,2,0,0,2,1,0,2,0,1,2,2,1,1,1,1,1,0], [], []⟩ fun m t => by kernel_rfl) w)
theorem argT1O (w : World) (l : Nat) (xs : Array Value) (n t : Nat) (z : Bool) (h0 : (0 : Int) ≤ 1 - 1) (hx : xs[((1 : Int) - 1).toNat]? = some (.bool z)) (hi : (1 : Int) - 1 < 1000000) : (S_arg l xs n 1 t [leB 1 (Int.ofNat xs.size), Nat.blt xs.size 1000000] (.bool z)).Holds (VV w) :=
  (byRow2 "special-get-raises" (P := fun w => (S_arg l xs n 1 t [leB 1 (Int.ofNat xs.size), Nat.blt xs.size 1000000] (.bool z)).Holds (VV w)) (fun w => sS (F := F_it (w.withFollow "special-get-raises" false) l xs n (1 - 1) (.bool z) h0 hx hi) (vok _) 1000 ⟨[0,0,2,2,2,2,2,0,0,2,1,0,2,0,1,2,2,1,1,1,1,1,0], [], []⟩ fun m t => by kernel_rfl) (fun w => sS (F := F_it (w.withFollow "special-get-raises" true) l xs n (1 - 1) (.bool z) h0 hx hi) (vok _) 1000 ⟨[0,0,2,2,2,2,2,0,0,2,1,0,2,0,1,2,2,1,1,1,1,1,0], [], []⟩ fun m t => by kernel_rfl) w)
theorem argF2 (w : World) (l : Nat) (xs : Array Value) (n t : Nat) : (S_arg l xs n 2 t [!leB 2 (Int.ofNat xs.size), Nat.blt xs.size 1000000] .none).Holds (VV w) :=
  (byRow2 "special-get-raises" (P := fun w => (S_arg l xs n 2 t [!leB 2 (Int.ofNat xs.size), Nat.blt xs.size 1000000] .none).Holds (VV w)) (fun w => sS (F := F_l (w.withFollow "special-get-raises" false)) (vok _) 1000 ⟨[0,0,2,2,2,2,2,0,0,2,1,0,2,1,1], [], []⟩ fun m t => by kernel_rfl) (fun w => sS (F := F_l (w.withFollow "special-get-raises" true)) (vok _) 1000 ⟨[0,0,2,2,2,2,2,0,0,2,1,0,2,1,1], [], []⟩ fun m t => by kernel_rfl) w)
theorem argT2R (w : World) (l : Nat) (xs : Array Value) (n t : Nat) (z : Nat) (h0 : (0 : Int) ≤ 2 - 1) (hx : xs[((2 : Int) - 1).toNat]? = some (.ref z)) (hi : (2 : Int) - 1 < 1000000) : (S_arg l xs n 2 t [leB 2 (Int.ofNat xs.size), Nat.blt xs.size 1000000] (.ref z)).Holds (VV w) :=
  (byRow2 "special-get-raises" (P := fun w => (S_arg l xs n 2 t [leB 2 (Int.ofNat xs.size), Nat.blt xs.size 1000000] (.ref z)).Holds (VV w)) (fun w => sS (F := F_it (w.withFollow "special-get-raises" false) l xs n (2 - 1) (.ref z) h0 hx hi) (vok _) 1000 ⟨[0,0,2,2,2,2,2,0,0,2,1,0,2,0,1,2,2,1,1,1,1,1,0], [], []⟩ fun m t => by kernel_rfl) (fun w => sS (F := F_it (w.withFollow "special-get-raises" true) l xs n (2 - 1) (.ref z) h0 hx hi) (vok _) 1000 ⟨[0,0,2,2,2,2,2,0,0,2,1,0,2,0,1,2,2,1,1,1,1,1,0], [], []⟩ fun m t => by kernel_rfl) w)
theorem argT2I (w : World) (l : Nat) (xs : Array Value) (n t : Nat) (z : Int) (s : Nat) (h0 : (0 : Int) ≤ 2 - 1) (hx : xs[((2 : Int) - 1).toNat]? = some (.int z s)) (hi : (2 : Int) - 1 < 1000000) : (S_arg l xs n 2 t [leB 2 (Int.ofNat xs.size), Nat.blt xs.size 1000000] (.int z s)).Holds (VV w) :=
  (byRow2 "special-get-raises" (P := fun w => (S_arg l xs n 2 t [leB 2 (Int.ofNat xs.size), Nat.blt xs.size 1000000] (.int z s)).Holds (VV w)) (fun w => sS (F := F_it (w.withFollow "special-get-raises" false) l xs n (2 - 1) (.int z s) h0 hx hi) (vok _) 1000 ⟨[0,0,2,2,2,2,2,0,0,2,1,0,2,0,1,2,2,1,1,1,1,1,0], [], []⟩ fun m t => by kernel_rfl) (fun w => sS (F := F_it (w.withFollow "special-get-raises" true) l xs n (2 - 1) (.int z s) h0 hx hi) (vok _) 1000 ⟨[0,0,2,2,2,2,2,0,0,2,1,0,2,0,1,2,2,1,1,1,1,1,0], [], []⟩ fun m t => by kernel_rfl) w)
theorem argT2B (w : World) (l : Nat) (xs : Array Value) (n t : Nat) (z : Array UInt8) (s : Nat) (h0 : (0 : Int) ≤ 2 - 1) (hx : xs[((2 : Int) - 1).toNat]? = some (.bytes z s)) (hi : (2 : Int) - 1 < 1000000) : (S_arg l xs n 2 t [leB 2 (Int.ofNat xs.size), Nat.blt xs.size 1000000] (.bytes z s)).Holds (VV w) :=
  (byRow2 "special-get-raises" (P := fun w => (S_arg l xs n 2 t [leB 2 (Int.ofNat xs.size), Nat.blt xs.size 1000000] (.bytes z s)).Holds (VV w)) (fun w => sS (F := F_it (w.withFollow "special-get-raises" false) l xs n (2 - 1) (.bytes z s) h0 hx hi) (vok _) 1000 ⟨[0,0,2,2,2,2,2,0,0,2,1,0,2,0,1,2,2,1,1,1,1,1,0], [], []⟩ fun m t => by kernel_rfl) (fun w => sS (F := F_it (w.withFollow "special-get-raises" true) l xs n (2 - 1) (.bytes z s) h0 hx hi) (vok _) 1000 ⟨[0,0,2,2,2,2,2,0,0,2,1,0,2,0,1,2,2,1,1,1,1,1,0], [], []⟩ fun m t => by kernel_rfl) w)
theorem argT2N (w : World) (l : Nat) (xs : Array Value) (n t : Nat)  (h0 : (0 : Int) ≤ 2 - 1) (hx : xs[((2 : Int) - 1).toNat]? = some .none) (hi : (2 : Int) - 1 < 1000000) : (S_arg l xs n 2 t [leB 2 (Int.ofNat xs.size), Nat.blt xs.size 1000000] .none).Holds (VV w) :=
  (byRow2 "special-get-raises" (P := fun w => (S_arg l xs n 2 t [leB 2 (Int.ofNat xs.size), Nat.blt xs.size 1000000] .none).Holds (VV w)) (fun w => sS (F := F_it (w.withFollow "special-get-raises" false) l xs n (2 - 1) .none h0 hx hi) (vok _) 1000 ⟨[0,0,2,2,2,2,2,0,0,2,1,0,2,0,1,2,2,1,1,1,1,1,0], [], []⟩ fun m t => by kernel_rfl) (fun w => sS (F := F_it (w.withFollow "special-get-raises" true) l xs n (2 - 1) .none h0 hx hi) (vok _) 1000 ⟨[0,0,2,2,2,2,2,0,0,2,1,0,2,0,1,2,2,1,1,1,1,1,0], [], []⟩ fun m t => by kernel_rfl) w)
theorem argT2O (w : World) (l : Nat) (xs : Array Value) (n t : Nat) (z : Bool) (h0 : (0 : Int) ≤ 2 - 1) (hx : xs[((2 : Int) - 1).toNat]? = some (.bool z)) (hi : (2 : Int) - 1 < 1000000) : (S_arg l xs n 2 t [leB 2 (Int.ofNat xs.size), Nat.blt xs.size 1000000] (.bool z)).Holds (VV w) :=
  (byRow2 "special-get-raises" (P := fun w => (S_arg l xs n 2 t [leB 2 (Int.ofNat xs.size), Nat.blt xs.size 1000000] (.bool z)).Holds (VV w)) (fun w => sS (F := F_it (w.withFollow "special-get-raises" false) l xs n (2 - 1) (.bool z) h0 hx hi) (vok _) 1000 ⟨[0,0,2,2,2,2,2,0,0,2,1,0,2,0,1,2,2,1,1,1,1,1,0], [], []⟩ fun m t => by kernel_rfl) (fun w => sS (F := F_it (w.withFollow "special-get-raises" true) l xs n (2 - 1) (.bool z) h0 hx hi) (vok _) 1000 ⟨[0,0,2,2,2,2,2,0,0,2,1,0,2,0,1,2,2,1,1,1,1,1,0], [], []⟩ fun m t => by kernel_rfl) w)
theorem argF3 (w : World) (l : Nat) (xs : Array Value) (n t : Nat) : (S_arg l xs n 3 t [!leB 3 (Int.ofNat xs.size), Nat.blt xs.size 1000000] .none).Holds (VV w) :=
  (byRow2 "special-get-raises" (P := fun w => (S_arg l xs n 3 t [!leB 3 (Int.ofNat xs.size), Nat.blt xs.size 1000000] .none).Holds (VV w)) (fun w => sS (F := F_l (w.withFollow "special-get-raises" false)) (vok _) 1000 ⟨[0,0,2,2,2,2,2,0,0,2,1,0,2,1,1], [], []⟩ fun m t => by kernel_rfl) (fun w => sS (F := F_l (w.withFollow "special-get-raises" true)) (vok _) 1000 ⟨[0,0,2,2,2,2,2,0,0,2,1,0,2,1,1], [], []⟩ fun m t => by kernel_rfl) w)
theorem argT3R (w : World) (l : Nat) (xs : Array Value) (n t : Nat) (z : Nat) (h0 : (0 : Int) ≤ 3 - 1) (hx : xs[((3 : Int) - 1).toNat]? = some (.ref z)) (hi : (3 : Int) - 1 < 1000000) : (S_arg l xs n 3 t [leB 3 (Int.ofNat xs.size), Nat.blt xs.size 1000000] (.ref z)).Holds (VV w) :=
  (byRow2 "special-get-raises" (P := fun w => (S_arg l xs n 3 t [leB 3 (Int.ofNat xs.size), Nat.blt xs.size 1000000] (.ref z)).Holds (VV w)) (fun w => sS (F := F_it (w.withFollow "special-get-raises" false) l xs n (3 - 1) (.ref z) h0 hx hi) (vok _) 1000 ⟨[0,0,2,2,2,2,2,0,0,2,1,0,2,0,1,2,2,1,1,1,1,1,0], [], []⟩ fun m t => by kernel_rfl) (fun w => sS (F := F_it (w.withFollow "special-get-raises" true) l xs n (3 - 1) (.ref z) h0 hx hi) (vok _) 1000 ⟨[0,0,2,2,2,2,2,0,0,2,1,0,2,0,1,2,2,1,1,1,1,1,0], [], []⟩ fun m t => by kernel_rfl) w)
theorem argT3I (w : World) (l : Nat) (xs : Array Value) (n t : Nat) (z : Int) (s : Nat) (h0 : (0 : Int) ≤ 3 - 1) (hx : xs[((3 : Int) - 1).toNat]? = some (.int z s)) (hi : (3 : Int) - 1 < 1000000) : (S_arg l xs n 3 t [leB 3 (Int.ofNat xs.size), Nat.blt xs.size 1000000] (.int z s)).Holds (VV w) :=
  (byRow2 "special-get-raises" (P := fun w => (S_arg l xs n 3 t [leB 3 (Int.ofNat xs.size), Nat.blt xs.size 1000000] (.int z s)).Holds (VV w)) (fun w => sS (F := F_it (w.withFollow "special-get-raises" false) l xs n (3 - 1) (.int z s) h0 hx hi) (vok _) 1000 ⟨[0,0,2,2,2,2,2,0,0,2,1,0,2,0,1,2,2,1,1,1,1,1,0], [], []⟩ fun m t => by kernel_rfl) (fun w => sS (F := F_it (w.withFollow "special-get-raises" true) l xs n (3 - 1) (.int z s) h0 hx hi) (vok _) 1000 ⟨[0,0,2,2,2,2,2,0,0,2,1,0,2,0,1,2,2,1,1,1,1,1,0], [], []⟩ fun m t => by kernel_rfl) w)
theorem argT3B (w : World) (l : Nat) (xs : Array Value) (n t : Nat) (z : Array UInt8) (s : Nat) (h0 : (0 : Int) ≤ 3 - 1) (hx : xs[((3 : Int) - 1).toNat]? = some (.bytes z s)) (hi : (3 : Int) - 1 < 1000000) : (S_arg l xs n 3 t [leB 3 (Int.ofNat xs.size), Nat.blt xs.size 1000000] (.bytes z s)).Holds (VV w) :=
  (byRow2 "special-get-raises" (P := fun w => (S_arg l xs n 3 t [leB 3 (Int.ofNat xs.size), Nat.blt xs.size 1000000] (.bytes z s)).Holds (VV w)) (fun w => sS (F := F_it (w.withFollow "special-get-raises" false) l xs n (3 - 1) (.bytes z s) h0 hx hi) (vok _) 1000 ⟨[0,0,2,2,2,2,2,0,0,2,1,0,2,0,1,2,2,1,1,1,1,1,0], [], []⟩ fun m t => by kernel_rfl) (fun w => sS (F := F_it (w.withFollow "special-get-raises" true) l xs n (3 - 1) (.bytes z s) h0 hx hi) (vok _) 1000 ⟨[0,0,2,2,2,2,2,0,0,2,1,0,2,0,1,2,2,1,1,1,1,1,0], [], []⟩ fun m t => by kernel_rfl) w)
theorem argT3N (w : World) (l : Nat) (xs : Array Value) (n t : Nat)  (h0 : (0 : Int) ≤ 3 - 1) (hx : xs[((3 : Int) - 1).toNat]? = some .none) (hi : (3 : Int) - 1 < 1000000) : (S_arg l xs n 3 t [leB 3 (Int.ofNat xs.size), Nat.blt xs.size 1000000] .none).Holds (VV w) :=
  (byRow2 "special-get-raises" (P := fun w => (S_arg l xs n 3 t [leB 3 (Int.ofNat xs.size), Nat.blt xs.size 1000000] .none).Holds (VV w)) (fun w => sS (F := F_it (w.withFollow "special-get-raises" false) l xs n (3 - 1) .none h0 hx hi) (vok _) 1000 ⟨[0,0,2,2,2,2,2,0,0,2,1,0,2,0,1,2,2,1,1,1,1,1,0], [], []⟩ fun m t => by kernel_rfl) (fun w => sS (F := F_it (w.withFollow "special-get-raises" true) l xs n (3 - 1) .none h0 hx hi) (vok _) 1000 ⟨[0,0,2,2,2,2,2,0,0,2,1,0,2,0,1,2,2,1,1,1,1,1,0], [], []⟩ fun m t => by kernel_rfl) w)
theorem argT3O (w : World) (l : Nat) (xs : Array Value) (n t : Nat) (z : Bool) (h0 : (0 : Int) ≤ 3 - 1) (hx : xs[((3 : Int) - 1).toNat]? = some (.bool z)) (hi : (3 : Int) - 1 < 1000000) : (S_arg l xs n 3 t [leB 3 (Int.ofNat xs.size), Nat.blt xs.size 1000000] (.bool z)).Holds (VV w) :=
  (byRow2 "special-get-raises" (P := fun w => (S_arg l xs n 3 t [leB 3 (Int.ofNat xs.size), Nat.blt xs.size 1000000] (.bool z)).Holds (VV w)) (fun w => sS (F := F_it (w.withFollow "special-get-raises" false) l xs n (3 - 1) (.bool z) h0 hx hi) (vok _) 1000 ⟨[0,0,2,2,2,2,2,0,0,2,1,0,2,0,1,2,2,1,1,1,1,1,0], [], []⟩ fun m t => by kernel_rfl) (fun w => sS (F := F_it (w.withFollow "special-get-raises" true) l xs n (3 - 1) (.bool z) h0 hx hi) (vok _) 1000 ⟨[0,0,2,2,2,2,2,0,0,2,1,0,2,0,1,2,2,1,1,1,1,1,0], [], []⟩ fun m t => by kernel_rfl) w)
theorem argF4 (w : World) (l : Nat) (xs : Array Value) (n t : Nat) : (S_arg l xs n 4 t [!leB 4 (Int.ofNat xs.size), Nat.blt xs.size 1000000] .none).Holds (VV w) :=
  (byRow2 "special-get-raises" (P := fun w => (S_arg l xs n 4 t [!leB 4 (Int.ofNat xs.size), Nat.blt xs.size 1000000] .none).Holds (VV w)) (fun w => sS (F := F_l (w.withFollow "special-get-raises" false)) (vok _) 1000 ⟨[0,0,2,2,2,2,2,0,0,2,1,0,2,1,1], [], []⟩ fun m t => by kernel_rfl) (fun w => sS (F := F_l (w.withFollow "special-get-raises" true)) (vok _) 1000 ⟨[0,0,2,2,2,2,2,0,0,2,1,0,2,1,1], [], []⟩ fun m t => by kernel_rfl) w)
theorem argT4R (w : World) (l : Nat) (xs : Array Value) (n t : Nat) (z : Nat) (h0 : (0 : Int) ≤ 4 - 1) (hx : xs[((4 : Int) - 1).toNat]? = some (.ref z)) (hi : (4 : Int) - 1 < 1000000) : (S_arg l xs n 4 t [leB 4 (Int.ofNat xs.size), Nat.blt xs.size 1000000] (.ref z)).Holds (VV w) :=
  (byRow2 "special-get-raises" (P := fun w => (S_arg l xs n 4 t [leB 4 (Int.ofNat xs.size), Nat.blt xs.size 1000000] (.ref z)).Holds (VV w)) (fun w => sS (F := F_it (w.withFollow "special-get-raises" false) l xs n (4 - 1) (.ref z) h0 hx hi) (vok _) 1000 ⟨[0,0,2,2,2,2,2,0,0,2,1,0,2,0,1,2,2,1,1,1,1,1,0], [], []⟩ fun m t => by kernel_rfl) (fun w => sS (F := F_it (w.withFollow "special-get-raises" true) l xs n (4 - 1) (.ref z) h0 hx hi) (vok _) 1000 ⟨[0,0,2,2,2,2,2,0,0,2,1,0,2,0,1,2,2,1,1,1,1,1,0], [], []⟩ fun m t => by kernel_rfl) w)
theorem argT4I (w : World) (l : Nat) (xs : Array Value) (n t : Nat) (z : Int) (s : Nat) (h0 : (0 : Int) ≤ 4 - 1) (hx : xs[((4 : Int) - 1).toNat]? = some (.int z s)) (hi : (4 : Int) - 1 < 1000000) : (S_arg l xs n 4 t [leB 4 (Int.ofNat xs.size), Nat.blt xs.size 1000000] (.int z s)).Holds (VV w) :=
  (byRow2 "special-get-raises" (P := fun w => (S_arg l xs n 4 t [leB 4 (Int.ofNat xs.size), Nat.blt xs.size 1000000] (.int z s)).Holds (VV w)) (fun w => sS (F := F_it (w.withFollow "special-get-raises" false) l xs n (4 - 1) (.int z s) h0 hx hi) (vok _) 1000 ⟨[0,0,2,2,2,2,2,0,0,2,1,0,2,0,1,2,2,1,1,1,1,1,0], [], []⟩ fun m t => by kernel_rfl) (fun w => sS (F := F_it (w.withFollow "special-get-raises" true) l xs n (4 - 1) (.int z s) h0 hx hi) (vok _) 1000 ⟨[0,0,2,2,2,2,2,0,0,2,1,0,2,0,1,2,2,1,1,1,1,1,0], [], []⟩ fun m t => by kernel_rfl) w)
theorem argT4B (w : World) (l : Nat) (xs : Array Value) (n t : Nat) (z : Array UInt8) (s : Nat) (h0 : (0 : Int) ≤ 4 - 1) (hx : xs[((4 : Int) - 1).toNat]? = some (.bytes z s)) (hi : (4 : Int) - 1 < 1000000) : (S_arg l xs n 4 t [leB 4 (Int.ofNat xs.size), Nat.blt xs.size 1000000] (.bytes z s)).Holds (VV w) :=
  (byRow2 "special-get-raises" (P := fun w => (S_arg l xs n 4 t [leB 4 (Int.ofNat xs.size), Nat.blt xs.size 1000000] (.bytes z s)).Holds (VV w)) (fun w => sS (F := F_it (w.withFollow "special-get-raises" false) l xs n (4 - 1) (.bytes z s) h0 hx hi) (vok _) 1000 ⟨[0,0,2,2,2,2,2,0,0,2,1,0,2,0,1,2,2,1,1,1,1,1,0], [], []⟩ fun m t => by kernel_rfl) (fun w => sS (F := F_it (w.withFollow "special-get-raises" true) l xs n (4 - 1) (.bytes z s) h0 hx hi) (vok _) 1000 ⟨[0,0,2,2,2,2,2,0,0,2,1,0,2,0,1,2,2,1,1,1,1,1,0], [], []⟩ fun m t => by kernel_rfl) w)
theorem argT4N (w : World) (l : Nat) (xs : Array Value) (n t : Nat)  (h0 : (0 : Int) ≤ 4 - 1) (hx : xs[((4 : Int) - 1).toNat]? = some .none) (hi : (4 : Int) - 1 < 1000000) : (S_arg l xs n 4 t [leB 4 (Int.ofNat xs.size), Nat.blt xs.size 1000000] .none).Holds (VV w) :=
  (byRow2 "special-get-raises" (P := fun w => (S_arg l xs n 4 t [leB 4 (Int.ofNat xs.size), Nat.blt xs.size 1000000] .none).Holds (VV w)) (fun w => sS (F := F_it (w.withFollow "special-get-raises" false) l xs n (4 - 1) .none h0 hx hi) (vok _) 1000 ⟨[0,0,2,2,2,2,2,0,0,2,1,0,2,0,1,2,2,1,1,1,1,1,0], [], []⟩ fun m t => by kernel_rfl) (fun w => sS (F := F_it (w.withFollow "special-get-raises" true) l xs n (4 - 1) .none h0 hx hi) (vok _) 1000 ⟨[0,0,2,2,2,2,2,0,0,2,1,0,2,0,1,2,2,1,1,1,1,1,0], [], []⟩ fun m t => by kernel_rfl) w)
theorem argT4O (w : World) (l : Nat) (xs : Array Value) (n t : Nat) (z : Bool) (h0 : (0 : Int) ≤ 4 - 1) (hx : xs[((4 : Int) - 1).toNat]? = some (.bool z)) (hi : (4 : Int) - 1 < 1000000) : (S_arg l xs n 4 t [leB 4 (Int.ofNat xs.size), Nat.blt xs.size 1000000] (.bool z)).Holds (VV w) :=
  (byRow2 "special-get-raises" (P := fun w => (S_arg l xs n 4 t [leB 4 (Int.ofNat xs.size), Nat.blt xs.size 1000000] (.bool z)).Holds (VV w)) (fun w => sS (F := F_it (w.withFollow "special-get-raises" false) l xs n (4 - 1) (.bool z) h0 hx hi) (vok _) 1000 ⟨[0,0,2,2,2,2,2,0,0,2,1,0,2,0,1,2,2,1,1,1,1,1,0], [], []⟩ fun m t => by kernel_rfl) (fun w => sS (F := F_it (w.withFollow "special-get-raises" true) l xs n (4 - 1) (.bool z) h0 hx hi) (vok _) 1000 ⟨[0,0,2,2,2,2,2,0,0,2,1,0,2,0,1,2,2,1,1,1,1,1,0], [], []⟩ fun m t => by kernel_rfl) w)
noncomputable def S_cut (H hd : Nat) (S : Hst) (steps : Int) (ts fr : Nat) (deep : Int) (td : Nat) (tm : Nat) (xs : Array Value) (n : Nat) : Spec := { code := .call (.ref 371) ⟨[.ref H, .int 0 tm], []⟩, dep := 790, pre := [(H, oInst 451 hd), (hd, S.obj steps ts fr deep td), (fr, oList xs n)], touch := [1], na := 1, nt := 1, res := fun _ _ => .ok (.ret .none), postT := fun as us => [some (S.obj steps ts (nth as 0) 0 (nth us 0))], postN := fun _ _ => [oList #[] 0] }
theorem cutX (w : World) (H hd : Nat) (S : Hst) (steps : Int) (ts fr : Nat) (deep : Int) (td : Nat) (tm : Nat) (xs : Array Value) (n : Nat) : (S_cut H hd S steps ts fr deep td tm xs n).Holds (VV w) :=
  (byRow2 "special-get-raises" (P := fun w => (S_cut H hd S steps ts fr deep td tm xs n).Holds (VV w)) (fun w => sS (F := F_i (w.withFollow "special-get-raises" false)) (vok _) 1000 ⟨[0,0,4,4,4,4,4,1,0,0,0,1,0,0,0,1,1,0,2,4,3,3,3,3,5,5,5,5,5,3,4,1,0,0,0,1,0,1,0,1,0,0,0,1,0,2,2,2,0,0,4,1,0,0,0,1,0,0,0,1,1,0,2,6,6,6,1,0,4,1,0,0,0,1,0,1,0,1,0,0,0,1,0,2,2,2], [5], [9]⟩ fun m t => by kernel_rfl) (fun w => sS (F := F_i (w.withFollow "special-get-raises" true)) (vok _) 1000 ⟨[0,0,4,4,4,4,4,1,0,0,0,1,0,0,0,1,1,0,2,4,3,3,3,3,5,5,5,5,5,3,4,1,0,0,0,1,0,1,0,1,0,0,0,1,0,2,2,2,0,0,4,1,0,0,0,1,0,0,0,1,1,0,2,6,6,6,1,0,4,1,0,0,0,1,0,1,0,1,0,0,0,1,0,2,2,2], [5], [9]⟩ fun m t => by kernel_rfl) w)
noncomputable def S_take (tr ls : Nat) (at_ : Int) (ta n : Nat) (ys : Array Value) (m : Nat) (k tw : Nat) (nd : List Bool) (r : Int) : Spec := { code := .call (.ref 790) ⟨[.ref tr, .int (Int.ofNat (k + 1)) tw], []⟩, dep := 790, need := nd, pre := [(tr, oList #[.ref ls, .int at_ ta] n), (ls, oList ys m)], touch := [0], na := 0, nt := 2, res := fun _ ts => .ok (.ret (.int r (nth ts 0))), postT := fun _ ts => [some (oList #[.ref ls, .int (at_ + 1) (nth ts 1)] n)], postN := fun _ _ => [] }
theorem takeW (w : World) (tr ls : Nat) (at_ : Int) (ta n : Nat) (ys : Array Value) (m : Nat) (k tw : Nat) (x : Int) (u : Nat) (h0 : 0 ≤ at_ + 1 - 1) (hx : ys[(at_ + 1 - 1).toNat]? = some (.int x u)) (hi : at_ + 1 - 1 < 1000000) : (S_take tr ls at_ ta n ys m k tw [leB (at_ + 1) (Int.ofNat ys.size), Nat.blt ys.size 1000000] ((Int.ofNat x.natAbs).fmod (Int.ofNat (k + 1)))).Holds (VV w) :=
  (byRow2 "special-get-raises" (P := fun w => (S_take tr ls at_ ta n ys m k tw [leB (at_ + 1) (Int.ofNat ys.size), Nat.blt ys.size 1000000] ((Int.ofNat x.natAbs).fmod (Int.ofNat (k + 1)))).Holds (VV w)) (fun w => sS (F := F_it (w.withFollow "special-get-raises" false) ls ys m (at_ + 1 - 1) (.int x u) h0 hx hi) (vok _) 1000 ⟨[0,0,3,3,3,3,3,1,1,1,1,1,1,3,1,1,1,1,1,1,3,1,1,1,1,1,1,3,3,3,0,0,3,1,1,1,1,1,1,2,0,2,0,1,0,0,3,1,1,1,1,1,1,3,2,2,2,2,2,0,0,3,0], [], [14,4]⟩ fun m t => by kernel_rfl) (fun w => sS (F := F_it (w.withFollow "special-get-raises" true) ls ys m (at_ + 1 - 1) (.int x u) h0 hx hi) (vok _) 1000 ⟨[0,0,3,3,3,3,3,1,1,1,1,1,1,3,1,1,1,1,1,1,3,1,1,1,1,1,1,3,3,3,0,0,3,1,1,1,1,1,1,2,0,2,0,1,0,0,3,1,1,1,1,1,1,3,2,2,2,2,2,0,0,3,0], [], [14,4]⟩ fun m t => by kernel_rfl) w)
theorem takeB (w : World) (tr ls : Nat) (at_ : Int) (ta n : Nat) (ys : Array Value) (m : Nat) (k tw : Nat) : (S_take tr ls at_ ta n ys m k tw [!leB (at_ + 1) (Int.ofNat ys.size), Nat.blt ys.size 1000000] ((7 * (at_ + 1) + (at_ + 1).fdiv 2 + 3).fmod (Int.ofNat (k + 1)))).Holds (VV w) :=
  (byRow2 "special-get-raises" (P := fun w => (S_take tr ls at_ ta n ys m k tw [!leB (at_ + 1) (Int.ofNat ys.size), Nat.blt ys.size 1000000] ((7 * (at_ + 1) + (at_ + 1).fdiv 2 + 3).fmod (Int.ofNat (k + 1)))).Holds (VV w)) (fun w => sS (F := F_l (w.withFollow "special-get-raises" false)) (vok _) 1000 ⟨[0,0,3,3,3,3,3,1,1,1,1,1,3,1,1,1,1,1,1,3,1,1,1,1,1,3,3,3,0,0,3,1,1,1,1,1,2,0,2,1,1,3,0,0,3,0,3,0], [], [17,4]⟩ fun m t => by kernel_rfl) (fun w => sS (F := F_l (w.withFollow "special-get-raises" true)) (vok _) 1000 ⟨[0,0,3,3,3,3,3,1,1,1,1,1,3,1,1,1,1,1,1,3,1,1,1,1,1,3,3,3,0,0,3,1,1,1,1,1,2,0,2,1,1,3,0,0,3,0,3,0], [], [17,4]⟩ fun m t => by kernel_rfl) w)
noncomputable def easyO (v : Value) : Bool := match v with | .bool _ => true | v => easy v
noncomputable def argV (xs : Array Value) (a : Nat) : Value := xs.toList.getD (a - 1) .none
theorem argV_some {xs : Array Value} {a : Nat} (h : a - 1 < xs.size) : xs[a - 1]? = some (argV xs a) := by
  unfold argV
  rw [List.getD_eq_getElem?_getD, Array.getElem?_toList, Array.getElem?_eq_getElem h]; rfl
theorem argV_none {xs : Array Value} {a : Nat} (h : ¬ a - 1 < xs.size) : argV xs a = .none := by
  unfold argV
  rw [List.getD_eq_getElem?_getD, Array.getElem?_toList, Array.getElem?_eq_none (by omega)]; rfl
theorem leB_iff' {x y : Int} : leB x y = true ↔ x ≤ y := by unfold leB; exact @decide_eq_true_iff _ (Z.leZ x y)
theorem ltB_iff' {x y : Int} : ltB x y = true ↔ x < y := by unfold ltB; exact @decide_eq_true_iff _ (Z.ltZ x y)
theorem eqB_iff' {x y : Int} : eqB x y = true ↔ x = y := by unfold eqB; exact @decide_eq_true_iff _ (Z.eqZ x y)
theorem notB {b : Bool} {p : Prop} (h : b = true ↔ p) (n : ¬ p) : (!b) = true := by
  cases b with
  | false => rfl
  | true => exact absurd (h.1 rfl) n
theorem arg_any1 (w : World) (l : Nat) (xs : Array Value) (n t : Nat) : (S_arg l xs n 1 t [easyO (argV xs 1), Nat.blt xs.size 1000000] (argV xs 1)).Holds (VV w) :=
  Spec.Holds.more (S := S_arg l xs n 1 t [] (argV xs 1)) (fun q => by
    have hy := q _ mcS
    have hz := q _ (mcT mcS)
    by_cases h : 1 - 1 < xs.size
    · have hx := argV_some (a := 1) h
      have h1 : leB 1 (Int.ofNat xs.size) = true := leB_iff'.2 (by show (1 : Int) ≤ (xs.size : Int); omega)
      have nd : ∀ b ∈ [leB 1 (Int.ofNat xs.size), Nat.blt xs.size 1000000], b = true := by
        intro b hb
        simp only [List.mem_cons, List.not_mem_nil, or_false] at hb
        rcases hb with rfl | rfl <;> assumption
      generalize argV xs 1 = v at hx hy
      match v, hx, hy with
      | .none, hx, _ => exact Spec.Holds.less (argT1N w l xs n t (by decide) hx (by decide)) nd
      | .bool z, hx, _ => exact Spec.Holds.less (argT1O w l xs n t z (by decide) hx (by decide)) nd
      | .int z s, hx, _ => exact Spec.Holds.less (argT1I w l xs n t z s (by decide) hx (by decide)) nd
      | .bytes z s, hx, _ => exact Spec.Holds.less (argT1B w l xs n t z s (by decide) hx (by decide)) nd
      | .ref z, hx, _ => exact Spec.Holds.less (argT1R w l xs n t z (by decide) hx (by decide)) nd
    · rw [argV_none h]
      refine Spec.Holds.less (argF1 w l xs n t) ?_
      intro b hb
      change b ∈ [!leB 1 (Int.ofNat xs.size), Nat.blt xs.size 1000000] at hb
      simp only [List.mem_cons, List.not_mem_nil, or_false] at hb
      rcases hb with rfl | rfl
      · refine notB leB_iff' ?_
        show ¬ (1 : Int) ≤ (xs.size : Int)
        omega
      · exact hz) rfl
theorem arg_any2 (w : World) (l : Nat) (xs : Array Value) (n t : Nat) : (S_arg l xs n 2 t [easyO (argV xs 2), Nat.blt xs.size 1000000] (argV xs 2)).Holds (VV w) :=
  Spec.Holds.more (S := S_arg l xs n 2 t [] (argV xs 2)) (fun q => by
    have hy := q _ mcS
    have hz := q _ (mcT mcS)
    by_cases h : 2 - 1 < xs.size
    · have hx := argV_some (a := 2) h
      have h1 : leB 2 (Int.ofNat xs.size) = true := leB_iff'.2 (by show (2 : Int) ≤ (xs.size : Int); omega)
      have nd : ∀ b ∈ [leB 2 (Int.ofNat xs.size), Nat.blt xs.size 1000000], b = true := by
        intro b hb
        simp only [List.mem_cons, List.not_mem_nil, or_false] at hb
        rcases hb with rfl | rfl <;> assumption
      generalize argV xs 2 = v at hx hy
      match v, hx, hy with
      | .none, hx, _ => exact Spec.Holds.less (argT2N w l xs n t (by decide) hx (by decide)) nd
      | .bool z, hx, _ => exact Spec.Holds.less (argT2O w l xs n t z (by decide) hx (by decide)) nd
      | .int z s, hx, _ => exact Spec.Holds.less (argT2I w l xs n t z s (by decide) hx (by decide)) nd
      | .bytes z s, hx, _ => exact Spec.Holds.less (argT2B w l xs n t z s (by decide) hx (by decide)) nd
      | .ref z, hx, _ => exact Spec.Holds.less (argT2R w l xs n t z (by decide) hx (by decide)) nd
    · rw [argV_none h]
      refine Spec.Holds.less (argF2 w l xs n t) ?_
      intro b hb
      change b ∈ [!leB 2 (Int.ofNat xs.size), Nat.blt xs.size 1000000] at hb
      simp only [List.mem_cons, List.not_mem_nil, or_false] at hb
      rcases hb with rfl | rfl
      · refine notB leB_iff' ?_
        show ¬ (2 : Int) ≤ (xs.size : Int)
        omega
      · exact hz) rfl
theorem arg_any3 (w : World) (l : Nat) (xs : Array Value) (n t : Nat) : (S_arg l xs n 3 t [easyO (argV xs 3), Nat.blt xs.size 1000000] (argV xs 3)).Holds (VV w) :=
  Spec.Holds.more (S := S_arg l xs n 3 t [] (argV xs 3)) (fun q => by
    have hy := q _ mcS
    have hz := q _ (mcT mcS)
    by_cases h : 3 - 1 < xs.size
    · have hx := argV_some (a := 3) h
      have h1 : leB 3 (Int.ofNat xs.size) = true := leB_iff'.2 (by show (3 : Int) ≤ (xs.size : Int); omega)
      have nd : ∀ b ∈ [leB 3 (Int.ofNat xs.size), Nat.blt xs.size 1000000], b = true := by
        intro b hb
        simp only [List.mem_cons, List.not_mem_nil, or_false] at hb
        rcases hb with rfl | rfl <;> assumption
      generalize argV xs 3 = v at hx hy
      match v, hx, hy with
      | .none, hx, _ => exact Spec.Holds.less (argT3N w l xs n t (by decide) hx (by decide)) nd
      | .bool z, hx, _ => exact Spec.Holds.less (argT3O w l xs n t z (by decide) hx (by decide)) nd
      | .int z s, hx, _ => exact Spec.Holds.less (argT3I w l xs n t z s (by decide) hx (by decide)) nd
      | .bytes z s, hx, _ => exact Spec.Holds.less (argT3B w l xs n t z s (by decide) hx (by decide)) nd
      | .ref z, hx, _ => exact Spec.Holds.less (argT3R w l xs n t z (by decide) hx (by decide)) nd
    · rw [argV_none h]
      refine Spec.Holds.less (argF3 w l xs n t) ?_
      intro b hb
      change b ∈ [!leB 3 (Int.ofNat xs.size), Nat.blt xs.size 1000000] at hb
      simp only [List.mem_cons, List.not_mem_nil, or_false] at hb
      rcases hb with rfl | rfl
      · refine notB leB_iff' ?_
        show ¬ (3 : Int) ≤ (xs.size : Int)
        omega
      · exact hz) rfl
theorem arg_any4 (w : World) (l : Nat) (xs : Array Value) (n t : Nat) : (S_arg l xs n 4 t [easyO (argV xs 4), Nat.blt xs.size 1000000] (argV xs 4)).Holds (VV w) :=
  Spec.Holds.more (S := S_arg l xs n 4 t [] (argV xs 4)) (fun q => by
    have hy := q _ mcS
    have hz := q _ (mcT mcS)
    by_cases h : 4 - 1 < xs.size
    · have hx := argV_some (a := 4) h
      have h1 : leB 4 (Int.ofNat xs.size) = true := leB_iff'.2 (by show (4 : Int) ≤ (xs.size : Int); omega)
      have nd : ∀ b ∈ [leB 4 (Int.ofNat xs.size), Nat.blt xs.size 1000000], b = true := by
        intro b hb
        simp only [List.mem_cons, List.not_mem_nil, or_false] at hb
        rcases hb with rfl | rfl <;> assumption
      generalize argV xs 4 = v at hx hy
      match v, hx, hy with
      | .none, hx, _ => exact Spec.Holds.less (argT4N w l xs n t (by decide) hx (by decide)) nd
      | .bool z, hx, _ => exact Spec.Holds.less (argT4O w l xs n t z (by decide) hx (by decide)) nd
      | .int z s, hx, _ => exact Spec.Holds.less (argT4I w l xs n t z s (by decide) hx (by decide)) nd
      | .bytes z s, hx, _ => exact Spec.Holds.less (argT4B w l xs n t z s (by decide) hx (by decide)) nd
      | .ref z, hx, _ => exact Spec.Holds.less (argT4R w l xs n t z (by decide) hx (by decide)) nd
    · rw [argV_none h]
      refine Spec.Holds.less (argF4 w l xs n t) ?_
      intro b hb
      change b ∈ [!leB 4 (Int.ofNat xs.size), Nat.blt xs.size 1000000] at hb
      simp only [List.mem_cons, List.not_mem_nil, or_false] at hb
      rcases hb with rfl | rfl
      · refine notB leB_iff' ?_
        show ¬ (4 : Int) ≤ (xs.size : Int)
        omega
      · exact hz) rfl
noncomputable def D_arg (w : World) (at_ : Int) (t : Nat) : Dp (VV w) := ⟨1, fun as os _ => match as with
  | [l] => match os with
    | [o] => match seqOf o with
      | some (xs, n) => match eqB at_ 1 with
        | true => some ⟨_, arg_any1 w l xs n t⟩
        | false => match eqB at_ 2 with
          | true => some ⟨_, arg_any2 w l xs n t⟩
          | false => match eqB at_ 3 with
            | true => some ⟨_, arg_any3 w l xs n t⟩
            | false => some ⟨_, arg_any4 w l xs n t⟩
      | none => none
    | _ => none
  | _ => none⟩
noncomputable def allInt (ys : Array Value) : Bool := ys.toList.all fun v => match v with | .int _ _ => true | _ => false
noncomputable def drawV (ys : Array Value) (at_ : Int) (k : Nat) : Int := match leB (at_ + 1) (Int.ofNat ys.size) with
  | true => (Int.ofNat (intOf (ys.toList.getD at_.toNat .none)).natAbs).fmod (Int.ofNat (k + 1))
  | false => (7 * (at_ + 1) + (at_ + 1).fdiv 2 + 3).fmod (Int.ofNat (k + 1))
noncomputable def drawOk (ys : Array Value) (at_ : Int) : Bool := leB 0 at_ && ltB at_ 1000 && Nat.blt ys.size 1000000 && allInt ys
theorem take_any (w : World) (tr ls : Nat) (at_ : Int) (ta n : Nat) (ys : Array Value) (m : Nat) (k tw : Nat) : (S_take tr ls at_ ta n ys m k tw [drawOk ys at_] (drawV ys at_ k)).Holds (VV w) :=
  Spec.Holds.more (S := S_take tr ls at_ ta n ys m k tw [] (drawV ys at_ k)) (fun q => by
    have q := q _ mcS
    unfold drawOk at q
    rw [Bool.and_eq_true, Bool.and_eq_true, Bool.and_eq_true] at q
    obtain ⟨⟨⟨q1, q2⟩, q3⟩, q4⟩ := q
    have q1 := leB_iff'.1 q1
    have q2 := ltB_iff'.1 q2
    unfold drawV
    cases h : leB (at_ + 1) (Int.ofNat ys.size) with
    | true =>
      have h' : at_ + 1 ≤ (ys.size : Int) := leB_iff'.1 h
      have hlt : at_.toNat < ys.size := by omega
      have hx : ys[at_.toNat]? = some (ys.toList.getD at_.toNat .none) := by
        rw [List.getD_eq_getElem?_getD, Array.getElem?_toList, Array.getElem?_eq_getElem hlt]; rfl
      have hi : (match ys.toList.getD at_.toNat .none with | .int _ _ => true | _ => false) = true := by
        refine List.all_eq_true.mp q4 _ ?_
        rw [List.getD_eq_getElem?_getD, Array.getElem?_toList, Array.getElem?_eq_getElem hlt]
        exact Array.getElem_mem_toList hlt
      have e1 : at_ + 1 - 1 = at_ := by omega
      generalize ys.toList.getD at_.toNat .none = v at hx hi
      match v, hx, hi with
      | .int x u, hx, _ =>
        refine Spec.Holds.less (takeW w tr ls at_ ta n ys m k tw x u (by omega) (by rw [e1]; exact hx) (by omega)) ?_
        intro b hb
        change b ∈ [leB (at_ + 1) (Int.ofNat ys.size), Nat.blt ys.size 1000000] at hb
        simp only [List.mem_cons, List.not_mem_nil, or_false] at hb
        rcases hb with rfl | rfl <;> assumption
    | false =>
      refine Spec.Holds.less (takeB w tr ls at_ ta n ys m k tw) ?_
      intro b hb
      change b ∈ [!leB (at_ + 1) (Int.ofNat ys.size), Nat.blt ys.size 1000000] at hb
      simp only [List.mem_cons, List.not_mem_nil, or_false] at hb
      rcases hb with rfl | rfl
      · rw [h]; rfl
      · exact q3) rfl
theorem take_is (w : World) (tr ls : Nat) (at_ : Int) (ta n : Nat) (ys : Array Value) (m : Nat) (k tw j : Nat) : (S_take tr ls at_ ta n ys m k tw [drawOk ys at_, eqB (drawV ys at_ k) (Int.ofNat j)] (Int.ofNat j)).Holds (VV w) :=
  Spec.Holds.more (S := S_take tr ls at_ ta n ys m k tw [] (Int.ofNat j)) (fun q => by
    have q1 := q _ mcS
    have q2 := eqB_iff'.1 (q _ (mcT mcS))
    have := Spec.Holds.less (take_any w tr ls at_ ta n ys m k tw) (by
      intro b hb
      change b ∈ [drawOk ys at_] at hb
      simp only [List.mem_cons, List.not_mem_nil, or_false] at hb
      rw [hb]; exact q1)
    rw [q2] at this
    exact this) rfl
noncomputable def D_take (w : World) (wide : Int) (tw : Nat) : Option (Dp (VV w)) := match wide with
  | .ofNat k' => match k' with
    | k + 1 => some ⟨2, fun as os alt => match as with
      | [tr, ls] => match os with
        | [o1, o2] => match seqOf o1 with
          | some (xs, n) => match xs.toList with
            | [_, a] => match seqOf o2 with
              | some (ys, m) => match alt with
                | 0 => some ⟨_, take_any w tr ls (intOf a) (tokOf a) n ys m k tw⟩
                | j + 1 => some ⟨_, take_is w tr ls (intOf a) (tokOf a) n ys m k tw j⟩
              | none => none
            | _ => none
          | none => none
        | _ => none
      | _ => none⟩
    | 0 => none
  | _ => none
noncomputable def D_tick (w : World) : Dp (VV w) := ⟨4, fun as os _ => match as with
  | [H, hd, _, ld] => match os with
    | [_, o2, _, o4] => match hostOf o2 with
      | some (S, v) => match limOf o4 with
        | some L => some ⟨_, tick w H hd ld S L v.steps v.ts v.fr v.deep v.td⟩
        | none => none
      | none => none
    | _ => none
  | _ => none⟩
noncomputable def D_deeper (w : World) (many : Int) (tm : Nat) : Dp (VV w) := ⟨2, fun as os _ => match as with
  | [H, hd] => match os with
    | [_, o2] => match hostOf o2 with
      | some (S, v) => some ⟨_, deeper w H hd S v.steps v.ts v.fr v.deep v.td many tm⟩
      | none => none
    | _ => none
  | _ => none⟩
noncomputable def D_cut (w : World) (tm : Nat) : Dp (VV w) := ⟨3, fun as os _ => match as with
  | [H, hd, _] => match os with
    | [_, o2, o3] => match hostOf o2 with
      | some (S, v) => match seqOf o3 with
        | some (xs, n) => some ⟨_, cutX w H hd S v.steps v.ts v.fr v.deep v.td tm xs n⟩
        | none => none
      | none => none
    | _ => none
  | _ => none⟩
noncomputable def F_1 (w : World) (a : Nat) (v : Value) : Option (Dp (VV w)) := match Nat.beq a 266 with
  | true => D_tt w v
  | false => match Nat.beq a 329 with
    | true => some (D_tick w)
    | false => match Nat.beq a 234 with
      | true => match v with | .int x t => some ⟨0, fun _ _ _ => some ⟨_, newT w x t⟩⟩ | _ => none
      | false => none
noncomputable def F_2 (w : World) (a : Nat) (v v' : Value) : Option (Dp (VV w)) := match Nat.beq a 273 with
  | true => some (D_same w v v')
  | false => match Nat.beq a 203 with
    | true => some (D_find w v')
    | false => match Nat.beq a 210 with
      | true => some (D_get w v')
      | false => match Nat.beq a 336 with
        | true => match v' with | .int x t => some (D_deeper w x t) | _ => none
        | false => match Nat.beq a 371 with
          | true => match v' with | .int _ t => some (D_cut w t) | _ => none
          | false => match Nat.beq a 462 with
            | true => match v' with | .int x t => some (D_arg w x t) | _ => none
            | false => match Nat.beq a 790 with
              | true => match v' with | .int x t => D_take w x t | _ => none
              | false => none
noncomputable def F_3 (w : World) (a : Nat) (v v' v'' : Value) : Option (Dp (VV w)) := match Nat.beq a 217 with
  | true => some (D_set w v' v'')
  | false => match Nat.beq a 255 with
    | true => match v with | .int x t => (match v' with | .bytes y u => (match v'' with | .ref f => some ⟨0, fun _ _ _ => some ⟨_, newB w x t y u f⟩⟩ | _ => none) | _ => none) | _ => none
    | false => match Nat.beq a 297 with
      | true => match v with | .int x t => (match v' with | .ref c => (match v'' with | .ref e => some ⟨0, fun _ _ _ => some ⟨_, Frame w x t c e⟩⟩ | _ => none) | _ => none) | _ => none
      | false => none
noncomputable def F_i2 (w : World) (id : String) (x : Int) (t : Nat) (y : Int) (u : Nat) : Option (Dp (VV w)) := match idIs id 116512245094328231196454762 with
  | true => some ⟨0, fun _ _ _ => some ⟨S_mul x t y u, mul_at⟩⟩
  | false => F_int w id x t y u
noncomputable def FG (w : World) (c : Code) : Option (Dp (VV w)) := match c with
  | .call (.ref a) ⟨[v], []⟩ => F_1 w a v
  | .call (.ref a) ⟨[v, v'], []⟩ => F_2 w a v v'
  | .call (.ref a) ⟨[v, v', v''], []⟩ => F_3 w a v v' v''
  | .builtin id ⟨[.int x t, .int y u], []⟩ => F_i2 w id x t y u
  | .builtin id ⟨[.int x t], []⟩ => match idIs id 116512372849064760722157418 with
    | true => some ⟨0, fun _ _ _ => some ⟨_, abs_any w x t⟩⟩
    | false => none
  | _ => none
structure Vars where
  A : Nat → Nat
  B : Nat → Nat
  H : Nat → Nat → Int
  K : Nat → Nat → Nat
  V : Nat → Nat → Nat
  R : Nat → Nat → Nat
  I : Nat → Nat → Int
  N : Nat → Nat
  E : Nat → Array DictEntry
  U : Nat → Nat
  W : Nat → Nat
  Q : Nat → Array Value
  Z : Nat → Nat → Value
  Y : Nat → Nat → Array UInt8 := fun _ _ => #[]
  u : Bool := false
noncomputable def ap (l r : List Nat) : List Nat := List.rec (motive := fun _ => List Nat) r (fun a _ ih => a :: ih) l
noncomputable def dp (l : List Nat) (i : Nat) : List Nat := List.rec (motive := fun _ => Nat → List Nat) (fun _ => []) (fun a l ih i => Nat.rec (motive := fun _ => List Nat) (a :: l) (fun i _ => ih i) i) l i
noncomputable def tkA (l : List Nat) (n : Nat) (r : List Nat) : List Nat := List.rec (motive := fun _ => Nat → List Nat) (fun _ => r) (fun a _ ih n => Nat.rec (motive := fun _ => List Nat) r (fun n _ => a :: ih n) n) l n
noncomputable def cp (l : List Nat) (i n : Nat) (r : List Nat) : List Nat := tkA (dp l i) n r
noncomputable def q0 : List Nat := [0,0,0,2,2,0,0,0,0,0,2,2,0,0,2,1,1,1,1,7,8,8,8,8,8,8,1,8,8,8,8,8,7,7,7,7,1,7,7,8,8,8,8,8,8,8,8,8,8,8,8,8,8,8,8,8,9,9,9,1,9,10,10,10,10,10,9,10,10,10,10,10,10,9,10,10,10,10,10,10,9,10,10,12,0,2,2,0,2,2,2,3,0,0,0,3,0,0,0,3,0,0,0,0,3,4,2,2,0,3,4,5,6,0,0,0,0,0,8,8,8,7,7,7,7,1,7,7,14,2]
noncomputable def q1 : List Nat := [2,2,2,0,1,0,1,1,1,3,0,0,0,3,0,0,0,3,0,0,0,0,3,4,0,3,4,5,6,0,2,1,7,0,0,0,7,0,0,0,7,0,0,0,0,7,8,1,1,7,0,0,0,7,0,0,0,7,0,0,0,0,7,8,1,0,7,8,9,10,0,3,0,7,8,9,10,0,4,1,2,3,4,5,6,7,8,9,10,0,5000,1,0]
noncomputable def q2 : List Nat := [2,2,2,0,1,0,1,1,1,3,0,0,0,3,0,0,0,3,0,0,0,0,3,4,0,0,0,0,20,20,20,3,0,0,0,3,0,0,0,3,3,0,4,3,0,0,0,3,0,3,0,3,0,0,0,3,0,0,4,4,4,20,3,0,0,0,3,0,0,0,3,3,0,4,20,3,0,0,0,3,0,0,0,3,3,0,4,5,0,0,0,5,0,0,0,5,5,0,6,1,0,2,0,0,0,0,0,0,0,0,0,0,0,0,0,0,0,0,0,0,0,0,0,0,0,0,0,0,0,22,0,22,0,0,0,0,0,0,0,23,23,0,23,23,23,23,22,0,0,0,22,0,22,0,22,0,0,0,22,0,22,0,24,24,24,23,22,0,0,0,22,0,22,0,22,0,0,0,22,0,0,24,24,24,23,22,0,0,0,22,0,22,0,22,0,0,0,22,0,0,24,24,24,22,22,0,22,22,0,22,22,20,20,1,1,14,14,15,15,16,16,17,17,18,18,19,19,22,22,22,26,26,22,26,26,26,1,22,22]
noncomputable def q3 : List Nat := [0,0,0,21,21,0,21,21,0,21,21,0,21,21,0,21,0,1,3,0,0,21,0,1,2,0,1,0,21,0,1,2,0,2,0,21,0,1,2,0,3,0,21,0,1,2,0,4,28,28,28,28,28,0,5,29,29,29,1,29,30,30,30,30,30,29,30,30,30,30,30,30,29,30,30,30,30,30,30,29,30,30,32,22,22,0,21,21,0,0,0,0,21,3,3,3,21,0,0,21,21,21,4,0,0,0,4,0,0,0,4,4,0,5,6,0,0,0,6,0,0,0,6,6,0,7,21,4,0,0,0,4,0,0,0,4,4,0,5,0,21,21,0,21,21,22,21,0,0,0,0,34,34,0,34,34,0,34,34,0,34,34,34,0,34,34,34,35,35,1,35,36,36,36,36,36,35,36,36,0,34,34,34,9,0,0,0,9,0,0,0,9,0,0,0,0,9,12,34,0,9,12,13,14,0,0,0,0,0,34,34,36,36,36,36,35,36,36,0,34,34,34,15,0,0,0,15,0,0,0,15,0,0,0,0,15,16,34,0,15,16,17,18,0,0,0,0,0,34,34,36,36,36,36,35,36,36,38,34,4,0,0,0,4,0,0,0,4,0,0,0,0,4,5,0,4,5,8,0,34,4,0,0,0,4,0,0,0,4,0,0,0,0,4,5,34,34,0,0,0,0,40,40,0,40,40,0,40,40,0,40,40,40,4,0,0,0,4,0,0,0,4,0,0,0,0,4,5,40,40,40,0,0,0,0,41,41,0,41,41,0,41,41,0,41,41,0,0,41,0,19,41,4,0,0,0,4,0,0,0,4,0,0,0,0,4,5,41,41,0,0,0,0,42,42,0,42,42,0,42,42,42,4,0,0,0,4,0,0,0,4,0,0,0,0,4,5,0,4,5,6,7,0,8,42,4,0,0,0,4,0,0,0,4,0,0,0,0,4,5,0,0,4,5,0,0,0,0,0,0,0,42,42,42,4,0,0,0,4,0,0,0,4,4,0,5,47,47,47,1,47,48,48,48,48,48,47,48,48,48,48,48,48,47,48,48,48,48,48,48,47,48,48,50,42,45,0,0,0,45,0,45,0,45,0,0,0,45,0,0,46,46,46,42,45,0,0,0,45,0,45,0,45,0,0,0,45,0,0,46,46,46,42,4,0,0,0,4,0,0,0,4,4,0,5,39,39,39,39,42,39,39,39,39,42,19,0,0,0,19,0,0,0,19,0,0,0,19,0,0,0,19,0,0,0,19,19,0,20,42,42,0,0,0,0,51,51,0,51,51,0,51,51,0,0,0,0,52,52,0,52,52,0,52,52,0,52,52,0,52,52,0,33,0,0,0,0,52,52,0,0,52,0,24,52,0,51,51,51,24,0,0,0,24,0,0,0,24,0,0,0,0,24,25,0,0,0,0,53,53,0,53,53,53,24,0,0,0,24,0,0,0,24,0,0,0,0,24,25,53,0,24,25,26,27,0,0,53,0,51,51,0,0,51,33,33,33,1,1,0,0,0,51,33,33,33,1,1,0,0,51,51,0,0,0,0,54,54,0,54,54,0,54,54,0,54,54,0,0,54,54,0,33,0,0,0,54,4,0,0,0,4,0,0,0,4,4,0,5,0,0,0,0,55,55,0,55,55,0,55,0,0,0,0,56,56,0,0,56,0,0,0,0,56,0,0,55,0,54,54,54,54,0,51,51,0,0,51,51,0,0,51,51,0,0,51,51,57,57,57,57,57,57,1,57,57,0,6,58,19,51,58,4,5,6,7,24,25,26,27,23,22,10,42,41,40,34,21,11,0,5000,0,59,59,62,62,59,62,59,62,62,59,62,62,62,42,59,59,59,66,66,59,66,66,66,41,59,59,59,67,67,59,67,67,67,40,59,59,59,68,68,59,68,68,68,34,59,59,59,69,69,0,0,0,0,59,0,59,69,69,0,34,34,34,59,0,0,0,0,0,0,59,0,59,0,0,0,59,59,0,60,0,34,34,34,34,0,21,21,21,21,21,1,0,7,21,1]
noncomputable def q4 : List Nat := [0,0,0,12,12,0,12,12,0,12,1,0,0,0,1,0,0,0,1,0,0,0,0,1,2,0,0,0,0,13,13,0,13,13,0,0,13,1,0,0,0,1,0,0,0,1,1,0,2,3,3,3,13,0,13,13,13,1,0,0,12,0,0,0,0,0,0,0,0,0,0,0,0,0,0,0,0,0,0,0,0,0,0,0,0,0,0,15,0,15,0,0,0,0,0,0,0,16,16,0,16,16,16,16,15,0,0,0,15,0,15,0,15,0,0,0,15,0,15,0,17,17,17,16,15,0,0,0,15,0,15,0,15,0,0,0,15,0,0,17,17,17,16,15,0,0,0,15,0,15,0,15,0,0,0,15,0,0,17,17,17,15,15,0,15,15,0,15,15,12,12,5,5,6,6,7,7,8,8,9,9,10,10,11,11,15,15,15,19,19]
noncomputable def q5 : List Nat := [0,0,0,21,21,0,21,21,0,21,21,0,21,21,0,21,0,1,2,0,1,22,22,22,22,22,0,2,0,21,21,21,21,3,0,3,0,21,21,0,21,21,0,21,0,1,3,0,21,0,0,0,0,28,28,0,28,28,0,28,28,0,28,28,28,0,28,28,28,29,29,1,29,30,30,30,30,30,29,30,30,0,28,28,28,9,0,0,0,9,0,0,0,9,0,0,0,0,9,12,28,0,9,12,13,14,0,0,0,0,0,28,28,30,30,30,30,29,30,30,0,28,28,28,15,0,0,0,15,0,0,0,15,0,0,0,0,15,16,28,0,15,16,17,18,0,0,0,0,0,28,28,30,30,30,30,29,30,30,32,28,4,0,0,0,4,0,0,0,4,0,0,0,0,4,5,0,4,5,8,0,28,4,0,0,0,4,0,0,0,4,0,0,0,0,4,5,28,28,0,0,0,0,34,34,0,34,34,0,34,34,0,34,34,34,4,0,0,0,4,0,0,0,4,0,0,0,0,4,5,34,34,34,0,0,0,0,35,35,0,35,35,0,35,35,0,35,35,0,0,35,0,19,35,4,0,0,0,4,0,0,0,4,0,0,0,0,4,5,35,35,0,0,0,0,36,36,0,36,36,0,36,36,36,4,0,0,0,4,0,0,0,4,0,0,0,0,4,5,0,4,5,6,7,0,0,36,4,0,0,0,4,0,0,0,4,0,0,0,0,4,5,0,0,4,5,0,0,0,0,0,0,0,36,36,36,4,0,0,0,4,0,0,0,4,4,0,5,41,41,41,1,41,42,42,42,42,42,41,42,42,42,42,42,42,41,42,42,42,42,42,42,41,42,42,44,36,39,0,0,0,39,0,39,0,39,0,0,0,39,0,0,40,40,40,36,39,0,0,0,39,0,39,0,39,0,0,0,39,0,0,40,40,40,36,4,0,0,0,4,0,0,0,4,4,0,5,33,33,33,33,36,33,33,33,33,36,19,0,0,0,19,0,0,0,19,0,0,0,19,0,0,0,19,0,0,0,19,19,0,20,36,36,0,0,0,0,45,45,0,45,45,0,45,0,27,0,0,0,0,45,45,0,0,0,0,46,46,0,46,46,0,46,46,0,46,46,0,0,46,46,0,27,0,0,0,0,0,0,0,47,47,0,0,47,0,0,47,0,46,46,46,46,0,45,45,0,45,45,0,0,0,0,48,48,0,48,48,0,48,48,0,48,48,0,48,48,0,27,0,0,0,0,48,48,0,0,48,0,23,48,0,45,45,0,45,45,0,0,0,0,49,49,0,49,49,0,49,49,0,49,49,0,49,49,0,49,49,0,27,0,0,0,49,0,45,45,0,45,45,45,23,0,0,0,23,0,0,0,23,0,0,0,0,23,24,0,0,0,0,50,50,0,50,50,50,23,0,0,0,23,0,0,0,23,0,0,0,0,23,24,50,0,23,24,25,26,0,0,50,0,0,0,0,51,51,0,51,51,0,51,51,0,51,51,0,51,51,0,51,51,0,27,0,0,0,51,0,45,45,53,53,53,1,53,54,54,54,54,54,53,54,54,54,54,54,54,53,54,54,54,54,54,54,53,54,54,56,0,45,45,0,45,45,0,0,45,45,57,57,57,57,57,57,1,57,57,0,0,58,58,58,58,1,0,60,45,45,52,0,3,0,36,36,36,4,0,0,0,4,0,0,0,4,4,0,5,33,33,33,33,33,33,33,33,33,36,4,0,0,0,4,0,0,0,4,4,0,5,0,4,0,0,0,4,0,4,0,4,0,0,0,4,0,0,5,5,5,36,0,21,21,0,0,21,0,7,21,4,0,0,0,4,0,0,0,4,4,0,5,6,0,0,0,6,0,0,0,6,6,0,7,1,1,5,21,21,61,62,61,1,61,61,62,1,4]
noncomputable def q6 : List Nat := [0,0,0,22,22,0,22,22,0,22,22,0,22,0,1,2,0,1,0,22,0,1,2,0,2,23,23,23,1,23,24,24,24,24,24,23,24,24,24,24,24,24,23,24,24,24,24,24,24,23,24,24,26,0,22,22,0,22,22,0,22,22,22,0,11,22,0,0,0,0,28,28,0,28,28,0,28,28,0,28,28,28,0,28,28,28,29,29,1,29,30,30,30,30,30,29,30,30,0,28,28,28,8,0,0,0,8,0,0,0,8,0,0,0,0,8,11,28,0,8,11,12,13,0,0,0,0,0,28,28,30,30,30,30,29,30,30,0,28,28,28,14,0,0,0,14,0,0,0,14,0,0,0,0,14,15,28,0,14,15,16,17,0,0,0,0,0,28,28,30,30,30,30,29,30,30,32,28,3,0,0,0,3,0,0,0,3,0,0,0,0,3,4,0,3,4,7,0,28,3,0,0,0,3,0,0,0,3,0,0,0,0,3,4,28,28,0,0,0,0,34,34,0,34,34,0,34,34,0,34,34,34,3,0,0,0,3,0,0,0,3,0,0,0,0,3,4,34,34,34,0,0,0,0,35,35,0,35,35,0,35,35,0,35,35,0,0,35,0,18,35,3,0,0,0,3,0,0,0,3,0,0,0,0,3,4,35,35,0,0,0,0,36,36,0,36,36,0,36,36,36,3,0,0,0,3,0,0,0,3,0,0,0,0,3,4,0,3,4,5,6,0,14,36,3,0,0,0,3,0,0,0,3,0,0,0,0,3,4,0,0,3,4,0,0,0,0,0,0,0,36,36,36,3,0,0,0,3,0,0,0,3,3,0,4,41,41,41,1,41,42,42,42,42,42,41,42,42,42,42,42,42,41,42,42,42,42,42,42,41,42,42,44,36,39,0,0,0,39,0,39,0,39,0,0,0,39,0,0,40,40,40,36,39,0,0,0,39,0,39,0,39,0,0,0,39,0,0,40,40,40,36,3,0,0,0,3,0,0,0,3,3,0,4,33,33,33,33,36,33,33,33,33,36,18,0,0,0,18,0,0,0,18,0,0,0,18,0,0,0,18,0,0,0,18,18,0,19,36,36,0,0,0,0,45,45,0,45,45,0,45,45,0,0,0,0,47,47,0,47,47,0,47,47,0,47,47,0,0,47,47,0,27,0,0,0,0,0,0,0,48,48,0,0,48,0,0,48,0,47,47,47,47,46,46,0,0,45,45,0,0,0,0,49,49,0,49,49,0,49,49,0,49,49,0,49,49,0,49,49,0,27,0,0,0,0,49,49,49,49,0,0,0,0,50,50,0,50,50,0,50,50,0,50,50,0,0,50,50,0,27,0,0,0,50,3,0,0,0,3,0,0,0,3,3,0,4,0,0,0,0,51,51,0,51,51,0,51,0,0,0,0,52,52,0,0,52,0,0,0,0,52,0,0,51,0,50,50,50,50,0,0,46,0,10,0,0,0,0,53,53,0,53,53,53,1,1,4,53,0,45,45,0,0,0,0,45,45,45,0,0,0,0,54,54,0,54,54,0,54,54,0,54,54,0,54,54,0,54,54,0,27,0,0,0,0,54,54,54,54,0,0,0,0,55,55,0,55,55,0,55,55,0,55,55,0,0,55,55,0,27,0,0,0,55,3,0,0,0,3,0,0,0,3,3,0,4,0,0,0,0,56,56,0,56,56,0,56,0,0,0,0,57,57,0,0,57,0,0,0,0,57,0,0,56,0,55,55,55,55,0,0,46,0,10,0,0,0,0,58,58,0,58,58,58,1,0,0,0,0,58,58,0,0,0,46,0,10,0,0,45,45,45,0,0,45,0,45,3,0,0,0,3,0,0,0,3,3,0,4,5,0,0,0,5,0,0,0,5,5,0,6,1,1,5,0,0,0,0,45,0,45,59,59,59,59,59,59,1,59,59,0,16,60,60,62,60,61,46,0,12,62,62,62,0,36,36,36,3,0,0,0,3,0,0,0,3,3,0,4,33,33,33,33,33,33,33,33,33,36,3,0,0,0,3,0,0,0,3,3,0,4,0,3,0,0,0,3,0,3,0,3,0,0,0,3,0,0,4,4,4,36,0,22,22,0,0,22,22,0,63,63,63,63,63,0,8,0,22,22,0,0,22,64,0,5001,1,296,22,3,0,0,0,3,0,0,0,3,3,0,4,5,0,0,0,5,0,0,0,5,5,0,6,1,1,5002,1,296,22,22,61,64,61,1,61,61,64,0,5000,2,278,296,0,0,0,0,0,22,0,1,2,0,3,65,65,65,65,65,0,13,0,22,22,0,22,22,22,0,0,0,0,67,67,0,67,67,0,67,67,0,67,67,67,0,67,67,67,68,68,1,68,69,69,69,69,69,68,69,69,0,67,67,67,8,0,0,0,8,0,0,0,8,0,0,0,0,8,11,67,0,8,11,12,13,0,0,0,0,0,67,67,69,69,69,69,68,69,69,0,67,67,67,14,0,0,0,14,0,0,0,14,0,0,0,0,14,15,67,0,14,15,16,17,0,0,0,0,0,67,67,69,69,69,69,68,69,69,71,67,3,0,0,0,3,0,0,0,3,0,0,0,0,3,4,0,3,4,33,0,67,3,0,0,0,3,0,0,0,3,0,0,0,0,3,4,67,67,0,0,0,0,73,73,0,73,73,0,73,73,0,73,73,73,3,0,0,0,3,0,0,0,3,0,0,0,0,3,4,73,73,73,0,0,0,0,74,74,0,74,74,0,74,74,0,74,74,0,0,74,0,20,74,3,0,0,0,3,0,0,0,3,0,0,0,0,3,4,74,74,0,0,0,0,75,75,0,75,75,0,75,75,75,3,0,0,0,3,0,0,0,3,0,0,0,0,3,4,0,3,4,5,6,0,15,75,3,0,0,0,3,0,0,0,3,0,0,0,0,3,4,0,0,3,4,0,0,0,0,0,0,0,75,75,75,3,0,0,0,3,0,0,0,3,3,0,4,80,80,80,1,80,81,81,81,81,81,80,81,81,81,81,81,81,80,81,81,81,81,81,81,80,81,81,83,75,78,0,0,0,78,0,78,0,78,0,0,0,78,0,0,79,79,79,75,78,0,0,0,78,0,78,0,78,0,0,0,78,0,0,79,79,79,75,3,0,0,0,3,0,0,0,3,3,0,4,72,72,72,72,75,72,72,72,72,75,20,0,0,0,20,0,0,0,20,0,0,0,20,0,0,0,20,0,0,0,20,20,0,21,75,75,0,0,0,0,84,84,0,84,84,0,84,84,0,0,0,0,85,85,0,85,85,0,85,85,0,85,85,0,0,85,85,0,66,0,0,0,0,0,0,0,86,86,0,0,86,0,0,86,0,85,85,85,85,0,0,0,84,84,0,0,0,0,87,87,0,87,87,0,87,87,0,87,87,0,0,87,87,0,66,0,0,0,87,3,0,0,0,3,0,0,0,3,3,0,4,0,0,0,0,88,88,0,88,88,0,88,0,0,0,0,89,89,0,0,89,0,0,0,0,89,0,0,88,0,87,87,87,87,0,90,90,90,1,90,91,91,91,91,91,90,91,91,91,91,91,91,90,91,91,91,91,91,91,90,91,91,93,0,84,84,0,84,84,0,0,84,0,0,84,0,0,84,3,0,0,0,3,0,0,0,3,3,0,4,5,0,0,0,5,0,0,0,5,5,0,6,1,1,7,84,1,0,75,75,75,3,0,0,0,3,0,0,0,3,3,0,4,72,72,72,72,72,72,72,72,72,75,3,0,0,0,3,0,0,0,3,3,0,4,0,3,0,0,0,3,0,3,0,3,0,0,0,3,0,0,4,4,4,75,94,95,94,1,94,94,95,1,0]
noncomputable def q7 : List Nat := [0,0,0,22,22,0,22,22,0,22,22,0,22,0,1,2,0,1,0,22,0,1,2,0,2,23,23,23,1,23,24,24,24,24,24,23,24,24,24,24,24,24,23,24,24,24,24,24,24,23,24,24,26,0,22,22,0,22,22,0,22,22,22,0,11,22,0,0,0,0,28,28,0,28,28,0,28,28,0,28,28,28,0,28,28,28,29,29,1,29,30,30,30,30,30,29,30,30,0,28,28,28,8,0,0,0,8,0,0,0,8,0,0,0,0,8,11,28,0,8,11,12,13,0,0,0,0,0,28,28,30,30,30,30,29,30,30,0,28,28,28,14,0,0,0,14,0,0,0,14,0,0,0,0,14,15,28,0,14,15,16,17,0,0,0,0,0,28,28,30,30,30,30,29,30,30,32,28,3,0,0,0,3,0,0,0,3,0,0,0,0,3,4,0,3,4,7,0,28,3,0,0,0,3,0,0,0,3,0,0,0,0,3,4,28,28,0,0,0,0,34,34,0,34,34,0,34,34,0,34,34,34,3,0,0,0,3,0,0,0,3,0,0,0,0,3,4,34,34,34,0,0,0,0,35,35,0,35,35,0,35,35,0,35,35,0,0,35,0,18,35,3,0,0,0,3,0,0,0,3,0,0,0,0,3,4,35,35,0,0,0,0,36,36,0,36,36,0,36,36,36,3,0,0,0,3,0,0,0,3,0,0,0,0,3,4,0,3,4,5,6,0,14,36,3,0,0,0,3,0,0,0,3,0,0,0,0,3,4,0,0,3,4,0,0,0,0,0,0,0,36,36,36,3,0,0,0,3,0,0,0,3,3,0,4,41,41,41,1,41,42,42,42,42,42,41,42,42,42,42,42,42,41,42,42,42,42,42,42,41,42,42,44,36,39,0,0,0,39,0,39,0,39,0,0,0,39,0,0,40,40,40,36,39,0,0,0,39,0,39,0,39,0,0,0,39,0,0,40,40,40,36,3,0,0,0,3,0,0,0,3,3,0,4,33,33,33,33,36,33,33,33,33,36,18,0,0,0,18,0,0,0,18,0,0,0,18,0,0,0,18,0,0,0,18,18,0,19,36,36,0,0,0,0,45,45,0,45,45,0,45,45,0,0,0,0,47,47,0,47,47,0,47,47,0,47,47,0,0,47,47,0,27,0,0,0,0,0,0,0,48,48,0,0,48,0,0,48,0,47,47,47,47,46,46,0,0,45,45,0,0,0,0,49,49,0,49,49,0,49,49,0,49,49,0,49,49,0,49,49,0,27,0,0,0,0,49,49,49,49,0,0,0,0,50,50,0,50,50,0,50,50,0,50,50,0,0,50,50,0,27,0,0,0,50,3,0,0,0,3,0,0,0,3,3,0,4,0,0,0,0,51,51,0,51,51,0,51,0,0,0,0,52,52,0,0,52,0,0,0,0,52,0,0,51,0,50,50,50,50,0,0,46,0,10,0,0,0,0,53,53,0,53,53,53,1,1,4,53,0,45,45,0,0,0,0,45,45,45,0,0,0,0,54,54,0,54,54,0,54,54,0,54,54,0,54,54,0,54,54,0,27,0,0,0,0,54,54,54,54,0,0,0,0,55,55,0,55,55,0,55,55,0,55,55,0,0,55,55,0,27,0,0,0,55,3,0,0,0,3,0,0,0,3,3,0,4,0,0,0,0,56,56,0,56,56,0,56,0,0,0,0,57,57,0,0,57,0,0,0,0,57,0,0,56,0,55,55,55,55,0,0,46,0,10,0,0,0,0,58,58,0,58,58,58,1,0,0,0,0,58,58,0,0,0,46,0,10,0,0,45,45,45,0,0,45,0,45,3,0,0,0,3,0,0,0,3,3,0,4,5,0,0,0,5,0,0,0,5,5,0,6,1,0,5,45,3,0,0,0,3,0,0,0,3,0,0,0,0,3,4,0,0,0,0,59,59,0,59,59,0,59,3,0,0,0,3,0,0,0,3,0,0,0,0,3,4,0,0,0,0,60,60,0,60,60,0,0,60,3,0,0,0,3,0,0,0,3,3,0,4,33,0,0,60,0,60,60,60,1,0,0,59,0,0,0,0,0,0,0,0,0,0,0,0,0,0,0,0,0,0,0,0,0,0,0,0,0,0,62,0,62,0,0,0,0,0,0,0,63,63,0,63,63,63,63,62,0,0,0,62,0,62,0,62,0,0,0,62,0,62,0,64,64,64,63,62,0,0,0,62,0,62,0,62,0,0,0,62,0,0,64,64,64,63,62,0,0,0,62,0,62,0,62,0,0,0,62,0,0,64,64,64,62,62,0,62,62,0,62,62,59,59,45,45,36,36,35,35,34,34,28,28,22,22,10,10,62,62,62,66,66,62,66,66,66,45,62,62,62,67,67,62,67,67,67,36,62,62,62,68,68,62,68,68,68,35,62,62,62,69,69,62,69,69,69,34,62,62,62,70,70,62,70,70,70,28,62,62,62,71,71,0,0,0,0,62,0,62,71,71,0,28,28,28,62,0,0,0,0,0,0,62,0,62,0,0,0,62,62,0,64,0,28,28,28,28,0,22,22,0,0,22,22,0,72,72,72,72,72,0,8,0,22,22,0,0,22,73,0,5001,1,332,22,3,0,0,0,3,0,0,0,3,3,0,4,5,0,0,0,5,0,0,0,5,5,0,6,1,0,5002,1,332,22,1,0,0,0,0,0,22,0,1,2,0,3,74,74,74,74,74,0,13,0,22,22,0,22,22,22,0,0,0,0,76,76,0,76,76,0,76,76,0,76,76,76,0,76,76,76,77,77,1,77,78,78,78,78,78,77,78,78,0,76,76,76,8,0,0,0,8,0,0,0,8,0,0,0,0,8,11,76,0,8,11,12,13,0,0,0,0,0,76,76,78,78,78,78,77,78,78,0,76,76,76,14,0,0,0,14,0,0,0,14,0,0,0,0,14,15,76,0,14,15,16,17,0,0,0,0,0,76,76,78,78,78,78,77,78,78,80,76,3,0,0,0,3,0,0,0,3,0,0,0,0,3,4,0,3,4,33,0,76,3,0,0,0,3,0,0,0,3,0,0,0,0,3,4,76,76,0,0,0,0,82,82,0,82,82,0,82,82,0,82,82,82,3,0,0,0,3,0,0,0,3,0,0,0,0,3,4,82,82,82,0,0,0,0,83,83,0,83,83,0,83,83,0,83,83,0,0,83,0,20,83,3,0,0,0,3,0,0,0,3,0,0,0,0,3,4,83,83,0,0,0,0,84,84,0,84,84,0,84,84,84,3,0,0,0,3,0,0,0,3,0,0,0,0,3,4,0,3,4,5,6,0,15,84,3,0,0,0,3,0,0,0,3,0,0,0,0,3,4,0,0,3,4,0,0,0,0,0,0,0,84,84,84,3,0,0,0,3,0,0,0,3,3,0,4,89,89,89,1,89,90,90,90,90,90,89,90,90,90,90,90,90,89,90,90,90,90,90,90,89,90,90,92,84,87,0,0,0,87,0,87,0,87,0,0,0,87,0,0,88,88,88,84,87,0,0,0,87,0,87,0,87,0,0,0,87,0,0,88,88,88,84,3,0,0,0,3,0,0,0,3,3,0,4,81,81,81,81,84,81,81,81,81,84,20,0,0,0,20,0,0,0,20,0,0,0,20,0,0,0,20,0,0,0,20,20,0,21,84,84,0,0,0,0,93,93,0,93,93,0,93,93,0,0,0,0,94,94,0,94,94,0,94,94,0,94,94,0,0,94,94,0,75,0,0,0,0,0,0,0,95,95,0,0,95,0,0,95,0,94,94,94,94,0,0,0,93,93,0,0,0,0,96,96,0,96,96,0,96,96,0,96,96,0,0,96,96,0,75,0,0,0,96,3,0,0,0,3,0,0,0,3,3,0,4,0,0,0,0,97,97,0,97,97,0,97,0,0,0,0,98,98,0,0,98,0,0,0,0,98,0,0,97,0,96,96,96,96,0,99,99,99,1,99,100,100,100,100,100,99,100,100,100,100,100,100,99,100,100,100,100,100,100,99,100,100,102,0,93,93,0,93,93,0,0,93,0,0,93,0,0,93,3,0,0,0,3,0,0,0,3,3,0,4,5,0,0,0,5,0,0,0,5,5,0,6,1,1,7,93,1,0,84,84,84,3,0,0,0,3,0,0,0,3,3,0,4,81,81,81,81,81,81,81,81,81,84,3,0,0,0,3,0,0,0,3,3,0,4,0,3,0,0,0,3,0,3,0,3,0,0,0,3,0,0,4,4,4,84,103,104,103,1,103,103,104,1,0]
noncomputable def q8 : List Nat := [0,0,0,22,22,0,22,22,0,22,22,0,22,0,1,2,1,1,2,0,22,22,22,28,28,28,28,28,23,23,22,8,0,0,0,8,0,0,0,8,0,0,0,0,8,12,0,0,16,16,16,16,0,0,0,0,0,0,0,8,12,13,14,0,0,0,0,0,0,22,22,0,0,0,0,40,40,0,40,40,0,40,40,0,40,40,40,0,40,40,40,41,41,1,41,42,42,42,42,42,41,42,42,0,40,40,40,8,0,0,0,8,0,0,0,8,0,0,0,0,8,12,40,0,8,12,13,14,0,0,0,0,0,40,40,42,42,42,42,41,42,42,44,40,3,0,0,0,3,0,0,0,3,0,0,0,0,3,4,0,3,4,7,0,40,3,0,0,0,3,0,0,0,3,0,0,0,0,3,4,40,40,0,0,0,0,46,46,0,46,46,0,46,46,0,46,46,46,3,0,0,0,3,0,0,0,3,0,0,0,0,3,4,46,46,46,0,0,0,0,47,47,0,47,47,0,47,47,0,47,47,0,0,47,0,17,47,3,0,0,0,3,0,0,0,3,0,0,0,0,3,4,47,47,0,0,0,0,48,48,0,48,48,0,48,48,48,3,0,0,0,3,0,0,0,3,0,0,0,0,3,4,0,3,4,5,6,0,3,48,3,0,0,0,3,0,0,0,3,0,0,0,0,3,4,0,0,3,4,0,0,0,0,0,0,0,48,48,48,3,0,0,0,3,0,0,0,3,3,0,4,53,53,53,1,53,54,54,54,54,54,53,54,54,54,54,54,54,53,54,54,54,54,54,54,53,54,54,56,48,51,0,0,0,51,0,51,0,51,0,0,0,51,0,0,52,52,52,48,51,0,0,0,51,0,51,0,51,0,0,0,51,0,0,52,52,52,48,3,0,0,0,3,0,0,0,3,3,0,4,45,45,45,45,48,45,45,45,45,48,17,0,0,0,17,0,0,0,17,0,0,0,17,0,0,0,17,0,0,0,17,17,0,18,48,48,19,19,20,0,57,57,0,57,57,0,57,57,21,0,0,0,0,58,58,0,58,58,0,58,58,0,58,58,58,39,39,1,39,60,60,60,60,60,39,60,60,0,58,58,58,3,0,0,0,3,0,0,0,3,0,0,0,0,3,4,58,8,0,0,0,8,0,0,0,8,0,0,0,0,8,12,0,8,12,13,14,0,0,0,0,58,0,0,0,0,62,62,0,62,62,0,62,62,0,62,62,62,3,0,0,0,3,0,0,0,3,0,0,0,0,3,4,62,62,62,0,0,0,0,63,63,0,63,63,0,63,63,0,63,63,0,0,63,0,37,63,3,0,0,0,3,0,0,0,3,0,0,0,0,3,4,63,63,0,0,0,0,64,64,0,64,64,0,64,64,64,3,0,0,0,3,0,0,0,3,0,0,0,0,3,4,0,3,4,5,6,0,4,64,3,0,0,0,3,0,0,0,3,0,0,0,0,3,4,0,0,3,4,0,0,0,0,0,0,0,64,64,64,3,0,0,0,3,0,0,0,3,3,0,4,69,69,69,1,69,70,70,70,70,70,69,70,70,70,70,70,70,69,70,70,70,70,70,70,69,70,70,72,64,67,0,0,0,67,0,67,0,67,0,0,0,67,0,0,68,68,68,64,67,0,0,0,67,0,67,0,67,0,0,0,67,0,0,68,68,68,64,3,0,0,0,3,0,0,0,3,3,0,4,45,45,45,45,64,45,45,45,45,64,37,0,0,0,37,0,0,0,37,0,0,0,37,0,0,0,37,0,0,0,37,37,0,38,64,64,36,36,35,0,73,73,0,73,73,0,0,23,74,74,74,74,24,0,0,0,64,64,64,3,0,0,0,3,0,0,0,3,3,0,4,45,45,45,45,45,45,45,45,45,64,3,0,0,0,3,0,0,0,3,3,0,4,0,3,0,0,0,3,0,3,0,3,0,0,0,3,0,0,4,4,4,64,0,58,58,0,0,58,74,74,74,1,0,0,0,58,74,74,74,74,74,0,0,0,0,75,75,0,0,75,0,0,75,0,58,58,58,58,59,59,59,59,58,59,59,59,59,60,60,60,60,39,60,60,0,58,58,58,3,0,0,0,3,0,0,0,3,0,0,0,0,3,4,58,8,0,0,0,8,0,0,0,8,0,0,0,0,8,12,0,8,12,13,14,0,0,0,0,58,0,0,0,0,77,77,0,77,77,0,77,77,0,77,77,77,3,0,0,0,3,0,0,0,3,0,0,0,0,3,4,77,77,77,0,0,0,0,78,78,0,78,78,0,78,78,0,78,78,0,0,78,0,37,78,3,0,0,0,3,0,0,0,3,0,0,0,0,3,4,78,78,0,0,0,0,79,79,0,79,79,0,79,79,79,3,0,0,0,3,0,0,0,3,0,0,0,0,3,4,0,3,4,5,6,0,5,79,3,0,0,0,3,0,0,0,3,0,0,0,0,3,4,0,0,3,4,0,0,0,0,0,0,0,79,79,79,3,0,0,0,3,0,0,0,3,3,0,4,84,84,84,1,84,85,85,85,85,85,84,85,85,85,85,85,85,84,85,85,85,85,85,85,84,85,85,87,79,82,0,0,0,82,0,82,0,82,0,0,0,82,0,0,83,83,83,79,82,0,0,0,82,0,82,0,82,0,0,0,82,0,0,83,83,83,79,3,0,0,0,3,0,0,0,3,3,0,4,45,45,45,45,79,45,45,45,45,79,37,0,0,0,37,0,0,0,37,0,0,0,37,0,0,0,37,0,0,0,37,37,0,38,79,79,36,36,35,0,88,88,0,88,88,0,0,23,89,89,89,89,24,0,0,0,79,79,79,3,0,0,0,3,0,0,0,3,3,0,4,45,45,45,45,45,45,45,45,45,79,3,0,0,0,3,0,0,0,3,3,0,4,0,3,0,0,0,3,0,3,0,3,0,0,0,3,0,0,4,4,4,79,0,58,58,0,0,58,89,89,89,1,0,0,0,58,89,89,89,89,89,0,0,0,0,90,90,0,0,90,0,0,90,0,58,58,58,58,59,59,59,59,58,59,59,59,59,60,60,60,60,39,60,60,92,58,3,0,0,0,3,0,0,0,3,3,0,4,11,11,11,11,58,59,59,59,59,59,59,11,11,11,11,0,48,48,48,3,0,0,0,3,0,0,0,3,3,0,4,45,45,45,45,45,45,45,45,45,48,3,0,0,0,3,0,0,0,3,3,0,4,0,3,0,0,0,3,0,3,0,3,0,0,0,3,0,0,4,4,4,48,0,22,22,22,1,1,0,22,93,94,93,1,93,93,94,0,0,22,3,0,0,0,3,0,0,0,3,3,0,4,22,97,97,97,97,97,11,95,11,1,11,11,95,0,0,22,8,0,0,0,8,0,0,0,8,0,0,0,0,8,12,0,8,12,13,14,0,0,0,0,0,0,22,22,0,0,0,0,99,99,0,99,99,0,99,99,0,99,99,99,0,99,99,99,100,100,1,100,101,101,101,101,101,100,101,101,0,99,99,99,8,0,0,0,8,0,0,0,8,0,0,0,0,8,12,99,0,8,12,13,14,0,0,0,0,0,99,99,101,101,101,101,100,101,101,103,99,3,0,0,0,3,0,0,0,3,0,0,0,0,3,4,0,3,4,45,0,99,3,0,0,0,3,0,0,0,3,0,0,0,0,3,4,99,99,0,0,0,0,105,105,0,105,105,0,105,105,0,105,105,105,3,0,0,0,3,0,0,0,3,0,0,0,0,3,4,105,105,105,0,0,0,0,106,106,0,106,106,0,106,106,0,106,106,0,0,106,0,17,106,3,0,0,0,3,0,0,0,3,0,0,0,0,3,4,106,106,0,0,0,0,107,107,0,107,107,0,107,107,107,3,0,0,0,3,0,0,0,3,0,0,0,0,3,4,0,3,4,5,6,0,6,107,3,0,0,0,3,0,0,0,3,0,0,0,0,3,4,0,0,3,4,0,0,0,0,0,0,0,107,107,107,3,0,0,0,3,0,0,0,3,3,0,4,112,112,112,1,112,113,113,113,113,113,112,113,113,113,113,113,113,112,113,113,113,113,113,113,112,113,113,115,107,110,0,0,0,110,0,110,0,110,0,0,0,110,0,0,111,111,111,107,110,0,0,0,110,0,110,0,110,0,0,0,110,0,0,111,111,111,107,3,0,0,0,3,0,0,0,3,3,0,4,104,104,104,104,107,104,104,104,104,107,17,0,0,0,17,0,0,0,17,0,0,0,17,0,0,0,17,0,0,0,17,17,0,18,107,107,19,19,20,0,116,116,0,116,116,0,116,116,21,0,0,0,0,117,117,0,117,117,0,117,117,0,117,117,117,98,98,1,98,119,119,119,119,119,98,119,119,0,117,117,117,3,0,0,0,3,0,0,0,3,0,0,0,0,3,4,117,8,0,0,0,8,0,0,0,8,0,0,0,0,8,12,0,8,12,13,14,0,0,0,0,117,0,0,0,0,121,121,0,121,121,0,121,121,0,121,121,121,3,0,0,0,3,0,0,0,3,0,0,0,0,3,4,121,121,121,0,0,0,0,122,122,0,122,122,0,122,122,0,122,122,0,0,122,0,0,0,122,3,0,0,0,3,0,0,0,3,0,0,0,0,3,4,122,0,0,0,0,123,123,0,123,123,0,123,123,0,0,123,0,0,0,0,0,123,0,0,0,122,122,0,122,0,0,0,0,124,124,0,124,0,0,1,122,3,0,0,0,3,0,0,0,3,0,0,0,0,3,4,122,122,0,0,0,0,125,125,0,125,125,0,125,125,0,125,125,0,125,0,0,0,125,125,125,1,125,3,0,0,0,3,0,0,0,3,0,0,0,0,3,4,125,125,0,0,0,0,126,126,0,126,126,0,126,3,0,0,0,3,0,0,0,3,0,0,0,0,3,4,0,0,0,0,127,127,0,127,127,0,0,127,3,0,0,0,3,0,0,0,3,3,0,4,104,104,104,127,0,127,127,127,1,1,0,127,3,0,0,0,3,0,0,0,3,3,0,4,127,104,104,104,104,104,110,0,0,0,110,0,0,0,110,110,0,111,1,0,0,126,0,0,0,0,0,0,0,0,0,0,0,0,0,0,0,0,0,0,0,0,0,0,0,0,0,0,129,0,129,0,0,0,0,0,0,0,130,130,0,130,130,130,130,129,0,0,0,129,0,129,0,129,0,0,0,129,0,129,0,131,131,131,130,129,0,0,0,129,0,129,0,129,0,0,0,129,0,0,131,131,131,130,129,0,0,0,129,0,129,0,129,0,0,0,129,0,0,131,131,131,129,129,0,129,129,0,129,129,126,126,125,125,122,122,121,121,117,117,116,116,107,107,106,106,105,105,99,99,22,22,10,10,129,129,129,133,133,129,133,133,133,125,129,129,129,134,134,129,134,134,134,122,129,129,129,135,135,129,135,135,135,121,129,129,129,136,136,129,136,136,136,117,129,129,129,129,137,137,129,137,129,137,137,129,137,137,137,116,129,129,129,138,138,129,138,138,138,107,129,129,129,139,139,129,139,139,139,106,129,129,129,140,140,129,140,140,140,105,129,129,129,141,141,129,141,141,141,99,129,129,129,142,142,0,0,0,0,129,0,129,142,142,0,99,99,99,129,0,0,0,0,0,0,129,0,129,0,0,0,129,129,0,131,0,99,99,99,99,1]
noncomputable def q9 : List Nat := [0,0,0,22,22,0,22,22,0,22,22,0,22,0,1,2,2,1,2,0,22,22,22,28,28,28,28,28,23,23,22,8,0,0,0,8,0,0,0,8,0,0,0,0,8,12,0,0,16,16,16,16,0,0,0,0,0,0,0,8,12,13,14,0,0,0,0,0,0,22,22,0,0,0,0,40,40,0,40,40,0,40,40,0,40,40,40,0,40,40,40,41,41,1,41,42,42,42,42,42,41,42,42,0,40,40,40,8,0,0,0,8,0,0,0,8,0,0,0,0,8,12,40,0,8,12,13,14,0,0,0,0,0,40,40,42,42,42,42,41,42,42,44,40,3,0,0,0,3,0,0,0,3,0,0,0,0,3,4,0,3,4,7,0,40,3,0,0,0,3,0,0,0,3,0,0,0,0,3,4,40,40,0,0,0,0,46,46,0,46,46,0,46,46,0,46,46,46,3,0,0,0,3,0,0,0,3,0,0,0,0,3,4,46,46,46,0,0,0,0,47,47,0,47,47,0,47,47,0,47,47,0,0,47,0,17,47,3,0,0,0,3,0,0,0,3,0,0,0,0,3,4,47,47,0,0,0,0,48,48,0,48,48,0,48,48,48,3,0,0,0,3,0,0,0,3,0,0,0,0,3,4,0,3,4,5,6,0,3,48,3,0,0,0,3,0,0,0,3,0,0,0,0,3,4,0,0,3,4,0,0,0,0,0,0,0,48,48,48,3,0,0,0,3,0,0,0,3,3,0,4,53,53,53,1,53,54,54,54,54,54,53,54,54,54,54,54,54,53,54,54,54,54,54,54,53,54,54,56,48,51,0,0,0,51,0,51,0,51,0,0,0,51,0,0,52,52,52,48,51,0,0,0,51,0,51,0,51,0,0,0,51,0,0,52,52,52,48,3,0,0,0,3,0,0,0,3,3,0,4,45,45,45,45,48,45,45,45,45,48,17,0,0,0,17,0,0,0,17,0,0,0,17,0,0,0,17,0,0,0,17,17,0,18,48,48,19,19,20,0,57,57,0,57,57,0,57,57,21,0,0,0,0,58,58,0,58,58,0,58,58,0,58,58,58,39,39,1,39,60,60,60,60,60,39,60,60,0,58,58,58,3,0,0,0,3,0,0,0,3,0,0,0,0,3,4,58,8,0,0,0,8,0,0,0,8,0,0,0,0,8,12,0,8,12,13,14,0,0,0,0,58,0,0,0,0,62,62,0,62,62,0,62,62,0,62,62,62,3,0,0,0,3,0,0,0,3,0,0,0,0,3,4,62,62,62,0,0,0,0,63,63,0,63,63,0,63,63,0,63,63,0,0,63,0,37,63,3,0,0,0,3,0,0,0,3,0,0,0,0,3,4,63,63,0,0,0,0,64,64,0,64,64,0,64,64,64,3,0,0,0,3,0,0,0,3,0,0,0,0,3,4,0,3,4,5,6,0,4,64,3,0,0,0,3,0,0,0,3,0,0,0,0,3,4,0,0,3,4,0,0,0,0,0,0,0,64,64,64,3,0,0,0,3,0,0,0,3,3,0,4,69,69,69,1,69,70,70,70,70,70,69,70,70,70,70,70,70,69,70,70,70,70,70,70,69,70,70,72,64,67,0,0,0,67,0,67,0,67,0,0,0,67,0,0,68,68,68,64,67,0,0,0,67,0,67,0,67,0,0,0,67,0,0,68,68,68,64,3,0,0,0,3,0,0,0,3,3,0,4,45,45,45,45,64,45,45,45,45,64,37,0,0,0,37,0,0,0,37,0,0,0,37,0,0,0,37,0,0,0,37,37,0,38,64,64,36,36,35,0,73,73,0,73,73,0,0,23,74,74,74,74,25,0,0,0,64,64,64,3,0,0,0,3,0,0,0,3,3,0,4,45,45,45,45,45,45,45,45,45,64,3,0,0,0,3,0,0,0,3,3,0,4,0,3,0,0,0,3,0,3,0,3,0,0,0,3,0,0,4,4,4,64,0,58,58,0,0,58,74,74,74,1,0,0,0,58,74,74,74,74,74,0,0,0,0,75,75,0,0,75,0,0,0,75,0,0,0,0,76,76,0,0,76,0,0,0,0,76,0,0,0,75,0,0,0,0,77,77,0,0,77,0,79,79,79,1,79,80,80,80,80,80,79,80,80,80,80,80,80,79,80,80,80,80,80,80,79,80,80,82,0,77,77,0,77,77,77,1,1,0,77,78,78,78,78,77,78,78,78,78,77,1,1,0,77,78,78,78,78,78,78,78,78,0,0,77,78,78,78,78,78,78,78,1,78,83,78,78,83,83,83,83,78,83,83,84,84,84,83,83,83,83,78,83,83,86,84,0,58,58,58,58,59,59,59,59,58,59,59,59,59,60,60,60,60,39,60,60,0,58,58,58,3,0,0,0,3,0,0,0,3,0,0,0,0,3,4,58,8,0,0,0,8,0,0,0,8,0,0,0,0,8,12,0,8,12,13,14,0,0,0,0,58,0,0,0,0,88,88,0,88,88,0,88,88,0,88,88,88,3,0,0,0,3,0,0,0,3,0,0,0,0,3,4,88,88,88,0,0,0,0,89,89,0,89,89,0,89,89,0,89,89,0,0,89,0,37,89,3,0,0,0,3,0,0,0,3,0,0,0,0,3,4,89,89,0,0,0,0,90,90,0,90,90,0,90,90,90,3,0,0,0,3,0,0,0,3,0,0,0,0,3,4,0,3,4,5,6,0,5,90,3,0,0,0,3,0,0,0,3,0,0,0,0,3,4,0,0,3,4,0,0,0,0,0,0,0,90,90,90,3,0,0,0,3,0,0,0,3,3,0,4,95,95,95,1,95,96,96,96,96,96,95,96,96,96,96,96,96,95,96,96,96,96,96,96,95,96,96,98,90,93,0,0,0,93,0,93,0,93,0,0,0,93,0,0,94,94,94,90,93,0,0,0,93,0,93,0,93,0,0,0,93,0,0,94,94,94,90,3,0,0,0,3,0,0,0,3,3,0,4,45,45,45,45,90,45,45,45,45,90,37,0,0,0,37,0,0,0,37,0,0,0,37,0,0,0,37,0,0,0,37,37,0,38,90,90,36,36,35,0,99,99,0,99,99,0,0,23,100,100,100,100,25,0,0,0,90,90,90,3,0,0,0,3,0,0,0,3,3,0,4,45,45,45,45,45,45,45,45,45,90,3,0,0,0,3,0,0,0,3,3,0,4,0,3,0,0,0,3,0,3,0,3,0,0,0,3,0,0,4,4,4,90,0,58,58,0,0,58,100,100,100,1,0,0,0,58,100,100,100,100,100,0,0,0,0,101,101,0,0,101,0,0,0,101,0,0,0,0,102,102,0,0,102,0,0,0,0,102,0,0,0,101,0,0,0,0,103,103,0,0,103,0,105,105,105,1,105,106,106,106,106,106,105,106,106,106,106,106,106,105,106,106,106,106,106,106,105,106,106,108,0,103,103,0,103,103,103,1,1,0,103,104,104,104,104,103,104,104,104,104,103,1,1,0,103,104,104,104,104,104,104,104,104,0,0,103,104,104,104,104,104,104,104,1,104,109,104,104,109,109,109,109,104,109,109,110,110,110,109,109,109,109,104,109,109,112,110,0,58,58,58,58,59,59,59,59,58,59,59,59,59,60,60,60,60,39,60,60,114,58,3,0,0,0,3,0,0,0,3,3,0,4,11,11,11,11,58,59,59,59,59,59,59,11,11,11,11,0,48,48,48,3,0,0,0,3,0,0,0,3,3,0,4,45,45,45,45,45,45,45,45,45,48,3,0,0,0,3,0,0,0,3,3,0,4,0,3,0,0,0,3,0,3,0,3,0,0,0,3,0,0,4,4,4,48,0,22,22,22,1,1,0,22,115,116,115,1,115,115,116,0,0,22,3,0,0,0,3,0,0,0,3,3,0,4,22,119,119,119,119,119,11,118,11,1,11,11,118,0,0,22,8,0,0,0,8,0,0,0,8,0,0,0,0,8,12,0,8,12,13,14,0,0,0,0,0,0,22,22,0,0,0,0,121,121,0,121,121,0,121,121,0,121,121,121,0,121,121,121,122,122,1,122,123,123,123,123,123,122,123,123,0,121,121,121,8,0,0,0,8,0,0,0,8,0,0,0,0,8,12,121,0,8,12,13,14,0,0,0,0,0,121,121,123,123,123,123,122,123,123,125,121,3,0,0,0,3,0,0,0,3,0,0,0,0,3,4,0,3,4,45,0,121,3,0,0,0,3,0,0,0,3,0,0,0,0,3,4,121,121,0,0,0,0,127,127,0,127,127,0,127,127,0,127,127,127,3,0,0,0,3,0,0,0,3,0,0,0,0,3,4,127,127,127,0,0,0,0,128,128,0,128,128,0,128,128,0,128,128,0,0,128,0,17,128,3,0,0,0,3,0,0,0,3,0,0,0,0,3,4,128,128,0,0,0,0,129,129,0,129,129,0,129,129,129,3,0,0,0,3,0,0,0,3,0,0,0,0,3,4,0,3,4,5,6,0,6,129,3,0,0,0,3,0,0,0,3,0,0,0,0,3,4,0,0,3,4,0,0,0,0,0,0,0,129,129,129,3,0,0,0,3,0,0,0,3,3,0,4,134,134,134,1,134,135,135,135,135,135,134,135,135,135,135,135,135,134,135,135,135,135,135,135,134,135,135,137,129,132,0,0,0,132,0,132,0,132,0,0,0,132,0,0,133,133,133,129,132,0,0,0,132,0,132,0,132,0,0,0,132,0,0,133,133,133,129,3,0,0,0,3,0,0,0,3,3,0,4,126,126,126,126,129,126,126,126,126,129,17,0,0,0,17,0,0,0,17,0,0,0,17,0,0,0,17,0,0,0,17,17,0,18,129,129,19,19,20,0,138,138,0,138,138,0,138,138,21,0,0,0,0,139,139,0,139,139,0,139,139,0,139,139,139,120,120,1,120,141,141,141,141,141,120,141,141,0,139,139,139,3,0,0,0,3,0,0,0,3,0,0,0,0,3,4,139,8,0,0,0,8,0,0,0,8,0,0,0,0,8,12,0,8,12,13,14,0,0,0,0,139,0,0,0,0,143,143,0,143,143,0,143,143,0,143,143,143,3,0,0,0,3,0,0,0,3,0,0,0,0,3,4,143,143,143,0,0,0,0,144,144,0,144,144,0,144,144,0,144,144,0,0,144,0,0,0,144,3,0,0,0,3,0,0,0,3,0,0,0,0,3,4,144,0,0,0,0,145,145,0,145,145,0,145,145,0,0,145,0,0,0,0,0,145,0,0,0,144,144,0,144,0,0,0,0,146,146,0,146,0,0,1,144,3,0,0,0,3,0,0,0,3,0,0,0,0,3,4,144,144,0,0,0,0,147,147,0,147,147,0,147,147,0,147,147,0,147,0,0,0,147,147,147,1,147,3,0,0,0,3,0,0,0,3,0,0,0,0,3,4,147,147,0,0,0,0,148,148,0,148,148,0,148,3,0,0,0,3,0,0,0,3,0,0,0,0,3,4,0,0,0,0,149,149,0,149,149,0,0,149,3,0,0,0,3,0,0,0,3,3,0,4,126,126,126,149,0,149,149,149,1,1,0,149,3,0,0,0,3,0,0,0,3,3,0,4,149,126,126,126,126,126,132,0,0,0,132,0,0,0,132,132,0,133,1,0,0,148,0,0,0,0,0,0,0,0,0,0,0,0,0,0,0,0,0,0,0,0,0,0,0,0,0,0,151,0,151,0,0,0,0,0,0,0,152,152,0,152,152,152,152,151,0,0,0,151,0,151,0,151,0,0,0,151,0,151,0,153,153,153,152,151,0,0,0,151,0,151,0,151,0,0,0,151,0,0,153,153,153,152,151,0,0,0,151,0,151,0,151,0,0,0,151,0,0,153,153,153,151,151,0,151,151,0,151,151,148,148,147,147,144,144,143,143,139,139,138,138,129,129,128,128,127,127,121,121,22,22,10,10,151,151,151,155,155,151,155,155,155,147,151,151,151,156,156,151,156,156,156,144,151,151,151,157,157,151,157,157,157,143,151,151,151,158,158,151,158,158,158,139,151,151,151,151,159,159,151,159,151,159,159,151,159,159,159,138,151,151,151,160,160,151,160,160,160,129,151,151,151,161,161,151,161,161,161,128,151,151,151,162,162,151,162,162,162,127,151,151,151,163,163,151,163,163,163,121,151,151,151,164,164,0,0,0,0,151,0,151,164,164,0,121,121,121,151,0,0,0,0,0,0,151,0,151,0,0,0,151,151,0,153,0,121,121,121,121,1]
noncomputable def q10 : List Nat := [2,2,2,0,1,0,1,1,0,4,0,5,6,0,2,0,3,3,3,3,3,2,2,2,0,4,0,1,1,0,4,0,5,6,0,5,0,6,3,3,3,3,2,2,2,0,7,0,1,1,0,4,0,5,6,0,8,0,9,3,3,3,3,2,2,2,1,10,8]
noncomputable def q11 : List Nat := [0,0,0,19,19,0,19,19,0,19,0,0,0,0,19,19,0,0,19,1,1,1,1,24,25,25,25,25,25,25,1,25,25,25,25,25,24,24,24,24,1,24,24,25,25,25,25,25,25,25,25,25,25,25,25,25,25,25,25,25,26,26,26,1,26,27,27,27,27,27,26,27,27,27,27,27,27,26,27,27,27,27,27,27,26,27,27,29,0,19,19,0,19,19,19,20,0,0,0,20,0,0,0,20,0,0,0,0,20,21,19,2,2,2,2,2,0,19,19,19,2,2,2,2,2,19,2,2,2,2,2,0,0,0,0,20,21,22,23,0,0,0,0,0,25,25,25,24,24,24,24,1,24,24,25,25,25,25,25,25,25,25,25,25,25,25,25,25,25,25,25,32,32,32,1,32,33,33,33,33,33,32,33,33,33,33,33,33,32,33,33,33,33,33,33,32,33,33,35,0,19,19,0,19,19,19,20,0,0,0,20,0,0,0,20,0,0,0,0,20,21,19,3,3,3,3,3,0,19,19,19,3,3,3,3,3,19,3,3,3,3,3,0,0,0,0,20,21,22,23,0,0,0,0,0,25,25,25,24,24,24,24,1,24,24,25,25,25,25,25,25,25,25,25,25,25,25,25,25,25,25,25,38,38,38,1,38,39,39,39,39,39,38,39,39,39,39,39,39,38,39,39,39,39,39,39,38,39,39,41,0,19,19,0,19,19,19,20,0,0,0,20,0,0,0,20,0,0,0,0,20,21,19,4,4,4,4,4,0,19,19,19,4,4,4,4,4,19,4,4,4,4,4,0,0,0,0,20,21,22,23,0,0,0,0,0,25,25,25,24,24,24,24,1,24,24,25,25,25,25,25,25,25,25,25,25,25,25,25,25,25,25,25,44,44,44,1,44,45,45,45,45,45,44,45,45,45,45,45,45,44,45,45,45,45,45,45,44,45,45,47,0,19,19,0,19,19,19,20,0,0,0,20,0,0,0,20,0,0,0,0,20,21,19,5,5,5,5,5,0,19,19,19,5,5,5,5,5,19,5,5,5,5,5,0,0,0,0,20,21,22,23,0,0,0,0,0,25,25,25,24,24,24,24,1,24,24,25,25,25,25,25,25,25,25,25,25,25,25,25,25,25,25,25,50,50,50,1,50,51,51,51,51,51,50,51,51,51,51,51,51,50,51,51,51,51,51,51,50,51,51,53,0,19,19,0,19,19,19,20,0,0,0,20,0,0,0,20,0,0,0,0,20,21,19,6,6,6,6,6,0,19,19,19,6,6,6,6,6,19,6,6,6,6,6,0,0,0,0,20,21,22,23,0,0,0,0,0,25,25,25,24,24,24,24,1,24,24,25,25,25,25,25,25,25,25,25,25,25,25,25,25,25,25,25,56,56,56,1,56,57,57,57,57,57,56,57,57,57,57,57,57,56,57,57,57,57,57,57,56,57,57,59,0,19,19,0,19,19,19,20,0,0,0,20,0,0,0,20,0,0,0,0,20,21,19,7,7,7,7,7,0,19,19,19,7,7,7,7,7,19,7,7,7,7,7,0,0,0,0,20,21,22,23,0,0,0,0,0,25,25,25,24,24,24,24,1,24,24,25,25,25,25,25,25,25,25,25,25,25,25,25,25,25,25,25,62,62,62,1,62,63,63,63,63,63,62,63,63,63,63,63,63,62,63,63,63,63,63,63,62,63,63,65,0,19,19,0,19,19,19,20,0,0,0,20,0,0,0,20,0,0,0,0,20,21,19,8,8,8,8,8,0,19,19,19,8,8,8,8,8,19,8,8,8,8,8,0,0,0,0,20,21,22,23,0,0,0,0,0,25,25,25,24,24,24,24,1,24,24,25,25,25,25,25,25,25,25,25,25,25,25,25,25,25,25,25,68,68,68,1,68,69,69,69,69,69,68,69,69,69,69,69,69,68,69,69,69,69,69,69,68,69,69,71,0,19,19,0,19,19,19,20,0,0,0,20,0,0,0,20,0,0,0,0,20,21,19,9,9,9,9,9,0,19,19,19,9,9,9,9,9,19,9,9,9,9,9,0,0,0,0,20,21,22,23,0,0,0,0,0,25,25,25,24,24,24,24,1,24,24,25,25,25,25,25,25,25,25,25,25,25,25,25,25,25,25,25,74,74,74,1,74,75,75,75,75,75,74,75,75,75,75,75,75,74,75,75,75,75,75,75,74,75,75,77,0,19,19,0,19,19,19,20,0,0,0,20,0,0,0,20,0,0,0,0,20,21,19,10,10,10,10,10,0,19,19,19,10,10,10,10,10,19,10,10,10,10,10,0,0,0,0,20,21,22,23,0,0,0,0,0,25,25,25,24,24,24,24,1,24,24,25,25,25,25,25,25,25,25,25,25,25,25,25,25,25,25,25,80,80,80,1,80,81,81,81,81,81,80,81,81,81,81,81,81,80,81,81,81,81,81,81,80,81,81,83,0,19,19,0,19,19,19,20,0,0,0,20,0,0,0,20,0,0,0,0,20,21,19,11,11,11,11,11,0,19,19,19,11,11,11,11,11,19,11,11,11,11,11,0,0,0,0,20,21,22,23,0,0,0,0,0,25,25,25,24,24,24,24,1,24,24,25,25,25,25,25,25,25,25,25,25,25,25,25,25,25,25,25,86,86,86,1,86,87,87,87,87,87,86,87,87,87,87,87,87,86,87,87,87,87,87,87,86,87,87,89,0,19,19,0,19,19,19,20,0,0,0,20,0,0,0,20,0,0,0,0,20,21,19,12,12,12,12,12,0,19,19,19,12,12,12,12,12,19,12,12,12,12,12,0,0,0,0,20,21,22,23,0,0,0,0,0,25,25,25,24,24,24,24,1,24,24,25,25,25,25,25,25,25,25,25,25,25,25,25,25,25,25,25,92,92,92,1,92,93,93,93,93,93,92,93,93,93,93,93,93,92,93,93,93,93,93,93,92,93,93,95,0,19,19,0,19,19,19,20,0,0,0,20,0,0,0,20,0,0,0,0,20,21,19,13,13,13,13,13,0,19,19,19,13,13,13,13,13,19,13,13,13,13,13,0,0,0,0,20,21,22,23,0,0,0,0,0,25,25,25,24,24,24,24,1,24,24,25,25,25,25,25,25,25,25,25,25,25,25,25,25,25,25,25,98,98,98,1,98,99,99,99,99,99,98,99,99,99,99,99,99,98,99,99,99,99,99,99,98,99,99,101,0,19,19,0,19,19,19,20,0,0,0,20,0,0,0,20,0,0,0,0,20,21,19,14,14,14,14,14,0,19,19,19,14,14,14,14,14,19,14,14,14,14,14,0,0,0,0,20,21,22,23,0,0,0,0,0,25,25,25,24,24,24,24,1,24,24,25,25,25,25,25,25,25,25,25,25,25,25,25,25,25,25,25,104,104,104,1,104,105,105,105,105,105,104,105,105,105,105,105,105,104,105,105,105,105,105,105,104,105,105,107,0,19,19,0,19,19,19,20,0,0,0,20,0,0,0,20,0,0,0,0,20,21,19,15,15,15,15,15,0,19,19,19,15,15,15,15,15,19,15,15,15,15,15,0,0,0,0,20,21,22,23,0,0,0,0,0,25,25,25,24,24,24,24,1,24,24,25,25,25,25,25,25,25,25,25,25,25,25,25,25,25,25,25,110,110,110,1,110,111,111,111,111,111,110,111,111,111,111,111,111,110,111,111,111,111,111,111,110,111,111,113,0,19,19,0,19,19,19,20,0,0,0,20,0,0,0,20,0,0,0,0,20,21,19,16,16,16,16,16,0,19,19,19,16,16,16,16,16,19,16,16,16,16,16,0,0,0,0,20,21,22,23,0,0,0,0,0,25,25,25,24,24,24,24,1,24,24,25,25,25,25,25,25,25,25,25,25,25,25,25,25,25,25,25,116,116,116,1,116,117,117,117,117,117,116,117,117,117,117,117,117,116,117,117,117,117,117,117,116,117,117,119,0,19,19,0,19,19,19,20,0,0,0,20,0,0,0,20,0,0,0,0,20,21,19,17,17,17,17,17,0,19,19,19,17,17,17,17,17,19,17,17,17,17,17,0,0,0,0,20,21,22,23,0,0,0,0,0,25,25,25,24,24,24,24,1,24,24,25,25,25,25,25,25,25,25,25,25,25,25,25,25,25,25,25,122,122,122,1,122,123,123,123,123,123,122,123,123,123,123,123,123,122,123,123,123,123,123,123,122,123,123,125,0,19,19,0,19,19,19,20,0,0,0,20,0,0,0,20,0,0,0,0,20,21,19,18,18,18,18,18,0,19,19,19,18,18,18,18,18,19,18,18,18,18,18,0,0,0,0,20,21,22,23,0,0,0,0,0,25,25,25,24,24,24,24,1,24,24,129,19]
noncomputable def q12 : List Nat := [0,0,0,8,8,0,8,8,0,8,0,0,0,0,8,8,0,0,8,1,1,1,1,13,14,14,14,14,14,14,1,14,14,14,14,14,13,13,13,13,1,13,13,14,14,14,14,14,14,14,14,14,14,14,14,14,14,14,14,14,15,15,15,1,15,16,16,16,16,16,15,16,16,16,16,16,16,15,16,16,16,16,16,16,15,16,16,18,0,8,8,0,8,8,8,9,0,0,0,9,0,0,0,9,0,0,0,0,9,10,8,2,2,2,2,2,0,8,8,8,2,2,2,2,2,8,2,2,2,2,2,0,0,0,0,9,10,11,12,0,0,0,0,0,14,14,14,13,13,13,13,1,13,13,14,14,14,14,14,14,14,14,14,14,14,14,14,14,14,14,14,21,21,21,1,21,22,22,22,22,22,21,22,22,22,22,22,22,21,22,22,22,22,22,22,21,22,22,24,0,8,8,0,8,8,8,9,0,0,0,9,0,0,0,9,0,0,0,0,9,10,8,3,3,3,3,3,0,8,8,8,3,3,3,3,3,8,3,3,3,3,3,0,0,0,0,9,10,11,12,0,0,0,0,0,14,14,14,13,13,13,13,1,13,13,14,14,14,14,14,14,14,14,14,14,14,14,14,14,14,14,14,27,27,27,1,27,28,28,28,28,28,27,28,28,28,28,28,28,27,28,28,28,28,28,28,27,28,28,30,0,8,8,0,8,8,8,9,0,0,0,9,0,0,0,9,0,0,0,0,9,10,8,4,4,4,4,4,0,8,8,8,4,4,4,4,4,8,4,4,4,4,4,0,0,0,0,9,10,11,12,0,0,0,0,0,14,14,14,13,13,13,13,1,13,13,14,14,14,14,14,14,14,14,14,14,14,14,14,14,14,14,14,33,33,33,1,33,34,34,34,34,34,33,34,34,34,34,34,34,33,34,34,34,34,34,34,33,34,34,36,0,8,8,0,8,8,8,9,0,0,0,9,0,0,0,9,0,0,0,0,9,10,8,5,5,5,5,5,0,8,8,8,5,5,5,5,5,8,5,5,5,5,5,0,0,0,0,9,10,11,12,0,0,0,0,0,14,14,14,13,13,13,13,1,13,13,14,14,14,14,14,14,14,14,14,14,14,14,14,14,14,14,14,39,39,39,1,39,40,40,40,40,40,39,40,40,40,40,40,40,39,40,40,40,40,40,40,39,40,40,42,0,8,8,0,8,8,8,9,0,0,0,9,0,0,0,9,0,0,0,0,9,10,8,6,6,6,6,6,0,8,8,8,6,6,6,6,6,8,6,6,6,6,6,0,0,0,0,9,10,11,12,0,0,0,0,0,14,14,14,13,13,13,13,1,13,13,14,14,14,14,14,14,14,14,14,14,14,14,14,14,14,14,14,45,45,45,1,45,46,46,46,46,46,45,46,46,46,46,46,46,45,46,46,46,46,46,46,45,46,46,48,0,8,8,0,8,8,8,9,0,0,0,9,0,0,0,9,0,0,0,0,9,10,8,7,7,7,7,7,0,8,8,8,7,7,7,7,7,8,7,7,7,7,7,0,0,0,0,9,10,11,12,0,0,0,0,0,14,14,14,13,13,13,13,1,13,13,52,8]
noncomputable def q13 : List Nat := [0,0,0,10,10,0,10,10,0,10,0,0,0,0,10,10,0,0,10,1,1,1,1,15,16,16,16,16,16,16,1,16,16,16,16,16,15,15,15,15,1,15,15,16,16,16,16,16,16,16,16,16,16,16,16,16,16,16,16,16,17,17,17,1,17,18,18,18,18,18,17,18,18,18,18,18,18,17,18,18,18,18,18,18,17,18,18,20,0,10,10,0,10,10,10,11,0,0,0,11,0,0,0,11,0,0,0,0,11,12,10,2,2,2,2,2,0,10,10,10,2,2,2,2,2,10,2,2,2,2,2,0,0,0,0,11,12,13,14,0,0,0,0,0,16,16,16,15,15,15,15,1,15,15,16,16,16,16,16,16,16,16,16,16,16,16,16,16,16,16,16,23,23,23,1,23,24,24,24,24,24,23,24,24,24,24,24,24,23,24,24,24,24,24,24,23,24,24,26,0,10,10,0,10,10,10,11,0,0,0,11,0,0,0,11,0,0,0,0,11,12,10,3,3,3,3,3,0,10,10,10,3,3,3,3,3,10,3,3,3,3,3,0,0,0,0,11,12,13,14,0,0,0,0,0,16,16,16,15,15,15,15,1,15,15,16,16,16,16,16,16,16,16,16,16,16,16,16,16,16,16,16,29,29,29,1,29,30,30,30,30,30,29,30,30,30,30,30,30,29,30,30,30,30,30,30,29,30,30,32,0,10,10,0,10,10,10,11,0,0,0,11,0,0,0,11,0,0,0,0,11,12,10,4,4,4,4,4,0,10,10,10,4,4,4,4,4,10,4,4,4,4,4,0,0,0,0,11,12,13,14,0,0,0,0,0,16,16,16,15,15,15,15,1,15,15,16,16,16,16,16,16,16,16,16,16,16,16,16,16,16,16,16,35,35,35,1,35,36,36,36,36,36,35,36,36,36,36,36,36,35,36,36,36,36,36,36,35,36,36,38,0,10,10,0,10,10,10,11,0,0,0,11,0,0,0,11,0,0,0,0,11,12,10,5,5,5,5,5,0,10,10,10,5,5,5,5,5,10,5,5,5,5,5,0,0,0,0,11,12,13,14,0,0,0,0,0,16,16,16,15,15,15,15,1,15,15,16,16,16,16,16,16,16,16,16,16,16,16,16,16,16,16,16,41,41,41,1,41,42,42,42,42,42,41,42,42,42,42,42,42,41,42,42,42,42,42,42,41,42,42,44,0,10,10,0,10,10,10,11,0,0,0,11,0,0,0,11,0,0,0,0,11,12,10,6,6,6,6,6,0,10,10,10,6,6,6,6,6,10,6,6,6,6,6,0,0,0,0,11,12,13,14,0,0,0,0,0,16,16,16,15,15,15,15,1,15,15,16,16,16,16,16,16,16,16,16,16,16,16,16,16,16,16,16,47,47,47,1,47,48,48,48,48,48,47,48,48,48,48,48,48,47,48,48,48,48,48,48,47,48,48,50,0,10,10,0,10,10,10,11,0,0,0,11,0,0,0,11,0,0,0,0,11,12,10,7,7,7,7,7,0,10,10,10,7,7,7,7,7,10,7,7,7,7,7,0,0,0,0,11,12,13,14,0,0,0,0,0,16,16,16,15,15,15,15,1,15,15,16,16,16,16,16,16,16,16,16,16,16,16,16,16,16,16,16,53,53,53,1,53,54,54,54,54,54,53,54,54,54,54,54,54,53,54,54,54,54,54,54,53,54,54,56,0,10,10,0,10,10,10,11,0,0,0,11,0,0,0,11,0,0,0,0,11,12,10,8,8,8,8,8,0,10,10,10,8,8,8,8,8,10,8,8,8,8,8,0,0,0,0,11,12,13,14,0,0,0,0,0,16,16,16,15,15,15,15,1,15,15,16,16,16,16,16,16,16,16,16,16,16,16,16,16,16,16,16,59,59,59,1,59,60,60,60,60,60,59,60,60,60,60,60,60,59,60,60,60,60,60,60,59,60,60,62,0,10,10,0,10,10,10,11,0,0,0,11,0,0,0,11,0,0,0,0,11,12,10,9,9,9,9,9,0,10,10,10,9,9,9,9,9,10,9,9,9,9,9,0,0,0,0,11,12,13,14,0,0,0,0,0,16,16,16,15,15,15,15,1,15,15,66,10]
noncomputable def q14 : List Nat := [0,0,0,5,5,0,5,5,0,5,0,0,0,0,5,5,0,0,5,1,1,1,1,10,11,11,11,11,11,11,1,11,11,11,11,11,10,10,10,10,1,10,10,11,11,11,11,11,11,11,11,11,11,11,11,11,11,11,11,11,12,12,12,1,12,13,13,13,13,13,12,13,13,13,13,13,13,12,13,13,13,13,13,13,12,13,13,15,0,5,5,0,5,5,5,6,0,0,0,6,0,0,0,6,0,0,0,0,6,7,5,2,2,2,2,2,0,5,5,5,2,2,2,2,2,5,2,2,2,2,2,0,0,0,0,6,7,8,9,0,0,0,0,0,11,11,11,10,10,10,10,1,10,10,11,11,11,11,11,11,11,11,11,11,11,11,11,11,11,11,11,18,18,18,1,18,19,19,19,19,19,18,19,19,19,19,19,19,18,19,19,19,19,19,19,18,19,19,21,0,5,5,0,5,5,5,6,0,0,0,6,0,0,0,6,0,0,0,0,6,7,5,3,3,3,3,3,0,5,5,5,3,3,3,3,3,5,3,3,3,3,3,0,0,0,0,6,7,8,9,0,0,0,0,0,11,11,11,10,10,10,10,1,10,10,11,11,11,11,11,11,11,11,11,11,11,11,11,11,11,11,11,24,24,24,1,24,25,25,25,25,25,24,25,25,25,25,25,25,24,25,25,25,25,25,25,24,25,25,27,0,5,5,0,5,5,5,6,0,0,0,6,0,0,0,6,0,0,0,0,6,7,5,4,4,4,4,4,0,5,5,5,4,4,4,4,4,5,4,4,4,4,4,0,0,0,0,6,7,8,9,0,0,0,0,0,11,11,11,10,10,10,10,1,10,10,31,5]
noncomputable def q15 : List Nat := [0,0,0,4,4,0,0,4,1,1,1,1,1,6,0,2,8,8,8,8,7,0,3,5,5,0,0,0,5,0,9,8,0,4,10,10,10,10,10,10,1,10,10,0,5,11,11,13,11,12,5,9,8,0,7,23,0,4,4,13,0,0,5,0,9,8,0,8,0,5,0,9,8,0,9,0,5,0,9,8,0,10,0,0,0,0,0,0,0,0,0,0,0,0,0,0,0,0,0,0,0,0,0,0,0,0,0,0,0,0,0,15,0,15,0,0,0,0,0,0,0,0,16,16,0,16,16,0,16,16,0,16,16,0,16,16,0,16,16,0,16,16,0,16,16,0,16,16,0,16,16,0,16,16,16,16,15,0,0,0,15,0,15,0,15,0,0,0,15,0,0,14,14,14,16,16,15,0,0,0,15,0,15,0,15,0,0,0,15,0,0,14,14,14,16,16,15,0,0,0,15,0,15,0,15,0,0,0,15,0,0,14,14,14,16,16,15,0,0,0,15,0,15,0,15,0,0,0,15,0,0,14,14,14,16,16,15,0,0,0,15,0,15,0,15,0,0,0,15,0,0,14,14,14,16,16,15,0,0,0,15,0,15,0,15,0,0,0,15,0,0,14,14,14,16,16,15,0,0,0,15,0,15,0,15,0,0,0,15,0,0,14,14,14,16,16,15,0,0,0,15,0,15,0,15,0,0,0,15,0,0,14,14,14,16,16,15,0,0,0,15,0,15,0,15,0,0,0,15,0,0,14,14,14,16,16,15,0,0,0,15,0,15,0,15,0,0,0,15,0,0,14,14,14,0,4,4,0,4,0,0,0,0,0,0,0,0,0,0,0,0,0,0,0,0,0,0,0,0,0,0,0,0,0,0,0,0,0,18,0,18,0,0,0,0,0,0,0,19,19,0,19,19,0,19,19,19,19,18,0,0,0,18,0,18,0,18,0,0,0,18,0,0,17,17,17,0,19,0,0,0,0,20,20,0,20,20,0,20,0,0,0,0,21,21,0,21,21,21,0,0,21,1,0,0,21,21,1,0,0,21,0,21,21,21,0,0,21,1,0,0,21,21,1,0,0,21,0,21,21,21,0,0,21,1,0,0,21,21,1,0,0,21,0,21,21,21,0,0,21,1,0,0,21,21,1,0,0,21,0,21,21,21,0,0,21,1,1,0,21,21,22,22,22,22,22,0,20,20,20,23,23,23,23,23,1,20,20,24,24,24,24,24,19,18,0,0,0,18,0,18,0,18,0,0,0,18,0,0,17,17,17,19,18,0,0,0,18,0,18,0,18,0,0,0,18,0,0,17,17,17,19,18,0,0,0,18,0,18,0,18,0,0,0,18,0,0,17,17,17,19,18,0,0,0,18,0,18,0,18,0,0,0,18,0,0,17,17,17,19,18,0,0,0,18,0,18,0,18,0,0,0,18,0,0,17,17,17,19,18,0,0,0,18,0,18,0,18,0,0,0,18,0,0,17,17,17,0,0,0,0,19,18,0,0,0,18,0,18,0,18,0,0,0,18,0,0,17,17,17,0,4,4,0,5,4,0,4,0,0,0,0,31,31,0,2,2,2,2,0,0,0,0,31,31,0,31,0,0,0,0,0,0,0,0,0,0,0,0,0,0,0,0,0,18,58,41,42,43,44,45,46,47,48,49,50,51,52,53,54,55,56,57,0,32,32,32,59,0,0,0,59,0,0,0,59,0,0,0,0,59,60,0,0,0,0,0,0,0,0,7,103,97,98,99,100,101,102,1,0,59,60,61,62,0,0,0,0,0,0,0,0,0,0,0,0,0,0,0,9,128,120,121,122,123,124,125,126,127,2,0,31,31,32,59,0,0,0,59,0,0,0,59,0,0,0,0,59,60,31,0,59,60,61,62,0,0,0,0,0,31,18,0,0,0,18,0,0,0,18,18,0,17,27,0,0,0,27,0,0,0,27,0,0,0,0,27,28,31,0,27,28,29,30,0,0,0,0,0,32,59,0,0,0,59,0,0,0,59,0,0,0,0,59,60,0,0,0,0,0,4,152,149,150,151,3,0,59,60,61,62,0,0,0,0,0,32,59,0,0,0,59,0,0,0,59,0,0,0,0,59,60,32,0,59,60,61,62,0,0,0,0,0,32,59,0,0,0,59,0,0,0,59,0,0,0,0,59,60,0,59,60,61,62,0,0,0,0,0,32,4,0,20,9,8,12,18,17,15,14,26,59,5,4,60,61,62,104,105,106,107,108,114,0,11,12,13,14,5000,1,18,0,0,4,15,0,0,0,15,0,0,0,15,15,0,14,4,15,0,0,0,15,0,0,0,15,15,0,14,0,0,0,0,0,0,0,0,0,0,0,0,0,0,0,0,0,0,0,0,0,0,0,0,0,0,0,0,0,164,0,164,0,0,0,0,0,0,0,0,165,165,0,165,165,0,165,165,0,165,165,0,165,165,0,165,165,0,165,165,0,165,165,0,165,165,0,165,165,0,165,165,165,165,164,0,0,0,164,0,164,0,164,0,0,0,164,0,0,163,163,163,165,165,164,0,0,0,164,0,164,0,164,0,0,0,164,0,0,163,163,163,165,165,164,0,0,0,164,0,164,0,164,0,0,0,164,0,0,163,163,163,165,165,164,0,0,0,164,0,164,0,164,0,0,0,164,0,0,163,163,163,165,165,164,0,0,0,164,0,164,0,164,0,0,0,164,0,0,163,163,163,165,165,164,0,0,0,164,0,164,0,164,0,0,0,164,0,0,163,163,163,165,165,164,0,0,0,164,0,164,0,164,0,0,0,164,0,0,163,163,163,165,165,164,0,0,0,164,0,164,0,164,0,0,0,164,0,0,163,163,163,165,165,164,0,0,0,164,0,164,0,164,0,0,0,164,0,0,163,163,163,165,165,164,0,0,0,164,0,164,0,164,0,0,0,164,0,0,163,163,163,0,0,0,0,0,0,0,0,0,0,0,0,0,0,0,0,0,0,0,0,0,0,0,0,0,0,0,0,0,167,0,167,0,0,0,0,0,0,0,168,168,0,168,168,0,168,168,168,168,167,0,0,0,167,0,167,0,167,0,0,0,167,0,0,166,166,166,0,168,0,0,0,0,169,169,0,169,169,0,169,0,0,0,0,170,170,0,170,170,170,0,0,170,1,0,0,170,170,1,0,0,170,0,170,170,170,0,0,170,1,0,0,170,170,1,0,0,170,0,170,170,170,0,0,170,1,0,0,170,170,1,0,0,170,0,170,170,170,0,0,170,1,0,0,170,170,1,0,0,170,0,170,170,170,0,0,170,1,1,0,170,170,171,171,171,171,171,0,169,169,169,172,172,172,172,172,1,169,169,173,173,173,173,173,168,167,0,0,0,167,0,167,0,167,0,0,0,167,0,0,166,166,166,168,167,0,0,0,167,0,167,0,167,0,0,0,167,0,0,166,166,166,168,167,0,0,0,167,0,167,0,167,0,0,0,167,0,0,166,166,166,168,167,0,0,0,167,0,167,0,167,0,0,0,167,0,0,166,166,166,168,167,0,0,0,167,0,167,0,167,0,0,0,167,0,0,166,166,166,168,167,0,0,0,167,0,167,0,167,0,0,0,167,0,0,166,166,166,0,0,0,0,168,167,0,0,0,167,0,167,0,167,0,0,0,167,0,0,166,166,166,0,4,4,0,4,0,0,0,0,180,180,0,2,0,0,0,0,180,180,0,180,0,0,0,0,0,0,0,0,0,0,0,0,0,0,0,0,0,18,201,184,185,186,187,188,189,190,191,192,193,194,195,196,197,198,199,200,0,181,181,181,202,0,0,0,202,0,0,0,202,0,0,0,0,202,203,0,0,0,0,0,0,0,0,7,246,240,241,242,243,244,245,1,0,202,203,204,205,0,0,0,0,0,0,0,0,0,0,0,0,0,0,0,9,271,263,264,265,266,267,268,269,270,2,0,180,180,181,202,0,0,0,202,0,0,0,202,0,0,0,0,202,203,180,0,202,203,204,205,0,0,0,0,0,180,167,0,0,0,167,0,0,0,167,167,0,166,176,0,0,0,176,0,0,0,176,0,0,0,0,176,177,180,0,176,177,178,179,0,0,0,0,0,181,202,0,0,0,202,0,0,0,202,0,0,0,0,202,203,0,0,0,0,0,4,295,292,293,294,3,0,202,203,204,205,0,0,0,0,0,181,202,0,0,0,202,0,0,0,202,0,0,0,0,202,203,181,0,202,203,204,205,0,0,0,0,0,181,202,0,0,0,202,0,0,0,202,0,0,0,0,202,203,0,202,203,204,205,0,0,0,0,0,181,0,4,4,0,5,4,4,4,0,20,9,8,12,167,166,164,163,175,202,5,4,203,204,205,247,248,249,250,253,259,0,11,15,16,17,5000,1,18,0,5,4,4,0,21,9,8,167,166,164,163,306,202,5,4,203,204,205,272,273,274,275,282,290,278,286,0,18,19,20,17,0,5,4,4,0,21,9,8,167,166,164,163,307,202,5,4,174,203,204,205,2,3,206,223,183,39,181,0,21,22]
noncomputable abbrev s0 : Str := ⟨#[110,117,109,98,101,114]⟩
noncomputable abbrev s1 : Str := ⟨#[107,101,121,115]⟩
noncomputable abbrev s2 : Str := ⟨#[118,97,108,117,101,115]⟩
noncomputable abbrev s3 : Str := ⟨#[109,101,116,97]⟩
noncomputable abbrev s4 : Str := ⟨#[114,117,110,110,101,114]⟩
noncomputable abbrev s5 : Str := ⟨#[97,114,103,115]⟩
noncomputable abbrev s6 : Str := ⟨#[116,97,98,108,101]⟩
noncomputable abbrev s7 : Str := ⟨#[101,110,100]⟩
noncomputable abbrev s8 : Str := ⟨#[112,108,97,99,101]⟩
noncomputable abbrev s9 : Str := ⟨#[116,97,98,108,101,95,105,110,115,101,114,116,46,60,108,111,99,97,108,115,62,46]⟩
noncomputable abbrev s10 : Str := ⟨#[98,111,119,108]⟩
noncomputable abbrev s11 : Str := ⟨#[104,111,115,116]⟩
noncomputable abbrev s12 : Str := ⟨#[115,104,101,108,102,95,104,101,114,101]⟩
noncomputable abbrev s13 : Str := ⟨#[116,101,120,116,115]⟩
noncomputable abbrev s14 : Str := ⟨#[108,101,102,116]⟩
noncomputable abbrev s15 : Str := ⟨#[116,111,108,100]⟩
noncomputable abbrev s16 : Str := ⟨#[97,116]⟩
noncomputable abbrev s17 : Str := ⟨#[116,101,120,116]⟩
noncomputable abbrev s18 : Str := ⟨#[95,108,97,119,95,112,117,116,95,114,105,103,104,116,46,60,108,111,99,97,108,115,62,46]⟩
noncomputable abbrev s19 : Str := ⟨#[98,111,111,107]⟩
noncomputable abbrev s20 : Str := ⟨#[72,111,115,116,46,99,97,108,108,95,104,111,115,116,46,60,108,111,99,97,108,115,62,46]⟩
noncomputable abbrev s21 : Str := ⟨#[72,111,115,116,46,99,97,108,108,95,111,116,104,101,114,46,60,108,111,99,97,108,115,62,46]⟩
noncomputable abbrev s22 : Str := ⟨#[72,111,115,116,46,99,97,108,108,46,60,108,111,99,97,108,115,62,46]⟩
noncomputable abbrev s23 : Str := ⟨#[95,108,97,119,95,104,101,97,114,100,46,60,108,111,99,97,108,115,62,46]⟩
noncomputable abbrev s24 : Str := ⟨#[108,97,119,46,60,108,111,99,97,108,115,62,46]⟩
noncomputable abbrev s25 : Str := ⟨#[108,105,109,105,116,115]⟩
noncomputable abbrev s26 : Str := ⟨#[99,104,117,110,107]⟩
noncomputable abbrev s27 : Str := ⟨#[111,117,116]⟩
noncomputable abbrev s28 : Str := ⟨#[115,116,101,112,115]⟩
noncomputable abbrev s29 : Str := ⟨#[109,97,100,101]⟩
noncomputable abbrev s30 : Str := ⟨#[102,114,97,109,101,115]⟩
noncomputable abbrev s31 : Str := ⟨#[100,101,101,112]⟩
noncomputable abbrev s32 : Str := ⟨#[119,105,100,116,104]⟩
noncomputable abbrev s33 : Str := ⟨#[114,101,103,105,115,116,101,114,115]⟩
noncomputable abbrev s34 : Str := ⟨#[117,112,118,97,108,117,101,115]⟩
noncomputable abbrev s35 : Str := ⟨#[108,111,99,97,108,95,110,97,109,101,115]⟩
noncomputable abbrev s36 : Str := ⟨#[99,99,97,108,108,115]⟩
noncomputable abbrev s37 : Str := ⟨#[115,116,97,99,107]⟩
noncomputable abbrev s38 : Str := ⟨#[102,108,117,115,104]⟩
noncomputable abbrev s39 : Str := ⟨#[118,97,108,117,101]⟩
noncomputable abbrev s40 : Str := ⟨#[116,114,97,99,101]⟩
noncomputable abbrev s41 : Str := ⟨#[105,115,95,105,110,95,104,97,110,100,108,101,114]⟩
noncomputable abbrev s42 : Str := ⟨#[115,101,108,102]⟩
noncomputable abbrev s43 : Str := ⟨#[120]⟩
noncomputable abbrev s44 : Str := ⟨#[110,97,109,101]⟩
noncomputable abbrev s45 : Str := ⟨#[119,111,114,107]⟩
noncomputable abbrev s46 : Str := ⟨#[116,97,98,108,101,95,99,111,110,99,97,116,46,60,108,111,99,97,108,115,62,46]⟩
noncomputable abbrev s47 : Str := ⟨#[95,108,97,119,95,106,111,105,110,101,100,95,114,105,103,104,116,46,60,108,111,99,97,108,115,62,46]⟩
noncomputable abbrev s48 : Str := ⟨#[116,101,120,116,95,98,121,116,101,46,60,108,111,99,97,108,115,62,46]⟩
noncomputable abbrev s49 : Str := ⟨#[112,114,105,110,116,95,104,101,114,101]⟩
noncomputable abbrev s50 : Str := ⟨#[108,105,98,114,97,114,121,46,60,108,111,99,97,108,115,62,46,112,114,105,110,116,95,104,101,114,101]⟩
noncomputable abbrev s51 : Str := ⟨#[102,111,117,110,100]⟩
noncomputable abbrev s52 : Str := ⟨#[108,97,119,95,112,113,48,54,56,54,95,48,50]⟩
noncomputable abbrev s53 : Str := ⟨#[47,99,108,97,105,109,47,99,117,116,46,112,121]⟩
noncomputable abbrev s54 : Str := ⟨#[116,117,114,110]⟩
noncomputable abbrev b0 : Array UInt8 := #[]
noncomputable abbrev b1 : Array UInt8 := #[45]
noncomputable abbrev b2 : Array UInt8 := #[46,46,46]
noncomputable abbrev b3 : Array UInt8 := #[120]
noncomputable abbrev b4 : Array UInt8 := #[120,121]
noncomputable abbrev b5 : Array UInt8 := #[108,97,119]
noncomputable abbrev b6 : Array UInt8 := #[116,111,111,32,109,97,110,121,32,115,116,101,112,115]
noncomputable abbrev b7 : Array UInt8 := #[112,114,105,110,116]
noncomputable abbrev b8 : Array UInt8 := #[116,121,112,101]
noncomputable abbrev b9 : Array UInt8 := #[116,111,115,116,114,105,110,103]
noncomputable abbrev b10 : Array UInt8 := #[116,111,110,117,109,98,101,114]
noncomputable abbrev b11 : Array UInt8 := #[110,101,120,116]
noncomputable abbrev b12 : Array UInt8 := #[112,97,105,114,115]
noncomputable abbrev b13 : Array UInt8 := #[105,112,97,105,114,115]
noncomputable abbrev b14 : Array UInt8 := #[114,97,119,103,101,116]
noncomputable abbrev b15 : Array UInt8 := #[114,97,119,115,101,116]
noncomputable abbrev b16 : Array UInt8 := #[114,97,119,101,113,117,97,108]
noncomputable abbrev b17 : Array UInt8 := #[115,101,108,101,99,116]
noncomputable abbrev b18 : Array UInt8 := #[117,110,112,97,99,107]
noncomputable abbrev b19 : Array UInt8 := #[97,115,115,101,114,116]
noncomputable abbrev b20 : Array UInt8 := #[101,114,114,111,114]
noncomputable abbrev b21 : Array UInt8 := #[112,99,97,108,108]
noncomputable abbrev b22 : Array UInt8 := #[115,101,116,109,101,116,97,116,97,98,108,101]
noncomputable abbrev b23 : Array UInt8 := #[103,101,116,109,101,116,97,116,97,98,108,101]
noncomputable abbrev b24 : Array UInt8 := #[116,97,98,108,101]
noncomputable abbrev b25 : Array UInt8 := #[115,116,114,105,110,103]
noncomputable abbrev b26 : Array UInt8 := #[109,97,116,104]
noncomputable abbrev b27 : Array UInt8 := #[95,71]
noncomputable abbrev b28 : Array UInt8 := #[95,86,69,82,83,73,79,78]
noncomputable abbrev b29 : Array UInt8 := #[76,117,97,32,53,46,49]
noncomputable abbrev b30 : Array UInt8 := #[105,110,115,101,114,116]
noncomputable abbrev b31 : Array UInt8 := #[114,101,109,111,118,101]
noncomputable abbrev b32 : Array UInt8 := #[99,111,110,99,97,116]
noncomputable abbrev b33 : Array UInt8 := #[103,101,116,110]
noncomputable abbrev b34 : Array UInt8 := #[109,97,120,110]
noncomputable abbrev b35 : Array UInt8 := #[115,111,114,116]
noncomputable abbrev b36 : Array UInt8 := #[114,101,115,117,108,116,105,110,103,32,115,116,114,105,110,103,32,116,111,111,32,108,97,114,103,101]
noncomputable abbrev b37 : Array UInt8 := #[108,101,110]
noncomputable abbrev b38 : Array UInt8 := #[115,117,98]
noncomputable abbrev b39 : Array UInt8 := #[114,101,112]
noncomputable abbrev b40 : Array UInt8 := #[114,101,118,101,114,115,101]
noncomputable abbrev b41 : Array UInt8 := #[108,111,119,101,114]
noncomputable abbrev b42 : Array UInt8 := #[117,112,112,101,114]
noncomputable abbrev b43 : Array UInt8 := #[98,121,116,101]
noncomputable abbrev b44 : Array UInt8 := #[99,104,97,114]
noncomputable abbrev b45 : Array UInt8 := #[97,98,115]
noncomputable abbrev b46 : Array UInt8 := #[109,97,120]
noncomputable abbrev b47 : Array UInt8 := #[109,105,110]
noncomputable abbrev tyL : Value := .type "list"
noncomputable abbrev tyD : Value := .type "dict"
noncomputable abbrev aA (x : Vars) (i : Nat) : Nat := x.A i
noncomputable abbrev vA (x : Vars) (i : Nat) : Value := .ref (x.A i)
noncomputable abbrev vR (x : Vars) (i j : Nat) : Value := .ref (x.R i j)
noncomputable abbrev eX (x : Vars) (i j : Nat) (s : Str) (v : Value) : DictEntry := en (x.H i j) s (x.K i j) v
noncomputable abbrev eN (w : World) (s : Str) (t : Nat) (v : Value) : DictEntry := en (PySem.W.ZFast.hashOfZ w.params s) s t v
noncomputable abbrev vI (x : Vars) (n : Int) (i j : Nat) : Value := .int n (x.V i j)
noncomputable abbrev vB (x : Vars) (b : Array UInt8) (i j : Nat) : Value := .bytes b (x.V i j)
noncomputable abbrev iX (c a : Nat) : Obj := { cls := .ref c, dict := some a, data := .plain }
noncomputable abbrev oTX (x : Vars) (i : Nat) (a b c d : Value) : Obj := { cls := tyD, data := (.dict #[eX x i 0 s0 a, eX x i 1 s1 b, eX x i 2 s2 c, eX x i 3 s3 d] (x.N i)) }
noncomputable def dictE (o : Obj) : Array DictEntry := match o.data with | .dict es _ => es | _ => #[]
noncomputable def epochOf (o : Obj) : Nat := match o.data with | .dict _ n => n | .seq _ n => n | _ => 0
noncomputable def valAt (o : Obj) (j : Nat) : Value := match o.data with
  | .dict es _ => (enAt es j).val
  | .seq xs _ => xs.toList.getD j .none
  | .fields xs => xs.toList.getD j .none
  | .cell (some v) => v
  | _ => .none
noncomputable def slotAt (o : Obj) (j : Nat) : Value := (o.slots.toList.getD j none).getD .none
noncomputable def atO (o : Obj) (j : Nat) : Value := match Nat.blt j 900 with
  | true => valAt o j
  | false => match Nat.beq j 900 with
    | true => .ref (o.dict.getD 0)
    | false => match Nat.blt j 2000 with
      | true => slotAt o (j - 1000)
      | false => match o.data with
        | .func f => match Nat.beq j 2000 with
          | true => f.code
          | false => match Nat.beq j 2001 with
            | true => f.closureTuple
            | false => match f.closure with
              | (_, a) :: _ => .ref a
              | [] => .none
        | _ => .none
noncomputable def seqA (o : Obj) : Array Value := match o.data with | .seq xs _ => xs | _ => #[]
noncomputable def nthO (os : List Obj) (i : Nat) : Obj := os.getD i { cls := .none }
noncomputable def bytesOf (v : Value) : Array UInt8 := match v with | .bytes b _ => b | _ => #[]
noncomputable def varsOf (args : List Value) (as : List Nat) (os : List Obj) (u : Bool := false) : Vars where
  A := fun i => nth as i
  B := fun i => nth as i - 837
  H := fun i j => (enAt (dictE (nthO os i)) j).hash
  K := fun i j => strTok (enAt (dictE (nthO os i)) j).key
  V := fun i j => tokOf (atO (nthO os i) j)
  R := fun i j => refOf (atO (nthO os i) j)
  I := fun i j => intOf (atO (nthO os i) j)
  N := fun i => epochOf (nthO os i)
  E := fun i => dictE (nthO os i)
  U := fun k => tokOf (args.getD k .none)
  W := fun k => refOf (args.getD k .none)
  Q := fun i => seqA (nthO os i)
  Z := fun i j => atO (nthO os i) j
  Y := fun i j => bytesOf (atO (nthO os i) j)
  u := u
noncomputable def lamS (s : Stmt) : Arguments × FuncBody × Scope := match s with
  | .Expr (.Call _ [_, .Call _ [_, _, .Lambda a e sc _] _ _] _ _) _ => (a, .expr e, sc)
  | .Assign _ (.Call _ [_, _, .Lambda a e sc _] _ _) _ => (a, .expr e, sc)
  | .FunctionDef _ a b _ _ _ sc _ _ _ => (a, .stmts b, sc)
  | _ => (default, .stmts [], default)
noncomputable def lamTold (P : Params) : Arguments × FuncBody × Scope := lamS (nthS (bodyOf (o830 P)) 2)
noncomputable def defPrint (P : Params) : Arguments × FuncBody × Scope := lamS (nthS (bodyOf (o783 P)) 0)
noncomputable def plusN (d : Nat) (x : Int) : Int := Nat.rec (motive := fun _ => Int) x (fun _ ih => ih + 1) d
noncomputable def lfO (r u : Bool) (E : Array DictEntry) (n c : Nat) : Obj := { cls := .type "frame", data := .dict E n, slots := match r with | false => #[] | true => #[some (.ref 834), some (.ref 3), none, some (backV u), none, some (.ref 835), some (.ref 0), some (.ref c)] }
noncomputable def frA (b : Bool) (t : Nat) : Array Value := match b with | true => #[.ref t] | false => #[]
noncomputable def orB (b r : Bool) : Bool := match b with | true => true | false => r
noncomputable abbrev oFunc (l : Arguments × FuncBody × Scope) (name qual : Str) (closure : List (Str × Nat)) (ct code md : Value) : Obj := { cls := .type "function", data := .func { name := name, qualname := qual, params := l.1, body := l.2.1, scope := l.2.2, globals := 3, closure := closure, closureTuple := ct, code := code, pyModule := md, defaults := .none, kwdefaults := .none, doc := .none, annotations := none, builtins := 0 } }
noncomputable def initN (xs : Array Value) (n : Nat) : Nat := match xs.toList with | [] => n | _ :: _ => n + 1
noncomputable def S_init (S l : Nat) (n0 : Nat) (xs : Array Value) (n : Nat) : Spec := { code := .builtin "list.__init__" ⟨[.ref S, .ref l], []⟩, dep := 850, need := [Nat.blt xs.size 1000000], pre := [(S, oList #[] n0), (l, oList xs n)], touch := [0], na := 0, nt := 0, res := fun _ _ => .ok (.ret .none), postT := fun _ _ => [some (oList xs (initN xs n0))], postN := fun _ _ => [] }
theorem init_at {V : Vn} {S l : Nat} {n0 : Nat} {xs : Array Value} {n : Nat} : (S_init S l n0 xs n).Holds V := by
  refine spec_by fun Γ hc hh A hA hd hin h g d tk os At => ?_
  have hS : h.get? S = some (oList #[] n0) := At.mem _ mcS
  have hl : h.get? l = some (oList xs n) := At.mem _ (mcT mcS)
  have hne : S ≠ l := by
    have := At.apart
    change [S, l].Nodup at this
    simpa using this
  have hs : xs.size < 1000000 := blt_iff (At.need _ mcS)
  have hz : xs.size ≤ sizeLine := by unfold sizeLine; lia
  refine @den_wp2 _ _ _ _ _ _ _ _ _ rfl F.entry_list_init ?_
  show wpAny _ _ (do let old ← Builtin.List.listItems (.ref S); Builtin.List.listUpdate (.ref S) (fun _ => #[]); letGo old.toList.reverse; Builtin.List.listExtendWith (.ref S) (.ref l) .none) _ _ _
  refine wpAny_bind ?_
  unfold Builtin.List.listItems
  refine wpAny_bind (wpAny_seqItems hS rfl (wpAny_pure ?_))
  show wpAny _ _ (updateSeq S (fun _ => #[]) >>= fun _ => letGo (#[] : Array Value).toList.reverse >>= fun _ => Builtin.List.listExtendWith (.ref S) (.ref l) .none) _ _ _
  refine wpAny_bind (wpAny_updateSeq hS rfl ?_ (by unfold sizeLine; simp) (by unfold sizeLine; simp))
  refine wpAny_bind (wpAny_letGo ?_)
  have hb1 : Heap.SameBut S h (h.update S (Obj.mapSeq (fun _ => (#[] : Array Value)))) := Heap.SameBut.update ..
  have hS2 : (h.update S (Obj.mapSeq (fun _ => (#[] : Array Value)))).get? S = some (oList #[] n0) := Heap.get?_update_self _ hS rfl
  have hl2 : (h.update S (Obj.mapSeq (fun _ => (#[] : Array Value)))).get? l = some (oList xs n) := (hb1.2 l (Ne.symm hne)).trans hl
  generalize h.update S (Obj.mapSeq (fun _ => (#[] : Array Value))) = h2 at hb1 hS2 hl2
  unfold Builtin.List.listExtendWith
  refine wpAny_bind (wpAny_typeOf_ref hl2 ?_)
  show wpAny _ _ (if (Builtin.List.listSameRef (.ref S) (.ref l) || Value.type "list" == Value.type "list" || Value.type "list" == Value.type "tuple") = true then _ else _) _ _ _
  rw [if_pos (by simp)]
  refine wpAny_bind ?_
  unfold Builtin.List.listItems
  refine wpAny_bind (wpAny_seqItems hl2 rfl (wpAny_pure ?_))
  refine wpAny_bind ?_
  refine wpAny_bind (wpAny_seqItems hS2 rfl (wpAny_pure ?_))
  show wpAny _ _ (if (!(#[] : Array Value).isEmpty && _) = true then _ else _) _ _ _
  rw [if_neg (by simp)]
  show wpAny _ _ (updateSeq S (fun ys => ys ++ xs) >>= _) _ _ _
  refine wpAny_bind (wpAny_updateSeq hS2 rfl ?_ (by unfold sizeLine; simp) (by rw [Array.empty_append]; unfold sizeLine; lia))
  refine wpAny_bind (wpAny_pure (wpAny_pure ⟨_, rfl, [], [], rfl, ?_, rfl, rfl, rfl⟩))
  have hb2 : Heap.SameBut S h2 (h2.update S (Obj.mapSeq (fun ys => ys ++ xs))) := Heap.SameBut.update ..
  refine ⟨rfl, rfl, fun j hj q hq => ?_, fun j hj => (nomatch hj), fun b o e ht => ?_, fun a ha => (nomatch ha), List.nodup_nil, by rw [hb2.1, hb1.1]; exact Nat.le_refl _⟩
  · cases j with
    | zero =>
      have : oList xs (initN xs n0) = q := Option.some.inj hq
      subst this
      show (h2.update S _).get? S = _
      have e : Obj.mapSeq (fun ys => ys ++ xs) (oList #[] n0) = oList xs (initN xs n0) := by
        obtain ⟨l⟩ := xs
        cases l with
        | nil => rfl
        | cons a l =>
          simp only [Obj.mapSeq, initN]
          simp
      rw [← e]
      exact Heap.get?_update_self _ hS2 (by rw [e]; rfl)
    | succ j => cases hj with | step hj => exact (nomatch hj)
  · have hb : b ≠ S := fun q => ht (by subst q; exact List.mem_cons_self ..)
    exact (hb2.2 b hb).trans ((hb1.2 b hb).trans e)
noncomputable def D_init {V : Vn} : Dp V := ⟨2, fun as os _ => match as with
  | [S, l] => match os with
    | [o, o'] => match seqOf o with
      | some (_, n0) => match seqOf o' with
        | some (xs, n) => some ⟨S_init S l n0 xs n, init_at⟩
        | none => none
      | none => none
    | _ => none
  | _ => none⟩
noncomputable def FH (w : World) (c : Code) : Option (Dp (VV w)) := match c with
  | .builtin id ⟨[.ref _, .ref _], []⟩ => match idIs id 7635756109259221455878126594669 with
    | true => some D_init
    | false => none
  | c => FG w c
theorem holds_meets {V : Vn} {S : Spec} {id : String} {args : Args} {B : Builtin} {Sm : PySem.Spec} (hc : S.code = .builtin id args) (pl : plainId id = true) (en : entryFor table id = some B) (m : Meets (B args) Sm)
    (hq : ∀ (A : Around) (h : Heap) (g : Array GenState) (d : Drawn) (t : Nat) (os : OsState), S.At V h → Sm A (fun r s' => ∃ as ts, r = S.res as ts ∧ S.Ends as ts h s'.heap ∧ s'.gens = g ∧ s'.drawn = d ∧ s'.os = os) ⟨h, g, d, t, os⟩) : S.Holds V := by
  intro Γ p h g d t os hcode hh hb _ At
  have hbelow : Γ.Below ⟨none, frameCount Γ.below, none, none, unitsOf Γ.below⟩ := ⟨hh, Nat.le_refl _, fun _ h => (nomatch h), fun _ h => (nomatch h), Nat.le_refl _⟩
  have c := codeAny_builtin (prog := V.prog) (w := V.w) (A := ⟨none, frameCount Γ.below, none, none, unitsOf Γ.below⟩) en (by
    rw [Around.under_plainId pl args]
    exact m V.prog V.w _ _ _ (hq _ h g d t os At))
  obtain ⟨r, ⟨h', g', d', t', os'⟩, hr, as, ts, e1, e2, e3, e4, e5⟩ := c Γ p (hcode.trans hc) hbelow
  cases e3; cases e4; cases e5
  rw [e1] at hr
  exact ⟨as, ts, h', t', hr, e2⟩
noncomputable def eqV (v v' : Value) : Bool := match v, v' with
  | .int x _, .int y _ => eqB x y
  | .bytes x _, .bytes y _ => Builtin.Bytes.order x.toList y.toList == .eq
  | _, _ => false
open MeetsSeq (EqGives) in
theorem eqGives_bytes (a b : Array UInt8) (t u : Tok) : EqGives (.bytes a t) (.bytes b u) (a.toList == b.toList) := by
  intro prog w A E s Q h
  unfold eqBool
  show wpAny _ _ (if (Value.bytes a t == Value.bytes b u) = true then _ else _) Q E s
  by_cases hab : (Value.bytes a t == Value.bytes b u) = true
  · rw [if_pos hab]
    have e : a = b := by have := eq_of_beq hab; injection this
    subst e
    exact wpAny_bind (wpAny_rule (wpAny_pure (by simpa using h)))
  · rw [if_neg hab]
    exact wpAny_bind (eq_bytes (wpAny_truthy_bool h))
open MeetsSeq (EqGives) in
theorem order_eq : ∀ a b : List UInt8, (Builtin.Bytes.order a b == .eq) = (a == b)
  | [], [] => rfl
  | [], _ :: _ => rfl
  | _ :: _, [] => rfl
  | x :: xs, y :: ys => by
    rw [List.cons_beq_cons]
    unfold Builtin.Bytes.order
    by_cases h : x < y
    · rw [if_pos h]
      have : (x == y) = false := beq_eq_false_iff_ne.mpr (UInt8.ne_of_lt h)
      rw [this]; rfl
    · rw [if_neg h]
      by_cases h2 : x > y
      · rw [if_pos h2]
        have : (x == y) = false := beq_eq_false_iff_ne.mpr (UInt8.ne_of_lt h2).symm
        rw [this]; rfl
      · rw [if_neg h2, order_eq xs ys]
        have : x = y := UInt8.le_antisymm (UInt8.not_lt.mp h2) (UInt8.not_lt.mp h)
        subst this
        simp
noncomputable def kindL : List Value → List Value → Bool
  | v :: l, v' :: l' => kind2 v v' && kindL l l'
  | [], [] => true
  | _, _ => false
noncomputable def eqL : List Value → List Value → Bool
  | v :: l, v' :: l' => eqV v v' && eqL l l'
  | _, _ => true
open MeetsSeq (EqGives) in
theorem eqGives_of {v v' : Value} (h : kind2 v v' = true) : EqGives v v' (eqV v v') := by
  rcases kind2_cases h with ⟨x, t, y, u, rfl, rfl⟩ | ⟨x, t, y, u, rfl, rfl⟩
  · have e : eqV (.int x t) (.int y u) = (x == y) := by
      show eqB x y = _
      unfold eqB
      by_cases q : x = y
      · rw [@decide_eq_true _ (Z.eqZ x y) q, q]; simp
      · rw [@decide_eq_false _ (Z.eqZ x y) q, beq_eq_false_iff_ne.mpr q]
    rw [e]
    exact EqGives.int x y t u
  · have e : eqV (.bytes x t) (.bytes y u) = (x.toList == y.toList) := order_eq _ _
    rw [e]
    exact eqGives_bytes x y t u
theorem kindL_len : ∀ {l l' : List Value}, kindL l l' = true → l.length = l'.length
  | [], [], _ => rfl
  | v :: l, v' :: l', h => by
    have h : (kind2 v v' && kindL l l') = true := h
    rw [Bool.and_eq_true] at h
    rw [List.length_cons, List.length_cons, kindL_len h.2]
theorem kindL_at : ∀ {l l' : List Value}, kindL l l' = true → ∀ j (h1 : j < l.length) (h2 : j < l'.length), kind2 l[j] l'[j] = true
  | v :: l, v' :: l', h, j, h1, h2 => by
    have h : (kind2 v v' && kindL l l') = true := h
    rw [Bool.and_eq_true] at h
    cases j with
    | zero => exact h.1
    | succ j => exact kindL_at h.2 j (Nat.lt_of_succ_lt_succ h1) (Nat.lt_of_succ_lt_succ h2)
noncomputable def eqAt (l l' : List Value) (j : Nat) : Bool := eqV (l.getD j .none) (l'.getD j .none)
theorem all_eqL : ∀ {l l' : List Value}, l.length = l'.length → (List.range l.length).all (eqAt l l') = eqL l l'
  | [], [], _ => rfl
  | v :: l, v' :: l', h => by
    rw [List.length_cons, List.range_succ_eq_map, List.all_cons, List.all_map]
    show (eqV v v' && (List.range l.length).all (eqAt l l')) = _
    rw [all_eqL (Nat.succ.inj h)]; rfl
noncomputable def S_leq (l l' : Nat) (xs : Array Value) (n : Nat) (ys : Array Value) (m : Nat) (nd : List Bool) (b : Bool) : Spec := { code := .builtin "list.__eq__" ⟨[.ref l, .ref l'], []⟩, dep := 870, need := nd, pre := [(l, oList xs n), (l', oList ys m)], touch := [], na := 0, nt := 0, res := fun _ _ => .ok (.ret (.bool b)), postT := fun _ _ => [], postN := fun _ _ => [] }
theorem leq_at {V : Vn} {l l' : Nat} {xs : Array Value} {n : Nat} {ys : Array Value} {m : Nat} {nd : List Bool} {b : Bool} (h : (∀ b ∈ nd, b = true) → kindL xs.toList ys.toList = true ∧ eqL xs.toList ys.toList = b) : (S_leq l l' xs n ys m nd b).Holds V := by
  have pl : plainId "list.__eq__" = true := by decide +kernel
  by_cases hk : kindL xs.toList ys.toList = true
  · have hs : xs.size = ys.size := kindL_len hk
    refine holds_meets (S := S_leq l l' xs n ys m nd b) rfl pl F.entry_list_eq (MeetsSeq3.list_eq l l' xs ys n m hs (eqAt xs.toList ys.toList) (fun j h1 h2 => ?_)) (fun A h' g d t os At => ?_)
    · have := kindL_at hk j h1 h2
      have e : eqAt xs.toList ys.toList j = eqV xs.toList[j] ys.toList[j] := by
        unfold eqAt
        rw [List.getD_eq_getElem?_getD, List.getD_eq_getElem?_getD, List.getElem?_eq_getElem h1, List.getElem?_eq_getElem h2]; rfl
      rw [e]
      exact eqGives_of this
    · obtain ⟨_, rfl⟩ := h At.need
      refine ⟨At.mem _ mcS, At.mem _ (mcT mcS), [], [], ?_, ends_same rfl rfl rfl rfl rfl, rfl, rfl, rfl⟩
      have := all_eqL (kindL_len hk)
      rw [Array.length_toList] at this
      show Except.ok (Flow.ret (.bool _)) = Except.ok (Flow.ret (.bool _))
      rw [this]
  · intro Γ p h' g d t os hc hh hb hbl At
    exact absurd (h At.need).1 hk
noncomputable def D_leq {V : Vn} : Dp V := ⟨2, fun as os alt => match as with
  | [l, l'] => match os with
    | [o, o'] => match seqOf o with
      | some (xs, n) => match seqOf o' with
        | some (ys, m) => match alt with
          | 0 => some ⟨S_leq l l' xs n ys m [kindL xs.toList ys.toList] (eqL xs.toList ys.toList), leq_at fun q => ⟨q _ mcS, rfl⟩⟩
          | _ => some ⟨S_leq l l' xs n ys m [kindL xs.toList ys.toList && eqL xs.toList ys.toList] true, leq_at fun q => by
              have := q _ mcS
              rw [Bool.and_eq_true] at this
              exact this⟩
        | none => none
      | none => none
    | _ => none
  | _ => none⟩
noncomputable def kindA (v : Value) (l : List Value) : Bool := l.all fun y => kind2 y v
noncomputable def inL (v : Value) (l : List Value) : Bool := l.any fun y => eqV y v
noncomputable def S_tin (l : Nat) (xs : Array Value) (v : Value) : Spec := { code := .builtin "tuple.__contains__" ⟨[.ref l, v], []⟩, dep := 870, need := [kindA v xs.toList], pre := [(l, { cls := .type "tuple", data := .seq xs })], touch := [], na := 0, nt := 0, res := fun _ _ => .ok (.ret (.bool (inL v xs.toList))), postT := fun _ _ => [], postN := fun _ _ => [] }
theorem tin_at {V : Vn} {l : Nat} {xs : Array Value} {v : Value} : (S_tin l xs v).Holds V := by
  have pl : plainId "tuple.__contains__" = true := by decide +kernel
  by_cases hk : kindA v xs.toList = true
  · have hk' := List.all_eq_true.mp hk
    refine holds_meets (S := S_tin l xs v) rfl pl F.entry_tuple_contains (MeetsSeq2.tuple_contains l xs 0 v (fun y => eqV y v) (fun y hy => eqGives_of (hk' y (Array.mem_toList_iff.mpr hy)))) (fun A h' g d t os At => ?_)
    refine ⟨At.mem _ mcS, [], [], ?_, ends_same rfl rfl rfl rfl rfl, rfl, rfl, rfl⟩
    show Except.ok (Flow.ret (.bool _)) = Except.ok (Flow.ret (.bool _))
    unfold inL
    rw [Array.any_toList]
  · intro Γ p h' g d t os hc hh hb hbl At
    exact absurd (At.need _ mcS) hk
noncomputable def D_tin {V : Vn} (v : Value) : Dp V := ⟨1, fun as os _ => match as with
  | [l] => match os with
    | [o] => match seqOf o with
      | some (xs, _) => some ⟨S_tin l xs v, tin_at⟩
      | none => none
    | _ => none
  | _ => none⟩
noncomputable def FK (w : World) (c : Code) : Option (Dp (VV w)) := match c with
  | .builtin id ⟨[.ref a, v], []⟩ => match idIs id 116512336171186236184357485 with
    | true => some D_leq
    | false => match idIs id 8395601325623592240556648632771639105386101 with
      | true => some (D_tin v)
      | false => FH w (.builtin id ⟨[.ref a, v], []⟩)
  | c => FH w c
noncomputable abbrev oRI (x left step : Int) : Obj := { cls := .type "range_iterator", data := .fields #[.int x 0, .int left 0, .int step 0] }
noncomputable def S_rnext (it : Nat) (x left step : Int) : Spec := { code := .builtin "range_iterator.__next__" ⟨[.ref it], []⟩, dep := 850, need := [ltB 0 left], pre := [(it, oRI x left step)], touch := [0], na := 0, nt := 1, res := fun _ ts => .ok (.ret (.int x (nth ts 0))), postT := fun _ _ => [some (oRI (x + step) (left - 1) step)], postN := fun _ _ => [] }
theorem rnext_at {V : Vn} {it : Nat} {x left step : Int} : (S_rnext it x left step).Holds V := by
  have pl : plainId "range_iterator.__next__" = true := by decide +kernel
  by_cases hl : 0 < left
  · refine holds_meets (S := S_rnext it x left step) rfl pl F.entry_range_iterator_next (AutoRange.range_iterator___next___range_iterator_1 it x left step (by lia)) (fun A h g d t os At => ?_)
    have hit : h.get? it = some (oRI x left step) := At.mem _ mcS
    refine ⟨hit, [], [t], rfl, ?_, rfl, rfl, rfl⟩
    have e := Heap.get?_update_self (fun o => o.mapFields fun v => v.setIfInBounds 1 (rawInt (left - 1))) (Heap.get?_update_self (Obj.mapFields fun v => v.setIfInBounds 0 (rawInt (x + step))) hit rfl) rfl
    have hb : Heap.SameBut it h ((h.update it (Obj.mapFields fun v => v.setIfInBounds 0 (rawInt (x + step)))).update it (Obj.mapFields fun v => v.setIfInBounds 1 (rawInt (left - 1)))) := (Heap.SameBut.update ..).trans (Heap.SameBut.update ..)
    refine ⟨rfl, rfl, fun j hj q hq => ?_, fun j hj => (nomatch hj), fun b o q ht => ?_, fun a ha => (nomatch ha), List.nodup_nil, by rw [hb.1]; exact Nat.le_refl _⟩
    · cases j with
      | zero =>
        have hq : oRI (x + step) (left - 1) step = q := Option.some.inj hq
        subst hq
        exact e
      | succ j => exact absurd hj (Nat.not_lt_of_le (Nat.le_add_left 1 j))
    · exact (hb.2 b fun q => ht (by subst q; exact List.mem_cons_self ..)).trans q
  · intro Γ p h g d t os hc hh hb hbl At
    exact absurd (ltB_iff'.1 (At.need _ mcS)) hl
noncomputable def S_rend (it : Nat) (x left step : Int) : Spec := { code := .builtin "range_iterator.__next__" ⟨[.ref it], []⟩, dep := 850, need := [!ltB 0 left], pre := [(it, oRI x left step)], touch := [], na := 2, nt := 0, res := fun a _ => .error (.ref (nth a 1)), postT := fun _ _ => [], postN := fun a _ => [oTuple #[], { cls := .type "StopIteration", data := .fields #[.ref (nth a 0), .none, .none, .none, .bool false, .none] }] }
theorem rend_at {V : Vn} {it : Nat} {x left step : Int} : (S_rend it x left step).Holds V := by
  refine spec_by fun Γ hc hh A hA hd hin h g d t os At => ?_
  have hit : h.get? it = some (oRI x left step) := At.mem _ mcS
  have hl : left ≤ 0 := by
    have := At.need _ mcS
    rcases Int.lt_or_le 0 left with q | q
    · change (!ltB 0 left) = true at this
      rw [ltB_iff'.2 q] at this; cases this
    · exact q
  refine @den_wp2 _ _ _ _ _ _ _ _ _ rfl F.entry_range_iterator_next ?_
  show wpAny _ _ (field (.ref it) 0 >>= _) _ _ _
  refine wpAny_bind (wpAny_field hit rfl (x := rawInt x) rfl ?_)
  show wpAny _ _ (field (.ref it) 1 >>= _) _ _ _
  refine wpAny_bind (wpAny_field hit rfl (x := rawInt left) rfl ?_)
  show wpAny _ _ (field (.ref it) 2 >>= _) _ _ _
  refine wpAny_bind (wpAny_field hit rfl (x := rawInt step) rfl ?_)
  show wpAny _ _ (if left ≤ 0 then _ else _) _ _ _
  rw [if_pos hl]
  refine wpAny_bind (wpAny_rule ?_)
  refine wpAny_bind ?_
  show wpAny _ _ (newExc (.type "StopIteration") [] >>= _) _ _ _
  refine wpAny_bind ?_
  simp only [newExc, newTuple]
  refine wpAny_bind (wpAny_newObj_type ?_ (by size_fits))
  refine wpAny_bind (m := firstArgMember _ _) (wpAny_of_eq (a := Value.none) (by first | rfl | (simp only [firstArgMember]; rfl)) ?_)
  refine wpAny_newObj_type ?_ (by size_fits)
  unfold raiseNew
  refine wpAny_bind (wpAny_handled ?_)
  rw [hA]
  refine wpAny_bind (wpAny_pure (wpAny_throw ?_))
  refine ⟨[h.objs.size, h.objs.size + 1], [], by show Except.error _ = Except.error _; rw [Heap.size_push]; rfl, ⟨rfl, rfl, fun j hj => (nomatch hj), fun j hj => ?_, fun b o e ht => ?_, fun a ha => ?_, ?_, ?_⟩, rfl, rfl, rfl⟩
  · match j, hj with
    | 0, _ => exact Heap.get?_push_of_some _ (Heap.get?_push_size _ rfl)
    | 1, _ =>
      show Heap.get? _ (h.objs.size + 1) = _
      have := Heap.get?_push_size (h.push (oTuple #[])) (o := { cls := .type "StopIteration", data := .fields #[.ref h.objs.size, .none, .none, .none, .bool false, .none] }) rfl
      rw [Heap.size_push] at this
      exact this
    | j + 2, hj => exact absurd hj (Nat.not_lt_of_le (Nat.le_add_left 2 j))
  · exact Heap.get?_push_of_some _ (Heap.get?_push_of_some _ e)
  · show _ ∧ _ < (Heap.push (Heap.push h _) _).objs.size
    rw [Heap.size_push, Heap.size_push]
    simp only [List.mem_cons, List.not_mem_nil, or_false] at ha
    lia
  · simp
  · show _ ≤ (Heap.push (Heap.push h _) _).objs.size
    rw [Heap.size_push, Heap.size_push]; lia
noncomputable def D_rnext {V : Vn} : Dp V := ⟨1, fun as os alt => match as with
  | [it] => match os with
    | [o] => match o.data with
      | .fields vs => match vs.toList with
        | [a, b, c] => match alt with
          | 0 => some ⟨S_rnext it (intOf a) (intOf b) (intOf c), rnext_at⟩
          | _ => some ⟨S_rend it (intOf a) (intOf b) (intOf c), rend_at⟩
        | _ => none
      | _ => none
    | _ => none
  | _ => none⟩
noncomputable def S_max2 (x : Int) (t : Nat) (y : Int) (u : Nat) (nd : List Bool) (r : Int) (v : Nat) : Spec := { code := .builtin "max" ⟨[.int x t, .int y u], []⟩, dep := 830, need := nd, pre := [], touch := [], na := 0, nt := 0, res := fun _ _ => .ok (.ret (.int r v)), postT := fun _ _ => [], postN := fun _ _ => [] }
theorem R_maxT (w : World) (x : Int) (t : Nat) (y : Int) (u : Nat) : (S_max2 x t y u [ltB x y] y u).Holds (VV w) :=
  sF (F := FK w) (vok _) 200 ⟨[1,1,1,1,2,3,2,2,2,2,1,2,2,3,3,3,3,2,2,2,2,1,2,2,1,0,1,3,3,3,3,2,2,2,2,1,2,2,5,3,3,3], [], []⟩ fun m t => by kernel_rfl
theorem R_maxF (w : World) (x : Int) (t : Nat) (y : Int) (u : Nat) : (S_max2 x t y u [!ltB x y] x t).Holds (VV w) :=
  sF (F := FK w) (vok _) 200 ⟨[1,1,1,1,2,3,2,2,2,2,1,2,2,3,3,3,3,2,2,2,2,1,2,2,1,1,1,3,2,2,2,2,1,2,2,5,3,3,3], [], []⟩ fun m t => by kernel_rfl
noncomputable def maxI (x y : Int) : Int := match ltB x y with | true => y | false => x
noncomputable def maxT (x y : Int) (t u : Nat) : Nat := match ltB x y with | true => u | false => t
theorem max_any (w : World) (x : Int) (t : Nat) (y : Int) (u : Nat) : (S_max2 x t y u [] (maxI x y) (maxT x y t u)).Holds (VV w) := by
  unfold maxI maxT
  cases h : ltB x y with
  | true => exact Spec.Holds.less (R_maxT w x t y u) (fun b hb => by
      change b ∈ [ltB x y] at hb
      rw [List.mem_singleton.mp hb]; exact h)
  | false => exact Spec.Holds.less (R_maxF w x t y u) (fun b hb => by
      change b ∈ [!ltB x y] at hb
      rw [List.mem_singleton.mp hb, h]; rfl)
noncomputable def repB (b : Array UInt8) (n : Int) : Array UInt8 := ⟨(List.replicate n.toNat b.toList).flatten⟩
noncomputable def S_bmul (b : Array UInt8) (t : Nat) (n : Int) (u : Nat) : Spec := { code := .builtin "bytes.__mul__" ⟨[.bytes b t, .int n u], []⟩, dep := 850, need := [(Nat.blt 0 b.size && Nat.blt b.size 17) && (leB (-1000) n && leB n 1000)], pre := [], touch := [], na := 0, nt := 1, res := fun _ ts => .ok (.ret (.bytes (repB b n) (nth ts 0))), postT := fun _ _ => [], postN := fun _ _ => [] }
theorem repB_one (b : Array UInt8) : repB b 1 = b := by
  unfold repB
  simp
theorem repB_is {b : Array UInt8} (hb : 0 < b.size) (n : Int) : Builtin.Bytes.repeated b n.toNat = repB b n := by
  have hne : b.toList ≠ [] := by
    intro e
    have : b.toList.length = 0 := by rw [e]; rfl
    rw [Array.length_toList] at this
    lia
  have := BMul.repeated_list hne n.toNat
  unfold repB
  exact this
theorem bmul_at {V : Vn} {b : Array UInt8} {t : Nat} {n : Int} {u : Nat} : (S_bmul b t n u).Holds V := by
  have pl : plainId "bytes.__mul__" = true := by decide +kernel
  by_cases hq : ((Nat.blt 0 b.size && Nat.blt b.size 17) && (leB (-1000) n && leB n 1000)) = true
  · simp only [Bool.and_eq_true] at hq
    obtain ⟨⟨h1, h2⟩, h3, h4⟩ := hq
    have h1 : 0 < b.size := blt_iff h1
    have h2 : b.size < 17 := blt_iff h2
    have h3 := leB_iff'.1 h3
    have h4 := leB_iff'.1 h4
    by_cases hn : n = 1
    · subst hn
      refine holds_meets (S := S_bmul b t 1 u) rfl pl BMul.entry_mul (Gives.meets (BMul.gives_mul1 (by lia))) (fun A h g d tk os At => ?_)
      exact ⟨[], [t], by show Except.ok (Flow.ret (.bytes b t)) = Except.ok (Flow.ret (.bytes (repB b 1) t)); rw [repB_one], ends_same rfl rfl rfl rfl rfl, rfl, rfl, rfl⟩
    · have hle : b.size * n.toNat ≤ 16000 := by
        have : b.size * n.toNat ≤ 16 * n.toNat := Nat.mul_le_mul_right _ (by lia)
        lia
      have hf : Builtin.Bytes.fitsIndex n = true := by
        simp only [Builtin.Bytes.fitsIndex, Bool.and_eq_true, decide_eq_true_eq]
        lia
      have hne : (b.size * n.toNat == b.size) = false := by
        refine beq_false_of_ne fun e => ?_
        rcases Nat.lt_or_ge n.toNat 2 with h2 | h2
        · have h0 : n.toNat = 0 := by lia
          rw [h0] at e
          lia
        · have e2 : b.size * 2 ≤ b.size * n.toNat := Nat.mul_le_mul_left _ h2
          lia
      refine holds_meets (S := S_bmul b t n u) rfl pl BMul.entry_mul (Gives.meets (BMul.gives_mul hf (by lia) hne (KBy.tooLong_not (by lia)))) (fun A h g d tk os At => ?_)
      rw [repB_is h1]
      refine ⟨?_, [], [tk], rfl, ends_same rfl rfl rfl rfl rfl, rfl, rfl, rfl⟩
      rw [← repB_is h1, BMul.repeated_list (b := b.toList) (by
        intro e
        have : b.toList.length = 0 := by rw [e]; rfl
        rw [Array.length_toList] at this
        lia) n.toNat]
      rw [sizeLine_eq]
      have e4 : ((List.replicate n.toNat b.toList).flatten.toArray).size = n.toNat * b.size := by simp
      rw [e4, Nat.mul_comm]
      lia
  · intro Γ p h' g d t' os hc hh hb hbl At
    exact absurd (At.need _ mcS) hq
noncomputable def FU (w : World) (c : Code) : Option (Dp (VV w)) := match c with
  | .builtin id ⟨[.int x t, .int y u], []⟩ => match idIs id 7955054 with
    | true => some ⟨0, fun _ _ _ => some ⟨_, max_any w x t y u⟩⟩
    | false => FK w (.builtin id ⟨[.int x t, .int y u], []⟩)
  | .builtin id ⟨[.bytes b t, .int n u], []⟩ => match idIs id 7635746494501894959686414072419 with
    | true => some ⟨0, fun _ _ _ => some ⟨_, bmul_at (V := VV w) (b := b) (t := t) (n := n) (u := u)⟩⟩
    | false => FK w (.builtin id ⟨[.bytes b t, .int n u], []⟩)
  | .builtin id ⟨[.ref a], []⟩ => match idIs id 9231062798198206674541908477283886571094360729114862195 with
    | true => some D_rnext
    | false => FK w (.builtin id ⟨[.ref a], []⟩)
  | c => FK w c
noncomputable def FV (w : World) (c : Code) : Option (Dp (VV w)) := match c with
  | .call (.ref a) ⟨[.int x t], []⟩ => FU w (.call (.ref a) ⟨[.int x t], []⟩)
  | c => FU w c
noncomputable def S_lr0 (w : World) (x : Vars)  : Spec := { code := .call (.ref 804) ⟨[(vA x 0)],[]⟩,dep := 500,need := [],pre := [(aA x 0,{ cls := tyL,data := (.seq #[] (x.N 0)) })],touch := [],na := 4,nt := 5,res := fun as ts => .ok (.ret (.ref (nth as 0))),postT := fun as ts => [],postN := fun as ts => [{ cls := (.ref 234),dict := (some (nth as 1)),data := .plain },{ cls := tyD,data := (.dict #[eN w s0 (nth ts 0) (.int (-90) (nth ts 1)),eN w s1 (nth ts 2) (.ref (nth as 2)),eN w s2 (nth ts 3) (.ref (nth as 3)),eN w s3 (nth ts 4) .none] 4) },{ cls := tyL,data := (.seq #[] 0) },{ cls := tyL,data := (.seq #[] 0) }],rawP := [],rawQ := [] }
theorem R_lr0 (w : World) (x : Vars) : (S_lr0 w x).Holds (VV w) :=
  sF (F := FU w) (vok _) 5000 ⟨[0,0,0,2,2,0,0,0,0,0,2,2,0,0,2,1,1,1,1,7,8,8,8,8,8,8,1,8,8,8,8,8,7,7,7,7,1,7,7,10,2], [2,3,4,5], [3,2,4,5,6]⟩ fun m t => by kernel_rfl
noncomputable def S_lr1 (w : World) (x : Vars)  : Spec := { code := .call (.ref 804) ⟨[(vA x 0)],[]⟩,dep := 500,need := [],pre := [(aA x 0,{ cls := tyL,data := (.seq #[(.bytes (x.Y 0 0) (x.V 0 0))] (x.N 0)) })],touch := [],na := 4,nt := 6,res := fun as ts => .ok (.ret (.ref (nth as 0))),postT := fun as ts => [],postN := fun as ts => [{ cls := (.ref 234),dict := (some (nth as 1)),data := .plain },{ cls := tyD,data := (.dict #[eN w s0 (nth ts 0) (.int (-90) (nth ts 1)),eN w s1 (nth ts 2) (.ref (nth as 2)),eN w s2 (nth ts 3) (.ref (nth as 3)),eN w s3 (nth ts 4) .none] 4) },{ cls := tyL,data := (.seq #[(.int (1) (nth ts 5))] 1) },{ cls := tyL,data := (.seq #[(.bytes (x.Y 0 0) (x.V 0 0))] 1) }],rawP := [],rawQ := [] }
theorem R_lr1 (w : World) (x : Vars) : (S_lr1 w x).Holds (VV w) :=
  sF (F := FU w) (vok _) 5000 ⟨q0, [2,3,4,5], [3,2,4,5,6,12]⟩ fun m t => by kernel_rfl
noncomputable def S_lr2 (w : World) (x : Vars)  : Spec := { code := .call (.ref 804) ⟨[(vA x 0)],[]⟩,dep := 500,need := [],pre := [(aA x 0,{ cls := tyL,data := (.seq #[(.bytes (x.Y 0 0) (x.V 0 0)),(.bytes (x.Y 0 1) (x.V 0 1))] (x.N 0)) })],touch := [],na := 4,nt := 7,res := fun as ts => .ok (.ret (.ref (nth as 0))),postT := fun as ts => [],postN := fun as ts => [{ cls := (.ref 234),dict := (some (nth as 1)),data := .plain },{ cls := tyD,data := (.dict #[eN w s0 (nth ts 0) (.int (-90) (nth ts 1)),eN w s1 (nth ts 2) (.ref (nth as 2)),eN w s2 (nth ts 3) (.ref (nth as 3)),eN w s3 (nth ts 4) .none] 4) },{ cls := tyL,data := (.seq #[(.int (1) (nth ts 5)),(.int (2) (nth ts 6))] 2) },{ cls := tyL,data := (.seq #[(.bytes (x.Y 0 0) (x.V 0 0)),(.bytes (x.Y 0 1) (x.V 0 1))] 2) }],rawP := [],rawQ := [] }
theorem R_lr2 (w : World) (x : Vars) : (S_lr2 w x).Holds (VV w) :=
  sF (F := FU w) (vok _) 5000 ⟨cp q0 0 128 (cp q0 39 17 (ap [13,13,13,1,13,14,14,14,14,14,13,14,14,14,14,14,14,13,14,14,14,14,14,14,13,14,14,16] (cp q0 84 44 (ap [18,2] ([]))))), [2,3,4,5], [3,2,4,5,6,12,17]⟩ fun m t => by kernel_rfl
noncomputable def S_lr3 (w : World) (x : Vars)  : Spec := { code := .call (.ref 804) ⟨[(vA x 0)],[]⟩,dep := 500,need := [],pre := [(aA x 0,{ cls := tyL,data := (.seq #[(.bytes (x.Y 0 0) (x.V 0 0)),(.bytes (x.Y 0 1) (x.V 0 1)),(.bytes (x.Y 0 2) (x.V 0 2))] (x.N 0)) })],touch := [],na := 4,nt := 8,res := fun as ts => .ok (.ret (.ref (nth as 0))),postT := fun as ts => [],postN := fun as ts => [{ cls := (.ref 234),dict := (some (nth as 1)),data := .plain },{ cls := tyD,data := (.dict #[eN w s0 (nth ts 0) (.int (-90) (nth ts 1)),eN w s1 (nth ts 2) (.ref (nth as 2)),eN w s2 (nth ts 3) (.ref (nth as 3)),eN w s3 (nth ts 4) .none] 4) },{ cls := tyL,data := (.seq #[(.int (1) (nth ts 5)),(.int (2) (nth ts 6)),(.int (3) (nth ts 7))] 3) },{ cls := tyL,data := (.seq #[(.bytes (x.Y 0 0) (x.V 0 0)),(.bytes (x.Y 0 1) (x.V 0 1)),(.bytes (x.Y 0 2) (x.V 0 2))] 3) }],rawP := [],rawQ := [] }
theorem R_lr3 (w : World) (x : Vars) : (S_lr3 w x).Holds (VV w) :=
  sF (F := FU w) (vok _) 5000 ⟨cp q0 0 128 (cp q0 39 17 (ap [13,13,13,1,13,14,14,14,14,14,13,14,14,14,14,14,14,13,14,14,14,14,14,14,13,14,14,16] (cp q0 84 44 (cp q0 39 17 (ap [17,17,17,1,17,18,18,18,18,18,17,18,18,18,18,18,18,17,18,18,18,18,18,18,17,18,18,20] (cp q0 84 44 (ap [22,2] ([])))))))), [2,3,4,5], [3,2,4,5,6,12,17,22]⟩ fun m t => by kernel_rfl
noncomputable def S_lr4 (w : World) (x : Vars)  : Spec := { code := .call (.ref 804) ⟨[(vA x 0)],[]⟩,dep := 500,need := [],pre := [(aA x 0,{ cls := tyL,data := (.seq #[(.bytes (x.Y 0 0) (x.V 0 0)),(.bytes (x.Y 0 1) (x.V 0 1)),(.bytes (x.Y 0 2) (x.V 0 2)),(.bytes (x.Y 0 3) (x.V 0 3))] (x.N 0)) })],touch := [],na := 4,nt := 9,res := fun as ts => .ok (.ret (.ref (nth as 0))),postT := fun as ts => [],postN := fun as ts => [{ cls := (.ref 234),dict := (some (nth as 1)),data := .plain },{ cls := tyD,data := (.dict #[eN w s0 (nth ts 0) (.int (-90) (nth ts 1)),eN w s1 (nth ts 2) (.ref (nth as 2)),eN w s2 (nth ts 3) (.ref (nth as 3)),eN w s3 (nth ts 4) .none] 4) },{ cls := tyL,data := (.seq #[(.int (1) (nth ts 5)),(.int (2) (nth ts 6)),(.int (3) (nth ts 7)),(.int (4) (nth ts 8))] 4) },{ cls := tyL,data := (.seq #[(.bytes (x.Y 0 0) (x.V 0 0)),(.bytes (x.Y 0 1) (x.V 0 1)),(.bytes (x.Y 0 2) (x.V 0 2)),(.bytes (x.Y 0 3) (x.V 0 3))] 4) }],rawP := [],rawQ := [] }
theorem R_lr4 (w : World) (x : Vars) : (S_lr4 w x).Holds (VV w) :=
  sF (F := FU w) (vok _) 5000 ⟨cp q0 0 128 (cp q0 39 17 (ap [13,13,13,1,13,14,14,14,14,14,13,14,14,14,14,14,14,13,14,14,14,14,14,14,13,14,14,16] (cp q0 84 44 (cp q0 39 17 (ap [17,17,17,1,17,18,18,18,18,18,17,18,18,18,18,18,18,17,18,18,18,18,18,18,17,18,18,20] (cp q0 84 44 (cp q0 39 17 (ap [21,21,21,1,21,22,22,22,22,22,21,22,22,22,22,22,22,21,22,22,22,22,22,22,21,22,22,24] (cp q0 84 44 (ap [26,2] ([]))))))))))), [2,3,4,5], [3,2,4,5,6,12,17,22,27]⟩ fun m t => by kernel_rfl
noncomputable def rsz (a b c : Int) : Int := Builtin.Range.rangeSize a b c
noncomputable def fewI (x : Int) : Bool := leB (-1000) x && leB x 1000
theorem fewI_iff {x : Int} : fewI x = true ↔ -1000 ≤ x ∧ x ≤ 1000 := by unfold fewI; rw [Bool.and_eq_true, leB_iff', leB_iff']
theorem rsz_up (a b : Int) : rsz a b 1 = if a < b then b - a else 0 := by
  unfold rsz Builtin.Range.rangeSize
  rw [if_pos (by decide)]
  by_cases h : a < b
  · rw [if_pos h, if_pos h, Int.ediv_one]; lia
  · rw [if_neg h, if_neg h]
theorem rsz_down (a b : Int) : rsz a b (-1) = if a > b then a - b else 0 := by
  unfold rsz Builtin.Range.rangeSize
  rw [if_neg (by decide)]
  by_cases h : a > b
  · rw [if_pos h, if_pos h, Int.neg_neg, Int.ediv_one]; lia
  · rw [if_neg h, if_neg h]
noncomputable def S_riter (r : Nat) (a : Int) (t : Nat) (b : Int) (u : Nat) (c : Int) (v : Nat) : Spec := { code := .builtin "range.__iter__" ⟨[.ref r], []⟩, dep := 850, need := [fewI a && fewI b && (eqB c 1 || eqB c (-1))], pre := [(r, { cls := .type "range", data := .fields #[.int a t, .int b u, .int c v] })], touch := [], na := 1, nt := 0, res := fun as _ => .ok (.ret (.ref (nth as 0))), postT := fun _ _ => [], postN := fun _ _ => [oRI a (rsz a b c) c] }
theorem ends_new {S : Spec} {h : Heap} {o : Obj} (e0 : S.na = 1) (e1 : S.nt = 0) (e3 : S.postT [h.objs.size] [] = []) (e4 : S.postN [h.objs.size] [] = [o]) (hf : o.isFreed = false) : S.Ends [h.objs.size] [] h (h.push o) := by
  refine ⟨e0.symm, e1.symm, fun j hj => ?_, fun j hj => ?_, fun b o e _ => Heap.get?_push_of_some _ e, fun a ha => ?_, by simp, by rw [Heap.size_push]; lia⟩
  · rw [e3] at hj; exact (nomatch hj)
  · match j, hj with
    | 0, hj =>
      have e5 : (S.postN [h.objs.size] [])[0]'hj = o := by simp [e4]
      refine (Heap.get?_push_size h hf).trans (congrArg some ?_)
      exact e5.symm
    | j + 1, hj => rw [e4] at hj; exact absurd hj (Nat.not_lt_of_le (Nat.le_add_left 1 j))
  · rw [List.mem_singleton.mp ha, Heap.size_push]; lia
theorem riter_at {V : Vn} {r : Nat} {a : Int} {t : Nat} {b : Int} {u : Nat} {c : Int} {v : Nat} : (S_riter r a t b u c v).Holds V := by
  have pl : plainId "range.__iter__" = true := by decide +kernel
  by_cases hq : (fewI a && fewI b && (eqB c 1 || eqB c (-1))) = true
  · simp only [Bool.and_eq_true, Bool.or_eq_true] at hq
    obtain ⟨⟨ha, hb⟩, hc⟩ := hq
    have ha := fewI_iff.1 ha
    have hb := fewI_iff.1 hb
    have hr : rsz a b c ≤ 2000 ∧ 0 ≤ rsz a b c := by
      rcases hc with hc | hc
      · rw [eqB_iff'.1 hc, rsz_up]; split <;> lia
      · rw [eqB_iff'.1 hc, rsz_down]; split <;> lia
    have hcc : c = 1 ∨ c = -1 := hc.imp eqB_iff'.1 eqB_iff'.1
    have cond : ¬(!(Builtin.Range.rangeFitsLong a && Builtin.Range.rangeFitsLong b && Builtin.Range.rangeFitsLong c && Builtin.Range.rangeFitsLong (Builtin.Range.rangeSize a b c) && (Builtin.Range.rangeSize a b c == 0 || if c > 0 then Builtin.Range.rangeFitsLong (b + (c - 1)) else Builtin.Range.rangeFitsLong (b + (c + 1))))) = true := by
      have f : ∀ i : Int, -10000 ≤ i → i ≤ 10000 → Builtin.Range.rangeFitsLong i = true := fun i h1 h2 => by
        unfold Builtin.Range.rangeFitsLong
        simp only [Bool.and_eq_true, decide_eq_true_eq]
        lia
      have e : Builtin.Range.rangeSize a b c = rsz a b c := rfl
      rw [e, f a (by lia) (by lia), f b (by lia) (by lia), f c (by lia) (by lia), f (rsz a b c) (by lia) (by lia), f (b + (c - 1)) (by lia) (by lia), f (b + (c + 1)) (by lia) (by lia)]
      simp
    refine holds_meets (S := S_riter r a t b u c v) rfl pl F.entry_range_iter (AutoRange.range___iter___range_1 r a b c t u v cond) (fun A h g d tk os At => ?_)
    refine ⟨At.mem _ mcS, [h.objs.size], [], rfl, ?_, rfl, rfl, rfl⟩
    have cond' := cond
    rw [Bool.not_eq_true, Bool.not_eq_false'] at cond'
    show Spec.Ends _ _ _ _ (h.push _)
    rw [if_pos cond']
    exact ends_new rfl rfl rfl rfl rfl
  · intro Γ p h' g d t' os hc hh hb hbl At
    exact absurd (At.need _ mcS) hq
noncomputable def D_riter {V : Vn} : Dp V := ⟨1, fun as os _ => match as with
  | [r] => match os with
    | [o] => match o.data with
      | .fields vs => match vs.toList with
        | [a, b, c] => some ⟨S_riter r (intOf a) (tokOf a) (intOf b) (tokOf b) (intOf c) (tokOf c), riter_at⟩
        | _ => none
      | _ => none
    | _ => none
  | _ => none⟩
theorem Spec.Holds.toks {V : Vn} {S : Spec} (h : S.Holds V) (f : List Nat → List Nat) {nt : Nat} {res : List Nat → List Nat → Result} {postT : List Nat → List Nat → List (Option Obj)} {postN : List Nat → List Nat → List Obj}
    (hf : ∀ as ts, ts.length = S.nt → (f ts).length = nt ∧ res as (f ts) = S.res as ts ∧ postT as (f ts) = S.postT as ts ∧ postN as (f ts) = S.postN as ts) : ({ S with nt := nt, res := res, postT := postT, postN := postN } : Spec).Holds V := by
  intro Γ p hp g d t os hc hh hb hl A
  obtain ⟨as, ts, h', t', r, E⟩ := h Γ p hp g d t os hc hh hb hl ⟨A.kt, A.mem, A.off, A.apart, A.lim, A.need⟩
  obtain ⟨e1, e2, e3, e4⟩ := hf as ts E.nt
  refine ⟨as, f ts, h', t', ?_, ⟨E.na, e1, ?_, ?_, E.keep, E.fresh, E.apart, E.size⟩⟩
  · show Returns V.M Γ p _ (res as (f ts)) _
    rw [e2]; exact r
  · show ∀ i (hi : i < (postT as (f ts)).length) o, (postT as (f ts))[i] = some o → _
    rw [e3]; exact E.postT
  · show ∀ i (hi : i < (postN as (f ts)).length), _ = some (postN as (f ts))[i]
    rw [e4]; exact E.postN
theorem Spec.Holds.raw {V : Vn} {S : Spec} {p q : List Nat} (h : S.Holds V) : ({ S with rawP := p, rawQ := q } : Spec).Holds V := by
  intro Γ pp hp g d t os hc hh hb hl A
  obtain ⟨as, ts, h', t', r, E⟩ := h Γ pp hp g d t os hc hh hb hl ⟨A.kt, A.mem, A.off, A.apart, A.lim, A.need⟩
  exact ⟨as, ts, h', t', r, ⟨E.na, E.nt, E.postT, E.postN, E.keep, E.fresh, E.apart, E.size⟩⟩
noncomputable def isI (v : Value) : Bool := match v with | .int .. => true | _ => false
noncomputable def simV (v : Value) : Bool := match v with | .none => true | .int .. => true | .bytes .. => true | _ => false
noncomputable def simAll (vs : Array Value) : Bool := vs.toList.all simV
theorem sim_easy {v : Value} (h : simV v = true) : easy v = true := by cases v <;> first | rfl | cases h
theorem simAll_easy {vs : Array Value} (h : simAll vs = true) : easyAll vs = true := List.all_eq_true.mpr fun v hv => sim_easy (List.all_eq_true.mp h v hv)
noncomputable def tabI (ks vs : Array Value) : Bool := ks.toList.all isI && (Nat.beq ks.size vs.size && (Nat.blt ks.size 1000 && simAll vs))
theorem tabI_iff {ks vs : Array Value} : tabI ks vs = true ↔ (∀ k ∈ ks.toList, isI k = true) ∧ ks.size = vs.size ∧ ks.size < 1000 ∧ simAll vs = true := by
  unfold tabI
  rw [Bool.and_eq_true, Bool.and_eq_true, Bool.and_eq_true, List.all_eq_true]
  constructor
  · rintro ⟨a, b, c, d⟩; exact ⟨a, Nat.eq_of_beq_eq_true b, blt_iff c, d⟩
  · rintro ⟨a, b, c, d⟩; exact ⟨a, by rw [b]; exact Nat.beq_refl _, Nat.ble_eq_true_of_le c, d⟩
theorem tabI_need {ks vs : Array Value} (h : tabI ks vs = true) (x : Int) (t : Nat) : ∀ b ∈ tabNeed ks vs (.int x t), b = true := by
  obtain ⟨h1, h2, h3, h4⟩ := tabI_iff.1 h
  intro b hb
  simp only [tabNeed, List.mem_cons, List.not_mem_nil, or_false] at hb
  rcases hb with rfl | rfl | rfl
  · show (true && kinds ks (.int x t)) = true
    rw [Bool.true_and]
    refine List.all_eq_true.mpr fun k hk => ?_
    have := h1 k hk
    cases k <;> first | rfl | cases this
  · rw [Bool.and_eq_true, h2]
    exact ⟨Nat.beq_refl _, Nat.ble_eq_true_of_le (h2 ▸ h3)⟩
  · exact simAll_easy h4
noncomputable def getI (ks vs : Array Value) (x : Int) : Value := getV ks vs (.int x 0)
theorem sameV_tok (k : Value) (x : Int) (t u : Nat) : sameV k (.int x t) = sameV k (.int x u) := by cases k <;> rfl
theorem findI_tok (x : Int) (t u : Nat) : ∀ (ks : List Value) (i : Nat), findI ks (.int x t) i = findI ks (.int x u) i
  | [], _ => rfl
  | k :: ks, i => by
    unfold findI
    rw [sameV_tok k x t u, findI_tok x t u ks (i + 1)]
theorem getI_tok (ks vs : Array Value) (x : Int) (t : Nat) : getV ks vs (.int x t) = getI ks vs x := by
  unfold getI getV
  rw [findI_tok x t 0]
theorem get_int (w : World) (a d : Nat) (T : Tab) (ks : Array Value) (m : Nat) (vs : Array Value) (mv : Nat) (x : Int) (t : Nat) : (S_get a d T ks m vs mv (.int x t) [tabI ks vs] (getI ks vs x)).Holds (VV w) :=
  Spec.Holds.more (S := S_get a d T ks m vs mv (.int x t) [] (getI ks vs x)) (fun q => by
    rw [← getI_tok ks vs x t]
    exact Spec.Holds.less (get_any w a d T ks m vs mv (.int x t)) (tabI_need (q _ mcS) x t)) rfl
theorem set_int (w : World) (a d : Nat) (T : Tab) (ks : Array Value) (m : Nat) (vs : Array Value) (mv : Nat) (x : Int) (t : Nat) (v : Value) : (S_set a d T ks m vs mv (.int x t) v [tabI ks vs && easy v] (setKs ks (.int x t) v) (setM ks (.int x t) v m) (setVs ks vs (.int x t) v) (setM ks (.int x t) v mv)).Holds (VV w) :=
  Spec.Holds.more (S := S_set a d T ks m vs mv (.int x t) v [] (setKs ks (.int x t) v) (setM ks (.int x t) v m) (setVs ks vs (.int x t) v) (setM ks (.int x t) v mv)) (fun q => by
    have q := q _ mcS
    rw [Bool.and_eq_true] at q
    exact Spec.Holds.less (set_any w a d T ks m vs mv (.int x t) v) (by
      intro b hb
      rcases List.mem_cons.mp hb with rfl | hb
      · exact q.2
      · exact tabI_need q.1 x t b hb)) rfl
theorem findI_push {key : Value} (hs : sameV key key = true) : ∀ {ks : List Value} {i : Nat}, findI ks key i = none → ∀ key' : Value, findI (ks ++ [key]) key' i = match findI ks key' i with | some j => some j | none => match sameV key key' with | true => some (i + ks.length) | false => none
  | [], i, _, key' => by
    show (match sameV key key' with | true => some i | false => none) = _
    rfl
  | k :: ks, i, h, key' => by
    unfold findI at h
    cases e : sameV k key with
    | true => rw [e] at h; cases h
    | false =>
      rw [e] at h
      show findI (k :: (ks ++ [key])) key' i = _
      unfold findI
      cases e' : sameV k key' with
      | true => rfl
      | false =>
        show findI (ks ++ [key]) key' (i + 1) = _
        rw [findI_push hs h key']
        have : i + 1 + ks.length = i + (k :: ks).length := by rw [List.length_cons]; lia
        rw [this]
theorem sameV_int (x y : Int) (t u : Nat) : sameV (.int x t) (.int y u) = true ↔ x = y := by
  show @decide (x = y) (Z.eqZ x y) = true ↔ _
  exact @decide_eq_true_iff _ (Z.eqZ x y)
theorem isI_eq {v : Value} (h : isI v = true) : ∃ x t, v = .int x t := by cases v <;> first | exact ⟨_, _, rfl⟩ | cases h
theorem findI_eqv {x y : Int} {t u : Nat} : ∀ {ks : List Value} {i j : Nat}, (∀ k ∈ ks, isI k = true) → findI ks (.int x t) i = some j → findI ks (.int y u) i = some j → x = y
  | [], _, _, _, h, _ => nomatch h
  | k :: ks, i, j, hk, h, h' => by
    obtain ⟨z, s, rfl⟩ := isI_eq (hk k mcS)
    unfold findI at h h'
    cases e : sameV (.int z s) (.int x t) with
    | true =>
      rw [e] at h
      cases e' : sameV (.int z s) (.int y u) with
      | true => exact ((sameV_int ..).1 e).symm.trans ((sameV_int ..).1 e')
      | false =>
        rw [e'] at h'
        have h : some i = some j := h
        cases h
        have := findI_lt h'
        lia
    | false =>
      rw [e] at h
      cases e' : sameV (.int z s) (.int y u) with
      | true =>
        rw [e'] at h'
        have h' : some i = some j := h'
        cases h'
        have := findI_lt h
        lia
      | false =>
        rw [e'] at h'
        exact findI_eqv (fun k hk' => hk k (mcT hk')) h h'
theorem isNo_none {v : Value} (h : isNo v = true) : v = .none := by cases v <;> first | rfl | cases h
theorem getI_set {ks vs : Array Value} (h : tabI ks vs = true) (x : Int) (t : Nat) (v : Value) (y : Int) : getI (setKs ks (.int x t) v) (setVs ks vs (.int x t) v) y = if y = x then v else getI ks vs y := by
  obtain ⟨h1, h2, h3, h4⟩ := tabI_iff.1 h
  unfold getI getV setKs setVs
  cases hf : findI ks.toList (.int x t) 0 with
  | some j =>
    have hj : j < vs.size := by have := findI_lt hf; rw [Array.length_toList] at this; lia
    show (match findI ks.toList (.int y 0) 0 with | some j' => (vs.setIfInBounds j v).toList.getD j' .none | none => .none) = _
    by_cases e : y = x
    · subst e
      rw [findI_tok y 0 t, hf, if_pos rfl]
      show (vs.setIfInBounds j v).toList.getD j .none = v
      rw [List.getD_eq_getElem?_getD, Array.getElem?_toList, Array.getElem?_setIfInBounds_self_of_lt hj]; rfl
    · rw [if_neg e]
      cases hf' : findI ks.toList (.int y 0) 0 with
      | none => rfl
      | some j' =>
        show (vs.setIfInBounds j v).toList.getD j' .none = vs.toList.getD j' .none
        have : j ≠ j' := fun q => e (by subst q; exact (findI_eqv h1 hf hf').symm)
        rw [List.getD_eq_getElem?_getD, List.getD_eq_getElem?_getD, Array.getElem?_toList, Array.getElem?_toList, Array.getElem?_setIfInBounds_ne this]
  | none =>
    show (match findI (match isNo v with | true => ks | false => ks.push (.int x t)).toList (.int y 0) 0 with | some j' => (match isNo v with | true => vs | false => vs.push v).toList.getD j' .none | none => .none) = _
    cases hn : isNo v with
    | true =>
      show (match findI ks.toList (.int y 0) 0 with | some j' => vs.toList.getD j' .none | none => .none) = _
      by_cases e : y = x
      · subst e
        rw [findI_tok y 0 t, hf, if_pos rfl, isNo_none hn]
      · rw [if_neg e]
        try rfl
    | false =>
      show (match findI (ks.push (.int x t)).toList (.int y 0) 0 with | some j' => (vs.push v).toList.getD j' .none | none => .none) = _
      rw [Array.toList_push, Array.toList_push, findI_push ((sameV_int ..).2 rfl) hf]
      cases hf' : findI ks.toList (.int y 0) 0 with
      | some j' =>
        have hj : j' < vs.toList.length := by have := findI_lt hf'; rw [Array.length_toList] at this; rw [Array.length_toList]; lia
        have e : y ≠ x := fun q => by subst q; rw [findI_tok y t 0, hf'] at hf; cases hf
        rw [if_neg e]
        show (vs.toList ++ [v]).getD j' .none = vs.toList.getD j' .none
        rw [List.getD_eq_getElem?_getD, List.getD_eq_getElem?_getD, List.getElem?_append_left hj]
      | none =>
        show (match (match sameV (.int x t) (.int y 0) with | true => some (0 + ks.toList.length) | false => none) with | some j' => (vs.toList ++ [v]).getD j' .none | none => .none) = _
        by_cases e : y = x
        · subst e
          rw [(sameV_int y y t 0).2 rfl, if_pos rfl]
          show (vs.toList ++ [v]).getD (0 + ks.toList.length) .none = v
          have : 0 + ks.toList.length = vs.toList.length := by rw [Array.length_toList, Array.length_toList]; lia
          rw [this, List.getD_eq_getElem?_getD, List.getElem?_append_right (Nat.le_refl _), Nat.sub_self]; rfl
        · rw [if_neg e]
          cases e' : sameV (.int x t) (.int y 0) with
          | true => exact absurd ((sameV_int ..).1 e').symm e
          | false => rfl
theorem sim_getI {ks vs : Array Value} (h : tabI ks vs = true) (x : Int) : simV (getI ks vs x) = true := by
  obtain ⟨h1, h2, h3, h4⟩ := tabI_iff.1 h
  unfold getI getV
  cases hf : findI ks.toList (.int x 0) 0 with
  | none => rfl
  | some j =>
    show simV (vs.toList.getD j .none) = true
    rw [List.getD_eq_getElem?_getD]
    cases hj : vs.toList[j]? with
    | none => rfl
    | some v => exact List.all_eq_true.mp h4 v (List.mem_of_getElem? hj)
theorem setKs_size (ks : Array Value) (key v : Value) : (setKs ks key v).size ≤ ks.size + 1 := by
  unfold setKs
  split
  · lia
  · split
    · lia
    · rw [Array.size_push]; lia
theorem tabI_set {ks vs : Array Value} (h : tabI ks vs = true) (x : Int) (t : Nat) {v : Value} (hv : simV v = true) (hs : ks.size + 1 < 1000) : tabI (setKs ks (.int x t) v) (setVs ks vs (.int x t) v) = true := by
  obtain ⟨h1, h2, h3, h4⟩ := tabI_iff.1 h
  refine tabI_iff.2 ?_
  unfold setKs setVs
  cases hf : findI ks.toList (.int x t) 0 with
  | some j =>
    refine ⟨h1, by show ks.size = (vs.setIfInBounds j v).size; rw [Array.size_setIfInBounds]; exact h2, h3, ?_⟩
    show simAll (vs.setIfInBounds j v) = true
    unfold simAll
    refine List.all_eq_true.mpr fun z hz => ?_
    rw [Array.toList_setIfInBounds] at hz
    rcases List.mem_or_eq_of_mem_set hz with q | rfl
    · exact List.all_eq_true.mp h4 z q
    · exact hv
  | none =>
    cases hn : isNo v with
    | true => exact ⟨h1, h2, h3, h4⟩
    | false =>
      refine ⟨fun k hk => ?_, by show (ks.push _).size = (vs.push v).size; rw [Array.size_push, Array.size_push, h2], by show (ks.push _).size < 1000; rw [Array.size_push]; exact hs, ?_⟩
      · have hk : k ∈ (ks.push (.int x t)).toList := hk
        rw [Array.toList_push, List.mem_append, List.mem_singleton] at hk
        rcases hk with q | rfl
        · exact h1 k q
        · rfl
      · show simAll (vs.push v) = true
        unfold simAll
        rw [Array.toList_push, List.all_append, Bool.and_eq_true]
        exact ⟨h4, by rw [List.all_cons, hv]; rfl⟩
noncomputable def D_getI (w : World) (x : Int) (t : Nat) : Dp (VV w) := ⟨4, fun as os _ => match as with
  | [a, d, _, _] => match os with
    | [_, o2, o3, o4] => match tabOf o2 with
      | some T => match seqOf o3 with
        | some (ks, m) => match seqOf o4 with
          | some (vs, mv) => some ⟨_, get_int w a d T ks m vs mv x t⟩
          | none => none
        | none => none
      | none => none
    | _ => none
  | _ => none⟩
noncomputable def D_setI (w : World) (x : Int) (t : Nat) (v : Value) : Dp (VV w) := ⟨4, fun as os _ => match as with
  | [a, d, _, _] => match os with
    | [_, o2, o3, o4] => match tabOf o2 with
      | some T => match seqOf o3 with
        | some (ks, m) => match seqOf o4 with
          | some (vs, mv) => some ⟨{ S_set a d T ks m vs mv (.int x t) v [tabI ks vs && easy v] (setKs ks (.int x t) v) (setM ks (.int x t) v m) (setVs ks vs (.int x t) v) (setM ks (.int x t) v mv) with rawQ := [0,1] }, Spec.Holds.raw (set_int w a d T ks m vs mv x t v)⟩
          | none => none
        | none => none
      | none => none
    | _ => none
  | _ => none⟩
noncomputable def D_tickR (w : World) : Dp (VV w) := ⟨4, fun as os _ => match as with
  | [H, hd, _, ld] => match os with
    | [_, o2, _, o4] => match hostOf o2 with
      | some (S, v) => match limOf o4 with
        | some L => some ⟨{ S_tick H hd ld S L v.steps v.ts v.fr v.deep v.td with rawQ := [0] }, Spec.Holds.raw (tick w H hd ld S L v.steps v.ts v.fr v.deep v.td)⟩
        | none => none
      | none => none
    | _ => none
  | _ => none⟩
noncomputable def FI (w : World) (c : Code) : Option (Dp (VV w)) := match c with
  | .call (.ref a) ⟨[v, .int x t], []⟩ => match Nat.beq a 210 with
    | true => some (D_getI w x t)
    | false => FU w (.call (.ref a) ⟨[v, .int x t], []⟩)
  | .call (.ref a) ⟨[v, .int x t, v'], []⟩ => match Nat.beq a 217 with
    | true => some (D_setI w x t v')
    | false => FU w (.call (.ref a) ⟨[v, .int x t, v'], []⟩)
  | .builtin id ⟨[.ref a], []⟩ => match idIs id 1954752940192971970453299505619571 with
    | true => some D_riter
    | false => FU w (.builtin id ⟨[.ref a], []⟩)
  | c => FU w c
noncomputable def FIt (w : World) (c : Code) : Option (Dp (VV w)) := match c with
  | .call (.ref a) ⟨[v], []⟩ => match Nat.beq a 329 with
    | true => some (D_tickR w)
    | false => FI w (.call (.ref a) ⟨[v], []⟩)
  | c => FI w c
structure TabS where
  ks : Array Value
  m : Nat
  vs : Array Value
  mv : Nat
noncomputable def TabS.put (s : TabS) (x : Int) (t : Nat) (v : Value) : TabS := ⟨setKs s.ks (.int x t) v, setM s.ks (.int x t) v s.m, setVs s.ks s.vs (.int x t) v, setM s.ks (.int x t) v s.mv⟩
noncomputable def TabS.step (s : TabS) (x : Int) (t : Nat) : TabS := s.put x t (getI s.ks s.vs (x - 1))
noncomputable def insA : Nat → Nat → Int → TabS → TabS
  | 0, _, _, s => s
  | k + 1, n, x, s => insA k (snN n) (x + -1) (s.step x (fsN n))
structure LI where
  F : Nat
  I : Nat
  H : Nat
  hd : Nat
  ld : Nat
  tb : Nat
  d : Nat
  al : Nat
  h : Nat → Int
  t : Nat → Nat
  e : Int
  et : Nat
  p : Int
  pt : Nat
noncomputable abbrev esI5 (L : LI) : Array DictEntry := #[en (L.h 0) s4 (L.t 0) (.ref L.H), en (L.h 1) s5 (L.t 1) (.ref L.al), en (L.h 2) s6 (L.t 2) (.ref L.tb), en (L.h 3) s7 (L.t 3) (.int L.e L.et), en (L.h 4) s8 (L.t 4) (.int L.p L.pt)]
noncomputable abbrev esI6 (L : LI) (h6 : Int) (t6 : Nat) (x6 : Int) (u6 : Nat) : Array DictEntry := #[en (L.h 0) s4 (L.t 0) (.ref L.H), en (L.h 1) s5 (L.t 1) (.ref L.al), en (L.h 2) s6 (L.t 2) (.ref L.tb), en (L.h 3) s7 (L.t 3) (.int L.e L.et), en (L.h 4) s8 (L.t 4) (.int L.p L.pt), en h6 s0 t6 (.int x6 u6)]
noncomputable def S_il (w : World) (L : LI) (es : Array DictEntry) (n : Nat) (S : Hst) (M : Lim) (T : Tab) (x left : Int) (steps : Int) (ts fr : Nat) (deep : Int) (td : Nat) (s : TabS) (nd : List Bool) (nt : Nat) (postT : List Nat → List (Option Obj)) : Spec := {
  code := forCode (nthS (bodyOf (o649 w.params)) 6) (.ref L.I) (envF (o649 w.params) 649 L.F s9 [])
  dep := 700, need := nd
  pre := [(L.F, oFrame es n), (L.I, oRI x left (-1)), (L.H, oInst 451 L.hd), (L.hd, S.obj steps ts fr deep td), (S.lim, oInst 53 L.ld), (L.ld, M.obj), (L.tb, oInst 234 L.d), (L.d, T.obj), (T.kl, oList s.ks s.m), (T.vl, oList s.vs s.mv)]
  touch := [0,1,3,8,9], na := 0, nt := nt, res := fun _ _ => .ok .next, postT := fun _ ts => postT ts, postN := fun _ _ => [], rawP := [3,7,8,9], rawQ := [2,3,4] }
noncomputable def lastI (k : Nat) (x x6 : Int) : Int := match k with | 0 => x6 | k + 1 => x - Int.ofNat k
noncomputable def ilP (L : LI) (h6 : Int) (t6 : Nat) (x6 : Int) (n : Nat) (S : Hst) (k : Nat) (x steps : Int) (fr : Nat) (deep : Int) (td : Nat) (s : TabS) (ts : List Nat) : List (Option Obj) := [some (oFrame (esI6 L h6 t6 (lastI k x x6) (nth ts 2)) n), none, some (S.obj (steps + Int.ofNat k) (nth ts 1) fr deep td), some (oList (insA k (nth ts 0) x s).ks (insA k (nth ts 0) x s).m), some (oList (insA k (nth ts 0) x s).vs (insA k (nth ts 0) x s).mv)]
noncomputable def insG (k : Nat) (left : Int) (ks vs : Array Value) (steps lim : Int) : Bool := Nat.beq left.toNat k && (tabI ks vs && (Nat.blt (ks.size + k) 1000 && leB (steps + Int.ofNat k) lim))
noncomputable def F_ilR (w : World) (L : LI) (S : Hst) (M : Lim) (T : Tab) (k : Nat) (fr : Nat) (deep : Int) (td : Nat) (x : Int) (s : TabS) (v : Value) (hv : getI s.ks s.vs (x - 1) = v)
    (ih : ∀ (h6 : Int) (t6 : Nat) (x6 : Int) (u6 : Nat) (n : Nat) (x left steps : Int) (ts : Nat) (s : TabS), (S_il w L (esI6 L h6 t6 x6 u6) n S M T x left steps ts fr deep td s [insG k left s.ks s.vs steps (M.x 8)] 3 (ilP L h6 t6 x6 n S k x steps fr deep td s)).Holds (VV w)) (c : Code) : Option (Dp (VV w)) := match c with
  | .forLoop _ _ _ _ _ => some ⟨10, fun _ os _ => match os with
    | [oF, oI, _, oH, _, _, _, _, ok, ov] => match oI.data with
      | .fields vs => match hostOf oH with
        | some (_, z) => match seqOf ok with
          | some (ks, m) => match seqOf ov with
            | some (ws, mv) => some ⟨_, ih (enAt (match oF.data with | .dict es _ => es | _ => #[]) 5).hash (strTok (enAt (match oF.data with | .dict es _ => es | _ => #[]) 5).key) (intOf (enAt (match oF.data with | .dict es _ => es | _ => #[]) 5).val) (tokOf (enAt (match oF.data with | .dict es _ => es | _ => #[]) 5).val) (match oF.data with | .dict _ n => n | _ => 0) (intOf (vs.toList.getD 0 .none)) (intOf (vs.toList.getD 1 .none)) z.steps z.ts ⟨ks, m, ws, mv⟩⟩
            | none => none
          | none => none
        | none => none
      | _ => none
    | _ => none⟩
  | .call (.ref a) ⟨[r, .int y t], []⟩ => match Nat.beq a 210 with
    | true => some ⟨4, fun _ _ _ => some ⟨S_get L.tb L.d T s.ks s.m s.vs s.mv (.int (x - 1) t) [tabI s.ks s.vs] v, hv ▸ get_int w L.tb L.d T s.ks s.m s.vs s.mv (x - 1) t⟩⟩
    | false => FIt w (.call (.ref a) ⟨[r, .int y t], []⟩)
  | c => FIt w c
theorem il5E (w : World) (L : LI)  (n : Nat) (S : Hst) (M : Lim) (T : Tab) (x left steps : Int) (ts fr : Nat) (deep : Int) (td : Nat) (s : TabS) : (S_il w L (esI5 L) n S M T x left steps ts fr deep td s [!ltB 0 left] 0 (fun _ => [some (oFrame (esI5 L) n), none, some (S.obj steps ts fr deep td), some (oList s.ks s.m), some (oList s.vs s.mv)])).Holds (VV w) :=
  sF (F := FI w) (vok _) 400 ⟨[2,2,2,1,1,12], [], []⟩ fun m t => by kernel_rfl
theorem il5TN (w : World) (L : LI)  (n : Nat) (S : Hst) (M : Lim) (T : Tab) (k : Nat) (x left steps : Int) (ts fr : Nat) (deep : Int) (td : Nat) (s : TabS)  (hv : getI s.ks s.vs (x - 1) = .none) (hN : ∀ t, insG k (left - 1) (s.put x t .none).ks (s.put x t .none).vs (steps + 1) (M.x 8) = true) (ih : ∀ (w : World) (h6 : Int) (t6 : Nat) (x6 : Int) (u6 : Nat) (n : Nat) (x left steps : Int) (ts : Nat) (s : TabS), (S_il w L (esI6 L h6 t6 x6 u6) n S M T x left steps ts fr deep td s [insG k left s.ks s.vs steps (M.x 8)] 3 (ilP L h6 t6 x6 n S k x steps fr deep td s)).Holds (VV w)) : (S_il w L (esI5 L) n S M T x left steps ts fr deep td s [ltB 0 left, !ltB (M.x 8) (steps + 1), tabI s.ks s.vs, tabI s.ks s.vs && true] 5 (fun ts => ilP L (hashOfZ w.params s0) (nth ts 4) x (n + 1) S k (x + -1) (steps + 1) fr deep td (s.put x (nth ts 0) .none) [nth ts 1, nth ts 2, nth ts 3])).Holds (VV w) :=
  sN (F := F_ilR w L S M T k fr deep td x s .none hv (ih w)) (vok _) (⟨[fun ns => insG k (left - 1) (s.put x (nth ns 0) .none).ks (s.put x (nth ns 0) .none).vs (steps + 1) (M.x 8)], fun f hf ns => by rw [List.mem_singleton.mp hf]; exact hN _⟩) 1000 ⟨q1, [], [0,5,6,7,1]⟩ fun m t => by kernel_rfl
theorem il5TB (w : World) (L : LI)  (n : Nat) (S : Hst) (M : Lim) (T : Tab) (k : Nat) (x left steps : Int) (ts fr : Nat) (deep : Int) (td : Nat) (s : TabS) (y : Array UInt8) (u : Nat) (hv : getI s.ks s.vs (x - 1) = (.bytes y u)) (hN : ∀ t, insG k (left - 1) (s.put x t (.bytes y u)).ks (s.put x t (.bytes y u)).vs (steps + 1) (M.x 8) = true) (ih : ∀ (w : World) (h6 : Int) (t6 : Nat) (x6 : Int) (u6 : Nat) (n : Nat) (x left steps : Int) (ts : Nat) (s : TabS), (S_il w L (esI6 L h6 t6 x6 u6) n S M T x left steps ts fr deep td s [insG k left s.ks s.vs steps (M.x 8)] 3 (ilP L h6 t6 x6 n S k x steps fr deep td s)).Holds (VV w)) : (S_il w L (esI5 L) n S M T x left steps ts fr deep td s [ltB 0 left, !ltB (M.x 8) (steps + 1), tabI s.ks s.vs, tabI s.ks s.vs && true] 5 (fun ts => ilP L (hashOfZ w.params s0) (nth ts 4) x (n + 1) S k (x + -1) (steps + 1) fr deep td (s.put x (nth ts 0) (.bytes y u)) [nth ts 1, nth ts 2, nth ts 3])).Holds (VV w) :=
  sN (F := F_ilR w L S M T k fr deep td x s (.bytes y u) hv (ih w)) (vok _) (⟨[fun ns => insG k (left - 1) (s.put x (nth ns 0) (.bytes y u)).ks (s.put x (nth ns 0) (.bytes y u)).vs (steps + 1) (M.x 8)], fun f hf ns => by rw [List.mem_singleton.mp hf]; exact hN _⟩) 1000 ⟨cp q1 0 93 ([]), [], [0,5,6,7,1]⟩ fun m t => by kernel_rfl
theorem il5TI (w : World) (L : LI)  (n : Nat) (S : Hst) (M : Lim) (T : Tab) (k : Nat) (x left steps : Int) (ts fr : Nat) (deep : Int) (td : Nat) (s : TabS) (y : Int) (u : Nat) (hv : getI s.ks s.vs (x - 1) = (.int y u)) (hN : ∀ t, insG k (left - 1) (s.put x t (.int y u)).ks (s.put x t (.int y u)).vs (steps + 1) (M.x 8) = true) (ih : ∀ (w : World) (h6 : Int) (t6 : Nat) (x6 : Int) (u6 : Nat) (n : Nat) (x left steps : Int) (ts : Nat) (s : TabS), (S_il w L (esI6 L h6 t6 x6 u6) n S M T x left steps ts fr deep td s [insG k left s.ks s.vs steps (M.x 8)] 3 (ilP L h6 t6 x6 n S k x steps fr deep td s)).Holds (VV w)) : (S_il w L (esI5 L) n S M T x left steps ts fr deep td s [ltB 0 left, !ltB (M.x 8) (steps + 1), tabI s.ks s.vs, tabI s.ks s.vs && true] 5 (fun ts => ilP L (hashOfZ w.params s0) (nth ts 4) x (n + 1) S k (x + -1) (steps + 1) fr deep td (s.put x (nth ts 0) (.int y u)) [nth ts 1, nth ts 2, nth ts 3])).Holds (VV w) :=
  sN (F := F_ilR w L S M T k fr deep td x s (.int y u) hv (ih w)) (vok _) (⟨[fun ns => insG k (left - 1) (s.put x (nth ns 0) (.int y u)).ks (s.put x (nth ns 0) (.int y u)).vs (steps + 1) (M.x 8)], fun f hf ns => by rw [List.mem_singleton.mp hf]; exact hN _⟩) 1000 ⟨cp q1 0 93 ([]), [], [0,5,6,7,1]⟩ fun m t => by kernel_rfl
theorem il6E (w : World) (L : LI) (h6 : Int) (t6 : Nat) (x6 : Int) (u6 : Nat) (n : Nat) (S : Hst) (M : Lim) (T : Tab) (x left steps : Int) (ts fr : Nat) (deep : Int) (td : Nat) (s : TabS) : (S_il w L (esI6 L h6 t6 x6 u6) n S M T x left steps ts fr deep td s [!ltB 0 left] 0 (fun _ => [some (oFrame (esI6 L h6 t6 x6 u6) n), none, some (S.obj steps ts fr deep td), some (oList s.ks s.m), some (oList s.vs s.mv)])).Holds (VV w) :=
  sF (F := FI w) (vok _) 400 ⟨[2,2,2,1,1,12], [], []⟩ fun m t => by kernel_rfl
theorem il6TN (w : World) (L : LI) (h6 : Int) (t6 : Nat) (x6 : Int) (u6 : Nat) (n : Nat) (S : Hst) (M : Lim) (T : Tab) (k : Nat) (x left steps : Int) (ts fr : Nat) (deep : Int) (td : Nat) (s : TabS)  (hv : getI s.ks s.vs (x - 1) = .none) (hN : ∀ t, insG k (left - 1) (s.put x t .none).ks (s.put x t .none).vs (steps + 1) (M.x 8) = true) (ih : ∀ (w : World) (h6 : Int) (t6 : Nat) (x6 : Int) (u6 : Nat) (n : Nat) (x left steps : Int) (ts : Nat) (s : TabS), (S_il w L (esI6 L h6 t6 x6 u6) n S M T x left steps ts fr deep td s [insG k left s.ks s.vs steps (M.x 8)] 3 (ilP L h6 t6 x6 n S k x steps fr deep td s)).Holds (VV w)) : (S_il w L (esI6 L h6 t6 x6 u6) n S M T x left steps ts fr deep td s [ltB 0 left, !ltB (M.x 8) (steps + 1), tabI s.ks s.vs, tabI s.ks s.vs && true] 4 (fun ts => ilP L h6 t6 x n S k (x + -1) (steps + 1) fr deep td (s.put x (nth ts 0) .none) [nth ts 1, nth ts 2, nth ts 3])).Holds (VV w) :=
  sN (F := F_ilR w L S M T k fr deep td x s .none hv (ih w)) (vok _) (⟨[fun ns => insG k (left - 1) (s.put x (nth ns 0) .none).ks (s.put x (nth ns 0) .none).vs (steps + 1) (M.x 8)], fun f hf ns => by rw [List.mem_singleton.mp hf]; exact hN _⟩) 1000 ⟨cp q1 0 93 ([]), [], [0,5,6,7]⟩ fun m t => by kernel_rfl
theorem il6TB (w : World) (L : LI) (h6 : Int) (t6 : Nat) (x6 : Int) (u6 : Nat) (n : Nat) (S : Hst) (M : Lim) (T : Tab) (k : Nat) (x left steps : Int) (ts fr : Nat) (deep : Int) (td : Nat) (s : TabS) (y : Array UInt8) (u : Nat) (hv : getI s.ks s.vs (x - 1) = (.bytes y u)) (hN : ∀ t, insG k (left - 1) (s.put x t (.bytes y u)).ks (s.put x t (.bytes y u)).vs (steps + 1) (M.x 8) = true) (ih : ∀ (w : World) (h6 : Int) (t6 : Nat) (x6 : Int) (u6 : Nat) (n : Nat) (x left steps : Int) (ts : Nat) (s : TabS), (S_il w L (esI6 L h6 t6 x6 u6) n S M T x left steps ts fr deep td s [insG k left s.ks s.vs steps (M.x 8)] 3 (ilP L h6 t6 x6 n S k x steps fr deep td s)).Holds (VV w)) : (S_il w L (esI6 L h6 t6 x6 u6) n S M T x left steps ts fr deep td s [ltB 0 left, !ltB (M.x 8) (steps + 1), tabI s.ks s.vs, tabI s.ks s.vs && true] 4 (fun ts => ilP L h6 t6 x n S k (x + -1) (steps + 1) fr deep td (s.put x (nth ts 0) (.bytes y u)) [nth ts 1, nth ts 2, nth ts 3])).Holds (VV w) :=
  sN (F := F_ilR w L S M T k fr deep td x s (.bytes y u) hv (ih w)) (vok _) (⟨[fun ns => insG k (left - 1) (s.put x (nth ns 0) (.bytes y u)).ks (s.put x (nth ns 0) (.bytes y u)).vs (steps + 1) (M.x 8)], fun f hf ns => by rw [List.mem_singleton.mp hf]; exact hN _⟩) 1000 ⟨cp q1 0 93 ([]), [], [0,5,6,7]⟩ fun m t => by kernel_rfl
theorem il6TI (w : World) (L : LI) (h6 : Int) (t6 : Nat) (x6 : Int) (u6 : Nat) (n : Nat) (S : Hst) (M : Lim) (T : Tab) (k : Nat) (x left steps : Int) (ts fr : Nat) (deep : Int) (td : Nat) (s : TabS) (y : Int) (u : Nat) (hv : getI s.ks s.vs (x - 1) = (.int y u)) (hN : ∀ t, insG k (left - 1) (s.put x t (.int y u)).ks (s.put x t (.int y u)).vs (steps + 1) (M.x 8) = true) (ih : ∀ (w : World) (h6 : Int) (t6 : Nat) (x6 : Int) (u6 : Nat) (n : Nat) (x left steps : Int) (ts : Nat) (s : TabS), (S_il w L (esI6 L h6 t6 x6 u6) n S M T x left steps ts fr deep td s [insG k left s.ks s.vs steps (M.x 8)] 3 (ilP L h6 t6 x6 n S k x steps fr deep td s)).Holds (VV w)) : (S_il w L (esI6 L h6 t6 x6 u6) n S M T x left steps ts fr deep td s [ltB 0 left, !ltB (M.x 8) (steps + 1), tabI s.ks s.vs, tabI s.ks s.vs && true] 4 (fun ts => ilP L h6 t6 x n S k (x + -1) (steps + 1) fr deep td (s.put x (nth ts 0) (.int y u)) [nth ts 1, nth ts 2, nth ts 3])).Holds (VV w) :=
  sN (F := F_ilR w L S M T k fr deep td x s (.int y u) hv (ih w)) (vok _) (⟨[fun ns => insG k (left - 1) (s.put x (nth ns 0) (.int y u)).ks (s.put x (nth ns 0) (.int y u)).vs (steps + 1) (M.x 8)], fun f hf ns => by rw [List.mem_singleton.mp hf]; exact hN _⟩) 1000 ⟨cp q1 0 93 ([]), [], [0,5,6,7]⟩ fun m t => by kernel_rfl
theorem insG_iff {k : Nat} {left : Int} {ks vs : Array Value} {steps lim : Int} : insG k left ks vs steps lim = true ↔ left.toNat = k ∧ tabI ks vs = true ∧ ks.size + k < 1000 ∧ steps + (k : Int) ≤ lim := by
  unfold insG
  rw [Bool.and_eq_true, Bool.and_eq_true, Bool.and_eq_true, leB_iff']
  constructor
  · rintro ⟨a, b, c, d⟩; exact ⟨Nat.eq_of_beq_eq_true a, b, blt_iff c, d⟩
  · rintro ⟨a, b, c, d⟩; exact ⟨by rw [a]; exact Nat.beq_refl _, b, Nat.ble_eq_true_of_le c, d⟩
theorem simV_cases {v : Value} (h : simV v = true) : v = .none ∨ (∃ y u, v = .bytes y u) ∨ ∃ y u, v = .int y u := by
  cases v <;> first | exact .inl rfl | exact .inr (.inl ⟨_, _, rfl⟩) | exact .inr (.inr ⟨_, _, rfl⟩) | cases h
theorem insG_put {k : Nat} {left : Int} {s : TabS} {steps lim : Int} (h : insG (k + 1) left s.ks s.vs steps lim = true) (x : Int) {v : Value} (hv : simV v = true) (t : Nat) : insG k (left - 1) (s.put x t v).ks (s.put x t v).vs (steps + 1) lim = true := by
  obtain ⟨h1, h2, h3, h4⟩ := insG_iff.1 h
  refine insG_iff.2 ⟨by lia, tabI_set h2 x t hv (by lia), ?_, by lia⟩
  have := setKs_size s.ks (.int x t) v
  show (setKs s.ks (.int x t) v).size + k < 1000
  lia
theorem insG_needs {k : Nat} {left : Int} {s : TabS} {steps lim : Int} (h : insG (k + 1) left s.ks s.vs steps lim = true) : ∀ b ∈ [ltB 0 left, !ltB lim (steps + 1), tabI s.ks s.vs, tabI s.ks s.vs && true], b = true := by
  obtain ⟨h1, h2, h3, h4⟩ := insG_iff.1 h
  intro b hb
  simp only [List.mem_cons, List.not_mem_nil, or_false] at hb
  rcases hb with rfl | rfl | rfl | rfl
  · exact ltB_iff'.2 (by lia)
  · exact notB ltB_iff' (by lia)
  · exact h2
  · rw [h2]; rfl
theorem lastI_succ (k : Nat) (x x6 : Int) : lastI (k + 1) x x6 = lastI k (x + -1) x := by
  cases k with
  | zero => show x - ((0 : Nat) : Int) = x; lia
  | succ k => show x - ((k + 1 : Nat) : Int) = x + -1 - (k : Int); lia
theorem ilP_succ (L : LI) (h6 : Int) (t6 : Nat) (x6 : Int) (n : Nat) (S : Hst) (k : Nat) (x steps : Int) (fr : Nat) (deep : Int) (td : Nat) (s : TabS) (a b c d : Nat) : ilP L h6 t6 x6 n S (k + 1) x steps fr deep td s [prN a b, c, d] = ilP L h6 t6 x n S k (x + -1) (steps + 1) fr deep td (s.step x a) [b, c, d] := by
  have e : insA (k + 1) (prN a b) x s = insA k b (x + -1) (s.step x a) := by
    show insA k (snN (prN a b)) (x + -1) (s.step x (fsN (prN a b))) = _
    rw [snN_pr, fsN_pr]
  have e2 : steps + Int.ofNat (k + 1) = steps + 1 + Int.ofNat k := by
    show steps + ((k + 1 : Nat) : Int) = steps + 1 + (k : Int)
    lia
  show [some (oFrame (esI6 L h6 t6 (lastI (k + 1) x x6) d) n), none, some (S.obj (steps + Int.ofNat (k + 1)) c fr deep td), some (oList (insA (k + 1) (prN a b) x s).ks (insA (k + 1) (prN a b) x s).m), some (oList (insA (k + 1) (prN a b) x s).vs (insA (k + 1) (prN a b) x s).mv)] = _
  rw [e, e2, lastI_succ]; rfl
theorem len4 {ts : List Nat} (h : ts.length = 4) : ∃ a b c d, ts = [a, b, c, d] := by
  match ts, h with
  | [a, b, c, d], _ => exact ⟨_, _, _, _, rfl⟩
theorem len5 {ts : List Nat} (h : ts.length = 5) : ∃ a b c d e, ts = [a, b, c, d, e] := by
  match ts, h with
  | [a, b, c, d, e], _ => exact ⟨_, _, _, _, _, rfl⟩
section
variable (L : LI) (S : Hst) (M : Lim) (T : Tab) (fr : Nat) (deep : Int) (td : Nat)
theorem il_later : ∀ (k : Nat) (w : World) (h6 : Int) (t6 : Nat) (x6 : Int) (u6 : Nat) (n : Nat) (x left steps : Int) (ts : Nat) (s : TabS), (S_il w L (esI6 L h6 t6 x6 u6) n S M T x left steps ts fr deep td s [insG k left s.ks s.vs steps (M.x 8)] 3 (ilP L h6 t6 x6 n S k x steps fr deep td s)).Holds (VV w)
  | 0, w, h6, t6, x6, u6, n, x, left, steps, ts, s => Spec.Holds.more (S := S_il w L (esI6 L h6 t6 x6 u6) n S M T x left steps ts fr deep td s [] 3 (ilP L h6 t6 x6 n S 0 x steps fr deep td s)) (fun q => by
    obtain ⟨h1, h2, h3, h4⟩ := insG_iff.1 (q _ mcS)
    have h := Spec.Holds.less (il6E w L h6 t6 x6 u6 n S M T x left steps ts fr deep td s) (by
      intro b hb
      change b ∈ [!ltB 0 left] at hb
      rw [List.mem_singleton.mp hb]
      exact notB ltB_iff' (by lia))
    refine Spec.Holds.toks h (fun _ => [0, ts, u6]) (fun as ts' hl => ⟨rfl, rfl, ?_, rfl⟩)
    show [some (oFrame (esI6 L h6 t6 x6 u6) n), none, some (S.obj (steps + Int.ofNat 0) ts fr deep td), some (oList s.ks s.m), some (oList s.vs s.mv)] = _
    have : steps + Int.ofNat 0 = steps := Int.add_zero _
    rw [this]; rfl) rfl
  | k + 1, w, h6, t6, x6, u6, n, x, left, steps, ts, s => Spec.Holds.more (S := S_il w L (esI6 L h6 t6 x6 u6) n S M T x left steps ts fr deep td s [] 3 (ilP L h6 t6 x6 n S (k + 1) x steps fr deep td s)) (fun q => by
    have q := q _ mcS
    have hs := sim_getI (insG_iff.1 q).2.1 (x - 1)
    have ih := il_later k
    have turn : ∀ {v : Value}, getI s.ks s.vs (x - 1) = v → (S_il w L (esI6 L h6 t6 x6 u6) n S M T x left steps ts fr deep td s [ltB 0 left, !ltB (M.x 8) (steps + 1), tabI s.ks s.vs, tabI s.ks s.vs && true] 4 (fun ts => ilP L h6 t6 x n S k (x + -1) (steps + 1) fr deep td (s.put x (nth ts 0) v) [nth ts 1, nth ts 2, nth ts 3])).Holds (VV w) →
        (S_il w L (esI6 L h6 t6 x6 u6) n S M T x left steps ts fr deep td s [] 3 (ilP L h6 t6 x6 n S (k + 1) x steps fr deep td s)).Holds (VV w) := fun hv h => by
      have h := Spec.Holds.less h (insG_needs q)
      refine Spec.Holds.toks h (fun ts => [prN (nth ts 0) (nth ts 1), nth ts 2, nth ts 3]) (fun as ts hl => ?_)
      obtain ⟨a, b, c, d, rfl⟩ := len4 hl
      refine ⟨rfl, rfl, ?_, rfl⟩
      show ilP L h6 t6 x6 n S (k + 1) x steps fr deep td s [prN a b, c, d] = ilP L h6 t6 x n S k (x + -1) (steps + 1) fr deep td (s.put x a _) [b, c, d]
      rw [ilP_succ]
      unfold TabS.step
      rw [hv]
    rcases simV_cases hs with e | ⟨y, u, e⟩ | ⟨y, u, e⟩
    · exact turn e (il6TN w L h6 t6 x6 u6 n S M T k x left steps ts fr deep td s e (insG_put q x rfl) ih)
    · exact turn e (il6TB w L h6 t6 x6 u6 n S M T k x left steps ts fr deep td s y u e (insG_put q x rfl) ih)
    · exact turn e (il6TI w L h6 t6 x6 u6 n S M T k x left steps ts fr deep td s y u e (insG_put q x rfl) ih)) rfl
theorem il_first (k : Nat) (w : World) (n : Nat) (x left steps : Int) (ts : Nat) (s : TabS) : (S_il w L (esI5 L) n S M T x left steps ts fr deep td s [insG (k + 1) left s.ks s.vs steps (M.x 8)] 4 (fun ts => ilP L (hashOfZ w.params s0) (nth ts 3) x (n + 1) S (k + 1) x steps fr deep td s ts)).Holds (VV w) :=
  Spec.Holds.more (S := S_il w L (esI5 L) n S M T x left steps ts fr deep td s [] 4 (fun ts => ilP L (hashOfZ w.params s0) (nth ts 3) x (n + 1) S (k + 1) x steps fr deep td s ts)) (fun q => by
    have q := q _ mcS
    have hs := sim_getI (insG_iff.1 q).2.1 (x - 1)
    have ih := il_later L S M T fr deep td k
    have turn : ∀ {v : Value}, getI s.ks s.vs (x - 1) = v → (S_il w L (esI5 L) n S M T x left steps ts fr deep td s [ltB 0 left, !ltB (M.x 8) (steps + 1), tabI s.ks s.vs, tabI s.ks s.vs && true] 5 (fun ts => ilP L (hashOfZ w.params s0) (nth ts 4) x (n + 1) S k (x + -1) (steps + 1) fr deep td (s.put x (nth ts 0) v) [nth ts 1, nth ts 2, nth ts 3])).Holds (VV w) →
        (S_il w L (esI5 L) n S M T x left steps ts fr deep td s [] 4 (fun ts => ilP L (hashOfZ w.params s0) (nth ts 3) x (n + 1) S (k + 1) x steps fr deep td s ts)).Holds (VV w) := fun hv h => by
      have h := Spec.Holds.less h (insG_needs q)
      refine Spec.Holds.toks h (fun ts => [prN (nth ts 0) (nth ts 1), nth ts 2, nth ts 3, nth ts 4]) (fun as ts hl => ?_)
      obtain ⟨a, b, c, d, e, rfl⟩ := len5 hl
      refine ⟨rfl, rfl, ?_, rfl⟩
      show ilP L (hashOfZ w.params s0) e x (n + 1) S (k + 1) x steps fr deep td s [prN a b, c, d] = ilP L (hashOfZ w.params s0) e x (n + 1) S k (x + -1) (steps + 1) fr deep td (s.put x a _) [b, c, d]
      rw [ilP_succ]
      unfold TabS.step
      rw [hv]
    rcases simV_cases hs with e | ⟨y, u, e⟩ | ⟨y, u, e⟩
    · exact turn e (il5TN w L n S M T k x left steps ts fr deep td s e (insG_put q x rfl) ih)
    · exact turn e (il5TB w L n S M T k x left steps ts fr deep td s y u e (insG_put q x rfl) ih)
    · exact turn e (il5TI w L n S M T k x left steps ts fr deep td s y u e (insG_put q x rfl) ih)) rfl
end
noncomputable def isIe (e : DictEntry) : Bool := match e.key with | .int k _ => eqB e.hash (hashInt k) | _ => false
noncomputable def bookK (es : Array DictEntry) : Bool := es.toList.all isIe && Nat.blt es.size 1000
theorem bookK_iff {es : Array DictEntry} : bookK es = true ↔ IntKeys es ∧ es.size < 1000 := by
  unfold bookK
  rw [Bool.and_eq_true, List.all_eq_true]
  constructor
  · rintro ⟨h1, h2⟩
    refine ⟨fun e he => ?_, blt_iff h2⟩
    have := h1 e (Array.mem_toList_iff.mpr he)
    unfold isIe at this
    split at this
    · exact ⟨_, _, by assumption, eqB_iff'.1 this⟩
    · cases this
  · rintro ⟨h1, h2⟩
    refine ⟨fun e he => ?_, Nat.ble_eq_true_of_le h2⟩
    obtain ⟨k, t, e1, e2⟩ := h1 e (Array.mem_toList_iff.mp he)
    unfold isIe
    rw [e1]
    exact eqB_iff'.2 e2
noncomputable def bkAt (es : Array DictEntry) (k : Int) : Option Nat := es.findIdx? fun e => Value.isInt k e.key
noncomputable def bkGet (es : Array DictEntry) (k : Int) : Value := (findBy Value.isInt es k).getD .none
noncomputable def bkSet (es : Array DictEntry) (k : Int) (t : Nat) (v : Value) : Array DictEntry := match bkAt es k with
  | some i => es.modify i fun e => { e with val := v }
  | none => es.push ⟨hashInt k, .int k t, v⟩
noncomputable def bkEp (es : Array DictEntry) (k : Int) (n : Nat) : Nat := match bkAt es k with | some _ => n | none => n + 1
theorem isInt_push (k x : Int) (t : Nat) : Value.isInt x (.int k t) = decide (x = k) := by
  show (k == x) = _
  by_cases h : x = k
  · subst h; simp
  · have : ¬ k = x := fun e => h e.symm
    simp [h, this]
theorem bkGet_set (es : Array DictEntry) (k : Int) (t : Nat) (v : Value) (y : Int) : bkGet (bkSet es k t v) y = if y = k then v else bkGet es y := by
  unfold bkGet bkSet bkAt
  cases hi : es.findIdx? fun e => Value.isInt k e.key with
  | some i =>
    show (findBy Value.isInt (es.modify i _) y).getD .none = _
    rw [findBy_modify Value.isInt Value.isInt_inj es k y v i hi]
    split <;> rfl
  | none =>
    show (findBy Value.isInt (es.push _) y).getD .none = _
    rw [findBy_push Value.isInt es k y _ _ v (fun z => isInt_push k z t) hi]
    split <;> rfl
theorem bkSet_size (es : Array DictEntry) (k : Int) (t : Nat) (v : Value) : (bkSet es k t v).size ≤ es.size + 1 := by
  unfold bkSet
  split
  · rw [Array.size_modify]; lia
  · rw [Array.size_push]; lia
theorem bookK_set {es : Array DictEntry} (h : bookK es = true) (hs : es.size + 1 < 1000) (k : Int) (t : Nat) (v : Value) : bookK (bkSet es k t v) = true := by
  obtain ⟨h1, h2⟩ := bookK_iff.1 h
  refine bookK_iff.2 ⟨?_, by have := bkSet_size es k t v; lia⟩
  unfold bkSet
  split
  · exact h1.modify _ _
  · exact h1.push _ _ _
noncomputable def S_bset (d : Nat) (es : Array DictEntry) (n : Nat) (k : Int) (t : Nat) (v : Value) : Spec := { code := .builtin "dict.__setitem__" ⟨[.ref d, .int k t, v], []⟩, dep := 840, need := [bookK es], pre := [(d, oDict es n)], touch := [0], na := 0, nt := 0, res := fun _ _ => .ok (.ret .none), postT := fun _ _ => [some (oDict (bkSet es k t v) (bkEp es k n))], postN := fun _ _ => [], rawQ := [0] }
theorem bset_at {V : Vn} {d : Nat} {es : Array DictEntry} {n : Nat} {k : Int} {t : Nat} {v : Value} : (S_bset d es n k t v).Holds V := by
  refine spec_by fun Γ hc hh A hA hd hin h g dr tk os At => ?_
  have hl : h.get? d = some (oDict es n) := At.mem _ mcS
  obtain ⟨hk, hs⟩ := bookK_iff.1 (At.need _ mcS)
  refine @den_wp2 _ _ _ _ _ _ _ _ _ rfl entry_dict_setitem ?_
  show wpAny _ _ (Builtin.Dict.notOrdered "__setitem__" ⟨[.ref d, .int k t, v], []⟩ >>= _) _ _ _
  refine wpAny_bind (wpAny_notOrdered_dict ⟨_, hl, rfl⟩ ?_)
  show wpAny _ _ (dictSet d (.int k t) v >>= _) _ _ _
  refine wpAny_bind ?_
  unfold dictSet
  try with_reducible refine wpAny_holding ?_
  refine wpAny_bind (wpAny_pyHash_int ?_)
  unfold dictSetHashed
  try with_reducible refine wpAny_holding ?_
  refine wpAny_bind (wpAny_dictFind_int (o := oDict es n) hl rfl hk ?_)
  cases hi : es.findIdx? fun e => Value.isInt k e.key with
  | some i =>
    refine wpAny_bind (wpAny_rule (wpAny_bind (wpAny_updateDict (o := oDict es n) hl rfl (wpAny_point (wpAny_pure ⟨_, rfl, [], [], rfl, ends_one (V := V) rfl rfl rfl rfl rfl hl ?_ rfl, rfl, rfl, rfl⟩)))))
    show _ = oDict (bkSet es k t v) (bkEp es k n)
    unfold bkSet bkEp bkAt
    rw [hi]; rfl
  | none =>
    refine wpAny_bind (wpAny_rule (wpAny_updateDictKeys (hz := by unfold sizeLine; lia) (o := oDict es n) hl rfl (wpAny_pure ⟨_, rfl, [], [], rfl, ends_one (V := V) rfl rfl rfl rfl rfl hl ?_ rfl, rfl, rfl, rfl⟩)))
    show _ = oDict (bkSet es k t v) (bkEp es k n)
    unfold bkSet bkEp bkAt
    rw [hi]
    have : (es.size + 1 == es.size) = false := by rw [beq_eq_false_iff_ne]; lia
    simp [Obj.mapDictKeys, this]
noncomputable def S_bget (d : Nat) (es : Array DictEntry) (n : Nat) (k : Int) (t : Nat) (v : Value) : Spec := { code := .builtin "dict.get" ⟨[.ref d, .int k t], []⟩, dep := 840, need := [bookK es], pre := [(d, oDict es n)], touch := [], na := 0, nt := 0, res := fun _ _ => .ok (.ret v), postT := fun _ _ => [], postN := fun _ _ => [] }
theorem bget_at {V : Vn} {d : Nat} {es : Array DictEntry} {n : Nat} {k : Int} {t : Nat} : (S_bget d es n k t (bkGet es k)).Holds V := by
  refine spec_by fun Γ hc hh A hA hd hin h g dr tk os At => ?_
  have hl : h.get? d = some (oDict es n) := At.mem _ mcS
  obtain ⟨hk, hs⟩ := bookK_iff.1 (At.need _ mcS)
  refine @den_wp2 _ _ _ _ _ _ _ _ _ rfl F.entry_dict_get ?_
  show wpAny _ _ (Builtin.Dict.keyAndDefault "get" ⟨[.ref d, .int k t], []⟩ >>= _) _ _ _
  refine wpAny_bind (wpAny_of_eq (a := (d, .int k t, none)) (by rfl) ?_)
  show wpAny _ _ (dictGet d (.int k t) >>= _) _ _ _
  refine wpAny_bind (wpAny_dictGet_int (f := fun x => findBy Value.isInt es x) ⟨_, es, n, hl, rfl, rfl, hk, fun _ => rfl⟩ ?_)
  cases hf : findBy Value.isInt es k with
  | some v =>
    refine wpAny_pure ⟨_, rfl, [], [], ?_, ends_same rfl rfl rfl rfl rfl, rfl, rfl, rfl⟩
    show Except.ok (Flow.ret v) = Except.ok (Flow.ret (bkGet es k))
    unfold bkGet
    rw [hf]; rfl
  | none =>
    refine wpAny_bind (wpAny_missed_int (wpAny_pure ⟨_, rfl, [], [], ?_, ends_same rfl rfl rfl rfl rfl, rfl, rfl, rfl⟩))
    show Except.ok (Flow.ret Value.none) = Except.ok (Flow.ret (bkGet es k))
    unfold bkGet
    rw [hf]; rfl
structure BookS where
  es : Array DictEntry
  n : Nat
noncomputable def BookS.put (s : BookS) (x : Int) (t : Nat) (v : Value) : BookS := ⟨bkSet s.es x t v, bkEp s.es x s.n⟩
noncomputable def BookS.step (s : BookS) (x : Int) (t : Nat) : BookS := s.put x t (bkGet s.es (x - 1))
noncomputable def bkA : Nat → Nat → Int → BookS → BookS
  | 0, _, _, s => s
  | k + 1, n, x, s => bkA k (snN n) (x + -1) (s.step x (fsN n))
noncomputable def kindN (v v' : Value) : Bool := match v, v' with
  | .none, .none => true
  | v, v' => kind2 v v'
noncomputable def eqN (v v' : Value) : Bool := match v, v' with
  | .none, .none => true
  | v, v' => eqV v v'
noncomputable def rowEq : List Value → List Value → Bool
  | v :: l, v' :: l' => (kindN v v' && eqN v v') && rowEq l l'
  | [], [] => true
  | _, _ => false
open MeetsSeq (EqGives) in
theorem eqGives_none : EqGives .none .none true := by
  intro prog w A E s Q h
  unfold eqBool
  refine wpAny_holding ?_
  rw [if_pos (show (Value.none == Value.none) = true from rfl)]
  exact wpAny_bind (wpAny_rule (wpAny_pure h))
theorem kindN_cases {v v' : Value} (h : kindN v v' = true) : (v = .none ∧ v' = .none) ∨ kind2 v v' = true := by
  cases v with
  | none => cases v' with
    | none => exact .inl ⟨rfl, rfl⟩
    | _ => cases h
  | _ => exact .inr h
open MeetsSeq (EqGives) in
theorem eqGivesN {v v' : Value} (h : (kindN v v' && eqN v v') = true) : EqGives v v' true := by
  rw [Bool.and_eq_true] at h
  obtain ⟨h1, h2⟩ := h
  rcases kindN_cases h1 with ⟨rfl, rfl⟩ | h1
  · exact eqGives_none
  rcases kind2_cases h1 with ⟨x, t, y, u, rfl, rfl⟩ | ⟨x, t, y, u, rfl, rfl⟩
  · have := eqGives_of (v := .int x t) (v' := .int y u) h1; rwa [show eqV (.int x t) (.int y u) = true from h2] at this
  · have := eqGives_of (v := .bytes x t) (v' := .bytes y u) h1; rwa [show eqV (.bytes x t) (.bytes y u) = true from h2] at this
theorem rowEq_len : ∀ {l l' : List Value}, rowEq l l' = true → l.length = l'.length
  | [], [], _ => rfl
  | v :: l, v' :: l', h => by
    have h : ((kindN v v' && eqN v v') && rowEq l l') = true := h
    rw [Bool.and_eq_true] at h
    rw [List.length_cons, List.length_cons, rowEq_len h.2]
theorem rowEq_at : ∀ {l l' : List Value}, rowEq l l' = true → ∀ j (h1 : j < l.length) (h2 : j < l'.length), (kindN l[j] l'[j] && eqN l[j] l'[j]) = true
  | v :: l, v' :: l', h, j, h1, h2 => by
    have h : ((kindN v v' && eqN v v') && rowEq l l') = true := h
    rw [Bool.and_eq_true] at h
    cases j with
    | zero => exact h.1
    | succ j => exact rowEq_at h.2 j (Nat.lt_of_succ_lt_succ h1) (Nat.lt_of_succ_lt_succ h2)
theorem rowEq_of : ∀ {l l' : List Value}, l.length = l'.length → (∀ j (h1 : j < l.length) (h2 : j < l'.length), (kindN l[j] l'[j] && eqN l[j] l'[j]) = true) → rowEq l l' = true
  | [], [], _, _ => rfl
  | v :: l, v' :: l', h, g => by
    show ((kindN v v' && eqN v v') && rowEq l l') = true
    rw [Bool.and_eq_true]
    exact ⟨g 0 (Nat.zero_lt_succ _) (Nat.zero_lt_succ _), rowEq_of (Nat.succ.inj h) fun j h1 h2 => g (j + 1) (Nat.succ_lt_succ h1) (Nat.succ_lt_succ h2)⟩
  | [], _ :: _, h, _ => nomatch h
  | _ :: _, [], h, _ => nomatch h
theorem rleq_at {V : Vn} {l l' : Nat} {xs : Array Value} {n : Nat} {ys : Array Value} {m : Nat} : (S_leq l l' xs n ys m [rowEq xs.toList ys.toList] true).Holds V := by
  have pl : plainId "list.__eq__" = true := by decide +kernel
  by_cases hk : rowEq xs.toList ys.toList = true
  · have hs : xs.size = ys.size := rowEq_len hk
    refine holds_meets (S := S_leq l l' xs n ys m [rowEq xs.toList ys.toList] true) rfl pl F.entry_list_eq (MeetsSeq3.list_eq l l' xs ys n m hs (fun _ => true) (fun j h1 h2 => eqGivesN (rowEq_at hk j h1 h2))) (fun A h' g d t os At => ?_)
    refine ⟨At.mem _ mcS, At.mem _ (mcT mcS), [], [], ?_, ends_same rfl rfl rfl rfl rfl, rfl, rfl, rfl⟩
    show Except.ok (Flow.ret (.bool _)) = Except.ok (Flow.ret (.bool _))
    rw [List.all_eq_true.mpr fun _ _ => rfl]
  · intro Γ p h' g d t os hc hh hb hbl At
    exact absurd (At.need _ mcS) hk
structure LB where
  F : Nat
  I : Nat
  cb : Nat
  ct : Nat
  bd : Nat
  h : Nat → Int
  t : Nat → Nat
  r : Nat → Nat
  i : Nat → Int
  u : Nat → Nat
  y : Array UInt8
noncomputable abbrev esB8 (L : LB) : Array DictEntry := #[en (L.h 0) s10 (L.t 0) (.ref (L.r 0)), en (L.h 1) s11 (L.t 1) (.ref (L.r 1)), en (L.h 2) s12 (L.t 2) (.ref (L.r 2)), en (L.h 3) s13 (L.t 3) (.ref (L.r 3)), en (L.h 4) s8 (L.t 4) (.int (L.i 4) (L.u 4)), en (L.h 5) s7 (L.t 5) (.int (L.i 5) (L.u 5)), en (L.h 6) s14 (L.t 6) (.int (L.i 6) (L.u 6)), en (L.h 7) s15 (L.t 7) (.ref (L.r 7))]
noncomputable abbrev esB8' (L : LB) (h6 : Int) (t6 : Nat) (x6 : Int) (u6 : Nat) : Array DictEntry := #[en (L.h 0) s10 (L.t 0) (.ref (L.r 0)), en (L.h 1) s11 (L.t 1) (.ref (L.r 1)), en (L.h 2) s12 (L.t 2) (.ref (L.r 2)), en (L.h 3) s13 (L.t 3) (.ref (L.r 3)), en (L.h 4) s8 (L.t 4) (.int (L.i 4) (L.u 4)), en (L.h 5) s7 (L.t 5) (.int (L.i 5) (L.u 5)), en (L.h 6) s14 (L.t 6) (.int (L.i 6) (L.u 6)), en (L.h 7) s15 (L.t 7) (.ref (L.r 7)), en h6 s0 t6 (.int x6 u6)]
noncomputable abbrev esBT (L : LB) : Array DictEntry := #[en (L.h 0) s10 (L.t 0) (.ref (L.r 0)), en (L.h 1) s11 (L.t 1) (.ref (L.r 1)), en (L.h 2) s12 (L.t 2) (.ref (L.r 2)), en (L.h 3) s13 (L.t 3) (.ref (L.r 3)), en (L.h 4) s8 (L.t 4) (.int (L.i 4) (L.u 4)), en (L.h 5) s7 (L.t 5) (.int (L.i 5) (L.u 5)), en (L.h 6) s14 (L.t 6) (.int (L.i 6) (L.u 6)), en (L.h 7) s15 (L.t 7) (.ref (L.r 7)), en (L.h 8) s16 (L.t 8) (.int (L.i 8) (L.u 8)), en (L.h 9) s17 (L.t 9) (.bytes L.y (L.u 9))]
noncomputable abbrev esBT' (L : LB) (h6 : Int) (t6 : Nat) (x6 : Int) (u6 : Nat) : Array DictEntry := #[en (L.h 0) s10 (L.t 0) (.ref (L.r 0)), en (L.h 1) s11 (L.t 1) (.ref (L.r 1)), en (L.h 2) s12 (L.t 2) (.ref (L.r 2)), en (L.h 3) s13 (L.t 3) (.ref (L.r 3)), en (L.h 4) s8 (L.t 4) (.int (L.i 4) (L.u 4)), en (L.h 5) s7 (L.t 5) (.int (L.i 5) (L.u 5)), en (L.h 6) s14 (L.t 6) (.int (L.i 6) (L.u 6)), en (L.h 7) s15 (L.t 7) (.ref (L.r 7)), en (L.h 8) s16 (L.t 8) (.int (L.i 8) (L.u 8)), en (L.h 9) s17 (L.t 9) (.bytes L.y (L.u 9)), en h6 s0 t6 (.int x6 u6)]
noncomputable abbrev envP (w : World) (F cb ct : Nat) : Env := envF (o809 w.params) 809 F s18 [(s19, cb), (s6, ct)]
noncomputable abbrev oCell (v : Value) : Obj := { cls := .type "cell", data := .cell (some v) }
noncomputable def S_bl (w : World) (L : LB) (es : Array DictEntry) (n : Nat) (x left : Int) (s : BookS) (nd : List Bool) (nt : Nat) (postT : List Nat → List (Option Obj)) : Spec := {
  code := forCode (nthS (bodyOf (o809 w.params)) 7) (.ref L.I) (envP w L.F L.cb L.ct)
  dep := 700, need := nd
  pre := [(L.F, oFrame es n), (L.I, oRI x left (-1)), (L.cb, oCell (.ref L.bd)), (L.bd, oDict s.es s.n)]
  touch := [0,1,3], na := 0, nt := nt, res := fun _ _ => .ok .next, postT := fun _ ts => postT ts, postN := fun _ _ => [], rawP := [3], rawQ := [2] }
noncomputable def blP (R : Int → Nat → Int → Nat → Array DictEntry) (h6 : Int) (t6 : Nat) (x6 : Int) (n : Nat) (k : Nat) (x : Int) (s : BookS) (ts : List Nat) : List (Option Obj) := [some (oFrame (R h6 t6 (lastI k x x6) (nth ts 1)) n), none, some (oDict (bkA k (nth ts 0) x s).es (bkA k (nth ts 0) x s).n)]
noncomputable def simE (es : Array DictEntry) : Bool := es.toList.all fun e => simV e.val
noncomputable def bookG (k : Nat) (left : Int) (es : Array DictEntry) : Bool := Nat.beq left.toNat k && (bookK es && (Nat.blt (es.size + k) 1000 && simE es))
noncomputable def rowT (ks vs : Array Value) : Nat → Int → Array Value → Array Value
  | 0, _, xs => xs
  | k + 1, x, xs => rowT ks vs k (x + 1) (xs.push (getI ks vs x))
noncomputable def rowB (es : Array DictEntry) : Nat → Int → Array Value → Array Value
  | 0, _, xs => xs
  | k + 1, x, xs => rowB es k (x + 1) (xs.push (bkGet es x))
noncomputable def scopeC (e : Expr) : Scope := match e with | .ListComp _ _ sc _ => sc | _ => default
noncomputable def asgE (s : Stmt) : Expr := match s with | .Assign _ e _ => e | _ => default
noncomputable def retE (s : Stmt) : Expr := match s with | .Return (some (.BoolOp _ [_, .Compare _ _ [e] _] _)) _ => e | _ => default
noncomputable def compEnv (e : Expr) (env : Env) (D : Nat) (cells : List (Str × Nat)) : Env := { scope := { scopeC e with names := (scopeC e).names.map fun (n, k) => if (k == .free && env.scope.kind == .function && env.kindOf n == some .cell) then (n, .cell) else (n, k) }, locals := D, globals := env.globals, cells := cells, qual := env.qual, func := none, code := env.code, frame := env.frame, builtins := env.builtins }
noncomputable def S_ct (w : World) (F I D acc cb ct tb d : Nat) (es : Array DictEntry) (n : Nat) (T : Tab) (ks : Array Value) (m : Nat) (vs : Array Value) (mv : Nat) (x left : Int) (xs : Array Value) (nn : Nat) (nd : List Bool) (nt : Nat) (post : List Nat → List (Option Obj)) : Spec := {
  code := .compLoop (asgE (nthS (bodyOf (o809 w.params)) 9)) 0 (.ref I) (.ref acc) (compEnv (asgE (nthS (bodyOf (o809 w.params)) 9)) (envP w F cb ct) D [(s6, ct)])
  dep := 700, need := nd
  pre := [(D, oDict es n), (I, oRI x left 1), (acc, oList xs nn), (ct, oCell (.ref tb)), (tb, oInst 234 d), (d, T.obj), (T.kl, oList ks m), (T.vl, oList vs mv)]
  touch := [0,1,2], na := 0, nt := nt, res := fun _ _ => .ok .next, postT := fun _ ts => post ts, postN := fun _ _ => [], rawP := [2,5,6,7], rawQ := [2] }
noncomputable def S_cb (w : World) (F I D acc cb ct bd : Nat) (es : Array DictEntry) (n : Nat) (bk : Array DictEntry) (bn : Nat) (x left : Int) (xs : Array Value) (nn : Nat) (nd : List Bool) (nt : Nat) (post : List Nat → List (Option Obj)) : Spec := {
  code := .compLoop (retE (nthS (bodyOf (o809 w.params)) 10)) 0 (.ref I) (.ref acc) (compEnv (retE (nthS (bodyOf (o809 w.params)) 10)) (envP w F cb ct) D [(s19, cb)])
  dep := 700, need := nd
  pre := [(D, oDict es n), (I, oRI x left 1), (acc, oList xs nn), (cb, oCell (.ref bd)), (bd, oDict bk bn)]
  touch := [0,1,2], na := 0, nt := nt, res := fun _ _ => .ok .next, postT := fun _ ts => post ts, postN := fun _ _ => [], rawP := [2,4], rawQ := [2] }
noncomputable abbrev es1 (h6 : Int) (t6 : Nat) (x6 : Int) (u6 : Nat) : Array DictEntry := #[en h6 s0 t6 (.int x6 u6)]
noncomputable def lastU (k : Nat) (x x6 : Int) : Int := match k with | 0 => x6 | k + 1 => x + Int.ofNat k
noncomputable def ctP (h6 : Int) (t6 : Nat) (x6 : Int) (n k : Nat) (x : Int) (o : Obj) (ts : List Nat) : List (Option Obj) := [some (oDict (es1 h6 t6 (lastU k x x6) (nth ts 0)) n), none, some o]
noncomputable def rowG (k : Nat) (left : Int) (xs : Array Value) (b : Bool) : Bool := Nat.beq left.toNat k && (Nat.blt (xs.size + k) 1000 && b)
noncomputable def dictOf (o : Obj) : Array DictEntry := match o.data with | .dict es _ => es | _ => #[]
noncomputable def dictN (o : Obj) : Nat := match o.data with | .dict _ n => n | .seq _ n => n | _ => 0
noncomputable def D_pushR {V : Vn} (z : Value) : Dp V := ⟨1, fun as os _ => match as with
  | [l] => match os with
    | [o] => match seqOf o with
      | some (xs, n) => some ⟨{ S_push l xs n z with rawQ := [0] }, Spec.Holds.raw push_at⟩
      | none => none
    | _ => none
  | _ => none⟩
noncomputable def F_bk (w : World) (bd : Nat) (s : BookS) (x : Int) (v : Value) (hv : bkGet s.es x = v) (c : Code) : Option (Dp (VV w)) := match c with
  | .builtin id ⟨[.ref a, .int y t], []⟩ => match idIs id 8459563503104322149 with
    | true => some ⟨1, fun _ _ _ => some ⟨S_bget bd s.es s.n x t v, hv ▸ bget_at⟩⟩
    | false => match idIs id 122627580202994350266018413 with
      | true => some (D_pushR (.int y t))
      | false => FI w (.builtin id ⟨[.ref a, .int y t], []⟩)
  | .builtin id ⟨[.ref a, .int y t, z], []⟩ => match idIs id 128106587276438692082622197436938218085 with
    | true => some ⟨1, fun as os _ => match as with
      | [a] => match os with
        | [o] => some ⟨S_bset a (dictOf o) (dictN o) y t z, bset_at⟩
        | _ => none
      | _ => none⟩
    | false => FI w (.builtin id ⟨[.ref a, .int y t, z], []⟩)
  | .builtin id ⟨[.ref l, z], []⟩ => match idIs id 122627580202994350266018413 with
    | true => some (D_pushR z)
    | false => FI w (.builtin id ⟨[.ref l, z], []⟩)
  | c => FI w c
noncomputable def F_blR (w : World) (L : LB) (k : Nat) (x : Int) (s : BookS) (v : Value) (hv : bkGet s.es (x - 1) = v) (esR : Int → Nat → Int → Nat → Array DictEntry) (q : Nat)
    (ih : ∀ (h6 : Int) (t6 : Nat) (x6 : Int) (u6 : Nat) (n : Nat) (x left : Int) (s : BookS), (S_bl w L (esR h6 t6 x6 u6) n x left s [bookG k left s.es] 2 (blP esR h6 t6 x6 n k x s)).Holds (VV w)) (c : Code) : Option (Dp (VV w)) := match c with
  | .forLoop _ _ _ _ _ => some ⟨4, fun _ os _ => match os with
    | [oF, oI, _, ob] => match oI.data with
      | .fields vs => some ⟨_, ih (enAt (dictOf oF) q).hash (strTok (enAt (dictOf oF) q).key) (intOf (enAt (dictOf oF) q).val) (tokOf (enAt (dictOf oF) q).val) (dictN oF) (intOf (vs.toList.getD 0 .none)) (intOf (vs.toList.getD 1 .none)) ⟨dictOf ob, dictN ob⟩⟩
      | _ => none
    | _ => none⟩
  | c => F_bk w L.bd s (x - 1) v hv c
noncomputable def F_ctR (w : World) (F I D acc cb ct tb d : Nat) (T : Tab) (ks : Array Value) (m : Nat) (vs : Array Value) (mv : Nat) (k : Nat) (x : Int) (v : Value) (hv : getI ks vs x = v)
    (ih : ∀ (h6 : Int) (t6 : Nat) (x6 : Int) (u6 : Nat) (n : Nat) (x left : Int) (xs : Array Value) (nn : Nat), (S_ct w F I D acc cb ct tb d (es1 h6 t6 x6 u6) n T ks m vs mv x left xs nn [rowG k left xs (tabI ks vs)] 1 (ctP h6 t6 x6 n k x (oList (rowT ks vs k x xs) (nn + k)))).Holds (VV w)) (c : Code) : Option (Dp (VV w)) := match c with
  | .compLoop _ _ _ _ _ => some ⟨8, fun _ os _ => match os with
    | [oD, oI, oA, _, _, _, _, _] => match oI.data with
      | .fields ws => match seqOf oA with
        | some (xs, nn) => some ⟨_, ih (enAt (dictOf oD) 0).hash (strTok (enAt (dictOf oD) 0).key) (intOf (enAt (dictOf oD) 0).val) (tokOf (enAt (dictOf oD) 0).val) (dictN oD) (intOf (ws.toList.getD 0 .none)) (intOf (ws.toList.getD 1 .none)) xs nn⟩
        | none => none
      | _ => none
    | _ => none⟩
  | .call (.ref a) ⟨[r, .int y t], []⟩ => match Nat.beq a 210 with
    | true => some ⟨4, fun _ _ _ => some ⟨S_get tb d T ks m vs mv (.int x t) [tabI ks vs] v, hv ▸ get_int w tb d T ks m vs mv x t⟩⟩
    | false => FI w (.call (.ref a) ⟨[r, .int y t], []⟩)
  | c => F_bk w 0 ⟨#[], 0⟩ 0 _ rfl c
noncomputable def F_cbR (w : World) (F I D acc cb ct bd : Nat) (s : BookS) (k : Nat) (x : Int) (v : Value) (hv : bkGet s.es x = v)
    (ih : ∀ (h6 : Int) (t6 : Nat) (x6 : Int) (u6 : Nat) (n : Nat) (x left : Int) (xs : Array Value) (nn : Nat), (S_cb w F I D acc cb ct bd (es1 h6 t6 x6 u6) n s.es s.n x left xs nn [rowG k left xs (bookK s.es)] 1 (ctP h6 t6 x6 n k x (oList (rowB s.es k x xs) (nn + k)))).Holds (VV w)) (c : Code) : Option (Dp (VV w)) := match c with
  | .compLoop _ _ _ _ _ => some ⟨5, fun _ os _ => match os with
    | [oD, oI, oA, _, _] => match oI.data with
      | .fields ws => match seqOf oA with
        | some (xs, nn) => some ⟨_, ih (enAt (dictOf oD) 0).hash (strTok (enAt (dictOf oD) 0).key) (intOf (enAt (dictOf oD) 0).val) (tokOf (enAt (dictOf oD) 0).val) (dictN oD) (intOf (ws.toList.getD 0 .none)) (intOf (ws.toList.getD 1 .none)) xs nn⟩
        | none => none
      | _ => none
    | _ => none⟩
  | c => F_bk w bd s x v hv c
theorem bl8E (w : World) (L : LB)  (n : Nat) (x left : Int) (s : BookS) : (S_bl w L (esB8 L) n x left s [!ltB 0 left] 0 (fun _ => [some (oFrame (esB8 L) n), none, some (oDict s.es s.n)])).Holds (VV w) :=
  sF (F := FI w) (vok _) 400 ⟨[2,2,2,1,1,6], [], []⟩ fun m t => by kernel_rfl
theorem bl8TN (w : World) (L : LB)  (n : Nat) (k : Nat) (x left : Int) (s : BookS)  (hv : bkGet s.es (x - 1) = .none) (hN : ∀ t, bookG k (left - 1) (s.put x t .none).es = true) (ih : ∀ (w : World) (h6 : Int) (t6 : Nat) (x6 : Int) (u6 : Nat) (n : Nat) (x left : Int) (s : BookS), (S_bl w L (esB8' L h6 t6 x6 u6) n x left s [bookG k left s.es] 2 (blP (esB8' L) h6 t6 x6 n k x s)).Holds (VV w)) : (S_bl w L (esB8 L) n x left s [ltB 0 left, bookK s.es] 4 (fun ts => blP (esB8' L) (hashOfZ w.params s0) (nth ts 3) x (n + 1) k (x + -1) (s.put x (nth ts 0) .none) [nth ts 1, nth ts 2])).Holds (VV w) :=
  sN (F := F_blR w L k x s .none hv (esB8' L) 8 (ih w)) (vok _) (⟨[fun ns => bookG k (left - 1) (s.put x (nth ns 0) .none).es], fun f hf ns => by rw [List.mem_singleton.mp hf]; exact hN _⟩) 1000 ⟨[2,2,2,0,1,0,1,1,3,4,4,4,4,1,4,4,0,2,3,1,4,4,4,4,0,2,1,2,3,4,0,5000,1,0], [], [0,4,5,1]⟩ fun m t => by kernel_rfl
theorem bl8TB (w : World) (L : LB)  (n : Nat) (k : Nat) (x left : Int) (s : BookS) (y : Array UInt8) (u : Nat) (hv : bkGet s.es (x - 1) = (.bytes y u)) (hN : ∀ t, bookG k (left - 1) (s.put x t (.bytes y u)).es = true) (ih : ∀ (w : World) (h6 : Int) (t6 : Nat) (x6 : Int) (u6 : Nat) (n : Nat) (x left : Int) (s : BookS), (S_bl w L (esB8' L h6 t6 x6 u6) n x left s [bookG k left s.es] 2 (blP (esB8' L) h6 t6 x6 n k x s)).Holds (VV w)) : (S_bl w L (esB8 L) n x left s [ltB 0 left, bookK s.es] 4 (fun ts => blP (esB8' L) (hashOfZ w.params s0) (nth ts 3) x (n + 1) k (x + -1) (s.put x (nth ts 0) (.bytes y u)) [nth ts 1, nth ts 2])).Holds (VV w) :=
  sN (F := F_blR w L k x s (.bytes y u) hv (esB8' L) 8 (ih w)) (vok _) (⟨[fun ns => bookG k (left - 1) (s.put x (nth ns 0) (.bytes y u)).es], fun f hf ns => by rw [List.mem_singleton.mp hf]; exact hN _⟩) 1000 ⟨[2,2,2,0,1,0,1,1,3,4,4,4,4,1,4,4,0,2,3,1,4,4,4,4,0,2,1,2,3,4,0,5000,1,0], [], [0,4,5,1]⟩ fun m t => by kernel_rfl
theorem bl8TI (w : World) (L : LB)  (n : Nat) (k : Nat) (x left : Int) (s : BookS) (y : Int) (u : Nat) (hv : bkGet s.es (x - 1) = (.int y u)) (hN : ∀ t, bookG k (left - 1) (s.put x t (.int y u)).es = true) (ih : ∀ (w : World) (h6 : Int) (t6 : Nat) (x6 : Int) (u6 : Nat) (n : Nat) (x left : Int) (s : BookS), (S_bl w L (esB8' L h6 t6 x6 u6) n x left s [bookG k left s.es] 2 (blP (esB8' L) h6 t6 x6 n k x s)).Holds (VV w)) : (S_bl w L (esB8 L) n x left s [ltB 0 left, bookK s.es] 4 (fun ts => blP (esB8' L) (hashOfZ w.params s0) (nth ts 3) x (n + 1) k (x + -1) (s.put x (nth ts 0) (.int y u)) [nth ts 1, nth ts 2])).Holds (VV w) :=
  sN (F := F_blR w L k x s (.int y u) hv (esB8' L) 8 (ih w)) (vok _) (⟨[fun ns => bookG k (left - 1) (s.put x (nth ns 0) (.int y u)).es], fun f hf ns => by rw [List.mem_singleton.mp hf]; exact hN _⟩) 1000 ⟨[2,2,2,0,1,0,1,1,3,4,4,4,4,1,4,4,0,2,3,1,4,4,4,4,0,2,1,2,3,4,0,5000,1,0], [], [0,4,5,1]⟩ fun m t => by kernel_rfl
theorem bl9E (w : World) (L : LB) (h6 : Int) (t6 : Nat) (x6 : Int) (u6 : Nat) (n : Nat) (x left : Int) (s : BookS) : (S_bl w L (esB8' L h6 t6 x6 u6) n x left s [!ltB 0 left] 0 (fun _ => [some (oFrame (esB8' L h6 t6 x6 u6) n), none, some (oDict s.es s.n)])).Holds (VV w) :=
  sF (F := FI w) (vok _) 400 ⟨[2,2,2,1,1,6], [], []⟩ fun m t => by kernel_rfl
theorem bl9TN (w : World) (L : LB) (h6 : Int) (t6 : Nat) (x6 : Int) (u6 : Nat) (n : Nat) (k : Nat) (x left : Int) (s : BookS)  (hv : bkGet s.es (x - 1) = .none) (hN : ∀ t, bookG k (left - 1) (s.put x t .none).es = true) (ih : ∀ (w : World) (h6 : Int) (t6 : Nat) (x6 : Int) (u6 : Nat) (n : Nat) (x left : Int) (s : BookS), (S_bl w L (esB8' L h6 t6 x6 u6) n x left s [bookG k left s.es] 2 (blP (esB8' L) h6 t6 x6 n k x s)).Holds (VV w)) : (S_bl w L (esB8' L h6 t6 x6 u6) n x left s [ltB 0 left, bookK s.es] 3 (fun ts => blP (esB8' L) h6 t6 x n k (x + -1) (s.put x (nth ts 0) .none) [nth ts 1, nth ts 2])).Holds (VV w) :=
  sN (F := F_blR w L k x s .none hv (esB8' L) 8 (ih w)) (vok _) (⟨[fun ns => bookG k (left - 1) (s.put x (nth ns 0) .none).es], fun f hf ns => by rw [List.mem_singleton.mp hf]; exact hN _⟩) 1000 ⟨[2,2,2,0,1,0,1,1,3,4,4,4,4,1,4,4,0,2,3,1,4,4,4,4,0,2,1,2,3,4,0,5000,1,0], [], [0,4,5]⟩ fun m t => by kernel_rfl
theorem bl9TB (w : World) (L : LB) (h6 : Int) (t6 : Nat) (x6 : Int) (u6 : Nat) (n : Nat) (k : Nat) (x left : Int) (s : BookS) (y : Array UInt8) (u : Nat) (hv : bkGet s.es (x - 1) = (.bytes y u)) (hN : ∀ t, bookG k (left - 1) (s.put x t (.bytes y u)).es = true) (ih : ∀ (w : World) (h6 : Int) (t6 : Nat) (x6 : Int) (u6 : Nat) (n : Nat) (x left : Int) (s : BookS), (S_bl w L (esB8' L h6 t6 x6 u6) n x left s [bookG k left s.es] 2 (blP (esB8' L) h6 t6 x6 n k x s)).Holds (VV w)) : (S_bl w L (esB8' L h6 t6 x6 u6) n x left s [ltB 0 left, bookK s.es] 3 (fun ts => blP (esB8' L) h6 t6 x n k (x + -1) (s.put x (nth ts 0) (.bytes y u)) [nth ts 1, nth ts 2])).Holds (VV w) :=
  sN (F := F_blR w L k x s (.bytes y u) hv (esB8' L) 8 (ih w)) (vok _) (⟨[fun ns => bookG k (left - 1) (s.put x (nth ns 0) (.bytes y u)).es], fun f hf ns => by rw [List.mem_singleton.mp hf]; exact hN _⟩) 1000 ⟨[2,2,2,0,1,0,1,1,3,4,4,4,4,1,4,4,0,2,3,1,4,4,4,4,0,2,1,2,3,4,0,5000,1,0], [], [0,4,5]⟩ fun m t => by kernel_rfl
theorem bl9TI (w : World) (L : LB) (h6 : Int) (t6 : Nat) (x6 : Int) (u6 : Nat) (n : Nat) (k : Nat) (x left : Int) (s : BookS) (y : Int) (u : Nat) (hv : bkGet s.es (x - 1) = (.int y u)) (hN : ∀ t, bookG k (left - 1) (s.put x t (.int y u)).es = true) (ih : ∀ (w : World) (h6 : Int) (t6 : Nat) (x6 : Int) (u6 : Nat) (n : Nat) (x left : Int) (s : BookS), (S_bl w L (esB8' L h6 t6 x6 u6) n x left s [bookG k left s.es] 2 (blP (esB8' L) h6 t6 x6 n k x s)).Holds (VV w)) : (S_bl w L (esB8' L h6 t6 x6 u6) n x left s [ltB 0 left, bookK s.es] 3 (fun ts => blP (esB8' L) h6 t6 x n k (x + -1) (s.put x (nth ts 0) (.int y u)) [nth ts 1, nth ts 2])).Holds (VV w) :=
  sN (F := F_blR w L k x s (.int y u) hv (esB8' L) 8 (ih w)) (vok _) (⟨[fun ns => bookG k (left - 1) (s.put x (nth ns 0) (.int y u)).es], fun f hf ns => by rw [List.mem_singleton.mp hf]; exact hN _⟩) 1000 ⟨[2,2,2,0,1,0,1,1,3,4,4,4,4,1,4,4,0,2,3,1,4,4,4,4,0,2,1,2,3,4,0,5000,1,0], [], [0,4,5]⟩ fun m t => by kernel_rfl
theorem blTE (w : World) (L : LB)  (n : Nat) (x left : Int) (s : BookS) : (S_bl w L (esBT L) n x left s [!ltB 0 left] 0 (fun _ => [some (oFrame (esBT L) n), none, some (oDict s.es s.n)])).Holds (VV w) :=
  sF (F := FI w) (vok _) 400 ⟨[2,2,2,1,1,6], [], []⟩ fun m t => by kernel_rfl
theorem blTTN (w : World) (L : LB)  (n : Nat) (k : Nat) (x left : Int) (s : BookS)  (hv : bkGet s.es (x - 1) = .none) (hN : ∀ t, bookG k (left - 1) (s.put x t .none).es = true) (ih : ∀ (w : World) (h6 : Int) (t6 : Nat) (x6 : Int) (u6 : Nat) (n : Nat) (x left : Int) (s : BookS), (S_bl w L (esBT' L h6 t6 x6 u6) n x left s [bookG k left s.es] 2 (blP (esBT' L) h6 t6 x6 n k x s)).Holds (VV w)) : (S_bl w L (esBT L) n x left s [ltB 0 left, bookK s.es] 4 (fun ts => blP (esBT' L) (hashOfZ w.params s0) (nth ts 3) x (n + 1) k (x + -1) (s.put x (nth ts 0) .none) [nth ts 1, nth ts 2])).Holds (VV w) :=
  sN (F := F_blR w L k x s .none hv (esBT' L) 10 (ih w)) (vok _) (⟨[fun ns => bookG k (left - 1) (s.put x (nth ns 0) .none).es], fun f hf ns => by rw [List.mem_singleton.mp hf]; exact hN _⟩) 1000 ⟨[2,2,2,0,1,0,1,1,3,4,4,4,4,1,4,4,0,2,3,1,4,4,4,4,0,2,1,2,3,4,0,5000,1,0], [], [0,4,5,1]⟩ fun m t => by kernel_rfl
theorem blTTB (w : World) (L : LB)  (n : Nat) (k : Nat) (x left : Int) (s : BookS) (y : Array UInt8) (u : Nat) (hv : bkGet s.es (x - 1) = (.bytes y u)) (hN : ∀ t, bookG k (left - 1) (s.put x t (.bytes y u)).es = true) (ih : ∀ (w : World) (h6 : Int) (t6 : Nat) (x6 : Int) (u6 : Nat) (n : Nat) (x left : Int) (s : BookS), (S_bl w L (esBT' L h6 t6 x6 u6) n x left s [bookG k left s.es] 2 (blP (esBT' L) h6 t6 x6 n k x s)).Holds (VV w)) : (S_bl w L (esBT L) n x left s [ltB 0 left, bookK s.es] 4 (fun ts => blP (esBT' L) (hashOfZ w.params s0) (nth ts 3) x (n + 1) k (x + -1) (s.put x (nth ts 0) (.bytes y u)) [nth ts 1, nth ts 2])).Holds (VV w) :=
  sN (F := F_blR w L k x s (.bytes y u) hv (esBT' L) 10 (ih w)) (vok _) (⟨[fun ns => bookG k (left - 1) (s.put x (nth ns 0) (.bytes y u)).es], fun f hf ns => by rw [List.mem_singleton.mp hf]; exact hN _⟩) 1000 ⟨[2,2,2,0,1,0,1,1,3,4,4,4,4,1,4,4,0,2,3,1,4,4,4,4,0,2,1,2,3,4,0,5000,1,0], [], [0,4,5,1]⟩ fun m t => by kernel_rfl
theorem blTTI (w : World) (L : LB)  (n : Nat) (k : Nat) (x left : Int) (s : BookS) (y : Int) (u : Nat) (hv : bkGet s.es (x - 1) = (.int y u)) (hN : ∀ t, bookG k (left - 1) (s.put x t (.int y u)).es = true) (ih : ∀ (w : World) (h6 : Int) (t6 : Nat) (x6 : Int) (u6 : Nat) (n : Nat) (x left : Int) (s : BookS), (S_bl w L (esBT' L h6 t6 x6 u6) n x left s [bookG k left s.es] 2 (blP (esBT' L) h6 t6 x6 n k x s)).Holds (VV w)) : (S_bl w L (esBT L) n x left s [ltB 0 left, bookK s.es] 4 (fun ts => blP (esBT' L) (hashOfZ w.params s0) (nth ts 3) x (n + 1) k (x + -1) (s.put x (nth ts 0) (.int y u)) [nth ts 1, nth ts 2])).Holds (VV w) :=
  sN (F := F_blR w L k x s (.int y u) hv (esBT' L) 10 (ih w)) (vok _) (⟨[fun ns => bookG k (left - 1) (s.put x (nth ns 0) (.int y u)).es], fun f hf ns => by rw [List.mem_singleton.mp hf]; exact hN _⟩) 1000 ⟨[2,2,2,0,1,0,1,1,3,4,4,4,4,1,4,4,0,2,3,1,4,4,4,4,0,2,1,2,3,4,0,5000,1,0], [], [0,4,5,1]⟩ fun m t => by kernel_rfl
theorem blUE (w : World) (L : LB) (h6 : Int) (t6 : Nat) (x6 : Int) (u6 : Nat) (n : Nat) (x left : Int) (s : BookS) : (S_bl w L (esBT' L h6 t6 x6 u6) n x left s [!ltB 0 left] 0 (fun _ => [some (oFrame (esBT' L h6 t6 x6 u6) n), none, some (oDict s.es s.n)])).Holds (VV w) :=
  sF (F := FI w) (vok _) 400 ⟨[2,2,2,1,1,6], [], []⟩ fun m t => by kernel_rfl
theorem blUTN (w : World) (L : LB) (h6 : Int) (t6 : Nat) (x6 : Int) (u6 : Nat) (n : Nat) (k : Nat) (x left : Int) (s : BookS)  (hv : bkGet s.es (x - 1) = .none) (hN : ∀ t, bookG k (left - 1) (s.put x t .none).es = true) (ih : ∀ (w : World) (h6 : Int) (t6 : Nat) (x6 : Int) (u6 : Nat) (n : Nat) (x left : Int) (s : BookS), (S_bl w L (esBT' L h6 t6 x6 u6) n x left s [bookG k left s.es] 2 (blP (esBT' L) h6 t6 x6 n k x s)).Holds (VV w)) : (S_bl w L (esBT' L h6 t6 x6 u6) n x left s [ltB 0 left, bookK s.es] 3 (fun ts => blP (esBT' L) h6 t6 x n k (x + -1) (s.put x (nth ts 0) .none) [nth ts 1, nth ts 2])).Holds (VV w) :=
  sN (F := F_blR w L k x s .none hv (esBT' L) 10 (ih w)) (vok _) (⟨[fun ns => bookG k (left - 1) (s.put x (nth ns 0) .none).es], fun f hf ns => by rw [List.mem_singleton.mp hf]; exact hN _⟩) 1000 ⟨[2,2,2,0,1,0,1,1,3,4,4,4,4,1,4,4,0,2,3,1,4,4,4,4,0,2,1,2,3,4,0,5000,1,0], [], [0,4,5]⟩ fun m t => by kernel_rfl
theorem blUTB (w : World) (L : LB) (h6 : Int) (t6 : Nat) (x6 : Int) (u6 : Nat) (n : Nat) (k : Nat) (x left : Int) (s : BookS) (y : Array UInt8) (u : Nat) (hv : bkGet s.es (x - 1) = (.bytes y u)) (hN : ∀ t, bookG k (left - 1) (s.put x t (.bytes y u)).es = true) (ih : ∀ (w : World) (h6 : Int) (t6 : Nat) (x6 : Int) (u6 : Nat) (n : Nat) (x left : Int) (s : BookS), (S_bl w L (esBT' L h6 t6 x6 u6) n x left s [bookG k left s.es] 2 (blP (esBT' L) h6 t6 x6 n k x s)).Holds (VV w)) : (S_bl w L (esBT' L h6 t6 x6 u6) n x left s [ltB 0 left, bookK s.es] 3 (fun ts => blP (esBT' L) h6 t6 x n k (x + -1) (s.put x (nth ts 0) (.bytes y u)) [nth ts 1, nth ts 2])).Holds (VV w) :=
  sN (F := F_blR w L k x s (.bytes y u) hv (esBT' L) 10 (ih w)) (vok _) (⟨[fun ns => bookG k (left - 1) (s.put x (nth ns 0) (.bytes y u)).es], fun f hf ns => by rw [List.mem_singleton.mp hf]; exact hN _⟩) 1000 ⟨[2,2,2,0,1,0,1,1,3,4,4,4,4,1,4,4,0,2,3,1,4,4,4,4,0,2,1,2,3,4,0,5000,1,0], [], [0,4,5]⟩ fun m t => by kernel_rfl
theorem blUTI (w : World) (L : LB) (h6 : Int) (t6 : Nat) (x6 : Int) (u6 : Nat) (n : Nat) (k : Nat) (x left : Int) (s : BookS) (y : Int) (u : Nat) (hv : bkGet s.es (x - 1) = (.int y u)) (hN : ∀ t, bookG k (left - 1) (s.put x t (.int y u)).es = true) (ih : ∀ (w : World) (h6 : Int) (t6 : Nat) (x6 : Int) (u6 : Nat) (n : Nat) (x left : Int) (s : BookS), (S_bl w L (esBT' L h6 t6 x6 u6) n x left s [bookG k left s.es] 2 (blP (esBT' L) h6 t6 x6 n k x s)).Holds (VV w)) : (S_bl w L (esBT' L h6 t6 x6 u6) n x left s [ltB 0 left, bookK s.es] 3 (fun ts => blP (esBT' L) h6 t6 x n k (x + -1) (s.put x (nth ts 0) (.int y u)) [nth ts 1, nth ts 2])).Holds (VV w) :=
  sN (F := F_blR w L k x s (.int y u) hv (esBT' L) 10 (ih w)) (vok _) (⟨[fun ns => bookG k (left - 1) (s.put x (nth ns 0) (.int y u)).es], fun f hf ns => by rw [List.mem_singleton.mp hf]; exact hN _⟩) 1000 ⟨[2,2,2,0,1,0,1,1,3,4,4,4,4,1,4,4,0,2,3,1,4,4,4,4,0,2,1,2,3,4,0,5000,1,0], [], [0,4,5]⟩ fun m t => by kernel_rfl
theorem ct0E (w : World) (F I D acc cb ct tb d : Nat)  (n : Nat) (T : Tab) (ks : Array Value) (m : Nat) (vs : Array Value) (mv : Nat) (x left : Int) (xs : Array Value) (nn : Nat) : (S_ct w F I D acc cb ct tb d #[] n T ks m vs mv x left xs nn [!ltB 0 left] 0 (fun _ => [some (oDict #[] n), none, some (oList xs nn)])).Holds (VV w) :=
  sF (F := FI w) (vok _) 400 ⟨[2,2,2,1,1,10], [], []⟩ fun m t => by kernel_rfl
theorem cb0E (w : World) (F I D acc cb ct bd : Nat)  (n : Nat) (s : BookS) (x left : Int) (xs : Array Value) (nn : Nat) : (S_cb w F I D acc cb ct bd #[] n s.es s.n x left xs nn [!ltB 0 left] 0 (fun _ => [some (oDict #[] n), none, some (oList xs nn)])).Holds (VV w) :=
  sF (F := FI w) (vok _) 400 ⟨[2,2,2,1,1,7], [], []⟩ fun m t => by kernel_rfl
theorem ct0TN (w : World) (F I D acc cb ct tb d : Nat)  (n : Nat) (T : Tab) (ks : Array Value) (m : Nat) (vs : Array Value) (mv : Nat) (k : Nat) (x left : Int) (xs : Array Value) (nn : Nat)  (hv : getI ks vs x = .none) (ih : ∀ (w : World) (h6 : Int) (t6 : Nat) (x6 : Int) (u6 : Nat) (n : Nat) (x left : Int) (xs : Array Value) (nn : Nat), (S_ct w F I D acc cb ct tb d (es1 h6 t6 x6 u6) n T ks m vs mv x left xs nn [rowG k left xs (tabI ks vs)] 1 (ctP h6 t6 x6 n k x (oList (rowT ks vs k x xs) (nn + k)))).Holds (VV w)) : (S_ct w F I D acc cb ct tb d #[] n T ks m vs mv x left xs nn [ltB 0 left, tabI ks vs, Nat.blt xs.size 1000, rowG k (left - 1) (xs.push .none) (tabI ks vs)] 2 (fun ts => ctP (hashOfZ w.params s0) (nth ts 1) x (n + 1) k (x + 1) (oList (rowT ks vs k (x + 1) (xs.push .none)) (nn + 1 + k)) ts)).Holds (VV w) :=
  sF (F := F_ctR w F I D acc cb ct tb d T ks m vs mv k x .none hv (ih w)) (vok _) 1000 ⟨[2,2,2,0,1,0,1,1,4,5,0,0,0,5,0,0,0,5,0,0,0,0,5,6,1,0,5,6,7,8,0,2,3,3,0,3,1,2,3,4,5,6,7,8,0,4], [], [2,1]⟩ fun m t => by kernel_rfl
theorem cb0TN (w : World) (F I D acc cb ct bd : Nat)  (n : Nat) (s : BookS) (k : Nat) (x left : Int) (xs : Array Value) (nn : Nat)  (hv : bkGet s.es x = .none) (ih : ∀ (w : World) (h6 : Int) (t6 : Nat) (x6 : Int) (u6 : Nat) (n : Nat) (x left : Int) (xs : Array Value) (nn : Nat), (S_cb w F I D acc cb ct bd (es1 h6 t6 x6 u6) n s.es s.n x left xs nn [rowG k left xs (bookK s.es)] 1 (ctP h6 t6 x6 n k x (oList (rowB s.es k x xs) (nn + k)))).Holds (VV w)) : (S_cb w F I D acc cb ct bd #[] n s.es s.n x left xs nn [ltB 0 left, bookK s.es, Nat.blt xs.size 1000, rowG k (left - 1) (xs.push .none) (bookK s.es)] 2 (fun ts => ctP (hashOfZ w.params s0) (nth ts 1) x (n + 1) k (x + 1) (oList (rowB s.es k (x + 1) (xs.push .none)) (nn + 1 + k)) ts)).Holds (VV w) :=
  sF (F := F_cbR w F I D acc cb ct bd s k x .none hv (ih w)) (vok _) 1000 ⟨[2,2,2,0,1,0,1,1,4,5,5,5,5,1,5,5,0,2,3,3,0,3,1,2,3,4,5,0,4], [], [2,1]⟩ fun m t => by kernel_rfl
theorem ct0TB (w : World) (F I D acc cb ct tb d : Nat)  (n : Nat) (T : Tab) (ks : Array Value) (m : Nat) (vs : Array Value) (mv : Nat) (k : Nat) (x left : Int) (xs : Array Value) (nn : Nat) (y : Array UInt8) (u : Nat) (hv : getI ks vs x = (.bytes y u)) (ih : ∀ (w : World) (h6 : Int) (t6 : Nat) (x6 : Int) (u6 : Nat) (n : Nat) (x left : Int) (xs : Array Value) (nn : Nat), (S_ct w F I D acc cb ct tb d (es1 h6 t6 x6 u6) n T ks m vs mv x left xs nn [rowG k left xs (tabI ks vs)] 1 (ctP h6 t6 x6 n k x (oList (rowT ks vs k x xs) (nn + k)))).Holds (VV w)) : (S_ct w F I D acc cb ct tb d #[] n T ks m vs mv x left xs nn [ltB 0 left, tabI ks vs, Nat.blt xs.size 1000, rowG k (left - 1) (xs.push (.bytes y u)) (tabI ks vs)] 2 (fun ts => ctP (hashOfZ w.params s0) (nth ts 1) x (n + 1) k (x + 1) (oList (rowT ks vs k (x + 1) (xs.push (.bytes y u))) (nn + 1 + k)) ts)).Holds (VV w) :=
  sF (F := F_ctR w F I D acc cb ct tb d T ks m vs mv k x (.bytes y u) hv (ih w)) (vok _) 1000 ⟨[2,2,2,0,1,0,1,1,4,5,0,0,0,5,0,0,0,5,0,0,0,0,5,6,1,0,5,6,7,8,0,2,3,3,0,3,1,2,3,4,5,6,7,8,0,4], [], [2,1]⟩ fun m t => by kernel_rfl
theorem cb0TB (w : World) (F I D acc cb ct bd : Nat)  (n : Nat) (s : BookS) (k : Nat) (x left : Int) (xs : Array Value) (nn : Nat) (y : Array UInt8) (u : Nat) (hv : bkGet s.es x = (.bytes y u)) (ih : ∀ (w : World) (h6 : Int) (t6 : Nat) (x6 : Int) (u6 : Nat) (n : Nat) (x left : Int) (xs : Array Value) (nn : Nat), (S_cb w F I D acc cb ct bd (es1 h6 t6 x6 u6) n s.es s.n x left xs nn [rowG k left xs (bookK s.es)] 1 (ctP h6 t6 x6 n k x (oList (rowB s.es k x xs) (nn + k)))).Holds (VV w)) : (S_cb w F I D acc cb ct bd #[] n s.es s.n x left xs nn [ltB 0 left, bookK s.es, Nat.blt xs.size 1000, rowG k (left - 1) (xs.push (.bytes y u)) (bookK s.es)] 2 (fun ts => ctP (hashOfZ w.params s0) (nth ts 1) x (n + 1) k (x + 1) (oList (rowB s.es k (x + 1) (xs.push (.bytes y u))) (nn + 1 + k)) ts)).Holds (VV w) :=
  sF (F := F_cbR w F I D acc cb ct bd s k x (.bytes y u) hv (ih w)) (vok _) 1000 ⟨[2,2,2,0,1,0,1,1,4,5,5,5,5,1,5,5,0,2,3,3,0,3,1,2,3,4,5,0,4], [], [2,1]⟩ fun m t => by kernel_rfl
theorem ct0TI (w : World) (F I D acc cb ct tb d : Nat)  (n : Nat) (T : Tab) (ks : Array Value) (m : Nat) (vs : Array Value) (mv : Nat) (k : Nat) (x left : Int) (xs : Array Value) (nn : Nat) (y : Int) (u : Nat) (hv : getI ks vs x = (.int y u)) (ih : ∀ (w : World) (h6 : Int) (t6 : Nat) (x6 : Int) (u6 : Nat) (n : Nat) (x left : Int) (xs : Array Value) (nn : Nat), (S_ct w F I D acc cb ct tb d (es1 h6 t6 x6 u6) n T ks m vs mv x left xs nn [rowG k left xs (tabI ks vs)] 1 (ctP h6 t6 x6 n k x (oList (rowT ks vs k x xs) (nn + k)))).Holds (VV w)) : (S_ct w F I D acc cb ct tb d #[] n T ks m vs mv x left xs nn [ltB 0 left, tabI ks vs, Nat.blt xs.size 1000, rowG k (left - 1) (xs.push (.int y u)) (tabI ks vs)] 2 (fun ts => ctP (hashOfZ w.params s0) (nth ts 1) x (n + 1) k (x + 1) (oList (rowT ks vs k (x + 1) (xs.push (.int y u))) (nn + 1 + k)) ts)).Holds (VV w) :=
  sF (F := F_ctR w F I D acc cb ct tb d T ks m vs mv k x (.int y u) hv (ih w)) (vok _) 1000 ⟨[2,2,2,0,1,0,1,1,4,5,0,0,0,5,0,0,0,5,0,0,0,0,5,6,1,0,5,6,7,8,0,2,3,3,0,3,1,2,3,4,5,6,7,8,0,4], [], [2,1]⟩ fun m t => by kernel_rfl
theorem cb0TI (w : World) (F I D acc cb ct bd : Nat)  (n : Nat) (s : BookS) (k : Nat) (x left : Int) (xs : Array Value) (nn : Nat) (y : Int) (u : Nat) (hv : bkGet s.es x = (.int y u)) (ih : ∀ (w : World) (h6 : Int) (t6 : Nat) (x6 : Int) (u6 : Nat) (n : Nat) (x left : Int) (xs : Array Value) (nn : Nat), (S_cb w F I D acc cb ct bd (es1 h6 t6 x6 u6) n s.es s.n x left xs nn [rowG k left xs (bookK s.es)] 1 (ctP h6 t6 x6 n k x (oList (rowB s.es k x xs) (nn + k)))).Holds (VV w)) : (S_cb w F I D acc cb ct bd #[] n s.es s.n x left xs nn [ltB 0 left, bookK s.es, Nat.blt xs.size 1000, rowG k (left - 1) (xs.push (.int y u)) (bookK s.es)] 2 (fun ts => ctP (hashOfZ w.params s0) (nth ts 1) x (n + 1) k (x + 1) (oList (rowB s.es k (x + 1) (xs.push (.int y u))) (nn + 1 + k)) ts)).Holds (VV w) :=
  sF (F := F_cbR w F I D acc cb ct bd s k x (.int y u) hv (ih w)) (vok _) 1000 ⟨[2,2,2,0,1,0,1,1,4,5,5,5,5,1,5,5,0,2,3,3,0,3,1,2,3,4,5,0,4], [], [2,1]⟩ fun m t => by kernel_rfl
theorem ct1E (w : World) (F I D acc cb ct tb d : Nat) (h6 : Int) (t6 : Nat) (x6 : Int) (u6 : Nat) (n : Nat) (T : Tab) (ks : Array Value) (m : Nat) (vs : Array Value) (mv : Nat) (x left : Int) (xs : Array Value) (nn : Nat) : (S_ct w F I D acc cb ct tb d (es1 h6 t6 x6 u6) n T ks m vs mv x left xs nn [!ltB 0 left] 0 (fun _ => [some (oDict (es1 h6 t6 x6 u6) n), none, some (oList xs nn)])).Holds (VV w) :=
  sF (F := FI w) (vok _) 400 ⟨[2,2,2,1,1,10], [], []⟩ fun m t => by kernel_rfl
theorem cb1E (w : World) (F I D acc cb ct bd : Nat) (h6 : Int) (t6 : Nat) (x6 : Int) (u6 : Nat) (n : Nat) (s : BookS) (x left : Int) (xs : Array Value) (nn : Nat) : (S_cb w F I D acc cb ct bd (es1 h6 t6 x6 u6) n s.es s.n x left xs nn [!ltB 0 left] 0 (fun _ => [some (oDict (es1 h6 t6 x6 u6) n), none, some (oList xs nn)])).Holds (VV w) :=
  sF (F := FI w) (vok _) 400 ⟨[2,2,2,1,1,7], [], []⟩ fun m t => by kernel_rfl
theorem ct1TN (w : World) (F I D acc cb ct tb d : Nat) (h6 : Int) (t6 : Nat) (x6 : Int) (u6 : Nat) (n : Nat) (T : Tab) (ks : Array Value) (m : Nat) (vs : Array Value) (mv : Nat) (k : Nat) (x left : Int) (xs : Array Value) (nn : Nat)  (hv : getI ks vs x = .none) (ih : ∀ (w : World) (h6 : Int) (t6 : Nat) (x6 : Int) (u6 : Nat) (n : Nat) (x left : Int) (xs : Array Value) (nn : Nat), (S_ct w F I D acc cb ct tb d (es1 h6 t6 x6 u6) n T ks m vs mv x left xs nn [rowG k left xs (tabI ks vs)] 1 (ctP h6 t6 x6 n k x (oList (rowT ks vs k x xs) (nn + k)))).Holds (VV w)) : (S_ct w F I D acc cb ct tb d (es1 h6 t6 x6 u6) n T ks m vs mv x left xs nn [ltB 0 left, tabI ks vs, Nat.blt xs.size 1000, rowG k (left - 1) (xs.push .none) (tabI ks vs)] 1 (fun ts => ctP h6 t6 x n k (x + 1) (oList (rowT ks vs k (x + 1) (xs.push .none)) (nn + 1 + k)) ts)).Holds (VV w) :=
  sF (F := F_ctR w F I D acc cb ct tb d T ks m vs mv k x .none hv (ih w)) (vok _) 1000 ⟨[2,2,2,0,1,0,1,1,4,5,0,0,0,5,0,0,0,5,0,0,0,0,5,6,1,0,5,6,7,8,0,2,3,3,0,3,1,2,3,4,5,6,7,8,0,4], [], [2]⟩ fun m t => by kernel_rfl
theorem cb1TN (w : World) (F I D acc cb ct bd : Nat) (h6 : Int) (t6 : Nat) (x6 : Int) (u6 : Nat) (n : Nat) (s : BookS) (k : Nat) (x left : Int) (xs : Array Value) (nn : Nat)  (hv : bkGet s.es x = .none) (ih : ∀ (w : World) (h6 : Int) (t6 : Nat) (x6 : Int) (u6 : Nat) (n : Nat) (x left : Int) (xs : Array Value) (nn : Nat), (S_cb w F I D acc cb ct bd (es1 h6 t6 x6 u6) n s.es s.n x left xs nn [rowG k left xs (bookK s.es)] 1 (ctP h6 t6 x6 n k x (oList (rowB s.es k x xs) (nn + k)))).Holds (VV w)) : (S_cb w F I D acc cb ct bd (es1 h6 t6 x6 u6) n s.es s.n x left xs nn [ltB 0 left, bookK s.es, Nat.blt xs.size 1000, rowG k (left - 1) (xs.push .none) (bookK s.es)] 1 (fun ts => ctP h6 t6 x n k (x + 1) (oList (rowB s.es k (x + 1) (xs.push .none)) (nn + 1 + k)) ts)).Holds (VV w) :=
  sF (F := F_cbR w F I D acc cb ct bd s k x .none hv (ih w)) (vok _) 1000 ⟨[2,2,2,0,1,0,1,1,4,5,5,5,5,1,5,5,0,2,3,3,0,3,1,2,3,4,5,0,4], [], [2]⟩ fun m t => by kernel_rfl
theorem ct1TB (w : World) (F I D acc cb ct tb d : Nat) (h6 : Int) (t6 : Nat) (x6 : Int) (u6 : Nat) (n : Nat) (T : Tab) (ks : Array Value) (m : Nat) (vs : Array Value) (mv : Nat) (k : Nat) (x left : Int) (xs : Array Value) (nn : Nat) (y : Array UInt8) (u : Nat) (hv : getI ks vs x = (.bytes y u)) (ih : ∀ (w : World) (h6 : Int) (t6 : Nat) (x6 : Int) (u6 : Nat) (n : Nat) (x left : Int) (xs : Array Value) (nn : Nat), (S_ct w F I D acc cb ct tb d (es1 h6 t6 x6 u6) n T ks m vs mv x left xs nn [rowG k left xs (tabI ks vs)] 1 (ctP h6 t6 x6 n k x (oList (rowT ks vs k x xs) (nn + k)))).Holds (VV w)) : (S_ct w F I D acc cb ct tb d (es1 h6 t6 x6 u6) n T ks m vs mv x left xs nn [ltB 0 left, tabI ks vs, Nat.blt xs.size 1000, rowG k (left - 1) (xs.push (.bytes y u)) (tabI ks vs)] 1 (fun ts => ctP h6 t6 x n k (x + 1) (oList (rowT ks vs k (x + 1) (xs.push (.bytes y u))) (nn + 1 + k)) ts)).Holds (VV w) :=
  sF (F := F_ctR w F I D acc cb ct tb d T ks m vs mv k x (.bytes y u) hv (ih w)) (vok _) 1000 ⟨[2,2,2,0,1,0,1,1,4,5,0,0,0,5,0,0,0,5,0,0,0,0,5,6,1,0,5,6,7,8,0,2,3,3,0,3,1,2,3,4,5,6,7,8,0,4], [], [2]⟩ fun m t => by kernel_rfl
theorem cb1TB (w : World) (F I D acc cb ct bd : Nat) (h6 : Int) (t6 : Nat) (x6 : Int) (u6 : Nat) (n : Nat) (s : BookS) (k : Nat) (x left : Int) (xs : Array Value) (nn : Nat) (y : Array UInt8) (u : Nat) (hv : bkGet s.es x = (.bytes y u)) (ih : ∀ (w : World) (h6 : Int) (t6 : Nat) (x6 : Int) (u6 : Nat) (n : Nat) (x left : Int) (xs : Array Value) (nn : Nat), (S_cb w F I D acc cb ct bd (es1 h6 t6 x6 u6) n s.es s.n x left xs nn [rowG k left xs (bookK s.es)] 1 (ctP h6 t6 x6 n k x (oList (rowB s.es k x xs) (nn + k)))).Holds (VV w)) : (S_cb w F I D acc cb ct bd (es1 h6 t6 x6 u6) n s.es s.n x left xs nn [ltB 0 left, bookK s.es, Nat.blt xs.size 1000, rowG k (left - 1) (xs.push (.bytes y u)) (bookK s.es)] 1 (fun ts => ctP h6 t6 x n k (x + 1) (oList (rowB s.es k (x + 1) (xs.push (.bytes y u))) (nn + 1 + k)) ts)).Holds (VV w) :=
  sF (F := F_cbR w F I D acc cb ct bd s k x (.bytes y u) hv (ih w)) (vok _) 1000 ⟨[2,2,2,0,1,0,1,1,4,5,5,5,5,1,5,5,0,2,3,3,0,3,1,2,3,4,5,0,4], [], [2]⟩ fun m t => by kernel_rfl
theorem ct1TI (w : World) (F I D acc cb ct tb d : Nat) (h6 : Int) (t6 : Nat) (x6 : Int) (u6 : Nat) (n : Nat) (T : Tab) (ks : Array Value) (m : Nat) (vs : Array Value) (mv : Nat) (k : Nat) (x left : Int) (xs : Array Value) (nn : Nat) (y : Int) (u : Nat) (hv : getI ks vs x = (.int y u)) (ih : ∀ (w : World) (h6 : Int) (t6 : Nat) (x6 : Int) (u6 : Nat) (n : Nat) (x left : Int) (xs : Array Value) (nn : Nat), (S_ct w F I D acc cb ct tb d (es1 h6 t6 x6 u6) n T ks m vs mv x left xs nn [rowG k left xs (tabI ks vs)] 1 (ctP h6 t6 x6 n k x (oList (rowT ks vs k x xs) (nn + k)))).Holds (VV w)) : (S_ct w F I D acc cb ct tb d (es1 h6 t6 x6 u6) n T ks m vs mv x left xs nn [ltB 0 left, tabI ks vs, Nat.blt xs.size 1000, rowG k (left - 1) (xs.push (.int y u)) (tabI ks vs)] 1 (fun ts => ctP h6 t6 x n k (x + 1) (oList (rowT ks vs k (x + 1) (xs.push (.int y u))) (nn + 1 + k)) ts)).Holds (VV w) :=
  sF (F := F_ctR w F I D acc cb ct tb d T ks m vs mv k x (.int y u) hv (ih w)) (vok _) 1000 ⟨[2,2,2,0,1,0,1,1,4,5,0,0,0,5,0,0,0,5,0,0,0,0,5,6,1,0,5,6,7,8,0,2,3,3,0,3,1,2,3,4,5,6,7,8,0,4], [], [2]⟩ fun m t => by kernel_rfl
theorem cb1TI (w : World) (F I D acc cb ct bd : Nat) (h6 : Int) (t6 : Nat) (x6 : Int) (u6 : Nat) (n : Nat) (s : BookS) (k : Nat) (x left : Int) (xs : Array Value) (nn : Nat) (y : Int) (u : Nat) (hv : bkGet s.es x = (.int y u)) (ih : ∀ (w : World) (h6 : Int) (t6 : Nat) (x6 : Int) (u6 : Nat) (n : Nat) (x left : Int) (xs : Array Value) (nn : Nat), (S_cb w F I D acc cb ct bd (es1 h6 t6 x6 u6) n s.es s.n x left xs nn [rowG k left xs (bookK s.es)] 1 (ctP h6 t6 x6 n k x (oList (rowB s.es k x xs) (nn + k)))).Holds (VV w)) : (S_cb w F I D acc cb ct bd (es1 h6 t6 x6 u6) n s.es s.n x left xs nn [ltB 0 left, bookK s.es, Nat.blt xs.size 1000, rowG k (left - 1) (xs.push (.int y u)) (bookK s.es)] 1 (fun ts => ctP h6 t6 x n k (x + 1) (oList (rowB s.es k (x + 1) (xs.push (.int y u))) (nn + 1 + k)) ts)).Holds (VV w) :=
  sF (F := F_cbR w F I D acc cb ct bd s k x (.int y u) hv (ih w)) (vok _) 1000 ⟨[2,2,2,0,1,0,1,1,4,5,5,5,5,1,5,5,0,2,3,3,0,3,1,2,3,4,5,0,4], [], [2]⟩ fun m t => by kernel_rfl
theorem bookG_iff {k : Nat} {left : Int} {es : Array DictEntry} : bookG k left es = true ↔ left.toNat = k ∧ bookK es = true ∧ es.size + k < 1000 ∧ simE es = true := by
  unfold bookG
  rw [Bool.and_eq_true, Bool.and_eq_true, Bool.and_eq_true]
  constructor
  · rintro ⟨a, b, c, d⟩; exact ⟨Nat.eq_of_beq_eq_true a, b, blt_iff c, d⟩
  · rintro ⟨a, b, c, d⟩; exact ⟨by rw [a]; exact Nat.beq_refl _, b, Nat.ble_eq_true_of_le c, d⟩
theorem sim_bkGet {es : Array DictEntry} (h : simE es = true) (x : Int) : simV (bkGet es x) = true := by
  unfold bkGet findBy
  cases hf : es.find? fun e => Value.isInt x e.key with
  | none => rfl
  | some e => exact List.all_eq_true.mp h e (Array.mem_toList_iff.mpr (Array.mem_of_find?_eq_some hf))
theorem simE_set {es : Array DictEntry} (h : simE es = true) (x : Int) (t : Nat) {v : Value} (hv : simV v = true) : simE (bkSet es x t v) = true := by
  refine List.all_eq_true.mpr fun e he => ?_
  have he := Array.mem_toList_iff.mp he
  unfold bkSet at he
  split at he
  · obtain ⟨j, hj, rfl⟩ := Array.mem_iff_getElem.mp he
    rw [Array.getElem_modify]
    split
    · exact hv
    · exact List.all_eq_true.mp h _ (Array.mem_toList_iff.mpr (Array.getElem_mem _))
  · rcases Array.mem_push.mp he with he | rfl
    · exact List.all_eq_true.mp h _ (Array.mem_toList_iff.mpr he)
    · exact hv
theorem bookG_put {k : Nat} {left : Int} {s : BookS} (h : bookG (k + 1) left s.es = true) (x : Int) {v : Value} (hv : simV v = true) (t : Nat) : bookG k (left - 1) (s.put x t v).es = true := by
  obtain ⟨h1, h2, h3, h4⟩ := bookG_iff.1 h
  have hs := bkSet_size s.es x t v
  refine bookG_iff.2 ⟨by lia, bookK_set h2 (by lia) x t v, ?_, simE_set h4 x t hv⟩
  show (bkSet s.es x t v).size + k < 1000
  lia
theorem blP_succ (R : Int → Nat → Int → Nat → Array DictEntry) (h6 : Int) (t6 : Nat) (x6 : Int) (n : Nat) (k : Nat) (x : Int) (s : BookS) (a b c : Nat) : blP R h6 t6 x6 n (k + 1) x s [prN a b, c] = blP R h6 t6 x n k (x + -1) (s.step x a) [b, c] := by
  have e : bkA (k + 1) (prN a b) x s = bkA k b (x + -1) (s.step x a) := by
    show bkA k (snN (prN a b)) (x + -1) (s.step x (fsN (prN a b))) = _
    rw [snN_pr, fsN_pr]
  show [some (oFrame (R h6 t6 (lastI (k + 1) x x6) c) n), none, some (oDict (bkA (k + 1) (prN a b) x s).es (bkA (k + 1) (prN a b) x s).n)] = _
  rw [e, lastI_succ]; rfl
theorem len3 {ts : List Nat} (h : ts.length = 3) : ∃ a b c, ts = [a, b, c] := by
  match ts, h with
  | [a, b, c], _ => exact ⟨_, _, _, rfl⟩
theorem bl_needs {k : Nat} {left : Int} {s : BookS} (q : bookG (k + 1) left s.es = true) : ∀ b ∈ [ltB 0 left, bookK s.es], b = true := by
  obtain ⟨h1, h2, h3, h4⟩ := bookG_iff.1 q
  intro b hb
  simp only [List.mem_cons, List.not_mem_nil, or_false] at hb
  rcases hb with rfl | rfl
  · exact ltB_iff'.2 (by lia)
  · exact h2
theorem bl9_later (L : LB) : ∀ (k : Nat) (w : World) (h6 : Int) (t6 : Nat) (x6 : Int) (u6 : Nat) (n : Nat) (x left : Int) (s : BookS), (S_bl w L (esB8' L h6 t6 x6 u6) n x left s [bookG k left s.es] 2 (blP (esB8' L) h6 t6 x6 n k x s)).Holds (VV w)
  | 0, w, h6, t6, x6, u6, n, x, left, s => Spec.Holds.more (S := S_bl w L (esB8' L h6 t6 x6 u6) n x left s [] 2 (blP (esB8' L) h6 t6 x6 n 0 x s)) (fun q => by
    obtain ⟨h1, h2, h3, h4⟩ := bookG_iff.1 (q _ mcS)
    have h := Spec.Holds.less (bl9E w L h6 t6 x6 u6 n x left s) (by
      intro b hb
      change b ∈ [!ltB 0 left] at hb
      rw [List.mem_singleton.mp hb]
      exact notB ltB_iff' (by lia))
    exact Spec.Holds.toks h (fun _ => [0, u6]) (fun as ts' hl => ⟨rfl, rfl, rfl, rfl⟩)) rfl
  | k + 1, w, h6, t6, x6, u6, n, x, left, s => Spec.Holds.more (S := S_bl w L (esB8' L h6 t6 x6 u6) n x left s [] 2 (blP (esB8' L) h6 t6 x6 n (k + 1) x s)) (fun q => by
    have q := q _ mcS
    have hs := sim_bkGet (bookG_iff.1 q).2.2.2 (x - 1)
    have ih := bl9_later L k
    have turn : ∀ {v : Value}, bkGet s.es (x - 1) = v → (S_bl w L (esB8' L h6 t6 x6 u6) n x left s [ltB 0 left, bookK s.es] 3 (fun ts => blP (esB8' L) h6 t6 x n k (x + -1) (s.put x (nth ts 0) v) [nth ts 1, nth ts 2])).Holds (VV w) →
        (S_bl w L (esB8' L h6 t6 x6 u6) n x left s [] 2 (blP (esB8' L) h6 t6 x6 n (k + 1) x s)).Holds (VV w) := fun hv h => by
      have h := Spec.Holds.less h (bl_needs q)
      refine Spec.Holds.toks h (fun ts => [prN (nth ts 0) (nth ts 1), nth ts 2]) (fun as ts hl => ?_)
      obtain ⟨a, b, c, rfl⟩ := len3 hl
      refine ⟨rfl, rfl, ?_, rfl⟩
      show blP (esB8' L) h6 t6 x6 n (k + 1) x s [prN a b, c] = blP (esB8' L) h6 t6 x n k (x + -1) (s.put x a _) [b, c]
      rw [blP_succ]
      unfold BookS.step
      rw [hv]
    rcases simV_cases hs with e | ⟨y, u, e⟩ | ⟨y, u, e⟩
    · exact turn e (bl9TN w L h6 t6 x6 u6 n k x left s e (bookG_put q x rfl) ih)
    · exact turn e (bl9TB w L h6 t6 x6 u6 n k x left s y u e (bookG_put q x rfl) ih)
    · exact turn e (bl9TI w L h6 t6 x6 u6 n k x left s y u e (bookG_put q x rfl) ih)) rfl
theorem bl8_first (L : LB) (k : Nat) (w : World) (n : Nat) (x left : Int) (s : BookS) : (S_bl w L (esB8 L) n x left s [bookG (k + 1) left s.es] 3 (fun ts => blP (esB8' L) (hashOfZ w.params s0) (nth ts 2) x (n + 1) (k + 1) x s ts)).Holds (VV w) :=
  Spec.Holds.more (S := S_bl w L (esB8 L) n x left s [] 3 (fun ts => blP (esB8' L) (hashOfZ w.params s0) (nth ts 2) x (n + 1) (k + 1) x s ts)) (fun q => by
    have q := q _ mcS
    have hs := sim_bkGet (bookG_iff.1 q).2.2.2 (x - 1)
    have ih := bl9_later L k
    have turn : ∀ {v : Value}, bkGet s.es (x - 1) = v → (S_bl w L (esB8 L) n x left s [ltB 0 left, bookK s.es] 4 (fun ts => blP (esB8' L) (hashOfZ w.params s0) (nth ts 3) x (n + 1) k (x + -1) (s.put x (nth ts 0) v) [nth ts 1, nth ts 2])).Holds (VV w) →
        (S_bl w L (esB8 L) n x left s [] 3 (fun ts => blP (esB8' L) (hashOfZ w.params s0) (nth ts 2) x (n + 1) (k + 1) x s ts)).Holds (VV w) := fun hv h => by
      have h := Spec.Holds.less h (bl_needs q)
      refine Spec.Holds.toks h (fun ts => [prN (nth ts 0) (nth ts 1), nth ts 2, nth ts 3]) (fun as ts hl => ?_)
      obtain ⟨a, b, c, d, rfl⟩ := len4 hl
      refine ⟨rfl, rfl, ?_, rfl⟩
      show blP (esB8' L) (hashOfZ w.params s0) d x (n + 1) (k + 1) x s [prN a b, c] = blP (esB8' L) (hashOfZ w.params s0) d x (n + 1) k (x + -1) (s.put x a _) [b, c]
      rw [blP_succ]
      unfold BookS.step
      rw [hv]
    rcases simV_cases hs with e | ⟨y, u, e⟩ | ⟨y, u, e⟩
    · exact turn e (bl8TN w L n k x left s e (bookG_put q x rfl) ih)
    · exact turn e (bl8TB w L n k x left s y u e (bookG_put q x rfl) ih)
    · exact turn e (bl8TI w L n k x left s y u e (bookG_put q x rfl) ih)) rfl
theorem blU_later (L : LB) : ∀ (k : Nat) (w : World) (h6 : Int) (t6 : Nat) (x6 : Int) (u6 : Nat) (n : Nat) (x left : Int) (s : BookS), (S_bl w L (esBT' L h6 t6 x6 u6) n x left s [bookG k left s.es] 2 (blP (esBT' L) h6 t6 x6 n k x s)).Holds (VV w)
  | 0, w, h6, t6, x6, u6, n, x, left, s => Spec.Holds.more (S := S_bl w L (esBT' L h6 t6 x6 u6) n x left s [] 2 (blP (esBT' L) h6 t6 x6 n 0 x s)) (fun q => by
    obtain ⟨h1, h2, h3, h4⟩ := bookG_iff.1 (q _ mcS)
    have h := Spec.Holds.less (blUE w L h6 t6 x6 u6 n x left s) (by
      intro b hb
      change b ∈ [!ltB 0 left] at hb
      rw [List.mem_singleton.mp hb]
      exact notB ltB_iff' (by lia))
    exact Spec.Holds.toks h (fun _ => [0, u6]) (fun as ts' hl => ⟨rfl, rfl, rfl, rfl⟩)) rfl
  | k + 1, w, h6, t6, x6, u6, n, x, left, s => Spec.Holds.more (S := S_bl w L (esBT' L h6 t6 x6 u6) n x left s [] 2 (blP (esBT' L) h6 t6 x6 n (k + 1) x s)) (fun q => by
    have q := q _ mcS
    have hs := sim_bkGet (bookG_iff.1 q).2.2.2 (x - 1)
    have ih := blU_later L k
    have turn : ∀ {v : Value}, bkGet s.es (x - 1) = v → (S_bl w L (esBT' L h6 t6 x6 u6) n x left s [ltB 0 left, bookK s.es] 3 (fun ts => blP (esBT' L) h6 t6 x n k (x + -1) (s.put x (nth ts 0) v) [nth ts 1, nth ts 2])).Holds (VV w) →
        (S_bl w L (esBT' L h6 t6 x6 u6) n x left s [] 2 (blP (esBT' L) h6 t6 x6 n (k + 1) x s)).Holds (VV w) := fun hv h => by
      have h := Spec.Holds.less h (bl_needs q)
      refine Spec.Holds.toks h (fun ts => [prN (nth ts 0) (nth ts 1), nth ts 2]) (fun as ts hl => ?_)
      obtain ⟨a, b, c, rfl⟩ := len3 hl
      refine ⟨rfl, rfl, ?_, rfl⟩
      show blP (esBT' L) h6 t6 x6 n (k + 1) x s [prN a b, c] = blP (esBT' L) h6 t6 x n k (x + -1) (s.put x a _) [b, c]
      rw [blP_succ]
      unfold BookS.step
      rw [hv]
    rcases simV_cases hs with e | ⟨y, u, e⟩ | ⟨y, u, e⟩
    · exact turn e (blUTN w L h6 t6 x6 u6 n k x left s e (bookG_put q x rfl) ih)
    · exact turn e (blUTB w L h6 t6 x6 u6 n k x left s y u e (bookG_put q x rfl) ih)
    · exact turn e (blUTI w L h6 t6 x6 u6 n k x left s y u e (bookG_put q x rfl) ih)) rfl
theorem blT_first (L : LB) (k : Nat) (w : World) (n : Nat) (x left : Int) (s : BookS) : (S_bl w L (esBT L) n x left s [bookG (k + 1) left s.es] 3 (fun ts => blP (esBT' L) (hashOfZ w.params s0) (nth ts 2) x (n + 1) (k + 1) x s ts)).Holds (VV w) :=
  Spec.Holds.more (S := S_bl w L (esBT L) n x left s [] 3 (fun ts => blP (esBT' L) (hashOfZ w.params s0) (nth ts 2) x (n + 1) (k + 1) x s ts)) (fun q => by
    have q := q _ mcS
    have hs := sim_bkGet (bookG_iff.1 q).2.2.2 (x - 1)
    have ih := blU_later L k
    have turn : ∀ {v : Value}, bkGet s.es (x - 1) = v → (S_bl w L (esBT L) n x left s [ltB 0 left, bookK s.es] 4 (fun ts => blP (esBT' L) (hashOfZ w.params s0) (nth ts 3) x (n + 1) k (x + -1) (s.put x (nth ts 0) v) [nth ts 1, nth ts 2])).Holds (VV w) →
        (S_bl w L (esBT L) n x left s [] 3 (fun ts => blP (esBT' L) (hashOfZ w.params s0) (nth ts 2) x (n + 1) (k + 1) x s ts)).Holds (VV w) := fun hv h => by
      have h := Spec.Holds.less h (bl_needs q)
      refine Spec.Holds.toks h (fun ts => [prN (nth ts 0) (nth ts 1), nth ts 2, nth ts 3]) (fun as ts hl => ?_)
      obtain ⟨a, b, c, d, rfl⟩ := len4 hl
      refine ⟨rfl, rfl, ?_, rfl⟩
      show blP (esBT' L) (hashOfZ w.params s0) d x (n + 1) (k + 1) x s [prN a b, c] = blP (esBT' L) (hashOfZ w.params s0) d x (n + 1) k (x + -1) (s.put x a _) [b, c]
      rw [blP_succ]
      unfold BookS.step
      rw [hv]
    rcases simV_cases hs with e | ⟨y, u, e⟩ | ⟨y, u, e⟩
    · exact turn e (blTTN w L n k x left s e (bookG_put q x rfl) ih)
    · exact turn e (blTTB w L n k x left s y u e (bookG_put q x rfl) ih)
    · exact turn e (blTTI w L n k x left s y u e (bookG_put q x rfl) ih)) rfl
theorem rowG_iff {k : Nat} {left : Int} {xs : Array Value} {b : Bool} : rowG k left xs b = true ↔ left.toNat = k ∧ xs.size + k < 1000 ∧ b = true := by
  unfold rowG
  rw [Bool.and_eq_true, Bool.and_eq_true]
  constructor
  · rintro ⟨a, b, c⟩; exact ⟨Nat.eq_of_beq_eq_true a, blt_iff b, c⟩
  · rintro ⟨a, b, c⟩; exact ⟨by rw [a]; exact Nat.beq_refl _, Nat.ble_eq_true_of_le b, c⟩
theorem rowG_push {k : Nat} {left : Int} {xs : Array Value} {b : Bool} (h : rowG (k + 1) left xs b = true) (v : Value) : rowG k (left - 1) (xs.push v) b = true := by
  obtain ⟨h1, h2, h3⟩ := rowG_iff.1 h
  refine rowG_iff.2 ⟨by lia, by rw [Array.size_push]; lia, h3⟩
theorem rowG_needs {k : Nat} {left : Int} {xs : Array Value} {b : Bool} (h : rowG (k + 1) left xs b = true) (v : Value) : ∀ c ∈ [ltB 0 left, b, Nat.blt xs.size 1000, rowG k (left - 1) (xs.push v) b], c = true := by
  obtain ⟨h1, h2, h3⟩ := rowG_iff.1 h
  intro c hc
  simp only [List.mem_cons, List.not_mem_nil, or_false] at hc
  rcases hc with rfl | rfl | rfl | rfl
  · exact ltB_iff'.2 (by lia)
  · exact h3
  · exact Nat.ble_eq_true_of_le (show xs.size + 1 ≤ 1000 by lia)
  · exact rowG_push h v
theorem rowG_end {left : Int} {xs : Array Value} {b : Bool} (h : rowG 0 left xs b = true) : ∀ c ∈ [!ltB 0 left], c = true := by
  obtain ⟨h1, h2, h3⟩ := rowG_iff.1 h
  intro c hc
  rw [List.mem_singleton.mp hc]
  exact notB ltB_iff' (by lia)
theorem add_one_k (n k : Nat) : n + 1 + k = n + (k + 1) := by lia
theorem lastU_succ (k : Nat) (x x6 : Int) : lastU (k + 1) x x6 = lastU k (x + 1) x := by
  cases k with
  | zero => show x + ((0 : Nat) : Int) = x; lia
  | succ k => show x + ((k + 1 : Nat) : Int) = x + 1 + (k : Int); lia
theorem ctP_succ (h6 : Int) (t6 : Nat) (x6 : Int) (n k : Nat) (x : Int) (o : Obj) (ts : List Nat) : ctP h6 t6 x6 n (k + 1) x o ts = ctP h6 t6 x n k (x + 1) o ts := by
  unfold ctP
  rw [lastU_succ]
section
variable (F I D acc cb ct tb d : Nat) (T : Tab) (ks : Array Value) (m : Nat) (vs : Array Value) (mv : Nat)
theorem ct_turn {w : World} {es : Array DictEntry} {n k : Nat} {x left : Int} {xs : Array Value} {nn : Nat} {v : Value} {nt : Nat} {h6 : Int} {t6 : List Nat → Nat} {x6 : Int} {n' : Nat} (hv : getI ks vs x = v) (q : rowG (k + 1) left xs (tabI ks vs) = true)
    (h : (S_ct w F I D acc cb ct tb d es n T ks m vs mv x left xs nn [ltB 0 left, tabI ks vs, Nat.blt xs.size 1000, rowG k (left - 1) (xs.push v) (tabI ks vs)] nt (fun ts => ctP h6 (t6 ts) x n' k (x + 1) (oList (rowT ks vs k (x + 1) (xs.push v)) (nn + 1 + k)) ts)).Holds (VV w)) :
    (S_ct w F I D acc cb ct tb d es n T ks m vs mv x left xs nn [] nt (fun ts => ctP h6 (t6 ts) x6 n' (k + 1) x (oList (rowT ks vs (k + 1) x xs) (nn + (k + 1))) ts)).Holds (VV w) := by
  have h := Spec.Holds.less h (rowG_needs q v)
  rw [← hv, add_one_k] at h
  simp only [ctP_succ]
  exact h
theorem ct_later : ∀ (k : Nat) (w : World) (h6 : Int) (t6 : Nat) (x6 : Int) (u6 : Nat) (n : Nat) (x left : Int) (xs : Array Value) (nn : Nat), (S_ct w F I D acc cb ct tb d (es1 h6 t6 x6 u6) n T ks m vs mv x left xs nn [rowG k left xs (tabI ks vs)] 1 (ctP h6 t6 x6 n k x (oList (rowT ks vs k x xs) (nn + k)))).Holds (VV w)
  | 0, w, h6, t6, x6, u6, n, x, left, xs, nn => Spec.Holds.more (S := S_ct w F I D acc cb ct tb d (es1 h6 t6 x6 u6) n T ks m vs mv x left xs nn [] 1 (ctP h6 t6 x6 n 0 x (oList (rowT ks vs 0 x xs) (nn + 0)))) (fun q => by
    have h := Spec.Holds.less (ct1E w F I D acc cb ct tb d h6 t6 x6 u6 n T ks m vs mv x left xs nn) (rowG_end (q _ mcS))
    exact Spec.Holds.toks h (fun _ => [u6]) (fun _ _ _ => ⟨rfl, rfl, rfl, rfl⟩)) rfl
  | k + 1, w, h6, t6, x6, u6, n, x, left, xs, nn => Spec.Holds.more (S := S_ct w F I D acc cb ct tb d (es1 h6 t6 x6 u6) n T ks m vs mv x left xs nn [] 1 (ctP h6 t6 x6 n (k + 1) x (oList (rowT ks vs (k + 1) x xs) (nn + (k + 1))))) (fun q => by
    have q := q _ mcS
    have hs := sim_getI (rowG_iff.1 q).2.2 x
    have ih := ct_later k
    rcases simV_cases hs with e | ⟨y, u, e⟩ | ⟨y, u, e⟩
    · exact ct_turn F I D acc cb ct tb d T ks m vs mv (t6 := fun _ => t6) e q (ct1TN w F I D acc cb ct tb d h6 t6 x6 u6 n T ks m vs mv k x left xs nn e ih)
    · exact ct_turn F I D acc cb ct tb d T ks m vs mv (t6 := fun _ => t6) e q (ct1TB w F I D acc cb ct tb d h6 t6 x6 u6 n T ks m vs mv k x left xs nn y u e ih)
    · exact ct_turn F I D acc cb ct tb d T ks m vs mv (t6 := fun _ => t6) e q (ct1TI w F I D acc cb ct tb d h6 t6 x6 u6 n T ks m vs mv k x left xs nn y u e ih)) rfl
theorem ct_first (k : Nat) (w : World) (n : Nat) (x left : Int) (xs : Array Value) (nn : Nat) : (S_ct w F I D acc cb ct tb d #[] n T ks m vs mv x left xs nn [rowG (k + 1) left xs (tabI ks vs)] 2 (fun ts => ctP (hashOfZ w.params s0) (nth ts 1) x (n + 1) (k + 1) x (oList (rowT ks vs (k + 1) x xs) (nn + (k + 1))) ts)).Holds (VV w) := Spec.Holds.more (S := S_ct w F I D acc cb ct tb d #[] n T ks m vs mv x left xs nn [] 2 (fun ts => ctP (hashOfZ w.params s0) (nth ts 1) x (n + 1) (k + 1) x (oList (rowT ks vs (k + 1) x xs) (nn + (k + 1))) ts)) (fun q => by
    have q := q _ mcS
    have hs := sim_getI (rowG_iff.1 q).2.2 x
    have ih := ct_later F I D acc cb ct tb d T ks m vs mv k
    rcases simV_cases hs with e | ⟨y, u, e⟩ | ⟨y, u, e⟩
    · exact ct_turn F I D acc cb ct tb d T ks m vs mv (t6 := fun ts => nth ts 1) e q (ct0TN w F I D acc cb ct tb d n T ks m vs mv k x left xs nn e ih)
    · exact ct_turn F I D acc cb ct tb d T ks m vs mv (t6 := fun ts => nth ts 1) e q (ct0TB w F I D acc cb ct tb d n T ks m vs mv k x left xs nn y u e ih)
    · exact ct_turn F I D acc cb ct tb d T ks m vs mv (t6 := fun ts => nth ts 1) e q (ct0TI w F I D acc cb ct tb d n T ks m vs mv k x left xs nn y u e ih)) rfl
end
section
variable (F I D acc cb ct bd : Nat) (s : BookS)
theorem cb_turn {w : World} {es : Array DictEntry} {n k : Nat} {x left : Int} {xs : Array Value} {nn : Nat} {v : Value} {nt : Nat} {h6 : Int} {t6 : List Nat → Nat} {x6 : Int} {n' : Nat} (hv : bkGet s.es x = v) (q : rowG (k + 1) left xs (bookK s.es) = true)
    (h : (S_cb w F I D acc cb ct bd es n s.es s.n x left xs nn [ltB 0 left, bookK s.es, Nat.blt xs.size 1000, rowG k (left - 1) (xs.push v) (bookK s.es)] nt (fun ts => ctP h6 (t6 ts) x n' k (x + 1) (oList (rowB s.es k (x + 1) (xs.push v)) (nn + 1 + k)) ts)).Holds (VV w)) :
    (S_cb w F I D acc cb ct bd es n s.es s.n x left xs nn [] nt (fun ts => ctP h6 (t6 ts) x6 n' (k + 1) x (oList (rowB s.es (k + 1) x xs) (nn + (k + 1))) ts)).Holds (VV w) := by
  have h := Spec.Holds.less h (rowG_needs q v)
  rw [← hv, add_one_k] at h
  simp only [ctP_succ]
  exact h
theorem cb_later (hS : simE s.es = true) : ∀ (k : Nat) (w : World) (h6 : Int) (t6 : Nat) (x6 : Int) (u6 : Nat) (n : Nat) (x left : Int) (xs : Array Value) (nn : Nat), (S_cb w F I D acc cb ct bd (es1 h6 t6 x6 u6) n s.es s.n x left xs nn [rowG k left xs (bookK s.es)] 1 (ctP h6 t6 x6 n k x (oList (rowB s.es k x xs) (nn + k)))).Holds (VV w)
  | 0, w, h6, t6, x6, u6, n, x, left, xs, nn => Spec.Holds.more (S := S_cb w F I D acc cb ct bd (es1 h6 t6 x6 u6) n s.es s.n x left xs nn [] 1 (ctP h6 t6 x6 n 0 x (oList (rowB s.es 0 x xs) (nn + 0)))) (fun q => by
    have h := Spec.Holds.less (cb1E w F I D acc cb ct bd h6 t6 x6 u6 n s x left xs nn) (rowG_end (q _ mcS))
    exact Spec.Holds.toks h (fun _ => [u6]) (fun _ _ _ => ⟨rfl, rfl, rfl, rfl⟩)) rfl
  | k + 1, w, h6, t6, x6, u6, n, x, left, xs, nn => Spec.Holds.more (S := S_cb w F I D acc cb ct bd (es1 h6 t6 x6 u6) n s.es s.n x left xs nn [] 1 (ctP h6 t6 x6 n (k + 1) x (oList (rowB s.es (k + 1) x xs) (nn + (k + 1))))) (fun q => by
    have q := q _ mcS
    have hs := sim_bkGet hS x
    have ih := cb_later hS k
    rcases simV_cases hs with e | ⟨y, u, e⟩ | ⟨y, u, e⟩
    · exact cb_turn F I D acc cb ct bd s (t6 := fun _ => t6) e q (cb1TN w F I D acc cb ct bd h6 t6 x6 u6 n s k x left xs nn e ih)
    · exact cb_turn F I D acc cb ct bd s (t6 := fun _ => t6) e q (cb1TB w F I D acc cb ct bd h6 t6 x6 u6 n s k x left xs nn y u e ih)
    · exact cb_turn F I D acc cb ct bd s (t6 := fun _ => t6) e q (cb1TI w F I D acc cb ct bd h6 t6 x6 u6 n s k x left xs nn y u e ih)) rfl
noncomputable def bookS (es : Array DictEntry) : Bool := bookK es && simE es
theorem cb_first (k : Nat) (w : World) (n : Nat) (x left : Int) (xs : Array Value) (nn : Nat) : (S_cb w F I D acc cb ct bd #[] n s.es s.n x left xs nn [rowG (k + 1) left xs (bookS s.es)] 2 (fun ts => ctP (hashOfZ w.params s0) (nth ts 1) x (n + 1) (k + 1) x (oList (rowB s.es (k + 1) x xs) (nn + (k + 1))) ts)).Holds (VV w) := Spec.Holds.more (S := S_cb w F I D acc cb ct bd #[] n s.es s.n x left xs nn [] 2 (fun ts => ctP (hashOfZ w.params s0) (nth ts 1) x (n + 1) (k + 1) x (oList (rowB s.es (k + 1) x xs) (nn + (k + 1))) ts)) (fun q => by
    have q := q _ mcS
    obtain ⟨q1, q2, q3⟩ := rowG_iff.1 q
    unfold bookS at q3
    rw [Bool.and_eq_true] at q3
    have q : rowG (k + 1) left xs (bookK s.es) = true := rowG_iff.2 ⟨q1, q2, q3.1⟩
    have hs := sim_bkGet q3.2 x
    have ih := cb_later F I D acc cb ct bd s q3.2 k
    rcases simV_cases hs with e | ⟨y, u, e⟩ | ⟨y, u, e⟩
    · exact cb_turn F I D acc cb ct bd s (t6 := fun ts => nth ts 1) e q (cb0TN w F I D acc cb ct bd n s k x left xs nn e ih)
    · exact cb_turn F I D acc cb ct bd s (t6 := fun ts => nth ts 1) e q (cb0TB w F I D acc cb ct bd n s k x left xs nn y u e ih)
    · exact cb_turn F I D acc cb ct bd s (t6 := fun ts => nth ts 1) e q (cb0TI w F I D acc cb ct bd n s k x left xs nn y u e ih)) rfl
end
noncomputable def FIn (w : World) (c : Code) : Option (Dp (VV w)) := match c with
  | .call (.ref a) ⟨[v], []⟩ => match Nat.beq a 329 with
    | true => none
    | false => FI w (.call (.ref a) ⟨[v], []⟩)
  | c => FI w c
noncomputable def S_ilF5 (w : World) (x : Vars) (nd : List Bool) : Spec := { code := forCode (nthS (bodyOf (o649 w.params)) 6) (vA x 1) (envF (o649 w.params) 649 (aA x 0) s9 []),dep := 700,need := nd ++ [],bel := some ([envF (o649 w.params) 649 (aA x 0) s9 [],envF (o413 w.params) 413 (aA x 13) s20 [],envF (o406 w.params) 406 (aA x 14) s21 [],envF (o399 w.params) 399 (aA x 15) s22 [],envF (o797 w.params) 797 (aA x 16) s23 [],envF (o809 w.params) 809 (aA x 17) s18 [(s19,(aA x 10)),(s6,(aA x 11))],envF (o835 w.params) 835 (aA x 18) s24 [(s10,(aA x 12))]],x.u),pre := [(aA x 0,{ cls := (.type "frame"),data := (.dict #[eX x 0 0 s4 (vA x 2),eX x 0 1 s5 (vR x 0 1),eX x 0 2 s6 (vA x 6),eX x 0 3 s7 (.int (x.I 0 3) (x.V 0 3)),eX x 0 4 s8 (.int (x.I 0 4) (x.V 0 4))] (x.N 0)) }),(aA x 1,{ cls := (.type "range_iterator"),data := (.fields #[(.int (x.I 1 0) 0),(.int (x.I 1 1) 0),(.int (-1) 0)]) }),(aA x 2,(iX 451 (aA x 3))),(aA x 3,{ cls := tyD,data := (.dict #[eX x 3 0 s25 (vA x 4),eX x 3 1 s26 (vB x b5 3 1),eX x 3 2 s27 (vR x 3 2),eX x 3 3 s28 (.int (x.I 3 3) (x.V 3 3)),eX x 3 4 s29 (vI x (0) 3 4),eX x 3 5 s30 (vR x 3 5),eX x 3 6 s31 (.int (x.I 3 6) (x.V 3 6)),eX x 3 7 s13 (vR x 3 7)] (x.N 3)) }),(aA x 4,(iX 53 (aA x 5))),(aA x 5,{ cls := tyD,data := (.dict #[eX x 5 0 s32 (vI x (80) 5 0),eX x 5 1 s33 (.int (250) 211),eX x 5 2 s34 (.int (60) 212),eX x 5 3 s35 (.int (200) 213),eX x 5 4 s36 (.int (40) 214),eX x 5 5 s30 (.int (200) 215),eX x 5 6 s37 (.int (x.I 5 6) (x.V 5 6)),eX x 5 7 s38 (.int (50) 217),eX x 5 8 s28 (.int (x.I 5 8) (x.V 5 8)),eX x 5 9 s17 (.int (x.I 5 9) (x.V 5 9))] (x.N 5)) }),(aA x 6,(iX 234 (aA x 7))),(aA x 7,(oTX x 7 (vI x (-90) 7 0) (vA x 8) (vA x 9) .none)),(aA x 8,{ cls := tyL,data := (.seq (x.Q 8) (x.N 8)) }),(aA x 9,{ cls := tyL,data := (.seq (x.Q 9) (x.N 9)) }),(aA x 10,{ cls := (.type "cell"),data := (.cell none) }),(aA x 11,{ cls := (.type "cell"),data := (.cell (some (vA x 6))) }),(aA x 12,{ cls := (.type "cell"),data := (.cell (some (vR x 12 0))) }),(aA x 13,{ cls := (.type "frame"),data := (.dict (x.E 13) (x.N 13)) }),(aA x 14,{ cls := (.type "frame"),data := (.dict (x.E 14) (x.N 14)) }),(aA x 15,{ cls := (.type "frame"),data := (.dict (x.E 15) (x.N 15)) }),(aA x 16,{ cls := (.type "frame"),data := (.dict (x.E 16) (x.N 16)) }),(aA x 17,{ cls := (.type "frame"),data := (.dict (x.E 17) (x.N 17)) }),(aA x 18,lfO false x.u (x.E 18) (x.N 18) (aA x 12))],touch := [0,1,3,8,9,13,14,15,16,17,18],na := 7,nt := 7,res := fun as ts => .error (.ref (nth as 0)),postT := fun as ts => [none,none,none,none,none,some ({ cls := (.type "frame"),data := (.dict (x.E 13) (x.N 13)),slots := #[(some (.ref 412)),(some (.ref 3)),none,(some (vA x 14)),none,(some (.ref 413)),(some (.ref 0))] }),some ({ cls := (.type "frame"),data := (.dict (x.E 14) (x.N 14)),slots := #[(some (.ref 405)),(some (.ref 3)),none,(some (vA x 15)),none,(some (.ref 406)),(some (.ref 0))] }),some ({ cls := (.type "frame"),data := (.dict (x.E 15) (x.N 15)),slots := #[(some (.ref 398)),(some (.ref 3)),none,(some (vA x 16)),none,(some (.ref 399)),(some (.ref 0))] }),some ({ cls := (.type "frame"),data := (.dict (x.E 16) (x.N 16)),slots := #[(some (.ref 796)),(some (.ref 3)),none,(some (vA x 17)),none,(some (.ref 797)),(some (.ref 0))] }),some ({ cls := (.type "frame"),data := (.dict (x.E 17) (x.N 17)),slots := #[(some (.ref 808)),(some (.ref 3)),none,(some (vA x 18)),none,(some (.ref 809)),(some (.ref 0)),(some (vA x 10)),(some (vA x 11))] }),some (lfO true x.u (x.E 18) (x.N 18) (aA x 12))],postN := fun as ts => [{ cls := (.ref 74),dict := (some (nth as 1)),data := (.fields #[(.ref (nth as 2)),(.ref (nth as 3)),.none,.none,(.bool false),.none]) },{ cls := tyD,data := (.dict #[eN w s39 (nth ts 0) (.bytes b6 (nth ts 1)),eN w s40 (nth ts 2) (.ref (nth as 4)),eN w s41 (nth ts 3) (.bool false)] 3) },{ cls := (.type "tuple"),data := (.seq #[(.bytes b6 (nth ts 1))] 0) },{ cls := (.type "traceback"),data := (.fields #[(.ref (nth as 5)),(vA x 0),.none,(.int (Int.ofNat (aA x 0)) 0),.none,(cq (nth ts 4) 0),(cq (nth ts 4) 1),(cq (nth ts 4) 2),(cq (nth ts 4) 3),(cq (nth ts 4) 4),(cq (nth ts 4) 5)]) },{ cls := tyL,data := (.seq #[] 0) },{ cls := (.type "traceback"),data := (.fields #[.none,(.ref (nth as 6)),.none,.none,.none,(cq (nth ts 5) 0),(cq (nth ts 5) 1),(cq (nth ts 5) 2),(cq (nth ts 5) 3),(cq (nth ts 5) 4),(cq (nth ts 5) 5)]) },{ cls := (.type "frame"),data := (.dict #[eN w s42 (nth ts 6) (vA x 2)] 1),slots := #[(some (.ref 328)),(some (.ref 3)),none,(some (vA x 0)),none,(some (.ref 329)),(some (.ref 0))] }],rawP := [8,9,13,14,15,16,17,18],rawQ := [3,4,5,6,7,8,9,10] }
noncomputable def S_ilF6 (w : World) (x : Vars) (nd : List Bool) : Spec := { code := forCode (nthS (bodyOf (o649 w.params)) 6) (vA x 1) (envF (o649 w.params) 649 (aA x 0) s9 []),dep := 700,need := nd ++ [],bel := some ([envF (o649 w.params) 649 (aA x 0) s9 [],envF (o413 w.params) 413 (aA x 13) s20 [],envF (o406 w.params) 406 (aA x 14) s21 [],envF (o399 w.params) 399 (aA x 15) s22 [],envF (o797 w.params) 797 (aA x 16) s23 [],envF (o809 w.params) 809 (aA x 17) s18 [(s19,(aA x 10)),(s6,(aA x 11))],envF (o835 w.params) 835 (aA x 18) s24 [(s10,(aA x 12))]],x.u),pre := [(aA x 0,{ cls := (.type "frame"),data := (.dict #[eX x 0 0 s4 (vA x 2),eX x 0 1 s5 (vR x 0 1),eX x 0 2 s6 (vA x 6),eX x 0 3 s7 (.int (x.I 0 3) (x.V 0 3)),eX x 0 4 s8 (.int (x.I 0 4) (x.V 0 4)),eX x 0 5 s0 (.int (x.I 0 5) (x.V 0 5))] (x.N 0)) }),(aA x 1,{ cls := (.type "range_iterator"),data := (.fields #[(.int (x.I 1 0) 0),(.int (x.I 1 1) 0),(.int (-1) 0)]) }),(aA x 2,(iX 451 (aA x 3))),(aA x 3,{ cls := tyD,data := (.dict #[eX x 3 0 s25 (vA x 4),eX x 3 1 s26 (vB x b5 3 1),eX x 3 2 s27 (vR x 3 2),eX x 3 3 s28 (.int (x.I 3 3) (x.V 3 3)),eX x 3 4 s29 (vI x (0) 3 4),eX x 3 5 s30 (vR x 3 5),eX x 3 6 s31 (.int (x.I 3 6) (x.V 3 6)),eX x 3 7 s13 (vR x 3 7)] (x.N 3)) }),(aA x 4,(iX 53 (aA x 5))),(aA x 5,{ cls := tyD,data := (.dict #[eX x 5 0 s32 (vI x (80) 5 0),eX x 5 1 s33 (.int (250) 211),eX x 5 2 s34 (.int (60) 212),eX x 5 3 s35 (.int (200) 213),eX x 5 4 s36 (.int (40) 214),eX x 5 5 s30 (.int (200) 215),eX x 5 6 s37 (.int (x.I 5 6) (x.V 5 6)),eX x 5 7 s38 (.int (50) 217),eX x 5 8 s28 (.int (x.I 5 8) (x.V 5 8)),eX x 5 9 s17 (.int (x.I 5 9) (x.V 5 9))] (x.N 5)) }),(aA x 6,(iX 234 (aA x 7))),(aA x 7,(oTX x 7 (vI x (-90) 7 0) (vA x 8) (vA x 9) .none)),(aA x 8,{ cls := tyL,data := (.seq (x.Q 8) (x.N 8)) }),(aA x 9,{ cls := tyL,data := (.seq (x.Q 9) (x.N 9)) }),(aA x 10,{ cls := (.type "cell"),data := (.cell none) }),(aA x 11,{ cls := (.type "cell"),data := (.cell (some (vA x 6))) }),(aA x 12,{ cls := (.type "cell"),data := (.cell (some (vR x 12 0))) }),(aA x 13,{ cls := (.type "frame"),data := (.dict (x.E 13) (x.N 13)) }),(aA x 14,{ cls := (.type "frame"),data := (.dict (x.E 14) (x.N 14)) }),(aA x 15,{ cls := (.type "frame"),data := (.dict (x.E 15) (x.N 15)) }),(aA x 16,{ cls := (.type "frame"),data := (.dict (x.E 16) (x.N 16)) }),(aA x 17,{ cls := (.type "frame"),data := (.dict (x.E 17) (x.N 17)) }),(aA x 18,lfO false x.u (x.E 18) (x.N 18) (aA x 12))],touch := [0,1,3,8,9,13,14,15,16,17,18],na := 7,nt := 7,res := fun as ts => .error (.ref (nth as 0)),postT := fun as ts => [none,none,none,none,none,some ({ cls := (.type "frame"),data := (.dict (x.E 13) (x.N 13)),slots := #[(some (.ref 412)),(some (.ref 3)),none,(some (vA x 14)),none,(some (.ref 413)),(some (.ref 0))] }),some ({ cls := (.type "frame"),data := (.dict (x.E 14) (x.N 14)),slots := #[(some (.ref 405)),(some (.ref 3)),none,(some (vA x 15)),none,(some (.ref 406)),(some (.ref 0))] }),some ({ cls := (.type "frame"),data := (.dict (x.E 15) (x.N 15)),slots := #[(some (.ref 398)),(some (.ref 3)),none,(some (vA x 16)),none,(some (.ref 399)),(some (.ref 0))] }),some ({ cls := (.type "frame"),data := (.dict (x.E 16) (x.N 16)),slots := #[(some (.ref 796)),(some (.ref 3)),none,(some (vA x 17)),none,(some (.ref 797)),(some (.ref 0))] }),some ({ cls := (.type "frame"),data := (.dict (x.E 17) (x.N 17)),slots := #[(some (.ref 808)),(some (.ref 3)),none,(some (vA x 18)),none,(some (.ref 809)),(some (.ref 0)),(some (vA x 10)),(some (vA x 11))] }),some (lfO true x.u (x.E 18) (x.N 18) (aA x 12))],postN := fun as ts => [{ cls := (.ref 74),dict := (some (nth as 1)),data := (.fields #[(.ref (nth as 2)),(.ref (nth as 3)),.none,.none,(.bool false),.none]) },{ cls := tyD,data := (.dict #[eN w s39 (nth ts 0) (.bytes b6 (nth ts 1)),eN w s40 (nth ts 2) (.ref (nth as 4)),eN w s41 (nth ts 3) (.bool false)] 3) },{ cls := (.type "tuple"),data := (.seq #[(.bytes b6 (nth ts 1))] 0) },{ cls := (.type "traceback"),data := (.fields #[(.ref (nth as 5)),(vA x 0),.none,(.int (Int.ofNat (aA x 0)) 0),.none,(cq (nth ts 4) 0),(cq (nth ts 4) 1),(cq (nth ts 4) 2),(cq (nth ts 4) 3),(cq (nth ts 4) 4),(cq (nth ts 4) 5)]) },{ cls := tyL,data := (.seq #[] 0) },{ cls := (.type "traceback"),data := (.fields #[.none,(.ref (nth as 6)),.none,.none,.none,(cq (nth ts 5) 0),(cq (nth ts 5) 1),(cq (nth ts 5) 2),(cq (nth ts 5) 3),(cq (nth ts 5) 4),(cq (nth ts 5) 5)]) },{ cls := (.type "frame"),data := (.dict #[eN w s42 (nth ts 6) (vA x 2)] 1),slots := #[(some (.ref 328)),(some (.ref 3)),none,(some (vA x 0)),none,(some (.ref 329)),(some (.ref 0))] }],rawP := [8,9,13,14,15,16,17,18],rawQ := [3,4,5,6,7,8,9,10] }
noncomputable def ilFG (k : Nat) (left : Int) (ks vs : Array Value) (steps lim : Int) : Bool := Nat.ble (k + 1) left.toNat && (tabI ks vs && (Nat.blt (ks.size + k) 1000 && eqB (steps + Int.ofNat k) lim))
noncomputable def F_ilFR (w : World) (x : Vars) (k : Nat) (v : Value) (hv : getI (x.Q 8) (x.Q 9) (x.I 1 0 - 1) = v) (ih : ∀ x : Vars, (S_ilF6 w x [ilFG k (x.I 1 1) (x.Q 8) (x.Q 9) (x.I 3 3) (x.I 5 8)]).Holds (VV w)) (c : Code) : Option (Dp (VV w)) := match c with
  | .forLoop _ _ _ _ _ => some ⟨1000, fun as os _ => some ⟨_, ih (varsOf [] as os x.u)⟩⟩
  | .call (.ref a) ⟨[q, .int y t], []⟩ => match Nat.beq a 210 with
    | true => some ⟨4, fun _ os _ => match os with
      | [_, o2, _, _] => match tabOf o2 with
        | some T => some ⟨S_get (x.A 6) (x.A 7) T (x.Q 8) (x.N 8) (x.Q 9) (x.N 9) (.int (x.I 1 0 - 1) t) [tabI (x.Q 8) (x.Q 9)] v, hv ▸ get_int w (x.A 6) (x.A 7) T (x.Q 8) (x.N 8) (x.Q 9) (x.N 9) (x.I 1 0 - 1) t⟩
        | none => none
      | _ => none⟩
    | false => FI w (.call (.ref a) ⟨[q, .int y t], []⟩)
  | c => FI w c
theorem R_ilF6 (w : World) (x : Vars) : (S_ilF6 w x [ltB 0 (x.I 1 1), ltB (x.I 5 8) (x.I 3 3 + 1)]).Holds (VV w) :=
  sF (F := FIn w) (vok _) 3000 ⟨q2, [21,23,20,26,24,25,19], [15,11,17,19,21,20,2]⟩ fun m t => by kernel_rfl
theorem R_ilF5TN (w : World) (x : Vars) (k : Nat)  (hv : getI (x.Q 8) (x.Q 9) (x.I 1 0 - 1) = .none) (hN : ∀ t, ilFG k (x.I 1 1 - 1) (setKs (x.Q 8) (.int (x.I 1 0) t) .none) (setVs (x.Q 8) (x.Q 9) (.int (x.I 1 0) t) .none) (x.I 3 3 + 1) (x.I 5 8) = true) (ih : ∀ (w : World) (x : Vars), (S_ilF6 w x [ilFG k (x.I 1 1) (x.Q 8) (x.Q 9) (x.I 3 3) (x.I 5 8)]).Holds (VV w)) : (S_ilF5 w x [ltB 0 (x.I 1 1), !ltB (x.I 5 8) (x.I 3 3 + 1), tabI (x.Q 8) (x.Q 9), tabI (x.Q 8) (x.Q 9) && true]).Holds (VV w) :=
  sN (F := F_ilFR w x k .none hv (ih w)) (vok _) (⟨[fun ns => ilFG k (x.I 1 1 - 1) (setKs (x.Q 8) (.int (x.I 1 0) (nth ns 0)) .none) (setVs (x.Q 8) (x.Q 9) (.int (x.I 1 0) (nth ns 0)) .none) (x.I 3 3 + 1) (x.I 5 8)], fun f hf ns => by rw [List.mem_singleton.mp hf]; exact hN _⟩) 1000 ⟨cp q1 0 79 (ap [19] (cp q1 79 10 (ap [11,12,13,14,15,16,17,18,19,0,5000,1,0] ([])))), [19,20,21,22,23,24,25], [5,6,7,8,9,10,11]⟩ fun m t => by kernel_rfl
theorem R_ilF5TB (w : World) (x : Vars) (k : Nat) (y : Array UInt8) (u : Nat) (hv : getI (x.Q 8) (x.Q 9) (x.I 1 0 - 1) = (.bytes y u)) (hN : ∀ t, ilFG k (x.I 1 1 - 1) (setKs (x.Q 8) (.int (x.I 1 0) t) (.bytes y u)) (setVs (x.Q 8) (x.Q 9) (.int (x.I 1 0) t) (.bytes y u)) (x.I 3 3 + 1) (x.I 5 8) = true) (ih : ∀ (w : World) (x : Vars), (S_ilF6 w x [ilFG k (x.I 1 1) (x.Q 8) (x.Q 9) (x.I 3 3) (x.I 5 8)]).Holds (VV w)) : (S_ilF5 w x [ltB 0 (x.I 1 1), !ltB (x.I 5 8) (x.I 3 3 + 1), tabI (x.Q 8) (x.Q 9), tabI (x.Q 8) (x.Q 9) && true]).Holds (VV w) :=
  sN (F := F_ilFR w x k (.bytes y u) hv (ih w)) (vok _) (⟨[fun ns => ilFG k (x.I 1 1 - 1) (setKs (x.Q 8) (.int (x.I 1 0) (nth ns 0)) (.bytes y u)) (setVs (x.Q 8) (x.Q 9) (.int (x.I 1 0) (nth ns 0)) (.bytes y u)) (x.I 3 3 + 1) (x.I 5 8)], fun f hf ns => by rw [List.mem_singleton.mp hf]; exact hN _⟩) 1000 ⟨cp q1 0 79 (ap [19] (cp q1 79 10 (ap [11,12,13,14,15,16,17,18,19,0,5000,1,0] ([])))), [19,20,21,22,23,24,25], [5,6,7,8,9,10,11]⟩ fun m t => by kernel_rfl
theorem R_ilF5TI (w : World) (x : Vars) (k : Nat) (y : Int) (u : Nat) (hv : getI (x.Q 8) (x.Q 9) (x.I 1 0 - 1) = (.int y u)) (hN : ∀ t, ilFG k (x.I 1 1 - 1) (setKs (x.Q 8) (.int (x.I 1 0) t) (.int y u)) (setVs (x.Q 8) (x.Q 9) (.int (x.I 1 0) t) (.int y u)) (x.I 3 3 + 1) (x.I 5 8) = true) (ih : ∀ (w : World) (x : Vars), (S_ilF6 w x [ilFG k (x.I 1 1) (x.Q 8) (x.Q 9) (x.I 3 3) (x.I 5 8)]).Holds (VV w)) : (S_ilF5 w x [ltB 0 (x.I 1 1), !ltB (x.I 5 8) (x.I 3 3 + 1), tabI (x.Q 8) (x.Q 9), tabI (x.Q 8) (x.Q 9) && true]).Holds (VV w) :=
  sN (F := F_ilFR w x k (.int y u) hv (ih w)) (vok _) (⟨[fun ns => ilFG k (x.I 1 1 - 1) (setKs (x.Q 8) (.int (x.I 1 0) (nth ns 0)) (.int y u)) (setVs (x.Q 8) (x.Q 9) (.int (x.I 1 0) (nth ns 0)) (.int y u)) (x.I 3 3 + 1) (x.I 5 8)], fun f hf ns => by rw [List.mem_singleton.mp hf]; exact hN _⟩) 1000 ⟨cp q1 0 79 (ap [19] (cp q1 79 10 (ap [11,12,13,14,15,16,17,18,19,0,5000,1,0] ([])))), [19,20,21,22,23,24,25], [5,6,7,8,9,10,11]⟩ fun m t => by kernel_rfl
theorem R_ilF6TN (w : World) (x : Vars) (k : Nat)  (hv : getI (x.Q 8) (x.Q 9) (x.I 1 0 - 1) = .none) (hN : ∀ t, ilFG k (x.I 1 1 - 1) (setKs (x.Q 8) (.int (x.I 1 0) t) .none) (setVs (x.Q 8) (x.Q 9) (.int (x.I 1 0) t) .none) (x.I 3 3 + 1) (x.I 5 8) = true) (ih : ∀ (w : World) (x : Vars), (S_ilF6 w x [ilFG k (x.I 1 1) (x.Q 8) (x.Q 9) (x.I 3 3) (x.I 5 8)]).Holds (VV w)) : (S_ilF6 w x [ltB 0 (x.I 1 1), !ltB (x.I 5 8) (x.I 3 3 + 1), tabI (x.Q 8) (x.Q 9), tabI (x.Q 8) (x.Q 9) && true]).Holds (VV w) :=
  sN (F := F_ilFR w x k .none hv (ih w)) (vok _) (⟨[fun ns => ilFG k (x.I 1 1 - 1) (setKs (x.Q 8) (.int (x.I 1 0) (nth ns 0)) .none) (setVs (x.Q 8) (x.Q 9) (.int (x.I 1 0) (nth ns 0)) .none) (x.I 3 3 + 1) (x.I 5 8)], fun f hf ns => by rw [List.mem_singleton.mp hf]; exact hN _⟩) 1000 ⟨cp q1 0 79 (ap [19] (cp q1 79 10 (ap [11,12,13,14,15,16,17,18,19,0,5000,1,0] ([])))), [19,20,21,22,23,24,25], [5,6,7,8,9,10,11]⟩ fun m t => by kernel_rfl
theorem R_ilF6TB (w : World) (x : Vars) (k : Nat) (y : Array UInt8) (u : Nat) (hv : getI (x.Q 8) (x.Q 9) (x.I 1 0 - 1) = (.bytes y u)) (hN : ∀ t, ilFG k (x.I 1 1 - 1) (setKs (x.Q 8) (.int (x.I 1 0) t) (.bytes y u)) (setVs (x.Q 8) (x.Q 9) (.int (x.I 1 0) t) (.bytes y u)) (x.I 3 3 + 1) (x.I 5 8) = true) (ih : ∀ (w : World) (x : Vars), (S_ilF6 w x [ilFG k (x.I 1 1) (x.Q 8) (x.Q 9) (x.I 3 3) (x.I 5 8)]).Holds (VV w)) : (S_ilF6 w x [ltB 0 (x.I 1 1), !ltB (x.I 5 8) (x.I 3 3 + 1), tabI (x.Q 8) (x.Q 9), tabI (x.Q 8) (x.Q 9) && true]).Holds (VV w) :=
  sN (F := F_ilFR w x k (.bytes y u) hv (ih w)) (vok _) (⟨[fun ns => ilFG k (x.I 1 1 - 1) (setKs (x.Q 8) (.int (x.I 1 0) (nth ns 0)) (.bytes y u)) (setVs (x.Q 8) (x.Q 9) (.int (x.I 1 0) (nth ns 0)) (.bytes y u)) (x.I 3 3 + 1) (x.I 5 8)], fun f hf ns => by rw [List.mem_singleton.mp hf]; exact hN _⟩) 1000 ⟨cp q1 0 79 (ap [19] (cp q1 79 10 (ap [11,12,13,14,15,16,17,18,19,0,5000,1,0] ([])))), [19,20,21,22,23,24,25], [5,6,7,8,9,10,11]⟩ fun m t => by kernel_rfl
theorem R_ilF6TI (w : World) (x : Vars) (k : Nat) (y : Int) (u : Nat) (hv : getI (x.Q 8) (x.Q 9) (x.I 1 0 - 1) = (.int y u)) (hN : ∀ t, ilFG k (x.I 1 1 - 1) (setKs (x.Q 8) (.int (x.I 1 0) t) (.int y u)) (setVs (x.Q 8) (x.Q 9) (.int (x.I 1 0) t) (.int y u)) (x.I 3 3 + 1) (x.I 5 8) = true) (ih : ∀ (w : World) (x : Vars), (S_ilF6 w x [ilFG k (x.I 1 1) (x.Q 8) (x.Q 9) (x.I 3 3) (x.I 5 8)]).Holds (VV w)) : (S_ilF6 w x [ltB 0 (x.I 1 1), !ltB (x.I 5 8) (x.I 3 3 + 1), tabI (x.Q 8) (x.Q 9), tabI (x.Q 8) (x.Q 9) && true]).Holds (VV w) :=
  sN (F := F_ilFR w x k (.int y u) hv (ih w)) (vok _) (⟨[fun ns => ilFG k (x.I 1 1 - 1) (setKs (x.Q 8) (.int (x.I 1 0) (nth ns 0)) (.int y u)) (setVs (x.Q 8) (x.Q 9) (.int (x.I 1 0) (nth ns 0)) (.int y u)) (x.I 3 3 + 1) (x.I 5 8)], fun f hf ns => by rw [List.mem_singleton.mp hf]; exact hN _⟩) 1000 ⟨cp q1 0 79 (ap [19] (cp q1 79 10 (ap [11,12,13,14,15,16,17,18,19,0,5000,1,0] ([])))), [19,20,21,22,23,24,25], [5,6,7,8,9,10,11]⟩ fun m t => by kernel_rfl
theorem ilFG_iff {k : Nat} {left : Int} {ks vs : Array Value} {steps lim : Int} : ilFG k left ks vs steps lim = true ↔ k + 1 ≤ left.toNat ∧ tabI ks vs = true ∧ ks.size + k < 1000 ∧ steps + (k : Int) = lim := by
  unfold ilFG
  rw [Bool.and_eq_true, Bool.and_eq_true, Bool.and_eq_true, eqB_iff']
  constructor
  · rintro ⟨a, b, c, d⟩; exact ⟨Nat.le_of_ble_eq_true a, b, blt_iff c, d⟩
  · rintro ⟨a, b, c, d⟩; exact ⟨Nat.ble_eq_true_of_le a, b, Nat.ble_eq_true_of_le c, d⟩
theorem ilFG_put {k : Nat} {left : Int} {ks vs : Array Value} {steps lim : Int} (h : ilFG (k + 1) left ks vs steps lim = true) (x : Int) {v : Value} (hv : simV v = true) (t : Nat) : ilFG k (left - 1) (setKs ks (.int x t) v) (setVs ks vs (.int x t) v) (steps + 1) lim = true := by
  obtain ⟨h1, h2, h3, h4⟩ := ilFG_iff.1 h
  have := setKs_size ks (.int x t) v
  exact ilFG_iff.2 ⟨by lia, tabI_set h2 x t hv (by lia), by lia, by lia⟩
theorem ilFG_needs {k : Nat} {left : Int} {ks vs : Array Value} {steps lim : Int} (h : ilFG (k + 1) left ks vs steps lim = true) : ∀ b ∈ [ltB 0 left, !ltB lim (steps + 1), tabI ks vs, tabI ks vs && true], b = true := by
  obtain ⟨h1, h2, h3, h4⟩ := ilFG_iff.1 h
  intro b hb
  simp only [List.mem_cons, List.not_mem_nil, or_false] at hb
  rcases hb with rfl | rfl | rfl | rfl
  · exact ltB_iff'.2 (by lia)
  · exact notB ltB_iff' (by lia)
  · exact h2
  · rw [h2]; rfl
theorem ilF_later : ∀ (k : Nat) (w : World) (x : Vars), (S_ilF6 w x [ilFG k (x.I 1 1) (x.Q 8) (x.Q 9) (x.I 3 3) (x.I 5 8)]).Holds (VV w)
  | 0, w, x => Spec.Holds.more (S := { S_ilF6 w x [] with need := [] }) (nd := [ilFG 0 (x.I 1 1) (x.Q 8) (x.Q 9) (x.I 3 3) (x.I 5 8)]) (fun q => by
    have q := q _ mcS
    obtain ⟨h1, h2, h3, h4⟩ := ilFG_iff.1 q
    have h := Spec.Holds.less (R_ilF6 w x) (by
      intro b hb
      change b ∈ [ltB 0 (x.I 1 1), ltB (x.I 5 8) (x.I 3 3 + 1)] at hb
      simp only [List.mem_cons, List.not_mem_nil, or_false] at hb
      rcases hb with rfl | rfl
      · exact ltB_iff'.2 (by lia)
      · exact ltB_iff'.2 (by lia))
    exact h) rfl
  | k + 1, w, x => Spec.Holds.more (S := { S_ilF6 w x [] with need := [] }) (nd := [ilFG (k + 1) (x.I 1 1) (x.Q 8) (x.Q 9) (x.I 3 3) (x.I 5 8)]) (fun q => by
    have q := q _ mcS
    have hs := sim_getI (ilFG_iff.1 q).2.1 (x.I 1 0 - 1)
    have ih := ilF_later k
    rcases simV_cases hs with e | ⟨y, u, e⟩ | ⟨y, u, e⟩
    · have h := Spec.Holds.less (R_ilF6TN w x k e (ilFG_put q (x.I 1 0) rfl) ih) (ilFG_needs q)
      exact h
    · have h := Spec.Holds.less (R_ilF6TB w x k y u e (ilFG_put q (x.I 1 0) rfl) ih) (ilFG_needs q)
      exact h
    · have h := Spec.Holds.less (R_ilF6TI w x k y u e (ilFG_put q (x.I 1 0) rfl) ih) (ilFG_needs q)
      exact h) rfl
theorem ilF_first (k : Nat) (w : World) (x : Vars) : (S_ilF5 w x [ilFG (k + 1) (x.I 1 1) (x.Q 8) (x.Q 9) (x.I 3 3) (x.I 5 8)]).Holds (VV w) := Spec.Holds.more (S := { S_ilF5 w x [] with need := [] }) (nd := [ilFG (k + 1) (x.I 1 1) (x.Q 8) (x.Q 9) (x.I 3 3) (x.I 5 8)]) (fun q => by
    have q := q _ mcS
    have hs := sim_getI (ilFG_iff.1 q).2.1 (x.I 1 0 - 1)
    have ih := ilF_later k
    rcases simV_cases hs with e | ⟨y, u, e⟩ | ⟨y, u, e⟩
    · have h := Spec.Holds.less (R_ilF5TN w x k e (ilFG_put q (x.I 1 0) rfl) ih) (ilFG_needs q)
      exact h
    · have h := Spec.Holds.less (R_ilF5TB w x k y u e (ilFG_put q (x.I 1 0) rfl) ih) (ilFG_needs q)
      exact h
    · have h := Spec.Holds.less (R_ilF5TI w x k y u e (ilFG_put q (x.I 1 0) rfl) ih) (ilFG_needs q)
      exact h) rfl
noncomputable def insF (left : Int) (ks vs : Array Value) (steps lim : Int) : Bool := (ltB steps lim && ltB (lim - steps) left) && (tabI ks vs && Nat.blt (ks.size + (lim - steps).toNat) 1000)
theorem insF_iff {left : Int} {ks vs : Array Value} {steps lim : Int} : insF left ks vs steps lim = true ↔ (steps < lim ∧ lim - steps < left) ∧ tabI ks vs = true ∧ ks.size + (lim - steps).toNat < 1000 := by
  unfold insF
  rw [Bool.and_eq_true, Bool.and_eq_true, Bool.and_eq_true, ltB_iff', ltB_iff']
  constructor
  · rintro ⟨a, b, c⟩; exact ⟨a, b, blt_iff c⟩
  · rintro ⟨a, b, c⟩; exact ⟨a, b, Nat.ble_eq_true_of_le c⟩
theorem ilF_any (w : World) (x : Vars) : (S_ilF5 w x [insF (x.I 1 1) (x.Q 8) (x.Q 9) (x.I 3 3) (x.I 5 8)]).Holds (VV w) := Spec.Holds.more (S := { S_ilF5 w x [] with need := [] }) (nd := [insF (x.I 1 1) (x.Q 8) (x.Q 9) (x.I 3 3) (x.I 5 8)]) (fun q => by
  obtain ⟨⟨h1, h2⟩, h3, h4⟩ := insF_iff.1 (q _ mcS)
  have h := Spec.Holds.less (ilF_first ((x.I 5 8 - x.I 3 3).toNat - 1) w x) (by
    intro b hb
    change b ∈ [ilFG ((x.I 5 8 - x.I 3 3).toNat - 1 + 1) (x.I 1 1) (x.Q 8) (x.Q 9) (x.I 3 3) (x.I 5 8)] at hb
    rw [List.mem_singleton.mp hb]
    exact ilFG_iff.2 ⟨by lia, h3, by lia, by lia⟩)
  exact h) rfl
noncomputable def pick3 {α : Type} (i : Int) (a b c : α) : α := match eqB i 0 with
  | true => a
  | false => match eqB i 1 with
    | true => b
    | false => c
noncomputable def in3 (i : Int) : Bool := leB 0 i && ltB i 3
theorem in3_cases {i : Int} (h : in3 i = true) : i = 0 ∨ i = 1 ∨ i = 2 := by
  unfold in3 at h
  rw [Bool.and_eq_true, leB_iff', ltB_iff'] at h
  lia
noncomputable def S_pickI (l : Nat) (i : Int) (t : Nat) (a : Int) (ta : Nat) (b : Int) (tb : Nat) (c : Int) (tc n : Nat) (nd : List Bool) : Spec := { code := .builtin "list.__getitem__" ⟨[.ref l, .int i t], []⟩, dep := 850, need := nd, pre := [(l, oList #[.int a ta, .int b tb, .int c tc] n)], touch := [], na := 0, nt := 1, res := fun _ ts => .ok (.ret (.int (pick3 i a b c) (nth ts 0))), postT := fun _ _ => [], postN := fun _ _ => [] }
noncomputable def S_pickB (l : Nat) (i : Int) (t : Nat) (a : Array UInt8) (ta : Nat) (b : Array UInt8) (tb : Nat) (c : Array UInt8) (tc n : Nat) (nd : List Bool) : Spec := { code := .builtin "list.__getitem__" ⟨[.ref l, .int i t], []⟩, dep := 850, need := nd, pre := [(l, oList #[.bytes a ta, .bytes b tb, .bytes c tc] n)], touch := [], na := 0, nt := 1, res := fun _ ts => .ok (.ret (.bytes (pick3 i a b c) (nth ts 0))), postT := fun _ _ => [], postN := fun _ _ => [] }
theorem pickI_at {V : Vn} {l : Nat} {i : Int} {t : Nat} {a : Int} {ta : Nat} {b : Int} {tb : Nat} {c : Int} {tc n : Nat} : (S_pickI l i t a ta b tb c tc n [in3 i]).Holds V := Spec.Holds.more (S := S_pickI l i t a ta b tb c tc n []) (fun q => by
  have q := q _ mcS
  rcases in3_cases q with rfl | rfl | rfl
  · exact Spec.Holds.toks (itemI_at (V := V) (l := l) (xs := #[.int a ta, .int b tb, .int c tc]) (n := n) (i := 0) (t := t) (v := .int a ta) (by decide) rfl (by decide)) (fun _ => [ta]) (fun _ _ _ => ⟨rfl, rfl, rfl, rfl⟩)
  · exact Spec.Holds.toks (itemI_at (V := V) (l := l) (xs := #[.int a ta, .int b tb, .int c tc]) (n := n) (i := 1) (t := t) (v := .int b tb) (by decide) rfl (by decide)) (fun _ => [tb]) (fun _ _ _ => ⟨rfl, rfl, rfl, rfl⟩)
  · exact Spec.Holds.toks (itemI_at (V := V) (l := l) (xs := #[.int a ta, .int b tb, .int c tc]) (n := n) (i := 2) (t := t) (v := .int c tc) (by decide) rfl (by decide)) (fun _ => [tc]) (fun _ _ _ => ⟨rfl, rfl, rfl, rfl⟩)) rfl
theorem pickB_at {V : Vn} {l : Nat} {i : Int} {t : Nat} {a : Array UInt8} {ta : Nat} {b : Array UInt8} {tb : Nat} {c : Array UInt8} {tc n : Nat} : (S_pickB l i t a ta b tb c tc n [in3 i]).Holds V := Spec.Holds.more (S := S_pickB l i t a ta b tb c tc n []) (fun q => by
  have q := q _ mcS
  rcases in3_cases q with rfl | rfl | rfl
  · exact Spec.Holds.toks (itemI_at (V := V) (l := l) (xs := #[.bytes a ta, .bytes b tb, .bytes c tc]) (n := n) (i := 0) (t := t) (v := .bytes a ta) (by decide) rfl (by decide)) (fun _ => [ta]) (fun _ _ _ => ⟨rfl, rfl, rfl, rfl⟩)
  · exact Spec.Holds.toks (itemI_at (V := V) (l := l) (xs := #[.bytes a ta, .bytes b tb, .bytes c tc]) (n := n) (i := 1) (t := t) (v := .bytes b tb) (by decide) rfl (by decide)) (fun _ => [tb]) (fun _ _ _ => ⟨rfl, rfl, rfl, rfl⟩)
  · exact Spec.Holds.toks (itemI_at (V := V) (l := l) (xs := #[.bytes a ta, .bytes b tb, .bytes c tc]) (n := n) (i := 2) (t := t) (v := .bytes c tc) (by decide) rfl (by decide)) (fun _ => [tc]) (fun _ _ _ => ⟨rfl, rfl, rfl, rfl⟩)) rfl
noncomputable def D_pick {V : Vn} (i : Int) (t : Nat) : Dp V := ⟨1, fun as os _ => match as with
  | [l] => match os with
    | [o] => match seqOf o with
      | some (xs, n) => match xs.toList with
        | [a, b, c] => match a with
          | .bytes .. => some ⟨S_pickB l i t (bytesOf a) (tokOf a) (bytesOf b) (tokOf b) (bytesOf c) (tokOf c) n [in3 i], pickB_at⟩
          | _ => some ⟨S_pickI l i t (intOf a) (tokOf a) (intOf b) (tokOf b) (intOf c) (tokOf c) n [in3 i], pickI_at⟩
        | _ => none
      | none => none
    | _ => none
  | _ => none⟩
noncomputable def D_il (w : World) : Dp (VV w) := ⟨10, fun as os alt => match as with
  | [F, I, H, hd, _, ld, tb, d, _, _] => match os with
    | [oF, oI, _, oH, _, oL, _, oT, ok, ov] => match oI.data with
      | .fields vs => match hostOf oH with
        | some (S, z) => match limOf oL with
          | some M => match tabOf oT with
            | some T => match seqOf ok with
              | some (ks, m) => match seqOf ov with
                | some (ws, mv) => match alt with
                  | 0 => some ⟨_, il_first ⟨F, I, H, hd, ld, tb, d, refOf (enAt (dictOf oF) 1).val, fun i => (enAt (dictOf oF) i).hash, fun i => strTok (enAt (dictOf oF) i).key, intOf (enAt (dictOf oF) 3).val, tokOf (enAt (dictOf oF) 3).val, intOf (enAt (dictOf oF) 4).val, tokOf (enAt (dictOf oF) 4).val⟩ S M T z.fr z.deep z.td ((intOf (vs.toList.getD 1 .none)).toNat - 1) w (dictN oF) (intOf (vs.toList.getD 0 .none)) (intOf (vs.toList.getD 1 .none)) z.steps z.ts ⟨ks, m, ws, mv⟩⟩
                  | _ => some ⟨_, il5E w ⟨F, I, H, hd, ld, tb, d, refOf (enAt (dictOf oF) 1).val, fun i => (enAt (dictOf oF) i).hash, fun i => strTok (enAt (dictOf oF) i).key, intOf (enAt (dictOf oF) 3).val, tokOf (enAt (dictOf oF) 3).val, intOf (enAt (dictOf oF) 4).val, tokOf (enAt (dictOf oF) 4).val⟩ (dictN oF) S M T (intOf (vs.toList.getD 0 .none)) (intOf (vs.toList.getD 1 .none)) z.steps z.ts z.fr z.deep z.td ⟨ks, m, ws, mv⟩⟩
                | none => none
              | none => none
            | none => none
          | none => none
        | none => none
      | _ => none
    | _ => none
  | _ => none⟩
noncomputable def lbOf (F I cb ct bd : Nat) (es : Array DictEntry) : LB := ⟨F, I, cb, ct, bd, fun i => (enAt es i).hash, fun i => strTok (enAt es i).key, fun i => refOf (enAt es i).val, fun i => intOf (enAt es i).val, fun i => tokOf (enAt es i).val, bytesOf (enAt es 9).val⟩
noncomputable def D_bl (w : World) (ct : Nat) : Dp (VV w) := ⟨4, fun as os alt => match as with
  | [F, I, cb, bd] => match os with
    | [oF, oI, _, ob] => match oI.data with
      | .fields vs => match alt with
        | 0 => some ⟨_, bl8_first (lbOf F I cb ct bd (dictOf oF)) ((intOf (vs.toList.getD 1 .none)).toNat - 1) w (dictN oF) (intOf (vs.toList.getD 0 .none)) (intOf (vs.toList.getD 1 .none)) ⟨dictOf ob, dictN ob⟩⟩
        | 1 => some ⟨_, blT_first (lbOf F I cb ct bd (dictOf oF)) ((intOf (vs.toList.getD 1 .none)).toNat - 1) w (dictN oF) (intOf (vs.toList.getD 0 .none)) (intOf (vs.toList.getD 1 .none)) ⟨dictOf ob, dictN ob⟩⟩
        | 2 => some ⟨_, bl8E w (lbOf F I cb ct bd (dictOf oF)) (dictN oF) (intOf (vs.toList.getD 0 .none)) (intOf (vs.toList.getD 1 .none)) ⟨dictOf ob, dictN ob⟩⟩
        | _ => some ⟨_, blTE w (lbOf F I cb ct bd (dictOf oF)) (dictN oF) (intOf (vs.toList.getD 0 .none)) (intOf (vs.toList.getD 1 .none)) ⟨dictOf ob, dictN ob⟩⟩
      | _ => none
    | _ => none
  | _ => none⟩
noncomputable def D_ct (w : World) (F cb : Nat) : Dp (VV w) := ⟨8, fun as os _ => match as with
  | [D, I, acc, ct, tb, d, _, _] => match os with
    | [oD, oI, oA, _, _, oT, ok, ov] => match oI.data with
      | .fields ws => match seqOf oA with
        | some (xs, nn) => match tabOf oT with
          | some T => match seqOf ok with
            | some (ks, m) => match seqOf ov with
              | some (vs, mv) => some ⟨_, ct_first F I D acc cb ct tb d T ks m vs mv ((intOf (ws.toList.getD 1 .none)).toNat - 1) w (dictN oD) (intOf (ws.toList.getD 0 .none)) (intOf (ws.toList.getD 1 .none)) xs nn⟩
              | none => none
            | none => none
          | none => none
        | none => none
      | _ => none
    | _ => none
  | _ => none⟩
noncomputable def D_cb (w : World) (F ct : Nat) : Dp (VV w) := ⟨5, fun as os _ => match as with
  | [D, I, acc, cb, bd] => match os with
    | [oD, oI, oA, _, ob] => match oI.data with
      | .fields ws => match seqOf oA with
        | some (xs, nn) => some ⟨_, cb_first F I D acc cb ct bd ⟨dictOf ob, dictN ob⟩ ((intOf (ws.toList.getD 1 .none)).toNat - 1) w (dictN oD) (intOf (ws.toList.getD 0 .none)) (intOf (ws.toList.getD 1 .none)) xs nn⟩
        | none => none
      | _ => none
    | _ => none
  | _ => none⟩
noncomputable def D_bget {V : Vn} (y : Int) (t : Nat) : Dp V := ⟨1, fun as os _ => match as with
  | [a] => match os with
    | [o] => some ⟨S_bget a (dictOf o) (dictN o) y t (bkGet (dictOf o) y), bget_at⟩
    | _ => none
  | _ => none⟩
noncomputable def D_bset {V : Vn} (y : Int) (t : Nat) (z : Value) : Dp V := ⟨1, fun as os _ => match as with
  | [a] => match os with
    | [o] => some ⟨S_bset a (dictOf o) (dictN o) y t z, bset_at⟩
    | _ => none
  | _ => none⟩
noncomputable def D_rleq {V : Vn} : Dp V := ⟨2, fun as os alt => match as with
  | [l, l'] => match os with
    | [o, o'] => match seqOf o with
      | some (xs, n) => match seqOf o' with
        | some (ys, m) => match alt with
          | 0 => some ⟨S_leq l l' xs n ys m [kindL xs.toList ys.toList] (eqL xs.toList ys.toList), leq_at fun q => ⟨q _ mcS, rfl⟩⟩
          | _ => some ⟨S_leq l l' xs n ys m [rowEq xs.toList ys.toList] true, rleq_at⟩
        | none => none
      | none => none
    | _ => none
  | _ => none⟩
noncomputable def cellOf (l : List (Str × Nat)) (i : Nat) : Nat := (l.getD i (s43,0)).2
noncomputable def D_gi {V : Vn} (i : Int) (t : Nat) : Dp V := ⟨1, fun as os alt => match alt with
  | 0 => (D_pick (V := V) i t).get as os 0
  | _ => match as with
    | [l] => match os with
      | [o] => match seqOf o with
        | some (xs, n) => D_itemE l xs n i t
        | none => none
      | _ => none
    | _ => none⟩
noncomputable def D_lr (w : World) (m : Nat) (args : List Value) : Dp (VV w) := ⟨1000, fun as os _ => match m with
  | 0 => some ⟨_, R_lr0 w (varsOf args as os)⟩
  | 1 => some ⟨_, R_lr1 w (varsOf args as os)⟩
  | 2 => some ⟨_, R_lr2 w (varsOf args as os)⟩
  | 3 => some ⟨_, R_lr3 w (varsOf args as os)⟩
  | _ => some ⟨_, R_lr4 w (varsOf args as os)⟩⟩
noncomputable def FP (w : World) (m : Nat) (ok : Bool) (u : Bool) (c : Code) : Option (Dp (VV w)) := match c with
  | .forLoop t _ _ _ e => match t with
    | .Name _ _ => match e.func with
      | some f => match Nat.beq f 649 with
        | true => match ok with
          | true => some (D_il w)
          | false => some ⟨1000, fun as os _ => some ⟨_, ilF_any w (varsOf [] as os u)⟩⟩
        | false => match Nat.beq f 809 with
          | true => some (D_bl w (cellOf e.cells 1))
          | false => none
      | none => none
    | _ => none
  | .compLoop _ _ _ _ e => some ⟨1000, fun as os alt => match alt with
    | 0 => (D_ct w (e.frame.getD 0) 0).get as os 0
    | _ => (D_cb w (e.frame.getD 0) 0).get as os 0⟩
  | .call (.ref a) ⟨[v], []⟩ => match Nat.beq a 804 with
    | true => some (D_lr w m [v])
    | false => FI w (.call (.ref a) ⟨[v], []⟩)
  | .builtin id ⟨[.ref a, .int y t], []⟩ => match idIs id 128106587276438692081757506308484131437 with
    | true => some (D_gi y t)
    | false => FI w (.builtin id ⟨[.ref a, .int y t], []⟩)
  | .builtin id ⟨[.ref a, .int y t, z], []⟩ => match idIs id 128106587276438692082622197436938218085 with
    | true => some (D_bset y t z)
    | false => FI w (.builtin id ⟨[.ref a, .int y t, z], []⟩)
  | .builtin id ⟨[.ref a, .ref b], []⟩ => match idIs id 116512336171186236184357485 with
    | true => some D_rleq
    | false => FI w (.builtin id ⟨[.ref a, .ref b], []⟩)
  | c => FI w c
noncomputable def rowV (x : Vars) (i m : Nat) : Array Value := match m with
  | 0 => #[]
  | 1 => #[.bytes (x.Y i 0) (x.V i 0)]
  | 2 => #[.bytes (x.Y i 0) (x.V i 0), .bytes (x.Y i 1) (x.V i 1)]
  | 3 => #[.bytes (x.Y i 0) (x.V i 0), .bytes (x.Y i 1) (x.V i 1), .bytes (x.Y i 2) (x.V i 2)]
  | _ => #[.bytes (x.Y i 0) (x.V i 0), .bytes (x.Y i 1) (x.V i 1), .bytes (x.Y i 2) (x.V i 2), .bytes (x.Y i 3) (x.V i 3)]
noncomputable def Vars.row (x : Vars) (i m : Nat) : Vars := { x with Q := fun j => match Nat.beq j i with | true => rowV x i m | false => x.Q j }
noncomputable def keyA (ns : List Nat) (m : Nat) : Array Value := match m with
  | 0 => #[]
  | 1 => #[.int 1 (ns.getD 0 0)]
  | 2 => #[.int 1 (ns.getD 0 0), .int 2 (ns.getD 1 0)]
  | 3 => #[.int 1 (ns.getD 0 0), .int 2 (ns.getD 1 0), .int 3 (ns.getD 2 0)]
  | _ => #[.int 1 (ns.getD 0 0), .int 2 (ns.getD 1 0), .int 3 (ns.getD 2 0), .int 4 (ns.getD 3 0)]
noncomputable def bookP (ns : List Nat) (o : Nat) (vs : Array Value) (m : Nat) : BookS := match m with
  | 0 => ⟨#[], 0⟩
  | k + 1 => (bookP ns o vs k).put (Int.ofNat k + 1) (ns.getD (o + k) 0) (vs.toList.getD k .none)
section
variable (m : Nat) (ys : Array Value) (a : Int) (vs : Array Value)
noncomputable def plP : Int := pick3 (drawV ys (a + 1 + 1 + 1) 2) (0 - drawV ys a 59) (1 + drawV ys (a + 1) 5) (5 + drawV ys (a + 1 + 1) 49)
noncomputable def enP : Int := maxI (Int.ofNat m + 1) (plP ys a)
noncomputable def rdP : Int := rsz (enP m ys a) (plP ys a) (-1)
noncomputable def tabP (z : Bool) (ns : List Nat) : TabS := match z with
  | true => ⟨keyA ns m, m, vs, m⟩
  | false => insA ((rdP m ys a).toNat - 1 + 1) (ns.getD m 0) (enP m ys a) ⟨keyA ns m, m, vs, m⟩
noncomputable def bokP (z : Bool) (ns : List Nat) (o : Nat) : BookS := match z with
  | true => bookP ns o vs m
  | false => bkA ((rdP m ys a).toNat - 1 + 1) (ns.getD (o + m) 0) (enP m ys a) (bookP ns o vs m)
noncomputable def putNd (md : Nat) (lim : Int) : List Bool := [drawOk ys a, drawOk ys (a + 1), drawOk ys (a + 1 + 1), drawOk ys (a + 1 + 1 + 1), in3 (drawV ys (a + 1 + 1 + 1) 2), fewI (enP m ys a) && fewI (plP ys a) && (eqB (-1) 1 || eqB (-1) (-1)), match md with | 0 => ltB (lim - 0) (1 + enP m ys a - plP ys a) | _ => !ltB (lim - 0) (1 + enP m ys a - plP ys a), !ltB lim (0 + 1), match md with | 2 => !ltB 0 (rdP m ys a) | _ => true]
noncomputable def putNF (lim : Int) : List (List Nat → Bool) := [fun ns => insF (rdP m ys a) (keyA ns m) vs (0 + 1) lim]
noncomputable def tabE (z : Bool) (ns : List Nat) : TabS := (tabP m ys a vs z ns).put (plP ys a) (ns.getD (m + 1) 0) (.int 7 (ns.getD (m + 2) 0))
noncomputable def bokE (z : Bool) (ns : List Nat) (o p s : Nat) : BookS := (bokP m ys a vs z ns o).put (plP ys a) (ns.getD p 0) (.int 7 (ns.getD s 0))
noncomputable def putN (z : Bool) (lim : Int) : List (List Nat → Bool) := [
  match z with | true => (fun _ => true) | false => fun ns => insG ((rdP m ys a).toNat - 1 + 1) (rdP m ys a) (keyA ns m) vs (0 + 1) lim,
  fun ns => tabI (tabP m ys a vs z ns).ks (tabP m ys a vs z ns).vs && true,
  fun ns => rowG 120 120 #[] (tabI (tabE m ys a vs z ns).ks (tabE m ys a vs z ns).vs),
  match z with | true => (fun _ => true) | false => fun ns => bookG ((rdP m ys a).toNat - 1 + 1) (rdP m ys a) (bookP ns 0 vs m).es,
  fun ns => bookK (bokP m ys a vs z ns 0).es,
  fun ns => rowG 120 120 #[] (bookS (bokE m ys a vs z ns 0 (m + 1) (m + 2)).es),
  fun ns => rowEq (rowT (tabE m ys a vs z ns).ks (tabE m ys a vs z ns).vs 120 (-60) #[]).toList (rowB (bokE m ys a vs z ns (m + 3) (m + 1) (2 * m + 4)).es 120 (-60) #[]).toList,
  fun ns => bookK (bookP ns 0 vs 0).es,
  fun ns => bookK (bookP ns 0 vs 1).es,
  fun ns => bookK (bookP ns 0 vs 2).es,
  fun ns => bookK (bookP ns 0 vs 3).es]
end
noncomputable def S_putR (w : World) (x : Vars) (c : Bool) (nd : List Bool) : Spec := { code := .call (.ref 809) ⟨[(vA x 0),(vA x 3),(vA x 8),(vA x 2)],[]⟩,dep := 400,need := nd ++ [],bel := some ([envF (o835 w.params) 835 (aA x 10) s24 [(s10,(aA x 9))]],x.u),pre := [(aA x 0,{ cls := tyL,data := (.seq #[(vA x 1),(.int (x.I 0 1) (x.V 0 1))] (x.N 0)) }),(aA x 1,{ cls := tyL,data := (.seq (x.Q 1) (x.N 1)) }),(aA x 2,{ cls := tyL,data := (.seq (x.Q 2) (x.N 2)) }),(aA x 3,(iX 451 (aA x 4))),(aA x 4,{ cls := tyD,data := (.dict #[eX x 4 0 s25 (vA x 5),eX x 4 1 s26 (vB x b5 4 1),eX x 4 2 s27 (vR x 4 2),eX x 4 3 s28 (vI x (0) 4 3),eX x 4 4 s29 (vI x (0) 4 4),eX x 4 5 s30 (vA x 7),eX x 4 6 s31 (vI x (0) 4 6),eX x 4 7 s13 (vR x 4 7)] (x.N 4)) }),(aA x 5,(iX 53 (aA x 6))),(aA x 6,{ cls := tyD,data := (.dict #[eX x 6 0 s32 (vI x (80) 6 0),eX x 6 1 s33 (.int (250) 211),eX x 6 2 s34 (.int (60) 212),eX x 6 3 s35 (.int (200) 213),eX x 6 4 s36 (.int (40) 214),eX x 6 5 s30 (.int (200) 215),eX x 6 6 s37 (.int (x.I 6 6) (x.V 6 6)),eX x 6 7 s38 (.int (50) 217),eX x 6 8 s28 (.int (x.I 6 8) (x.V 6 8)),eX x 6 9 s17 (.int (x.I 6 9) (x.V 6 9))] (x.N 6)) }),(aA x 7,{ cls := tyL,data := (.seq #[] (x.N 7)) }),(aA x 8,(iX 234 (aA x 11))),(aA x 9,{ cls := (.type "cell"),data := (.cell (some (vA x 0))) }),(aA x 10,lfO false x.u (x.E 10) (x.N 10) (aA x 9)),(aA x 11,(oTX x 11 (vI x (-1) 11 0) (vA x 12) (vA x 13) .none)),(aA x 12,{ cls := tyL,data := (.seq #[(vB x b7 12 0),(vB x b8 12 1),(vB x b9 12 2),(vB x b10 12 3),(vB x b11 12 4),(vB x b12 12 5),(vB x b13 12 6),(vB x b14 12 7),(vB x b15 12 8),(vB x b16 12 9),(vB x b17 12 10),(vB x b18 12 11),(vB x b19 12 12),(vB x b20 12 13),(vB x b21 12 14),(vB x b22 12 15),(vB x b23 12 16),(vB x b24 12 17),(vB x b25 12 18),(vB x b26 12 19),(vB x b27 12 20),(vB x b28 12 21)] (x.N 12)) }),(aA x 13,{ cls := tyL,data := (.seq #[(vR x 13 0),(vR x 13 1),(vR x 13 2),(vR x 13 3),(vR x 13 4),(vR x 13 5),(vR x 13 6),(vR x 13 7),(vR x 13 8),(vR x 13 9),(vR x 13 10),(vR x 13 11),(vR x 13 12),(vR x 13 13),(vR x 13 14),(vR x 13 15),(vR x 13 16),(vA x 14),(vR x 13 18),(vR x 13 19),(vA x 8),(vB x b29 13 21)] (x.N 13)) }),(aA x 14,(iX 234 (aA x 15))),(aA x 15,(oTX x 15 (vI x (-30) 15 0) (vA x 16) (vA x 17) .none)),(aA x 16,{ cls := tyL,data := (.seq #[(vB x b30 16 0),(vB x b31 16 1),(vB x b32 16 2),(vB x b33 16 3),(vB x b34 16 4),(vB x b35 16 5)] (x.N 16)) }),(aA x 17,{ cls := tyL,data := (.seq #[(vA x 18),(vR x 17 1),(vR x 17 2),(vR x 17 3),(vR x 17 4),(vR x 17 5)] (x.N 17)) }),(aA x 18,(iX 255 (aA x 19))),(aA x 19,{ cls := tyD,data := (.dict #[eX x 19 0 s0 (vI x (-30) 19 0),eX x 19 1 s44 (vB x b30 19 1),eX x 19 2 s45 (.ref 649)] (x.N 19)) })],touch := [0,4,10],na := 0,nt := 1,res := fun as ts => .ok (.ret (.bool true)),postT := fun as ts => [some ({ cls := tyL,data := (.seq #[(vA x 1),(.int ((((x.I 0 1 + 1) + 1) + 1) + 1) (nth ts 0))] (x.N 0)) }),none,some (lfO c x.u (x.E 10) (x.N 10) (aA x 9))],postN := fun as ts => [],rawP := [1,2,10],rawQ := [2] }
theorem R_putR0f (w : World) (x : Vars) (hN : ∀ f ∈ putNF 0 (x.Q 1) (x.I 0 1) (rowV x 2 0) (x.I 6 8), ∀ ns, f ns = true) : (S_putR w (x.row 2 0) true (putNd 0 (x.Q 1) (x.I 0 1) 0 (x.I 6 8))).Holds (VV w) :=
  sN (F := FP w 0 false x.u) (vok _) (⟨putNF 0 (x.Q 1) (x.I 0 1) (rowV x 2 0) (x.I 6 8), hN⟩) 6000 ⟨q3, [], [26]⟩ fun m t => by kernel_rfl
theorem R_putR0p (w : World) (x : Vars) (hN : ∀ f ∈ putN 0 (x.Q 1) (x.I 0 1) (rowV x 2 0) false (x.I 6 8), ∀ ns, f ns = true) : (S_putR w (x.row 2 0) false (putNd 0 (x.Q 1) (x.I 0 1) 1 (x.I 6 8))).Holds (VV w) :=
  sN (F := FP w 0 true x.u) (vok _) (⟨putN 0 (x.Q 1) (x.I 0 1) (rowV x 2 0) false (x.I 6 8), hN⟩) 6000 ⟨cp q3 0 779 (cp q3 780 10 (ap [0,5000,0] (cp q3 608 16 (ap [51,51,33,33,33,33,33,1,0,24,25,26,27,0,5001,1,264] (cp q3 430 16 (ap [39,39,39,39,39,39,39,39,39] (cp q3 433 13 (ap [0,4,0,0,0,4,0,4,0,4,0,0,0,4,0,0,5,5,5,42,0,21,21,21,21,21,1,1,7,23,23,0,0,21,3,3,1,3,61,62,62,62,62,62,62,1,62,62,62,62,62,61,61,61,61,3,61,61,64,0,0,21,21,65,65,65,65,65,65,1,65,65,0,6,66,21,66,23,60,0,5003,0,23,21,60,60,60,60,0,5004,1,300,0,0,67,67,67,67,67,67,1,67,67,0,0,68,68,8,70,68,69,22,24,25,26,27,0,5002,3,264,54,80,0,21,21,70,70,70,21,59,71,59,1,59,59,71,0,0,21,0,0,72,72,72,72,72,72,1,72,72,0,0,73,73,5,75,73,74,23,60,1,5005,3,300,54,306,75,75,75,69,74,69,1,69,69,74,1,5006,5,264,54,80,300,306] ([]))))))))), [], [26]⟩ fun m t => by kernel_rfl
theorem R_putR0z (w : World) (x : Vars) (hN : ∀ f ∈ putN 0 (x.Q 1) (x.I 0 1) (rowV x 2 0) true (x.I 6 8), ∀ ns, f ns = true) : (S_putR w (x.row 2 0) false (putNd 0 (x.Q 1) (x.I 0 1) 2 (x.I 6 8))).Holds (VV w) :=
  sN (F := FP w 0 true x.u) (vok _) (⟨putN 0 (x.Q 1) (x.I 0 1) (rowV x 2 0) true (x.I 6 8), hN⟩) 6000 ⟨cp q3 0 779 (cp q3 780 10 (ap [1,9] (cp q3 608 16 (ap [51,51,33,33,33,33,33,1,0,24,25,26,27,0,5001] (cp q3 429 17 (ap [39,39,39,39,39,39,39,39,39] (cp q3 433 13 (ap [0,4,0,0,0,4,0,4,0,4,0,0,0,4,0,0,5,5,5,42,0,21,21,21,21,21,1,1,7,23,23,0,0,21,3,3,1,3,61,62,62,62,62,62,62,1,62,62,62,62,62,61,61,61,61,3,61,61,64,0,0,21,21,65,65,65,65,65,65,1,65,65,0,6,66,21,66,23,60,2,9,23,21,60,60,60,60,0,5004,0,0,0,67,67,67,67,67,67,1,67,67,0,0,68,68,8,70,68,69,22,24,25,26,27,0,5002,3,54,54,80,0,21,21,70,70,70,21,59,71,59,1,59,59,71,0,0,21,0,0,72,72,72,72,72,72,1,72,72,0,0,73,73,5,75,73,74,23,60,1,5005,3,54,54,292,75,75,75,69,74,69,1,69,69,74,1,5006,5,54,54,80,54,292] ([]))))))))), [], [26]⟩ fun m t => by kernel_rfl
theorem R_putR1f (w : World) (x : Vars) (hN : ∀ f ∈ putNF 1 (x.Q 1) (x.I 0 1) (rowV x 2 1) (x.I 6 8), ∀ ns, f ns = true) : (S_putR w (x.row 2 1) true (putNd 1 (x.Q 1) (x.I 0 1) 0 (x.I 6 8))).Holds (VV w) :=
  sN (F := FP w 1 false x.u) (vok _) (⟨putNF 1 (x.Q 1) (x.I 0 1) (rowV x 2 1) (x.I 6 8), hN⟩) 6000 ⟨cp q3 0 659 (cp q3 631 170 (ap [1,18] (cp q3 802 95 ([])))), [], [27]⟩ fun m t => by kernel_rfl
theorem R_putR1p (w : World) (x : Vars) (hN : ∀ f ∈ putN 1 (x.Q 1) (x.I 0 1) (rowV x 2 1) false (x.I 6 8), ∀ ns, f ns = true) : (S_putR w (x.row 2 1) false (putNd 1 (x.Q 1) (x.I 0 1) 1 (x.I 6 8))).Holds (VV w) :=
  sN (F := FP w 1 true x.u) (vok _) (⟨putN 1 (x.Q 1) (x.I 0 1) (rowV x 2 1) false (x.I 6 8), hN⟩) 6000 ⟨cp q3 0 659 (cp q3 631 148 (cp q3 780 10 (ap [0,5000,1,18] (cp q3 608 16 (ap [51,51,33,33,33,33,33,1,0,24,25,26,27,0,5001,2,18,276] (cp q3 430 16 (ap [39,39,39,39,39,39,39,39,39] (cp q3 433 13 (ap [0,4,0,0,0,4,0,4,0,4,0,0,0,4,0,0,5,5,5,42,0,21,21,21,21,21,1,1,7,23,23,0,0,21,3,3,1,3,61,62,62,62,62,62,62,1,62,62,62,62,62,61,61,61,61,3,61,61,62,62,62,62,62,62,62,62,62,62,62,62,62,62,62,62,62,63,63,63,1,63,64,64,64,64,64,63,64,64,64,64,64,64,63,64,64,64,64,64,64,63,64,64,66,0,21,21,0,21,21,21,23,21,60,60,60,60,0,5007,0,62,62,62,61,61,61,61,3,61,61,68,0,0,21,21,69,69,69,69,69,69,1,69,69,0,6,70,21,70,23,60,1,5003,1,314,23,21,60,60,60,60,0,5004,2,314,322,0,0,71,71,71,71,71,71,1,71,71,0,0,72,72,8,74,72,73,22,24,25,26,27,0,5002,4,18,276,56,82,0,21,21,74,74,74,21,59,75,59,1,59,59,75,0,0,21,0,0,76,76,76,76,76,76,1,76,76,0,0,77,77,5,79,77,78,23,60,1,5005,4,314,322,56,328,79,79,79,73,78,73,1,73,73,78,1,5006,7,18,276,56,82,314,322,328] ([])))))))))), [], [27]⟩ fun m t => by kernel_rfl
theorem R_putR1z (w : World) (x : Vars) (hN : ∀ f ∈ putN 1 (x.Q 1) (x.I 0 1) (rowV x 2 1) true (x.I 6 8), ∀ ns, f ns = true) : (S_putR w (x.row 2 1) false (putNd 1 (x.Q 1) (x.I 0 1) 2 (x.I 6 8))).Holds (VV w) :=
  sN (F := FP w 1 true x.u) (vok _) (⟨putN 1 (x.Q 1) (x.I 0 1) (rowV x 2 1) true (x.I 6 8), hN⟩) 6000 ⟨cp q3 0 659 (cp q3 631 148 (cp q3 780 10 (ap [1,9] (cp q3 608 16 (ap [51,51,33,33,33,33,33,1,0,24,25,26,27,0,5001,1,18] (cp q3 430 16 (ap [39,39,39,39,39,39,39,39,39] (cp q3 433 13 (ap [0,4,0,0,0,4,0,4,0,4,0,0,0,4,0,0,5,5,5,42,0,21,21,21,21,21,1,1,7,23,23,0,0,21,3,3,1,3,61,62,62,62,62,62,62,1,62,62,62,62,62,61,61,61,61,3,61,61,62,62,62,62,62,62,62,62,62,62,62,62,62,62,62,62,62,63,63,63,1,63,64,64,64,64,64,63,64,64,64,64,64,64,63,64,64,64,64,64,64,63,64,64,66,0,21,21,0,21,21,21,23,21,60,60,60,60,0,5007,0,62,62,62,61,61,61,61,3,61,61,68,0,0,21,21,69,69,69,69,69,69,1,69,69,0,6,70,21,70,23,60,3,9,23,21,60,60,60,60,0,5004,1,306,0,0,71,71,71,71,71,71,1,71,71,0,0,72,72,8,74,72,73,22,24,25,26,27,0,5002,4,18,56,56,82,0,21,21,74,74,74,21,59,75,59,1,59,59,75,0,0,21,0,0,76,76,76,76,76,76,1,76,76,0,0,77,77,5,79,77,78,23,60,1,5005,4,306,56,56,314,79,79,79,73,78,73,1,73,73,78,1,5006,7,18,56,56,82,306,56,314] ([])))))))))), [], [27]⟩ fun m t => by kernel_rfl
theorem R_putR2f (w : World) (x : Vars) (hN : ∀ f ∈ putNF 2 (x.Q 1) (x.I 0 1) (rowV x 2 2) (x.I 6 8), ∀ ns, f ns = true) : (S_putR w (x.row 2 2) true (putNd 2 (x.Q 1) (x.I 0 1) 0 (x.I 6 8))).Holds (VV w) :=
  sN (F := FP w 2 false x.u) (vok _) (⟨putNF 2 (x.Q 1) (x.I 0 1) (rowV x 2 2) (x.I 6 8), hN⟩) 6000 ⟨cp q3 0 659 (cp q3 631 28 (cp q3 631 170 (ap [2,18,20] (cp q3 802 95 ([]))))), [], [28]⟩ fun m t => by kernel_rfl
theorem R_putR2p (w : World) (x : Vars) (hN : ∀ f ∈ putN 2 (x.Q 1) (x.I 0 1) (rowV x 2 2) false (x.I 6 8), ∀ ns, f ns = true) : (S_putR w (x.row 2 2) false (putNd 2 (x.Q 1) (x.I 0 1) 1 (x.I 6 8))).Holds (VV w) :=
  sN (F := FP w 2 true x.u) (vok _) (⟨putN 2 (x.Q 1) (x.I 0 1) (rowV x 2 2) false (x.I 6 8), hN⟩) 6000 ⟨cp q3 0 659 (cp q3 631 28 (cp q3 631 148 (cp q3 780 10 (ap [0,5000,2,18,20] (cp q3 608 16 (ap [51,51,33,33,33,33,33,1,0,24,25,26,27,0,5001,3,18,20,288] (cp q3 430 16 (ap [39,39,39,39,39,39,39,39,39] (cp q3 433 13 (ap [0,4,0,0,0,4,0,4,0,4,0,0,0,4,0,0,5,5,5,42,0,21,21,21,21,21,1,1,7,23,23,0,0,21,3,3,1,3,61,62,62,62,62,62,62,1,62,62,62,62,62,61,61,61,61,3,61,61,62,62,62,62,62,62,62,62,62,62,62,62,62,62,62,62,62,63,63,63,1,63,64,64,64,64,64,63,64,64,64,64,64,64,63,64,64,64,64,64,64,63,64,64,66,0,21,21,0,21,21,21,23,21,60,60,60,60,0,5007,0,62,62,62,61,61,61,61,3,61,61,62,62,62,62,62,62,62,62,62,62,62,62,62,62,62,62,62,67,67,67,1,67,68,68,68,68,68,67,68,68,68,68,68,68,67,68,68,68,68,68,68,67,68,68,70,0,21,21,0,21,21,21,23,21,60,60,60,60,0,5008,1,326,62,62,62,61,61,61,61,3,61,61,72,0,0,21,21,73,73,73,73,73,73,1,73,73,0,6,74,21,74,23,60,1,5003,2,326,336,23,21,60,60,60,60,0,5004,3,326,336,344,0,0,75,75,75,75,75,75,1,75,75,0,0,76,76,8,78,76,77,22,24,25,26,27,0,5002,5,18,20,288,58,84,0,21,21,78,78,78,21,59,79,59,1,59,59,79,0,0,21,0,0,80,80,80,80,80,80,1,80,80,0,0,81,81,5,83,81,82,23,60,1,5005,5,326,336,344,58,350,83,83,83,77,82,77,1,77,77,82,1,5006,9,18,20,288,58,84,326,336,344,350] ([]))))))))))), [], [28]⟩ fun m t => by kernel_rfl
theorem R_putR2z (w : World) (x : Vars) (hN : ∀ f ∈ putN 2 (x.Q 1) (x.I 0 1) (rowV x 2 2) true (x.I 6 8), ∀ ns, f ns = true) : (S_putR w (x.row 2 2) false (putNd 2 (x.Q 1) (x.I 0 1) 2 (x.I 6 8))).Holds (VV w) :=
  sN (F := FP w 2 true x.u) (vok _) (⟨putN 2 (x.Q 1) (x.I 0 1) (rowV x 2 2) true (x.I 6 8), hN⟩) 6000 ⟨cp q3 0 659 (cp q3 631 28 (cp q3 631 148 (cp q3 780 10 (ap [1,9] (cp q3 608 16 (ap [51,51,33,33,33,33,33,1,0,24,25,26,27,0,5001,2,18,20] (cp q3 430 16 (ap [39,39,39,39,39,39,39,39,39] (cp q3 433 13 (ap [0,4,0,0,0,4,0,4,0,4,0,0,0,4,0,0,5,5,5,42,0,21,21,21,21,21,1,1,7,23,23,0,0,21,3,3,1,3,61,62,62,62,62,62,62,1,62,62,62,62,62,61,61,61,61,3,61,61,62,62,62,62,62,62,62,62,62,62,62,62,62,62,62,62,62,63,63,63,1,63,64,64,64,64,64,63,64,64,64,64,64,64,63,64,64,64,64,64,64,63,64,64,66,0,21,21,0,21,21,21,23,21,60,60,60,60,0,5007,0,62,62,62,61,61,61,61,3,61,61,62,62,62,62,62,62,62,62,62,62,62,62,62,62,62,62,62,67,67,67,1,67,68,68,68,68,68,67,68,68,68,68,68,68,67,68,68,68,68,68,68,67,68,68,70,0,21,21,0,21,21,21,23,21,60,60,60,60,0,5008,1,318,62,62,62,61,61,61,61,3,61,61,72,0,0,21,21,73,73,73,73,73,73,1,73,73,0,6,74,21,74,23,60,3,9,23,21,60,60,60,60,0,5004,2,318,328,0,0,75,75,75,75,75,75,1,75,75,0,0,76,76,8,78,76,77,22,24,25,26,27,0,5002,5,18,20,58,58,84,0,21,21,78,78,78,21,59,79,59,1,59,59,79,0,0,21,0,0,80,80,80,80,80,80,1,80,80,0,0,81,81,5,83,81,82,23,60,1,5005,5,318,328,58,58,336,83,83,83,77,82,77,1,77,77,82,1,5006,9,18,20,58,58,84,318,328,58,336] ([]))))))))))), [], [28]⟩ fun m t => by kernel_rfl
theorem R_putR3f (w : World) (x : Vars) (hN : ∀ f ∈ putNF 3 (x.Q 1) (x.I 0 1) (rowV x 2 3) (x.I 6 8), ∀ ns, f ns = true) : (S_putR w (x.row 2 3) true (putNd 3 (x.Q 1) (x.I 0 1) 0 (x.I 6 8))).Holds (VV w) :=
  sN (F := FP w 3 false x.u) (vok _) (⟨putNF 3 (x.Q 1) (x.I 0 1) (rowV x 2 3) (x.I 6 8), hN⟩) 6000 ⟨cp q3 0 659 (cp q3 631 28 (cp q3 631 28 (cp q3 631 170 (ap [3,18,20,22] (cp q3 802 95 ([])))))), [], [29]⟩ fun m t => by kernel_rfl
theorem R_putR3p (w : World) (x : Vars) (hN : ∀ f ∈ putN 3 (x.Q 1) (x.I 0 1) (rowV x 2 3) false (x.I 6 8), ∀ ns, f ns = true) : (S_putR w (x.row 2 3) false (putNd 3 (x.Q 1) (x.I 0 1) 1 (x.I 6 8))).Holds (VV w) :=
  sN (F := FP w 3 true x.u) (vok _) (⟨putN 3 (x.Q 1) (x.I 0 1) (rowV x 2 3) false (x.I 6 8), hN⟩) 6000 ⟨cp q3 0 659 (cp q3 631 28 (cp q3 631 28 (cp q3 631 148 (cp q3 780 10 (ap [0,5000,3,18,20,22] (cp q3 608 16 (ap [51,51,33,33,33,33,33,1,0,24,25,26,27,0,5001,4,18,20,22,300] (cp q3 430 16 (ap [39,39,39,39,39,39,39,39,39] (cp q3 433 13 (ap [0,4,0,0,0,4,0,4,0,4,0,0,0,4,0,0,5,5,5,42,0,21,21,21,21,21,1,1,7,23,23,0,0,21,3,3,1,3,61,62,62,62,62,62,62,1,62,62,62,62,62,61,61,61,61,3,61,61,62,62,62,62,62,62,62,62,62,62,62,62,62,62,62,62,62,63,63,63,1,63,64,64,64,64,64,63,64,64,64,64,64,64,63,64,64,64,64,64,64,63,64,64,66,0,21,21,0,21,21,21,23,21,60,60,60,60,0,5007,0,62,62,62,61,61,61,61,3,61,61,62,62,62,62,62,62,62,62,62,62,62,62,62,62,62,62,62,67,67,67,1,67,68,68,68,68,68,67,68,68,68,68,68,68,67,68,68,68,68,68,68,67,68,68,70,0,21,21,0,21,21,21,23,21,60,60,60,60,0,5008,1,338,62,62,62,61,61,61,61,3,61,61,62,62,62,62,62,62,62,62,62,62,62,62,62,62,62,62,62,71,71,71,1,71,72,72,72,72,72,71,72,72,72,72,72,72,71,72,72,72,72,72,72,71,72,72,74,0,21,21,0,21,21,21,23,21,60,60,60,60,0,5009,2,338,348,62,62,62,61,61,61,61,3,61,61,76,0,0,21,21,77,77,77,77,77,77,1,77,77,0,6,78,21,78,23,60,1,5003,3,338,348,358,23,21,60,60,60,60,0,5004,4,338,348,358,366,0,0,79,79,79,79,79,79,1,79,79,0,0,80,80,8,82,80,81,22,24,25,26,27,0,5002,6,18,20,22,300,60,86,0,21,21,82,82,82,21,59,83,59,1,59,59,83,0,0,21,0,0,84,84,84,84,84,84,1,84,84,0,0,85,85,5,87,85,86,23,60,1,5005,6,338,348,358,366,60,372,87,87,87,81,86,81,1,81,81,86,1,5006,11,18,20,22,300,60,86,338,348,358,366,372] ([])))))))))))), [], [29]⟩ fun m t => by kernel_rfl
theorem R_putR3z (w : World) (x : Vars) (hN : ∀ f ∈ putN 3 (x.Q 1) (x.I 0 1) (rowV x 2 3) true (x.I 6 8), ∀ ns, f ns = true) : (S_putR w (x.row 2 3) false (putNd 3 (x.Q 1) (x.I 0 1) 2 (x.I 6 8))).Holds (VV w) :=
  sN (F := FP w 3 true x.u) (vok _) (⟨putN 3 (x.Q 1) (x.I 0 1) (rowV x 2 3) true (x.I 6 8), hN⟩) 6000 ⟨cp q3 0 659 (cp q3 631 28 (cp q3 631 28 (cp q3 631 148 (cp q3 780 10 (ap [1,9] (cp q3 608 16 (ap [51,51,33,33,33,33,33,1,0,24,25,26,27,0,5001,3,18,20,22] (cp q3 430 16 (ap [39,39,39,39,39,39,39,39,39] (cp q3 433 13 (ap [0,4,0,0,0,4,0,4,0,4,0,0,0,4,0,0,5,5,5,42,0,21,21,21,21,21,1,1,7,23,23,0,0,21,3,3,1,3,61,62,62,62,62,62,62,1,62,62,62,62,62,61,61,61,61,3,61,61,62,62,62,62,62,62,62,62,62,62,62,62,62,62,62,62,62,63,63,63,1,63,64,64,64,64,64,63,64,64,64,64,64,64,63,64,64,64,64,64,64,63,64,64,66,0,21,21,0,21,21,21,23,21,60,60,60,60,0,5007,0,62,62,62,61,61,61,61,3,61,61,62,62,62,62,62,62,62,62,62,62,62,62,62,62,62,62,62,67,67,67,1,67,68,68,68,68,68,67,68,68,68,68,68,68,67,68,68,68,68,68,68,67,68,68,70,0,21,21,0,21,21,21,23,21,60,60,60,60,0,5008,1,330,62,62,62,61,61,61,61,3,61,61,62,62,62,62,62,62,62,62,62,62,62,62,62,62,62,62,62,71,71,71,1,71,72,72,72,72,72,71,72,72,72,72,72,72,71,72,72,72,72,72,72,71,72,72,74,0,21,21,0,21,21,21,23,21,60,60,60,60,0,5009,2,330,340,62,62,62,61,61,61,61,3,61,61,76,0,0,21,21,77,77,77,77,77,77,1,77,77,0,6,78,21,78,23,60,3,9,23,21,60,60,60,60,0,5004,3,330,340,350,0,0,79,79,79,79,79,79,1,79,79,0,0,80,80,8,82,80,81,22,24,25,26,27,0,5002,6,18,20,22,60,60,86,0,21,21,82,82,82,21,59,83,59,1,59,59,83,0,0,21,0,0,84,84,84,84,84,84,1,84,84,0,0,85,85,5,87,85,86,23,60,1,5005,6,330,340,350,60,60,358,87,87,87,81,86,81,1,81,81,86,1,5006,11,18,20,22,60,60,86,330,340,350,60,358] ([])))))))))))), [], [29]⟩ fun m t => by kernel_rfl
theorem R_putR4f (w : World) (x : Vars) (hN : ∀ f ∈ putNF 4 (x.Q 1) (x.I 0 1) (rowV x 2 4) (x.I 6 8), ∀ ns, f ns = true) : (S_putR w (x.row 2 4) true (putNd 4 (x.Q 1) (x.I 0 1) 0 (x.I 6 8))).Holds (VV w) :=
  sN (F := FP w 4 false x.u) (vok _) (⟨putNF 4 (x.Q 1) (x.I 0 1) (rowV x 2 4) (x.I 6 8), hN⟩) 6000 ⟨cp q3 0 659 (cp q3 631 28 (cp q3 631 28 (cp q3 631 28 (cp q3 631 170 (ap [4,18,20,22,24] (cp q3 802 95 ([]))))))), [], [30]⟩ fun m t => by kernel_rfl
theorem R_putR4p (w : World) (x : Vars) (hN : ∀ f ∈ putN 4 (x.Q 1) (x.I 0 1) (rowV x 2 4) false (x.I 6 8), ∀ ns, f ns = true) : (S_putR w (x.row 2 4) false (putNd 4 (x.Q 1) (x.I 0 1) 1 (x.I 6 8))).Holds (VV w) :=
  sN (F := FP w 4 true x.u) (vok _) (⟨putN 4 (x.Q 1) (x.I 0 1) (rowV x 2 4) false (x.I 6 8), hN⟩) 6000 ⟨cp q3 0 659 (cp q3 631 28 (cp q3 631 28 (cp q3 631 28 (cp q3 631 148 (cp q3 780 10 (ap [0,5000,4,18,20,22,24] (cp q3 608 16 (ap [51,51,33,33,33,33,33,1,0,24,25,26,27,0,5001,5,18,20,22,24,312] (cp q3 430 16 (ap [39,39,39,39,39,39,39,39,39] (cp q3 433 13 (ap [0,4,0,0,0,4,0,4,0,4,0,0,0,4,0,0,5,5,5,42,0,21,21,21,21,21,1,1,7,23,23,0,0,21,3,3,1,3,61,62,62,62,62,62,62,1,62,62,62,62,62,61,61,61,61,3,61,61,62,62,62,62,62,62,62,62,62,62,62,62,62,62,62,62,62,63,63,63,1,63,64,64,64,64,64,63,64,64,64,64,64,64,63,64,64,64,64,64,64,63,64,64,66,0,21,21,0,21,21,21,23,21,60,60,60,60,0,5007,0,62,62,62,61,61,61,61,3,61,61,62,62,62,62,62,62,62,62,62,62,62,62,62,62,62,62,62,67,67,67,1,67,68,68,68,68,68,67,68,68,68,68,68,68,67,68,68,68,68,68,68,67,68,68,70,0,21,21,0,21,21,21,23,21,60,60,60,60,0,5008,1,350,62,62,62,61,61,61,61,3,61,61,62,62,62,62,62,62,62,62,62,62,62,62,62,62,62,62,62,71,71,71,1,71,72,72,72,72,72,71,72,72,72,72,72,72,71,72,72,72,72,72,72,71,72,72,74,0,21,21,0,21,21,21,23,21,60,60,60,60,0,5009,2,350,360,62,62,62,61,61,61,61,3,61,61,62,62,62,62,62,62,62,62,62,62,62,62,62,62,62,62,62,75,75,75,1,75,76,76,76,76,76,75,76,76,76,76,76,76,75,76,76,76,76,76,76,75,76,76,78,0,21,21,0,21,21,21,23,21,60,60,60,60,0,5010,3,350,360,370,62,62,62,61,61,61,61,3,61,61,80,0,0,21,21,81,81,81,81,81,81,1,81,81,0,6,82,21,82,23,60,1,5003,4,350,360,370,380,23,21,60,60,60,60,0,5004,5,350,360,370,380,388,0,0,83,83,83,83,83,83,1,83,83,0,0,84,84,8,86,84,85,22,24,25,26,27,0,5002,7,18,20,22,24,312,62,88,0,21,21,86,86,86,21,59,87,59,1,59,59,87,0,0,21,0,0,88,88,88,88,88,88,1,88,88,0,0,89,89,5,91,89,90,23,60,1,5005,7,350,360,370,380,388,62,394,91,91,91,85,90,85,1,85,85,90,1,5006,13,18,20,22,24,312,62,88,350,360,370,380,388,394] ([]))))))))))))), [], [30]⟩ fun m t => by kernel_rfl
theorem R_putR4z (w : World) (x : Vars) (hN : ∀ f ∈ putN 4 (x.Q 1) (x.I 0 1) (rowV x 2 4) true (x.I 6 8), ∀ ns, f ns = true) : (S_putR w (x.row 2 4) false (putNd 4 (x.Q 1) (x.I 0 1) 2 (x.I 6 8))).Holds (VV w) :=
  sN (F := FP w 4 true x.u) (vok _) (⟨putN 4 (x.Q 1) (x.I 0 1) (rowV x 2 4) true (x.I 6 8), hN⟩) 6000 ⟨cp q3 0 659 (cp q3 631 28 (cp q3 631 28 (cp q3 631 28 (cp q3 631 148 (cp q3 780 10 (ap [1,9] (cp q3 608 16 (ap [51,51,33,33,33,33,33,1,0,24,25,26,27,0,5001,4,18,20,22,24] (cp q3 430 16 (ap [39,39,39,39,39,39,39,39,39] (cp q3 433 13 (ap [0,4,0,0,0,4,0,4,0,4,0,0,0,4,0,0,5,5,5,42,0,21,21,21,21,21,1,1,7,23,23,0,0,21,3,3,1,3,61,62,62,62,62,62,62,1,62,62,62,62,62,61,61,61,61,3,61,61,62,62,62,62,62,62,62,62,62,62,62,62,62,62,62,62,62,63,63,63,1,63,64,64,64,64,64,63,64,64,64,64,64,64,63,64,64,64,64,64,64,63,64,64,66,0,21,21,0,21,21,21,23,21,60,60,60,60,0,5007,0,62,62,62,61,61,61,61,3,61,61,62,62,62,62,62,62,62,62,62,62,62,62,62,62,62,62,62,67,67,67,1,67,68,68,68,68,68,67,68,68,68,68,68,68,67,68,68,68,68,68,68,67,68,68,70,0,21,21,0,21,21,21,23,21,60,60,60,60,0,5008,1,342,62,62,62,61,61,61,61,3,61,61,62,62,62,62,62,62,62,62,62,62,62,62,62,62,62,62,62,71,71,71,1,71,72,72,72,72,72,71,72,72,72,72,72,72,71,72,72,72,72,72,72,71,72,72,74,0,21,21,0,21,21,21,23,21,60,60,60,60,0,5009,2,342,352,62,62,62,61,61,61,61,3,61,61,62,62,62,62,62,62,62,62,62,62,62,62,62,62,62,62,62,75,75,75,1,75,76,76,76,76,76,75,76,76,76,76,76,76,75,76,76,76,76,76,76,75,76,76,78,0,21,21,0,21,21,21,23,21,60,60,60,60,0,5010,3,342,352,362,62,62,62,61,61,61,61,3,61,61,80,0,0,21,21,81,81,81,81,81,81,1,81,81,0,6,82,21,82,23,60,3,9,23,21,60,60,60,60,0,5004,4,342,352,362,372,0,0,83,83,83,83,83,83,1,83,83,0,0,84,84,8,86,84,85,22,24,25,26,27,0,5002,7,18,20,22,24,62,62,88,0,21,21,86,86,86,21,59,87,59,1,59,59,87,0,0,21,0,0,88,88,88,88,88,88,1,88,88,0,0,89,89,5,91,89,90,23,60,1,5005,7,342,352,362,372,62,62,380,91,91,91,85,90,85,1,85,85,90,1,5006,13,18,20,22,24,62,62,88,342,352,362,372,62,380] ([]))))))))))))), [], [30]⟩ fun m t => by kernel_rfl
theorem fm_nonneg {x : Int} {k : Nat} : 0 ≤ x.fmod (Int.ofNat (k + 1)) := Int.fmod_nonneg_of_pos _ (by show (0 : Int) < ((k + 1 : Nat) : Int); lia)
theorem fm_lt {x : Int} {k : Nat} : x.fmod (Int.ofNat (k + 1)) < (k + 1 : Nat) := Int.fmod_lt_of_pos _ (by show (0 : Int) < ((k + 1 : Nat) : Int); lia)
theorem drawV_in (Q : Array Value) (a : Int) (k : Nat) : 0 ≤ drawV Q a k ∧ drawV Q a k < (k + 1 : Nat) := by
  unfold drawV
  cases leB (a + 1) (Int.ofNat Q.size)
  · exact ⟨fm_nonneg, fm_lt⟩
  · exact ⟨fm_nonneg, fm_lt⟩
theorem maxI_is (x y : Int) : maxI x y = if x < y then y else x := by
  unfold maxI
  by_cases h : x < y
  · rw [ltB_iff'.2 h, if_pos h]
  · rw [if_neg h]
    cases e : ltB x y with
    | true => exact absurd (ltB_iff'.1 e) h
    | false => rfl
theorem pick3_in {i a b c : Int} {P : Int → Prop} (ha : P a) (hb : P b) (hc : P c) : P (pick3 i a b c) := by
  unfold pick3
  cases eqB i 0
  · cases eqB i 1
    · exact hc
    · exact hb
  · exact ha
theorem plP_in (ys : Array Value) (a : Int) : -59 ≤ plP ys a ∧ plP ys a ≤ 54 := by
  have h1 := drawV_in ys a 59
  have h2 := drawV_in ys (a + 1) 5
  have h3 := drawV_in ys (a + 1 + 1) 49
  unfold plP
  exact pick3_in (P := fun v => -59 ≤ v ∧ v ≤ 54) (by lia) (by lia) (by lia)
theorem enP_in (m : Nat) (hm : m ≤ 4) (ys : Array Value) (a : Int) : plP ys a ≤ enP m ys a ∧ (m : Int) + 1 ≤ enP m ys a ∧ enP m ys a ≤ 54 ∧ (enP m ys a = plP ys a ∨ enP m ys a = (m : Int) + 1) := by
  have h := plP_in ys a
  have e : enP m ys a = if ((m : Int) + 1) < plP ys a then plP ys a else (m : Int) + 1 := maxI_is _ _
  rw [e]
  split <;> omega
theorem rdP_is (m : Nat) (hm : m ≤ 4) (ys : Array Value) (a : Int) : rdP m ys a = enP m ys a - plP ys a := by
  have h := enP_in m hm ys a
  unfold rdP
  rw [rsz_down]
  split <;> omega
noncomputable def isBy (v : Value) : Bool := match v with | .bytes .. => true | _ => false
noncomputable def okT (vs : Array Value) : Bool := Nat.ble vs.size 4 && vs.toList.all isBy
theorem okT_iff {vs : Array Value} : okT vs = true ↔ vs.size ≤ 4 ∧ ∀ v ∈ vs.toList, isBy v = true := by
  unfold okT
  rw [Bool.and_eq_true, List.all_eq_true]
  exact ⟨fun h => ⟨Nat.le_of_ble_eq_true h.1, h.2⟩, fun h => ⟨Nat.ble_eq_true_of_le h.1, h.2⟩⟩
theorem by_sim {v : Value} (h : isBy v = true) : simV v = true := by cases v <;> first | rfl | cases h
theorem keyA_size (ns : List Nat) : ∀ m, m ≤ 4 → (keyA ns m).size = m
  | 0, _ => rfl
  | 1, _ => rfl
  | 2, _ => rfl
  | 3, _ => rfl
  | 4, _ => rfl
  | _ + 5, h => absurd h (by lia)
theorem keyA_int (ns : List Nat) (m : Nat) : ∀ k ∈ (keyA ns m).toList, isI k = true := by
  intro k hk
  unfold keyA at hk
  split at hk <;> simp at hk
  · rw [hk]; rfl
  · rcases hk with rfl | rfl <;> rfl
  · rcases hk with rfl | rfl | rfl <;> rfl
  · rcases hk with rfl | rfl | rfl | rfl <;> rfl
theorem keyA_tab (ns : List Nat) {vs : Array Value} (h : okT vs = true) : tabI (keyA ns vs.size) vs = true := by
  obtain ⟨h1, h2⟩ := okT_iff.1 h
  refine tabI_iff.2 ⟨keyA_int ns _, keyA_size ns _ h1, by rw [keyA_size ns _ h1]; lia, ?_⟩
  exact List.all_eq_true.mpr fun v hv => by_sim (h2 v hv)
theorem put_size (s : TabS) (x : Int) (t : Nat) (v : Value) : (s.put x t v).ks.size ≤ s.ks.size + 1 := setKs_size _ _ _
theorem insA_tab : ∀ (k n : Nat) (x : Int) (s : TabS), tabI s.ks s.vs = true → s.ks.size + k < 1000 → tabI (insA k n x s).ks (insA k n x s).vs = true ∧ (insA k n x s).ks.size ≤ s.ks.size + k
  | 0, _, _, s, h, _ => ⟨h, Nat.le_refl _⟩
  | k + 1, n, x, s, h, hs => by
    have hv := sim_getI h (x - 1)
    have h1 : tabI (s.step x (fsN n)).ks (s.step x (fsN n)).vs = true := tabI_set h x (fsN n) hv (by lia)
    have h2 : (s.step x (fsN n)).ks.size ≤ s.ks.size + 1 := put_size _ _ _ _
    have := insA_tab k (snN n) (x + -1) (s.step x (fsN n)) h1 (by lia)
    exact ⟨this.1, by have := this.2; show (insA k (snN n) (x + -1) (s.step x (fsN n))).ks.size ≤ _; lia⟩
theorem bput_size (s : BookS) (x : Int) (t : Nat) (v : Value) : (s.put x t v).es.size ≤ s.es.size + 1 := bkSet_size _ _ _ _
theorem bookP_ok (ns : List Nat) (o : Nat) (vs : Array Value) : ∀ m, m ≤ 4 → bookK (bookP ns o vs m).es = true ∧ (bookP ns o vs m).es.size ≤ m
  | 0, _ => ⟨by unfold bookP bookK; rfl, Nat.le_refl _⟩
  | m + 1, h => by
    obtain ⟨h1, h2⟩ := bookP_ok ns o vs m (by lia)
    refine ⟨bookK_set h1 (by lia) _ _ _, ?_⟩
    have := bput_size (bookP ns o vs m) (Int.ofNat m + 1) (ns.getD (o + m) 0) (vs.toList.getD m .none)
    show ((bookP ns o vs m).put _ _ _).es.size ≤ m + 1
    lia
theorem simE_nil : simE #[] = true := rfl
theorem bookP_sim (ns : List Nat) (o : Nat) {vs : Array Value} (hv : ∀ v ∈ vs.toList, isBy v = true) : ∀ m, simE (bookP ns o vs m).es = true
  | 0 => rfl
  | m + 1 => by
    refine simE_set (bookP_sim ns o hv m) _ _ ?_
    rw [List.getD_eq_getElem?_getD]
    cases h : vs.toList[m]? with
    | none => rfl
    | some v => exact by_sim (hv v (List.mem_of_getElem? h))
theorem bkA_ok : ∀ (k n : Nat) (x : Int) (s : BookS), bookK s.es = true → simE s.es = true → s.es.size + k < 1000 → bookK (bkA k n x s).es = true ∧ simE (bkA k n x s).es = true ∧ (bkA k n x s).es.size ≤ s.es.size + k
  | 0, _, _, s, h, hs, _ => ⟨h, hs, Nat.le_refl _⟩
  | k + 1, n, x, s, h, hs, hk => by
    have hv := sim_bkGet hs (x - 1)
    have h2 : (s.step x (fsN n)).es.size ≤ s.es.size + 1 := bput_size _ _ _ _
    have := bkA_ok k (snN n) (x + -1) (s.step x (fsN n)) (bookK_set h (by lia) _ _ _) (simE_set hs _ _ hv) (by lia)
    exact ⟨this.1, this.2.1, by have := this.2.2; show (bkA k (snN n) (x + -1) (s.step x (fsN n))).es.size ≤ _; lia⟩
noncomputable def Like (s : TabS) (b : BookS) : Prop := ∀ y, getI s.ks s.vs y = bkGet b.es y
theorem like_step {s : TabS} {b : BookS} (ht : tabI s.ks s.vs = true) (h : Like s b) (x : Int) (t u : Nat) : Like (s.step x t) (b.step x u) := fun y => by
  show getI (setKs s.ks (.int x t) _) (setVs s.ks s.vs (.int x t) _) y = bkGet (bkSet b.es x u _) y
  rw [getI_set ht, bkGet_set, h (x - 1), h y]
theorem like_ins : ∀ (k n n' : Nat) (x : Int) (s : TabS) (b : BookS), tabI s.ks s.vs = true → s.ks.size + k < 1000 → Like s b → Like (insA k n x s) (bkA k n' x b)
  | 0, _, _, _, _, _, _, _, h => h
  | k + 1, n, n', x, s, b, ht, hs, h => by
    have hv := sim_getI ht (x - 1)
    have h2 : (s.step x (fsN n)).ks.size ≤ s.ks.size + 1 := put_size _ _ _ _
    exact like_ins k (snN n) (snN n') (x + -1) (s.step x (fsN n)) (b.step x (fsN n')) (tabI_set ht x (fsN n) hv (by lia)) (by lia) (like_step ht h x _ _)
theorem bookP_get (ns : List Nat) (o : Nat) (vs : Array Value) (y : Int) : ∀ m, bkGet (bookP ns o vs m).es y = if 1 ≤ y ∧ y ≤ m then vs.toList.getD (y.toNat - 1) .none else .none
  | 0 => by
    rw [if_neg (by lia)]; rfl
  | m + 1 => by
    show bkGet (bkSet (bookP ns o vs m).es _ _ _) y = _
    rw [bkGet_set, bookP_get ns o vs y m]
    have e : (Int.ofNat m + 1 : Int) = (m : Int) + 1 := rfl
    rw [e]
    by_cases h : y = (m : Int) + 1
    · rw [if_pos h, if_pos (by lia)]
      have : y.toNat - 1 = m := by lia
      rw [this]
    · rw [if_neg h]
      by_cases h2 : 1 ≤ y ∧ y ≤ m
      · rw [if_pos h2, if_pos (by lia)]
      · rw [if_neg h2, if_neg (by lia)]
theorem findI_one (k : Int) (t : Nat) (l : List Value) (y : Int) (i : Nat) : findI (.int k t :: l) (.int y 0) i = if k = y then some i else findI l (.int y 0) (i + 1) := by
  have q : findI (.int k t :: l) (.int y 0) i = match sameV (.int k t) (.int y 0) with | true => some i | false => findI l (.int y 0) (i + 1) := rfl
  rw [q]
  by_cases h : k = y
  · rw [(sameV_int k y t 0).2 h, if_pos h]
  · rw [if_neg h]
    cases e : sameV (.int k t) (.int y 0) with
    | true => exact absurd ((sameV_int ..).1 e) h
    | false => rfl
noncomputable def upK (ns : List Nat) : Nat → Nat → List Value
  | 0, _ => []
  | k + 1, j => .int (Int.ofNat j + 1) (ns.getD j 0) :: upK ns k (j + 1)
theorem keyA_up (ns : List Nat) : ∀ m, m ≤ 4 → (keyA ns m).toList = upK ns m 0
  | 0, _ => rfl
  | 1, _ => rfl
  | 2, _ => rfl
  | 3, _ => rfl
  | 4, _ => rfl
  | _ + 5, h => absurd h (by lia)
theorem findI_up (ns : List Nat) (y : Int) : ∀ (k j i : Nat), findI (upK ns k j) (.int y 0) i = if (j : Int) + 1 ≤ y ∧ y ≤ (j : Int) + k then some (i + (y.toNat - 1 - j)) else none
  | 0, j, i => by rw [if_neg (by lia)]; rfl
  | k + 1, j, i => by
    show findI (.int ((j : Int) + 1) _ :: upK ns k (j + 1)) (.int y 0) i = _
    rw [findI_one, findI_up ns y k (j + 1) (i + 1)]
    by_cases h : (j : Int) + 1 = y
    · rw [if_pos h, if_pos (by lia), show y.toNat - 1 - j = 0 by lia]; rfl
    · rw [if_neg h]
      by_cases h2 : (j : Int) + 1 ≤ y ∧ y ≤ (j : Int) + (k + 1 : Nat)
      · rw [if_pos h2, if_pos (by lia)]
        exact congrArg some (by lia)
      · rw [if_neg h2, if_neg (by lia)]
theorem keyA_get (ns : List Nat) (vs : Array Value) (y : Int) (m : Nat) (hm : m ≤ 4) : getI (keyA ns m) vs y = if 1 ≤ y ∧ y ≤ m then vs.toList.getD (y.toNat - 1) .none else .none := by
  unfold getI getV
  rw [keyA_up ns m hm, findI_up]
  by_cases h : 1 ≤ y ∧ y ≤ (m : Int)
  · rw [if_pos h, if_pos (by lia)]
    show vs.toList.getD (0 + (y.toNat - 1 - 0)) .none = _
    rw [Nat.zero_add, Nat.sub_zero]
  · rw [if_neg h, if_neg (by lia)]
noncomputable def Eq2 (v v' : Value) : Prop := (kindN v v' && eqN v v') = true
theorem eq2_refl {v : Value} (h : simV v = true) : Eq2 v v := by
  rcases simV_cases h with rfl | ⟨y, u, rfl⟩ | ⟨y, u, rfl⟩
  · rfl
  · show (true && (Builtin.Bytes.order y.toList y.toList == .eq)) = true
    rw [order_eq]; simp
  · show (true && eqB y y) = true
    rw [eqB_iff'.2 rfl]; rfl
theorem rowEq_push {v v' : Value} (h : Eq2 v v') (l : List Value) : ∀ l' : List Value, rowEq l l' = true → rowEq (l ++ [v]) (l' ++ [v']) = true := by
  induction l with
  | nil =>
    intro l' q
    cases l' with
    | nil =>
      show ((kindN v v' && eqN v v') && true) = true
      rw [show (kindN v v' && eqN v v') = true from h]; rfl
    | cons a l => exact Bool.noConfusion (show false = true from q)
  | cons a l ih =>
    intro l' q
    cases l' with
    | nil => exact Bool.noConfusion (show false = true from q)
    | cons a' l' =>
      have q : ((kindN a a' && eqN a a') && rowEq l l') = true := q
      rw [Bool.and_eq_true] at q
      show ((kindN a a' && eqN a a') && rowEq (l ++ [v]) (l' ++ [v'])) = true
      rw [q.1, ih l' q.2]; rfl
theorem rows_eq {ks vs : Array Value} {es : Array DictEntry} (h : ∀ y, Eq2 (getI ks vs y) (bkGet es y)) : ∀ (k : Nat) (x : Int) (xs xs' : Array Value), rowEq xs.toList xs'.toList = true → rowEq (rowT ks vs k x xs).toList (rowB es k x xs').toList = true
  | 0, _, _, _, q => q
  | k + 1, x, xs, xs', q => rows_eq h k (x + 1) (xs.push (getI ks vs x)) (xs'.push (bkGet es x)) (by
      rw [Array.toList_push, Array.toList_push]
      exact rowEq_push (h x) _ _ q)
section
variable (ys : Array Value) (a : Int) {vs : Array Value} (hT : okT vs = true)
include hT
theorem putNF_ok {lim : Int} (h1 : 20 ≤ lim) (h2 : lim ≤ 500) (hf : lim < 1 + enP vs.size ys a - plP ys a) : ∀ f ∈ putNF vs.size ys a vs lim, ∀ ns, f ns = true := by
  obtain ⟨t1, t2⟩ := okT_iff.1 hT
  intro f hf' ns
  unfold putNF at hf'
  rw [List.mem_singleton.mp hf']
  have hr := rdP_is vs.size t1 ys a
  exact insF_iff.2 ⟨⟨by lia, by lia⟩, keyA_tab ns hT, by rw [keyA_size ns _ t1]; lia⟩
theorem tabP_ok (z : Bool) (ns : List Nat) (hr : rdP vs.size ys a ≤ 100) : tabI (tabP vs.size ys a vs z ns).ks (tabP vs.size ys a vs z ns).vs = true ∧ (tabP vs.size ys a vs z ns).ks.size ≤ 110 := by
  obtain ⟨t1, t2⟩ := okT_iff.1 hT
  have hs := keyA_size ns _ t1
  cases z with
  | true => exact ⟨keyA_tab ns hT, by show (keyA ns vs.size).size ≤ 110; lia⟩
  | false =>
    have := insA_tab ((rdP vs.size ys a).toNat - 1 + 1) (ns.getD vs.size 0) (enP vs.size ys a) ⟨keyA ns vs.size, vs.size, vs, vs.size⟩ (keyA_tab ns hT) (by show (keyA ns vs.size).size + _ < 1000; lia)
    refine ⟨this.1, ?_⟩
    have h2 : (insA ((rdP vs.size ys a).toNat - 1 + 1) (ns.getD vs.size 0) (enP vs.size ys a) ⟨keyA ns vs.size, vs.size, vs, vs.size⟩).ks.size ≤ (keyA ns vs.size).size + ((rdP vs.size ys a).toNat - 1 + 1) := this.2
    show (insA ((rdP vs.size ys a).toNat - 1 + 1) (ns.getD vs.size 0) (enP vs.size ys a) ⟨keyA ns vs.size, vs.size, vs, vs.size⟩).ks.size ≤ 110
    lia
theorem bokP_ok (z : Bool) (ns : List Nat) (o : Nat) (hr : rdP vs.size ys a ≤ 100) : bookK (bokP vs.size ys a vs z ns o).es = true ∧ simE (bokP vs.size ys a vs z ns o).es = true ∧ (bokP vs.size ys a vs z ns o).es.size ≤ 110 := by
  obtain ⟨t1, t2⟩ := okT_iff.1 hT
  obtain ⟨b1, b2⟩ := bookP_ok ns o vs vs.size t1
  have b3 := bookP_sim ns o t2 vs.size
  cases z with
  | true => exact ⟨b1, b3, by show (bookP ns o vs vs.size).es.size ≤ 110; lia⟩
  | false =>
    have := bkA_ok ((rdP vs.size ys a).toNat - 1 + 1) (ns.getD (o + vs.size) 0) (enP vs.size ys a) (bookP ns o vs vs.size) b1 b3 (by lia)
    refine ⟨this.1, this.2.1, ?_⟩
    have h2 := this.2.2
    show (bkA ((rdP vs.size ys a).toNat - 1 + 1) (ns.getD (o + vs.size) 0) (enP vs.size ys a) (bookP ns o vs vs.size)).es.size ≤ 110
    lia
theorem like_all (z : Bool) (ns : List Nat) (o : Nat) (hr : rdP vs.size ys a ≤ 100) : Like (tabP vs.size ys a vs z ns) (bokP vs.size ys a vs z ns o) := by
  obtain ⟨t1, t2⟩ := okT_iff.1 hT
  have h0 : Like ⟨keyA ns vs.size, vs.size, vs, vs.size⟩ (bookP ns o vs vs.size) := fun y => by
    show getI (keyA ns vs.size) vs y = _
    rw [keyA_get ns vs y _ t1, bookP_get]
  cases z with
  | true => exact h0
  | false => exact like_ins _ _ _ _ _ _ (keyA_tab ns hT) (by show (keyA ns vs.size).size + _ < 1000; rw [keyA_size ns _ t1]; lia) h0
theorem putN_ok (z : Bool) {lim : Int} (h1 : 20 ≤ lim) (hf : ¬ lim < 1 + enP vs.size ys a - plP ys a) (hz : z = false → 0 < rdP vs.size ys a) : ∀ f ∈ putN vs.size ys a vs z lim, ∀ ns, f ns = true := by
  obtain ⟨t1, t2⟩ := okT_iff.1 hT
  have hr := rdP_is vs.size t1 ys a
  have he := enP_in vs.size t1 ys a
  have hp := plP_in ys a
  have hr1 : rdP vs.size ys a ≤ 100 := by
    rcases he.2.2.2 with q | q <;> lia
  have seven : ∀ t u, Eq2 (.int 7 t) (.int 7 u) := fun t u => by
    show (true && eqB 7 7) = true
    rw [eqB_iff'.2 rfl]; rfl
  intro f hf' ns
  unfold putN at hf'
  simp only [List.mem_cons, List.not_mem_nil, or_false] at hf'
  obtain ⟨p1, p2⟩ := tabP_ok ys a hT z ns hr1
  obtain ⟨q1, q2, q3⟩ := bokP_ok ys a hT z ns 0 hr1
  have row120 : ∀ b, b = true → rowG 120 120 #[] b = true := fun b hb => rowG_iff.2 ⟨rfl, by show 0 + 120 < 1000; lia, hb⟩
  rcases hf' with rfl | rfl | rfl | rfl | rfl | rfl | rfl | rfl | rfl | rfl | rfl
  · cases z with
    | true => rfl
    | false =>
      have := hz rfl
      exact insG_iff.2 ⟨by lia, keyA_tab ns hT, by rw [keyA_size ns _ t1]; lia, by lia⟩
  · show (tabI (tabP vs.size ys a vs z ns).ks (tabP vs.size ys a vs z ns).vs && true) = true
    rw [p1]; rfl
  · exact row120 _ (tabI_set p1 _ _ rfl (by lia))
  · cases z with
    | true => rfl
    | false =>
      have := hz rfl
      obtain ⟨b1, b2⟩ := bookP_ok ns 0 vs vs.size t1
      exact bookG_iff.2 ⟨by lia, b1, by lia, bookP_sim ns 0 t2 vs.size⟩
  · exact q1
  · refine row120 _ ?_
    show (bookK (bkSet (bokP vs.size ys a vs z ns 0).es (plP ys a) _ _) && simE (bkSet (bokP vs.size ys a vs z ns 0).es (plP ys a) _ _)) = true
    rw [bookK_set q1 (by lia), simE_set q2 _ _ rfl]; rfl
  · refine rows_eq (fun y => ?_) 120 (-60) #[] #[] rfl
    show Eq2 (getI (setKs (tabP vs.size ys a vs z ns).ks _ _) (setVs (tabP vs.size ys a vs z ns).ks (tabP vs.size ys a vs z ns).vs _ _) y) (bkGet (bkSet (bokP vs.size ys a vs z ns (vs.size + 3)).es _ _ _) y)
    rw [getI_set p1, bkGet_set]
    by_cases e : y = plP ys a
    · rw [if_pos e, if_pos e]; exact seven _ _
    · rw [if_neg e, if_neg e, ← like_all ys a hT z ns (vs.size + 3) hr1 y]
      exact eq2_refl (sim_getI p1 y)
  · exact (bookP_ok ns 0 vs 0 (by lia)).1
  · exact (bookP_ok ns 0 vs 1 (by lia)).1
  · exact (bookP_ok ns 0 vs 2 (by lia)).1
  · exact (bookP_ok ns 0 vs 3 (by lia)).1
end
noncomputable def bB (b c : Bool) : Bool := match b with | true => c | false => !c
theorem bB_eq {b c : Bool} (h : bB b c = true) : b = c := by cases b <;> cases c <;> first | rfl | cases h
theorem bB_of {b c : Bool} (h : b = c) : bB b c = true := by subst h; cases b <;> rfl
noncomputable def okQ (Q : Array Value) (a : Int) : Bool := (Nat.blt Q.size 1000000 && allInt Q) && (leB 0 a && ltB a 900)
theorem draw_ok {Q : Array Value} {a : Int} (h : okQ Q a = true) {b : Int} (h0 : a ≤ b) (h1 : b < a + 100) : drawOk Q b = true := by
  unfold okQ at h
  simp only [Bool.and_eq_true] at h
  obtain ⟨⟨q1, q2⟩, p1, p2⟩ := h
  have p1 := leB_iff'.1 p1
  have p2 := ltB_iff'.1 p2
  unfold drawOk
  rw [q1, q2, leB_iff'.2 (show (0 : Int) ≤ b by lia), ltB_iff'.2 (show b < 1000 by lia)]; rfl
theorem in3_draw (Q : Array Value) (a : Int) : in3 (drawV Q a 2) = true := by
  have := drawV_in Q a 2
  unfold in3
  rw [leB_iff'.2 this.1, ltB_iff'.2 (by lia)]; rfl
theorem allT_cons {b : Bool} {l : List Bool} (h : b = true) (t : ∀ x ∈ l, x = true) : ∀ x ∈ b :: l, x = true := List.forall_mem_cons.2 ⟨h, t⟩
theorem allT_nil : ∀ x ∈ ([] : List Bool), x = true := fun _ h => (nomatch h)
noncomputable def Vars.tx (x : Vars) (i : Nat) : Vars := { x with
  Y := fun k j => match Nat.beq k i with | true => bytesOf ((x.Q i).toList.getD j .none) | false => x.Y k j
  V := fun k j => match Nat.beq k i with | true => tokOf ((x.Q i).toList.getD j .none) | false => x.V k j }
theorem by_is {v : Value} (h : isBy v = true) : v = .bytes (bytesOf v) (tokOf v) := by cases v <;> first | rfl | cases h
theorem rowV_tx (x : Vars) (i : Nat) (h : okT (x.Q i) = true) : rowV (x.tx i) i (x.Q i).size = x.Q i := by
  obtain ⟨h1, h2⟩ := okT_iff.1 h
  have eY : ∀ j, (x.tx i).Y i j = bytesOf ((x.Q i).toList.getD j .none) := fun j => by
    show (match Nat.beq i i with | true => _ | false => _) = _
    rw [Nat.beq_refl]
  have eV : ∀ j, (x.tx i).V i j = tokOf ((x.Q i).toList.getD j .none) := fun j => by
    show (match Nat.beq i i with | true => _ | false => _) = _
    rw [Nat.beq_refl]
  generalize hq : x.Q i = q at h1 h2 eY eV
  obtain ⟨l⟩ := q
  match l, h1, h2, eY, eV with
  | [], _, _, _, _ => rfl
  | [a], _, h2, eY, eV =>
    show #[Value.bytes ((x.tx i).Y i 0) ((x.tx i).V i 0)] = _
    rw [eY, eV]
    have e0 := by_is (h2 a (by simp))
    show (⟨[.bytes (bytesOf a) (tokOf a)]⟩ : Array Value) = _
    rw [← e0]
  | [a, b], _, h2, eY, eV =>
    show #[Value.bytes ((x.tx i).Y i 0) ((x.tx i).V i 0), .bytes ((x.tx i).Y i 1) ((x.tx i).V i 1)] = _
    rw [eY, eV, eY, eV]
    have e0 := by_is (h2 a (by simp))
    have e1 := by_is (h2 b (by simp))
    show (⟨[.bytes (bytesOf a) (tokOf a), .bytes (bytesOf b) (tokOf b)]⟩ : Array Value) = _
    rw [← e0, ← e1]
  | [a, b, c], _, h2, eY, eV =>
    show #[Value.bytes ((x.tx i).Y i 0) ((x.tx i).V i 0), .bytes ((x.tx i).Y i 1) ((x.tx i).V i 1), .bytes ((x.tx i).Y i 2) ((x.tx i).V i 2)] = _
    rw [eY, eV, eY, eV, eY, eV]
    have e0 := by_is (h2 a (by simp))
    have e1 := by_is (h2 b (by simp))
    have e2 := by_is (h2 c (by simp))
    show (⟨[.bytes (bytesOf a) (tokOf a), .bytes (bytesOf b) (tokOf b), .bytes (bytesOf c) (tokOf c)]⟩ : Array Value) = _
    rw [← e0, ← e1, ← e2]
  | [a, b, c, d], _, h2, eY, eV =>
    show #[Value.bytes ((x.tx i).Y i 0) ((x.tx i).V i 0), .bytes ((x.tx i).Y i 1) ((x.tx i).V i 1), .bytes ((x.tx i).Y i 2) ((x.tx i).V i 2), .bytes ((x.tx i).Y i 3) ((x.tx i).V i 3)] = _
    rw [eY, eV, eY, eV, eY, eV, eY, eV]
    have e0 := by_is (h2 a (by simp))
    have e1 := by_is (h2 b (by simp))
    have e2 := by_is (h2 c (by simp))
    have e3 := by_is (h2 d (by simp))
    show (⟨[.bytes (bytesOf a) (tokOf a), .bytes (bytesOf b) (tokOf b), .bytes (bytesOf c) (tokOf c), .bytes (bytesOf d) (tokOf d)]⟩ : Array Value) = _
    rw [← e0, ← e1, ← e2, ← e3]
  | _ :: _ :: _ :: _ :: _ :: l, h1, _, _, _ => 
    change l.length + 1 + 1 + 1 + 1 + 1 ≤ 4 at h1
    lia
noncomputable def putC (vs ys : Array Value) (a lim : Int) : Bool := ltB (lim - 0) (1 + enP vs.size ys a - plP ys a)
noncomputable def S_putU (w : World) (x : Vars) (c : Bool) : Spec := { S_putR w x c [] with need := [okT (x.Q 2),okQ (x.Q 1) (x.I 0 1),leB 20 (x.I 6 8) && leB (x.I 6 8) 500,bB (putC (x.Q 2) (x.Q 1) (x.I 0 1) (x.I 6 8)) c] }
theorem putNd_ok {vs ys : Array Value} {a lim : Int} (hT : okT vs = true) (hQ : okQ ys a = true) (hl : 20 ≤ lim) (md : Nat) (h0 : md = 0 → putC vs ys a lim = true) (h1 : md ≠ 0 → putC vs ys a lim = false) (h2 : md = 2 → ¬ 0 < rdP vs.size ys a) : ∀ b ∈ putNd vs.size ys a md lim, b = true := by
  obtain ⟨t1, t2⟩ := okT_iff.1 hT
  have he := enP_in vs.size t1 ys a
  have hp := plP_in ys a
  unfold putNd
  refine allT_cons (draw_ok hQ (Int.le_refl _) (by lia)) (allT_cons (draw_ok hQ (by lia) (by lia)) (allT_cons (draw_ok hQ (by lia) (by lia)) (allT_cons (draw_ok hQ (by lia) (by lia)) (allT_cons (in3_draw _ _) (allT_cons ?_ (allT_cons ?_ (allT_cons ?_ (allT_cons ?_ allT_nil))))))))
  · rw [fewI_iff.2 (by rcases he.2.2.2 with q | q <;> lia), fewI_iff.2 (by lia), eqB_iff'.2 (rfl : (-1 : Int) = -1)]
    simp
  · match md, h0, h1 with
    | 0, h0, _ => exact h0 rfl
    | md + 1, _, h1 =>
      show (!putC vs ys a lim) = true
      rw [h1 (by lia)]; rfl
  · exact notB ltB_iff' (by lia)
  · match md, h2 with
    | 2, h2 => exact notB ltB_iff' (h2 rfl)
    | 0, _ => rfl
    | 1, _ => rfl
    | _ + 3, _ => rfl
theorem put_row (w : World) (x : Vars) (c : Bool) {nd : List Bool} (hT : okT (x.Q 2) = true) (h : (S_putR w ((x.tx 2).row 2 (x.Q 2).size) c nd).Holds (VV w)) : (S_putR w x c nd).Holds (VV w) := by
  unfold Vars.row at h
  rw [rowV_tx x 2 hT] at h
  exact h
theorem put_any (w : World) (x : Vars) (c : Bool) : (S_putU w x c).Holds (VV w) := Spec.Holds.more (S := { S_putR w x c [] with need := [] }) (fun q => by
  have hT := q _ mcS
  have hQ := q _ (mcT mcS)
  have hl := q _ (mcT (mcT mcS))
  have hc := bB_eq (q _ (mcT (mcT (mcT mcS))))
  rw [Bool.and_eq_true, leB_iff', leB_iff'] at hl
  obtain ⟨t1, t2⟩ := okT_iff.1 hT
  have fin_ : ∀ {nd : List Bool}, (∀ b ∈ nd, b = true) → (S_putR w x c nd).Holds (VV w) → ({ S_putR w x c [] with need := [] } : Spec).Holds (VV w) := fun hn h => by
    have h := Spec.Holds.less h (by
      intro b hb
      change b ∈ _ ++ [] at hb
      rw [List.append_nil] at hb
      exact hn b hb)
    exact h
  have go : ∀ {nd : List Bool}, (∀ b ∈ nd, b = true) → (S_putR w ((x.tx 2).row 2 (x.Q 2).size) c nd).Holds (VV w) → ({ S_putR w x c [] with need := [] } : Spec).Holds (VV w) := fun hn h => fin_ hn (put_row w x c hT h)
  have hv := rowV_tx x 2 hT
  cases hpc : putC (x.Q 2) (x.Q 1) (x.I 0 1) (x.I 6 8) with
  | true =>
    rw [hpc] at hc
    subst hc
    have hf : x.I 6 8 < 1 + enP (x.Q 2).size (x.Q 1) (x.I 0 1) - plP (x.Q 1) (x.I 0 1) := by
      have := ltB_iff'.1 hpc
      lia
    have hN := putNF_ok (x.Q 1) (x.I 0 1) hT hl.1 hl.2 hf
    refine go (putNd_ok hT hQ hl.1 0 (fun _ => hpc) (fun h => absurd rfl h) (fun h => nomatch h)) ?_
    have hN : ∀ f ∈ putNF (x.Q 2).size ((x.tx 2).Q 1) ((x.tx 2).I 0 1) (rowV (x.tx 2) 2 (x.Q 2).size) ((x.tx 2).I 6 8), ∀ ns, f ns = true := by rw [hv]; exact hN
    generalize (x.Q 2).size = m at t1 hN
    match m, t1, hN with
    | 0, _, hN => exact R_putR0f w (x.tx 2) hN
    | 1, _, hN => exact R_putR1f w (x.tx 2) hN
    | 2, _, hN => exact R_putR2f w (x.tx 2) hN
    | 3, _, hN => exact R_putR3f w (x.tx 2) hN
    | 4, _, hN => exact R_putR4f w (x.tx 2) hN
    | _ + 5, h, _ => exact absurd h (by lia)
  | false =>
    rw [hpc] at hc
    subst hc
    have hf : ¬ x.I 6 8 < 1 + enP (x.Q 2).size (x.Q 1) (x.I 0 1) - plP (x.Q 1) (x.I 0 1) := fun h => by
      have : putC (x.Q 2) (x.Q 1) (x.I 0 1) (x.I 6 8) = true := ltB_iff'.2 (by lia)
      rw [hpc] at this; cases this
    by_cases hr : 0 < rdP (x.Q 2).size (x.Q 1) (x.I 0 1)
    · have hN := putN_ok (x.Q 1) (x.I 0 1) hT false hl.1 hf (fun _ => hr)
      refine go (putNd_ok hT hQ hl.1 1 (fun h => nomatch h) (fun _ => hpc) (fun h => nomatch h)) ?_
      have hN : ∀ f ∈ putN (x.Q 2).size ((x.tx 2).Q 1) ((x.tx 2).I 0 1) (rowV (x.tx 2) 2 (x.Q 2).size) false ((x.tx 2).I 6 8), ∀ ns, f ns = true := by rw [hv]; exact hN
      generalize (x.Q 2).size = m at t1 hN
      match m, t1, hN with
      | 0, _, hN => exact R_putR0p w (x.tx 2) hN
      | 1, _, hN => exact R_putR1p w (x.tx 2) hN
      | 2, _, hN => exact R_putR2p w (x.tx 2) hN
      | 3, _, hN => exact R_putR3p w (x.tx 2) hN
      | 4, _, hN => exact R_putR4p w (x.tx 2) hN
      | _ + 5, h, _ => exact absurd h (by lia)
    · have hN := putN_ok (x.Q 1) (x.I 0 1) hT true hl.1 hf (fun h => nomatch h)
      refine go (putNd_ok hT hQ hl.1 2 (fun h => nomatch h) (fun _ => hpc) (fun _ => hr)) ?_
      have hN : ∀ f ∈ putN (x.Q 2).size ((x.tx 2).Q 1) ((x.tx 2).I 0 1) (rowV (x.tx 2) 2 (x.Q 2).size) true ((x.tx 2).I 6 8), ∀ ns, f ns = true := by rw [hv]; exact hN
      generalize (x.Q 2).size = m at t1 hN
      match m, t1, hN with
      | 0, _, hN => exact R_putR0z w (x.tx 2) hN
      | 1, _, hN => exact R_putR1z w (x.tx 2) hN
      | 2, _, hN => exact R_putR2z w (x.tx 2) hN
      | 3, _, hN => exact R_putR3z w (x.tx 2) hN
      | 4, _, hN => exact R_putR4z w (x.tx 2) hN
      | _ + 5, h, _ => exact absurd h (by lia)) rfl
section
open PySem.Builtin PySem.Builtin.Bytes
theorem slot_buffer : Slot "bytes" "__buffer__" "bytes.__buffer__" :=
  .of (owner := "bytes") (n := "__buffer__") (by rw [typeLookup_type, builtinLookup_eq_fast]; kernel_rfl) (by decide +kernel) (by decide +kernel) (by decide +kernel)
    (by first | exact .inl (by decide +kernel) | exact .inr (by decide +kernel)) (by rw [isSubtype_type]; kernel_rfl)
theorem no_release : typeLookup (.type "bytes") ("__release_buffer__" : Str) = pure none := by rw [typeLookup_type, builtinLookup_eq_fast]; kernel_rfl
theorem spec_buffer (x : Array UInt8) (t : Nat) : specialOf (.bytes x t) ("__buffer__" : Str) = pure (some (.builtin "bytes.__buffer__")) := slot_buffer.lookup
theorem own_buffer (x : Array UInt8) (t : Nat) : slotIsOwn (.bytes x t) "__buffer__" = pure true := by
  unfold slotIsOwn
  rw [spec_buffer]
  show (if (!("bytes.__buffer__".endsWith ("." ++ "__buffer__"))) = true then pure false else isInstance (.bytes x t) (.type ("bytes.__buffer__".dropRight ("__buffer__".length + 1)))) = _
  have e1 : ("bytes.__buffer__".endsWith ("." ++ "__buffer__")) = true := by decide +kernel
  have e2 : ("bytes.__buffer__".dropRight ("__buffer__".length + 1)) = "bytes" := by decide +kernel
  rw [e1, e2]
  show isSubtype (.type "bytes") (.type "bytes") = _
  rw [isSubtype_type]
  kernel_rfl
theorem own_release (x : Array UInt8) (t : Nat) : slotIsOwn (.bytes x t) "__release_buffer__" = pure true := by
  unfold slotIsOwn
  have : specialOf (.bytes x t) ("__release_buffer__" : Str) = pure none := no_release
  rw [this]
  rfl
theorem buffer_eq (id : String) (x : Array UInt8) (t : Nat) (f : Bool) : buffer? id (.bytes x t) f = pure (some x) := by
  unfold buffer? ownRelease
  rw [spec_buffer, own_buffer, own_release]
  rfl
theorem tbq {M : Model} {A : Around} {id : String} {x : Array UInt8} {t : Nat} {Q : Option (Array UInt8 × Option Value) → Shared → Prop} {E : Value → Shared → Prop} {s : Shared} (h : Q (some (x, none)) s) : wpAny M A (takeBufferQuiet? id (.bytes x t) 0) Q E s := by
  have e : takeBuffer? id (.bytes x t) 0 = pure (some (x, none)) := by
    unfold takeBuffer?
    rw [spec_buffer, own_buffer, buffer_eq]
    rfl
  unfold takeBufferQuiet?
  rw [e]
  exact wpAny_pure h
theorem rng_is (m : Nat) : List.range' ([:m] : Std.Legacy.Range).start ([:m] : Std.Legacy.Range).size ([:m] : Std.Legacy.Range).step = List.range' 0 m 1 := by simp [Std.Legacy.Range.size]
noncomputable def joinTk (l : List Value) : List (Value × Option Value) := l.map fun v => (v, none)
theorem joinLetGo_ok {M : Model} {A : Around} {E : Value → Shared → Prop} {s : Shared} {keep : List Value} {Q : Unit → Shared → Prop} (h : Q () s) : ∀ l : List Value, wpAny M A (joinLetGo (joinTk l) keep) Q E s
  | [] => wpAny_pure h
  | v :: l => by
    show wpAny _ _ (letGo [v] _ >>= fun _ => joinLetGo (joinTk l) keep) _ _ _
    exact wpAny_bind (wpAny_letGo (joinLetGo_ok h l))
theorem join_wp {M : Model} {A : Around} {b : Array UInt8} {t l n : Nat} {xs : Array Value} (hb : ∀ v ∈ xs.toList, isBy v = true) (h1 : xs.size ≠ 1) (hsz : (joined b (xs.toList.map bytesOf)).size ≤ sizeLine) (hlong : tooLong ((xs.toList.map bytesOf).foldl (· + ·.size) (b.size * (xs.size - 1))) = false)
    {h : Heap} {g : Array GenState} {d : Drawn} {tk : Nat} {os : OsState} {Q : PySem.Fin → Shared → Prop} {E : Value → Shared → Prop} (hl : h.get? l = some (oList xs n)) (hq : Q (.done (.ret (.bytes (joined b (xs.toList.map bytesOf)) tk))) ⟨h, g, d, tk + 1, os⟩) :
    wpAny M A (Builtin.«bytes.join» ⟨[.bytes b t, .ref l], []⟩) Q E ⟨h, g, d, tk, os⟩ := by
  show wpAny _ _ (joinM .bytes ⟨[.bytes b t, .ref l], []⟩) _ _ _
  unfold joinM
  refine wpAny_bind (wpAny_of_eq (a := (.bytes b t, .ref l)) (by rfl) ?_)
  show wpAny _ _ (joinItems (.ref l) >>= _) _ _ _
  refine wpAny_bind ?_
  unfold joinItems
  refine wpAny_bind (wpAny_typeOf (T := "list") ⟨_, hl, rfl⟩ ?_)
  show wpAny _ _ (pure (Value.ref l)) _ _ _
  refine wpAny_pure ?_
  refine wpAny_bind (wpAny_seqItems hl rfl ?_)
  have foldS : ∀ (l : List (Array UInt8)) (z : Nat), Array.foldl (fun x1 x2 => x1 + x2.size) z l.toArray = l.foldl (fun x1 x2 => x1 + x2.size) z := fun l z => by simp
  obtain ⟨ls⟩ := xs
  rcases ls with _ | ⟨v0, _ | ⟨v1, ls⟩⟩
  · show wpAny _ _ (forIn [:(⟨[]⟩ : Array Value).size] ((#[], []) : Prod (Array (Array UInt8)) (List (Value × Option Value))) _ >>= _) _ _ _
    generalize hxs : (⟨[]⟩ : Array Value) = xs at hb h1 hsz hlong hl hq ⊢
    clear hxs
    show wpAny _ _ (forIn [:xs.size] ((#[], []) : Prod (Array (Array UInt8)) (List (Value × Option Value))) _ >>= _) _ _ _
    refine wpAny_bind ?_
    rw [Std.Legacy.Range.forIn_eq_forIn_range', rng_is]
    refine wpAny_forIn_list _ (fun rest (st : Prod (Array (Array UInt8)) (List (Value × Option Value))) s' => s' = ⟨h, g, d, tk, os⟩ ∧ ∃ i, rest = List.range' i (xs.size - i) ∧ i ≤ xs.size ∧ st = (((xs.toList.take i).map bytesOf).toArray, joinTk (xs.toList.take i))) _ ?_ ?_ _ _ ⟨rfl, 0, rfl, Nat.zero_le _, rfl⟩
    · rintro x rest st s' ⟨rfl, i, hr, hi, rfl⟩
      have hlt : i < xs.size := by
        rcases Nat.lt_or_ge i xs.size with q | q
        · exact q
        · rw [Nat.sub_eq_zero_of_le q] at hr; cases hr
      obtain ⟨k, hk⟩ : ∃ k, xs.size - i = k + 1 := ⟨xs.size - i - 1, by lia⟩
      rw [hk, List.range'_succ] at hr
      obtain ⟨rfl, rfl⟩ := List.cons.inj hr
      have hx : xs.getD x .none = xs[x] := by simp [hlt]
      have hby := by_is (hb xs[x] (Array.getElem_mem_toList hlt))
      show wpAny _ _ (seqItems? (.ref l) >>= _) _ _ _
      refine wpAny_bind (wpAny_seqItems hl rfl ?_)
      show wpAny _ _ (if (Kind.bytes == Kind.bytearray || (joinTk (xs.toList.take x)).any fun y => y.1.onHeap) = true then _ else _) _ _ _
      have hany : ((Kind.bytes == Kind.bytearray || (joinTk (xs.toList.take x)).any fun y => y.1.onHeap) : Bool) = false := by
        rw [Bool.or_eq_false_iff]
        refine ⟨rfl, ?_⟩
        rw [List.any_eq_false]
        intro y hy
        obtain ⟨v, hv, rfl⟩ := List.mem_map.mp hy
        have := hb v (List.mem_of_mem_take hv)
        cases v <;> first | exact Bool.false_ne_true | (cases this; done)
      rw [hany]
      rw [if_neg Bool.false_ne_true]
      show wpAny _ _ (holding _ (takeBufferQuiet? _ (xs.getD x .none) 0) >>= _) _ _ _
      refine wpAny_bind (wpAny_holding ?_)
      rw [hx, hby]
      refine tbq ?_
      show wpAny _ _ (seqItems? (.ref l) >>= _) _ _ _
      refine wpAny_bind (wpAny_seqItems hl rfl ?_)
      show wpAny _ _ (if (xs.size != xs.size) = true then _ else _) _ _ _
      rw [if_neg (by simp)]
      refine wpAny_pure ⟨rfl, x + 1, ?_, hlt, ?_⟩
      · congr 1; lia
      · have e1 : xs.toList.take (x + 1) = xs.toList.take x ++ [xs[x]] := by
          rw [List.take_add_one, Array.getElem?_toList, Array.getElem?_eq_getElem hlt]; rfl
        rw [e1]
        unfold joinTk
        rw [List.map_append, List.map_append]
        refine Prod.ext ?_ ?_
        · show ((xs.toList.take x).map bytesOf).toArray.push (bytesOf xs[x]) = _
          simp
        · show (xs.toList.take x).map (fun v => (v, none)) ++ [(Value.bytes (bytesOf xs[x]) (tokOf xs[x]), none)] = _
          rw [← hby]; rfl
    · rintro st s' ⟨rfl, i, hr, hi, rfl⟩
      have hi' : i = xs.size := by
        rcases Nat.lt_or_ge i xs.size with q | q
        · obtain ⟨k, hk⟩ : ∃ k, xs.size - i = k + 1 := ⟨xs.size - i - 1, by lia⟩
          rw [hk, List.range'_succ] at hr; cases hr
        · lia
      have e1 : xs.toList.take i = xs.toList := List.take_of_length_le (by rw [Array.length_toList]; lia)
      rw [e1]
      refine wpAny_bind (wpAny_of_eq (a := b) (by rfl) ?_)
      have elong : tooLong (Array.foldl (fun x1 x2 => x1 + x2.size) (b.size * ((xs.toList.map bytesOf).toArray.size - 1)) (xs.toList.map bytesOf).toArray) = false := by
        rw [foldS]
        have : (xs.toList.map bytesOf).toArray.size = xs.size := by simp
        rw [this]; exact hlong
      show wpAny _ _ (if tooLong (Array.foldl (fun x1 x2 => x1 + x2.size) (b.size * ((xs.toList.map bytesOf).toArray.size - 1)) (xs.toList.map bytesOf).toArray) = true then _ else _) _ _ _
      rw [elong, if_neg Bool.false_ne_true]
      show wpAny _ _ (mkBytes (joined b (xs.toList.map bytesOf)) >>= _) _ _ _
      refine wpAny_bind (wpAny_mkBytes (hb := hsz) ?_)
      refine wpAny_bind (wpAny_holding (wpAny_point ?_))
      refine wpAny_bind (joinLetGo_ok ?_ xs.toList)
      exact wpAny_pure hq
  · exact absurd rfl h1
  · show wpAny _ _ (forIn [:(⟨v0 :: v1 :: ls⟩ : Array Value).size] ((#[], []) : Prod (Array (Array UInt8)) (List (Value × Option Value))) _ >>= _) _ _ _
    generalize hxs : (⟨v0 :: v1 :: ls⟩ : Array Value) = xs at hb h1 hsz hlong hl hq ⊢
    clear hxs
    show wpAny _ _ (forIn [:xs.size] ((#[], []) : Prod (Array (Array UInt8)) (List (Value × Option Value))) _ >>= _) _ _ _
    refine wpAny_bind ?_
    rw [Std.Legacy.Range.forIn_eq_forIn_range', rng_is]
    refine wpAny_forIn_list _ (fun rest (st : Prod (Array (Array UInt8)) (List (Value × Option Value))) s' => s' = ⟨h, g, d, tk, os⟩ ∧ ∃ i, rest = List.range' i (xs.size - i) ∧ i ≤ xs.size ∧ st = (((xs.toList.take i).map bytesOf).toArray, joinTk (xs.toList.take i))) _ ?_ ?_ _ _ ⟨rfl, 0, rfl, Nat.zero_le _, rfl⟩
    · rintro x rest st s' ⟨rfl, i, hr, hi, rfl⟩
      have hlt : i < xs.size := by
        rcases Nat.lt_or_ge i xs.size with q | q
        · exact q
        · rw [Nat.sub_eq_zero_of_le q] at hr; cases hr
      obtain ⟨k, hk⟩ : ∃ k, xs.size - i = k + 1 := ⟨xs.size - i - 1, by lia⟩
      rw [hk, List.range'_succ] at hr
      obtain ⟨rfl, rfl⟩ := List.cons.inj hr
      have hx : xs.getD x .none = xs[x] := by simp [hlt]
      have hby := by_is (hb xs[x] (Array.getElem_mem_toList hlt))
      show wpAny _ _ (seqItems? (.ref l) >>= _) _ _ _
      refine wpAny_bind (wpAny_seqItems hl rfl ?_)
      show wpAny _ _ (if (Kind.bytes == Kind.bytearray || (joinTk (xs.toList.take x)).any fun y => y.1.onHeap) = true then _ else _) _ _ _
      have hany : ((Kind.bytes == Kind.bytearray || (joinTk (xs.toList.take x)).any fun y => y.1.onHeap) : Bool) = false := by
        rw [Bool.or_eq_false_iff]
        refine ⟨rfl, ?_⟩
        rw [List.any_eq_false]
        intro y hy
        obtain ⟨v, hv, rfl⟩ := List.mem_map.mp hy
        have := hb v (List.mem_of_mem_take hv)
        cases v <;> first | exact Bool.false_ne_true | (cases this; done)
      rw [hany]
      rw [if_neg Bool.false_ne_true]
      show wpAny _ _ (holding _ (takeBufferQuiet? _ (xs.getD x .none) 0) >>= _) _ _ _
      refine wpAny_bind (wpAny_holding ?_)
      rw [hx, hby]
      refine tbq ?_
      show wpAny _ _ (seqItems? (.ref l) >>= _) _ _ _
      refine wpAny_bind (wpAny_seqItems hl rfl ?_)
      show wpAny _ _ (if (xs.size != xs.size) = true then _ else _) _ _ _
      rw [if_neg (by simp)]
      refine wpAny_pure ⟨rfl, x + 1, ?_, hlt, ?_⟩
      · congr 1; lia
      · have e1 : xs.toList.take (x + 1) = xs.toList.take x ++ [xs[x]] := by
          rw [List.take_add_one, Array.getElem?_toList, Array.getElem?_eq_getElem hlt]; rfl
        rw [e1]
        unfold joinTk
        rw [List.map_append, List.map_append]
        refine Prod.ext ?_ ?_
        · show ((xs.toList.take x).map bytesOf).toArray.push (bytesOf xs[x]) = _
          simp
        · show (xs.toList.take x).map (fun v => (v, none)) ++ [(Value.bytes (bytesOf xs[x]) (tokOf xs[x]), none)] = _
          rw [← hby]; rfl
    · rintro st s' ⟨rfl, i, hr, hi, rfl⟩
      have hi' : i = xs.size := by
        rcases Nat.lt_or_ge i xs.size with q | q
        · obtain ⟨k, hk⟩ : ∃ k, xs.size - i = k + 1 := ⟨xs.size - i - 1, by lia⟩
          rw [hk, List.range'_succ] at hr; cases hr
        · lia
      have e1 : xs.toList.take i = xs.toList := List.take_of_length_le (by rw [Array.length_toList]; lia)
      rw [e1]
      refine wpAny_bind (wpAny_of_eq (a := b) (by rfl) ?_)
      have elong : tooLong (Array.foldl (fun x1 x2 => x1 + x2.size) (b.size * ((xs.toList.map bytesOf).toArray.size - 1)) (xs.toList.map bytesOf).toArray) = false := by
        rw [foldS]
        have : (xs.toList.map bytesOf).toArray.size = xs.size := by simp
        rw [this]; exact hlong
      show wpAny _ _ (if tooLong (Array.foldl (fun x1 x2 => x1 + x2.size) (b.size * ((xs.toList.map bytesOf).toArray.size - 1)) (xs.toList.map bytesOf).toArray) = true then _ else _) _ _ _
      rw [elong, if_neg Bool.false_ne_true]
      show wpAny _ _ (mkBytes (joined b (xs.toList.map bytesOf)) >>= _) _ _ _
      refine wpAny_bind (wpAny_mkBytes (hb := hsz) ?_)
      refine wpAny_bind (wpAny_holding (wpAny_point ?_))
      refine wpAny_bind (joinLetGo_ok ?_ xs.toList)
      exact wpAny_pure hq
noncomputable def lenJ (b : Array UInt8) (xs : Array Value) : Nat := (xs.toList.map bytesOf).foldl (· + ·.size) (b.size * (xs.size - 1))
noncomputable def joinB (b : Array UInt8) (xs : Array Value) : Array UInt8 := joined b (xs.toList.map bytesOf)
theorem fold_add : ∀ (l : List (Array UInt8)) (z : Nat), l.foldl (fun x1 x2 => x1 + x2.size) z = z + l.foldl (fun x1 x2 => x1 + x2.size) 0
  | [], z => rfl
  | a :: l, z => by
    rw [List.foldl_cons, List.foldl_cons, fold_add l (z + a.size), fold_add l (0 + a.size)]; lia
theorem joined_go (b : Array UInt8) : ∀ (l : List (Array UInt8)) (i : Nat) (out : Array UInt8), 0 < i → ((l.zipIdx i).foldl (fun out (p, i) => (if i > 0 then out ++ b else out) ++ p) out).size = out.size + b.size * l.length + l.foldl (fun x1 x2 => x1 + x2.size) 0
  | [], _, out, _ => by simp
  | a :: l, i, out, h => by
    rw [List.zipIdx_cons, List.foldl_cons, joined_go b l (i + 1) _ (by lia)]
    show ((if i > 0 then out ++ b else out) ++ a).size + b.size * l.length + _ = _
    rw [if_pos h, List.foldl_cons, fold_add l (0 + a.size), Array.size_append, Array.size_append, List.length_cons, Nat.mul_succ]; lia
theorem joined_size (b : Array UInt8) : ∀ l : List (Array UInt8), (joined b l).size = b.size * (l.length - 1) + l.foldl (fun x1 x2 => x1 + x2.size) 0
  | [] => by unfold joined; simp
  | a :: l => by
    unfold joined
    rw [List.zipIdx_cons, List.foldl_cons, joined_go b l 1 _ (by lia)]
    show ((if (0 : Nat) > 0 then b0 ++ b else #[]) ++ a).size + b.size * l.length + _ = _
    rw [if_neg (by lia), List.foldl_cons, fold_add l (0 + a.size), Array.size_append, List.length_cons, Nat.add_sub_cancel]
    show 0 + a.size + _ + _ = _
    lia
theorem joinB_size (b : Array UInt8) (xs : Array Value) : (joinB b xs).size = lenJ b xs := by
  unfold joinB lenJ
  rw [joined_size, fold_add _ (b.size * (xs.size - 1)), List.length_map, Array.length_toList]
noncomputable def S_join (b : Array UInt8) (t l : Nat) (xs : Array Value) (n : Nat) : Spec := { code := .builtin "bytes.join" ⟨[.bytes b t, .ref l], []⟩, dep := 840, need := [okT xs && Nat.blt (lenJ b xs) 100000], pre := [(l, oList xs n)], touch := [], na := 0, nt := 1, res := fun _ ts => .ok (.ret (.bytes (joinB b xs) (nth ts 0))), postT := fun _ _ => [], postN := fun _ _ => [] }
theorem entry_bytes_join : entryFor table "bytes.join" = some Builtin.«bytes.join» := by first | exact entryFor_of_tree (by kernel_rfl) | exact entryFor_of_fast (by kernel_rfl)
theorem join_at {V : Vn} {b : Array UInt8} {t l : Nat} {xs : Array Value} {n : Nat} : (S_join b t l xs n).Holds V := by
  refine spec_by fun Γ hc hh A hA hd hin h g d tk os At => ?_
  have hl : h.get? l = some (oList xs n) := At.mem _ mcS
  have hn := At.need _ mcS
  rw [Bool.and_eq_true] at hn
  obtain ⟨t1, t2⟩ := okT_iff.1 hn.1
  have t3 : lenJ b xs < 100000 := blt_iff hn.2
  refine @den_wp2 _ _ _ _ _ _ _ _ _ rfl entry_bytes_join ?_
  by_cases h1 : xs.size = 1
  · obtain ⟨ls⟩ := xs
    match ls, h1 with
    | [v], _ =>
      have e := by_is (t2 v (by simp))
      have e2 : joinB b #[v] = bytesOf v := by
        unfold joinB joined
        simp [List.zipIdx]
      generalize bytesOf v = y at e e2
      generalize tokOf v = u at e
      subst e
      show wpAny _ _ (joinM .bytes ⟨[.bytes b t, .ref l], []⟩) _ _ _
      unfold joinM
      refine wpAny_bind (wpAny_of_eq (a := (.bytes b t, .ref l)) (by rfl) ?_)
      show wpAny _ _ (joinItems (.ref l) >>= _) _ _ _
      refine wpAny_bind ?_
      unfold joinItems
      refine wpAny_bind (wpAny_typeOf (T := "list") ⟨_, hl, rfl⟩ ?_)
      show wpAny _ _ (pure (Value.ref l)) _ _ _
      refine wpAny_pure ?_
      refine wpAny_bind (wpAny_seqItems hl rfl ?_)
      show wpAny _ _ (typeOf (.bytes y u) >>= _) _ _ _
      refine wpAny_bind (wpAny_of_eq (a := .type "bytes") (by rfl) ?_)
      show wpAny _ _ (if (Value.type "bytes" == Value.type "bytes") = true then _ else _) _ _ _
      rw [if_pos (by simp)]
      refine wpAny_bind (wpAny_rule ?_)
      show wpAny _ _ (ret (.bytes y u)) _ _ _
      exact wpAny_pure ⟨_, rfl, [], [u], by show Except.ok (Flow.ret (.bytes y u)) = Except.ok (Flow.ret (.bytes (joinB b #[.bytes y u]) u)); rw [e2], ends_same rfl rfl rfl rfl rfl, rfl, rfl, rfl⟩
  · refine join_wp t2 h1 (by have := joinB_size b xs; unfold joinB at this; rw [this]; unfold sizeLine; lia) ?_ hl ⟨_, rfl, [], [tk], rfl, ends_same rfl rfl rfl rfl rfl, rfl, rfl, rfl⟩
    show decide (lenJ b xs > sizeLine) = false
    rw [decide_eq_false_iff_not]
    unfold sizeLine
    lia
end
noncomputable def D_join {V : Vn} (b : Array UInt8) (t : Nat) : Dp V := ⟨1, fun as os _ => match as with
  | [l] => match os with
    | [o] => match seqOf o with
      | some (xs, n) => some ⟨S_join b t l xs n, join_at⟩
      | none => none
    | _ => none
  | _ => none⟩
noncomputable def S_blen (b : Array UInt8) (t : Nat) : Spec := { code := .builtin "len" ⟨[.bytes b t], []⟩, dep := 840, need := [Nat.blt b.size 1000000], pre := [], touch := [], na := 0, nt := 1, res := fun _ ts => .ok (.ret (.int (Int.ofNat b.size) (nth ts 0))), postT := fun _ _ => [], postN := fun _ _ => [] }
theorem blen_at {V : Vn} {b : Array UInt8} {t : Nat} : (S_blen b t).Holds V := by
  refine spec_by fun Γ hc hh A hA hd hin h g d tk os At => ?_
  have hs : b.size < 1000000 := blt_iff (At.need _ mcS)
  refine @den_wp2 _ _ _ _ _ _ _ _ _ rfl entry_len ?_
  unfold Builtin.«len»
  refine wpAny_bind (m := oneArg "len" _) (wpAny_pure ?_)
  refine wpAny_bind (m := callSpecial? (.bytes b t) (Str.ofString "__len__")) (wpAny_callSpecial?_slot (name := Str.ofString "__len__") (typeIs_bytes _ b t) FB.slot_bytes_len (call_gives FB.slot_bytes_len (typeIs_bytes _ b t) FB.entry_bytes_len (FB.args_bytes_len_1 _) (gives_bytes_len b t) ?_))
  refine wpAny_bind (wpAny_holding (wpAny_pure ?_))
  refine wpAny_bind (wpAny_letGo ?_)
  have h0 : ¬ ((b.size : Int) < 0) := by lia
  have hfit : ¬ ((b.size : Int) ≥ 2 ^ 63) := by lia
  show wpAny _ _ (if (b.size : Int) < 0 then _ else _) _ _ _
  rw [if_neg h0]
  show wpAny _ _ (if (b.size : Int) ≥ 2 ^ 63 then _ else _) _ _ _
  rw [if_neg hfit]
  exact wpAny_bind (wpAny_mkInt (wpAny_pure ⟨_, rfl, [], [tk + 1], rfl, ends_same rfl rfl rfl rfl rfl, rfl, rfl, rfl⟩))
noncomputable def dpE (e : Bool) : Int := match e with | true => 8 | false => 0
noncomputable def btJ (ys : Array Value) (a : Int) : Array UInt8 := pick3 (drawV ys a 2) #[] b1 b2
noncomputable def szJ (b : Array UInt8) (vs : Array Value) : Nat → Int
  | 0 => 0
  | k + 1 => szJ b vs k + (Int.ofNat (bytesOf (vs.toList.getD k .none)).size + match k with | 0 => 0 | _ + 1 => Int.ofNat b.size)
noncomputable def okJ (b : Array UInt8) (vs : Array Value) (lim : Int) (k : Nat) : List Bool := (List.range k).map fun i => !ltB lim (szJ b vs (i + 1))
noncomputable def szOk (vs : Array Value) (k : Nat) : Bool := Nat.blt (bytesOf (vs.toList.getD k .none)).size 1000000
noncomputable def joinNd (m j : Nat) (ys : Array Value) (a : Int) (vs : Array Value) (lim : Int) : List Bool := [drawOk ys a, in3 (drawV ys a 2), okT vs && Nat.blt (lenJ (btJ ys a) vs) 100000, rowEq [.bytes (joinB (btJ ys a) vs) 0] [.bytes (joinB (btJ ys a) vs) 0], match j with | 0 => !ltB lim (Int.ofNat (joinB (btJ ys a) vs).size) | _ + 1 => ltB lim (Int.ofNat (joinB (btJ ys a) vs).size), Nat.blt (btJ ys a).size 1000000, Nat.blt (joinB (btJ ys a) vs).size 1000000, szOk vs 0, szOk vs 1, szOk vs 2, szOk vs 3] ++ match j with
  | 0 => okJ (btJ ys a) vs lim m
  | j + 1 => okJ (btJ ys a) vs lim j ++ [ltB lim (szJ (btJ ys a) vs (j + 1))]
noncomputable def S_joinR (w : World) (x : Vars) (r c e : Bool) (st : Int) (nd : List Bool) : Spec := { code := .call (.ref 816) ⟨[(vA x 0),(vA x 3),(vA x 8),(vA x 2)],[]⟩,dep := 400,need := nd ++ [],bel := some ([envF (o835 w.params) 835 (aA x 10) s24 [(s10,(aA x 9))]],x.u),pre := [(aA x 0,{ cls := tyL,data := (.seq #[(vA x 1),(.int (x.I 0 1) (x.V 0 1))] (x.N 0)) }),(aA x 1,{ cls := tyL,data := (.seq (x.Q 1) (x.N 1)) }),(aA x 2,{ cls := tyL,data := (.seq (x.Q 2) (x.N 2)) }),(aA x 3,(iX 451 (aA x 4))),(aA x 4,{ cls := tyD,data := (.dict #[eX x 4 0 s25 (vA x 5),eX x 4 1 s26 (vB x b5 4 1),eX x 4 2 s27 (vR x 4 2),eX x 4 3 s28 (vI x (0) 4 3),eX x 4 4 s29 (vI x (0) 4 4),eX x 4 5 s30 (vA x 7),eX x 4 6 s31 (vI x (0) 4 6),eX x 4 7 s13 (vR x 4 7)] (x.N 4)) }),(aA x 5,(iX 53 (aA x 6))),(aA x 6,{ cls := tyD,data := (.dict #[eX x 6 0 s32 (vI x (80) 6 0),eX x 6 1 s33 (.int (250) 211),eX x 6 2 s34 (.int (60) 212),eX x 6 3 s35 (.int (200) 213),eX x 6 4 s36 (.int (40) 214),eX x 6 5 s30 (.int (200) 215),eX x 6 6 s37 (.int (x.I 6 6) (x.V 6 6)),eX x 6 7 s38 (.int (50) 217),eX x 6 8 s28 (.int (1000000000) 218),eX x 6 9 s17 (.int (x.I 6 9) (x.V 6 9))] (x.N 6)) }),(aA x 7,{ cls := tyL,data := (.seq #[] (x.N 7)) }),(aA x 8,(iX 234 (aA x 11))),(aA x 9,{ cls := (.type "cell"),data := (.cell (some (vA x 0))) }),(aA x 10,lfO r x.u (x.E 10) (x.N 10) (aA x 9)),(aA x 11,(oTX x 11 (vI x (-1) 11 0) (vA x 12) (vA x 13) .none)),(aA x 12,{ cls := tyL,data := (.seq #[(vB x b7 12 0),(vB x b8 12 1),(vB x b9 12 2),(vB x b10 12 3),(vB x b11 12 4),(vB x b12 12 5),(vB x b13 12 6),(vB x b14 12 7),(vB x b15 12 8),(vB x b16 12 9),(vB x b17 12 10),(vB x b18 12 11),(vB x b19 12 12),(vB x b20 12 13),(vB x b21 12 14),(vB x b22 12 15),(vB x b23 12 16),(vB x b24 12 17),(vB x b25 12 18),(vB x b26 12 19),(vB x b27 12 20),(vB x b28 12 21)] (x.N 12)) }),(aA x 13,{ cls := tyL,data := (.seq #[(vR x 13 0),(vR x 13 1),(vR x 13 2),(vR x 13 3),(vR x 13 4),(vR x 13 5),(vR x 13 6),(vR x 13 7),(vR x 13 8),(vR x 13 9),(vR x 13 10),(vR x 13 11),(vR x 13 12),(vR x 13 13),(vR x 13 14),(vR x 13 15),(vR x 13 16),(vA x 14),(vR x 13 18),(vR x 13 19),(vA x 8),(vB x b29 13 21)] (x.N 13)) }),(aA x 14,(iX 234 (aA x 15))),(aA x 15,(oTX x 15 (vI x (-30) 15 0) (vA x 16) (vA x 17) .none)),(aA x 16,{ cls := tyL,data := (.seq #[(vB x b30 16 0),(vB x b31 16 1),(vB x b32 16 2),(vB x b33 16 3),(vB x b34 16 4),(vB x b35 16 5)] (x.N 16)) }),(aA x 17,{ cls := tyL,data := (.seq #[(vR x 17 0),(vR x 17 1),(vA x 18),(vR x 17 3),(vR x 17 4),(vR x 17 5)] (x.N 17)) }),(aA x 18,(iX 255 (aA x 19))),(aA x 19,{ cls := tyD,data := (.dict #[eX x 19 0 s0 (vI x (-32) 19 0),eX x 19 1 s44 (vB x b32 19 1),eX x 19 2 s45 (.ref 663)] (x.N 19)) })],touch := [0,4,10],na := 1,nt := 5,res := fun as ts => .ok (.ret (.bool true)),postT := fun as ts => [some ({ cls := tyL,data := (.seq #[(vA x 1),(.int (x.I 0 1 + 1) (nth ts 0))] (x.N 0)) }),some ({ cls := tyD,data := (.dict #[eX x 4 0 s25 (vA x 5),eX x 4 1 s26 (vB x b5 4 1),eX x 4 2 s27 (vR x 4 2),eX x 4 3 s28 (.int st (nth ts 1)),eX x 4 4 s29 (vI x (0) 4 4),eX x 4 5 s30 (.ref (nth as 0)),eX x 4 6 s31 (.int (dpE e) (nth ts 2)),eX x 4 7 s13 (vR x 4 7)] (x.N 4)) }),some (lfO c x.u (x.E 10) (x.N 10) (aA x 9))],postN := fun as ts => [{ cls := tyL,data := (.seq (frA e (nth ts 3)) (nth ts 4)) }],rawP := [1,2,10],rawQ := [2,3] }
noncomputable def S_cpJ (w : World) (x : Vars) (r : Bool) : Spec := { code := .call (.ref 357) ⟨[(vA x 0),(.bytes b36 (x.U 1))],[]⟩,dep := 700,need := [],bel := some ([envF (o663 w.params) 663 (aA x 4) s46 [],envF (o413 w.params) 413 (aA x 5) s20 [],envF (o406 w.params) 406 (aA x 6) s21 [],envF (o399 w.params) 399 (aA x 7) s22 [],envF (o797 w.params) 797 (aA x 8) s23 [],envF (o816 w.params) 816 (aA x 9) s47 [],envF (o835 w.params) 835 (aA x 10) s24 [(s10,(aA x 3))]],x.u),pre := [(aA x 0,(iX 451 (aA x 1))),(aA x 1,{ cls := tyD,data := (.dict #[eX x 1 0 s25 (vR x 1 0),eX x 1 1 s26 (vB x b5 1 1),eX x 1 2 s27 (vR x 1 2),eX x 1 3 s28 (.int (x.I 1 3) (x.V 1 3)),eX x 1 4 s29 (vI x (0) 1 4),eX x 1 5 s30 (vA x 2),eX x 1 6 s31 (.int (x.I 1 6) (x.V 1 6)),eX x 1 7 s13 (vR x 1 7)] (x.N 1)) }),(aA x 2,{ cls := tyL,data := (.seq #[(vR x 2 0)] (x.N 2)) }),(aA x 3,{ cls := (.type "cell"),data := (.cell (some (vR x 3 0))) }),(aA x 4,{ cls := (.type "frame"),data := (.dict (x.E 4) (x.N 4)) }),(aA x 5,{ cls := (.type "frame"),data := (.dict (x.E 5) (x.N 5)) }),(aA x 6,{ cls := (.type "frame"),data := (.dict (x.E 6) (x.N 6)) }),(aA x 7,{ cls := (.type "frame"),data := (.dict (x.E 7) (x.N 7)) }),(aA x 8,{ cls := (.type "frame"),data := (.dict (x.E 8) (x.N 8)) }),(aA x 9,{ cls := (.type "frame"),data := (.dict (x.E 9) (x.N 9)) }),(aA x 10,lfO r x.u (x.E 10) (x.N 10) (aA x 3))],touch := [4,5,6,7,8,9,10],na := 6,nt := 6,res := fun as ts => .error (.ref (nth as 0)),postT := fun as ts => [some ({ cls := (.type "frame"),data := (.dict (x.E 4) (x.N 4)),slots := #[(some (.ref 662)),(some (.ref 3)),none,(some (vA x 5)),none,(some (.ref 663)),(some (.ref 0))] }),some ({ cls := (.type "frame"),data := (.dict (x.E 5) (x.N 5)),slots := #[(some (.ref 412)),(some (.ref 3)),none,(some (vA x 6)),none,(some (.ref 413)),(some (.ref 0))] }),some ({ cls := (.type "frame"),data := (.dict (x.E 6) (x.N 6)),slots := #[(some (.ref 405)),(some (.ref 3)),none,(some (vA x 7)),none,(some (.ref 406)),(some (.ref 0))] }),some ({ cls := (.type "frame"),data := (.dict (x.E 7) (x.N 7)),slots := #[(some (.ref 398)),(some (.ref 3)),none,(some (vA x 8)),none,(some (.ref 399)),(some (.ref 0))] }),some ({ cls := (.type "frame"),data := (.dict (x.E 8) (x.N 8)),slots := #[(some (.ref 796)),(some (.ref 3)),none,(some (vA x 9)),none,(some (.ref 797)),(some (.ref 0))] }),some ({ cls := (.type "frame"),data := (.dict (x.E 9) (x.N 9)),slots := #[(some (.ref 815)),(some (.ref 3)),none,(some (vA x 10)),none,(some (.ref 816)),(some (.ref 0))] }),some (lfO true x.u (x.E 10) (x.N 10) (aA x 3))],postN := fun as ts => [{ cls := (.ref 74),dict := (some (nth as 1)),data := (.fields #[(.ref (nth as 2)),(.ref (nth as 3)),.none,.none,(.bool false),.none]) },{ cls := tyD,data := (.dict #[eN w s39 (nth ts 0) (.bytes b36 (x.U 1)),eN w s40 (nth ts 1) (.ref (nth as 4)),eN w s41 (nth ts 2) (.bool false)] 3) },{ cls := (.type "tuple"),data := (.seq #[(.bytes b36 (x.U 1))] 0) },{ cls := (.type "traceback"),data := (.fields #[.none,(.ref (nth as 5)),.none,.none,.none,(cq (nth ts 3) 0),(cq (nth ts 3) 1),(cq (nth ts 3) 2),(cq (nth ts 3) 3),(cq (nth ts 3) 4),(cq (nth ts 3) 5)]) },{ cls := tyL,data := (.seq #[] 0) },{ cls := (.type "frame"),data := (.dict #[eN w s42 (nth ts 4) (vA x 0),eN w s17 (nth ts 5) (.bytes b36 (x.U 1))] 2),slots := #[(some (.ref 356)),(some (.ref 3)),none,(some (vA x 4)),none,(some (.ref 357)),(some (.ref 0))] }],rawP := [4,5,6,7,8,9,10],rawQ := [0,1,2,3,4,5,6] }
theorem R_cpJf (w : World) (x : Vars) : (S_cpJ w x false).Holds (VV w) :=
  sF (F := FI w) (vok _) 2000 ⟨q4, [14,16,13,18,17,11], [17,19,21,22,0,1]⟩ fun m t => by kernel_rfl
theorem R_cpJt (w : World) (x : Vars) : (S_cpJ w x true).Holds (VV w) :=
  sF (F := FI w) (vok _) 2000 ⟨cp q4 0 184 (ap [15,15,15,19,19] ([])), [14,16,13,18,17,11], [17,19,21,22,0,1]⟩ fun m t => by kernel_rfl
theorem cpJ_any (w : World) (x : Vars) : ∀ r : Bool, (S_cpJ w x r).Holds (VV w)
  | false => R_cpJf w x
  | true => R_cpJt w x
noncomputable def FJ (w : World) (m : Nat) (u r : Bool) (c : Code) : Option (Dp (VV w)) := match c with
  | .call (.ref a) ⟨[v, v'], []⟩ => match Nat.beq a 357 with
    | true => some ⟨1000, fun as os _ => some ⟨_, cpJ_any w (varsOf [v, v'] as os u) r⟩⟩
    | false => FI w (.call (.ref a) ⟨[v, v'], []⟩)
  | .call (.ref a) ⟨[v], []⟩ => match Nat.beq a 804 with
    | true => some (D_lr w m [v])
    | false => FI w (.call (.ref a) ⟨[v], []⟩)
  | .builtin id ⟨[.ref a, .int y t], []⟩ => match idIs id 128106587276438692081757506308484131437 with
    | true => some (D_gi y t)
    | false => FI w (.builtin id ⟨[.ref a, .int y t], []⟩)
  | .builtin id ⟨[.bytes y t], []⟩ => match idIs id 7300717 with
    | true => some ⟨0, fun _ _ _ => some ⟨_, blen_at (b := y) (t := t)⟩⟩
    | false => FI w (.builtin id ⟨[.bytes y t], []⟩)
  | .builtin id ⟨[.bytes y t, .ref a], []⟩ => match idIs id 526146135090875568847459 with
    | true => some (D_join y t)
    | false => FI w (.builtin id ⟨[.bytes y t, .ref a], []⟩)
  | .builtin id ⟨[.ref a, .ref b], []⟩ => match idIs id 116512336171186236184357485 with
    | true => some D_rleq
    | false => FI w (.builtin id ⟨[.ref a, .ref b], []⟩)
  | c => FI w c
theorem R_joinR00 (w : World) (x : Vars) (r : Bool) : (S_joinR w (x.row 2 0) r r false 1 (joinNd 0 0 (x.Q 1) (x.I 0 1) (rowV x 2 0) (x.I 6 9))).Holds (VV w) :=
  sF (F := FJ w 0 x.u r) (vok _) 6000 ⟨q5, [32], [9,50,123,0,778,2]⟩ fun m t => by kernel_rfl
theorem R_joinR10 (w : World) (x : Vars) (r : Bool) : (S_joinR w (x.row 2 1) r r false 2 (joinNd 1 0 (x.Q 1) (x.I 0 1) (rowV x 2 1) (x.I 6 9))).Holds (VV w) :=
  sF (F := FJ w 1 x.u r) (vok _) 6000 ⟨cp q5 0 651 (cp q5 623 110 (ap [0,0,0,45,45,45] (cp q5 284 22 (cp q5 600 16 (ap [45,0,23,24,25,26,0,0,0,45,45,0,45,0,0,0,0,59,59,0,0,59,0,0,59,0,45,45,45,45,52,52,52,52,45,52,52,52,52,45,0,0,45,0,8,45,45,1,1,0,0,45,45,45,45] (cp q5 808 26 (ap [12,58,58,58,1,0,61] (cp q5 736 101 (ap [62,63,62,1,62,62,63,1,4] ([])))))))))), [32], [9,127,142,0,778,2]⟩ fun m t => by kernel_rfl
theorem R_joinR11 (w : World) (x : Vars) (r : Bool) : (S_joinR w (x.row 2 1) r true true 2 (joinNd 1 1 (x.Q 1) (x.I 0 1) (rowV x 2 1) (x.I 6 9))).Holds (VV w) :=
  sF (F := FJ w 1 x.u r) (vok _) 6000 ⟨cp q5 0 651 (cp q5 623 110 (ap [0,0,0,45,45,45] (cp q5 284 22 (cp q5 600 16 (ap [45,0,23,24,25,26,0,0,0,45,45,0,45,0,0,0,0,59,59,0,0,59,0,0,59,0,45,45,45,45,52,52,52,52,45,52,52,52,52,45,0,0,45,0,8,45,45,1,1,0,0,45,45,45,45] (cp q5 808 25 (ap [0,12,45] (cp q3 259 16 (ap [11,4,5,33,10,45,36,35,34,28,21,11,0,60,63,63,63,45,60,60,60,60,66,66,60,66,60,66,66,60,66,66,66,36,60,60,60,67,67,60,67,67,67,35,60,60,60,68,68,60,68,68,68,34,60,60,60,69,69,60,69,69,69,28,60,60,60,70,70,0,0,0,0,60,0,60,70,70,0,28,28,28,60,0,0,0,0,0,0,60,0,60,0,0,0,60,60,0,61,0,28,28,28,28] (cp q5 799 34 (ap [0,5,21,1] ([])))))))))))), [32], [9,127,52,777,38,778,1]⟩ fun m t => by kernel_rfl
theorem R_joinR20 (w : World) (x : Vars) (r : Bool) : (S_joinR w (x.row 2 2) r r false 3 (joinNd 2 0 (x.Q 1) (x.I 0 1) (rowV x 2 2) (x.I 6 9))).Holds (VV w) :=
  sF (F := FJ w 2 x.u r) (vok _) 6000 ⟨cp q5 0 651 (cp q5 623 28 (cp q5 623 110 (ap [0,0,0,45,45,45] (cp q5 284 22 (cp q5 600 16 (ap [45,0,23,24,25,26,0,0,0,45,45,0,45,0,0,0,0,59,59,0,0,59,0,0,59,0,45,45,45,45,52,52,52,52,45,52,52,52,52,45,0,0,45,0,8,45,45,1,1,0,0,45,45,45,45] (cp q5 808 26 (ap [12,58,58,58,0,0,0,45,45,45] (cp q5 284 22 (cp q5 600 16 (ap [45,0,23,24,25,26,0,0,0,45,45,0,45,0,0,0,0,60,60,0,0,60,0,0,60,0,45,45,45,45,52,52,52,52,45,52,52,52,52,45,0,0,45,0,9,45,45,1,0,0,0,0,45,0,6,0,45,45,45,45] (cp q5 808 26 (ap [13,58,58,58,1,0,62] (cp q5 736 101 (ap [63,64,63,1,63,63,64,1,4] ([])))))))))))))))), [32], [9,146,161,0,778,2]⟩ fun m t => by kernel_rfl
theorem R_joinR21 (w : World) (x : Vars) (r : Bool) : (S_joinR w (x.row 2 2) r true true 2 (joinNd 2 1 (x.Q 1) (x.I 0 1) (rowV x 2 2) (x.I 6 9))).Holds (VV w) :=
  sF (F := FJ w 2 x.u r) (vok _) 6000 ⟨cp q5 0 651 (cp q5 623 28 (cp q5 623 110 (ap [0,0,0,45,45,45] (cp q5 284 22 (cp q5 600 16 (ap [45,0,23,24,25,26,0,0,0,45,45,0,45,0,0,0,0,59,59,0,0,59,0,0,59,0,45,45,45,45,52,52,52,52,45,52,52,52,52,45,0,0,45,0,8,45,45,1,1,0,0,45,45,45,45] (cp q5 808 25 (ap [0,12,45] (cp q3 259 16 (ap [11,4,5,33,10,45,36,35,34,28,21,11,0,60,63,63,63,45,60,60,60,60,66,66,60,66,60,66,66,60,66,66,66,36,60,60,60,67,67,60,67,67,67,35,60,60,60,68,68,60,68,68,68,34,60,60,60,69,69,60,69,69,69,28,60,60,60,70,70,0,0,0,0,60,0,60,70,70,0,28,28,28,60,0,0,0,0,0,0,60,0,60,0,0,0,60,60,0,61,0,28,28,28,28] (cp q5 799 34 (ap [0,5,21,1] ([]))))))))))))), [32], [9,133,53,777,38,778,1]⟩ fun m t => by kernel_rfl
theorem R_joinR22 (w : World) (x : Vars) (r : Bool) : (S_joinR w (x.row 2 2) r true true 3 (joinNd 2 2 (x.Q 1) (x.I 0 1) (rowV x 2 2) (x.I 6 9))).Holds (VV w) :=
  sF (F := FJ w 2 x.u r) (vok _) 6000 ⟨cp q5 0 651 (cp q5 623 28 (cp q5 623 110 (ap [0,0,0,45,45,45] (cp q5 284 22 (cp q5 600 16 (ap [45,0,23,24,25,26,0,0,0,45,45,0,45,0,0,0,0,59,59,0,0,59,0,0,59,0,45,45,45,45,52,52,52,52,45,52,52,52,52,45,0,0,45,0,8,45,45,1,1,0,0,45,45,45,45] (cp q5 808 26 (ap [12,58,58,58,0,0,0,45,45,45] (cp q5 284 22 (cp q5 600 16 (ap [45,0,23,24,25,26,0,0,0,45,45,0,45,0,0,0,0,60,60,0,0,60,0,0,60,0,45,45,45,45,52,52,52,52,45,52,52,52,52,45,0,0,45,0,9,45,45,1,0,0,0,0,45,0,6,0,45,45,45,45] (cp q5 808 25 (ap [0,13,45] (cp q3 259 16 (ap [11,4,5,33,10,45,36,35,34,28,21,11,0,61,64,64,64,45,61,61,61,61,67,67,61,67,61,67,67,61,67,67,67,36,61,61,61,68,68,61,68,68,68,35,61,61,61,69,69,61,69,69,69,34,61,61,61,70,70,61,70,70,70,28,61,61,61,71,71,0,0,0,0,61,0,61,71,71,0,28,28,28,61,0,0,0,0,0,0,61,0,61,0,0,0,61,61,0,62,0,28,28,28,28] (cp q5 799 34 (ap [0,5,21,1] ([])))))))))))))))))), [32], [9,146,53,777,38,778,1]⟩ fun m t => by kernel_rfl
theorem R_joinR30 (w : World) (x : Vars) (r : Bool) : (S_joinR w (x.row 2 3) r r false 4 (joinNd 3 0 (x.Q 1) (x.I 0 1) (rowV x 2 3) (x.I 6 9))).Holds (VV w) :=
  sF (F := FJ w 3 x.u r) (vok _) 6000 ⟨cp q5 0 651 (cp q5 623 28 (cp q5 623 28 (cp q5 623 110 (ap [0,0,0,45,45,45] (cp q5 284 22 (cp q5 600 16 (ap [45,0,23,24,25,26,0,0,0,45,45,0,45,0,0,0,0,59,59,0,0,59,0,0,59,0,45,45,45,45,52,52,52,52,45,52,52,52,52,45,0,0,45,0,8,45,45,1,1,0,0,45,45,45,45] (cp q5 808 26 (ap [12,58,58,58,0,0,0,45,45,45] (cp q5 284 22 (cp q5 600 16 (ap [45,0,23,24,25,26,0,0,0,45,45,0,45,0,0,0,0,60,60,0,0,60,0,0,60,0,45,45,45,45,52,52,52,52,45,52,52,52,52,45,0,0,45,0,9,45,45,1,0,0,0,0,45,0,6,0,45,45,45,45] (cp q5 808 26 (ap [13,58,58,58,0,0,0,45,45,45] (cp q5 284 22 (cp q5 600 16 (ap [45,0,23,24,25,26,0,0,0,45,45,0,45,0,0,0,0,61,61,0,0,61,0,0,61,0,45,45,45,45,52,52,52,52,45,52,52,52,52,45,0,0,45,0,10,45,45,1,0,0,0,0,45,0,6,0,45,45,45,45] (cp q5 808 26 (ap [14,58,58,58,1,0,63] (cp q5 736 101 (ap [64,65,64,1,64,64,65,1,4] ([])))))))))))))))))))))), [32], [9,165,180,0,778,2]⟩ fun m t => by kernel_rfl
theorem R_joinR31 (w : World) (x : Vars) (r : Bool) : (S_joinR w (x.row 2 3) r true true 2 (joinNd 3 1 (x.Q 1) (x.I 0 1) (rowV x 2 3) (x.I 6 9))).Holds (VV w) :=
  sF (F := FJ w 3 x.u r) (vok _) 6000 ⟨cp q5 0 651 (cp q5 623 28 (cp q5 623 28 (cp q5 623 110 (ap [0,0,0,45,45,45] (cp q5 284 22 (cp q5 600 16 (ap [45,0,23,24,25,26,0,0,0,45,45,0,45,0,0,0,0,59,59,0,0,59,0,0,59,0,45,45,45,45,52,52,52,52,45,52,52,52,52,45,0,0,45,0,8,45,45,1,1,0,0,45,45,45,45] (cp q5 808 25 (ap [0,12,45] (cp q3 259 16 (ap [11,4,5,33,10,45,36,35,34,28,21,11,0,60,63,63,63,45,60,60,60,60,66,66,60,66,60,66,66,60,66,66,66,36,60,60,60,67,67,60,67,67,67,35,60,60,60,68,68,60,68,68,68,34,60,60,60,69,69,60,69,69,69,28,60,60,60,70,70,0,0,0,0,60,0,60,70,70,0,28,28,28,60,0,0,0,0,0,0,60,0,60,0,0,0,60,60,0,61,0,28,28,28,28] (cp q5 799 34 (ap [0,5,21,1] ([])))))))))))))), [32], [9,139,54,777,38,778,1]⟩ fun m t => by kernel_rfl
theorem R_joinR32 (w : World) (x : Vars) (r : Bool) : (S_joinR w (x.row 2 3) r true true 3 (joinNd 3 2 (x.Q 1) (x.I 0 1) (rowV x 2 3) (x.I 6 9))).Holds (VV w) :=
  sF (F := FJ w 3 x.u r) (vok _) 6000 ⟨cp q5 0 651 (cp q5 623 28 (cp q5 623 28 (cp q5 623 110 (ap [0,0,0,45,45,45] (cp q5 284 22 (cp q5 600 16 (ap [45,0,23,24,25,26,0,0,0,45,45,0,45,0,0,0,0,59,59,0,0,59,0,0,59,0,45,45,45,45,52,52,52,52,45,52,52,52,52,45,0,0,45,0,8,45,45,1,1,0,0,45,45,45,45] (cp q5 808 26 (ap [12,58,58,58,0,0,0,45,45,45] (cp q5 284 22 (cp q5 600 16 (ap [45,0,23,24,25,26,0,0,0,45,45,0,45,0,0,0,0,60,60,0,0,60,0,0,60,0,45,45,45,45,52,52,52,52,45,52,52,52,52,45,0,0,45,0,9,45,45,1,0,0,0,0,45,0,6,0,45,45,45,45] (cp q5 808 25 (ap [0,13,45] (cp q3 259 16 (ap [11,4,5,33,10,45,36,35,34,28,21,11,0,61,64,64,64,45,61,61,61,61,67,67,61,67,61,67,67,61,67,67,67,36,61,61,61,68,68,61,68,68,68,35,61,61,61,69,69,61,69,69,69,34,61,61,61,70,70,61,70,70,70,28,61,61,61,71,71,0,0,0,0,61,0,61,71,71,0,28,28,28,61,0,0,0,0,0,0,61,0,61,0,0,0,61,61,0,62,0,28,28,28,28] (cp q5 799 34 (ap [0,5,21,1] ([]))))))))))))))))))), [32], [9,152,54,777,38,778,1]⟩ fun m t => by kernel_rfl
theorem R_joinR33 (w : World) (x : Vars) (r : Bool) : (S_joinR w (x.row 2 3) r true true 4 (joinNd 3 3 (x.Q 1) (x.I 0 1) (rowV x 2 3) (x.I 6 9))).Holds (VV w) :=
  sF (F := FJ w 3 x.u r) (vok _) 6000 ⟨cp q5 0 651 (cp q5 623 28 (cp q5 623 28 (cp q5 623 110 (ap [0,0,0,45,45,45] (cp q5 284 22 (cp q5 600 16 (ap [45,0,23,24,25,26,0,0,0,45,45,0,45,0,0,0,0,59,59,0,0,59,0,0,59,0,45,45,45,45,52,52,52,52,45,52,52,52,52,45,0,0,45,0,8,45,45,1,1,0,0,45,45,45,45] (cp q5 808 26 (ap [12,58,58,58,0,0,0,45,45,45] (cp q5 284 22 (cp q5 600 16 (ap [45,0,23,24,25,26,0,0,0,45,45,0,45,0,0,0,0,60,60,0,0,60,0,0,60,0,45,45,45,45,52,52,52,52,45,52,52,52,52,45,0,0,45,0,9,45,45,1,0,0,0,0,45,0,6,0,45,45,45,45] (cp q5 808 26 (ap [13,58,58,58,0,0,0,45,45,45] (cp q5 284 22 (cp q5 600 16 (ap [45,0,23,24,25,26,0,0,0,45,45,0,45,0,0,0,0,61,61,0,0,61,0,0,61,0,45,45,45,45,52,52,52,52,45,52,52,52,52,45,0,0,45,0,10,45,45,1,0,0,0,0,45,0,6,0,45,45,45,45] (cp q5 808 25 (ap [0,14,45] (cp q3 259 16 (ap [11,4,5,33,10,45,36,35,34,28,21,11,0,62,65,65,65,45,62,62,62,62,68,68,62,68,62,68,68,62,68,68,68,36,62,62,62,69,69,62,69,69,69,35,62,62,62,70,70,62,70,70,70,34,62,62,62,71,71,62,71,71,71,28,62,62,62,72,72,0,0,0,0,62,0,62,72,72,0,28,28,28,62,0,0,0,0,0,0,62,0,62,0,0,0,62,62,0,63,0,28,28,28,28] (cp q5 799 34 (ap [0,5,21,1] ([])))))))))))))))))))))))), [32], [9,165,54,777,38,778,1]⟩ fun m t => by kernel_rfl
theorem R_joinR40 (w : World) (x : Vars) (r : Bool) : (S_joinR w (x.row 2 4) r r false 5 (joinNd 4 0 (x.Q 1) (x.I 0 1) (rowV x 2 4) (x.I 6 9))).Holds (VV w) :=
  sF (F := FJ w 4 x.u r) (vok _) 6000 ⟨cp q5 0 651 (cp q5 623 28 (cp q5 623 28 (cp q5 623 28 (cp q5 623 110 (ap [0,0,0,45,45,45] (cp q5 284 22 (cp q5 600 16 (ap [45,0,23,24,25,26,0,0,0,45,45,0,45,0,0,0,0,59,59,0,0,59,0,0,59,0,45,45,45,45,52,52,52,52,45,52,52,52,52,45,0,0,45,0,8,45,45,1,1,0,0,45,45,45,45] (cp q5 808 26 (ap [12,58,58,58,0,0,0,45,45,45] (cp q5 284 22 (cp q5 600 16 (ap [45,0,23,24,25,26,0,0,0,45,45,0,45,0,0,0,0,60,60,0,0,60,0,0,60,0,45,45,45,45,52,52,52,52,45,52,52,52,52,45,0,0,45,0,9,45,45,1,0,0,0,0,45,0,6,0,45,45,45,45] (cp q5 808 26 (ap [13,58,58,58,0,0,0,45,45,45] (cp q5 284 22 (cp q5 600 16 (ap [45,0,23,24,25,26,0,0,0,45,45,0,45,0,0,0,0,61,61,0,0,61,0,0,61,0,45,45,45,45,52,52,52,52,45,52,52,52,52,45,0,0,45,0,10,45,45,1,0,0,0,0,45,0,6,0,45,45,45,45] (cp q5 808 26 (ap [14,58,58,58,0,0,0,45,45,45] (cp q5 284 22 (cp q5 600 16 (ap [45,0,23,24,25,26,0,0,0,45,45,0,45,0,0,0,0,62,62,0,0,62,0,0,62,0,45,45,45,45,52,52,52,52,45,52,52,52,52,45,0,0,45,0,11,45,45,1,0,0,0,0,45,0,6,0,45,45,45,45] (cp q5 808 26 (ap [15,58,58,58,1,0,64] (cp q5 736 101 (ap [65,66,65,1,65,65,66,1,4] ([])))))))))))))))))))))))))))), [32], [9,184,199,0,778,2]⟩ fun m t => by kernel_rfl
theorem R_joinR41 (w : World) (x : Vars) (r : Bool) : (S_joinR w (x.row 2 4) r true true 2 (joinNd 4 1 (x.Q 1) (x.I 0 1) (rowV x 2 4) (x.I 6 9))).Holds (VV w) :=
  sF (F := FJ w 4 x.u r) (vok _) 6000 ⟨cp q5 0 651 (cp q5 623 28 (cp q5 623 28 (cp q5 623 28 (cp q5 623 110 (ap [0,0,0,45,45,45] (cp q5 284 22 (cp q5 600 16 (ap [45,0,23,24,25,26,0,0,0,45,45,0,45,0,0,0,0,59,59,0,0,59,0,0,59,0,45,45,45,45,52,52,52,52,45,52,52,52,52,45,0,0,45,0,8,45,45,1,1,0,0,45,45,45,45] (cp q5 808 25 (ap [0,12,45] (cp q3 259 16 (ap [11,4,5,33,10,45,36,35,34,28,21,11,0,60,63,63,63,45,60,60,60,60,66,66,60,66,60,66,66,60,66,66,66,36,60,60,60,67,67,60,67,67,67,35,60,60,60,68,68,60,68,68,68,34,60,60,60,69,69,60,69,69,69,28,60,60,60,70,70,0,0,0,0,60,0,60,70,70,0,28,28,28,60,0,0,0,0,0,0,60,0,60,0,0,0,60,60,0,61,0,28,28,28,28] (cp q5 799 34 (ap [0,5,21,1] ([]))))))))))))))), [32], [9,145,55,777,38,778,1]⟩ fun m t => by kernel_rfl
theorem R_joinR42 (w : World) (x : Vars) (r : Bool) : (S_joinR w (x.row 2 4) r true true 3 (joinNd 4 2 (x.Q 1) (x.I 0 1) (rowV x 2 4) (x.I 6 9))).Holds (VV w) :=
  sF (F := FJ w 4 x.u r) (vok _) 6000 ⟨cp q5 0 651 (cp q5 623 28 (cp q5 623 28 (cp q5 623 28 (cp q5 623 110 (ap [0,0,0,45,45,45] (cp q5 284 22 (cp q5 600 16 (ap [45,0,23,24,25,26,0,0,0,45,45,0,45,0,0,0,0,59,59,0,0,59,0,0,59,0,45,45,45,45,52,52,52,52,45,52,52,52,52,45,0,0,45,0,8,45,45,1,1,0,0,45,45,45,45] (cp q5 808 26 (ap [12,58,58,58,0,0,0,45,45,45] (cp q5 284 22 (cp q5 600 16 (ap [45,0,23,24,25,26,0,0,0,45,45,0,45,0,0,0,0,60,60,0,0,60,0,0,60,0,45,45,45,45,52,52,52,52,45,52,52,52,52,45,0,0,45,0,9,45,45,1,0,0,0,0,45,0,6,0,45,45,45,45] (cp q5 808 25 (ap [0,13,45] (cp q3 259 16 (ap [11,4,5,33,10,45,36,35,34,28,21,11,0,61,64,64,64,45,61,61,61,61,67,67,61,67,61,67,67,61,67,67,67,36,61,61,61,68,68,61,68,68,68,35,61,61,61,69,69,61,69,69,69,34,61,61,61,70,70,61,70,70,70,28,61,61,61,71,71,0,0,0,0,61,0,61,71,71,0,28,28,28,61,0,0,0,0,0,0,61,0,61,0,0,0,61,61,0,62,0,28,28,28,28] (cp q5 799 34 (ap [0,5,21,1] ([])))))))))))))))))))), [32], [9,158,55,777,38,778,1]⟩ fun m t => by kernel_rfl
theorem R_joinR43 (w : World) (x : Vars) (r : Bool) : (S_joinR w (x.row 2 4) r true true 4 (joinNd 4 3 (x.Q 1) (x.I 0 1) (rowV x 2 4) (x.I 6 9))).Holds (VV w) :=
  sF (F := FJ w 4 x.u r) (vok _) 6000 ⟨cp q5 0 651 (cp q5 623 28 (cp q5 623 28 (cp q5 623 28 (cp q5 623 110 (ap [0,0,0,45,45,45] (cp q5 284 22 (cp q5 600 16 (ap [45,0,23,24,25,26,0,0,0,45,45,0,45,0,0,0,0,59,59,0,0,59,0,0,59,0,45,45,45,45,52,52,52,52,45,52,52,52,52,45,0,0,45,0,8,45,45,1,1,0,0,45,45,45,45] (cp q5 808 26 (ap [12,58,58,58,0,0,0,45,45,45] (cp q5 284 22 (cp q5 600 16 (ap [45,0,23,24,25,26,0,0,0,45,45,0,45,0,0,0,0,60,60,0,0,60,0,0,60,0,45,45,45,45,52,52,52,52,45,52,52,52,52,45,0,0,45,0,9,45,45,1,0,0,0,0,45,0,6,0,45,45,45,45] (cp q5 808 26 (ap [13,58,58,58,0,0,0,45,45,45] (cp q5 284 22 (cp q5 600 16 (ap [45,0,23,24,25,26,0,0,0,45,45,0,45,0,0,0,0,61,61,0,0,61,0,0,61,0,45,45,45,45,52,52,52,52,45,52,52,52,52,45,0,0,45,0,10,45,45,1,0,0,0,0,45,0,6,0,45,45,45,45] (cp q5 808 25 (ap [0,14,45] (cp q3 259 16 (ap [11,4,5,33,10,45,36,35,34,28,21,11,0,62,65,65,65,45,62,62,62,62,68,68,62,68,62,68,68,62,68,68,68,36,62,62,62,69,69,62,69,69,69,35,62,62,62,70,70,62,70,70,70,34,62,62,62,71,71,62,71,71,71,28,62,62,62,72,72,0,0,0,0,62,0,62,72,72,0,28,28,28,62,0,0,0,0,0,0,62,0,62,0,0,0,62,62,0,63,0,28,28,28,28] (cp q5 799 34 (ap [0,5,21,1] ([]))))))))))))))))))))))))), [32], [9,171,55,777,38,778,1]⟩ fun m t => by kernel_rfl
theorem R_joinR44 (w : World) (x : Vars) (r : Bool) : (S_joinR w (x.row 2 4) r true true 5 (joinNd 4 4 (x.Q 1) (x.I 0 1) (rowV x 2 4) (x.I 6 9))).Holds (VV w) :=
  sF (F := FJ w 4 x.u r) (vok _) 6000 ⟨cp q5 0 651 (cp q5 623 28 (cp q5 623 28 (cp q5 623 28 (cp q5 623 110 (ap [0,0,0,45,45,45] (cp q5 284 22 (cp q5 600 16 (ap [45,0,23,24,25,26,0,0,0,45,45,0,45,0,0,0,0,59,59,0,0,59,0,0,59,0,45,45,45,45,52,52,52,52,45,52,52,52,52,45,0,0,45,0,8,45,45,1,1,0,0,45,45,45,45] (cp q5 808 26 (ap [12,58,58,58,0,0,0,45,45,45] (cp q5 284 22 (cp q5 600 16 (ap [45,0,23,24,25,26,0,0,0,45,45,0,45,0,0,0,0,60,60,0,0,60,0,0,60,0,45,45,45,45,52,52,52,52,45,52,52,52,52,45,0,0,45,0,9,45,45,1,0,0,0,0,45,0,6,0,45,45,45,45] (cp q5 808 26 (ap [13,58,58,58,0,0,0,45,45,45] (cp q5 284 22 (cp q5 600 16 (ap [45,0,23,24,25,26,0,0,0,45,45,0,45,0,0,0,0,61,61,0,0,61,0,0,61,0,45,45,45,45,52,52,52,52,45,52,52,52,52,45,0,0,45,0,10,45,45,1,0,0,0,0,45,0,6,0,45,45,45,45] (cp q5 808 26 (ap [14,58,58,58,0,0,0,45,45,45] (cp q5 284 22 (cp q5 600 16 (ap [45,0,23,24,25,26,0,0,0,45,45,0,45,0,0,0,0,62,62,0,0,62,0,0,62,0,45,45,45,45,52,52,52,52,45,52,52,52,52,45,0,0,45,0,11,45,45,1,0,0,0,0,45,0,6,0,45,45,45,45] (cp q5 808 25 (ap [0,15,45] (cp q3 259 16 (ap [11,4,5,33,10,45,36,35,34,28,21,11,0,63,66,66,66,45,63,63,63,63,69,69,63,69,63,69,69,63,69,69,69,36,63,63,63,70,70,63,70,70,70,35,63,63,63,71,71,63,71,71,71,34,63,63,63,72,72,63,72,72,72,28,63,63,63,73,73,0,0,0,0,63,0,63,73,73,0,28,28,28,63,0,0,0,0,0,0,63,0,63,0,0,0,63,63,0,64,0,28,28,28,28] (cp q5 799 34 (ap [0,5,21,1] ([])))))))))))))))))))))))))))))), [32], [9,184,55,777,38,778,1]⟩ fun m t => by kernel_rfl
noncomputable def jGo (f : Nat → Bool) : Nat → Nat → Nat
  | 0, _ => 0
  | n + 1, k => match f k with
    | true => k
    | false => jGo f n (k + 1)
theorem jGo_is (f : Nat → Bool) : ∀ (n k : Nat), 0 < k → (jGo f n k = 0 ∧ ∀ i, k ≤ i → i < k + n → f i = false) ∨ (k ≤ jGo f n k ∧ jGo f n k < k + n ∧ f (jGo f n k) = true ∧ ∀ i, k ≤ i → i < jGo f n k → f i = false)
  | 0, k, _ => .inl ⟨rfl, fun i h1 h2 => absurd h2 (by lia)⟩
  | n + 1, k, hk => by
    unfold jGo
    cases hf : f k with
    | true => exact .inr ⟨Nat.le_refl _, by show k < _; lia, hf, fun i h1 h2 => absurd h2 (by show ¬ i < k; lia)⟩
    | false =>
      rcases jGo_is f n (k + 1) (by lia) with ⟨h1, h2⟩ | ⟨h1, h2, h3, h4⟩
      · refine .inl ⟨h1, fun i a b => ?_⟩
        rcases Nat.eq_or_lt_of_le a with rfl | q
        · exact hf
        · exact h2 i q (by lia)
      · refine .inr ⟨by show k ≤ jGo f n (k + 1); lia, by show jGo f n (k + 1) < _; lia, h3, fun i a b => ?_⟩
        rcases Nat.eq_or_lt_of_le a with rfl | q
        · exact hf
        · exact h4 i q b
noncomputable def jOut (b : Array UInt8) (vs : Array Value) (lim : Int) : Nat := jGo (fun k => ltB lim (szJ b vs k)) vs.size 1
noncomputable def jE (j : Nat) : Bool := match j with | 0 => false | _ + 1 => true
noncomputable def jSt (m j : Nat) : Int := match j with | 0 => Int.ofNat m + 1 | j + 1 => Int.ofNat (j + 1) + 1
theorem szJ_step (b : Array UInt8) (vs : Array Value) (k : Nat) : szJ b vs k ≤ szJ b vs (k + 1) := by
  show szJ b vs k ≤ szJ b vs k + (((bytesOf (vs.toList.getD k .none)).size : Int) + match k with | 0 => 0 | _ + 1 => (b.size : Int))
  cases k <;> (dsimp only; lia)
theorem szJ_le (b : Array UInt8) (vs : Array Value) : ∀ (d k : Nat), szJ b vs k ≤ szJ b vs (k + d)
  | 0, _ => Int.le_refl _
  | d + 1, k => Int.le_trans (szJ_le b vs d k) (szJ_step b vs (k + d))
theorem szJ_all (b : Array UInt8) (vs : Array Value) (h : vs.size ≤ 4) (h0 : vs.size ≠ 0) : szJ b vs vs.size = (lenJ b vs : Int) := by
  obtain ⟨l⟩ := vs
  match l, h, h0 with
  | [], _, h0 => exact absurd rfl h0
  | [v0], _, _ =>
    show 0 + (((bytesOf v0).size : Int) + 0) = ((b.size * 0 + (bytesOf v0).size : Nat) : Int)
    lia
  | [v0, v1], _, _ =>
    show 0 + (((bytesOf v0).size : Int) + 0) + (((bytesOf v1).size : Int) + (b.size : Int)) = ((b.size * 1 + (bytesOf v0).size + (bytesOf v1).size : Nat) : Int)
    lia
  | [v0, v1, v2], _, _ =>
    show 0 + (((bytesOf v0).size : Int) + 0) + (((bytesOf v1).size : Int) + (b.size : Int)) + (((bytesOf v2).size : Int) + (b.size : Int)) = ((b.size * 2 + (bytesOf v0).size + (bytesOf v1).size + (bytesOf v2).size : Nat) : Int)
    lia
  | [v0, v1, v2, v3], _, _ =>
    show 0 + (((bytesOf v0).size : Int) + 0) + (((bytesOf v1).size : Int) + (b.size : Int)) + (((bytesOf v2).size : Int) + (b.size : Int)) + (((bytesOf v3).size : Int) + (b.size : Int)) = ((b.size * 3 + (bytesOf v0).size + (bytesOf v1).size + (bytesOf v2).size + (bytesOf v3).size : Nat) : Int)
    lia
  | _ :: _ :: _ :: _ :: _ :: l, h, _ =>
    change l.length + 1 + 1 + 1 + 1 + 1 ≤ 4 at h
    lia
noncomputable def okL (vs : Array Value) : Bool := vs.toList.all fun v => Nat.ble (bytesOf v).size 100
theorem okL_at {vs : Array Value} (h : okL vs = true) (k : Nat) : (bytesOf (vs.toList.getD k .none)).size ≤ 100 := by
  rw [List.getD_eq_getElem?_getD]
  cases e : vs.toList[k]? with
  | none => show b0.size ≤ 100; show 0 ≤ 100; lia
  | some v => exact Nat.le_of_ble_eq_true (List.all_eq_true.mp h v (List.mem_of_getElem? e))
theorem szJ_up (b : Array UInt8) (vs : Array Value) (k : Nat) : szJ b vs (k + 1) ≤ szJ b vs k + (((bytesOf (vs.toList.getD k .none)).size : Int) + (b.size : Int)) := by
  cases k with
  | zero =>
    show (0 : Int) + (((bytesOf (vs.toList.getD 0 .none)).size : Int) + 0) ≤ 0 + (((bytesOf (vs.toList.getD 0 .none)).size : Int) + (b.size : Int))
    lia
  | succ k => exact Int.le_refl _
theorem szJ_bound {b : Array UInt8} {vs : Array Value} (h : okL vs = true) (hb : b.size ≤ 3) : ∀ k : Nat, szJ b vs k ≤ 103 * (k : Int)
  | 0 => by show (0 : Int) ≤ 103 * ((0 : Nat) : Int); lia
  | k + 1 => by
    have h1 := szJ_bound h hb k
    have h2 := okL_at h k
    have h3 := szJ_up b vs k
    lia
theorem btJ_size (ys : Array Value) (a : Int) : (btJ ys a).size ≤ 3 := by
  unfold btJ pick3
  cases eqB (drawV ys a 2) 0 with
  | true => show b0.size ≤ 3; decide
  | false =>
    cases eqB (drawV ys a 2) 1 with
    | true => show (b1 : Array UInt8).size ≤ 3; decide
    | false => show (b2 : Array UInt8).size ≤ 3; decide
theorem joinNd_ok {vs ys : Array Value} {a lim : Int} (hT : okT vs = true) (hL : okL vs = true) (hQ : okQ ys a = true) (hl : 0 ≤ lim) : ∀ b ∈ joinNd vs.size (jOut (btJ ys a) vs lim) ys a vs lim, b = true := by
  obtain ⟨t1, t2⟩ := okT_iff.1 hT
  have hb := btJ_size ys a
  have hlen : (lenJ (btJ ys a) vs : Int) ≤ 412 ∧ (vs.size = 0 → lenJ (btJ ys a) vs = 0) := by
    by_cases h0 : vs.size = 0
    · have : lenJ (btJ ys a) vs = 0 := by
        obtain ⟨l⟩ := vs
        match l, h0 with
        | [], _ => show (btJ ys a).size * 0 = 0; lia
      exact ⟨by lia, fun _ => this⟩
    · have e := szJ_all (btJ ys a) vs t1 h0
      have := szJ_bound hL hb vs.size
      exact ⟨by lia, fun h => absurd h h0⟩
  have hsz := joinB_size (btJ ys a) vs
  have many : ∀ n, (∀ i, 1 ≤ i → i < 1 + n → ltB lim (szJ (btJ ys a) vs i) = false) → ∀ b ∈ okJ (btJ ys a) vs lim n, b = true := fun n h b hb => by
    unfold okJ at hb
    obtain ⟨i, hi, rfl⟩ := List.mem_map.mp hb
    have := List.mem_range.mp hi
    rw [h (i + 1) (by lia) (by lia)]; rfl
  have five : ∀ {l : List Bool} {c : Bool}, c = true → (∀ b ∈ l, b = true) → ∀ b ∈ [drawOk ys a, in3 (drawV ys a 2), okT vs && Nat.blt (lenJ (btJ ys a) vs) 100000, rowEq [.bytes (joinB (btJ ys a) vs) 0] [.bytes (joinB (btJ ys a) vs) 0], c, Nat.blt (btJ ys a).size 1000000, Nat.blt (joinB (btJ ys a) vs).size 1000000, szOk vs 0, szOk vs 1, szOk vs 2, szOk vs 3] ++ l, b = true := fun {l c} hc hl => by
    have hs : ∀ k, szOk vs k = true := fun k => Nat.ble_eq_true_of_le (by have := okL_at hL k; lia)
    intro b hb'
    rcases List.mem_append.mp hb' with q | q
    · refine allT_cons (draw_ok hQ (Int.le_refl _) (by lia)) (allT_cons (in3_draw _ _) (allT_cons ?_ (allT_cons ?_ (allT_cons hc (allT_cons ?_ (allT_cons ?_ (allT_cons (hs 0) (allT_cons (hs 1) (allT_cons (hs 2) (allT_cons (hs 3) allT_nil)))))))))) b q
      · rw [hT]; exact Nat.ble_eq_true_of_le (by lia)
      · show ((true && (Builtin.Bytes.order (joinB (btJ ys a) vs).toList (joinB (btJ ys a) vs).toList == .eq)) && true) = true
        rw [order_eq]; simp
      · exact Nat.ble_eq_true_of_le (by lia)
      · exact Nat.ble_eq_true_of_le (by lia)
    · exact hl b q
  rcases jGo_is (fun k => ltB lim (szJ (btJ ys a) vs k)) vs.size 1 (by lia) with ⟨h1, h2⟩ | ⟨h1, h2, h3, h4⟩
  · have h1 : jOut (btJ ys a) vs lim = 0 := h1
    rw [h1]
    refine five (c := !ltB lim (Int.ofNat (joinB (btJ ys a) vs).size)) ?_ (many vs.size h2)
    refine notB ltB_iff' ?_
    show ¬ lim < (((joinB (btJ ys a) vs).size : Nat) : Int)
    rw [hsz]
    by_cases h0 : vs.size = 0
    · rw [hlen.2 h0]; lia
    · have e := szJ_all (btJ ys a) vs t1 h0
      have := h2 vs.size (by lia) (by lia)
      rw [← e]
      intro q
      rw [ltB_iff'.2 q] at this; cases this
  · change 1 ≤ jOut (btJ ys a) vs lim at h1
    change jOut (btJ ys a) vs lim < 1 + vs.size at h2
    change ltB lim (szJ (btJ ys a) vs (jOut (btJ ys a) vs lim)) = true at h3
    change ∀ i, 1 ≤ i → i < jOut (btJ ys a) vs lim → _ at h4
    generalize jOut (btJ ys a) vs lim = j at h1 h2 h3 h4
    match j, h1, h2, h3, h4 with
    | j + 1, _, h2, h3, h4 =>
      refine five (c := ltB lim (Int.ofNat (joinB (btJ ys a) vs).size)) ?_ ?_
      · refine ltB_iff'.2 ?_
        show lim < (((joinB (btJ ys a) vs).size : Nat) : Int)
        rw [hsz, ← szJ_all (btJ ys a) vs t1 (by lia)]
        have h5 := ltB_iff'.1 h3
        have h6 := szJ_le (btJ ys a) vs (vs.size - (j + 1)) (j + 1)
        rw [show j + 1 + (vs.size - (j + 1)) = vs.size by lia] at h6
        lia
      · intro b hb'
        rcases List.mem_append.mp hb' with q | q
        · exact many j (fun i a b => h4 i a (by lia)) b q
        · rw [List.mem_singleton.mp q]; exact h3
noncomputable def jC (j : Nat) (r : Bool) : Bool := match j with | 0 => r | _ + 1 => true
noncomputable def S_joinU (w : World) (x : Vars) (r : Bool) : Spec := { S_joinR w x r (jC (jOut (btJ (x.Q 1) (x.I 0 1)) (x.Q 2) (x.I 6 9)) r) (jE (jOut (btJ (x.Q 1) (x.I 0 1)) (x.Q 2) (x.I 6 9))) (jSt (x.Q 2).size (jOut (btJ (x.Q 1) (x.I 0 1)) (x.Q 2) (x.I 6 9))) [] with need := [okT (x.Q 2),okL (x.Q 2),okQ (x.Q 1) (x.I 0 1),leB 0 (x.I 6 9)] }
theorem join_row (w : World) (x : Vars) (r c e : Bool) (st : Int) {nd : List Bool} (hT : okT (x.Q 2) = true) (h : (S_joinR w ((x.tx 2).row 2 (x.Q 2).size) r c e st nd).Holds (VV w)) : (S_joinR w x r c e st nd).Holds (VV w) := by
  unfold Vars.row at h
  rw [rowV_tx x 2 hT] at h
  exact h
theorem join_m (w : World) (x : Vars) (r : Bool) (m j : Nat) (hm : m ≤ 4) (hj : j ≤ m) : (S_joinR w (x.row 2 m) r (jC j r) (jE j) (jSt m j) (joinNd m j (x.Q 1) (x.I 0 1) (rowV x 2 m) (x.I 6 9))).Holds (VV w) := by
  match m, j, hm, hj with
  | 0,0, _, _ => exact R_joinR00 w x r
  | 1,0, _, _ => exact R_joinR10 w x r
  | 1,1, _, _ => exact R_joinR11 w x r
  | 2,0, _, _ => exact R_joinR20 w x r
  | 2,1, _, _ => exact R_joinR21 w x r
  | 2,2, _, _ => exact R_joinR22 w x r
  | 3,0, _, _ => exact R_joinR30 w x r
  | 3,1, _, _ => exact R_joinR31 w x r
  | 3,2, _, _ => exact R_joinR32 w x r
  | 3,3, _, _ => exact R_joinR33 w x r
  | 4,0, _, _ => exact R_joinR40 w x r
  | 4,1, _, _ => exact R_joinR41 w x r
  | 4,2, _, _ => exact R_joinR42 w x r
  | 4,3, _, _ => exact R_joinR43 w x r
  | 4,4, _, _ => exact R_joinR44 w x r
  | 0, j + 1, _, h => exact absurd h (by lia)
  | 1, j + 2, _, h => exact absurd h (by lia)
  | 2, j + 3, _, h => exact absurd h (by lia)
  | 3, j + 4, _, h => exact absurd h (by lia)
  | 4, j + 5, _, h => exact absurd h (by lia)
  | m + 5, _, h, _ => exact absurd h (by lia)
theorem join_any (w : World) (x : Vars) (r : Bool) : (S_joinU w x r).Holds (VV w) := by
  refine Spec.Holds.more (S := { S_joinR w x r (jC (jOut (btJ (x.Q 1) (x.I 0 1)) (x.Q 2) (x.I 6 9)) r) (jE (jOut (btJ (x.Q 1) (x.I 0 1)) (x.Q 2) (x.I 6 9))) (jSt (x.Q 2).size (jOut (btJ (x.Q 1) (x.I 0 1)) (x.Q 2) (x.I 6 9))) [] with need := [] }) (nd := [okT (x.Q 2), okL (x.Q 2), okQ (x.Q 1) (x.I 0 1), leB 0 (x.I 6 9)]) (fun q => ?_) rfl
  have hT := q _ mcS
  have hL := q _ (mcT mcS)
  have hQ := q _ (mcT (mcT mcS))
  have hl := leB_iff'.1 (q _ (mcT (mcT (mcT mcS))))
  obtain ⟨t1, t2⟩ := okT_iff.1 hT
  have hn := joinNd_ok hT hL hQ hl
  have hj : jOut (btJ (x.Q 1) (x.I 0 1)) (x.Q 2) (x.I 6 9) ≤ (x.Q 2).size := by
    rcases jGo_is (fun k => ltB (x.I 6 9) (szJ (btJ (x.Q 1) (x.I 0 1)) (x.Q 2) k)) (x.Q 2).size 1 (by lia) with ⟨h1, _⟩ | ⟨_, h2, _⟩
    · have h1 : jOut (btJ (x.Q 1) (x.I 0 1)) (x.Q 2) (x.I 6 9) = 0 := h1
      lia
    · have h2 : jOut (btJ (x.Q 1) (x.I 0 1)) (x.Q 2) (x.I 6 9) < 1 + (x.Q 2).size := h2
      lia
  generalize jOut (btJ (x.Q 1) (x.I 0 1)) (x.Q 2) (x.I 6 9) = j at hn hj
  have h := join_m w (x.tx 2) r (x.Q 2).size j t1 hj
  rw [rowV_tx x 2 hT] at h
  have h := join_row w x r (jC j r) (jE j) (jSt (x.Q 2).size j) hT h
  have h := Spec.Holds.less h (by
    intro b hb
    change b ∈ _ ++ [] at hb
    rw [List.append_nil] at hb
    exact hn b hb)
  exact h
noncomputable def S_min2 (x : Int) (t : Nat) (y : Int) (u : Nat) (nd : List Bool) (r : Int) (v : Nat) : Spec := { code := .builtin "min" ⟨[.int x t, .int y u], []⟩, dep := 830, need := nd, pre := [], touch := [], na := 0, nt := 0, res := fun _ _ => .ok (.ret (.int r v)), postT := fun _ _ => [], postN := fun _ _ => [] }
theorem R_minT (w : World) (x : Int) (t : Nat) (y : Int) (u : Nat) : (S_min2 x t y u [ltB y x] y u).Holds (VV w) :=
  sF (F := FK w) (vok _) 200 ⟨[1,1,1,1,2,3,2,2,2,2,1,2,2,3,3,3,3,2,2,2,2,1,2,2,1,0,1,3,3,3,3,2,2,2,2,1,2,2,5,3,3,3], [], []⟩ fun m t => by kernel_rfl
theorem R_minF (w : World) (x : Int) (t : Nat) (y : Int) (u : Nat) : (S_min2 x t y u [!ltB y x] x t).Holds (VV w) :=
  sF (F := FK w) (vok _) 200 ⟨[1,1,1,1,2,3,2,2,2,2,1,2,2,3,3,3,3,2,2,2,2,1,2,2,1,1,1,3,2,2,2,2,1,2,2,5,3,3,3], [], []⟩ fun m t => by kernel_rfl
noncomputable def minI (x y : Int) : Int := match ltB y x with | true => y | false => x
noncomputable def minT (x y : Int) (t u : Nat) : Nat := match ltB y x with | true => u | false => t
theorem min_any (w : World) (x : Int) (t : Nat) (y : Int) (u : Nat) : (S_min2 x t y u [] (minI x y) (minT x y t u)).Holds (VV w) := by
  unfold minI minT
  cases h : ltB y x with
  | true => exact Spec.Holds.less (R_minT w x t y u) (fun b hb => by
      change b ∈ [ltB y x] at hb
      rw [List.mem_singleton.mp hb]; exact h)
  | false => exact Spec.Holds.less (R_minF w x t y u) (fun b hb => by
      change b ∈ [!ltB y x] at hb
      rw [List.mem_singleton.mp hb, h]; rfl)
noncomputable def S_oct (b : Array UInt8) (t : Nat) (i : Int) (u : Nat) : Spec := { code := .builtin "bytes.__getitem__" ⟨[.bytes b t, .int i u], []⟩, dep := 840, need := [leB 0 i && ltB i (Int.ofNat b.size) && Nat.blt b.size 100000], pre := [], touch := [], na := 0, nt := 1, res := fun _ ts => .ok (.ret (.int (Int.ofNat (b.toList.getD i.toNat 0).toNat) (nth ts 0))), postT := fun _ _ => [], postN := fun _ _ => [] }
theorem oct_at {V : Vn} {b : Array UInt8} {t : Nat} {i : Int} {u : Nat} : (S_oct b t i u).Holds V := by
  have pl : plainId "bytes.__getitem__" = true := by decide +kernel
  by_cases hq : (leB 0 i && ltB i (Int.ofNat b.size) && Nat.blt b.size 100000) = true
  · rw [Bool.and_eq_true, Bool.and_eq_true, leB_iff', ltB_iff'] at hq
    obtain ⟨⟨h0, h1⟩, h2⟩ := hq
    have h2 := blt_iff h2
    have h1 : i < (b.size : Int) := h1
    have hlt : i.toNat < b.size := by omega
    have hf : Builtin.Bytes.fitsIndex i = true := by
      simp only [Builtin.Bytes.fitsIndex, Bool.and_eq_true, decide_eq_true_eq]
      omega
    have hx : (seqIndex? i b.size).bind (b[·]?) = some b[i.toNat] := by
      rw [seqIndex_of h0 h1]
      show b[i.toNat]? = _
      exact Array.getElem?_eq_getElem hlt
    refine holds_meets (S := S_oct b t i u) rfl pl FB.entry_bytes_getitem (Gives.meets (gives_bytes_getitem b i t u b[i.toNat] hf hx)) (fun A h g d tk os At => ?_)
    refine ⟨[], [tk], ?_, ends_same rfl rfl rfl rfl rfl, rfl, rfl, rfl⟩
    show Except.ok (Flow.ret (.int _ tk)) = Except.ok (Flow.ret (.int (Int.ofNat (b.toList.getD i.toNat 0).toNat) tk))
    have : b.toList.getD i.toNat 0 = b[i.toNat] := by rw [List.getD_eq_getElem?_getD, Array.getElem?_toList, Array.getElem?_eq_getElem hlt]; rfl
    rw [this]; rfl
  · intro Γ p h' g d t' os hc hh hb hbl At
    exact absurd (At.need _ mcS) hq
section
open AutoSeq1 (wpAny_loadPart')
open MeetsSeq
theorem ne_loop (l b : Addr) (items items2 : Array Value) (n n2 : Nat) (hsz : items.size = items2.size)
    (he : ∀ j (h1 : j < items.size) (h2 : j < items2.size), EqGives items[j] items2[j] true) (k : Nat) :
    ∀ i : Nat, items.size - i = k → Meets (Builtin.«list.__eq__.loop» ⟨[.ref l, .ref b, rawInt i, rawInt 3], []⟩)
      (fun _ R s => s.heap.get? l = some { cls := .type "list", dict := none, data := .seq items n, slots := #[] } ∧ s.heap.get? b = some { cls := .type "list", dict := none, data := .seq items2 n2, slots := #[] } ∧
        R (.ok (.ret (.bool false))) s) := by
  induction k with
  | zero =>
    intro i hk prog w A R s h
    obtain ⟨hp, g, d, tk, os⟩ := s; obtain ⟨hl, hb, h⟩ := h
    wp_walk using wpAny_loadPart' hl, wpAny_loadPart' hb
    have hi1 : items[((i : Nat) : Int).toNat]? = none := by simp; lia
    have hi2 : items2[((i : Nat) : Int).toNat]? = none := by simp; lia
    rw [hi1, hi2]
    wp_walk using wpAny_loadPart' hl, wpAny_loadPart' hb
    show R (.ok (.ret (.bool (items.size != items2.size)))) _
    rw [hsz]
    simpa using h
  | succ k ih =>
    intro i hk prog w A R s h
    obtain ⟨hp, g, d, tk, os⟩ := s; obtain ⟨hl, hb, h⟩ := h
    wp_walk using wpAny_loadPart' hl, wpAny_loadPart' hb
    have hlt : i < items.size := by lia
    have hlt2 : i < items2.size := by lia
    have hi1 : items[((i : Nat) : Int).toNat]? = some items[i] := by simp [hlt]
    have hi2 : items2[((i : Nat) : Int).toNat]? = some items2[i] := by simp [hlt2]
    have hc : ((i : Int) + 1) = ((i + 1 : Nat) : Int) := by push_cast; rfl
    rw [hi1, hi2]
    refine wpAny_bind (he i hlt hlt2 prog w _ _ _ _ ?_)
    wp_walk
    rw [hc]
    exact ⟨plainId_quiet MeetsSeq3.plain_eq_loop _, codeAny_builtin MeetsSeq3.entry_eq_loop (by
      rw [Around.under_plainId MeetsSeq3.plain_eq_loop _]
      exact ih (i + 1) (by lia) prog w A R _ ⟨hl, hb, h⟩)⟩
theorem list_ne (l b : Addr) (items items2 : Array Value) (n n2 : Nat) (hsz : items.size = items2.size)
    (he : ∀ j (h1 : j < items.size) (h2 : j < items2.size), EqGives items[j] items2[j] true) :
    Meets (Builtin.«list.__ne__» ⟨[.ref l, .ref b], []⟩)
      (fun _ R s => s.heap.get? l = some { cls := .type "list", dict := none, data := .seq items n, slots := #[] } ∧ s.heap.get? b = some { cls := .type "list", dict := none, data := .seq items2 n2, slots := #[] } ∧
        R (.ok (.ret (.bool false))) s) := by
  intro prog w A R s h
  obtain ⟨hp, g, d, tk, os⟩ := s; obtain ⟨hl, hb, h⟩ := h
  have f3 := AutoSeq1.sub_list_list
  have hne : ¬ (items.size != items2.size) = true := by simp [hsz]
  wp_walk using wpAny_loadPart' hl, wpAny_loadPart' hb
  exact ⟨plainId_quiet MeetsSeq3.plain_eq_loop _, codeAny_builtin MeetsSeq3.entry_eq_loop (by
    rw [Around.under_plainId MeetsSeq3.plain_eq_loop _]
    exact ne_loop l b items items2 n n2 hsz he _ 0 rfl prog w A R _ ⟨hl, hb, h⟩)⟩
end
noncomputable def S_lne (l l' : Nat) (xs : Array Value) (n : Nat) (ys : Array Value) (m : Nat) : Spec := { code := .builtin "list.__ne__" ⟨[.ref l, .ref l'], []⟩, dep := 870, need := [rowEq xs.toList ys.toList], pre := [(l, oList xs n), (l', oList ys m)], touch := [], na := 0, nt := 0, res := fun _ _ => .ok (.ret (.bool false)), postT := fun _ _ => [], postN := fun _ _ => [] }
theorem lne_at {V : Vn} {l l' : Nat} {xs : Array Value} {n : Nat} {ys : Array Value} {m : Nat} : (S_lne l l' xs n ys m).Holds V := by
  have pl : plainId "list.__ne__" = true := by decide +kernel
  by_cases hk : rowEq xs.toList ys.toList = true
  · have hs : xs.size = ys.size := rowEq_len hk
    refine holds_meets (S := S_lne l l' xs n ys m) rfl pl F.entry_list_ne (list_ne l l' xs ys n m hs (fun j h1 h2 => eqGivesN (rowEq_at hk j h1 h2))) (fun A h' g d t os At => ?_)
    exact ⟨At.mem _ mcS, At.mem _ (mcT mcS), [], [], rfl, ends_same rfl rfl rfl rfl rfl, rfl, rfl, rfl⟩
  · intro Γ p h' g d t os hc hh hb hbl At
    exact absurd (At.need _ mcS) hk
noncomputable def repA (v : Value) (k : Nat) : Array Value := List.foldl (fun x1 x2 => x1 ++ x2) #[] (List.replicate k #[v])
noncomputable def S_lmul (l : Nat) (v : Value) (m : Nat) (n : Int) (u : Nat) : Spec := { code := .builtin "list.__mul__" ⟨[.ref l, .int n u], []⟩, dep := 840, need := [leB 0 n && leB n 1000], pre := [(l, oList #[v] m)], touch := [], na := 1, nt := 0, res := fun as _ => .ok (.ret (.ref (nth as 0))), postT := fun _ _ => [], postN := fun _ _ => [oList (repA v n.toNat) 0], rawQ := [0] }
theorem lmul_at {V : Vn} {l : Nat} {v : Value} {m : Nat} {n : Int} {u : Nat} : (S_lmul l v m n u).Holds V := by
  have pl : plainId "list.__mul__" = true := by decide +kernel
  by_cases hq : (leB 0 n && leB n 1000) = true
  · rw [Bool.and_eq_true, leB_iff', leB_iff'] at hq
    have hf : Builtin.List.listFitsIndex n = true := fitsIndex_of hq.1 (by lia)
    refine holds_meets (S := S_lmul l v m n u) rfl pl F.entry_list_mul (AutoListH.list___mul___list_int_3 l #[v] m n u (by rw [hf]; simp) (by show ¬ 1 * n.toNat > (2 ^ 63 - 1) / 8; lia) (by
      show ¬ decide (1 * n.toNat > sizeLine) = true
      unfold sizeLine
      rw [decide_eq_true_eq]
      lia)) (fun A h g d tk os At => ?_)
    exact ⟨At.mem _ mcS, [h.objs.size], [], rfl, ends_new rfl rfl rfl rfl rfl, rfl, rfl, rfl⟩
  · intro Γ p h' g d t' os hc hh hb hbl At
    exact absurd (At.need _ mcS) hq
theorem repA_list (v : Value) : ∀ k : Nat, (repA v k).toList = List.replicate k v := by
  have go : ∀ (k : Nat) (out : Array Value), (List.foldl (fun x1 x2 => x1 ++ x2) out (List.replicate k #[v])).toList = out.toList ++ List.replicate k v := by
    intro k
    induction k with
    | zero => intro out; simp
    | succ k ih =>
      intro out
      rw [List.replicate_succ, List.foldl_cons, ih, List.replicate_succ]
      simp
  intro k
  have := go k #[]
  simpa [repA] using this
noncomputable def octB (b : Array UInt8) (i : Int) : Int := Int.ofNat (b.toList.getD i.toNat 0).toNat
noncomputable def rowO (b : Array UInt8) : Nat → Nat → Int → Array Value → Array Value
  | 0, _, _, xs => xs
  | k + 1, n, x, xs => rowO b k (snN n) (x + 1) (xs.push (.int (octB b (x - 1)) (fsN n)))
noncomputable def retL (s : Stmt) : Expr := match s with | .Return (some e) _ => e | _ => default
noncomputable abbrev envO (w : World) (F ct : Nat) : Env := envF (o741 w.params) 741 F s48 [(s17, ct)]
noncomputable abbrev es1p (h6 : Int) (t6 : Nat) (x6 : Int) (u6 : Nat) : Array DictEntry := #[en h6 s8 t6 (.int x6 u6)]
noncomputable def S_to (w : World) (F I D acc ct : Nat) (b : Array UInt8) (t : Nat) (es : Array DictEntry) (n : Nat) (x left : Int) (xs : Array Value) (nn : Nat) (nd : List Bool) (nt : Nat) (post : List Nat → List (Option Obj)) : Spec := {
  code := .compLoop (retL (nthS (bodyOf (o741 w.params)) 4)) 0 (.ref I) (.ref acc) (compEnv (retL (nthS (bodyOf (o741 w.params)) 4)) (envO w F ct) D [(s17, ct)])
  dep := 700, need := nd
  pre := [(D, oDict es n), (I, oRI x left 1), (acc, oList xs nn), (ct, oCell (.bytes b t))]
  touch := [0,1,2], na := 0, nt := nt, res := fun _ _ => .ok .next, postT := fun _ ts => post ts, postN := fun _ _ => [], rawP := [2], rawQ := [2] }
noncomputable def toP (h6 : Int) (t6 : Nat) (x6 : Int) (n k : Nat) (x : Int) (b : Array UInt8) (xs : Array Value) (nn : Nat) (ts : List Nat) : List (Option Obj) := [some (oDict (es1p h6 t6 (lastU k x x6) (nth ts 0)) n), none, some (oList (rowO b k (nth ts 1) x xs) (nn + k))]
noncomputable def okO (b : Array UInt8) (x : Int) (k : Nat) : Bool := leB 1 x && (leB (x + Int.ofNat k) (Int.ofNat b.size + 1) && Nat.blt b.size 100000)
noncomputable def F_oct (w : World) (c : Code) : Option (Dp (VV w)) := match c with
  | .builtin id ⟨[.bytes b t, .int i u], []⟩ => match idIs id 32795286342768305172929921614967408523875 with
    | true => some ⟨0, fun _ _ _ => some ⟨_, oct_at (b := b) (t := t) (i := i) (u := u)⟩⟩
    | false => FI w (.builtin id ⟨[.bytes b t, .int i u], []⟩)
  | .builtin id ⟨[.ref l, .int y t], []⟩ => match idIs id 122627580202994350266018413 with
    | true => some (D_pushR (.int y t))
    | false => FI w (.builtin id ⟨[.ref l, .int y t], []⟩)
  | c => FI w c
noncomputable def F_toR (w : World) (F I D acc ct : Nat) (b : Array UInt8) (t k : Nat) (ih : ∀ (h6 : Int) (t6 : Nat) (x6 : Int) (u6 : Nat) (n : Nat) (x left : Int) (xs : Array Value) (nn : Nat), (S_to w F I D acc ct b t (es1p h6 t6 x6 u6) n x left xs nn [rowG k left xs (okO b x k)] 2 (toP h6 t6 x6 n k x b xs nn)).Holds (VV w)) (c : Code) : Option (Dp (VV w)) := match c with
  | .compLoop _ _ _ _ _ => some ⟨4, fun _ os _ => match os with
    | [oD, oI, oA, _] => match oI.data with
      | .fields ws => match seqOf oA with
        | some (xs, nn) => some ⟨_, ih (enAt (dictOf oD) 0).hash (strTok (enAt (dictOf oD) 0).key) (intOf (enAt (dictOf oD) 0).val) (tokOf (enAt (dictOf oD) 0).val) (dictN oD) (intOf (ws.toList.getD 0 .none)) (intOf (ws.toList.getD 1 .none)) xs nn⟩
        | none => none
      | _ => none
    | _ => none⟩
  | c => F_oct w c
theorem to0E (w : World) (F I D acc ct : Nat) (b : Array UInt8) (t : Nat)  (n : Nat) (x left : Int) (xs : Array Value) (nn : Nat) : (S_to w F I D acc ct b t #[] n x left xs nn [!ltB 0 left] 0 (fun _ => [some (oDict #[] n), none, some (oList xs nn)])).Holds (VV w) :=
  sF (F := FI w) (vok _) 400 ⟨[2,2,2,1,1,6], [], []⟩ fun m t => by kernel_rfl
theorem to0T (w : World) (F I D acc ct : Nat) (b : Array UInt8) (t : Nat)  (n k : Nat) (x left : Int) (xs : Array Value) (nn : Nat) (hN : ∀ u, rowG k (left - 1) (xs.push (.int (octB b (x - 1)) u)) (okO b (x + 1) k) = true) (ih : ∀ (w : World) (h6 : Int) (t6 : Nat) (x6 : Int) (u6 : Nat) (n : Nat) (x left : Int) (xs : Array Value) (nn : Nat), (S_to w F I D acc ct b t (es1p h6 t6 x6 u6) n x left xs nn [rowG k left xs (okO b x k)] 2 (toP h6 t6 x6 n k x b xs nn)).Holds (VV w)) : (S_to w F I D acc ct b t #[] n x left xs nn [ltB 0 left, leB 0 (x - 1) && ltB (x - 1) (Int.ofNat b.size) && Nat.blt b.size 100000, Nat.blt xs.size 1000] 4 (fun ts => toP (hashOfZ w.params s8) (nth ts 3) x (n + 1) k (x + 1) b (xs.push (.int (octB b (x - 1)) (nth ts 2))) (nn + 1) ts)).Holds (VV w) :=
  sN (F := F_toR w F I D acc ct b t k (ih w)) (vok _) (⟨[fun ns => rowG k (left - 1) (xs.push (.int (octB b (x - 1)) (nth ns 0))) (okO b (x + 1) k)], fun f hf ns => by rw [List.mem_singleton.mp hf]; exact hN _⟩) 1000 ⟨[2,2,2,0,1,0,1,1,4,1,0,2,3,3,0,3,1,2,3,4,0,5000,1,8], [], [5,6,4,1]⟩ fun m t => by kernel_rfl
theorem to1E (w : World) (F I D acc ct : Nat) (b : Array UInt8) (t : Nat) (h6 : Int) (t6 : Nat) (x6 : Int) (u6 : Nat) (n : Nat) (x left : Int) (xs : Array Value) (nn : Nat) : (S_to w F I D acc ct b t (es1p h6 t6 x6 u6) n x left xs nn [!ltB 0 left] 0 (fun _ => [some (oDict (es1p h6 t6 x6 u6) n), none, some (oList xs nn)])).Holds (VV w) :=
  sF (F := FI w) (vok _) 400 ⟨[2,2,2,1,1,6], [], []⟩ fun m t => by kernel_rfl
theorem to1T (w : World) (F I D acc ct : Nat) (b : Array UInt8) (t : Nat) (h6 : Int) (t6 : Nat) (x6 : Int) (u6 : Nat) (n k : Nat) (x left : Int) (xs : Array Value) (nn : Nat) (hN : ∀ u, rowG k (left - 1) (xs.push (.int (octB b (x - 1)) u)) (okO b (x + 1) k) = true) (ih : ∀ (w : World) (h6 : Int) (t6 : Nat) (x6 : Int) (u6 : Nat) (n : Nat) (x left : Int) (xs : Array Value) (nn : Nat), (S_to w F I D acc ct b t (es1p h6 t6 x6 u6) n x left xs nn [rowG k left xs (okO b x k)] 2 (toP h6 t6 x6 n k x b xs nn)).Holds (VV w)) : (S_to w F I D acc ct b t (es1p h6 t6 x6 u6) n x left xs nn [ltB 0 left, leB 0 (x - 1) && ltB (x - 1) (Int.ofNat b.size) && Nat.blt b.size 100000, Nat.blt xs.size 1000] 3 (fun ts => toP h6 t6 x n k (x + 1) b (xs.push (.int (octB b (x - 1)) (nth ts 2))) (nn + 1) ts)).Holds (VV w) :=
  sN (F := F_toR w F I D acc ct b t k (ih w)) (vok _) (⟨[fun ns => rowG k (left - 1) (xs.push (.int (octB b (x - 1)) (nth ns 0))) (okO b (x + 1) k)], fun f hf ns => by rw [List.mem_singleton.mp hf]; exact hN _⟩) 1000 ⟨[2,2,2,0,1,0,1,1,4,1,0,2,3,3,0,3,1,2,3,4,0,5000,1,8], [], [5,6,4]⟩ fun m t => by kernel_rfl
theorem okO_iff {b : Array UInt8} {x : Int} {k : Nat} : okO b x k = true ↔ 1 ≤ x ∧ x + (k : Int) ≤ (b.size : Int) + 1 ∧ b.size < 100000 := by
  unfold okO
  rw [Bool.and_eq_true, Bool.and_eq_true, leB_iff', leB_iff']
  exact ⟨fun h => ⟨h.1, h.2.1, blt_iff h.2.2⟩, fun h => ⟨h.1, h.2.1, Nat.ble_eq_true_of_le h.2.2⟩⟩
theorem okO_step {b : Array UInt8} {x : Int} {k : Nat} (h : okO b x (k + 1) = true) : okO b (x + 1) k = true := by
  obtain ⟨h1, h2, h3⟩ := okO_iff.1 h
  exact okO_iff.2 ⟨by lia, by lia, h3⟩
theorem to_needs {b : Array UInt8} {x left : Int} {k : Nat} {xs : Array Value} (h : rowG (k + 1) left xs (okO b x (k + 1)) = true) : ∀ c ∈ [ltB 0 left, leB 0 (x - 1) && ltB (x - 1) (Int.ofNat b.size) && Nat.blt b.size 100000, Nat.blt xs.size 1000], c = true := by
  obtain ⟨h1, h2, h3⟩ := rowG_iff.1 h
  obtain ⟨o1, o2, o3⟩ := okO_iff.1 h3
  intro c hc
  simp only [List.mem_cons, List.not_mem_nil, or_false] at hc
  rcases hc with rfl | rfl | rfl
  · exact ltB_iff'.2 (by lia)
  · rw [leB_iff'.2 (show (0 : Int) ≤ x - 1 by lia), ltB_iff'.2 (show x - 1 < Int.ofNat b.size by show x - 1 < (b.size : Int); lia)]
    exact Nat.ble_eq_true_of_le o3
  · exact Nat.ble_eq_true_of_le (show xs.size + 1 ≤ 1000 by lia)
theorem to_hN {b : Array UInt8} {x left : Int} {k : Nat} {xs : Array Value} (h : rowG (k + 1) left xs (okO b x (k + 1)) = true) (u : Nat) : rowG k (left - 1) (xs.push (.int (octB b (x - 1)) u)) (okO b (x + 1) k) = true := by
  obtain ⟨h1, h2, h3⟩ := rowG_iff.1 h
  exact rowG_iff.2 ⟨by lia, by rw [Array.size_push]; lia, okO_step h3⟩
theorem toP_succ (h6 : Int) (t6 : Nat) (x6 : Int) (n k : Nat) (x : Int) (b : Array UInt8) (xs : Array Value) (nn p q u : Nat) : toP h6 t6 x6 n (k + 1) x b xs nn [p, prN u q] = toP h6 t6 x n k (x + 1) b (xs.push (.int (octB b (x - 1)) u)) (nn + 1) [p, q] := by
  have e : rowO b (k + 1) (prN u q) x xs = rowO b k q (x + 1) (xs.push (.int (octB b (x - 1)) u)) := by
    show rowO b k (snN (prN u q)) (x + 1) (xs.push (.int (octB b (x - 1)) (fsN (prN u q)))) = _
    rw [snN_pr, fsN_pr]
  show [some (oDict (es1p h6 t6 (lastU (k + 1) x x6) p) n), none, some (oList (rowO b (k + 1) (prN u q) x xs) (nn + (k + 1)))] = [some (oDict (es1p h6 t6 (lastU k (x + 1) x) p) n), none, some (oList (rowO b k q (x + 1) (xs.push (.int (octB b (x - 1)) u))) (nn + 1 + k))]
  rw [e, lastU_succ, add_one_k]
section
variable (F I D acc ct : Nat) (b : Array UInt8) (t : Nat)
theorem to_later : ∀ (k : Nat) (w : World) (h6 : Int) (t6 : Nat) (x6 : Int) (u6 : Nat) (n : Nat) (x left : Int) (xs : Array Value) (nn : Nat), (S_to w F I D acc ct b t (es1p h6 t6 x6 u6) n x left xs nn [rowG k left xs (okO b x k)] 2 (toP h6 t6 x6 n k x b xs nn)).Holds (VV w)
  | 0, w, h6, t6, x6, u6, n, x, left, xs, nn => Spec.Holds.more (S := S_to w F I D acc ct b t (es1p h6 t6 x6 u6) n x left xs nn [] 2 (toP h6 t6 x6 n 0 x b xs nn)) (fun q => by
    have h := Spec.Holds.less (to1E w F I D acc ct b t h6 t6 x6 u6 n x left xs nn) (rowG_end (q _ mcS))
    exact Spec.Holds.toks h (fun _ => [u6,0]) (fun _ _ _ => ⟨rfl, rfl, rfl, rfl⟩)) rfl
  | k + 1, w, h6, t6, x6, u6, n, x, left, xs, nn => Spec.Holds.more (S := S_to w F I D acc ct b t (es1p h6 t6 x6 u6) n x left xs nn [] 2 (toP h6 t6 x6 n (k + 1) x b xs nn)) (fun q => by
    have q := q _ mcS
    have ih := to_later k
    have h := Spec.Holds.less (to1T w F I D acc ct b t h6 t6 x6 u6 n k x left xs nn (to_hN q) ih) (to_needs q)
    refine Spec.Holds.toks h (fun ts => [nth ts 0, prN (nth ts 2) (nth ts 1)]) (fun as ts hl => ?_)
    obtain ⟨p, q, u, rfl⟩ := len3 hl
    exact ⟨rfl, rfl, toP_succ h6 t6 x6 n k x b xs nn p q u, rfl⟩) rfl
theorem to_first (k : Nat) (w : World) (n : Nat) (x left : Int) (xs : Array Value) (nn : Nat) : (S_to w F I D acc ct b t #[] n x left xs nn [rowG (k + 1) left xs (okO b x (k + 1))] 3 (fun ts => toP (hashOfZ w.params s8) (nth ts 2) x (n + 1) (k + 1) x b xs nn ts)).Holds (VV w) :=
  Spec.Holds.more (S := S_to w F I D acc ct b t #[] n x left xs nn [] 3 (fun ts => toP (hashOfZ w.params s8) (nth ts 2) x (n + 1) (k + 1) x b xs nn ts)) (fun q => by
    have q := q _ mcS
    have ih := to_later F I D acc ct b t k
    have h := Spec.Holds.less (to0T w F I D acc ct b t n k x left xs nn (to_hN q) ih) (to_needs q)
    refine Spec.Holds.toks h (fun ts => [nth ts 0, prN (nth ts 2) (nth ts 1), nth ts 3]) (fun as ts hl => ?_)
    obtain ⟨p, q, u, v, rfl⟩ := len4 hl
    exact ⟨rfl, rfl, toP_succ (hashOfZ w.params s8) v x (n + 1) k x b xs nn p q u, rfl⟩) rfl
end
theorem rowO_all {b : Array UInt8} {c : Int} : ∀ (k n : Nat) (x : Int) (xs : Array Value) (l : List Value), (∀ i, x - 1 ≤ i → i < x - 1 + (k : Int) → octB b i = c) → (∃ ts : List Nat, xs.toList = ts.map fun t => Value.int c t) → ∃ ts : List Nat, (rowO b k n x xs).toList = ts.map (fun t => Value.int c t) ∧ ts.length = xs.size + k
  | 0, _, _, xs, _, _, ⟨ts, e⟩ => ⟨ts, e, by have := congrArg List.length e; rw [List.length_map, Array.length_toList] at this; lia⟩
  | k + 1, n, x, xs, l, h, ⟨ts, e⟩ => by
    obtain ⟨ts', e1, e2⟩ := rowO_all k (snN n) (x + 1) (xs.push (.int (octB b (x - 1)) (fsN n))) l (fun i h1 h2 => h i (by lia) (by lia)) ⟨ts ++ [fsN n], by
      rw [Array.toList_push, e, List.map_append, h (x - 1) (by lia) (by lia)]; rfl⟩
    refine ⟨ts', e1, ?_⟩
    rw [e2, Array.size_push]; lia
theorem same_rows (c : Int) (u : Nat) : ∀ ts : List Nat, rowEq (ts.map fun t => Value.int c t) (List.replicate ts.length (Value.int c u)) = true
  | [] => rfl
  | t :: ts => by
    show ((true && eqB c c) && rowEq (ts.map fun t => Value.int c t) (List.replicate ts.length (Value.int c u))) = true
    rw [eqB_iff'.2 rfl, same_rows c u ts]; rfl
theorem rowO_rep {b : Array UInt8} {c : Int} {k n u : Nat} {x : Int} (h : ∀ i, x - 1 ≤ i → i < x - 1 + (k : Int) → octB b i = c) : rowEq (rowO b k n x #[]).toList (repA (.int c u) k).toList = true := by
  obtain ⟨ts, e1, e2⟩ := rowO_all k n x #[] [] h ⟨[], rfl⟩
  have e2 : ts.length = k := by rw [e2]; show 0 + k = k; lia
  rw [e1, repA_list, ← e2]
  exact same_rows c u ts
theorem octB_rep (c : UInt8) (n : Int) (i : Int) (h0 : 0 ≤ i) (h1 : i < n) : octB (repB #[c] n) i = Int.ofNat c.toNat := by
  have e : (repB #[c] n).toList = List.replicate n.toNat c := by
    unfold repB
    show (List.replicate n.toNat [c]).flatten = _
    generalize n.toNat = k
    induction k with
    | zero => rfl
    | succ k ih => rw [List.replicate_succ, List.flatten_cons, ih, List.replicate_succ]; rfl
  unfold octB
  rw [e, List.getD_eq_getElem?_getD, List.getElem?_replicate, if_pos (by lia)]; rfl
noncomputable def D_to (w : World) (F : Nat) : Dp (VV w) := ⟨4, fun as os alt => match as with
  | [D, I, acc, ct] => match os with
    | [oD, oI, oA, oC] => match oI.data with
      | .fields ws => match seqOf oA with
        | some (xs, nn) => match alt with
          | 0 => some ⟨_, to_first F I D acc ct (bytesOf (valAt oC 0)) (tokOf (valAt oC 0)) ((intOf (ws.toList.getD 1 .none)).toNat - 1) w (dictN oD) (intOf (ws.toList.getD 0 .none)) (intOf (ws.toList.getD 1 .none)) xs nn⟩
          | _ => some ⟨_, to0E w F I D acc ct (bytesOf (valAt oC 0)) (tokOf (valAt oC 0)) (dictN oD) (intOf (ws.toList.getD 0 .none)) (intOf (ws.toList.getD 1 .none)) xs nn⟩
        | none => none
      | _ => none
    | _ => none
  | _ => none⟩
noncomputable def D_lne {V : Vn} : Dp V := ⟨2, fun as os _ => match as with
  | [l, l'] => match os with
    | [o, o'] => match seqOf o with
      | some (xs, n) => match seqOf o' with
        | some (ys, m) => some ⟨S_lne l l' xs n ys m, lne_at⟩
        | none => none
      | none => none
    | _ => none
  | _ => none⟩
noncomputable def D_lmul {V : Vn} (n : Int) (u : Nat) : Dp V := ⟨1, fun as os _ => match as with
  | [l] => match os with
    | [o] => match seqOf o with
      | some (xs, m) => match xs.toList with
        | [v] => some ⟨S_lmul l v m n u, lmul_at⟩
        | _ => none
      | none => none
    | _ => none
  | _ => none⟩
noncomputable def S_pow (a : Int) (t : Nat) (e : Int) (u : Nat) : Spec := { code := .builtin "int.__pow__" ⟨[.int a t, .int e u], []⟩, dep := 840, need := [eqB a 2 && (leB 1 e && leB e 100)], pre := [], touch := [], na := 0, nt := 1, res := fun _ ts => .ok (.ret (.int (a ^ e.toNat) (nth ts 0))), postT := fun _ _ => [], postN := fun _ _ => [] }
theorem pow_at {V : Vn} {a : Int} {t : Nat} {e : Int} {u : Nat} : (S_pow a t e u).Holds V := by
  have pl : plainId "int.__pow__" = true := by decide +kernel
  by_cases hq : (eqB a 2 && (leB 1 e && leB e 100)) = true
  · rw [Bool.and_eq_true, Bool.and_eq_true, eqB_iff', leB_iff', leB_iff'] at hq
    obtain ⟨rfl, h1, h2⟩ := hq
    refine holds_meets (S := S_pow 2 t e u) rfl pl F.entry_int_pow (Gives.meets (AutoIntG2.int___pow___int_int_4 2 t e u (by lia) (by
      rw [beq_iff_eq]; lia) (by decide) (by decide) (by
      have hb : Builtin.Int.intBits 2 = 2 := by decide +kernel
      rw [hb]
      unfold Builtin.Int.intTooBig
      rw [decide_eq_true_eq]
      have : bitsLine ≥ 1000 := by decide +kernel
      lia))) (fun A h g d tk os At => ?_)
    exact ⟨[], [tk], rfl, ends_same rfl rfl rfl rfl rfl, rfl, rfl, rfl⟩
  · intro Γ p h' g d t' os hc hh hb hbl At
    exact absurd (At.need _ mcS) hq
noncomputable def FT (w : World) (c : Code) : Option (Dp (VV w)) := match c with
  | .compLoop _ _ _ _ e => some (D_to w (e.frame.getD 0))
  | .builtin id ⟨[.int x t, .int y u], []⟩ => match idIs id 7301742 with
    | true => some ⟨0, fun _ _ _ => some ⟨_, min_any w x t y u⟩⟩
    | false => match idIs id 116512447577011902704086890 with
      | true => some ⟨0, fun _ _ _ => some ⟨_, pow_at (a := x) (t := t) (e := y) (u := u)⟩⟩
      | false => FI w (.builtin id ⟨[.int x t, .int y u], []⟩)
  | .builtin id ⟨[.ref a, .int y t], []⟩ => match idIs id 128106587276438692081757506308484131437 with
    | true => some (D_gi y t)
    | false => match idIs id 29827134744148027186292746861 with
      | true => some (D_lmul y t)
      | false => FI w (.builtin id ⟨[.ref a, .int y t], []⟩)
  | .builtin id ⟨[.bytes y t], []⟩ => match idIs id 7300717 with
    | true => some ⟨0, fun _ _ _ => some ⟨_, blen_at (b := y) (t := t)⟩⟩
    | false => FI w (.builtin id ⟨[.bytes y t], []⟩)
  | .builtin id ⟨[.ref a], []⟩ => match idIs id 7300717 with
    | true => some D_len
    | false => FI w (.builtin id ⟨[.ref a], []⟩)
  | .builtin id ⟨[.ref a, .ref b], []⟩ => match idIs id 116512336171186236184357485 with
    | true => some D_rleq
    | false => match idIs id 116512115458775698011089517 with
      | true => some D_lne
      | false => FI w (.builtin id ⟨[.ref a, .ref b], []⟩)
  | c => FI w c
section
variable (ys : Array Value) (a : Int)
noncomputable def mnT : Int := drawV ys a 29
noncomputable def fsT : Int := 1 + drawV ys (a + 1) 3
noncomputable def bT : Array UInt8 := repB b3 (mnT ys a)
noncomputable def szT : Int := Int.ofNat (bT ys a).size
noncomputable def laT : Int := minI (maxI (0 - 1 + szT ys a + 1) 0) (szT ys a)
noncomputable def xT : Int := maxI (fsT ys a) 1
noncomputable def lfT : Int := rsz (xT ys a) (laT ys a + 1) 1
noncomputable def nT : Int := maxI 0 (mnT ys a + 1 - fsT ys a)
noncomputable def trT : Int := maxI (pick3 (drawV ys (a + 1 + 1) 2) 3 (2 ^ 40) (2 ^ 70)) 0
noncomputable def toldNd (md : Nat) (st stack lim : Int) : List Bool := [drawOk ys a, drawOk ys (a + 1), drawOk ys (a + 1 + 1), !ltB (fsT ys a) 0,
  match md with | 0 => leB stack (laT ys a - xT ys a) | _ => !leB stack (laT ys a - xT ys a),
  true, !ltB lim (0 * trT ys a), leB 0 (nT ys a) && leB (nT ys a) 1000, true, Nat.blt (bT ys a).size 1000000, (Nat.blt 0 (b3 : Array UInt8).size && Nat.blt (b3 : Array UInt8).size 17) && (leB (-1000) (mnT ys a) && leB (mnT ys a) 1000),
  match md with | 1 => rowG ((lfT ys a).toNat - 1 + 1) (lfT ys a) #[] (okO (bT ys a) (xT ys a) ((lfT ys a).toNat - 1 + 1)) | 2 => !ltB 0 (lfT ys a) | _ => true,
  in3 (drawV ys (a + 1 + 1) 2), !ltB 1000000000 (st + 1), !ltB 1000000000 (st + 1 + 1), match md with | 0 => true | _ => fewI (xT ys a) && fewI (laT ys a + 1) && (eqB 1 1 || eqB 1 (-1))]
noncomputable def toldN (md : Nat) (stack : Int) : List (List Nat → Bool) := [
  match md with
  | 1 => fun ns => rowEq (rowO (bT ys a) ((lfT ys a).toNat - 1 + 1) (ns.getD 0 0) (xT ys a) #[]).toList (repA (.int 120 (ns.getD 1 0)) (nT ys a).toNat).toList
  | 2 => fun ns => rowEq (#[] : Array Value).toList (repA (.int 120 (ns.getD 0 0)) (nT ys a).toNat).toList
  | _ => fun _ => true,
  fun ns => Nat.blt (repA (.int 120 (ns.getD 0 0)) (nT ys a).toNat).size 1000000,
  match md with
  | 0 => fun ns => ltB stack (Int.ofNat (repA (.int 120 (ns.getD 0 0)) (nT ys a).toNat).size)
  | _ => fun ns => !ltB stack (Int.ofNat (repA (.int 120 (ns.getD 0 0)) (nT ys a).toNat).size)]
end
noncomputable def S_toldR (w : World) (x : Vars) (r c : Bool) (nd : List Bool) : Spec := { code := .call (.ref 823) ⟨[(vA x 0),(vA x 2),(vA x 7)],[]⟩,dep := 400,need := nd ++ [],bel := some ([envF (o835 w.params) 835 (aA x 9) s24 [(s10,(aA x 8))]],x.u),pre := [(aA x 0,{ cls := tyL,data := (.seq #[(vA x 1),(.int (x.I 0 1) (x.V 0 1))] (x.N 0)) }),(aA x 1,{ cls := tyL,data := (.seq (x.Q 1) (x.N 1)) }),(aA x 2,(iX 451 (aA x 3))),(aA x 3,{ cls := tyD,data := (.dict #[eX x 3 0 s25 (vA x 4),eX x 3 1 s26 (vB x b5 3 1),eX x 3 2 s27 (vR x 3 2),eX x 3 3 s28 (.int (x.I 3 3) (x.V 3 3)),eX x 3 4 s29 (vI x (0) 3 4),eX x 3 5 s30 (vA x 6),eX x 3 6 s31 (.int (x.I 3 6) (x.V 3 6)),eX x 3 7 s13 (vR x 3 7)] (x.N 3)) }),(aA x 4,(iX 53 (aA x 5))),(aA x 5,{ cls := tyD,data := (.dict #[eX x 5 0 s32 (vI x (80) 5 0),eX x 5 1 s33 (.int (250) 211),eX x 5 2 s34 (.int (60) 212),eX x 5 3 s35 (.int (200) 213),eX x 5 4 s36 (.int (40) 214),eX x 5 5 s30 (.int (200) 215),eX x 5 6 s37 (.int (x.I 5 6) (x.V 5 6)),eX x 5 7 s38 (.int (50) 217),eX x 5 8 s28 (.int (1000000000) 218),eX x 5 9 s17 (.int (x.I 5 9) (x.V 5 9))] (x.N 5)) }),(aA x 6,{ cls := tyL,data := (.seq (x.Q 6) (x.N 6)) }),(aA x 7,(iX 234 (aA x 10))),(aA x 8,{ cls := (.type "cell"),data := (.cell (some (vA x 0))) }),(aA x 9,lfO r x.u (x.E 9) (x.N 9) (aA x 8)),(aA x 10,(oTX x 10 (vI x (-1) 10 0) (vA x 11) (vA x 12) .none)),(aA x 11,{ cls := tyL,data := (.seq #[(vB x b7 11 0),(vB x b8 11 1),(vB x b9 11 2),(vB x b10 11 3),(vB x b11 11 4),(vB x b12 11 5),(vB x b13 11 6),(vB x b14 11 7),(vB x b15 11 8),(vB x b16 11 9),(vB x b17 11 10),(vB x b18 11 11),(vB x b19 11 12),(vB x b20 11 13),(vB x b21 11 14),(vB x b22 11 15),(vB x b23 11 16),(vB x b24 11 17),(vB x b25 11 18),(vB x b26 11 19),(vB x b27 11 20),(vB x b28 11 21)] (x.N 11)) }),(aA x 12,{ cls := tyL,data := (.seq #[(vR x 12 0),(vR x 12 1),(vR x 12 2),(vR x 12 3),(vR x 12 4),(vR x 12 5),(vR x 12 6),(vR x 12 7),(vR x 12 8),(vR x 12 9),(vR x 12 10),(vR x 12 11),(vR x 12 12),(vR x 12 13),(vR x 12 14),(vR x 12 15),(vR x 12 16),(vR x 12 17),(vA x 13),(vR x 12 19),(vA x 7),(vB x b29 12 21)] (x.N 12)) }),(aA x 13,(iX 234 (aA x 14))),(aA x 14,(oTX x 14 (vI x (-40) 14 0) (vA x 15) (vA x 16) .none)),(aA x 15,{ cls := tyL,data := (.seq #[(vB x b37 15 0),(vB x b38 15 1),(vB x b39 15 2),(vB x b40 15 3),(vB x b41 15 4),(vB x b42 15 5),(vB x b43 15 6),(vB x b44 15 7)] (x.N 15)) }),(aA x 16,{ cls := tyL,data := (.seq #[(vR x 16 0),(vR x 16 1),(vA x 19),(vR x 16 3),(vR x 16 4),(vR x 16 5),(vA x 17),(vR x 16 7)] (x.N 16)) }),(aA x 17,(iX 255 (aA x 18))),(aA x 18,{ cls := tyD,data := (.dict #[eX x 18 0 s0 (vI x (-46) 18 0),eX x 18 1 s44 (vB x b43 18 1),eX x 18 2 s45 (.ref 741)] (x.N 18)) }),(aA x 19,(iX 255 (aA x 20))),(aA x 20,{ cls := tyD,data := (.dict #[eX x 20 0 s0 (vI x (-42) 20 0),eX x 20 1 s44 (vB x b39 20 1),eX x 20 2 s45 (.ref 719)] (x.N 20)) })],touch := [0,3,9],na := 1,nt := 5,res := fun as ts => .ok (.ret (.bool true)),postT := fun as ts => [some ({ cls := tyL,data := (.seq #[(vA x 1),(.int (((x.I 0 1 + 1) + 1) + 1) (nth ts 0))] (x.N 0)) }),some ({ cls := tyD,data := (.dict #[eX x 3 0 s25 (vA x 4),eX x 3 1 s26 (vB x b5 3 1),eX x 3 2 s27 (vR x 3 2),eX x 3 3 s28 (.int (x.I 3 3 + 1 + 1) (nth ts 1)),eX x 3 4 s29 (vI x (0) 3 4),eX x 3 5 s30 (.ref (nth as 0)),eX x 3 6 s31 (.int 0 (nth ts 2)),eX x 3 7 s13 (vR x 3 7)] (x.N 3)) }),some (lfO c x.u (x.E 9) (x.N 9) (aA x 8))],postN := fun as ts => [{ cls := tyL,data := (.seq (frA false (nth ts 3)) (nth ts 4)) }],rawP := [1,6,9],rawQ := [2,3] }
theorem R_toldRp (w : World) (x : Vars) (r : Bool) (hN : ∀ f ∈ toldN (x.Q 1) (x.I 0 1) 1 (x.I 5 6), ∀ ns, f ns = true) : (S_toldR w x r r (toldNd (x.Q 1) (x.I 0 1) 1 (x.I 3 3) (x.I 5 6) (x.I 5 9))).Holds (VV w) :=
  sN (F := FT w) (vok _) (⟨toldN (x.Q 1) (x.I 0 1) 1 (x.I 5 6), hN⟩) 8000 ⟨q6, [71], [166,201,256,0,778,2]⟩ fun m t => by kernel_rfl
theorem R_toldRz (w : World) (x : Vars) (r : Bool) (hN : ∀ f ∈ toldN (x.Q 1) (x.I 0 1) 2 (x.I 5 6), ∀ ns, f ns = true) : (S_toldR w x r r (toldNd (x.Q 1) (x.I 0 1) 2 (x.I 3 3) (x.I 5 6) (x.I 5 9))).Holds (VV w) :=
  sN (F := FT w) (vok _) (⟨toldN (x.Q 1) (x.I 0 1) 2 (x.I 5 6), hN⟩) 8000 ⟨cp q6 0 859 (ap [1,12] (cp q6 863 84 (ap [290] (cp q6 948 29 (ap [290] (cp q6 978 11 (ap [1,290] (cp q6 992 707 ([]))))))))), [71], [163,198,253,0,778,2]⟩ fun m t => by kernel_rfl
theorem R_toldRff (w : World) (x : Vars) (hN : ∀ f ∈ toldN (x.Q 1) (x.I 0 1) 0 (x.I 5 6), ∀ ns, f ns = true) : (S_toldR w x false true (toldNd (x.Q 1) (x.I 0 1) 0 (x.I 3 3) (x.I 5 6) (x.I 5 9))).Holds (VV w) :=
  sN (F := FT w) (vok _) (⟨toldN (x.Q 1) (x.I 0 1) 0 (x.I 5 6), hN⟩) 8000 ⟨q7, [80], [185,220,275,0,778,2]⟩ fun m t => by kernel_rfl
theorem R_toldRft (w : World) (x : Vars) (hN : ∀ f ∈ toldN (x.Q 1) (x.I 0 1) 0 (x.I 5 6), ∀ ns, f ns = true) : (S_toldR w x true true (toldNd (x.Q 1) (x.I 0 1) 0 (x.I 3 3) (x.I 5 6) (x.I 5 9))).Holds (VV w) :=
  sN (F := FT w) (vok _) (⟨toldN (x.Q 1) (x.I 0 1) 0 (x.I 5 6), hN⟩) 8000 ⟨cp q7 0 1036 (cp q7 1037 855 ([])), [80], [185,220,275,0,778,2]⟩ fun m t => by kernel_rfl
theorem repB_size (c : UInt8) (n : Int) : (repB #[c] n).size = n.toNat := by
  unfold repB
  show ((List.replicate n.toNat [c]).flatten).length = n.toNat
  generalize n.toNat = k
  induction k with
  | zero => rfl
  | succ k ih => rw [List.replicate_succ, List.flatten_cons, List.length_append, ih]; show 1 + k = k + 1; lia
theorem minI_is (x y : Int) : minI x y = if y < x then y else x := by
  unfold minI
  by_cases h : y < x
  · rw [ltB_iff'.2 h, if_pos h]
  · rw [if_neg h]
    cases e : ltB y x with
    | true => exact absurd (ltB_iff'.1 e) h
    | false => rfl
section
variable (ys : Array Value) (a : Int)
theorem mnT_in : 0 ≤ mnT ys a ∧ mnT ys a ≤ 29 := by
  have := drawV_in ys a 29
  unfold mnT; lia
theorem fsT_in : 1 ≤ fsT ys a ∧ fsT ys a ≤ 4 := by
  have := drawV_in ys (a + 1) 3
  unfold fsT; lia
theorem szT_is : szT ys a = mnT ys a := by
  have h := mnT_in ys a
  show (((repB _ (mnT ys a)).size : Nat) : Int) = mnT ys a
  rw [repB_size]; lia
theorem laT_is : laT ys a = mnT ys a := by
  have h := mnT_in ys a
  unfold laT
  rw [szT_is, maxI_is, minI_is]
  split <;> split <;> lia
theorem xT_is : xT ys a = fsT ys a := by
  have h := fsT_in ys a
  unfold xT
  rw [maxI_is, if_neg (by lia)]
theorem nT_is : nT ys a = if fsT ys a < mnT ys a + 1 then mnT ys a + 1 - fsT ys a else 0 := by
  unfold nT
  rw [maxI_is]
  split <;> split <;> lia
theorem lfT_is : lfT ys a = nT ys a := by
  unfold lfT
  rw [xT_is, laT_is, rsz_up, nT_is]
end
theorem repA_size (v : Value) (k : Nat) : (repA v k).size = k := by
  have := congrArg List.length (repA_list v k)
  rw [List.length_replicate, Array.length_toList] at this
  exact this
section
variable (ys : Array Value) (a : Int)
theorem nT_in : 0 ≤ nT ys a ∧ nT ys a ≤ 29 := by
  have h1 := mnT_in ys a
  have h2 := fsT_in ys a
  rw [nT_is]
  split <;> omega
theorem toldN_ok (md : Nat) (stack : Int) (h0 : md = 0 → stack < nT ys a) (h1 : md ≠ 0 → ¬ stack < nT ys a) (hp : md = 1 → 0 < nT ys a) (hz : md = 2 → nT ys a = 0) : ∀ f ∈ toldN ys a md stack, ∀ ns, f ns = true := by
  have hn := nT_in ys a
  have hm := mnT_in ys a
  have hf := fsT_in ys a
  have size : ∀ t, ((repA (.int 120 t) (nT ys a).toNat).size : Int) = nT ys a := fun t => by rw [repA_size]; lia
  intro f hf' ns
  unfold toldN at hf'
  simp only [List.mem_cons, List.not_mem_nil, or_false] at hf'
  rcases hf' with rfl | rfl | rfl
  · match md, hp, hz with
    | 0, _, _ => rfl
    | 1, hp, _ =>
      have hp := hp rfl
      have e : (lfT ys a).toNat - 1 + 1 = (nT ys a).toNat := by rw [lfT_is]; lia
      show rowEq (rowO (bT ys a) ((lfT ys a).toNat - 1 + 1) (ns.getD 0 0) (xT ys a) #[]).toList (repA (.int 120 (ns.getD 1 0)) (nT ys a).toNat).toList = true
      rw [e]
      refine rowO_rep fun i h1 h2 => ?_
      rw [xT_is] at h1 h2
      have hn2 := nT_is ys a
      exact octB_rep 120 (mnT ys a) i (by lia) (by split at hn2 <;> lia)
    | 2, _, hz =>
      show rowEq [] (repA (.int 120 (ns.getD 0 0)) (nT ys a).toNat).toList = true
      rw [hz rfl, repA_list]; rfl
    | _ + 3, _, _ => rfl
  · exact Nat.ble_eq_true_of_le (by have := size (ns.getD 0 0); lia)
  · match md, h0, h1 with
    | 0, h0, _ => exact ltB_iff'.2 (by have := size (ns.getD 0 0); have := h0 rfl; show stack < (((repA (.int 120 (ns.getD 0 0)) (nT ys a).toNat).size : Nat) : Int); lia)
    | md + 1, _, h1 => exact notB ltB_iff' (by have := size (ns.getD 0 0); have := h1 (by lia); show ¬ stack < (((repA (.int 120 (ns.getD 0 0)) (nT ys a).toNat).size : Nat) : Int); lia)
end
noncomputable def tdB (ys : Array Value) (a stack : Int) : Bool := ltB stack (nT ys a)
theorem toldNd_ok {ys : Array Value} {a st stack lim : Int} (hQ : okQ ys a = true) (h0 : 0 ≤ st) (h1 : st ≤ 1000) (hs : 0 ≤ stack) (hl : 0 ≤ lim) (md : Nat) (g0 : md = 0 → stack < nT ys a) (g1 : md ≠ 0 → ¬ stack < nT ys a) (gp : md = 1 → 0 < nT ys a) (gz : md = 2 → nT ys a = 0) : ∀ b ∈ toldNd ys a md st stack lim, b = true := by
  have hm := mnT_in ys a
  have hf := fsT_in ys a
  have hn := nT_in ys a
  have hn2 := nT_is ys a
  have hla := laT_is ys a
  have hx := xT_is ys a
  have hlf := lfT_is ys a
  have hb : (bT ys a).size = (mnT ys a).toNat := repB_size _ _
  unfold toldNd
  refine allT_cons (draw_ok hQ (Int.le_refl _) (by lia)) (allT_cons (draw_ok hQ (by lia) (by lia)) (allT_cons (draw_ok hQ (by lia) (by lia)) (allT_cons (notB ltB_iff' (by lia)) (allT_cons ?_ (allT_cons rfl (allT_cons ?_ (allT_cons ?_ (allT_cons rfl (allT_cons ?_ (allT_cons ?_ (allT_cons ?_ (allT_cons (in3_draw _ _) (allT_cons (notB ltB_iff' (by lia)) (allT_cons (notB ltB_iff' (by lia)) (allT_cons ?_ allT_nil)))))))))))))))
  · match md, g0, g1 with
    | 0, g0, _ =>
      refine leB_iff'.2 ?_
      have := g0 rfl
      rw [hla, hx]
      split at hn2 <;> lia
    | md + 1, _, g1 =>
      refine notB leB_iff' ?_
      have := g1 (by lia)
      rw [hla, hx]
      split at hn2 <;> lia
  · exact notB ltB_iff' (by rw [Int.zero_mul]; lia)
  · rw [leB_iff'.2 hn.1, leB_iff'.2 (by lia)]; rfl
  · exact Nat.ble_eq_true_of_le (by lia)
  · rw [leB_iff'.2 (by lia), leB_iff'.2 (by lia)]; rfl
  · match md, gp, gz with
    | 1, gp, _ =>
      have := gp rfl
      refine rowG_iff.2 ⟨by lia, by show 0 + _ < 1000; lia, okO_iff.2 ⟨by lia, ?_, by lia⟩⟩
      split at hn2 <;> lia
    | 2, _, gz => exact notB ltB_iff' (by have := gz rfl; lia)
    | 0, _, _ => rfl
    | _ + 3, _, _ => rfl
  · match md with
    | 0 => rfl
    | md + 1 =>
      show ((fewI (xT ys a) && fewI (laT ys a + 1)) && (eqB 1 1 || eqB 1 (-1))) = true
      rw [fewI_iff.2 (by lia), fewI_iff.2 (by lia), eqB_iff'.2 (rfl : (1 : Int) = 1)]; rfl
noncomputable def S_toldU (w : World) (x : Vars) (r : Bool) : Spec := { S_toldR w x r (orB (tdB (x.Q 1) (x.I 0 1) (x.I 5 6)) r) [] with need := [okQ (x.Q 1) (x.I 0 1),leB 0 (x.I 3 3) && leB (x.I 3 3) 1000,leB 0 (x.I 5 6),leB 0 (x.I 5 9)] }
theorem told_any (w : World) (x : Vars) (r : Bool) : (S_toldU w x r).Holds (VV w) := by
  refine Spec.Holds.more (S := { S_toldR w x r (orB (tdB (x.Q 1) (x.I 0 1) (x.I 5 6)) r) [] with need := [] }) (nd := [okQ (x.Q 1) (x.I 0 1), leB 0 (x.I 3 3) && leB (x.I 3 3) 1000, leB 0 (x.I 5 6), leB 0 (x.I 5 9)]) (fun q => ?_) rfl
  have hQ := q _ mcS
  have hst := q _ (mcT mcS)
  have hs := leB_iff'.1 (q _ (mcT (mcT mcS)))
  have hl := leB_iff'.1 (q _ (mcT (mcT (mcT mcS))))
  rw [Bool.and_eq_true, leB_iff', leB_iff'] at hst
  have hn := nT_in (x.Q 1) (x.I 0 1)
  have go : ∀ {c : Bool} {nd : List Bool}, (∀ b ∈ nd, b = true) → (S_toldR w x r c nd).Holds (VV w) → ({ S_toldR w x r c [] with need := [] } : Spec).Holds (VV w) := fun hn h => by
    have h := Spec.Holds.less h (by
      intro b hb
      change b ∈ _ ++ [] at hb
      rw [List.append_nil] at hb
      exact hn b hb)
    exact h
  cases ht : tdB (x.Q 1) (x.I 0 1) (x.I 5 6) with
  | true =>
    have hlt : x.I 5 6 < nT (x.Q 1) (x.I 0 1) := ltB_iff'.1 ht
    have hN := toldN_ok (x.Q 1) (x.I 0 1) 0 (x.I 5 6) (fun _ => hlt) (fun h => absurd rfl h) (fun h => nomatch h) (fun h => nomatch h)
    have hd := toldNd_ok hQ hst.1 hst.2 hs hl 0 (fun _ => hlt) (fun h => absurd rfl h) (fun h => nomatch h) (fun h => nomatch h)
    cases r with
    | false => exact go hd (R_toldRff w x hN)
    | true => exact go hd (R_toldRft w x hN)
  | false =>
    have hnl : ¬ x.I 5 6 < nT (x.Q 1) (x.I 0 1) := fun h => by
      have : tdB (x.Q 1) (x.I 0 1) (x.I 5 6) = true := ltB_iff'.2 h
      rw [ht] at this; cases this
    by_cases hp : 0 < nT (x.Q 1) (x.I 0 1)
    · have hN := toldN_ok (x.Q 1) (x.I 0 1) 1 (x.I 5 6) (fun h => nomatch h) (fun _ => hnl) (fun _ => hp) (fun h => nomatch h)
      have hd := toldNd_ok hQ hst.1 hst.2 hs hl 1 (fun h => nomatch h) (fun _ => hnl) (fun _ => hp) (fun h => nomatch h)
      exact go hd (R_toldRp w x r hN)
    · have hz : nT (x.Q 1) (x.I 0 1) = 0 := by lia
      have hN := toldN_ok (x.Q 1) (x.I 0 1) 2 (x.I 5 6) (fun h => nomatch h) (fun _ => hnl) (fun h => nomatch h) (fun _ => hz)
      have hd := toldNd_ok hQ hst.1 hst.2 hs hl 2 (fun h => nomatch h) (fun _ => hnl) (fun h => nomatch h) (fun _ => hz)
      exact go hd (R_toldRz w x r hN)
noncomputable def FR (w : World) (c : Code) : Option (Dp (VV w)) := match c with
  | .builtin id ⟨[.ref a, .ref b], []⟩ => match idIs id 116512115458775698011089517 with
    | true => some D_lne
    | false => FI w (.builtin id ⟨[.ref a, .ref b], []⟩)
  | c => FI w c
noncomputable def S_prnR (w : World) (x : Vars) (k : Nat) (r : Bool) : Spec := { code := .call (.ref 830) ⟨[(vA x 0),(vA x 2),(vA x 7)],[]⟩,dep := 400,need := [drawOk (x.Q 1) (x.I 0 1),eqB (drawV (x.Q 1) (x.I 0 1) 3) (Int.ofNat k),!ltB 1000000000 ((x.I 3 3) + 1),!ltB 1000000000 (((x.I 3 3) + 1) + 1),!ltB 1000000000 ((((x.I 3 3) + 1) + 1) + 1),!ltB 1000000000 (((((x.I 3 3) + 1) + 1) + 1) + 1)],bel := some ([envF (o835 w.params) 835 (aA x 9) s24 [(s10,(aA x 8))]],x.u),pre := [(aA x 0,{ cls := tyL,data := (.seq #[(vA x 1),(.int (x.I 0 1) (x.V 0 1))] (x.N 0)) }),(aA x 1,{ cls := tyL,data := (.seq (x.Q 1) (x.N 1)) }),(aA x 2,(iX 451 (aA x 3))),(aA x 3,{ cls := tyD,data := (.dict #[eX x 3 0 s25 (vA x 4),eX x 3 1 s26 (vB x b5 3 1),eX x 3 2 s27 (vA x 10),eX x 3 3 s28 (.int (x.I 3 3) (x.V 3 3)),eX x 3 4 s29 (vI x (0) 3 4),eX x 3 5 s30 (vA x 6),eX x 3 6 s31 (.int (x.I 3 6) (x.V 3 6)),eX x 3 7 s13 (vR x 3 7)] (x.N 3)) }),(aA x 4,(iX 53 (aA x 5))),(aA x 5,{ cls := tyD,data := (.dict #[eX x 5 0 s32 (vI x (80) 5 0),eX x 5 1 s33 (.int (250) 211),eX x 5 2 s34 (.int (60) 212),eX x 5 3 s35 (.int (200) 213),eX x 5 4 s36 (.int (40) 214),eX x 5 5 s30 (.int (200) 215),eX x 5 6 s37 (.int (x.I 5 6) (x.V 5 6)),eX x 5 7 s38 (.int (50) 217),eX x 5 8 s28 (.int (1000000000) 218),eX x 5 9 s17 (.int (x.I 5 9) (x.V 5 9))] (x.N 5)) }),(aA x 6,{ cls := tyL,data := (.seq (x.Q 6) (x.N 6)) }),(aA x 7,(iX 234 (aA x 11))),(aA x 8,{ cls := (.type "cell"),data := (.cell (some (vA x 0))) }),(aA x 9,lfO r x.u (x.E 9) (x.N 9) (aA x 8)),(aA x 10,{ cls := tyL,data := (.seq #[] (x.N 10)) }),(aA x 11,(oTX x 11 (vI x (-1) 11 0) (vA x 12) (vA x 13) .none)),(aA x 12,{ cls := tyL,data := (.seq #[(vB x b7 12 0),(vB x b8 12 1),(vB x b9 12 2),(vB x b10 12 3),(vB x b11 12 4),(vB x b12 12 5),(vB x b13 12 6),(vB x b14 12 7),(vB x b15 12 8),(vB x b16 12 9),(vB x b17 12 10),(vB x b18 12 11),(vB x b19 12 12),(vB x b20 12 13),(vB x b21 12 14),(vB x b22 12 15),(vB x b23 12 16),(vB x b24 12 17),(vB x b25 12 18),(vB x b26 12 19),(vB x b27 12 20),(vB x b28 12 21)] (x.N 12)) }),(aA x 13,{ cls := tyL,data := (.seq #[(vA x 16),(vR x 13 1),(vR x 13 2),(vR x 13 3),(vR x 13 4),(vR x 13 5),(vR x 13 6),(vR x 13 7),(vR x 13 8),(vR x 13 9),(vR x 13 10),(vR x 13 11),(vR x 13 12),(vR x 13 13),(vR x 13 14),(vR x 13 15),(vR x 13 16),(vR x 13 17),(vR x 13 18),(vR x 13 19),(vA x 7),(vB x b29 13 21)] (x.N 13)) }),(778,{ cls := .none,data := (.fields #[(.int (585) 0),(.int (4) 0),(vA x 19)]) }),(825,{ cls := .none,data := (.fields #[]) }),(aA x 16,(iX 255 (aA x 17))),(aA x 17,{ cls := tyD,data := (.dict #[eX x 17 0 s0 (vI x (-1) 17 0),eX x 17 1 s44 (vB x b7 17 1),eX x 17 2 s45 (.ref (x.B 18 + 837))] (x.N 17)) }),(x.B 18 + 837,oFunc (defPrint w.params) s49 s50 [(s51,(aA x 20))] (vR x 18 2001) (vA x 19) (.str s52 1295)),(aA x 19,{ cls := (.type "code"),data := (.fields #[(.str s49 (x.V 19 0)),(.str s50 (x.V 19 1)),(.str s53 (x.V 19 2)),(.int (585) 0),(.int (2) 0),(.int (0) 0),(.int (0) 0),(.int (19) 0),(x.Z 19 8),(.bool true),(.int (181) 0),(x.Z 19 11),.none,(x.Z 19 13),(x.Z 19 14),(x.Z 19 15),(.int (x.I 19 16) 0),(.int (585) 0),(.str s53 (x.V 19 18))]) }),(aA x 20,{ cls := (.type "cell"),data := (.cell (some (vA x 7))) })],touch := [0,3,9,10,12,13,15],na := 0,nt := 1,res := fun as ts => .ok (.ret (.bool true)),postT := fun as ts => [none,none,none,none,none,none,some ({ cls := .none,data := (.fields #[(.int (646) 0),(.int (54) 0),(.ref (nth ts 0))]) })],postN := fun as ts => [],rawP := [1,6,9,19],rawQ := [2] }
theorem R_prnR0f (w : World) (x : Vars) : (S_prnR w x 0 false).Holds (VV w) :=
  sF (F := FR w) (vok _) 8000 ⟨q8, [], [777,34]⟩ fun m t => by kernel_rfl
theorem R_prnR0t (w : World) (x : Vars) : (S_prnR w x 0 true).Holds (VV w) :=
  sF (F := FR w) (vok _) 8000 ⟨cp q8 0 2383 (cp q8 2384 137 ([])), [], [777,34]⟩ fun m t => by kernel_rfl
theorem R_prnR1f (w : World) (x : Vars) : (S_prnR w x 1 false).Holds (VV w) :=
  sF (F := FR w) (vok _) 8000 ⟨q9, [], [777,34]⟩ fun m t => by kernel_rfl
theorem R_prnR1t (w : World) (x : Vars) : (S_prnR w x 1 true).Holds (VV w) :=
  sF (F := FR w) (vok _) 8000 ⟨cp q9 0 2631 (cp q9 2632 137 ([])), [], [777,34]⟩ fun m t => by kernel_rfl
theorem R_prnR2f (w : World) (x : Vars) : (S_prnR w x 2 false).Holds (VV w) :=
  sF (F := FR w) (vok _) 8000 ⟨cp q6 0 16 (ap [3] (cp q8 17 795 (ap [26] (cp q9 813 109 (ap [58] (cp q8 488 18 (cp q8 970 11 (cp q9 2415 19 (ap [78,78,0,78,78,0,0] (cp q8 1024 10 (ap [3,0,4,45,45,45,78,0,78,78,78,1,0,0,77] (cp q8 2252 26 (ap [80,0,80,0,0,0,0,0,0,0,81,81,0,81,81,81,81,80,0,0,0,80,0,80,0,80,0,0,0,80,0,80,0,82,82,82,81,80,0,0,0,80,0,80,0,80,0,0,0,80,0,0,82,82,82,81,80,0,0,0,80,0,80,0,80,0,0,0,80,0,0,82,82,82,80,80,0,80,80,0,80,80,77,77,58,58,57,57,48,48,47,47,46,46,40,40,22,22,10,10,80,80,80,84,84,80,84,84,84,58,80,80,80,80,85,85,80,85,80,85,85,80,85,85,85,57,80,80,80,86,86,80,86,86,86,48,80,80,80,87,87,80,87,87,87,47,80,80,80,88,88,80,88,88,88,46,80,80,80,89,89,80,89,89,89,40,80,80,80,90,90,0,0,0,0,80,0,80,90,90,0,40,40,40,80,0,0,0,0,0,0,80,0,80,0,0,0,80,80,0,82,0,40,40,40,40,0,22,22,22,1,0,0,22,1] (cp q6 948 13 (ap [11,91,11,1,11,11,91,0,0] ([])))))))))))))))), [], [777,34]⟩ fun m t => by kernel_rfl
theorem R_prnR2t (w : World) (x : Vars) : (S_prnR w x 2 true).Holds (VV w) :=
  sF (F := FR w) (vok _) 8000 ⟨cp q6 0 16 (ap [3] (cp q8 17 795 (ap [26] (cp q9 813 109 (ap [58] (cp q8 488 18 (cp q8 970 11 (cp q9 2415 19 (ap [78,78,0,78,78,0,0] (cp q8 1024 10 (ap [3,0,4,45,45,45,78,0,78,78,78,1,0,0,77] (cp q8 2252 26 (ap [80,0,80,0,0,0,0,0,0,0,81,81,0,81,81,81,81,80,0,0,0,80,0,80,0,80,0,0,0,80,0,80,0,82,82,82,81,80,0,0,0,80,0,80,0,80,0,0,0,80,0,0,82,82,82,81,80,0,0,0,80,0,80,0,80,0,0,0,80,0,0,82,82,82,80,80,0,80,80,0,80,80,77,77,58,58,57,57,48,48,47,47,46,46,40,40,22,22,10,80,80,80,84,84,80,84,84,84,58,80,80,80,80,85,85,80,85,80,85,85,80,85,85,85,57,80,80,80,86,86,80,86,86,86,48,80,80,80,87,87,80,87,87,87,47,80,80,80,88,88,80,88,88,88,46,80,80,80,89,89,80,89,89,89,40,80,80,80,90,90,0,0,0,0,80,0,80,90,90,0,40,40,40,80,0,0,0,0,0,0,80,0,80,0,0,0,80,80,0,82,0,40,40,40,40,0,22,22,22,1,0,0,22,1] (cp q6 948 13 (ap [11,91,11,1,11,11,91,0,0] ([])))))))))))))))), [], [777,34]⟩ fun m t => by kernel_rfl
theorem R_prnR3f (w : World) (x : Vars) : (S_prnR w x 3 false).Holds (VV w) :=
  sF (F := FR w) (vok _) 8000 ⟨cp q6 0 16 (ap [4] (cp q8 17 795 (ap [27] (cp q8 813 70 (ap [1,0,0,58] (cp q8 488 18 (cp q6 1239 11 (cp q9 2415 19 (ap [76,76,0,76,76,0] (cp q7 1341 11 (ap [3,0,4,45,45,45,76,0,76,76,76,1,0] (cp q7 1655 9 (cp q8 2252 19 (ap [78,0,78,0,0,0] (cp q8 1042 9 (ap [79,79] (cp q6 1345 14 (ap [78,0,80,80,80,79] (cp q6 1345 15 (ap [80,80,80,79] (cp q6 1345 15 (ap [80,80,80,78,78,0,78,78,0,78,78,75,75,58,58,57,57,48,48,47,47,46,46,40,40,22,22,10,10,78,78,78,82,82,78,82,82,82,58,78,78,78,78,83,83,78,83,78,83,83,78,83,83,83,57,78,78,78,84,84,78,84,84,84,48,78,78,78,85,85,78,85,85,85,47,78,78,78,86,86,78,86,86,86,46,78,78,78,87,87,78,87,87,87,40,78,78,78,88,88,0,0,0,0,78,0,78,88,88,0,40,40,40,78,0,0,0,0,0,0,78,0,78,0,0,0,78,78,0,80,0,40,40,40,40,0,22,22,22,1,0,0,22,1] (cp q6 948 13 (ap [11,89,11,1,11,11,89,0,0] ([]))))))))))))))))))))))))), [], [777,34]⟩ fun m t => by kernel_rfl
theorem R_prnR3t (w : World) (x : Vars) : (S_prnR w x 3 true).Holds (VV w) :=
  sF (F := FR w) (vok _) 8000 ⟨cp q6 0 16 (ap [4] (cp q8 17 795 (ap [27] (cp q8 813 70 (ap [1,0,0,58] (cp q8 488 18 (cp q6 1239 11 (cp q9 2415 19 (ap [76,76,0,76,76,0] (cp q7 1341 11 (ap [3,0,4,45,45,45,76,0,76,76,76,1,0] (cp q7 1655 9 (cp q8 2252 19 (ap [78,0,78,0,0,0] (cp q8 1042 9 (ap [79,79] (cp q6 1345 14 (ap [78,0,80,80,80,79] (cp q6 1345 15 (ap [80,80,80,79] (cp q6 1345 15 (ap [80,80,80,78,78,0,78,78,0,78,78,75,75,58,58,57,57,48,48,47,47,46,46,40,40,22,22,10,78,78,78,82,82,78,82,82,82,58,78,78,78,78,83,83,78,83,78,83,83,78,83,83,83,57,78,78,78,84,84,78,84,84,84,48,78,78,78,85,85,78,85,85,85,47,78,78,78,86,86,78,86,86,86,46,78,78,78,87,87,78,87,87,87,40,78,78,78,88,88,0,0,0,0,78,0,78,88,88,0,40,40,40,78,0,0,0,0,0,0,78,0,78,0,0,0,78,78,0,80,0,40,40,40,40,0,22,22,22,1,0,0,22,1] (cp q6 948 13 (ap [11,89,11,1,11,11,89,0,0] ([]))))))))))))))))))))))))), [], [777,34]⟩ fun m t => by kernel_rfl
noncomputable def S_prnU (w : World) (x : Vars) (r : Bool) : Spec := { S_prnR w x 0 r with need := [okQ (x.Q 1) (x.I 0 1),leB 0 (x.I 3 3) && leB (x.I 3 3) 1000] }
theorem prn_k (w : World) (x : Vars) (r : Bool) : ∀ k, k < 4 → (S_prnR w x k r).Holds (VV w)
  | 0, _ => match r with | false => R_prnR0f w x | true => R_prnR0t w x
  | 1, _ => match r with | false => R_prnR1f w x | true => R_prnR1t w x
  | 2, _ => match r with | false => R_prnR2f w x | true => R_prnR2t w x
  | 3, _ => match r with | false => R_prnR3f w x | true => R_prnR3t w x
  | k + 4, h => absurd h (by lia)
theorem prn_any (w : World) (x : Vars) (r : Bool) : (S_prnU w x r).Holds (VV w) := by
  refine Spec.Holds.more (S := { S_prnR w x 0 r with need := [] }) (nd := [okQ (x.Q 1) (x.I 0 1), leB 0 (x.I 3 3) && leB (x.I 3 3) 1000]) (fun q => ?_) rfl
  have hQ := q _ mcS
  have hst := q _ (mcT mcS)
  rw [Bool.and_eq_true, leB_iff', leB_iff'] at hst
  have hd := drawV_in (x.Q 1) (x.I 0 1) 3
  have h := Spec.Holds.less (prn_k w x r (drawV (x.Q 1) (x.I 0 1) 3).toNat (by lia)) (allT_cons (draw_ok hQ (Int.le_refl _) (by lia)) (allT_cons (eqB_iff'.2 (by show drawV (x.Q 1) (x.I 0 1) 3 = ((drawV (x.Q 1) (x.I 0 1) 3).toNat : Int); lia)) (allT_cons (notB ltB_iff' (by lia)) (allT_cons (notB ltB_iff' (by lia)) (allT_cons (notB ltB_iff' (by lia)) (allT_cons (notB ltB_iff' (by lia)) allT_nil))))))
  exact h
noncomputable def asgL (s : Stmt) : Expr := match s with | .Assign _ e _ => e | _ => default
noncomputable abbrev envL (w : World) (F ct : Nat) : Env := envF (o835 w.params) 835 F s24 [(s10, ct)]
noncomputable def txR (ys : Array Value) : Nat → Nat → Int → Array Value → Array Value
  | 0, _, _, xs => xs
  | k + 1, n, a, xs => txR ys k (snN n) (a + 1) (xs.push (.bytes (repB b4 (1 + drawV ys a 3)) (fsN n)))
noncomputable def nmT (ys : Array Value) (a : Int) : Bool := (Nat.blt 0 (b4 : Array UInt8).size && Nat.blt (b4 : Array UInt8).size 17) && (leB (-1000) (1 + drawV ys a 3) && leB (1 + drawV ys a 3) 1000)
noncomputable def ndT (ys : Array Value) : Nat → Int → Int → List Bool
  | 0, _, left => [!ltB 0 left]
  | k + 1, a, left => ltB 0 left :: drawOk ys a :: nmT ys a :: ndT ys k (a + 1) (left - 1)
noncomputable def S_tx (w : World) (F I D acc ct tr ls : Nat) (ys : Array Value) (nl : Nat) (a : Int) (ta nb n : Nat) (x left : Int) (nn : Nat) (nd : List Bool) (nt : Nat) (post : List Nat → List (Option Obj)) : Spec := {
  code := .compLoop (asgL (nthS (bodyOf (o835 w.params)) 1)) 0 (.ref I) (.ref acc) (compEnv (asgL (nthS (bodyOf (o835 w.params)) 1)) (envL w F ct) D [(s10, ct)])
  dep := 700, need := nd
  pre := [(D, oDict #[] n), (I, oRI x left 1), (acc, oList #[] nn), (ct, oCell (.ref tr)), (tr, oList #[.ref ls, .int a ta] nb), (ls, oList ys nl)]
  touch := [0,1,2,4], na := 0, nt := nt, res := fun _ _ => .ok .next, postT := fun _ ts => post ts, postN := fun _ _ => [], rawP := [5], rawQ := [2] }
noncomputable def txP (D : Obj) (ls : Nat) (nb nn : Nat) (xs : Array Value) (k : Nat) (a : Int) (t : Nat) : List (Option Obj) := [some D, none, some (oList xs (nn + k)), some (oList #[.ref ls, .int a t] nb)]
noncomputable def oTurn (w : World) (n kt : Nat) (x : Int) (vt : Nat) : Obj := oDict #[en (hashOfZ w.params s54) s54 kt (.int x vt)] (n + 1)
theorem R_tx0 (w : World) (F I D acc ct tr ls : Nat) (ys : Array Value) (nl : Nat) (a : Int) (ta nb n : Nat) (x left : Int) (nn : Nat) : (S_tx w F I D acc ct tr ls ys nl a ta nb n x left nn (ndT ys 0 a left) 0 (fun ts => txP (oDict #[] n) ls nb nn #[] 0 a ta)).Holds (VV w) :=
  sF (F := FI w) (vok _) 4000 ⟨[2,2,2,1,1,8], [], []⟩ fun m t => by kernel_rfl
theorem R_tx1 (w : World) (F I D acc ct tr ls : Nat) (ys : Array Value) (nl : Nat) (a : Int) (ta nb n : Nat) (x left : Int) (nn : Nat) : (S_tx w F I D acc ct tr ls ys nl a ta nb n x left nn (ndT ys 1 a left) 4 (fun ts => txP (oTurn w n (nth ts 1) (x) (nth ts 2)) ls nb nn #[(.bytes (repB b4 (1 + drawV ys a 3)) (nth ts 3))] 1 (a + 1) (nth ts 0))).Holds (VV w) :=
  sF (F := FI w) (vok _) 4000 ⟨[2,2,2,0,1,0,1,1,0,4,0,5,6,0,2,0,3,3,3,3,3,2,2,2,1,4,8], [], [6,1,0,8]⟩ fun m t => by kernel_rfl
theorem R_tx2 (w : World) (F I D acc ct tr ls : Nat) (ys : Array Value) (nl : Nat) (a : Int) (ta nb n : Nat) (x left : Int) (nn : Nat) : (S_tx w F I D acc ct tr ls ys nl a ta nb n x left nn (ndT ys 2 a left) 5 (fun ts => txP (oTurn w n (nth ts 1) (x + 1) (nth ts 2)) ls nb nn #[(.bytes (repB b4 (1 + drawV ys a 3)) (nth ts 3)), (.bytes (repB b4 (1 + drawV ys (a + 1) 3)) (nth ts 4))] 2 (a + 1 + 1) (nth ts 0))).Holds (VV w) :=
  sF (F := FI w) (vok _) 4000 ⟨[2,2,2,0,1,0,1,1,0,4,0,5,6,0,2,0,3,3,3,3,3,2,2,2,0,4,0,1,1,0,4,0,5,6,0,5,0,6,3,3,3,3,2,2,2,1,7,8], [], [15,1,9,8,17]⟩ fun m t => by kernel_rfl
theorem R_tx3 (w : World) (F I D acc ct tr ls : Nat) (ys : Array Value) (nl : Nat) (a : Int) (ta nb n : Nat) (x left : Int) (nn : Nat) : (S_tx w F I D acc ct tr ls ys nl a ta nb n x left nn (ndT ys 3 a left) 6 (fun ts => txP (oTurn w n (nth ts 1) (x + 1 + 1) (nth ts 2)) ls nb nn #[(.bytes (repB b4 (1 + drawV ys a 3)) (nth ts 3)), (.bytes (repB b4 (1 + drawV ys (a + 1) 3)) (nth ts 4)), (.bytes (repB b4 (1 + drawV ys ((a + 1) + 1) 3)) (nth ts 5))] 3 (a + 1 + 1 + 1) (nth ts 0))).Holds (VV w) :=
  sF (F := FI w) (vok _) 4000 ⟨q10, [], [24,1,18,8,17,26]⟩ fun m t => by kernel_rfl
theorem R_tx4 (w : World) (F I D acc ct tr ls : Nat) (ys : Array Value) (nl : Nat) (a : Int) (ta nb n : Nat) (x left : Int) (nn : Nat) : (S_tx w F I D acc ct tr ls ys nl a ta nb n x left nn (ndT ys 4 a left) 7 (fun ts => txP (oTurn w n (nth ts 1) (x + 1 + 1 + 1) (nth ts 2)) ls nb nn #[(.bytes (repB b4 (1 + drawV ys a 3)) (nth ts 3)), (.bytes (repB b4 (1 + drawV ys (a + 1) 3)) (nth ts 4)), (.bytes (repB b4 (1 + drawV ys ((a + 1) + 1) 3)) (nth ts 5)), (.bytes (repB b4 (1 + drawV ys (((a + 1) + 1) + 1) 3)) (nth ts 6))] 4 (a + 1 + 1 + 1 + 1) (nth ts 0))).Holds (VV w) :=
  sF (F := FI w) (vok _) 4000 ⟨cp q10 0 66 (ap [0,10] (cp q10 5 9 (ap [11,0,12,3,3,3,3,2,2,2,1,13,8] ([])))), [], [33,1,27,8,17,26,35]⟩ fun m t => by kernel_rfl
theorem txR_cons (ys : Array Value) (k t q : Nat) (a : Int) (xs : Array Value) : txR ys (k + 1) (prN t q) a xs = txR ys k q (a + 1) (xs.push (.bytes (repB b4 (1 + drawV ys a 3)) t)) := by
  show txR ys k (snN (prN t q)) (a + 1) (xs.push (.bytes (repB b4 (1 + drawV ys a 3)) (fsN (prN t q)))) = _
  rw [snN_pr, fsN_pr]
theorem ndT_ok {ys : Array Value} : ∀ (k : Nat) (a left : Int), left = (k : Int) → (∀ b, a ≤ b → b < a + (k : Int) → drawOk ys b = true) → ∀ b ∈ ndT ys k a left, b = true
  | 0, _, _, h, _ => allT_cons (notB ltB_iff' (by lia)) allT_nil
  | k + 1, a, left, h, hd => by
    have hv := drawV_in ys a 3
    refine allT_cons (ltB_iff'.2 (by lia)) (allT_cons (hd a (by lia) (by lia)) (allT_cons ?_ (ndT_ok k (a + 1) (left - 1) (by lia) fun b h1 h2 => hd b (by lia) (by lia))))
    unfold nmT
    rw [leB_iff'.2 (by lia), leB_iff'.2 (by lia)]; rfl
noncomputable def S_txZ (w : World) (F I D acc ct tr ls : Nat) (ys : Array Value) (nl : Nat) (a : Int) (ta nb n : Nat) (x left : Int) (nn : Nat) : Spec := S_tx w F I D acc ct tr ls ys nl a ta nb n x left nn [leB 0 left && leB left 4, !ltB 0 left] 2 (fun ts => txP (oDict #[] n) ls nb nn (txR ys left.toNat (nth ts 1) a #[]) left.toNat (a + left) (nth ts 0))
theorem txZ_any (w : World) (F I D acc ct tr ls : Nat) (ys : Array Value) (nl : Nat) (a : Int) (ta nb n : Nat) (x left : Int) (nn : Nat) : (S_txZ w F I D acc ct tr ls ys nl a ta nb n x left nn).Holds (VV w) :=
  Spec.Holds.more (S := S_tx w F I D acc ct tr ls ys nl a ta nb n x left nn [] 2 (fun ts => txP (oDict #[] n) ls nb nn (txR ys left.toNat (nth ts 1) a #[]) left.toNat (a + left) (nth ts 0))) (fun q => by
    have hl := q _ mcS
    have hz := q _ (mcT mcS)
    rw [Bool.and_eq_true, leB_iff', leB_iff'] at hl
    have e : left = 0 := by
      rcases Int.lt_or_le 0 left with h | h
      · rw [ltB_iff'.2 h] at hz; cases hz
      · lia
    rw [show left.toNat = 0 by lia, show a + left = a by lia]
    exact Spec.Holds.toks (Spec.Holds.less (R_tx0 w F I D acc ct tr ls ys nl a ta nb n x left nn) (ndT_ok (ys := ys) 0 a left (by lia) fun b h1 h2 => absurd h1 (by lia))) (fun _ => [ta, 0]) (fun _ _ _ => ⟨rfl, rfl, rfl, rfl⟩)) rfl
noncomputable def S_txU (w : World) (F I D acc ct tr ls : Nat) (ys : Array Value) (nl : Nat) (a : Int) (ta nb n : Nat) (x left : Int) (nn : Nat) : Spec := S_tx w F I D acc ct tr ls ys nl a ta nb n x left nn [leB 0 left && leB left 4, ltB 0 left, okQ ys a] 4 (fun ts => txP (oTurn w n (nth ts 2) (x + (left - 1)) (nth ts 3)) ls nb nn (txR ys left.toNat (nth ts 1) a #[]) left.toNat (a + left) (nth ts 0))
theorem tx_any (w : World) (F I D acc ct tr ls : Nat) (ys : Array Value) (nl : Nat) (a : Int) (ta nb n : Nat) (x left : Int) (nn : Nat) : (S_txU w F I D acc ct tr ls ys nl a ta nb n x left nn).Holds (VV w) :=
  Spec.Holds.more (S := S_tx w F I D acc ct tr ls ys nl a ta nb n x left nn [] 4 (fun ts => txP (oTurn w n (nth ts 2) (x + (left - 1)) (nth ts 3)) ls nb nn (txR ys left.toNat (nth ts 1) a #[]) left.toNat (a + left) (nth ts 0))) (fun q => by
    have hl := q _ mcS
    have hz := ltB_iff'.1 (q _ (mcT mcS))
    have hQ := q _ (mcT (mcT mcS))
    rw [Bool.and_eq_true, leB_iff', leB_iff'] at hl
    have nd : ∀ k : Nat, left = (k : Int) → ∀ b ∈ ndT ys k a left, b = true := fun k hk => ndT_ok k a left hk fun b h1 h2 => draw_ok hQ h1 (by lia)
    have hk : left.toNat = 1 ∨ left.toNat = 2 ∨ left.toNat = 3 ∨ left.toNat = 4 := by lia
    rcases hk with e | e | e | e
    · rw [e, show a + left = a + 1 by lia, show x + (left - 1) = x by lia]
      refine Spec.Holds.toks (Spec.Holds.less (R_tx1 w F I D acc ct tr ls ys nl a ta nb n x left nn) (nd 1 (by lia))) (fun ts => [nth ts 0, (prN (nth ts 3) 0), nth ts 1, nth ts 2]) (fun _ ts _ => ⟨rfl, rfl, ?_, rfl⟩)
      show txP (oTurn w n (nth ts 1) (x) (nth ts 2)) ls nb nn (txR ys (0 + 1) (prN (nth ts 3) 0) a #[]) 1 (a + 1) (nth ts 0) = _
      rw [txR_cons]; rfl
    · rw [e, show a + left = a + 1 + 1 by lia, show x + (left - 1) = x + 1 by lia]
      refine Spec.Holds.toks (Spec.Holds.less (R_tx2 w F I D acc ct tr ls ys nl a ta nb n x left nn) (nd 2 (by lia))) (fun ts => [nth ts 0, (prN (nth ts 3) (prN (nth ts 4) 0)), nth ts 1, nth ts 2]) (fun _ ts _ => ⟨rfl, rfl, ?_, rfl⟩)
      show txP (oTurn w n (nth ts 1) (x + 1) (nth ts 2)) ls nb nn (txR ys (0 + 1 + 1) (prN (nth ts 3) (prN (nth ts 4) 0)) a #[]) 2 (a + 1 + 1) (nth ts 0) = _
      rw [txR_cons, txR_cons]; rfl
    · rw [e, show a + left = a + 1 + 1 + 1 by lia, show x + (left - 1) = x + 1 + 1 by lia]
      refine Spec.Holds.toks (Spec.Holds.less (R_tx3 w F I D acc ct tr ls ys nl a ta nb n x left nn) (nd 3 (by lia))) (fun ts => [nth ts 0, (prN (nth ts 3) (prN (nth ts 4) (prN (nth ts 5) 0))), nth ts 1, nth ts 2]) (fun _ ts _ => ⟨rfl, rfl, ?_, rfl⟩)
      show txP (oTurn w n (nth ts 1) (x + 1 + 1) (nth ts 2)) ls nb nn (txR ys (0 + 1 + 1 + 1) (prN (nth ts 3) (prN (nth ts 4) (prN (nth ts 5) 0))) a #[]) 3 (a + 1 + 1 + 1) (nth ts 0) = _
      rw [txR_cons, txR_cons, txR_cons]; rfl
    · rw [e, show a + left = a + 1 + 1 + 1 + 1 by lia, show x + (left - 1) = x + 1 + 1 + 1 by lia]
      refine Spec.Holds.toks (Spec.Holds.less (R_tx4 w F I D acc ct tr ls ys nl a ta nb n x left nn) (nd 4 (by lia))) (fun ts => [nth ts 0, (prN (nth ts 3) (prN (nth ts 4) (prN (nth ts 5) (prN (nth ts 6) 0)))), nth ts 1, nth ts 2]) (fun _ ts _ => ⟨rfl, rfl, ?_, rfl⟩)
      show txP (oTurn w n (nth ts 1) (x + 1 + 1 + 1) (nth ts 2)) ls nb nn (txR ys (0 + 1 + 1 + 1 + 1) (prN (nth ts 3) (prN (nth ts 4) (prN (nth ts 5) (prN (nth ts 6) 0)))) a #[]) 4 (a + 1 + 1 + 1 + 1) (nth ts 0) = _
      rw [txR_cons, txR_cons, txR_cons, txR_cons]; rfl) rfl
noncomputable def sameB : List Value → List Value → Bool
  | v :: l, v' :: l' => ((isBy v && isBy v') && (bytesOf v == bytesOf v')) && sameB l l'
  | [], [] => true
  | _, _ => false
theorem sameB_at : ∀ {l l' : List Value}, sameB l l' = true → l.length = l'.length ∧ ∀ k, bytesOf (l.getD k .none) = bytesOf (l'.getD k .none)
  | [], [], _ => ⟨rfl, fun _ => rfl⟩
  | [], _ :: _, h => nomatch h
  | _ :: _, [], h => nomatch h
  | v :: l, v' :: l', h => by
    unfold sameB at h
    simp only [Bool.and_eq_true] at h
    obtain ⟨e, f⟩ := sameB_at h.2
    refine ⟨by rw [List.length_cons, List.length_cons, e], fun k => ?_⟩
    cases k with
    | zero => exact eq_of_beq h.1.2
    | succ k => exact f k
theorem sameB_by : ∀ {l l' : List Value}, sameB l l' = true → ∀ v ∈ l, isBy v = true
  | [], _, _ => fun _ h => (nomatch h)
  | _ :: _, [], h => nomatch h
  | v :: l, v' :: l', h => by
    unfold sameB at h
    simp only [Bool.and_eq_true] at h
    exact List.forall_mem_cons.2 ⟨h.1.1.1, sameB_by h.2⟩
theorem sameB_of : ∀ {l l' : List Value}, sameB l l' = true → ∀ v ∈ l, ∃ k, v = l.getD k .none
  | _, _, _ => fun v hv => by
    obtain ⟨k, e⟩ := List.mem_iff_getElem?.1 hv
    exact ⟨k, by rw [List.getD_eq_getElem?_getD, e]; rfl⟩
theorem okT_same {xs ys : Array Value} (h : sameB xs.toList ys.toList = true) (k : okT ys = true) : okT xs = true := by
  obtain ⟨t1, _⟩ := okT_iff.1 k
  obtain ⟨e, _⟩ := sameB_at h
  rw [Array.length_toList, Array.length_toList] at e
  exact okT_iff.2 ⟨by lia, fun v hv => sameB_by h v hv⟩
theorem okL_same {xs ys : Array Value} (h : sameB xs.toList ys.toList = true) (k : okL ys = true) : okL xs = true := by
  unfold okL
  refine List.all_eq_true.mpr fun v hv => ?_
  obtain ⟨j, e⟩ := sameB_of h v hv
  rw [e, (sameB_at h).2 j]
  exact Nat.ble_eq_true_of_le (okL_at k j)
theorem szJ_same {b : Array UInt8} {xs ys : Array Value} (h : sameB xs.toList ys.toList = true) : ∀ k, szJ b xs k = szJ b ys k
  | 0 => rfl
  | k + 1 => by
    show szJ b xs k + _ = szJ b ys k + _
    rw [szJ_same h k, (sameB_at h).2 k]
theorem size_same {xs ys : Array Value} (h : sameB xs.toList ys.toList = true) : xs.size = ys.size := by
  have := (sameB_at h).1
  rw [Array.length_toList, Array.length_toList] at this
  exact this
theorem jOut_same {b : Array UInt8} {xs ys : Array Value} {lim : Int} (h : sameB xs.toList ys.toList = true) : jOut b xs lim = jOut b ys lim := by
  unfold jOut
  rw [size_same h, show (fun k => ltB lim (szJ b xs k)) = (fun k => ltB lim (szJ b ys k)) from funext fun k => by rw [szJ_same h]]
theorem sameB_push : ∀ {l l' : List Value} {v v' : Value}, sameB l l' = true → ((isBy v && isBy v') && (bytesOf v == bytesOf v')) = true → sameB (l ++ [v]) (l' ++ [v']) = true
  | [], [], v, v', _, hv => by
    show (((isBy v && isBy v') && (bytesOf v == bytesOf v')) && sameB [] []) = true
    rw [hv]; rfl
  | [], _ :: _, _, _, h, _ => nomatch h
  | _ :: _, [], _, _, h, _ => nomatch h
  | u :: l, u' :: l', v, v', h, hv => by
    unfold sameB at h
    rw [Bool.and_eq_true] at h
    show (((isBy u && isBy u') && (bytesOf u == bytesOf u')) && sameB (l ++ [v]) (l' ++ [v'])) = true
    rw [h.1, sameB_push h.2 hv]; rfl
theorem sameB_tx (ys : Array Value) : ∀ (k n n' : Nat) (a : Int) (xs xs' : Array Value), sameB xs.toList xs'.toList = true → sameB (txR ys k n a xs).toList (txR ys k n' a xs').toList = true
  | 0, _, _, _, _, _, h => h
  | k + 1, n, n', a, xs, xs', h => sameB_tx ys k (snN n) (snN n') (a + 1) _ _ (by
    rw [Array.toList_push, Array.toList_push]
    refine sameB_push h ?_
    show ((true && true) && (repB _ _ == repB _ _)) = true
    rw [beq_self_eq_true]; rfl)
theorem txR_size (ys : Array Value) : ∀ (k n : Nat) (a : Int) (xs : Array Value), (txR ys k n a xs).size = xs.size + k
  | 0, _, _, _ => rfl
  | k + 1, n, a, xs => by
    show (txR ys k (snN n) (a + 1) (xs.push _)).size = _
    rw [txR_size ys k, Array.size_push]; lia
theorem repB_len (b : Array UInt8) (n : Int) : (repB b n).size = n.toNat * b.size := by
  unfold repB
  show ((List.replicate n.toNat b.toList).flatten).length = _
  generalize n.toNat = k
  induction k with
  | zero => rw [Nat.zero_mul]; rfl
  | succ k ih => rw [List.replicate_succ, List.flatten_cons, List.length_append, ih, Array.length_toList, Nat.succ_mul]; lia
theorem txR_all (ys : Array Value) : ∀ (k n : Nat) (a : Int) (xs : Array Value), (∀ v ∈ xs.toList, isBy v = true ∧ (bytesOf v).size ≤ 100) → ∀ v ∈ (txR ys k n a xs).toList, isBy v = true ∧ (bytesOf v).size ≤ 100
  | 0, _, _, _, h => h
  | k + 1, n, a, xs, h => txR_all ys k (snN n) (a + 1) _ (by
    intro v hv
    rw [Array.toList_push] at hv
    rcases List.mem_append.mp hv with q | q
    · exact h v q
    · rw [List.mem_singleton.mp q]
      refine ⟨rfl, ?_⟩
      have := drawV_in ys a 3
      show (repB _ (1 + drawV ys a 3)).size ≤ 100
      rw [repB_len]
      show (1 + drawV ys a 3).toNat * 2 ≤ 100
      lia)
theorem okT_tx (ys : Array Value) (k n : Nat) (a : Int) (h : k ≤ 4) : okT (txR ys k n a #[]) = true := by
  refine okT_iff.2 ⟨by rw [txR_size]; show 0 + k ≤ 4; lia, fun v hv => (txR_all ys k n a #[] (fun v hv => (nomatch hv)) v hv).1⟩
theorem okL_tx (ys : Array Value) (k n : Nat) (a : Int) : okL (txR ys k n a #[]) = true := by
  unfold okL
  exact List.all_eq_true.mpr fun v hv => Nat.ble_eq_true_of_le (txR_all ys k n a #[] (fun v hv => (nomatch hv)) v hv).2
noncomputable def S_putV (w : World) (x : Vars) (c : Bool) (TX : Array Value) : Spec := { S_putR w x c [] with need := [okT TX,okQ (x.Q 1) (x.I 0 1),leB 20 (x.I 6 8) && leB (x.I 6 8) 500,bB (putC TX (x.Q 1) (x.I 0 1) (x.I 6 8)) c,sameB (x.Q 2).toList TX.toList] }
theorem put_same (w : World) (x : Vars) (c : Bool) (TX : Array Value) : (S_putV w x c TX).Holds (VV w) :=
  Spec.Holds.more (S := { S_putR w x c [] with need := [] }) (fun q => by
    have hT := q _ mcS
    have hQ := q _ (mcT mcS)
    have hl := q _ (mcT (mcT mcS))
    have hc := q _ (mcT (mcT (mcT mcS)))
    have hS := q _ (mcT (mcT (mcT (mcT mcS))))
    have h := Spec.Holds.less (put_any w x c) (allT_cons (okT_same hS hT) (allT_cons hQ (allT_cons hl (allT_cons (by unfold putC at hc ⊢; rw [size_same hS]; exact hc) allT_nil))))
    exact h) rfl
noncomputable def S_joinV (w : World) (x : Vars) (r : Bool) (TX : Array Value) : Spec := { S_joinR w x r (jC (jOut (btJ (x.Q 1) (x.I 0 1)) TX (x.I 6 9)) r) (jE (jOut (btJ (x.Q 1) (x.I 0 1)) TX (x.I 6 9))) (jSt TX.size (jOut (btJ (x.Q 1) (x.I 0 1)) TX (x.I 6 9))) [] with need := [okT TX,okL TX,okQ (x.Q 1) (x.I 0 1),leB 0 (x.I 6 9),sameB (x.Q 2).toList TX.toList] }
theorem join_same (w : World) (x : Vars) (r : Bool) (TX : Array Value) : (S_joinV w x r TX).Holds (VV w) :=
  Spec.Holds.more (S := { S_joinR w x r (jC (jOut (btJ (x.Q 1) (x.I 0 1)) TX (x.I 6 9)) r) (jE (jOut (btJ (x.Q 1) (x.I 0 1)) TX (x.I 6 9))) (jSt TX.size (jOut (btJ (x.Q 1) (x.I 0 1)) TX (x.I 6 9))) [] with need := [] }) (fun q => by
    have hT := q _ mcS
    have hL := q _ (mcT mcS)
    have hQ := q _ (mcT (mcT mcS))
    have hl := q _ (mcT (mcT (mcT mcS)))
    have hS := q _ (mcT (mcT (mcT (mcT mcS))))
    have h := Spec.Holds.less (join_any w x r) (allT_cons (okT_same hS hT) (allT_cons (okL_same hS hL) (allT_cons hQ (allT_cons hl allT_nil))))
    have h : ({ S_joinR w x r (jC (jOut (btJ (x.Q 1) (x.I 0 1)) (x.Q 2) (x.I 6 9)) r) (jE (jOut (btJ (x.Q 1) (x.I 0 1)) (x.Q 2) (x.I 6 9))) (jSt (x.Q 2).size (jOut (btJ (x.Q 1) (x.I 0 1)) (x.Q 2) (x.I 6 9))) [] with need := [] } : Spec).Holds (VV w) := h
    rw [jOut_same hS, size_same hS] at h
    exact h) rfl
noncomputable def S_shelf0 (w : World) (x : Vars)  : Spec := { code := .call (.ref 776) ⟨[(.int (-1) (x.U 0)),(vA x 0)],[]⟩,dep := 700,need := [],pre := [(aA x 0,{ cls := tyL,data := (.seq #[(vA x 1),(vA x 2),(vA x 3),(vA x 4),(vA x 5),(vA x 6),(vA x 7),(vA x 8),(vA x 9),(vA x 10),(vA x 11),(vA x 12),(vA x 13),(vA x 14),(vA x 15),(vA x 16),(vA x 17)] (x.N 0)) }),(aA x 1,{ cls := (.type "tuple"),data := (.seq #[(vB x b7 1 0),(vR x 1 1)] (x.N 1)) }),(aA x 2,{ cls := (.type "tuple"),data := (.seq #[(vB x b8 2 0),(.ref 532)] (x.N 2)) }),(aA x 3,{ cls := (.type "tuple"),data := (.seq #[(vB x b9 3 0),(.ref 539)] (x.N 3)) }),(aA x 4,{ cls := (.type "tuple"),data := (.seq #[(vB x b10 4 0),(.ref 546)] (x.N 4)) }),(aA x 5,{ cls := (.type "tuple"),data := (.seq #[(vB x b11 5 0),(.ref 553)] (x.N 5)) }),(aA x 6,{ cls := (.type "tuple"),data := (.seq #[(vB x b12 6 0),(.ref 560)] (x.N 6)) }),(aA x 7,{ cls := (.type "tuple"),data := (.seq #[(vB x b13 7 0),(.ref 574)] (x.N 7)) }),(aA x 8,{ cls := (.type "tuple"),data := (.seq #[(vB x b14 8 0),(.ref 581)] (x.N 8)) }),(aA x 9,{ cls := (.type "tuple"),data := (.seq #[(vB x b15 9 0),(.ref 588)] (x.N 9)) }),(aA x 10,{ cls := (.type "tuple"),data := (.seq #[(vB x b16 10 0),(.ref 595)] (x.N 10)) }),(aA x 11,{ cls := (.type "tuple"),data := (.seq #[(vB x b17 11 0),(.ref 602)] (x.N 11)) }),(aA x 12,{ cls := (.type "tuple"),data := (.seq #[(vB x b18 12 0),(.ref 607)] (x.N 12)) }),(aA x 13,{ cls := (.type "tuple"),data := (.seq #[(vB x b19 13 0),(.ref 614)] (x.N 13)) }),(aA x 14,{ cls := (.type "tuple"),data := (.seq #[(vB x b20 14 0),(.ref 621)] (x.N 14)) }),(aA x 15,{ cls := (.type "tuple"),data := (.seq #[(vB x b21 15 0),(.ref 628)] (x.N 15)) }),(aA x 16,{ cls := (.type "tuple"),data := (.seq #[(vB x b22 16 0),(.ref 635)] (x.N 16)) }),(aA x 17,{ cls := (.type "tuple"),data := (.seq #[(vB x b23 17 0),(.ref 642)] (x.N 17)) })],touch := [],na := 38,nt := 72,res := fun as ts => .ok (.ret (.ref (nth as 0))),postT := fun as ts => [],postN := fun as ts => [{ cls := (.ref 234),dict := (some (nth as 1)),data := .plain },{ cls := tyD,data := (.dict #[eN w s0 (nth ts 0) (.int (-1) (x.U 0)),eN w s1 (nth ts 1) (.ref (nth as 2)),eN w s2 (nth ts 2) (.ref (nth as 3)),eN w s3 (nth ts 3) .none] 4) },{ cls := tyL,data := (.seq #[(vB x b7 1 0),(vB x b8 2 0),(vB x b9 3 0),(vB x b10 4 0),(vB x b11 5 0),(vB x b12 6 0),(vB x b13 7 0),(vB x b14 8 0),(vB x b15 9 0),(vB x b16 10 0),(vB x b17 11 0),(vB x b18 12 0),(vB x b19 13 0),(vB x b20 14 0),(vB x b21 15 0),(vB x b22 16 0),(vB x b23 17 0)] 17) },{ cls := tyL,data := (.seq #[(.ref (nth as 4)),(.ref (nth as 5)),(.ref (nth as 6)),(.ref (nth as 7)),(.ref (nth as 8)),(.ref (nth as 9)),(.ref (nth as 10)),(.ref (nth as 11)),(.ref (nth as 12)),(.ref (nth as 13)),(.ref (nth as 14)),(.ref (nth as 15)),(.ref (nth as 16)),(.ref (nth as 17)),(.ref (nth as 18)),(.ref (nth as 19)),(.ref (nth as 20))] 17) },{ cls := (.ref 255),dict := (some (nth as 21)),data := .plain },{ cls := (.ref 255),dict := (some (nth as 22)),data := .plain },{ cls := (.ref 255),dict := (some (nth as 23)),data := .plain },{ cls := (.ref 255),dict := (some (nth as 24)),data := .plain },{ cls := (.ref 255),dict := (some (nth as 25)),data := .plain },{ cls := (.ref 255),dict := (some (nth as 26)),data := .plain },{ cls := (.ref 255),dict := (some (nth as 27)),data := .plain },{ cls := (.ref 255),dict := (some (nth as 28)),data := .plain },{ cls := (.ref 255),dict := (some (nth as 29)),data := .plain },{ cls := (.ref 255),dict := (some (nth as 30)),data := .plain },{ cls := (.ref 255),dict := (some (nth as 31)),data := .plain },{ cls := (.ref 255),dict := (some (nth as 32)),data := .plain },{ cls := (.ref 255),dict := (some (nth as 33)),data := .plain },{ cls := (.ref 255),dict := (some (nth as 34)),data := .plain },{ cls := (.ref 255),dict := (some (nth as 35)),data := .plain },{ cls := (.ref 255),dict := (some (nth as 36)),data := .plain },{ cls := (.ref 255),dict := (some (nth as 37)),data := .plain },{ cls := tyD,data := (.dict #[eN w s0 (nth ts 4) (.int (-1) (nth ts 5)),eN w s44 (nth ts 6) (vB x b7 1 0),eN w s45 (nth ts 7) (vR x 1 1)] 3) },{ cls := tyD,data := (.dict #[eN w s0 (nth ts 8) (.int (-2) (nth ts 9)),eN w s44 (nth ts 10) (vB x b8 2 0),eN w s45 (nth ts 11) (.ref 532)] 3) },{ cls := tyD,data := (.dict #[eN w s0 (nth ts 12) (.int (-3) (nth ts 13)),eN w s44 (nth ts 14) (vB x b9 3 0),eN w s45 (nth ts 15) (.ref 539)] 3) },{ cls := tyD,data := (.dict #[eN w s0 (nth ts 16) (.int (-4) (nth ts 17)),eN w s44 (nth ts 18) (vB x b10 4 0),eN w s45 (nth ts 19) (.ref 546)] 3) },{ cls := tyD,data := (.dict #[eN w s0 (nth ts 20) (.int (-5) (nth ts 21)),eN w s44 (nth ts 22) (vB x b11 5 0),eN w s45 (nth ts 23) (.ref 553)] 3) },{ cls := tyD,data := (.dict #[eN w s0 (nth ts 24) (.int (-6) (nth ts 25)),eN w s44 (nth ts 26) (vB x b12 6 0),eN w s45 (nth ts 27) (.ref 560)] 3) },{ cls := tyD,data := (.dict #[eN w s0 (nth ts 28) (.int (-7) (nth ts 29)),eN w s44 (nth ts 30) (vB x b13 7 0),eN w s45 (nth ts 31) (.ref 574)] 3) },{ cls := tyD,data := (.dict #[eN w s0 (nth ts 32) (.int (-8) (nth ts 33)),eN w s44 (nth ts 34) (vB x b14 8 0),eN w s45 (nth ts 35) (.ref 581)] 3) },{ cls := tyD,data := (.dict #[eN w s0 (nth ts 36) (.int (-9) (nth ts 37)),eN w s44 (nth ts 38) (vB x b15 9 0),eN w s45 (nth ts 39) (.ref 588)] 3) },{ cls := tyD,data := (.dict #[eN w s0 (nth ts 40) (.int (-10) (nth ts 41)),eN w s44 (nth ts 42) (vB x b16 10 0),eN w s45 (nth ts 43) (.ref 595)] 3) },{ cls := tyD,data := (.dict #[eN w s0 (nth ts 44) (.int (-11) (nth ts 45)),eN w s44 (nth ts 46) (vB x b17 11 0),eN w s45 (nth ts 47) (.ref 602)] 3) },{ cls := tyD,data := (.dict #[eN w s0 (nth ts 48) (.int (-12) (nth ts 49)),eN w s44 (nth ts 50) (vB x b18 12 0),eN w s45 (nth ts 51) (.ref 607)] 3) },{ cls := tyD,data := (.dict #[eN w s0 (nth ts 52) (.int (-13) (nth ts 53)),eN w s44 (nth ts 54) (vB x b19 13 0),eN w s45 (nth ts 55) (.ref 614)] 3) },{ cls := tyD,data := (.dict #[eN w s0 (nth ts 56) (.int (-14) (nth ts 57)),eN w s44 (nth ts 58) (vB x b20 14 0),eN w s45 (nth ts 59) (.ref 621)] 3) },{ cls := tyD,data := (.dict #[eN w s0 (nth ts 60) (.int (-15) (nth ts 61)),eN w s44 (nth ts 62) (vB x b21 15 0),eN w s45 (nth ts 63) (.ref 628)] 3) },{ cls := tyD,data := (.dict #[eN w s0 (nth ts 64) (.int (-16) (nth ts 65)),eN w s44 (nth ts 66) (vB x b22 16 0),eN w s45 (nth ts 67) (.ref 635)] 3) },{ cls := tyD,data := (.dict #[eN w s0 (nth ts 68) (.int (-17) (nth ts 69)),eN w s44 (nth ts 70) (vB x b23 17 0),eN w s45 (nth ts 71) (.ref 642)] 3) }],rawP := [],rawQ := [] }
theorem R_shelf0 (w : World) (x : Vars) : (S_shelf0 w x).Holds (VV w) :=
  sF (F := FI w) (vok _) 20000 ⟨q11, [19,20,21,22,29,35,41,47,53,59,65,71,77,83,89,95,101,107,113,119,125,30,36,42,48,54,60,66,72,78,84,90,96,102,108,114,120,126], [2,3,4,5,14,11,15,16,24,21,25,26,34,31,35,36,44,41,45,46,54,51,55,56,64,61,65,66,74,71,75,76,84,81,85,86,94,91,95,96,104,101,105,106,114,111,115,116,124,121,125,126,134,131,135,136,144,141,145,146,154,151,155,156,164,161,165,166,174,171,175,176]⟩ fun m t => by kernel_rfl
noncomputable def S_shelf1 (w : World) (x : Vars)  : Spec := { code := .call (.ref 776) ⟨[(.int (-30) (x.U 0)),(vA x 0)],[]⟩,dep := 700,need := [],pre := [(aA x 0,{ cls := tyL,data := (.seq #[(vA x 1),(vA x 2),(vA x 3),(vA x 4),(vA x 5),(vA x 6)] (x.N 0)) }),(aA x 1,{ cls := (.type "tuple"),data := (.seq #[(vB x b30 1 0),(.ref 649)] (x.N 1)) }),(aA x 2,{ cls := (.type "tuple"),data := (.seq #[(vB x b31 2 0),(.ref 656)] (x.N 2)) }),(aA x 3,{ cls := (.type "tuple"),data := (.seq #[(vB x b32 3 0),(.ref 663)] (x.N 3)) }),(aA x 4,{ cls := (.type "tuple"),data := (.seq #[(vB x b33 4 0),(.ref 670)] (x.N 4)) }),(aA x 5,{ cls := (.type "tuple"),data := (.seq #[(vB x b34 5 0),(.ref 677)] (x.N 5)) }),(aA x 6,{ cls := (.type "tuple"),data := (.seq #[(vB x b35 6 0),(.ref 684)] (x.N 6)) })],touch := [],na := 16,nt := 28,res := fun as ts => .ok (.ret (.ref (nth as 0))),postT := fun as ts => [],postN := fun as ts => [{ cls := (.ref 234),dict := (some (nth as 1)),data := .plain },{ cls := tyD,data := (.dict #[eN w s0 (nth ts 0) (.int (-30) (x.U 0)),eN w s1 (nth ts 1) (.ref (nth as 2)),eN w s2 (nth ts 2) (.ref (nth as 3)),eN w s3 (nth ts 3) .none] 4) },{ cls := tyL,data := (.seq #[(vB x b30 1 0),(vB x b31 2 0),(vB x b32 3 0),(vB x b33 4 0),(vB x b34 5 0),(vB x b35 6 0)] 6) },{ cls := tyL,data := (.seq #[(.ref (nth as 4)),(.ref (nth as 5)),(.ref (nth as 6)),(.ref (nth as 7)),(.ref (nth as 8)),(.ref (nth as 9))] 6) },{ cls := (.ref 255),dict := (some (nth as 10)),data := .plain },{ cls := (.ref 255),dict := (some (nth as 11)),data := .plain },{ cls := (.ref 255),dict := (some (nth as 12)),data := .plain },{ cls := (.ref 255),dict := (some (nth as 13)),data := .plain },{ cls := (.ref 255),dict := (some (nth as 14)),data := .plain },{ cls := (.ref 255),dict := (some (nth as 15)),data := .plain },{ cls := tyD,data := (.dict #[eN w s0 (nth ts 4) (.int (-30) (nth ts 5)),eN w s44 (nth ts 6) (vB x b30 1 0),eN w s45 (nth ts 7) (.ref 649)] 3) },{ cls := tyD,data := (.dict #[eN w s0 (nth ts 8) (.int (-31) (nth ts 9)),eN w s44 (nth ts 10) (vB x b31 2 0),eN w s45 (nth ts 11) (.ref 656)] 3) },{ cls := tyD,data := (.dict #[eN w s0 (nth ts 12) (.int (-32) (nth ts 13)),eN w s44 (nth ts 14) (vB x b32 3 0),eN w s45 (nth ts 15) (.ref 663)] 3) },{ cls := tyD,data := (.dict #[eN w s0 (nth ts 16) (.int (-33) (nth ts 17)),eN w s44 (nth ts 18) (vB x b33 4 0),eN w s45 (nth ts 19) (.ref 670)] 3) },{ cls := tyD,data := (.dict #[eN w s0 (nth ts 20) (.int (-34) (nth ts 21)),eN w s44 (nth ts 22) (vB x b34 5 0),eN w s45 (nth ts 23) (.ref 677)] 3) },{ cls := tyD,data := (.dict #[eN w s0 (nth ts 24) (.int (-35) (nth ts 25)),eN w s44 (nth ts 26) (vB x b35 6 0),eN w s45 (nth ts 27) (.ref 684)] 3) }],rawP := [],rawQ := [] }
theorem R_shelf1 (w : World) (x : Vars) : (S_shelf1 w x).Holds (VV w) :=
  sF (F := FI w) (vok _) 20000 ⟨q12, [8,9,10,11,18,24,30,36,42,48,19,25,31,37,43,49], [2,3,4,5,14,11,15,16,24,21,25,26,34,31,35,36,44,41,45,46,54,51,55,56,64,61,65,66]⟩ fun m t => by kernel_rfl
noncomputable def S_shelf2 (w : World) (x : Vars)  : Spec := { code := .call (.ref 776) ⟨[(.int (-40) (x.U 0)),(vA x 0)],[]⟩,dep := 700,need := [],pre := [(aA x 0,{ cls := tyL,data := (.seq #[(vA x 1),(vA x 2),(vA x 3),(vA x 4),(vA x 5),(vA x 6),(vA x 7),(vA x 8)] (x.N 0)) }),(aA x 1,{ cls := (.type "tuple"),data := (.seq #[(vB x b37 1 0),(.ref 698)] (x.N 1)) }),(aA x 2,{ cls := (.type "tuple"),data := (.seq #[(vB x b38 2 0),(.ref 712)] (x.N 2)) }),(aA x 3,{ cls := (.type "tuple"),data := (.seq #[(vB x b39 3 0),(.ref 719)] (x.N 3)) }),(aA x 4,{ cls := (.type "tuple"),data := (.seq #[(vB x b40 4 0),(.ref 726)] (x.N 4)) }),(aA x 5,{ cls := (.type "tuple"),data := (.seq #[(vB x b41 5 0),(.ref 731)] (x.N 5)) }),(aA x 6,{ cls := (.type "tuple"),data := (.seq #[(vB x b42 6 0),(.ref 736)] (x.N 6)) }),(aA x 7,{ cls := (.type "tuple"),data := (.seq #[(vB x b43 7 0),(.ref 741)] (x.N 7)) }),(aA x 8,{ cls := (.type "tuple"),data := (.seq #[(vB x b44 8 0),(.ref 748)] (x.N 8)) })],touch := [],na := 20,nt := 36,res := fun as ts => .ok (.ret (.ref (nth as 0))),postT := fun as ts => [],postN := fun as ts => [{ cls := (.ref 234),dict := (some (nth as 1)),data := .plain },{ cls := tyD,data := (.dict #[eN w s0 (nth ts 0) (.int (-40) (x.U 0)),eN w s1 (nth ts 1) (.ref (nth as 2)),eN w s2 (nth ts 2) (.ref (nth as 3)),eN w s3 (nth ts 3) .none] 4) },{ cls := tyL,data := (.seq #[(vB x b37 1 0),(vB x b38 2 0),(vB x b39 3 0),(vB x b40 4 0),(vB x b41 5 0),(vB x b42 6 0),(vB x b43 7 0),(vB x b44 8 0)] 8) },{ cls := tyL,data := (.seq #[(.ref (nth as 4)),(.ref (nth as 5)),(.ref (nth as 6)),(.ref (nth as 7)),(.ref (nth as 8)),(.ref (nth as 9)),(.ref (nth as 10)),(.ref (nth as 11))] 8) },{ cls := (.ref 255),dict := (some (nth as 12)),data := .plain },{ cls := (.ref 255),dict := (some (nth as 13)),data := .plain },{ cls := (.ref 255),dict := (some (nth as 14)),data := .plain },{ cls := (.ref 255),dict := (some (nth as 15)),data := .plain },{ cls := (.ref 255),dict := (some (nth as 16)),data := .plain },{ cls := (.ref 255),dict := (some (nth as 17)),data := .plain },{ cls := (.ref 255),dict := (some (nth as 18)),data := .plain },{ cls := (.ref 255),dict := (some (nth as 19)),data := .plain },{ cls := tyD,data := (.dict #[eN w s0 (nth ts 4) (.int (-40) (nth ts 5)),eN w s44 (nth ts 6) (vB x b37 1 0),eN w s45 (nth ts 7) (.ref 698)] 3) },{ cls := tyD,data := (.dict #[eN w s0 (nth ts 8) (.int (-41) (nth ts 9)),eN w s44 (nth ts 10) (vB x b38 2 0),eN w s45 (nth ts 11) (.ref 712)] 3) },{ cls := tyD,data := (.dict #[eN w s0 (nth ts 12) (.int (-42) (nth ts 13)),eN w s44 (nth ts 14) (vB x b39 3 0),eN w s45 (nth ts 15) (.ref 719)] 3) },{ cls := tyD,data := (.dict #[eN w s0 (nth ts 16) (.int (-43) (nth ts 17)),eN w s44 (nth ts 18) (vB x b40 4 0),eN w s45 (nth ts 19) (.ref 726)] 3) },{ cls := tyD,data := (.dict #[eN w s0 (nth ts 20) (.int (-44) (nth ts 21)),eN w s44 (nth ts 22) (vB x b41 5 0),eN w s45 (nth ts 23) (.ref 731)] 3) },{ cls := tyD,data := (.dict #[eN w s0 (nth ts 24) (.int (-45) (nth ts 25)),eN w s44 (nth ts 26) (vB x b42 6 0),eN w s45 (nth ts 27) (.ref 736)] 3) },{ cls := tyD,data := (.dict #[eN w s0 (nth ts 28) (.int (-46) (nth ts 29)),eN w s44 (nth ts 30) (vB x b43 7 0),eN w s45 (nth ts 31) (.ref 741)] 3) },{ cls := tyD,data := (.dict #[eN w s0 (nth ts 32) (.int (-47) (nth ts 33)),eN w s44 (nth ts 34) (vB x b44 8 0),eN w s45 (nth ts 35) (.ref 748)] 3) }],rawP := [],rawQ := [] }
theorem R_shelf2 (w : World) (x : Vars) : (S_shelf2 w x).Holds (VV w) :=
  sF (F := FI w) (vok _) 20000 ⟨q13, [10,11,12,13,20,26,32,38,44,50,56,62,21,27,33,39,45,51,57,63], [2,3,4,5,14,11,15,16,24,21,25,26,34,31,35,36,44,41,45,46,54,51,55,56,64,61,65,66,74,71,75,76,84,81,85,86]⟩ fun m t => by kernel_rfl
noncomputable def S_shelf3 (w : World) (x : Vars)  : Spec := { code := .call (.ref 776) ⟨[(.int (-50) (x.U 0)),(vA x 0)],[]⟩,dep := 700,need := [],pre := [(aA x 0,{ cls := tyL,data := (.seq #[(vA x 1),(vA x 2),(vA x 3)] (x.N 0)) }),(aA x 1,{ cls := (.type "tuple"),data := (.seq #[(vB x b45 1 0),(.ref 755)] (x.N 1)) }),(aA x 2,{ cls := (.type "tuple"),data := (.seq #[(vB x b46 2 0),(.ref 762)] (x.N 2)) }),(aA x 3,{ cls := (.type "tuple"),data := (.seq #[(vB x b47 3 0),(.ref 769)] (x.N 3)) })],touch := [],na := 10,nt := 16,res := fun as ts => .ok (.ret (.ref (nth as 0))),postT := fun as ts => [],postN := fun as ts => [{ cls := (.ref 234),dict := (some (nth as 1)),data := .plain },{ cls := tyD,data := (.dict #[eN w s0 (nth ts 0) (.int (-50) (x.U 0)),eN w s1 (nth ts 1) (.ref (nth as 2)),eN w s2 (nth ts 2) (.ref (nth as 3)),eN w s3 (nth ts 3) .none] 4) },{ cls := tyL,data := (.seq #[(vB x b45 1 0),(vB x b46 2 0),(vB x b47 3 0)] 3) },{ cls := tyL,data := (.seq #[(.ref (nth as 4)),(.ref (nth as 5)),(.ref (nth as 6))] 3) },{ cls := (.ref 255),dict := (some (nth as 7)),data := .plain },{ cls := (.ref 255),dict := (some (nth as 8)),data := .plain },{ cls := (.ref 255),dict := (some (nth as 9)),data := .plain },{ cls := tyD,data := (.dict #[eN w s0 (nth ts 4) (.int (-50) (nth ts 5)),eN w s44 (nth ts 6) (vB x b45 1 0),eN w s45 (nth ts 7) (.ref 755)] 3) },{ cls := tyD,data := (.dict #[eN w s0 (nth ts 8) (.int (-51) (nth ts 9)),eN w s44 (nth ts 10) (vB x b46 2 0),eN w s45 (nth ts 11) (.ref 762)] 3) },{ cls := tyD,data := (.dict #[eN w s0 (nth ts 12) (.int (-52) (nth ts 13)),eN w s44 (nth ts 14) (vB x b47 3 0),eN w s45 (nth ts 15) (.ref 769)] 3) }],rawP := [],rawQ := [] }
theorem R_shelf3 (w : World) (x : Vars) : (S_shelf3 w x).Holds (VV w) :=
  sF (F := FI w) (vok _) 20000 ⟨q14, [5,6,7,8,15,21,27,16,22,28], [2,3,4,5,14,11,15,16,24,21,25,26,34,31,35,36]⟩ fun m t => by kernel_rfl
noncomputable def cutA (its : Array Value) : Array Value := ⟨its.toList.take 30⟩
noncomputable def S_slice (l sl : Nat) (its : Array Value) (n t : Nat) : Spec := { code := .builtin "list.__getitem__" ⟨[.ref l, .ref sl], []⟩, dep := 850, need := [Nat.blt its.size 1000], pre := [(l, oList its n), (sl, { cls := .type "slice", data := .fields #[.none, .int 30 t, .none] })], touch := [], na := 1, nt := 0, res := fun as _ => .ok (.ret (.ref (nth as 0))), postT := fun _ _ => [], postN := fun _ _ => [oList (cutA its) 0], rawQ := [0] }
section
variable {prog : Program} {w : World} {A : Around} {E : Value → Shared → Prop} {s : Shared}
theorem slice_tree {l sl : Addr} {items : Array Value} {vl vu vs : Value} {lo hi st : Option Int} {P : PySem.Fin → Shared → Prop} (hl : s.heap.IsList l items)
    (hs : s.heap.IsSliceOf sl vl vu vs) (pl : IsPart vl lo) (pu : IsPart vu hi) (ps : IsPart vs st) (h0 : st ≠ some 0)
    (h : P (.done (.ret (.ref s.heap.objs.size))) { s with heap := s.heap.push { cls := .type "list", data := .seq (slicePick items lo hi st) } })
    (hsz : items.size ≤ sizeLine) : wpAny (model prog w) A (Builtin.«list.__getitem__» ⟨[.ref l, .ref sl], []⟩) P E s := by
  obtain ⟨o, ho, hc, ne, hd⟩ := id hl
  obtain ⟨os, hos, hcs, hds⟩ := id hs
  have hTs : s.TypeIs (.ref sl) "slice" := ⟨os, hos, hcs⟩
  show wpAny _ _ (Builtin.List.listSubscript? (.ref sl) >>= _) _ _ s
  refine wpAny_bind ?_
  unfold Builtin.List.listSubscript?
  refine wpAny_bind (wpAny_specialOf hTs slice_no_index ?_)
  simp only [Option.isNone_none, if_true]
  refine wpAny_pure ?_
  show wpAny _ _ (typeOf (.ref sl) >>= _) _ _ s
  refine wpAny_bind (wpAny_typeOf hTs ?_)
  rw [if_neg (by decide)]
  rw [listSliceParts_eq]
  have hstep : ¬ ((rawPart st == rawInt 0) = true) := by
    cases st with
    | none => exact Bool.false_ne_true
    | some c =>
      intro hh
      have : c = 0 := by simpa [rawPart, rawInt] using hh
      exact h0 (by rw [this])
  refine wpAny_bind (wpAny_bind (wpAny_field hos hds (x := vs) rfl (wpAny_bind (wpAny_listPart ps ?_))))
  rw [if_neg hstep]
  refine wpAny_bind (wpAny_field hos hds (x := vl) rfl (wpAny_bind (wpAny_listPart pl ?_)))
  refine wpAny_bind (wpAny_field hos hds (x := vu) rfl (wpAny_bind (wpAny_listPart pu (wpAny_pure ?_))))
  refine wpAny_bind (m := Builtin.List.listItems (.ref l)) ?_
  unfold Builtin.List.listItems
  refine wpAny_bind (wpAny_seqItems ho hd (wpAny_pure ?_))
  refine wpAny_bind (wpAny_of_eq (sliceIndices_raw lo hi st items.size h0) ?_)
  exact wpAny_bind (wpAny_newObj_type (wpAny_pure h) (Nat.le_trans (slicePick_size_le items lo hi st) hsz))
end
theorem slice_at {V : Vn} {l sl : Nat} {its : Array Value} {n t : Nat} : (S_slice l sl its n t).Holds V := by
  refine spec_by fun Γ hc hh A hA hd hin h g d tk os At => ?_
  have hl : h.get? l = some (oList its n) := At.mem _ mcS
  have hs : h.get? sl = some { cls := .type "slice", data := .fields #[.none, .int 30 t, .none] } := At.mem _ (mcT mcS)
  have hz : its.size < 1000 := blt_iff (At.need _ mcS)
  have hL : Heap.IsList (Shared.heap ⟨h, g, d, tk, os⟩) l its := ⟨_, hl, rfl, n, rfl⟩
  have hS : Heap.IsSliceOf (Shared.heap ⟨h, g, d, tk, os⟩) sl .none (.int 30 t) .none := ⟨_, hs, rfl, rfl⟩
  have hz' : its.size ≤ sizeLine := by unfold sizeLine; lia
  clear hz
  refine @den_wp2 _ _ _ _ _ _ _ _ _ rfl entry_list_getitem (slice_tree hL hS .none (.int 30 t) .none (by simp) ?_ hz')
  have e : slicePick its none (some 30) none = cutA its := slicePick_upto' its 30
  rw [e]
  have hp := Heap.get?_push_size h (o := oList (cutA its) 0) rfl
  refine ⟨_, rfl, [h.objs.size], [], rfl, ⟨rfl, rfl, fun i hi => (nomatch hi), fun i hi => ?_, fun b o q _ => Heap.get?_push_of_some _ q, fun a ha => ?_, by simp, ?_⟩, rfl, rfl, rfl⟩
  · match i, hi with
    | 0, _ => exact hp
    | i + 1, hi => exact absurd hi (Nat.not_lt_of_le (Nat.le_add_left 1 i))
  · simp only [List.mem_cons, List.not_mem_nil, or_false] at ha
    subst ha
    exact ⟨Nat.le_refl _, Heap.lt_size hp⟩
  · exact Nat.le_of_lt (Heap.lt_size hp)
noncomputable def D_slice {V : Vn} : Dp V := ⟨2, fun as os _ => match as with
  | [l, sl] => match os with
    | [o, o'] => match seqOf o with
      | some (xs, n) => match o'.data with
        | .fields vs => match vs.toList with
          | [_, v, _] => some ⟨S_slice l sl xs n (tokOf v), slice_at⟩
          | _ => none
        | _ => none
      | none => none
    | _ => none
  | _ => none⟩
noncomputable def D_initR {V : Vn} : Dp V := ⟨2, fun as os _ => match as with
  | [S, l] => match os with
    | [o, o'] => match seqOf o with
      | some (_, n0) => match seqOf o' with
        | some (xs, n) => some ⟨{ S_init S l n0 xs n with rawQ := [0] }, Spec.Holds.raw init_at⟩
        | none => none
      | none => none
    | _ => none
  | _ => none⟩
noncomputable def D_tx (w : World) (F : Nat) : Dp (VV w) := ⟨6, fun as os alt => match as with
  | [D, I, acc, ct, tr, ls] => match os with
    | [oD, oI, oA, _, oT, oL] => match oI.data with
      | .fields ws => match seqOf oT with
        | some (bs, nb) => match seqOf oL with
          | some (ys, nl) => match alt with
            | 0 => some ⟨_, txZ_any w F I D acc ct tr ls ys nl (intOf (bs.toList.getD 1 .none)) (tokOf (bs.toList.getD 1 .none)) nb (dictN oD) (intOf (ws.toList.getD 0 .none)) (intOf (ws.toList.getD 1 .none)) (dictN oA)⟩
            | _ => some ⟨_, tx_any w F I D acc ct tr ls ys nl (intOf (bs.toList.getD 1 .none)) (tokOf (bs.toList.getD 1 .none)) nb (dictN oD) (intOf (ws.toList.getD 0 .none)) (intOf (ws.toList.getD 1 .none)) (dictN oA)⟩
          | none => none
        | none => none
      | _ => none
    | _ => none
  | _ => none⟩
section
variable (its : Array Value)
noncomputable def lfL : Int := rsz 0 (drawV (cutA its) 0 4) 1
noncomputable def TXL : Array Value := txR (cutA its) (lfL its).toNat 0 (0 + 1) #[]
noncomputable def p1L : Int := 0 + 1 + lfL its
noncomputable def stL : Int := 20 + drawV (cutA its) (p1L its) 59
noncomputable def teL : Int := 4 + drawV (cutA its) (p1L its + 1) 19
noncomputable def skL : Int := 8 + drawV (cutA its) (p1L its + 1 + 1) 19
noncomputable def pPL : Int := p1L its + 1 + 1 + 1
noncomputable def pJL : Int := pPL its + 1 + 1 + 1 + 1
noncomputable def jL : Nat := jOut (btJ (cutA its) (pJL its)) (TXL its) (teL its)
noncomputable def pTL : Int := pJL its + 1
noncomputable def s1L : Int := jSt (TXL its).size (jL its)
noncomputable def pRL : Int := pTL its + 1 + 1 + 1
noncomputable def r2L (c : Bool) : Bool := jC (jL its) c
noncomputable def r3L (c : Bool) : Bool := orB (tdB (cutA its) (pTL its) (skL its)) (r2L its c)
noncomputable def lawNd (z c : Bool) : List Bool := [scriptOk its, Nat.blt its.size 1000, Nat.blt (cutA its).size 1000000, drawOk (cutA its) 0, fewI 0 && fewI (drawV (cutA its) 0 4) && (eqB 1 1 || eqB 1 (-1)), okQ (cutA its) (0 + 1), leB 0 (lfL its) && leB (lfL its) 4,
  drawOk (cutA its) (p1L its), drawOk (cutA its) (p1L its + 1), drawOk (cutA its) (p1L its + 1 + 1), okT (TXL its), okQ (cutA its) (pPL its), leB 20 (stL its) && leB (stL its) 500, bB (putC (TXL its) (cutA its) (pPL its) (stL its)) c,
  okL (TXL its), okQ (cutA its) (pJL its), leB 0 (teL its), okQ (cutA its) (pTL its), leB 0 (s1L its) && leB (s1L its) 1000, leB 0 (skL its), okQ (cutA its) (pRL its), leB 0 (s1L its + 1 + 1) && leB (s1L its + 1 + 1) 1000, match z with | true => !ltB 0 (lfL its) | false => ltB 0 (lfL its)]
theorem lawN_ok : ∀ f ∈ [fun (ns : List Nat) => sameB (txR (cutA its) (lfL its).toNat (ns.getD 0 0) (0 + 1) #[]).toList (TXL its).toList], ∀ ns, f ns = true := fun f hf ns => by
  rw [List.mem_singleton.mp hf]
  exact sameB_tx _ _ _ _ _ _ _ rfl
end
noncomputable def FW (w : World) (its : Array Value) (u c : Bool) (cd : Code) : Option (Dp (VV w)) := match cd with
  | .compLoop _ _ _ _ e => some (D_tx w (e.frame.getD 0))
  | .call (.ref a) ⟨[v1, v2, v3, v4], []⟩ => match Nat.beq a 809 with
    | true => some ⟨1000, fun as os _ => some ⟨_, put_same w (varsOf [v1, v2, v3, v4] as os u) c (TXL its)⟩⟩
    | false => match Nat.beq a 816 with
      | true => some ⟨1000, fun as os _ => some ⟨_, join_same w (varsOf [v1, v2, v3, v4] as os u) c (TXL its)⟩⟩
      | false => FI w (.call (.ref a) ⟨[v1, v2, v3, v4], []⟩)
  | .call (.ref a) ⟨[v1, v2, v3], []⟩ => match Nat.beq a 823 with
    | true => some ⟨1000, fun as os _ => some ⟨_, told_any w (varsOf [v1, v2, v3] as os u) (r2L its c)⟩⟩
    | false => match Nat.beq a 830 with
      | true => some ⟨1000, fun as os _ => some ⟨_, prn_any w (varsOf [v1, v2, v3] as os u) (r3L its c)⟩⟩
      | false => FI w (.call (.ref a) ⟨[v1, v2, v3], []⟩)
  | .call (.ref a) ⟨[v1, v2], []⟩ => match Nat.beq a 776 with
    | true => some ⟨1000, fun as os alt => match alt with
      | 0 => some ⟨_, R_shelf0 w (varsOf [v1, v2] as os)⟩
      | 1 => some ⟨_, R_shelf1 w (varsOf [v1, v2] as os)⟩
      | 2 => some ⟨_, R_shelf2 w (varsOf [v1, v2] as os)⟩
      | _ => some ⟨_, R_shelf3 w (varsOf [v1, v2] as os)⟩⟩
    | false => FI w (.call (.ref a) ⟨[v1, v2], []⟩)
  | .builtin id ⟨[v1, v2], []⟩ => match idIs id 128106587276438692081757506308484131437 with
    | true => some D_slice
    | false => match idIs id 7635756109259221455878126594669 with
      | true => some D_initR
      | false => FI w (.builtin id ⟨[v1, v2], []⟩)
  | c => FI w c
noncomputable def H_lawz : Hs := ⟨q15, [], [777,38,667]⟩
noncomputable def H_lawp : Hs := ⟨cp q15 0 53 (ap [1,7,23,6,0,4,4,13,13] (cp q15 59 1947 ([]))), [], [777,38,669]⟩
theorem R_lawzf (w : World) (its : Array Value) (u : Bool) : ({ S_law its (lawNd its true false) u with rawP := [0] }).Holds (VV w) :=
  sN (F := FW w its u false) (vok _) (⟨_, lawN_ok its⟩) 60000 H_lawz fun m t => by kernel_rfl
theorem R_lawzt (w : World) (its : Array Value) (u : Bool) : ({ S_law its (lawNd its true true) u with rawP := [0] }).Holds (VV w) :=
  sN (F := FW w its u true) (vok _) (⟨_, lawN_ok its⟩) 60000 H_lawz fun m t => by kernel_rfl
theorem R_lawpf (w : World) (its : Array Value) (u : Bool) : ({ S_law its (lawNd its false false) u with rawP := [0] }).Holds (VV w) :=
  sN (F := FW w its u false) (vok _) (⟨_, lawN_ok its⟩) 60000 H_lawp fun m t => by kernel_rfl
theorem R_lawpt (w : World) (its : Array Value) (u : Bool) : ({ S_law its (lawNd its false true) u with rawP := [0] }).Holds (VV w) :=
  sN (F := FW w its u true) (vok _) (⟨_, lawN_ok its⟩) 60000 H_lawp fun m t => by kernel_rfl
theorem scriptOk_at {its : Array Value} (h : scriptOk its = true) : Nat.blt its.size 1000 = true ∧ Nat.blt (cutA its).size 1000000 = true ∧ allInt (cutA its) = true := by
  unfold scriptOk at h
  rw [Bool.and_eq_true] at h
  refine ⟨h.1, ?_, ?_⟩
  · have h1 : its.size < 1000 := blt_iff h.1
    refine Nat.ble_eq_true_of_le ?_
    show (its.toList.take 30).length + 1 ≤ 1000000
    rw [List.length_take]
    lia
  · unfold allInt cutA
    refine List.all_eq_true.mpr fun v hv => ?_
    exact List.all_eq_true.mp h.2 v (List.mem_of_mem_take hv)
theorem jSt_in (b : Array UInt8) (vs : Array Value) (lim : Int) (h : vs.size ≤ 4) : 0 ≤ jSt vs.size (jOut b vs lim) ∧ jSt vs.size (jOut b vs lim) ≤ 6 := by
  have hj : jOut b vs lim ≤ vs.size := by
    rcases jGo_is (fun k => ltB lim (szJ b vs k)) vs.size 1 (by lia) with ⟨h1, _⟩ | ⟨_, h2, _⟩
    · change jOut b vs lim = 0 at h1
      lia
    · change jOut b vs lim < 1 + vs.size at h2
      lia
  generalize jOut b vs lim = j at hj
  cases j with
  | zero => show 0 ≤ ((vs.size : Nat) : Int) + 1 ∧ ((vs.size : Nat) : Int) + 1 ≤ 6; lia
  | succ j => show 0 ≤ ((j + 1 : Nat) : Int) + 1 ∧ ((j + 1 : Nat) : Int) + 1 ≤ 6; lia
theorem okQ_of {Q : Array Value} (h1 : Nat.blt Q.size 1000000 = true) (h2 : allInt Q = true) {a : Int} (h3 : 0 ≤ a) (h4 : a < 900) : okQ Q a = true := by
  unfold okQ
  rw [h1, h2, leB_iff'.2 h3, ltB_iff'.2 h4]; rfl
theorem leB2 {a x b : Int} (h1 : a ≤ x) (h2 : x ≤ b) : (leB a x && leB x b) = true := by
  rw [leB_iff'.2 h1, leB_iff'.2 h2]; rfl
theorem lawNd_all {its : Array Value} (h : scriptOk its = true) (z c : Bool) (hz : (match z with | true => !ltB 0 (lfL its) | false => ltB 0 (lfL its)) = true) (hc : putC (TXL its) (cutA its) (pPL its) (stL its) = c) : ∀ b ∈ lawNd its z c, b = true := by
  obtain ⟨k1, k2, k3⟩ := scriptOk_at h
  have q : ∀ {a : Int}, 0 ≤ a → a < 900 → okQ (cutA its) a = true := fun h3 h4 => okQ_of k2 k3 h3 h4
  have q0 : okQ (cutA its) 0 = true := q (by lia) (by lia)
  have dk : ∀ {b : Int}, 0 ≤ b → b < 100 → drawOk (cutA its) b = true := fun h0 h1 => draw_ok q0 h0 (by lia)
  have v0 := drawV_in (cutA its) 0 4
  have e0 : lfL its = drawV (cutA its) 0 4 := by
    unfold lfL
    rw [rsz_up]
    split <;> omega
  have e1 : p1L its = 0 + 1 + lfL its := rfl
  have e2 : stL its = 20 + drawV (cutA its) (p1L its) 59 := rfl
  have e3 : teL its = 4 + drawV (cutA its) (p1L its + 1) 19 := rfl
  have e4 : skL its = 8 + drawV (cutA its) (p1L its + 1 + 1) 19 := rfl
  have v1 := drawV_in (cutA its) (p1L its) 59
  have v2 := drawV_in (cutA its) (p1L its + 1) 19
  have v3 := drawV_in (cutA its) (p1L its + 1 + 1) 19
  have e5 : pPL its = p1L its + 1 + 1 + 1 := rfl
  have e6 : pJL its = pPL its + 1 + 1 + 1 + 1 := rfl
  have e7 : pTL its = pJL its + 1 := rfl
  have e8 : pRL its = pTL its + 1 + 1 + 1 := rfl
  have hsz : (TXL its).size ≤ 4 := by
    unfold TXL
    rw [txR_size]
    show 0 + (lfL its).toNat ≤ 4
    lia
  have hs := jSt_in (btJ (cutA its) (pJL its)) (TXL its) (teL its) hsz
  change 0 ≤ s1L its ∧ s1L its ≤ 6 at hs
  have hT : okT (TXL its) = true := okT_tx _ _ _ _ (by lia)
  have hL : okL (TXL its) = true := okL_tx _ _ _ _
  unfold lawNd
  refine allT_cons h (allT_cons k1 (allT_cons k2 (allT_cons (dk (by lia) (by lia)) (allT_cons ?_ (allT_cons (q (by lia) (by lia)) (allT_cons (leB2 (by lia) (by lia))
    (allT_cons (dk (by lia) (by lia)) (allT_cons (dk (by lia) (by lia)) (allT_cons (dk (by lia) (by lia)) (allT_cons hT (allT_cons (q (by lia) (by lia)) (allT_cons (leB2 (by lia) (by lia)) (allT_cons (bB_of hc)
    (allT_cons hL (allT_cons (q (by lia) (by lia)) (allT_cons (leB_iff'.2 (by lia)) (allT_cons (q (by lia) (by lia)) (allT_cons (leB2 (by lia) (by lia)) (allT_cons (leB_iff'.2 (by lia)) (allT_cons (q (by lia) (by lia)) (allT_cons (leB2 (by lia) (by lia)) (allT_cons hz allT_nil))))))))))))))))))))))
  rw [fewI_iff.2 (by lia), fewI_iff.2 (by lia), eqB_iff'.2 (rfl : (1 : Int) = 1)]; rfl
theorem law_any (w : World) (its : Array Value) (u : Bool) : (S_law its [scriptOk its] u).Holds (VV w) :=
  Spec.Holds.more (S := S_law its [] u) (fun q => by
    have hs := q _ mcS
    have go : ∀ z c, ({ S_law its (lawNd its z c) u with rawP := [0] } : Spec).Holds (VV w) → (match z with | true => !ltB 0 (lfL its) | false => ltB 0 (lfL its)) = true → putC (TXL its) (cutA its) (pPL its) (stL its) = c → (S_law its [] u).Holds (VV w) := fun z c H hz hc =>
      Spec.Holds.raw (p := []) (q := []) (Spec.Holds.less H (lawNd_all hs z c hz hc))
    cases hz : ltB 0 (lfL its) with
    | false =>
      cases hc : putC (TXL its) (cutA its) (pPL its) (stL its) with
      | false => exact go true false (R_lawzf w its u) (by show (!ltB 0 (lfL its)) = true; rw [hz]; rfl) hc
      | true => exact go true true (R_lawzt w its u) (by show (!ltB 0 (lfL its)) = true; rw [hz]; rfl) hc
    | true =>
      cases hc : putC (TXL its) (cutA its) (pPL its) (stL its) with
      | false => exact go false false (R_lawpf w its u) hz hc
      | true => exact go false true (R_lawpt w its u) hz hc) rfl
theorem all_done : PySem.Challenge.rw_pq0686_02.Holds := law1 law_any
end Mine
end

theorem PySem.Challenge.cw_pq0686_02_holds : PySem.Challenge.rw_pq0686_02.Holds :=
  Mine.all_done
