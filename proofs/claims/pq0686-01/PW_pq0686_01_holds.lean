import PyProof.Rows.All
import PyProof.CRoomFacts
import PyProof.Rules
import PyProof.WalksMore
import Wide.All
import OpenK.AllK
import Wide.FinOn
import PyProof.EnumIter
import PyProof.ListNew
import PyProof.FactsAll.list_2
import PyProof.ReprLoop
import PyProof.MeetsSeq2
import PyProof.MeetsSeq3
import Wide.BytesRules
import PyProof.SliceMore
import PySem.Challenge.RW_pq0686_01
set_option Elab.async false
section
open PySem
namespace Mine
/-! comparisons of lists without the question for room on the stack, where they stand in a def's own text -/
/-- == or != of what is on the heap: both lists, by their own method -/
def eqR (op : CmpOp) (a b : Value) : Sem Value := do
  let ta ← typeOf a
  let tb ← typeOf b
  match ta, tb with
  | .type n, .type m => match n == "list" && m == "list" with
    | true => do
      match ← tryCompare a (cmpInfo op).2.1 b with
      | some v => pure v
      | none => unsupported "eqR"
    | false => unsupported "eqR"
  | _, _ => unsupported "eqR"
def cmpR (op : CmpOp) (a b : Value) : Sem Value := match op with
  | .Eq => match a with
    | .ref x => match b with
      | .ref y => eqR .Eq (.ref x) (.ref y)
      | b => compareOp .Eq (.ref x) b
    | a => compareOp .Eq a b
  | .NotEq => match a with
    | .ref x => match b with
      | .ref y => eqR .NotEq (.ref x) (.ref y)
      | b => compareOp .NotEq (.ref x) b
    | a => compareOp .NotEq a b
  | op => compareOp op a b
def evalR1 (e : Expr) (env : Env) : Sem Value := match e with
  | .Compare l [op] [r] pos => do
    let a ← eval l env
    let b ← holding [a] (markedBehindIn op r (eval r env))
    standAt pos
    operate [a, b] (cmpR op a b)
  | e => eval e env
def testR (e : Expr) (env : Env) : Sem Bool := match e with
  | .Compare l [op] [r] pos => do
    let a ← eval l env
    let b ← holding [a] (markedBehindIn op r (eval r env))
    standAt pos
    let c ← operate [a, b] (cmpR op a b)
    holding [c] (truthy c)
  | e => isTrue e env (eval e env)
def evalR (e : Expr) (env : Env) : Sem Value := match e with
  | .BoolOp op [x, y] pos => boolOp pos op [evalR1 x env, evalR1 y env]
  | .IfExp t b o _ => do
    if ← testR t env then eval b env else eval o env
  | e => evalR1 e env
def retR (s : Stmt) (env : Env) : Sem Flow := match s with
  | .Return (some e) pos => do
    standAt pos
    return .ret (← evalR e env)
  | s => exec s env
def execR (s : Stmt) (env : Env) : Sem Flow := match s with
  | .If t [s] [] pos => do
    standAt pos
    if ← isTrue t env (eval t env) then do
      match ← retR s env with
      | .next => pure .next
      | f => pure f
    else pure .next
  | .Assign [.Name x pos'] (.IfExp t b o pos'') pos => do
    standAt pos
    let v ← evalR (.IfExp t b o pos'') env
    standAt pos'
    bindName env x v
    pure .next
  | s => retR s env
def execsR : List Stmt → Env → Sem Flow
  | [], _ => pure .next
  | s :: rest, env => do
    match ← execR s env with
    | .next => execsR rest env
    | f => pure f
/-- a def's text: the law's three parts so -/
def bodyR (env : Env) (body : List Stmt) : Sem Flow := match env.func with
  | some a => match Nat.beq a 811 || (Nat.beq a 816 || Nat.beq a 823) with
    | true => execsR body env
    | false => execs body env
  | none => execs body env
/-- a comprehension over a range's iterator: its question is answered alike both ways -/
def compR (e : Expr) (depth : Nat) (r : Addr) (acc : Value) (env : Env) : Sem Fin := match ((clausesOf e)[depth]?).elim false (·.is_async != 0) with
  | true => denote table (.compStart e depth (.ref r) acc env)
  | false => match (Code.compStart e depth (.ref r) acc env).isFrame with
    | true => denote table (.compStart e depth (.ref r) acc env)
    | false => do
      let o ← load r
      match o.cls with
      | .type n => match n == "range_iterator" with
        | true => again (.compLoop e depth (.ref r) acc env)
        | false => denote table (.compStart e depth (.ref r) acc env)
      | _ => denote table (.compStart e depth (.ref r) acc env)
end Mine
end

section
open PySem
set_option maxRecDepth 100000
namespace Mine
section
variable {M : Model} {Γ : Ctx}
open Sem (wp)
theorem eqR_sound {op : CmpOp} {x y : Addr} (hop : op = .Eq ∨ op = .NotEq) (hu : Γ.units < cLine) {Q : Value → Pos → Shared → Prop} {E : Value → Pos → Shared → Prop} {p : Pos} {s : Shared} (h : wp M Γ (eqR op (.ref x) (.ref y)) Q E p s) : wp M Γ (compareOp op (.ref x) (.ref y)) Q E p s := by
  have hc : compareOp op (.ref x) (.ref y) = richCompare op (.ref x) (.ref y) := by rcases hop with rfl | rfl <;> rfl
  rw [hc]
  unfold richCompare
  rw [Sem.wp_holding, Sem.wp_bind']
  refine Sem.wp_cRoomFor _ _ hu ?_
  have ho : oneThing? op (.ref x) (.ref y) = none := by rcases hop with rfl | rfl <;> rfl
  rw [ho]
  unfold eqR at h
  rw [Sem.wp_bind'] at h
  rw [Sem.wp_bind']
  refine Sem.wp_mono _ _ _ (fun ta p1 s1 h1 => ?_) (fun _ _ _ h => h) _ _ h
  clear h
  rw [Sem.wp_bind'] at h1
  rw [Sem.wp_bind']
  refine Sem.wp_mono _ _ _ (fun tb p2 s2 h2 => ?_) (fun _ _ _ h => h) _ _ h1
  clear h1
  cases ta with
  | type n =>
    cases tb with
    | type m =>
      cases e : (n == "list" && m == "list") with
      | false => simp only [e] at h2; exact ((Sem.wp_unsupported ..).mp h2).elim
      | true =>
        simp only [e] at h2
        rw [Bool.and_eq_true, beq_iff_eq, beq_iff_eq] at e
        obtain ⟨rfl, rfl⟩ := e
        rw [if_neg (by simp)]
        rw [Sem.wp_bind'] at h2
        show wp M Γ (pure false >>= _) _ _ _ _
        rw [Sem.wp_bind', Sem.wp_pure']
        show wp M Γ (tryCompare (.ref x) (cmpInfo op).2.1 (.ref y) >>= _) _ _ _ _
        rw [Sem.wp_bind']
        refine Sem.wp_mono _ _ _ (fun r p s h => ?_) (fun _ _ _ h => h) _ _ h2
        cases r with
        | none => exact ((Sem.wp_unsupported ..).mp h).elim
        | some v => exact h
    | _ => exact ((Sem.wp_unsupported ..).mp h2).elim
  | _ => exact ((Sem.wp_unsupported ..).mp h2).elim
theorem cmpR_sound {op : CmpOp} {a b : Value} (hu : Γ.units < cLine) {Q : Value → Pos → Shared → Prop} {E : Value → Pos → Shared → Prop} {p : Pos} {s : Shared} (h : wp M Γ (cmpR op a b) Q E p s) : wp M Γ (compareOp op a b) Q E p s := by
  cases op with
  | Eq => cases a with
    | ref x => cases b with
      | ref y => exact eqR_sound (.inl rfl) hu h
      | _ => exact h
    | _ => exact h
  | NotEq => cases a with
    | ref x => cases b with
      | ref y => exact eqR_sound (.inr rfl) hu h
      | _ => exact h
    | _ => exact h
  | _ => exact h
theorem evalR1_sound {e : Expr} {env : Env} (hu : Γ.units < cLine) {Q : Value → Pos → Shared → Prop} {E : Value → Pos → Shared → Prop} {p : Pos} {s : Shared} (h : wp M Γ (evalR1 e env) Q E p s) : wp M Γ (eval e env) Q E p s := by
  unfold evalR1 at h
  split at h
  · rw [eval_Compare1]
    rw [Sem.wp_bind'] at h ⊢
    refine Sem.wp_mono _ _ _ (fun a p s h => ?_) (fun _ _ _ h => h) _ _ h
    rw [Sem.wp_bind'] at h ⊢
    refine Sem.wp_mono _ _ _ (fun b p s h => ?_) (fun _ _ _ h => h) _ _ h
    rw [Sem.wp_bind'] at h ⊢
    refine Sem.wp_mono _ _ _ (fun _ p s h => ?_) (fun _ _ _ h => h) _ _ h
    rw [Sem.wp_operate] at h ⊢
    exact cmpR_sound hu h
  · exact h
theorem testR_sound {e : Expr} {env : Env} (hu : Γ.units < cLine) {Q : Bool → Pos → Shared → Prop} {E : Value → Pos → Shared → Prop} {p : Pos} {s : Shared} (h : wp M Γ (testR e env) Q E p s) : wp M Γ (isTrue e env (eval e env)) Q E p s := by
  unfold testR at h
  split at h
  · rw [isTrue_Compare1]
    rw [Sem.wp_bind'] at h ⊢
    refine Sem.wp_mono _ _ _ (fun a p s h => ?_) (fun _ _ _ h => h) _ _ h
    rw [Sem.wp_bind'] at h ⊢
    refine Sem.wp_mono _ _ _ (fun b p s h => ?_) (fun _ _ _ h => h) _ _ h
    rw [Sem.wp_bind'] at h ⊢
    refine Sem.wp_mono _ _ _ (fun _ p s h => ?_) (fun _ _ _ h => h) _ _ h
    rw [Sem.wp_bind', Sem.wp_operate] at h ⊢
    exact cmpR_sound hu h
  · exact h
theorem eval_And (op : BoolOp) (x y : Expr) (pos : Pos) (env : Env) : eval (.BoolOp op [x, y] pos) env = boolOp pos op [eval x env, eval y env] := rfl
theorem eval_If (t b o : Expr) (pos : Pos) (env : Env) : eval (.IfExp t b o pos) env = (do if ← isTrue t env (eval t env) then eval b env else eval o env) := rfl
theorem evalR_sound {e : Expr} {env : Env} (hu : Γ.units < cLine) {Q : Value → Pos → Shared → Prop} {E : Value → Pos → Shared → Prop} {p : Pos} {s : Shared} (h : wp M Γ (evalR e env) Q E p s) : wp M Γ (eval e env) Q E p s := by
  unfold evalR at h
  split at h
  · rename_i op x y pos
    rw [eval_And]
    unfold boolOp at h ⊢
    rw [Sem.wp_bind'] at h ⊢
    refine Sem.wp_mono _ _ _ (fun v p s h => ?_) (fun _ _ _ h => h) _ _ (evalR1_sound hu h)
    rw [Sem.wp_bind'] at h ⊢
    refine Sem.wp_mono _ _ _ (fun _ p s h => ?_) (fun _ _ _ h => h) _ _ h
    rw [Sem.wp_bind'] at h ⊢
    refine Sem.wp_mono _ _ _ (fun t p s h => ?_) (fun _ _ _ h => h) _ _ h
    split
    · exact h
    · exact h
    · rename_i h1 h2
      have h : wp M Γ (boolOp pos op [evalR1 y env]) Q E p s := by
        split at h
        · exact absurd rfl (h1 rfl)
        · exact absurd rfl (h2 rfl)
        · exact h
      exact evalR1_sound hu h
  · rw [eval_If]
    rw [Sem.wp_bind'] at h ⊢
    exact testR_sound hu h
  · exact evalR1_sound hu h
theorem retR_sound {st : Stmt} {env : Env} (hu : Γ.units < cLine) {Q : Flow → Pos → Shared → Prop} {E : Value → Pos → Shared → Prop} {p : Pos} {s : Shared} (h : wp M Γ (retR st env) Q E p s) : wp M Γ (exec st env) Q E p s := by
  unfold retR at h
  split at h
  · rw [exec_Return_some]
    rw [Sem.wp_bind'] at h ⊢
    refine Sem.wp_mono _ _ _ (fun _ p s h => ?_) (fun _ _ _ h => h) _ _ h
    rw [Sem.wp_bind'] at h ⊢
    exact evalR_sound hu h
  · exact h
theorem swaps_no {t b o : Expr} {pos : Pos} {x : Option Expr} {line : Nat} {env : Env} : swapsWith (.IfExp t b o pos) x line env = pure false := rfl
theorem execR_sound {st : Stmt} {env : Env} (hu : Γ.units < cLine) {Q : Flow → Pos → Shared → Prop} {E : Value → Pos → Shared → Prop} {p : Pos} {s : Shared} (h : wp M Γ (execR st env) Q E p s) : wp M Γ (exec st env) Q E p s := by
  unfold execR at h
  split at h
  · rw [exec_If]
    rw [Sem.wp_bind'] at h ⊢
    refine Sem.wp_mono _ _ _ (fun _ p s h => ?_) (fun _ _ _ h => h) _ _ h
    rw [Sem.wp_bind'] at h ⊢
    refine Sem.wp_mono _ _ _ (fun b p s h => ?_) (fun _ _ _ h => h) _ _ h
    cases b with
    | false => exact h
    | true =>
      rw [if_pos rfl] at h ⊢
      rw [execs_cons]
      rw [Sem.wp_bind'] at h ⊢
      exact retR_sound hu h
  · rw [exec_Assign_Name _ _ _ _ _ swaps_no]
    rw [Sem.wp_bind'] at h ⊢
    refine Sem.wp_mono _ _ _ (fun _ p s h => ?_) (fun _ _ _ h => h) _ _ h
    rw [Sem.wp_bind'] at h ⊢
    exact evalR_sound hu h
  · exact retR_sound hu h
theorem execsR_sound {env : Env} (hu : Γ.units < cLine) : ∀ {body : List Stmt} {Q : Flow → Pos → Shared → Prop} {E : Value → Pos → Shared → Prop} {p : Pos} {s : Shared}, wp M Γ (execsR body env) Q E p s → wp M Γ (execs body env) Q E p s
  | [], _, _, _, _, h => h
  | st :: rest, Q, E, p, s, h => by
    have h : wp M Γ (execR st env >>= fun f => match f with | .next => execsR rest env | f => pure f) Q E p s := h
    rw [execs_cons]
    rw [Sem.wp_bind'] at h ⊢
    refine Sem.wp_mono _ _ _ (fun f p s h => ?_) (fun _ _ _ h => h) _ _ (execR_sound hu h)
    cases f with
    | next => exact execsR_sound hu h
    | _ => exact h
theorem bodyR_sound {env : Env} (hu : Γ.units < cLine) {body : List Stmt} {Q : Flow → Pos → Shared → Prop} {E : Value → Pos → Shared → Prop} {p : Pos} {s : Shared} (h : wp M Γ (bodyR env body) Q E p s) : wp M Γ (execs body env) Q E p s := by
  unfold bodyR at h
  split at h
  · split at h
    · exact execsR_sound hu h
    · exact h
  · exact h
theorem iter_range {P : Program} {w : World} {A : Around} {E : Value → Shared → Prop} {s : Shared} {it : Addr} {Q : Value → Shared → Prop} (hT : s.TypeIs (.ref it) "range_iterator") (h : Q (.ref it) s) : wpAny (model P w) A (pyIter (.ref it)) Q E s := by
  refine wpAny_pyIter_slot hT F.slot_range_iterator_iter (wpAny_call_entry F.slot_range_iterator_iter hT F.entry_range_iterator_iter ?_ (F.args_range_iterator_iter_1 _))
  show wpAny _ _ (ret (.ref it)) _ _ s
  exact wpAny_pure ⟨_, rfl, "range_iterator", _, hT, F.slot_range_iterator_next.lookup, h⟩
theorem compR_sound {P : Program} {w : World} {e : Expr} {depth : Nat} {r : Addr} {acc : Value} {env : Env} {Q : Fin → Pos → Shared → Prop} {E : Value → Pos → Shared → Prop} {p : Pos} {s : Shared}
    (h : wp (model P w) Γ (compR e depth r acc env) (fun f _ s => (∀ p, Q f p s) ∧ s.heap.NoLimit) E p s) : wp (model P w) Γ (denote table (.compStart e depth (.ref r) acc env)) Q E p s := by
  have weak : ∀ (t : Sem Fin), wp (model P w) Γ t (fun f _ s => (∀ p, Q f p s) ∧ s.heap.NoLimit) E p s → wp (model P w) Γ t Q E p s := fun t h =>
    Sem.wp_mono _ _ t (fun _ p _ h => h.1 p) (fun _ _ _ h => h) p s h
  unfold compR at h
  split at h
  · exact weak _ h
  · rename_i ha
    split at h
    · exact weak _ h
    · rename_i hf
      rw [Sem.wp_bind'] at h
      obtain ⟨o, ho, h⟩ : ∃ o, s.heap.get? r = some o ∧ _ := by
        have h' := h
        unfold load at h'
        rw [Sem.wp_load] at h'
        exact h'
      rw [Sem.wp_pure] at h
      split at h
      · rename_i n hcls
        split at h
        · rename_i hn
          have hn : n = "range_iterator" := by simpa using hn
          subst hn
          have hq : ∀ p, Q (.again (.compLoop e depth (.ref r) acc env)) p s := by
            unfold again at h
            rw [Sem.wp_pure'] at h
            exact h.1
          have hI := iter_range (P := P) (w := w) (A := ⟨Γ.handled, frameCount Γ.below + Γ.code.weight, none, none, Γ.units⟩) (E := fun _ _ => False) (s := s) (it := r) (Q := fun v s' => v = .ref r ∧ s' = s) ⟨o, ho, hcls⟩ ⟨rfl, rfl⟩ Γ
          have hI : ∀ p, _ := fun p => hI p ⟨rfl, Nat.le_refl _, fun _ h => (nomatch h), fun _ h => (nomatch h), Nat.le_refl _⟩
          show wp (model P w) Γ (if (Code.compStart e depth (.ref r) acc env).isFrame then (compStart e depth (.ref r) acc env).onRaise (leaving env) else (compStart e depth (.ref r) acc env).onRaise (fun x => do noteFrame x env; standAt theWindowsPlace)) Q E p s
          rw [hf, if_neg (by simp), Sem.wp_onRaise]
          unfold compStart
          rw [ha]
          rw [if_neg (by simp)]
          rw [Sem.wp_bind']
          unfold ask
          rw [Sem.wp_ask, Sem.wp_pure]
          have go : ∀ p, wp (model P w) Γ (pyIter (.ref r) >>= fun v => again (.compLoop e depth v acc env)) Q (fun e p' s' => wp (model P w) Γ (do noteFrame e env; standAt theWindowsPlace) (fun x p'' s'' => E e p'' s'') E p' s') p s := fun p => by
            rw [Sem.wp_bind']
            refine Sem.wp_mono _ _ _ (fun v p' s' (hv : v = .ref r ∧ s' = s) => ?_) (fun _ _ _ h => h.elim) _ _ (hI p)
            obtain ⟨rfl, rfl⟩ := hv
            unfold again
            rw [Sem.wp_pure']
            exact hq p'
          split
          · unfold again
            rw [Sem.wp_pure']
            exact hq p
          · show wp (model P w) Γ (.rule "comprehension.iter-twice" fun _ => _) Q _ p s
            rw [Sem.wp_rule]
            split
            · rename_i g hg
              show wp (model P w) Γ (.at g.iter.pos fun _ => _) Q _ p s
              rw [Sem.wp_at]
              exact go _
            · exact go _
        · exact weak _ h
      · exact weak _ h
end
end Mine
end

section
open PySem PySem.W PySem.W.X PyProof.Rows
set_option maxRecDepth 1000000
set_option maxHeartbeats 0
namespace Mine
/-! A symbolic run of the call's trees, by the kernel's evaluation: made objects and tokens by slots, unknown addresses by letters, hints (slot numbers) for the loads, contracts for calls.
    The run gives a list of equations (Ob); it is right if it is the list of the equations of things with themselves. -/
structure Vn where
  prog : Program
  w : World
  kt : KT
  lim : Nat
abbrev Vn.M (V : Vn) : Model := model V.prog V.w
/-- blocks of addresses, the newest first: from which slot on, the address there -/
abbrev Bk := List (Nat × Nat)
noncomputable def ad (σ : Bk) (s : Nat) : Nat := List.rec (motive := fun _ => Nat) 0 (fun b _ ih => Bool.rec (motive := fun _ => Nat) ih (b.2 + (s - b.1)) (Nat.ble b.1 s)) σ
abbrev Mem := List (Nat × Obj)
def memIn (h : Heap) (l : Mem) : Prop := ∀ p ∈ l, h.get? p.1 = some p.2
structure Spec where
  code : Code
  dep : Nat
  /-- what is known -/
  need : List Bool := []
  /-- who stands below, if that matters -/
  bel : Option (List Env × Bool) := none
  pre : Mem
  /-- which of pre may change, by place -/
  touch : List Nat
  na : Nat
  nt : Nat
  res : List Nat → List Nat → Result
  /-- what the touched hold after, where it is told -/
  postT : List Nat → List Nat → List (Option Obj)
  /-- what the new ones hold -/
  postN : List Nat → List Nat → List Obj
  /-- which of pre, and which of what it leaves (the touched, then the new), stay as they are written -/
  rawP : List Nat := []
  rawQ : List Nat := []
def okC (c : Code) : Bool := match c with
  | .builtin id _ => !(id == "claim.caller")
  | _ => true
noncomputable def nth (l : List Nat) : Nat → Nat := List.rec (motive := fun _ => Nat → Nat) (fun _ => 0) (fun a _ ih i => Nat.rec (motive := fun _ => Nat) a (fun i _ => ih i) i) l
noncomputable def nthB (l : List Bool) : Nat → Bool := List.rec (motive := fun _ => Nat → Bool) (fun _ => true) (fun a _ ih i => Nat.rec (motive := fun _ => Bool) a (fun i _ => ih i) i) l
noncomputable def sel (ks ix : List Nat) : List Nat := List.rec (motive := fun _ => List Nat) [] (fun i _ ih => nth ks i :: ih) ix
noncomputable def fsts (m : Mem) : List Nat := List.rec (motive := fun _ => List Nat) [] (fun q _ ih => q.1 :: ih) m
noncomputable def lenL {α : Type} (m : List α) : Nat := List.rec (motive := fun _ => Nat) 0 (fun _ _ ih => ih + 1) m
noncomputable def Spec.touchA (S : Spec) : List Nat := sel (fsts S.pre) S.touch
structure Spec.Ends (S : Spec) (as ts : List Nat) (h h' : Heap) : Prop where
  na : as.length = S.na
  nt : ts.length = S.nt
  postT : ∀ i (hi : i < (S.postT as ts).length) o, (S.postT as ts)[i] = some o → h'.get? (nth S.touchA i) = some o
  postN : ∀ i (hi : i < (S.postN as ts).length), h'.get? (nth as i) = some (S.postN as ts)[i]
  keep : ∀ b o, h.get? b = some o → b ∉ S.touchA → h'.get? b = some o
  fresh : ∀ a ∈ as, h.objs.size ≤ a ∧ a < h'.objs.size
  apart : as.Nodup
  size : h.objs.size ≤ h'.objs.size
structure Spec.At (V : Vn) (S : Spec) (h : Heap) : Prop where
  kt : V.kt.Holds h 1 0
  mem : memIn h S.pre
  off : ∀ q ∈ S.pre, V.kt.get q.1 = none
  apart : (S.pre.map (·.1)).Nodup
  lim : V.lim ≤ h.objs.size
  need : ∀ b ∈ S.need, b = true
/-- a code's frame -/
def cenvs (c : Code) : List Env := match c.isFrame with
  | true => match c.env? with
    | some e => [e]
    | none => []
  | false => []
def envsB : List (Code × Pos) → List Env
  | [] => []
  | x :: l => cenvs x.1 ++ envsB l
/-- whether the claim's caller stands there -/
def ucB (l : List (Code × Pos)) : Bool := l.any fun x => x.1.isCaller
/-- the stack is low: few frames, little of the room beneath -/
def Low (l : List (Code × Pos)) (d : Nat) : Prop := frameCount l ≤ d ∧ unitsOf l ≤ 9 * d
def Spec.Holds (V : Vn) (S : Spec) : Prop := ∀ (Γ : Ctx) (p : Pos) (h : Heap) (g : Array GenState) (d : Drawn) (t : Nat) (os : OsState),
  Γ.code = S.code → Γ.handled = none → Low Γ.below S.dep → (∀ es, S.bel = some es → (envsB Γ.below, ucB Γ.below) = es) → S.At V h →
  ∃ as ts h' t', Returns V.M Γ p ⟨h, g, d, t, os⟩ (S.res as ts) ⟨h', g, d, t', os⟩ ∧ S.Ends as ts h h'
structure CS (V : Vn) where
  S : Spec
  ok : S.Holds V
/-- how a contract is found: how many slots it looks at; from their addresses, their objects and a number, the contract -/
structure Dp (V : Vn) where
  k : Nat
  get : List Nat → List Obj → Nat → Option (CS V)
noncomputable def kput : Nat → KT → Nat → Option Obj → KT := Nat.rec (motive := fun _ => KT → Nat → Option Obj → KT) (fun t _ _ => t)
  (fun _ ih t i o => KT.rec (motive := fun _ => KT)
    (Bool.rec (motive := fun _ => KT) (Bool.rec (motive := fun _ => KT) (.node none .nil (ih .nil (i / 2 - 1) o)) (.node none (ih .nil (i / 2) o) .nil) (Nat.beq (i % 2) 1)) (.node o .nil .nil) (Nat.beq i 0))
    (fun v l r _ _ => Bool.rec (motive := fun _ => KT) (Bool.rec (motive := fun _ => KT) (.node v l (ih r (i / 2 - 1) o)) (.node v (ih l (i / 2) o) r) (Nat.beq (i % 2) 1)) (.node o l r) (Nat.beq i 0)) t)
/-- hints: for the loads (0: a known object; s + 1: slot s), and at the end the new ones' slots and the tokens' -/
structure Hs where
  l : List Nat
  as : List Nat
  ts : List Nat
/-- trees with seams: a tree, one behind another, one behind a raise, an equation -/
inductive Tr where
  | run (t : Sem PySem.Fin)
  | seg (t : Tr) (k : PySem.Fin → Tr)
  | onr (t : Tr) (h : Value → Tr)
  | eqI (a b : Int) (k : Tr)
  | envs (k : List Env → Bool → Tr)
inductive Kn where
  | base
  | ret (c : Code) (hd : Option Value) (d : Nat) (k : Result → Sem PySem.Fin) (κ : Kn)
  | seg (k : PySem.Fin → Tr) (κ : Kn)
  | onr (h : Value → Tr) (κ : Kn)
structure St where
  σ : Bk
  nx : Nat
  τ : Bk
  nt : Nat
  T : KT
inductive Ob where
  | ok
  | stop (n m : Nat)
  | eqN (a b : Nat) (r : Ob)
  | eqC (a b : Code) (r : Ob)
  | eqB (a b : Bool) (r : Ob)
  | eqI (a b : Int) (r : Ob)
  | eqE (a b : List Env × Bool) (r : Ob)
  | eqO (a b : Obj) (r : Ob)
  | eqR (a b : Result) (r : Ob)
  | eqT (a b : Sem PySem.Fin) (r : Ob)
  | all (f : Nat → Ob)
  | allS (f : Pos → (Nat → Pos) → List (Code × Pos) → Ob)
def Ob.den : Ob → Prop
  | .ok => True
  | .stop _ _ => False
  | .eqN a b r => a = b ∧ r.den
  | .eqC a b r => a = b ∧ r.den
  | .eqB a b r => a = b ∧ r.den
  | .eqI a b r => a = b ∧ r.den
  | .eqE a b r => a = b ∧ r.den
  | .eqO a b r => a = b ∧ r.den
  | .eqR a b r => a = b ∧ r.den
  | .eqT a b r => a = b ∧ r.den
  | .all f => ∀ n, (f n).den
  | .allS f => ∀ a b c, (f a b c).den
noncomputable def Ob.one (o : Ob) : Ob := Ob.rec (motive := fun _ => Ob) .ok .stop (fun a b _ ih => .eqN a b ih) (fun a b _ ih => .eqC a b ih) (fun a b _ ih => .eqB a b ih) (fun a b _ ih => .eqI a b ih) (fun a b _ ih => .eqE a b ih) (fun a b _ ih => .eqO a b ih) (fun a b _ ih => .eqR a b ih) (fun a b _ ih => .eqT a b ih) (fun _ ih => .all ih) (fun _ ih => .allS ih) o
noncomputable def Ob.two (o : Ob) : Ob := Ob.rec (motive := fun _ => Ob) .ok (fun _ _ => .ok) (fun a _ _ ih => .eqN a a ih) (fun a _ _ ih => .eqC a a ih) (fun a _ _ ih => .eqB a a ih) (fun a _ _ ih => .eqI a a ih) (fun a _ _ ih => .eqE a a ih) (fun a _ _ ih => .eqO a a ih) (fun a _ _ ih => .eqR a a ih) (fun a _ _ ih => .eqT a a ih) (fun _ ih => .all ih) (fun _ ih => .allS ih) o
theorem Ob.den_of : ∀ {o : Ob}, o.one = o.two → o.den
  | .ok, _ => trivial
  | .stop _ _, h => nomatch (show Ob.stop _ _ = Ob.ok from h)
  | .eqN a b r, h => by
    obtain ⟨_, h2, h3⟩ := Ob.eqN.inj (show Ob.eqN a b r.one = Ob.eqN a a r.two from h)
    exact ⟨h2.symm, den_of h3⟩
  | .eqC a b r, h => by
    obtain ⟨_, h2, h3⟩ := Ob.eqC.inj (show Ob.eqC a b r.one = Ob.eqC a a r.two from h)
    exact ⟨h2.symm, den_of h3⟩
  | .eqB a b r, h => by
    obtain ⟨_, h2, h3⟩ := Ob.eqB.inj (show Ob.eqB a b r.one = Ob.eqB a a r.two from h)
    exact ⟨h2.symm, den_of h3⟩
  | .eqI a b r, h => by
    obtain ⟨_, h2, h3⟩ := Ob.eqI.inj (show Ob.eqI a b r.one = Ob.eqI a a r.two from h)
    exact ⟨h2.symm, den_of h3⟩
  | .eqE a b r, h => by
    obtain ⟨_, h2, h3⟩ := Ob.eqE.inj (show Ob.eqE a b r.one = Ob.eqE a a r.two from h)
    exact ⟨h2.symm, den_of h3⟩
  | .eqO a b r, h => by
    obtain ⟨_, h2, h3⟩ := Ob.eqO.inj (show Ob.eqO a b r.one = Ob.eqO a a r.two from h)
    exact ⟨h2.symm, den_of h3⟩
  | .eqR a b r, h => by
    obtain ⟨_, h2, h3⟩ := Ob.eqR.inj (show Ob.eqR a b r.one = Ob.eqR a a r.two from h)
    exact ⟨h2.symm, den_of h3⟩
  | .eqT a b r, h => by
    obtain ⟨_, h2, h3⟩ := Ob.eqT.inj (show Ob.eqT a b r.one = Ob.eqT a a r.two from h)
    exact ⟨h2.symm, den_of h3⟩
  | .all f, h => fun n => den_of (congrFun (Ob.all.inj (show Ob.all (fun n => (f n).one) = Ob.all (fun n => (f n).two) from h)) n)
  | .allS f, h => fun a b c => den_of (congrFun (congrFun (congrFun (Ob.allS.inj (show Ob.allS (fun a b c => (f a b c).one) = Ob.allS (fun a b c => (f a b c).two) from h)) a) b) c)
/-- what stays the same in a run -/
structure Cf where
  s₀ : Nat
  S : Spec
  /-- whether a question tells of its row (a hint each) -/
  fk : Bool
abbrev Cf.upd (C : Cf) : List Nat := C.S.touch
abbrev Go := Hs → Code → Option Value → Nat → Kn → Sem PySem.Fin → St → Ob
abbrev Hd := Go → Cf → Hs → Code → Option Value → Nat → Kn → St → Ob
noncomputable def kst (below : List (Code × Pos)) (κ : Kn) : (Nat → Pos) → List (Code × Pos) := Kn.rec (motive := fun _ => (Nat → Pos) → List (Code × Pos)) (fun _ => below) (fun c _ _ _ _ ih ps => (c, ps 0) :: ih (fun i => ps i.succ)) (fun _ _ ih => ih) (fun _ _ ih => ih) κ
noncomputable def appE (l r : List Env) : List Env := List.rec (motive := fun _ => List Env) r (fun a _ ih => a :: ih) l
/-- the frames on the stack, where that is known -/
noncomputable def kenvs (bel : Option (List Env × Bool)) (κ : Kn) : Option (List Env × Bool) := Kn.rec (motive := fun _ => Option (List Env × Bool)) bel (fun c _ _ _ _ ih => Option.rec (motive := fun _ => Option (List Env × Bool)) none (fun es => some (appE (cenvs c) es.1, es.2)) ih) (fun _ _ ih => ih) (fun _ _ ih => ih) κ
/-- who is wanted below stands there -/
noncomputable def belOk (want have_ : Option (List Env × Bool)) (o : Ob) : Ob := Option.rec (motive := fun _ => Ob) o (fun w => Option.rec (motive := fun _ => Ob) (.stop 18 2) (fun h => .eqE h w o) have_) want
noncomputable def ob {α : Type} (o : Option α) (f : α → Ob) : Ob := Option.rec (motive := fun _ => Ob) (.stop 1 0) f o
noncomputable def bf (n : Nat) (b : Bool) (x : Ob) : Ob := Bool.rec (motive := fun _ => Ob) (.stop 2 n) x b
def callTree (self : Addr) (fd : FuncData) (args : Args) : Sem PySem.Fin := do
  let q ← match fd.code with
    | .none => pure fd.qualname
    | c => do match ← field c 1 with
      | .str q _ => pure q
      | _ => pure fd.qualname
  let env ← newFunctionEnv fd.scope fd.globals fd.closure (← bindArgs fd args) (q ++ ".<locals>.") (some self) fd.code none fd.builtins
  pure (.again (match fd.body with | .stmts b => .func b env | .expr e => .expr e env))
/-- what stands for the caller's frame at the last one -/
def backV (b : Bool) : Value := match b with
  | true => .notImplemented
  | false => .none
def keptM (b : Bool) (env : Env) (imp_ : Bool) : List Env → Sem Value
  | [] => if env.scope.isGenerator || env.scope.isCoroutine then pure .none else pure (backV b)
  | caller :: l => keptBack env imp_ (caller :: l)
def readyM (b : Bool) : List Env → Sem Unit
  | [] => pure ()
  | env :: outer => do
    let some f := env.frame | unsupported "frame:not-modelled"
    if ((← load f).slots.getD 3 none).isSome then return
    let imp_ ← behindIsImport env outer
    let back ← keptM b env imp_ outer
    update f fun o => { o with slots := #[some env.code, some (.ref env.globals), o.slots.getD 2 none, some back, o.slots.getD 4 none, env.func.map Value.ref,
                                            some (.ref env.builtins)]
                                          ++ (env.cells.map fun c => some (.ref c.2)).toArray }
    readyM b outer
def frameObjM (b : Bool) : List Env → Sem (Option Value)
  | [] => pure none
  | env :: outer => do
    readyM b (env :: outer)
    return env.frame.map Value.ref
/-- a row of the traceback, for the frame that stands first -/
noncomputable def noteM (e : Value) (f : Addr) (es : List Env) (b : Bool) : Sem PySem.Fin := do
  let head ← field e 1
  if head != .none then setField head 3 .none
  let fr ← (do match ← frameObjM b es with
    | some f => pure f
    | none => unsupported "internal:frame-not-on-the-stack")
  let acts ← stack
  let t ← newFields "traceback" [head, fr, .none, rawInt f, .none, Z.cellQ 0 (Z.placeOf f (head != .none) acts), Z.cellQ 1 (Z.placeOf f (head != .none) acts), Z.cellQ 2 (Z.placeOf f (head != .none) acts), Z.cellQ 3 (Z.placeOf f (head != .none) acts), Z.cellQ 4 (Z.placeOf f (head != .none) acts), Z.cellQ 5 (Z.placeOf f (head != .none) acts)]
  setField e 1 t
  pure (.done .next)
/-- noteFrame, its two comparisons of frames as equations -/
noncomputable def noteTr (e : Value) (env : Env) (k : Tr) : Tr := match env.frame with
  | none => .run (unsupported "frame:not-modelled")
  | some f => .seg (.run (do
      let head ← field e 1
      match head with
      | .none => pure (.done .brk)
      | h => do pure (.done (.ret (← field h 3))))) fun fin => match fin with
    | .done (.ret (.int j t)) => .eqI j f (.eqI t 0 k)
    | _ => .envs fun es b => match es with
      | [] => .run (unsupported "internal:frame-not-on-the-stack")
      | e0 :: es => match e0.frame with
        | none => .run (unsupported "internal:frame-not-on-the-stack")
        | some f0 => .eqI f0 f (.seg (.run (noteM e f (e0 :: es) b)) fun _ => k)
/-- what leaving a frame does to an exception in flight -/
noncomputable def leavingTr (env : Env) (e : Value) : Tr := noteTr e env (.run (do setFlight e none; .raise e))
noncomputable def turnTr (env : Env) (e : Value) : Tr := noteTr e env (.run (do theTreesLotGoes e; .raise e))
def hasTry : List Stmt → Bool
  | [] => false
  | .Try .. :: _ => true
  | _ :: l => hasTry l
noncomputable def tryTr (body : List Stmt) (handlers : List ExceptHandler) (env : Env) (pos : Pos) : Tr := .onr (.run (do
    standAt pos
    pure (.done (← execs body env)))) fun e => noteTr e env (.run (do
    if handlers.isEmpty then .raise e
    setFlight e none
    pure (.done (← handleBy e env handlers))))
noncomputable def bodyTr (env : Env) : List Stmt → Tr
  | [] => .run (pure (.done .next))
  | .Try body handlers [] [] pos :: rest => .seg (tryTr body handlers env pos) fun fin => match fin with
    | .done .next => bodyTr env rest
    | f => .run (pure f)
  | s :: rest => .seg (.run (do pure (.done (← exec s env)))) fun fin => match fin with
    | .done .next => bodyTr env rest
    | f => .run (pure f)
noncomputable def funcTr (body : List Stmt) (env : Env) : Tr := match hasTry body with
  | false => .onr (.run (do
    point
    match ← bodyR env body with
    | .ret v => ret v
    | _ => ret .none)) (leavingTr env)
  | true => .onr (.seg (bodyTr env body) fun fin => match fin with
    | .done (.ret v) => .run (ret v)
    | _ => .run (ret .none)) (leavingTr env)
def ownedOf (o : Obj) : PySem.Fin := match o.cls, o.data with
  | .type n, .fields vs =>
    if ["enumerate", "zip", "dict_itemiterator", "dict_reverseitemiterator", "odict_iterator", "itertools.zip_longest", "itertools.pairwise"].contains n then
      match (vs[0]? : Option Value) with
      | some (.int j t) => .done (.ret (.int j t))
      | _ => .done .brk
    else .done .brk
  | _, _ => .done .brk
/-- a for's turn over what hands out its own tuple -/
noncomputable def forTr (target : Expr) (it : Value) (body orelse : List Stmt) (env : Env) : Tr :=
  let rest (v : Value) : Sem PySem.Fin := do
    assign target env v
    match ← execs body env with
    | .next | .cont => again (.forLoop target it body orelse env)
    | .brk => pure (.done .next)
    | .ret v => pure (.done (.ret v))
  .onr (.seg (.run (do
    standAt target.pos
    match ← (pyNext it).onRaise (fun _ => standAt { target.pos with line := 0 }) with
    | none => pure (PySem.Fin.done .brk)
    | some v => pure (PySem.Fin.done (.ret v)))) fun fin => match fin with
  | .done (.ret v) => match it, v with
    | .ref r, .ref a =>
      .seg (.run (do pure (ownedOf (← load r)))) fun fin => match fin with
      | .done (.ret (.int j t)) => .eqI j a (.eqI t 0 (.run (do
          rule "for.unpacks-the-owned-tuple"
          updateField r 0 .none
          rest v)))
      | _ => .run (rest v)
    | _, _ => .run (rest v)
  | _ => .run (again (.block orelse env))) (turnTr env)
noncomputable def enterTree (c : Code) : Tr := match c with
  | .call (.ref a) args => .run (do
     let o ← load a
     match o.data with
     | .func fd => match fd.scope.isGenerator with
       | false => match fd.scope.isCoroutine with
         | false => callTree a fd args
         | true => denote table c
       | true => denote table c
     | _ => denote table c)
  | .func body env => funcTr body env
  | .forLoop target it body orelse env => match target with
    | .Tuple .. => forTr target it body orelse env
    | _ => .onr (.run (forTurn target it body orelse env)) (turnTr env)
  | .whileLoop test body orelse env => .onr (.run (whileTurn test body orelse env)) (turnTr env)
  | .compStart e depth it acc env => match it with
    | .ref r => .run (compR e depth r acc env)
    | it => .run (denote table (.compStart e depth it acc env))
  | c => .run (denote table c)
noncomputable def hTr (T : Tr) : Hd := Tr.rec (motive := fun _ => Hd) (fun t ih _ hs c hd d κ st => ih hs c hd d κ t st) (fun _ k r _ ih C hs c hd d κ st => r ih C hs c hd d (.seg k κ) st)
  (fun _ h r _ ih C hs c hd d κ st => r ih C hs c hd d (.onr h κ) st) (fun a b _ r ih C hs c hd d κ st => .eqI a b (r ih C hs c hd d κ st)) (fun _ r ih C hs c hd d κ st => Option.rec (motive := fun _ => Ob) (.stop 19 0) (fun es => r (appE (cenvs c) es.1) es.2 ih C hs c hd d κ st) (kenvs C.S.bel κ)) T
noncomputable def allN (b n : Nat) : (List Nat → Ob) → Ob := Nat.rec (motive := fun _ => (List Nat → Ob) → Ob) (fun P => P []) (fun _ ih P => .all fun a : Nat => ih fun l => P ((a + b) :: l)) n
/-- the slots that a contract looks at, from the hints: slots, addresses, objects, hints left -/
noncomputable def slotsOk (st : St) (n : Nat) : List Nat → (List Nat → List Nat → List Obj → List Nat → Ob) → Ob := Nat.rec (motive := fun _ => List Nat → (List Nat → List Nat → List Obj → List Nat → Ob) → Ob) (fun l go => go [] [] [] l)
  (fun _ ih l go => List.rec (motive := fun _ => Ob) (.stop 3 0) (fun k l _ => Nat.rec (motive := fun _ => Ob) (.stop 3 1) (fun k _ => ob (st.T.get k) fun o => ih l fun ks as os l => go (k :: ks) (ad st.σ k :: as) (o :: os) l) k) l) n
/-- 1000: the count of slots stands ahead of them -/
noncomputable def slotsDyn (st : St) (k : Nat) (l : List Nat) (go : List Nat → List Nat → List Obj → List Nat → Ob) : Ob := Bool.rec (motive := fun _ => Ob) (slotsOk st k l go) (List.rec (motive := fun _ => Ob) (.stop 3 4) (fun n l _ => slotsOk st n l go) l) (Nat.beq k 1000)
/-- the pre stands in these slots -/
noncomputable def preOk (st : St) (m : Mem) : List Nat → Ob → Ob := List.rec (motive := fun _ => List Nat → Ob → Ob) (fun ks go => List.rec (motive := fun _ => Ob) go (fun _ _ _ => .stop 3 2) ks)
  (fun q _ ih ks go => List.rec (motive := fun _ => Ob) (.stop 3 3) (fun k ks _ => .eqN (ad st.σ k) q.1 (ob (st.T.get k) fun o => .eqO o q.2 (ih ks go))) ks) m
/-- what is wanted is known: by evaluation (0), or by the own contract's knowledge -/
noncomputable def needOk (own : List Bool) (m : List Bool) : List Nat → (List Nat → Ob) → Ob := List.rec (motive := fun _ => List Nat → (List Nat → Ob) → Ob) (fun l go => go l)
  (fun b _ ih l go => List.rec (motive := fun _ => Ob) (.stop 4 0) (fun k l _ => .eqB b (Nat.rec (motive := fun _ => Bool) true (fun k _ => nthB own k) k) (ih l go)) l) m
noncomputable def putL (T : KT) (kp : List Nat) : List (Option Obj) → KT := List.rec (motive := fun _ => List (Option Obj) → KT) (fun _ => T) (fun k _ ih m => List.rec (motive := fun _ => KT) T (fun q m _ => kput 40 (ih m) k q) m) kp
noncomputable def blocks (σ : Bk) (nx n' : Nat) (as : List Nat) : Bk := List.rec (motive := fun _ => Nat → Bk → Bk) (fun i σ => (i, n') :: σ) (fun a _ ih i σ => ih (i + 1) ((i, a) :: σ)) as nx σ
noncomputable def nodupB (l : List Nat) : Bool := List.rec (motive := fun _ => Bool) true (fun a l ih => and (not (List.rec (motive := fun _ => Bool) false (fun b _ jh => or (Nat.beq a b) jh) l)) ih) l
noncomputable def inB (a : Nat) (l : List Nat) : Bool := List.rec (motive := fun _ => Bool) false (fun b _ jh => or (Nat.beq a b) jh) l
noncomputable def allB (f : Nat → Bool) (l : List Nat) : Bool := List.rec (motive := fun _ => Bool) true (fun a _ ih => and (f a) ih) l
noncomputable def adAll (σ : Bk) (l : List Nat) : List Nat := List.rec (motive := fun _ => List Nat) [] (fun a _ ih => ad σ a :: ih) l
/-- tokens; behind 777: an address; behind 778: a number -/
noncomputable def tsAll (σ τ : Bk) (l : List Nat) : Nat → List Nat := List.rec (motive := fun _ => Nat → List Nat) (fun _ => []) (fun a _ ih m => Nat.rec (motive := fun _ => List Nat)
  (Bool.rec (motive := fun _ => List Nat) (Bool.rec (motive := fun _ => List Nat) (ad τ a :: ih 0) (ih 2) (Nat.beq a 778)) (ih 1) (Nat.beq a 777)) (fun m _ => Nat.rec (motive := fun _ => List Nat) (ad σ a :: ih 0) (fun _ _ => a :: ih 0) m) m) l
noncomputable def iota (n : Nat) : Nat → List Nat := Nat.rec (motive := fun _ => Nat → List Nat) (fun _ => []) (fun _ ih i => i :: ih (i + 1)) n
/-- the objects in the slots are the ones said -/
noncomputable def finOk (st : St) (ks : List Nat) : List (Option Obj) → Ob := List.rec (motive := fun _ => List (Option Obj) → Ob) (fun m => List.rec (motive := fun _ => Ob) .ok (fun _ _ _ => .stop 6 0) m)
  (fun k _ ih m => List.rec (motive := fun _ => Ob) (.stop 6 1) (fun q m _ => Option.rec (motive := fun _ => Ob) (ih m) (fun q => ob (st.T.get k) fun o => .eqO o q (ih m)) q) m) ks
noncomputable def app (l r : List Nat) : List Nat := List.rec (motive := fun _ => List Nat) r (fun a _ ih => a :: ih) l
noncomputable def appO (l : List (Option Obj)) (r : List Obj) : List (Option Obj) := List.rec (motive := fun _ => List (Option Obj)) (List.rec (motive := fun _ => List (Option Obj)) [] (fun a _ ih => some a :: ih) r) (fun a _ ih => a :: ih) l
noncomputable def endF (C : Cf) (hs : Hs) (r : Result) (st : St) : Ob :=
  bf 60 (and (nodupB hs.as) (and (allB (fun s => and (Nat.ble C.s₀ s) (Nat.blt s st.nx)) hs.as) (and (Nat.beq (lenL hs.as) C.S.na) (and (Nat.beq (lenL (tsAll st.σ st.τ hs.ts 0)) C.S.nt) (and (Nat.beq (lenL (C.S.postT (adAll st.σ hs.as) (tsAll st.σ st.τ hs.ts 0))) (lenL C.S.touch)) (and (Nat.beq (lenL (C.S.postN (adAll st.σ hs.as) (tsAll st.σ st.τ hs.ts 0))) C.S.na) (allB (fun i => Nat.blt i C.s₀) C.S.touch)))))))
    (.eqR r (C.S.res (adAll st.σ hs.as) (tsAll st.σ st.τ hs.ts 0)) (finOk st (app C.S.touch hs.as) (appO (C.S.postT (adAll st.σ hs.as) (tsAll st.σ st.τ hs.ts 0)) (C.S.postN (adAll st.σ hs.as) (tsAll st.σ st.τ hs.ts 0)))))
noncomputable def retH (r : Result) : Hd := fun ih C hs _ _ _ κ st => Kn.rec (motive := fun _ => Ob)
  (endF C hs r st) (fun c hd d k κ _ => ih hs c hd d κ (k r) st) (fun _ _ _ => .stop 7 0) (fun _ _ _ => .stop 7 1) κ
noncomputable def spec (L : Nat) (C : Cf) (have_ : Option (List Env × Bool)) (S : Spec) (ks l as ts : List Nat) (d : Nat) (hd : Option Value) (c' : Code) (st : St) (go : List Nat → List Nat → Hs → St → Ob) : Ob :=
  Option.rec (motive := fun _ => Ob)
    (.eqC c' S.code (belOk S.bel have_ (preOk st S.pre ks (needOk C.S.need S.need l fun l => bf 8 (and (Nat.ble d S.dep) (and (nodupB ks) (and (Nat.blt (st.nx + S.na) 1000000) (and (allB (fun i => Nat.blt i (lenL ks)) S.touch) (allB (fun k => or (Nat.ble C.s₀ k) (inB k C.upd)) (sel ks S.touch))))))
      (allN L S.na fun bs => allN 0 S.nt fun us => .all fun n' => .all fun t' => bf 9 (and (Nat.beq (lenL (S.postT bs us)) (lenL S.touch)) (Nat.beq (lenL (S.postN bs us)) S.na))
        (go bs us ⟨l, as, ts⟩ ⟨blocks st.σ st.nx (n' + L) bs, st.nx + S.na, blocks st.τ st.nt t' us, st.nt + S.nt, putL st.T (app (sel ks S.touch) (iota S.na st.nx)) (appO (S.postT bs us) (S.postN bs us))⟩))))))
    (fun _ => .stop 8 0) hd
/-- a call by a contract: its slots, its number, itself -/
noncomputable def specD {V : Vn} (C : Cf) (have_ : Option (List Env × Bool)) (D : Dp V) (hs : Hs) (d : Nat) (hd : Option Value) (c' : Code) (st : St) (go : Spec → List Nat → List Nat → Hs → St → Ob) : Ob :=
  slotsDyn st D.k hs.l fun ks as os l => List.rec (motive := fun _ => Ob) (.stop 5 0) (fun alt l _ => Option.rec (motive := fun _ => Ob) (.stop 5 1) (fun S => spec V.lim C have_ S.S ks l hs.as hs.ts d hd c' st (go S.S)) (D.get as os alt)) l
section
variable (V : Vn) (F : Code → Option (Dp V))
noncomputable def inl (c' : Code) (h : Option Value) (k : Result → Sem PySem.Fin) : Hd := fun ih C hs c hd d κ st => bf 10 (and (okC c') (Nat.ble d 900))
  (Option.rec (motive := fun _ => Ob) (hTr (enterTree c') ih C hs c' hd (d + 5) (.ret c hd d k κ) st)
    (fun e => Value.rec (motive := fun _ => Ob) (.stop 9 0) (.stop 9 1) (.stop 9 2) (fun _ => .stop 9 3) (fun _ _ => .stop 9 4) (fun _ _ => .stop 9 5) (fun _ _ => .stop 9 6) (fun _ _ => .stop 9 7) (fun _ => .stop 9 8) (fun _ => .stop 9 9)
      (fun a => hTr (enterTree c') ih C hs c' (some (.ref a)) (d + 5) (.ret c hd d k κ) st) e) h)
noncomputable def hCall (c' : Code) (h : Option Value) (k : Result → Sem PySem.Fin) : Hd := fun ih C hs c hd d κ st => Option.rec (motive := fun _ => Ob) (inl c' h k ih C hs c hd d κ st)
  (fun D => Option.rec (motive := fun _ => Ob) (specD C (kenvs C.S.bel (.ret c hd d k κ)) D hs (d + 5) hd c' st fun S as ts hs st' => ih hs c hd d κ (k (S.res as ts)) st') (fun _ => .stop 8 1) h) (F c')
noncomputable def tail (c' : Code) : Hd := fun ih C hs _ hd d κ st => bf 11 (and (okC c') (and c'.quiet (Nat.ble d 900))) (hTr (enterTree c') ih C hs c' hd d κ st)
noncomputable def hAgain (c' : Code) : Hd := fun ih C hs c hd d κ st => Option.rec (motive := fun _ => Ob) (tail c' ih C hs c hd d κ st)
  (fun D => bf 12 (and (okC c') c'.quiet) (specD C (kenvs C.S.bel κ) D hs d hd c' st fun S as ts hs st' => retH (S.res as ts) ih C hs c hd d κ st')) (F c')
noncomputable def hFin (f : PySem.Fin) : Hd := PySem.Fin.rec (motive := fun _ => Hd) (fun fl => retH (.ok fl)) (fun c => hAgain V F c) f
noncomputable def hPure (f : PySem.Fin) : Hd := fun ih C hs c hd d κ st => Kn.rec (motive := fun _ => Ob) (hFin V F f ih C hs c hd d .base st) (fun c1 hd1 d1 k κ' _ => hFin V F f ih C hs c hd d (.ret c1 hd1 d1 k κ') st)
  (fun k κ' _ => hTr (k f) ih C hs c hd d κ' st) (fun _ _ r => r) κ
noncomputable def hRaise (e : Value) : Hd := fun ih C hs c hd d κ st => Kn.rec (motive := fun _ => Ob) (retH (.error e) ih C hs c hd d .base st) (fun c1 hd1 d1 k κ' _ => retH (.error e) ih C hs c hd d (.ret c1 hd1 d1 k κ') st)
  (fun _ _ r => r) (fun h κ' _ => hTr (h e) ih C hs c hd d κ' st) κ
noncomputable def hSkip (k : Unit → Sem PySem.Fin) : Hd := fun ih _ hs c hd d κ st => ih hs c hd d κ (k ()) st
/-- a load: by the known heap, or by a slot -/
noncomputable def hLoad (a : Addr) (k : Obj → Sem PySem.Fin) : Hd := fun ih _ hs c hd d κ st => List.rec (motive := fun _ => Ob)
  (.stop 13 0)
  (fun s r _ => Nat.rec (motive := fun _ => Ob) (ob (V.kt.get a) fun o => ih ⟨r, hs.as, hs.ts⟩ c hd d κ (k o) st)
    (fun s _ => .eqN a (ad st.σ s) (ob (st.T.get s) fun o => ih ⟨r, hs.as, hs.ts⟩ c hd d κ (k o) st)) s) hs.l
noncomputable def hUpd (a : Addr) (f : Obj → Obj) (k : Unit → Sem PySem.Fin) : Hd := fun ih C hs c hd d κ st => List.rec (motive := fun _ => Ob)
  (.stop 14 0)
  (fun s r _ => Nat.rec (motive := fun _ => Ob) (.stop 14 1)
    (fun s _ => .eqN a (ad st.σ s) (bf 14 (or (Nat.ble C.s₀ s) (inB s C.upd)) (ob (st.T.get s) fun o => bf 15 (not (f o).isFreed) (ih ⟨r, hs.as, hs.ts⟩ c hd d κ (k ()) ⟨st.σ, st.nx, st.τ, st.nt, kput 40 st.T s (some (f o))⟩)))) s) hs.l
noncomputable def hAlloc (o : Obj) (k : Addr → Sem PySem.Fin) : Hd := fun ih _ hs c hd d κ st => bf 16 (and (not o.isFreed) (Nat.blt st.nx 1000000)) (ih hs c hd d κ (k (ad st.σ st.nx)) ⟨st.σ, st.nx + 1, st.τ, st.nt, kput 40 st.T st.nx (some o)⟩)
noncomputable def hFresh (k : Tok → Sem PySem.Fin) : Hd := fun ih _ hs c hd d κ st => ih hs c hd d κ (k (ad st.τ st.nt)) ⟨st.σ, st.nx, st.τ, st.nt + 1, st.T⟩
/-- n steps that change nothing -/
noncomputable def adv (st : St) (n : Nat) : Sem PySem.Fin → List Nat → (Sem PySem.Fin → List Nat → Ob) → Ob := Nat.rec (motive := fun _ => Sem PySem.Fin → List Nat → (Sem PySem.Fin → List Nat → Ob) → Ob) (fun t l K => K t l)
  (fun _ ih t l K => Sem.rec (motive := fun _ => Ob)
    (fun _ => .stop 62 0) (fun _ => .stop 62 1) (fun _ => .stop 62 2) (fun _ => .stop 62 3) (fun _ k _ => ih (k ()) l K) (fun _ k _ => ih (k ()) l K)
    (fun a _ k _ => List.rec (motive := fun _ => Ob) (.stop 13 1) (fun s r _ => Nat.rec (motive := fun _ => Ob) (ob (V.kt.get a) fun o => ih (k o) r K) (fun s _ => .eqN a (ad st.σ s) (ob (st.T.get s) fun o => ih (k o) r K)) s) l)
    (fun _ _ _ _ _ => .stop 62 4) (fun _ _ _ => .stop 62 5)
    (fun a k _ => List.rec (motive := fun _ => Ob) (.stop 13 1) (fun s r _ => Nat.rec (motive := fun _ => Ob) (ob (V.kt.get a) fun o => ih (k (some o)) r K) (fun s _ => .eqN a (ad st.σ s) (ob (st.T.get s) fun o => ih (k (some o)) r K)) s) l)
    (fun _ k _ => ih (k ()) l K) (fun _ _ _ => .stop 62 6) (fun _ _ => .stop 62 7) (fun _ _ => .stop 62 8) (fun _ _ _ _ => .stop 62 9) (fun _ _ _ _ => .stop 62 10) (fun _ _ _ _ _ _ => .stop 62 11) (fun _ _ _ => .stop 62 12)
    (fun _ _ _ => .stop 62 13) (fun _ _ _ => .stop 62 14) (fun _ _ _ _ _ => .stop 62 15) (fun _ _ _ _ _ => .stop 62 16) (fun _ _ => .stop 62 17) (fun _ _ _ => .stop 62 18) (fun _ _ => .stop 62 19) (fun _ _ _ _ _ _ => .stop 62 20) t) n
/-- a question: with its hint 0 (or none told) as it is; with n + 1: by the row's two answers, n steps each, behind which they must be one -/
noncomputable def hAsk (k : Setting → Sem PySem.Fin) : Hd := fun ih C hs c hd d κ st => Bool.rec (motive := fun _ => Ob) (ih hs c hd d κ (k ⟨V.prog, V.w.params⟩) st)
  (List.rec (motive := fun _ => Ob) (.stop 61 0) (fun m l _ => Nat.rec (motive := fun _ => Ob) (ih ⟨l, hs.as, hs.ts⟩ c hd d κ (k ⟨V.prog, V.w.params⟩) st)
    (fun m _ => adv V st m (k ⟨V.prog, (V.w.withFollow "special-get-raises" true).params⟩) l fun t1 l => adv V st m (k ⟨V.prog, (V.w.withFollow "special-get-raises" false).params⟩) l fun t2 l => .eqT t1 t2 (ih ⟨l, hs.as, hs.ts⟩ c hd d κ t1 st)) m) hs.l) C.fk
noncomputable def hHandled (own : Bool) (k : Option Value → Sem PySem.Fin) : Hd := fun ih _ hs c hd d κ st => bf 17 (not own) (ih hs c hd d κ (k hd) st)
noncomputable def hStack (k : List (Code × Pos) → Sem PySem.Fin) : Hd := fun ih _ hs c hd d κ st => .allS fun p ps below => ih hs c hd d κ (k ((c, p) :: kst below κ ps)) st
noncomputable def hNay (n : Nat) : Hd := fun _ _ _ _ _ _ _ _ => .stop n 0
noncomputable def disp (t : Sem PySem.Fin) : Hd := Sem.rec (motive := fun _ => Hd)
  (fun a => hPure V F a) (fun e => hRaise e) (fun _ => hNay 30) (fun _ => hNay 31) (fun _ k _ => hSkip k) (fun _ k _ => hSkip k)
  (fun a _ k _ => hLoad V a k) (fun a _ f k _ => hUpd a f k) (fun o k _ => hAlloc o k) (fun a k _ => hLoad V a fun o => k (some o)) (fun _ k _ => hSkip k) (fun _ _ _ => hNay 32)
  (fun k _ => hFresh k) (fun k _ => hAsk V k) (fun _ _ _ _ => hNay 33) (fun _ _ _ _ => hNay 34) (fun c h _ _ k _ => hCall V F c h k) (fun own k _ => hHandled own k)
  (fun _ _ _ => hNay 35) (fun _ _ _ => hNay 36) (fun _ _ _ _ _ => hNay 37) (fun _ _ _ _ _ => hNay 38) (fun k _ => hStack k) (fun _ _ _ => hNay 39) (fun _ _ => hNay 40) (fun _ _ _ _ _ _ => hNay 41) t
noncomputable def sim (C : Cf) (n : Nat) : Go := Nat.rec (motive := fun _ => Go) (fun _ _ _ _ _ _ _ => .stop 50 0) (fun _ ih hs c hd d κ t st => disp V F t ih C hs c hd d κ st) n
noncomputable def preT (m : Mem) : Nat → KT → KT := List.rec (motive := fun _ => Nat → KT → KT) (fun _ T => T) (fun q _ ih i T => ih (i + 1) (kput 40 T i (some q.2))) m
noncomputable def st₀ (S : Spec) (n t : Nat) : St := ⟨blocks [] 0 n (fsts S.pre), lenL S.pre, [(0, t)], 0, preT S.pre 0 .nil⟩
noncomputable def startB (fk : Bool) (S : Spec) (fuel : Nat) (hs : Hs) (n t : Nat) : Ob :=
  bf 51 (and (okC S.code) (and (Nat.ble S.dep 900) (Nat.ble (lenL S.pre) 1000))) (hTr (enterTree S.code) (sim V F ⟨lenL S.pre, S, fk⟩ fuel) ⟨lenL S.pre, S, fk⟩ hs S.code none S.dep .base (st₀ S n t))
noncomputable def start (S : Spec) (fuel : Nat) (hs : Hs) (n t : Nat) : Ob := startB V F false S fuel hs n t
end
theorem start_rfl : @start = @start := rfl
end Mine
lay_z Mine.start
name_z startZ for Mine.start by Mine.start_rfl
end

section
open PySem PySem.W PySem.W.X PyProof.Rows
set_option maxRecDepth 100000
namespace Mine
theorem kput_nil (n : Nat) (i : Nat) (o : Option Obj) : kput (n + 1) .nil i o = if i = 0 then .node o .nil .nil else if i % 2 = 1 then .node none (kput n .nil (i / 2) o) .nil else .node none .nil (kput n .nil (i / 2 - 1) o) := by
  show Bool.rec (motive := fun _ => KT) (Bool.rec (motive := fun _ => KT) (.node none .nil (kput n .nil (i / 2 - 1) o)) (.node none (kput n .nil (i / 2) o) .nil) (Nat.beq (i % 2) 1)) (.node o .nil .nil) (Nat.beq i 0) = _
  rw [BT.beq_eq, BT.beq_eq]
  by_cases h0 : i = 0
  · rw [if_pos h0, decide_eq_true h0]
  · rw [if_neg h0, decide_eq_false h0]
    by_cases p : i % 2 = 1
    · rw [if_pos p, decide_eq_true p]
    · rw [if_neg p, decide_eq_false p]
theorem kput_node (n : Nat) (v : Option Obj) (l r : KT) (i : Nat) (o : Option Obj) : kput (n + 1) (.node v l r) i o = if i = 0 then .node o l r else if i % 2 = 1 then .node v (kput n l (i / 2) o) r else .node v l (kput n r (i / 2 - 1) o) := by
  show Bool.rec (motive := fun _ => KT) (Bool.rec (motive := fun _ => KT) (.node v l (kput n r (i / 2 - 1) o)) (.node v (kput n l (i / 2) o) r) (Nat.beq (i % 2) 1)) (.node o l r) (Nat.beq i 0) = _
  rw [BT.beq_eq, BT.beq_eq]
  by_cases h0 : i = 0
  · rw [if_pos h0, decide_eq_true h0]
  · rw [if_neg h0, decide_eq_false h0]
    by_cases p : i % 2 = 1
    · rw [if_pos p, decide_eq_true p]
    · rw [if_neg p, decide_eq_false p]
theorem get_put : ∀ (n : Nat) (t : KT) (i j : Nat) (o : Option Obj), i + 1 < 2 ^ n → (kput n t i o).get j = if j = i then o else t.get j
  | 0, _, i, _, _, h => by simp at h
  | n + 1, .nil, i, j, o, h => by
    rw [Nat.pow_succ] at h
    rw [kput_nil]
    by_cases h0 : i = 0
    · subst h0
      rw [if_pos rfl, KT.get_node]
      by_cases hj : j = 0
      · simp [hj]
      · simp [hj, KT.get]
    · rw [if_neg h0]
      by_cases p : i % 2 = 1
      · rw [if_pos p, KT.get_node, get_put n .nil (i / 2) (j / 2) o (by omega)]
        by_cases hj : j = 0
        · subst hj; rw [if_pos rfl, if_neg (Ne.symm h0)]; rfl
        · rw [if_neg hj]
          by_cases q : j % 2 = 1
          · rw [if_pos q]
            by_cases e : j = i
            · rw [if_pos (by rw [e]), if_pos e]
            · rw [if_neg (by omega), if_neg e]; rfl
          · rw [if_neg q, if_neg (by intro e; exact q (e ▸ p))]; rfl
      · rw [if_neg p, KT.get_node, get_put n .nil (i / 2 - 1) (j / 2 - 1) o (by omega)]
        by_cases hj : j = 0
        · subst hj; rw [if_pos rfl, if_neg (Ne.symm h0)]; rfl
        · rw [if_neg hj]
          by_cases q : j % 2 = 1
          · rw [if_pos q, if_neg (by intro e; exact p (e ▸ q))]; rfl
          · rw [if_neg q]
            by_cases e : j = i
            · rw [if_pos (by rw [e]), if_pos e]
            · rw [if_neg (by omega), if_neg e]; rfl
  | n + 1, .node v l r, i, j, o, h => by
    rw [Nat.pow_succ] at h
    rw [kput_node]
    by_cases h0 : i = 0
    · subst h0
      rw [if_pos rfl, KT.get_node, KT.get_node]
      by_cases hj : j = 0
      · simp [hj]
      · simp [hj]
    · rw [if_neg h0]
      by_cases p : i % 2 = 1
      · rw [if_pos p, KT.get_node, KT.get_node, get_put n l (i / 2) (j / 2) o (by omega)]
        by_cases hj : j = 0
        · subst hj; rw [if_pos rfl, if_neg (Ne.symm h0), if_pos rfl]
        · rw [if_neg hj, if_neg hj]
          by_cases q : j % 2 = 1
          · rw [if_pos q, if_pos q]
            by_cases e : j = i
            · rw [if_pos (by rw [e]), if_pos e]
            · rw [if_neg (by omega), if_neg e]
          · rw [if_neg q, if_neg q, if_neg (by intro e; exact q (e ▸ p))]
      · rw [if_neg p, KT.get_node, KT.get_node, get_put n r (i / 2 - 1) (j / 2 - 1) o (by omega)]
        by_cases hj : j = 0
        · subst hj; rw [if_pos rfl, if_neg (Ne.symm h0), if_pos rfl]
        · rw [if_neg hj, if_neg hj]
          by_cases q : j % 2 = 1
          · rw [if_pos q, if_pos q, if_neg (by intro e; exact p (e ▸ q))]
          · rw [if_neg q, if_neg q]
            by_cases e : j = i
            · rw [if_pos (by rw [e]), if_pos e]
            · rw [if_neg (by omega), if_neg e]
theorem put_get {t : KT} {i j : Nat} {o : Option Obj} (h : i < 1000000) : (kput 40 t i o).get j = if j = i then o else t.get j := by
  refine get_put 40 t i j o ?_
  have : (2:Nat)^40 = 1099511627776 := by decide
  omega
theorem bfT {n : Nat} {b : Bool} {x : Ob} (h : (bf n b x).den) : b = true ∧ x.den := by
  cases b with
  | false => exact (show False from h).elim
  | true => exact ⟨rfl, h⟩
theorem obT {α : Type} {o : Option α} {f : α → Ob} (h : (ob o f).den) : ∃ x, o = some x ∧ (f x).den := by
  cases o with
  | none => exact (show False from h).elim
  | some x => exact ⟨x, rfl, h⟩
theorem andT {a b : Bool} (h : and a b = true) : a = true ∧ b = true := by cases a <;> cases b <;> first | exact ⟨rfl, rfl⟩ | cases h
theorem inB_iff {a : Nat} : ∀ {l : List Nat}, inB a l = true → a ∈ l
  | [], h => nomatch (show false = true from h)
  | b :: l, h => by
    have h : or (Nat.beq a b) (inB a l) = true := h
    cases e : Nat.beq a b with
    | true => exact Nat.eq_of_beq_eq_true e ▸ List.mem_cons_self ..
    | false => rw [e] at h; exact List.mem_cons_of_mem _ (inB_iff h)
theorem inB_of {a : Nat} : ∀ {l : List Nat}, a ∈ l → inB a l = true
  | b :: l, h => by
    show or (Nat.beq a b) (inB a l) = true
    cases h with
    | head => rw [Nat.beq_refl]; rfl
    | tail _ h => rw [inB_of h]; cases Nat.beq a b <;> rfl
theorem allB_iff {f : Nat → Bool} : ∀ {l : List Nat}, allB f l = true → ∀ a ∈ l, f a = true
  | b :: l, h, a, m => by
    have h : and (f b) (allB f l) = true := h
    cases m with
    | head => exact (andT h).1
    | tail _ m => exact allB_iff (andT h).2 a m
theorem nodupB_iff : ∀ {l : List Nat}, nodupB l = true → l.Nodup
  | [], _ => .nil
  | a :: l, h => by
    have h : and (not (inB a l)) (nodupB l) = true := h
    refine List.nodup_cons.2 ⟨fun m => ?_, nodupB_iff (andT h).2⟩
    have := (andT h).1
    rw [inB_of m] at this; cases this
theorem orT {a b : Bool} (h : or a b = true) : a = true ∨ b = true := by cases a <;> cases b <;> first | exact .inl rfl | exact .inr rfl | cases h
theorem nth_mem {l : List Nat} {i : Nat} : ∀ {ix : List Nat}, i ∈ ix → nth l i ∈ sel l ix
  | j :: ix, h => by
    show nth l i ∈ nth l j :: sel l ix
    cases h with
    | head => exact List.mem_cons_self ..
    | tail _ h => exact List.mem_cons_of_mem _ (nth_mem h)
theorem mem_sel {l : List Nat} {a : Nat} : ∀ {ix : List Nat}, a ∈ sel l ix → ∃ i ∈ ix, a = nth l i
  | j :: ix, h => by
    have h : a ∈ nth l j :: sel l ix := h
    cases h with
    | head => exact ⟨j, List.mem_cons_self .., rfl⟩
    | tail _ h => obtain ⟨i, m, e⟩ := mem_sel h; exact ⟨i, List.mem_cons_of_mem _ m, e⟩
theorem blt_iff {a b : Nat} (h : Nat.blt a b = true) : a < b := Nat.le_of_ble_eq_true h
theorem ble_iff {a b : Nat} (h : Nat.ble a b = true) : a ≤ b := Nat.le_of_ble_eq_true h
noncomputable def pick {β : Type} (cd : Value) (qn : Str) (jp : Str → Sem β) : Sem β := match cd with
  | .none => do
    let q ← pure qn
    jp q
  | c => do match ← field c 1 with
    | .str q _ => do
      let q ← pure q
      jp q
    | _ => do
      let q ← pure qn
      jp q
theorem pick_mono {β γ : Type} {M : Model} {Γ : Ctx} {Q : β → Pos → Shared → Prop} {Q' : γ → Pos → Shared → Prop} {E : Value → Pos → Shared → Prop} {p : Pos} {s : Shared} {jp : Str → Sem β} {jp' : Str → Sem γ} (cd : Value) (qn : Str)
    (k : ∀ q p s, Sem.wp M Γ (jp q) Q E p s → Sem.wp M Γ (jp' q) Q' E p s) (h : Sem.wp M Γ (pick cd qn jp) Q E p s) : Sem.wp M Γ (pick cd qn jp') Q' E p s := by
  have main : ∀ c : Value, Sem.wp M Γ (do match ← field c 1 with
    | .str q _ => do
      let q ← pure q
      jp q
    | _ => do
      let q ← pure qn
      jp q) Q E p s → Sem.wp M Γ (do match ← field c 1 with
    | .str q _ => do
      let q ← pure q
      jp' q
    | _ => do
      let q ← pure qn
      jp' q) Q' E p s := by
    intro c h
    rw [Sem.wp_bind'] at h ⊢
    refine Sem.wp_mono _ _ _ ?_ (fun _ _ _ h => h) p s h
    intro x p s h
    cases x <;> exact k _ _ _ h
  cases cd <;> first | exact main _ h | exact k _ _ _ h
/-- the sense of a tree with seams -/
def wpT (M : Model) (Γ : Ctx) : Tr → (PySem.Fin → Pos → Shared → Prop) → (Value → Pos → Shared → Prop) → Pos → Shared → Prop
  | .run t, Q, E, p, s => Sem.wp M Γ t Q E p s
  | .seg t k, Q, E, p, s => wpT M Γ t (fun f p s => wpT M Γ (k f) Q E p s) E p s
  | .onr t h, Q, E, p, s => wpT M Γ t Q (fun e p s => wpT M Γ (h e) Q E p s) p s
  | .eqI a b k, Q, E, p, s => a = b ∧ wpT M Γ k Q E p s
  | .envs k, Q, E, p, s => wpT M Γ (k (cenvs Γ.code ++ envsB Γ.below) (Γ.code.isCaller || ucB Γ.below)) Q E p s
theorem wpT_mono {M : Model} {Γ : Ctx} : ∀ (T : Tr) {Q Q' : PySem.Fin → Pos → Shared → Prop} {E E' : Value → Pos → Shared → Prop} {p : Pos} {s : Shared}, (∀ f p s, Q f p s → Q' f p s) → (∀ e p s, E e p s → E' e p s) → wpT M Γ T Q E p s → wpT M Γ T Q' E' p s
  | .run t, _, _, _, _, p, s, hq, he, h => Sem.wp_mono _ _ t hq he p s h
  | .seg t k, _, _, _, _, _, _, hq, he, h => wpT_mono t (fun f _ _ h => wpT_mono (k f) hq he h) he h
  | .onr t k, _, _, _, _, _, _, hq, he, h => wpT_mono t hq (fun e _ _ h => wpT_mono (k e) hq he h) h
  | .eqI _ _ k, _, _, _, _, _, _, hq, he, h => ⟨h.1, wpT_mono k hq he h.2⟩
  | .envs k, _, _, _, _, _, _, hq, he, h => wpT_mono (k _ _) hq he (show wpT M Γ (k (cenvs Γ.code ++ envsB Γ.below) (Γ.code.isCaller || ucB Γ.below)) _ _ _ _ from h)
theorem field_inv {M : Model} {Γ : Ctx} {v : Value} {i : Nat} {Q : Value → Pos → Shared → Prop} {E : Value → Pos → Shared → Prop} {p : Pos} {s : Shared} (h : Sem.wp M Γ (field v i) Q E p s) :
    ∃ x, ∀ (Q' : Value → Pos → Shared → Prop) (E' : Value → Pos → Shared → Prop), Sem.wp M Γ (field v i) Q' E' p s ↔ Q' x p s := by
  cases v with
  | ref a =>
    have un : ∀ (Q' : Value → Pos → Shared → Prop) (E' : Value → Pos → Shared → Prop), Sem.wp M Γ (field (.ref a) i) Q' E' p s = (∃ o, s.heap.get? a = some o ∧ Sem.wp M Γ (match o.data with | .fields vs => pure vs | _ => unsupported "internal:no-fields") (fun vs p s => Sem.wp M Γ (match vs[i]? with | some x => pure x | none => unsupported "internal:no-such-field") Q' E' p s) E' p s) := fun Q' E' => by
      show Sem.wp M Γ ((load a >>= fun o => match o.data with | .fields vs => pure vs | _ => unsupported "internal:no-fields") >>= fun vs => match vs[i]? with | some x => pure x | none => unsupported "internal:no-such-field") Q' E' p s = _
      rw [Sem.wp_bind', Sem.wp_bind']
      unfold load
      rw [Sem.wp_load]
      simp only [Sem.wp_pure]
    rw [un] at h
    obtain ⟨o, ho, h⟩ := h
    have uq : ∀ (Q' : Value → Pos → Shared → Prop) (E' : Value → Pos → Shared → Prop), Sem.wp M Γ (field (.ref a) i) Q' E' p s ↔ Sem.wp M Γ (match o.data with | .fields vs => pure vs | _ => unsupported "internal:no-fields") (fun vs p s => Sem.wp M Γ (match vs[i]? with | some x => pure x | none => unsupported "internal:no-such-field") Q' E' p s) E' p s := fun Q' E' => by
      rw [un]
      refine ⟨fun ⟨o', e, q⟩ => ?_, fun q => ⟨o, ho, q⟩⟩
      rw [ho] at e; cases e; exact q
    split at h
    · rename_i vs hd
      rw [Sem.wp_pure'] at h
      cases hv : vs[i]? with
      | none => rw [hv] at h; simp [unsupported] at h
      | some x =>
        refine ⟨x, fun Q' E' => ?_⟩
        rw [uq, hd, Sem.wp_pure', hv, Sem.wp_pure']
    · simp [unsupported] at h
  | _ => simp [field, fieldsOf, unsupported] at h
theorem stack_eq {M : Model} {Γ : Ctx} {Q : List (Code × Pos) → Pos → Shared → Prop} {E : Value → Pos → Shared → Prop} {p : Pos} {s : Shared} : Sem.wp M Γ stack Q E p s = Q ((Γ.code, p) :: Γ.below) p s := by
  unfold stack; rw [Sem.wp_stack, Sem.wp_pure]
def esOf (Γ : Ctx) : List Env := cenvs Γ.code ++ envsB Γ.below
theorem esOf_eq (Γ : Ctx) (p : Pos) : ((((Γ.code, p) :: Γ.below).filter (·.1.isFrame)).filterMap (·.1.env?)) = esOf Γ := by
  have : ∀ l : List (Code × Pos), (l.filter (·.1.isFrame)).filterMap (·.1.env?) = envsB l := by
    intro l
    induction l with
    | nil => rfl
    | cons x l ih =>
      unfold envsB cenvs
      rw [List.filter_cons]
      cases x.1.isFrame with
      | true =>
        rw [if_pos rfl, List.filterMap_cons, ih]
        cases x.1.env? <;> rfl
      | false => exact ih
  exact this _
theorem frameEnvs_eq {M : Model} {Γ : Ctx} {Q : List Env → Pos → Shared → Prop} {E : Value → Pos → Shared → Prop} {p : Pos} {s : Shared} : Sem.wp M Γ frameEnvs Q E p s = Q (esOf Γ) p s := by
  show Sem.wp M Γ (stack >>= fun l => pure ((l.filter (·.1.isFrame)).filterMap (·.1.env?))) Q E p s = _
  rw [Sem.wp_bind', stack_eq, Sem.wp_pure', esOf_eq]
def ucOf (Γ : Ctx) : Bool := Γ.code.isCaller || ucB Γ.below
theorem under_eq {M : Model} {Γ : Ctx} {Q : Bool → Pos → Shared → Prop} {E : Value → Pos → Shared → Prop} {p : Pos} {s : Shared} : Sem.wp M Γ underTheClaimsCaller Q E p s = Q (ucOf Γ) p s := by
  show Sem.wp M Γ (stack >>= fun l => pure (l.any fun (c, _) => match c with | .builtin "claim.caller" _ => true | _ => false)) Q E p s = _
  rw [Sem.wp_bind', stack_eq, Sem.wp_pure']
  rfl
theorem kept_eq {M : Model} {Γ : Ctx} {env : Env} {im : Bool} : ∀ {l : List Env} {Q : Value → Pos → Shared → Prop} {E : Value → Pos → Shared → Prop} {p : Pos} {s : Shared}, Sem.wp M Γ (keptBack env im l) Q E p s = Sem.wp M Γ (keptM (ucOf Γ) env im l) Q E p s
  | [], Q, E, p, s => by
    unfold keptM
    show Sem.wp M Γ (if (env.scope.isGenerator || env.scope.isCoroutine) = true then pure .none else do return if ← underTheClaimsCaller then .notImplemented else .none) Q E p s = _
    by_cases h : (env.scope.isGenerator || env.scope.isCoroutine) = true
    · rw [if_pos h, if_pos h]
    · rw [if_neg h, if_neg h]
      show Sem.wp M Γ (underTheClaimsCaller >>= fun b => pure (if b = true then Value.notImplemented else Value.none)) Q E p s = _
      rw [Sem.wp_bind', under_eq, Sem.wp_pure', Sem.wp_pure']
      cases ucOf Γ <;> rfl
  | _ :: _, _, _, _, _ => rfl
theorem wp_congr {α : Type} {M : Model} {Γ : Ctx} {t : Sem α} {Q Q' : α → Pos → Shared → Prop} {E : Value → Pos → Shared → Prop} {p : Pos} {s : Shared} (h : ∀ a p s, Q a p s = Q' a p s) : Sem.wp M Γ t Q E p s = Sem.wp M Γ t Q' E p s := by
  have : Q = Q' := funext fun a => funext fun p => funext fun s => h a p s
  rw [this]
theorem ready_eq {M : Model} {Γ : Ctx} : ∀ {l : List Env} {Q : Unit → Pos → Shared → Prop} {E : Value → Pos → Shared → Prop} {p : Pos} {s : Shared}, Sem.wp M Γ (readyFrames l) Q E p s = Sem.wp M Γ (readyM (ucOf Γ) l) Q E p s
  | [], _, _, _, _ => rfl
  | env :: outer, Q, E, p, s => by
    unfold readyFrames readyM
    cases env.frame with
    | none => rfl
    | some f =>
      show Sem.wp M Γ (load f >>= _) Q E p s = Sem.wp M Γ (load f >>= _) Q E p s
      rw [Sem.wp_bind', Sem.wp_bind']
      refine wp_congr fun o p s => ?_
      by_cases h : (o.slots.getD 3 none).isSome = true
      · rw [if_pos h, if_pos h]
      · rw [if_neg h, if_neg h]
        show Sem.wp M Γ (behindIsImport env outer >>= _) Q E p s = Sem.wp M Γ (behindIsImport env outer >>= _) Q E p s
        rw [Sem.wp_bind', Sem.wp_bind']
        refine wp_congr fun im p s => ?_
        show Sem.wp M Γ (keptBack env im outer >>= _) Q E p s = Sem.wp M Γ (keptM (ucOf Γ) env im outer >>= _) Q E p s
        rw [Sem.wp_bind', Sem.wp_bind', kept_eq]
        refine wp_congr fun bk p s => ?_
        rw [Sem.wp_bind', Sem.wp_bind']
        refine wp_congr fun _ p s => ?_
        exact ready_eq
theorem frameObj_eq {M : Model} {Γ : Ctx} {l : List Env} {Q : Option Value → Pos → Shared → Prop} {E : Value → Pos → Shared → Prop} {p : Pos} {s : Shared} : Sem.wp M Γ (frameObject l) Q E p s = Sem.wp M Γ (frameObjM (ucOf Γ) l) Q E p s := by
  cases l with
  | nil => rfl
  | cons env outer =>
    show Sem.wp M Γ (readyFrames (env :: outer) >>= _) Q E p s = Sem.wp M Γ (readyM (ucOf Γ) (env :: outer) >>= _) Q E p s
    rw [Sem.wp_bind', Sem.wp_bind', ready_eq]
theorem frameOf_eq {M : Model} {Γ : Ctx} {env e0 : Env} {es : List Env} (h : esOf Γ = e0 :: es) (hf : e0.frame = env.frame) {Q : Value → Pos → Shared → Prop} {E : Value → Pos → Shared → Prop} {p : Pos} {s : Shared} :
    Sem.wp M Γ (frameOf env) Q E p s = Sem.wp M Γ (do match ← frameObjM (ucOf Γ) (e0 :: es) with
    | some f => pure f
    | none => unsupported "internal:frame-not-on-the-stack") Q E p s := by
  show Sem.wp M Γ (frameEnvs >>= fun l => frameObject (l.dropWhile (·.frame != env.frame)) >>= fun f => match f with
    | some f => pure f
    | none => unsupported "internal:frame-not-on-the-stack") Q E p s = Sem.wp M Γ (frameObjM (ucOf Γ) (e0 :: es) >>= fun f => match f with
    | some f => pure f
    | none => unsupported "internal:frame-not-on-the-stack") Q E p s
  rw [Sem.wp_bind', frameEnvs_eq, h]
  have : (e0 :: es).dropWhile (·.frame != env.frame) = e0 :: es := by
    rw [List.dropWhile_cons, hf]
    simp
  rw [this, Sem.wp_bind', Sem.wp_bind', frameObj_eq]
noncomputable def noteG (e : Value) (env : Env) (f : Addr) (head : Value) : Sem Unit := do
  let fr ← frameOf env
  let acts ← stack
  let t ← newFields "traceback" [head, fr, .none, rawInt f, .none, Z.cellQ 0 (Z.placeOf f (head != .none) acts), Z.cellQ 1 (Z.placeOf f (head != .none) acts), Z.cellQ 2 (Z.placeOf f (head != .none) acts), Z.cellQ 3 (Z.placeOf f (head != .none) acts), Z.cellQ 4 (Z.placeOf f (head != .none) acts), Z.cellQ 5 (Z.placeOf f (head != .none) acts)]
  setField e 1 t
noncomputable def noteG' (e : Value) (f : Addr) (es : List Env) (b : Bool) (head : Value) : Sem PySem.Fin := do
  let fr ← (do match ← frameObjM b es with
    | some f => pure f
    | none => unsupported "internal:frame-not-on-the-stack")
  let acts ← stack
  let t ← newFields "traceback" [head, fr, .none, rawInt f, .none, Z.cellQ 0 (Z.placeOf f (head != .none) acts), Z.cellQ 1 (Z.placeOf f (head != .none) acts), Z.cellQ 2 (Z.placeOf f (head != .none) acts), Z.cellQ 3 (Z.placeOf f (head != .none) acts), Z.cellQ 4 (Z.placeOf f (head != .none) acts), Z.cellQ 5 (Z.placeOf f (head != .none) acts)]
  setField e 1 t
  pure (.done .next)
theorem noteG_eq {M : Model} {Γ : Ctx} {env e0 : Env} {es : List Env} (h : esOf Γ = e0 :: es) (hf : e0.frame = env.frame) {e : Value} {f : Addr} {head : Value} {K : Pos → Shared → Prop} {E : Value → Pos → Shared → Prop} {p : Pos} {s : Shared}
    (w : Sem.wp M Γ (noteG' e f (e0 :: es) (ucOf Γ) head) (fun _ p s => K p s) E p s) : Sem.wp M Γ (noteG e env f head) (fun _ p s => K p s) E p s := by
  unfold noteG
  unfold noteG' at w
  rw [Sem.wp_bind'] at w ⊢
  rw [frameOf_eq h hf]
  refine Sem.wp_mono _ _ _ ?_ (fun _ _ _ h => h) _ _ w
  intro fr p s w
  rw [Sem.wp_bind', stack_eq, Sem.wp_bind'] at w
  rw [Sem.wp_bind', stack_eq, Sem.wp_bind']
  refine Sem.wp_mono _ _ _ ?_ (fun _ _ _ h => h) _ _ w
  intro t p s w
  rw [Sem.wp_bind'] at w
  refine Sem.wp_mono _ _ _ ?_ (fun _ _ _ h => h) _ _ w
  intro _ p s w
  rwa [Sem.wp_pure'] at w
theorem noteQ_un (e : Value) (env : Env) (f : Addr) (hf : env.frame = some f) : Z.noteFrameQ e env = (field e 1 >>= fun head => match decide (head = Value.none) with
    | true => noteG e env f head
    | false => field head 3 >>= fun x => match x == rawInt f with
      | true => pure ()
      | false => setField head 3 .none >>= fun _ => noteG e env f head) := by
  unfold Z.noteFrameQ
  rw [hf]
  show (field e 1 >>= _) = (field e 1 >>= _)
  refine congrArg _ (funext fun head => ?_)
  by_cases h : head = Value.none
  · subst h; rfl
  · have h1 : (head != Value.none) = true := by simpa using h
    show (if (head != Value.none) = true then _ else _) = _
    rw [if_pos h1, decide_eq_false h]
    refine congrArg _ (funext fun x => ?_)
    cases x == rawInt f with
    | true => rfl
    | false => rfl
theorem noteM_un (e : Value) (f : Addr) (es : List Env) (b : Bool) : noteM e f es b = (field e 1 >>= fun head => match decide (head = Value.none) with
    | true => noteG' e f es b head
    | false => setField head 3 .none >>= fun _ => noteG' e f es b head) := by
  unfold noteM
  show (field e 1 >>= _) = (field e 1 >>= _)
  refine congrArg _ (funext fun head => ?_)
  by_cases h : head = Value.none
  · subst h; rfl
  · have h1 : (head != Value.none) = true := by simpa using h
    show (if (head != Value.none) = true then _ else _) = _
    rw [if_pos h1, decide_eq_false h]
    rfl
theorem noteTr_sound {M : Model} {Γ : Ctx} {env : Env} {e : Value} {k : Tr} {Q : PySem.Fin → Pos → Shared → Prop} {E : Value → Pos → Shared → Prop} {p : Pos} {s : Shared} (h : wpT M Γ (noteTr e env k) Q E p s) :
    Sem.wp M Γ (noteFrame e env) (fun _ p s => wpT M Γ k Q E p s) E p s := by
  rw [Z.noteFrameQ_eq]
  unfold noteTr at h
  cases hf : env.frame with
  | none => rw [hf] at h; simp [wpT, unsupported] at h
  | some f =>
    rw [hf] at h
    rw [noteQ_un e env f hf, Sem.wp_bind']
    have h : Sem.wp M Γ (field e 1 >>= fun head => (match head with
      | .none => pure (.done .brk)
      | h => do pure (.done (.ret (← field h 3))) : Sem PySem.Fin)) (fun fin p s => wpT M Γ (match fin with
        | .done (.ret (.int j t)) => .eqI j f (.eqI t 0 k)
        | _ => .envs fun es b => match es with
          | [] => .run (unsupported "internal:frame-not-on-the-stack")
          | e0 :: es => match e0.frame with
            | none => .run (unsupported "internal:frame-not-on-the-stack")
            | some f0 => .eqI f0 f (.seg (.run (noteM e f (e0 :: es) b)) fun _ => k)) Q E p s) E p s := h
    rw [Sem.wp_bind'] at h
    obtain ⟨head, rd⟩ := field_inv h
    rw [rd] at h
    rw [rd]
    -- the road that writes
    have road : wpT M Γ (.envs fun es b => match es with
          | [] => .run (unsupported "internal:frame-not-on-the-stack")
          | e0 :: es => match e0.frame with
            | none => .run (unsupported "internal:frame-not-on-the-stack")
            | some f0 => .eqI f0 f (.seg (.run (noteM e f (e0 :: es) b)) fun _ => k)) Q E p s → Sem.wp M Γ (match decide (head = Value.none) with
            | true => noteG e env f head
            | false => setField head 3 .none >>= fun _ => noteG e env f head) (fun _ p s => wpT M Γ k Q E p s) E p s := by
      intro h
      have h : wpT M Γ (match esOf Γ with
          | [] => .run (unsupported "internal:frame-not-on-the-stack")
          | e0 :: es => match e0.frame with
            | none => .run (unsupported "internal:frame-not-on-the-stack")
            | some f0 => .eqI f0 f (.seg (.run (noteM e f (e0 :: es) (ucOf Γ))) fun _ => k)) Q E p s := h
      cases hes : esOf Γ with
      | nil => rw [hes] at h; simp [wpT, unsupported] at h
      | cons e0 es =>
        rw [hes] at h
        cases h0 : e0.frame with
        | none => simp only [h0] at h; simp [wpT, unsupported] at h
        | some f0 =>
          simp only [h0] at h
          obtain ⟨hff, h⟩ : (f0 : Int) = f ∧ Sem.wp M Γ (noteM e f (e0 :: es) (ucOf Γ)) (fun _ p s => wpT M Γ k Q E p s) E p s := h
          have hff : e0.frame = env.frame := by rw [h0, hf]; exact congrArg some (Int.ofNat.inj hff)
          rw [noteM_un, Sem.wp_bind', rd] at h
          cases hd : decide (head = Value.none) with
          | true => rw [hd] at h; exact noteG_eq hes hff h
          | false =>
            rw [hd] at h
            have h : Sem.wp M Γ (setField head 3 .none >>= fun _ => noteG' e f (e0 :: es) (ucOf Γ) head) (fun _ p s => wpT M Γ k Q E p s) E p s := h
            show Sem.wp M Γ (setField head 3 .none >>= fun _ => noteG e env f head) _ E p s
            rw [Sem.wp_bind'] at h ⊢
            refine Sem.wp_mono _ _ _ ?_ (fun _ _ _ h => h) _ _ h
            intro _ p s h
            exact noteG_eq hes hff h
    cases head with
    | none =>
      rw [Sem.wp_pure'] at h
      exact road h
    | _ =>
      have h : Sem.wp M Γ (field _ 3 >>= fun x => pure (PySem.Fin.done (.ret x))) _ E p s := h
      rw [Sem.wp_bind'] at h
      obtain ⟨x, rd3⟩ := field_inv h
      rw [rd3, Sem.wp_pure'] at h
      show Sem.wp M Γ (field _ 3 >>= fun x => match x == rawInt f with
        | true => pure ()
        | false => setField _ 3 .none >>= fun _ => noteG e env f _) _ E p s
      rw [Sem.wp_bind', rd3]
      cases x with
      | int j t =>
        obtain ⟨h1, h2, h⟩ : j = f ∧ ((t : Int) = 0) ∧ wpT M Γ k Q E p s := h
        have ht : t = 0 := Int.ofNat.inj h2
        subst h1; subst ht
        have : (Value.int (f : Int) 0 == rawInt f) = true := by simp [rawInt]
        rw [this, Sem.wp_pure']
        exact h
      | _ =>
        rw [show (_ == rawInt f) = false from by first | rfl | simp [rawInt]]
        exact road h
theorem leavingTr_sound {M : Model} {Γ : Ctx} {env : Env} {e : Value} {Q : PySem.Fin → Pos → Shared → Prop} {E : Value → Pos → Shared → Prop} {p : Pos} {s : Shared} (h : wpT M Γ (leavingTr env e) Q E p s) :
    Sem.wp M Γ (leaving env e) (fun _ p s => E e p s) E p s := by
  unfold leaving
  rw [Sem.wp_bind']
  refine Sem.wp_mono _ _ _ ?_ (fun _ _ _ h => h) _ _ (noteTr_sound h)
  intro _ p s h
  have h : Sem.wp M Γ (setFlight e none >>= fun _ => (.raise e : Sem PySem.Fin)) Q E p s := h
  rw [Sem.wp_bind'] at h
  refine Sem.wp_mono _ _ _ ?_ (fun _ _ _ h => h) _ _ h
  intro _ p s h
  rwa [Sem.wp_raise] at h
theorem turnTr_sound {M : Model} {Γ : Ctx} {env : Env} {e : Value} {Q : PySem.Fin → Pos → Shared → Prop} {E : Value → Pos → Shared → Prop} {p : Pos} {s : Shared} (h : wpT M Γ (turnTr env e) Q E p s) :
    Sem.wp M Γ (do noteFrame e env; theTreesLotGoes e) (fun _ p s => E e p s) E p s := by
  rw [Sem.wp_bind']
  refine Sem.wp_mono _ _ _ ?_ (fun _ _ _ h => h) _ _ (noteTr_sound h)
  intro _ p s h
  have h : Sem.wp M Γ (theTreesLotGoes e >>= fun _ => (.raise e : Sem PySem.Fin)) Q E p s := h
  rw [Sem.wp_bind'] at h
  refine Sem.wp_mono _ _ _ ?_ (fun _ _ _ h => h) _ _ h
  intro _ p s h
  rwa [Sem.wp_raise] at h
theorem tryTr_sound {M : Model} {Γ : Ctx} {body : List Stmt} {handlers : List ExceptHandler} {env : Env} {pos : Pos} {Q : PySem.Fin → Pos → Shared → Prop} {E : Value → Pos → Shared → Prop} {p : Pos} {s : Shared} (h : wpT M Γ (tryTr body handlers env pos) Q E p s) :
    Sem.wp M Γ (exec (.Try body handlers [] [] pos) env) (fun f p s => Q (.done f) p s) E p s := by
  show Sem.wp M Γ (standAt pos >>= fun _ => tryStmt false (execs body env) handlers (execs [] env) [] env) _ E p s
  have h : Sem.wp M Γ (standAt pos >>= fun _ => execs body env >>= fun f => pure (PySem.Fin.done f)) Q (fun e p s => wpT M Γ (noteTr e env (.run (do
    if handlers.isEmpty then .raise e
    setFlight e none
    pure (.done (← handleBy e env handlers))))) Q E p s) p s := h
  rw [Sem.wp_bind'] at h ⊢
  unfold standAt at h ⊢
  rw [Sem.wp_at, Sem.wp_pure] at h ⊢
  rw [Sem.wp_bind'] at h
  unfold tryStmt
  simp only [List.isEmpty_nil, if_true]
  show Sem.wp M Γ ((execs body env).attempt >>= _) _ _ _ _
  rw [Sem.wp_bind', Sem.wp_attempt]
  refine Sem.wp_mono _ _ _ ?_ ?_ _ _ h
  · intro f p s h
    rw [Sem.wp_pure'] at h
    cases f <;> first | (rw [Sem.wp_pure']; exact h) | (show Sem.wp M Γ (execs [] env) _ E p s; unfold execs; rw [Sem.wp_pure']; exact h)
  · intro e p s h
    show Sem.wp M Γ (noteFrame e env >>= _) _ E p s
    rw [Sem.wp_bind']
    refine Sem.wp_mono _ _ _ ?_ (fun _ _ _ h => h) _ _ (noteTr_sound h)
    intro _ p s h
    cases hh : handlers.isEmpty with
    | true =>
      simp only [wpT, hh, if_true] at h
      simp only [if_true]
      first | (rw [Sem.wp_bind'] at h; rw [Sem.wp_bind']; simpa using h) | simpa using h
    | false =>
      simp only [wpT, hh, Bool.false_eq_true, if_false] at h
      simp only [Bool.false_eq_true, if_false, Bool.false_and]
      first
        | (simpa using h)
        | (rw [Sem.wp_bind'] at h ⊢; simpa using h)
theorem bodyTr_sound {M : Model} {Γ : Ctx} {env : Env} : ∀ {body : List Stmt} {Q : PySem.Fin → Pos → Shared → Prop} {E : Value → Pos → Shared → Prop} {p : Pos} {s : Shared}, wpT M Γ (bodyTr env body) Q E p s →
    Sem.wp M Γ (execs body env) (fun f p s => Q (.done f) p s) E p s
  | [], Q, E, p, s, h => by
    unfold execs
    have h : Sem.wp M Γ (pure (PySem.Fin.done .next)) Q E p s := h
    rw [Sem.wp_pure'] at h ⊢
    exact h
  | st :: rest, Q, E, p, s, h => by
    have fin : ∀ {p s}, Sem.wp M Γ (exec st env) (fun f p s => wpT M Γ (match (PySem.Fin.done f) with
      | .done .next => bodyTr env rest
      | f => .run (pure f)) Q E p s) E p s → Sem.wp M Γ (execs (st :: rest) env) (fun f p s => Q (.done f) p s) E p s := by
      intro p s h
      unfold execs
      rw [Sem.wp_bind']
      refine Sem.wp_mono _ _ _ ?_ (fun _ _ _ h => h) _ _ h
      intro f p s h
      cases f with
      | next => exact bodyTr_sound h
      | brk => have h : Sem.wp M Γ (pure (PySem.Fin.done .brk)) Q E p s := h; rw [Sem.wp_pure'] at h ⊢; exact h
      | cont => have h : Sem.wp M Γ (pure (PySem.Fin.done .cont)) Q E p s := h; rw [Sem.wp_pure'] at h ⊢; exact h
      | ret v => have h : Sem.wp M Γ (pure (PySem.Fin.done (.ret v))) Q E p s := h; rw [Sem.wp_pure'] at h ⊢; exact h
    have plain : wpT M Γ (.seg (.run (do pure (.done (← exec st env)))) fun fin => match fin with
      | .done .next => bodyTr env rest
      | f => .run (pure f)) Q E p s → Sem.wp M Γ (execs (st :: rest) env) (fun f p s => Q (.done f) p s) E p s := by
      intro h
      refine fin ?_
      have h : Sem.wp M Γ (exec st env >>= fun f => pure (PySem.Fin.done f)) _ E p s := h
      rw [Sem.wp_bind'] at h
      refine Sem.wp_mono _ _ _ ?_ (fun _ _ _ h => h) _ _ h
      intro f p s h
      rwa [Sem.wp_pure'] at h
    unfold bodyTr at h
    split at h
    · rename_i e; cases e
    · rename_i e
      cases e
      refine fin ?_
      exact tryTr_sound (Q := fun fin p s => wpT M Γ (match fin with
        | .done .next => bodyTr env rest
        | f => .run (pure f)) Q E p s) h
    · rename_i e
      cases e
      exact plain h
theorem funcTr_sound {M : Model} {Γ : Ctx} (hu : Γ.units < cLine) {body : List Stmt} {env : Env} {Q : PySem.Fin → Pos → Shared → Prop} {E : Value → Pos → Shared → Prop} {p : Pos} {s : Shared} (h : wpT M Γ (funcTr body env) Q E p s) :
    Sem.wp M Γ (denote table (.func body env)) Q E p s := by
  show Sem.wp M Γ (point >>= fun _ => (execs body env).onRaise (leaving env) >>= fun f => match f with
    | .ret v => ret v
    | _ => ret .none) Q E p s
  rw [Sem.wp_bind']
  unfold point
  rw [Sem.wp_point, Sem.wp_pure, Sem.wp_bind', Sem.wp_onRaise]
  unfold funcTr at h
  split at h
  · have h : Sem.wp M Γ (point >>= fun _ => bodyR env body >>= fun f => match f with
      | .ret v => ret v
      | _ => ret .none) Q (fun e p s => wpT M Γ (leavingTr env e) Q E p s) p s := h
    rw [Sem.wp_bind'] at h
    unfold point at h
    rw [Sem.wp_point, Sem.wp_pure, Sem.wp_bind'] at h
    refine Sem.wp_mono _ _ _ ?_ ?_ _ _ (bodyR_sound hu h)
    · intro f p s h
      cases f <;> (unfold ret at h ⊢; rw [Sem.wp_pure'] at h ⊢; exact h)
    · intro e p s h
      exact leavingTr_sound h
  · have h := bodyTr_sound (show wpT M Γ (bodyTr env body) (fun fin p s => wpT M Γ (match fin with
      | .done (.ret v) => .run (ret v)
      | _ => .run (ret .none)) Q (fun e p s => wpT M Γ (leavingTr env e) Q E p s) p s) (fun e p s => wpT M Γ (leavingTr env e) Q E p s) p s from h)
    refine Sem.wp_mono _ _ _ ?_ ?_ _ _ h
    · intro f p s h
      cases f <;> (unfold ret; rw [Sem.wp_pure']; unfold ret at h; exact (Sem.wp_pure' ..).mp h)
    · intro e p s h
      exact leavingTr_sound h
theorem rule_eq {M : Model} {Γ : Ctx} {tag : String} {Q : Unit → Pos → Shared → Prop} {E : Value → Pos → Shared → Prop} {p : Pos} {s : Shared} : Sem.wp M Γ (rule tag) Q E p s = Q () p s := by
  unfold rule; rw [Sem.wp_rule, Sem.wp_pure]
def ownG (r a : Nat) (o : Obj) : Sem Unit := match o.cls, o.data with
  | .type n, .fields vs =>
    if ["enumerate", "zip", "dict_itemiterator", "dict_reverseitemiterator", "odict_iterator", "itertools.zip_longest", "itertools.pairwise"].contains n && vs[0]? == some (rawInt a) then do
      rule "for.unpacks-the-owned-tuple"
      updateField r 0 .none
    else pure ()
  | _, _ => pure ()
theorem ownG_is {es : List Expr} {k : Nat} {pos : Pos} {r a : Nat} : letOwnedTupleGo (.Tuple es k pos) (.ref r) (.ref a) = load r >>= ownG r a := rfl
theorem owned_cases (r a : Nat) (o : Obj) : (∃ (j : Int) (t : Nat), ownedOf o = .done (.ret (.int j t)) ∧ (j = (a : Int) → t = 0 → ownG r a o = (rule "for.unpacks-the-owned-tuple" >>= fun _ => updateField r 0 .none))) ∨ (ownedOf o = .done .brk ∧ ownG r a o = pure ()) := by
  obtain ⟨c, d, dt, sl⟩ := o
  cases c with
  | type n => cases dt with
    | fields vs =>
      show (∃ (j : Int) (t : Nat), (if ["enumerate", "zip", "dict_itemiterator", "dict_reverseitemiterator", "odict_iterator", "itertools.zip_longest", "itertools.pairwise"].contains n then
        (match (vs[0]? : Option Value) with
        | some (.int j t) => PySem.Fin.done (.ret (.int j t))
        | _ => .done .brk) else .done .brk) = PySem.Fin.done (.ret (.int j t)) ∧ (j = (a : Int) → t = 0 → (if ["enumerate", "zip", "dict_itemiterator", "dict_reverseitemiterator", "odict_iterator", "itertools.zip_longest", "itertools.pairwise"].contains n && vs[0]? == some (rawInt a) then do
          rule "for.unpacks-the-owned-tuple"
          updateField r 0 .none
          else pure ()) = _)) ∨ ((if ["enumerate", "zip", "dict_itemiterator", "dict_reverseitemiterator", "odict_iterator", "itertools.zip_longest", "itertools.pairwise"].contains n then
        (match (vs[0]? : Option Value) with
        | some (.int j t) => PySem.Fin.done (.ret (.int j t))
        | _ => .done .brk) else .done .brk) = _ ∧ (if ["enumerate", "zip", "dict_itemiterator", "dict_reverseitemiterator", "odict_iterator", "itertools.zip_longest", "itertools.pairwise"].contains n && vs[0]? == some (rawInt a) then do
          rule "for.unpacks-the-owned-tuple"
          updateField r 0 .none
          else pure ()) = pure ())
      generalize ["enumerate", "zip", "dict_itemiterator", "dict_reverseitemiterator", "odict_iterator", "itertools.zip_longest", "itertools.pairwise"].contains n = b
      generalize vs[0]? = q
      cases b with
      | false => exact .inr ⟨rfl, rfl⟩
      | true =>
        cases q with
        | none => exact .inr ⟨rfl, rfl⟩
        | some x =>
          cases x with
          | int j t =>
            refine .inl ⟨j, t, rfl, ?_⟩
            rintro rfl rfl
            rw [if_pos (by simp [rawInt])]
          | _ => exact .inr ⟨rfl, by rw [if_neg (by simp [rawInt])]⟩
    | _ => exact .inr ⟨rfl, rfl⟩
  | _ => exact .inr ⟨rfl, rfl⟩
theorem owned_sound {M : Model} {Γ : Ctx} {es : List Expr} {k : Nat} {pos : Pos} {r a : Nat} {rest : Sem PySem.Fin} {Q : PySem.Fin → Pos → Shared → Prop} {E : Value → Pos → Shared → Prop} {p : Pos} {s : Shared}
    (h : Sem.wp M Γ (do pure (ownedOf (← load r))) (fun fin p s => wpT M Γ (match fin with
      | .done (.ret (.int j t)) => .eqI j a (.eqI t 0 (.run (do
          rule "for.unpacks-the-owned-tuple"
          updateField r 0 .none
          rest)))
      | _ => .run rest) Q E p s) E p s) : Sem.wp M Γ (letOwnedTupleGo (.Tuple es k pos) (.ref r) (.ref a) >>= fun _ => rest) Q E p s := by
  rw [ownG_is]
  rw [Sem.wp_bind'] at h
  rw [Sem.wp_bind', Sem.wp_bind']
  unfold load at h ⊢
  rw [Sem.wp_load] at h ⊢
  obtain ⟨o, ho, h⟩ := h
  refine ⟨o, ho, ?_⟩
  rw [Sem.wp_pure, Sem.wp_pure'] at h
  rw [Sem.wp_pure]
  rcases owned_cases r a o with ⟨j, t, e, g⟩ | ⟨e, g⟩
  · rw [e] at h
    obtain ⟨h1, h2, h⟩ : j = (a : Int) ∧ (t : Int) = 0 ∧ Sem.wp M Γ (rule "for.unpacks-the-owned-tuple" >>= fun _ => updateField r 0 .none >>= fun _ => rest) Q E p s := h
    rw [g h1 (Int.ofNat.inj h2), Sem.wp_bind']
    rw [Sem.wp_bind'] at h
    refine Sem.wp_mono _ _ _ ?_ (fun _ _ _ h => h) _ _ h
    intro _ p s h
    rwa [Sem.wp_bind'] at h
  · rw [e] at h
    rw [g, Sem.wp_pure']
    exact h
theorem forTr_sound {M : Model} {Γ : Ctx} {es : List Expr} {k : Nat} {pos : Pos} {it : Value} {body orelse : List Stmt} {env : Env} {Q : PySem.Fin → Pos → Shared → Prop} {E : Value → Pos → Shared → Prop} {p : Pos} {s : Shared} (h : wpT M Γ (forTr (.Tuple es k pos) it body orelse env) Q E p s) :
    Sem.wp M Γ (denote table (.forLoop (.Tuple es k pos) it body orelse env)) Q E p s := by
  show Sem.wp M Γ ((forTurn (.Tuple es k pos) it body orelse env).onRaise fun x => do noteFrame x env; theTreesLotGoes x) Q E p s
  rw [Sem.wp_onRaise]
  unfold forTr at h
  refine Sem.wp_mono _ _ _ (fun _ _ _ h => h) (fun e p s (h : wpT M Γ (turnTr env e) Q E p s) => turnTr_sound h) _ _ ?_
  simp only [wpT] at h
  unfold forTurn
  rw [Sem.wp_bind'] at h ⊢
  unfold standAt at h ⊢
  rw [Sem.wp_at, Sem.wp_pure] at h ⊢
  rw [Sem.wp_bind'] at h ⊢
  refine Sem.wp_mono _ _ _ ?_ (fun _ _ _ h => h) _ _ h
  intro o p s h
  cases o with
  | none =>
    rw [Sem.wp_pure'] at h
    exact h
  | some v =>
    rw [Sem.wp_pure'] at h
    cases it with
    | ref r => cases v with
      | ref a => exact owned_sound h
      | _ => exact h
    | _ => exact h
theorem loopTr_sound {M : Model} {Γ : Ctx} {t : Sem PySem.Fin} {env : Env} {Q : PySem.Fin → Pos → Shared → Prop} {E : Value → Pos → Shared → Prop} {p : Pos} {s : Shared} (h : wpT M Γ (.onr (.run t) (turnTr env)) Q E p s) :
    Sem.wp M Γ (t.onRaise fun x => do noteFrame x env; theTreesLotGoes x) Q E p s := by
  rw [Sem.wp_onRaise]
  exact Sem.wp_mono _ _ _ (fun _ _ _ h => h) (fun e p s (h : wpT M Γ (turnTr env e) Q E p s) => turnTr_sound h) _ _ h
/-- a def's call: its frame has room -/
theorem enterC_sound {P : Program} {w : World} {Γ : Ctx} {Q : PySem.Fin → Pos → Shared → Prop} {E : Value → Pos → Shared → Prop} {p : Pos} {s : Shared} (hd : frameCount Γ.below + Γ.code.weight < recursionLimit) (a : Nat) (args : Args)
    (h : Sem.wp (model P w) Γ (do
     let o ← load a
     match o.data with
     | .func fd => match fd.scope.isGenerator with
       | false => match fd.scope.isCoroutine with
         | false => callTree a fd args
         | true => denote table (.call (.ref a) args)
       | true => denote table (.call (.ref a) args)
     | _ => denote table (.call (.ref a) args)) (fun f _ s => (∀ p, Q f p s) ∧ s.heap.NoLimit) E p s) : Sem.wp (model P w) Γ (denote table (.call (.ref a) args)) Q E p s := by
  have weak : ∀ (t : Sem PySem.Fin), Sem.wp (model P w) Γ t (fun f _ s => (∀ p, Q f p s) ∧ s.heap.NoLimit) E p s → Sem.wp (model P w) Γ t Q E p s := fun t h =>
    Sem.wp_mono _ _ t (fun _ p _ h => h.1 p) (fun _ _ _ h => h) p s h
  rw [Sem.wp_bind'] at h
  obtain ⟨o, ho, h⟩ : ∃ o, s.heap.get? a = some o ∧ _ := by
    have h' := h
    unfold load at h'
    rw [Sem.wp_load] at h'
    exact h'
  rw [Sem.wp_pure] at h
  split at h
  · rename_i fd e
    split at h
    · rename_i hg
      split at h
      · rename_i hc
        show Sem.wp (model P w) Γ (callAny (.ref a) args) Q E p s
        unfold callAny
        simp only
        rw [Sem.wp_bind']
        show Sem.wp (model P w) Γ (Sem.load a none Sem.pure) _ _ p s
        rw [Sem.wp_load]
        refine ⟨o, ho, ?_⟩
        rw [Sem.wp_pure]
        simp only [e]
        refine pick_mono (jp := _) (jp' := _) fd.code fd.qualname ?_ h
        intro q p s h
        rw [Sem.wp_bind'] at h ⊢
        refine Sem.wp_mono _ _ _ ?_ (fun _ _ _ h => h) p s h
        intro bs p s h
        rw [Sem.wp_bind'] at h ⊢
        refine Sem.wp_mono _ _ _ ?_ (fun _ _ _ h => h) p s h
        intro env p s h
        rw [Sem.wp_pure'] at h
        have := wpAny_enterFrame (M := model P w) (A := ⟨Γ.handled, frameCount Γ.below + Γ.code.weight, none, none, Γ.units⟩) (Q := fun _ s' => s' = s) (E := fun _ _ => False) h.2 hd rfl Γ p ⟨rfl, Nat.le_refl _, fun _ h => (nomatch h), fun _ h => (nomatch h), Nat.le_refl _⟩
        rw [Sem.wp_bind']
        refine Sem.wp_mono _ _ _ ?_ (fun _ _ _ h => h.elim) p s this
        intro _ p' s' e'
        subst e'
        rw [hg, hc]
        exact h.1 p'
      · exact weak _ h
    · exact weak _ h
  · exact weak _ h
theorem enter_sound {P : Program} {w : World} {Γ : Ctx} {Q : PySem.Fin → Pos → Shared → Prop} {E : Value → Pos → Shared → Prop} {p : Pos} {s : Shared} (hd : frameCount Γ.below + Γ.code.weight < recursionLimit) (hu : Γ.units < cLine) (c : Code)
    (h : wpT (model P w) Γ (enterTree c) (fun f _ s => (∀ p, Q f p s) ∧ s.heap.NoLimit) E p s) : Sem.wp (model P w) Γ (denote table c) Q E p s := by
  have weak : ∀ (t : Sem PySem.Fin), Sem.wp (model P w) Γ t (fun f _ s => (∀ p, Q f p s) ∧ s.heap.NoLimit) E p s → Sem.wp (model P w) Γ t Q E p s := fun t h =>
    Sem.wp_mono _ _ t (fun _ p _ h => h.1 p) (fun _ _ _ h => h) p s h
  unfold enterTree at h
  split at h
  · exact enterC_sound hd _ _ h
  · exact weak _ (funcTr_sound hu h)
  · split at h
    · exact weak _ (forTr_sound h)
    · exact weak _ (loopTr_sound h)
  · exact weak _ (loopTr_sound h)
  · split at h
    · exact compR_sound h
    · exact weak _ h
  · exact weak _ h

theorem cUnits_le {c : Code} (h : c.weight ≤ 5) : c.cUnits ≤ 45 := by
  have hf : c.frames ≤ c.weight := by unfold Code.weight; omega
  unfold Code.cUnits
  split <;> omega
theorem Low.mono {l : List (Code × Pos)} {d d' : Nat} (h : Low l d) (e : d ≤ d') : Low l d' := ⟨Nat.le_trans h.1 e, Nat.le_trans h.2 (by omega)⟩
theorem Low.cons {l : List (Code × Pos)} {d : Nat} {c : Code} {p : Pos} (h : Low l d) (w : c.weight ≤ 5) : Low ((c, p) :: l) (d + 5) := by
  have := cUnits_le w
  obtain ⟨h1, h2⟩ := h
  exact ⟨by rw [frameCount_cons]; omega, by rw [unitsOf_cons]; omega⟩
theorem Low.units {Γ : Ctx} {d : Nat} (h : Low Γ.below d) (w : Γ.code.weight ≤ 5) (hd : d ≤ 905) : Γ.units < cLine := by
  have := cUnits_le w
  have := h.2
  unfold Ctx.units cLine; omega
/-! the run's sense -/
structure VOk (V : Vn) : Prop where
  nl : ∀ h, V.kt.Holds h 1 0 → h.NoLimit
structure Rp (V : Vn) (C : Cf) (h₀ : Heap) (st : St) (h : Heap) (t : Nat) : Prop where
  size : h.objs.size = ad st.σ st.nx
  lin : ∀ s, st.nx ≤ s → ad st.σ s = ad st.σ st.nx + (s - st.nx)
  lt : ∀ s, s < st.nx → ad st.σ s < h.objs.size
  apart : ∀ s s', s < s' → s' < st.nx → ad st.σ s ≠ ad st.σ s'
  off : ∀ s, s < st.nx → V.kt.get (ad st.σ s) = none
  new : ∀ s, C.s₀ ≤ s → s < st.nx → h₀.objs.size ≤ ad st.σ s
  pre : ∀ s, s < C.s₀ → ad st.σ s = nth (fsts C.S.pre) s
  own : ∀ s o, st.T.get s = some o → s < st.nx ∧ h.get? (ad st.σ s) = some o
  kt : V.kt.Holds h 1 0
  keep : ∀ b o, h₀.get? b = some o → b ∉ C.S.touchA → h.get? b = some o
  few : st.nx ≤ 1000000
  le : C.s₀ ≤ st.nx
  big : h₀.objs.size ≤ h.objs.size
  tok : t = ad st.τ st.nt
  tlin : ∀ s, st.nt ≤ s → ad st.τ s = ad st.τ st.nt + (s - st.nt)
def QP (V : Vn) (Γ : Ctx) (R : Result → Shared → Prop) : PySem.Fin → Pos → Shared → Prop := fun f _ s => (∀ p, Sem.finPost V.M Γ R f p s) ∧ s.heap.NoLimit
def EP (R : Result → Shared → Prop) : Value → Pos → Shared → Prop := fun e _ s => R (.error e) s
/-- what the frames of a run want of a tree's end -/
inductive Cts (V : Vn) (bel : Option (List Env × Bool)) (R₀ : Result → Shared → Prop) : Kn → Ctx → (PySem.Fin → Pos → Shared → Prop) → (Value → Pos → Shared → Prop) → Prop
  | base {Γ : Ctx} : (∀ es, bel = some es → (envsB Γ.below, ucB Γ.below) = es) → Cts V bel R₀ .base Γ (QP V Γ R₀) (EP R₀)
  | ret {c : Code} {hd : Option Value} {d : Nat} {k : Result → Sem PySem.Fin} {κ : Kn} {Γ Γ' : Ctx} {Q : PySem.Fin → Pos → Shared → Prop} {E : Value → Pos → Shared → Prop} {p' : Pos} : Cts V bel R₀ κ Γ' Q E → Γ'.code = c → Γ'.handled = hd → Low Γ'.below d → c.weight ≤ 5 → Γ.below = (c, p') :: Γ'.below →
    Cts V bel R₀ (.ret c hd d k κ) Γ (QP V Γ (fun r s => Sem.wp V.M Γ' (k r) Q E p' s)) (EP (fun r s => Sem.wp V.M Γ' (k r) Q E p' s))
  | seg {k : PySem.Fin → Tr} {κ : Kn} {Γ : Ctx} {Q : PySem.Fin → Pos → Shared → Prop} {E : Value → Pos → Shared → Prop} : Cts V bel R₀ κ Γ Q E → Cts V bel R₀ (.seg k κ) Γ (fun f p s => wpT V.M Γ (k f) Q E p s) E
  | onr {h : Value → Tr} {κ : Kn} {Γ : Ctx} {Q : PySem.Fin → Pos → Shared → Prop} {E : Value → Pos → Shared → Prop} : Cts V bel R₀ κ Γ Q E → Cts V bel R₀ (.onr h κ) Γ Q (fun e p s => wpT V.M Γ (h e) Q E p s)
theorem Cts.stack {V : Vn} {bel : Option (List Env × Bool)} {R₀ : Result → Shared → Prop} : ∀ {κ : Kn} {Γ : Ctx} {Q : PySem.Fin → Pos → Shared → Prop} {E : Value → Pos → Shared → Prop}, Cts V bel R₀ κ Γ Q E → ∃ (below : List (Code × Pos)) (ps : Nat → Pos), Γ.below = kst below κ ps
  | .base, Γ, _, _, _ => ⟨Γ.below, fun _ => default, rfl⟩
  | .ret c hd d k κ, Γ, _, _, h => by
    cases h with
    | @ret _ _ _ _ _ _ Γ' R' _ p' a b e f g i =>
      obtain ⟨below, ps, q⟩ := Cts.stack a
      refine ⟨below, fun i => Nat.rec (motive := fun _ => Pos) p' (fun i _ => ps i) i, ?_⟩
      rw [i, q]
      rfl
  | .seg k κ, Γ, _, _, h => by
    cases h with
    | seg a => obtain ⟨below, ps, q⟩ := Cts.stack a; exact ⟨below, ps, q⟩
  | .onr k κ, Γ, _, _, h => by
    cases h with
    | onr a => obtain ⟨below, ps, q⟩ := Cts.stack a; exact ⟨below, ps, q⟩
theorem appE_eq : ∀ l r, appE l r = l ++ r
  | [], _ => rfl
  | a :: l, r => by show a :: appE l r = _; rw [appE_eq l r]; rfl
theorem not_caller {c : Code} (h : c.weight ≤ 5) : c.isCaller = false := by
  cases e : c.isCaller with
  | false => rfl
  | true =>
    unfold Code.weight at h
    rw [e] at h
    have : claimMargin = 300 := rfl
    simp only [if_true] at h
    omega
theorem Cts.envs {V : Vn} {bel : Option (List Env × Bool)} {R₀ : Result → Shared → Prop} : ∀ {κ : Kn} {Γ : Ctx} {Q : PySem.Fin → Pos → Shared → Prop} {E : Value → Pos → Shared → Prop}, Cts V bel R₀ κ Γ Q E → ∀ es, kenvs bel κ = some es → (envsB Γ.below, ucB Γ.below) = es
  | .base, Γ, _, _, h, es, e => by
    cases h with
    | base h => exact h es e
  | .ret c hd d k κ, Γ, _, _, h, es, e => by
    cases h with
    | @ret _ _ _ _ _ _ Γ' R' _ p' a b e' f g i =>
      have e : Option.rec (motive := fun _ => Option (List Env × Bool)) none (fun es => some (appE (cenvs c) es.1, es.2)) (kenvs bel κ) = some es := e
      cases hk : kenvs bel κ with
      | none => rw [hk] at e; cases e
      | some es' =>
        rw [hk] at e
        cases e
        have q := Cts.envs a es' hk
        rw [i, appE_eq]
        show (cenvs c ++ envsB Γ'.below, c.isCaller || ucB Γ'.below) = _
        rw [not_caller g, Bool.false_or, ← q]
  | .seg k κ, Γ, _, _, h, es, e => by
    cases h with
    | seg a => exact Cts.envs a es e
  | .onr k κ, Γ, _, _, h, es, e => by
    cases h with
    | onr a => exact Cts.envs a es e
theorem belOk_iff {want have_ : Option (List Env × Bool)} {o : Ob} (h : (belOk want have_ o).den) : o.den ∧ ∀ es, want = some es → have_ = some es := by
  cases want with
  | none => exact ⟨h, fun _ h => (nomatch h)⟩
  | some w =>
    cases have_ with
    | none => exact (show False from h).elim
    | some l =>
      obtain ⟨h1, h2⟩ := (show l = w ∧ o.den from h)
      exact ⟨h2, fun es e => by cases e; rw [h1]⟩
theorem okC_weight {c : Code} (h : okC c = true) : c.weight ≤ 5 := by
  have hf : c.isCaller = false → c.frames ≤ 3 := by
    intro _
    unfold Code.frames
    split <;> first | omega | skip
    split <;> omega
  have hk : c.isCaller = false := by
    unfold okC at h
    unfold Code.isCaller
    split
    · rename_i e
      simp at h
    · rfl
  have := hf hk
  unfold Code.weight
  rw [hk]
  simp only [Bool.false_eq_true, if_false]
  split <;> split <;> omega
def R0 (C : Cf) (h₀ : Heap) (g : Array GenState) (d : Drawn) (os : OsState) : Result → Shared → Prop := fun r s =>
  ∃ as ts, r = C.S.res as ts ∧ C.S.Ends as ts h₀ s.heap ∧ s.gens = g ∧ s.drawn = d ∧ s.os = os
end Mine
end

section
open PySem PySem.W PySem.W.X PyProof.Rows
set_option maxRecDepth 100000
namespace Mine
theorem fsts_eq : ∀ m : Mem, fsts m = m.map (·.1)
  | [] => rfl
  | q :: m => by show q.1 :: fsts m = _; rw [fsts_eq m]; rfl
theorem lenL_eq {α : Type} : ∀ m : List α, lenL m = m.length
  | [] => rfl
  | q :: m => by show lenL m + 1 = _; rw [lenL_eq m]; rfl
theorem adAll_eq (σ : Bk) : ∀ l, adAll σ l = l.map (ad σ)
  | [] => rfl
  | a :: l => by show ad σ a :: adAll σ l = _; rw [adAll_eq σ l]; rfl
theorem app_eq : ∀ l r, app l r = l ++ r
  | [], _ => rfl
  | a :: l, r => by show a :: app l r = _; rw [app_eq l r]; rfl
theorem appO_eq : ∀ l r, appO l r = l ++ r.map some
  | [], [] => rfl
  | [], b :: r => by show some b :: appO [] r = _; rw [appO_eq [] r]; rfl
  | a :: l, r => by show a :: appO l r = _; rw [appO_eq l r]; rfl
theorem sel_len (ks : List Nat) : ∀ ix, (sel ks ix).length = ix.length
  | [] => rfl
  | i :: ix => by show (sel ks ix).length + 1 = _; rw [sel_len ks ix]; rfl
theorem iota_len : ∀ n i, (iota n i).length = n
  | 0, _ => rfl
  | n + 1, i => by show (iota n (i + 1)).length + 1 = _; rw [iota_len n]
theorem nth_sel {ks : List Nat} : ∀ {ix : List Nat} {i : Nat}, i < ix.length → nth (sel ks ix) i = nth ks (nth ix i)
  | _ :: _, 0, _ => rfl
  | _ :: ix, i + 1, h => nth_sel (ix := ix) (Nat.lt_of_succ_lt_succ h)
theorem nth_iota : ∀ {n i j : Nat}, j < n → nth (iota n i) j = i + j
  | n + 1, i, 0, _ => rfl
  | n + 1, i, j + 1, h => by
    have := nth_iota (n := n) (i := i + 1) (j := j) (Nat.lt_of_succ_lt_succ h)
    rw [show i + (j + 1) = i + 1 + j by omega, ← this]; rfl
theorem nth_get {l : List Nat} : ∀ {i : Nat} (h : i < l.length), nth l i = l[i] := by
  induction l with
  | nil => intro i h; cases h
  | cons a l ih => intro i h; cases i with
    | zero => rfl
    | succ i => exact ih (Nat.lt_of_succ_lt_succ h)
theorem nth_map {f : Nat → Nat} {l : List Nat} {i : Nat} (h : i < l.length) : nth (l.map f) i = f (nth l i) := by
  rw [nth_get h, nth_get (by rw [List.length_map]; exact h), List.getElem_map]
theorem allN_iff {b : Nat} : ∀ {n : Nat} {P : List Nat → Ob}, (allN b n P).den → ∀ as, as.length = n → (∀ a ∈ as, b ≤ a) → (P as).den
  | 0, P, h, as, e, _ => by
    cases as with
    | nil => exact h
    | cons => cases e
  | n + 1, P, h, as, e, l => by
    cases as with
    | nil => cases e
    | cons a as =>
      have := l a (List.mem_cons_self ..)
      have q := allN_iff (n := n) (P := fun l => P ((a - b + b) :: l)) (h (a - b)) as (Nat.succ.inj e) (fun a h => l a (List.mem_cons_of_mem _ h))
      rwa [Nat.sub_add_cancel this] at q
theorem slotsOk_iff {st : St} : ∀ {n : Nat} {l : List Nat} {go : List Nat → List Nat → List Obj → List Nat → Ob}, (slotsOk st n l go).den → ∃ ks as os l', (go ks as os l').den
  | 0, l, go, h => ⟨[], [], [], l, h⟩
  | n + 1, [], _, h => (show False from h).elim
  | n + 1,0 :: _, _, h => (show False from h).elim
  | n + 1, (k + 1) :: l, go, h => by
    have h : (ob (st.T.get k) fun o => slotsOk st n l fun ks as os l => go (k :: ks) (ad st.σ k :: as) (o :: os) l).den := h
    obtain ⟨o, _, h⟩ := obT h
    obtain ⟨ks, as, os, l', h⟩ := slotsOk_iff h
    exact ⟨_, _, _, _, h⟩
theorem slotsDyn_iff {st : St} {k : Nat} {l : List Nat} {go : List Nat → List Nat → List Obj → List Nat → Ob} (h : (slotsDyn st k l go).den) : ∃ ks as os l', (go ks as os l').den := by
  unfold slotsDyn at h
  cases e : Nat.beq k 1000 with
  | false => rw [e] at h; exact slotsOk_iff h
  | true =>
    rw [e] at h
    cases l with
    | nil => exact (show False from h).elim
    | cons n l => exact slotsOk_iff (show (slotsOk st n l go).den from h)
theorem needOk_iff {own : List Bool} : ∀ {m : List Bool} {l : List Nat} {go : List Nat → Ob}, (∀ b ∈ own, b = true) → (needOk own m l go).den → ∃ l', (go l').den ∧ ∀ b ∈ m, b = true
  | [], l, _, _, h => ⟨l, h, fun _ h => (nomatch h)⟩
  | b :: m, [], _, _, h => (show False from h).elim
  | b :: m, k :: l, go, ho, h => by
    obtain ⟨h1, h⟩ : b = (Nat.rec (motive := fun _ => Bool) true (fun k _ => nthB own k) k) ∧ (needOk own m l go).den := h
    obtain ⟨l', h2, h3⟩ := needOk_iff ho h
    refine ⟨l', h2, fun b' hb => ?_⟩
    cases hb with
    | head =>
      rw [h1]
      cases k with
      | zero => rfl
      | succ k =>
        show nthB own k = true
        clear h h1 h2 h3
        induction own generalizing k with
        | nil => rfl
        | cons a own ih => cases k with
          | zero => exact ho a (List.mem_cons_self ..)
          | succ k => exact ih (fun b hb => ho b (List.mem_cons_of_mem _ hb)) k
    | tail _ hb => exact h3 b' hb
theorem preOk_iff {st : St} : ∀ {m : Mem} {ks : List Nat} {go : Ob}, (preOk st m ks go).den →
    go.den ∧ fsts m = ks.map (ad st.σ) ∧ (∀ q ∈ m, ∃ k ∈ ks, q.1 = ad st.σ k ∧ st.T.get k = some q.2) ∧ (∀ k ∈ ks, ∃ q ∈ m, q.1 = ad st.σ k ∧ st.T.get k = some q.2)
  | [], [], go, h => ⟨h, rfl, fun _ h => (nomatch h), fun _ h => (nomatch h)⟩
  | [], _ :: _, _, h => (show False from h).elim
  | q :: m, [], _, h => (show False from h).elim
  | q :: m, k :: ks, go, h => by
    obtain ⟨h1, h⟩ : ad st.σ k = q.1 ∧ (ob (st.T.get k) fun o => .eqO o q.2 (preOk st m ks go)).den := h
    obtain ⟨o, ho, h⟩ := obT h
    obtain ⟨rfl, h⟩ : o = q.2 ∧ (preOk st m ks go).den := h
    obtain ⟨i0, i1, i2, i3⟩ := preOk_iff h
    refine ⟨i0, by rw [List.map_cons, ← i1, h1]; rfl, fun q' hq => ?_, fun k' hk => ?_⟩
    · cases hq with
      | head => exact ⟨k, List.mem_cons_self .., h1.symm, ho⟩
      | tail _ hq => obtain ⟨k', m1, m2⟩ := i2 q' hq; exact ⟨k', List.mem_cons_of_mem _ m1, m2⟩
    · cases hk with
      | head => exact ⟨q, List.mem_cons_self .., h1.symm, ho⟩
      | tail _ hk => obtain ⟨q', m1, m2⟩ := i3 k' hk; exact ⟨q', List.mem_cons_of_mem _ m1, m2⟩
theorem putL_cons (T : KT) (k : Nat) (kp : List Nat) (q : Option Obj) (m : List (Option Obj)) : putL T (k :: kp) (q :: m) = kput 40 (putL T kp m) k q := rfl
theorem putL_get {T : KT} {j : Nat} {o : Obj} : ∀ {kp : List Nat} {m : List (Option Obj)}, kp.length = m.length → (∀ k ∈ kp, k < 1000000) → (putL T kp m).get j = some o →
    (∃ (i : Nat) (hi : i < m.length), i < kp.length ∧ nth kp i = j ∧ m[i] = some o) ∨ (j ∉ kp ∧ T.get j = some o) := by
  intro kp
  induction kp with
  | nil =>
    intro m h _ e
    cases m with
    | nil => exact .inr ⟨fun h => (nomatch h), e⟩
    | cons => cases h
  | cons k kp ih =>
    intro m h hk e
    cases m with
    | nil => cases h
    | cons q m =>
      have h : kp.length = m.length := Nat.succ.inj h
      rw [putL_cons, put_get (hk k (List.mem_cons_self ..))] at e
      by_cases hj : j = k
      · rw [if_pos hj] at e
        exact .inl ⟨0, Nat.zero_lt_succ _, Nat.zero_lt_succ _, hj.symm, e⟩
      · rw [if_neg hj] at e
        rcases ih h (fun k hk' => hk k (List.mem_cons_of_mem _ hk')) e with ⟨i, hi, a, b, c⟩ | ⟨a, b⟩
        · exact .inl ⟨i + 1, Nat.succ_lt_succ hi, Nat.succ_lt_succ a, b, c⟩
        · refine .inr ⟨fun h' => ?_, b⟩
          cases h' with
          | head => exact hj rfl
          | tail _ h' => exact a h'
theorem ad_cons (b : Nat × Nat) (σ : Bk) (s : Nat) : ad (b :: σ) s = if b.1 ≤ s then b.2 + (s - b.1) else ad σ s := by
  show Bool.rec (motive := fun _ => Nat) (ad σ s) (b.2 + (s - b.1)) (Nat.ble b.1 s) = _
  by_cases h : b.1 ≤ s
  · rw [if_pos h, Nat.ble_eq_true_of_le h]
  · rw [if_neg h]
    cases e : Nat.ble b.1 s with
    | true => exact absurd (ble_iff e) h
    | false => rfl
theorem blocks_old {n' : Nat} : ∀ {as : List Nat} {σ : Bk} {nx s : Nat}, s < nx → ad (blocks σ nx n' as) s = ad σ s
  | [], σ, nx, s, h => by
    show ad ((nx, n') :: σ) s = _
    rw [ad_cons, if_neg (by simp; omega)]
  | a :: as, σ, nx, s, h => by
    show ad (blocks ((nx, a) :: σ) (nx + 1) n' as) s = _
    rw [blocks_old (Nat.lt_succ_of_lt h), ad_cons, if_neg (by simp; omega)]
theorem blocks_new {n' : Nat} : ∀ {as : List Nat} {σ : Bk} {nx i : Nat}, i < as.length → ad (blocks σ nx n' as) (nx + i) = nth as i
  | a :: as, σ, nx, 0, _ => by
    show ad (blocks ((nx, a) :: σ) (nx + 1) n' as) nx = a
    rw [blocks_old (Nat.lt_succ_self _), ad_cons, if_pos (Nat.le_refl _), Nat.sub_self]; rfl
  | a :: as, σ, nx, i + 1, h => by
    show ad (blocks ((nx, a) :: σ) (nx + 1) n' as) (nx + (i + 1)) = nth as i
    rw [← blocks_new (n' := n') (σ := (nx, a) :: σ) (nx := nx + 1) (Nat.lt_of_succ_lt_succ h)]
    congr 1; omega
theorem blocks_end {n' : Nat} : ∀ {as : List Nat} {σ : Bk} {nx s : Nat}, nx + as.length ≤ s → ad (blocks σ nx n' as) s = n' + (s - (nx + as.length))
  | [], σ, nx, s, h => by
    show ad ((nx, n') :: σ) s = _
    rw [ad_cons, if_pos (show nx ≤ s from h)]; rfl
  | a :: as, σ, nx, s, h => by
    show ad (blocks ((nx, a) :: σ) (nx + 1) n' as) s = _
    rw [List.length_cons] at h ⊢
    rw [blocks_end (by omega)]
    congr 2; omega
theorem holds_iff {h : Heap} : ∀ {t : KT} {s b : Nat}, (∀ j o, t.get j = some o → h.get? (s * j + b) = some o) → KT.Holds h s b t
  | .nil, _, _, _ => trivial
  | .node v l r, s, b, H => by
    refine ⟨fun o e => ?_, holds_iff fun j o e => ?_, holds_iff fun j o e => ?_⟩
    · have := H 0 o (by rw [KT.get_node, if_pos rfl]; exact e)
      rwa [Nat.mul_zero, Nat.zero_add] at this
    · have := H (2 * j + 1) o (by rw [KT.get_node, if_neg (by omega), if_pos (by omega)]; rw [show (2 * j + 1) / 2 = j by omega]; exact e)
      rw [show s * (2 * j + 1) + b = 2 * s * j + (s + b) by rw [Nat.mul_add, Nat.mul_one, ← Nat.mul_assoc, Nat.mul_comm s 2]; omega] at this
      exact this
    · have := H (2 * j + 2) o (by rw [KT.get_node, if_neg (by omega), if_neg (by omega)]; rw [show (2 * j + 2) / 2 - 1 = j by omega]; exact e)
      rw [show s * (2 * j + 2) + b = 2 * s * j + (2 * s + b) by rw [Nat.mul_add, ← Nat.mul_assoc, Nat.mul_comm s 2]; omega] at this
      exact this
theorem kt_get {V : Vn} {h : Heap} (H : V.kt.Holds h 1 0) {a : Nat} {o : Obj} (e : V.kt.get a = some o) : h.get? a = some o := kt_at H e
theorem kt_of {V : Vn} {h : Heap} (H : ∀ a o, V.kt.get a = some o → h.get? a = some o) : V.kt.Holds h 1 0 := holds_iff fun j o e => by
  rw [Nat.one_mul, Nat.add_zero]; exact H j o e
section
variable {V : Vn} {C : Cf} {h₀ h : Heap} {st : St} {t : Nat}
theorem Rp.inj (D : Rp V C h₀ st h t) {s s' : Nat} (a : s < st.nx) (b : s' < st.nx) (e : ad st.σ s = ad st.σ s') : s = s' := by
  rcases Nat.lt_trichotomy s s' with q | q | q
  · exact absurd e (D.apart s s' q b)
  · exact q
  · exact absurd e.symm (D.apart s' s q a)
theorem Rp.alloc (A : C.S.At V h₀) (D : Rp V C h₀ st h t) {o : Obj} (hf : o.isFreed = false) (hn : st.nx < 1000000) : Rp V C h₀ ⟨st.σ, st.nx + 1, st.τ, st.nt, kput 40 st.T st.nx (some o)⟩ (h.push o) t := by
  have hl := D.lin (st.nx + 1) (Nat.le_succ _)
  rw [Nat.add_sub_cancel_left] at hl
  refine ⟨by rw [Heap.size_push, D.size]; exact hl.symm, fun s hs => ?_, fun s hs => ?_, fun s s' a b => ?_, fun s hs => ?_, fun s a b => ?_, D.pre, fun s o' e => ?_, ?_, fun b o' e q => Heap.get?_push_of_some _ (D.keep b o' e q), hn, Nat.le_succ_of_le D.le, by rw [Heap.size_push]; exact Nat.le_succ_of_le D.big, D.tok, D.tlin⟩
  · show ad st.σ s = ad st.σ (st.nx + 1) + (s - (st.nx + 1))
    have hs : st.nx + 1 ≤ s := hs
    rw [hl, D.lin s (by omega)]; omega
  · rw [Heap.size_push]
    rcases Nat.lt_or_eq_of_le (Nat.le_of_lt_succ hs) with q | q
    · exact Nat.lt_succ_of_lt (D.lt s q)
    · rw [q, ← D.size]; exact Nat.lt_succ_self _
  · have b : s' < st.nx + 1 := b
    rcases Nat.lt_or_eq_of_le (Nat.le_of_lt_succ b) with q | q
    · exact D.apart s s' a q
    · have a : s < st.nx := q ▸ a
      have := D.lt s a
      show ad st.σ s ≠ ad st.σ s'
      have e' : ad st.σ s' = h.objs.size := by rw [q, D.size]
      rw [e']; exact Nat.ne_of_lt this
  · rcases Nat.lt_or_eq_of_le (Nat.le_of_lt_succ hs) with q | q
    · exact D.off s q
    · cases e : V.kt.get (ad st.σ s) with
      | none => rfl
      | some o =>
        have := Heap.lt_size (kt_get D.kt e)
        rw [q, ← D.size] at this; exact absurd this (Nat.lt_irrefl _)
  · rcases Nat.lt_or_eq_of_le (Nat.le_of_lt_succ b) with q | q
    · exact D.new s a q
    · show _ ≤ ad st.σ s
      rw [q, ← D.size]; exact D.big
  · have e : (kput 40 st.T st.nx (some o)).get s = some o' := e
    rw [put_get hn] at e
    by_cases hs : s = st.nx
    · rw [if_pos hs] at e
      cases e
      refine ⟨hs ▸ Nat.lt_succ_self _, ?_⟩
      show (h.push o).get? (ad st.σ s) = some o
      rw [hs, ← D.size]; exact Heap.get?_push_size _ hf
    · rw [if_neg hs] at e
      have z := D.own s o' e
      exact ⟨Nat.lt_succ_of_lt z.1, Heap.get?_push_of_some _ z.2⟩
  · exact KT.Holds.keeps (fun b o' e => Heap.get?_push_of_some _ e) D.kt
theorem Rp.update (A : C.S.At V h₀) (D : Rp V C h₀ st h t) {s : Nat} {o : Obj} {f : Obj → Obj} (e : st.T.get s = some o) (hf : (f o).isFreed = false) (hn : C.s₀ ≤ s ∨ s ∈ C.upd) :
    Rp V C h₀ ⟨st.σ, st.nx, st.τ, st.nt, kput 40 st.T s (some (f o))⟩ (h.update (ad st.σ s) f) t := by
  have z := D.own _ _ e
  have hb : Heap.SameBut (ad st.σ s) h (h.update (ad st.σ s) f) := Heap.SameBut.update ..
  have hlt : s < 1000000 := Nat.lt_of_lt_of_le z.1 D.few
  have notin : ∀ b o', h₀.get? b = some o' → b ∉ C.S.touchA → b ≠ ad st.σ s := fun b o' e' q r => by
    by_cases w : C.s₀ ≤ s
    · have h1 := D.new s w z.1
      have h2 := Heap.lt_size e'
      rw [r] at h2
      exact Nat.lt_irrefl _ (Nat.lt_of_lt_of_le h2 h1)
    · refine q ?_
      rcases hn with n | n
      · exact absurd n w
      · rw [r, D.pre s (Nat.lt_of_not_le w)]; exact nth_mem n
  refine ⟨by rw [hb.1]; exact D.size, D.lin, fun s' q => by rw [hb.1]; exact D.lt s' q, D.apart, D.off, D.new, D.pre, fun s' o' e' => ?_, ?_, fun b o' e' q => (hb.2 b (notin b o' e' q)).trans (D.keep b o' e' q), D.few, D.le, by rw [hb.1]; exact D.big, D.tok, D.tlin⟩
  · have e' : (kput 40 st.T s (some (f o))).get s' = some o' := e'
    rw [put_get hlt] at e'
    by_cases w : s' = s
    · rw [if_pos w] at e'
      cases e'
      refine ⟨w ▸ z.1, ?_⟩
      rw [w]
      first | exact Heap.get?_update_self f z.2 hf | exact Heap.get?_update_self _ z.2 hf
    · rw [if_neg w] at e'
      have y := D.own s' o' e'
      exact ⟨y.1, (hb.2 _ fun r => w (D.inj y.1 z.1 r)).trans y.2⟩
  · refine kt_of fun a o' e' => ?_
    refine (hb.2 a fun r => ?_).trans (kt_get D.kt e')
    have := D.off s z.1
    rw [← r, e'] at this
    cases this
end
end Mine
end

section
open PySem PySem.W PySem.W.X PyProof.Rows
set_option maxRecDepth 100000
namespace Mine
section
variable {V : Vn} {C : Cf} {h₀ h : Heap} {st : St} {t : Nat}
theorem spec_sound (A : C.S.At V h₀) (D : Rp V C h₀ st h t) {S : Spec} (ok : S.Holds V) {have_ : Option (List Env × Bool)} {ks l as₀ ts₀ : List Nat} {d : Nat} {hd : Option Value} {c' : Code} {go : List Nat → List Nat → Hs → St → Ob} {Γ : Ctx}
    (H : (spec V.lim C have_ S ks l as₀ ts₀ d hd c' st go).den) (hl : ∀ es, have_ = some es → (envsB Γ.below, ucB Γ.below) = es) (hc : Γ.code = c') (hh : Γ.handled = hd) (hb : Low Γ.below d) (p : Pos) (g : Array GenState) (dr : Drawn) (os : OsState) :
    ∃ as ts hs' st' h' t', Returns V.M Γ p ⟨h, g, dr, t, os⟩ (S.res as ts) ⟨h', g, dr, t', os⟩ ∧ (go as ts hs' st').den ∧ Rp V C h₀ st' h' t' := by
  cases hd with
  | some _ => exact (show False from H).elim
  | none =>
  obtain ⟨H1, H⟩ : c' = S.code ∧ (belOk S.bel have_ (preOk st S.pre ks _)).den := H
  obtain ⟨H, hbel⟩ := belOk_iff H
  obtain ⟨H, P1, P2, P3⟩ := preOk_iff H
  obtain ⟨l', H, hN⟩ := needOk_iff A.need H
  obtain ⟨hB, H3⟩ := bfT H
  obtain ⟨b1, hB⟩ := andT hB
  obtain ⟨b2, hB⟩ := andT hB
  obtain ⟨b4, hB⟩ := andT hB
  obtain ⟨b0, b5⟩ := andT hB
  have liveK : ∀ k ∈ ks, ∃ o, st.T.get k = some o := fun k hk => let ⟨q, _, _, e⟩ := P3 k hk; ⟨_, e⟩
  have ltK : ∀ k ∈ ks, k < st.nx := fun k hk => let ⟨o, e⟩ := liveK k hk; (D.own k o e).1
  have ixlt : ∀ i ∈ S.touch, i < ks.length := fun i hi => by
    have := blt_iff (allB_iff b0 i hi)
    rwa [lenL_eq] at this
  have nthK : ∀ i, i < ks.length → nth ks i ∈ ks := fun i hi => by rw [nth_get hi]; exact List.getElem_mem hi
  have tA : ∀ b, b ∈ S.touchA → ∃ k, k ∈ sel ks S.touch ∧ k ∈ ks ∧ b = ad st.σ k := fun b hb => by
    obtain ⟨i, hi, e⟩ := mem_sel hb
    have hl := ixlt i hi
    rw [P1, nth_map hl] at e
    exact ⟨_, nth_mem hi, nthK i hl, e⟩
  have sK : ∀ k, k ∈ sel ks S.touch → k ∈ ks ∧ (C.s₀ ≤ k ∨ k ∈ C.upd) := fun k hk => by
    obtain ⟨i, hi, e⟩ := mem_sel hk
    refine ⟨e ▸ nthK i (ixlt i hi), ?_⟩
    rcases orT (allB_iff b5 k hk) with q | q
    · exact .inl (ble_iff q)
    · exact .inr (inB_iff q)
  have at' : S.At V h := ⟨D.kt, fun q hq => by
      obtain ⟨k, hk, e1, e2⟩ := P2 q hq
      rw [e1]; exact (D.own k _ e2).2, fun q hq => by
      obtain ⟨k, hk, e1, e2⟩ := P2 q hq
      rw [e1]; exact D.off k (ltK k hk), by
      rw [← fsts_eq, P1]
      have nd := nodupB_iff b2
      rw [List.Nodup, List.pairwise_map]
      refine List.Pairwise.imp_of_mem ?_ nd
      intro a b ha hb hne e
      exact hne (D.inj (ltK a ha) (ltK b hb) e), Nat.le_trans A.lim D.big, hN⟩
  obtain ⟨as, ts, h', t', hr, E⟩ := ok Γ p h g dr t os (by rw [hc, H1]) hh (hb.mono (ble_iff b1)) (fun cs e => hl cs (hbel cs e)) at'
  have hlim : V.lim ≤ h.objs.size := Nat.le_trans A.lim D.big
  have hlim' : h'.objs.size - V.lim + V.lim = h'.objs.size := Nat.sub_add_cancel (Nat.le_trans hlim E.size)
  have H3 := (allN_iff (allN_iff H3 as E.na fun a ha => Nat.le_trans hlim (E.fresh a ha).1) ts E.nt fun _ _ => Nat.zero_le _) (h'.objs.size - V.lim) t'
  rw [hlim'] at H3
  obtain ⟨hL, H4⟩ := bfT H3
  obtain ⟨l1, l2⟩ := andT hL
  have l1 := Nat.eq_of_beq_eq_true l1
  have l2 := Nat.eq_of_beq_eq_true l2
  rw [lenL_eq, lenL_eq] at l1
  rw [lenL_eq] at l2
  have hna := E.na
  have old : ∀ s, s < st.nx → ad (blocks st.σ st.nx h'.objs.size as) s = ad st.σ s := fun s hs => blocks_old hs
  have fresh : ∀ s, st.nx ≤ s → s < st.nx + S.na → ∃ (i : Nat) (hi : i < as.length), s = st.nx + i ∧ ad (blocks st.σ st.nx h'.objs.size as) s = as[i] := fun s h1 h2 => by
    refine ⟨s - st.nx, by omega, by omega, ?_⟩
    rw [← nth_get, ← blocks_new (n' := h'.objs.size) (σ := st.σ) (nx := st.nx) (by omega)]
    congr 1; omega
  have n3 := blt_iff b4
  have kpB : ∀ k ∈ app (sel ks S.touch) (iota S.na st.nx), k < st.nx + S.na := fun k hk => by
    rw [app_eq] at hk
    rcases List.mem_append.1 hk with q | q
    · have := ltK k (sK k q).1; omega
    · obtain ⟨i, hi, rfl⟩ := List.mem_iff_getElem.1 q
      have hi' := hi
      rw [iota_len] at hi'
      rw [← nth_get hi, nth_iota hi']; omega
  refine ⟨as, ts, _, ⟨blocks st.σ st.nx h'.objs.size as, st.nx + S.na, blocks st.τ st.nt t' ts, st.nt + S.nt, putL st.T (app (sel ks S.touch) (iota S.na st.nx)) (appO (S.postT as ts) (S.postN as ts))⟩, h', t', hr, H4, ?_⟩
  have endA : ∀ s, st.nx + S.na ≤ s → ad (blocks st.σ st.nx h'.objs.size as) s = h'.objs.size + (s - (st.nx + S.na)) := fun s hs => by
    rw [blocks_end (by omega), hna]
  have endT : ∀ s, st.nt + S.nt ≤ s → ad (blocks st.τ st.nt t' ts) s = t' + (s - (st.nt + S.nt)) := fun s hs => by
    rw [blocks_end (by rw [E.nt]; exact hs), E.nt]
  refine ⟨?_, fun s hs => ?_, fun s hs => ?_, fun s s' a b => ?_, fun s hs => ?_, fun s a b => ?_, fun s hs => ?_, fun s o e => ?_, ?_, fun b o e q => ?_, Nat.le_of_lt n3, Nat.le_trans D.le (Nat.le_add_right ..), Nat.le_trans D.big E.size, ?_, fun s hs => ?_⟩
  · show h'.objs.size = ad (blocks st.σ st.nx h'.objs.size as) (st.nx + S.na)
    rw [endA _ (Nat.le_refl _), Nat.sub_self]; rfl
  · show ad (blocks st.σ st.nx h'.objs.size as) s = ad (blocks st.σ st.nx h'.objs.size as) (st.nx + S.na) + (s - (st.nx + S.na))
    rw [endA _ (Nat.le_refl _), endA s hs, Nat.sub_self]; rfl
  · show ad (blocks st.σ st.nx h'.objs.size as) s < _
    by_cases w : s < st.nx
    · rw [old s w]; exact Nat.lt_of_lt_of_le (D.lt s w) E.size
    · obtain ⟨i, hi, _, e⟩ := fresh s (Nat.le_of_not_lt w) hs
      rw [e]; exact (E.fresh _ (List.getElem_mem hi)).2
  · show ad (blocks st.σ st.nx h'.objs.size as) s ≠ ad (blocks st.σ st.nx h'.objs.size as) s'
    by_cases w' : s' < st.nx
    · rw [old s' w', old s (Nat.lt_trans a w')]; exact D.apart s s' a w'
    · obtain ⟨i', hi', x', e'⟩ := fresh s' (Nat.le_of_not_lt w') b
      rw [e']
      by_cases w : s < st.nx
      · rw [old s w]
        exact Nat.ne_of_lt (Nat.lt_of_lt_of_le (D.lt s w) (E.fresh _ (List.getElem_mem hi')).1)
      · obtain ⟨i, hi, x, e⟩ := fresh s (Nat.le_of_not_lt w) (Nat.lt_trans a b)
        rw [e]
        exact List.pairwise_iff_getElem.1 E.apart i i' hi hi' (by omega)
  · show V.kt.get (ad (blocks st.σ st.nx h'.objs.size as) s) = none
    by_cases w : s < st.nx
    · rw [old s w]; exact D.off s w
    · obtain ⟨i, hi, _, e⟩ := fresh s (Nat.le_of_not_lt w) hs
      rw [e]
      cases z : V.kt.get as[i] with
      | none => rfl
      | some o => exact absurd (Heap.lt_size (kt_get D.kt z)) (Nat.not_lt_of_le (E.fresh _ (List.getElem_mem hi)).1)
  · show _ ≤ ad (blocks st.σ st.nx h'.objs.size as) s
    by_cases w : s < st.nx
    · rw [old s w]; exact D.new s a w
    · obtain ⟨i, hi, _, e⟩ := fresh s (Nat.le_of_not_lt w) b
      rw [e]; exact Nat.le_trans D.big (E.fresh _ (List.getElem_mem hi)).1
  · show ad (blocks st.σ st.nx h'.objs.size as) s = _
    rw [old s (Nat.lt_of_lt_of_le hs D.le)]; exact D.pre s hs
  · have e : (putL st.T (app (sel ks S.touch) (iota S.na st.nx)) (appO (S.postT as ts) (S.postN as ts))).get s = some o := e
    show s < st.nx + S.na ∧ h'.get? (ad (blocks st.σ st.nx h'.objs.size as) s) = some o
    rcases putL_get (by rw [app_eq, appO_eq, List.length_append, List.length_append, List.length_map, sel_len, iota_len, l1, l2]) (fun k hk => Nat.lt_trans (kpB k hk) n3) e with ⟨i, hi, hi', e1, e2⟩ | ⟨hk, e'⟩
    · have hs : s < st.nx + S.na := kpB s (by rw [← e1, nth_get hi']; exact List.getElem_mem hi')
      refine ⟨hs, ?_⟩
      by_cases w : i < S.touch.length
      · have wt : i < (S.postT as ts).length := by rw [l1]; exact w
        have e5 : (S.postT as ts)[i] = some o := by
          rw [← e2]
          simp only [appO_eq]
          rw [List.getElem_append_left wt]
        have e3 := E.postT i wt o e5
        have ws : i < (sel ks S.touch).length := by rw [sel_len]; exact w
        have es : nth (sel ks S.touch) i = s := by
          rw [← e1, nth_get hi', nth_get ws]
          simp only [app_eq]
          rw [List.getElem_append_left ws]
        have hn : nth S.touch i ∈ S.touch := by rw [nth_get w]; exact List.getElem_mem w
        have et : nth S.touchA i = ad st.σ s := by
          unfold Spec.touchA
          rw [nth_sel w, P1, nth_map (ixlt _ hn), ← nth_sel w, es]
        rw [old s (by rw [← es, nth_sel w]; exact ltK _ (nthK _ (ixlt _ hn))), ← et, e3]
      · have hi2 := hi
        rw [appO_eq, List.length_append, List.length_map, l1, l2] at hi2
        have wt : i - S.touch.length < (S.postN as ts).length := by rw [l2]; omega
        have e3 := E.postN (i - S.touch.length) wt
        have es : s = st.nx + (i - S.touch.length) := by
          rw [← e1, nth_get hi']
          simp only [app_eq]
          rw [List.getElem_append_right (by rw [sel_len]; omega), ← nth_get, sel_len, nth_iota (by omega)]
        rw [es, blocks_new (by omega), e3, ← e2]
        simp only [appO_eq]
        rw [List.getElem_append_right (by rw [l1]; omega), List.getElem_map]
        congr 2; congr 1; rw [l1]
    · have z := D.own s o e'
      refine ⟨Nat.lt_of_lt_of_le z.1 (Nat.le_add_right ..), ?_⟩
      rw [old s z.1]
      refine E.keep _ _ z.2 fun ht => hk ?_
      obtain ⟨k, hk', hk2, e3⟩ := tA _ ht
      rw [D.inj z.1 (ltK k hk2) e3, app_eq]
      exact List.mem_append_left _ hk'
  · refine kt_of fun a o e => E.keep _ _ (kt_get D.kt e) fun ht => ?_
    obtain ⟨k, hk', hk2, e3⟩ := tA _ ht
    have := D.off k (ltK k hk2)
    rw [← e3, e] at this
    cases this
  · refine E.keep _ _ (D.keep b o e q) fun ht => ?_
    obtain ⟨k, hk', hk2, e3⟩ := tA _ ht
    by_cases w : C.s₀ ≤ k
    · have h1 := D.new k w (ltK k hk2)
      have h2 := Heap.lt_size e
      rw [e3] at h2
      exact Nat.lt_irrefl _ (Nat.lt_of_lt_of_le h2 h1)
    · refine q ?_
      rcases (sK k hk').2 with n | n
      · exact absurd n w
      · rw [e3, D.pre k (Nat.lt_of_not_le w)]; exact nth_mem n
  · show t' = ad (blocks st.τ st.nt t' ts) (st.nt + S.nt)
    rw [endT _ (Nat.le_refl _), Nat.sub_self]; rfl
  · show ad (blocks st.τ st.nt t' ts) s = ad (blocks st.τ st.nt t' ts) (st.nt + S.nt) + (s - (st.nt + S.nt))
    rw [endT _ (Nat.le_refl _), endT s hs, Nat.sub_self]; rfl
theorem specD_sound (A : C.S.At V h₀) (D : Rp V C h₀ st h t) {have_ : Option (List Env × Bool)} {dp : Dp V} {hs : Hs} {d : Nat} {hd : Option Value} {c' : Code} {go : Spec → List Nat → List Nat → Hs → St → Ob}
    (H : (specD C have_ dp hs d hd c' st go).den) {Γ : Ctx} (hl : ∀ es, have_ = some es → (envsB Γ.below, ucB Γ.below) = es) (hc : Γ.code = c') (hh : Γ.handled = hd) (hb : Low Γ.below d) (p : Pos) (g : Array GenState) (dr : Drawn) (os : OsState) :
    ∃ S as ts hs' st' h' t', Returns V.M Γ p ⟨h, g, dr, t, os⟩ (S.res as ts) ⟨h', g, dr, t', os⟩ ∧ (go S as ts hs' st').den ∧ Rp V C h₀ st' h' t' := by
  obtain ⟨ks, as, os', l, H⟩ := slotsDyn_iff H
  cases l with
  | nil => exact (show False from H).elim
  | cons alt l =>
    have H : (Option.rec (motive := fun _ => Ob) (.stop 5 1) (fun S => spec V.lim C have_ S.S ks l hs.as hs.ts d hd c' st (go S.S)) (dp.get as os' alt) : Ob).den := H
    cases e : dp.get as os' alt with
    | none => rw [e] at H; exact (show False from H).elim
    | some S =>
      rw [e] at H
      exact ⟨S.S, spec_sound A D S.ok H hl hc hh hb p g dr os⟩
theorem finOk_iff {st : St} : ∀ {ks : List Nat} {m : List (Option Obj)}, (finOk st ks m).den → ks.length = m.length ∧ ∀ i (hi : i < m.length) o, m[i] = some o → st.T.get (nth ks i) = some o
  | [], [], _ => ⟨rfl, fun _ h => (nomatch h)⟩
  | [], _ :: _, h => (show False from h).elim
  | _ :: _, [], h => (show False from h).elim
  | k :: ks, none :: m, h => by
    obtain ⟨h1, h2⟩ := finOk_iff (show (finOk st ks m).den from h)
    refine ⟨by rw [List.length_cons, List.length_cons, h1], fun i hi o e => ?_⟩
    cases i with
    | zero => cases e
    | succ i => exact h2 i (Nat.lt_of_succ_lt_succ hi) o e
  | k :: ks, some q :: m, h => by
    have h : (ob (st.T.get k) fun o => .eqO o q (finOk st ks m)).den := h
    obtain ⟨o, ho, h⟩ := obT h
    obtain ⟨rfl, h3⟩ : o = q ∧ (finOk st ks m).den := h
    obtain ⟨h1, h2⟩ := finOk_iff h3
    refine ⟨by rw [List.length_cons, List.length_cons, h1], fun i hi o' e => ?_⟩
    cases i with
    | zero => cases e; exact ho
    | succ i => exact h2 i (Nat.lt_of_succ_lt_succ hi) o' e
theorem end_sound (hC : C.s₀ = lenL C.S.pre) (D : Rp V C h₀ st h t) {hs : Hs} {r : Result} (H : (endF C hs r st).den) (g : Array GenState) (dr : Drawn) (os : OsState) :
    R0 C h₀ g dr os r ⟨h, g, dr, t, os⟩ := by
  obtain ⟨hB, H⟩ := bfT H
  obtain ⟨b1, hB⟩ := andT hB
  obtain ⟨b2, hB⟩ := andT hB
  obtain ⟨b3, hB⟩ := andT hB
  obtain ⟨b4, hB⟩ := andT hB
  obtain ⟨b5, hB⟩ := andT hB
  obtain ⟨b6, b7⟩ := andT hB
  have b3 := Nat.eq_of_beq_eq_true b3
  have b4 := Nat.eq_of_beq_eq_true b4
  have b5 := Nat.eq_of_beq_eq_true b5
  have b6 := Nat.eq_of_beq_eq_true b6
  rw [lenL_eq] at b3 b4 b6
  rw [lenL_eq, lenL_eq] at b5
  obtain ⟨e1, H⟩ : r = _ ∧ (finOk st _ _).den := H
  obtain ⟨_, e2⟩ := finOk_iff H
  have sl : ∀ s ∈ hs.as, C.s₀ ≤ s ∧ s < st.nx := fun s hs => let x := andT (allB_iff b2 s hs); ⟨ble_iff x.1, blt_iff x.2⟩
  refine ⟨adAll st.σ hs.as, tsAll st.σ st.τ hs.ts 0, e1, ⟨?_, ?_, fun i hi o ho => ?_, fun i hi => ?_, D.keep, fun a ha => ?_, ?_, D.big⟩, rfl, rfl, rfl⟩
  · rw [adAll_eq, List.length_map]; exact b3
  · exact b4
  · have hi' : i < C.S.touch.length := by rw [← b5]; exact hi
    have e5 : (appO (C.S.postT (adAll st.σ hs.as) (tsAll st.σ st.τ hs.ts 0)) (C.S.postN (adAll st.σ hs.as) (tsAll st.σ st.τ hs.ts 0)))[i]'(by rw [appO_eq, List.length_append]; omega) = some o := by
      simp only [appO_eq]
      rw [List.getElem_append_left hi]
      exact ho
    have e3 := e2 i (by rw [appO_eq, List.length_append]; omega) o e5
    have hn : nth C.S.touch i < C.s₀ := by rw [nth_get hi']; exact blt_iff (allB_iff b7 _ (List.getElem_mem hi'))
    have e4 : nth (app C.S.touch hs.as) i = nth C.S.touch i := by
      rw [nth_get (by rw [app_eq, List.length_append]; omega), nth_get hi']
      simp only [app_eq]
      rw [List.getElem_append_left hi']
    rw [e4] at e3
    have := (D.own _ _ e3).2
    rw [D.pre _ hn] at this
    unfold Spec.touchA
    rw [nth_sel hi']
    exact this
  · have hi' : i < hs.as.length := by rw [b3, ← b6]; exact hi
    have hT : C.S.touch.length + i < (app C.S.touch hs.as).length := by rw [app_eq, List.length_append]; omega
    have hO : C.S.touch.length + i < (appO (C.S.postT (adAll st.σ hs.as) (tsAll st.σ st.τ hs.ts 0)) (C.S.postN (adAll st.σ hs.as) (tsAll st.σ st.τ hs.ts 0))).length := by rw [appO_eq, List.length_append, List.length_map]; omega
    have e5 : (appO (C.S.postT (adAll st.σ hs.as) (tsAll st.σ st.τ hs.ts 0)) (C.S.postN (adAll st.σ hs.as) (tsAll st.σ st.τ hs.ts 0)))[C.S.touch.length + i]'hO = some (C.S.postN (adAll st.σ hs.as) (tsAll st.σ st.τ hs.ts 0))[i] := by
      simp only [appO_eq]
      rw [List.getElem_append_right (by omega), List.getElem_map]
      congr 2; omega
    have e3 := e2 (C.S.touch.length + i) hO _ e5
    have e4 : nth (app C.S.touch hs.as) (C.S.touch.length + i) = nth hs.as i := by
      rw [nth_get hT, nth_get hi']
      simp only [app_eq]
      rw [List.getElem_append_right (by omega)]
      congr 1; omega
    rw [e4] at e3
    have := (D.own _ _ e3).2
    have e6 : nth (adAll st.σ hs.as) i = ad st.σ (nth hs.as i) := by rw [adAll_eq, nth_map hi']
    rw [e6]
    exact this
  · rw [adAll_eq] at ha
    obtain ⟨s, hs, rfl⟩ := List.mem_map.1 ha
    exact ⟨D.new s (sl s hs).1 (sl s hs).2, D.lt s (sl s hs).2⟩
  · rw [adAll_eq, List.Nodup, List.pairwise_map]
    refine List.Pairwise.imp_of_mem ?_ (nodupB_iff b1)
    intro a b ha hb hne e
    exact hne (D.inj (sl a ha).2 (sl b hb).2 e)
end
end Mine
end

section
open PySem PySem.W PySem.W.X PyProof.Rows
set_option maxRecDepth 100000
namespace Mine
section
variable {V : Vn} {F : Code → Option (Dp V)} {C : Cf} {h₀ : Heap} {g : Array GenState} {dr : Drawn} {os : OsState}
/-- what a run means -/
def IHy (V : Vn) (C : Cf) (h₀ : Heap) (g : Array GenState) (dr : Drawn) (os : OsState) (ih : Go) : Prop :=
  ∀ hs c hd dd κ t st, (ih hs c hd dd κ t st).den → ∀ Γ Q E p h k, Γ.code = c → Rp V C h₀ st h k → Γ.handled = hd → Low Γ.below dd → Γ.code.weight ≤ 5 → Cts V C.S.bel (R0 C h₀ g dr os) κ Γ Q E →
    Sem.wp V.M Γ t Q E p ⟨h, g, dr, k, os⟩
theorem tr_sound {ih : Go} (I : IHy V C h₀ g dr os ih) : ∀ {T : Tr} {hs : Hs} {c : Code} {hd : Option Value} {dd : Nat} {κ : Kn} {st : St}, (hTr T ih C hs c hd dd κ st).den → ∀ {Γ : Ctx} {Q : PySem.Fin → Pos → Shared → Prop} {E : Value → Pos → Shared → Prop} {p : Pos} {h : Heap} {k : Nat},
    Γ.code = c → Rp V C h₀ st h k → Γ.handled = hd → Low Γ.below dd → Γ.code.weight ≤ 5 → Cts V C.S.bel (R0 C h₀ g dr os) κ Γ Q E → wpT V.M Γ T Q E p ⟨h, g, dr, k, os⟩
  | .run t, _, _, _, _, _, _, H, _, _, _, _, _, _, e, D, hh, hb, hw, K => I _ _ _ _ _ t _ H _ _ _ _ _ _ e D hh hb hw K
  | .seg t k, _, _, _, _, _, _, H, _, _, _, _, _, _, e, D, hh, hb, hw, K => tr_sound I (T := t) H e D hh hb hw (.seg K)
  | .onr t k, _, _, _, _, _, _, H, _, _, _, _, _, _, e, D, hh, hb, hw, K => tr_sound I (T := t) H e D hh hb hw (.onr K)
  | .eqI _ _ k, _, _, _, _, _, _, H, _, _, _, _, _, _, e, D, hh, hb, hw, K => ⟨H.1, tr_sound I (T := k) H.2 e D hh hb hw K⟩
  | .envs k, hs, c, hd, dd, κ, st, H, Γ, Q, E, p, h, tk, e, D, hh, hb, hw, K => by
    have H : (Option.rec (motive := fun _ => Ob) (.stop 19 0) (fun es => hTr (k (appE (cenvs c) es.1) es.2) ih C hs c hd dd κ st) (kenvs C.S.bel κ) : Ob).den := H
    show wpT V.M Γ (k (cenvs Γ.code ++ envsB Γ.below) (Γ.code.isCaller || ucB Γ.below)) Q E p _
    cases hk : kenvs C.S.bel κ with
    | none => rw [hk] at H; exact (show False from H).elim
    | some es =>
      rw [hk] at H
      have H : (hTr (k (appE (cenvs c) es.1) es.2) ih C hs c hd dd κ st).den := H
      have q := K.envs es hk
      have q1 : envsB Γ.below = es.1 := congrArg Prod.fst q
      have q2 : ucB Γ.below = es.2 := congrArg Prod.snd q
      rw [not_caller hw, Bool.false_or, q1, q2, e, ← appE_eq]
      exact tr_sound I H e D hh hb hw K
/-- a result behind a call, or at the end -/
theorem ret_sound (hC : C.s₀ = lenL C.S.pre) {ih : Go} (I : IHy V C h₀ g dr os ih) {r : Result} {hs : Hs} {c : Code} {hd : Option Value} {dd : Nat} {κ : Kn} {st : St} (H : (retH r ih C hs c hd dd κ st).den)
    {Γ : Ctx} {Q : PySem.Fin → Pos → Shared → Prop} {E : Value → Pos → Shared → Prop} {h : Heap} {t : Nat} (D : Rp V C h₀ st h t) (K : Cts V C.S.bel (R0 C h₀ g dr os) κ Γ Q E) :
    ∃ R, Q = QP V Γ R ∧ E = EP R ∧ R r ⟨h, g, dr, t, os⟩ := by
  cases K with
  | base q => exact ⟨_, rfl, rfl, end_sound hC D (show (endF C hs r st).den from H) g dr os⟩
  | @ret c' hd' d' k κ' _ Γ' Q' E' p' K' e1 e2 e3 e4 e5 =>
    have H : (ih hs c' hd' d' κ' (k r) st).den := H
    exact ⟨_, rfl, rfl, I hs c' hd' d' κ' (k r) st H Γ' Q' E' p' h t e1 D e2 e3 (by rw [e1]; exact e4) K'⟩
  | seg => exact (show False from H).elim
  | onr => exact (show False from H).elim
theorem code_sound (O : VOk V) {ih : Go} (I : IHy V C h₀ g dr os ih) {hs : Hs} {c' : Code} {hd : Option Value} {dd : Nat} {κ : Kn} {st : St} (H : (hTr (enterTree c') ih C hs c' hd dd κ st).den) (ok : okC c' = true) (hdd : dd ≤ 905)
    {Γ : Ctx} {R : Result → Shared → Prop} {p : Pos} {h : Heap} {t : Nat} (e : Γ.code = c') (D : Rp V C h₀ st h t) (hh : Γ.handled = hd) (hb : Low Γ.below dd) (K : Cts V C.S.bel (R0 C h₀ g dr os) κ Γ (QP V Γ R) (EP R)) : wpCode V.M Γ R p ⟨h, g, dr, t, os⟩ := by
  have hw : Γ.code.weight ≤ 5 := by rw [e]; exact okC_weight ok
  rw [wpCode_iff_wp]
  have := tr_sound I H e D hh hb hw K (p := p)
  rw [← e] at this
  exact enter_sound (Q := Sem.finPost V.M Γ R) (by have := hb.1; unfold recursionLimit; omega) (hb.units hw hdd) Γ.code this
theorem inl_sound (O : VOk V) {ih : Go} (I : IHy V C h₀ g dr os ih) {hs : Hs} {c c' : Code} {hd h' : Option Value} {k : Result → Sem PySem.Fin} {dd : Nat} {κ : Kn} {st : St} (H : (inl c' h' k ih C hs c hd dd κ st).den)
    {Γ : Ctx} {Q : PySem.Fin → Pos → Shared → Prop} {E : Value → Pos → Shared → Prop} {p : Pos} {h : Heap} {t : Nat} (e : Γ.code = c) (D : Rp V C h₀ st h t) (hh : Γ.handled = hd) (hb : Low Γ.below dd) (hw : Γ.code.weight ≤ 5) (K : Cts V C.S.bel (R0 C h₀ g dr os) κ Γ Q E) :
    wpCode V.M (Γ.enter c' h' p) (fun r s => Sem.wp V.M Γ (k r) Q E p s) p ⟨h, g, dr, t, os⟩ := by
  obtain ⟨hB, H⟩ := bfT H
  obtain ⟨b1, b2⟩ := andT hB
  have b2 := ble_iff b2
  have K' : ∀ hm, Cts V C.S.bel (R0 C h₀ g dr os) (.ret c hd dd k κ) ⟨c', hm, markOver h' Γ.own none, (Γ.code, p) :: Γ.below, Γ.past⟩ (QP V _ (fun r s => Sem.wp V.M Γ (k r) Q E p s)) (EP (fun r s => Sem.wp V.M Γ (k r) Q E p s)) :=
    fun hm => .ret K e hh hb (e ▸ hw) (by rw [e])
  have fc : Low ((Γ.code, p) :: Γ.below) (dd + 5) := hb.cons hw
  cases h' with
  | none => exact code_sound O I (show (hTr (enterTree c') ih C hs c' hd (dd + 5) (.ret c hd dd k κ) st).den from H) b1 (by omega) rfl D hh fc (K' _)
  | some v =>
    cases v with
    | ref a =>
      refine code_sound O I (show (hTr (enterTree c') ih C hs c' (some (.ref a)) (dd + 5) (.ret c hd dd k κ) st).den from H) b1 (by omega) rfl D ?_ fc (K' _)
      rfl
    | _ => exact (show False from H).elim
theorem call_sound (O : VOk V) (A : C.S.At V h₀) {ih : Go} (I : IHy V C h₀ g dr os ih) {hs : Hs} {c c' : Code} {hd h' : Option Value} {k : Result → Sem PySem.Fin} {dd : Nat} {κ : Kn} {st : St} (H : (hCall V F c' h' k ih C hs c hd dd κ st).den)
    {Γ : Ctx} {Q : PySem.Fin → Pos → Shared → Prop} {E : Value → Pos → Shared → Prop} {p : Pos} {h : Heap} {t : Nat} (e : Γ.code = c) (D : Rp V C h₀ st h t) (hh : Γ.handled = hd) (hb : Low Γ.below dd) (hw : Γ.code.weight ≤ 5) (K : Cts V C.S.bel (R0 C h₀ g dr os) κ Γ Q E) :
    wpCode V.M (Γ.enter c' h' p) (fun r s => Sem.wp V.M Γ (k r) Q E p s) p ⟨h, g, dr, t, os⟩ := by
  have fc : Low ((Γ.code, p) :: Γ.below) (dd + 5) := hb.cons hw
  unfold hCall at H
  cases hF : F c' with
  | none =>
    rw [hF] at H
    exact inl_sound O I (show (inl c' h' k ih C hs c hd dd κ st).den from H) e D hh hb hw K
  | some S =>
    rw [hF] at H
    cases h' with
    | some _ => exact (show False from H).elim
    | none =>
      have H : (specD C (kenvs C.S.bel (.ret c hd dd k κ)) S hs (dd + 5) hd c' st fun S as ts hs st' => ih hs c hd dd κ (k (S.res as ts)) st').den := H
      have K' : Cts V C.S.bel (R0 C h₀ g dr os) (.ret c hd dd k κ) (Γ.enter c' none p) _ _ := .ret K e hh hb (e ▸ hw) (by rw [← e]; rfl)
      obtain ⟨S, as, ts, hs', st', h1, t', hr, hg, D'⟩ := specD_sound A D H (Γ := Γ.enter c' none p) (fun cs q => K'.envs cs q) rfl hh fc p g dr os
      exact ⟨_, _, hr, I _ _ _ _ _ _ _ hg Γ Q E p h1 t' e D' hh hb hw K⟩
theorem Cts.top {bel : Option (List Env × Bool)} {R₀ : Result → Shared → Prop} {κ : Kn} {Γ : Ctx} {Q : PySem.Fin → Pos → Shared → Prop} {E : Value → Pos → Shared → Prop} (K : Cts V bel R₀ κ Γ Q E) (hk : κ = .base ∨ ∃ c hd d k κ', κ = .ret c hd d k κ') :
    ∃ R, Q = QP V Γ R ∧ E = EP R ∧ ∀ c, Cts V bel R₀ κ (Γ.goto c) (QP V (Γ.goto c) R) (EP R) := by
  cases K with
  | base q => exact ⟨_, rfl, rfl, fun c => .base q⟩
  | ret a b e f g i => exact ⟨_, rfl, rfl, fun c => .ret a b e f g i⟩
  | seg => rcases hk with h | ⟨_, _, _, _, _, h⟩ <;> cases h
  | onr => rcases hk with h | ⟨_, _, _, _, _, h⟩ <;> cases h
theorem fin_sound (O : VOk V) (hC : C.s₀ = lenL C.S.pre) (A : C.S.At V h₀) {ih : Go} (I : IHy V C h₀ g dr os ih) {f : PySem.Fin} {hs : Hs} {c : Code} {hd : Option Value} {dd : Nat} {κ : Kn} {st : St} (H : (hFin V F f ih C hs c hd dd κ st).den)
    {Γ : Ctx} {Q : PySem.Fin → Pos → Shared → Prop} {E : Value → Pos → Shared → Prop} {p : Pos} {h : Heap} {t : Nat} (D : Rp V C h₀ st h t) (hh : Γ.handled = hd) (hb : Low Γ.below dd) (K : Cts V C.S.bel (R0 C h₀ g dr os) κ Γ Q E) (hk : κ = .base ∨ ∃ c hd d k κ', κ = .ret c hd d k κ') : Q f p ⟨h, g, dr, t, os⟩ := by
  have nl : h.NoLimit := O.nl h D.kt
  cases f with
  | done fl =>
    obtain ⟨R, rfl, rfl, r⟩ := ret_sound hC I (show (retH (.ok fl) ih C hs c hd dd κ st).den from H) D K
    exact ⟨fun p => r, nl⟩
  | again c' =>
    have H : (hAgain V F c' ih C hs c hd dd κ st).den := H
    obtain ⟨R, rfl, rfl, K'⟩ := K.top hk
    refine ⟨fun p => ?_, nl⟩
    unfold hAgain at H
    cases hF : F c' with
    | none =>
      rw [hF] at H
      obtain ⟨hB, H⟩ := bfT (show (tail c' ih C hs c hd dd κ st).den from H)
      obtain ⟨b1, b2⟩ := andT hB
      obtain ⟨b2, b3⟩ := andT b2
      exact ⟨b2, code_sound O I (Γ := Γ.goto c') H b1 (Nat.le_trans (ble_iff b3) (by omega)) rfl D hh hb (K' c')⟩
    | some S =>
      rw [hF] at H
      obtain ⟨hB, H⟩ := bfT (show (bf 12 _ _).den from H)
      refine ⟨(andT hB).2, ?_⟩
      have H : (specD C (kenvs C.S.bel κ) S hs dd hd c' st fun S as ts hs st' => retH (S.res as ts) ih C hs c hd dd κ st').den := H
      obtain ⟨S, as, ts, hs', st', h1, t', hr, hg, D'⟩ := specD_sound A D H (Γ := Γ.goto c') (fun cs q => K.envs cs q) rfl hh hb p g dr os
      obtain ⟨R', e1, e2, r⟩ := ret_sound hC I hg D' K
      have e3 : R (S.res as ts) ⟨h1, g, dr, t', os⟩ := by
        cases hr' : S.res as ts with
        | ok fl =>
          rw [hr'] at r
          have : QP V Γ R (.done fl) p ⟨h1, g, dr, t', os⟩ = QP V Γ R' (.done fl) p ⟨h1, g, dr, t', os⟩ := congrFun (congrFun (congrFun e1 (.done fl)) p) _
          have q : QP V Γ R' (.done fl) p ⟨h1, g, dr, t', os⟩ := ⟨fun p => r, O.nl h1 D'.kt⟩
          rw [← this] at q
          exact q.1 p
        | error e =>
          rw [hr'] at r
          have : EP R e p ⟨h1, g, dr, t', os⟩ = EP R' e p ⟨h1, g, dr, t', os⟩ := congrFun (congrFun (congrFun e2 e) p) _
          have q : EP R' e p ⟨h1, g, dr, t', os⟩ := r
          rw [← this] at q
          exact q
      exact ⟨_, _, hr, e3⟩
theorem pure_sound (O : VOk V) (hC : C.s₀ = lenL C.S.pre) (A : C.S.At V h₀) {ih : Go} (I : IHy V C h₀ g dr os ih) {f : PySem.Fin} {hs : Hs} {c : Code} {hd : Option Value} {dd : Nat} {st : St} {Γ : Ctx} {p : Pos} {h : Heap} {t : Nat} (e : Γ.code = c) (D : Rp V C h₀ st h t) (hh : Γ.handled = hd) (hb : Low Γ.below dd) (hw : Γ.code.weight ≤ 5) :
    ∀ {κ : Kn} {Q : PySem.Fin → Pos → Shared → Prop} {E : Value → Pos → Shared → Prop}, (hPure V F f ih C hs c hd dd κ st).den → Cts V C.S.bel (R0 C h₀ g dr os) κ Γ Q E → Q f p ⟨h, g, dr, t, os⟩
  | .base, _, _, H, K => fin_sound O hC A I (show (hFin V F f ih C hs c hd dd .base st).den from H) D hh hb K (.inl rfl)
  | .ret c1 hd1 d1 k κ, _, _, H, K => fin_sound O hC A I (show (hFin V F f ih C hs c hd dd (.ret c1 hd1 d1 k κ) st).den from H) D hh hb K (.inr ⟨_, _, _, _, _, rfl⟩)
  | .seg k κ, _, _, H, .seg K => tr_sound I (show (hTr (k f) ih C hs c hd dd κ st).den from H) e D hh hb hw K
  | .onr _ κ, _, _, H, .onr K => pure_sound O hC A I e D hh hb hw (show (hPure V F f ih C hs c hd dd κ st).den from H) K
theorem raise_sound (hC : C.s₀ = lenL C.S.pre) {ih : Go} (I : IHy V C h₀ g dr os ih) {x : Value} {hs : Hs} {c : Code} {hd : Option Value} {dd : Nat} {st : St} {Γ : Ctx} {p : Pos} {h : Heap} {t : Nat} (e : Γ.code = c) (D : Rp V C h₀ st h t) (hh : Γ.handled = hd) (hb : Low Γ.below dd) (hw : Γ.code.weight ≤ 5) :
    ∀ {κ : Kn} {Q : PySem.Fin → Pos → Shared → Prop} {E : Value → Pos → Shared → Prop}, (hRaise x ih C hs c hd dd κ st).den → Cts V C.S.bel (R0 C h₀ g dr os) κ Γ Q E → E x p ⟨h, g, dr, t, os⟩
  | .base, _, _, H, K => by
    obtain ⟨R, rfl, rfl, r⟩ := ret_sound hC I (show (retH (.error x) ih C hs c hd dd .base st).den from H) D K
    exact r
  | .ret c1 hd1 d1 k κ, _, _, H, K => by
    obtain ⟨R, rfl, rfl, r⟩ := ret_sound hC I (show (retH (.error x) ih C hs c hd dd (.ret c1 hd1 d1 k κ) st).den from H) D K
    exact r
  | .seg _ κ, _, _, H, .seg K => raise_sound hC I e D hh hb hw (show (hRaise x ih C hs c hd dd κ st).den from H) K
  | .onr k κ, _, _, H, .onr K => tr_sound I (show (hTr (k x) ih C hs c hd dd κ st).den from H) e D hh hb hw K
theorem adv_sound {Γ : Ctx} {Q : PySem.Fin → Pos → Shared → Prop} {E : Value → Pos → Shared → Prop} {st : St} {h : Heap} {tk : Nat} (D : Rp V C h₀ st h tk) : ∀ {n : Nat} {t : Sem PySem.Fin} {l : List Nat} {K : Sem PySem.Fin → List Nat → Ob}, (adv V st n t l K).den →
    ∃ t' l', (K t' l').den ∧ ((∀ p, Sem.wp V.M Γ t' Q E p ⟨h, g, dr, tk, os⟩) → ∀ p, Sem.wp V.M Γ t Q E p ⟨h, g, dr, tk, os⟩)
  | 0, t, l, _, H => ⟨t, l, H, id⟩
  | n + 1, t, l, K, H => by
    have skip : ∀ {t1 : Sem PySem.Fin}, (adv V st n t1 l K).den → (∀ p, ∃ p', Sem.wp V.M Γ t Q E p ⟨h, g, dr, tk, os⟩ = Sem.wp V.M Γ t1 Q E p' ⟨h, g, dr, tk, os⟩) →
        ∃ t' l', (K t' l').den ∧ ((∀ p, Sem.wp V.M Γ t' Q E p ⟨h, g, dr, tk, os⟩) → ∀ p, Sem.wp V.M Γ t Q E p ⟨h, g, dr, tk, os⟩) := fun H e => by
      obtain ⟨t', l', h1, h2⟩ := adv_sound D H
      exact ⟨t', l', h1, fun q p => by
        obtain ⟨p', e⟩ := e p
        rw [e]; exact h2 q p'⟩
    cases t with
    | rule tag k => exact skip (show (adv V st n (k ()) l K).den from H) fun p => ⟨p, by rw [Sem.wp_rule]⟩
    | «at» p' k => exact skip (show (adv V st n (k ()) l K).den from H) fun p => ⟨p', by rw [Sem.wp_at]⟩
    | point s k => exact skip (show (adv V st n (k ()) l K).den from H) fun p => ⟨p, by rw [Sem.wp_point]⟩
    | load a part k =>
      cases l with
      | nil => exact (show False from H).elim
      | cons s l =>
        cases s with
        | zero =>
          obtain ⟨o, ho, H⟩ := obT (show (ob (V.kt.get a) _).den from H)
          obtain ⟨t', l', h1, h2⟩ := adv_sound D H
          exact ⟨t', l', h1, fun q p => by rw [Sem.wp_load]; exact ⟨o, kt_get D.kt ho, h2 q p⟩⟩
        | succ s =>
          obtain ⟨ha, H⟩ := (show a = ad st.σ s ∧ (ob (st.T.get s) _).den from H)
          obtain ⟨o, ho, H⟩ := obT H
          obtain ⟨t', l', h1, h2⟩ := adv_sound D H
          exact ⟨t', l', h1, fun q p => by rw [Sem.wp_load]; exact ⟨o, ha ▸ (D.own s o ho).2, h2 q p⟩⟩
    | loadIfAlive a k =>
      cases l with
      | nil => exact (show False from H).elim
      | cons s l =>
        cases s with
        | zero =>
          obtain ⟨o, ho, H⟩ := obT (show (ob (V.kt.get a) _).den from H)
          obtain ⟨t', l', h1, h2⟩ := adv_sound D H
          exact ⟨t', l', h1, fun q p => by rw [Sem.wp_loadIfAlive, kt_get D.kt ho]; exact h2 q p⟩
        | succ s =>
          obtain ⟨ha, H⟩ := (show a = ad st.σ s ∧ (ob (st.T.get s) _).den from H)
          obtain ⟨o, ho, H⟩ := obT H
          obtain ⟨t', l', h1, h2⟩ := adv_sound D H
          exact ⟨t', l', h1, fun q p => by rw [Sem.wp_loadIfAlive, ha, (D.own s o ho).2]; exact h2 q p⟩
    | _ => exact (show False from H).elim
theorem params_follow (w : World) (r : String) (b : Bool) (e : w.params.followText r = b) : (w.withFollow r b).params = w.params := by
  subst e; rw [World.withFollow_self]
theorem sim_sound (O : VOk V) (hC : C.s₀ = lenL C.S.pre) (A : C.S.At V h₀) : ∀ n, IHy V C h₀ g dr os (sim V F C n)
  | 0 => fun _ _ _ _ _ _ _ H => (show False from H).elim
  | n + 1 => fun hs c hd dd κ t st H Γ Q E p h tk e D hh hb hw K => by
    have I := sim_sound O hC A n
    have nl : h.NoLimit := O.nl h D.kt
    have next : ∀ {hs' t' st'}, (sim V F C n hs' c hd dd κ t' st').den → ∀ {p' h' tk'}, Rp V C h₀ st' h' tk' → Sem.wp V.M Γ t' Q E p' ⟨h', g, dr, tk', os⟩ :=
      fun {hs' t' st'} H {p' h' tk'} D' => I _ _ _ _ _ _ _ H Γ Q E p' h' tk' e D' hh hb hw K
    have H : (disp V F t (sim V F C n) C hs c hd dd κ st).den := H
    obtain ⟨l, as, ts⟩ := hs
    cases t with
    | pure f =>
      rw [Sem.wp_pure]
      exact pure_sound O hC A I e D hh hb hw (show (hPure V F f (sim V F C n) C _ c hd dd κ st).den from H) K
    | raise v => rw [Sem.wp_raise]; exact raise_sound hC I e D hh hb hw (show (hRaise v (sim V F C n) C _ c hd dd κ st).den from H) K
    | rule tag k => rw [Sem.wp_rule]; exact next (show (sim V F C n _ c hd dd κ (k ()) st).den from H) D
    | «at» p' k => rw [Sem.wp_at]; exact next (show (sim V F C n _ c hd dd κ (k ()) st).den from H) D
    | point l k => rw [Sem.wp_point]; exact next (show (sim V F C n _ c hd dd κ (k ()) st).den from H) D
    | load a part k =>
      rw [Sem.wp_load]
      have H : (hLoad V a k (sim V F C n) C ⟨l, as, ts⟩ c hd dd κ st).den := H
      cases l with
      | nil => exact (show False from H).elim
      | cons s l =>
        cases s with
        | zero =>
          obtain ⟨o, ho, H⟩ := obT (show (ob (V.kt.get a) _).den from H)
          exact ⟨o, kt_get D.kt ho, next H D⟩
        | succ s =>
          obtain ⟨ha, H⟩ := (show a = ad st.σ s ∧ (ob (st.T.get s) _).den from H)
          obtain ⟨o, ho, H⟩ := obT H
          exact ⟨o, ha ▸ (D.own s o ho).2, next H D⟩
    | loadIfAlive a k =>
      rw [Sem.wp_loadIfAlive]
      have H : (hLoad V a (fun o => k (some o)) (sim V F C n) C ⟨l, as, ts⟩ c hd dd κ st).den := H
      cases l with
      | nil => exact (show False from H).elim
      | cons s l =>
        cases s with
        | zero =>
          obtain ⟨o, ho, H⟩ := obT (show (ob (V.kt.get a) _).den from H)
          have := kt_get D.kt ho
          rw [this]; exact next H D
        | succ s =>
          obtain ⟨ha, H⟩ := (show a = ad st.σ s ∧ (ob (st.T.get s) _).den from H)
          obtain ⟨o, ho, H⟩ := obT H
          have := (D.own s o ho).2
          rw [ha, this]; exact next H D
    | update a part f k =>
      rw [Sem.wp_update]
      have H : (hUpd a f k (sim V F C n) C ⟨l, as, ts⟩ c hd dd κ st).den := H
      cases l with
      | nil => exact (show False from H).elim
      | cons s l =>
        cases s with
        | zero => exact (show False from H).elim
        | succ s =>
          obtain ⟨ha, H⟩ := (show a = ad st.σ s ∧ (bf 14 _ _).den from H)
          obtain ⟨h1, H⟩ := bfT H
          obtain ⟨o, ho, H⟩ := obT H
          obtain ⟨h2, H⟩ := bfT H
          have hf : (f o).isFreed = false := by
            cases z : (f o).isFreed with
            | false => rfl
            | true => rw [z] at h2; cases h2
          refine ⟨by rw [ha, (D.own s o ho).2]; rfl, ?_⟩
          have D' := D.update A ho hf ((orT h1).imp ble_iff inB_iff)
          rw [← ha] at D'
          exact next H D'
    | alloc o k =>
      rw [Sem.wp_alloc]
      obtain ⟨hB, H⟩ := bfT (show (bf 16 _ _).den from H)
      obtain ⟨b1, b2⟩ := andT hB
      have hf : o.isFreed = false := by
        cases z : o.isFreed with
        | false => rfl
        | true => rw [z] at b1; cases b1
      have D' := D.alloc A hf (blt_iff b2)
      have := next H (p' := p) D'
      rw [← D.size] at this
      exact this
    | fresh k =>
      rw [Sem.wp_fresh]
      have hl := D.tlin (st.nt + 1) (Nat.le_succ _)
      rw [Nat.add_sub_cancel_left] at hl
      have D' : Rp V C h₀ ⟨st.σ, st.nx, st.τ, st.nt + 1, st.T⟩ h (tk + 1) := ⟨D.size, D.lin, D.lt, D.apart, D.off, D.new, D.pre, D.own, D.kt, D.keep, D.few, D.le, D.big, by
        show tk + 1 = ad st.τ (st.nt + 1)
        rw [hl, D.tok], fun s hs => by
        have hs : st.nt + 1 ≤ s := hs
        show ad st.τ s = ad st.τ (st.nt + 1) + (s - (st.nt + 1))
        rw [hl, D.tlin s (by omega)]; omega⟩
      have := next (show (sim V F C n _ c hd dd κ (k (ad st.τ st.nt)) ⟨st.σ, st.nx, st.τ, st.nt + 1, st.T⟩).den from H) (p' := p) D'
      rw [← D.tok] at this
      exact this
    | ask k =>
      rw [Sem.wp_ask]
      have H : (hAsk V k (sim V F C n) C ⟨l, as, ts⟩ c hd dd κ st).den := H
      unfold hAsk at H
      cases e' : C.fk with
      | false => rw [e'] at H; exact next (show (sim V F C n _ c hd dd κ (k ⟨V.prog, V.w.params⟩) st).den from H) D
      | true =>
        rw [e'] at H
        cases l with
        | nil => exact (show False from H).elim
        | cons m l =>
          cases m with
          | zero => exact next (show (sim V F C n ⟨l, as, ts⟩ c hd dd κ (k ⟨V.prog, V.w.params⟩) st).den from H) D
          | succ m =>
            have H : (adv V st m (k ⟨V.prog, (V.w.withFollow "special-get-raises" true).params⟩) l fun t1 l => adv V st m (k ⟨V.prog, (V.w.withFollow "special-get-raises" false).params⟩) l fun t2 l => .eqT t1 t2 (sim V F C n ⟨l, as, ts⟩ c hd dd κ t1 st)).den := H
            obtain ⟨t1, l1, H, r1⟩ := adv_sound (g := g) (dr := dr) (os := os) (Γ := Γ) (Q := Q) (E := E) D H
            obtain ⟨t2, l2, H, r2⟩ := adv_sound (g := g) (dr := dr) (os := os) (Γ := Γ) (Q := Q) (E := E) D H
            obtain ⟨e2, H⟩ := (show t1 = t2 ∧ (sim V F C n ⟨l2, as, ts⟩ c hd dd κ t1 st).den from H)
            have H1 : ∀ p, Sem.wp V.M Γ t1 Q E p ⟨h, g, dr, tk, os⟩ := fun p => next H D
            show Sem.wp V.M Γ (k ⟨V.prog, V.w.params⟩) Q E p ⟨h, g, dr, tk, os⟩
            cases e3 : V.w.params.followText "special-get-raises" with
            | true => rw [← params_follow V.w _ true e3]; exact r1 H1 p
            | false => rw [← params_follow V.w _ false e3]; exact r2 (e2 ▸ H1) p
    | call c' h' gd l k =>
      rw [Sem.wp_call]
      exact call_sound O A I (show (hCall V F c' h' k (sim V F C n) C _ c hd dd κ st).den from H) e D hh hb hw K
    | handled own k =>
      rw [Sem.wp_handled]
      obtain ⟨h1, H⟩ := bfT (show (bf 17 (not own) _).den from H)
      cases own with
      | true => cases h1
      | false =>
        show Sem.wp V.M Γ (k Γ.handled) _ _ _ _
        rw [hh]; exact next H D
    | stack k =>
      rw [Sem.wp_stack]
      obtain ⟨below, ps, q⟩ := K.stack
      have H : ∀ (p : Pos) (ps : Nat → Pos) (below : List (Code × Pos)), (sim V F C n _ c hd dd κ (k ((c, p) :: kst below κ ps)) st).den := H
      rw [q, e]
      exact next (H p ps below) D
    | unsupported w => exact (show False from H).elim
    | finish w => exact (show False from H).elim
    | register a k => exact (show False from H).elim
    | choose a n k => exact (show False from H).elim
    | os a n k => exact (show False from H).elim
    | newGen a k => exact (show False from H).elim
    | genState a k => exact (show False from H).elim
    | resume a b c k => exact (show False from H).elim
    | yield a b c k => exact (show False from H).elim
    | fork a k => exact (show False from H).elim
    | thread k => exact (show False from H).elim
    | await a b c d k => exact (show False from H).elim
end
end Mine
end

section
open PySem PySem.W PySem.W.X PyProof.Rows
set_option maxRecDepth 100000
namespace Mine
theorem preT_get {j : Nat} {o : Obj} : ∀ {m : Mem} {i : Nat} {T : KT}, i + m.length ≤ 1000 → (preT m i T).get j = some o → T.get j = some o ∨ ∃ (x : Nat) (hx : x < m.length), j = i + x ∧ (m[x]'hx).2 = o
  | [], _, _, _, e => .inl e
  | q :: m, i, T, h, e => by
    rw [List.length_cons] at h
    rcases preT_get (m := m) (i := i + 1) (T := kput 40 T i (some q.2)) (by omega) e with e | ⟨x, hx, e1, e2⟩
    · rw [put_get (by omega)] at e
      by_cases w : j = i
      · rw [if_pos w] at e
        cases e
        exact .inr ⟨0, Nat.zero_lt_succ _, w, rfl⟩
      · rw [if_neg w] at e; exact .inl e
    · exact .inr ⟨x + 1, Nat.succ_lt_succ hx, by omega, e2⟩
theorem startB_holds {fk : Bool} {V : Vn} {F : Code → Option (Dp V)} (O : VOk V) {S : Spec} (fuel : Nat) (hs : Hs) (H : ∀ m t, (startB V F fk S fuel hs (m + V.lim) t).one = (startB V F fk S fuel hs (m + V.lim) t).two) : S.Holds V := by
  intro Γ p h g d t os hc hh hb hl A
  have hn : h.objs.size = (h.objs.size - V.lim) + V.lim := by have := A.lim; omega
  obtain ⟨hB, H⟩ := bfT (Ob.den_of (H (h.objs.size - V.lim) t))
  rw [← hn] at H
  obtain ⟨b1, b2⟩ := andT hB
  obtain ⟨b2, b3⟩ := andT b2
  have b3 := ble_iff b3
  rw [lenL_eq] at b3
  have lenE : (S.pre.map (·.1)).length = S.pre.length := List.length_map ..
  have addr : ∀ s (hs : s < S.pre.length), ad (blocks [] 0 h.objs.size (S.pre.map (·.1))) s = (S.pre[s]'hs).1 := fun s hs => by
    have := blocks_new (n' := h.objs.size) (σ := []) (nx := 0) (as := S.pre.map (·.1)) (i := s) (by rw [lenE]; exact hs)
    rw [Nat.zero_add] at this
    rw [this, nth_get (by rw [lenE]; exact hs), List.getElem_map]
  have D : Rp V ⟨lenL S.pre, S, fk⟩ h (st₀ S h.objs.size t) h t := by
    unfold st₀
    rw [lenL_eq, fsts_eq]
    have endA : ∀ s, S.pre.length ≤ s → ad (blocks [] 0 h.objs.size (S.pre.map (·.1))) s = h.objs.size + (s - S.pre.length) := fun s hs => by
      rw [blocks_end (by rw [lenE]; omega), lenE, Nat.zero_add]
    refine ⟨?_, fun s hs => ?_, fun s hs => ?_, fun s s' a b => ?_, fun s hs => ?_, fun s a b => absurd b (Nat.not_lt_of_le a), fun s hs => ?_, fun s o e => ?_, A.kt, fun b o e _ => e, ?_, Nat.le_refl _, Nat.le_refl _, ?_, fun s _ => ?_⟩
    · show _ = ad _ S.pre.length
      rw [endA _ (Nat.le_refl _), Nat.sub_self]; rfl
    · show ad _ s = ad _ S.pre.length + (s - S.pre.length)
      rw [endA _ (Nat.le_refl _), endA s hs, Nat.sub_self]; rfl
    · have hs : s < S.pre.length := hs
      show ad _ s < _
      rw [addr s hs]
      exact Heap.lt_size (A.mem _ (List.getElem_mem hs))
    · have b : s' < S.pre.length := b
      show ad _ s ≠ ad _ s'
      rw [addr s (Nat.lt_trans a b), addr s' b]
      have := List.pairwise_iff_getElem.1 A.apart s s' (by rw [lenE]; exact Nat.lt_trans a b) (by rw [lenE]; exact b) a
      rw [List.getElem_map, List.getElem_map] at this
      exact this
    · have hs : s < S.pre.length := hs
      show V.kt.get (ad _ s) = none
      rw [addr s hs]
      exact A.off _ (List.getElem_mem hs)
    · have hs : s < S.pre.length := hs
      show ad _ s = nth (fsts S.pre) s
      rw [addr s hs, fsts_eq, nth_get (by rw [lenE]; exact hs), List.getElem_map]
    · rcases preT_get (m := S.pre) (i := 0) (T := .nil) (by omega) e with e | ⟨x, hx, e1, e2⟩
      · cases e
      · rw [Nat.zero_add] at e1
        subst e1
        refine ⟨hx, ?_⟩
        show h.get? (ad _ s) = some o
        rw [addr s hx, ← e2]
        exact A.mem _ (List.getElem_mem hx)
    · show S.pre.length ≤ _
      omega
    · show t = ad [(0, t)] 0
      rw [ad_cons, if_pos (Nat.le_refl _)]; rfl
    · show ad [(0, t)] s = ad [(0, t)] 0 + (s - 0)
      rw [ad_cons, ad_cons, if_pos (Nat.zero_le _), if_pos (Nat.zero_le _)]; rfl
  have I := sim_sound (F := F) (C := ⟨lenL S.pre, S, fk⟩) (g := g) (dr := d) (os := os) O rfl A fuel
  have b2 := ble_iff b2
  obtain ⟨r, s', hr, as, ts, e1, e2, e3, e4, e5⟩ := code_sound O I H b1 (by omega) hc D hh hb (.base hl) (p := p)
  obtain ⟨h', g', d', t', os'⟩ := s'
  cases e3; cases e4; cases e5
  rw [e1] at hr
  exact ⟨as, ts, h', t', hr, e2⟩
theorem start_holds {V : Vn} {F : Code → Option (Dp V)} (O : VOk V) {S : Spec} (fuel : Nat) (hs : Hs) (H : ∀ m t, (start V F S fuel hs (m + V.lim) t).one = (start V F S fuel hs (m + V.lim) t).two) : S.Holds V := startB_holds (fk := false) O fuel hs H
end Mine
end

section
open PySem PySem.W PySem.W.X PyProof.Rows
set_option maxRecDepth 1000000
set_option maxHeartbeats 0
namespace Mine
/-! the run with its objects reckoned out before they are laid down -/
noncomputable def fV (v : Value) (K : Value → Ob) : Ob := Value.rec (motive := fun _ => Ob) (K .none) (K .ellipsis) (K .notImplemented) (fun b => K (.bool b)) (fun i t => K (.int i t)) (fun b t => K (.float b t)) (fun s t => K (.str s t)) (fun b t => K (.bytes b t)) (fun n => K (.type n)) (fun i => K (.builtin i)) (fun a => K (.ref a)) v
theorem fV_eq (v : Value) (K : Value → Ob) : fV v K = K v := by cases v <;> rfl
noncomputable def fVs (l : List Value) : (List Value → Ob) → Ob := List.rec (motive := fun _ => (List Value → Ob) → Ob) (fun K => K []) (fun v _ ih K => fV v fun v => ih fun l => K (v :: l)) l
theorem fVs_eq : ∀ (l : List Value) (K : List Value → Ob), fVs l K = K l
  | [], _ => rfl
  | v :: l, K => by
    show (fV v fun v => fVs l fun l => K (v :: l)) = _
    rw [fV_eq, fVs_eq l]
noncomputable def fE (e : DictEntry) (K : DictEntry → Ob) : Ob := DictEntry.rec (motive := fun _ => Ob) (fun h k v => fV k fun k => fV v fun v => K ⟨h, k, v⟩) e
theorem fE_eq (e : DictEntry) (K : DictEntry → Ob) : fE e K = K e := by
  cases e; show (fV _ fun k => fV _ fun v => K _) = _; rw [fV_eq, fV_eq]
noncomputable def fEs (l : List DictEntry) : (List DictEntry → Ob) → Ob := List.rec (motive := fun _ => (List DictEntry → Ob) → Ob) (fun K => K []) (fun v _ ih K => fE v fun v => ih fun l => K (v :: l)) l
theorem fEs_eq : ∀ (l : List DictEntry) (K : List DictEntry → Ob), fEs l K = K l
  | [], _ => rfl
  | v :: l, K => by
    show (fE v fun v => fEs l fun l => K (v :: l)) = _
    rw [fE_eq, fEs_eq l]
noncomputable def fOV (v : Option Value) (K : Option Value → Ob) : Ob := Option.rec (motive := fun _ => Ob) (K none) (fun v => fV v fun v => K (some v)) v
theorem fOV_eq (v : Option Value) (K : Option Value → Ob) : fOV v K = K v := by
  cases v
  · rfl
  · show (fV _ fun v => K _) = _; rw [fV_eq]
/-- the slots: which are filled; what is in them stays as it is written -/
noncomputable def fSl (l : List (Option Value)) : (List (Option Value) → Ob) → Ob := List.rec (motive := fun _ => (List (Option Value) → Ob) → Ob) (fun K => K []) (fun v _ ih K => Option.rec (motive := fun _ => Ob) (ih fun l => K (none :: l)) (fun v => ih fun l => K (some v :: l)) v) l
theorem fSl_eq : ∀ (l : List (Option Value)) (K : List (Option Value) → Ob), fSl l K = K l
  | [], _ => rfl
  | none :: l, K => fSl_eq l fun l => K (none :: l)
  | some v :: l, K => fSl_eq l fun l => K (some v :: l)
/-- b: a frame's entries stay as they are; so do eleven fields (a row of a traceback) -/
noncomputable def fD (b : Bool) (d : Data) (K : Data → Ob) : Ob := Data.rec (motive := fun _ => Ob) (K .plain) (fun v => K (.prim v)) (fun xs n => Array.rec (motive := fun _ => Ob) (fun l => fVs l fun l => K (.seq ⟨l⟩ n)) xs)
  (fun es n => Bool.rec (motive := fun _ => Ob) (Array.rec (motive := fun _ => Ob) (fun l => fEs l fun l => K (.dict ⟨l⟩ n)) es) (K (.dict es n)) b)
  (fun es n t => K (.set es n t)) (fun b n => K (.bytearray b n)) (fun v => fOV v fun v => K (.cell v)) (fun f => K (.func f)) (fun c => K (.cls c)) (fun xs => Array.rec (motive := fun _ => Ob) (fun l => Bool.rec (motive := fun _ => Ob) (fVs l fun l => K (.fields ⟨l⟩)) (K (.fields ⟨l⟩)) (Nat.beq (lenL l) 11)) xs) (K .freed) d
theorem fD_eq (b : Bool) (d : Data) (K : Data → Ob) : fD b d K = K d := by
  cases d with
  | seq xs n => obtain ⟨l⟩ := xs; exact fVs_eq l (fun l => K (.seq ⟨l⟩ n))
  | dict es n =>
    cases b with
    | false => obtain ⟨l⟩ := es; exact fEs_eq l _
    | true => rfl
  | cell v => exact fOV_eq v (fun v => K (.cell v))
  | fields xs =>
    obtain ⟨l⟩ := xs
    show (Bool.rec (motive := fun _ => Ob) (fVs l fun l => K (.fields ⟨l⟩)) (K (.fields ⟨l⟩)) (Nat.beq (lenL l) 11) : Ob) = _
    cases Nat.beq (lenL l) 11
    · exact fVs_eq l fun l => K (.fields ⟨l⟩)
    · rfl
  | _ => rfl
noncomputable def fO (o : Obj) (K : Obj → Ob) : Ob := Obj.rec (motive := fun _ => Ob) (fun c d dt sl => fV c fun c => Array.rec (motive := fun _ => Ob) (fun l => fSl l fun l => fD (List.rec (motive := fun _ => Bool) false (fun _ _ _ => true) l) dt fun dt => Option.rec (motive := fun _ => Ob) (K ⟨c, none, dt, ⟨l⟩⟩) (fun a => K ⟨c, some a, dt, ⟨l⟩⟩) d) sl) o
theorem fO_eq (o : Obj) (K : Obj → Ob) : fO o K = K o := by
  obtain ⟨c, d, dt, ⟨l⟩⟩ := o
  show (fV c fun c => fSl l fun l => fD (List.rec (motive := fun _ => Bool) false (fun _ _ _ => true) l) dt fun dt => Option.rec (motive := fun _ => Ob) (K ⟨c, none, dt, ⟨l⟩⟩) (fun a => K ⟨c, some a, dt, ⟨l⟩⟩) d) = K ⟨c, d, dt, ⟨l⟩⟩
  rw [fV_eq, fSl_eq, fD_eq]
  cases d <;> rfl
noncomputable def fOO (o : Option Obj) (K : Option Obj → Ob) : Ob := Option.rec (motive := fun _ => Ob) (K none) (fun v => fO v fun v => K (some v)) o
theorem fOO_eq (v : Option Obj) (K : Option Obj → Ob) : fOO v K = K v := by
  cases v
  · rfl
  · show (fO _ fun v => K _) = _; rw [fO_eq]
/-- b: it stays as it is written -/
noncomputable def fOOb (b : Bool) (o : Option Obj) (K : Option Obj → Ob) : Ob := Bool.rec (motive := fun _ => Ob) (fOO o K) (Option.rec (motive := fun _ => Ob) (K none) (fun v => K (some v)) o) b
theorem fOOb_eq (b : Bool) (v : Option Obj) (K : Option Obj → Ob) : fOOb b v K = K v := by
  cases b
  · exact fOO_eq v K
  · cases v <;> rfl
noncomputable def putF (T : KT) (R : List Nat) (kp : List Nat) : Nat → List (Option Obj) → (KT → Ob) → Ob := List.rec (motive := fun _ => Nat → List (Option Obj) → (KT → Ob) → Ob) (fun _ _ K => K T) (fun k _ ih i m K => List.rec (motive := fun _ => Ob) (K T) (fun q m _ => fOOb (inB i R) q fun q => ih (i + 1) m fun T => K (kput 40 T k q)) m) kp
theorem putF_eq (T : KT) (R : List Nat) : ∀ (kp : List Nat) (i : Nat) (m : List (Option Obj)) (K : KT → Ob), putF T R kp i m K = K (putL T kp m)
  | [], _, _, _ => rfl
  | k :: kp, _, [], _ => rfl
  | k :: kp, i, q :: m, K => by
    show (fOOb (inB i R) q fun q => putF T R kp (i + 1) m fun T => K (kput 40 T k q)) = _
    rw [fOOb_eq, putF_eq T R kp (i + 1) m]; rfl
noncomputable def specF (L : Nat) (C : Cf) (have_ : Option (List Env × Bool)) (S : Spec) (ks l as ts : List Nat) (d : Nat) (hd : Option Value) (c' : Code) (st : St) (go : List Nat → List Nat → Hs → St → Ob) : Ob :=
  Option.rec (motive := fun _ => Ob)
    (.eqC c' S.code (belOk S.bel have_ (preOk st S.pre ks (needOk C.S.need S.need l fun l => bf 8 (and (Nat.ble d S.dep) (and (nodupB ks) (and (Nat.blt (st.nx + S.na) 1000000) (and (allB (fun i => Nat.blt i (lenL ks)) S.touch) (allB (fun k => or (Nat.ble C.s₀ k) (inB k C.upd)) (sel ks S.touch))))))
      (allN L S.na fun bs => allN 0 S.nt fun us => .all fun n' => .all fun t' => bf 9 (and (Nat.beq (lenL (S.postT bs us)) (lenL S.touch)) (Nat.beq (lenL (S.postN bs us)) S.na))
        (putF st.T S.rawQ (app (sel ks S.touch) (iota S.na st.nx)) 0 (appO (S.postT bs us) (S.postN bs us)) fun T' => go bs us ⟨l, as, ts⟩ ⟨blocks st.σ st.nx (n' + L) bs, st.nx + S.na, blocks st.τ st.nt t' us, st.nt + S.nt, T'⟩))))))
    (fun _ => .stop 8 0) hd
theorem specF_eq : @specF = @spec := by
  funext L C have_ S ks l as ts d hd c' st go
  unfold specF spec
  simp only [putF_eq]
noncomputable def specDF {V : Vn} (C : Cf) (have_ : Option (List Env × Bool)) (D : Dp V) (hs : Hs) (d : Nat) (hd : Option Value) (c' : Code) (st : St) (go : Spec → List Nat → List Nat → Hs → St → Ob) : Ob :=
  slotsDyn st D.k hs.l fun ks as os l => List.rec (motive := fun _ => Ob) (.stop 5 0) (fun alt l _ => Option.rec (motive := fun _ => Ob) (.stop 5 1) (fun S => specF V.lim C have_ S.S ks l hs.as hs.ts d hd c' st (go S.S)) (D.get as os alt)) l
theorem specDF_eq : @specDF = @specD := by
  funext V C have_ D hs d hd c' st go
  unfold specDF specD
  rw [specF_eq]
section
variable (V : Vn) (F : Code → Option (Dp V))
noncomputable def hCallF (c' : Code) (h : Option Value) (k : Result → Sem PySem.Fin) : Hd := fun ih C hs c hd d κ st => Option.rec (motive := fun _ => Ob) (inl c' h k ih C hs c hd d κ st)
  (fun D => Option.rec (motive := fun _ => Ob) (specDF C (kenvs C.S.bel (.ret c hd d k κ)) D hs (d + 5) hd c' st fun S as ts hs st' => ih hs c hd d κ (k (S.res as ts)) st') (fun _ => .stop 8 1) h) (F c')
theorem hCallF_eq : hCallF V F = hCall V F := by
  funext c' h k
  unfold hCallF hCall
  rw [specDF_eq]
noncomputable def hAgainF (c' : Code) : Hd := fun ih C hs c hd d κ st => Option.rec (motive := fun _ => Ob) (tail c' ih C hs c hd d κ st)
  (fun D => bf 12 (and (okC c') c'.quiet) (specDF C (kenvs C.S.bel κ) D hs d hd c' st fun S as ts hs st' => retH (S.res as ts) ih C hs c hd d κ st')) (F c')
theorem hAgainF_eq : hAgainF V F = hAgain V F := by
  funext c'
  unfold hAgainF hAgain
  rw [specDF_eq]
noncomputable def hFinF (f : PySem.Fin) : Hd := PySem.Fin.rec (motive := fun _ => Hd) (fun fl => retH (.ok fl)) (fun c => hAgainF V F c) f
theorem hFinF_eq : hFinF V F = hFin V F := by
  unfold hFinF hFin
  rw [hAgainF_eq]
noncomputable def hPureF (f : PySem.Fin) : Hd := fun ih C hs c hd d κ st => Kn.rec (motive := fun _ => Ob) (hFinF V F f ih C hs c hd d .base st) (fun c1 hd1 d1 k κ' _ => hFinF V F f ih C hs c hd d (.ret c1 hd1 d1 k κ') st)
  (fun k κ' _ => hTr (k f) ih C hs c hd d κ' st) (fun _ _ r => r) κ
theorem hPureF_eq : hPureF V F = hPure V F := by
  unfold hPureF hPure
  rw [hFinF_eq]
noncomputable def hUpdF (a : Addr) (f : Obj → Obj) (k : Unit → Sem PySem.Fin) : Hd := fun ih C hs c hd d κ st => List.rec (motive := fun _ => Ob)
  (.stop 14 0)
  (fun s r _ => Nat.rec (motive := fun _ => Ob) (.stop 14 1)
    (fun s _ => .eqN a (ad st.σ s) (bf 14 (or (Nat.ble C.s₀ s) (inB s C.upd)) (ob (st.T.get s) fun o => fO (f o) fun o => bf 15 (not o.isFreed) (ih ⟨r, hs.as, hs.ts⟩ c hd d κ (k ()) ⟨st.σ, st.nx, st.τ, st.nt, kput 40 st.T s (some o)⟩)))) s) hs.l
theorem hUpdF_eq : hUpdF = hUpd := by
  funext a f k ih C hs c hd d κ st
  unfold hUpdF hUpd
  simp only [fO_eq]
noncomputable def hAllocF (o : Obj) (k : Addr → Sem PySem.Fin) : Hd := fun ih _ hs c hd d κ st => fO o fun o => bf 16 (and (not o.isFreed) (Nat.blt st.nx 1000000)) (ih hs c hd d κ (k (ad st.σ st.nx)) ⟨st.σ, st.nx + 1, st.τ, st.nt, kput 40 st.T st.nx (some o)⟩)
theorem hAllocF_eq : hAllocF = hAlloc := by
  funext o k ih C hs c hd d κ st
  unfold hAllocF hAlloc
  simp only [fO_eq]
noncomputable def dispF (t : Sem PySem.Fin) : Hd := Sem.rec (motive := fun _ => Hd)
  (fun a => hPureF V F a) (fun e => hRaise e) (fun _ => hNay 30) (fun _ => hNay 31) (fun _ k _ => hSkip k) (fun _ k _ => hSkip k)
  (fun a _ k _ => hLoad V a k) (fun a _ f k _ => hUpdF a f k) (fun o k _ => hAllocF o k) (fun a k _ => hLoad V a fun o => k (some o)) (fun _ k _ => hSkip k) (fun _ _ _ => hNay 32)
  (fun k _ => hFresh k) (fun k _ => hAsk V k) (fun _ _ _ _ => hNay 33) (fun _ _ _ _ => hNay 34) (fun c h _ _ k _ => hCallF V F c h k) (fun own k _ => hHandled own k)
  (fun _ _ _ => hNay 35) (fun _ _ _ => hNay 36) (fun _ _ _ _ _ => hNay 37) (fun _ _ _ _ _ => hNay 38) (fun k _ => hStack k) (fun _ _ _ => hNay 39) (fun _ _ => hNay 40) (fun _ _ _ _ _ _ => hNay 41) t
theorem dispF_eq : dispF V F = disp V F := by
  unfold dispF disp
  rw [hPureF_eq, hUpdF_eq, hAllocF_eq, hCallF_eq]
noncomputable def simF (C : Cf) (n : Nat) : Go := Nat.rec (motive := fun _ => Go) (fun _ _ _ _ _ _ _ => .stop 50 0) (fun _ ih hs c hd d κ t st => dispF V F t ih C hs c hd d κ st) n
theorem simF_eq : simF V F = sim V F := by
  unfold simF sim
  rw [dispF_eq]
noncomputable def fOb (b : Bool) (o : Obj) (K : Obj → Ob) : Ob := Bool.rec (motive := fun _ => Ob) (fO o K) (K o) b
theorem fOb_eq (b : Bool) (v : Obj) (K : Obj → Ob) : fOb b v K = K v := by
  cases b
  · exact fO_eq v K
  · rfl
noncomputable def preF (R : List Nat) (m : Mem) : Nat → KT → (KT → Ob) → Ob := List.rec (motive := fun _ => Nat → KT → (KT → Ob) → Ob) (fun _ T K => K T) (fun q _ ih i T K => Prod.rec (motive := fun _ => Ob) (fun _ q2 => fOb (inB i R) q2 fun o => ih (i + 1) (kput 40 T i (some o)) K) q) m
theorem preF_eq (R : List Nat) : ∀ (m : Mem) (i : Nat) (T : KT) (K : KT → Ob), preF R m i T K = K (preT m i T)
  | [], _, _, _ => rfl
  | q :: m, i, T, K => by
    show (fOb (inB i R) q.2 fun o => preF R m (i + 1) (kput 40 T i (some o)) K) = _
    rw [fOb_eq, preF_eq R m]; rfl
noncomputable def startF (S : Spec) (fuel : Nat) (hs : Hs) (n t : Nat) : Ob :=
  bf 51 (and (okC S.code) (and (Nat.ble S.dep 900) (Nat.ble (lenL S.pre) 1000))) (preF S.rawP S.pre 0 .nil fun T => hTr (enterTree S.code) (simF V F ⟨lenL S.pre, S, true⟩ fuel) ⟨lenL S.pre, S, true⟩ hs S.code none S.dep .base ⟨blocks [] 0 n (fsts S.pre), lenL S.pre, [(0, t)], 0, T⟩)
theorem startF_start : startF V F = startB V F true := by
  funext S fuel hs n t
  unfold startF startB st₀
  simp only [preF_eq, simF_eq]
end
theorem startF_rfl : @startF = @startF := rfl
theorem startF_holds {V : Vn} {F : Code → Option (Dp V)} (O : VOk V) {S : Spec} (fuel : Nat) (hs : Hs) (H : ∀ m t, (startF V F S fuel hs (m + V.lim) t).one = (startF V F S fuel hs (m + V.lim) t).two) : S.Holds V :=
  startB_holds (fk := true) (F := F) O fuel hs (by rw [← startF_start]; exact H)
end Mine
lay_z Mine.startF
name_z startFZ for Mine.startF by Mine.startF_rfl
namespace Mine
theorem sF {V : Vn} {F : Code → Option (Dp V)} (O : VOk V) {S : Spec} (fuel : Nat) (hs : Hs) (H : ∀ m t, (PySem.W.ZFast.startFZ V F S fuel hs (m + V.lim) t).one = (PySem.W.ZFast.startFZ V F S fuel hs (m + V.lim) t).two) : S.Holds V :=
  startF_holds (F := F) O fuel hs fun m t => by
    rw [PySem.W.ZFast.startFZ_eq]
    exact H m t
end Mine
end

section
open PySem PySem.W PySem.W.X PyProof.Rows
set_option maxRecDepth 1000000
set_option maxHeartbeats 0
namespace Mine
/-- the top run over a tree of objects -/
def topT (tb : String → Option Builtin) (p : Program) (w : World) (n₀ : Nat) (ann : Option Value) : Nat → SharedT → Thread → Option SharedT
  | 0, _, _ => none
  | n + 1, s, t => match through t with
    | true => some s
    | false => match stepOk n₀ ann t with
      | false => none
      | true => match stepT (denote tb) p w s t with
        | some (s', t') => topT tb p w n₀ ann n s' t'
        | none => none
theorem topT_of {tb : String → Option Builtin} {p : Program} {w : World} {n₀ : Nat} {ann : Option Value} : ∀ {n : Nat} {s s' : SharedT} {t : Thread}, topT tb p w n₀ ann n s t = some s' → topRun tb p w n₀ ann n s.abs t = some s'.abs
  | 0, _, _, _, h => by cases h
  | n + 1, s, s', t, h => by
    unfold topT at h
    unfold topRun
    cases ht : through t with
    | true => rw [ht] at h; cases h; rfl
    | false =>
      rw [ht] at h
      cases hk : stepOk n₀ ann t with
      | false => rw [hk] at h; cases h
      | true =>
        rw [hk] at h
        cases hs : stepT (denote tb) p w s t with
        | none => rw [hs] at h; cases h
        | some r => obtain ⟨s₂, t₂⟩ := r; rw [hs] at h; rw [stepT_spec hs]; exact topT_of h
theorem topRun_more {tb : String → Option Builtin} {p : Program} {w : World} {n₀ : Nat} {ann : Option Value} (k : Nat) : ∀ {n : Nat} {s r : Shared} {t : Thread}, topRun tb p w n₀ ann n s t = some r → topRun tb p w n₀ ann (n + k) s t = some r
  | 0, _, _, _, h => by cases h
  | n + 1, s, r, t, h => by
    rw [show n + 1 + k = n + k + 1 by omega]
    unfold topRun at h ⊢
    cases ht : through t with
    | true => rw [ht] at h; exact h
    | false =>
      rw [ht] at h
      cases hk : stepOk n₀ ann t with
      | false => rw [hk] at h; cases h
      | true =>
        rw [hk] at h
        cases hs : step (denote tb) p w s t with
        | halt o s₂ => rw [hs] at h; cases h
        | go s₂ t₂ => rw [hs] at h; exact topRun_more k h
/-- what is looked at behind the top -/
def seeT (T : BT) (as : List Addr) : List (Option Obj) := as.map fun a => (T.get a).bind alive
theorem seeT_get {s : SharedT} {as : List Addr} {vs : List Obj} (e : seeT s.tree as = vs.map some) (lt : (as.all fun a => Nat.blt a s.n) = true) : as.map s.abs.heap.get? = vs.map some := by
  rw [← e]
  unfold seeT
  refine List.map_congr_left fun a ha => ?_
  have hl : a < s.n := Nat.le_of_ble_eq_true (List.all_eq_true.mp lt a ha)
  obtain ⟨v, hv, q⟩ : ∃ v ∈ vs, (s.tree.get a).bind alive = some v := by
    have : (s.tree.get a).bind alive ∈ vs.map some := by rw [← e]; exact List.mem_map.mpr ⟨a, ha, rfl⟩
    obtain ⟨v, hv, q⟩ := List.mem_map.mp this
    exact ⟨v, hv, q.symm⟩
  cases g : s.tree.get a with
  | none => rw [g] at q; cases q
  | some o => exact abs_get hl g
theorem leftO_of {p q : Program} {loose : List Str} {N m₀ M n t : Nat} {ann : Option Value} {T₀ : Params → BT} {life : Life} {as : List Addr} {K : Params → Frag}
    (open_ : ∀ w : World, (fencedOpening treeTable p w N).map (fun s => (s.heap, s.gens, s.drawn, s.toks)) = some (boot_heap w.params, Array.mk [], boot_drawn, boot_toks))
    (h0 : ∀ P, boot_heap P = absHeap (T₀ P) m₀ life)
    (size : ∀ w : World, ((boot_heap w.params).isNs mainGlobals, (boot_heap w.params).objs.size, (boot_heap w.params).nsMap mainGlobals "__annotations__") = (true, m₀, ann))
    (run : ∀ (w : World) (os : OsState), (topT treeTable p w m₀ ann M ⟨T₀ w.params, m₀, life, Array.mk [], boot_drawn, boot_toks, os⟩ (topStub p)).map
        (fun s => (staticsOk (importedModules p.main.body) (boot_heap w.params) s.abs.heap && namesBound p s.abs.heap && gensDone s.abs && laidKept (boot_heap w.params) s.abs.heap,
          openSeen q loose (importedModules p.main.body) (fun _ => true) true s.abs, (as.all fun a => Nat.blt a s.n), seeT s.tree as, s.n, s.toks)) =
        some (true, openGood q loose, true, (K w.params).map fun x => some x.2, n, t))
    (le : Nat.ble M N = true) : LeftO p q loose (fun _ => true) (obsZ as) (valZ K n t) N := fun w => by
  obtain ⟨⟨h, gs, d, k, os⟩, e, e'⟩ := Option.map_eq_some_iff.mp (open_ w)
  obtain ⟨rfl, rfl, rfl, rfl⟩ : h = boot_heap w.params ∧ gs = Array.mk [] ∧ d = boot_drawn ∧ k = boot_toks := by simpa using e'
  obtain ⟨z1, z2, z3⟩ : _ ∧ _ ∧ _ := by simpa only [Prod.mk.injEq] using size w
  obtain ⟨s, hs, hv⟩ := Option.map_eq_some_iff.mp (run w os)
  obtain ⟨l1, l2, l3, l4, l5, l6⟩ : _ ∧ _ ∧ _ ∧ _ ∧ _ ∧ _ := by simpa only [Prod.mk.injEq] using hv
  have r := topRun_more (N - M) (topT_of hs)
  rw [show M + (N - M) = N by have := Nat.le_of_ble_eq_true le; omega] at r
  have r' : topRun treeTable p w m₀ ann N ⟨boot_heap w.params, Array.mk [], boot_drawn, boot_toks, os⟩ (topStub p) = some s.abs := by rw [h0]; exact r
  have tf : topFrom treeTable p w N ⟨boot_heap w.params, Array.mk [], boot_drawn, boot_toks, os⟩ = some s.abs := by
    unfold topFrom
    dsimp only
    rw [z1, z2, z3, r']
    show (match staticsOk (importedModules p.main.body) (boot_heap w.params) s.abs.heap && namesBound p s.abs.heap && gensDone s.abs && laidKept (boot_heap w.params) s.abs.heap with | true => _ | false => _) = _
    rw [l1]
  unfold openEnds
  rw [e]
  show (topFrom treeTable p w N _).map _ = _
  rw [tf]
  refine congrArg some (Prod.ext l2 ?_)
  show (as.map s.abs.heap.get?, s.abs.heap.objs.size, s.abs.toks) = ((K w.params).map fun p => some p.2, n, t)
  have l4' : seeT s.tree as = ((K w.params).map (·.2)).map some := by rw [l4, List.map_map]; rfl
  rw [seeT_get l4' l3, List.map_map]
  refine Prod.ext rfl (Prod.ext ?_ l6)
  show (absHeap s.tree s.n s.life).objs.size = n
  rw [absHeap_size]; exact l5
end Mine
end

section
open PySem PySem.W PySem.W.X PyProof.Rows
set_option maxRecDepth 1000000
set_option maxHeartbeats 0
namespace Mine
abbrev pw : Program := PySem.Challenge.pw_pq0686_01
def noS : Stmt := .Pass ⟨0,0,0,0⟩
noncomputable def stm (i : Nat) : Stmt := pw.main.body.getD i noS
noncomputable def sub (s : Stmt) (j : Nat) : Stmt := match s with
  | .ClassDef _ _ _ b .. => b.getD j noS
  | .FunctionDef _ _ b .. => b.getD j noS
  | _ => noS
noncomputable def fn (s : Stmt) (qual : Str) (dflt kw mod code : Value) (g b : Addr) : Data := match s with
  | .FunctionDef name args body _ _ _ scope _ _ _ => .func { name := name, qualname := qual, params := args, body := .stmts body, scope := scope, globals := g, closure := [], defaults := dflt, kwdefaults := kw, pyModule := mod, code := code, builtins := b }
  | _ => .freed
noncomputable def o0 (P : Params) : Obj := { cls := .type "dict", dict := none, data := .dict #[⟨PyData.keyHash P ⟨#[95,95,110,97,109,101,95,95]⟩, (.str ⟨#[95,95,110,97,109,101,95,95]⟩ 1), (.str ⟨#[98,117,105,108,116,105,110,115]⟩ 160)⟩, ⟨PyData.keyHash P ⟨#[95,95,100,111,99,95,95]⟩, (.str ⟨#[95,95,100,111,99,95,95]⟩ 2), (.builtin "builtins.__doc__:str#opaque")⟩, ⟨PyData.keyHash P ⟨#[95,95,112,97,99,107,97,103,101,95,95]⟩, (.str ⟨#[95,95,112,97,99,107,97,103,101,95,95]⟩ 3), (.builtin "builtins.__package__:str#opaque")⟩, ⟨PyData.keyHash P ⟨#[95,95,108,111,97,100,101,114,95,95]⟩, (.str ⟨#[95,95,108,111,97,100,101,114,95,95]⟩ 4), (.builtin "builtins.__loader__:shared#opaque")⟩, ⟨PyData.keyHash P ⟨#[95,95,115,112,101,99,95,95]⟩, (.str ⟨#[95,95,115,112,101,99,95,95]⟩ 5), (.builtin "builtins.__spec__#opaque")⟩, ⟨PyData.keyHash P ⟨#[95,95,98,117,105,108,100,95,99,108,97,115,115,95,95]⟩, (.str ⟨#[95,95,98,117,105,108,100,95,99,108,97,115,115,95,95]⟩ 6), (.builtin "__build_class__")⟩, ⟨PyData.keyHash P ⟨#[95,95,105,109,112,111,114,116,95,95]⟩, (.str ⟨#[95,95,105,109,112,111,114,116,95,95]⟩ 7), (.builtin "__import__")⟩, ⟨PyData.keyHash P ⟨#[97,98,115]⟩, (.str ⟨#[97,98,115]⟩ 8), (.builtin "abs")⟩, ⟨PyData.keyHash P ⟨#[97,108,108]⟩, (.str ⟨#[97,108,108]⟩ 9), (.builtin "all")⟩, ⟨PyData.keyHash P ⟨#[97,110,121]⟩, (.str ⟨#[97,110,121]⟩ 10), (.builtin "any")⟩, ⟨PyData.keyHash P ⟨#[97,115,99,105,105]⟩, (.str ⟨#[97,115,99,105,105]⟩ 11), (.builtin "ascii")⟩, ⟨PyData.keyHash P ⟨#[98,105,110]⟩, (.str ⟨#[98,105,110]⟩ 12), (.builtin "bin")⟩, ⟨PyData.keyHash P ⟨#[98,114,101,97,107,112,111,105,110,116]⟩, (.str ⟨#[98,114,101,97,107,112,111,105,110,116]⟩ 13), (.builtin "breakpoint")⟩, ⟨PyData.keyHash P ⟨#[99,97,108,108,97,98,108,101]⟩, (.str ⟨#[99,97,108,108,97,98,108,101]⟩ 14), (.builtin "callable")⟩, ⟨PyData.keyHash P ⟨#[99,104,114]⟩, (.str ⟨#[99,104,114]⟩ 15), (.builtin "chr")⟩, ⟨PyData.keyHash P ⟨#[99,111,109,112,105,108,101]⟩, (.str ⟨#[99,111,109,112,105,108,101]⟩ 16), (.builtin "compile")⟩, ⟨PyData.keyHash P ⟨#[100,101,108,97,116,116,114]⟩, (.str ⟨#[100,101,108,97,116,116,114]⟩ 17), (.builtin "delattr")⟩, ⟨PyData.keyHash P ⟨#[100,105,114]⟩, (.str ⟨#[100,105,114]⟩ 18), (.builtin "dir")⟩, ⟨PyData.keyHash P ⟨#[100,105,118,109,111,100]⟩, (.str ⟨#[100,105,118,109,111,100]⟩ 19), (.builtin "divmod")⟩, ⟨PyData.keyHash P ⟨#[101,118,97,108]⟩, (.str ⟨#[101,118,97,108]⟩ 20), (.builtin "eval")⟩, ⟨PyData.keyHash P ⟨#[101,120,101,99]⟩, (.str ⟨#[101,120,101,99]⟩ 21), (.builtin "exec")⟩, ⟨PyData.keyHash P ⟨#[102,111,114,109,97,116]⟩, (.str ⟨#[102,111,114,109,97,116]⟩ 22), (.builtin "format")⟩, ⟨PyData.keyHash P ⟨#[103,101,116,97,116,116,114]⟩, (.str ⟨#[103,101,116,97,116,116,114]⟩ 23), (.builtin "getattr")⟩, ⟨PyData.keyHash P ⟨#[103,108,111,98,97,108,115]⟩, (.str ⟨#[103,108,111,98,97,108,115]⟩ 24), (.builtin "globals")⟩, ⟨PyData.keyHash P ⟨#[104,97,115,97,116,116,114]⟩, (.str ⟨#[104,97,115,97,116,116,114]⟩ 25), (.builtin "hasattr")⟩, ⟨PyData.keyHash P ⟨#[104,97,115,104]⟩, (.str ⟨#[104,97,115,104]⟩ 26), (.builtin "hash")⟩, ⟨PyData.keyHash P ⟨#[104,101,120]⟩, (.str ⟨#[104,101,120]⟩ 27), (.builtin "hex")⟩, ⟨PyData.keyHash P ⟨#[105,100]⟩, (.str ⟨#[105,100]⟩ 28), (.builtin "id")⟩, ⟨PyData.keyHash P ⟨#[105,110,112,117,116]⟩, (.str ⟨#[105,110,112,117,116]⟩ 29), (.builtin "input")⟩, ⟨PyData.keyHash P ⟨#[105,115,105,110,115,116,97,110,99,101]⟩, (.str ⟨#[105,115,105,110,115,116,97,110,99,101]⟩ 30), (.builtin "isinstance")⟩, ⟨PyData.keyHash P ⟨#[105,115,115,117,98,99,108,97,115,115]⟩, (.str ⟨#[105,115,115,117,98,99,108,97,115,115]⟩ 31), (.builtin "issubclass")⟩, ⟨PyData.keyHash P ⟨#[105,116,101,114]⟩, (.str ⟨#[105,116,101,114]⟩ 32), (.builtin "iter")⟩, ⟨PyData.keyHash P ⟨#[97,105,116,101,114]⟩, (.str ⟨#[97,105,116,101,114]⟩ 33), (.builtin "aiter")⟩, ⟨PyData.keyHash P ⟨#[108,101,110]⟩, (.str ⟨#[108,101,110]⟩ 34), (.builtin "len")⟩, ⟨PyData.keyHash P ⟨#[108,111,99,97,108,115]⟩, (.str ⟨#[108,111,99,97,108,115]⟩ 35), (.builtin "locals")⟩, ⟨PyData.keyHash P ⟨#[109,97,120]⟩, (.str ⟨#[109,97,120]⟩ 36), (.builtin "max")⟩, ⟨PyData.keyHash P ⟨#[109,105,110]⟩, (.str ⟨#[109,105,110]⟩ 37), (.builtin "min")⟩, ⟨PyData.keyHash P ⟨#[110,101,120,116]⟩, (.str ⟨#[110,101,120,116]⟩ 38), (.builtin "next")⟩, ⟨PyData.keyHash P ⟨#[97,110,101,120,116]⟩, (.str ⟨#[97,110,101,120,116]⟩ 39), (.builtin "anext")⟩, ⟨PyData.keyHash P ⟨#[111,99,116]⟩, (.str ⟨#[111,99,116]⟩ 40), (.builtin "oct")⟩, ⟨PyData.keyHash P ⟨#[111,114,100]⟩, (.str ⟨#[111,114,100]⟩ 41), (.builtin "ord")⟩, ⟨PyData.keyHash P ⟨#[112,111,119]⟩, (.str ⟨#[112,111,119]⟩ 42), (.builtin "pow")⟩, ⟨PyData.keyHash P ⟨#[112,114,105,110,116]⟩, (.str ⟨#[112,114,105,110,116]⟩ 43), (.builtin "print")⟩, ⟨PyData.keyHash P ⟨#[114,101,112,114]⟩, (.str ⟨#[114,101,112,114]⟩ 44), (.builtin "repr")⟩, ⟨PyData.keyHash P ⟨#[114,111,117,110,100]⟩, (.str ⟨#[114,111,117,110,100]⟩ 45), (.builtin "round")⟩, ⟨PyData.keyHash P ⟨#[115,101,116,97,116,116,114]⟩, (.str ⟨#[115,101,116,97,116,116,114]⟩ 46), (.builtin "setattr")⟩, ⟨PyData.keyHash P ⟨#[115,111,114,116,101,100]⟩, (.str ⟨#[115,111,114,116,101,100]⟩ 47), (.builtin "sorted")⟩, ⟨PyData.keyHash P ⟨#[115,117,109]⟩, (.str ⟨#[115,117,109]⟩ 48), (.builtin "sum")⟩, ⟨PyData.keyHash P ⟨#[118,97,114,115]⟩, (.str ⟨#[118,97,114,115]⟩ 49), (.builtin "vars")⟩, ⟨PyData.keyHash P ⟨#[78,111,110,101]⟩, (.str ⟨#[78,111,110,101]⟩ 50), .none⟩, ⟨PyData.keyHash P ⟨#[69,108,108,105,112,115,105,115]⟩, (.str ⟨#[69,108,108,105,112,115,105,115]⟩ 51), (.ellipsis)⟩, ⟨PyData.keyHash P ⟨#[78,111,116,73,109,112,108,101,109,101,110,116,101,100]⟩, (.str ⟨#[78,111,116,73,109,112,108,101,109,101,110,116,101,100]⟩ 52), (.notImplemented)⟩, ⟨PyData.keyHash P ⟨#[70,97,108,115,101]⟩, (.str ⟨#[70,97,108,115,101]⟩ 53), (.bool false)⟩, ⟨PyData.keyHash P ⟨#[84,114,117,101]⟩, (.str ⟨#[84,114,117,101]⟩ 54), (.bool true)⟩, ⟨PyData.keyHash P ⟨#[98,111,111,108]⟩, (.str ⟨#[98,111,111,108]⟩ 55), (.type "bool")⟩, ⟨PyData.keyHash P ⟨#[109,101,109,111,114,121,118,105,101,119]⟩, (.str ⟨#[109,101,109,111,114,121,118,105,101,119]⟩ 56), (.type "memoryview")⟩, ⟨PyData.keyHash P ⟨#[98,121,116,101,97,114,114,97,121]⟩, (.str ⟨#[98,121,116,101,97,114,114,97,121]⟩ 57), (.type "bytearray")⟩, ⟨PyData.keyHash P ⟨#[98,121,116,101,115]⟩, (.str ⟨#[98,121,116,101,115]⟩ 58), (.type "bytes")⟩, ⟨PyData.keyHash P ⟨#[99,108,97,115,115,109,101,116,104,111,100]⟩, (.str ⟨#[99,108,97,115,115,109,101,116,104,111,100]⟩ 59), (.type "classmethod")⟩, ⟨PyData.keyHash P ⟨#[99,111,109,112,108,101,120]⟩, (.str ⟨#[99,111,109,112,108,101,120]⟩ 60), (.type "complex")⟩, ⟨PyData.keyHash P ⟨#[100,105,99,116]⟩, (.str ⟨#[100,105,99,116]⟩ 61), (.type "dict")⟩, ⟨PyData.keyHash P ⟨#[101,110,117,109,101,114,97,116,101]⟩, (.str ⟨#[101,110,117,109,101,114,97,116,101]⟩ 62), (.type "enumerate")⟩, ⟨PyData.keyHash P ⟨#[102,105,108,116,101,114]⟩, (.str ⟨#[102,105,108,116,101,114]⟩ 63), (.type "filter")⟩, ⟨PyData.keyHash P ⟨#[102,108,111,97,116]⟩, (.str ⟨#[102,108,111,97,116]⟩ 64), (.type "float")⟩, ⟨PyData.keyHash P ⟨#[102,114,111,122,101,110,115,101,116]⟩, (.str ⟨#[102,114,111,122,101,110,115,101,116]⟩ 65), (.type "frozenset")⟩, ⟨PyData.keyHash P ⟨#[112,114,111,112,101,114,116,121]⟩, (.str ⟨#[112,114,111,112,101,114,116,121]⟩ 66), (.type "property")⟩, ⟨PyData.keyHash P ⟨#[105,110,116]⟩, (.str ⟨#[105,110,116]⟩ 67), (.type "int")⟩, ⟨PyData.keyHash P ⟨#[108,105,115,116]⟩, (.str ⟨#[108,105,115,116]⟩ 68), (.type "list")⟩, ⟨PyData.keyHash P ⟨#[109,97,112]⟩, (.str ⟨#[109,97,112]⟩ 69), (.type "map")⟩, ⟨PyData.keyHash P ⟨#[111,98,106,101,99,116]⟩, (.str ⟨#[111,98,106,101,99,116]⟩ 70), (.type "object")⟩, ⟨PyData.keyHash P ⟨#[114,97,110,103,101]⟩, (.str ⟨#[114,97,110,103,101]⟩ 71), (.type "range")⟩, ⟨PyData.keyHash P ⟨#[114,101,118,101,114,115,101,100]⟩, (.str ⟨#[114,101,118,101,114,115,101,100]⟩ 72), (.type "reversed")⟩, ⟨PyData.keyHash P ⟨#[115,101,116]⟩, (.str ⟨#[115,101,116]⟩ 73), (.type "set")⟩, ⟨PyData.keyHash P ⟨#[115,108,105,99,101]⟩, (.str ⟨#[115,108,105,99,101]⟩ 74), (.type "slice")⟩, ⟨PyData.keyHash P ⟨#[115,116,97,116,105,99,109,101,116,104,111,100]⟩, (.str ⟨#[115,116,97,116,105,99,109,101,116,104,111,100]⟩ 75), (.type "staticmethod")⟩, ⟨PyData.keyHash P ⟨#[115,116,114]⟩, (.str ⟨#[115,116,114]⟩ 76), (.type "str")⟩, ⟨PyData.keyHash P ⟨#[115,117,112,101,114]⟩, (.str ⟨#[115,117,112,101,114]⟩ 77), (.type "super")⟩, ⟨PyData.keyHash P ⟨#[116,117,112,108,101]⟩, (.str ⟨#[116,117,112,108,101]⟩ 78), (.type "tuple")⟩, ⟨PyData.keyHash P ⟨#[116,121,112,101]⟩, (.str ⟨#[116,121,112,101]⟩ 79), (.type "type")⟩, ⟨PyData.keyHash P ⟨#[122,105,112]⟩, (.str ⟨#[122,105,112]⟩ 80), (.type "zip")⟩, ⟨PyData.keyHash P ⟨#[95,95,100,101,98,117,103,95,95]⟩, (.str ⟨#[95,95,100,101,98,117,103,95,95]⟩ 81), (.bool true)⟩, ⟨PyData.keyHash P ⟨#[66,97,115,101,69,120,99,101,112,116,105,111,110]⟩, (.str ⟨#[66,97,115,101,69,120,99,101,112,116,105,111,110]⟩ 82), (.type "BaseException")⟩, ⟨PyData.keyHash P ⟨#[66,97,115,101,69,120,99,101,112,116,105,111,110,71,114,111,117,112]⟩, (.str ⟨#[66,97,115,101,69,120,99,101,112,116,105,111,110,71,114,111,117,112]⟩ 83), (.type "BaseExceptionGroup")⟩, ⟨PyData.keyHash P ⟨#[69,120,99,101,112,116,105,111,110]⟩, (.str ⟨#[69,120,99,101,112,116,105,111,110]⟩ 84), (.type "Exception")⟩, ⟨PyData.keyHash P ⟨#[71,101,110,101,114,97,116,111,114,69,120,105,116]⟩, (.str ⟨#[71,101,110,101,114,97,116,111,114,69,120,105,116]⟩ 85), (.type "GeneratorExit")⟩, ⟨PyData.keyHash P ⟨#[75,101,121,98,111,97,114,100,73,110,116,101,114,114,117,112,116]⟩, (.str ⟨#[75,101,121,98,111,97,114,100,73,110,116,101,114,114,117,112,116]⟩ 86), (.type "KeyboardInterrupt")⟩, ⟨PyData.keyHash P ⟨#[83,121,115,116,101,109,69,120,105,116]⟩, (.str ⟨#[83,121,115,116,101,109,69,120,105,116]⟩ 87), (.type "SystemExit")⟩, ⟨PyData.keyHash P ⟨#[65,114,105,116,104,109,101,116,105,99,69,114,114,111,114]⟩, (.str ⟨#[65,114,105,116,104,109,101,116,105,99,69,114,114,111,114]⟩ 88), (.type "ArithmeticError")⟩, ⟨PyData.keyHash P ⟨#[65,115,115,101,114,116,105,111,110,69,114,114,111,114]⟩, (.str ⟨#[65,115,115,101,114,116,105,111,110,69,114,114,111,114]⟩ 89), (.type "AssertionError")⟩, ⟨PyData.keyHash P ⟨#[65,116,116,114,105,98,117,116,101,69,114,114,111,114]⟩, (.str ⟨#[65,116,116,114,105,98,117,116,101,69,114,114,111,114]⟩ 90), (.type "AttributeError")⟩, ⟨PyData.keyHash P ⟨#[66,117,102,102,101,114,69,114,114,111,114]⟩, (.str ⟨#[66,117,102,102,101,114,69,114,114,111,114]⟩ 91), (.type "BufferError")⟩, ⟨PyData.keyHash P ⟨#[69,79,70,69,114,114,111,114]⟩, (.str ⟨#[69,79,70,69,114,114,111,114]⟩ 92), (.type "EOFError")⟩, ⟨PyData.keyHash P ⟨#[73,109,112,111,114,116,69,114,114,111,114]⟩, (.str ⟨#[73,109,112,111,114,116,69,114,114,111,114]⟩ 93), (.type "ImportError")⟩, ⟨PyData.keyHash P ⟨#[76,111,111,107,117,112,69,114,114,111,114]⟩, (.str ⟨#[76,111,111,107,117,112,69,114,114,111,114]⟩ 94), (.type "LookupError")⟩, ⟨PyData.keyHash P ⟨#[77,101,109,111,114,121,69,114,114,111,114]⟩, (.str ⟨#[77,101,109,111,114,121,69,114,114,111,114]⟩ 95), (.type "MemoryError")⟩, ⟨PyData.keyHash P ⟨#[78,97,109,101,69,114,114,111,114]⟩, (.str ⟨#[78,97,109,101,69,114,114,111,114]⟩ 96), (.type "NameError")⟩, ⟨PyData.keyHash P ⟨#[79,83,69,114,114,111,114]⟩, (.str ⟨#[79,83,69,114,114,111,114]⟩ 97), (.type "OSError")⟩, ⟨PyData.keyHash P ⟨#[82,101,102,101,114,101,110,99,101,69,114,114,111,114]⟩, (.str ⟨#[82,101,102,101,114,101,110,99,101,69,114,114,111,114]⟩ 98), (.type "ReferenceError")⟩, ⟨PyData.keyHash P ⟨#[82,117,110,116,105,109,101,69,114,114,111,114]⟩, (.str ⟨#[82,117,110,116,105,109,101,69,114,114,111,114]⟩ 99), (.type "RuntimeError")⟩, ⟨PyData.keyHash P ⟨#[83,116,111,112,65,115,121,110,99,73,116,101,114,97,116,105,111,110]⟩, (.str ⟨#[83,116,111,112,65,115,121,110,99,73,116,101,114,97,116,105,111,110]⟩ 100), (.type "StopAsyncIteration")⟩, ⟨PyData.keyHash P ⟨#[83,116,111,112,73,116,101,114,97,116,105,111,110]⟩, (.str ⟨#[83,116,111,112,73,116,101,114,97,116,105,111,110]⟩ 101), (.type "StopIteration")⟩, ⟨PyData.keyHash P ⟨#[83,121,110,116,97,120,69,114,114,111,114]⟩, (.str ⟨#[83,121,110,116,97,120,69,114,114,111,114]⟩ 102), (.type "SyntaxError")⟩, ⟨PyData.keyHash P ⟨#[83,121,115,116,101,109,69,114,114,111,114]⟩, (.str ⟨#[83,121,115,116,101,109,69,114,114,111,114]⟩ 103), (.type "SystemError")⟩, ⟨PyData.keyHash P ⟨#[84,121,112,101,69,114,114,111,114]⟩, (.str ⟨#[84,121,112,101,69,114,114,111,114]⟩ 104), (.type "TypeError")⟩, ⟨PyData.keyHash P ⟨#[86,97,108,117,101,69,114,114,111,114]⟩, (.str ⟨#[86,97,108,117,101,69,114,114,111,114]⟩ 105), (.type "ValueError")⟩, ⟨PyData.keyHash P ⟨#[87,97,114,110,105,110,103]⟩, (.str ⟨#[87,97,114,110,105,110,103]⟩ 106), (.type "Warning")⟩, ⟨PyData.keyHash P ⟨#[70,108,111,97,116,105,110,103,80,111,105,110,116,69,114,114,111,114]⟩, (.str ⟨#[70,108,111,97,116,105,110,103,80,111,105,110,116,69,114,114,111,114]⟩ 107), (.type "FloatingPointError")⟩, ⟨PyData.keyHash P ⟨#[79,118,101,114,102,108,111,119,69,114,114,111,114]⟩, (.str ⟨#[79,118,101,114,102,108,111,119,69,114,114,111,114]⟩ 108), (.type "OverflowError")⟩, ⟨PyData.keyHash P ⟨#[90,101,114,111,68,105,118,105,115,105,111,110,69,114,114,111,114]⟩, (.str ⟨#[90,101,114,111,68,105,118,105,115,105,111,110,69,114,114,111,114]⟩ 109), (.type "ZeroDivisionError")⟩, ⟨PyData.keyHash P ⟨#[66,121,116,101,115,87,97,114,110,105,110,103]⟩, (.str ⟨#[66,121,116,101,115,87,97,114,110,105,110,103]⟩ 110), (.type "BytesWarning")⟩, ⟨PyData.keyHash P ⟨#[68,101,112,114,101,99,97,116,105,111,110,87,97,114,110,105,110,103]⟩, (.str ⟨#[68,101,112,114,101,99,97,116,105,111,110,87,97,114,110,105,110,103]⟩ 111), (.type "DeprecationWarning")⟩, ⟨PyData.keyHash P ⟨#[69,110,99,111,100,105,110,103,87,97,114,110,105,110,103]⟩, (.str ⟨#[69,110,99,111,100,105,110,103,87,97,114,110,105,110,103]⟩ 112), (.type "EncodingWarning")⟩, ⟨PyData.keyHash P ⟨#[70,117,116,117,114,101,87,97,114,110,105,110,103]⟩, (.str ⟨#[70,117,116,117,114,101,87,97,114,110,105,110,103]⟩ 113), (.type "FutureWarning")⟩, ⟨PyData.keyHash P ⟨#[73,109,112,111,114,116,87,97,114,110,105,110,103]⟩, (.str ⟨#[73,109,112,111,114,116,87,97,114,110,105,110,103]⟩ 114), (.type "ImportWarning")⟩, ⟨PyData.keyHash P ⟨#[80,101,110,100,105,110,103,68,101,112,114,101,99,97,116,105,111,110,87,97,114,110,105,110,103]⟩, (.str ⟨#[80,101,110,100,105,110,103,68,101,112,114,101,99,97,116,105,111,110,87,97,114,110,105,110,103]⟩ 115), (.type "PendingDeprecationWarning")⟩, ⟨PyData.keyHash P ⟨#[82,101,115,111,117,114,99,101,87,97,114,110,105,110,103]⟩, (.str ⟨#[82,101,115,111,117,114,99,101,87,97,114,110,105,110,103]⟩ 116), (.type "ResourceWarning")⟩, ⟨PyData.keyHash P ⟨#[82,117,110,116,105,109,101,87,97,114,110,105,110,103]⟩, (.str ⟨#[82,117,110,116,105,109,101,87,97,114,110,105,110,103]⟩ 117), (.type "RuntimeWarning")⟩, ⟨PyData.keyHash P ⟨#[83,121,110,116,97,120,87,97,114,110,105,110,103]⟩, (.str ⟨#[83,121,110,116,97,120,87,97,114,110,105,110,103]⟩ 118), (.type "SyntaxWarning")⟩, ⟨PyData.keyHash P ⟨#[85,110,105,99,111,100,101,87,97,114,110,105,110,103]⟩, (.str ⟨#[85,110,105,99,111,100,101,87,97,114,110,105,110,103]⟩ 119), (.type "UnicodeWarning")⟩, ⟨PyData.keyHash P ⟨#[85,115,101,114,87,97,114,110,105,110,103]⟩, (.str ⟨#[85,115,101,114,87,97,114,110,105,110,103]⟩ 120), (.type "UserWarning")⟩, ⟨PyData.keyHash P ⟨#[66,108,111,99,107,105,110,103,73,79,69,114,114,111,114]⟩, (.str ⟨#[66,108,111,99,107,105,110,103,73,79,69,114,114,111,114]⟩ 121), (.type "BlockingIOError")⟩, ⟨PyData.keyHash P ⟨#[67,104,105,108,100,80,114,111,99,101,115,115,69,114,114,111,114]⟩, (.str ⟨#[67,104,105,108,100,80,114,111,99,101,115,115,69,114,114,111,114]⟩ 122), (.type "ChildProcessError")⟩, ⟨PyData.keyHash P ⟨#[67,111,110,110,101,99,116,105,111,110,69,114,114,111,114]⟩, (.str ⟨#[67,111,110,110,101,99,116,105,111,110,69,114,114,111,114]⟩ 123), (.type "ConnectionError")⟩, ⟨PyData.keyHash P ⟨#[70,105,108,101,69,120,105,115,116,115,69,114,114,111,114]⟩, (.str ⟨#[70,105,108,101,69,120,105,115,116,115,69,114,114,111,114]⟩ 124), (.type "FileExistsError")⟩, ⟨PyData.keyHash P ⟨#[70,105,108,101,78,111,116,70,111,117,110,100,69,114,114,111,114]⟩, (.str ⟨#[70,105,108,101,78,111,116,70,111,117,110,100,69,114,114,111,114]⟩ 125), (.type "FileNotFoundError")⟩, ⟨PyData.keyHash P ⟨#[73,110,116,101,114,114,117,112,116,101,100,69,114,114,111,114]⟩, (.str ⟨#[73,110,116,101,114,114,117,112,116,101,100,69,114,114,111,114]⟩ 126), (.type "InterruptedError")⟩, ⟨PyData.keyHash P ⟨#[73,115,65,68,105,114,101,99,116,111,114,121,69,114,114,111,114]⟩, (.str ⟨#[73,115,65,68,105,114,101,99,116,111,114,121,69,114,114,111,114]⟩ 127), (.type "IsADirectoryError")⟩, ⟨PyData.keyHash P ⟨#[78,111,116,65,68,105,114,101,99,116,111,114,121,69,114,114,111,114]⟩, (.str ⟨#[78,111,116,65,68,105,114,101,99,116,111,114,121,69,114,114,111,114]⟩ 128), (.type "NotADirectoryError")⟩, ⟨PyData.keyHash P ⟨#[80,101,114,109,105,115,115,105,111,110,69,114,114,111,114]⟩, (.str ⟨#[80,101,114,109,105,115,115,105,111,110,69,114,114,111,114]⟩ 129), (.type "PermissionError")⟩, ⟨PyData.keyHash P ⟨#[80,114,111,99,101,115,115,76,111,111,107,117,112,69,114,114,111,114]⟩, (.str ⟨#[80,114,111,99,101,115,115,76,111,111,107,117,112,69,114,114,111,114]⟩ 130), (.type "ProcessLookupError")⟩, ⟨PyData.keyHash P ⟨#[84,105,109,101,111,117,116,69,114,114,111,114]⟩, (.str ⟨#[84,105,109,101,111,117,116,69,114,114,111,114]⟩ 131), (.type "TimeoutError")⟩, ⟨PyData.keyHash P ⟨#[73,110,100,101,110,116,97,116,105,111,110,69,114,114,111,114]⟩, (.str ⟨#[73,110,100,101,110,116,97,116,105,111,110,69,114,114,111,114]⟩ 132), (.type "IndentationError")⟩, ⟨PyData.keyHash P ⟨#[95,73,110,99,111,109,112,108,101,116,101,73,110,112,117,116,69,114,114,111,114]⟩, (.str ⟨#[95,73,110,99,111,109,112,108,101,116,101,73,110,112,117,116,69,114,114,111,114]⟩ 133), (.type "_IncompleteInputError")⟩, ⟨PyData.keyHash P ⟨#[73,110,100,101,120,69,114,114,111,114]⟩, (.str ⟨#[73,110,100,101,120,69,114,114,111,114]⟩ 134), (.type "IndexError")⟩, ⟨PyData.keyHash P ⟨#[75,101,121,69,114,114,111,114]⟩, (.str ⟨#[75,101,121,69,114,114,111,114]⟩ 135), (.type "KeyError")⟩, ⟨PyData.keyHash P ⟨#[77,111,100,117,108,101,78,111,116,70,111,117,110,100,69,114,114,111,114]⟩, (.str ⟨#[77,111,100,117,108,101,78,111,116,70,111,117,110,100,69,114,114,111,114]⟩ 136), (.type "ModuleNotFoundError")⟩, ⟨PyData.keyHash P ⟨#[78,111,116,73,109,112,108,101,109,101,110,116,101,100,69,114,114,111,114]⟩, (.str ⟨#[78,111,116,73,109,112,108,101,109,101,110,116,101,100,69,114,114,111,114]⟩ 137), (.type "NotImplementedError")⟩, ⟨PyData.keyHash P ⟨#[80,121,116,104,111,110,70,105,110,97,108,105,122,97,116,105,111,110,69,114,114,111,114]⟩, (.str ⟨#[80,121,116,104,111,110,70,105,110,97,108,105,122,97,116,105,111,110,69,114,114,111,114]⟩ 138), (.type "PythonFinalizationError")⟩, ⟨PyData.keyHash P ⟨#[82,101,99,117,114,115,105,111,110,69,114,114,111,114]⟩, (.str ⟨#[82,101,99,117,114,115,105,111,110,69,114,114,111,114]⟩ 139), (.type "RecursionError")⟩, ⟨PyData.keyHash P ⟨#[85,110,98,111,117,110,100,76,111,99,97,108,69,114,114,111,114]⟩, (.str ⟨#[85,110,98,111,117,110,100,76,111,99,97,108,69,114,114,111,114]⟩ 140), (.type "UnboundLocalError")⟩, ⟨PyData.keyHash P ⟨#[85,110,105,99,111,100,101,69,114,114,111,114]⟩, (.str ⟨#[85,110,105,99,111,100,101,69,114,114,111,114]⟩ 141), (.type "UnicodeError")⟩, ⟨PyData.keyHash P ⟨#[66,114,111,107,101,110,80,105,112,101,69,114,114,111,114]⟩, (.str ⟨#[66,114,111,107,101,110,80,105,112,101,69,114,114,111,114]⟩ 142), (.type "BrokenPipeError")⟩, ⟨PyData.keyHash P ⟨#[67,111,110,110,101,99,116,105,111,110,65,98,111,114,116,101,100,69,114,114,111,114]⟩, (.str ⟨#[67,111,110,110,101,99,116,105,111,110,65,98,111,114,116,101,100,69,114,114,111,114]⟩ 143), (.type "ConnectionAbortedError")⟩, ⟨PyData.keyHash P ⟨#[67,111,110,110,101,99,116,105,111,110,82,101,102,117,115,101,100,69,114,114,111,114]⟩, (.str ⟨#[67,111,110,110,101,99,116,105,111,110,82,101,102,117,115,101,100,69,114,114,111,114]⟩ 144), (.type "ConnectionRefusedError")⟩, ⟨PyData.keyHash P ⟨#[67,111,110,110,101,99,116,105,111,110,82,101,115,101,116,69,114,114,111,114]⟩, (.str ⟨#[67,111,110,110,101,99,116,105,111,110,82,101,115,101,116,69,114,114,111,114]⟩ 145), (.type "ConnectionResetError")⟩, ⟨PyData.keyHash P ⟨#[84,97,98,69,114,114,111,114]⟩, (.str ⟨#[84,97,98,69,114,114,111,114]⟩ 146), (.type "TabError")⟩, ⟨PyData.keyHash P ⟨#[85,110,105,99,111,100,101,68,101,99,111,100,101,69,114,114,111,114]⟩, (.str ⟨#[85,110,105,99,111,100,101,68,101,99,111,100,101,69,114,114,111,114]⟩ 147), (.type "UnicodeDecodeError")⟩, ⟨PyData.keyHash P ⟨#[85,110,105,99,111,100,101,69,110,99,111,100,101,69,114,114,111,114]⟩, (.str ⟨#[85,110,105,99,111,100,101,69,110,99,111,100,101,69,114,114,111,114]⟩ 148), (.type "UnicodeEncodeError")⟩, ⟨PyData.keyHash P ⟨#[85,110,105,99,111,100,101,84,114,97,110,115,108,97,116,101,69,114,114,111,114]⟩, (.str ⟨#[85,110,105,99,111,100,101,84,114,97,110,115,108,97,116,101,69,114,114,111,114]⟩ 149), (.type "UnicodeTranslateError")⟩, ⟨PyData.keyHash P ⟨#[69,120,99,101,112,116,105,111,110,71,114,111,117,112]⟩, (.str ⟨#[69,120,99,101,112,116,105,111,110,71,114,111,117,112]⟩ 150), (.type "ExceptionGroup")⟩, ⟨PyData.keyHash P ⟨#[69,110,118,105,114,111,110,109,101,110,116,69,114,114,111,114]⟩, (.str ⟨#[69,110,118,105,114,111,110,109,101,110,116,69,114,114,111,114]⟩ 151), (.type "OSError")⟩, ⟨PyData.keyHash P ⟨#[73,79,69,114,114,111,114]⟩, (.str ⟨#[73,79,69,114,114,111,114]⟩ 152), (.type "OSError")⟩, ⟨PyData.keyHash P ⟨#[111,112,101,110]⟩, (.str ⟨#[111,112,101,110]⟩ 153), (.builtin "open")⟩, ⟨PyData.keyHash P ⟨#[113,117,105,116]⟩, (.str ⟨#[113,117,105,116]⟩ 154), (.builtin "builtins.quit#opaque")⟩, ⟨PyData.keyHash P ⟨#[101,120,105,116]⟩, (.str ⟨#[101,120,105,116]⟩ 155), (.builtin "builtins.exit#opaque")⟩, ⟨PyData.keyHash P ⟨#[99,111,112,121,114,105,103,104,116]⟩, (.str ⟨#[99,111,112,121,114,105,103,104,116]⟩ 156), (.builtin "builtins.copyright#opaque")⟩, ⟨PyData.keyHash P ⟨#[99,114,101,100,105,116,115]⟩, (.str ⟨#[99,114,101,100,105,116,115]⟩ 157), (.builtin "builtins.credits#opaque")⟩, ⟨PyData.keyHash P ⟨#[108,105,99,101,110,115,101]⟩, (.str ⟨#[108,105,99,101,110,115,101]⟩ 158), (.builtin "builtins.license#opaque")⟩, ⟨PyData.keyHash P ⟨#[104,101,108,112]⟩, (.str ⟨#[104,101,108,112]⟩ 159), (.builtin "builtins.help#opaque")⟩] 159, slots := #[] }
noncomputable def o2 (P : Params) : Obj := { cls := .none, dict := none, data := .dict #[⟨PyData.keyHash P ⟨#[116,121,112,101,46,95,95,115,117,98,99,108,97,115,115,101,115,95,95,46,69,120,99,101,112,116,105,111,110,46,48]⟩, (.str ⟨#[116,121,112,101,46,95,95,115,117,98,99,108,97,115,115,101,115,95,95,46,69,120,99,101,112,116,105,111,110,46,48]⟩ 296), (.int (74) 0)⟩, ⟨PyData.keyHash P ⟨#[116,121,112,101,46,95,95,115,117,98,99,108,97,115,115,101,115,95,95,46,69,120,99,101,112,116,105,111,110,46,110]⟩, (.str ⟨#[116,121,112,101,46,95,95,115,117,98,99,108,97,115,115,101,115,95,95,46,69,120,99,101,112,116,105,111,110,46,110]⟩ 297), (.int (1) 0)⟩] 2, slots := #[] }
noncomputable def o3 (P : Params) : Obj := { cls := .type "dict", dict := none, data := .dict #[⟨PyData.keyHash P ⟨#[95,95,110,97,109,101,95,95]⟩, (.str ⟨#[95,95,110,97,109,101,95,95]⟩ 165), (.str ⟨#[108,97,119,95,112,113,48,54,56,54,95,48,49]⟩ 1295)⟩, ⟨PyData.keyHash P ⟨#[95,95,100,111,99,95,95]⟩, (.str ⟨#[95,95,100,111,99,95,95]⟩ 166), .none⟩, ⟨PyData.keyHash P ⟨#[95,95,112,97,99,107,97,103,101,95,95]⟩, (.str ⟨#[95,95,112,97,99,107,97,103,101,95,95]⟩ 167), .none⟩, ⟨PyData.keyHash P ⟨#[95,95,108,111,97,100,101,114,95,95]⟩, (.str ⟨#[95,95,108,111,97,100,101,114,95,95]⟩ 168), (.builtin "__main__.__loader__#opaque")⟩, ⟨PyData.keyHash P ⟨#[95,95,115,112,101,99,95,95]⟩, (.str ⟨#[95,95,115,112,101,99,95,95]⟩ 169), .none⟩, ⟨PyData.keyHash P ⟨#[95,95,97,110,110,111,116,97,116,105,111,110,115,95,95]⟩, (.str ⟨#[95,95,97,110,110,111,116,97,116,105,111,110,115,95,95]⟩ 170), (.ref 6)⟩, ⟨PyData.keyHash P ⟨#[95,95,98,117,105,108,116,105,110,115,95,95]⟩, (.str ⟨#[95,95,98,117,105,108,116,105,110,115,95,95]⟩ 171), (.ref 4)⟩, ⟨PyData.keyHash P ⟨#[95,95,102,105,108,101,95,95]⟩, (.str ⟨#[95,95,102,105,108,101,95,95]⟩ 173), (.str ⟨#[47,99,108,97,105,109,47,99,117,116,46,112,121]⟩ 172)⟩, ⟨PyData.keyHash P ⟨#[95,95,99,97,99,104,101,100,95,95]⟩, (.str ⟨#[95,95,99,97,99,104,101,100,95,95]⟩ 174), .none⟩, ⟨PyData.keyHash P ⟨#[95,119,97,108,108]⟩, (.str ⟨#[95,119,97,108,108]⟩ 193), (.ref 21)⟩, ⟨PyData.keyHash P ⟨#[66,76,65,78,75,83]⟩, (.str ⟨#[66,76,65,78,75,83]⟩ 197), (.bytes #[32,9,10,11,12,13] 196)⟩, ⟨PyData.keyHash P ⟨#[76,105,109,105,116,115]⟩, (.str ⟨#[76,105,109,105,116,115]⟩ 268), (.ref 53)⟩, ⟨PyData.keyHash P ⟨#[76,117,97,69,114,114,111,114]⟩, (.str ⟨#[76,117,97,69,114,114,111,114]⟩ 299), (.ref 74)⟩, ⟨PyData.keyHash P ⟨#[105,115,95,110,117,109,98,101,114]⟩, (.str ⟨#[105,115,95,110,117,109,98,101,114]⟩ 306), (.ref 84)⟩, ⟨PyData.keyHash P ⟨#[105,115,95,102,97,108,115,101]⟩, (.str ⟨#[105,115,95,102,97,108,115,101]⟩ 313), (.ref 91)⟩, ⟨PyData.keyHash P ⟨#[119,114,97,112]⟩, (.str ⟨#[119,114,97,112]⟩ 322), (.ref 98)⟩, ⟨PyData.keyHash P ⟨#[105,115,95,98,108,97,110,107]⟩, (.str ⟨#[105,115,95,98,108,97,110,107]⟩ 329), (.ref 105)⟩, ⟨PyData.keyHash P ⟨#[100,105,103,105,116,95,111,102]⟩, (.str ⟨#[100,105,103,105,116,95,111,102]⟩ 336), (.ref 112)⟩, ⟨PyData.keyHash P ⟨#[114,101,97,100,95,100,105,103,105,116,115]⟩, (.str ⟨#[114,101,97,100,95,100,105,103,105,116,115]⟩ 349), (.ref 119)⟩, ⟨PyData.keyHash P ⟨#[115,107,105,112,95,98,108,97,110,107,115]⟩, (.str ⟨#[115,107,105,112,95,98,108,97,110,107,115]⟩ 357), (.ref 126)⟩, ⟨PyData.keyHash P ⟨#[115,116,114,95,116,111,95,110,117,109,98,101,114]⟩, (.str ⟨#[115,116,114,95,116,111,95,110,117,109,98,101,114]⟩ 365), (.ref 133)⟩, ⟨PyData.keyHash P ⟨#[116,101,120,116,95,105,110,95,98,97,115,101]⟩, (.str ⟨#[116,101,120,116,95,105,110,95,98,97,115,101]⟩ 379), (.ref 140)⟩, ⟨PyData.keyHash P ⟨#[116,111,95,110,117,109,98,101,114]⟩, (.str ⟨#[116,111,95,110,117,109,98,101,114]⟩ 387), (.ref 147)⟩, ⟨PyData.keyHash P ⟨#[110,117,109,98,101,114,95,116,101,120,116]⟩, (.str ⟨#[110,117,109,98,101,114,95,116,101,120,116]⟩ 396), (.ref 154)⟩, ⟨PyData.keyHash P ⟨#[116,111,95,116,101,120,116]⟩, (.str ⟨#[116,111,95,116,101,120,116]⟩ 403), (.ref 161)⟩, ⟨PyData.keyHash P ⟨#[99,95,116,101,120,116]⟩, (.str ⟨#[99,95,116,101,120,116]⟩ 411), (.ref 168)⟩, ⟨PyData.keyHash P ⟨#[102,105,114,115,116,95,108,105,110,101]⟩, (.str ⟨#[102,105,114,115,116,95,108,105,110,101]⟩ 419), (.ref 175)⟩, ⟨PyData.keyHash P ⟨#[99,104,117,110,107,95,105,100]⟩, (.str ⟨#[99,104,117,110,107,95,105,100]⟩ 430), (.ref 182)⟩, ⟨PyData.keyHash P ⟨#[77,79,83,84,95,68,69,69,80]⟩, (.str ⟨#[77,79,83,84,95,68,69,69,80]⟩ 434), (.int (820) 433)⟩, ⟨PyData.keyHash P ⟨#[72,79,83,84,95,67,65,76,76]⟩, (.str ⟨#[72,79,83,84,95,67,65,76,76]⟩ 436), (.int (8) 435)⟩, ⟨PyData.keyHash P ⟨#[84,114,101,101,84,97,98,108,101]⟩, (.str ⟨#[84,114,101,101,84,97,98,108,101]⟩ 515), (.ref 234)⟩, ⟨PyData.keyHash P ⟨#[66,117,105,108,116,105,110]⟩, (.str ⟨#[66,117,105,108,116,105,110]⟩ 548), (.ref 255)⟩, ⟨PyData.keyHash P ⟨#[116,114,101,101,95,116,121,112,101]⟩, (.str ⟨#[116,114,101,101,95,116,121,112,101]⟩ 555), (.ref 266)⟩, ⟨PyData.keyHash P ⟨#[115,97,109,101]⟩, (.str ⟨#[115,97,109,101]⟩ 564), (.ref 273)⟩, ⟨PyData.keyHash P ⟨#[105,115,95,102,117,110,99,116,105,111,110]⟩, (.str ⟨#[105,115,95,102,117,110,99,116,105,111,110]⟩ 571), (.ref 280)⟩, ⟨PyData.keyHash P ⟨#[70,114,97,109,101]⟩, (.str ⟨#[70,114,97,109,101]⟩ 606), (.ref 297)⟩, ⟨PyData.keyHash P ⟨#[72,111,115,116]⟩, (.str ⟨#[72,111,115,116]⟩ 820), (.ref 451)⟩, ⟨PyData.keyHash P ⟨#[78,69,88,84]⟩, (.str ⟨#[78,69,88,84]⟩ 825), (.int (-5) 824)⟩, ⟨PyData.keyHash P ⟨#[78,69,88,84,95,87,72,79,76,69]⟩, (.str ⟨#[78,69,88,84,95,87,72,79,76,69]⟩ 828), (.int (-70) 827)⟩, ⟨PyData.keyHash P ⟨#[97,114,103,117,109,101,110,116]⟩, (.str ⟨#[97,114,103,117,109,101,110,116]⟩ 836), (.ref 462)⟩, ⟨PyData.keyHash P ⟨#[103,105,118,101,110,95,116,121,112,101]⟩, (.str ⟨#[103,105,118,101,110,95,116,121,112,101]⟩ 844), (.ref 469)⟩, ⟨PyData.keyHash P ⟨#[114,101,102,117,115,101,95,97,114,103,117,109,101,110,116]⟩, (.str ⟨#[114,101,102,117,115,101,95,97,114,103,117,109,101,110,116]⟩ 854), (.ref 476)⟩, ⟨PyData.keyHash P ⟨#[110,101,101,100,95,97,110,121]⟩, (.str ⟨#[110,101,101,100,95,97,110,121]⟩ 864), (.ref 483)⟩, ⟨PyData.keyHash P ⟨#[110,101,101,100,95,110,117,109,98,101,114]⟩, (.str ⟨#[110,101,101,100,95,110,117,109,98,101,114]⟩ 875), (.ref 490)⟩, ⟨PyData.keyHash P ⟨#[110,117,109,98,101,114,95,111,114]⟩, (.str ⟨#[110,117,109,98,101,114,95,111,114]⟩ 886), (.ref 497)⟩, ⟨PyData.keyHash P ⟨#[110,101,101,100,95,116,101,120,116]⟩, (.str ⟨#[110,101,101,100,95,116,101,120,116]⟩ 897), (.ref 504)⟩, ⟨PyData.keyHash P ⟨#[110,101,101,100,95,116,97,98,108,101]⟩, (.str ⟨#[110,101,101,100,95,116,97,98,108,101]⟩ 908), (.ref 511)⟩, ⟨PyData.keyHash P ⟨#[98,97,115,101,95,112,114,105,110,116]⟩, (.str ⟨#[98,97,115,101,95,112,114,105,110,116]⟩ 921), (.ref 518)⟩, ⟨PyData.keyHash P ⟨#[115,104,111,119,110]⟩, (.str ⟨#[115,104,111,119,110]⟩ 929), (.ref 525)⟩, ⟨PyData.keyHash P ⟨#[98,97,115,101,95,116,121,112,101]⟩, (.str ⟨#[98,97,115,101,95,116,121,112,101]⟩ 937), (.ref 532)⟩, ⟨PyData.keyHash P ⟨#[98,97,115,101,95,116,111,115,116,114,105,110,103]⟩, (.str ⟨#[98,97,115,101,95,116,111,115,116,114,105,110,103]⟩ 947), (.ref 539)⟩, ⟨PyData.keyHash P ⟨#[98,97,115,101,95,116,111,110,117,109,98,101,114]⟩, (.str ⟨#[98,97,115,101,95,116,111,110,117,109,98,101,114]⟩ 957), (.ref 546)⟩, ⟨PyData.keyHash P ⟨#[98,97,115,101,95,110,101,120,116]⟩, (.str ⟨#[98,97,115,101,95,110,101,120,116]⟩ 966), (.ref 553)⟩, ⟨PyData.keyHash P ⟨#[98,97,115,101,95,112,97,105,114,115]⟩, (.str ⟨#[98,97,115,101,95,112,97,105,114,115]⟩ 974), (.ref 560)⟩, ⟨PyData.keyHash P ⟨#[110,101,120,116,95,119,104,111,108,101]⟩, (.str ⟨#[110,101,120,116,95,119,104,111,108,101]⟩ 984), (.ref 567)⟩, ⟨PyData.keyHash P ⟨#[98,97,115,101,95,105,112,97,105,114,115]⟩, (.str ⟨#[98,97,115,101,95,105,112,97,105,114,115]⟩ 992), (.ref 574)⟩, ⟨PyData.keyHash P ⟨#[98,97,115,101,95,114,97,119,103,101,116]⟩, (.str ⟨#[98,97,115,101,95,114,97,119,103,101,116]⟩ 1001), (.ref 581)⟩, ⟨PyData.keyHash P ⟨#[98,97,115,101,95,114,97,119,115,101,116]⟩, (.str ⟨#[98,97,115,101,95,114,97,119,115,101,116]⟩ 1010), (.ref 588)⟩, ⟨PyData.keyHash P ⟨#[98,97,115,101,95,114,97,119,101,113,117,97,108]⟩, (.str ⟨#[98,97,115,101,95,114,97,119,101,113,117,97,108]⟩ 1018), (.ref 595)⟩, ⟨PyData.keyHash P ⟨#[98,97,115,101,95,115,101,108,101,99,116]⟩, (.str ⟨#[98,97,115,101,95,115,101,108,101,99,116]⟩ 1028), (.ref 602)⟩, ⟨PyData.keyHash P ⟨#[98,97,115,101,95,117,110,112,97,99,107]⟩, (.str ⟨#[98,97,115,101,95,117,110,112,97,99,107]⟩ 1034), (.ref 607)⟩, ⟨PyData.keyHash P ⟨#[98,97,115,101,95,97,115,115,101,114,116]⟩, (.str ⟨#[98,97,115,101,95,97,115,115,101,114,116]⟩ 1042), (.ref 614)⟩, ⟨PyData.keyHash P ⟨#[98,97,115,101,95,101,114,114,111,114]⟩, (.str ⟨#[98,97,115,101,95,101,114,114,111,114]⟩ 1052), (.ref 621)⟩, ⟨PyData.keyHash P ⟨#[98,97,115,101,95,112,99,97,108,108]⟩, (.str ⟨#[98,97,115,101,95,112,99,97,108,108]⟩ 1063), (.ref 628)⟩, ⟨PyData.keyHash P ⟨#[98,97,115,101,95,115,101,116,109,101,116,97,116,97,98,108,101]⟩, (.str ⟨#[98,97,115,101,95,115,101,116,109,101,116,97,116,97,98,108,101]⟩ 1073), (.ref 635)⟩, ⟨PyData.keyHash P ⟨#[98,97,115,101,95,103,101,116,109,101,116,97,116,97,98,108,101]⟩, (.str ⟨#[98,97,115,101,95,103,101,116,109,101,116,97,116,97,98,108,101]⟩ 1084), (.ref 642)⟩, ⟨PyData.keyHash P ⟨#[116,97,98,108,101,95,105,110,115,101,114,116]⟩, (.str ⟨#[116,97,98,108,101,95,105,110,115,101,114,116]⟩ 1096), (.ref 649)⟩, ⟨PyData.keyHash P ⟨#[116,97,98,108,101,95,114,101,109,111,118,101]⟩, (.str ⟨#[116,97,98,108,101,95,114,101,109,111,118,101]⟩ 1109), (.ref 656)⟩, ⟨PyData.keyHash P ⟨#[116,97,98,108,101,95,99,111,110,99,97,116]⟩, (.str ⟨#[116,97,98,108,101,95,99,111,110,99,97,116]⟩ 1127), (.ref 663)⟩, ⟨PyData.keyHash P ⟨#[116,97,98,108,101,95,103,101,116,110]⟩, (.str ⟨#[116,97,98,108,101,95,103,101,116,110]⟩ 1135), (.ref 670)⟩, ⟨PyData.keyHash P ⟨#[116,97,98,108,101,95,109,97,120,110]⟩, (.str ⟨#[116,97,98,108,101,95,109,97,120,110]⟩ 1147), (.ref 677)⟩, ⟨PyData.keyHash P ⟨#[116,97,98,108,101,95,115,111,114,116]⟩, (.str ⟨#[116,97,98,108,101,95,115,111,114,116]⟩ 1160), (.ref 684)⟩, ⟨PyData.keyHash P ⟨#[99,111,109,101,115,95,102,105,114,115,116]⟩, (.str ⟨#[99,111,109,101,115,95,102,105,114,115,116]⟩ 1170), (.ref 691)⟩, ⟨PyData.keyHash P ⟨#[116,101,120,116,95,108,101,110]⟩, (.str ⟨#[116,101,120,116,95,108,101,110]⟩ 1178), (.ref 698)⟩, ⟨PyData.keyHash P ⟨#[112,108,97,99,101,95,105,110]⟩, (.str ⟨#[112,108,97,99,101,95,105,110]⟩ 1186), (.ref 705)⟩, ⟨PyData.keyHash P ⟨#[116,101,120,116,95,115,117,98]⟩, (.str ⟨#[116,101,120,116,95,115,117,98]⟩ 1197), (.ref 712)⟩, ⟨PyData.keyHash P ⟨#[116,101,120,116,95,114,101,112]⟩, (.str ⟨#[116,101,120,116,95,114,101,112]⟩ 1207), (.ref 719)⟩, ⟨PyData.keyHash P ⟨#[116,101,120,116,95,114,101,118,101,114,115,101]⟩, (.str ⟨#[116,101,120,116,95,114,101,118,101,114,115,101]⟩ 1215), (.ref 726)⟩, ⟨PyData.keyHash P ⟨#[116,101,120,116,95,108,111,119,101,114]⟩, (.str ⟨#[116,101,120,116,95,108,111,119,101,114]⟩ 1221), (.ref 731)⟩, ⟨PyData.keyHash P ⟨#[116,101,120,116,95,117,112,112,101,114]⟩, (.str ⟨#[116,101,120,116,95,117,112,112,101,114]⟩ 1227), (.ref 736)⟩, ⟨PyData.keyHash P ⟨#[116,101,120,116,95,98,121,116,101]⟩, (.str ⟨#[116,101,120,116,95,98,121,116,101]⟩ 1233), (.ref 741)⟩, ⟨PyData.keyHash P ⟨#[116,101,120,116,95,99,104,97,114]⟩, (.str ⟨#[116,101,120,116,95,99,104,97,114]⟩ 1244), (.ref 748)⟩, ⟨PyData.keyHash P ⟨#[109,97,116,104,95,97,98,115]⟩, (.str ⟨#[109,97,116,104,95,97,98,115]⟩ 1253), (.ref 755)⟩, ⟨PyData.keyHash P ⟨#[109,97,116,104,95,109,97,120]⟩, (.str ⟨#[109,97,116,104,95,109,97,120]⟩ 1263), (.ref 762)⟩, ⟨PyData.keyHash P ⟨#[109,97,116,104,95,109,105,110]⟩, (.str ⟨#[109,97,116,104,95,109,105,110]⟩ 1273), (.ref 769)⟩, ⟨PyData.keyHash P ⟨#[115,104,101,108,102]⟩, (.str ⟨#[115,104,101,108,102]⟩ 1284), (.ref 776)⟩, ⟨PyData.keyHash P ⟨#[108,105,98,114,97,114,121]⟩, (.str ⟨#[108,105,98,114,97,114,121]⟩ 1294), (.ref 783)⟩, ⟨PyData.keyHash P ⟨#[95,108,97,119,95,116,97,107,101]⟩, (.str ⟨#[95,108,97,119,95,116,97,107,101]⟩ 1305), (.ref 790)⟩, ⟨PyData.keyHash P ⟨#[95,108,97,119,95,104,101,97,114,100]⟩, (.str ⟨#[95,108,97,119,95,104,101,97,114,100]⟩ 1318), (.ref 797)⟩, ⟨PyData.keyHash P ⟨#[95,108,97,119,95,98,97,100]⟩, (.str ⟨#[95,108,97,119,95,98,97,100]⟩ 1327), (.ref 804)⟩, ⟨PyData.keyHash P ⟨#[95,108,97,119,95,115,104,111,119,110,95,114,105,103,104,116]⟩, (.str ⟨#[95,108,97,119,95,115,104,111,119,110,95,114,105,103,104,116]⟩ 1343), (.ref 811)⟩, ⟨PyData.keyHash P ⟨#[95,108,97,119,95,115,111,114,116,95,114,105,103,104,116]⟩, (.str ⟨#[95,108,97,119,95,115,111,114,116,95,114,105,103,104,116]⟩ 1349), (.ref 816)⟩, ⟨PyData.keyHash P ⟨#[95,108,97,119,95,106,111,105,110,101,100,95,114,105,103,104,116]⟩, (.str ⟨#[95,108,97,119,95,106,111,105,110,101,100,95,114,105,103,104,116]⟩ 1366), (.ref 823)⟩, ⟨PyData.keyHash P ⟨#[108,97,119]⟩, (.str ⟨#[108,97,119]⟩ 1377), (.ref 830)⟩] 94, slots := #[] }
noncomputable def o4 (P : Params) : Obj := { cls := .type "module", dict := some 0, data := .plain, slots := #[] }
noncomputable def o29 (P : Params) : Obj := { cls := .type "tuple", dict := none, data := .seq #[(.int (64) 210), (.int (250) 211), (.int (60) 212), (.int (200) 213), (.int (40) 214), (.int (200) 215), (.int (2000) 216), (.int (50) 217), (.int (1000000000) 218), (.int (1000000) 219)] 0, slots := #[] }
noncomputable def o35 (P : Params) : Obj := { cls := .type "code", dict := none, data := .fields #[(.str ⟨#[95,95,105,110,105,116,95,95]⟩ 220), (.str ⟨#[76,105,109,105,116,115,46,95,95,105,110,105,116,95,95]⟩ 221), (.str ⟨#[47,99,108,97,105,109,47,99,117,116,46,112,121]⟩ 222), (.int (8) 0), (.int (11) 0), (.int (0) 0), (.int (0) 0), (.int (3) 0), (.ref 30), (.bool true), (.int (181) 0), (.ref 31), .none, (.ref 32), (.ref 33), (.ref 34), (.int (234) 0), (.int (8) 0), (.str ⟨#[47,99,108,97,105,109,47,99,117,116,46,112,121]⟩ 235)], slots := #[] }
noncomputable def o36 (P : Params) : Obj := { cls := .type "function", dict := none, data := fn (sub (stm 3) 0) ⟨#[76,105,109,105,116,115,46,95,95,105,110,105,116,95,95]⟩ (.ref 29) .none (.str ⟨#[108,117,97,46,118,97,108,117,101,115]⟩ 194) (.ref 35) 3 0, slots := #[] }
noncomputable def o52 (P : Params) : Obj := { cls := .type "dict", dict := none, data := .dict #[⟨PyData.keyHash P ⟨#[95,95,109,111,100,117,108,101,95,95]⟩, (.str ⟨#[95,95,109,111,100,117,108,101,95,95]⟩ 205), (.str ⟨#[108,117,97,46,118,97,108,117,101,115]⟩ 194)⟩, ⟨PyData.keyHash P ⟨#[95,95,102,105,114,115,116,108,105,110,101,110,111,95,95]⟩, (.str ⟨#[95,95,102,105,114,115,116,108,105,110,101,110,111,95,95]⟩ 209), (.int (6) 208)⟩, ⟨PyData.keyHash P ⟨#[95,95,105,110,105,116,95,95]⟩, (.str ⟨#[95,95,105,110,105,116,95,95]⟩ 236), (.ref 36)⟩, ⟨PyData.keyHash P ⟨#[103,114,101,97,116,101,115,116]⟩, (.str ⟨#[103,114,101,97,116,101,115,116]⟩ 243), (.ref 43)⟩, ⟨PyData.keyHash P ⟨#[108,101,97,115,116]⟩, (.str ⟨#[108,101,97,115,116]⟩ 250), (.ref 50)⟩, ⟨PyData.keyHash P ⟨#[95,95,115,116,97,116,105,99,95,97,116,116,114,105,98,117,116,101,115,95,95]⟩, (.str ⟨#[95,95,115,116,97,116,105,99,95,97,116,116,114,105,98,117,116,101,115,95,95]⟩ 261), (.ref 51)⟩, ⟨PyData.keyHash P ⟨#[95,95,100,105,99,116,95,95]⟩, (.str ⟨#[95,95,100,105,99,116,95,95]⟩ 263), (.ref 54)⟩, ⟨PyData.keyHash P ⟨#[95,95,119,101,97,107,114,101,102,95,95]⟩, (.str ⟨#[95,95,119,101,97,107,114,101,102,95,95]⟩ 265), (.ref 55)⟩, ⟨PyData.keyHash P ⟨#[95,95,100,111,99,95,95]⟩, (.str ⟨#[95,95,100,111,99,95,95]⟩ 266), .none⟩] 4, slots := #[] }
noncomputable def o53 (P : Params) : Obj := { cls := .type "type", dict := none, data := .cls { name := ⟨#[76,105,109,105,116,115]⟩, bases := [.type "object"], mro := [.ref 53, .type "object"], ns := 52, qualname := ⟨#[76,105,109,105,116,115]⟩, hasDict := true, slotNames := [], subclasses := [], abstract := false, collection := none, hasDel := false }, slots := #[none, none, (some (.str ⟨#[76,105,109,105,116,115]⟩ 198)), (some (.str ⟨#[76,105,109,105,116,115]⟩ 206)), (some (.builtin "object.__new__")), (some (.bool true))] }
noncomputable def o70 (P : Params) : Obj := { cls := .type "code", dict := none, data := .fields #[(.str ⟨#[95,95,105,110,105,116,95,95]⟩ 281), (.str ⟨#[76,117,97,69,114,114,111,114,46,95,95,105,110,105,116,95,95]⟩ 282), (.str ⟨#[47,99,108,97,105,109,47,99,117,116,46,112,121]⟩ 283), (.int (27) 0), (.int (2) 0), (.int (0) 0), (.int (0) 0), (.int (3) 0), (.ref 65), (.bool true), (.int (181) 0), (.ref 66), .none, (.ref 67), (.ref 68), (.ref 69), (.int (286) 0), (.int (27) 0), (.str ⟨#[47,99,108,97,105,109,47,99,117,116,46,112,121]⟩ 287)], slots := #[] }
noncomputable def o71 (P : Params) : Obj := { cls := .type "function", dict := none, data := fn (sub (stm 4) 0) ⟨#[76,117,97,69,114,114,111,114,46,95,95,105,110,105,116,95,95]⟩ .none .none (.str ⟨#[108,117,97,46,118,97,108,117,101,115]⟩ 194) (.ref 70) 3 0, slots := #[] }
noncomputable def o73 (P : Params) : Obj := { cls := .type "dict", dict := none, data := .dict #[⟨PyData.keyHash P ⟨#[95,95,109,111,100,117,108,101,95,95]⟩, (.str ⟨#[95,95,109,111,100,117,108,101,95,95]⟩ 276), (.str ⟨#[108,117,97,46,118,97,108,117,101,115]⟩ 194)⟩, ⟨PyData.keyHash P ⟨#[95,95,102,105,114,115,116,108,105,110,101,110,111,95,95]⟩, (.str ⟨#[95,95,102,105,114,115,116,108,105,110,101,110,111,95,95]⟩ 280), (.int (25) 279)⟩, ⟨PyData.keyHash P ⟨#[95,95,105,110,105,116,95,95]⟩, (.str ⟨#[95,95,105,110,105,116,95,95]⟩ 288), (.ref 71)⟩, ⟨PyData.keyHash P ⟨#[95,95,115,116,97,116,105,99,95,97,116,116,114,105,98,117,116,101,115,95,95]⟩, (.str ⟨#[95,95,115,116,97,116,105,99,95,97,116,116,114,105,98,117,116,101,115,95,95]⟩ 292), (.ref 72)⟩, ⟨PyData.keyHash P ⟨#[95,95,119,101,97,107,114,101,102,95,95]⟩, (.str ⟨#[95,95,119,101,97,107,114,101,102,95,95]⟩ 294), (.ref 75)⟩, ⟨PyData.keyHash P ⟨#[95,95,100,111,99,95,95]⟩, (.str ⟨#[95,95,100,111,99,95,95]⟩ 295), .none⟩] 3, slots := #[] }
noncomputable def o74 (P : Params) : Obj := { cls := .type "type", dict := none, data := .cls { name := ⟨#[76,117,97,69,114,114,111,114]⟩, bases := [.type "Exception"], mro := [.ref 74, .type "Exception", .type "BaseException", .type "object"], ns := 73, qualname := ⟨#[76,117,97,69,114,114,111,114]⟩, hasDict := true, slotNames := [], subclasses := [], abstract := false, collection := none, hasDel := false }, slots := #[(some (.ref 58)), none, (some (.str ⟨#[76,117,97,69,114,114,111,114]⟩ 269)), (some (.str ⟨#[76,117,97,69,114,114,111,114]⟩ 277)), (some (.builtin "Exception.__new__")), (some (.bool true))] }
noncomputable def o83 (P : Params) : Obj := { cls := .type "code", dict := none, data := .fields #[(.str ⟨#[105,115,95,110,117,109,98,101,114]⟩ 300), (.str ⟨#[105,115,95,110,117,109,98,101,114]⟩ 301), (.str ⟨#[47,99,108,97,105,109,47,99,117,116,46,112,121]⟩ 302), (.int (31) 0), (.int (1) 0), (.int (0) 0), (.int (0) 0), (.int (3) 0), (.ref 78), (.bool true), (.int (181) 0), (.ref 79), .none, (.ref 80), (.ref 81), (.ref 82), (.int (304) 0), (.int (31) 0), (.str ⟨#[47,99,108,97,105,109,47,99,117,116,46,112,121]⟩ 305)], slots := #[] }
noncomputable def o84 (P : Params) : Obj := { cls := .type "function", dict := none, data := fn (stm 5) ⟨#[105,115,95,110,117,109,98,101,114]⟩ .none .none (.str ⟨#[108,117,97,46,118,97,108,117,101,115]⟩ 194) (.ref 83) 3 0, slots := #[] }
noncomputable def o90 (P : Params) : Obj := { cls := .type "code", dict := none, data := .fields #[(.str ⟨#[105,115,95,102,97,108,115,101]⟩ 307), (.str ⟨#[105,115,95,102,97,108,115,101]⟩ 308), (.str ⟨#[47,99,108,97,105,109,47,99,117,116,46,112,121]⟩ 309), (.int (33) 0), (.int (1) 0), (.int (0) 0), (.int (0) 0), (.int (3) 0), (.ref 85), (.bool true), (.int (181) 0), (.ref 86), .none, (.ref 87), (.ref 88), (.ref 89), (.int (311) 0), (.int (33) 0), (.str ⟨#[47,99,108,97,105,109,47,99,117,116,46,112,121]⟩ 312)], slots := #[] }
noncomputable def o91 (P : Params) : Obj := { cls := .type "function", dict := none, data := fn (stm 6) ⟨#[105,115,95,102,97,108,115,101]⟩ .none .none (.str ⟨#[108,117,97,46,118,97,108,117,101,115]⟩ 194) (.ref 90) 3 0, slots := #[] }
noncomputable def o153 (P : Params) : Obj := { cls := .type "code", dict := none, data := .fields #[(.str ⟨#[110,117,109,98,101,114,95,116,101,120,116]⟩ 388), (.str ⟨#[110,117,109,98,101,114,95,116,101,120,116]⟩ 389), (.str ⟨#[47,99,108,97,105,109,47,99,117,116,46,112,121]⟩ 390), (.int (85) 0), (.int (1) 0), (.int (0) 0), (.int (0) 0), (.int (3) 0), (.ref 148), (.bool true), (.int (181) 0), (.ref 149), .none, (.ref 150), (.ref 151), (.ref 152), (.int (394) 0), (.int (85) 0), (.str ⟨#[47,99,108,97,105,109,47,99,117,116,46,112,121]⟩ 395)], slots := #[] }
noncomputable def o154 (P : Params) : Obj := { cls := .type "function", dict := none, data := fn (stm 15) ⟨#[110,117,109,98,101,114,95,116,101,120,116]⟩ .none .none (.str ⟨#[108,117,97,46,118,97,108,117,101,115]⟩ 194) (.ref 153) 3 0, slots := #[] }
noncomputable def o160 (P : Params) : Obj := { cls := .type "code", dict := none, data := .fields #[(.str ⟨#[116,111,95,116,101,120,116]⟩ 397), (.str ⟨#[116,111,95,116,101,120,116]⟩ 398), (.str ⟨#[47,99,108,97,105,109,47,99,117,116,46,112,121]⟩ 399), (.int (95) 0), (.int (1) 0), (.int (0) 0), (.int (0) 0), (.int (3) 0), (.ref 155), (.bool true), (.int (181) 0), (.ref 156), .none, (.ref 157), (.ref 158), (.ref 159), (.int (401) 0), (.int (95) 0), (.str ⟨#[47,99,108,97,105,109,47,99,117,116,46,112,121]⟩ 402)], slots := #[] }
noncomputable def o161 (P : Params) : Obj := { cls := .type "function", dict := none, data := fn (stm 16) ⟨#[116,111,95,116,101,120,116]⟩ .none .none (.str ⟨#[108,117,97,46,118,97,108,117,101,115]⟩ 194) (.ref 160) 3 0, slots := #[] }
noncomputable def o167 (P : Params) : Obj := { cls := .type "code", dict := none, data := .fields #[(.str ⟨#[99,95,116,101,120,116]⟩ 404), (.str ⟨#[99,95,116,101,120,116]⟩ 405), (.str ⟨#[47,99,108,97,105,109,47,99,117,116,46,112,121]⟩ 406), (.int (101) 0), (.int (1) 0), (.int (0) 0), (.int (0) 0), (.int (3) 0), (.ref 162), (.bool true), (.int (181) 0), (.ref 163), .none, (.ref 164), (.ref 165), (.ref 166), (.int (409) 0), (.int (101) 0), (.str ⟨#[47,99,108,97,105,109,47,99,117,116,46,112,121]⟩ 410)], slots := #[] }
noncomputable def o168 (P : Params) : Obj := { cls := .type "function", dict := none, data := fn (stm 17) ⟨#[99,95,116,101,120,116]⟩ .none .none (.str ⟨#[108,117,97,46,118,97,108,117,101,115]⟩ 194) (.ref 167) 3 0, slots := #[] }
noncomputable def o181 (P : Params) : Obj := { cls := .type "code", dict := none, data := .fields #[(.str ⟨#[99,104,117,110,107,95,105,100]⟩ 420), (.str ⟨#[99,104,117,110,107,95,105,100]⟩ 421), (.str ⟨#[47,99,108,97,105,109,47,99,117,116,46,112,121]⟩ 422), (.int (111) 0), (.int (2) 0), (.int (0) 0), (.int (0) 0), (.int (3) 0), (.ref 176), (.bool true), (.int (181) 0), (.ref 177), .none, (.ref 178), (.ref 179), (.ref 180), (.int (428) 0), (.int (111) 0), (.str ⟨#[47,99,108,97,105,109,47,99,117,116,46,112,121]⟩ 429)], slots := #[] }
noncomputable def o182 (P : Params) : Obj := { cls := .type "function", dict := none, data := fn (stm 19) ⟨#[99,104,117,110,107,95,105,100]⟩ .none .none (.str ⟨#[108,117,97,46,118,97,108,117,101,115]⟩ 194) (.ref 181) 3 0, slots := #[] }
noncomputable def o195 (P : Params) : Obj := { cls := .type "code", dict := none, data := .fields #[(.str ⟨#[95,95,105,110,105,116,95,95]⟩ 449), (.str ⟨#[84,114,101,101,84,97,98,108,101,46,95,95,105,110,105,116,95,95]⟩ 450), (.str ⟨#[47,99,108,97,105,109,47,99,117,116,46,112,121]⟩ 451), (.int (129) 0), (.int (2) 0), (.int (0) 0), (.int (0) 0), (.int (3) 0), (.ref 190), (.bool true), (.int (181) 0), (.ref 191), .none, (.ref 192), (.ref 193), (.ref 194), (.int (454) 0), (.int (129) 0), (.str ⟨#[47,99,108,97,105,109,47,99,117,116,46,112,121]⟩ 455)], slots := #[] }
noncomputable def o196 (P : Params) : Obj := { cls := .type "function", dict := none, data := fn (sub (stm 23) 0) ⟨#[84,114,101,101,84,97,98,108,101,46,95,95,105,110,105,116,95,95]⟩ .none .none (.str ⟨#[108,117,97,46,116,114,101,101,104,111,115,116]⟩ 431) (.ref 195) 3 0, slots := #[] }
noncomputable def o202 (P : Params) : Obj := { cls := .type "code", dict := none, data := .fields #[(.str ⟨#[102,105,110,100]⟩ 457), (.str ⟨#[84,114,101,101,84,97,98,108,101,46,102,105,110,100]⟩ 458), (.str ⟨#[47,99,108,97,105,109,47,99,117,116,46,112,121]⟩ 459), (.int (135) 0), (.int (2) 0), (.int (0) 0), (.int (0) 0), (.int (3) 0), (.ref 197), (.bool true), (.int (181) 0), (.ref 198), .none, (.ref 199), (.ref 200), (.ref 201), (.int (464) 0), (.int (135) 0), (.str ⟨#[47,99,108,97,105,109,47,99,117,116,46,112,121]⟩ 465)], slots := #[] }
noncomputable def o203 (P : Params) : Obj := { cls := .type "function", dict := none, data := fn (sub (stm 23) 1) ⟨#[84,114,101,101,84,97,98,108,101,46,102,105,110,100]⟩ .none .none (.str ⟨#[108,117,97,46,116,114,101,101,104,111,115,116]⟩ 431) (.ref 202) 3 0, slots := #[] }
noncomputable def o209 (P : Params) : Obj := { cls := .type "code", dict := none, data := .fields #[(.str ⟨#[103,101,116]⟩ 467), (.str ⟨#[84,114,101,101,84,97,98,108,101,46,103,101,116]⟩ 468), (.str ⟨#[47,99,108,97,105,109,47,99,117,116,46,112,121]⟩ 469), (.int (141) 0), (.int (2) 0), (.int (0) 0), (.int (0) 0), (.int (3) 0), (.ref 204), (.bool true), (.int (181) 0), (.ref 205), .none, (.ref 206), (.ref 207), (.ref 208), (.int (473) 0), (.int (141) 0), (.str ⟨#[47,99,108,97,105,109,47,99,117,116,46,112,121]⟩ 474)], slots := #[] }
noncomputable def o210 (P : Params) : Obj := { cls := .type "function", dict := none, data := fn (sub (stm 23) 2) ⟨#[84,114,101,101,84,97,98,108,101,46,103,101,116]⟩ .none .none (.str ⟨#[108,117,97,46,116,114,101,101,104,111,115,116]⟩ 431) (.ref 209) 3 0, slots := #[] }
noncomputable def o216 (P : Params) : Obj := { cls := .type "code", dict := none, data := .fields #[(.str ⟨#[115,101,116]⟩ 476), (.str ⟨#[84,114,101,101,84,97,98,108,101,46,115,101,116]⟩ 477), (.str ⟨#[47,99,108,97,105,109,47,99,117,116,46,112,121]⟩ 478), (.int (145) 0), (.int (3) 0), (.int (0) 0), (.int (0) 0), (.int (3) 0), (.ref 211), (.bool true), (.int (181) 0), (.ref 212), .none, (.ref 213), (.ref 214), (.ref 215), (.int (483) 0), (.int (145) 0), (.str ⟨#[47,99,108,97,105,109,47,99,117,116,46,112,121]⟩ 484)], slots := #[] }
noncomputable def o217 (P : Params) : Obj := { cls := .type "function", dict := none, data := fn (sub (stm 23) 3) ⟨#[84,114,101,101,84,97,98,108,101,46,115,101,116]⟩ .none .none (.str ⟨#[108,117,97,46,116,114,101,101,104,111,115,116]⟩ 431) (.ref 216) 3 0, slots := #[] }
noncomputable def o223 (P : Params) : Obj := { cls := .type "code", dict := none, data := .fields #[(.str ⟨#[108,101,110,103,116,104]⟩ 486), (.str ⟨#[84,114,101,101,84,97,98,108,101,46,108,101,110,103,116,104]⟩ 487), (.str ⟨#[47,99,108,97,105,109,47,99,117,116,46,112,121]⟩ 488), (.int (153) 0), (.int (1) 0), (.int (0) 0), (.int (0) 0), (.int (3) 0), (.ref 218), (.bool true), (.int (181) 0), (.ref 219), .none, (.ref 220), (.ref 221), (.ref 222), (.int (491) 0), (.int (153) 0), (.str ⟨#[47,99,108,97,105,109,47,99,117,116,46,112,121]⟩ 492)], slots := #[] }
noncomputable def o224 (P : Params) : Obj := { cls := .type "function", dict := none, data := fn (sub (stm 23) 4) ⟨#[84,114,101,101,84,97,98,108,101,46,108,101,110,103,116,104]⟩ .none .none (.str ⟨#[108,117,97,46,116,114,101,101,104,111,115,116]⟩ 431) (.ref 223) 3 0, slots := #[] }
noncomputable def o233 (P : Params) : Obj := { cls := .type "dict", dict := none, data := .dict #[⟨PyData.keyHash P ⟨#[95,95,109,111,100,117,108,101,95,95]⟩, (.str ⟨#[95,95,109,111,100,117,108,101,95,95]⟩ 444), (.str ⟨#[108,117,97,46,116,114,101,101,104,111,115,116]⟩ 431)⟩, ⟨PyData.keyHash P ⟨#[95,95,102,105,114,115,116,108,105,110,101,110,111,95,95]⟩, (.str ⟨#[95,95,102,105,114,115,116,108,105,110,101,110,111,95,95]⟩ 448), (.int (127) 447)⟩, ⟨PyData.keyHash P ⟨#[95,95,105,110,105,116,95,95]⟩, (.str ⟨#[95,95,105,110,105,116,95,95]⟩ 456), (.ref 196)⟩, ⟨PyData.keyHash P ⟨#[102,105,110,100]⟩, (.str ⟨#[102,105,110,100]⟩ 466), (.ref 203)⟩, ⟨PyData.keyHash P ⟨#[103,101,116]⟩, (.str ⟨#[103,101,116]⟩ 475), (.ref 210)⟩, ⟨PyData.keyHash P ⟨#[115,101,116]⟩, (.str ⟨#[115,101,116]⟩ 485), (.ref 217)⟩, ⟨PyData.keyHash P ⟨#[108,101,110,103,116,104]⟩, (.str ⟨#[108,101,110,103,116,104]⟩ 493), (.ref 224)⟩, ⟨PyData.keyHash P ⟨#[102,111,108,108,111,119,101,114]⟩, (.str ⟨#[102,111,108,108,111,119,101,114]⟩ 503), (.ref 231)⟩, ⟨PyData.keyHash P ⟨#[95,95,115,116,97,116,105,99,95,97,116,116,114,105,98,117,116,101,115,95,95]⟩, (.str ⟨#[95,95,115,116,97,116,105,99,95,97,116,116,114,105,98,117,116,101,115,95,95]⟩ 508), (.ref 232)⟩, ⟨PyData.keyHash P ⟨#[95,95,100,105,99,116,95,95]⟩, (.str ⟨#[95,95,100,105,99,116,95,95]⟩ 510), (.ref 235)⟩, ⟨PyData.keyHash P ⟨#[95,95,119,101,97,107,114,101,102,95,95]⟩, (.str ⟨#[95,95,119,101,97,107,114,101,102,95,95]⟩ 512), (.ref 236)⟩, ⟨PyData.keyHash P ⟨#[95,95,100,111,99,95,95]⟩, (.str ⟨#[95,95,100,111,99,95,95]⟩ 513), .none⟩] 4, slots := #[] }
noncomputable def o234 (P : Params) : Obj := { cls := .type "type", dict := none, data := .cls { name := ⟨#[84,114,101,101,84,97,98,108,101]⟩, bases := [.type "object"], mro := [.ref 234, .type "object"], ns := 233, qualname := ⟨#[84,114,101,101,84,97,98,108,101]⟩, hasDict := true, slotNames := [], subclasses := [], abstract := false, collection := none, hasDel := false }, slots := #[none, none, (some (.str ⟨#[84,114,101,101,84,97,98,108,101]⟩ 437)), (some (.str ⟨#[84,114,101,101,84,97,98,108,101]⟩ 445)), (some (.builtin "object.__new__")), (some (.bool true))] }
noncomputable def o251 (P : Params) : Obj := { cls := .type "code", dict := none, data := .fields #[(.str ⟨#[95,95,105,110,105,116,95,95]⟩ 528), (.str ⟨#[66,117,105,108,116,105,110,46,95,95,105,110,105,116,95,95]⟩ 529), (.str ⟨#[47,99,108,97,105,109,47,99,117,116,46,112,121]⟩ 530), (.int (171) 0), (.int (4) 0), (.int (0) 0), (.int (0) 0), (.int (3) 0), (.ref 246), (.bool true), (.int (181) 0), (.ref 247), .none, (.ref 248), (.ref 249), (.ref 250), (.int (535) 0), (.int (171) 0), (.str ⟨#[47,99,108,97,105,109,47,99,117,116,46,112,121]⟩ 536)], slots := #[] }
noncomputable def o252 (P : Params) : Obj := { cls := .type "function", dict := none, data := fn (sub (stm 24) 0) ⟨#[66,117,105,108,116,105,110,46,95,95,105,110,105,116,95,95]⟩ .none .none (.str ⟨#[108,117,97,46,116,114,101,101,104,111,115,116]⟩ 431) (.ref 251) 3 0, slots := #[] }
noncomputable def o254 (P : Params) : Obj := { cls := .type "dict", dict := none, data := .dict #[⟨PyData.keyHash P ⟨#[95,95,109,111,100,117,108,101,95,95]⟩, (.str ⟨#[95,95,109,111,100,117,108,101,95,95]⟩ 523), (.str ⟨#[108,117,97,46,116,114,101,101,104,111,115,116]⟩ 431)⟩, ⟨PyData.keyHash P ⟨#[95,95,102,105,114,115,116,108,105,110,101,110,111,95,95]⟩, (.str ⟨#[95,95,102,105,114,115,116,108,105,110,101,110,111,95,95]⟩ 527), (.int (169) 526)⟩, ⟨PyData.keyHash P ⟨#[95,95,105,110,105,116,95,95]⟩, (.str ⟨#[95,95,105,110,105,116,95,95]⟩ 537), (.ref 252)⟩, ⟨PyData.keyHash P ⟨#[95,95,115,116,97,116,105,99,95,97,116,116,114,105,98,117,116,101,115,95,95]⟩, (.str ⟨#[95,95,115,116,97,116,105,99,95,97,116,116,114,105,98,117,116,101,115,95,95]⟩ 541), (.ref 253)⟩, ⟨PyData.keyHash P ⟨#[95,95,100,105,99,116,95,95]⟩, (.str ⟨#[95,95,100,105,99,116,95,95]⟩ 543), (.ref 256)⟩, ⟨PyData.keyHash P ⟨#[95,95,119,101,97,107,114,101,102,95,95]⟩, (.str ⟨#[95,95,119,101,97,107,114,101,102,95,95]⟩ 545), (.ref 257)⟩, ⟨PyData.keyHash P ⟨#[95,95,100,111,99,95,95]⟩, (.str ⟨#[95,95,100,111,99,95,95]⟩ 546), .none⟩] 4, slots := #[] }
noncomputable def o255 (P : Params) : Obj := { cls := .type "type", dict := none, data := .cls { name := ⟨#[66,117,105,108,116,105,110]⟩, bases := [.type "object"], mro := [.ref 255, .type "object"], ns := 254, qualname := ⟨#[66,117,105,108,116,105,110]⟩, hasDict := true, slotNames := [], subclasses := [], abstract := false, collection := none, hasDel := false }, slots := #[none, none, (some (.str ⟨#[66,117,105,108,116,105,110]⟩ 516)), (some (.str ⟨#[66,117,105,108,116,105,110]⟩ 524)), (some (.builtin "object.__new__")), (some (.bool true))] }
noncomputable def o265 (P : Params) : Obj := { cls := .type "code", dict := none, data := .fields #[(.str ⟨#[116,114,101,101,95,116,121,112,101]⟩ 549), (.str ⟨#[116,114,101,101,95,116,121,112,101]⟩ 550), (.str ⟨#[47,99,108,97,105,109,47,99,117,116,46,112,121]⟩ 551), (.int (175) 0), (.int (1) 0), (.int (0) 0), (.int (0) 0), (.int (3) 0), (.ref 260), (.bool true), (.int (181) 0), (.ref 261), .none, (.ref 262), (.ref 263), (.ref 264), (.int (553) 0), (.int (175) 0), (.str ⟨#[47,99,108,97,105,109,47,99,117,116,46,112,121]⟩ 554)], slots := #[] }
noncomputable def o266 (P : Params) : Obj := { cls := .type "function", dict := none, data := fn (stm 25) ⟨#[116,114,101,101,95,116,121,112,101]⟩ .none .none (.str ⟨#[108,117,97,46,116,114,101,101,104,111,115,116]⟩ 431) (.ref 265) 3 0, slots := #[] }
noncomputable def o272 (P : Params) : Obj := { cls := .type "code", dict := none, data := .fields #[(.str ⟨#[115,97,109,101]⟩ 556), (.str ⟨#[115,97,109,101]⟩ 557), (.str ⟨#[47,99,108,97,105,109,47,99,117,116,46,112,121]⟩ 558), (.int (185) 0), (.int (2) 0), (.int (0) 0), (.int (0) 0), (.int (3) 0), (.ref 267), (.bool true), (.int (181) 0), (.ref 268), .none, (.ref 269), (.ref 270), (.ref 271), (.int (562) 0), (.int (185) 0), (.str ⟨#[47,99,108,97,105,109,47,99,117,116,46,112,121]⟩ 563)], slots := #[] }
noncomputable def o273 (P : Params) : Obj := { cls := .type "function", dict := none, data := fn (stm 26) ⟨#[115,97,109,101]⟩ .none .none (.str ⟨#[108,117,97,46,116,114,101,101,104,111,115,116]⟩ 431) (.ref 272) 3 0, slots := #[] }
noncomputable def o279 (P : Params) : Obj := { cls := .type "code", dict := none, data := .fields #[(.str ⟨#[105,115,95,102,117,110,99,116,105,111,110]⟩ 565), (.str ⟨#[105,115,95,102,117,110,99,116,105,111,110]⟩ 566), (.str ⟨#[47,99,108,97,105,109,47,99,117,116,46,112,121]⟩ 567), (.int (192) 0), (.int (1) 0), (.int (0) 0), (.int (0) 0), (.int (3) 0), (.ref 274), (.bool true), (.int (181) 0), (.ref 275), .none, (.ref 276), (.ref 277), (.ref 278), (.int (569) 0), (.int (192) 0), (.str ⟨#[47,99,108,97,105,109,47,99,117,116,46,112,121]⟩ 570)], slots := #[] }
noncomputable def o280 (P : Params) : Obj := { cls := .type "function", dict := none, data := fn (stm 27) ⟨#[105,115,95,102,117,110,99,116,105,111,110]⟩ .none .none (.str ⟨#[108,117,97,46,116,114,101,101,104,111,115,116]⟩ 431) (.ref 279) 3 0, slots := #[] }
noncomputable def o293 (P : Params) : Obj := { cls := .type "code", dict := none, data := .fields #[(.str ⟨#[95,95,105,110,105,116,95,95]⟩ 584), (.str ⟨#[70,114,97,109,101,46,95,95,105,110,105,116,95,95]⟩ 585), (.str ⟨#[47,99,108,97,105,109,47,99,117,116,46,112,121]⟩ 586), (.int (196) 0), (.int (4) 0), (.int (0) 0), (.int (0) 0), (.int (3) 0), (.ref 288), (.bool true), (.int (181) 0), (.ref 289), .none, (.ref 290), (.ref 291), (.ref 292), (.int (591) 0), (.int (196) 0), (.str ⟨#[47,99,108,97,105,109,47,99,117,116,46,112,121]⟩ 592)], slots := #[] }
noncomputable def o294 (P : Params) : Obj := { cls := .type "function", dict := none, data := fn (sub (stm 28) 0) ⟨#[70,114,97,109,101,46,95,95,105,110,105,116,95,95]⟩ .none .none (.str ⟨#[108,117,97,46,116,114,101,101,104,111,115,116]⟩ 431) (.ref 293) 3 0, slots := #[] }
noncomputable def o296 (P : Params) : Obj := { cls := .type "dict", dict := none, data := .dict #[⟨PyData.keyHash P ⟨#[95,95,109,111,100,117,108,101,95,95]⟩, (.str ⟨#[95,95,109,111,100,117,108,101,95,95]⟩ 579), (.str ⟨#[108,117,97,46,116,114,101,101,104,111,115,116]⟩ 431)⟩, ⟨PyData.keyHash P ⟨#[95,95,102,105,114,115,116,108,105,110,101,110,111,95,95]⟩, (.str ⟨#[95,95,102,105,114,115,116,108,105,110,101,110,111,95,95]⟩ 583), (.int (194) 582)⟩, ⟨PyData.keyHash P ⟨#[95,95,105,110,105,116,95,95]⟩, (.str ⟨#[95,95,105,110,105,116,95,95]⟩ 593), (.ref 294)⟩, ⟨PyData.keyHash P ⟨#[95,95,115,116,97,116,105,99,95,97,116,116,114,105,98,117,116,101,115,95,95]⟩, (.str ⟨#[95,95,115,116,97,116,105,99,95,97,116,116,114,105,98,117,116,101,115,95,95]⟩ 599), (.ref 295)⟩, ⟨PyData.keyHash P ⟨#[95,95,100,105,99,116,95,95]⟩, (.str ⟨#[95,95,100,105,99,116,95,95]⟩ 601), (.ref 298)⟩, ⟨PyData.keyHash P ⟨#[95,95,119,101,97,107,114,101,102,95,95]⟩, (.str ⟨#[95,95,119,101,97,107,114,101,102,95,95]⟩ 603), (.ref 299)⟩, ⟨PyData.keyHash P ⟨#[95,95,100,111,99,95,95]⟩, (.str ⟨#[95,95,100,111,99,95,95]⟩ 604), .none⟩] 4, slots := #[] }
noncomputable def o297 (P : Params) : Obj := { cls := .type "type", dict := none, data := .cls { name := ⟨#[70,114,97,109,101]⟩, bases := [.type "object"], mro := [.ref 297, .type "object"], ns := 296, qualname := ⟨#[70,114,97,109,101]⟩, hasDict := true, slotNames := [], subclasses := [], abstract := false, collection := none, hasDel := false }, slots := #[none, none, (some (.str ⟨#[70,114,97,109,101]⟩ 572)), (some (.str ⟨#[70,114,97,109,101]⟩ 580)), (some (.builtin "object.__new__")), (some (.bool true))] }
noncomputable def o314 (P : Params) : Obj := { cls := .type "code", dict := none, data := .fields #[(.str ⟨#[95,95,105,110,105,116,95,95]⟩ 619), (.str ⟨#[72,111,115,116,46,95,95,105,110,105,116,95,95]⟩ 620), (.str ⟨#[47,99,108,97,105,109,47,99,117,116,46,112,121]⟩ 621), (.int (204) 0), (.int (3) 0), (.int (0) 0), (.int (0) 0), (.int (3) 0), (.ref 309), (.bool true), (.int (181) 0), (.ref 310), .none, (.ref 311), (.ref 312), (.ref 313), (.int (625) 0), (.int (204) 0), (.str ⟨#[47,99,108,97,105,109,47,99,117,116,46,112,121]⟩ 626)], slots := #[] }
noncomputable def o315 (P : Params) : Obj := { cls := .type "function", dict := none, data := fn (sub (stm 29) 0) ⟨#[72,111,115,116,46,95,95,105,110,105,116,95,95]⟩ .none .none (.str ⟨#[108,117,97,46,116,114,101,101,104,111,115,116]⟩ 431) (.ref 314) 3 0, slots := #[] }
noncomputable def o328 (P : Params) : Obj := { cls := .type "code", dict := none, data := .fields #[(.str ⟨#[116,105,99,107]⟩ 635), (.str ⟨#[72,111,115,116,46,116,105,99,107]⟩ 636), (.str ⟨#[47,99,108,97,105,109,47,99,117,116,46,112,121]⟩ 637), (.int (217) 0), (.int (1) 0), (.int (0) 0), (.int (0) 0), (.int (3) 0), (.ref 323), (.bool true), (.int (181) 0), (.ref 324), .none, (.ref 325), (.ref 326), (.ref 327), (.int (639) 0), (.int (217) 0), (.str ⟨#[47,99,108,97,105,109,47,99,117,116,46,112,121]⟩ 640)], slots := #[] }
noncomputable def o329 (P : Params) : Obj := { cls := .type "function", dict := none, data := fn (sub (stm 29) 2) ⟨#[72,111,115,116,46,116,105,99,107]⟩ .none .none (.str ⟨#[108,117,97,46,116,114,101,101,104,111,115,116]⟩ 431) (.ref 328) 3 0, slots := #[] }
noncomputable def o335 (P : Params) : Obj := { cls := .type "code", dict := none, data := .fields #[(.str ⟨#[103,111,95,100,101,101,112,101,114]⟩ 642), (.str ⟨#[72,111,115,116,46,103,111,95,100,101,101,112,101,114]⟩ 643), (.str ⟨#[47,99,108,97,105,109,47,99,117,116,46,112,121]⟩ 644), (.int (222) 0), (.int (2) 0), (.int (0) 0), (.int (0) 0), (.int (3) 0), (.ref 330), (.bool true), (.int (181) 0), (.ref 331), .none, (.ref 332), (.ref 333), (.ref 334), (.int (647) 0), (.int (222) 0), (.str ⟨#[47,99,108,97,105,109,47,99,117,116,46,112,121]⟩ 648)], slots := #[] }
noncomputable def o336 (P : Params) : Obj := { cls := .type "function", dict := none, data := fn (sub (stm 29) 3) ⟨#[72,111,115,116,46,103,111,95,100,101,101,112,101,114]⟩ .none .none (.str ⟨#[108,117,97,46,116,114,101,101,104,111,115,116]⟩ 431) (.ref 335) 3 0, slots := #[] }
noncomputable def o342 (P : Params) : Obj := { cls := .type "code", dict := none, data := .fields #[(.str ⟨#[119,104,101,114,101]⟩ 650), (.str ⟨#[72,111,115,116,46,119,104,101,114,101]⟩ 651), (.str ⟨#[47,99,108,97,105,109,47,99,117,116,46,112,121]⟩ 652), (.int (227) 0), (.int (2) 0), (.int (0) 0), (.int (0) 0), (.int (3) 0), (.ref 337), (.bool true), (.int (181) 0), (.ref 338), .none, (.ref 339), (.ref 340), (.ref 341), (.int (656) 0), (.int (227) 0), (.str ⟨#[47,99,108,97,105,109,47,99,117,116,46,112,121]⟩ 657)], slots := #[] }
noncomputable def o343 (P : Params) : Obj := { cls := .type "function", dict := none, data := fn (sub (stm 29) 4) ⟨#[72,111,115,116,46,119,104,101,114,101]⟩ .none .none (.str ⟨#[108,117,97,46,116,114,101,101,104,111,115,116]⟩ 431) (.ref 342) 3 0, slots := #[] }
noncomputable def o356 (P : Params) : Obj := { cls := .type "code", dict := none, data := .fields #[(.str ⟨#[99,111,109,112,108,97,105,110]⟩ 667), (.str ⟨#[72,111,115,116,46,99,111,109,112,108,97,105,110]⟩ 668), (.str ⟨#[47,99,108,97,105,109,47,99,117,116,46,112,121]⟩ 669), (.int (236) 0), (.int (2) 0), (.int (0) 0), (.int (0) 0), (.int (3) 0), (.ref 351), (.bool true), (.int (181) 0), (.ref 352), .none, (.ref 353), (.ref 354), (.ref 355), (.int (672) 0), (.int (236) 0), (.str ⟨#[47,99,108,97,105,109,47,99,117,116,46,112,121]⟩ 673)], slots := #[] }
noncomputable def o357 (P : Params) : Obj := { cls := .type "function", dict := none, data := fn (sub (stm 29) 6) ⟨#[72,111,115,116,46,99,111,109,112,108,97,105,110]⟩ .none .none (.str ⟨#[108,117,97,46,116,114,101,101,104,111,115,116]⟩ 431) (.ref 356) 3 0, slots := #[] }
noncomputable def o370 (P : Params) : Obj := { cls := .type "code", dict := none, data := .fields #[(.str ⟨#[99,117,116,95,102,114,97,109,101,115]⟩ 686), (.str ⟨#[72,111,115,116,46,99,117,116,95,102,114,97,109,101,115]⟩ 687), (.str ⟨#[47,99,108,97,105,109,47,99,117,116,46,112,121]⟩ 688), (.int (245) 0), (.int (2) 0), (.int (0) 0), (.int (0) 0), (.int (3) 0), (.ref 365), (.bool true), (.int (181) 0), (.ref 366), .none, (.ref 367), (.ref 368), (.ref 369), (.int (691) 0), (.int (245) 0), (.str ⟨#[47,99,108,97,105,109,47,99,117,116,46,112,121]⟩ 692)], slots := #[] }
noncomputable def o371 (P : Params) : Obj := { cls := .type "function", dict := none, data := fn (sub (stm 29) 8) ⟨#[72,111,115,116,46,99,117,116,95,102,114,97,109,101,115]⟩ .none .none (.str ⟨#[108,117,97,46,116,114,101,101,104,111,115,116]⟩ 431) (.ref 370) 3 0, slots := #[] }
noncomputable def o377 (P : Params) : Obj := { cls := .type "code", dict := none, data := .fields #[(.str ⟨#[104,97,110,100,108,101,114]⟩ 694), (.str ⟨#[72,111,115,116,46,104,97,110,100,108,101,114]⟩ 695), (.str ⟨#[47,99,108,97,105,109,47,99,117,116,46,112,121]⟩ 696), (.int (249) 0), (.int (3) 0), (.int (0) 0), (.int (0) 0), (.int (3) 0), (.ref 372), (.bool true), (.int (181) 0), (.ref 373), .none, (.ref 374), (.ref 375), (.ref 376), (.int (700) 0), (.int (249) 0), (.str ⟨#[47,99,108,97,105,109,47,99,117,116,46,112,121]⟩ 701)], slots := #[] }
noncomputable def o378 (P : Params) : Obj := { cls := .type "function", dict := none, data := fn (sub (stm 29) 9) ⟨#[72,111,115,116,46,104,97,110,100,108,101,114]⟩ .none .none (.str ⟨#[108,117,97,46,116,114,101,101,104,111,115,116]⟩ 431) (.ref 377) 3 0, slots := #[] }
noncomputable def o384 (P : Params) : Obj := { cls := .type "code", dict := none, data := .fields #[(.str ⟨#[99,97,108,108,95,104,97,110,100,108,101,114]⟩ 703), (.str ⟨#[72,111,115,116,46,99,97,108,108,95,104,97,110,100,108,101,114]⟩ 704), (.str ⟨#[47,99,108,97,105,109,47,99,117,116,46,112,121]⟩ 705), (.int (256) 0), (.int (3) 0), (.int (0) 0), (.int (0) 0), (.int (3) 0), (.ref 379), (.bool true), (.int (181) 0), (.ref 380), .none, (.ref 381), (.ref 382), (.ref 383), (.int (710) 0), (.int (256) 0), (.str ⟨#[47,99,108,97,105,109,47,99,117,116,46,112,121]⟩ 711)], slots := #[] }
noncomputable def o385 (P : Params) : Obj := { cls := .type "function", dict := none, data := fn (sub (stm 29) 10) ⟨#[72,111,115,116,46,99,97,108,108,95,104,97,110,100,108,101,114]⟩ .none .none (.str ⟨#[108,117,97,46,116,114,101,101,104,111,115,116]⟩ 431) (.ref 384) 3 0, slots := #[] }
noncomputable def o398 (P : Params) : Obj := { cls := .type "code", dict := none, data := .fields #[(.str ⟨#[99,97,108,108]⟩ 723), (.str ⟨#[72,111,115,116,46,99,97,108,108]⟩ 724), (.str ⟨#[47,99,108,97,105,109,47,99,117,116,46,112,121]⟩ 725), (.int (263) 0), (.int (4) 0), (.int (0) 0), (.int (0) 0), (.int (3) 0), (.ref 393), (.bool true), (.int (181) 0), (.ref 394), .none, (.ref 395), (.ref 396), (.ref 397), (.int (730) 0), (.int (263) 0), (.str ⟨#[47,99,108,97,105,109,47,99,117,116,46,112,121]⟩ 731)], slots := #[] }
noncomputable def o399 (P : Params) : Obj := { cls := .type "function", dict := none, data := fn (sub (stm 29) 12) ⟨#[72,111,115,116,46,99,97,108,108]⟩ .none .none (.str ⟨#[108,117,97,46,116,114,101,101,104,111,115,116]⟩ 431) (.ref 398) 3 0, slots := #[] }
noncomputable def o405 (P : Params) : Obj := { cls := .type "code", dict := none, data := .fields #[(.str ⟨#[99,97,108,108,95,111,116,104,101,114]⟩ 733), (.str ⟨#[72,111,115,116,46,99,97,108,108,95,111,116,104,101,114]⟩ 734), (.str ⟨#[47,99,108,97,105,109,47,99,117,116,46,112,121]⟩ 735), (.int (266) 0), (.int (4) 0), (.int (0) 0), (.int (0) 0), (.int (3) 0), (.ref 400), (.bool true), (.int (181) 0), (.ref 401), .none, (.ref 402), (.ref 403), (.ref 404), (.int (741) 0), (.int (266) 0), (.str ⟨#[47,99,108,97,105,109,47,99,117,116,46,112,121]⟩ 742)], slots := #[] }
noncomputable def o406 (P : Params) : Obj := { cls := .type "function", dict := none, data := fn (sub (stm 29) 13) ⟨#[72,111,115,116,46,99,97,108,108,95,111,116,104,101,114]⟩ .none .none (.str ⟨#[108,117,97,46,116,114,101,101,104,111,115,116]⟩ 431) (.ref 405) 3 0, slots := #[] }
noncomputable def o412 (P : Params) : Obj := { cls := .type "code", dict := none, data := .fields #[(.str ⟨#[99,97,108,108,95,104,111,115,116]⟩ 744), (.str ⟨#[72,111,115,116,46,99,97,108,108,95,104,111,115,116]⟩ 745), (.str ⟨#[47,99,108,97,105,109,47,99,117,116,46,112,121]⟩ 746), (.int (274) 0), (.int (3) 0), (.int (0) 0), (.int (0) 0), (.int (3) 0), (.ref 407), (.bool true), (.int (181) 0), (.ref 408), .none, (.ref 409), (.ref 410), (.ref 411), (.int (752) 0), (.int (274) 0), (.str ⟨#[47,99,108,97,105,109,47,99,117,116,46,112,121]⟩ 753)], slots := #[] }
noncomputable def o413 (P : Params) : Obj := { cls := .type "function", dict := none, data := fn (sub (stm 29) 14) ⟨#[72,111,115,116,46,99,97,108,108,95,104,111,115,116]⟩ .none .none (.str ⟨#[108,117,97,46,116,114,101,101,104,111,115,116]⟩ 431) (.ref 412) 3 0, slots := #[] }
noncomputable def o440 (P : Params) : Obj := { cls := .type "code", dict := none, data := .fields #[(.str ⟨#[108,101,115,115]⟩ 786), (.str ⟨#[72,111,115,116,46,108,101,115,115]⟩ 787), (.str ⟨#[47,99,108,97,105,109,47,99,117,116,46,112,121]⟩ 788), (.int (300) 0), (.int (3) 0), (.int (0) 0), (.int (0) 0), (.int (3) 0), (.ref 435), (.bool true), (.int (181) 0), (.ref 436), .none, (.ref 437), (.ref 438), (.ref 439), (.int (793) 0), (.int (300) 0), (.str ⟨#[47,99,108,97,105,109,47,99,117,116,46,112,121]⟩ 794)], slots := #[] }
noncomputable def o441 (P : Params) : Obj := { cls := .type "function", dict := none, data := fn (sub (stm 29) 18) ⟨#[72,111,115,116,46,108,101,115,115]⟩ .none .none (.str ⟨#[108,117,97,46,116,114,101,101,104,111,115,116]⟩ 431) (.ref 440) 3 0, slots := #[] }
noncomputable def o450 (P : Params) : Obj := { cls := .type "dict", dict := none, data := .dict #[⟨PyData.keyHash P ⟨#[95,95,109,111,100,117,108,101,95,95]⟩, (.str ⟨#[95,95,109,111,100,117,108,101,95,95]⟩ 614), (.str ⟨#[108,117,97,46,116,114,101,101,104,111,115,116]⟩ 431)⟩, ⟨PyData.keyHash P ⟨#[95,95,102,105,114,115,116,108,105,110,101,110,111,95,95]⟩, (.str ⟨#[95,95,102,105,114,115,116,108,105,110,101,110,111,95,95]⟩ 618), (.int (202) 617)⟩, ⟨PyData.keyHash P ⟨#[95,95,105,110,105,116,95,95]⟩, (.str ⟨#[95,95,105,110,105,116,95,95]⟩ 627), (.ref 315)⟩, ⟨PyData.keyHash P ⟨#[102,114,101,115,104]⟩, (.str ⟨#[102,114,101,115,104]⟩ 634), (.ref 322)⟩, ⟨PyData.keyHash P ⟨#[116,105,99,107]⟩, (.str ⟨#[116,105,99,107]⟩ 641), (.ref 329)⟩, ⟨PyData.keyHash P ⟨#[103,111,95,100,101,101,112,101,114]⟩, (.str ⟨#[103,111,95,100,101,101,112,101,114]⟩ 649), (.ref 336)⟩, ⟨PyData.keyHash P ⟨#[119,104,101,114,101]⟩, (.str ⟨#[119,104,101,114,101]⟩ 658), (.ref 343)⟩, ⟨PyData.keyHash P ⟨#[102,97,105,108]⟩, (.str ⟨#[102,97,105,108]⟩ 666), (.ref 350)⟩, ⟨PyData.keyHash P ⟨#[99,111,109,112,108,97,105,110]⟩, (.str ⟨#[99,111,109,112,108,97,105,110]⟩ 674), (.ref 357)⟩, ⟨PyData.keyHash P ⟨#[102,97,105,108,95,116,121,112,101]⟩, (.str ⟨#[102,97,105,108,95,116,121,112,101]⟩ 685), (.ref 364)⟩, ⟨PyData.keyHash P ⟨#[99,117,116,95,102,114,97,109,101,115]⟩, (.str ⟨#[99,117,116,95,102,114,97,109,101,115]⟩ 693), (.ref 371)⟩, ⟨PyData.keyHash P ⟨#[104,97,110,100,108,101,114]⟩, (.str ⟨#[104,97,110,100,108,101,114]⟩ 702), (.ref 378)⟩, ⟨PyData.keyHash P ⟨#[99,97,108,108,95,104,97,110,100,108,101,114]⟩, (.str ⟨#[99,97,108,108,95,104,97,110,100,108,101,114]⟩ 712), (.ref 385)⟩, ⟨PyData.keyHash P ⟨#[101,105,116,104,101,114]⟩, (.str ⟨#[101,105,116,104,101,114]⟩ 722), (.ref 392)⟩, ⟨PyData.keyHash P ⟨#[99,97,108,108]⟩, (.str ⟨#[99,97,108,108]⟩ 732), (.ref 399)⟩, ⟨PyData.keyHash P ⟨#[99,97,108,108,95,111,116,104,101,114]⟩, (.str ⟨#[99,97,108,108,95,111,116,104,101,114]⟩ 743), (.ref 406)⟩, ⟨PyData.keyHash P ⟨#[99,97,108,108,95,104,111,115,116]⟩, (.str ⟨#[99,97,108,108,95,104,111,115,116]⟩ 754), (.ref 413)⟩, ⟨PyData.keyHash P ⟨#[101,113,117,97,108]⟩, (.str ⟨#[101,113,117,97,108]⟩ 763), (.ref 420)⟩, ⟨PyData.keyHash P ⟨#[99,111,109,112,97,114,101,100]⟩, (.str ⟨#[99,111,109,112,97,114,101,100]⟩ 774), (.ref 427)⟩, ⟨PyData.keyHash P ⟨#[102,97,105,108,95,111,114,100,101,114]⟩, (.str ⟨#[102,97,105,108,95,111,114,100,101,114]⟩ 785), (.ref 434)⟩, ⟨PyData.keyHash P ⟨#[108,101,115,115]⟩, (.str ⟨#[108,101,115,115]⟩ 795), (.ref 441)⟩, ⟨PyData.keyHash P ⟨#[97,116,95,109,111,115,116]⟩, (.str ⟨#[97,116,95,109,111,115,116]⟩ 804), (.ref 448)⟩, ⟨PyData.keyHash P ⟨#[95,95,115,116,97,116,105,99,95,97,116,116,114,105,98,117,116,101,115,95,95]⟩, (.str ⟨#[95,95,115,116,97,116,105,99,95,97,116,116,114,105,98,117,116,101,115,95,95]⟩ 813), (.ref 449)⟩, ⟨PyData.keyHash P ⟨#[95,95,100,105,99,116,95,95]⟩, (.str ⟨#[95,95,100,105,99,116,95,95]⟩ 815), (.ref 452)⟩, ⟨PyData.keyHash P ⟨#[95,95,119,101,97,107,114,101,102,95,95]⟩, (.str ⟨#[95,95,119,101,97,107,114,101,102,95,95]⟩ 817), (.ref 453)⟩, ⟨PyData.keyHash P ⟨#[95,95,100,111,99,95,95]⟩, (.str ⟨#[95,95,100,111,99,95,95]⟩ 818), .none⟩] 4, slots := #[] }
noncomputable def o451 (P : Params) : Obj := { cls := .type "type", dict := none, data := .cls { name := ⟨#[72,111,115,116]⟩, bases := [.type "object"], mro := [.ref 451, .type "object"], ns := 450, qualname := ⟨#[72,111,115,116]⟩, hasDict := true, slotNames := [], subclasses := [], abstract := false, collection := none, hasDel := false }, slots := #[none, none, (some (.str ⟨#[72,111,115,116]⟩ 607)), (some (.str ⟨#[72,111,115,116]⟩ 615)), (some (.builtin "object.__new__")), (some (.bool true))] }
noncomputable def o461 (P : Params) : Obj := { cls := .type "code", dict := none, data := .fields #[(.str ⟨#[97,114,103,117,109,101,110,116]⟩ 829), (.str ⟨#[97,114,103,117,109,101,110,116]⟩ 830), (.str ⟨#[47,99,108,97,105,109,47,99,117,116,46,112,121]⟩ 831), (.int (315) 0), (.int (2) 0), (.int (0) 0), (.int (0) 0), (.int (3) 0), (.ref 456), (.bool true), (.int (181) 0), (.ref 457), .none, (.ref 458), (.ref 459), (.ref 460), (.int (834) 0), (.int (315) 0), (.str ⟨#[47,99,108,97,105,109,47,99,117,116,46,112,121]⟩ 835)], slots := #[] }
noncomputable def o462 (P : Params) : Obj := { cls := .type "function", dict := none, data := fn (stm 33) ⟨#[97,114,103,117,109,101,110,116]⟩ .none .none (.str ⟨#[108,117,97,46,116,114,101,101,108,105,98]⟩ 821) (.ref 461) 3 0, slots := #[] }
noncomputable def o468 (P : Params) : Obj := { cls := .type "code", dict := none, data := .fields #[(.str ⟨#[103,105,118,101,110,95,116,121,112,101]⟩ 837), (.str ⟨#[103,105,118,101,110,95,116,121,112,101]⟩ 838), (.str ⟨#[47,99,108,97,105,109,47,99,117,116,46,112,121]⟩ 839), (.int (317) 0), (.int (2) 0), (.int (0) 0), (.int (0) 0), (.int (3) 0), (.ref 463), (.bool true), (.int (181) 0), (.ref 464), .none, (.ref 465), (.ref 466), (.ref 467), (.int (842) 0), (.int (317) 0), (.str ⟨#[47,99,108,97,105,109,47,99,117,116,46,112,121]⟩ 843)], slots := #[] }
noncomputable def o469 (P : Params) : Obj := { cls := .type "function", dict := none, data := fn (stm 34) ⟨#[103,105,118,101,110,95,116,121,112,101]⟩ .none .none (.str ⟨#[108,117,97,46,116,114,101,101,108,105,98]⟩ 821) (.ref 468) 3 0, slots := #[] }
noncomputable def o475 (P : Params) : Obj := { cls := .type "code", dict := none, data := .fields #[(.str ⟨#[114,101,102,117,115,101,95,97,114,103,117,109,101,110,116]⟩ 845), (.str ⟨#[114,101,102,117,115,101,95,97,114,103,117,109,101,110,116]⟩ 846), (.str ⟨#[47,99,108,97,105,109,47,99,117,116,46,112,121]⟩ 847), (.int (319) 0), (.int (4) 0), (.int (0) 0), (.int (0) 0), (.int (3) 0), (.ref 470), (.bool true), (.int (181) 0), (.ref 471), .none, (.ref 472), (.ref 473), (.ref 474), (.int (852) 0), (.int (319) 0), (.str ⟨#[47,99,108,97,105,109,47,99,117,116,46,112,121]⟩ 853)], slots := #[] }
noncomputable def o476 (P : Params) : Obj := { cls := .type "function", dict := none, data := fn (stm 35) ⟨#[114,101,102,117,115,101,95,97,114,103,117,109,101,110,116]⟩ .none .none (.str ⟨#[108,117,97,46,116,114,101,101,108,105,98]⟩ 821) (.ref 475) 3 0, slots := #[] }
noncomputable def o482 (P : Params) : Obj := { cls := .type "code", dict := none, data := .fields #[(.str ⟨#[110,101,101,100,95,97,110,121]⟩ 855), (.str ⟨#[110,101,101,100,95,97,110,121]⟩ 856), (.str ⟨#[47,99,108,97,105,109,47,99,117,116,46,112,121]⟩ 857), (.int (321) 0), (.int (4) 0), (.int (0) 0), (.int (0) 0), (.int (3) 0), (.ref 477), (.bool true), (.int (181) 0), (.ref 478), .none, (.ref 479), (.ref 480), (.ref 481), (.int (862) 0), (.int (321) 0), (.str ⟨#[47,99,108,97,105,109,47,99,117,116,46,112,121]⟩ 863)], slots := #[] }
noncomputable def o483 (P : Params) : Obj := { cls := .type "function", dict := none, data := fn (stm 36) ⟨#[110,101,101,100,95,97,110,121]⟩ .none .none (.str ⟨#[108,117,97,46,116,114,101,101,108,105,98]⟩ 821) (.ref 482) 3 0, slots := #[] }
noncomputable def o496 (P : Params) : Obj := { cls := .type "code", dict := none, data := .fields #[(.str ⟨#[110,117,109,98,101,114,95,111,114]⟩ 876), (.str ⟨#[110,117,109,98,101,114,95,111,114]⟩ 877), (.str ⟨#[47,99,108,97,105,109,47,99,117,116,46,112,121]⟩ 878), (.int (330) 0), (.int (5) 0), (.int (0) 0), (.int (0) 0), (.int (3) 0), (.ref 491), (.bool true), (.int (181) 0), (.ref 492), .none, (.ref 493), (.ref 494), (.ref 495), (.int (884) 0), (.int (330) 0), (.str ⟨#[47,99,108,97,105,109,47,99,117,116,46,112,121]⟩ 885)], slots := #[] }
noncomputable def o497 (P : Params) : Obj := { cls := .type "function", dict := none, data := fn (stm 38) ⟨#[110,117,109,98,101,114,95,111,114]⟩ .none .none (.str ⟨#[108,117,97,46,116,114,101,101,108,105,98]⟩ 821) (.ref 496) 3 0, slots := #[] }
noncomputable def o503 (P : Params) : Obj := { cls := .type "code", dict := none, data := .fields #[(.str ⟨#[110,101,101,100,95,116,101,120,116]⟩ 887), (.str ⟨#[110,101,101,100,95,116,101,120,116]⟩ 888), (.str ⟨#[47,99,108,97,105,109,47,99,117,116,46,112,121]⟩ 889), (.int (332) 0), (.int (4) 0), (.int (0) 0), (.int (0) 0), (.int (3) 0), (.ref 498), (.bool true), (.int (181) 0), (.ref 499), .none, (.ref 500), (.ref 501), (.ref 502), (.int (895) 0), (.int (332) 0), (.str ⟨#[47,99,108,97,105,109,47,99,117,116,46,112,121]⟩ 896)], slots := #[] }
noncomputable def o504 (P : Params) : Obj := { cls := .type "function", dict := none, data := fn (stm 39) ⟨#[110,101,101,100,95,116,101,120,116]⟩ .none .none (.str ⟨#[108,117,97,46,116,114,101,101,108,105,98]⟩ 821) (.ref 503) 3 0, slots := #[] }
noncomputable def o510 (P : Params) : Obj := { cls := .type "code", dict := none, data := .fields #[(.str ⟨#[110,101,101,100,95,116,97,98,108,101]⟩ 898), (.str ⟨#[110,101,101,100,95,116,97,98,108,101]⟩ 899), (.str ⟨#[47,99,108,97,105,109,47,99,117,116,46,112,121]⟩ 900), (.int (337) 0), (.int (4) 0), (.int (0) 0), (.int (0) 0), (.int (3) 0), (.ref 505), (.bool true), (.int (181) 0), (.ref 506), .none, (.ref 507), (.ref 508), (.ref 509), (.int (906) 0), (.int (337) 0), (.str ⟨#[47,99,108,97,105,109,47,99,117,116,46,112,121]⟩ 907)], slots := #[] }
noncomputable def o511 (P : Params) : Obj := { cls := .type "function", dict := none, data := fn (stm 40) ⟨#[110,101,101,100,95,116,97,98,108,101]⟩ .none .none (.str ⟨#[108,117,97,46,116,114,101,101,108,105,98]⟩ 821) (.ref 510) 3 0, slots := #[] }
noncomputable def o517 (P : Params) : Obj := { cls := .type "code", dict := none, data := .fields #[(.str ⟨#[98,97,115,101,95,112,114,105,110,116]⟩ 909), (.str ⟨#[98,97,115,101,95,112,114,105,110,116]⟩ 910), (.str ⟨#[47,99,108,97,105,109,47,99,117,116,46,112,121]⟩ 911), (.int (342) 0), (.int (3) 0), (.int (0) 0), (.int (0) 0), (.int (3) 0), (.ref 512), (.bool true), (.int (181) 0), (.ref 513), .none, (.ref 514), (.ref 515), (.ref 516), (.int (919) 0), (.int (342) 0), (.str ⟨#[47,99,108,97,105,109,47,99,117,116,46,112,121]⟩ 920)], slots := #[] }
noncomputable def o518 (P : Params) : Obj := { cls := .type "function", dict := none, data := fn (stm 41) ⟨#[98,97,115,101,95,112,114,105,110,116]⟩ .none .none (.str ⟨#[108,117,97,46,116,114,101,101,108,105,98]⟩ 821) (.ref 517) 3 0, slots := #[] }
noncomputable def o524 (P : Params) : Obj := { cls := .type "code", dict := none, data := .fields #[(.str ⟨#[115,104,111,119,110]⟩ 922), (.str ⟨#[115,104,111,119,110]⟩ 923), (.str ⟨#[47,99,108,97,105,109,47,99,117,116,46,112,121]⟩ 924), (.int (352) 0), (.int (1) 0), (.int (0) 0), (.int (0) 0), (.int (3) 0), (.ref 519), (.bool true), (.int (181) 0), (.ref 520), .none, (.ref 521), (.ref 522), (.ref 523), (.int (927) 0), (.int (352) 0), (.str ⟨#[47,99,108,97,105,109,47,99,117,116,46,112,121]⟩ 928)], slots := #[] }
noncomputable def o525 (P : Params) : Obj := { cls := .type "function", dict := none, data := fn (stm 42) ⟨#[115,104,111,119,110]⟩ .none .none (.str ⟨#[108,117,97,46,116,114,101,101,108,105,98]⟩ 821) (.ref 524) 3 0, slots := #[] }
noncomputable def o538 (P : Params) : Obj := { cls := .type "code", dict := none, data := .fields #[(.str ⟨#[98,97,115,101,95,116,111,115,116,114,105,110,103]⟩ 938), (.str ⟨#[98,97,115,101,95,116,111,115,116,114,105,110,103]⟩ 939), (.str ⟨#[47,99,108,97,105,109,47,99,117,116,46,112,121]⟩ 940), (.int (363) 0), (.int (2) 0), (.int (0) 0), (.int (0) 0), (.int (3) 0), (.ref 533), (.bool true), (.int (181) 0), (.ref 534), .none, (.ref 535), (.ref 536), (.ref 537), (.int (945) 0), (.int (363) 0), (.str ⟨#[47,99,108,97,105,109,47,99,117,116,46,112,121]⟩ 946)], slots := #[] }
noncomputable def o539 (P : Params) : Obj := { cls := .type "function", dict := none, data := fn (stm 44) ⟨#[98,97,115,101,95,116,111,115,116,114,105,110,103]⟩ .none .none (.str ⟨#[108,117,97,46,116,114,101,101,108,105,98]⟩ 821) (.ref 538) 3 0, slots := #[] }
noncomputable def o662 (P : Params) : Obj := { cls := .type "code", dict := none, data := .fields #[(.str ⟨#[116,97,98,108,101,95,99,111,110,99,97,116]⟩ 1110), (.str ⟨#[116,97,98,108,101,95,99,111,110,99,97,116]⟩ 1111), (.str ⟨#[47,99,108,97,105,109,47,99,117,116,46,112,121]⟩ 1112), (.int (488) 0), (.int (2) 0), (.int (0) 0), (.int (0) 0), (.int (3) 0), (.ref 657), (.bool true), (.int (181) 0), (.ref 658), .none, (.ref 659), (.ref 660), (.ref 661), (.int (1125) 0), (.int (488) 0), (.str ⟨#[47,99,108,97,105,109,47,99,117,116,46,112,121]⟩ 1126)], slots := #[] }
noncomputable def o663 (P : Params) : Obj := { cls := .type "function", dict := none, data := fn (stm 62) ⟨#[116,97,98,108,101,95,99,111,110,99,97,116]⟩ .none .none (.str ⟨#[108,117,97,46,116,114,101,101,108,105,98]⟩ 821) (.ref 662) 3 0, slots := #[] }
noncomputable def o683 (P : Params) : Obj := { cls := .type "code", dict := none, data := .fields #[(.str ⟨#[116,97,98,108,101,95,115,111,114,116]⟩ 1148), (.str ⟨#[116,97,98,108,101,95,115,111,114,116]⟩ 1149), (.str ⟨#[47,99,108,97,105,109,47,99,117,116,46,112,121]⟩ 1150), (.int (514) 0), (.int (2) 0), (.int (0) 0), (.int (0) 0), (.int (3) 0), (.ref 678), (.bool true), (.int (181) 0), (.ref 679), .none, (.ref 680), (.ref 681), (.ref 682), (.int (1158) 0), (.int (514) 0), (.str ⟨#[47,99,108,97,105,109,47,99,117,116,46,112,121]⟩ 1159)], slots := #[] }
noncomputable def o684 (P : Params) : Obj := { cls := .type "function", dict := none, data := fn (stm 65) ⟨#[116,97,98,108,101,95,115,111,114,116]⟩ .none .none (.str ⟨#[108,117,97,46,116,114,101,101,108,105,98]⟩ 821) (.ref 683) 3 0, slots := #[] }
noncomputable def o690 (P : Params) : Obj := { cls := .type "code", dict := none, data := .fields #[(.str ⟨#[99,111,109,101,115,95,102,105,114,115,116]⟩ 1161), (.str ⟨#[99,111,109,101,115,95,102,105,114,115,116]⟩ 1162), (.str ⟨#[47,99,108,97,105,109,47,99,117,116,46,112,121]⟩ 1163), (.int (526) 0), (.int (4) 0), (.int (0) 0), (.int (0) 0), (.int (3) 0), (.ref 685), (.bool true), (.int (181) 0), (.ref 686), .none, (.ref 687), (.ref 688), (.ref 689), (.int (1168) 0), (.int (526) 0), (.str ⟨#[47,99,108,97,105,109,47,99,117,116,46,112,121]⟩ 1169)], slots := #[] }
noncomputable def o691 (P : Params) : Obj := { cls := .type "function", dict := none, data := fn (stm 66) ⟨#[99,111,109,101,115,95,102,105,114,115,116]⟩ .none .none (.str ⟨#[108,117,97,46,116,114,101,101,108,105,98]⟩ 821) (.ref 690) 3 0, slots := #[] }
noncomputable def o775 (P : Params) : Obj := { cls := .type "code", dict := none, data := .fields #[(.str ⟨#[115,104,101,108,102]⟩ 1274), (.str ⟨#[115,104,101,108,102]⟩ 1275), (.str ⟨#[47,99,108,97,105,109,47,99,117,116,46,112,121]⟩ 1276), (.int (578) 0), (.int (2) 0), (.int (0) 0), (.int (0) 0), (.int (3) 0), (.ref 770), (.bool true), (.int (181) 0), (.ref 771), .none, (.ref 772), (.ref 773), (.ref 774), (.int (1282) 0), (.int (578) 0), (.str ⟨#[47,99,108,97,105,109,47,99,117,116,46,112,121]⟩ 1283)], slots := #[] }
noncomputable def o776 (P : Params) : Obj := { cls := .type "function", dict := none, data := fn (stm 79) ⟨#[115,104,101,108,102]⟩ .none .none (.str ⟨#[108,117,97,46,116,114,101,101,108,105,98]⟩ 821) (.ref 775) 3 0, slots := #[] }
noncomputable def o778 (P : Params) : Obj := { cls := .none, dict := none, data := .fields #[], slots := #[] }
noncomputable def o782 (P : Params) : Obj := { cls := .type "code", dict := none, data := .fields #[(.str ⟨#[108,105,98,114,97,114,121]⟩ 1285), (.str ⟨#[108,105,98,114,97,114,121]⟩ 1286), (.str ⟨#[47,99,108,97,105,109,47,99,117,116,46,112,121]⟩ 1287), (.int (583) 0), (.int (1) 0), (.int (0) 0), (.int (0) 0), (.int (3) 0), (.ref 777), (.bool true), (.int (181) 0), (.ref 778), .none, (.ref 779), (.ref 780), (.ref 781), (.int (1292) 0), (.int (583) 0), (.str ⟨#[47,99,108,97,105,109,47,99,117,116,46,112,121]⟩ 1293)], slots := #[] }
noncomputable def o783 (P : Params) : Obj := { cls := .type "function", dict := none, data := fn (stm 80) ⟨#[108,105,98,114,97,114,121]⟩ .none .none (.str ⟨#[108,117,97,46,116,114,101,101,108,105,98]⟩ 821) (.ref 782) 3 0, slots := #[] }
noncomputable def o789 (P : Params) : Obj := { cls := .type "code", dict := none, data := .fields #[(.str ⟨#[95,108,97,119,95,116,97,107,101]⟩ 1297), (.str ⟨#[95,108,97,119,95,116,97,107,101]⟩ 1298), (.str ⟨#[47,99,108,97,105,109,47,99,117,116,46,112,121]⟩ 1299), (.int (597) 0), (.int (2) 0), (.int (0) 0), (.int (0) 0), (.int (3) 0), (.ref 784), (.bool true), (.int (181) 0), (.ref 785), .none, (.ref 786), (.ref 787), (.ref 788), (.int (1303) 0), (.int (597) 0), (.str ⟨#[47,99,108,97,105,109,47,99,117,116,46,112,121]⟩ 1304)], slots := #[] }
noncomputable def o790 (P : Params) : Obj := { cls := .type "function", dict := none, data := fn (stm 82) ⟨#[95,108,97,119,95,116,97,107,101]⟩ .none .none (.str ⟨#[108,97,119,95,112,113,48,54,56,54,95,48,49]⟩ 1295) (.ref 789) 3 0, slots := #[] }
noncomputable def o796 (P : Params) : Obj := { cls := .type "code", dict := none, data := .fields #[(.str ⟨#[95,108,97,119,95,104,101,97,114,100]⟩ 1306), (.str ⟨#[95,108,97,119,95,104,101,97,114,100]⟩ 1307), (.str ⟨#[47,99,108,97,105,109,47,99,117,116,46,112,121]⟩ 1308), (.int (601) 0), (.int (4) 0), (.int (0) 0), (.int (0) 0), (.int (3) 0), (.ref 791), (.bool true), (.int (181) 0), (.ref 792), .none, (.ref 793), (.ref 794), (.ref 795), (.int (1316) 0), (.int (601) 0), (.str ⟨#[47,99,108,97,105,109,47,99,117,116,46,112,121]⟩ 1317)], slots := #[] }
noncomputable def o797 (P : Params) : Obj := { cls := .type "function", dict := none, data := fn (stm 83) ⟨#[95,108,97,119,95,104,101,97,114,100]⟩ .none .none (.str ⟨#[108,97,119,95,112,113,48,54,56,54,95,48,49]⟩ 1295) (.ref 796) 3 0, slots := #[] }
noncomputable def o803 (P : Params) : Obj := { cls := .type "code", dict := none, data := .fields #[(.str ⟨#[95,108,97,119,95,98,97,100]⟩ 1319), (.str ⟨#[95,108,97,119,95,98,97,100]⟩ 1320), (.str ⟨#[47,99,108,97,105,109,47,99,117,116,46,112,121]⟩ 1321), (.int (610) 0), (.int (3) 0), (.int (0) 0), (.int (0) 0), (.int (3) 0), (.ref 798), (.bool true), (.int (181) 0), (.ref 799), .none, (.ref 800), (.ref 801), (.ref 802), (.int (1325) 0), (.int (610) 0), (.str ⟨#[47,99,108,97,105,109,47,99,117,116,46,112,121]⟩ 1326)], slots := #[] }
noncomputable def o804 (P : Params) : Obj := { cls := .type "function", dict := none, data := fn (stm 84) ⟨#[95,108,97,119,95,98,97,100]⟩ .none .none (.str ⟨#[108,97,119,95,112,113,48,54,56,54,95,48,49]⟩ 1295) (.ref 803) 3 0, slots := #[] }
noncomputable def o806 (P : Params) : Obj := { cls := .none, dict := none, data := .fields #[], slots := #[] }
noncomputable def o810 (P : Params) : Obj := { cls := .type "code", dict := none, data := .fields #[(.str ⟨#[95,108,97,119,95,115,104,111,119,110,95,114,105,103,104,116]⟩ 1328), (.str ⟨#[95,108,97,119,95,115,104,111,119,110,95,114,105,103,104,116]⟩ 1329), (.str ⟨#[47,99,108,97,105,109,47,99,117,116,46,112,121]⟩ 1330), (.int (612) 0), (.int (3) 0), (.int (0) 0), (.int (0) 0), (.int (3) 0), (.ref 805), (.bool true), (.int (181) 0), (.ref 806), .none, (.ref 807), (.ref 808), (.ref 809), (.int (1341) 0), (.int (612) 0), (.str ⟨#[47,99,108,97,105,109,47,99,117,116,46,112,121]⟩ 1342)], slots := #[] }
noncomputable def o811 (P : Params) : Obj := { cls := .type "function", dict := none, data := fn (stm 85) ⟨#[95,108,97,119,95,115,104,111,119,110,95,114,105,103,104,116]⟩ .none .none (.str ⟨#[108,97,119,95,112,113,48,54,56,54,95,48,49]⟩ 1295) (.ref 810) 3 0, slots := #[] }
noncomputable def o813 (P : Params) : Obj := { cls := .none, dict := none, data := .fields #[], slots := #[] }
noncomputable def o815 (P : Params) : Obj := { cls := .type "code", dict := none, data := .fields #[(.str ⟨#[95,108,97,119,95,115,111,114,116,95,114,105,103,104,116]⟩ 1344), (.str ⟨#[95,108,97,119,95,115,111,114,116,95,114,105,103,104,116]⟩ 1345), (.str ⟨#[47,99,108,97,105,109,47,99,117,116,46,112,121]⟩ 1346), (.int (627) 0), (.int (3) 0), (.int (0) 0), (.int (0) 0), (.int (3) 0), (.ref 812), (.bool true), (.int (181) 0), (.ref 813), .none, .none, .none, (.ref 814), (.int (1347) 0), (.int (627) 0), (.str ⟨#[47,99,108,97,105,109,47,99,117,116,46,112,121]⟩ 1348)], slots := #[] }
noncomputable def o816 (P : Params) : Obj := { cls := .type "function", dict := none, data := fn (stm 86) ⟨#[95,108,97,119,95,115,111,114,116,95,114,105,103,104,116]⟩ .none .none (.str ⟨#[108,97,119,95,112,113,48,54,56,54,95,48,49]⟩ 1295) (.ref 815) 3 0, slots := #[] }
noncomputable def o822 (P : Params) : Obj := { cls := .type "code", dict := none, data := .fields #[(.str ⟨#[95,108,97,119,95,106,111,105,110,101,100,95,114,105,103,104,116]⟩ 1350), (.str ⟨#[95,108,97,119,95,106,111,105,110,101,100,95,114,105,103,104,116]⟩ 1351), (.str ⟨#[47,99,108,97,105,109,47,99,117,116,46,112,121]⟩ 1352), (.int (643) 0), (.int (3) 0), (.int (0) 0), (.int (0) 0), (.int (3) 0), (.ref 817), (.bool true), (.int (181) 0), (.ref 818), .none, (.ref 819), (.ref 820), (.ref 821), (.int (1364) 0), (.int (643) 0), (.str ⟨#[47,99,108,97,105,109,47,99,117,116,46,112,121]⟩ 1365)], slots := #[] }
noncomputable def o823 (P : Params) : Obj := { cls := .type "function", dict := none, data := fn (stm 87) ⟨#[95,108,97,119,95,106,111,105,110,101,100,95,114,105,103,104,116]⟩ .none .none (.str ⟨#[108,97,119,95,112,113,48,54,56,54,95,48,49]⟩ 1295) (.ref 822) 3 0, slots := #[] }
noncomputable def o829 (P : Params) : Obj := { cls := .type "code", dict := none, data := .fields #[(.str ⟨#[108,97,119]⟩ 1367), (.str ⟨#[108,97,119]⟩ 1368), (.str ⟨#[47,99,108,97,105,109,47,99,117,116,46,112,121]⟩ 1369), (.int (656) 0), (.int (1) 0), (.int (0) 0), (.int (0) 0), (.int (3) 0), (.ref 824), (.bool true), (.int (181) 0), (.ref 825), .none, (.ref 826), (.ref 827), (.ref 828), (.int (1375) 0), (.int (656) 0), (.str ⟨#[47,99,108,97,105,109,47,99,117,116,46,112,121]⟩ 1376)], slots := #[] }
noncomputable def o830 (P : Params) : Obj := { cls := .type "function", dict := none, data := fn (stm 88) ⟨#[108,97,119]⟩ .none .none (.str ⟨#[108,97,119,95,112,113,48,54,56,54,95,48,49]⟩ 1295) (.ref 829) 3 0, slots := #[] }
noncomputable def asK : List Nat := [0,2,3,4,29,35,36,52,53,70,71,73,74,83,84,90,91,153,154,160,161,167,168,181,182,195,196,202,203,209,210,216,217,223,224,233,234,251,252,254,255,265,266,272,273,279,280,293,294,296,297,314,315,328,329,335,336,342,343,356,357,370,371,377,378,384,385,398,399,405,406,412,413,440,441,450,451,461,462,468,469,475,476,482,483,496,497,503,504,510,511,517,518,524,525,538,539,662,663,683,684,690,691,775,776,778,782,783,789,790,796,797,803,804,806,810,811,813,815,816,822,823,829,830]
noncomputable def hK (P : Params) : Frag := [(0, o0 P), (2, o2 P), (3, o3 P), (4, o4 P), (29, o29 P), (35, o35 P), (36, o36 P), (52, o52 P), (53, o53 P), (70, o70 P), (71, o71 P), (73, o73 P), (74, o74 P), (83, o83 P), (84, o84 P), (90, o90 P), (91, o91 P), (153, o153 P), (154, o154 P), (160, o160 P), (161, o161 P), (167, o167 P), (168, o168 P), (181, o181 P), (182, o182 P), (195, o195 P), (196, o196 P), (202, o202 P), (203, o203 P), (209, o209 P), (210, o210 P), (216, o216 P), (217, o217 P), (223, o223 P), (224, o224 P), (233, o233 P), (234, o234 P), (251, o251 P), (252, o252 P), (254, o254 P), (255, o255 P), (265, o265 P), (266, o266 P), (272, o272 P), (273, o273 P), (279, o279 P), (280, o280 P), (293, o293 P), (294, o294 P), (296, o296 P), (297, o297 P), (314, o314 P), (315, o315 P), (328, o328 P), (329, o329 P), (335, o335 P), (336, o336 P), (342, o342 P), (343, o343 P), (356, o356 P), (357, o357 P), (370, o370 P), (371, o371 P), (377, o377 P), (378, o378 P), (384, o384 P), (385, o385 P), (398, o398 P), (399, o399 P), (405, o405 P), (406, o406 P), (412, o412 P), (413, o413 P), (440, o440 P), (441, o441 P), (450, o450 P), (451, o451 P), (461, o461 P), (462, o462 P), (468, o468 P), (469, o469 P), (475, o475 P), (476, o476 P), (482, o482 P), (483, o483 P), (496, o496 P), (497, o497 P), (503, o503 P), (504, o504 P), (510, o510 P), (511, o511 P), (517, o517 P), (518, o518 P), (524, o524 P), (525, o525 P), (538, o538 P), (539, o539 P), (662, o662 P), (663, o663 P), (683, o683 P), (684, o684 P), (690, o690 P), (691, o691 P), (775, o775 P), (776, o776 P), (778, o778 P), (782, o782 P), (783, o783 P), (789, o789 P), (790, o790 P), (796, o796 P), (797, o797 P), (803, o803 P), (804, o804 P), (806, o806 P), (810, o810 P), (811, o811 P), (813, o813 P), (815, o815 P), (816, o816 P), (822, o822 P), (823, o823 P), (829, o829 P), (830, o830 P)]
noncomputable def looseK : List Str := [⟨#[95,119,97,108,108]⟩, ⟨#[66,76,65,78,75,83]⟩, ⟨#[76,105,109,105,116,115]⟩, ⟨#[76,117,97,69,114,114,111,114]⟩, ⟨#[105,115,95,110,117,109,98,101,114]⟩, ⟨#[105,115,95,102,97,108,115,101]⟩, ⟨#[119,114,97,112]⟩, ⟨#[105,115,95,98,108,97,110,107]⟩, ⟨#[100,105,103,105,116,95,111,102]⟩, ⟨#[114,101,97,100,95,100,105,103,105,116,115]⟩, ⟨#[115,107,105,112,95,98,108,97,110,107,115]⟩, ⟨#[115,116,114,95,116,111,95,110,117,109,98,101,114]⟩, ⟨#[116,101,120,116,95,105,110,95,98,97,115,101]⟩, ⟨#[116,111,95,110,117,109,98,101,114]⟩, ⟨#[110,117,109,98,101,114,95,116,101,120,116]⟩, ⟨#[116,111,95,116,101,120,116]⟩, ⟨#[99,95,116,101,120,116]⟩, ⟨#[102,105,114,115,116,95,108,105,110,101]⟩, ⟨#[99,104,117,110,107,95,105,100]⟩, ⟨#[77,79,83,84,95,68,69,69,80]⟩, ⟨#[72,79,83,84,95,67,65,76,76]⟩, ⟨#[84,114,101,101,84,97,98,108,101]⟩, ⟨#[66,117,105,108,116,105,110]⟩, ⟨#[116,114,101,101,95,116,121,112,101]⟩, ⟨#[115,97,109,101]⟩, ⟨#[105,115,95,102,117,110,99,116,105,111,110]⟩, ⟨#[70,114,97,109,101]⟩, ⟨#[72,111,115,116]⟩, ⟨#[78,69,88,84]⟩, ⟨#[78,69,88,84,95,87,72,79,76,69]⟩, ⟨#[97,114,103,117,109,101,110,116]⟩, ⟨#[103,105,118,101,110,95,116,121,112,101]⟩, ⟨#[114,101,102,117,115,101,95,97,114,103,117,109,101,110,116]⟩, ⟨#[110,101,101,100,95,97,110,121]⟩, ⟨#[110,101,101,100,95,110,117,109,98,101,114]⟩, ⟨#[110,117,109,98,101,114,95,111,114]⟩, ⟨#[110,101,101,100,95,116,101,120,116]⟩, ⟨#[110,101,101,100,95,116,97,98,108,101]⟩, ⟨#[98,97,115,101,95,112,114,105,110,116]⟩, ⟨#[115,104,111,119,110]⟩, ⟨#[98,97,115,101,95,116,121,112,101]⟩, ⟨#[98,97,115,101,95,116,111,115,116,114,105,110,103]⟩, ⟨#[98,97,115,101,95,116,111,110,117,109,98,101,114]⟩, ⟨#[98,97,115,101,95,110,101,120,116]⟩, ⟨#[98,97,115,101,95,112,97,105,114,115]⟩, ⟨#[110,101,120,116,95,119,104,111,108,101]⟩, ⟨#[98,97,115,101,95,105,112,97,105,114,115]⟩, ⟨#[98,97,115,101,95,114,97,119,103,101,116]⟩, ⟨#[98,97,115,101,95,114,97,119,115,101,116]⟩, ⟨#[98,97,115,101,95,114,97,119,101,113,117,97,108]⟩, ⟨#[98,97,115,101,95,115,101,108,101,99,116]⟩, ⟨#[98,97,115,101,95,117,110,112,97,99,107]⟩, ⟨#[98,97,115,101,95,97,115,115,101,114,116]⟩, ⟨#[98,97,115,101,95,101,114,114,111,114]⟩, ⟨#[98,97,115,101,95,112,99,97,108,108]⟩, ⟨#[98,97,115,101,95,115,101,116,109,101,116,97,116,97,98,108,101]⟩, ⟨#[98,97,115,101,95,103,101,116,109,101,116,97,116,97,98,108,101]⟩, ⟨#[116,97,98,108,101,95,105,110,115,101,114,116]⟩, ⟨#[116,97,98,108,101,95,114,101,109,111,118,101]⟩, ⟨#[116,97,98,108,101,95,99,111,110,99,97,116]⟩, ⟨#[116,97,98,108,101,95,103,101,116,110]⟩, ⟨#[116,97,98,108,101,95,109,97,120,110]⟩, ⟨#[116,97,98,108,101,95,115,111,114,116]⟩, ⟨#[99,111,109,101,115,95,102,105,114,115,116]⟩, ⟨#[116,101,120,116,95,108,101,110]⟩, ⟨#[112,108,97,99,101,95,105,110]⟩, ⟨#[116,101,120,116,95,115,117,98]⟩, ⟨#[116,101,120,116,95,114,101,112]⟩, ⟨#[116,101,120,116,95,114,101,118,101,114,115,101]⟩, ⟨#[116,101,120,116,95,108,111,119,101,114]⟩, ⟨#[116,101,120,116,95,117,112,112,101,114]⟩, ⟨#[116,101,120,116,95,98,121,116,101]⟩, ⟨#[116,101,120,116,95,99,104,97,114]⟩, ⟨#[109,97,116,104,95,97,98,115]⟩, ⟨#[109,97,116,104,95,109,97,120]⟩, ⟨#[109,97,116,104,95,109,105,110]⟩, ⟨#[115,104,101,108,102]⟩, ⟨#[108,105,98,114,97,114,121]⟩, ⟨#[95,108,97,119,95,116,97,107,101]⟩, ⟨#[95,108,97,119,95,104,101,97,114,100]⟩, ⟨#[95,108,97,119,95,98,97,100]⟩, ⟨#[95,108,97,119,95,115,104,111,119,110,95,114,105,103,104,116]⟩, ⟨#[95,108,97,119,95,115,111,114,116,95,114,105,103,104,116]⟩, ⟨#[95,108,97,119,95,106,111,105,110,101,100,95,114,105,103,104,116]⟩]
end Mine
end

section
open PySem PySem.W PySem.W.X PyProof.Rows
set_option maxRecDepth 1000000
set_option maxHeartbeats 0
namespace Mine
noncomputable def T0 (P : Params) : BT := (((((((((((BT.nil.ins 0 (boot_o_0 P)).ins 1 (boot_o_1 P)).ins 2 (boot_o_2 P)).ins 3 (boot_o_3 P)).ins 4 (boot_o_4 P)).ins 5 (boot_o_5 P)).ins 6 (boot_o_6 P)).ins 7 (boot_o_7 P)).ins 8 (boot_o_8 P)).ins 9 (boot_o_9 P)).ins 10 (boot_o_10 P))
theorem boot_is (P : Params) : boot_heap P = absHeap (T0 P) 11 {} := by kernel_rfl
end Mine
end

section
open PySem PySem.W PySem.W.X PyProof.Rows
set_option maxRecDepth 1000000
set_option maxHeartbeats 0
namespace Mine
noncomputable def topSee (p q : Program) (loose mods : List Str) (m₀ : Nat) (ann : Option Value) (M : Nat) (st : SharedT) (bh : Heap) (as : List Addr) (w : World) :=
  (topT treeTable p w m₀ ann M st (topStub p)).map
        (fun s => (staticsOk mods bh s.abs.heap && namesBound p s.abs.heap && gensDone s.abs && laidKept bh s.abs.heap,
          openSeen q loose mods (fun _ => true) true s.abs, (as.all fun a => Nat.blt a s.n), seeT s.tree as, s.n, s.toks))
theorem topSee_rfl : @topSee = @topSee := rfl
end Mine
lay_quick Mine.topSee
name_quick topSeeQ for Mine.topSee by Mine.topSee_rfl
end

section
open PySem PySem.W PySem.W.X PyProof.Rows
set_option maxRecDepth 1000000
set_option maxHeartbeats 0
namespace Mine
theorem opens : opening pw = plainProg pw.main.scope.names := by kernel_rfl
theorem open1 : ∀ w : World, (fencedOpening treeTable pw w 6000).map (fun s => (s.heap, s.gens, s.drawn, s.toks)) = some (boot_heap w.params, Array.mk [], boot_drawn, boot_toks) :=
  boot_open opens (by kernel_rfl) (fun s => by kernel_rfl)
theorem size1 : ∀ w : World, ((boot_heap w.params).isNs mainGlobals, (boot_heap w.params).objs.size, (boot_heap w.params).nsMap mainGlobals "__annotations__") = (true, 11, some (.ref 6)) := fun w => by kernel_rfl
noncomputable abbrev qw : Program := { pw with main := { pw.main with body := pw.main.body.drop 88 } }
theorem run1 : ∀ (w : World) (os : OsState), topSee pw qw looseK (importedModules pw.main.body) 11 (some (.ref 6)) 5000 ⟨T0 w.params, 11, {}, Array.mk [], boot_drawn, boot_toks, os⟩ (boot_heap w.params) asK w =
   some (true, openGood qw looseK, true, (hK w.params).map fun x => some x.2,831,1378) := fun w os => by
  rw [PySem.W.Fast.topSeeQ_eq]
  kernel_rfl
end Mine
end

section
open PySem PySem.W PySem.W.X PyProof.Rows
set_option maxRecDepth 1000000
set_option maxHeartbeats 0
namespace Mine
theorem left1 : LeftO pw qw looseK (fun _ => true) (obsZ asK) (valZ hK 831 1378) 6000 :=
  leftO_of open1 boot_is size1 (fun w os => run1 w os) (by kernel_rfl)
theorem ws_rfl : @OpenLaw.wellSaid = @OpenLaw.wellSaid := rfl
end Mine
name_quick wellQ for PySem.W.OpenLaw.wellSaid by Mine.ws_rfl
namespace Mine
theorem well1 : PySem.Challenge.rw_pq0686_01.wellSaid = true := by
  rw [PySem.W.Fast.wellQ_eq]
  kernel_rfl
end Mine
end

section
open PySem PySem.W PySem.W.X PyProof.Rows
set_option maxRecDepth 1000000
set_option maxHeartbeats 0
namespace Mine
noncomputable def dLaw : DefRec := match stm 88 with
  | .FunctionDef name args body _ _ _ scope _ _ pos => { name := name, params := args, body := body, scope := scope, pos := pos }
  | _ => { name := "law", params := { posonlyargs := [], args := [], vararg := none, kwonlyargs := [], kw_defaults := [], kwarg := none, defaults := [] }, body := [], scope := { kind := .function, names := [], isGenerator := false, isCoroutine := false, more := [] }, pos := ⟨0,0,0,0⟩ }
abbrev rL : OpenRow := PySem.Challenge.rw_pq0686_01.row
theorem hdef1 : defOf qw rL.name = some (dLaw, []) := by kernel_rfl
theorem hp1 : rL.prog.theDef rL.name = some (dLaw.params, dLaw.body, dLaw.scope) := by kernel_rfl
theorem hk1 : kwWritten? dLaw.params.kwonlyargs dLaw.params.kw_defaults = some [] := by kernel_rfl
theorem ok1 : (chainsOk qw && opensWell rL.prog && (frees rL.toRowW && rL.toRowW.within.isEmpty)) = true := by kernel_rfl
theorem bare1 : rL.prog.bare := ⟨rfl, rfl, rfl, rfl, rfl, by decide +kernel⟩
theorem prom1 : rL.toRowW.promised := ⟨[.list []], by kernel_rfl, by kernel_rfl⟩
theorem head (call : WalkX qw looseK (fun _ _ => True) (obsZ asK) (valZ hK 831 1378) rL.toRowW dLaw [] fun f vs => PySem.call f vs) : PySem.Challenge.rw_pq0686_01.Holds :=
  holds_law well1 fun k1 => holds_openX (r := rL) (q := qw) (loose := looseK) (Xt := fun _ => true) (XP := fun _ _ => True) (Yf := obsZ asK) (Ya := valZ hK 831 1378) (N := 6000) left1
    (fun _ _ => trivial) (fun _ _ _ _ _ => trivial) hdef1 hp1 hk1 (fun _ _ => recFacts_of rfl) (by kernel_rfl) k1 ok1 bare1 prom1 call
end Mine
end

section
open PySem PySem.W PySem.W.X PyProof.Rows
set_option maxRecDepth 1000000
set_option maxHeartbeats 0
namespace Mine
/-- the known objects behind the top (without the tables that the call makes longer) -/
noncomputable def kt0 (P : Params) : KT := (.node (some (o0 P)) (.node none (.node (some (o3 P)) (.node none (.node none (.node none (.node none (.node none (.node (some (o255 P)) (.node (some (o511 P)) .nil .nil) .nil) .nil) .nil) (.node none .nil (.node (some (o223 P)) .nil .nil))) (.node none (.node none (.node none (.node none .nil (.node (some (o783 P)) .nil .nil)) (.node (some (o399 P)) .nil .nil)) (.node none (.node (some (o335 P)) .nil .nil) .nil)) (.node none (.node none (.node none .nil (.node (some (o815 P)) .nil .nil)) .nil) .nil))) (.node none (.node none (.node (some (o71 P)) (.node none (.node none .nil (.node (some (o775 P)) .nil .nil)) .nil) .nil) (.node none (.node (some (o167 P)) .nil .nil) .nil)) (.node none (.node none (.node none (.node (some (o279 P)) .nil .nil) (.node none (.node (some (o663 P)) .nil .nil) .nil)) (.node none (.node (some (o343 P)) .nil .nil) .nil)) (.node none (.node none (.node none .nil (.node (some (o823 P)) .nil .nil)) .nil) (.node none .nil (.node (some (o503 P)) .nil .nil)))))) (.node none (.node none (.node (some (o35 P)) (.node none .nil (.node (some (o195 P)) .nil (.node (some (o451 P)) .nil .nil))) (.node none (.node none (.node none .nil (.node (some (o803 P)) .nil .nil)) .nil) (.node none .nil (.node (some (o483 P)) .nil .nil)))) (.node none (.node (some (o83 P)) .nil .nil) (.node none (.node none .nil (.node none (.node (some (o691 P)) .nil .nil) .nil)) (.node none (.node (some (o371 P)) .nil .nil) .nil)))) (.node none (.node none (.node none .nil (.node (some (o203 P)) .nil .nil)) (.node none (.node none (.node none .nil (.node (some (o811 P)) .nil .nil)) (.node none (.node (some (o683 P)) .nil .nil) .nil)) .nil)) (.node none (.node (some (o91 P)) (.node none (.node none (.node (some (o539 P)) .nil .nil) .nil) .nil) (.node none .nil (.node (some (o475 P)) .nil .nil))) (.node none (.node none (.node (some (o315 P)) .nil .nil) .nil) (.node (some (o251 P)) .nil .nil)))))) (.node none (.node none (.node none (.node none (.node none (.node none .nil (.node (some (o385 P)) .nil .nil)) .nil) (.node none (.node (some (o161 P)) .nil .nil) .nil)) (.node none (.node none (.node none (.node (some (o273 P)) .nil .nil) .nil) (.node (some (o209 P)) .nil .nil)) (.node none .nil (.node none .nil (.node (some (o497 P)) .nil .nil))))) (.node none (.node none (.node (some (o73 P)) (.node none (.node (some (o265 P)) .nil .nil) .nil) (.node none (.node (some (o329 P)) .nil .nil) .nil)) (.node none (.node none (.node (some (o297 P)) .nil .nil) .nil) (.node (some (o233 P)) .nil .nil))) (.node none (.node none (.node (some (o153 P)) .nil .nil) (.node (some (o217 P)) .nil .nil)) (.node none (.node none .nil (.node (some (o441 P)) .nil .nil)) (.node none (.node (some (o377 P)) .nil .nil) .nil))))) (.node none (.node none (.node none (.node none (.node none (.node none (.node (some (o517 P)) .nil .nil) .nil) .nil) .nil) (.node none (.node none (.node (some (o293 P)) .nil .nil) .nil) (.node none (.node (some (o357 P)) .nil .nil) .nil))) (.node (some (o53 P)) (.node none (.node none (.node none .nil (.node (some (o789 P)) .nil .nil)) (.node (some (o405 P)) .nil .nil)) (.node none .nil (.node (some (o469 P)) .nil .nil))) (.node none (.node (some (o181 P)) .nil .nil) .nil))) (.node (some (o29 P)) (.node none (.node none (.node none (.node none (.node (some (o525 P)) .nil .nil) .nil) .nil) (.node none .nil (.node (some (o461 P)) .nil .nil))) .nil) (.node none (.node none (.node none (.node none .nil (.node (some (o797 P)) .nil .nil)) (.node (some (o413 P)) .nil .nil)) .nil) (.node none (.node none (.node none .nil (.node (some (o829 P)) .nil .nil)) .nil) .nil)))))) (.node (some (o2 P)) (.node (some (o4 P)) (.node none (.node none (.node none (.node none (.node none .nil (.node (some (o384 P)) .nil .nil)) .nil) (.node none (.node (some (o160 P)) .nil .nil) (.node (some (o224 P)) .nil .nil))) (.node none (.node none (.node none (.node (some (o272 P)) .nil .nil) .nil) (.node none (.node (some (o336 P)) .nil .nil) .nil)) (.node none (.node none (.node none .nil (.node (some (o816 P)) .nil .nil)) .nil) (.node none .nil (.node (some (o496 P)) .nil .nil))))) (.node none (.node none (.node none (.node none (.node none .nil (.node (some (o776 P)) .nil .nil)) .nil) (.node none (.node (some (o328 P)) .nil .nil) .nil)) (.node none (.node (some (o168 P)) (.node (some (o296 P)) .nil .nil) .nil) .nil)) (.node none (.node none (.node none (.node (some (o280 P)) .nil .nil) .nil) (.node (some (o216 P)) .nil .nil)) (.node none (.node none .nil (.node (some (o440 P)) .nil .nil)) (.node none .nil (.node (some (o504 P)) .nil .nil)))))) (.node none (.node none (.node (some (o36 P)) (.node none .nil (.node (some (o196 P)) .nil .nil)) (.node none (.node none (.node none .nil (.node (some (o804 P)) .nil .nil)) .nil) (.node none (.node (some (o356 P)) .nil .nil) .nil))) (.node (some (o52 P)) (.node (some (o84 P)) .nil (.node none .nil (.node (some (o468 P)) .nil .nil))) .nil)) (.node none (.node none (.node none (.node none (.node none (.node (some (o524 P)) .nil .nil) .nil) .nil) .nil) (.node none (.node none .nil (.node none (.node (some (o684 P)) .nil .nil) .nil)) .nil)) (.node none (.node none (.node none (.node none .nil (.node (some (o796 P)) .nil .nil)) (.node (some (o412 P)) .nil .nil)) (.node none .nil (.node (some (o476 P)) .nil .nil))) (.node none .nil (.node (some (o252 P)) .nil .nil)))))) (.node none (.node none (.node none (.node none (.node none .nil (.node none .nil (.node (some (o450 P)) .nil .nil))) (.node none .nil (.node none .nil (.node (some (o482 P)) .nil .nil)))) (.node none (.node none .nil (.node (some (o210 P)) .nil .nil)) (.node none (.node none .nil (.node none (.node (some (o690 P)) .nil .nil) .nil)) (.node none (.node (some (o370 P)) .nil .nil) .nil)))) (.node none (.node none (.node (some (o74 P)) (.node none (.node (some (o266 P)) .nil .nil) .nil) (.node (some (o202 P)) .nil .nil)) (.node none (.node none (.node none .nil (.node (some (o810 P)) .nil .nil)) .nil) (.node (some (o234 P)) .nil .nil))) (.node none (.node (some (o90 P)) (.node (some (o154 P)) (.node none (.node (some (o538 P)) .nil .nil) .nil) .nil) .nil) (.node none (.node none (.node (some (o314 P)) .nil .nil) .nil) (.node none (.node (some (o378 P)) .nil .nil) .nil))))) (.node none (.node none (.node none (.node (some (o70 P)) (.node none (.node none (.node (some (o518 P)) .nil .nil) .nil) .nil) .nil) (.node none (.node none (.node (some (o294 P)) .nil .nil) .nil) .nil)) (.node none (.node none (.node none (.node none .nil (.node (some (o790 P)) .nil .nil)) (.node (some (o406 P)) (.node (some (o662 P)) .nil .nil) .nil)) (.node none (.node (some (o342 P)) .nil .nil) .nil)) (.node none (.node (some (o182 P)) (.node none .nil (.node (some (o822 P)) .nil .nil)) .nil) .nil))) (.node none (.node none (.node none (.node none (.node none .nil (.node (some (o782 P)) .nil .nil)) (.node (some (o398 P)) .nil .nil)) (.node none .nil (.node (some (o462 P)) .nil .nil))) .nil) (.node none .nil (.node none (.node none (.node none .nil (.node (some (o830 P)) .nil .nil)) .nil) (.node (some (o254 P)) .nil (.node (some (o510 P)) .nil .nil)))))))))
noncomputable def VV (w : World) : Vn := ⟨rL.prog, w, kt0 w.params, 832⟩
noncomputable def h2 (P : Params) : Heap := ⟨#[o2 P, o2 P, o2 P], {}⟩
theorem ns2g (P : Params) : (h2 P).get? cStatics = some (o2 P) := rfl
theorem ns2 (P : Params) : (h2 P).noLimitOk = true := by
  unfold Heap.noLimitOk Heap.isNs Heap.nsMap
  rw [ns2g]
  kernel_rfl
theorem kt2 (P : Params) : (kt0 P).get cStatics = some (o2 P) := by kernel_rfl
theorem vok (w : World) : VOk (VV w) := ⟨fun h H => Heap.NoLimit.at (Heap.NoLimit.of_ok (ns2 w.params)) fun o e => by
  rw [ns2g] at e
  cases e
  exact kt_get (V := VV w) H (kt2 w.params)⟩
end Mine
end

section
open PySem PySem.W PySem.W.X PySem.W.ZRun PyProof.Rows
set_option maxRecDepth 1000000
set_option maxHeartbeats 0
namespace Mine
abbrev oTab (vs : Array Value) : Obj := { cls := .none, data := .fields vs }
/-- the law's contract: it gives True; of the old it changes the tables of three code objects alone -/
noncomputable def S_law (its : Array Value) (nd : List Bool) (u : Bool) : Spec := { code := .call (.ref 830) ⟨[.ref 831], []⟩, dep := 320, need := nd, bel := some ([], u), pre := [(831, { cls := .type "list", data := .seq its }), (778, oTab #[]), (806, oTab #[]), (813, oTab #[])], touch := [1,2,3], na := 0, nt := 3, res := fun _ _ => .ok (.ret (.bool true)), postT := fun _ ts => [some (oTab #[.int 585 0, .int 4 0, .ref (nth ts 0)]), some (oTab #[.int 615 0, .int 50 0, .ref (nth ts 1)]), some (oTab #[.int 631 0, .int 37 0, .ref (nth ts 2)])], postN := fun _ _ => [] }
theorem law_keeps {its : Array Value} {nd : List Bool} {u : Bool} {as ts : List Nat} {h h' : Heap} (E : (S_law its nd u).Ends as ts h h') (t1 : isCodeTable h 778) (t2 : isCodeTable h 806) (t3 : isCodeTable h 813) (o1 : h.get? 778 = some (oTab #[])) (o2 : h.get? 806 = some (oTab #[])) (o3 : h.get? 813 = some (oTab #[])) : OldK h h' := by
  have p1 := E.postT 0 (by show 0 < 3; decide) _ rfl
  have p2 := E.postT 1 (by show 1 < 3; decide) _ rfl
  have p3 := E.postT 2 (by show 2 < 3; decide) _ rfl
  have q1 : h'.get? 778 = some (oTab #[.int 585 0, .int 4 0, .ref (nth ts 0)]) := p1
  have q2 : h'.get? 806 = some (oTab #[.int 615 0, .int 50 0, .ref (nth ts 1)]) := p2
  have q3 : h'.get? 813 = some (oTab #[.int 631 0, .int 37 0, .ref (nth ts 2)]) := p3
  have keep : ∀ b o, h.get? b = some o → b ≠ 778 → b ≠ 806 → b ≠ 813 → h'.get? b = some o := fun b o e n1 n2 n3 => E.keep b o e (by
    show b ∉ [778,806,813]
    simp [n1, n2, n3])
  refine ⟨fun b o e => ?_, fun b o e => ?_⟩
  · by_cases n1 : b = 778
    · subst n1; rw [o1] at e; cases e
      exact .inr (.inl ⟨t1, rfl, #[], _, rfl, by rw [q1, Array.empty_append]⟩)
    by_cases n2 : b = 806
    · subst n2; rw [o2] at e; cases e
      exact .inr (.inl ⟨t2, rfl, #[], _, rfl, by rw [q2, Array.empty_append]⟩)
    by_cases n3 : b = 813
    · subst n3; rw [o3] at e; cases e
      exact .inr (.inl ⟨t3, rfl, #[], _, rfl, by rw [q3, Array.empty_append]⟩)
    exact .inl (keep b o e n1 n2 n3)
  · by_cases n1 : b = 778
    · subst n1; exact ⟨_, q1⟩
    by_cases n2 : b = 806
    · subst n2; exact ⟨_, q2⟩
    by_cases n3 : b = 813
    · subst n3; exact ⟨_, q3⟩
    exact ⟨_, keep b o e n1 n2 n3⟩
/-- the script's items are ints, few -/
def scriptOk (its : Array Value) : Bool := Nat.blt its.size 1000 && its.toList.all fun v => match v with | .int _ _ => true | _ => false
theorem in_of {h : Heap} {K : Frag} {a : Addr} {o : Obj} (A : AllIn h K) (m : (a, o) ∈ K) : h.get? a = some o := by
  induction K with
  | nil => cases m
  | cons p K ih => cases m with
    | head => exact A.1
    | tail _ m => exact ih A.2 m
def noTab (p : Addr × Obj) : Bool := !(Nat.beq p.1 778 || Nat.beq p.1 806 || Nat.beq p.1 813)
noncomputable abbrev hK0 (P : Params) : Frag := List.filter noTab (hK P)
theorem kt0_is (P : Params) : kt0 P = KT.of (hK0 P) := by kernel_rfl
theorem allIn_filter {h : Heap} {f : Addr × Obj → Bool} {K : Frag} (A : AllIn h K) : AllIn h (K.filter f) := by
  induction K with
  | nil => exact trivial
  | cons p K ih =>
    rw [List.filter_cons]
    by_cases hp : f p = true
    · rw [if_pos hp]; exact ⟨A.1, ih A.2⟩
    · rw [if_neg hp]; exact ih A.2
theorem hK0_in {h : Heap} {P : Params} (A : AllIn h (hK P)) : AllIn h (hK0 P) := @allIn_filter h noTab (hK P) A
theorem holds_eq {h : Heap} {t t' : KT} (e : t = t') (H : KT.Holds h 1 0 t') : KT.Holds h 1 0 t := by rw [e]; exact H
theorem holds_fr {h : Heap} {t : KT} {K : Frag} (e : t = KT.of K) (A : AllIn h K) : KT.Holds h 1 0 t := holds_eq e (holds_of A)
theorem kt0_holds {h : Heap} {P : Params} (A : AllIn h (hK P)) : KT.Holds h 1 0 (kt0 P) := @holds_fr h (kt0 P) (hK0 P) (kt0_is P) (@allIn_filter h noTab (hK P) A)
theorem ints_len : ∀ {vs : List Value} {ns : List Int}, IntsAre vs ns → vs.length = ns.length ∧ (vs.all fun v => match v with | .int _ _ => true | _ => false) = true
  | _, _, .nil => ⟨rfl, rfl⟩
  | _, _, .cons n t h => by
    have := ints_len h
    exact ⟨by rw [List.length_cons, List.length_cons, this.1], by rw [List.all_cons, this.2]; rfl⟩
theorem ints_ok {vs : List Value} {ns : List Int} (h : IntsAre vs ns) (l : ns.length ≤ 63) : scriptOk vs.toArray = true := by
  have := ints_len h
  unfold scriptOk
  rw [Bool.and_eq_true]
  refine ⟨Nat.ble_eq_true_of_le ?_, this.2⟩
  show vs.toArray.size + 1 ≤ 1000
  rw [List.size_toArray, this.1]; omega
theorem allIn_keeps {h h' : Heap} (k : ∀ b o, h.get? b = some o → h'.get? b = some o) {K : Frag} (A : AllIn h K) : AllIn h' K := by
  induction K with
  | nil => exact trivial
  | cons p K ih => exact ⟨k _ _ A.1, ih A.2⟩
theorem envsB_eq : ∀ l : List (Code × Pos), envsB l = envsOf l
  | [] => rfl
  | x :: l => by
    obtain ⟨c, p⟩ := x
    rw [envsOf_cons, ← envsB_eq l]
    show cenvs c ++ envsB l = _
    congr 1
    unfold cenvs Code.envs
    cases c.isFrame with
    | true => cases c.env? <;> rfl
    | false => rfl
theorem law_end {w : World} {s₁ : Shared} {its : List Value} {ns : List Int} {cl : Str → Option Addr} {mean : ExcName → Option Value} (hlaw : ∀ (w : World) (its : Array Value) (u : Bool), (S_law its [scriptOk its] u).Holds (VV w))
    (KX : (hK w.params).In s₁.heap) (A1 : AllIn s₁.heap (hK w.params)) (hsz : s₁.heap.objs.size = 832) (hobj : s₁.heap.get? 831 = some { cls := .type "list", data := .seq its.toArray }) (hI : IntsAre its ns) (hc : ¬ ((63 : Nat) : Int) < (ns.length : Int)) (hg : s₁.gens = #[]) (args : List WData)
    (hr : ∀ cls, rL.claim.raises args cls = false) (hp : rL.claim.post args (.bool true) args = true) :
    wpAny (model rL.prog w) callerA (call (.ref 830) [.ref 831]) (fun v s' => GoodWG rL.claim cl mean args s₁ (.ok (.ret v)) s') (fun e s' => GoodWG rL.claim cl mean args s₁ (.error e) s') s₁ := by
  intro Γ p hΓ
  have o1 : s₁.heap.get? 778 = some (oTab #[]) := KX 778 _ (by kernel_rfl)
  have o2 : s₁.heap.get? 806 = some (oTab #[]) := KX 806 _ (by kernel_rfl)
  have o3 : s₁.heap.get? 813 = some (oTab #[]) := KX 813 _ (by kernel_rfl)
  have c1 : s₁.heap.get? 782 = some (o782 w.params) := KX 782 _ (by kernel_rfl)
  have c2 : s₁.heap.get? 810 = some (o810 w.params) := KX 810 _ (by kernel_rfl)
  have c3 : s₁.heap.get? 815 = some (o815 w.params) := KX 815 _ (by kernel_rfl)
  have t1 : isCodeTable s₁.heap 778 := ⟨782, _, _, c1, rfl, rfl, rfl⟩
  have t2 : isCodeTable s₁.heap 806 := ⟨810, _, _, c2, rfl, rfl, rfl⟩
  have t3 : isCodeTable s₁.heap 813 := ⟨815, _, _, c3, rfl, rfl, rfl⟩
  obtain ⟨h, g, d, t, os⟩ := s₁
  cases hg
  have hes : cenvs Γ.code ++ envsB Γ.below = [] := by
    have := hΓ.2.2.1 [] rfl
    rw [← envsB_eq] at this
    rw [← this]
    congr 1
    unfold cenvs Code.envs
    cases Γ.code.isFrame with
    | true => cases Γ.code.env? <;> rfl
    | false => rfl
  have hb : Low (Γ.enter (.call (.ref 830) ⟨[.ref 831], []⟩) none p).below 320 := by
    show Low ((Γ.code, p) :: Γ.below) 320
    have h1 := hΓ.2.1
    have h2 : callerA.depth = 301 := rfl
    have h3 : Γ.units ≤ callerA.units := hΓ.2.2.2.2
    have h4 : callerA.units = 4 := rfl
    refine ⟨?_, ?_⟩
    · rw [frameCount_cons]; omega
    · rw [unitsOf_cons]
      unfold Ctx.units at h3
      omega
  have At : (S_law its.toArray [scriptOk its.toArray] (ucB (Γ.enter (.call (.ref 830) ⟨[.ref 831], []⟩) none p).below)).At (VV w) h := by
    refine ⟨kt0_holds A1, fun q hq => ?_, fun q hq => ?_, ?_, by show 832 ≤ h.objs.size; rw [show h.objs.size = 832 from hsz]; exact Nat.le_refl _, fun b hb => ?_⟩
    · change q ∈ [(831, ({ cls := .type "list", data := .seq its.toArray } : Obj)), (778, oTab #[]), (806, oTab #[]), (813, oTab #[])] at hq
      simp only [List.mem_cons, List.not_mem_nil, or_false] at hq
      rcases hq with rfl | rfl | rfl | rfl <;> assumption
    · change q ∈ [(831, ({ cls := .type "list", data := .seq its.toArray } : Obj)), (778, oTab #[]), (806, oTab #[]), (813, oTab #[])] at hq
      simp only [List.mem_cons, List.not_mem_nil, or_false] at hq
      rcases hq with rfl | rfl | rfl | rfl <;> exact (by kernel_rfl)
    · show [831,778,806,813].Nodup
      decide
    · change b ∈ [scriptOk its.toArray] at hb
      simp only [List.mem_cons, List.not_mem_nil, or_false] at hb
      rw [hb]
      exact ints_ok hI (by omega)
  obtain ⟨as, ts, h', t', r, E⟩ := hlaw w its.toArray (ucB (Γ.enter (.call (.ref 830) ⟨[.ref 831], []⟩) none p).below) (Γ.enter (.call (.ref 830) ⟨[.ref 831], []⟩) none p) p h #[] d t os rfl hΓ.1 hb (fun es e => by cases e; exact Prod.ext hes rfl) At
  show Sem.wp _ Γ (run (.call (.ref 830) ⟨[.ref 831], []⟩) >>= _) _ _ p _
  rw [Sem.wp_bind']
  unfold run
  rw [Sem.wp_call]
  refine ⟨_, _, r, ?_⟩
  show Sem.wp _ Γ (.pure (Flow.ret (.bool true))) _ _ p _
  rw [Sem.wp_pure]
  show Sem.wp _ Γ (pure (Value.bool true)) _ _ p _
  rw [Sem.wp_pure']
  exact ⟨.inl ⟨_, _, [], rfl, hr, ReadsW.bool true, hp, fun _ => ⟨List.nodup_nil, fun _ hm => (nomatch hm)⟩⟩, law_keeps E t1 t2 t3 o1 o2 o3, rfl, AllBare.empty⟩
theorem law1 (hlaw : ∀ (w : World) (its : Array Value) (u : Bool), (S_law its [scriptOk its] u).Holds (VV w)) : PySem.Challenge.rw_pq0686_01.Holds := head (by
  k_fill
  intro w s₀ s₁ mg mb G Y fa o pm cd doc dV kV ho hd hcd hD hmg hg args vals as L hpre hlay hrd hwl hlo
  obtain ⟨ZH, ZI, ZN, ZT⟩ := z_facts (K := hK) (as := asK) (fun P => rfl) Y
  refine Ground.open G ?_
  intro T B D TE TW
  wrow_args hpre hlay hrd hwl hlo
  obtain ⟨hat, hsz⟩ := script_at L
  rw [ZN] at hat hsz
  subst hat
  (with_reducible rename IntsAre _ _ => hI)
  (with_reducible rename Heap.IsList _ _ _ => hL)
  have KX : (hK w.params).In s₁.heap := InK.keeps w _ _ ZI L.keeps
  have A1 : AllIn s₁.heap (hK w.params) := allIn_keeps L.keeps ZH
  have hfa : fa = 830 := by
    have := mg_of KX T.g (n := dLaw.name) (v := .ref 830) (by kernel_rfl)
    rw [hmg] at this
    exact Value.ref.inj (Option.some.inj this)
  subst hfa
  exact law_end hlaw KX A1 hsz (script_obj L hL) hI (by assumption) hg _ (fun _ => rfl) (by kernel_rfl))
end Mine
end

section
open PySem PySem.W PySem.W.X PyProof.Rows
set_option maxRecDepth 1000000
set_option maxHeartbeats 0
namespace Mine
/-! objects -/
abbrev oInst (c d : Nat) : Obj := { cls := .ref c, dict := some d }
abbrev oDict (es : Array DictEntry) (n : Nat) : Obj := { cls := .type "dict", data := .dict es n }
abbrev oList (xs : Array Value) (n : Nat) : Obj := { cls := .type "list", data := .seq xs n }
abbrev oTuple (xs : Array Value) : Obj := { cls := .type "tuple", data := .seq xs }
abbrev oFrame (es : Array DictEntry) (n : Nat) : Obj := { cls := .type "frame", data := .dict es n }
abbrev en (h : Int) (s : Str) (t : Nat) (v : Value) : DictEntry := ⟨h, .str s t, v⟩
noncomputable def noF {V : Vn} : Code → Option (Dp V) := fun _ => none
/-! cases on two rows of the text's freedoms, joined -/
theorem twoW {P : World → Prop} (h : ∀ (b : Bool) (w : World), P (w.withFollow "special-get-raises" b)) (w : World) : P w :=
  byRow2 "special-get-raises" (fun w => h false w) (fun w => h true w) w
/-! tree_type -/
noncomputable def S_tt (v : Value) (b : Array UInt8) : Spec := { code := .call (.ref 266) ⟨[v], []⟩, dep := 800, pre := [], touch := [], na := 0, nt := 1, res := fun _ ts => .ok (.ret (.bytes b (nth ts 0))), postT := fun _ _ => [], postN := fun _ _ => [] }
noncomputable def S_ttR (a c d : Nat) (b : Array UInt8) : Spec := { code := .call (.ref 266) ⟨[.ref a], []⟩, dep := 800, pre := [(a, oInst c d)], touch := [], na := 0, nt := 1, res := fun _ ts => .ok (.ret (.bytes b (nth ts 0))), postT := fun _ _ => [], postN := fun _ _ => [] }
theorem ttB (w : World) (x : Array UInt8) (t : Nat) : (S_tt (.bytes x t) (#[115,116,114,105,110,103] : Array UInt8)).Holds (VV w) :=
  start_holds (F := noF) (vok w) 400 ⟨[0,0,1,1,1,0,0,1,0,0,0,0,1,0,0,0,0,1,0,0], [], [3]⟩ fun m t => by
    rw [PySem.W.ZFast.startZ_eq]
    kernel_rfl
theorem ttI (w : World) (x : Int) (t : Nat) : (S_tt (.int x t) (#[110,117,109,98,101,114] : Array UInt8)).Holds (VV w) :=
  start_holds (F := noF) (vok w) 400 ⟨[0,0,1,1,1,0,0,1,0,0,0,0,1,0,0], [], [2]⟩ fun m t => by
    rw [PySem.W.ZFast.startZ_eq]
    kernel_rfl
theorem ttO (w : World) (x : Bool) : (S_tt (.bool x) (#[98,111,111,108,101,97,110] : Array UInt8)).Holds (VV w) :=
  start_holds (F := noF) (vok w) 400 ⟨[0,0,1,1,1,0,0,1,0,0], [], [1]⟩ fun m t => by
    rw [PySem.W.ZFast.startZ_eq]
    kernel_rfl
theorem ttN (w : World) : (S_tt .none (#[110,105,108] : Array UInt8)).Holds (VV w) :=
  start_holds (F := noF) (vok w) 400 ⟨[0,0,1,1,1], [], [1]⟩ fun m t => by
    rw [PySem.W.ZFast.startZ_eq]
    kernel_rfl
theorem ttT (w : World) (a d : Nat) : (S_ttR a 234 d (#[116,97,98,108,101] : Array UInt8)).Holds (VV w) :=
  start_holds (F := noF) (vok w) 400 ⟨[0,0,2,2,2,0,0,2,0,0,1,1,0,1,0,0,0,1,0,0,0,0,0,0,1,0,1,0,0,0,0,2,0,0,1,1,0,1,0,0,0,1,0,0,0,0,0,0,1,0,1,0,0,0,0,2,0,0,1,1,0,1,0,0,0,1,0,0,0,0,0,0,1,0,1,0,0,0,0,2,0,1], [], [4]⟩ fun m t => by
    rw [PySem.W.ZFast.startZ_eq]
    kernel_rfl
theorem ttF (w : World) (a d : Nat) : (S_ttR a 255 d (#[102,117,110,99,116,105,111,110] : Array UInt8)).Holds (VV w) :=
  start_holds (F := noF) (vok w) 400 ⟨[0,0,2,2,2,0,0,2,0,0,1,1,0,1,0,0,0,1,0,0,0,0,0,0,1,0,1,0,0,0,0,2,0,0,1,1,0,1,0,0,0,1,0,0,0,0,0,0,1,0,1,0,0,0,0,2,0,0,1,1,0,1,0,0,0,1,0,0,0,0,0,0,1,0,1,0,0,0,0,2,0,1,0,0,1,0,1,0,0,0,1,0,0,0,0,0,0,1,0,1,0,0], [], [5]⟩ fun m t => by
    rw [PySem.W.ZFast.startZ_eq]
    kernel_rfl
noncomputable def D_tt (w : World) (v : Value) : Option (Dp (VV w)) := match v with
  | .bytes x t => some ⟨0, fun _ _ _ => some ⟨_, ttB w x t⟩⟩
  | .int x t => some ⟨0, fun _ _ _ => some ⟨_, ttI w x t⟩⟩
  | .bool x => some ⟨0, fun _ _ _ => some ⟨_, ttO w x⟩⟩
  | .none => some ⟨0, fun _ _ _ => some ⟨_, ttN w⟩⟩
  | .ref a => some ⟨1, fun _ os _ => match os with
    | [o] => match o.cls with
      | .ref c => match o.dict with
        | some d => match Nat.beq c 234 with
          | true => some ⟨_, ttT w a d⟩
          | false => some ⟨_, ttF w a d⟩
        | none => none
      | _ => none
    | _ => none⟩
  | _ => none
/-! a call of a function of the top, by its address -/
noncomputable def F_tt (w : World) (c : Code) : Option (Dp (VV w)) := match c with
  | .call (.ref a) ⟨[v], []⟩ => match Nat.beq a 266 with
    | true => D_tt w v
    | false => none
  | _ => none
/-! same -/
/-- what same gives of two keys -/
def sameV (v v' : Value) : Bool := match v, v' with
  | .int x _, .int y _ => @decide (x = y) (Z.eqZ x y)
  | .bytes x _, .bytes y _ => Builtin.Bytes.order x.toList y.toList == .eq
  | _, _ => false
/-- both ints, or both bytes -/
def kind2 (v v' : Value) : Bool := match v, v' with
  | .int _ _, .int _ _ => true
  | .bytes _ _, .bytes _ _ => true
  | _, _ => false
noncomputable def S_same (v v' : Value) (nd : List Bool) (b : Bool) : Spec := { code := .call (.ref 273) ⟨[v, v'], []⟩, dep := 790, need := nd, pre := [], touch := [], na := 0, nt := 0, res := fun _ _ => .ok (.ret (.bool b)), postT := fun _ _ => [], postN := fun _ _ => [] }
theorem sameBB (w : World) (x y : Array UInt8) (t u : Nat) : (S_same (.bytes x t) (.bytes y u) [] (sameV (.bytes x t) (.bytes y u))).Holds (VV w) :=
  twoW (P := fun w => (S_same (.bytes x t) (.bytes y u) [] (sameV (.bytes x t) (.bytes y u))).Holds (VV w))
    (fun b w => by
      cases b <;> exact start_holds (F := F_tt _) (vok _) 400 ⟨[0,0,1,1,1,1,0,1,0,0,1,1,1,0,1,0,0,1,1,1,1], [], []⟩ fun m t => by
        rw [PySem.W.ZFast.startZ_eq]
        kernel_rfl) w
theorem sameII (w : World) (x y : Int) (t u : Nat) : (S_same (.int x t) (.int y u) [] (sameV (.int x t) (.int y u))).Holds (VV w) :=
  twoW (P := fun w => (S_same (.int x t) (.int y u) [] (sameV (.int x t) (.int y u))).Holds (VV w))
    (fun b w => by
      cases b <;> exact start_holds (F := F_tt _) (vok _) 400 ⟨[0,0,1,1,1,1,0,1,0,0,1,1,1,0,1,0,0,1,1,1,1], [], []⟩ fun m t => by
        rw [PySem.W.ZFast.startZ_eq]
        kernel_rfl) w
/-- a contract with more knowledge wanted -/
theorem Spec.Holds.more {V : Vn} {S : Spec} {nd : List Bool} (h : (∀ b ∈ nd, b = true) → S.Holds V) (e : S.need = []) : ({ S with need := nd } : Spec).Holds V := by
  intro Γ p hp g d t os hc hh hb hl A
  have := h A.need Γ p hp g d t os hc hh hb hl ⟨A.kt, A.mem, A.off, A.apart, A.lim, by rw [e]; intro b h; cases h⟩
  obtain ⟨as, ts, h', t', r, E⟩ := this
  exact ⟨as, ts, h', t', r, ⟨E.na, E.nt, E.postT, E.postN, E.keep, E.fresh, E.apart, E.size⟩⟩
theorem same_any (w : World) (v v' : Value) (nd : List Bool) (b : Bool) (h : (∀ b ∈ nd, b = true) → kind2 v v' = true ∧ sameV v v' = b) : (S_same v v' nd b).Holds (VV w) :=
  Spec.Holds.more (S := S_same v v' [] b) (fun q => by
    obtain ⟨h1, rfl⟩ := h q
    match v, v', h1 with
    | .int x t, .int y u, _ => exact sameII w x y t u
    | .bytes x t, .bytes y u, _ => exact sameBB w x y t u) rfl
noncomputable def D_same (w : World) (v v' : Value) : Dp (VV w) := ⟨0, fun _ _ alt => match alt with
  | 0 => some ⟨S_same v v' [kind2 v v'] (sameV v v'), same_any w v v' _ _ fun h => ⟨h _ (List.mem_cons_self ..), rfl⟩⟩
  | 1 => some ⟨S_same v v' [kind2 v v', sameV v v'] true, same_any w v v' _ _ fun h => ⟨h _ (List.mem_cons_self ..), h _ (List.mem_cons_of_mem _ (List.mem_cons_self ..))⟩⟩
  | _ => some ⟨S_same v v' [kind2 v v', !sameV v v'] false, same_any w v v' _ _ fun h => ⟨h _ (List.mem_cons_self ..), by
      have := h _ (List.mem_cons_of_mem _ (List.mem_cons_self ..))
      cases q : sameV v v' with
      | false => rfl
      | true => rw [q] at this; cases this⟩⟩⟩
/-- the contracts so far -/
noncomputable def F1 (w : World) (c : Code) : Option (Dp (VV w)) := match c with
  | .call (.ref a) ⟨[v], []⟩ => match Nat.beq a 266 with
    | true => D_tt w v
    | false => none
  | .call (.ref a) ⟨[v, v'], []⟩ => match Nat.beq a 273 with
    | true => some (D_same w v v')
    | false => none
  | _ => none
end Mine
end

section
open PySem PySem.W PySem.W.X PyProof.Rows
set_option maxRecDepth 1000000
set_option maxHeartbeats 0
namespace Mine
abbrev oIter (l : Value) (i : Int) : Obj := { cls := .type "list_iterator", data := .fields #[l, .int i 0] }
/-- a contract by hand -/
theorem spec_by {V : Vn} {S : Spec} (hq : ∀ Γ : Ctx, Γ.code = S.code → Γ.handled = none → ∀ (A : Around), A.handled = none → A.depth = frameCount Γ.below + Γ.code.weight → Γ.In A → ∀ (h : Heap) (g : Array GenState) (d : Drawn) (t : Nat) (os : OsState), S.At V h →
    wpAny V.M A (denote table S.code) (fun fin s' => ∃ f, fin = .done f ∧ ∃ as ts, Except.ok f = S.res as ts ∧ S.Ends as ts h s'.heap ∧ s'.gens = g ∧ s'.drawn = d ∧ s'.os = os)
      (fun e s' => ∃ as ts, Except.error e = S.res as ts ∧ S.Ends as ts h s'.heap ∧ s'.gens = g ∧ s'.drawn = d ∧ s'.os = os) ⟨h, g, d, t, os⟩) : S.Holds V := by
  intro Γ p h g d t os hc hh hb _ A
  have hin : Γ.In ⟨none, frameCount Γ.below + Γ.code.weight, none, none, Γ.units⟩ := ⟨hh, Nat.le_refl _, fun _ h => (nomatch h), fun _ h => (nomatch h), Nat.le_refl _⟩
  have := hq Γ hc hh _ rfl rfl hin h g d t os A Γ p hin
  have w : wpCode V.M Γ (fun r s' => ∃ as ts, r = S.res as ts ∧ S.Ends as ts h s'.heap ∧ s'.gens = g ∧ s'.drawn = d ∧ s'.os = os) p ⟨h, g, d, t, os⟩ := by
    rw [wpCode_iff_wp, hc]
    refine Sem.wp_mono _ _ _ ?_ (fun _ _ _ h => h) _ _ this
    rintro fin p s ⟨f, rfl, h⟩
    exact h
  obtain ⟨r, ⟨h', g', d', t', os'⟩, hr, as, ts, e1, e2, e3, e4, e5⟩ := w
  cases e3; cases e4; cases e5
  rw [e1] at hr
  exact ⟨as, ts, h', t', hr, e2⟩
theorem den_wp {V : Vn} {A : Around} {id : String} {b : Builtin} {args : Args} {Q : PySem.Fin → Shared → Prop} {E : Value → Shared → Prop} {s : Shared} (e : entryFor table id = some b) (h : wpAny V.M A (b args) Q E s) : wpAny V.M A (denote table (.builtin id args)) Q E s := by
  have : denote table (.builtin id args) = b args := by
    show (match entryFor table id with | some b => b args | none => unsupported ((withoutEnding? id "#data").getD id)) = _
    rw [e]
  rw [this]; exact h
theorem den_wp2 {V : Vn} {A : Around} {c : Code} {id : String} {b : Builtin} {args : Args} {Q : PySem.Fin → Shared → Prop} {E : Value → Shared → Prop} {s : Shared} (hc : c = .builtin id args) (e : entryFor table id = some b) (h : wpAny V.M A (b args) Q E s) : wpAny V.M A (denote table c) Q E s := by
  subst hc; exact den_wp e h
/-- nothing of the old but one object is changed -/
theorem ends_one {V : Vn} {S : Spec} {ts : List Nat} {h : Heap} {a : Nat} {o o' : Obj} {f : Obj → Obj} (e0 : S.na = 0) (e1 : ts.length = S.nt) (e2 : S.touchA = [a]) (e3 : S.postT [] ts = [some o']) (e4 : S.postN [] ts = [])
    (ho : h.get? a = some o) (hf : f o = o') (hn : o'.isFreed = false) : S.Ends [] ts h (h.update a f) := by
  have hb : Heap.SameBut a h (h.update a f) := Heap.SameBut.update ..
  refine ⟨e0.symm, e1, fun j hj q hq => ?_, fun j hj => ?_, fun b o e ht => ?_, fun a ha => (nomatch ha), List.nodup_nil, by rw [hb.1]; exact Nat.le_refl _⟩
  · cases j with
    | zero =>
      rw [e2]
      have : o' = q := by
        have := hq
        simp only [e3] at this
        exact Option.some.inj this
      subst this
      show (h.update a f).get? a = some o'
      rw [← hf]
      exact Heap.get?_update_self f ho (by rw [hf]; exact hn)
    | succ j => rw [e3] at hj; cases hj with | step hj => exact (nomatch hj)
  · rw [e4] at hj; exact (nomatch hj)
  · refine (hb.2 b fun q => ht ?_).trans e
    rw [e2, q]; exact List.mem_cons_self ..
theorem ends_same {S : Spec} {ts : List Nat} {h : Heap} (e0 : S.na = 0) (e1 : ts.length = S.nt) (e2 : S.touch = []) (e3 : S.postT [] ts = []) (e4 : S.postN [] ts = []) : S.Ends [] ts h h := by
  refine ⟨e0.symm, e1, fun j hj => ?_, fun j hj => ?_, fun b o e _ => e, fun a ha => (nomatch ha), List.nodup_nil, Nat.le_refl _⟩
  · rw [e3] at hj; exact (nomatch hj)
  · rw [e4] at hj; exact (nomatch hj)
/-! the list's iterator -/
noncomputable def S_next (it l : Nat) (xs : Array Value) (n : Nat) (i : Nat) (v : Value) : Spec := { code := .builtin "list_iterator.__next__" ⟨[.ref it], []⟩, dep := 850, pre := [(it, oIter (.ref l) (Int.ofNat i)), (l, oList xs n)], touch := [0], na := 0, nt := 0, res := fun _ _ => .ok (.ret v), postT := fun _ _ => [some (oIter (.ref l) (Int.ofNat i + 1))], postN := fun _ _ => [] }
noncomputable def S_nextE (it l : Nat) (xs : Array Value) (n : Nat) (i : Nat) : Spec := { code := .builtin "list_iterator.__next__" ⟨[.ref it], []⟩, dep := 850, pre := [(it, oIter (.ref l) (Int.ofNat i)), (l, oList xs n)], touch := [0], na := 2, nt := 0, res := fun a _ => .error (.ref (nth a 1)), postT := fun _ _ => [none], postN := fun a _ => [oTuple #[], { cls := .type "StopIteration", data := .fields #[.ref (nth a 0), .none, .none, .none, .bool false, .none] }] }
theorem next_item {V : Vn} {it l : Nat} {xs : Array Value} {n : Nat} {i : Nat} {v : Value} (hx : xs[i]? = some v) : (S_next it l xs n i v).Holds V := by
  refine spec_by fun Γ hc hh A hA hd hin h g d t os At => ?_
  have hit : h.get? it = some (oIter (.ref l) (Int.ofNat i)) := At.mem _ (List.mem_cons_self ..)
  have hl : h.get? l = some (oList xs n) := At.mem _ (List.mem_cons_of_mem _ (List.mem_cons_self ..))
  refine @den_wp2 _ _ _ _ _ _ _ _ _ rfl entry_listiter_next ?_
  show wpAny _ _ (field (.ref it) 0 >>= _) _ _ _
  refine wpAny_bind (wpAny_field hit rfl (x := .ref l) rfl ?_)
  show wpAny _ _ (if (Value.ref l == Value.none) = true then _ else _) _ _ _
  rw [if_neg (show ¬ ((Value.ref l == Value.none) = true) from Bool.false_ne_true)]
  show wpAny _ _ (field (.ref it) 1 >>= _) _ _ _
  refine wpAny_bind (wpAny_field hit rfl (x := .int (Int.ofNat i) 0) rfl ?_)
  show wpAny _ _ (seqItems? (.ref l) >>= _) _ _ _
  refine wpAny_bind (wpAny_seqItems hl rfl ?_)
  show wpAny _ _ (match xs[i]? with | some x => _ | none => _) _ _ _
  rw [hx]
  exact wpAny_bind (wpAny_setField hit rfl (by simp) (wpAny_pure ⟨_, rfl, [], [], rfl, ends_one (V := V) rfl rfl rfl rfl rfl hit rfl rfl, rfl, rfl, rfl⟩))
theorem next_end {V : Vn} {it l : Nat} {xs : Array Value} {n : Nat} {i : Nat} (hx : xs[i]? = none) : (S_nextE it l xs n i).Holds V := by
  refine spec_by fun Γ hc hh A hA hd hin h g d t os At => ?_
  have hit : h.get? it = some (oIter (.ref l) (Int.ofNat i)) := At.mem _ (List.mem_cons_self ..)
  have hl : h.get? l = some (oList xs n) := At.mem _ (List.mem_cons_of_mem _ (List.mem_cons_self ..))
  refine @den_wp2 _ _ _ _ _ _ _ _ _ rfl entry_listiter_next ?_
  show wpAny _ _ (field (.ref it) 0 >>= _) _ _ _
  refine wpAny_bind (wpAny_field hit rfl (x := .ref l) rfl ?_)
  show wpAny _ _ (if (Value.ref l == Value.none) = true then _ else _) _ _ _
  rw [if_neg (show ¬ ((Value.ref l == Value.none) = true) from Bool.false_ne_true)]
  show wpAny _ _ (field (.ref it) 1 >>= _) _ _ _
  refine wpAny_bind (wpAny_field hit rfl (x := .int (Int.ofNat i) 0) rfl ?_)
  show wpAny _ _ (seqItems? (.ref l) >>= _) _ _ _
  refine wpAny_bind (wpAny_seqItems hl rfl ?_)
  show wpAny _ _ (match xs[i]? with | some x => _ | none => _) _ _ _
  rw [hx]
  refine wpAny_bind (wpAny_rule (wpAny_bind (wpAny_setField hit rfl (by simp) ?_)))
  show wpAny _ _ (newExc (.type "StopIteration") [] >>= _) _ _ _
  refine wpAny_bind ?_
  unfold newExc newTuple
  refine wpAny_bind (wpAny_newObj_type ?_ (by size_fits))
  refine wpAny_bind (m := firstArgMember _ _) (wpAny_of_eq (a := Value.none) (by first | rfl | (unfold firstArgMember; rfl)) ?_)
  refine wpAny_newObj_type ?_ (by size_fits)
  unfold raiseNew
  refine wpAny_bind (wpAny_handled ?_)
  rw [hA]
  refine wpAny_bind (wpAny_pure (wpAny_throw ?_))
  have hb : Heap.SameBut it h (h.update it (Obj.mapFields fun vs => vs.setIfInBounds 0 .none)) := Heap.SameBut.update ..
  generalize h.update it (Obj.mapFields fun vs => vs.setIfInBounds 0 .none) = h1 at hb
  refine ⟨[h1.objs.size, h1.objs.size + 1], [], by show Except.error _ = Except.error _; rw [Heap.size_push]; rfl, ⟨rfl, rfl, fun j hj q hq => ?_, fun j hj => ?_, fun b o e ht => ?_, fun a ha => ?_, ?_, ?_⟩, rfl, rfl, rfl⟩
  · cases j with
    | zero => cases hq
    | succ j => cases hj with | step hj => exact (nomatch hj)
  · match j, hj with
    | 0, _ => exact Heap.get?_push_of_some _ (Heap.get?_push_size _ rfl)
    | 1, _ =>
      show Heap.get? _ (h1.objs.size + 1) = _
      have := Heap.get?_push_size (h1.push (oTuple #[])) (o := { cls := .type "StopIteration", data := .fields #[.ref h1.objs.size, .none, .none, .none, .bool false, .none] }) rfl
      rw [Heap.size_push] at this
      exact this
    | j + 2, hj => exact absurd hj (Nat.not_lt_of_le (Nat.le_add_left 2 j))
  · exact Heap.get?_push_of_some _ (Heap.get?_push_of_some _ ((hb.2 b fun q => ht (by subst q; exact List.mem_cons_self ..)).trans e))
  · show _ ∧ _ < (Heap.push (Heap.push h1 _) _).objs.size
    rw [Heap.size_push, Heap.size_push, ← hb.1]
    simp only [List.mem_cons, List.not_mem_nil, or_false] at ha
    omega
  · simp
  · show _ ≤ (Heap.push (Heap.push h1 _) _).objs.size
    rw [Heap.size_push, Heap.size_push, ← hb.1]; omega
/-! a list's items -/
theorem fits_nat {i : Nat} (h : i < 1000000) : Builtin.List.listFitsIndex (Int.ofNat i) = true := by
  refine fitsIndex_of (Int.natCast_nonneg i) ?_
  have : (Int.ofNat i) = (i : Int) := rfl
  rw [this]; omega

noncomputable def S_item (l : Nat) (xs : Array Value) (n : Nat) (i : Nat) (t : Nat) (v : Value) : Spec := { code := .builtin "list.__getitem__" ⟨[.ref l, .int (Int.ofNat i) t], []⟩, dep := 850, pre := [(l, oList xs n)], touch := [], na := 0, nt := 0, res := fun _ _ => .ok (.ret v), postT := fun _ _ => [], postN := fun _ _ => [] }
theorem item_wp {V : Vn} {l : Nat} {xs : Array Value} {n : Nat} {i : Int} {t : Nat} {v : Value} {A : Around} {h : Heap} {g : Array GenState} {d : Drawn} {tk : Nat} {os : OsState} {Q : PySem.Fin → Shared → Prop} {E : Value → Shared → Prop} (h0 : 0 ≤ i) (hx : xs[i.toNat]? = some v) (hl : h.get? l = some (oList xs n)) (hi : Builtin.List.listFitsIndex i = true)
   (hq : Q (.done (.ret v)) ⟨h, g, d, tk, os⟩) : wpAny V.M A (Builtin.«list.__getitem__» ⟨[.ref l, .int i t], []⟩) Q E ⟨h, g, d, tk, os⟩ := by
  show wpAny _ _ (Builtin.List.listSubscript? (.int i t) >>= _) _ _ _
  refine wpAny_bind (wpAny_listSubscript_int hi ?_)
  clear hi
  obtain ⟨j, rfl⟩ := Int.eq_ofNat_of_zero_le h0
  have hx' : xs[j]? = some v := hx
  show wpAny _ _ ((seqItemAt l j >>= fun r => pure (r.map (j, ·))) >>= _) _ _ _
  refine wpAny_bind (wpAny_bind (wpAny_seqItemAt hl rfl (wpAny_pure ?_)))
  rw [hx']
  exact wpAny_bind (wpAny_pure (wpAny_pure hq))
theorem item_at {V : Vn} {l : Nat} {xs : Array Value} {n : Nat} {i t : Nat} {v : Value} (hx : xs[i]? = some v) (hi : i < 1000000) : (S_item l xs n i t v).Holds V := by
  refine spec_by fun Γ hc hh A hA hd hin h g d tk os At => ?_
  have hl : h.get? l = some (oList xs n) := At.mem _ (List.mem_cons_self ..)
  have h0 : (0 : Int) ≤ Int.ofNat i := Int.natCast_nonneg i
  have hf := fits_nat hi
  clear hi
  have hx' : xs[(Int.ofNat i).toNat]? = some v := hx
  generalize hk : Int.ofNat i = k at h0 hf hx'
  unfold S_item
  rw [hk]
  exact @den_wp2 _ _ _ _ _ _ _ _ _ rfl entry_list_getitem (item_wp h0 hx' hl hf ⟨_, rfl, [], [], rfl, ends_same rfl rfl rfl rfl rfl, rfl, rfl, rfl⟩)
noncomputable def S_put (l : Nat) (xs : Array Value) (n : Nat) (i : Nat) (t : Nat) (v : Value) : Spec := { code := .builtin "list.__setitem__" ⟨[.ref l, .int (Int.ofNat i) t, v], []⟩, dep := 850, pre := [(l, oList xs n)], touch := [0], na := 0, nt := 0, res := fun _ _ => .ok (.ret .none), postT := fun _ _ => [some (oList (xs.setIfInBounds i v) n)], postN := fun _ _ => [] }
theorem put_wp {V : Vn} {l : Nat} {xs : Array Value} {n : Nat} {i : Int} {t : Nat} {v : Value} {A : Around} {h : Heap} {g : Array GenState} {d : Drawn} {tk : Nat} {os : OsState} {Q : PySem.Fin → Shared → Prop} {E : Value → Shared → Prop} (h0 : 0 ≤ i) (hx : i.toNat < xs.size) (hl : h.get? l = some (oList xs n)) (hi : Builtin.List.listFitsIndex i = true)
   (hq : Q (.done (.ret .none)) ⟨h.update l (Obj.mapSeq (·.setIfInBounds i.toNat v)), g, d, tk, os⟩) : wpAny V.M A (Builtin.«list.__setitem__» ⟨[.ref l, .int i t, v], []⟩) Q E ⟨h, g, d, tk, os⟩ := by
  show wpAny _ _ (Builtin.List.listSubscript? (.int i t) >>= _) _ _ _
  refine wpAny_bind (wpAny_listSubscript_int hi ?_)
  clear hi
  obtain ⟨j, rfl⟩ := Int.eq_ofNat_of_zero_le h0
  have hx' : xs[j]? = some xs[j] := Array.getElem?_eq_getElem hx
  show wpAny _ _ ((seqItemAt l j >>= fun r => pure (r.map (j, ·))) >>= _) _ _ _
  refine wpAny_bind (wpAny_bind (wpAny_seqItemAt hl rfl (wpAny_pure ?_)))
  rw [hx']
  refine wpAny_bind (wpAny_setSeqItemAt hl rfl ?_)
  exact wpAny_bind (wpAny_pure (wpAny_pure hq))
theorem put_at {V : Vn} {l : Nat} {xs : Array Value} {n : Nat} {i t : Nat} {v : Value} (hx : i < xs.size) (hi : i < 1000000) : (S_put l xs n i t v).Holds V := by
  refine spec_by fun Γ hc hh A hA hd hin h g d tk os At => ?_
  have hl : h.get? l = some (oList xs n) := At.mem _ (List.mem_cons_self ..)
  have h0 : (0 : Int) ≤ Int.ofNat i := Int.natCast_nonneg i
  have hf := fits_nat hi
  clear hi
  have hx' : (Int.ofNat i).toNat < xs.size := hx
  have hk' : (Int.ofNat i).toNat = i := rfl
  generalize hk : Int.ofNat i = k at h0 hf hx' hk'
  unfold S_put
  rw [hk]
  exact @den_wp2 _ _ _ _ _ _ _ _ _ rfl entry_list_setitem (put_wp h0 hx' hl hf ⟨_, rfl, [], [], rfl, ends_one (V := V) rfl rfl rfl rfl rfl hl (by rw [hk']; simp [Obj.mapSeq]) rfl, rfl, rfl, rfl⟩)
noncomputable def S_push (l : Nat) (xs : Array Value) (n : Nat) (v : Value) : Spec := { code := .builtin "list.append" ⟨[.ref l, v], []⟩, dep := 850, need := [Nat.blt xs.size 1000], pre := [(l, oList xs n)], touch := [0], na := 0, nt := 0, res := fun _ _ => .ok (.ret .none), postT := fun _ _ => [some (oList (xs.push v) (n + 1))], postN := fun _ _ => [] }
theorem push_at {V : Vn} {l : Nat} {xs : Array Value} {n : Nat} {v : Value} : (S_push l xs n v).Holds V := by
  refine spec_by fun Γ hc hh A hA hd hin h g d tk os At => ?_
  have hl : h.get? l = some (oList xs n) := At.mem _ (List.mem_cons_self ..)
  have hs : xs.size < 1000 := blt_iff (At.need _ (List.mem_cons_self ..))
  refine @den_wp2 _ _ _ _ _ _ _ _ _ rfl entry_list_append ?_
  refine wpAny_bind (wpAny_pure ?_)
  refine wpAny_bind ?_
  refine wpAny_updateSeq hl rfl ?_ (by unfold sizeLine; omega) (by rw [Array.size_push]; unfold sizeLine; omega)
  refine wpAny_pure ⟨_, rfl, [], [], rfl, ends_one (V := V) rfl rfl rfl rfl rfl hl (by
    have : (xs.size + 1 == xs.size) = false := by rw [beq_eq_false_iff_ne]; omega
    simp [Obj.mapSeq, this]) rfl, rfl, rfl, rfl⟩
end Mine
end

section
open PySem PySem.W PySem.W.X PyProof.Rows
set_option maxRecDepth 1000000
set_option maxHeartbeats 0
namespace Mine
/-! pieces of the text, by a function's object -/
noncomputable def fdOf (o : Obj) : FuncData := match o.data with | .func f => f | _ => default
noncomputable def bodyOf (o : Obj) : List Stmt := match (fdOf o).body with | .stmts b => b | .expr _ => []
noncomputable def nthS (l : List Stmt) : Nat → Stmt := List.rec (motive := fun _ => Nat → Stmt) (fun _ => noS) (fun a _ ih i => Nat.rec (motive := fun _ => Stmt) a (fun i _ => ih i) i) l
noncomputable def forCode (s : Stmt) (it : Value) (env : Env) : Code := match s with | .For t _ b e _ => .forLoop t it b e env | _ => default
noncomputable def whileCode (s : Stmt) (env : Env) : Code := match s with | .While t b e _ => .whileLoop t b e env | _ => default
noncomputable abbrev envF (o : Obj) (a L : Nat) (q : Str) (cells : List (Str × Addr)) : Env := { scope := (fdOf o).scope, locals := L, globals := 3, cells := cells, qual := q, func := some a, code := (fdOf o).code, frame := some L, builtins := 0 }
/-- a builtin by its name's number -/
noncomputable def idIs (id : String) (n : Nat) : Bool := PySem.W.S.eqLit n id
theorem Spec.Holds.less {V : Vn} {S : Spec} (h : S.Holds V) (n : ∀ b ∈ S.need, b = true) : ({ S with need := [] } : Spec).Holds V := by
  intro Γ p hp g d t os hc hh hb hl A
  obtain ⟨as, ts, h', t', r, E⟩ := h Γ p hp g d t os hc hh hb hl ⟨A.kt, A.mem, A.off, A.apart, A.lim, n⟩
  exact ⟨as, ts, h', t', r, ⟨E.na, E.nt, E.postT, E.postN, E.keep, E.fresh, E.apart, E.size⟩⟩
/-! find -/
/-- where a key stands -/
def findI : List Value → Value → Nat → Option Nat
  | [], _, _ => none
  | k :: ks, key, i => match sameV k key with
    | true => some i
    | false => findI ks key (i + 1)
abbrev oEnum (it : Value) (i : Int) (old : Value) : Obj := { cls := .type "enumerate", data := .fields #[.none, .bool false, it, .int i 0, .none, old] }
section
variable (w : World)
abbrev esL2 (h1 : Int) (t1 : Nat) (sf : Value) (h2 : Int) (t2 : Nat) (key : Value) : Array DictEntry := #[en h1 (⟨#[115,101,108,102]⟩ : Str) t1 sf, en h2 (⟨#[107,101,121]⟩ : Str) t2 key]
abbrev esL4 (h1 : Int) (t1 : Nat) (sf : Value) (h2 : Int) (t2 : Nat) (key : Value) (h3 : Int) (t3 : Nat) (v3 : Value) (h4 : Int) (t4 : Nat) (v4 : Value) : Array DictEntry := #[en h1 (⟨#[115,101,108,102]⟩ : Str) t1 sf, en h2 (⟨#[107,101,121]⟩ : Str) t2 key, en h3 (⟨#[97,116]⟩ : Str) t3 v3, en h4 (⟨#[107,110,111,119,110]⟩ : Str) t4 v4]
noncomputable def S_fl (F E I kl : Nat) (es : Array DictEntry) (n : Nat) (old : Value) (i : Nat) (ks : Array Value) (m : Nat) (nd : List Bool) (r : List Nat → Result) : Spec := {
  code := forCode (nthS (bodyOf (o203 w.params)) 0) (.ref E) (envF (o203 w.params) 203 F (⟨#[84,114,101,101,84,97,98,108,101,46,102,105,110,100,46,60,108,111,99,97,108,115,62,46]⟩ : Str) [])
  dep := 780, need := nd, pre := [(F, oFrame es n), (E, oEnum (.ref I) (Int.ofNat i) old), (I, oIter (.ref kl) (Int.ofNat i)), (kl, oList ks m)], touch := [0,1,2], na := 0, nt := 1
  res := fun _ ts => r ts, postT := fun _ _ => [none, none, none], postN := fun _ _ => [] }
/-- the turn: the next item, same by what is known, the rest -/
noncomputable def F_next (it kl : Nat) (ks : Array Value) (m i : Nat) (v : Value) (hv : ks[i]? = some v) (c : Code) : Option (Dp (VV w)) := match c with
  | .builtin id ⟨[.ref _], []⟩ => match idIs id 36058839055461744822429329989390181918337346850548333 with
    | true => some ⟨2, fun as _ _ => match as with
      | it :: _ => some ⟨S_next it kl ks m i v, next_item hv⟩
      | _ => none⟩
    | false => none
  | c => F1 w c
noncomputable def F_nextE (kl : Nat) (ks : Array Value) (m i : Nat) (hv : ks[i]? = none) (c : Code) : Option (Dp (VV w)) := match c with
  | .builtin id ⟨[.ref _], []⟩ => match idIs id 36058839055461744822429329989390181918337346850548333 with
    | true => some ⟨2, fun as _ _ => match as with
      | it :: _ => some ⟨S_nextE it kl ks m i, next_end hv⟩
      | _ => none⟩
    | false => none
  | _ => none
end
/-- the rest of the loop by what is known of it -/
noncomputable def F_rest (w : World) (f : Code → Option (Dp (VV w))) (F E I kl : Nat) (h1 : Int) (t1 : Nat) (sf : Nat) (h2 : Int) (t2 : Nat) (key : Value) (i : Nat) (ks : Array Value) (m : Nat) (r : List Nat → Result)
    (ih : ∀ (h3 : Int) (t3 : Nat) (v3 : Value) (h4 : Int) (t4 : Nat) (v4 : Value) (n : Nat) (old : Value), (S_fl w F E I kl (esL4 h1 t1 (.ref sf) h2 t2 key h3 t3 v3 h4 t4 v4) n old i ks m [] r).Holds (VV w)) (c : Code) : Option (Dp (VV w)) := match c with
  | .forLoop _ _ _ _ _ => some ⟨4, fun _ os _ => match os with
    | [oF, oE, _, _] => match oF.data with
      | .dict es n => match es.toList with
        | [_, _, e3, e4] => match e3.key with
          | .str _ t3 => match e4.key with
            | .str _ t4 => match oE.data with
              | .fields vs => some ⟨_, ih e3.hash t3 e3.val e4.hash t4 e4.val n (vs.toList.getD 5 .none)⟩
              | _ => none
            | _ => none
          | _ => none
        | _ => none
      | _ => none
    | _ => none⟩
  | c => f c
theorem flT1B (w : World) (F E I kl : Nat) (h1 : Int) (t1 : Nat) (sf : Nat) (h2 : Int) (t2 : Nat) (y : Array UInt8) (u : Nat) (n : Nat) (old : Value) (i : Nat) (ks : Array Value) (m : Nat) (x : Array UInt8) (t : Nat) (hv : ks[i]? = some (.bytes x t)) : (S_fl w F E I kl (esL2 h1 t1 (.ref sf) h2 t2 (.bytes y u)) n old i ks m [kind2 (.bytes x t) (.bytes y u), sameV (.bytes x t) (.bytes y u)] (fun ts => .ok (.ret (.int (Int.ofNat i) (nth ts 0))))).Holds (VV w) :=
  (byRow2 "special-get-raises" (P := fun w => (S_fl w F E I kl (esL2 h1 t1 (.ref sf) h2 t2 (.bytes y u)) n old i ks m [kind2 (.bytes x t) (.bytes y u), sameV (.bytes x t) (.bytes y u)] (fun ts => .ok (.ret (.int (Int.ofNat i) (nth ts 0))))).Holds (VV w)) (fun w => start_holds (F := F_next (w.withFollow "special-get-raises" false) I kl ks m i _ hv) (vok _) 1000 ⟨[2,2,2,3,3,3,4,0,2,2,2,2,2,2,2,2,2,2,2,2,2,2,2,2,2,5,5,5,5,6,6,6,6,6,5,6,6,6,6,6,6,5,6,6,6,6,6,6,5,6,6,8,1,1,1,1,0,1,1,0,1,1,2,1], [], [0]⟩ fun m t => by
      rw [PySem.W.ZFast.startZ_eq]
      kernel_rfl) (fun w => start_holds (F := F_next (w.withFollow "special-get-raises" true) I kl ks m i _ hv) (vok _) 1000 ⟨[2,2,2,3,3,3,4,0,2,2,2,2,2,2,2,2,2,2,2,2,2,2,2,2,2,5,5,5,5,6,6,6,6,6,5,6,6,6,6,6,6,5,6,6,6,6,6,6,5,6,6,8,1,1,1,1,0,1,1,0,1,1,2,1], [], [0]⟩ fun m t => by
      rw [PySem.W.ZFast.startZ_eq]
      kernel_rfl) w)
theorem flT2B (w : World) (F E I kl : Nat) (h1 : Int) (t1 : Nat) (sf : Nat) (h2 : Int) (t2 : Nat) (y : Array UInt8) (u : Nat) (h3 : Int) (t3 : Nat) (v3 : Value) (h4 : Int) (t4 : Nat) (v4 : Value) (n : Nat) (old : Value) (i : Nat) (ks : Array Value) (m : Nat) (x : Array UInt8) (t : Nat) (hv : ks[i]? = some (.bytes x t)) : (S_fl w F E I kl (esL4 h1 t1 (.ref sf) h2 t2 (.bytes y u) h3 t3 v3 h4 t4 v4) n old i ks m [kind2 (.bytes x t) (.bytes y u), sameV (.bytes x t) (.bytes y u)] (fun ts => .ok (.ret (.int (Int.ofNat i) (nth ts 0))))).Holds (VV w) :=
  (byRow2 "special-get-raises" (P := fun w => (S_fl w F E I kl (esL4 h1 t1 (.ref sf) h2 t2 (.bytes y u) h3 t3 v3 h4 t4 v4) n old i ks m [kind2 (.bytes x t) (.bytes y u), sameV (.bytes x t) (.bytes y u)] (fun ts => .ok (.ret (.int (Int.ofNat i) (nth ts 0))))).Holds (VV w)) (fun w => start_holds (F := F_next (w.withFollow "special-get-raises" false) I kl ks m i _ hv) (vok _) 1000 ⟨[2,2,2,3,3,3,4,0,2,2,2,2,2,2,2,2,2,2,2,2,2,2,2,2,2,5,5,5,5,6,6,6,6,6,5,6,6,6,6,6,6,5,6,6,6,6,6,6,5,6,6,8,1,1,1,1,0,1,1,0,1,1,2,1], [], [0]⟩ fun m t => by
      rw [PySem.W.ZFast.startZ_eq]
      kernel_rfl) (fun w => start_holds (F := F_next (w.withFollow "special-get-raises" true) I kl ks m i _ hv) (vok _) 1000 ⟨[2,2,2,3,3,3,4,0,2,2,2,2,2,2,2,2,2,2,2,2,2,2,2,2,2,5,5,5,5,6,6,6,6,6,5,6,6,6,6,6,6,5,6,6,6,6,6,6,5,6,6,8,1,1,1,1,0,1,1,0,1,1,2,1], [], [0]⟩ fun m t => by
      rw [PySem.W.ZFast.startZ_eq]
      kernel_rfl) w)
theorem flN1B (w : World) (F E I kl : Nat) (h1 : Int) (t1 : Nat) (sf : Nat) (h2 : Int) (t2 : Nat) (y : Array UInt8) (u : Nat) (n : Nat) (old : Value) (i : Nat) (ks : Array Value) (m : Nat) (r : List Nat → Result) (ih : ∀ (w : World) (h3 : Int) (t3 : Nat) (v3 : Value) (h4 : Int) (t4 : Nat) (v4 : Value) (n : Nat) (old : Value), (S_fl w F E I kl (esL4 h1 t1 (.ref sf) h2 t2 (.bytes y u) h3 t3 v3 h4 t4 v4) n old (i + 1) ks m [] r).Holds (VV w)) (x : Array UInt8) (t : Nat) (hv : ks[i]? = some (.bytes x t)) : (S_fl w F E I kl (esL2 h1 t1 (.ref sf) h2 t2 (.bytes y u)) n old i ks m [kind2 (.bytes x t) (.bytes y u), !sameV (.bytes x t) (.bytes y u)] r).Holds (VV w) :=
  (byRow2 "special-get-raises" (P := fun w => (S_fl w F E I kl (esL2 h1 t1 (.ref sf) h2 t2 (.bytes y u)) n old i ks m [kind2 (.bytes x t) (.bytes y u), !sameV (.bytes x t) (.bytes y u)] r).Holds (VV w)) (fun w => start_holds (F := F_rest (w.withFollow "special-get-raises" false) (F_next (w.withFollow "special-get-raises" false) I kl ks m i _ hv) F E I kl h1 t1 sf h2 t2 (.bytes y u) (i + 1) ks m r (ih (w.withFollow "special-get-raises" false))) (vok _) 1000 ⟨[2,2,2,3,3,3,4,0,2,2,2,2,2,2,2,2,2,2,2,2,2,2,2,2,2,5,5,5,5,6,6,6,6,6,5,6,6,6,6,6,6,5,6,6,6,6,6,6,5,6,6,8,1,1,1,1,0,1,1,0,2,1,2,1,2,3,4,0], [], [3]⟩ fun m t => by
      rw [PySem.W.ZFast.startZ_eq]
      kernel_rfl) (fun w => start_holds (F := F_rest (w.withFollow "special-get-raises" true) (F_next (w.withFollow "special-get-raises" true) I kl ks m i _ hv) F E I kl h1 t1 sf h2 t2 (.bytes y u) (i + 1) ks m r (ih (w.withFollow "special-get-raises" true))) (vok _) 1000 ⟨[2,2,2,3,3,3,4,0,2,2,2,2,2,2,2,2,2,2,2,2,2,2,2,2,2,5,5,5,5,6,6,6,6,6,5,6,6,6,6,6,6,5,6,6,6,6,6,6,5,6,6,8,1,1,1,1,0,1,1,0,2,1,2,1,2,3,4,0], [], [3]⟩ fun m t => by
      rw [PySem.W.ZFast.startZ_eq]
      kernel_rfl) w)
theorem flN2B (w : World) (F E I kl : Nat) (h1 : Int) (t1 : Nat) (sf : Nat) (h2 : Int) (t2 : Nat) (y : Array UInt8) (u : Nat) (h3 : Int) (t3 : Nat) (v3 : Value) (h4 : Int) (t4 : Nat) (v4 : Value) (n : Nat) (old : Value) (i : Nat) (ks : Array Value) (m : Nat) (r : List Nat → Result) (ih : ∀ (w : World) (h3 : Int) (t3 : Nat) (v3 : Value) (h4 : Int) (t4 : Nat) (v4 : Value) (n : Nat) (old : Value), (S_fl w F E I kl (esL4 h1 t1 (.ref sf) h2 t2 (.bytes y u) h3 t3 v3 h4 t4 v4) n old (i + 1) ks m [] r).Holds (VV w)) (x : Array UInt8) (t : Nat) (hv : ks[i]? = some (.bytes x t)) : (S_fl w F E I kl (esL4 h1 t1 (.ref sf) h2 t2 (.bytes y u) h3 t3 v3 h4 t4 v4) n old i ks m [kind2 (.bytes x t) (.bytes y u), !sameV (.bytes x t) (.bytes y u)] r).Holds (VV w) :=
  (byRow2 "special-get-raises" (P := fun w => (S_fl w F E I kl (esL4 h1 t1 (.ref sf) h2 t2 (.bytes y u) h3 t3 v3 h4 t4 v4) n old i ks m [kind2 (.bytes x t) (.bytes y u), !sameV (.bytes x t) (.bytes y u)] r).Holds (VV w)) (fun w => start_holds (F := F_rest (w.withFollow "special-get-raises" false) (F_next (w.withFollow "special-get-raises" false) I kl ks m i _ hv) F E I kl h1 t1 sf h2 t2 (.bytes y u) (i + 1) ks m r (ih (w.withFollow "special-get-raises" false))) (vok _) 1000 ⟨[2,2,2,3,3,3,4,0,2,2,2,2,2,2,2,2,2,2,2,2,2,2,2,2,2,5,5,5,5,6,6,6,6,6,5,6,6,6,6,6,6,5,6,6,6,6,6,6,5,6,6,8,1,1,1,1,0,1,1,0,2,1,2,1,2,3,4,0], [], [3]⟩ fun m t => by
      rw [PySem.W.ZFast.startZ_eq]
      kernel_rfl) (fun w => start_holds (F := F_rest (w.withFollow "special-get-raises" true) (F_next (w.withFollow "special-get-raises" true) I kl ks m i _ hv) F E I kl h1 t1 sf h2 t2 (.bytes y u) (i + 1) ks m r (ih (w.withFollow "special-get-raises" true))) (vok _) 1000 ⟨[2,2,2,3,3,3,4,0,2,2,2,2,2,2,2,2,2,2,2,2,2,2,2,2,2,5,5,5,5,6,6,6,6,6,5,6,6,6,6,6,6,5,6,6,6,6,6,6,5,6,6,8,1,1,1,1,0,1,1,0,2,1,2,1,2,3,4,0], [], [3]⟩ fun m t => by
      rw [PySem.W.ZFast.startZ_eq]
      kernel_rfl) w)
theorem flT1I (w : World) (F E I kl : Nat) (h1 : Int) (t1 : Nat) (sf : Nat) (h2 : Int) (t2 : Nat) (y : Int) (u : Nat) (n : Nat) (old : Value) (i : Nat) (ks : Array Value) (m : Nat) (x : Int) (t : Nat) (hv : ks[i]? = some (.int x t)) : (S_fl w F E I kl (esL2 h1 t1 (.ref sf) h2 t2 (.int y u)) n old i ks m [kind2 (.int x t) (.int y u), sameV (.int x t) (.int y u)] (fun ts => .ok (.ret (.int (Int.ofNat i) (nth ts 0))))).Holds (VV w) :=
  (byRow2 "special-get-raises" (P := fun w => (S_fl w F E I kl (esL2 h1 t1 (.ref sf) h2 t2 (.int y u)) n old i ks m [kind2 (.int x t) (.int y u), sameV (.int x t) (.int y u)] (fun ts => .ok (.ret (.int (Int.ofNat i) (nth ts 0))))).Holds (VV w)) (fun w => start_holds (F := F_next (w.withFollow "special-get-raises" false) I kl ks m i _ hv) (vok _) 1000 ⟨[2,2,2,3,3,3,4,0,2,2,2,2,2,2,2,2,2,2,2,2,2,2,2,2,2,5,5,5,5,6,6,6,6,6,5,6,6,6,6,6,6,5,6,6,6,6,6,6,5,6,6,8,1,1,1,1,0,1,1,0,1,1,2,1], [], [0]⟩ fun m t => by
      rw [PySem.W.ZFast.startZ_eq]
      kernel_rfl) (fun w => start_holds (F := F_next (w.withFollow "special-get-raises" true) I kl ks m i _ hv) (vok _) 1000 ⟨[2,2,2,3,3,3,4,0,2,2,2,2,2,2,2,2,2,2,2,2,2,2,2,2,2,5,5,5,5,6,6,6,6,6,5,6,6,6,6,6,6,5,6,6,6,6,6,6,5,6,6,8,1,1,1,1,0,1,1,0,1,1,2,1], [], [0]⟩ fun m t => by
      rw [PySem.W.ZFast.startZ_eq]
      kernel_rfl) w)
theorem flT2I (w : World) (F E I kl : Nat) (h1 : Int) (t1 : Nat) (sf : Nat) (h2 : Int) (t2 : Nat) (y : Int) (u : Nat) (h3 : Int) (t3 : Nat) (v3 : Value) (h4 : Int) (t4 : Nat) (v4 : Value) (n : Nat) (old : Value) (i : Nat) (ks : Array Value) (m : Nat) (x : Int) (t : Nat) (hv : ks[i]? = some (.int x t)) : (S_fl w F E I kl (esL4 h1 t1 (.ref sf) h2 t2 (.int y u) h3 t3 v3 h4 t4 v4) n old i ks m [kind2 (.int x t) (.int y u), sameV (.int x t) (.int y u)] (fun ts => .ok (.ret (.int (Int.ofNat i) (nth ts 0))))).Holds (VV w) :=
  (byRow2 "special-get-raises" (P := fun w => (S_fl w F E I kl (esL4 h1 t1 (.ref sf) h2 t2 (.int y u) h3 t3 v3 h4 t4 v4) n old i ks m [kind2 (.int x t) (.int y u), sameV (.int x t) (.int y u)] (fun ts => .ok (.ret (.int (Int.ofNat i) (nth ts 0))))).Holds (VV w)) (fun w => start_holds (F := F_next (w.withFollow "special-get-raises" false) I kl ks m i _ hv) (vok _) 1000 ⟨[2,2,2,3,3,3,4,0,2,2,2,2,2,2,2,2,2,2,2,2,2,2,2,2,2,5,5,5,5,6,6,6,6,6,5,6,6,6,6,6,6,5,6,6,6,6,6,6,5,6,6,8,1,1,1,1,0,1,1,0,1,1,2,1], [], [0]⟩ fun m t => by
      rw [PySem.W.ZFast.startZ_eq]
      kernel_rfl) (fun w => start_holds (F := F_next (w.withFollow "special-get-raises" true) I kl ks m i _ hv) (vok _) 1000 ⟨[2,2,2,3,3,3,4,0,2,2,2,2,2,2,2,2,2,2,2,2,2,2,2,2,2,5,5,5,5,6,6,6,6,6,5,6,6,6,6,6,6,5,6,6,6,6,6,6,5,6,6,8,1,1,1,1,0,1,1,0,1,1,2,1], [], [0]⟩ fun m t => by
      rw [PySem.W.ZFast.startZ_eq]
      kernel_rfl) w)
theorem flN1I (w : World) (F E I kl : Nat) (h1 : Int) (t1 : Nat) (sf : Nat) (h2 : Int) (t2 : Nat) (y : Int) (u : Nat) (n : Nat) (old : Value) (i : Nat) (ks : Array Value) (m : Nat) (r : List Nat → Result) (ih : ∀ (w : World) (h3 : Int) (t3 : Nat) (v3 : Value) (h4 : Int) (t4 : Nat) (v4 : Value) (n : Nat) (old : Value), (S_fl w F E I kl (esL4 h1 t1 (.ref sf) h2 t2 (.int y u) h3 t3 v3 h4 t4 v4) n old (i + 1) ks m [] r).Holds (VV w)) (x : Int) (t : Nat) (hv : ks[i]? = some (.int x t)) : (S_fl w F E I kl (esL2 h1 t1 (.ref sf) h2 t2 (.int y u)) n old i ks m [kind2 (.int x t) (.int y u), !sameV (.int x t) (.int y u)] r).Holds (VV w) :=
  (byRow2 "special-get-raises" (P := fun w => (S_fl w F E I kl (esL2 h1 t1 (.ref sf) h2 t2 (.int y u)) n old i ks m [kind2 (.int x t) (.int y u), !sameV (.int x t) (.int y u)] r).Holds (VV w)) (fun w => start_holds (F := F_rest (w.withFollow "special-get-raises" false) (F_next (w.withFollow "special-get-raises" false) I kl ks m i _ hv) F E I kl h1 t1 sf h2 t2 (.int y u) (i + 1) ks m r (ih (w.withFollow "special-get-raises" false))) (vok _) 1000 ⟨[2,2,2,3,3,3,4,0,2,2,2,2,2,2,2,2,2,2,2,2,2,2,2,2,2,5,5,5,5,6,6,6,6,6,5,6,6,6,6,6,6,5,6,6,6,6,6,6,5,6,6,8,1,1,1,1,0,1,1,0,2,1,2,1,2,3,4,0], [], [3]⟩ fun m t => by
      rw [PySem.W.ZFast.startZ_eq]
      kernel_rfl) (fun w => start_holds (F := F_rest (w.withFollow "special-get-raises" true) (F_next (w.withFollow "special-get-raises" true) I kl ks m i _ hv) F E I kl h1 t1 sf h2 t2 (.int y u) (i + 1) ks m r (ih (w.withFollow "special-get-raises" true))) (vok _) 1000 ⟨[2,2,2,3,3,3,4,0,2,2,2,2,2,2,2,2,2,2,2,2,2,2,2,2,2,5,5,5,5,6,6,6,6,6,5,6,6,6,6,6,6,5,6,6,6,6,6,6,5,6,6,8,1,1,1,1,0,1,1,0,2,1,2,1,2,3,4,0], [], [3]⟩ fun m t => by
      rw [PySem.W.ZFast.startZ_eq]
      kernel_rfl) w)
theorem flN2I (w : World) (F E I kl : Nat) (h1 : Int) (t1 : Nat) (sf : Nat) (h2 : Int) (t2 : Nat) (y : Int) (u : Nat) (h3 : Int) (t3 : Nat) (v3 : Value) (h4 : Int) (t4 : Nat) (v4 : Value) (n : Nat) (old : Value) (i : Nat) (ks : Array Value) (m : Nat) (r : List Nat → Result) (ih : ∀ (w : World) (h3 : Int) (t3 : Nat) (v3 : Value) (h4 : Int) (t4 : Nat) (v4 : Value) (n : Nat) (old : Value), (S_fl w F E I kl (esL4 h1 t1 (.ref sf) h2 t2 (.int y u) h3 t3 v3 h4 t4 v4) n old (i + 1) ks m [] r).Holds (VV w)) (x : Int) (t : Nat) (hv : ks[i]? = some (.int x t)) : (S_fl w F E I kl (esL4 h1 t1 (.ref sf) h2 t2 (.int y u) h3 t3 v3 h4 t4 v4) n old i ks m [kind2 (.int x t) (.int y u), !sameV (.int x t) (.int y u)] r).Holds (VV w) :=
  (byRow2 "special-get-raises" (P := fun w => (S_fl w F E I kl (esL4 h1 t1 (.ref sf) h2 t2 (.int y u) h3 t3 v3 h4 t4 v4) n old i ks m [kind2 (.int x t) (.int y u), !sameV (.int x t) (.int y u)] r).Holds (VV w)) (fun w => start_holds (F := F_rest (w.withFollow "special-get-raises" false) (F_next (w.withFollow "special-get-raises" false) I kl ks m i _ hv) F E I kl h1 t1 sf h2 t2 (.int y u) (i + 1) ks m r (ih (w.withFollow "special-get-raises" false))) (vok _) 1000 ⟨[2,2,2,3,3,3,4,0,2,2,2,2,2,2,2,2,2,2,2,2,2,2,2,2,2,5,5,5,5,6,6,6,6,6,5,6,6,6,6,6,6,5,6,6,6,6,6,6,5,6,6,8,1,1,1,1,0,1,1,0,2,1,2,1,2,3,4,0], [], [3]⟩ fun m t => by
      rw [PySem.W.ZFast.startZ_eq]
      kernel_rfl) (fun w => start_holds (F := F_rest (w.withFollow "special-get-raises" true) (F_next (w.withFollow "special-get-raises" true) I kl ks m i _ hv) F E I kl h1 t1 sf h2 t2 (.int y u) (i + 1) ks m r (ih (w.withFollow "special-get-raises" true))) (vok _) 1000 ⟨[2,2,2,3,3,3,4,0,2,2,2,2,2,2,2,2,2,2,2,2,2,2,2,2,2,5,5,5,5,6,6,6,6,6,5,6,6,6,6,6,6,5,6,6,6,6,6,6,5,6,6,8,1,1,1,1,0,1,1,0,2,1,2,1,2,3,4,0], [], [3]⟩ fun m t => by
      rw [PySem.W.ZFast.startZ_eq]
      kernel_rfl) w)
theorem flE1 (w : World) (F E I kl : Nat) (h1 : Int) (t1 : Nat) (sf : Nat) (h2 : Int) (t2 : Nat) (key : Value) (n : Nat) (old : Value) (i : Nat) (ks : Array Value) (m : Nat) (hv : ks[i]? = none) : (S_fl w F E I kl (esL2 h1 t1 (.ref sf) h2 t2 key) n old i ks m [] (fun _ => .ok .next)).Holds (VV w) :=
  start_holds (F := F_nextE w kl ks m i hv) (vok _) 1000 ⟨[2,2,2,3,3,3,4,0,6], [], [0]⟩ fun m t => by
      rw [PySem.W.ZFast.startZ_eq]
      kernel_rfl
theorem flE2 (w : World) (F E I kl : Nat) (h1 : Int) (t1 : Nat) (sf : Nat) (h2 : Int) (t2 : Nat) (key : Value) (h3 : Int) (t3 : Nat) (v3 : Value) (h4 : Int) (t4 : Nat) (v4 : Value) (n : Nat) (old : Value) (i : Nat) (ks : Array Value) (m : Nat) (hv : ks[i]? = none) : (S_fl w F E I kl (esL4 h1 t1 (.ref sf) h2 t2 key h3 t3 v3 h4 t4 v4) n old i ks m [] (fun _ => .ok .next)).Holds (VV w) :=
  start_holds (F := F_nextE w kl ks m i hv) (vok _) 1000 ⟨[2,2,2,3,3,3,4,0,6], [], [0]⟩ fun m t => by
      rw [PySem.W.ZFast.startZ_eq]
      kernel_rfl
/-! the loop's law -/
/-- a key, and keys of its kind -/
def kinds (ks : Array Value) (key : Value) : Bool := ks.toList.all fun k => kind2 k key
noncomputable def flRes (o : Option Nat) : List Nat → Result := match o with
  | some j => fun ts => .ok (.ret (.int (Int.ofNat j) (nth ts 0)))
  | none => fun _ => .ok .next
theorem findI_step {ks : List Value} {key v : Value} {i : Nat} (h : ks[i]? = some v) : findI (ks.drop i) key i = match sameV v key with | true => some i | false => findI (ks.drop (i + 1)) key (i + 1) := by
  have hi : i < ks.length := by
    rcases Nat.lt_or_ge i ks.length with q | q
    · exact q
    · rw [List.getElem?_eq_none q] at h; cases h
  have e : ks.drop i = v :: ks.drop (i + 1) := by
    rw [List.drop_eq_getElem_cons hi]
    rw [List.getElem?_eq_getElem hi] at h
    cases h; rfl
  rw [e]; rfl
theorem kind2_cases {v v' : Value} (h : kind2 v v' = true) : (∃ x t y u, v = .int x t ∧ v' = .int y u) ∨ (∃ x t y u, v = .bytes x t ∧ v' = .bytes y u) := by
  cases v <;> cases v' <;> first | exact .inl ⟨_, _, _, _, rfl, rfl⟩ | exact .inr ⟨_, _, _, _, rfl, rfl⟩ | cases h
theorem fl_later (w : World) (F E I kl : Nat) (h1 : Int) (t1 : Nat) (sf : Nat) (h2 : Int) (t2 : Nat) (key : Value) (ks : Array Value) (m : Nat) (hk : kinds ks key = true) : ∀ (k i : Nat), ks.size - i = k → ∀ (w : World) (h3 : Int) (t3 : Nat) (v3 : Value) (h4 : Int) (t4 : Nat) (v4 : Value) (n : Nat) (old : Value),
    (S_fl w F E I kl (esL4 h1 t1 (.ref sf) h2 t2 key h3 t3 v3 h4 t4 v4) n old i ks m [] (flRes (findI (ks.toList.drop i) key i))).Holds (VV w) := by
  intro k
  induction k with
  | zero =>
    intro i hi w h3 t3 v3 h4 t4 v4 n old
    have hn : ks[i]? = none := Array.getElem?_eq_none (by omega)
    have : ks.toList.drop i = [] := List.drop_eq_nil_of_le (by rw [Array.length_toList]; omega)
    rw [this]
    exact flE2 w F E I kl h1 t1 sf h2 t2 key h3 t3 v3 h4 t4 v4 n old i ks m hn
  | succ k ih =>
    intro i hi w h3 t3 v3 h4 t4 v4 n old
    have hlt : i < ks.size := by omega
    have hv : ks[i]? = some ks[i] := Array.getElem?_eq_getElem hlt
    have hk2 : kind2 ks[i] key = true := List.all_eq_true.mp hk _ (Array.getElem_mem_toList hlt)
    rw [findI_step (v := ks[i]) (by rw [Array.getElem?_toList]; exact hv)]
    generalize ks[i] = v at hv hk2
    have ih' := ih (i + 1) (by omega)
    have go : ∀ {nd : List Bool} {r : List Nat → Result}, (S_fl w F E I kl (esL4 h1 t1 (.ref sf) h2 t2 key h3 t3 v3 h4 t4 v4) n old i ks m nd r).Holds (VV w) → (∀ b ∈ nd, b = true) → (S_fl w F E I kl (esL4 h1 t1 (.ref sf) h2 t2 key h3 t3 v3 h4 t4 v4) n old i ks m [] r).Holds (VV w) := fun h n => Spec.Holds.less h n
    cases hs : sameV v key with
    | true =>
      rcases kind2_cases hk2 with ⟨x, t, y, u, rfl, rfl⟩ | ⟨x, t, y, u, rfl, rfl⟩
      · exact go (flT2I w F E I kl h1 t1 sf h2 t2 y u h3 t3 v3 h4 t4 v4 n old i ks m x t hv) (by intro b hb; simp only [List.mem_cons, List.not_mem_nil, or_false] at hb; rcases hb with rfl | rfl <;> assumption)
      · exact go (flT2B w F E I kl h1 t1 sf h2 t2 y u h3 t3 v3 h4 t4 v4 n old i ks m x t hv) (by intro b hb; simp only [List.mem_cons, List.not_mem_nil, or_false] at hb; rcases hb with rfl | rfl <;> assumption)
    | false =>
      rcases kind2_cases hk2 with ⟨x, t, y, u, rfl, rfl⟩ | ⟨x, t, y, u, rfl, rfl⟩
      · exact go (flN2I w F E I kl h1 t1 sf h2 t2 y u h3 t3 v3 h4 t4 v4 n old i ks m _ ih' x t hv) (by intro b hb; simp only [List.mem_cons, List.not_mem_nil, or_false] at hb; rcases hb with rfl | rfl <;> first | assumption | (rw [hs]; rfl))
      · exact go (flN2B w F E I kl h1 t1 sf h2 t2 y u h3 t3 v3 h4 t4 v4 n old i ks m _ ih' x t hv) (by intro b hb; simp only [List.mem_cons, List.not_mem_nil, or_false] at hb; rcases hb with rfl | rfl <;> first | assumption | (rw [hs]; rfl))
theorem fl_first (w : World) (F E I kl : Nat) (h1 : Int) (t1 : Nat) (sf : Nat) (h2 : Int) (t2 : Nat) (key : Value) (ks : Array Value) (m : Nat) (hk : kinds ks key = true) (n : Nat) (old : Value) :
    (S_fl w F E I kl (esL2 h1 t1 (.ref sf) h2 t2 key) n old 0 ks m [] (flRes (findI ks.toList key 0))).Holds (VV w) := by
  rcases Nat.eq_zero_or_pos ks.size with h0 | hlt
  · have hn : ks[0]? = none := Array.getElem?_eq_none (by omega)
    have : ks.toList = [] := List.eq_nil_of_length_eq_zero (by rw [Array.length_toList]; exact h0)
    rw [this]
    exact flE1 w F E I kl h1 t1 sf h2 t2 key n old 0 ks m hn
  · have hv : ks[0]? = some ks[0] := Array.getElem?_eq_getElem hlt
    have hk2 : kind2 ks[0] key = true := List.all_eq_true.mp hk _ (Array.getElem_mem_toList hlt)
    have e := findI_step (ks := ks.toList) (key := key) (i := 0) (v := ks[0]) (by rw [Array.getElem?_toList]; exact hv)
    rw [List.drop_zero] at e
    rw [e]
    generalize ks[0] = v at hv hk2
    have ih' := fl_later w F E I kl h1 t1 sf h2 t2 key ks m hk _ 1 rfl
    have go : ∀ {nd : List Bool} {r : List Nat → Result}, (S_fl w F E I kl (esL2 h1 t1 (.ref sf) h2 t2 key) n old 0 ks m nd r).Holds (VV w) → (∀ b ∈ nd, b = true) → (S_fl w F E I kl (esL2 h1 t1 (.ref sf) h2 t2 key) n old 0 ks m [] r).Holds (VV w) := fun h n => Spec.Holds.less h n
    cases hs : sameV v key with
    | true =>
      rcases kind2_cases hk2 with ⟨x, t, y, u, rfl, rfl⟩ | ⟨x, t, y, u, rfl, rfl⟩
      · exact go (flT1I w F E I kl h1 t1 sf h2 t2 y u n old 0 ks m x t hv) (by intro b hb; simp only [List.mem_cons, List.not_mem_nil, or_false] at hb; rcases hb with rfl | rfl <;> assumption)
      · exact go (flT1B w F E I kl h1 t1 sf h2 t2 y u n old 0 ks m x t hv) (by intro b hb; simp only [List.mem_cons, List.not_mem_nil, or_false] at hb; rcases hb with rfl | rfl <;> assumption)
    | false =>
      rcases kind2_cases hk2 with ⟨x, t, y, u, rfl, rfl⟩ | ⟨x, t, y, u, rfl, rfl⟩
      · exact go (flN1I w F E I kl h1 t1 sf h2 t2 y u n old 0 ks m _ ih' x t hv) (by intro b hb; simp only [List.mem_cons, List.not_mem_nil, or_false] at hb; rcases hb with rfl | rfl <;> first | assumption | (rw [hs]; rfl))
      · exact go (flN1B w F E I kl h1 t1 sf h2 t2 y u n old 0 ks m _ ih' x t hv) (by intro b hb; simp only [List.mem_cons, List.not_mem_nil, or_false] at hb; rcases hb with rfl | rfl <;> first | assumption | (rw [hs]; rfl))
end Mine
end

section
open PySem PySem.W PySem.W.X PyProof.Rows
set_option maxRecDepth 1000000
set_option maxHeartbeats 0
namespace Mine
/-! a table: its dict's entries -/
structure Tab where
  h1 : Int
  t1 : Nat
  num : Value
  h2 : Int
  t2 : Nat
  kl : Nat
  h3 : Int
  t3 : Nat
  vl : Nat
  h4 : Int
  t4 : Nat
  mt : Value
  n : Nat
def Tab.obj (T : Tab) : Obj := oDict #[en T.h1 (⟨#[110,117,109,98,101,114]⟩ : Str) T.t1 T.num, en T.h2 (⟨#[107,101,121,115]⟩ : Str) T.t2 (.ref T.kl), en T.h3 (⟨#[118,97,108,117,101,115]⟩ : Str) T.t3 (.ref T.vl), en T.h4 (⟨#[109,101,116,97]⟩ : Str) T.t4 T.mt] T.n
def strTok (v : Value) : Nat := match v with | .str _ t => t | _ => 0
def refOf (v : Value) : Nat := match v with | .ref a => a | _ => 0
def tabOf (o : Obj) : Option Tab := match o.data with
  | .dict es n => match es.toList with
    | [e1, e2, e3, e4] => some ⟨e1.hash, strTok e1.key, e1.val, e2.hash, strTok e2.key, refOf e2.val, e3.hash, strTok e3.key, refOf e3.val, e4.hash, strTok e4.key, e4.val, n⟩
    | _ => none
  | _ => none
def seqOf (o : Obj) : Option (Array Value × Nat) := match o.data with
  | .seq xs n => some (xs, n)
  | _ => none
/-! find -/
def findV (o : Option Nat) : Int := match o with | some j => Int.ofNat j | none => -1
noncomputable def S_find (a d : Nat) (T : Tab) (ks : Array Value) (m : Nat) (key : Value) (nd : List Bool) (r : Int) : Spec := { code := .call (.ref 203) ⟨[.ref a, key], []⟩, dep := 770, need := nd, pre := [(a, oInst 234 d), (d, T.obj), (T.kl, oList ks m)], touch := [], na := 0, nt := 1, res := fun _ ts => .ok (.ret (.int r (nth ts 0))), postT := fun _ _ => [], postN := fun _ _ => [] }
noncomputable def F_loop (w : World) (a : Nat) (key : Value) (ks : Array Value) (m : Nat) (kl : Nat) (r : List Nat → Result)
    (ih : ∀ (F E I : Nat) (h1 : Int) (t1 : Nat) (h2 : Int) (t2 : Nat) (n : Nat) (old : Value), (S_fl w F E I kl (esL2 h1 t1 (.ref a) h2 t2 key) n old 0 ks m [] r).Holds (VV w)) (c : Code) : Option (Dp (VV w)) := match c with
  | .forLoop _ _ _ _ _ => some ⟨4, fun as os _ => match as with
    | [F, E, I, _] => match os with
      | [oF, oE, _, _] => match oF.data with
        | .dict es n => match es.toList with
          | [e1, e2] => match oE.data with
            | .fields vs => some ⟨_, ih F E I e1.hash (strTok e1.key) e2.hash (strTok e2.key) n (vs.toList.getD 5 .none)⟩
            | _ => none
          | _ => none
        | _ => none
      | _ => none
    | _ => none⟩
  | _ => none
theorem findTB (w : World) (a d : Nat) (T : Tab) (ks : Array Value) (m : Nat) (y : Array UInt8) (u : Nat) (j : Nat) (ih : ∀ (w : World) (F E I : Nat) (h1 : Int) (t1 : Nat) (h2 : Int) (t2 : Nat) (n : Nat) (old : Value), (S_fl w F E I T.kl (esL2 h1 t1 (.ref a) h2 t2 (.bytes y u)) n old 0 ks m [] (flRes (some j))).Holds (VV w)) : (S_find a d T ks m (.bytes y u) [] (Int.ofNat j)).Holds (VV w) :=
  (byRow2 "special-get-raises" (P := fun w => (S_find a d T ks m (.bytes y u) [] (Int.ofNat j)).Holds (VV w)) (fun w => start_holds (F := F_loop (w.withFollow "special-get-raises" false) a (.bytes y u) ks m T.kl (flRes (some j)) (ih (w.withFollow "special-get-raises" false))) (vok _) 1000 ⟨[0,0,4,4,4,4,0,0,4,1,0,0,0,1,0,0,0,1,1,0,2,3,3,3,5,6,6,6,6,6,6,6,6,4,6,5,3,0], [], [3]⟩ fun m t => by
      rw [PySem.W.ZFast.startZ_eq]
      kernel_rfl) (fun w => start_holds (F := F_loop (w.withFollow "special-get-raises" true) a (.bytes y u) ks m T.kl (flRes (some j)) (ih (w.withFollow "special-get-raises" true))) (vok _) 1000 ⟨[0,0,4,4,4,4,0,0,4,1,0,0,0,1,0,0,0,1,1,0,2,3,3,3,5,6,6,6,6,6,6,6,6,4,6,5,3,0], [], [3]⟩ fun m t => by
      rw [PySem.W.ZFast.startZ_eq]
      kernel_rfl) w)
theorem findNB (w : World) (a d : Nat) (T : Tab) (ks : Array Value) (m : Nat) (y : Array UInt8) (u : Nat) (ih : ∀ (w : World) (F E I : Nat) (h1 : Int) (t1 : Nat) (h2 : Int) (t2 : Nat) (n : Nat) (old : Value), (S_fl w F E I T.kl (esL2 h1 t1 (.ref a) h2 t2 (.bytes y u)) n old 0 ks m [] (flRes none)).Holds (VV w)) : (S_find a d T ks m (.bytes y u) [] (-1)).Holds (VV w) :=
  (byRow2 "special-get-raises" (P := fun w => (S_find a d T ks m (.bytes y u) [] (-1)).Holds (VV w)) (fun w => start_holds (F := F_loop (w.withFollow "special-get-raises" false) a (.bytes y u) ks m T.kl (flRes none) (ih (w.withFollow "special-get-raises" false))) (vok _) 1000 ⟨[0,0,4,4,4,4,0,0,4,1,0,0,0,1,0,0,0,1,1,0,2,3,3,3,5,6,6,6,6,6,6,6,6,4,6,5,3,0], [], [5]⟩ fun m t => by
      rw [PySem.W.ZFast.startZ_eq]
      kernel_rfl) (fun w => start_holds (F := F_loop (w.withFollow "special-get-raises" true) a (.bytes y u) ks m T.kl (flRes none) (ih (w.withFollow "special-get-raises" true))) (vok _) 1000 ⟨[0,0,4,4,4,4,0,0,4,1,0,0,0,1,0,0,0,1,1,0,2,3,3,3,5,6,6,6,6,6,6,6,6,4,6,5,3,0], [], [5]⟩ fun m t => by
      rw [PySem.W.ZFast.startZ_eq]
      kernel_rfl) w)
theorem findTI (w : World) (a d : Nat) (T : Tab) (ks : Array Value) (m : Nat) (y : Int) (u : Nat) (j : Nat) (ih : ∀ (w : World) (F E I : Nat) (h1 : Int) (t1 : Nat) (h2 : Int) (t2 : Nat) (n : Nat) (old : Value), (S_fl w F E I T.kl (esL2 h1 t1 (.ref a) h2 t2 (.int y u)) n old 0 ks m [] (flRes (some j))).Holds (VV w)) : (S_find a d T ks m (.int y u) [] (Int.ofNat j)).Holds (VV w) :=
  (byRow2 "special-get-raises" (P := fun w => (S_find a d T ks m (.int y u) [] (Int.ofNat j)).Holds (VV w)) (fun w => start_holds (F := F_loop (w.withFollow "special-get-raises" false) a (.int y u) ks m T.kl (flRes (some j)) (ih (w.withFollow "special-get-raises" false))) (vok _) 1000 ⟨[0,0,4,4,4,4,0,0,4,1,0,0,0,1,0,0,0,1,1,0,2,3,3,3,5,6,6,6,6,6,6,6,6,4,6,5,3,0], [], [3]⟩ fun m t => by
      rw [PySem.W.ZFast.startZ_eq]
      kernel_rfl) (fun w => start_holds (F := F_loop (w.withFollow "special-get-raises" true) a (.int y u) ks m T.kl (flRes (some j)) (ih (w.withFollow "special-get-raises" true))) (vok _) 1000 ⟨[0,0,4,4,4,4,0,0,4,1,0,0,0,1,0,0,0,1,1,0,2,3,3,3,5,6,6,6,6,6,6,6,6,4,6,5,3,0], [], [3]⟩ fun m t => by
      rw [PySem.W.ZFast.startZ_eq]
      kernel_rfl) w)
theorem findNI (w : World) (a d : Nat) (T : Tab) (ks : Array Value) (m : Nat) (y : Int) (u : Nat) (ih : ∀ (w : World) (F E I : Nat) (h1 : Int) (t1 : Nat) (h2 : Int) (t2 : Nat) (n : Nat) (old : Value), (S_fl w F E I T.kl (esL2 h1 t1 (.ref a) h2 t2 (.int y u)) n old 0 ks m [] (flRes none)).Holds (VV w)) : (S_find a d T ks m (.int y u) [] (-1)).Holds (VV w) :=
  (byRow2 "special-get-raises" (P := fun w => (S_find a d T ks m (.int y u) [] (-1)).Holds (VV w)) (fun w => start_holds (F := F_loop (w.withFollow "special-get-raises" false) a (.int y u) ks m T.kl (flRes none) (ih (w.withFollow "special-get-raises" false))) (vok _) 1000 ⟨[0,0,4,4,4,4,0,0,4,1,0,0,0,1,0,0,0,1,1,0,2,3,3,3,5,6,6,6,6,6,6,6,6,4,6,5,3,0], [], [5]⟩ fun m t => by
      rw [PySem.W.ZFast.startZ_eq]
      kernel_rfl) (fun w => start_holds (F := F_loop (w.withFollow "special-get-raises" true) a (.int y u) ks m T.kl (flRes none) (ih (w.withFollow "special-get-raises" true))) (vok _) 1000 ⟨[0,0,4,4,4,4,0,0,4,1,0,0,0,1,0,0,0,1,1,0,2,3,3,3,5,6,6,6,6,6,6,6,6,4,6,5,3,0], [], [5]⟩ fun m t => by
      rw [PySem.W.ZFast.startZ_eq]
      kernel_rfl) w)
/-- int or bytes -/
def plain (v : Value) : Bool := match v with | .int .. => true | .bytes .. => true | _ => false
theorem find_any (w : World) (a d : Nat) (T : Tab) (ks : Array Value) (m : Nat) (key : Value) : (S_find a d T ks m key [plain key, kinds ks key] (findV (findI ks.toList key 0))).Holds (VV w) :=
  Spec.Holds.more (S := S_find a d T ks m key [] (findV (findI ks.toList key 0))) (fun q => by
    have hp := q _ (List.mem_cons_self ..)
    have hk := q _ (List.mem_cons_of_mem _ (List.mem_cons_self ..))
    have ih := fun w F E I h1 t1 h2 t2 n old => fl_first w F E I T.kl h1 t1 a h2 t2 key ks m hk n old
    cases hf : findI ks.toList key 0 with
    | none =>
      rw [hf] at ih
      match key, hp, ih with
      | .int y u, _, ih => exact findNI w a d T ks m y u ih
      | .bytes y u, _, ih => exact findNB w a d T ks m y u ih
    | some j =>
      rw [hf] at ih
      match key, hp, ih with
      | .int y u, _, ih => exact findTI w a d T ks m y u j ih
      | .bytes y u, _, ih => exact findTB w a d T ks m y u j ih) rfl
end Mine
end

section
open PySem PySem.W PySem.W.X PyProof.Rows
set_option maxRecDepth 1000000
set_option maxHeartbeats 0
namespace Mine
noncomputable def F_at (w : World) (SF : Spec) (hF : SF.Holds (VV w)) (l : Nat) (xs : Array Value) (n j : Nat) (v : Value) (hv : xs[j]? = some v) (hj : j < 1000000) (c : Code) : Option (Dp (VV w)) := match c with
  | .call (.ref f) ⟨[_, _], []⟩ => match Nat.beq f 203 with
    | true => some ⟨3, fun _ _ _ => some ⟨SF, hF⟩⟩
    | false => none
  | .builtin id ⟨[.ref _, .int _ t], []⟩ => match idIs id 128106587276438692081757506308484131437 with
    | true => some ⟨1, fun _ _ _ => some ⟨S_item l xs n j t v, item_at hv hj⟩⟩
    | false => none
  | .builtin id ⟨[.ref _, .int _ t, v'], []⟩ => match idIs id 128106587276438692082622197436939266669 with
    | true => some ⟨1, fun _ _ _ => some ⟨S_put l xs n j t v', put_at (by
        rcases Nat.lt_or_ge j xs.size with q | q
        · exact q
        · rw [Array.getElem?_eq_none q] at hv; cases hv) hj⟩⟩
    | false => none
  | _ => none
noncomputable def F_no (w : World) (SF : Spec) (hF : SF.Holds (VV w)) (c : Code) : Option (Dp (VV w)) := match c with
  | .call (.ref f) ⟨[_, _], []⟩ => match Nat.beq f 203 with
    | true => some ⟨3, fun _ _ _ => some ⟨SF, hF⟩⟩
    | false => none
  | .builtin id ⟨[.ref l, v'], []⟩ => match idIs id 122627580202994350266018413 with
    | true => some ⟨1, fun _ os _ => match os with
      | [o] => match seqOf o with
        | some (xs, n) => some ⟨S_push l xs n v', push_at⟩
        | none => none
      | _ => none⟩
    | false => none
  | _ => none
/-! get -/
noncomputable def S_get (a d : Nat) (T : Tab) (ks : Array Value) (m : Nat) (vs : Array Value) (mv : Nat) (key : Value) (nd : List Bool) (v : Value) : Spec := { code := .call (.ref 210) ⟨[.ref a, key], []⟩, dep := 760, need := nd, pre := [(a, oInst 234 d), (d, T.obj), (T.kl, oList ks m), (T.vl, oList vs mv)], touch := [], na := 0, nt := 0, res := fun _ _ => .ok (.ret v), postT := fun _ _ => [], postN := fun _ _ => [] }
noncomputable def S_set (a d : Nat) (T : Tab) (ks : Array Value) (m : Nat) (vs : Array Value) (mv : Nat) (key v : Value) (nd : List Bool) (ks' : Array Value) (m' : Nat) (vs' : Array Value) (mv' : Nat) : Spec := { code := .call (.ref 217) ⟨[.ref a, key, v], []⟩, dep := 760, need := nd, pre := [(a, oInst 234 d), (d, T.obj), (T.kl, oList ks m), (T.vl, oList vs mv)], touch := [2,3], na := 0, nt := 0, res := fun _ _ => .ok (.ret .none), postT := fun _ _ => [some (oList ks' m'), some (oList vs' mv')], postN := fun _ _ => [] }
theorem getNB (w : World) (a d : Nat) (T : Tab) (ks : Array Value) (m : Nat) (vs : Array Value) (mv : Nat) (y : Array UInt8) (u : Nat) (hF : ∀ w : World, (S_find a d T ks m (.bytes y u) [] (-1)).Holds (VV w)) : (S_get a d T ks m vs mv (.bytes y u) [] .none).Holds (VV w) :=
  (byRow2 "special-get-raises" (P := fun w => (S_get a d T ks m vs mv (.bytes y u) [] .none).Holds (VV w)) (fun w => start_holds (F := F_no (w.withFollow "special-get-raises" false) _ (hF (w.withFollow "special-get-raises" false))) (vok _) 1000 ⟨[0,0,5,5,5,5,5,1,0,0,0,1,0,0,0,1,0,0,0,0,1,2,5,0,1,2,3,0,5,5,5], [], []⟩ fun m t => by
      rw [PySem.W.ZFast.startZ_eq]
      kernel_rfl) (fun w => start_holds (F := F_no (w.withFollow "special-get-raises" true) _ (hF (w.withFollow "special-get-raises" true))) (vok _) 1000 ⟨[0,0,5,5,5,5,5,1,0,0,0,1,0,0,0,1,0,0,0,0,1,2,5,0,1,2,3,0,5,5,5], [], []⟩ fun m t => by
      rw [PySem.W.ZFast.startZ_eq]
      kernel_rfl) w)
theorem setNB (w : World) (a d : Nat) (T : Tab) (ks : Array Value) (m : Nat) (vs : Array Value) (mv : Nat) (y : Array UInt8) (u : Nat) (hF : ∀ w : World, (S_find a d T ks m (.bytes y u) [] (-1)).Holds (VV w)) : (S_set a d T ks m vs mv (.bytes y u) .none [] ks m vs mv).Holds (VV w) :=
  (byRow2 "special-get-raises" (P := fun w => (S_set a d T ks m vs mv (.bytes y u) .none [] ks m vs mv).Holds (VV w)) (fun w => start_holds (F := F_no (w.withFollow "special-get-raises" false) _ (hF (w.withFollow "special-get-raises" false))) (vok _) 1000 ⟨[0,0,5,5,5,5,5,5,5,1,0,0,0,1,0,0,0,1,0,0,0,0,1,2,5,0,1,2,3,0,5,5,5,5], [], []⟩ fun m t => by
      rw [PySem.W.ZFast.startZ_eq]
      kernel_rfl) (fun w => start_holds (F := F_no (w.withFollow "special-get-raises" true) _ (hF (w.withFollow "special-get-raises" true))) (vok _) 1000 ⟨[0,0,5,5,5,5,5,5,5,1,0,0,0,1,0,0,0,1,0,0,0,0,1,2,5,0,1,2,3,0,5,5,5,5], [], []⟩ fun m t => by
      rw [PySem.W.ZFast.startZ_eq]
      kernel_rfl) w)
theorem getTBR (w : World) (a d : Nat) (T : Tab) (ks : Array Value) (m : Nat) (vs : Array Value) (mv : Nat) (y : Array UInt8) (u : Nat) (j : Nat) (hF : ∀ w : World, (S_find a d T ks m (.bytes y u) [] (Int.ofNat j)).Holds (VV w)) (z : Nat) (hv : vs[j]? = some (.ref z)) (hj : j < 1000000) : (S_get a d T ks m vs mv (.bytes y u) [] (.ref z)).Holds (VV w) :=
  (byRow2 "special-get-raises" (P := fun w => (S_get a d T ks m vs mv (.bytes y u) [] (.ref z)).Holds (VV w)) (fun w => start_holds (F := F_at (w.withFollow "special-get-raises" false) _ (hF (w.withFollow "special-get-raises" false)) T.vl vs mv j _ hv hj) (vok _) 1000 ⟨[0,0,5,5,5,5,5,1,0,0,0,1,0,0,0,1,0,0,0,0,1,2,5,0,1,2,3,0,5,5,5,5,1,0,0,0,1,0,0,0,1,1,0,2,5,4,4,4,4,4,0], [], []⟩ fun m t => by
      rw [PySem.W.ZFast.startZ_eq]
      kernel_rfl) (fun w => start_holds (F := F_at (w.withFollow "special-get-raises" true) _ (hF (w.withFollow "special-get-raises" true)) T.vl vs mv j _ hv hj) (vok _) 1000 ⟨[0,0,5,5,5,5,5,1,0,0,0,1,0,0,0,1,0,0,0,0,1,2,5,0,1,2,3,0,5,5,5,5,1,0,0,0,1,0,0,0,1,1,0,2,5,4,4,4,4,4,0], [], []⟩ fun m t => by
      rw [PySem.W.ZFast.startZ_eq]
      kernel_rfl) w)
theorem setFBR (w : World) (a d : Nat) (T : Tab) (ks : Array Value) (m : Nat) (vs : Array Value) (mv : Nat) (y : Array UInt8) (u : Nat) (j : Nat) (hF : ∀ w : World, (S_find a d T ks m (.bytes y u) [] (Int.ofNat j)).Holds (VV w)) (z : Nat) (v₀ : Value) (hv : vs[j]? = some v₀) (hj : j < 1000000) : (S_set a d T ks m vs mv (.bytes y u) (.ref z) [] ks m (vs.setIfInBounds j (.ref z)) mv).Holds (VV w) :=
  (byRow2 "special-get-raises" (P := fun w => (S_set a d T ks m vs mv (.bytes y u) (.ref z) [] ks m (vs.setIfInBounds j (.ref z)) mv).Holds (VV w)) (fun w => start_holds (F := F_at (w.withFollow "special-get-raises" false) _ (hF (w.withFollow "special-get-raises" false)) T.vl vs mv j _ hv hj) (vok _) 1000 ⟨[0,0,5,5,5,5,5,5,5,1,0,0,0,1,0,0,0,1,0,0,0,0,1,2,5,0,1,2,3,0,5,5,5,5,5,1,0,0,0,1,0,0,0,1,1,0,2,5,4,4,4,4,0], [], []⟩ fun m t => by
      rw [PySem.W.ZFast.startZ_eq]
      kernel_rfl) (fun w => start_holds (F := F_at (w.withFollow "special-get-raises" true) _ (hF (w.withFollow "special-get-raises" true)) T.vl vs mv j _ hv hj) (vok _) 1000 ⟨[0,0,5,5,5,5,5,5,5,1,0,0,0,1,0,0,0,1,0,0,0,0,1,2,5,0,1,2,3,0,5,5,5,5,5,1,0,0,0,1,0,0,0,1,1,0,2,5,4,4,4,4,0], [], []⟩ fun m t => by
      rw [PySem.W.ZFast.startZ_eq]
      kernel_rfl) w)
theorem getTBI (w : World) (a d : Nat) (T : Tab) (ks : Array Value) (m : Nat) (vs : Array Value) (mv : Nat) (y : Array UInt8) (u : Nat) (j : Nat) (hF : ∀ w : World, (S_find a d T ks m (.bytes y u) [] (Int.ofNat j)).Holds (VV w)) (z : Int) (s : Nat) (hv : vs[j]? = some (.int z s)) (hj : j < 1000000) : (S_get a d T ks m vs mv (.bytes y u) [] (.int z s)).Holds (VV w) :=
  (byRow2 "special-get-raises" (P := fun w => (S_get a d T ks m vs mv (.bytes y u) [] (.int z s)).Holds (VV w)) (fun w => start_holds (F := F_at (w.withFollow "special-get-raises" false) _ (hF (w.withFollow "special-get-raises" false)) T.vl vs mv j _ hv hj) (vok _) 1000 ⟨[0,0,5,5,5,5,5,1,0,0,0,1,0,0,0,1,0,0,0,0,1,2,5,0,1,2,3,0,5,5,5,5,1,0,0,0,1,0,0,0,1,1,0,2,5,4,4,4,4,4,0], [], []⟩ fun m t => by
      rw [PySem.W.ZFast.startZ_eq]
      kernel_rfl) (fun w => start_holds (F := F_at (w.withFollow "special-get-raises" true) _ (hF (w.withFollow "special-get-raises" true)) T.vl vs mv j _ hv hj) (vok _) 1000 ⟨[0,0,5,5,5,5,5,1,0,0,0,1,0,0,0,1,0,0,0,0,1,2,5,0,1,2,3,0,5,5,5,5,1,0,0,0,1,0,0,0,1,1,0,2,5,4,4,4,4,4,0], [], []⟩ fun m t => by
      rw [PySem.W.ZFast.startZ_eq]
      kernel_rfl) w)
theorem setFBI (w : World) (a d : Nat) (T : Tab) (ks : Array Value) (m : Nat) (vs : Array Value) (mv : Nat) (y : Array UInt8) (u : Nat) (j : Nat) (hF : ∀ w : World, (S_find a d T ks m (.bytes y u) [] (Int.ofNat j)).Holds (VV w)) (z : Int) (s : Nat) (v₀ : Value) (hv : vs[j]? = some v₀) (hj : j < 1000000) : (S_set a d T ks m vs mv (.bytes y u) (.int z s) [] ks m (vs.setIfInBounds j (.int z s)) mv).Holds (VV w) :=
  (byRow2 "special-get-raises" (P := fun w => (S_set a d T ks m vs mv (.bytes y u) (.int z s) [] ks m (vs.setIfInBounds j (.int z s)) mv).Holds (VV w)) (fun w => start_holds (F := F_at (w.withFollow "special-get-raises" false) _ (hF (w.withFollow "special-get-raises" false)) T.vl vs mv j _ hv hj) (vok _) 1000 ⟨[0,0,5,5,5,5,5,5,5,1,0,0,0,1,0,0,0,1,0,0,0,0,1,2,5,0,1,2,3,0,5,5,5,5,5,1,0,0,0,1,0,0,0,1,1,0,2,5,4,4,4,4,0], [], []⟩ fun m t => by
      rw [PySem.W.ZFast.startZ_eq]
      kernel_rfl) (fun w => start_holds (F := F_at (w.withFollow "special-get-raises" true) _ (hF (w.withFollow "special-get-raises" true)) T.vl vs mv j _ hv hj) (vok _) 1000 ⟨[0,0,5,5,5,5,5,5,5,1,0,0,0,1,0,0,0,1,0,0,0,0,1,2,5,0,1,2,3,0,5,5,5,5,5,1,0,0,0,1,0,0,0,1,1,0,2,5,4,4,4,4,0], [], []⟩ fun m t => by
      rw [PySem.W.ZFast.startZ_eq]
      kernel_rfl) w)
theorem getTBB (w : World) (a d : Nat) (T : Tab) (ks : Array Value) (m : Nat) (vs : Array Value) (mv : Nat) (y : Array UInt8) (u : Nat) (j : Nat) (hF : ∀ w : World, (S_find a d T ks m (.bytes y u) [] (Int.ofNat j)).Holds (VV w)) (z : Array UInt8) (s : Nat) (hv : vs[j]? = some (.bytes z s)) (hj : j < 1000000) : (S_get a d T ks m vs mv (.bytes y u) [] (.bytes z s)).Holds (VV w) :=
  (byRow2 "special-get-raises" (P := fun w => (S_get a d T ks m vs mv (.bytes y u) [] (.bytes z s)).Holds (VV w)) (fun w => start_holds (F := F_at (w.withFollow "special-get-raises" false) _ (hF (w.withFollow "special-get-raises" false)) T.vl vs mv j _ hv hj) (vok _) 1000 ⟨[0,0,5,5,5,5,5,1,0,0,0,1,0,0,0,1,0,0,0,0,1,2,5,0,1,2,3,0,5,5,5,5,1,0,0,0,1,0,0,0,1,1,0,2,5,4,4,4,4,4,0], [], []⟩ fun m t => by
      rw [PySem.W.ZFast.startZ_eq]
      kernel_rfl) (fun w => start_holds (F := F_at (w.withFollow "special-get-raises" true) _ (hF (w.withFollow "special-get-raises" true)) T.vl vs mv j _ hv hj) (vok _) 1000 ⟨[0,0,5,5,5,5,5,1,0,0,0,1,0,0,0,1,0,0,0,0,1,2,5,0,1,2,3,0,5,5,5,5,1,0,0,0,1,0,0,0,1,1,0,2,5,4,4,4,4,4,0], [], []⟩ fun m t => by
      rw [PySem.W.ZFast.startZ_eq]
      kernel_rfl) w)
theorem setFBB (w : World) (a d : Nat) (T : Tab) (ks : Array Value) (m : Nat) (vs : Array Value) (mv : Nat) (y : Array UInt8) (u : Nat) (j : Nat) (hF : ∀ w : World, (S_find a d T ks m (.bytes y u) [] (Int.ofNat j)).Holds (VV w)) (z : Array UInt8) (s : Nat) (v₀ : Value) (hv : vs[j]? = some v₀) (hj : j < 1000000) : (S_set a d T ks m vs mv (.bytes y u) (.bytes z s) [] ks m (vs.setIfInBounds j (.bytes z s)) mv).Holds (VV w) :=
  (byRow2 "special-get-raises" (P := fun w => (S_set a d T ks m vs mv (.bytes y u) (.bytes z s) [] ks m (vs.setIfInBounds j (.bytes z s)) mv).Holds (VV w)) (fun w => start_holds (F := F_at (w.withFollow "special-get-raises" false) _ (hF (w.withFollow "special-get-raises" false)) T.vl vs mv j _ hv hj) (vok _) 1000 ⟨[0,0,5,5,5,5,5,5,5,1,0,0,0,1,0,0,0,1,0,0,0,0,1,2,5,0,1,2,3,0,5,5,5,5,5,1,0,0,0,1,0,0,0,1,1,0,2,5,4,4,4,4,0], [], []⟩ fun m t => by
      rw [PySem.W.ZFast.startZ_eq]
      kernel_rfl) (fun w => start_holds (F := F_at (w.withFollow "special-get-raises" true) _ (hF (w.withFollow "special-get-raises" true)) T.vl vs mv j _ hv hj) (vok _) 1000 ⟨[0,0,5,5,5,5,5,5,5,1,0,0,0,1,0,0,0,1,0,0,0,0,1,2,5,0,1,2,3,0,5,5,5,5,5,1,0,0,0,1,0,0,0,1,1,0,2,5,4,4,4,4,0], [], []⟩ fun m t => by
      rw [PySem.W.ZFast.startZ_eq]
      kernel_rfl) w)
theorem getTBN (w : World) (a d : Nat) (T : Tab) (ks : Array Value) (m : Nat) (vs : Array Value) (mv : Nat) (y : Array UInt8) (u : Nat) (j : Nat) (hF : ∀ w : World, (S_find a d T ks m (.bytes y u) [] (Int.ofNat j)).Holds (VV w))  (hv : vs[j]? = some .none) (hj : j < 1000000) : (S_get a d T ks m vs mv (.bytes y u) [] .none).Holds (VV w) :=
  (byRow2 "special-get-raises" (P := fun w => (S_get a d T ks m vs mv (.bytes y u) [] .none).Holds (VV w)) (fun w => start_holds (F := F_at (w.withFollow "special-get-raises" false) _ (hF (w.withFollow "special-get-raises" false)) T.vl vs mv j _ hv hj) (vok _) 1000 ⟨[0,0,5,5,5,5,5,1,0,0,0,1,0,0,0,1,0,0,0,0,1,2,5,0,1,2,3,0,5,5,5,5,1,0,0,0,1,0,0,0,1,1,0,2,5,4,4,4,4,4,0], [], []⟩ fun m t => by
      rw [PySem.W.ZFast.startZ_eq]
      kernel_rfl) (fun w => start_holds (F := F_at (w.withFollow "special-get-raises" true) _ (hF (w.withFollow "special-get-raises" true)) T.vl vs mv j _ hv hj) (vok _) 1000 ⟨[0,0,5,5,5,5,5,1,0,0,0,1,0,0,0,1,0,0,0,0,1,2,5,0,1,2,3,0,5,5,5,5,1,0,0,0,1,0,0,0,1,1,0,2,5,4,4,4,4,4,0], [], []⟩ fun m t => by
      rw [PySem.W.ZFast.startZ_eq]
      kernel_rfl) w)
theorem setFBN (w : World) (a d : Nat) (T : Tab) (ks : Array Value) (m : Nat) (vs : Array Value) (mv : Nat) (y : Array UInt8) (u : Nat) (j : Nat) (hF : ∀ w : World, (S_find a d T ks m (.bytes y u) [] (Int.ofNat j)).Holds (VV w))  (v₀ : Value) (hv : vs[j]? = some v₀) (hj : j < 1000000) : (S_set a d T ks m vs mv (.bytes y u) .none [] ks m (vs.setIfInBounds j .none) mv).Holds (VV w) :=
  (byRow2 "special-get-raises" (P := fun w => (S_set a d T ks m vs mv (.bytes y u) .none [] ks m (vs.setIfInBounds j .none) mv).Holds (VV w)) (fun w => start_holds (F := F_at (w.withFollow "special-get-raises" false) _ (hF (w.withFollow "special-get-raises" false)) T.vl vs mv j _ hv hj) (vok _) 1000 ⟨[0,0,5,5,5,5,5,5,5,1,0,0,0,1,0,0,0,1,0,0,0,0,1,2,5,0,1,2,3,0,5,5,5,5,5,1,0,0,0,1,0,0,0,1,1,0,2,5,4,4,4,4,0], [], []⟩ fun m t => by
      rw [PySem.W.ZFast.startZ_eq]
      kernel_rfl) (fun w => start_holds (F := F_at (w.withFollow "special-get-raises" true) _ (hF (w.withFollow "special-get-raises" true)) T.vl vs mv j _ hv hj) (vok _) 1000 ⟨[0,0,5,5,5,5,5,5,5,1,0,0,0,1,0,0,0,1,0,0,0,0,1,2,5,0,1,2,3,0,5,5,5,5,5,1,0,0,0,1,0,0,0,1,1,0,2,5,4,4,4,4,0], [], []⟩ fun m t => by
      rw [PySem.W.ZFast.startZ_eq]
      kernel_rfl) w)
theorem setABR (w : World) (a d : Nat) (T : Tab) (ks : Array Value) (m : Nat) (vs : Array Value) (mv : Nat) (y : Array UInt8) (u : Nat) (hF : ∀ w : World, (S_find a d T ks m (.bytes y u) [] (-1)).Holds (VV w)) (z : Nat) : (S_set a d T ks m vs mv (.bytes y u) (.ref z) [Nat.blt ks.size 1000, Nat.blt vs.size 1000] (ks.push (.bytes y u)) (m + 1) (vs.push (.ref z)) (mv + 1)).Holds (VV w) :=
  (byRow2 "special-get-raises" (P := fun w => (S_set a d T ks m vs mv (.bytes y u) (.ref z) [Nat.blt ks.size 1000, Nat.blt vs.size 1000] (ks.push (.bytes y u)) (m + 1) (vs.push (.ref z)) (mv + 1)).Holds (VV w)) (fun w => start_holds (F := F_no (w.withFollow "special-get-raises" false) _ (hF (w.withFollow "special-get-raises" false))) (vok _) 1000 ⟨[0,0,5,5,5,5,5,5,5,1,0,0,0,1,0,0,0,1,0,0,0,0,1,2,5,0,1,2,3,0,5,5,5,5,5,1,0,0,0,1,0,0,0,1,1,0,2,3,3,3,3,5,3,3,0,1,5,1,0,0,0,1,0,0,0,1,1,0,2,4,4,4,4,5,4,4,0,2], [], []⟩ fun m t => by
      rw [PySem.W.ZFast.startZ_eq]
      kernel_rfl) (fun w => start_holds (F := F_no (w.withFollow "special-get-raises" true) _ (hF (w.withFollow "special-get-raises" true))) (vok _) 1000 ⟨[0,0,5,5,5,5,5,5,5,1,0,0,0,1,0,0,0,1,0,0,0,0,1,2,5,0,1,2,3,0,5,5,5,5,5,1,0,0,0,1,0,0,0,1,1,0,2,3,3,3,3,5,3,3,0,1,5,1,0,0,0,1,0,0,0,1,1,0,2,4,4,4,4,5,4,4,0,2], [], []⟩ fun m t => by
      rw [PySem.W.ZFast.startZ_eq]
      kernel_rfl) w)
theorem setABI (w : World) (a d : Nat) (T : Tab) (ks : Array Value) (m : Nat) (vs : Array Value) (mv : Nat) (y : Array UInt8) (u : Nat) (hF : ∀ w : World, (S_find a d T ks m (.bytes y u) [] (-1)).Holds (VV w)) (z : Int) (s : Nat) : (S_set a d T ks m vs mv (.bytes y u) (.int z s) [Nat.blt ks.size 1000, Nat.blt vs.size 1000] (ks.push (.bytes y u)) (m + 1) (vs.push (.int z s)) (mv + 1)).Holds (VV w) :=
  (byRow2 "special-get-raises" (P := fun w => (S_set a d T ks m vs mv (.bytes y u) (.int z s) [Nat.blt ks.size 1000, Nat.blt vs.size 1000] (ks.push (.bytes y u)) (m + 1) (vs.push (.int z s)) (mv + 1)).Holds (VV w)) (fun w => start_holds (F := F_no (w.withFollow "special-get-raises" false) _ (hF (w.withFollow "special-get-raises" false))) (vok _) 1000 ⟨[0,0,5,5,5,5,5,5,5,1,0,0,0,1,0,0,0,1,0,0,0,0,1,2,5,0,1,2,3,0,5,5,5,5,5,1,0,0,0,1,0,0,0,1,1,0,2,3,3,3,3,5,3,3,0,1,5,1,0,0,0,1,0,0,0,1,1,0,2,4,4,4,4,5,4,4,0,2], [], []⟩ fun m t => by
      rw [PySem.W.ZFast.startZ_eq]
      kernel_rfl) (fun w => start_holds (F := F_no (w.withFollow "special-get-raises" true) _ (hF (w.withFollow "special-get-raises" true))) (vok _) 1000 ⟨[0,0,5,5,5,5,5,5,5,1,0,0,0,1,0,0,0,1,0,0,0,0,1,2,5,0,1,2,3,0,5,5,5,5,5,1,0,0,0,1,0,0,0,1,1,0,2,3,3,3,3,5,3,3,0,1,5,1,0,0,0,1,0,0,0,1,1,0,2,4,4,4,4,5,4,4,0,2], [], []⟩ fun m t => by
      rw [PySem.W.ZFast.startZ_eq]
      kernel_rfl) w)
theorem setABB (w : World) (a d : Nat) (T : Tab) (ks : Array Value) (m : Nat) (vs : Array Value) (mv : Nat) (y : Array UInt8) (u : Nat) (hF : ∀ w : World, (S_find a d T ks m (.bytes y u) [] (-1)).Holds (VV w)) (z : Array UInt8) (s : Nat) : (S_set a d T ks m vs mv (.bytes y u) (.bytes z s) [Nat.blt ks.size 1000, Nat.blt vs.size 1000] (ks.push (.bytes y u)) (m + 1) (vs.push (.bytes z s)) (mv + 1)).Holds (VV w) :=
  (byRow2 "special-get-raises" (P := fun w => (S_set a d T ks m vs mv (.bytes y u) (.bytes z s) [Nat.blt ks.size 1000, Nat.blt vs.size 1000] (ks.push (.bytes y u)) (m + 1) (vs.push (.bytes z s)) (mv + 1)).Holds (VV w)) (fun w => start_holds (F := F_no (w.withFollow "special-get-raises" false) _ (hF (w.withFollow "special-get-raises" false))) (vok _) 1000 ⟨[0,0,5,5,5,5,5,5,5,1,0,0,0,1,0,0,0,1,0,0,0,0,1,2,5,0,1,2,3,0,5,5,5,5,5,1,0,0,0,1,0,0,0,1,1,0,2,3,3,3,3,5,3,3,0,1,5,1,0,0,0,1,0,0,0,1,1,0,2,4,4,4,4,5,4,4,0,2], [], []⟩ fun m t => by
      rw [PySem.W.ZFast.startZ_eq]
      kernel_rfl) (fun w => start_holds (F := F_no (w.withFollow "special-get-raises" true) _ (hF (w.withFollow "special-get-raises" true))) (vok _) 1000 ⟨[0,0,5,5,5,5,5,5,5,1,0,0,0,1,0,0,0,1,0,0,0,0,1,2,5,0,1,2,3,0,5,5,5,5,5,1,0,0,0,1,0,0,0,1,1,0,2,3,3,3,3,5,3,3,0,1,5,1,0,0,0,1,0,0,0,1,1,0,2,4,4,4,4,5,4,4,0,2], [], []⟩ fun m t => by
      rw [PySem.W.ZFast.startZ_eq]
      kernel_rfl) w)
theorem getNI (w : World) (a d : Nat) (T : Tab) (ks : Array Value) (m : Nat) (vs : Array Value) (mv : Nat) (y : Int) (u : Nat) (hF : ∀ w : World, (S_find a d T ks m (.int y u) [] (-1)).Holds (VV w)) : (S_get a d T ks m vs mv (.int y u) [] .none).Holds (VV w) :=
  (byRow2 "special-get-raises" (P := fun w => (S_get a d T ks m vs mv (.int y u) [] .none).Holds (VV w)) (fun w => start_holds (F := F_no (w.withFollow "special-get-raises" false) _ (hF (w.withFollow "special-get-raises" false))) (vok _) 1000 ⟨[0,0,5,5,5,5,5,1,0,0,0,1,0,0,0,1,0,0,0,0,1,2,5,0,1,2,3,0,5,5,5], [], []⟩ fun m t => by
      rw [PySem.W.ZFast.startZ_eq]
      kernel_rfl) (fun w => start_holds (F := F_no (w.withFollow "special-get-raises" true) _ (hF (w.withFollow "special-get-raises" true))) (vok _) 1000 ⟨[0,0,5,5,5,5,5,1,0,0,0,1,0,0,0,1,0,0,0,0,1,2,5,0,1,2,3,0,5,5,5], [], []⟩ fun m t => by
      rw [PySem.W.ZFast.startZ_eq]
      kernel_rfl) w)
theorem setNI (w : World) (a d : Nat) (T : Tab) (ks : Array Value) (m : Nat) (vs : Array Value) (mv : Nat) (y : Int) (u : Nat) (hF : ∀ w : World, (S_find a d T ks m (.int y u) [] (-1)).Holds (VV w)) : (S_set a d T ks m vs mv (.int y u) .none [] ks m vs mv).Holds (VV w) :=
  (byRow2 "special-get-raises" (P := fun w => (S_set a d T ks m vs mv (.int y u) .none [] ks m vs mv).Holds (VV w)) (fun w => start_holds (F := F_no (w.withFollow "special-get-raises" false) _ (hF (w.withFollow "special-get-raises" false))) (vok _) 1000 ⟨[0,0,5,5,5,5,5,5,5,1,0,0,0,1,0,0,0,1,0,0,0,0,1,2,5,0,1,2,3,0,5,5,5,5], [], []⟩ fun m t => by
      rw [PySem.W.ZFast.startZ_eq]
      kernel_rfl) (fun w => start_holds (F := F_no (w.withFollow "special-get-raises" true) _ (hF (w.withFollow "special-get-raises" true))) (vok _) 1000 ⟨[0,0,5,5,5,5,5,5,5,1,0,0,0,1,0,0,0,1,0,0,0,0,1,2,5,0,1,2,3,0,5,5,5,5], [], []⟩ fun m t => by
      rw [PySem.W.ZFast.startZ_eq]
      kernel_rfl) w)
theorem getTIR (w : World) (a d : Nat) (T : Tab) (ks : Array Value) (m : Nat) (vs : Array Value) (mv : Nat) (y : Int) (u : Nat) (j : Nat) (hF : ∀ w : World, (S_find a d T ks m (.int y u) [] (Int.ofNat j)).Holds (VV w)) (z : Nat) (hv : vs[j]? = some (.ref z)) (hj : j < 1000000) : (S_get a d T ks m vs mv (.int y u) [] (.ref z)).Holds (VV w) :=
  (byRow2 "special-get-raises" (P := fun w => (S_get a d T ks m vs mv (.int y u) [] (.ref z)).Holds (VV w)) (fun w => start_holds (F := F_at (w.withFollow "special-get-raises" false) _ (hF (w.withFollow "special-get-raises" false)) T.vl vs mv j _ hv hj) (vok _) 1000 ⟨[0,0,5,5,5,5,5,1,0,0,0,1,0,0,0,1,0,0,0,0,1,2,5,0,1,2,3,0,5,5,5,5,1,0,0,0,1,0,0,0,1,1,0,2,5,4,4,4,4,4,0], [], []⟩ fun m t => by
      rw [PySem.W.ZFast.startZ_eq]
      kernel_rfl) (fun w => start_holds (F := F_at (w.withFollow "special-get-raises" true) _ (hF (w.withFollow "special-get-raises" true)) T.vl vs mv j _ hv hj) (vok _) 1000 ⟨[0,0,5,5,5,5,5,1,0,0,0,1,0,0,0,1,0,0,0,0,1,2,5,0,1,2,3,0,5,5,5,5,1,0,0,0,1,0,0,0,1,1,0,2,5,4,4,4,4,4,0], [], []⟩ fun m t => by
      rw [PySem.W.ZFast.startZ_eq]
      kernel_rfl) w)
theorem setFIR (w : World) (a d : Nat) (T : Tab) (ks : Array Value) (m : Nat) (vs : Array Value) (mv : Nat) (y : Int) (u : Nat) (j : Nat) (hF : ∀ w : World, (S_find a d T ks m (.int y u) [] (Int.ofNat j)).Holds (VV w)) (z : Nat) (v₀ : Value) (hv : vs[j]? = some v₀) (hj : j < 1000000) : (S_set a d T ks m vs mv (.int y u) (.ref z) [] ks m (vs.setIfInBounds j (.ref z)) mv).Holds (VV w) :=
  (byRow2 "special-get-raises" (P := fun w => (S_set a d T ks m vs mv (.int y u) (.ref z) [] ks m (vs.setIfInBounds j (.ref z)) mv).Holds (VV w)) (fun w => start_holds (F := F_at (w.withFollow "special-get-raises" false) _ (hF (w.withFollow "special-get-raises" false)) T.vl vs mv j _ hv hj) (vok _) 1000 ⟨[0,0,5,5,5,5,5,5,5,1,0,0,0,1,0,0,0,1,0,0,0,0,1,2,5,0,1,2,3,0,5,5,5,5,5,1,0,0,0,1,0,0,0,1,1,0,2,5,4,4,4,4,0], [], []⟩ fun m t => by
      rw [PySem.W.ZFast.startZ_eq]
      kernel_rfl) (fun w => start_holds (F := F_at (w.withFollow "special-get-raises" true) _ (hF (w.withFollow "special-get-raises" true)) T.vl vs mv j _ hv hj) (vok _) 1000 ⟨[0,0,5,5,5,5,5,5,5,1,0,0,0,1,0,0,0,1,0,0,0,0,1,2,5,0,1,2,3,0,5,5,5,5,5,1,0,0,0,1,0,0,0,1,1,0,2,5,4,4,4,4,0], [], []⟩ fun m t => by
      rw [PySem.W.ZFast.startZ_eq]
      kernel_rfl) w)
theorem getTII (w : World) (a d : Nat) (T : Tab) (ks : Array Value) (m : Nat) (vs : Array Value) (mv : Nat) (y : Int) (u : Nat) (j : Nat) (hF : ∀ w : World, (S_find a d T ks m (.int y u) [] (Int.ofNat j)).Holds (VV w)) (z : Int) (s : Nat) (hv : vs[j]? = some (.int z s)) (hj : j < 1000000) : (S_get a d T ks m vs mv (.int y u) [] (.int z s)).Holds (VV w) :=
  (byRow2 "special-get-raises" (P := fun w => (S_get a d T ks m vs mv (.int y u) [] (.int z s)).Holds (VV w)) (fun w => start_holds (F := F_at (w.withFollow "special-get-raises" false) _ (hF (w.withFollow "special-get-raises" false)) T.vl vs mv j _ hv hj) (vok _) 1000 ⟨[0,0,5,5,5,5,5,1,0,0,0,1,0,0,0,1,0,0,0,0,1,2,5,0,1,2,3,0,5,5,5,5,1,0,0,0,1,0,0,0,1,1,0,2,5,4,4,4,4,4,0], [], []⟩ fun m t => by
      rw [PySem.W.ZFast.startZ_eq]
      kernel_rfl) (fun w => start_holds (F := F_at (w.withFollow "special-get-raises" true) _ (hF (w.withFollow "special-get-raises" true)) T.vl vs mv j _ hv hj) (vok _) 1000 ⟨[0,0,5,5,5,5,5,1,0,0,0,1,0,0,0,1,0,0,0,0,1,2,5,0,1,2,3,0,5,5,5,5,1,0,0,0,1,0,0,0,1,1,0,2,5,4,4,4,4,4,0], [], []⟩ fun m t => by
      rw [PySem.W.ZFast.startZ_eq]
      kernel_rfl) w)
theorem setFII (w : World) (a d : Nat) (T : Tab) (ks : Array Value) (m : Nat) (vs : Array Value) (mv : Nat) (y : Int) (u : Nat) (j : Nat) (hF : ∀ w : World, (S_find a d T ks m (.int y u) [] (Int.ofNat j)).Holds (VV w)) (z : Int) (s : Nat) (v₀ : Value) (hv : vs[j]? = some v₀) (hj : j < 1000000) : (S_set a d T ks m vs mv (.int y u) (.int z s) [] ks m (vs.setIfInBounds j (.int z s)) mv).Holds (VV w) :=
  (byRow2 "special-get-raises" (P := fun w => (S_set a d T ks m vs mv (.int y u) (.int z s) [] ks m (vs.setIfInBounds j (.int z s)) mv).Holds (VV w)) (fun w => start_holds (F := F_at (w.withFollow "special-get-raises" false) _ (hF (w.withFollow "special-get-raises" false)) T.vl vs mv j _ hv hj) (vok _) 1000 ⟨[0,0,5,5,5,5,5,5,5,1,0,0,0,1,0,0,0,1,0,0,0,0,1,2,5,0,1,2,3,0,5,5,5,5,5,1,0,0,0,1,0,0,0,1,1,0,2,5,4,4,4,4,0], [], []⟩ fun m t => by
      rw [PySem.W.ZFast.startZ_eq]
      kernel_rfl) (fun w => start_holds (F := F_at (w.withFollow "special-get-raises" true) _ (hF (w.withFollow "special-get-raises" true)) T.vl vs mv j _ hv hj) (vok _) 1000 ⟨[0,0,5,5,5,5,5,5,5,1,0,0,0,1,0,0,0,1,0,0,0,0,1,2,5,0,1,2,3,0,5,5,5,5,5,1,0,0,0,1,0,0,0,1,1,0,2,5,4,4,4,4,0], [], []⟩ fun m t => by
      rw [PySem.W.ZFast.startZ_eq]
      kernel_rfl) w)
theorem getTIB (w : World) (a d : Nat) (T : Tab) (ks : Array Value) (m : Nat) (vs : Array Value) (mv : Nat) (y : Int) (u : Nat) (j : Nat) (hF : ∀ w : World, (S_find a d T ks m (.int y u) [] (Int.ofNat j)).Holds (VV w)) (z : Array UInt8) (s : Nat) (hv : vs[j]? = some (.bytes z s)) (hj : j < 1000000) : (S_get a d T ks m vs mv (.int y u) [] (.bytes z s)).Holds (VV w) :=
  (byRow2 "special-get-raises" (P := fun w => (S_get a d T ks m vs mv (.int y u) [] (.bytes z s)).Holds (VV w)) (fun w => start_holds (F := F_at (w.withFollow "special-get-raises" false) _ (hF (w.withFollow "special-get-raises" false)) T.vl vs mv j _ hv hj) (vok _) 1000 ⟨[0,0,5,5,5,5,5,1,0,0,0,1,0,0,0,1,0,0,0,0,1,2,5,0,1,2,3,0,5,5,5,5,1,0,0,0,1,0,0,0,1,1,0,2,5,4,4,4,4,4,0], [], []⟩ fun m t => by
      rw [PySem.W.ZFast.startZ_eq]
      kernel_rfl) (fun w => start_holds (F := F_at (w.withFollow "special-get-raises" true) _ (hF (w.withFollow "special-get-raises" true)) T.vl vs mv j _ hv hj) (vok _) 1000 ⟨[0,0,5,5,5,5,5,1,0,0,0,1,0,0,0,1,0,0,0,0,1,2,5,0,1,2,3,0,5,5,5,5,1,0,0,0,1,0,0,0,1,1,0,2,5,4,4,4,4,4,0], [], []⟩ fun m t => by
      rw [PySem.W.ZFast.startZ_eq]
      kernel_rfl) w)
theorem setFIB (w : World) (a d : Nat) (T : Tab) (ks : Array Value) (m : Nat) (vs : Array Value) (mv : Nat) (y : Int) (u : Nat) (j : Nat) (hF : ∀ w : World, (S_find a d T ks m (.int y u) [] (Int.ofNat j)).Holds (VV w)) (z : Array UInt8) (s : Nat) (v₀ : Value) (hv : vs[j]? = some v₀) (hj : j < 1000000) : (S_set a d T ks m vs mv (.int y u) (.bytes z s) [] ks m (vs.setIfInBounds j (.bytes z s)) mv).Holds (VV w) :=
  (byRow2 "special-get-raises" (P := fun w => (S_set a d T ks m vs mv (.int y u) (.bytes z s) [] ks m (vs.setIfInBounds j (.bytes z s)) mv).Holds (VV w)) (fun w => start_holds (F := F_at (w.withFollow "special-get-raises" false) _ (hF (w.withFollow "special-get-raises" false)) T.vl vs mv j _ hv hj) (vok _) 1000 ⟨[0,0,5,5,5,5,5,5,5,1,0,0,0,1,0,0,0,1,0,0,0,0,1,2,5,0,1,2,3,0,5,5,5,5,5,1,0,0,0,1,0,0,0,1,1,0,2,5,4,4,4,4,0], [], []⟩ fun m t => by
      rw [PySem.W.ZFast.startZ_eq]
      kernel_rfl) (fun w => start_holds (F := F_at (w.withFollow "special-get-raises" true) _ (hF (w.withFollow "special-get-raises" true)) T.vl vs mv j _ hv hj) (vok _) 1000 ⟨[0,0,5,5,5,5,5,5,5,1,0,0,0,1,0,0,0,1,0,0,0,0,1,2,5,0,1,2,3,0,5,5,5,5,5,1,0,0,0,1,0,0,0,1,1,0,2,5,4,4,4,4,0], [], []⟩ fun m t => by
      rw [PySem.W.ZFast.startZ_eq]
      kernel_rfl) w)
theorem getTIN (w : World) (a d : Nat) (T : Tab) (ks : Array Value) (m : Nat) (vs : Array Value) (mv : Nat) (y : Int) (u : Nat) (j : Nat) (hF : ∀ w : World, (S_find a d T ks m (.int y u) [] (Int.ofNat j)).Holds (VV w))  (hv : vs[j]? = some .none) (hj : j < 1000000) : (S_get a d T ks m vs mv (.int y u) [] .none).Holds (VV w) :=
  (byRow2 "special-get-raises" (P := fun w => (S_get a d T ks m vs mv (.int y u) [] .none).Holds (VV w)) (fun w => start_holds (F := F_at (w.withFollow "special-get-raises" false) _ (hF (w.withFollow "special-get-raises" false)) T.vl vs mv j _ hv hj) (vok _) 1000 ⟨[0,0,5,5,5,5,5,1,0,0,0,1,0,0,0,1,0,0,0,0,1,2,5,0,1,2,3,0,5,5,5,5,1,0,0,0,1,0,0,0,1,1,0,2,5,4,4,4,4,4,0], [], []⟩ fun m t => by
      rw [PySem.W.ZFast.startZ_eq]
      kernel_rfl) (fun w => start_holds (F := F_at (w.withFollow "special-get-raises" true) _ (hF (w.withFollow "special-get-raises" true)) T.vl vs mv j _ hv hj) (vok _) 1000 ⟨[0,0,5,5,5,5,5,1,0,0,0,1,0,0,0,1,0,0,0,0,1,2,5,0,1,2,3,0,5,5,5,5,1,0,0,0,1,0,0,0,1,1,0,2,5,4,4,4,4,4,0], [], []⟩ fun m t => by
      rw [PySem.W.ZFast.startZ_eq]
      kernel_rfl) w)
theorem setFIN (w : World) (a d : Nat) (T : Tab) (ks : Array Value) (m : Nat) (vs : Array Value) (mv : Nat) (y : Int) (u : Nat) (j : Nat) (hF : ∀ w : World, (S_find a d T ks m (.int y u) [] (Int.ofNat j)).Holds (VV w))  (v₀ : Value) (hv : vs[j]? = some v₀) (hj : j < 1000000) : (S_set a d T ks m vs mv (.int y u) .none [] ks m (vs.setIfInBounds j .none) mv).Holds (VV w) :=
  (byRow2 "special-get-raises" (P := fun w => (S_set a d T ks m vs mv (.int y u) .none [] ks m (vs.setIfInBounds j .none) mv).Holds (VV w)) (fun w => start_holds (F := F_at (w.withFollow "special-get-raises" false) _ (hF (w.withFollow "special-get-raises" false)) T.vl vs mv j _ hv hj) (vok _) 1000 ⟨[0,0,5,5,5,5,5,5,5,1,0,0,0,1,0,0,0,1,0,0,0,0,1,2,5,0,1,2,3,0,5,5,5,5,5,1,0,0,0,1,0,0,0,1,1,0,2,5,4,4,4,4,0], [], []⟩ fun m t => by
      rw [PySem.W.ZFast.startZ_eq]
      kernel_rfl) (fun w => start_holds (F := F_at (w.withFollow "special-get-raises" true) _ (hF (w.withFollow "special-get-raises" true)) T.vl vs mv j _ hv hj) (vok _) 1000 ⟨[0,0,5,5,5,5,5,5,5,1,0,0,0,1,0,0,0,1,0,0,0,0,1,2,5,0,1,2,3,0,5,5,5,5,5,1,0,0,0,1,0,0,0,1,1,0,2,5,4,4,4,4,0], [], []⟩ fun m t => by
      rw [PySem.W.ZFast.startZ_eq]
      kernel_rfl) w)
theorem setAIR (w : World) (a d : Nat) (T : Tab) (ks : Array Value) (m : Nat) (vs : Array Value) (mv : Nat) (y : Int) (u : Nat) (hF : ∀ w : World, (S_find a d T ks m (.int y u) [] (-1)).Holds (VV w)) (z : Nat) : (S_set a d T ks m vs mv (.int y u) (.ref z) [Nat.blt ks.size 1000, Nat.blt vs.size 1000] (ks.push (.int y u)) (m + 1) (vs.push (.ref z)) (mv + 1)).Holds (VV w) :=
  (byRow2 "special-get-raises" (P := fun w => (S_set a d T ks m vs mv (.int y u) (.ref z) [Nat.blt ks.size 1000, Nat.blt vs.size 1000] (ks.push (.int y u)) (m + 1) (vs.push (.ref z)) (mv + 1)).Holds (VV w)) (fun w => start_holds (F := F_no (w.withFollow "special-get-raises" false) _ (hF (w.withFollow "special-get-raises" false))) (vok _) 1000 ⟨[0,0,5,5,5,5,5,5,5,1,0,0,0,1,0,0,0,1,0,0,0,0,1,2,5,0,1,2,3,0,5,5,5,5,5,1,0,0,0,1,0,0,0,1,1,0,2,3,3,3,3,5,3,3,0,1,5,1,0,0,0,1,0,0,0,1,1,0,2,4,4,4,4,5,4,4,0,2], [], []⟩ fun m t => by
      rw [PySem.W.ZFast.startZ_eq]
      kernel_rfl) (fun w => start_holds (F := F_no (w.withFollow "special-get-raises" true) _ (hF (w.withFollow "special-get-raises" true))) (vok _) 1000 ⟨[0,0,5,5,5,5,5,5,5,1,0,0,0,1,0,0,0,1,0,0,0,0,1,2,5,0,1,2,3,0,5,5,5,5,5,1,0,0,0,1,0,0,0,1,1,0,2,3,3,3,3,5,3,3,0,1,5,1,0,0,0,1,0,0,0,1,1,0,2,4,4,4,4,5,4,4,0,2], [], []⟩ fun m t => by
      rw [PySem.W.ZFast.startZ_eq]
      kernel_rfl) w)
theorem setAII (w : World) (a d : Nat) (T : Tab) (ks : Array Value) (m : Nat) (vs : Array Value) (mv : Nat) (y : Int) (u : Nat) (hF : ∀ w : World, (S_find a d T ks m (.int y u) [] (-1)).Holds (VV w)) (z : Int) (s : Nat) : (S_set a d T ks m vs mv (.int y u) (.int z s) [Nat.blt ks.size 1000, Nat.blt vs.size 1000] (ks.push (.int y u)) (m + 1) (vs.push (.int z s)) (mv + 1)).Holds (VV w) :=
  (byRow2 "special-get-raises" (P := fun w => (S_set a d T ks m vs mv (.int y u) (.int z s) [Nat.blt ks.size 1000, Nat.blt vs.size 1000] (ks.push (.int y u)) (m + 1) (vs.push (.int z s)) (mv + 1)).Holds (VV w)) (fun w => start_holds (F := F_no (w.withFollow "special-get-raises" false) _ (hF (w.withFollow "special-get-raises" false))) (vok _) 1000 ⟨[0,0,5,5,5,5,5,5,5,1,0,0,0,1,0,0,0,1,0,0,0,0,1,2,5,0,1,2,3,0,5,5,5,5,5,1,0,0,0,1,0,0,0,1,1,0,2,3,3,3,3,5,3,3,0,1,5,1,0,0,0,1,0,0,0,1,1,0,2,4,4,4,4,5,4,4,0,2], [], []⟩ fun m t => by
      rw [PySem.W.ZFast.startZ_eq]
      kernel_rfl) (fun w => start_holds (F := F_no (w.withFollow "special-get-raises" true) _ (hF (w.withFollow "special-get-raises" true))) (vok _) 1000 ⟨[0,0,5,5,5,5,5,5,5,1,0,0,0,1,0,0,0,1,0,0,0,0,1,2,5,0,1,2,3,0,5,5,5,5,5,1,0,0,0,1,0,0,0,1,1,0,2,3,3,3,3,5,3,3,0,1,5,1,0,0,0,1,0,0,0,1,1,0,2,4,4,4,4,5,4,4,0,2], [], []⟩ fun m t => by
      rw [PySem.W.ZFast.startZ_eq]
      kernel_rfl) w)
theorem setAIB (w : World) (a d : Nat) (T : Tab) (ks : Array Value) (m : Nat) (vs : Array Value) (mv : Nat) (y : Int) (u : Nat) (hF : ∀ w : World, (S_find a d T ks m (.int y u) [] (-1)).Holds (VV w)) (z : Array UInt8) (s : Nat) : (S_set a d T ks m vs mv (.int y u) (.bytes z s) [Nat.blt ks.size 1000, Nat.blt vs.size 1000] (ks.push (.int y u)) (m + 1) (vs.push (.bytes z s)) (mv + 1)).Holds (VV w) :=
  (byRow2 "special-get-raises" (P := fun w => (S_set a d T ks m vs mv (.int y u) (.bytes z s) [Nat.blt ks.size 1000, Nat.blt vs.size 1000] (ks.push (.int y u)) (m + 1) (vs.push (.bytes z s)) (mv + 1)).Holds (VV w)) (fun w => start_holds (F := F_no (w.withFollow "special-get-raises" false) _ (hF (w.withFollow "special-get-raises" false))) (vok _) 1000 ⟨[0,0,5,5,5,5,5,5,5,1,0,0,0,1,0,0,0,1,0,0,0,0,1,2,5,0,1,2,3,0,5,5,5,5,5,1,0,0,0,1,0,0,0,1,1,0,2,3,3,3,3,5,3,3,0,1,5,1,0,0,0,1,0,0,0,1,1,0,2,4,4,4,4,5,4,4,0,2], [], []⟩ fun m t => by
      rw [PySem.W.ZFast.startZ_eq]
      kernel_rfl) (fun w => start_holds (F := F_no (w.withFollow "special-get-raises" true) _ (hF (w.withFollow "special-get-raises" true))) (vok _) 1000 ⟨[0,0,5,5,5,5,5,5,5,1,0,0,0,1,0,0,0,1,0,0,0,0,1,2,5,0,1,2,3,0,5,5,5,5,5,1,0,0,0,1,0,0,0,1,1,0,2,3,3,3,3,5,3,3,0,1,5,1,0,0,0,1,0,0,0,1,1,0,2,4,4,4,4,5,4,4,0,2], [], []⟩ fun m t => by
      rw [PySem.W.ZFast.startZ_eq]
      kernel_rfl) w)
/-! joined -/
/-- none, an int, bytes or an object -/
def easy (v : Value) : Bool := match v with | .none => true | .int .. => true | .bytes .. => true | .ref _ => true | _ => false
def easyAll (vs : Array Value) : Bool := vs.toList.all easy
def getV (ks vs : Array Value) (key : Value) : Value := match findI ks.toList key 0 with
  | some j => vs.toList.getD j .none
  | none => .none
def isNo (v : Value) : Bool := match v with | .none => true | _ => false
def setKs (ks : Array Value) (key v : Value) : Array Value := match findI ks.toList key 0 with
  | some _ => ks
  | none => match isNo v with | true => ks | false => ks.push key
def setM (ks : Array Value) (key v : Value) (m : Nat) : Nat := match findI ks.toList key 0 with
  | some _ => m
  | none => match isNo v with | true => m | false => m + 1
def setVs (ks vs : Array Value) (key v : Value) : Array Value := match findI ks.toList key 0 with
  | some j => vs.setIfInBounds j v
  | none => match isNo v with | true => vs | false => vs.push v
theorem findI_lt {key : Value} : ∀ {ks : List Value} {i j : Nat}, findI ks key i = some j → i ≤ j ∧ j < i + ks.length
  | [], _, _, h => by cases h
  | k :: ks, i, j, h => by
    unfold findI at h
    cases e : sameV k key with
    | true => rw [e] at h; cases h; exact ⟨Nat.le_refl _, by rw [List.length_cons]; omega⟩
    | false =>
      rw [e] at h
      have := findI_lt (ks := ks) h
      rw [List.length_cons]; omega
/-- what is wanted of a table: keys of the key's kind, as many values, few -/
def tabNeed (ks vs : Array Value) (key : Value) : List Bool := [plain key && kinds ks key, Nat.beq ks.size vs.size && Nat.blt ks.size 1000, easyAll vs]
theorem tab_need {ks vs : Array Value} {key : Value} (q : ∀ b ∈ tabNeed ks vs key, b = true) : plain key = true ∧ kinds ks key = true ∧ ks.size = vs.size ∧ ks.size < 1000 ∧ easyAll vs = true := by
  have h1 := q _ (List.mem_cons_self ..)
  have h2 := q _ (List.mem_cons_of_mem _ (List.mem_cons_self ..))
  have h3 := q _ (List.mem_cons_of_mem _ (List.mem_cons_of_mem _ (List.mem_cons_self ..)))
  rw [Bool.and_eq_true] at h1 h2
  exact ⟨h1.1, h1.2, Nat.eq_of_beq_eq_true h2.1, blt_iff h2.2, h3⟩
theorem find_some (w : World) {a d : Nat} {T : Tab} {ks : Array Value} {m : Nat} {key : Value} (hp : plain key = true) (hk : kinds ks key = true) {r : Option Nat} (hf : findI ks.toList key 0 = r) : (S_find a d T ks m key [] (findV r)).Holds (VV w) := by
  rw [← hf]
  exact Spec.Holds.less (find_any w a d T ks m key) (by
    intro b hb
    change b ∈ [plain key, kinds ks key] at hb
    simp only [List.mem_cons, List.not_mem_nil, or_false] at hb
    rcases hb with rfl | rfl <;> assumption)
theorem get_any (w : World) (a d : Nat) (T : Tab) (ks : Array Value) (m : Nat) (vs : Array Value) (mv : Nat) (key : Value) : (S_get a d T ks m vs mv key (tabNeed ks vs key) (getV ks vs key)).Holds (VV w) :=
  Spec.Holds.more (S := S_get a d T ks m vs mv key [] (getV ks vs key)) (fun q => by
    obtain ⟨hp, hk, hz, hlt, he⟩ := tab_need q
    cases hf : findI ks.toList key 0 with
    | none =>
      have hF := fun w => find_some w (a := a) (d := d) (T := T) (m := m) hp hk hf
      have e : getV ks vs key = .none := by unfold getV; rw [hf]
      rw [e]
      match key, hp, hF with
      | .int y u, _, hF => exact getNI w a d T ks m vs mv y u hF
      | .bytes y u, _, hF => exact getNB w a d T ks m vs mv y u hF
    | some j =>
      have hF := fun w => find_some w (a := a) (d := d) (T := T) (m := m) hp hk hf
      have hj : j < vs.size := by have := findI_lt hf; rw [Array.length_toList] at this; omega
      have hv : vs[j]? = some vs[j] := Array.getElem?_eq_getElem hj
      have e : getV ks vs key = vs[j] := by
        unfold getV; rw [hf]
        show vs.toList.getD j .none = _
        rw [List.getD_eq_getElem?_getD, Array.getElem?_toList, hv]; rfl
      rw [e]
      have hy : easy vs[j] = true := List.all_eq_true.mp he _ (Array.getElem_mem_toList hj)
      have hj' : j < 1000000 := by omega
      generalize vs[j] = v at hv hy
      match key, hp, hF, v, hy, hv with
      | .int y u, _, hF, .none, _, hv => exact getTIN w a d T ks m vs mv y u j hF hv hj'
      | .int y u, _, hF, .int z s, _, hv => exact getTII w a d T ks m vs mv y u j hF z s hv hj'
      | .int y u, _, hF, .bytes z s, _, hv => exact getTIB w a d T ks m vs mv y u j hF z s hv hj'
      | .int y u, _, hF, .ref z, _, hv => exact getTIR w a d T ks m vs mv y u j hF z hv hj'
      | .bytes y u, _, hF, .none, _, hv => exact getTBN w a d T ks m vs mv y u j hF hv hj'
      | .bytes y u, _, hF, .int z s, _, hv => exact getTBI w a d T ks m vs mv y u j hF z s hv hj'
      | .bytes y u, _, hF, .bytes z s, _, hv => exact getTBB w a d T ks m vs mv y u j hF z s hv hj'
      | .bytes y u, _, hF, .ref z, _, hv => exact getTBR w a d T ks m vs mv y u j hF z hv hj') rfl
theorem set_any (w : World) (a d : Nat) (T : Tab) (ks : Array Value) (m : Nat) (vs : Array Value) (mv : Nat) (key v : Value) : (S_set a d T ks m vs mv key v (easy v :: tabNeed ks vs key) (setKs ks key v) (setM ks key v m) (setVs ks vs key v) (setM ks key v mv)).Holds (VV w) :=
  Spec.Holds.more (S := S_set a d T ks m vs mv key v [] (setKs ks key v) (setM ks key v m) (setVs ks vs key v) (setM ks key v mv)) (fun q => by
    have hy := q _ (List.mem_cons_self ..)
    obtain ⟨hp, hk, hz, hlt, he⟩ := tab_need fun b hb => q b (List.mem_cons_of_mem _ hb)
    unfold setKs setM setVs
    cases hf : findI ks.toList key 0 with
    | none =>
      have hF := fun w => find_some w (a := a) (d := d) (T := T) (m := m) hp hk hf
      have hn : ∀ b ∈ [Nat.blt ks.size 1000, Nat.blt vs.size 1000], b = true := by
        intro b hb
        simp only [List.mem_cons, List.not_mem_nil, or_false] at hb
        rcases hb with rfl | rfl
        · exact Nat.ble_eq_true_of_le hlt
        · rw [← hz]; exact Nat.ble_eq_true_of_le hlt
      match key, hp, hF, v, hy with
      | .int y u, _, hF, .none, _ => exact setNI w a d T ks m vs mv y u hF
      | .int y u, _, hF, .int z s, _ => exact Spec.Holds.less (setAII w a d T ks m vs mv y u hF z s) hn
      | .int y u, _, hF, .bytes z s, _ => exact Spec.Holds.less (setAIB w a d T ks m vs mv y u hF z s) hn
      | .int y u, _, hF, .ref z, _ => exact Spec.Holds.less (setAIR w a d T ks m vs mv y u hF z) hn
      | .bytes y u, _, hF, .none, _ => exact setNB w a d T ks m vs mv y u hF
      | .bytes y u, _, hF, .int z s, _ => exact Spec.Holds.less (setABI w a d T ks m vs mv y u hF z s) hn
      | .bytes y u, _, hF, .bytes z s, _ => exact Spec.Holds.less (setABB w a d T ks m vs mv y u hF z s) hn
      | .bytes y u, _, hF, .ref z, _ => exact Spec.Holds.less (setABR w a d T ks m vs mv y u hF z) hn
    | some j =>
      have hF := fun w => find_some w (a := a) (d := d) (T := T) (m := m) hp hk hf
      have hj : j < vs.size := by have := findI_lt hf; rw [Array.length_toList] at this; omega
      have hv : vs[j]? = some vs[j] := Array.getElem?_eq_getElem hj
      have hj' : j < 1000000 := by omega
      generalize vs[j] = v₀ at hv
      match key, hp, hF, v, hy with
      | .int y u, _, hF, .none, _ => exact setFIN w a d T ks m vs mv y u j hF v₀ hv hj'
      | .int y u, _, hF, .int z s, _ => exact setFII w a d T ks m vs mv y u j hF z s v₀ hv hj'
      | .int y u, _, hF, .bytes z s, _ => exact setFIB w a d T ks m vs mv y u j hF z s v₀ hv hj'
      | .int y u, _, hF, .ref z, _ => exact setFIR w a d T ks m vs mv y u j hF z v₀ hv hj'
      | .bytes y u, _, hF, .none, _ => exact setFBN w a d T ks m vs mv y u j hF v₀ hv hj'
      | .bytes y u, _, hF, .int z s, _ => exact setFBI w a d T ks m vs mv y u j hF z s v₀ hv hj'
      | .bytes y u, _, hF, .bytes z s, _ => exact setFBB w a d T ks m vs mv y u j hF z s v₀ hv hj'
      | .bytes y u, _, hF, .ref z, _ => exact setFBR w a d T ks m vs mv y u j hF z v₀ hv hj') rfl
/-! dispatch -/
noncomputable def D_find (w : World) (key : Value) : Dp (VV w) := ⟨3, fun as os _ => match as with
  | [a, d, _] => match os with
    | [_, o2, o3] => match tabOf o2 with
      | some T => match seqOf o3 with
        | some (ks, m) => some ⟨_, find_any w a d T ks m key⟩
        | none => none
      | none => none
    | _ => none
  | _ => none⟩
noncomputable def D_get (w : World) (key : Value) : Dp (VV w) := ⟨4, fun as os _ => match as with
  | [a, d, _, _] => match os with
    | [_, o2, o3, o4] => match tabOf o2 with
      | some T => match seqOf o3 with
        | some (ks, m) => match seqOf o4 with
          | some (vs, mv) => some ⟨_, get_any w a d T ks m vs mv key⟩
          | none => none
        | none => none
      | none => none
    | _ => none
  | _ => none⟩
noncomputable def D_set (w : World) (key v : Value) : Dp (VV w) := ⟨4, fun as os _ => match as with
  | [a, d, _, _] => match os with
    | [_, o2, o3, o4] => match tabOf o2 with
      | some T => match seqOf o3 with
        | some (ks, m) => match seqOf o4 with
          | some (vs, mv) => some ⟨_, set_any w a d T ks m vs mv key v⟩
          | none => none
        | none => none
      | none => none
    | _ => none
  | _ => none⟩
end Mine
end

section
open PySem PySem.W PySem.W.X PyProof.Rows
set_option maxRecDepth 1000000
set_option maxHeartbeats 0
namespace Mine
/-- a name's hash in a dict -/
def hashOf (P : Params) (s : Str) : Int := if s.cps.isEmpty then 0 else reduceHash (P.strHash s.cps)
theorem hashOf_rfl : @hashOf = @hashOf := rfl
end Mine
lay_z Mine.hashOf
name_z hashOfZ for Mine.hashOf by Mine.hashOf_rfl
namespace Mine
open PySem.W.ZFast (hashOfZ)
/-! ints compared -/
noncomputable def S_cmp (id : String) (x : Int) (t : Nat) (y : Int) (u : Nat) (nd : List Bool) (b : Bool) : Spec := { code := .builtin id ⟨[.int x t, .int y u], []⟩, dep := 870, need := nd, pre := [], touch := [], na := 0, nt := 0, res := fun _ _ => .ok (.ret (.bool b)), postT := fun _ _ => [], postN := fun _ _ => [] }
abbrev eqB (x y : Int) : Bool := @decide (x = y) (Z.eqZ x y)
abbrev ltB (x y : Int) : Bool := @decide (x < y) (Z.ltZ x y)
abbrev leB (x y : Int) : Bool := @decide (x ≤ y) (Z.leZ x y)
theorem cmp_eq (w : World) (x : Int) (t : Nat) (y : Int) (u : Nat) : (S_cmp "int.__eq__" x t y u [] (eqB x y)).Holds (VV w) :=
  start_holds (F := noF) (vok _) 100 ⟨[], [], []⟩ fun m t => by
      rw [PySem.W.ZFast.startZ_eq]
      kernel_rfl
theorem cmp_ne (w : World) (x : Int) (t : Nat) (y : Int) (u : Nat) : (S_cmp "int.__ne__" x t y u [] (!eqB x y)).Holds (VV w) :=
  start_holds (F := noF) (vok _) 100 ⟨[], [], []⟩ fun m t => by
      rw [PySem.W.ZFast.startZ_eq]
      kernel_rfl
theorem cmp_lt (w : World) (x : Int) (t : Nat) (y : Int) (u : Nat) : (S_cmp "int.__lt__" x t y u [] (ltB x y)).Holds (VV w) :=
  start_holds (F := noF) (vok _) 100 ⟨[], [], []⟩ fun m t => by
      rw [PySem.W.ZFast.startZ_eq]
      kernel_rfl
theorem cmp_le (w : World) (x : Int) (t : Nat) (y : Int) (u : Nat) : (S_cmp "int.__le__" x t y u [] (leB x y)).Holds (VV w) :=
  start_holds (F := noF) (vok _) 100 ⟨[], [], []⟩ fun m t => by
      rw [PySem.W.ZFast.startZ_eq]
      kernel_rfl
theorem cmp_gt (w : World) (x : Int) (t : Nat) (y : Int) (u : Nat) : (S_cmp "int.__gt__" x t y u [] (ltB y x)).Holds (VV w) :=
  start_holds (F := noF) (vok _) 100 ⟨[], [], []⟩ fun m t => by
      rw [PySem.W.ZFast.startZ_eq]
      kernel_rfl
theorem cmp_ge (w : World) (x : Int) (t : Nat) (y : Int) (u : Nat) : (S_cmp "int.__ge__" x t y u [] (leB y x)).Holds (VV w) :=
  start_holds (F := noF) (vok _) 100 ⟨[], [], []⟩ fun m t => by
      rw [PySem.W.ZFast.startZ_eq]
      kernel_rfl
/-! new objects -/
noncomputable abbrev oTabD (P : Params) (t1 : Nat) (num : Value) (t2 : Nat) (kl : Nat) (t3 : Nat) (vl : Nat) (t4 : Nat) : Obj := oDict #[en (hashOfZ P (⟨#[110,117,109,98,101,114]⟩ : Str)) (⟨#[110,117,109,98,101,114]⟩ : Str) t1 num, en (hashOfZ P (⟨#[107,101,121,115]⟩ : Str)) (⟨#[107,101,121,115]⟩ : Str) t2 (.ref kl), en (hashOfZ P (⟨#[118,97,108,117,101,115]⟩ : Str)) (⟨#[118,97,108,117,101,115]⟩ : Str) t3 (.ref vl), en (hashOfZ P (⟨#[109,101,116,97]⟩ : Str)) (⟨#[109,101,116,97]⟩ : Str) t4 .none] 4
noncomputable def S_newT (w : World) (x : Int) (t : Nat) : Spec := { code := .call (.ref 234) ⟨[.int x t], []⟩, dep := 800, pre := [], touch := [], na := 4, nt := 4, res := fun as _ => .ok (.ret (.ref (nth as 0))), postT := fun _ _ => [], postN := fun as ts => [oInst 234 (nth as 1), oTabD w.params (nth ts 0) (.int x t) (nth ts 1) (nth as 2) (nth ts 2) (nth as 3) (nth ts 3), oList #[] 0, oList #[] 0] }
noncomputable def S_newB (w : World) (x : Int) (t : Nat) (y : Array UInt8) (u : Nat) (f : Nat) : Spec := { code := .call (.ref 255) ⟨[.int x t, .bytes y u, .ref f], []⟩, dep := 800, pre := [], touch := [], na := 2, nt := 3, res := fun as _ => .ok (.ret (.ref (nth as 0))), postT := fun _ _ => [], postN := fun as ts => [oInst 255 (nth as 1), oDict #[en (hashOfZ w.params (⟨#[110,117,109,98,101,114]⟩ : Str)) (⟨#[110,117,109,98,101,114]⟩ : Str) (nth ts 0) (.int x t), en (hashOfZ w.params (⟨#[110,97,109,101]⟩ : Str)) (⟨#[110,97,109,101]⟩ : Str) (nth ts 1) (.bytes y u), en (hashOfZ w.params (⟨#[119,111,114,107]⟩ : Str)) (⟨#[119,111,114,107]⟩ : Str) (nth ts 2) (.ref f)] 3] }
theorem newT (w : World) (x : Int) (t : Nat) : (S_newT w x t).Holds (VV w) :=
  start_holds (F := noF) (vok _) 1000 ⟨[0,0,0,0,0,0,0,0,0,0,0,0,0,0,0,0,0,0,0,0,0,0,0,0,0,0,0,2,0,2,0,0,0,0,0,0,3,3,3,3,3,3,2,0,0,0,2,0,2,0,2,0,0,0,2,0,1,1,1,3,2,0,0,0,2,0,2,0,2,0,0,0,2,0,1,1,1,3,2,0,0,0,2,0,2,0,2,0,0,0,2,0,1,1,1,3,2,0,0,0,2,0,2,0,2,0,0,0,2,0,1,1,1], [1,0,3,4], [3,5,7,9]⟩ fun m t => by
      rw [PySem.W.ZFast.startZ_eq]
      kernel_rfl
theorem newB (w : World) (x : Int) (t : Nat) (y : Array UInt8) (u : Nat) (f : Nat) : (S_newB w x t y u f).Holds (VV w) :=
  start_holds (F := noF) (vok _) 1000 ⟨[0,0,0,0,0,0,0,0,0,0,0,0,0,0,0,0,0,0,0,0,0,0,0,0,0,0,0,2,0,2,0,0,0,0,0,0,3,3,3,3,3,3,3,3,3,3,2,0,0,0,2,0,2,0,2,0,0,0,2,0,1,1,1,3,3,2,0,0,0,2,0,2,0,2,0,0,0,2,0,1,1,1,3,3,2,0,0,0,2,0,2,0,2,0,0,0,2,0,1,1,1], [1,0], [5,7,9]⟩ fun m t => by
      rw [PySem.W.ZFast.startZ_eq]
      kernel_rfl
end Mine
end

section
open PySem PySem.W PySem.W.X PyProof.Rows
set_option maxRecDepth 1000000
set_option maxHeartbeats 0
namespace Mine
open PySem.W.ZFast (hashOfZ)
/-! ints compared: by what comes of it -/
theorem cmp_T {w : World} {id : String} {x : Int} {t : Nat} {y : Int} {u : Nat} {b : Bool} (h : (S_cmp id x t y u [] b).Holds (VV w)) : (S_cmp id x t y u [b] true).Holds (VV w) := by
  refine Spec.Holds.more (S := S_cmp id x t y u [] true) (nd := [b]) (fun q => ?_) rfl
  have := q _ (List.mem_cons_self ..)
  rw [this] at h; exact h
theorem cmp_F {w : World} {id : String} {x : Int} {t : Nat} {y : Int} {u : Nat} {b : Bool} (h : (S_cmp id x t y u [] b).Holds (VV w)) : (S_cmp id x t y u [!b] false).Holds (VV w) := by
  refine Spec.Holds.more (S := S_cmp id x t y u [] false) (nd := [!b]) (fun q => ?_) rfl
  have := q _ (List.mem_cons_self ..)
  cases b with
  | false => exact h
  | true => cases this
noncomputable def D_cmp {w : World} {id : String} {x : Int} {t : Nat} {y : Int} {u : Nat} {b : Bool} (h : (S_cmp id x t y u [] b).Holds (VV w)) : Dp (VV w) := ⟨0, fun _ _ alt => match alt with
  | 0 => some ⟨_, cmp_T h⟩
  | _ => some ⟨_, cmp_F h⟩⟩
noncomputable def F_cmp (w : World) (id : String) (x : Int) (t : Nat) (y : Int) (u : Nat) : Option (Dp (VV w)) :=
  match idIs id 455126529904428302298986 with
  | true => some (D_cmp (cmp_gt w x t y u))
  | false => match idIs id 455125450447892616933226 with
    | true => some (D_cmp (cmp_le w x t y u))
    | false => match idIs id 455126531311803185852266 with
      | true => some (D_cmp (cmp_lt w x t y u))
      | false => match idIs id 455126313168696235093866 with
        | true => some (D_cmp (cmp_eq w x t y u))
        | false => match idIs id 455125451010842570354538 with
          | true => some (D_cmp (cmp_ne w x t y u))
          | false => match idIs id 455125449040517733379946 with
            | true => some (D_cmp (cmp_ge w x t y u))
            | false => none
/-! the limits, the host -/
structure Lim where
  h : Nat → Int
  t : Nat → Nat
  x : Nat → Int
  u : Nat → Nat
  n : Nat
def Lim.obj (L : Lim) : Obj := oDict #[en (L.h 0) (⟨#[119,105,100,116,104]⟩ : Str) (L.t 0) (.int (L.x 0) (L.u 0)), en (L.h 1) (⟨#[114,101,103,105,115,116,101,114,115]⟩ : Str) (L.t 1) (.int (L.x 1) (L.u 1)), en (L.h 2) (⟨#[117,112,118,97,108,117,101,115]⟩ : Str) (L.t 2) (.int (L.x 2) (L.u 2)), en (L.h 3) (⟨#[108,111,99,97,108,95,110,97,109,101,115]⟩ : Str) (L.t 3) (.int (L.x 3) (L.u 3)), en (L.h 4) (⟨#[99,99,97,108,108,115]⟩ : Str) (L.t 4) (.int (L.x 4) (L.u 4)), en (L.h 5) (⟨#[102,114,97,109,101,115]⟩ : Str) (L.t 5) (.int (L.x 5) (L.u 5)), en (L.h 6) (⟨#[115,116,97,99,107]⟩ : Str) (L.t 6) (.int (L.x 6) (L.u 6)), en (L.h 7) (⟨#[102,108,117,115,104]⟩ : Str) (L.t 7) (.int (L.x 7) (L.u 7)), en (L.h 8) (⟨#[115,116,101,112,115]⟩ : Str) (L.t 8) (.int (L.x 8) (L.u 8)), en (L.h 9) (⟨#[116,101,120,116]⟩ : Str) (L.t 9) (.int (L.x 9) (L.u 9))] L.n
def enAt (es : Array DictEntry) (i : Nat) : DictEntry := es.toList.getD i ⟨0, .none, .none⟩
def intOf (v : Value) : Int := match v with | .int x _ => x | _ => 0
def tokOf (v : Value) : Nat := match v with | .int _ t => t | .bytes _ t => t | .str _ t => t | _ => 0
def limOf (o : Obj) : Option Lim := match o.data with
  | .dict es n => some ⟨fun i => (enAt es i).hash, fun i => strTok (enAt es i).key, fun i => intOf (enAt es i).val, fun i => tokOf (enAt es i).val, n⟩
  | _ => none
structure Hst where
  h : Nat → Int
  t : Nat → Nat
  lim : Nat
  chunk : Value
  out : Nat
  made : Value
  tx : Nat
  n : Nat
def Hst.obj (S : Hst) (steps : Int) (ts : Nat) (fr : Nat) (deep : Int) (td : Nat) : Obj := oDict #[en (S.h 0) (⟨#[108,105,109,105,116,115]⟩ : Str) (S.t 0) (.ref S.lim), en (S.h 1) (⟨#[99,104,117,110,107]⟩ : Str) (S.t 1) S.chunk, en (S.h 2) (⟨#[111,117,116]⟩ : Str) (S.t 2) (.ref S.out), en (S.h 3) (⟨#[115,116,101,112,115]⟩ : Str) (S.t 3) (.int steps ts), en (S.h 4) (⟨#[109,97,100,101]⟩ : Str) (S.t 4) S.made, en (S.h 5) (⟨#[102,114,97,109,101,115]⟩ : Str) (S.t 5) (.ref fr), en (S.h 6) (⟨#[100,101,101,112]⟩ : Str) (S.t 6) (.int deep td), en (S.h 7) (⟨#[116,101,120,116,115]⟩ : Str) (S.t 7) (.ref S.tx)] S.n
structure Hv where
  steps : Int
  ts : Nat
  fr : Nat
  deep : Int
  td : Nat
def hostOf (o : Obj) : Option (Hst × Hv) := match o.data with
  | .dict es n => some (⟨fun i => (enAt es i).hash, fun i => strTok (enAt es i).key, refOf (enAt es 0).val, (enAt es 1).val, refOf (enAt es 2).val, (enAt es 4).val, refOf (enAt es 7).val, n⟩, ⟨intOf (enAt es 3).val, tokOf (enAt es 3).val, refOf (enAt es 5).val, intOf (enAt es 6).val, tokOf (enAt es 6).val⟩)
  | _ => none
/-! tick, go_deeper, Frame -/
noncomputable def S_tick (H hd ld : Nat) (S : Hst) (L : Lim) (steps : Int) (ts fr : Nat) (deep : Int) (td : Nat) : Spec := { code := .call (.ref 329) ⟨[.ref H], []⟩, dep := 800, need := [!ltB (L.x 8) (steps + 1)], pre := [(H, oInst 451 hd), (hd, S.obj steps ts fr deep td), (S.lim, oInst 53 ld), (ld, L.obj)], touch := [1], na := 0, nt := 1, res := fun _ _ => .ok (.ret .none), postT := fun _ us => [some (S.obj (steps + 1) (nth us 0) fr deep td)], postN := fun _ _ => [] }
noncomputable def S_deeper (H hd : Nat) (S : Hst) (steps : Int) (ts fr : Nat) (deep : Int) (td : Nat) (many : Int) (tm : Nat) : Spec := { code := .call (.ref 336) ⟨[.ref H, .int many tm], []⟩, dep := 800, need := [!ltB 820 (deep + many)], pre := [(H, oInst 451 hd), (hd, S.obj steps ts fr deep td)], touch := [1], na := 0, nt := 1, res := fun _ _ => .ok (.ret .none), postT := fun _ us => [some (S.obj steps ts fr (deep + many) (nth us 0))], postN := fun _ _ => [] }
noncomputable def oFrameD (P : Params) (t1 : Nat) (x : Int) (tx : Nat) (t2 : Nat) (c : Nat) (t3 : Nat) (e : Nat) (t4 : Nat) (line : Int) (u4 : Nat) (t5 : Nat) (deep : Int) (u5 : Nat) : Obj := oDict #[en (hashOfZ P (⟨#[110,117,109,98,101,114]⟩ : Str)) (⟨#[110,117,109,98,101,114]⟩ : Str) t1 (.int x tx), en (hashOfZ P (⟨#[99,101,108,108,115]⟩ : Str)) (⟨#[99,101,108,108,115]⟩ : Str) t2 (.ref c), en (hashOfZ P (⟨#[101,120,116,114,97]⟩ : Str)) (⟨#[101,120,116,114,97]⟩ : Str) t3 (.ref e), en (hashOfZ P (⟨#[108,105,110,101]⟩ : Str)) (⟨#[108,105,110,101]⟩ : Str) t4 (.int line u4), en (hashOfZ P (⟨#[100,101,101,112]⟩ : Str)) (⟨#[100,101,101,112]⟩ : Str) t5 (.int deep u5)] 5
noncomputable def S_Frame (w : World) (x : Int) (t c e : Nat) : Spec := { code := .call (.ref 297) ⟨[.int x t, .ref c, .ref e], []⟩, dep := 800, pre := [], touch := [], na := 2, nt := 7, res := fun as _ => .ok (.ret (.ref (nth as 0))), postT := fun _ _ => [], postN := fun as ts => [oInst 297 (nth as 1), oFrameD w.params (nth ts 0) x t (nth ts 1) c (nth ts 2) e (nth ts 3) 0 (nth ts 5) (nth ts 4) 0 (nth ts 6)] }
noncomputable def F_c (w : World) (c : Code) : Option (Dp (VV w)) := match c with
  | .builtin id ⟨[.int x t, .int y u], []⟩ => F_cmp w id x t y u
  | _ => none
theorem tick (w : World) (H hd ld : Nat) (S : Hst) (L : Lim) (steps : Int) (ts fr : Nat) (deep : Int) (td : Nat) : (S_tick H hd ld S L steps ts fr deep td).Holds (VV w) :=
  (byRow2 "special-get-raises" (P := fun w => (S_tick H hd ld S L steps ts fr deep td).Holds (VV w)) (fun w => start_holds (F := F_c (w.withFollow "special-get-raises" false)) (vok _) 1000 ⟨[0,0,5,5,5,1,0,0,0,1,0,0,0,1,1,0,2,1,0,0,0,1,0,1,0,1,0,0,0,1,0,2,2,2,5,1,0,0,0,1,0,0,0,1,1,0,2,5,1,0,0,0,1,0,0,0,1,1,0,2,3,0,0,0,3,0,0,0,3,3,0,4,1,1], [], [3]⟩ fun m t => by
      rw [PySem.W.ZFast.startZ_eq]
      kernel_rfl) (fun w => start_holds (F := F_c (w.withFollow "special-get-raises" true)) (vok _) 1000 ⟨[0,0,5,5,5,1,0,0,0,1,0,0,0,1,1,0,2,1,0,0,0,1,0,1,0,1,0,0,0,1,0,2,2,2,5,1,0,0,0,1,0,0,0,1,1,0,2,5,1,0,0,0,1,0,0,0,1,1,0,2,3,0,0,0,3,0,0,0,3,3,0,4,1,1], [], [3]⟩ fun m t => by
      rw [PySem.W.ZFast.startZ_eq]
      kernel_rfl) w)
theorem deeper (w : World) (H hd : Nat) (S : Hst) (steps : Int) (ts fr : Nat) (deep : Int) (td : Nat) (many : Int) (tm : Nat) : (S_deeper H hd S steps ts fr deep td many tm).Holds (VV w) :=
  (byRow2 "special-get-raises" (P := fun w => (S_deeper H hd S steps ts fr deep td many tm).Holds (VV w)) (fun w => start_holds (F := F_c (w.withFollow "special-get-raises" false)) (vok _) 1000 ⟨[0,0,3,3,3,3,3,1,0,0,0,1,0,0,0,1,1,0,2,3,1,0,0,0,1,0,1,0,1,0,0,0,1,0,2,2,2,3,1,0,0,0,1,0,0,0,1,1,0,2,0,1,1], [], [3]⟩ fun m t => by
      rw [PySem.W.ZFast.startZ_eq]
      kernel_rfl) (fun w => start_holds (F := F_c (w.withFollow "special-get-raises" true)) (vok _) 1000 ⟨[0,0,3,3,3,3,3,1,0,0,0,1,0,0,0,1,1,0,2,3,1,0,0,0,1,0,1,0,1,0,0,0,1,0,2,2,2,3,1,0,0,0,1,0,0,0,1,1,0,2,0,1,1], [], [3]⟩ fun m t => by
      rw [PySem.W.ZFast.startZ_eq]
      kernel_rfl) w)
theorem Frame (w : World) (x : Int) (t c e : Nat) : (S_Frame w x t c e).Holds (VV w) :=
  start_holds (F := noF) (vok _) 1000 ⟨[0,0,0,0,0,0,0,0,0,0,0,0,0,0,0,0,0,0,0,0,0,0,0,0,0,0,0,2,0,2,0,0,0,0,0,0,3,3,3,3,3,3,3,3,3,3,2,0,0,0,2,0,2,0,2,0,0,0,2,0,1,1,1,3,3,2,0,0,0,2,0,2,0,2,0,0,0,2,0,1,1,1,3,3,2,0,0,0,2,0,2,0,2,0,0,0,2,0,1,1,1,3,2,0,0,0,2,0,2,0,2,0,0,0,2,0,1,1,1,3,2,0,0,0,2,0,2,0,2,0,0,0,2,0,1,1,1], [1,0], [5,7,9,12,15,10,13]⟩ fun m t => by
      rw [PySem.W.ZFast.startZ_eq]
      kernel_rfl
end Mine
end

section
open PySem PySem.W PySem.W.X PyProof.Rows
set_option maxRecDepth 1000000
set_option maxHeartbeats 0
namespace Mine
open PySem.W.ZFast (hashOfZ)
/-! % and // and abs -/
noncomputable def S_i2 (id : String) (x : Int) (t : Nat) (y : Int) (u : Nat) (r : Int) : Spec := { code := .builtin id ⟨[.int x t, .int y u], []⟩, dep := 850, pre := [], touch := [], na := 0, nt := 1, res := fun _ ts => .ok (.ret (.int r (nth ts 0))), postT := fun _ _ => [], postN := fun _ _ => [] }
noncomputable def S_abs (x : Int) (t : Nat) (nt : Nat) (r : List Nat → Value) : Spec := { code := .builtin "int.__abs__" ⟨[.int x t], []⟩, dep := 850, pre := [], touch := [], na := 0, nt := nt, res := fun _ ts => .ok (.ret (r ts)), postT := fun _ _ => [], postN := fun _ _ => [] }
theorem modQ (w : World) (x : Int) (t k u : Nat) : (S_i2 "int.__mod__" x t (Int.ofNat (k + 1)) u (Z.modQ x (Int.ofNat (k + 1)))).Holds (VV w) :=
  start_holds (F := noF) (vok _) 100 ⟨[], [], [0]⟩ fun m t => by
      rw [PySem.W.ZFast.startZ_eq]
      kernel_rfl
theorem divQ2 (w : World) (x : Int) (t u : Nat) : (S_i2 "int.__floordiv__" x t 2 u (Z.divQ x 2)).Holds (VV w) :=
  start_holds (F := noF) (vok _) 100 ⟨[], [], [0]⟩ fun m t => by
      rw [PySem.W.ZFast.startZ_eq]
      kernel_rfl
theorem divQ3 (w : World) (x : Int) (t u : Nat) : (S_i2 "int.__floordiv__" x t 3 u (Z.divQ x 3)).Holds (VV w) :=
  start_holds (F := noF) (vok _) 100 ⟨[], [], [0]⟩ fun m t => by
      rw [PySem.W.ZFast.startZ_eq]
      kernel_rfl
theorem divQ10 (w : World) (x : Int) (t u : Nat) : (S_i2 "int.__floordiv__" x t 10 u (Z.divQ x 10)).Holds (VV w) :=
  start_holds (F := noF) (vok _) 100 ⟨[], [], [0]⟩ fun m t => by
      rw [PySem.W.ZFast.startZ_eq]
      kernel_rfl
theorem absP (w : World) (k t : Nat) : (S_abs (Int.ofNat k) t 0 (fun _ => .int (Int.ofNat k) t)).Holds (VV w) :=
  start_holds (F := noF) (vok _) 100 ⟨[], [], []⟩ fun m t => by
      rw [PySem.W.ZFast.startZ_eq]
      kernel_rfl
theorem absN (w : World) (k t : Nat) : (S_abs (Int.negSucc k) t 1 (fun ts => .int (Int.ofNat (k + 1)) (nth ts 0))).Holds (VV w) :=
  start_holds (F := noF) (vok _) 100 ⟨[], [], [0]⟩ fun m t => by
      rw [PySem.W.ZFast.startZ_eq]
      kernel_rfl
theorem mod_any (w : World) (x : Int) (t k u : Nat) : (S_i2 "int.__mod__" x t (Int.ofNat (k + 1)) u (x.fmod (Int.ofNat (k + 1)))).Holds (VV w) := by
  rw [Z.modQ_eq]; exact modQ w x t k u
theorem div_2 (w : World) (x : Int) (t u : Nat) : (S_i2 "int.__floordiv__" x t 2 u (x.fdiv 2)).Holds (VV w) := by
  rw [Z.divQ_eq]; exact divQ2 w x t u
theorem div_3 (w : World) (x : Int) (t u : Nat) : (S_i2 "int.__floordiv__" x t 3 u (x.fdiv 3)).Holds (VV w) := by
  rw [Z.divQ_eq]; exact divQ3 w x t u
theorem div_10 (w : World) (x : Int) (t u : Nat) : (S_i2 "int.__floordiv__" x t 10 u (x.fdiv 10)).Holds (VV w) := by
  rw [Z.divQ_eq]; exact divQ10 w x t u
theorem abs_any (w : World) (x : Int) (t : Nat) : (S_abs x t 1 (fun ts => .int (Int.ofNat x.natAbs) (nth ts 0))).Holds (VV w) := by
  cases x with
  | negSucc k => exact absN w k t
  | ofNat k =>
    intro Γ p hp g d tk os hc hh hb hl A
    obtain ⟨as, ts, h', t', r, E⟩ := absP w k t Γ p hp g d tk os hc hh hb hl ⟨A.kt, A.mem, A.off, A.apart, A.lim, A.need⟩
    exact ⟨as, [t], h', t', r, ⟨E.na, rfl, fun i hi => (nomatch hi), fun i hi => (nomatch hi), E.keep, E.fresh, E.apart, E.size⟩⟩
noncomputable def D_mod (w : World) (x : Int) (t : Nat) (y : Int) (u : Nat) : Option (Dp (VV w)) := match y with
  | .ofNat k' => match k' with
    | k + 1 => some ⟨0, fun _ _ _ => some ⟨_, mod_any w x t k u⟩⟩
    | 0 => none
  | _ => none
noncomputable def D_div (w : World) (x : Int) (t : Nat) (y : Int) (u : Nat) : Option (Dp (VV w)) := match eqB y 10 with
  | true => some ⟨0, fun _ _ _ => some ⟨_, div_10 w x t u⟩⟩
  | false => match eqB y 3 with
    | true => some ⟨0, fun _ _ _ => some ⟨_, div_3 w x t u⟩⟩
    | false => match eqB y 2 with
      | true => some ⟨0, fun _ _ _ => some ⟨_, div_2 w x t u⟩⟩
      | false => none
noncomputable def F_int (w : World) (id : String) (x : Int) (t : Nat) (y : Int) (u : Nat) : Option (Dp (VV w)) :=
  match idIs id 116512097088030077292474218 with
  | true => D_mod w x t y u
  | false => match idIs id 128106770130096871752080967664072486762 with
    | true => D_div w x t y u
    | false => F_cmp w id x t y u
noncomputable def F_i (w : World) (c : Code) : Option (Dp (VV w)) := match c with
  | .builtin id ⟨[.int x t, .int y u], []⟩ => F_int w id x t y u
  | .builtin id ⟨[.int x t], []⟩ => match idIs id 116512372849064760722157418 with
    | true => some ⟨0, fun _ _ _ => some ⟨_, abs_any w x t⟩⟩
    | false => none
  | _ => none
end Mine
end

section
open PySem PySem.W PySem.W.X PyProof.Rows
set_option maxRecDepth 1000000
set_option maxHeartbeats 0
namespace Mine
open PySem.W.ZFast (hashOfZ)
/-! a list's item at an int -/
noncomputable def S_itemI (l : Nat) (xs : Array Value) (n : Nat) (i : Int) (t : Nat) (v : Value) : Spec := { code := .builtin "list.__getitem__" ⟨[.ref l, .int i t], []⟩, dep := 850, pre := [(l, oList xs n)], touch := [], na := 0, nt := 0, res := fun _ _ => .ok (.ret v), postT := fun _ _ => [], postN := fun _ _ => [] }
theorem itemI_at {V : Vn} {l : Nat} {xs : Array Value} {n : Nat} {i : Int} {t : Nat} {v : Value} (h0 : 0 ≤ i) (hx : xs[i.toNat]? = some v) (hi : i < 1000000) : (S_itemI l xs n i t v).Holds V := by
  refine spec_by fun Γ hc hh A hA hd hin h g d tk os At => ?_
  have hl : h.get? l = some (oList xs n) := At.mem _ (List.mem_cons_self ..)
  have hf : Builtin.List.listFitsIndex i = true := fitsIndex_of h0 (by omega)
  clear hi
  exact @den_wp2 _ _ _ _ _ _ _ _ _ rfl entry_list_getitem (item_wp h0 hx hl hf ⟨_, rfl, [], [], rfl, ends_same rfl rfl rfl rfl rfl, rfl, rfl, rfl⟩)
/-! a list's length -/
noncomputable def S_len (l : Nat) (xs : Array Value) (n : Nat) : Spec := { code := .builtin "len" ⟨[.ref l], []⟩, dep := 850, need := [Nat.blt xs.size 1000000], pre := [(l, oList xs n)], touch := [], na := 0, nt := 1, res := fun _ ts => .ok (.ret (.int (Int.ofNat xs.size) (nth ts 0))), postT := fun _ _ => [], postN := fun _ _ => [] }
theorem len_wp {V : Vn} {l : Nat} {xs : Array Value} {n : Nat} {A : Around} {h : Heap} {g : Array GenState} {d : Drawn} {tk : Nat} {os : OsState} {Q : PySem.Fin → Shared → Prop} {E : Value → Shared → Prop} (hl : h.get? l = some (oList xs n)) (hfit : (xs.size : Int) < 2 ^ 63)
   (hq : Q (.done (.ret (.int xs.size (tk + 1)))) ⟨h, g, d, tk + 1 + 1, os⟩) : wpAny V.M A (Builtin.«len» ⟨[.ref l], []⟩) Q E ⟨h, g, d, tk, os⟩ := by
  have hL : Heap.IsList (Shared.heap ⟨h, g, d, tk, os⟩) l xs := ⟨_, hl, rfl, n, rfl⟩
  unfold Builtin.«len»
  refine wpAny_bind (m := oneArg "len" _) (wpAny_pure ?_)
  refine wpAny_bind (m := callSpecial? (.ref l) (Str.ofString "__len__")) (wpAny_callSpecial?_slot (name := Str.ofString "__len__") hL.typeIs slot_list_len
    (wpAny_call_entry slot_list_len hL.typeIs entry_list_len ?_ (args_list_len _)))
  · show wpAny _ _ (do retInt (← seqSize l)) _ _ _
    unfold seqSize
    refine wpAny_bind (wpAny_bind (wpAny_load hl ?_))
    refine wpAny_pure (wpAny_bind (wpAny_mkInt (wpAny_pure ⟨_, rfl, ?_⟩)))
    refine wpAny_bind (wpAny_holding (wpAny_pure ?_))
    refine wpAny_bind (wpAny_letGo ?_)
    show wpAny _ _ (if ((xs.size : Nat) : Int) < 0 then _ else _) _ _ _
    rw [if_neg (by omega)]
    show wpAny _ _ (if ((xs.size : Nat) : Int) ≥ 2 ^ 63 then _ else _) _ _ _
    rw [if_neg (by omega)]
    exact wpAny_bind (wpAny_mkInt (wpAny_pure hq))
theorem len_at {V : Vn} {l : Nat} {xs : Array Value} {n : Nat} : (S_len l xs n).Holds V := by
  refine spec_by fun Γ hc hh A hA hd hin h g d tk os At => ?_
  have hl : h.get? l = some (oList xs n) := At.mem _ (List.mem_cons_self ..)
  have hs : xs.size < 1000000 := blt_iff (At.need _ (List.mem_cons_self ..))
  have hf : (xs.size : Int) < 2 ^ 63 := by omega
  clear hs
  exact @den_wp2 _ _ _ _ _ _ _ _ _ rfl entry_len (len_wp hl hf ⟨_, rfl, [], [tk + 1], rfl, ends_same rfl rfl rfl rfl rfl, rfl, rfl, rfl⟩)
/-! a product with a small left factor -/
noncomputable def S_mul (x : Int) (t : Nat) (y : Int) (u : Nat) : Spec := { code := .builtin "int.__mul__" ⟨[.int x t, .int y u], []⟩, dep := 850, need := [Nat.blt x.natAbs 1000], pre := [], touch := [], na := 0, nt := 1, res := fun _ ts => .ok (.ret (.int (x * y) (nth ts 0))), postT := fun _ _ => [], postN := fun _ _ => [] }
theorem mul_is {x : Int} {t : Nat} {y : Int} {u : Nat} (hm : IntMulOk x y) : Builtin.«int.__mul__» ⟨[.int x t, .int y u], []⟩ = retInt (x * y) := by
  show (ite _ _ _ : Sem PySem.Fin) = _
  rw [if_neg hm]
theorem small_mul {x y : Int} (h : x.natAbs < 1000) : IntMulOk x y := .of_left (by
  unfold Builtin.Int.intBits
  split
  · exact Nat.zero_le _
  · rename_i q
    have h0 : x.natAbs ≠ 0 := by
      intro e
      exact q (by simpa using e)
    have : x.natAbs.log2 < 10 := (Nat.log2_lt h0).2 (by omega)
    omega)
theorem mul_at {V : Vn} {x : Int} {t : Nat} {y : Int} {u : Nat} : (S_mul x t y u).Holds V := by
  refine spec_by fun Γ hc hh A hA hd hin h g d tk os At => ?_
  have hs : x.natAbs < 1000 := blt_iff (At.need _ (List.mem_cons_self ..))
  refine @den_wp2 _ _ _ _ _ _ _ _ _ rfl entry_int_mul ?_
  rw [mul_is (small_mul hs)]
  exact wpAny_bind (wpAny_mkInt (wpAny_pure ⟨_, rfl, [], [tk], rfl, ends_same rfl rfl rfl rfl rfl, rfl, rfl, rfl⟩))
/-! items and lengths of lists that are written out -/
theorem blB {i : Int} (h : (leB 0 i && ltB i 1000000) = true) : 0 ≤ i ∧ i < 1000000 := by
  rw [Bool.and_eq_true] at h
  exact ⟨@of_decide_eq_true _ (Z.leZ 0 i) h.1, @of_decide_eq_true _ (Z.ltZ i 1000000) h.2⟩
noncomputable def D_itemE {V : Vn} (l : Nat) (xs : Array Value) (n : Nat) (i : Int) (t : Nat) : Option (CS V) := match hx : xs[i.toNat]? with
  | some v => match hb : (leB 0 i && ltB i 1000000) with
    | true => some ⟨S_itemI l xs n i t v, itemI_at (blB hb).1 hx (blB hb).2⟩
    | false => none
  | none => none
noncomputable def D_len {V : Vn} : Dp V := ⟨1, fun as os _ => match as with
  | [l] => match os with
    | [o] => match seqOf o with
      | some (xs, n) => some ⟨S_len l xs n, len_at⟩
      | none => none
    | _ => none
  | _ => none⟩
noncomputable def F_it (w : World) (l : Nat) (xs : Array Value) (n : Nat) (i : Int) (v : Value) (h0 : 0 ≤ i) (hx : xs[i.toNat]? = some v) (hi : i < 1000000) (c : Code) : Option (Dp (VV w)) := match c with
  | .builtin id ⟨[.ref _, .int i' t], []⟩ => match idIs id 128106587276438692081757506308484131437 with
    | true => some ⟨1, fun as os alt => match alt with
      | 0 => some ⟨S_itemI l xs n i t v, itemI_at h0 hx hi⟩
      | _ => match as with
        | [l'] => match os with
          | [o] => match seqOf o with
            | some (xs', n') => D_itemE l' xs' n' i' t
            | none => none
          | _ => none
        | _ => none⟩
    | false => none
  | .builtin id ⟨[.ref _], []⟩ => match idIs id 7300717 with
    | true => some D_len
    | false => none
  | c => F_i w c
noncomputable def F_l (w : World) (c : Code) : Option (Dp (VV w)) := match c with
  | .builtin id ⟨[.ref _], []⟩ => match idIs id 7300717 with
    | true => some D_len
    | false => none
  | .builtin id ⟨[.int x t, .int y u], []⟩ => match idIs id 116512245094328231196454762 with
    | true => some ⟨0, fun _ _ _ => some ⟨S_mul x t y u, mul_at⟩⟩
    | false => F_int w id x t y u
  | c => F_i w c
/-! argument -/
noncomputable def S_arg (l : Nat) (xs : Array Value) (n : Nat) (at_ : Int) (t : Nat) (nd : List Bool) (v : Value) : Spec := { code := .call (.ref 462) ⟨[.ref l, .int at_ t], []⟩, dep := 780, need := nd, pre := [(l, oList xs n)], touch := [], na := 0, nt := 0, res := fun _ _ => .ok (.ret v), postT := fun _ _ => [], postN := fun _ _ => [] }
theorem argF1 (w : World) (l : Nat) (xs : Array Value) (n t : Nat) : (S_arg l xs n 1 t [!leB 1 (Int.ofNat xs.size), Nat.blt xs.size 1000000] .none).Holds (VV w) :=
  (byRow2 "special-get-raises" (P := fun w => (S_arg l xs n 1 t [!leB 1 (Int.ofNat xs.size), Nat.blt xs.size 1000000] .none).Holds (VV w)) (fun w => start_holds (F := F_l (w.withFollow "special-get-raises" false)) (vok _) 1000 ⟨[0,0,2,2,2,2,2,0,0,2,1,0,2,1,1], [], []⟩ fun m t => by
      rw [PySem.W.ZFast.startZ_eq]
      kernel_rfl) (fun w => start_holds (F := F_l (w.withFollow "special-get-raises" true)) (vok _) 1000 ⟨[0,0,2,2,2,2,2,0,0,2,1,0,2,1,1], [], []⟩ fun m t => by
      rw [PySem.W.ZFast.startZ_eq]
      kernel_rfl) w)
theorem argT1R (w : World) (l : Nat) (xs : Array Value) (n t : Nat) (z : Nat) (h0 : (0 : Int) ≤ 1 - 1) (hx : xs[((1 : Int) - 1).toNat]? = some (.ref z)) (hi : (1 : Int) - 1 < 1000000) : (S_arg l xs n 1 t [leB 1 (Int.ofNat xs.size), Nat.blt xs.size 1000000] (.ref z)).Holds (VV w) :=
  (byRow2 "special-get-raises" (P := fun w => (S_arg l xs n 1 t [leB 1 (Int.ofNat xs.size), Nat.blt xs.size 1000000] (.ref z)).Holds (VV w)) (fun w => start_holds (F := F_it (w.withFollow "special-get-raises" false) l xs n (1 - 1) (.ref z) h0 hx hi) (vok _) 1000 ⟨[0,0,2,2,2,2,2,0,0,2,1,0,2,0,1,2,2,1,1,1,1,1,0], [], []⟩ fun m t => by
      rw [PySem.W.ZFast.startZ_eq]
      kernel_rfl) (fun w => start_holds (F := F_it (w.withFollow "special-get-raises" true) l xs n (1 - 1) (.ref z) h0 hx hi) (vok _) 1000 ⟨[0,0,2,2,2,2,2,0,0,2,1,0,2,0,1,2,2,1,1,1,1,1,0], [], []⟩ fun m t => by
      rw [PySem.W.ZFast.startZ_eq]
      kernel_rfl) w)
theorem argT1I (w : World) (l : Nat) (xs : Array Value) (n t : Nat) (z : Int) (s : Nat) (h0 : (0 : Int) ≤ 1 - 1) (hx : xs[((1 : Int) - 1).toNat]? = some (.int z s)) (hi : (1 : Int) - 1 < 1000000) : (S_arg l xs n 1 t [leB 1 (Int.ofNat xs.size), Nat.blt xs.size 1000000] (.int z s)).Holds (VV w) :=
  (byRow2 "special-get-raises" (P := fun w => (S_arg l xs n 1 t [leB 1 (Int.ofNat xs.size), Nat.blt xs.size 1000000] (.int z s)).Holds (VV w)) (fun w => start_holds (F := F_it (w.withFollow "special-get-raises" false) l xs n (1 - 1) (.int z s) h0 hx hi) (vok _) 1000 ⟨[0,0,2,2,2,2,2,0,0,2,1,0,2,0,1,2,2,1,1,1,1,1,0], [], []⟩ fun m t => by
      rw [PySem.W.ZFast.startZ_eq]
      kernel_rfl) (fun w => start_holds (F := F_it (w.withFollow "special-get-raises" true) l xs n (1 - 1) (.int z s) h0 hx hi) (vok _) 1000 ⟨[0,0,2,2,2,2,2,0,0,2,1,0,2,0,1,2,2,1,1,1,1,1,0], [], []⟩ fun m t => by
      rw [PySem.W.ZFast.startZ_eq]
      kernel_rfl) w)
theorem argT1B (w : World) (l : Nat) (xs : Array Value) (n t : Nat) (z : Array UInt8) (s : Nat) (h0 : (0 : Int) ≤ 1 - 1) (hx : xs[((1 : Int) - 1).toNat]? = some (.bytes z s)) (hi : (1 : Int) - 1 < 1000000) : (S_arg l xs n 1 t [leB 1 (Int.ofNat xs.size), Nat.blt xs.size 1000000] (.bytes z s)).Holds (VV w) :=
  (byRow2 "special-get-raises" (P := fun w => (S_arg l xs n 1 t [leB 1 (Int.ofNat xs.size), Nat.blt xs.size 1000000] (.bytes z s)).Holds (VV w)) (fun w => start_holds (F := F_it (w.withFollow "special-get-raises" false) l xs n (1 - 1) (.bytes z s) h0 hx hi) (vok _) 1000 ⟨[0,0,2,2,2,2,2,0,0,2,1,0,2,0,1,2,2,1,1,1,1,1,0], [], []⟩ fun m t => by
      rw [PySem.W.ZFast.startZ_eq]
      kernel_rfl) (fun w => start_holds (F := F_it (w.withFollow "special-get-raises" true) l xs n (1 - 1) (.bytes z s) h0 hx hi) (vok _) 1000 ⟨[0,0,2,2,2,2,2,0,0,2,1,0,2,0,1,2,2,1,1,1,1,1,0], [], []⟩ fun m t => by
      rw [PySem.W.ZFast.startZ_eq]
      kernel_rfl) w)
theorem argT1N (w : World) (l : Nat) (xs : Array Value) (n t : Nat)  (h0 : (0 : Int) ≤ 1 - 1) (hx : xs[((1 : Int) - 1).toNat]? = some .none) (hi : (1 : Int) - 1 < 1000000) : (S_arg l xs n 1 t [leB 1 (Int.ofNat xs.size), Nat.blt xs.size 1000000] .none).Holds (VV w) :=
  (byRow2 "special-get-raises" (P := fun w => (S_arg l xs n 1 t [leB 1 (Int.ofNat xs.size), Nat.blt xs.size 1000000] .none).Holds (VV w)) (fun w => start_holds (F := F_it (w.withFollow "special-get-raises" false) l xs n (1 - 1) .none h0 hx hi) (vok _) 1000 ⟨[0,0,2,2,2,2,2,0,0,2,1,0,2,0,1,2,2,1,1,1,1,1,0], [], []⟩ fun m t => by
      rw [PySem.W.ZFast.startZ_eq]
      kernel_rfl) (fun w => start_holds (F := F_it (w.withFollow "special-get-raises" true) l xs n (1 - 1) .none h0 hx hi) (vok _) 1000 ⟨[0,0,2,2,2,2,2,0,0,2,1,0,2,0,1,2,2,1,1,1,1,1,0], [], []⟩ fun m t => by
      rw [PySem.W.ZFast.startZ_eq]
      kernel_rfl) w)
theorem argT1O (w : World) (l : Nat) (xs : Array Value) (n t : Nat) (z : Bool) (h0 : (0 : Int) ≤ 1 - 1) (hx : xs[((1 : Int) - 1).toNat]? = some (.bool z)) (hi : (1 : Int) - 1 < 1000000) : (S_arg l xs n 1 t [leB 1 (Int.ofNat xs.size), Nat.blt xs.size 1000000] (.bool z)).Holds (VV w) :=
  (byRow2 "special-get-raises" (P := fun w => (S_arg l xs n 1 t [leB 1 (Int.ofNat xs.size), Nat.blt xs.size 1000000] (.bool z)).Holds (VV w)) (fun w => start_holds (F := F_it (w.withFollow "special-get-raises" false) l xs n (1 - 1) (.bool z) h0 hx hi) (vok _) 1000 ⟨[0,0,2,2,2,2,2,0,0,2,1,0,2,0,1,2,2,1,1,1,1,1,0], [], []⟩ fun m t => by
      rw [PySem.W.ZFast.startZ_eq]
      kernel_rfl) (fun w => start_holds (F := F_it (w.withFollow "special-get-raises" true) l xs n (1 - 1) (.bool z) h0 hx hi) (vok _) 1000 ⟨[0,0,2,2,2,2,2,0,0,2,1,0,2,0,1,2,2,1,1,1,1,1,0], [], []⟩ fun m t => by
      rw [PySem.W.ZFast.startZ_eq]
      kernel_rfl) w)
theorem argF2 (w : World) (l : Nat) (xs : Array Value) (n t : Nat) : (S_arg l xs n 2 t [!leB 2 (Int.ofNat xs.size), Nat.blt xs.size 1000000] .none).Holds (VV w) :=
  (byRow2 "special-get-raises" (P := fun w => (S_arg l xs n 2 t [!leB 2 (Int.ofNat xs.size), Nat.blt xs.size 1000000] .none).Holds (VV w)) (fun w => start_holds (F := F_l (w.withFollow "special-get-raises" false)) (vok _) 1000 ⟨[0,0,2,2,2,2,2,0,0,2,1,0,2,1,1], [], []⟩ fun m t => by
      rw [PySem.W.ZFast.startZ_eq]
      kernel_rfl) (fun w => start_holds (F := F_l (w.withFollow "special-get-raises" true)) (vok _) 1000 ⟨[0,0,2,2,2,2,2,0,0,2,1,0,2,1,1], [], []⟩ fun m t => by
      rw [PySem.W.ZFast.startZ_eq]
      kernel_rfl) w)
theorem argT2R (w : World) (l : Nat) (xs : Array Value) (n t : Nat) (z : Nat) (h0 : (0 : Int) ≤ 2 - 1) (hx : xs[((2 : Int) - 1).toNat]? = some (.ref z)) (hi : (2 : Int) - 1 < 1000000) : (S_arg l xs n 2 t [leB 2 (Int.ofNat xs.size), Nat.blt xs.size 1000000] (.ref z)).Holds (VV w) :=
  (byRow2 "special-get-raises" (P := fun w => (S_arg l xs n 2 t [leB 2 (Int.ofNat xs.size), Nat.blt xs.size 1000000] (.ref z)).Holds (VV w)) (fun w => start_holds (F := F_it (w.withFollow "special-get-raises" false) l xs n (2 - 1) (.ref z) h0 hx hi) (vok _) 1000 ⟨[0,0,2,2,2,2,2,0,0,2,1,0,2,0,1,2,2,1,1,1,1,1,0], [], []⟩ fun m t => by
      rw [PySem.W.ZFast.startZ_eq]
      kernel_rfl) (fun w => start_holds (F := F_it (w.withFollow "special-get-raises" true) l xs n (2 - 1) (.ref z) h0 hx hi) (vok _) 1000 ⟨[0,0,2,2,2,2,2,0,0,2,1,0,2,0,1,2,2,1,1,1,1,1,0], [], []⟩ fun m t => by
      rw [PySem.W.ZFast.startZ_eq]
      kernel_rfl) w)
theorem argT2I (w : World) (l : Nat) (xs : Array Value) (n t : Nat) (z : Int) (s : Nat) (h0 : (0 : Int) ≤ 2 - 1) (hx : xs[((2 : Int) - 1).toNat]? = some (.int z s)) (hi : (2 : Int) - 1 < 1000000) : (S_arg l xs n 2 t [leB 2 (Int.ofNat xs.size), Nat.blt xs.size 1000000] (.int z s)).Holds (VV w) :=
  (byRow2 "special-get-raises" (P := fun w => (S_arg l xs n 2 t [leB 2 (Int.ofNat xs.size), Nat.blt xs.size 1000000] (.int z s)).Holds (VV w)) (fun w => start_holds (F := F_it (w.withFollow "special-get-raises" false) l xs n (2 - 1) (.int z s) h0 hx hi) (vok _) 1000 ⟨[0,0,2,2,2,2,2,0,0,2,1,0,2,0,1,2,2,1,1,1,1,1,0], [], []⟩ fun m t => by
      rw [PySem.W.ZFast.startZ_eq]
      kernel_rfl) (fun w => start_holds (F := F_it (w.withFollow "special-get-raises" true) l xs n (2 - 1) (.int z s) h0 hx hi) (vok _) 1000 ⟨[0,0,2,2,2,2,2,0,0,2,1,0,2,0,1,2,2,1,1,1,1,1,0], [], []⟩ fun m t => by
      rw [PySem.W.ZFast.startZ_eq]
      kernel_rfl) w)
theorem argT2B (w : World) (l : Nat) (xs : Array Value) (n t : Nat) (z : Array UInt8) (s : Nat) (h0 : (0 : Int) ≤ 2 - 1) (hx : xs[((2 : Int) - 1).toNat]? = some (.bytes z s)) (hi : (2 : Int) - 1 < 1000000) : (S_arg l xs n 2 t [leB 2 (Int.ofNat xs.size), Nat.blt xs.size 1000000] (.bytes z s)).Holds (VV w) :=
  (byRow2 "special-get-raises" (P := fun w => (S_arg l xs n 2 t [leB 2 (Int.ofNat xs.size), Nat.blt xs.size 1000000] (.bytes z s)).Holds (VV w)) (fun w => start_holds (F := F_it (w.withFollow "special-get-raises" false) l xs n (2 - 1) (.bytes z s) h0 hx hi) (vok _) 1000 ⟨[0,0,2,2,2,2,2,0,0,2,1,0,2,0,1,2,2,1,1,1,1,1,0], [], []⟩ fun m t => by
      rw [PySem.W.ZFast.startZ_eq]
      kernel_rfl) (fun w => start_holds (F := F_it (w.withFollow "special-get-raises" true) l xs n (2 - 1) (.bytes z s) h0 hx hi) (vok _) 1000 ⟨[0,0,2,2,2,2,2,0,0,2,1,0,2,0,1,2,2,1,1,1,1,1,0], [], []⟩ fun m t => by
      rw [PySem.W.ZFast.startZ_eq]
      kernel_rfl) w)
theorem argT2N (w : World) (l : Nat) (xs : Array Value) (n t : Nat)  (h0 : (0 : Int) ≤ 2 - 1) (hx : xs[((2 : Int) - 1).toNat]? = some .none) (hi : (2 : Int) - 1 < 1000000) : (S_arg l xs n 2 t [leB 2 (Int.ofNat xs.size), Nat.blt xs.size 1000000] .none).Holds (VV w) :=
  (byRow2 "special-get-raises" (P := fun w => (S_arg l xs n 2 t [leB 2 (Int.ofNat xs.size), Nat.blt xs.size 1000000] .none).Holds (VV w)) (fun w => start_holds (F := F_it (w.withFollow "special-get-raises" false) l xs n (2 - 1) .none h0 hx hi) (vok _) 1000 ⟨[0,0,2,2,2,2,2,0,0,2,1,0,2,0,1,2,2,1,1,1,1,1,0], [], []⟩ fun m t => by
      rw [PySem.W.ZFast.startZ_eq]
      kernel_rfl) (fun w => start_holds (F := F_it (w.withFollow "special-get-raises" true) l xs n (2 - 1) .none h0 hx hi) (vok _) 1000 ⟨[0,0,2,2,2,2,2,0,0,2,1,0,2,0,1,2,2,1,1,1,1,1,0], [], []⟩ fun m t => by
      rw [PySem.W.ZFast.startZ_eq]
      kernel_rfl) w)
theorem argT2O (w : World) (l : Nat) (xs : Array Value) (n t : Nat) (z : Bool) (h0 : (0 : Int) ≤ 2 - 1) (hx : xs[((2 : Int) - 1).toNat]? = some (.bool z)) (hi : (2 : Int) - 1 < 1000000) : (S_arg l xs n 2 t [leB 2 (Int.ofNat xs.size), Nat.blt xs.size 1000000] (.bool z)).Holds (VV w) :=
  (byRow2 "special-get-raises" (P := fun w => (S_arg l xs n 2 t [leB 2 (Int.ofNat xs.size), Nat.blt xs.size 1000000] (.bool z)).Holds (VV w)) (fun w => start_holds (F := F_it (w.withFollow "special-get-raises" false) l xs n (2 - 1) (.bool z) h0 hx hi) (vok _) 1000 ⟨[0,0,2,2,2,2,2,0,0,2,1,0,2,0,1,2,2,1,1,1,1,1,0], [], []⟩ fun m t => by
      rw [PySem.W.ZFast.startZ_eq]
      kernel_rfl) (fun w => start_holds (F := F_it (w.withFollow "special-get-raises" true) l xs n (2 - 1) (.bool z) h0 hx hi) (vok _) 1000 ⟨[0,0,2,2,2,2,2,0,0,2,1,0,2,0,1,2,2,1,1,1,1,1,0], [], []⟩ fun m t => by
      rw [PySem.W.ZFast.startZ_eq]
      kernel_rfl) w)
theorem argF3 (w : World) (l : Nat) (xs : Array Value) (n t : Nat) : (S_arg l xs n 3 t [!leB 3 (Int.ofNat xs.size), Nat.blt xs.size 1000000] .none).Holds (VV w) :=
  (byRow2 "special-get-raises" (P := fun w => (S_arg l xs n 3 t [!leB 3 (Int.ofNat xs.size), Nat.blt xs.size 1000000] .none).Holds (VV w)) (fun w => start_holds (F := F_l (w.withFollow "special-get-raises" false)) (vok _) 1000 ⟨[0,0,2,2,2,2,2,0,0,2,1,0,2,1,1], [], []⟩ fun m t => by
      rw [PySem.W.ZFast.startZ_eq]
      kernel_rfl) (fun w => start_holds (F := F_l (w.withFollow "special-get-raises" true)) (vok _) 1000 ⟨[0,0,2,2,2,2,2,0,0,2,1,0,2,1,1], [], []⟩ fun m t => by
      rw [PySem.W.ZFast.startZ_eq]
      kernel_rfl) w)
theorem argT3R (w : World) (l : Nat) (xs : Array Value) (n t : Nat) (z : Nat) (h0 : (0 : Int) ≤ 3 - 1) (hx : xs[((3 : Int) - 1).toNat]? = some (.ref z)) (hi : (3 : Int) - 1 < 1000000) : (S_arg l xs n 3 t [leB 3 (Int.ofNat xs.size), Nat.blt xs.size 1000000] (.ref z)).Holds (VV w) :=
  (byRow2 "special-get-raises" (P := fun w => (S_arg l xs n 3 t [leB 3 (Int.ofNat xs.size), Nat.blt xs.size 1000000] (.ref z)).Holds (VV w)) (fun w => start_holds (F := F_it (w.withFollow "special-get-raises" false) l xs n (3 - 1) (.ref z) h0 hx hi) (vok _) 1000 ⟨[0,0,2,2,2,2,2,0,0,2,1,0,2,0,1,2,2,1,1,1,1,1,0], [], []⟩ fun m t => by
      rw [PySem.W.ZFast.startZ_eq]
      kernel_rfl) (fun w => start_holds (F := F_it (w.withFollow "special-get-raises" true) l xs n (3 - 1) (.ref z) h0 hx hi) (vok _) 1000 ⟨[0,0,2,2,2,2,2,0,0,2,1,0,2,0,1,2,2,1,1,1,1,1,0], [], []⟩ fun m t => by
      rw [PySem.W.ZFast.startZ_eq]
      kernel_rfl) w)
theorem argT3I (w : World) (l : Nat) (xs : Array Value) (n t : Nat) (z : Int) (s : Nat) (h0 : (0 : Int) ≤ 3 - 1) (hx : xs[((3 : Int) - 1).toNat]? = some (.int z s)) (hi : (3 : Int) - 1 < 1000000) : (S_arg l xs n 3 t [leB 3 (Int.ofNat xs.size), Nat.blt xs.size 1000000] (.int z s)).Holds (VV w) :=
  (byRow2 "special-get-raises" (P := fun w => (S_arg l xs n 3 t [leB 3 (Int.ofNat xs.size), Nat.blt xs.size 1000000] (.int z s)).Holds (VV w)) (fun w => start_holds (F := F_it (w.withFollow "special-get-raises" false) l xs n (3 - 1) (.int z s) h0 hx hi) (vok _) 1000 ⟨[0,0,2,2,2,2,2,0,0,2,1,0,2,0,1,2,2,1,1,1,1,1,0], [], []⟩ fun m t => by
      rw [PySem.W.ZFast.startZ_eq]
      kernel_rfl) (fun w => start_holds (F := F_it (w.withFollow "special-get-raises" true) l xs n (3 - 1) (.int z s) h0 hx hi) (vok _) 1000 ⟨[0,0,2,2,2,2,2,0,0,2,1,0,2,0,1,2,2,1,1,1,1,1,0], [], []⟩ fun m t => by
      rw [PySem.W.ZFast.startZ_eq]
      kernel_rfl) w)
theorem argT3B (w : World) (l : Nat) (xs : Array Value) (n t : Nat) (z : Array UInt8) (s : Nat) (h0 : (0 : Int) ≤ 3 - 1) (hx : xs[((3 : Int) - 1).toNat]? = some (.bytes z s)) (hi : (3 : Int) - 1 < 1000000) : (S_arg l xs n 3 t [leB 3 (Int.ofNat xs.size), Nat.blt xs.size 1000000] (.bytes z s)).Holds (VV w) :=
  (byRow2 "special-get-raises" (P := fun w => (S_arg l xs n 3 t [leB 3 (Int.ofNat xs.size), Nat.blt xs.size 1000000] (.bytes z s)).Holds (VV w)) (fun w => start_holds (F := F_it (w.withFollow "special-get-raises" false) l xs n (3 - 1) (.bytes z s) h0 hx hi) (vok _) 1000 ⟨[0,0,2,2,2,2,2,0,0,2,1,0,2,0,1,2,2,1,1,1,1,1,0], [], []⟩ fun m t => by
      rw [PySem.W.ZFast.startZ_eq]
      kernel_rfl) (fun w => start_holds (F := F_it (w.withFollow "special-get-raises" true) l xs n (3 - 1) (.bytes z s) h0 hx hi) (vok _) 1000 ⟨[0,0,2,2,2,2,2,0,0,2,1,0,2,0,1,2,2,1,1,1,1,1,0], [], []⟩ fun m t => by
      rw [PySem.W.ZFast.startZ_eq]
      kernel_rfl) w)
theorem argT3N (w : World) (l : Nat) (xs : Array Value) (n t : Nat)  (h0 : (0 : Int) ≤ 3 - 1) (hx : xs[((3 : Int) - 1).toNat]? = some .none) (hi : (3 : Int) - 1 < 1000000) : (S_arg l xs n 3 t [leB 3 (Int.ofNat xs.size), Nat.blt xs.size 1000000] .none).Holds (VV w) :=
  (byRow2 "special-get-raises" (P := fun w => (S_arg l xs n 3 t [leB 3 (Int.ofNat xs.size), Nat.blt xs.size 1000000] .none).Holds (VV w)) (fun w => start_holds (F := F_it (w.withFollow "special-get-raises" false) l xs n (3 - 1) .none h0 hx hi) (vok _) 1000 ⟨[0,0,2,2,2,2,2,0,0,2,1,0,2,0,1,2,2,1,1,1,1,1,0], [], []⟩ fun m t => by
      rw [PySem.W.ZFast.startZ_eq]
      kernel_rfl) (fun w => start_holds (F := F_it (w.withFollow "special-get-raises" true) l xs n (3 - 1) .none h0 hx hi) (vok _) 1000 ⟨[0,0,2,2,2,2,2,0,0,2,1,0,2,0,1,2,2,1,1,1,1,1,0], [], []⟩ fun m t => by
      rw [PySem.W.ZFast.startZ_eq]
      kernel_rfl) w)
theorem argT3O (w : World) (l : Nat) (xs : Array Value) (n t : Nat) (z : Bool) (h0 : (0 : Int) ≤ 3 - 1) (hx : xs[((3 : Int) - 1).toNat]? = some (.bool z)) (hi : (3 : Int) - 1 < 1000000) : (S_arg l xs n 3 t [leB 3 (Int.ofNat xs.size), Nat.blt xs.size 1000000] (.bool z)).Holds (VV w) :=
  (byRow2 "special-get-raises" (P := fun w => (S_arg l xs n 3 t [leB 3 (Int.ofNat xs.size), Nat.blt xs.size 1000000] (.bool z)).Holds (VV w)) (fun w => start_holds (F := F_it (w.withFollow "special-get-raises" false) l xs n (3 - 1) (.bool z) h0 hx hi) (vok _) 1000 ⟨[0,0,2,2,2,2,2,0,0,2,1,0,2,0,1,2,2,1,1,1,1,1,0], [], []⟩ fun m t => by
      rw [PySem.W.ZFast.startZ_eq]
      kernel_rfl) (fun w => start_holds (F := F_it (w.withFollow "special-get-raises" true) l xs n (3 - 1) (.bool z) h0 hx hi) (vok _) 1000 ⟨[0,0,2,2,2,2,2,0,0,2,1,0,2,0,1,2,2,1,1,1,1,1,0], [], []⟩ fun m t => by
      rw [PySem.W.ZFast.startZ_eq]
      kernel_rfl) w)
theorem argF4 (w : World) (l : Nat) (xs : Array Value) (n t : Nat) : (S_arg l xs n 4 t [!leB 4 (Int.ofNat xs.size), Nat.blt xs.size 1000000] .none).Holds (VV w) :=
  (byRow2 "special-get-raises" (P := fun w => (S_arg l xs n 4 t [!leB 4 (Int.ofNat xs.size), Nat.blt xs.size 1000000] .none).Holds (VV w)) (fun w => start_holds (F := F_l (w.withFollow "special-get-raises" false)) (vok _) 1000 ⟨[0,0,2,2,2,2,2,0,0,2,1,0,2,1,1], [], []⟩ fun m t => by
      rw [PySem.W.ZFast.startZ_eq]
      kernel_rfl) (fun w => start_holds (F := F_l (w.withFollow "special-get-raises" true)) (vok _) 1000 ⟨[0,0,2,2,2,2,2,0,0,2,1,0,2,1,1], [], []⟩ fun m t => by
      rw [PySem.W.ZFast.startZ_eq]
      kernel_rfl) w)
theorem argT4R (w : World) (l : Nat) (xs : Array Value) (n t : Nat) (z : Nat) (h0 : (0 : Int) ≤ 4 - 1) (hx : xs[((4 : Int) - 1).toNat]? = some (.ref z)) (hi : (4 : Int) - 1 < 1000000) : (S_arg l xs n 4 t [leB 4 (Int.ofNat xs.size), Nat.blt xs.size 1000000] (.ref z)).Holds (VV w) :=
  (byRow2 "special-get-raises" (P := fun w => (S_arg l xs n 4 t [leB 4 (Int.ofNat xs.size), Nat.blt xs.size 1000000] (.ref z)).Holds (VV w)) (fun w => start_holds (F := F_it (w.withFollow "special-get-raises" false) l xs n (4 - 1) (.ref z) h0 hx hi) (vok _) 1000 ⟨[0,0,2,2,2,2,2,0,0,2,1,0,2,0,1,2,2,1,1,1,1,1,0], [], []⟩ fun m t => by
      rw [PySem.W.ZFast.startZ_eq]
      kernel_rfl) (fun w => start_holds (F := F_it (w.withFollow "special-get-raises" true) l xs n (4 - 1) (.ref z) h0 hx hi) (vok _) 1000 ⟨[0,0,2,2,2,2,2,0,0,2,1,0,2,0,1,2,2,1,1,1,1,1,0], [], []⟩ fun m t => by
      rw [PySem.W.ZFast.startZ_eq]
      kernel_rfl) w)
theorem argT4I (w : World) (l : Nat) (xs : Array Value) (n t : Nat) (z : Int) (s : Nat) (h0 : (0 : Int) ≤ 4 - 1) (hx : xs[((4 : Int) - 1).toNat]? = some (.int z s)) (hi : (4 : Int) - 1 < 1000000) : (S_arg l xs n 4 t [leB 4 (Int.ofNat xs.size), Nat.blt xs.size 1000000] (.int z s)).Holds (VV w) :=
  (byRow2 "special-get-raises" (P := fun w => (S_arg l xs n 4 t [leB 4 (Int.ofNat xs.size), Nat.blt xs.size 1000000] (.int z s)).Holds (VV w)) (fun w => start_holds (F := F_it (w.withFollow "special-get-raises" false) l xs n (4 - 1) (.int z s) h0 hx hi) (vok _) 1000 ⟨[0,0,2,2,2,2,2,0,0,2,1,0,2,0,1,2,2,1,1,1,1,1,0], [], []⟩ fun m t => by
      rw [PySem.W.ZFast.startZ_eq]
      kernel_rfl) (fun w => start_holds (F := F_it (w.withFollow "special-get-raises" true) l xs n (4 - 1) (.int z s) h0 hx hi) (vok _) 1000 ⟨[0,0,2,2,2,2,2,0,0,2,1,0,2,0,1,2,2,1,1,1,1,1,0], [], []⟩ fun m t => by
      rw [PySem.W.ZFast.startZ_eq]
      kernel_rfl) w)
theorem argT4B (w : World) (l : Nat) (xs : Array Value) (n t : Nat) (z : Array UInt8) (s : Nat) (h0 : (0 : Int) ≤ 4 - 1) (hx : xs[((4 : Int) - 1).toNat]? = some (.bytes z s)) (hi : (4 : Int) - 1 < 1000000) : (S_arg l xs n 4 t [leB 4 (Int.ofNat xs.size), Nat.blt xs.size 1000000] (.bytes z s)).Holds (VV w) :=
  (byRow2 "special-get-raises" (P := fun w => (S_arg l xs n 4 t [leB 4 (Int.ofNat xs.size), Nat.blt xs.size 1000000] (.bytes z s)).Holds (VV w)) (fun w => start_holds (F := F_it (w.withFollow "special-get-raises" false) l xs n (4 - 1) (.bytes z s) h0 hx hi) (vok _) 1000 ⟨[0,0,2,2,2,2,2,0,0,2,1,0,2,0,1,2,2,1,1,1,1,1,0], [], []⟩ fun m t => by
      rw [PySem.W.ZFast.startZ_eq]
      kernel_rfl) (fun w => start_holds (F := F_it (w.withFollow "special-get-raises" true) l xs n (4 - 1) (.bytes z s) h0 hx hi) (vok _) 1000 ⟨[0,0,2,2,2,2,2,0,0,2,1,0,2,0,1,2,2,1,1,1,1,1,0], [], []⟩ fun m t => by
      rw [PySem.W.ZFast.startZ_eq]
      kernel_rfl) w)
theorem argT4N (w : World) (l : Nat) (xs : Array Value) (n t : Nat)  (h0 : (0 : Int) ≤ 4 - 1) (hx : xs[((4 : Int) - 1).toNat]? = some .none) (hi : (4 : Int) - 1 < 1000000) : (S_arg l xs n 4 t [leB 4 (Int.ofNat xs.size), Nat.blt xs.size 1000000] .none).Holds (VV w) :=
  (byRow2 "special-get-raises" (P := fun w => (S_arg l xs n 4 t [leB 4 (Int.ofNat xs.size), Nat.blt xs.size 1000000] .none).Holds (VV w)) (fun w => start_holds (F := F_it (w.withFollow "special-get-raises" false) l xs n (4 - 1) .none h0 hx hi) (vok _) 1000 ⟨[0,0,2,2,2,2,2,0,0,2,1,0,2,0,1,2,2,1,1,1,1,1,0], [], []⟩ fun m t => by
      rw [PySem.W.ZFast.startZ_eq]
      kernel_rfl) (fun w => start_holds (F := F_it (w.withFollow "special-get-raises" true) l xs n (4 - 1) .none h0 hx hi) (vok _) 1000 ⟨[0,0,2,2,2,2,2,0,0,2,1,0,2,0,1,2,2,1,1,1,1,1,0], [], []⟩ fun m t => by
      rw [PySem.W.ZFast.startZ_eq]
      kernel_rfl) w)
theorem argT4O (w : World) (l : Nat) (xs : Array Value) (n t : Nat) (z : Bool) (h0 : (0 : Int) ≤ 4 - 1) (hx : xs[((4 : Int) - 1).toNat]? = some (.bool z)) (hi : (4 : Int) - 1 < 1000000) : (S_arg l xs n 4 t [leB 4 (Int.ofNat xs.size), Nat.blt xs.size 1000000] (.bool z)).Holds (VV w) :=
  (byRow2 "special-get-raises" (P := fun w => (S_arg l xs n 4 t [leB 4 (Int.ofNat xs.size), Nat.blt xs.size 1000000] (.bool z)).Holds (VV w)) (fun w => start_holds (F := F_it (w.withFollow "special-get-raises" false) l xs n (4 - 1) (.bool z) h0 hx hi) (vok _) 1000 ⟨[0,0,2,2,2,2,2,0,0,2,1,0,2,0,1,2,2,1,1,1,1,1,0], [], []⟩ fun m t => by
      rw [PySem.W.ZFast.startZ_eq]
      kernel_rfl) (fun w => start_holds (F := F_it (w.withFollow "special-get-raises" true) l xs n (4 - 1) (.bool z) h0 hx hi) (vok _) 1000 ⟨[0,0,2,2,2,2,2,0,0,2,1,0,2,0,1,2,2,1,1,1,1,1,0], [], []⟩ fun m t => by
      rw [PySem.W.ZFast.startZ_eq]
      kernel_rfl) w)
/-! cut_frames(0) -/
noncomputable def S_cut (H hd : Nat) (S : Hst) (steps : Int) (ts fr : Nat) (deep : Int) (td : Nat) (tm : Nat) (xs : Array Value) (n : Nat) : Spec := { code := .call (.ref 371) ⟨[.ref H, .int 0 tm], []⟩, dep := 790, pre := [(H, oInst 451 hd), (hd, S.obj steps ts fr deep td), (fr, oList xs n)], touch := [1], na := 1, nt := 1, res := fun _ _ => .ok (.ret .none), postT := fun as us => [some (S.obj steps ts (nth as 0) 0 (nth us 0))], postN := fun _ _ => [oList #[] 0] }
theorem cutX (w : World) (H hd : Nat) (S : Hst) (steps : Int) (ts fr : Nat) (deep : Int) (td : Nat) (tm : Nat) (xs : Array Value) (n : Nat) : (S_cut H hd S steps ts fr deep td tm xs n).Holds (VV w) :=
  (byRow2 "special-get-raises" (P := fun w => (S_cut H hd S steps ts fr deep td tm xs n).Holds (VV w)) (fun w => start_holds (F := F_i (w.withFollow "special-get-raises" false)) (vok _) 1000 ⟨[0,0,4,4,4,4,4,1,0,0,0,1,0,0,0,1,1,0,2,4,3,3,3,3,5,5,5,5,5,3,4,1,0,0,0,1,0,1,0,1,0,0,0,1,0,2,2,2,0,0,4,1,0,0,0,1,0,0,0,1,1,0,2,6,6,6,1,0,4,1,0,0,0,1,0,1,0,1,0,0,0,1,0,2,2,2], [5], [9]⟩ fun m t => by
      rw [PySem.W.ZFast.startZ_eq]
      kernel_rfl) (fun w => start_holds (F := F_i (w.withFollow "special-get-raises" true)) (vok _) 1000 ⟨[0,0,4,4,4,4,4,1,0,0,0,1,0,0,0,1,1,0,2,4,3,3,3,3,5,5,5,5,5,3,4,1,0,0,0,1,0,1,0,1,0,0,0,1,0,2,2,2,0,0,4,1,0,0,0,1,0,0,0,1,1,0,2,6,6,6,1,0,4,1,0,0,0,1,0,1,0,1,0,0,0,1,0,2,2,2], [5], [9]⟩ fun m t => by
      rw [PySem.W.ZFast.startZ_eq]
      kernel_rfl) w)
/-! a draw -/
noncomputable def S_take (tr ls : Nat) (at_ : Int) (ta n : Nat) (ys : Array Value) (m : Nat) (k tw : Nat) (nd : List Bool) (r : Int) : Spec := { code := .call (.ref 790) ⟨[.ref tr, .int (Int.ofNat (k + 1)) tw], []⟩, dep := 790, need := nd, pre := [(tr, oList #[.ref ls, .int at_ ta] n), (ls, oList ys m)], touch := [0], na := 0, nt := 2, res := fun _ ts => .ok (.ret (.int r (nth ts 0))), postT := fun _ ts => [some (oList #[.ref ls, .int (at_ + 1) (nth ts 1)] n)], postN := fun _ _ => [] }
theorem takeW (w : World) (tr ls : Nat) (at_ : Int) (ta n : Nat) (ys : Array Value) (m : Nat) (k tw : Nat) (x : Int) (u : Nat) (h0 : 0 ≤ at_ + 1 - 1) (hx : ys[(at_ + 1 - 1).toNat]? = some (.int x u)) (hi : at_ + 1 - 1 < 1000000) : (S_take tr ls at_ ta n ys m k tw [leB (at_ + 1) (Int.ofNat ys.size), Nat.blt ys.size 1000000] ((Int.ofNat x.natAbs).fmod (Int.ofNat (k + 1)))).Holds (VV w) :=
  (byRow2 "special-get-raises" (P := fun w => (S_take tr ls at_ ta n ys m k tw [leB (at_ + 1) (Int.ofNat ys.size), Nat.blt ys.size 1000000] ((Int.ofNat x.natAbs).fmod (Int.ofNat (k + 1)))).Holds (VV w)) (fun w => start_holds (F := F_it (w.withFollow "special-get-raises" false) ls ys m (at_ + 1 - 1) (.int x u) h0 hx hi) (vok _) 1000 ⟨[0,0,3,3,3,3,3,1,1,1,1,1,1,3,1,1,1,1,1,1,3,1,1,1,1,1,1,3,3,3,0,0,3,1,1,1,1,1,1,2,0,2,0,1,0,0,3,1,1,1,1,1,1,3,2,2,2,2,2,0,0,3,0], [], [14,4]⟩ fun m t => by
      rw [PySem.W.ZFast.startZ_eq]
      kernel_rfl) (fun w => start_holds (F := F_it (w.withFollow "special-get-raises" true) ls ys m (at_ + 1 - 1) (.int x u) h0 hx hi) (vok _) 1000 ⟨[0,0,3,3,3,3,3,1,1,1,1,1,1,3,1,1,1,1,1,1,3,1,1,1,1,1,1,3,3,3,0,0,3,1,1,1,1,1,1,2,0,2,0,1,0,0,3,1,1,1,1,1,1,3,2,2,2,2,2,0,0,3,0], [], [14,4]⟩ fun m t => by
      rw [PySem.W.ZFast.startZ_eq]
      kernel_rfl) w)
theorem takeB (w : World) (tr ls : Nat) (at_ : Int) (ta n : Nat) (ys : Array Value) (m : Nat) (k tw : Nat) : (S_take tr ls at_ ta n ys m k tw [!leB (at_ + 1) (Int.ofNat ys.size), Nat.blt ys.size 1000000] ((5 * (at_ + 1) + (at_ + 1).fdiv 3 + 2).fmod (Int.ofNat (k + 1)))).Holds (VV w) :=
  (byRow2 "special-get-raises" (P := fun w => (S_take tr ls at_ ta n ys m k tw [!leB (at_ + 1) (Int.ofNat ys.size), Nat.blt ys.size 1000000] ((5 * (at_ + 1) + (at_ + 1).fdiv 3 + 2).fmod (Int.ofNat (k + 1)))).Holds (VV w)) (fun w => start_holds (F := F_l (w.withFollow "special-get-raises" false)) (vok _) 1000 ⟨[0,0,3,3,3,3,3,1,1,1,1,1,3,1,1,1,1,1,1,3,1,1,1,1,1,3,3,3,0,0,3,1,1,1,1,1,2,0,2,1,1,3,0,0,3,0,3,0], [], [17,4]⟩ fun m t => by
      rw [PySem.W.ZFast.startZ_eq]
      kernel_rfl) (fun w => start_holds (F := F_l (w.withFollow "special-get-raises" true)) (vok _) 1000 ⟨[0,0,3,3,3,3,3,1,1,1,1,1,3,1,1,1,1,1,1,3,1,1,1,1,1,3,3,3,0,0,3,1,1,1,1,1,2,0,2,1,1,3,0,0,3,0,3,0], [], [17,4]⟩ fun m t => by
      rw [PySem.W.ZFast.startZ_eq]
      kernel_rfl) w)
end Mine
end

section
open PySem PySem.W PySem.W.X PyProof.Rows
set_option maxRecDepth 1000000
set_option maxHeartbeats 0
namespace Mine
open PySem.W.ZFast (hashOfZ)
/-! argument, joined -/
def easyO (v : Value) : Bool := match v with | .bool _ => true | v => easy v
def argV (xs : Array Value) (a : Nat) : Value := xs.toList.getD (a - 1) .none
theorem argV_some {xs : Array Value} {a : Nat} (h : a - 1 < xs.size) : xs[a - 1]? = some (argV xs a) := by
  unfold argV
  rw [List.getD_eq_getElem?_getD, Array.getElem?_toList, Array.getElem?_eq_getElem h]; rfl
theorem argV_none {xs : Array Value} {a : Nat} (h : ¬ a - 1 < xs.size) : argV xs a = .none := by
  unfold argV
  rw [List.getD_eq_getElem?_getD, Array.getElem?_toList, Array.getElem?_eq_none (by omega)]; rfl
theorem leB_iff' {x y : Int} : leB x y = true ↔ x ≤ y := by unfold leB; exact @decide_eq_true_iff _ (Z.leZ x y)
theorem ltB_iff' {x y : Int} : ltB x y = true ↔ x < y := by unfold ltB; exact @decide_eq_true_iff _ (Z.ltZ x y)
theorem eqB_iff' {x y : Int} : eqB x y = true ↔ x = y := by unfold eqB; exact @decide_eq_true_iff _ (Z.eqZ x y)
theorem notB {b : Bool} {p : Prop} (h : b = true ↔ p) (n : ¬ p) : (!b) = true := by
  cases b with
  | false => rfl
  | true => exact absurd (h.1 rfl) n
theorem arg_any1 (w : World) (l : Nat) (xs : Array Value) (n t : Nat) : (S_arg l xs n 1 t [easyO (argV xs 1), Nat.blt xs.size 1000000] (argV xs 1)).Holds (VV w) :=
  Spec.Holds.more (S := S_arg l xs n 1 t [] (argV xs 1)) (fun q => by
    have hy := q _ (List.mem_cons_self ..)
    have hz := q _ (List.mem_cons_of_mem _ (List.mem_cons_self ..))
    by_cases h : 1 - 1 < xs.size
    · have hx := argV_some (a := 1) h
      have h1 : leB 1 (Int.ofNat xs.size) = true := leB_iff'.2 (by show (1 : Int) ≤ (xs.size : Int); omega)
      have nd : ∀ b ∈ [leB 1 (Int.ofNat xs.size), Nat.blt xs.size 1000000], b = true := by
        intro b hb
        simp only [List.mem_cons, List.not_mem_nil, or_false] at hb
        rcases hb with rfl | rfl <;> assumption
      generalize argV xs 1 = v at hx hy
      match v, hx, hy with
      | .none, hx, _ => exact Spec.Holds.less (argT1N w l xs n t (by decide) hx (by decide)) nd
      | .bool z, hx, _ => exact Spec.Holds.less (argT1O w l xs n t z (by decide) hx (by decide)) nd
      | .int z s, hx, _ => exact Spec.Holds.less (argT1I w l xs n t z s (by decide) hx (by decide)) nd
      | .bytes z s, hx, _ => exact Spec.Holds.less (argT1B w l xs n t z s (by decide) hx (by decide)) nd
      | .ref z, hx, _ => exact Spec.Holds.less (argT1R w l xs n t z (by decide) hx (by decide)) nd
    · rw [argV_none h]
      refine Spec.Holds.less (argF1 w l xs n t) ?_
      intro b hb
      change b ∈ [!leB 1 (Int.ofNat xs.size), Nat.blt xs.size 1000000] at hb
      simp only [List.mem_cons, List.not_mem_nil, or_false] at hb
      rcases hb with rfl | rfl
      · refine notB leB_iff' ?_
        show ¬ (1 : Int) ≤ (xs.size : Int)
        omega
      · exact hz) rfl
theorem arg_any2 (w : World) (l : Nat) (xs : Array Value) (n t : Nat) : (S_arg l xs n 2 t [easyO (argV xs 2), Nat.blt xs.size 1000000] (argV xs 2)).Holds (VV w) :=
  Spec.Holds.more (S := S_arg l xs n 2 t [] (argV xs 2)) (fun q => by
    have hy := q _ (List.mem_cons_self ..)
    have hz := q _ (List.mem_cons_of_mem _ (List.mem_cons_self ..))
    by_cases h : 2 - 1 < xs.size
    · have hx := argV_some (a := 2) h
      have h1 : leB 2 (Int.ofNat xs.size) = true := leB_iff'.2 (by show (2 : Int) ≤ (xs.size : Int); omega)
      have nd : ∀ b ∈ [leB 2 (Int.ofNat xs.size), Nat.blt xs.size 1000000], b = true := by
        intro b hb
        simp only [List.mem_cons, List.not_mem_nil, or_false] at hb
        rcases hb with rfl | rfl <;> assumption
      generalize argV xs 2 = v at hx hy
      match v, hx, hy with
      | .none, hx, _ => exact Spec.Holds.less (argT2N w l xs n t (by decide) hx (by decide)) nd
      | .bool z, hx, _ => exact Spec.Holds.less (argT2O w l xs n t z (by decide) hx (by decide)) nd
      | .int z s, hx, _ => exact Spec.Holds.less (argT2I w l xs n t z s (by decide) hx (by decide)) nd
      | .bytes z s, hx, _ => exact Spec.Holds.less (argT2B w l xs n t z s (by decide) hx (by decide)) nd
      | .ref z, hx, _ => exact Spec.Holds.less (argT2R w l xs n t z (by decide) hx (by decide)) nd
    · rw [argV_none h]
      refine Spec.Holds.less (argF2 w l xs n t) ?_
      intro b hb
      change b ∈ [!leB 2 (Int.ofNat xs.size), Nat.blt xs.size 1000000] at hb
      simp only [List.mem_cons, List.not_mem_nil, or_false] at hb
      rcases hb with rfl | rfl
      · refine notB leB_iff' ?_
        show ¬ (2 : Int) ≤ (xs.size : Int)
        omega
      · exact hz) rfl
theorem arg_any3 (w : World) (l : Nat) (xs : Array Value) (n t : Nat) : (S_arg l xs n 3 t [easyO (argV xs 3), Nat.blt xs.size 1000000] (argV xs 3)).Holds (VV w) :=
  Spec.Holds.more (S := S_arg l xs n 3 t [] (argV xs 3)) (fun q => by
    have hy := q _ (List.mem_cons_self ..)
    have hz := q _ (List.mem_cons_of_mem _ (List.mem_cons_self ..))
    by_cases h : 3 - 1 < xs.size
    · have hx := argV_some (a := 3) h
      have h1 : leB 3 (Int.ofNat xs.size) = true := leB_iff'.2 (by show (3 : Int) ≤ (xs.size : Int); omega)
      have nd : ∀ b ∈ [leB 3 (Int.ofNat xs.size), Nat.blt xs.size 1000000], b = true := by
        intro b hb
        simp only [List.mem_cons, List.not_mem_nil, or_false] at hb
        rcases hb with rfl | rfl <;> assumption
      generalize argV xs 3 = v at hx hy
      match v, hx, hy with
      | .none, hx, _ => exact Spec.Holds.less (argT3N w l xs n t (by decide) hx (by decide)) nd
      | .bool z, hx, _ => exact Spec.Holds.less (argT3O w l xs n t z (by decide) hx (by decide)) nd
      | .int z s, hx, _ => exact Spec.Holds.less (argT3I w l xs n t z s (by decide) hx (by decide)) nd
      | .bytes z s, hx, _ => exact Spec.Holds.less (argT3B w l xs n t z s (by decide) hx (by decide)) nd
      | .ref z, hx, _ => exact Spec.Holds.less (argT3R w l xs n t z (by decide) hx (by decide)) nd
    · rw [argV_none h]
      refine Spec.Holds.less (argF3 w l xs n t) ?_
      intro b hb
      change b ∈ [!leB 3 (Int.ofNat xs.size), Nat.blt xs.size 1000000] at hb
      simp only [List.mem_cons, List.not_mem_nil, or_false] at hb
      rcases hb with rfl | rfl
      · refine notB leB_iff' ?_
        show ¬ (3 : Int) ≤ (xs.size : Int)
        omega
      · exact hz) rfl
theorem arg_any4 (w : World) (l : Nat) (xs : Array Value) (n t : Nat) : (S_arg l xs n 4 t [easyO (argV xs 4), Nat.blt xs.size 1000000] (argV xs 4)).Holds (VV w) :=
  Spec.Holds.more (S := S_arg l xs n 4 t [] (argV xs 4)) (fun q => by
    have hy := q _ (List.mem_cons_self ..)
    have hz := q _ (List.mem_cons_of_mem _ (List.mem_cons_self ..))
    by_cases h : 4 - 1 < xs.size
    · have hx := argV_some (a := 4) h
      have h1 : leB 4 (Int.ofNat xs.size) = true := leB_iff'.2 (by show (4 : Int) ≤ (xs.size : Int); omega)
      have nd : ∀ b ∈ [leB 4 (Int.ofNat xs.size), Nat.blt xs.size 1000000], b = true := by
        intro b hb
        simp only [List.mem_cons, List.not_mem_nil, or_false] at hb
        rcases hb with rfl | rfl <;> assumption
      generalize argV xs 4 = v at hx hy
      match v, hx, hy with
      | .none, hx, _ => exact Spec.Holds.less (argT4N w l xs n t (by decide) hx (by decide)) nd
      | .bool z, hx, _ => exact Spec.Holds.less (argT4O w l xs n t z (by decide) hx (by decide)) nd
      | .int z s, hx, _ => exact Spec.Holds.less (argT4I w l xs n t z s (by decide) hx (by decide)) nd
      | .bytes z s, hx, _ => exact Spec.Holds.less (argT4B w l xs n t z s (by decide) hx (by decide)) nd
      | .ref z, hx, _ => exact Spec.Holds.less (argT4R w l xs n t z (by decide) hx (by decide)) nd
    · rw [argV_none h]
      refine Spec.Holds.less (argF4 w l xs n t) ?_
      intro b hb
      change b ∈ [!leB 4 (Int.ofNat xs.size), Nat.blt xs.size 1000000] at hb
      simp only [List.mem_cons, List.not_mem_nil, or_false] at hb
      rcases hb with rfl | rfl
      · refine notB leB_iff' ?_
        show ¬ (4 : Int) ≤ (xs.size : Int)
        omega
      · exact hz) rfl
noncomputable def D_arg (w : World) (at_ : Int) (t : Nat) : Dp (VV w) := ⟨1, fun as os _ => match as with
  | [l] => match os with
    | [o] => match seqOf o with
      | some (xs, n) => match eqB at_ 1 with
        | true => some ⟨_, arg_any1 w l xs n t⟩
        | false => match eqB at_ 2 with
          | true => some ⟨_, arg_any2 w l xs n t⟩
          | false => match eqB at_ 3 with
            | true => some ⟨_, arg_any3 w l xs n t⟩
            | false => some ⟨_, arg_any4 w l xs n t⟩
      | none => none
    | _ => none
  | _ => none⟩
/-! a draw, joined -/
def allInt (ys : Array Value) : Bool := ys.toList.all fun v => match v with | .int _ _ => true | _ => false
def drawV (ys : Array Value) (at_ : Int) (k : Nat) : Int := match leB (at_ + 1) (Int.ofNat ys.size) with
  | true => (Int.ofNat (intOf (ys.toList.getD at_.toNat .none)).natAbs).fmod (Int.ofNat (k + 1))
  | false => (5 * (at_ + 1) + (at_ + 1).fdiv 3 + 2).fmod (Int.ofNat (k + 1))
/-- what a draw wants -/
def drawOk (ys : Array Value) (at_ : Int) : Bool := leB 0 at_ && ltB at_ 1000 && Nat.blt ys.size 1000000 && allInt ys
theorem take_any (w : World) (tr ls : Nat) (at_ : Int) (ta n : Nat) (ys : Array Value) (m : Nat) (k tw : Nat) : (S_take tr ls at_ ta n ys m k tw [drawOk ys at_] (drawV ys at_ k)).Holds (VV w) :=
  Spec.Holds.more (S := S_take tr ls at_ ta n ys m k tw [] (drawV ys at_ k)) (fun q => by
    have q := q _ (List.mem_cons_self ..)
    unfold drawOk at q
    rw [Bool.and_eq_true, Bool.and_eq_true, Bool.and_eq_true] at q
    obtain ⟨⟨⟨q1, q2⟩, q3⟩, q4⟩ := q
    have q1 := leB_iff'.1 q1
    have q2 := ltB_iff'.1 q2
    unfold drawV
    cases h : leB (at_ + 1) (Int.ofNat ys.size) with
    | true =>
      have h' : at_ + 1 ≤ (ys.size : Int) := leB_iff'.1 h
      have hlt : at_.toNat < ys.size := by omega
      have hx : ys[at_.toNat]? = some (ys.toList.getD at_.toNat .none) := by
        rw [List.getD_eq_getElem?_getD, Array.getElem?_toList, Array.getElem?_eq_getElem hlt]; rfl
      have hi : (match ys.toList.getD at_.toNat .none with | .int _ _ => true | _ => false) = true := by
        refine List.all_eq_true.mp q4 _ ?_
        rw [List.getD_eq_getElem?_getD, Array.getElem?_toList, Array.getElem?_eq_getElem hlt]
        exact Array.getElem_mem_toList hlt
      have e1 : at_ + 1 - 1 = at_ := by omega
      generalize ys.toList.getD at_.toNat .none = v at hx hi
      match v, hx, hi with
      | .int x u, hx, _ =>
        refine Spec.Holds.less (takeW w tr ls at_ ta n ys m k tw x u (by omega) (by rw [e1]; exact hx) (by omega)) ?_
        intro b hb
        change b ∈ [leB (at_ + 1) (Int.ofNat ys.size), Nat.blt ys.size 1000000] at hb
        simp only [List.mem_cons, List.not_mem_nil, or_false] at hb
        rcases hb with rfl | rfl <;> assumption
    | false =>
      refine Spec.Holds.less (takeB w tr ls at_ ta n ys m k tw) ?_
      intro b hb
      change b ∈ [!leB (at_ + 1) (Int.ofNat ys.size), Nat.blt ys.size 1000000] at hb
      simp only [List.mem_cons, List.not_mem_nil, or_false] at hb
      rcases hb with rfl | rfl
      · rw [h]; rfl
      · exact q3) rfl
theorem take_is (w : World) (tr ls : Nat) (at_ : Int) (ta n : Nat) (ys : Array Value) (m : Nat) (k tw j : Nat) : (S_take tr ls at_ ta n ys m k tw [drawOk ys at_, eqB (drawV ys at_ k) (Int.ofNat j)] (Int.ofNat j)).Holds (VV w) :=
  Spec.Holds.more (S := S_take tr ls at_ ta n ys m k tw [] (Int.ofNat j)) (fun q => by
    have q1 := q _ (List.mem_cons_self ..)
    have q2 := eqB_iff'.1 (q _ (List.mem_cons_of_mem _ (List.mem_cons_self ..)))
    have := Spec.Holds.less (take_any w tr ls at_ ta n ys m k tw) (by
      intro b hb
      change b ∈ [drawOk ys at_] at hb
      simp only [List.mem_cons, List.not_mem_nil, or_false] at hb
      rw [hb]; exact q1)
    rw [q2] at this
    exact this) rfl
noncomputable def D_take (w : World) (wide : Int) (tw : Nat) : Option (Dp (VV w)) := match wide with
  | .ofNat k' => match k' with
    | k + 1 => some ⟨2, fun as os alt => match as with
      | [tr, ls] => match os with
        | [o1, o2] => match seqOf o1 with
          | some (xs, n) => match xs.toList with
            | [_, a] => match seqOf o2 with
              | some (ys, m) => match alt with
                | 0 => some ⟨_, take_any w tr ls (intOf a) (tokOf a) n ys m k tw⟩
                | j + 1 => some ⟨_, take_is w tr ls (intOf a) (tokOf a) n ys m k tw j⟩
              | none => none
            | _ => none
          | none => none
        | _ => none
      | _ => none⟩
    | 0 => none
  | _ => none
/-! the host's functions -/
noncomputable def D_tick (w : World) : Dp (VV w) := ⟨4, fun as os _ => match as with
  | [H, hd, _, ld] => match os with
    | [_, o2, _, o4] => match hostOf o2 with
      | some (S, v) => match limOf o4 with
        | some L => some ⟨_, tick w H hd ld S L v.steps v.ts v.fr v.deep v.td⟩
        | none => none
      | none => none
    | _ => none
  | _ => none⟩
noncomputable def D_deeper (w : World) (many : Int) (tm : Nat) : Dp (VV w) := ⟨2, fun as os _ => match as with
  | [H, hd] => match os with
    | [_, o2] => match hostOf o2 with
      | some (S, v) => some ⟨_, deeper w H hd S v.steps v.ts v.fr v.deep v.td many tm⟩
      | none => none
    | _ => none
  | _ => none⟩
noncomputable def D_cut (w : World) (tm : Nat) : Dp (VV w) := ⟨3, fun as os _ => match as with
  | [H, hd, _] => match os with
    | [_, o2, o3] => match hostOf o2 with
      | some (S, v) => match seqOf o3 with
        | some (xs, n) => some ⟨_, cutX w H hd S v.steps v.ts v.fr v.deep v.td tm xs n⟩
        | none => none
      | none => none
    | _ => none
  | _ => none⟩
/-! the dispatcher of these -/
noncomputable def F_1 (w : World) (a : Nat) (v : Value) : Option (Dp (VV w)) := match Nat.beq a 266 with
  | true => D_tt w v
  | false => match Nat.beq a 329 with
    | true => some (D_tick w)
    | false => match Nat.beq a 234 with
      | true => match v with | .int x t => some ⟨0, fun _ _ _ => some ⟨_, newT w x t⟩⟩ | _ => none
      | false => none
noncomputable def F_2 (w : World) (a : Nat) (v v' : Value) : Option (Dp (VV w)) := match Nat.beq a 273 with
  | true => some (D_same w v v')
  | false => match Nat.beq a 203 with
    | true => some (D_find w v')
    | false => match Nat.beq a 210 with
      | true => some (D_get w v')
      | false => match Nat.beq a 336 with
        | true => match v' with | .int x t => some (D_deeper w x t) | _ => none
        | false => match Nat.beq a 371 with
          | true => match v' with | .int _ t => some (D_cut w t) | _ => none
          | false => match Nat.beq a 462 with
            | true => match v' with | .int x t => some (D_arg w x t) | _ => none
            | false => match Nat.beq a 790 with
              | true => match v' with | .int x t => D_take w x t | _ => none
              | false => none
noncomputable def F_3 (w : World) (a : Nat) (v v' v'' : Value) : Option (Dp (VV w)) := match Nat.beq a 217 with
  | true => some (D_set w v' v'')
  | false => match Nat.beq a 255 with
    | true => match v with | .int x t => (match v' with | .bytes y u => (match v'' with | .ref f => some ⟨0, fun _ _ _ => some ⟨_, newB w x t y u f⟩⟩ | _ => none) | _ => none) | _ => none
    | false => match Nat.beq a 297 with
      | true => match v with | .int x t => (match v' with | .ref c => (match v'' with | .ref e => some ⟨0, fun _ _ _ => some ⟨_, Frame w x t c e⟩⟩ | _ => none) | _ => none) | _ => none
      | false => none
noncomputable def F_i2 (w : World) (id : String) (x : Int) (t : Nat) (y : Int) (u : Nat) : Option (Dp (VV w)) := match idIs id 116512245094328231196454762 with
  | true => some ⟨0, fun _ _ _ => some ⟨S_mul x t y u, mul_at⟩⟩
  | false => F_int w id x t y u
noncomputable def FG (w : World) (c : Code) : Option (Dp (VV w)) := match c with
  | .call (.ref a) ⟨[v], []⟩ => F_1 w a v
  | .call (.ref a) ⟨[v, v'], []⟩ => F_2 w a v v'
  | .call (.ref a) ⟨[v, v', v''], []⟩ => F_3 w a v v' v''
  | .builtin id ⟨[.int x t, .int y u], []⟩ => F_i2 w id x t y u
  | .builtin id ⟨[.int x t], []⟩ => match idIs id 116512372849064760722157418 with
    | true => some ⟨0, fun _ _ _ => some ⟨_, abs_any w x t⟩⟩
    | false => none
  | _ => none
end Mine
end

section
open PySem PySem.W PySem.W.X PyProof.Rows
set_option maxRecDepth 1000000
set_option maxHeartbeats 0
namespace Mine
open PySem.W.ZFast (hashOfZ)
/-! the letters of a printed contract, and how they are read off a call -/
structure Vars where
  A : Nat → Nat
  B : Nat → Nat
  H : Nat → Nat → Int
  K : Nat → Nat → Nat
  V : Nat → Nat → Nat
  R : Nat → Nat → Nat
  I : Nat → Nat → Int
  N : Nat → Nat
  E : Nat → Array DictEntry
  U : Nat → Nat
  W : Nat → Nat
  Q : Nat → Array Value
  Z : Nat → Nat → Value
  u : Bool := false
noncomputable def ap (l r : List Nat) : List Nat := List.rec (motive := fun _ => List Nat) r (fun a _ ih => a :: ih) l
noncomputable def dp (l : List Nat) (i : Nat) : List Nat := List.rec (motive := fun _ => Nat → List Nat) (fun _ => []) (fun a l ih i => Nat.rec (motive := fun _ => List Nat) (a :: l) (fun i _ => ih i) i) l i
noncomputable def tkA (l : List Nat) (n : Nat) (r : List Nat) : List Nat := List.rec (motive := fun _ => Nat → List Nat) (fun _ => r) (fun a _ ih n => Nat.rec (motive := fun _ => List Nat) r (fun n _ => a :: ih n) n) l n
noncomputable def cp (l : List Nat) (i n : Nat) (r : List Nat) : List Nat := tkA (dp l i) n r
noncomputable def q0 : List Nat := [0,0,0,1,1,0,0,1,0,3,3,3,1,3,4,4,4,4,4,3,4,4,4,4,4,4,3,4,4,4,4,4,4,3,4,4,6,0,1,1,0,1,1,1,1,1,0,1,2,2,2,2,1,2,2,2,2,1,1,1,0,1,2,2,2,2,2,2,2,2,0,0,1,2,2,2,2,2,2,2,1,2,7,2,2,7,7,7,7,2,7,7,8,8,8,7,7,7,7,2,7,7,10,8]
noncomputable def q1 : List Nat := [0,0,0,19,19,0,19,19,0,19,19,0,19,19,19,0,19,19,19,20,20,1,20,21,21,21,21,21,20,21,21,0,19,19,19,1,0,0,0,1,0,0,0,1,0,0,0,0,1,2,19,0,1,2,3,4,0,0,0,0,0,19,19,21,21,21,21,20,21,21,0,19,19,19,5,0,0,0,5,0,0,0,5,0,0,0,0,5,6,19,0,5,6,7,8,0,0,0,0,0,19,19,21,21,21,21,20,21,21,23,19,9,0,0,0,9,0,0,0,9,0,0,0,0,9,10,0,9,10,11,0,19,9,0,0,0,9,0,0,0,9,0,0,0,0,9,10,19,19,0,0,0,0,25,25,0,25,25,0,25,25,0,25,25,25,9,0,0,0,9,0,0,0,9,0,0,0,0,9,10,25,25,25,0,0,0,0,26,26,0,26,26,0,26,26,0,26,26,0,0,26,0,12,26,9,0,0,0,9,0,0,0,9,0,0,0,0,9,10,26,26,0,0,0,0,27,27,0,27,27,0,27,27,27,9,0,0,0,9,0,0,0,9,0,0,0,0,9,10,0,9,10,13,14,0,1,27,9,0,0,0,9,0,0,0,9,0,0,0,0,9,10,0,0,9,10,0,0,0,0,0,0,0,27,27,27,9,0,0,0,9,0,0,0,9,9,0,10,32,32,32,1,32,33,33,33,33,33,32,33,33,33,33,33,33,32,33,33,33,33,33,33,32,33,33,35,27,30,0,0,0,30,0,30,0,30,0,0,0,30,0,0,31,31,31,27,30,0,0,0,30,0,30,0,30,0,0,0,30,0,0,31,31,31,27,9,0,0,0,9,0,0,0,9,9,0,10,24,24,24,24,27,24,24,24,24,27,12,0,0,0,12,0,0,0,12,0,0,0,12,0,0,0,12,0,0,0,12,12,0,15,27,27,0,0,0,0,36,36,0,36,36,0,36,0,16,0,0,0,0,36,36,0,0,0,0,37,37,0,37,37,0,37,37,0,37,37,0,0,37,37,0,16,0,0,0,0,0,0,0,38,38,0,0,38,0,0,0,38,0,0,0,0,39,39,0,0,39,0,0,0,0,39,0,0,0,37,37,37,0,37,37,37,0,37,37,0,0,0,0,40,40,0,40,40,40,0,0,40,16,16,16,1,0,0,0,40,40,16,16,16,16,16,0,0,0,0,0,0,41,41,0,41,41,0,41,41,0,41,41,41,9,0,0,0,9,0,0,0,9,0,0,0,0,9,10,0,41,0,0,41,41,0,0,0,0,42,42,0,42,42,0,42,9,0,0,0,9,0,0,0,9,0,0,0,0,9,10,0,0,0,0,43,43,0,43,43,0,0,43,9,0,0,0,9,0,0,0,9,9,0,10,24,24,24,43,0,43,43,43,1,0,0,42,0,0,0,0,0,0,0,0,0,0,0,0,0,0,0,0,0,0,0,0,0,0,0,0,0,0,45,0,45,0,0,0,0,0,0,0,46,46,0,46,46,46,46,45,0,0,0,45,0,45,0,45,0,0,0,45,0,45,0,47,47,47,46,45,0,0,0,45,0,45,0,45,0,0,0,45,0,0,47,47,47,46,45,0,0,0,45,0,45,0,45,0,0,0,45,0,0,47,47,47,45,45,0,45,45,0,45,45,45,42,42,41,41,37,37,36,36,27,27,26,26,25,25,19,19,17,17,18,18,45,45,45,49,49,45,49,45,49,49,41,45,45,45,50,50,45,50,45,50,50,37,45,45,45,51,51,45,51,45,51,51,36,45,45,45,52,52,45,52,45,52,52,27,45,45,45,53,53,45,53,45,53,53,26,45,45,45,54,54,45,54,45,54,54,25,45,45,45,55,55,45,55,45,55,55,19,45,45,45,56,56,0,0,0,0,45,0,45,56,56,0,19,19,19,45,0,0,0,0,0,0,45,0,45,0,0,0,45,45,0,47,0,19,19,19,19]
noncomputable def q2 : List Nat := [0,0,0,20,20,0,20,20,0,20,20,0,20,20,20,0,20,20,20,21,21,1,21,22,22,22,22,22,21,22,22,0,20,20,20,1,0,0,0,1,0,0,0,1,0,0,0,0,1,2,20,0,1,2,3,4,0,0,0,0,0,20,20,22,22,22,22,21,22,22,0,20,20,20,5,0,0,0,5,0,0,0,5,0,0,0,0,5,6,20,0,5,6,7,8,0,0,0,0,0,20,20,22,22,22,22,21,22,22,24,20,9,0,0,0,9,0,0,0,9,0,0,0,0,9,10,0,9,10,11,0,20,9,0,0,0,9,0,0,0,9,0,0,0,0,9,10,20,20,0,0,0,0,26,26,0,26,26,0,26,26,0,26,26,26,9,0,0,0,9,0,0,0,9,0,0,0,0,9,10,26,26,26,0,0,0,0,27,27,0,27,27,0,27,27,0,27,27,0,0,27,0,12,27,9,0,0,0,9,0,0,0,9,0,0,0,0,9,10,27,27,0,0,0,0,28,28,0,28,28,0,28,28,28,9,0,0,0,9,0,0,0,9,0,0,0,0,9,10,0,9,10,13,14,0,1,28,9,0,0,0,9,0,0,0,9,0,0,0,0,9,10,0,0,9,10,0,0,0,0,0,0,0,28,28,28,9,0,0,0,9,0,0,0,9,9,0,10,33,33,33,1,33,34,34,34,34,34,33,34,34,34,34,34,34,33,34,34,34,34,34,34,33,34,34,36,28,31,0,0,0,31,0,31,0,31,0,0,0,31,0,0,32,32,32,28,31,0,0,0,31,0,31,0,31,0,0,0,31,0,0,32,32,32,28,9,0,0,0,9,0,0,0,9,9,0,10,25,25,25,25,28,25,25,25,25,28,12,0,0,0,12,0,0,0,12,0,0,0,12,0,0,0,12,0,0,0,12,12,0,15,28,28,0,0,0,0,37,37,0,37,37,0,37,0,16,0,0,0,0,37,37,0,0,0,0,38,38,0,38,38,0,38,38,0,38,38,0,0,38,38,0,16,0,0,0,0,0,0,0,39,39,0,0,39,0,0,17,17,0,17,0,0,0,17,0,0,0,0,0,0,17,0,17,0,0,0,39,0,0,0,0,40,40,0,0,40,0,0,17,17,0,17,0,0,0,17,0,0,0,0,0,0,17,0,17,0,0,0,38,38,38,0,38,38,38,0,38,38,0,0,0,0,41,41,0,41,41,41,0,0,41,16,16,16,1,0,0,0,41,41,16,16,16,16,16,0,17,0,0,0,0,0,42,42,0,42,42,0,42,42,0,42,42,42,9,0,0,0,9,0,0,0,9,0,0,0,0,9,10,0,42,0,0,42,42,0,0,0,0,43,43,0,43,43,0,43,9,0,0,0,9,0,0,0,9,0,0,0,0,9,10,0,0,0,0,44,44,0,44,44,0,0,44,9,0,0,0,9,0,0,0,9,9,0,10,25,25,25,44,0,44,44,44,1,0,0,43,0,0,0,0,0,0,0,0,0,0,0,0,0,0,0,0,0,0,0,0,0,0,0,0,0,0,46,0,46,0,0,0,0,0,0,0,47,47,0,47,47,47,47,46,0,0,0,46,0,46,0,46,0,0,0,46,0,46,0,48,48,48,47,46,0,0,0,46,0,46,0,46,0,0,0,46,0,0,48,48,48,47,46,0,0,0,46,0,46,0,46,0,0,0,46,0,0,48,48,48,46,46,0,46,46,0,46,46,46,43,43,42,42,38,38,37,37,28,28,27,27,26,26,20,20,18,18,19,19,46,46,46,50,50,46,50,46,50,50,42,46,46,46,51,51,46,51,46,51,51,38,46,46,46,52,52,46,52,46,52,52,37,46,46,46,53,53,46,53,46,53,53,28,46,46,46,54,54,46,54,46,54,54,27,46,46,46,55,55,46,55,46,55,55,26,46,46,46,56,56,46,56,46,56,56,20,46,46,46,57,57,0,0,0,0,46,0,46,57,57,0,20,20,20,46,0,0,0,0,0,0,46,0,46,0,0,0,46,46,0,48,0,20,20,20,20]
noncomputable def q3 : List Nat := [0,0,0,21,21,0,21,21,0,21,21,0,21,21,21,0,21,21,21,22,22,1,22,23,23,23,23,23,22,23,23,0,21,21,21,1,0,0,0,1,0,0,0,1,0,0,0,0,1,2,21,0,1,2,3,4,0,0,0,0,0,21,21,23,23,23,23,22,23,23,0,21,21,21,5,0,0,0,5,0,0,0,5,0,0,0,0,5,6,21,0,5,6,7,8,0,0,0,0,0,21,21,23,23,23,23,22,23,23,25,21,9,0,0,0,9,0,0,0,9,0,0,0,0,9,10,0,9,10,11,0,21,9,0,0,0,9,0,0,0,9,0,0,0,0,9,10,21,21,0,0,0,0,27,27,0,27,27,0,27,27,0,27,27,27,9,0,0,0,9,0,0,0,9,0,0,0,0,9,10,27,27,27,0,0,0,0,28,28,0,28,28,0,28,28,0,28,28,0,0,28,0,12,28,9,0,0,0,9,0,0,0,9,0,0,0,0,9,10,28,28,0,0,0,0,29,29,0,29,29,0,29,29,29,9,0,0,0,9,0,0,0,9,0,0,0,0,9,10,0,9,10,13,14,0,1,29,9,0,0,0,9,0,0,0,9,0,0,0,0,9,10,0,0,9,10,0,0,0,0,0,0,0,29,29,29,9,0,0,0,9,0,0,0,9,9,0,10,34,34,34,1,34,35,35,35,35,35,34,35,35,35,35,35,35,34,35,35,35,35,35,35,34,35,35,37,29,32,0,0,0,32,0,32,0,32,0,0,0,32,0,0,33,33,33,29,32,0,0,0,32,0,32,0,32,0,0,0,32,0,0,33,33,33,29,9,0,0,0,9,0,0,0,9,9,0,10,26,26,26,26,29,26,26,26,26,29,12,0,0,0,12,0,0,0,12,0,0,0,12,0,0,0,12,0,0,0,12,12,0,15,29,29,0,0,0,0,38,38,0,38,38,0,38,0,16,0,0,0,0,38,38,0,0,0,0,39,39,0,39,39,0,39,39,0,39,39,0,0,39,39,0,16,0,0,0,0,0,0,0,40,40,0,0,40,0,0,40,0,39,39,39,39,0,38,38,0,38,38,0,0,0,0,41,41,0,41,41,0,41,41,0,41,41,0,41,41,0,16,0,0,0,0,41,41,0,0,41,0,17,41,0,38,38,0,38,38,0,0,0,0,42,42,0,42,42,0,42,42,0,42,42,0,42,42,0,42,42,0,16,0,0,0,42,0,38,38,0,38,38,38,17,0,0,0,17,0,0,0,17,0,0,0,0,17,18,0,0,0,0,43,43,0,43,43,43,17,0,0,0,17,0,0,0,17,0,0,0,0,17,18,43,0,17,18,19,20,0,0,0,0,43,0,43,43,43,17,0,0,0,17,0,0,0,17,0,0,0,0,17,18,43,0,17,18,19,20,0,0,0,0,43,0,43,43,43,17,0,0,0,17,0,0,0,17,0,0,0,0,17,18,43,0,17,18,19,20,0,0,0,0,43,0,0,0,0,44,44,0,44,44,0,44,44,0,44,44,0,44,44,0,44,44,0,16,0,0,0,44,0,38,38,46,46,46,1,46,47,47,47,47,47,46,47,47,47,47,47,47,46,47,47,47,47,47,47,46,47,47,49,0,38,38,0,38,38,0,0,38,38,50,50,50,50,50,50,1,50,50,50,50,51,51,51,51,51,51,51,51,51,51,0,38,38,38,9,0,0,0,9,0,0,0,9,0,0,0,0,9,10,0,9,10,13,14,0,2,38,17,0,0,0,17,0,0,0,17,0,0,0,0,17,18,38,0,17,18,19,20,0,0,0,0,0,38,38,0,38,0,0,0,0,52,52,0,0,52,0,0,0,52,0,0,0,0,53,53,0,0,53,0,0,0,0,53,0,0,0,52,0,0,0,38,38,38,38,45,45,45,45,38,45,45,45,45,38,0,0,38,38,38,1,1,0,0,38,38,38,38,9,0,0,0,9,0,0,0,9,9,0,10,13,0,0,0,13,0,0,0,13,13,0,14,1,1,0,51,51,51,51,51,51,51,51,51,0,38,38,38,9,0,0,0,9,0,0,0,9,0,0,0,0,9,10,0,9,10,13,14,0,3,38,17,0,0,0,17,0,0,0,17,0,0,0,0,17,18,38,0,17,18,19,20,0,0,0,0,0,38,38,0,38,0,0,0,0,54,54,0,0,54,0,0,54,0,38,38,38,38,45,45,45,45,38,45,45,45,45,38,0,0,38,38,38,1,0,0,0,0,38,0,38,38,38,38,9,0,0,0,9,0,0,0,9,9,0,10,13,0,0,0,13,0,0,0,13,13,0,14,1,1,0,51,51,51,51,51,56,38,38,45,45,45,45,45,45,0,29,29,29,9,0,0,0,9,0,0,0,9,9,0,10,26,26,26,26,26,26,26,26,26,29,9,0,0,0,9,0,0,0,9,9,0,10,0,9,0,0,0,9,0,9,0,9,0,0,0,9,0,0,10,10,10,29]
noncomputable def q4 : List Nat := [0,0,0,19,19,0,19,19,0,19,19,0,0,0,0,0,19,19,19,20,0,0,0,20,0,0,0,20,0,0,0,0,20,21,0,20,21,22,23,0,0,0,0,0,19,20,0,0,0,20,0,0,0,20,0,0,0,0,20,21,0,20,21,22,23,0,0,0,0,0,19,0,19,19,19,0,19,0,1,2,1,1,2,29,29,29,29,29,24,24,24,1,24,30,30,30,30,30,24,30,30,30,30,30,30,24,30,30,30,30,30,30,24,30,30,30,30,30,30,24,30,30,32,0,19,19,0,19,19,0,19,19,19,0,19,0,1,2,1,3,4,36,36,36,36,36,33,33,33,1,33,37,37,37,37,37,33,37,37,37,37,37,37,33,37,37,37,37,37,37,33,37,37,39,0,19,19,0,19,19,0,19,19,19,19,0,20,7,8,9,10,11,12,13,14,3,4,5,15,16,17,18,40,20,21,22,23,0,5,6,7,0,19,19,19,1,19,1,19,19,41,43,41,1,41,41,43,0,0]
noncomputable def q5 : List Nat := [0,0,0,19,19,0,19,19,0,19,19,0,0,0,0,0,19,19,19,20,0,0,0,20,0,0,0,20,0,0,0,0,20,21,0,20,21,22,23,0,0,0,0,0,19,20,0,0,0,20,0,0,0,20,0,0,0,0,20,21,0,20,21,22,23,0,0,0,0,0,19,0,19,19,19,0,19,0,1,2,2,1,2,29,29,29,29,29,25,25,25,1,25,30,30,30,30,30,25,30,30,30,30,30,30,25,30,30,30,30,30,30,25,30,30,30,30,30,30,25,30,30,32,0,19,19,0,19,19,0,19,19,19,0,19,0,1,2,2,3,4,36,36,36,36,36,34,34,34,1,34,37,37,37,37,37,34,37,37,37,37,37,37,34,37,37,37,37,37,37,34,37,37,39,0,19,19,0,19,19,0,19,19,19,19,0,18,7,8,9,10,11,12,13,14,3,4,5,15,16,17,18,40,19,6,0,5,0,19,19,19,1,19,1,19,0,19,0,0,0,0,42,42,0,42,42,0,42,42,0,0,42,1,42,42,1]
noncomputable def q6 : List Nat := [0,0,0,19,19,0,19,19,0,19,19,0,0,0,0,0,19,19,19,20,0,0,0,20,0,0,0,20,0,0,0,0,20,21,0,20,21,22,23,0,0,0,0,0,19,20,0,0,0,20,0,0,0,20,0,0,0,0,20,21,0,20,21,22,23,0,0,0,0,0,19,0,19,19,19,0,19,0,1,2,5,1,2,29,29,29,29,29,28,28,28,1,28,30,30,30,30,30,28,30,30,30,30,30,30,28,30,30,30,30,30,30,28,30,30,30,30,30,30,28,30,30,32,0,19,19,0,19,19,0,19,19,19,0,19,0,1,2,3,3,4,36,36,36,36,36,35,35,35,1,35,37,37,37,37,37,35,37,37,37,37,37,37,35,37,37,37,37,37,37,35,37,37,39,0,19,19,0,19,19,0,19,19,19,19,0,19,7,8,9,10,11,12,13,14,3,4,5,15,16,17,18,40,20,19,6,0,5,0,19,19,19,1,19,0,19,0,0,0,0,42,42,0,42,42,0,42,42,0,0,42,1,42,42,1]
noncomputable def q7 : List Nat := [0,0,0,25,25,0,25,25,0,25,25,0,25,25,25,0,25,25,25,26,26,1,26,27,27,27,27,27,26,27,27,0,25,25,25,1,0,0,0,1,0,0,0,1,0,0,0,0,1,2,25,0,1,2,3,4,0,0,0,0,0,25,25,27,27,27,27,26,27,27,29,25,5,0,0,0,5,0,0,0,5,0,0,0,0,5,6,0,5,6,7,0,25,5,0,0,0,5,0,0,0,5,0,0,0,0,5,6,25,25,0,0,0,0,31,31,0,31,31,0,31,31,0,31,31,31,5,0,0,0,5,0,0,0,5,0,0,0,0,5,6,31,31,31,0,0,0,0,32,32,0,32,32,0,32,32,0,32,32,0,0,32,0,8,32,5,0,0,0,5,0,0,0,5,0,0,0,0,5,6,32,32,0,0,0,0,33,33,0,33,33,0,33,33,33,5,0,0,0,5,0,0,0,5,0,0,0,0,5,6,0,5,6,9,10,0,1,33,5,0,0,0,5,0,0,0,5,0,0,0,0,5,6,0,0,5,6,0,0,0,0,0,0,0,33,33,33,5,0,0,0,5,0,0,0,5,5,0,6,38,38,38,1,38,39,39,39,39,39,38,39,39,39,39,39,39,38,39,39,39,39,39,39,38,39,39,41,33,36,0,0,0,36,0,36,0,36,0,0,0,36,0,0,37,37,37,33,36,0,0,0,36,0,36,0,36,0,0,0,36,0,0,37,37,37,33,5,0,0,0,5,0,0,0,5,5,0,6,30,30,30,30,33,30,30,30,30,33,8,0,0,0,8,0,0,0,8,0,0,0,8,0,0,0,8,0,0,0,8,8,0,11,33,33,0,0,0,0,42,42,0,42,42,0,42,42,0,0,0,0,43,43,0,43,43,0,43,43,0,43,43,43,0,0,43,12,12,12,1,1,0,43,43,12,12,12,12,12,0,42,42,42,5,0,0,0,5,0,0,0,5,0,0,0,0,5,6,42,0,0,0,0,44,44,0,44,44,0,44,44,0,0,44,0,13,44,13,0,0,0,13,0,0,0,13,13,0,14,44,13,0,0,0,13,0,0,0,13,13,0,14,15,0,0,0,15,0,0,0,15,0,0,0,0,15,16,44,0,15,16,17,18,0,0,0,0,0,42,42,42,42,5,0,0,0,5,0,0,0,5,0,0,0,0,5,6,42,42,0,0,0,0,46,46,0,46,46,0,46,46,46,5,0,0,0,5,0,0,0,5,0,0,0,0,5,6,46,46,0,0,0,0,47,47,0,47,47,0,47,47,0,47,47,47,5,0,0,0,5,0,0,0,5,0,0,0,0,5,6,47,47,47,0,0,0,0,48,48,0,48,48,0,48,48,0,48,48,0,0,48,0,19,48,5,0,0,0,5,0,0,0,5,0,0,0,0,5,6,48,48,0,0,0,0,49,49,0,49,49,0,49,49,49,5,0,0,0,5,0,0,0,5,0,0,0,0,5,6,0,5,6,9,10,0,2,49,5,0,0,0,5,0,0,0,5,0,0,0,0,5,6,0,0,5,6,0,0,0,0,0,0,0,49,49,49,5,0,0,0,5,0,0,0,5,5,0,6,54,54,54,1,54,55,55,55,55,55,54,55,55,55,55,55,55,54,55,55,55,55,55,55,54,55,55,57,49,52,0,0,0,52,0,52,0,52,0,0,0,52,0,0,53,53,53,49,52,0,0,0,52,0,52,0,52,0,0,0,52,0,0,53,53,53,49,5,0,0,0,5,0,0,0,5,5,0,6,30,30,30,30,49,30,30,30,30,49,19,0,0,0,19,0,0,0,19,0,0,0,19,0,0,0,19,0,0,0,19,19,0,20,49,49,21,21,22,0,58,58,0,58,58,0,0,23,59,59,59,59,24,0,0,0,49,49,49,5,0,0,0,5,0,0,0,5,5,0,6,30,30,30,30,30,30,30,30,30,49,5,0,0,0,5,0,0,0,5,5,0,6,0,5,0,0,0,5,0,5,0,5,0,0,0,5,0,0,6,6,6,49,0,46,46,0,0,46,59,59,59,1,0,0,46,59,59,59,59,59,0,33,33,33,5,0,0,0,5,0,0,0,5,5,0,6,30,30,30,30,30,30,30,30,30,33,5,0,0,0,5,0,0,0,5,5,0,6,0,5,0,0,0,5,0,5,0,5,0,0,0,5,0,0,6,6,6,33]
noncomputable def q8 : List Nat := [0,0,0,35,35,0,35,35,0,35,35,0,35,35,35,0,35,35,35,36,36,1,36,37,37,37,37,37,36,37,37,0,35,35,35,1,0,0,0,1,0,0,0,1,0,0,0,0,1,2,35,0,1,2,3,4,0,0,0,0,0,35,35,37,37,37,37,36,37,37,39,35,5,0,0,0,5,0,0,0,5,0,0,0,0,5,6,0,5,6,7,0,35,5,0,0,0,5,0,0,0,5,0,0,0,0,5,6,35,35,0,0,0,0,41,41,0,41,41,0,41,41,0,41,41,41,5,0,0,0,5,0,0,0,5,0,0,0,0,5,6,41,41,41,0,0,0,0,42,42,0,42,42,0,42,42,0,42,42,0,0,42,0,8,42,5,0,0,0,5,0,0,0,5,0,0,0,0,5,6,42,42,0,0,0,0,43,43,0,43,43,0,43,43,43,5,0,0,0,5,0,0,0,5,0,0,0,0,5,6,0,5,6,9,10,0,1,43,5,0,0,0,5,0,0,0,5,0,0,0,0,5,6,0,0,5,6,0,0,0,0,0,0,0,43,43,43,5,0,0,0,5,0,0,0,5,5,0,6,48,48,48,1,48,49,49,49,49,49,48,49,49,49,49,49,49,48,49,49,49,49,49,49,48,49,49,51,43,46,0,0,0,46,0,46,0,46,0,0,0,46,0,0,47,47,47,43,46,0,0,0,46,0,46,0,46,0,0,0,46,0,0,47,47,47,43,5,0,0,0,5,0,0,0,5,5,0,6,40,40,40,40,43,40,40,40,40,43,8,0,0,0,8,0,0,0,8,0,0,0,8,0,0,0,8,0,0,0,8,8,0,11,43,43,12,12,13,0,52,52,0,52,52,0,52,52,14,0,0,0,0,53,53,0,53,53,0,53,53,0,53,53,53,15,15,1,15,55,55,55,55,55,15,55,55,0,53,53,53,5,0,0,0,5,0,0,0,5,0,0,0,0,5,6,53,1,0,0,0,1,0,0,0,1,0,0,0,0,1,2,0,1,2,3,4,0,0,0,0,53,0,0,0,0,57,57,0,57,57,0,57,57,0,57,57,57,5,0,0,0,5,0,0,0,5,0,0,0,0,5,6,57,57,57,0,0,0,0,58,58,0,58,58,0,58,58,0,58,58,0,0,58,0,16,58,5,0,0,0,5,0,0,0,5,0,0,0,0,5,6,58,58,0,0,0,0,59,59,0,59,59,0,59,59,59,5,0,0,0,5,0,0,0,5,0,0,0,0,5,6,0,5,6,9,10,0,2,59,5,0,0,0,5,0,0,0,5,0,0,0,0,5,6,0,0,5,6,0,0,0,0,0,0,0,59,59,59,5,0,0,0,5,0,0,0,5,5,0,6,64,64,64,1,64,65,65,65,65,65,64,65,65,65,65,65,65,64,65,65,65,65,65,65,64,65,65,67,59,62,0,0,0,62,0,62,0,62,0,0,0,62,0,0,63,63,63,59,62,0,0,0,62,0,62,0,62,0,0,0,62,0,0,63,63,63,59,5,0,0,0,5,0,0,0,5,5,0,6,40,40,40,40,59,40,40,40,40,59,16,0,0,0,16,0,0,0,16,0,0,0,16,0,0,0,16,0,0,0,16,16,0,17,59,59,0,0,0,0,68,68,0,68,68,0,68,68,0,0,0,0,69,69,0,69,69,0,69,69,0,69,69,69,0,0,69,56,56,56,1,1,0,69,69,56,56,56,56,56,0,68,68,68,5,0,0,0,5,0,0,0,5,0,0,0,0,5,6,68,0,0,0,0,70,70,0,70,70,0,70,70,0,0,70,0,0,0,0,0,70,0,0,70,5,0,0,0,5,0,0,0,5,5,0,6,18,0,0,0,18,0,0,0,18,0,0,0,0,18,19,70,0,18,19,20,21,0,0,0,0,0,68,68,68,0,68,0,0,0,0,71,71,0,71,0,0,0,0,72,72,0,0,72,0,0,72,0,71,71,71,71,0,59,59,59,5,0,0,0,5,0,0,0,5,5,0,6,40,40,40,40,40,40,40,40,40,59,5,0,0,0,5,0,0,0,5,5,0,6,0,5,0,0,0,5,0,5,0,5,0,0,0,5,0,0,6,6,6,59,0,53,53,0,0,53,73,73,73,1,0,0,0,53,73,73,73,73,73,0,0,0,0,74,74,0,0,74,0,0,74,0,53,53,53,53,54,54,54,54,53,54,54,54,54,55,55,55,55,15,55,55,0,53,53,53,5,0,0,0,5,0,0,0,5,0,0,0,0,5,6,53,1,0,0,0,1,0,0,0,1,0,0,0,0,1,2,0,1,2,3,4,0,0,0,0,53,0,0,0,0,76,76,0,76,76,0,76,76,0,76,76,76,5,0,0,0,5,0,0,0,5,0,0,0,0,5,6,76,76,76,0,0,0,0,77,77,0,77,77,0,77,77,0,77,77,0,0,77,0,16,77,5,0,0,0,5,0,0,0,5,0,0,0,0,5,6,77,77,0,0,0,0,78,78,0,78,78,0,78,78,78,5,0,0,0,5,0,0,0,5,0,0,0,0,5,6,0,5,6,9,10,0,3,78,5,0,0,0,5,0,0,0,5,0,0,0,0,5,6,0,0,5,6,0,0,0,0,0,0,0,78,78,78,5,0,0,0,5,0,0,0,5,5,0,6,83,83,83,1,83,84,84,84,84,84,83,84,84,84,84,84,84,83,84,84,84,84,84,84,83,84,84,86,78,81,0,0,0,81,0,81,0,81,0,0,0,81,0,0,82,82,82,78,81,0,0,0,81,0,81,0,81,0,0,0,81,0,0,82,82,82,78,5,0,0,0,5,0,0,0,5,5,0,6,40,40,40,40,78,40,40,40,40,78,16,0,0,0,16,0,0,0,16,0,0,0,16,0,0,0,16,0,0,0,16,16,0,17,78,78,0,0,0,0,87,87,0,87,87,0,87,87,0,0,0,0,88,88,0,88,88,0,88,88,0,88,88,88,0,0,88,75,75,75,1,1,0,88,88,75,75,75,75,75,0,87,87,87,5,0,0,0,5,0,0,0,5,0,0,0,0,5,6,87,0,0,0,0,89,89,0,89,89,0,89,89,0,0,89,0,22,89,22,0,0,0,22,0,0,0,22,22,0,23,89,22,0,0,0,22,0,0,0,22,22,0,23,24,0,0,0,24,0,0,0,24,0,0,0,0,24,25,89,0,24,25,26,27,0,0,0,0,0,87,87,87,87,5,0,0,0,5,0,0,0,5,0,0,0,0,5,6,87,87,0,0,0,0,91,91,0,91,91,0,91,91,91,5,0,0,0,5,0,0,0,5,0,0,0,0,5,6,91,91,0,0,0,0,92,92,0,92,92,0,92,92,0,92,92,92,5,0,0,0,5,0,0,0,5,0,0,0,0,5,6,92,92,92,0,0,0,0,93,93,0,93,93,0,93,93,0,93,93,0,0,93,0,28,93,5,0,0,0,5,0,0,0,5,0,0,0,0,5,6,93,93,0,0,0,0,94,94,0,94,94,0,94,94,94,5,0,0,0,5,0,0,0,5,0,0,0,0,5,6,0,5,6,9,10,0,4,94,5,0,0,0,5,0,0,0,5,0,0,0,0,5,6,0,0,5,6,0,0,0,0,0,0,0,94,94,94,5,0,0,0,5,0,0,0,5,5,0,6,99,99,99,1,99,100,100,100,100,100,99,100,100,100,100,100,100,99,100,100,100,100,100,100,99,100,100,102,94,97,0,0,0,97,0,97,0,97,0,0,0,97,0,0,98,98,98,94,97,0,0,0,97,0,97,0,97,0,0,0,97,0,0,98,98,98,94,5,0,0,0,5,0,0,0,5,5,0,6,40,40,40,40,94,40,40,40,40,94,28,0,0,0,28,0,0,0,28,0,0,0,28,0,0,0,28,0,0,0,28,28,0,29,94,94,30,30,31,0,103,103,0,103,103,0,0,32,104,104,104,104,33,0,0,0,94,94,94,5,0,0,0,5,0,0,0,5,5,0,6,40,40,40,40,40,40,40,40,40,94,5,0,0,0,5,0,0,0,5,5,0,6,0,5,0,0,0,5,0,5,0,5,0,0,0,5,0,0,6,6,6,94,0,91,91,0,0,91,104,104,104,1,0,0,91,104,104,104,104,104,0,78,78,78,5,0,0,0,5,0,0,0,5,5,0,6,40,40,40,40,40,40,40,40,40,78,5,0,0,0,5,0,0,0,5,5,0,6,0,5,0,0,0,5,0,5,0,5,0,0,0,5,0,0,6,6,6,78,0,53,53,0,0,53,105,105,105,1,0,0,0,53,105,105,105,105,105,0,0,0,0,106,106,0,0,106,0,0,0,106,0,0,0,0,107,107,0,0,107,0,0,0,0,107,0,0,0,106,0,0,0,0,108,108,0,0,108,0,110,110,110,1,110,111,111,111,111,111,110,111,111,111,111,111,111,110,111,111,111,111,111,111,110,111,111,113,0,108,108,0,108,108,108,1,1,0,108,109,109,109,109,108,109,109,109,109,108,1,1,0,108,109,109,109,109,109,109,109,109,0,0,108,109,109,109,109,109,109,109,1,109,114,109,109,114,114,114,114,109,114,114,115,115,115,114,114,114,114,109,114,114,117,115,0,53,53,53,53,54,54,54,54,53,54,54,54,54,55,55,55,55,15,55,55,119,53,5,0,0,0,5,0,0,0,5,5,0,6,34,34,34,34,53,54,54,54,54,54,54,34,34,34,34,0,43,43,43,5,0,0,0,5,0,0,0,5,5,0,6,40,40,40,40,40,40,40,40,40,43,5,0,0,0,5,0,0,0,5,5,0,6,0,5,0,0,0,5,0,5,0,5,0,0,0,5,0,0,6,6,6,43]
noncomputable def q9 : List Nat := [0,0,0,36,36,0,36,36,0,36,36,0,36,36,36,0,36,36,36,37,37,1,37,38,38,38,38,38,37,38,38,0,36,36,36,1,0,0,0,1,0,0,0,1,0,0,0,0,1,2,36,0,1,2,3,4,0,0,0,0,0,36,36,38,38,38,38,37,38,38,40,36,5,0,0,0,5,0,0,0,5,0,0,0,0,5,6,0,5,6,7,0,36,5,0,0,0,5,0,0,0,5,0,0,0,0,5,6,36,36,0,0,0,0,42,42,0,42,42,0,42,42,0,42,42,42,5,0,0,0,5,0,0,0,5,0,0,0,0,5,6,42,42,42,0,0,0,0,43,43,0,43,43,0,43,43,0,43,43,0,0,43,0,8,43,5,0,0,0,5,0,0,0,5,0,0,0,0,5,6,43,43,0,0,0,0,44,44,0,44,44,0,44,44,44,5,0,0,0,5,0,0,0,5,0,0,0,0,5,6,0,5,6,9,10,0,1,44,5,0,0,0,5,0,0,0,5,0,0,0,0,5,6,0,0,5,6,0,0,0,0,0,0,0,44,44,44,5,0,0,0,5,0,0,0,5,5,0,6,49,49,49,1,49,50,50,50,50,50,49,50,50,50,50,50,50,49,50,50,50,50,50,50,49,50,50,52,44,47,0,0,0,47,0,47,0,47,0,0,0,47,0,0,48,48,48,44,47,0,0,0,47,0,47,0,47,0,0,0,47,0,0,48,48,48,44,5,0,0,0,5,0,0,0,5,5,0,6,41,41,41,41,44,41,41,41,41,44,8,0,0,0,8,0,0,0,8,0,0,0,8,0,0,0,8,0,0,0,8,8,0,11,44,44,12,12,13,0,53,53,0,53,53,0,53,53,14,0,0,0,0,54,54,0,54,54,0,54,54,0,54,54,54,15,15,1,15,56,56,56,56,56,15,56,56,0,54,54,54,5,0,0,0,5,0,0,0,5,0,0,0,0,5,6,54,1,0,0,0,1,0,0,0,1,0,0,0,0,1,2,0,1,2,3,4,0,0,0,0,54,0,0,0,0,58,58,0,58,58,0,58,58,0,58,58,58,5,0,0,0,5,0,0,0,5,0,0,0,0,5,6,58,58,58,0,0,0,0,59,59,0,59,59,0,59,59,0,59,59,0,0,59,0,16,59,5,0,0,0,5,0,0,0,5,0,0,0,0,5,6,59,59,0,0,0,0,60,60,0,60,60,0,60,60,60,5,0,0,0,5,0,0,0,5,0,0,0,0,5,6,0,5,6,9,10,0,2,60,5,0,0,0,5,0,0,0,5,0,0,0,0,5,6,0,0,5,6,0,0,0,0,0,0,0,60,60,60,5,0,0,0,5,0,0,0,5,5,0,6,65,65,65,1,65,66,66,66,66,66,65,66,66,66,66,66,66,65,66,66,66,66,66,66,65,66,66,68,60,63,0,0,0,63,0,63,0,63,0,0,0,63,0,0,64,64,64,60,63,0,0,0,63,0,63,0,63,0,0,0,63,0,0,64,64,64,60,5,0,0,0,5,0,0,0,5,5,0,6,41,41,41,41,60,41,41,41,41,60,16,0,0,0,16,0,0,0,16,0,0,0,16,0,0,0,16,0,0,0,16,16,0,17,60,60,0,0,0,0,69,69,0,69,69,0,69,69,0,0,0,0,70,70,0,70,70,0,70,70,0,70,70,70,0,0,70,57,57,57,1,1,0,70,70,57,57,57,57,57,0,69,69,69,5,0,0,0,5,0,0,0,5,0,0,0,0,5,6,69,0,0,0,0,71,71,0,71,71,0,71,71,0,0,71,0,0,0,0,0,71,0,0,71,5,0,0,0,5,0,0,0,5,5,0,6,18,0,0,0,18,0,0,0,18,0,0,0,0,18,19,71,0,18,19,20,21,0,0,0,0,0,69,69,69,0,69,0,0,0,0,72,72,0,72,0,0,0,0,73,73,0,0,73,0,0,73,0,72,72,72,72,0,60,60,60,5,0,0,0,5,0,0,0,5,5,0,6,41,41,41,41,41,41,41,41,41,60,5,0,0,0,5,0,0,0,5,5,0,6,0,5,0,0,0,5,0,5,0,5,0,0,0,5,0,0,6,6,6,60,0,54,54,0,0,54,74,74,74,1,0,0,0,54,74,74,74,74,74,0,0,0,0,75,75,0,0,75,0,0,75,0,54,54,54,54,55,55,55,55,54,55,55,55,55,56,56,56,56,15,56,56,0,54,54,54,5,0,0,0,5,0,0,0,5,0,0,0,0,5,6,54,1,0,0,0,1,0,0,0,1,0,0,0,0,1,2,0,1,2,3,4,0,0,0,0,54,0,0,0,0,77,77,0,77,77,0,77,77,0,77,77,77,5,0,0,0,5,0,0,0,5,0,0,0,0,5,6,77,77,77,0,0,0,0,78,78,0,78,78,0,78,78,0,78,78,0,0,78,0,16,78,5,0,0,0,5,0,0,0,5,0,0,0,0,5,6,78,78,0,0,0,0,79,79,0,79,79,0,79,79,79,5,0,0,0,5,0,0,0,5,0,0,0,0,5,6,0,5,6,9,10,0,3,79,5,0,0,0,5,0,0,0,5,0,0,0,0,5,6,0,0,5,6,0,0,0,0,0,0,0,79,79,79,5,0,0,0,5,0,0,0,5,5,0,6,84,84,84,1,84,85,85,85,85,85,84,85,85,85,85,85,85,84,85,85,85,85,85,85,84,85,85,87,79,82,0,0,0,82,0,82,0,82,0,0,0,82,0,0,83,83,83,79,82,0,0,0,82,0,82,0,82,0,0,0,82,0,0,83,83,83,79,5,0,0,0,5,0,0,0,5,5,0,6,41,41,41,41,79,41,41,41,41,79,16,0,0,0,16,0,0,0,16,0,0,0,16,0,0,0,16,0,0,0,16,16,0,17,79,79,0,0,0,0,88,88,0,88,88,0,88,88,0,0,0,0,89,89,0,89,89,0,89,89,0,89,89,89,0,0,89,76,76,76,1,1,0,89,89,76,76,76,76,76,0,88,88,88,5,0,0,0,5,0,0,0,5,0,0,0,0,5,6,88,0,0,0,0,90,90,0,90,90,0,90,90,0,0,90,0,22,90,22,0,0,0,22,0,0,0,22,22,0,23,90,22,0,0,0,22,0,0,0,22,22,0,23,24,0,0,0,24,0,0,0,24,0,0,0,0,24,25,90,0,24,25,26,27,0,0,0,0,0,88,88,88,88,5,0,0,0,5,0,0,0,5,0,0,0,0,5,6,88,88,0,0,0,0,92,92,0,92,92,0,92,92,92,5,0,0,0,5,0,0,0,5,0,0,0,0,5,6,92,92,0,0,0,0,93,93,0,93,93,0,93,93,0,93,93,93,5,0,0,0,5,0,0,0,5,0,0,0,0,5,6,93,93,93,0,0,0,0,94,94,0,94,94,0,94,94,0,94,94,0,0,94,0,28,94,5,0,0,0,5,0,0,0,5,0,0,0,0,5,6,94,94,0,0,0,0,95,95,0,95,95,0,95,95,95,5,0,0,0,5,0,0,0,5,0,0,0,0,5,6,0,5,6,9,10,0,4,95,5,0,0,0,5,0,0,0,5,0,0,0,0,5,6,0,0,5,6,0,0,0,0,0,0,0,95,95,95,5,0,0,0,5,0,0,0,5,5,0,6,100,100,100,1,100,101,101,101,101,101,100,101,101,101,101,101,101,100,101,101,101,101,101,101,100,101,101,103,95,98,0,0,0,98,0,98,0,98,0,0,0,98,0,0,99,99,99,95,98,0,0,0,98,0,98,0,98,0,0,0,98,0,0,99,99,99,95,5,0,0,0,5,0,0,0,5,5,0,6,41,41,41,41,95,41,41,41,41,95,28,0,0,0,28,0,0,0,28,0,0,0,28,0,0,0,28,0,0,0,28,28,0,29,95,95,30,30,31,0,104,104,0,104,104,0,0,32,105,105,105,105,33,0,0,0,95,95,95,5,0,0,0,5,0,0,0,5,5,0,6,41,41,41,41,41,41,41,41,41,95,5,0,0,0,5,0,0,0,5,5,0,6,0,5,0,0,0,5,0,5,0,5,0,0,0,5,0,0,6,6,6,95,0,92,92,0,0,92,105,105,105,1,0,0,92,105,105,105,105,105,0,79,79,79,5,0,0,0,5,0,0,0,5,5,0,6,41,41,41,41,41,41,41,41,41,79,5,0,0,0,5,0,0,0,5,5,0,6,0,5,0,0,0,5,0,5,0,5,0,0,0,5,0,0,6,6,6,79,0,54,54,0,0,54,106,106,106,1,0,0,0,54,106,106,106,106,106,0,0,0,0,107,107,0,0,107,0,0,0,107,0,0,0,0,108,108,0,0,108,0,0,0,0,108,0,0,0,54,54,54,54,5,0,0,0,5,0,0,0,5,0,0,0,0,5,6,0,0,0,0,109,109,0,109,109,0,109,5,0,0,0,5,0,0,0,5,0,0,0,0,5,6,0,0,0,0,110,110,0,110,110,0,0,110,5,0,0,0,5,0,0,0,5,5,0,6,41,41,41,110,0,110,110,110,1,0,0,109,0,0,0,0,0,0,0,0,0,0,0,0,0,0,0,0,0,0,0,0,0,0,0,0,0,0,112,0,112,0,0,0,0,0,0,0,113,113,0,113,113,113,113,112,0,0,0,112,0,112,0,112,0,0,0,112,0,112,0,114,114,114,113,112,0,0,0,112,0,112,0,112,0,0,0,112,0,0,114,114,114,113,112,0,0,0,112,0,112,0,112,0,0,0,112,0,0,114,114,114,112,112,0,112,112,0,112,112,112,109,109,54,54,53,53,44,44,43,43,42,42,36,36,34,34,35,35,112,112,112,116,116,112,116,112,116,116,54,112,112,112,112,117,117,112,117,112,117,117,112,117,112,117,117,53,112,112,112,118,118,112,118,112,118,118,44,112,112,112,119,119,112,119,112,119,119,43,112,112,112,120,120,112,120,112,120,120,42,112,112,112,121,121,112,121,112,121,121,36,112,112,112,122,122,0,0,0,0,112,0,112,122,122,0,36,36,36,112,0,0,0,0,0,0,112,0,112,0,0,0,112,112,0,114,0,36,36,36,36]
noncomputable def q10 : List Nat := [0,0,0,37,37,0,37,37,0,37,37,0,37,37,37,0,37,37,37,38,38,1,38,39,39,39,39,39,38,39,39,0,37,37,37,1,0,0,0,1,0,0,0,1,0,0,0,0,1,2,37,0,1,2,3,4,0,0,0,0,0,37,37,39,39,39,39,38,39,39,41,37,5,0,0,0,5,0,0,0,5,0,0,0,0,5,6,0,5,6,7,0,37,5,0,0,0,5,0,0,0,5,0,0,0,0,5,6,37,37,0,0,0,0,43,43,0,43,43,0,43,43,0,43,43,43,5,0,0,0,5,0,0,0,5,0,0,0,0,5,6,43,43,43,0,0,0,0,44,44,0,44,44,0,44,44,0,44,44,0,0,44,0,8,44,5,0,0,0,5,0,0,0,5,0,0,0,0,5,6,44,44,0,0,0,0,45,45,0,45,45,0,45,45,45,5,0,0,0,5,0,0,0,5,0,0,0,0,5,6,0,5,6,9,10,0,1,45,5,0,0,0,5,0,0,0,5,0,0,0,0,5,6,0,0,5,6,0,0,0,0,0,0,0,45,45,45,5,0,0,0,5,0,0,0,5,5,0,6,50,50,50,1,50,51,51,51,51,51,50,51,51,51,51,51,51,50,51,51,51,51,51,51,50,51,51,53,45,48,0,0,0,48,0,48,0,48,0,0,0,48,0,0,49,49,49,45,48,0,0,0,48,0,48,0,48,0,0,0,48,0,0,49,49,49,45,5,0,0,0,5,0,0,0,5,5,0,6,42,42,42,42,45,42,42,42,42,45,8,0,0,0,8,0,0,0,8,0,0,0,8,0,0,0,8,0,0,0,8,8,0,11,45,45,12,12,13,0,54,54,0,54,54,0,54,54,14,0,0,0,0,55,55,0,55,55,0,55,55,0,55,55,55,15,15,1,15,57,57,57,57,57,15,57,57,0,55,55,55,5,0,0,0,5,0,0,0,5,0,0,0,0,5,6,55,1,0,0,0,1,0,0,0,1,0,0,0,0,1,2,0,1,2,3,4,0,0,0,0,55,0,0,0,0,59,59,0,59,59,0,59,59,0,59,59,59,5,0,0,0,5,0,0,0,5,0,0,0,0,5,6,59,59,59,0,0,0,0,60,60,0,60,60,0,60,60,0,60,60,0,0,60,0,16,60,5,0,0,0,5,0,0,0,5,0,0,0,0,5,6,60,60,0,0,0,0,61,61,0,61,61,0,61,61,61,5,0,0,0,5,0,0,0,5,0,0,0,0,5,6,0,5,6,9,10,0,2,61,5,0,0,0,5,0,0,0,5,0,0,0,0,5,6,0,0,5,6,0,0,0,0,0,0,0,61,61,61,5,0,0,0,5,0,0,0,5,5,0,6,66,66,66,1,66,67,67,67,67,67,66,67,67,67,67,67,67,66,67,67,67,67,67,67,66,67,67,69,61,64,0,0,0,64,0,64,0,64,0,0,0,64,0,0,65,65,65,61,64,0,0,0,64,0,64,0,64,0,0,0,64,0,0,65,65,65,61,5,0,0,0,5,0,0,0,5,5,0,6,42,42,42,42,61,42,42,42,42,61,16,0,0,0,16,0,0,0,16,0,0,0,16,0,0,0,16,0,0,0,16,16,0,17,61,61,0,0,0,0,70,70,0,70,70,0,70,70,0,0,0,0,71,71,0,71,71,0,71,71,0,71,71,71,0,0,71,58,58,58,1,1,0,71,71,58,58,58,58,58,0,70,70,70,5,0,0,0,5,0,0,0,5,0,0,0,0,5,6,70,0,0,0,0,72,72,0,72,72,0,72,72,0,0,72,0,0,0,0,0,72,0,0,72,5,0,0,0,5,0,0,0,5,5,0,6,18,0,0,0,18,0,0,0,18,0,0,0,0,18,19,72,0,18,19,20,21,0,0,0,0,0,70,70,70,0,70,0,0,0,0,73,73,0,73,0,0,0,0,74,74,0,0,74,0,0,74,0,73,73,73,73,0,61,61,61,5,0,0,0,5,0,0,0,5,5,0,6,42,42,42,42,42,42,42,42,42,61,5,0,0,0,5,0,0,0,5,5,0,6,0,5,0,0,0,5,0,5,0,5,0,0,0,5,0,0,6,6,6,61,0,55,55,0,0,55,75,75,75,1,0,0,0,55,75,75,75,75,75,0,0,0,0,76,76,0,0,76,0,0,76,0,55,55,55,55,56,56,56,56,55,56,56,56,56,57,57,57,57,15,57,57,0,55,55,55,5,0,0,0,5,0,0,0,5,0,0,0,0,5,6,55,1,0,0,0,1,0,0,0,1,0,0,0,0,1,2,0,1,2,3,4,0,0,0,0,55,0,0,0,0,78,78,0,78,78,0,78,78,0,78,78,78,5,0,0,0,5,0,0,0,5,0,0,0,0,5,6,78,78,78,0,0,0,0,79,79,0,79,79,0,79,79,0,79,79,0,0,79,0,16,79,5,0,0,0,5,0,0,0,5,0,0,0,0,5,6,79,79,0,0,0,0,80,80,0,80,80,0,80,80,80,5,0,0,0,5,0,0,0,5,0,0,0,0,5,6,0,5,6,9,10,0,3,80,5,0,0,0,5,0,0,0,5,0,0,0,0,5,6,0,0,5,6,0,0,0,0,0,0,0,80,80,80,5,0,0,0,5,0,0,0,5,5,0,6,85,85,85,1,85,86,86,86,86,86,85,86,86,86,86,86,86,85,86,86,86,86,86,86,85,86,86,88,80,83,0,0,0,83,0,83,0,83,0,0,0,83,0,0,84,84,84,80,83,0,0,0,83,0,83,0,83,0,0,0,83,0,0,84,84,84,80,5,0,0,0,5,0,0,0,5,5,0,6,42,42,42,42,80,42,42,42,42,80,16,0,0,0,16,0,0,0,16,0,0,0,16,0,0,0,16,0,0,0,16,16,0,17,80,80,0,0,0,0,89,89,0,89,89,0,89,89,0,0,0,0,90,90,0,90,90,0,90,90,0,90,90,90,0,0,90,77,77,77,1,1,0,90,90,77,77,77,77,77,0,89,89,89,5,0,0,0,5,0,0,0,5,0,0,0,0,5,6,89,0,0,0,0,91,91,0,91,91,0,91,91,0,0,91,0,22,91,22,0,0,0,22,0,0,0,22,22,0,23,91,22,0,0,0,22,0,0,0,22,22,0,23,24,0,0,0,24,0,0,0,24,0,0,0,0,24,25,91,0,24,25,26,27,0,0,0,0,0,89,89,89,89,5,0,0,0,5,0,0,0,5,0,0,0,0,5,6,89,89,0,0,0,0,93,93,0,93,93,0,93,93,93,5,0,0,0,5,0,0,0,5,0,0,0,0,5,6,93,93,0,0,0,0,94,94,0,94,94,0,94,94,0,94,94,94,5,0,0,0,5,0,0,0,5,0,0,0,0,5,6,94,94,94,0,0,0,0,95,95,0,95,95,0,95,95,0,95,95,0,0,95,0,28,95,5,0,0,0,5,0,0,0,5,0,0,0,0,5,6,95,95,0,0,0,0,96,96,0,96,96,0,96,96,96,5,0,0,0,5,0,0,0,5,0,0,0,0,5,6,0,5,6,9,10,0,4,96,5,0,0,0,5,0,0,0,5,0,0,0,0,5,6,0,0,5,6,0,0,0,0,0,0,0,96,96,96,5,0,0,0,5,0,0,0,5,5,0,6,101,101,101,1,101,102,102,102,102,102,101,102,102,102,102,102,102,101,102,102,102,102,102,102,101,102,102,104,96,99,0,0,0,99,0,99,0,99,0,0,0,99,0,0,100,100,100,96,99,0,0,0,99,0,99,0,99,0,0,0,99,0,0,100,100,100,96,5,0,0,0,5,0,0,0,5,5,0,6,42,42,42,42,96,42,42,42,42,96,28,0,0,0,28,0,0,0,28,0,0,0,28,0,0,0,28,0,0,0,28,28,0,29,96,96,30,30,31,0,105,105,0,105,105,0,0,32,106,106,106,106,33,0,0,0,96,96,96,5,0,0,0,5,0,0,0,5,5,0,6,42,42,42,42,42,42,42,42,42,96,5,0,0,0,5,0,0,0,5,5,0,6,0,5,0,0,0,5,0,5,0,5,0,0,0,5,0,0,6,6,6,96,0,93,93,0,0,93,106,106,106,1,0,0,93,106,106,106,106,106,0,80,80,80,5,0,0,0,5,0,0,0,5,5,0,6,42,42,42,42,42,42,42,42,42,80,5,0,0,0,5,0,0,0,5,5,0,6,0,5,0,0,0,5,0,5,0,5,0,0,0,5,0,0,6,6,6,80,0,55,55,0,0,55,107,107,107,1,0,0,0,55,107,107,107,107,107,0,0,0,0,108,108,0,0,108,0,0,34,34,0,34,0,0,0,34,0,0,0,0,0,0,34,0,34,0,0,0,108,0,0,0,0,109,109,0,0,109,0,0,34,34,0,34,0,0,0,34,0,0,0,0,0,0,34,0,34,0,0,0,55,55,55,55,5,0,0,0,5,0,0,0,5,0,0,0,0,5,6,0,0,0,0,110,110,0,110,110,0,110,5,0,0,0,5,0,0,0,5,0,0,0,0,5,6,0,0,0,0,111,111,0,111,111,0,0,111,5,0,0,0,5,0,0,0,5,5,0,6,42,42,42,111,0,111,111,111,1,0,0,110,0,0,0,0,0,0,0,0,0,0,0,0,0,0,0,0,0,0,0,0,0,0,0,0,0,0,113,0,113,0,0,0,0,0,0,0,114,114,0,114,114,114,114,113,0,0,0,113,0,113,0,113,0,0,0,113,0,113,0,115,115,115,114,113,0,0,0,113,0,113,0,113,0,0,0,113,0,0,115,115,115,114,113,0,0,0,113,0,113,0,113,0,0,0,113,0,0,115,115,115,113,113,0,113,113,0,113,113,113,110,110,55,55,54,54,45,45,44,44,43,43,37,37,35,35,36,36,113,113,113,117,117,113,117,113,117,117,55,113,113,113,113,118,118,113,118,113,118,118,113,118,113,118,118,54,113,113,113,119,119,113,119,113,119,119,45,113,113,113,120,120,113,120,113,120,120,44,113,113,113,121,121,113,121,113,121,121,43,113,113,113,122,122,113,122,113,122,122,37,113,113,113,123,123,0,0,0,0,113,0,113,123,123,0,37,37,37,113,0,0,0,0,0,0,113,0,113,0,0,0,113,113,0,115,0,37,37,37,37]
noncomputable def q11 : List Nat := [0,0,0,26,26,0,26,26,0,26,26,0,0,0,0,0,0,0,0,0,0,0,0,40,40,40,1,40,41,41,41,41,41,40,41,41,41,41,41,41,40,41,41,41,41,41,41,40,41,41,41,41,41,41,40,41,41,43,0,26,26,0,26,26,0,26,26,26,0,26,0,1,2,1,1,2,52,52,52,52,52,27,27,26,32,0,0,0,32,0,0,0,32,0,0,0,0,32,33,0,0,8,8,8,8,0,0,0,0,0,0,0,32,33,34,35,0,0,0,0,0,26,26,28,0,0,0,28,0,28,0,28,0,0,0,28,0,0,29,29,29,27,44,63,44,1,44,63,44,63,27,44,44,44,44,44,0,26,26,0,26,26,26,0,24,9,10,11,12,3,4,5,13,14,15,16,64,28,29,32,33,34,35,61,62,60,59,27,44,0,3,4,0,26,26,0,0,26,0,0,65,0,0,26,65,65,65,1,1,0,0,26,65,65,65,65,65,0,0,0,26,0,0,1,0,0,26,0,0,0,26,65,65,65,65,65,26,1,1,0,0,26,26,26,0,34,9,10,11,12,3,4,66,17,14,15,18,19,20,21,67,13,16,22,23,24,25,28,29,32,33,34,35,61,62,60,59,27,44,7,0,5,6,7,8,0,26,26,0,26,0,0,70,70,70,70,0,0,26,68,71,68,1,68,68,71,0,0,26,3,0,0,0,3,0,0,0,3,3,0,4,0,0,26,0,0,0,0,26,1,7,72,7,1,7,7,72,0,0]
noncomputable def q12 : List Nat := [0,0,0,3,3,0,3,3,0,3,3,0,3,3,3,3,1,0,0,0,1,0,0,0,1,0,0,0,0,1,2,3,3,0,0,0,0,4,4,0,4,4,0,4,4,0,4,0,0,0,0,5,5,0,0,5,0,0,0,0,5,0,0,0,4,0,0,0,0,6,6,0,0,6,0,0,0,0,6,0,0,4,4,1,2]
noncomputable def q13 : List Nat := [0,0,0,10,10,0,10,10,0,10,10,0,10,10,10,0,10,1,0,0,0,1,0,0,0,1,0,0,0,0,1,2,10,10,10,0,0,0,0,12,12,0,12,12,0,12,12,12,1,0,0,0,1,0,0,0,1,0,0,0,0,1,2,12,12,0,0,0,0,13,13,0,13,13,0,13,13,0,13,13,13,1,0,0,0,1,0,0,0,1,0,0,0,0,1,2,13,13,13,0,0,0,0,14,14,0,14,14,0,14,14,0,14,14,0,0,14,0,3,14,1,0,0,0,1,0,0,0,1,0,0,0,0,1,2,14,14,0,0,0,0,15,15,0,15,15,0,15,15,15,1,0,0,0,1,0,0,0,1,0,0,0,0,1,2,0,1,2,4,5,0,1,15,1,0,0,0,1,0,0,0,1,0,0,0,0,1,2,0,0,1,2,0,0,0,0,0,0,0,15,15,15,1,0,0,0,1,0,0,0,1,1,0,2,20,20,20,1,20,21,21,21,21,21,20,21,21,21,21,21,21,20,21,21,21,21,21,21,20,21,21,23,15,18,0,0,0,18,0,18,0,18,0,0,0,18,0,0,19,19,19,15,18,0,0,0,18,0,18,0,18,0,0,0,18,0,0,19,19,19,15,1,0,0,0,1,0,0,0,1,1,0,2,6,6,6,6,15,6,6,6,6,15,3,0,0,0,3,0,0,0,3,0,0,0,3,0,0,0,3,0,0,0,3,3,0,7,15,15,8,8,9,0,24,24,0,24,24,24,11,11,11,11,11,24,11,11,11,11,11,1,2,0,15,15,15,1,0,0,0,1,0,0,0,1,1,0,2,6,6,6,6,6,6,6,6,6,15,1,0,0,0,1,0,0,0,1,1,0,2,0,1,0,0,0,1,0,1,0,1,0,0,0,1,0,0,2,2,2,15,0,12,12,0,0,12,25,25,25,1,0,0,12,25,25,25,25,25,0,0,0,0,26,26,26,0,0,26,0,0,26]
noncomputable def q14 : List Nat := [0,0,0,8,8,0,8,8,0,8,8,0,0,0,0,9,9,0,9,9,0,9,9,0,9,9,0,9,9,0,3,0,0,0,0,9,9,0,0,9,0,4,9,0,8,8,0,8,0,3,0,0,0,0,8,8,8,0,0,8,4,0,0,0,4,0,0,0,4,0,0,0,0,4,5,0,0,0,0,10,10,0,10,10,10,4,0,0,0,4,0,0,0,4,0,0,0,0,4,5,10,0,4,5,6,7,0,0,0,0,10,11,11,11,11,11,11,1,11,11,11,11,12,12,12,12,12,12,14]
noncomputable def q15 : List Nat := [0,0,0,8,8,0,8,8,0,8,8,0,0,0,0,9,9,0,9,9,0,9,9,0,9,9,0,9,9,0,3,0,0,0,0,9,9,0,0,9,0,4,9,0,8,8,0,8,0,3,0,0,0,0,8,8,8,0,0,8,4,0,0,0,4,0,0,0,4,0,0,0,0,4,5,0,0,0,0,10,10,0,10,10,10,4,0,0,0,4,0,0,0,4,0,0,0,0,4,5,10,0,4,5,6,7,0,0,0,0,10,0,10,10,10,4,0,0,0,4,0,0,0,4,0,0,0,0,4,5,10,0,4,5,6,7,0,0,0,0,10,0,10,10,10,4,0,0,0,4,0,0,0,4,0,0,0,0,4,5,10,0,4,5,6,7,0,0,0,0,10,11,11,11,11,11,11,1,11,11,11,11,12,12,12,12,12,12,12,12,12,12,0,8,8,8,4,0,0,0,4,0,0,0,4,0,0,0,0,4,5,8,0,4,5,6,7,0,0,0,0,8,13,13,13,1,13,14,14,14,14,14,13,14,14,14,14,14,14,13,14,14,14,14,14,14,13,14,14,16,0,8,8,0,8,8,8,1,0,0,0,8,8,8,8,4,0,0,0,4,0,0,0,4,0,0,0,0,4,5,8,0,4,5,6,7,0,0,0,0,0,2,1,2,2,1,8,4,0,0,0,4,0,0,0,4,0,0,0,0,4,5,8,8,0,4,5,6,7,0,0,0,0,0,12,12,12,12,12,18]
noncomputable def q16 : List Nat := [0,0,0,15,15,0,15,15,0,15,15,0,0,0,0,16,16,0,16,16,0,16,16,0,16,16,0,16,16,0,3,0,0,0,0,16,16,0,0,16,0,4,16,0,15,15,0,15,0,3,0,0,0,0,15,15,15,0,15,0,0,0,0,17,17,0,17,0,11,0,1,0,0,15,4,0,0,0,4,0,0,0,4,0,0,0,0,4,5,0,0,0,0,18,18,0,18,18,18,4,0,0,0,4,0,0,0,4,0,0,0,0,4,5,18,0,4,5,6,7,0,0,0,0,18,19,19,19,19,19,19,1,19,19,19,19,20,20,20,20,20,20,22]
noncomputable def q17 : List Nat := [0,0,0,15,15,0,15,15,0,15,15,0,0,0,0,16,16,0,16,16,0,16,16,0,16,16,0,16,16,0,3,0,0,0,0,16,16,0,0,16,0,4,16,0,15,15,0,15,0,3,0,0,0,0,15,15,15,0,15,0,0,0,0,17,17,0,17,0,11,0,1,0,0,15,4,0,0,0,4,0,0,0,4,0,0,0,0,4,5,0,0,0,0,18,18,0,18,18,18,4,0,0,0,4,0,0,0,4,0,0,0,0,4,5,18,0,4,5,6,7,0,0,0,0,18,0,18,18,18,4,0,0,0,4,0,0,0,4,0,0,0,0,4,5,18,0,4,5,6,7,0,0,0,0,18,0,18,18,18,4,0,0,0,4,0,0,0,4,0,0,0,0,4,5,18,0,4,5,6,7,0,0,0,0,18,19,19,19,19,19,19,1,19,19,19,19,20,20,20,20,20,20,20,20,20,20,0,15,15,15,4,0,0,0,4,0,0,0,4,0,0,0,0,4,5,15,0,4,5,6,7,0,0,0,0,15,21,21,21,1,21,22,22,22,22,22,21,22,22,22,22,22,22,21,22,22,22,22,22,22,21,22,22,24,0,15,15,0,15,15,15,1,0,0,0,15,15,15,15,4,0,0,0,4,0,0,0,4,0,0,0,0,4,5,15,0,4,5,6,7,0,0,0,0,0,9,1,2,11,8,9,10,12,13,14,1,1,2,15,4,0,0,0,4,0,0,0,4,0,0,0,0,4,5,15,15,4,0,0,0,4,0,0,0,4,0,0,0,0,4,5,15,0,4,5,6,7,0,0,0,0,0,4,5,6,7,0,0,0,0,0,15,0,15,15,15,1,1,0,15,4,0,0,0,4,0,0,0,4,0,0,0,0,4,5,15,15,0,4,5,6,7,0,0,0,0,0,20,20,20,20,20,26]
noncomputable def q18 : List Nat := [0,0,0,21,21,0,21,21,0,21,21,0,21,21,21,0,21,21,21,22,22,1,22,23,23,23,23,23,22,23,23,0,21,21,21,4,0,0,0,4,0,0,0,4,0,0,0,0,4,5,21,0,4,5,6,7,0,0,0,0,0,21,21,23,23,23,23,22,23,23,0,21,21,21,8,0,0,0,8,0,0,0,8,0,0,0,0,8,9,21,0,8,9,10,11,0,0,0,0,0,21,21,23,23,23,23,22,23,23,25,21,12,0,0,0,12,0,0,0,12,0,0,0,0,12,3,0,12,3,13,0,21,12,0,0,0,12,0,0,0,12,0,0,0,0,12,3,21,21,0,0,0,0,27,27,0,27,27,0,27,27,0,27,27,27,12,0,0,0,12,0,0,0,12,0,0,0,0,12,3,27,27,27,0,0,0,0,28,28,0,28,28,0,28,28,0,28,28,0,0,28,0,14,28,12,0,0,0,12,0,0,0,12,0,0,0,0,12,3,28,28,0,0,0,0,29,29,0,29,29,0,29,29,29,12,0,0,0,12,0,0,0,12,0,0,0,0,12,3,0,12,3,15,16,0,2,29,12,0,0,0,12,0,0,0,12,0,0,0,0,12,3,0,0,12,3,0,0,0,0,0,0,0,29,29,29,12,0,0,0,12,0,0,0,12,12,0,3,34,34,34,1,34,35,35,35,35,35,34,35,35,35,35,35,35,34,35,35,35,35,35,35,34,35,35,37,29,32,0,0,0,32,0,32,0,32,0,0,0,32,0,0,33,33,33,29,32,0,0,0,32,0,32,0,32,0,0,0,32,0,0,33,33,33,29,12,0,0,0,12,0,0,0,12,12,0,3,26,26,26,26,29,26,26,26,26,29,14,0,0,0,14,0,0,0,14,0,0,0,14,0,0,0,14,0,0,0,14,14,0,17,29,29,0,7,12,3,18,19,20,1,2,0,1,0,29,29,29,12,0,0,0,12,0,0,0,12,12,0,3,26,26,26,26,26,26,26,26,26,29,12,0,0,0,12,0,0,0,12,12,0,3,0,12,0,0,0,12,0,12,0,12,0,0,0,12,0,0,3,3,3,29]
noncomputable def q19 : List Nat := [0,0,0,25,25,0,25,25,0,25,25,0,25,25,25,0,25,25,25,26,26,1,26,27,27,27,27,27,26,27,27,0,25,25,25,4,0,0,0,4,0,0,0,4,0,0,0,0,4,5,25,0,4,5,6,7,0,0,0,0,0,25,25,27,27,27,27,26,27,27,0,25,25,25,8,0,0,0,8,0,0,0,8,0,0,0,0,8,9,25,0,8,9,10,11,0,0,0,0,0,25,25,27,27,27,27,26,27,27,29,25,12,0,0,0,12,0,0,0,12,0,0,0,0,12,3,0,12,3,13,0,25,12,0,0,0,12,0,0,0,12,0,0,0,0,12,3,25,25,0,0,0,0,31,31,0,31,31,0,31,31,0,31,31,31,12,0,0,0,12,0,0,0,12,0,0,0,0,12,3,31,31,31,0,0,0,0,32,32,0,32,32,0,32,32,0,32,32,0,0,32,0,14,32,12,0,0,0,12,0,0,0,12,0,0,0,0,12,3,32,32,0,0,0,0,33,33,0,33,33,0,33,33,33,12,0,0,0,12,0,0,0,12,0,0,0,0,12,3,0,12,3,15,16,0,2,33,12,0,0,0,12,0,0,0,12,0,0,0,0,12,3,0,0,12,3,0,0,0,0,0,0,0,33,33,33,12,0,0,0,12,0,0,0,12,12,0,3,38,38,38,1,38,39,39,39,39,39,38,39,39,39,39,39,39,38,39,39,39,39,39,39,38,39,39,41,33,36,0,0,0,36,0,36,0,36,0,0,0,36,0,0,37,37,37,33,36,0,0,0,36,0,36,0,36,0,0,0,36,0,0,37,37,37,33,12,0,0,0,12,0,0,0,12,12,0,3,30,30,30,30,33,30,30,30,30,33,14,0,0,0,14,0,0,0,14,0,0,0,14,0,0,0,14,0,0,0,14,14,0,17,33,33,0,14,12,3,18,19,20,1,2,15,16,30,21,22,23,24,2,1,3,4,5,0,33,33,33,12,0,0,0,12,0,0,0,12,12,0,3,30,30,30,30,30,30,30,30,30,33,12,0,0,0,12,0,0,0,12,12,0,3,0,12,0,0,0,12,0,12,0,12,0,0,0,12,0,0,3,3,3,33]
noncomputable def q20 : List Nat := [0,0,0,22,22,0,22,22,0,22,22,0,22,22,22,0,22,22,22,23,23,1,23,24,24,24,24,24,23,24,24,0,22,22,22,3,0,0,0,3,0,0,0,3,0,0,0,0,3,4,22,0,3,4,5,6,0,0,0,0,0,22,22,24,24,24,24,23,24,24,0,22,22,22,7,0,0,0,7,0,0,0,7,0,0,0,0,7,8,22,0,7,8,9,10,0,0,0,0,0,22,22,24,24,24,24,23,24,24,26,22,11,0,0,0,11,0,0,0,11,0,0,0,0,11,12,0,11,12,13,0,22,11,0,0,0,11,0,0,0,11,0,0,0,0,11,12,22,22,0,0,0,0,28,28,0,28,28,0,28,28,0,28,28,28,11,0,0,0,11,0,0,0,11,0,0,0,0,11,12,28,28,28,0,0,0,0,29,29,0,29,29,0,29,29,0,29,29,0,0,29,0,14,29,11,0,0,0,11,0,0,0,11,0,0,0,0,11,12,29,29,0,0,0,0,30,30,0,30,30,0,30,30,30,11,0,0,0,11,0,0,0,11,0,0,0,0,11,12,0,11,12,15,16,0,1,30,11,0,0,0,11,0,0,0,11,0,0,0,0,11,12,0,0,11,12,0,0,0,0,0,0,0,30,30,30,11,0,0,0,11,0,0,0,11,11,0,12,35,35,35,1,35,36,36,36,36,36,35,36,36,36,36,36,36,35,36,36,36,36,36,36,35,36,36,38,30,33,0,0,0,33,0,33,0,33,0,0,0,33,0,0,34,34,34,30,33,0,0,0,33,0,33,0,33,0,0,0,33,0,0,34,34,34,30,11,0,0,0,11,0,0,0,11,11,0,12,27,27,27,27,30,27,27,27,27,30,14,0,0,0,14,0,0,0,14,0,0,0,14,0,0,0,14,0,0,0,14,14,0,17,30,30,0,0,0,0,39,39,0,39,39,0,39,39,0,0,0,0,40,40,0,40,40,0,40,40,0,40,40,0,40,40,0,18,0,0,0,0,40,40,0,0,40,0,19,40,0,39,39,0,39,0,18,0,0,0,0,39,39,39,0,39,0,0,0,0,41,41,0,41,0,0,1,0,39,0,39,0,0,0,0,42,42,0,42,42,42,0,0,42,18,18,18,1,0,0,0,42,42,18,18,18,18,18,0,0,0,0,0,0,43,43,0,43,43,0,43,43,0,43,43,43,11,0,0,0,11,0,0,0,11,0,0,0,0,11,12,0,43,0,0,43,43,0,0,0,0,44,44,0,44,44,0,44,11,0,0,0,11,0,0,0,11,0,0,0,0,11,12,0,0,0,0,45,45,0,45,45,0,0,45,11,0,0,0,11,0,0,0,11,11,0,12,27,27,27,45,0,45,45,45,1,0,0,44,0,0,0,0,0,0,0,0,0,0,0,0,0,0,0,0,0,0,0,0,0,0,0,0,0,0,47,0,47,0,0,0,0,0,0,0,48,48,0,48,48,48,48,47,0,0,0,47,0,47,0,47,0,0,0,47,0,47,0,49,49,49,48,47,0,0,0,47,0,47,0,47,0,0,0,47,0,0,49,49,49,48,47,0,0,0,47,0,47,0,47,0,0,0,47,0,0,49,49,49,47,47,0,47,47,0,47,47,47,44,44,43,43,39,39,30,30,29,29,28,28,22,22,20,20,21,21,47,47,47,51,51,47,51,47,51,51,43,47,47,47,52,52,47,52,47,52,52,39,47,47,47,53,53,47,53,47,53,53,30,47,47,47,54,54,47,54,47,54,54,29,47,47,47,55,55,47,55,47,55,55,28,47,47,47,56,56,47,56,47,56,56,22,47,47,47,57,57,0,0,0,0,47,0,47,57,57,0,22,22,22,47,0,0,0,0,0,0,47,0,47,0,0,0,47,47,0,49,0,22,22,22,22]
noncomputable def q21 : List Nat := [0,0,0,23,23,0,23,23,0,23,23,0,23,23,23,0,23,23,23,24,24,1,24,25,25,25,25,25,24,25,25,0,23,23,23,3,0,0,0,3,0,0,0,3,0,0,0,0,3,4,23,0,3,4,5,6,0,0,0,0,0,23,23,25,25,25,25,24,25,25,0,23,23,23,7,0,0,0,7,0,0,0,7,0,0,0,0,7,8,23,0,7,8,9,10,0,0,0,0,0,23,23,25,25,25,25,24,25,25,27,23,11,0,0,0,11,0,0,0,11,0,0,0,0,11,12,0,11,12,13,0,23,11,0,0,0,11,0,0,0,11,0,0,0,0,11,12,23,23,0,0,0,0,29,29,0,29,29,0,29,29,0,29,29,29,11,0,0,0,11,0,0,0,11,0,0,0,0,11,12,29,29,29,0,0,0,0,30,30,0,30,30,0,30,30,0,30,30,0,0,30,0,14,30,11,0,0,0,11,0,0,0,11,0,0,0,0,11,12,30,30,0,0,0,0,31,31,0,31,31,0,31,31,31,11,0,0,0,11,0,0,0,11,0,0,0,0,11,12,0,11,12,15,16,0,1,31,11,0,0,0,11,0,0,0,11,0,0,0,0,11,12,0,0,11,12,0,0,0,0,0,0,0,31,31,31,11,0,0,0,11,0,0,0,11,11,0,12,36,36,36,1,36,37,37,37,37,37,36,37,37,37,37,37,37,36,37,37,37,37,37,37,36,37,37,39,31,34,0,0,0,34,0,34,0,34,0,0,0,34,0,0,35,35,35,31,34,0,0,0,34,0,34,0,34,0,0,0,34,0,0,35,35,35,31,11,0,0,0,11,0,0,0,11,11,0,12,28,28,28,28,31,28,28,28,28,31,14,0,0,0,14,0,0,0,14,0,0,0,14,0,0,0,14,0,0,0,14,14,0,17,31,31,0,0,0,0,40,40,0,40,40,0,40,40,0,0,0,0,41,41,0,41,41,0,41,41,0,41,41,0,41,41,0,18,0,0,0,0,41,41,0,0,41,0,19,41,0,40,40,0,40,0,18,0,0,0,0,40,40,40,0,40,0,0,0,0,42,42,0,42,0,20,0,1,0,40,0,40,0,0,0,0,43,43,0,43,43,43,0,0,43,18,18,18,1,0,0,0,43,43,18,18,18,18,18,0,20,0,0,0,0,0,44,44,0,44,44,0,44,44,0,44,44,44,11,0,0,0,11,0,0,0,11,0,0,0,0,11,12,0,44,0,0,44,44,0,0,0,0,45,45,0,45,45,0,45,11,0,0,0,11,0,0,0,11,0,0,0,0,11,12,0,0,0,0,46,46,0,46,46,0,0,46,11,0,0,0,11,0,0,0,11,11,0,12,28,28,28,46,0,46,46,46,1,0,0,45,0,0,0,0,0,0,0,0,0,0,0,0,0,0,0,0,0,0,0,0,0,0,0,0,0,0,48,0,48,0,0,0,0,0,0,0,49,49,0,49,49,49,49,48,0,0,0,48,0,48,0,48,0,0,0,48,0,48,0,50,50,50,49,48,0,0,0,48,0,48,0,48,0,0,0,48,0,0,50,50,50,49,48,0,0,0,48,0,48,0,48,0,0,0,48,0,0,50,50,50,48,48,0,48,48,0,48,48,48,45,45,44,44,40,40,31,31,30,30,29,29,23,23,21,21,22,22,48,48,48,52,52,48,52,48,52,52,44,48,48,48,53,53,48,53,48,53,53,40,48,48,48,54,54,48,54,48,54,54,31,48,48,48,55,55,48,55,48,55,55,30,48,48,48,56,56,48,56,48,56,56,29,48,48,48,57,57,48,57,48,57,57,23,48,48,48,58,58,0,0,0,0,48,0,48,58,58,0,23,23,23,48,0,0,0,0,0,0,48,0,48,0,0,0,48,48,0,50,0,23,23,23,23]
noncomputable def q22 : List Nat := [0,0,21,21,0,20,20,0,20,20,0,0,0,21,0,1,2,1,1,2,23,23,23,23,23,23,1,23,23,23,23,24,24,24,24,24,24,24,28,0,20,20,26,0,0,0,0,0,0,0,0,37,37,37,1,37,38,38,38,38,38,37,38,38,38,38,38,38,37,38,38,38,38,38,38,37,38,38,40,22,22,0,20,20,0,0,0,0,20,33,0,0,0,33,0,33,0,33,0,0,0,33,0,0,34,34,34,0,0,7,7,7,7,0,0,0,0,0,0,0,20,20,20,33,0,0,0,33,0,0,0,33,33,0,34,41,0,0,0,41,0,0,0,41,0,0,0,0,41,42,20,0,41,42,43,44,0,0,0,0,0,0,0,20,25,25,1,25,54,55,55,55,55,55,55,1,55,55,55,55,55,54,54,54,54,25,54,54,57,0,21,0,1,2,1,3,4,0,20,20,20,20,20,58,58,58,58,58,0,20,20,0,20,20,20,1,0,0,22,0,20,31,32,4,8,9,10,11,12,13,14,15,3,5,16,17,18,19,59,29,30,0,0,5,0,20,20,0,0,0,0,20,25,25,25,62,62,62,62,62,62,1,62,62,62,62,63,63,63,63,63,63,63,67,0,20,20,65,20,1,0,0,20,60,68,60,1,60,60,68,0,0,20,20,1,1,0,0,0,20,25,0,0,64,69,64,1,64,64,69,0,0]
noncomputable def q23 : List Nat := [0,0,21,21,0,20,20,0,20,20,0,0,0,21,0,1,2,2,1,2,23,23,23,23,23,23,1,23,23,23,23,24,24,24,24,24,24,24,24,24,24,24,0,26,26,0,21,0,1,2,0,3,25,25,25,25,24,24,24,24,24,28,0,20,20,26,26,26,0,0,0,0,0,0,0,0,37,37,37,1,37,38,38,38,38,38,37,38,38,38,38,38,38,37,38,38,38,38,38,38,37,38,38,40,22,22,0,20,20,0,0,0,0,20,33,0,0,0,33,0,33,0,33,0,0,0,33,0,0,34,34,34,0,0,7,7,7,7,0,0,0,0,0,0,0,20,20,20,33,0,0,0,33,0,0,0,33,33,0,34,41,0,0,0,41,0,0,0,41,0,0,0,0,41,42,20,0,41,42,43,44,0,0,0,0,0,0,0,20,25,25,1,25,54,55,55,55,55,55,55,1,55,55,55,55,55,54,54,54,54,25,54,54,55,55,55,55,55,55,55,55,55,55,55,55,55,55,55,55,55,56,56,56,1,56,57,57,57,57,57,56,57,57,57,57,57,57,56,57,57,57,57,57,57,56,57,57,59,0,20,20,0,20,20,22,29,0,0,0,29,0,0,0,29,0,0,0,0,29,30,20,20,0,29,30,31,32,0,0,0,0,0,55,55,55,54,54,54,54,25,54,54,61,0,21,0,1,2,1,4,5,0,20,20,20,20,20,62,62,62,62,62,0,20,20,0,20,20,20,1,0,0,22,0,20,31,32,4,8,9,10,11,12,13,14,15,3,5,16,17,18,19,63,29,30,0,0,6,0,20,20,0,0,0,0,20,25,25,25,66,66,66,66,66,66,1,66,66,66,66,67,67,67,67,67,67,67,67,67,67,67,0,69,69,22,29,0,0,0,29,0,0,0,29,0,0,0,0,29,30,69,0,29,30,31,32,0,0,0,0,68,68,68,68,67,67,67,67,67,71,0,20,20,69,69,69,20,1,0,0,20,64,72,64,1,64,64,72,0,0,20,20,1,1,0,0,0,20,25,0,0,68,73,68,1,68,68,73,2,0]
noncomputable def q24 : List Nat := [0,0,22,22,0,21,21,0,21,21,0,0,0,22,0,1,2,1,1,2,24,24,24,24,24,24,1,24,24,24,24,25,25,25,25,25,25,25,29,0,21,21,27,0,0,0,0,0,0,0,0,38,38,38,1,38,39,39,39,39,39,38,39,39,39,39,39,39,38,39,39,39,39,39,39,38,39,39,41,23,23,0,21,21,0,0,0,0,21,34,0,0,0,34,0,34,0,34,0,0,0,34,0,0,35,35,35,0,0,8,0,0,0,0,0,0,0,21,21,21,34,0,0,0,34,0,0,0,34,34,0,35,42,0,0,0,42,0,0,0,42,0,0,0,0,42,43,21,0,42,43,44,45,0,0,0,0,0,0,0,21,26,26,1,26,49,50,50,50,50,50,50,1,50,50,50,50,50,49,49,49,49,26,49,49,52,0,22,0,1,2,1,3,4,0,21,21,21,21,21,53,53,53,53,53,0,21,21,0,21,21,21,1,0,0,23,0,20,32,33,4,9,10,11,12,13,14,15,16,3,5,17,18,19,20,54,30,31,0,0,5,0,21,21,0,0,0,0,21,26,26,26,57,57,57,57,57,57,1,57,57,57,57,58,58,58,58,58,58,58,62,0,21,21,60,21,1,0,0,21,55,63,55,1,55,55,63,0,0,21,21,1,1,0,0,0,21,26,0,0,59,64,59,1,59,59,64,0,0]
noncomputable def q25 : List Nat := [0,0,22,22,0,21,21,0,21,21,0,0,0,22,0,1,2,2,1,2,24,24,24,24,24,24,1,24,24,24,24,25,25,25,25,25,25,25,25,25,25,25,0,27,27,0,22,0,1,2,0,3,26,26,26,26,25,25,25,25,25,29,0,21,21,27,27,27,0,0,0,0,0,0,0,0,38,38,38,1,38,39,39,39,39,39,38,39,39,39,39,39,39,38,39,39,39,39,39,39,38,39,39,41,23,23,0,21,21,0,0,0,0,21,34,0,0,0,34,0,34,0,34,0,0,0,34,0,0,35,35,35,0,0,8,0,0,0,0,0,0,0,21,21,21,34,0,0,0,34,0,0,0,34,34,0,35,42,0,0,0,42,0,0,0,42,0,0,0,0,42,43,21,0,42,43,44,45,0,0,0,0,0,0,0,21,26,26,1,26,49,50,50,50,50,50,50,1,50,50,50,50,50,49,49,49,49,26,49,49,50,50,50,50,50,50,50,50,50,50,50,50,50,50,50,50,50,51,51,51,1,51,52,52,52,52,52,51,52,52,52,52,52,52,51,52,52,52,52,52,52,51,52,52,54,0,21,21,0,21,21,23,30,0,0,0,30,0,0,0,30,0,0,0,0,30,31,21,21,0,30,31,32,33,0,0,0,0,0,50,50,50,49,49,49,49,26,49,49,56,0,22,0,1,2,1,4,5,0,21,21,21,21,21,57,57,57,57,57,0,21,21,0,21,21,21,1,0,0,23,0,20,32,33,4,9,10,11,12,13,14,15,16,3,5,17,18,19,20,58,30,31,0,0,6,0,21,21,0,0,0,0,21,26,26,26,61,61,61,61,61,61,1,61,61,61,61,62,62,62,62,62,62,62,62,62,62,62,0,64,64,23,30,0,0,0,30,0,0,0,30,0,0,0,0,30,31,64,0,30,31,32,33,0,0,0,0,63,63,63,63,62,62,62,62,62,66,0,21,21,64,64,64,21,1,0,0,21,59,67,59,1,59,59,67,0,0,21,21,1,1,0,0,0,21,26,0,0,63,68,63,1,63,63,68,2,0]
noncomputable def q26 : List Nat := [0,0,22,22,0,21,21,0,21,21,0,0,0,22,0,1,2,4,1,2,24,24,24,24,24,24,1,24,24,24,24,25,25,25,25,25,25,25,25,25,25,25,0,27,27,0,22,0,1,2,0,3,26,26,26,26,25,25,25,25,25,25,25,25,25,0,27,27,0,22,0,1,2,0,4,26,26,26,26,25,25,25,25,25,25,25,25,25,0,27,27,0,22,0,1,2,0,5,26,26,26,26,25,25,25,25,25,29,0,21,21,27,27,27,0,0,0,0,0,0,0,0,38,38,38,1,38,39,39,39,39,39,38,39,39,39,39,39,39,38,39,39,39,39,39,39,38,39,39,41,23,23,0,21,21,0,0,0,0,21,34,0,0,0,34,0,34,0,34,0,0,0,34,0,0,35,35,35,0,0,8,0,0,0,0,0,0,0,21,21,21,34,0,0,0,34,0,0,0,34,34,0,35,42,0,0,0,42,0,0,0,42,0,0,0,0,42,43,21,0,42,43,44,45,0,0,0,0,0,0,0,21,26,26,1,26,49,50,50,50,50,50,50,1,50,50,50,50,50,49,49,49,49,26,49,49,50,50,50,50,50,50,50,50,50,50,50,50,50,50,50,50,50,51,51,51,1,51,52,52,52,52,52,51,52,52,52,52,52,52,51,52,52,52,52,52,52,51,52,52,54,0,21,21,0,21,21,23,30,0,0,0,30,0,0,0,30,0,0,0,0,30,31,21,21,0,30,31,32,33,0,0,0,0,0,50,50,50,49,49,49,49,26,49,49,50,50,50,50,50,50,50,50,50,50,50,50,50,50,50,50,50,55,55,55,1,55,56,56,56,56,56,55,56,56,56,56,56,56,55,56,56,56,56,56,56,55,56,56,58,0,21,21,0,21,21,23,30,0,0,0,30,0,0,0,30,0,0,0,0,30,31,21,21,0,30,31,32,33,0,0,0,0,0,50,50,50,49,49,49,49,26,49,49,50,50,50,50,50,50,50,50,50,50,50,50,50,50,50,50,50,59,59,59,1,59,60,60,60,60,60,59,60,60,60,60,60,60,59,60,60,60,60,60,60,59,60,60,62,0,21,21,0,21,21,23,30,0,0,0,30,0,0,0,30,0,0,0,0,30,31,21,21,0,30,31,32,33,0,0,0,0,0,50,50,50,49,49,49,49,26,49,49,64,0,22,0,1,2,3,6,7,0,21,21,21,21,21,65,65,65,65,65,0,21,21,0,21,21,21,1,1,0,23,21,0,24,32,33,4,9,10,11,12,13,14,15,16,3,5,17,18,19,20,66,30,31,47,48,46,7,0,0,8,9,10,11,0,21,21,0,0,0,0,21,26,26,26,69,69,69,69,69,69,1,69,69,69,69,70,70,70,70,70,70,70,70,70,70,70,0,72,72,23,30,0,0,0,30,0,0,0,30,0,0,0,0,30,31,72,0,30,31,32,33,0,0,0,0,71,71,71,71,70,70,70,70,70,70,70,70,70,0,72,72,23,30,0,0,0,30,0,0,0,30,0,0,0,0,30,31,72,0,30,31,32,33,0,0,0,0,71,71,71,71,70,70,70,70,70,70,70,70,70,0,72,72,23,30,0,0,0,30,0,0,0,30,0,0,0,0,30,31,72,0,30,31,32,33,0,0,0,0,71,71,71,71,70,70,70,70,70,74,0,21,21,72,72,72,21,1,0,0,21,67,75,67,1,67,67,75,0,0,21,21,1,0,0,0,0,21,26,0,0,76,76,76,76,77,77,77,77,77,76,71,78,71,1,71,71,78,2,0]
noncomputable def q27 : List Nat := [0,0,0,5,5,0,0,5,1,1,1,1,1,6,0,10,8,8,8,8,7,0,11,0,0,0,0,0,0,0,0,0,0,0,0,0,0,0,0,0,0,0,0,0,0,0,0,0,0,11,0,11,0,0,0,0,0,0,0,0,12,12,0,12,12,0,12,12,0,12,12,0,12,12,0,12,12,0,12,12,0,12,12,0,12,12,0,12,12,0,12,12,12,12,11,0,0,0,11,0,11,0,11,0,0,0,11,0,0,10,10,10,12,12,11,0,0,0,11,0,11,0,11,0,0,0,11,0,0,10,10,10,12,12,11,0,0,0,11,0,11,0,11,0,0,0,11,0,0,10,10,10,12,12,11,0,0,0,11,0,11,0,11,0,0,0,11,0,0,10,10,10,12,12,11,0,0,0,11,0,11,0,11,0,0,0,11,0,0,10,10,10,12,12,11,0,0,0,11,0,11,0,11,0,0,0,11,0,0,10,10,10,12,12,11,0,0,0,11,0,11,0,11,0,0,0,11,0,0,10,10,10,12,12,11,0,0,0,11,0,11,0,11,0,0,0,11,0,0,10,10,10,12,12,11,0,0,0,11,0,11,0,11,0,0,0,11,0,0,10,10,10,12,12,11,0,0,0,11,0,11,0,11,0,0,0,11,0,0,10,10,10,0,0,0,0,0,0,0,0,0,0,0,0,0,0,0,0,0,0,0,0,0,0,0,0,0,0,0,0,0,14,0,14,0,0,0,0,0,0,0,15,15,0,15,15,0,15,15,15,15,14,0,0,0,14,0,14,0,14,0,0,0,14,0,0,13,13,13,0,15,0,0,0,0,16,16,0,16,16,0,16,0,0,0,0,17,17,0,17,17,17,0,0,17,1,0,0,17,17,1,0,0,17,0,17,17,17,0,0,17,1,0,0,17,17,1,0,0,17,0,17,17,17,0,0,17,1,0,0,17,17,1,0,0,17,0,17,17,17,0,0,17,1,0,0,17,17,1,0,0,17,0,17,17,17,0,0,17,1,1,0,17,17,18,18,18,18,18,0,16,16,16,19,19,19,19,19,1,16,16,20,20,20,20,20,15,14,0,0,0,14,0,14,0,14,0,0,0,14,0,0,13,13,13,15,14,0,0,0,14,0,14,0,14,0,0,0,14,0,0,13,13,13,15,14,0,0,0,14,0,14,0,14,0,0,0,14,0,0,13,13,13,15,14,0,0,0,14,0,14,0,14,0,0,0,14,0,0,13,13,13,15,14,0,0,0,14,0,14,0,14,0,0,0,14,0,0,13,13,13,15,14,0,0,0,14,0,14,0,14,0,0,0,14,0,0,13,13,13,0,0,0,0,15,14,0,0,0,14,0,14,0,14,0,0,0,14,0,0,13,13,13,27,27,27,1,27,28,28,28,28,28,27,28,28,28,28,28,28,27,28,28,28,28,28,28,27,28,28,30,0,5,5,0,5,5,0,5,0,0,0,0,31,31,0,2,2,2,2,0,0,0,0,31,31,0,31,0,0,0,0,0,0,0,0,0,0,0,0,0,0,0,0,0,0,0,0,59,59,0,59,59,0,59,0,0,0,0,59,59,0,0,59,58,58,1,58,64,65,65,65,65,65,65,1,65,65,65,65,65,64,64,64,64,58,64,64,65,65,65,65,65,65,65,65,65,65,65,65,65,65,65,65,65,66,66,66,1,66,67,67,67,67,67,66,67,67,67,67,67,67,66,67,67,67,67,67,67,66,67,67,69,0,59,59,0,59,59,59,60,0,0,0,60,0,0,0,60,0,0,0,0,60,61,59,41,41,41,41,41,0,59,59,59,41,41,41,41,41,59,41,41,41,41,41,0,0,0,0,60,61,62,63,0,0,0,0,0,65,65,65,64,64,64,64,58,64,64,65,65,65,65,65,65,65,65,65,65,65,65,65,65,65,65,65,72,72,72,1,72,73,73,73,73,73,72,73,73,73,73,73,73,72,73,73,73,73,73,73,72,73,73,75,0,59,59,0,59,59,59,60,0,0,0,60,0,0,0,60,0,0,0,0,60,61,59,42,42,42,42,42,0,59,59,59,42,42,42,42,42,59,42,42,42,42,42,0,0,0,0,60,61,62,63,0,0,0,0,0,65,65,65,64,64,64,64,58,64,64,65,65,65,65,65,65,65,65,65,65,65,65,65,65,65,65,65,78,78,78,1,78,79,79,79,79,79,78,79,79,79,79,79,79,78,79,79,79,79,79,79,78,79,79,81,0,59,59,0,59,59,59,60,0,0,0,60,0,0,0,60,0,0,0,0,60,61,59,43,43,43,43,43,0,59,59,59,43,43,43,43,43,59,43,43,43,43,43,0,0,0,0,60,61,62,63,0,0,0,0,0,65,65,65,64,64,64,64,58,64,64,65,65,65,65,65,65,65,65,65,65,65,65,65,65,65,65,65,84,84,84,1,84,85,85,85,85,85,84,85,85,85,85,85,85,84,85,85,85,85,85,85,84,85,85,87,0,59,59,0,59,59,59,60,0,0,0,60,0,0,0,60,0,0,0,0,60,61,59,44,44,44,44,44,0,59,59,59,44,44,44,44,44,59,44,44,44,44,44,0,0,0,0,60,61,62,63,0,0,0,0,0,65,65,65,64,64,64,64,58,64,64,65,65,65,65,65,65,65,65,65,65,65,65,65,65,65,65,65,90,90,90,1,90,91,91,91,91,91,90,91,91,91,91,91,91,90,91,91,91,91,91,91,90,91,91,93,0,59,59,0,59,59,59,60,0,0,0,60,0,0,0,60,0,0,0,0,60,61,59,45,45,45,45,45,0,59,59,59,45,45,45,45,45,59,45,45,45,45,45,0,0,0,0,60,61,62,63,0,0,0,0,0,65,65,65,64,64,64,64,58,64,64,65,65,65,65,65,65,65,65,65,65,65,65,65,65,65,65,65,96,96,96,1,96,97,97,97,97,97,96,97,97,97,97,97,97,96,97,97,97,97,97,97,96,97,97,99,0,59,59,0,59,59,59,60,0,0,0,60,0,0,0,60,0,0,0,0,60,61,59,46,46,46,46,46,0,59,59,59,46,46,46,46,46,59,46,46,46,46,46,0,0,0,0,60,61,62,63,0,0,0,0,0,65,65,65,64,64,64,64,58,64,64,65,65,65,65,65,65,65,65,65,65,65,65,65,65,65,65,65,102,102,102,1,102,103,103,103,103,103,102,103,103,103,103,103,103,102,103,103,103,103,103,103,102,103,103,105,0,59,59,0,59,59,59,60,0,0,0,60,0,0,0,60,0,0,0,0,60,61,59,47,47,47,47,47,0,59,59,59,47,47,47,47,47,59,47,47,47,47,47,0,0,0,0,60,61,62,63,0,0,0,0,0,65,65,65,64,64,64,64,58,64,64,65,65,65,65,65,65,65,65,65,65,65,65,65,65,65,65,65,108,108,108,1,108,109,109,109,109,109,108,109,109,109,109,109,109,108,109,109,109,109,109,109,108,109,109,111,0,59,59,0,59,59,59,60,0,0,0,60,0,0,0,60,0,0,0,0,60,61,59,48,48,48,48,48,0,59,59,59,48,48,48,48,48,59,48,48,48,48,48,0,0,0,0,60,61,62,63,0,0,0,0,0,65,65,65,64,64,64,64,58,64,64,65,65,65,65,65,65,65,65,65,65,65,65,65,65,65,65,65,114,114,114,1,114,115,115,115,115,115,114,115,115,115,115,115,115,114,115,115,115,115,115,115,114,115,115,117,0,59,59,0,59,59,59,60,0,0,0,60,0,0,0,60,0,0,0,0,60,61,59,49,49,49,49,49,0,59,59,59,49,49,49,49,49,59,49,49,49,49,49,0,0,0,0,60,61,62,63,0,0,0,0,0,65,65,65,64,64,64,64,58,64,64,65,65,65,65,65,65,65,65,65,65,65,65,65,65,65,65,65,120,120,120,1,120,121,121,121,121,121,120,121,121,121,121,121,121,120,121,121,121,121,121,121,120,121,121,123,0,59,59,0,59,59,59,60,0,0,0,60,0,0,0,60,0,0,0,0,60,61,59,50,50,50,50,50,0,59,59,59,50,50,50,50,50,59,50,50,50,50,50,0,0,0,0,60,61,62,63,0,0,0,0,0,65,65,65,64,64,64,64,58,64,64,65,65,65,65,65,65,65,65,65,65,65,65,65,65,65,65,65,126,126,126,1,126,127,127,127,127,127,126,127,127,127,127,127,127,126,127,127,127,127,127,127,126,127,127,129,0,59,59,0,59,59,59,60,0,0,0,60,0,0,0,60,0,0,0,0,60,61,59,51,51,51,51,51,0,59,59,59,51,51,51,51,51,59,51,51,51,51,51,0,0,0,0,60,61,62,63,0,0,0,0,0,65,65,65,64,64,64,64,58,64,64,65,65,65,65,65,65,65,65,65,65,65,65,65,65,65,65,65,132,132,132,1,132,133,133,133,133,133,132,133,133,133,133,133,133,132,133,133,133,133,133,133,132,133,133,135,0,59,59,0,59,59,59,60,0,0,0,60,0,0,0,60,0,0,0,0,60,61,59,52,52,52,52,52,0,59,59,59,52,52,52,52,52,59,52,52,52,52,52,0,0,0,0,60,61,62,63,0,0,0,0,0,65,65,65,64,64,64,64,58,64,64,65,65,65,65,65,65,65,65,65,65,65,65,65,65,65,65,65,138,138,138,1,138,139,139,139,139,139,138,139,139,139,139,139,139,138,139,139,139,139,139,139,138,139,139,141,0,59,59,0,59,59,59,60,0,0,0,60,0,0,0,60,0,0,0,0,60,61,59,53,53,53,53,53,0,59,59,59,53,53,53,53,53,59,53,53,53,53,53,0,0,0,0,60,61,62,63,0,0,0,0,0,65,65,65,64,64,64,64,58,64,64,65,65,65,65,65,65,65,65,65,65,65,65,65,65,65,65,65,144,144,144,1,144,145,145,145,145,145,144,145,145,145,145,145,145,144,145,145,145,145,145,145,144,145,145,147,0,59,59,0,59,59,59,60,0,0,0,60,0,0,0,60,0,0,0,0,60,61,59,54,54,54,54,54,0,59,59,59,54,54,54,54,54,59,54,54,54,54,54,0,0,0,0,60,61,62,63,0,0,0,0,0,65,65,65,64,64,64,64,58,64,64,65,65,65,65,65,65,65,65,65,65,65,65,65,65,65,65,65,150,150,150,1,150,151,151,151,151,151,150,151,151,151,151,151,151,150,151,151,151,151,151,151,150,151,151,153,0,59,59,0,59,59,59,60,0,0,0,60,0,0,0,60,0,0,0,0,60,61,59,55,55,55,55,55,0,59,59,59,55,55,55,55,55,59,55,55,55,55,55,0,0,0,0,60,61,62,63,0,0,0,0,0,65,65,65,64,64,64,64,58,64,64,65,65,65,65,65,65,65,65,65,65,65,65,65,65,65,65,65,156,156,156,1,156,157,157,157,157,157,156,157,157,157,157,157,157,156,157,157,157,157,157,157,156,157,157,159,0,59,59,0,59,59,59,60,0,0,0,60,0,0,0,60,0,0,0,0,60,61,59,56,56,56,56,56,0,59,59,59,56,56,56,56,56,59,56,56,56,56,56,0,0,0,0,60,61,62,63,0,0,0,0,0,65,65,65,64,64,64,64,58,64,64,65,65,65,65,65,65,65,65,65,65,65,65,65,65,65,65,65,162,162,162,1,162,163,163,163,163,163,162,163,163,163,163,163,163,162,163,163,163,163,163,163,162,163,163,165,0,59,59,0,59,59,59,60,0,0,0,60,0,0,0,60,0,0,0,0,60,61,59,57,57,57,57,57,0,59,59,59,57,57,57,57,57,59,57,57,57,57,57,0,0,0,0,60,61,62,63,0,0,0,0,0,65,65,65,64,64,64,64,58,64,64,169,59,32,32,32,60,0,0,0,60,0,0,0,60,0,0,0,0,60,61,0,0,0,0,0,0,0,0,0,0,0,177,177,0,177,177,0,177,0,0,0,0,177,177,0,0,177,176,176,1,176,182,183,183,183,183,183,183,1,183,183,183,183,183,182,182,182,182,176,182,182,183,183,183,183,183,183,183,183,183,183,183,183,183,183,183,183,183,184,184,184,1,184,185,185,185,185,185,184,185,185,185,185,185,185,184,185,185,185,185,185,185,184,185,185,187,0,177,177,0,177,177,177,178,0,0,0,178,0,0,0,178,0,0,0,0,178,179,177,170,170,170,170,170,0,177,177,177,170,170,170,170,170,177,170,170,170,170,170,0,0,0,0,178,179,180,181,0,0,0,0,0,183,183,183,182,182,182,182,176,182,182,183,183,183,183,183,183,183,183,183,183,183,183,183,183,183,183,183,190,190,190,1,190,191,191,191,191,191,190,191,191,191,191,191,191,190,191,191,191,191,191,191,190,191,191,193,0,177,177,0,177,177,177,178,0,0,0,178,0,0,0,178,0,0,0,0,178,179,177,171,171,171,171,171,0,177,177,177,171,171,171,171,171,177,171,171,171,171,171,0,0,0,0,178,179,180,181,0,0,0,0,0,183,183,183,182,182,182,182,176,182,182,183,183,183,183,183,183,183,183,183,183,183,183,183,183,183,183,183,196,196,196,1,196,197,197,197,197,197,196,197,197,197,197,197,197,196,197,197,197,197,197,197,196,197,197,199,0,177,177,0,177,177,177,178,0,0,0,178,0,0,0,178,0,0,0,0,178,179,177,172,172,172,172,172,0,177,177,177,172,172,172,172,172,177,172,172,172,172,172,0,0,0,0,178,179,180,181,0,0,0,0,0,183,183,183,182,182,182,182,176,182,182,183,183,183,183,183,183,183,183,183,183,183,183,183,183,183,183,183,202,202,202,1,202,203,203,203,203,203,202,203,203,203,203,203,203,202,203,203,203,203,203,203,202,203,203,205,0,177,177,0,177,177,177,178,0,0,0,178,0,0,0,178,0,0,0,0,178,179,177,173,173,173,173,173,0,177,177,177,173,173,173,173,173,177,173,173,173,173,173,0,0,0,0,178,179,180,181,0,0,0,0,0,183,183,183,182,182,182,182,176,182,182,183,183,183,183,183,183,183,183,183,183,183,183,183,183,183,183,183,208,208,208,1,208,209,209,209,209,209,208,209,209,209,209,209,209,208,209,209,209,209,209,209,208,209,209,211,0,177,177,0,177,177,177,178,0,0,0,178,0,0,0,178,0,0,0,0,178,179,177,174,174,174,174,174,0,177,177,177,174,174,174,174,174,177,174,174,174,174,174,0,0,0,0,178,179,180,181,0,0,0,0,0,183,183,183,182,182,182,182,176,182,182,183,183,183,183,183,183,183,183,183,183,183,183,183,183,183,183,183,214,214,214,1,214,215,215,215,215,215,214,215,215,215,215,215,215,214,215,215,215,215,215,215,214,215,215,217,0,177,177,0,177,177,177,178,0,0,0,178,0,0,0,178,0,0,0,0,178,179,177,175,175,175,175,175,0,177,177,177,175,175,175,175,175,177,175,175,175,175,175,0,0,0,0,178,179,180,181,0,0,0,0,0,183,183,183,182,182,182,182,176,182,182,221,177,0,60,61,62,63,0,0,0,0,0,0,0,0,0,0,0,0,0,0,0,0,0,0,231,231,0,231,231,0,231,0,0,0,0,231,231,0,0,231,230,230,1,230,236,237,237,237,237,237,237,1,237,237,237,237,237,236,236,236,236,230,236,236,237,237,237,237,237,237,237,237,237,237,237,237,237,237,237,237,237,238,238,238,1,238,239,239,239,239,239,238,239,239,239,239,239,239,238,239,239,239,239,239,239,238,239,239,241,0,231,231,0,231,231,231,232,0,0,0,232,0,0,0,232,0,0,0,0,232,233,231,222,222,222,222,222,0,231,231,231,222,222,222,222,222,231,222,222,222,222,222,0,0,0,0,232,233,234,235,0,0,0,0,0,237,237,237,236,236,236,236,230,236,236,237,237,237,237,237,237,237,237,237,237,237,237,237,237,237,237,237,244,244,244,1,244,245,245,245,245,245,244,245,245,245,245,245,245,244,245,245,245,245,245,245,244,245,245,247,0,231,231,0,231,231,231,232,0,0,0,232,0,0,0,232,0,0,0,0,232,233,231,223,223,223,223,223,0,231,231,231,223,223,223,223,223,231,223,223,223,223,223,0,0,0,0,232,233,234,235,0,0,0,0,0,237,237,237,236,236,236,236,230,236,236,237,237,237,237,237,237,237,237,237,237,237,237,237,237,237,237,237,250,250,250,1,250,251,251,251,251,251,250,251,251,251,251,251,251,250,251,251,251,251,251,251,250,251,251,253,0,231,231,0,231,231,231,232,0,0,0,232,0,0,0,232,0,0,0,0,232,233,231,224,224,224,224,224,0,231,231,231,224,224,224,224,224,231,224,224,224,224,224,0,0,0,0,232,233,234,235,0,0,0,0,0,237,237,237,236,236,236,236,230,236,236,237,237,237,237,237,237,237,237,237,237,237,237,237,237,237,237,237,256,256,256,1,256,257,257,257,257,257,256,257,257,257,257,257,257,256,257,257,257,257,257,257,256,257,257,259,0,231,231,0,231,231,231,232,0,0,0,232,0,0,0,232,0,0,0,0,232,233,231,225,225,225,225,225,0,231,231,231,225,225,225,225,225,231,225,225,225,225,225,0,0,0,0,232,233,234,235,0,0,0,0,0,237,237,237,236,236,236,236,230,236,236,237,237,237,237,237,237,237,237,237,237,237,237,237,237,237,237,237,262,262,262,1,262,263,263,263,263,263,262,263,263,263,263,263,263,262,263,263,263,263,263,263,262,263,263,265,0,231,231,0,231,231,231,232,0,0,0,232,0,0,0,232,0,0,0,0,232,233,231,226,226,226,226,226,0,231,231,231,226,226,226,226,226,231,226,226,226,226,226,0,0,0,0,232,233,234,235,0,0,0,0,0,237,237,237,236,236,236,236,230,236,236,237,237,237,237,237,237,237,237,237,237,237,237,237,237,237,237,237,268,268,268,1,268,269,269,269,269,269,268,269,269,269,269,269,269,268,269,269,269,269,269,269,268,269,269,271,0,231,231,0,231,231,231,232,0,0,0,232,0,0,0,232,0,0,0,0,232,233,231,227,227,227,227,227,0,231,231,231,227,227,227,227,227,231,227,227,227,227,227,0,0,0,0,232,233,234,235,0,0,0,0,0,237,237,237,236,236,236,236,230,236,236,237,237,237,237,237,237,237,237,237,237,237,237,237,237,237,237,237,274,274,274,1,274,275,275,275,275,275,274,275,275,275,275,275,275,274,275,275,275,275,275,275,274,275,275,277,0,231,231,0,231,231,231,232,0,0,0,232,0,0,0,232,0,0,0,0,232,233,231,228,228,228,228,228,0,231,231,231,228,228,228,228,228,231,228,228,228,228,228,0,0,0,0,232,233,234,235,0,0,0,0,0,237,237,237,236,236,236,236,230,236,236,237,237,237,237,237,237,237,237,237,237,237,237,237,237,237,237,237,280,280,280,1,280,281,281,281,281,281,280,281,281,281,281,281,281,280,281,281,281,281,281,281,280,281,281,283,0,231,231,0,231,231,231,232,0,0,0,232,0,0,0,232,0,0,0,0,232,233,231,229,229,229,229,229,0,231,231,231,229,229,229,229,229,231,229,229,229,229,229,0,0,0,0,232,233,234,235,0,0,0,0,0,237,237,237,236,236,236,236,230,236,236,287,231,0,31,31,32,60,0,0,0,60,0,0,0,60,0,0,0,0,60,61,31,0,60,61,62,63,0,0,0,0,0,31,14,0,0,0,14,0,0,0,14,14,0,13,23,0,0,0,23,0,0,0,23,0,0,0,0,23,24,31,0,23,24,25,26,0,0,0,0,0,32,60,0,0,0,60,0,0,0,60,0,0,0,0,60,61,0,0,0,0,0,0,0,0,292,292,0,292,292,0,292,0,0,0,0,292,292,0,0,292,291,291,1,291,297,298,298,298,298,298,298,1,298,298,298,298,298,297,297,297,297,291,297,297,298,298,298,298,298,298,298,298,298,298,298,298,298,298,298,298,298,299,299,299,1,299,300,300,300,300,300,299,300,300,300,300,300,300,299,300,300,300,300,300,300,299,300,300,302,0,292,292,0,292,292,292,293,0,0,0,293,0,0,0,293,0,0,0,0,293,294,292,288,288,288,288,288,0,292,292,292,288,288,288,288,288,292,288,288,288,288,288,0,0,0,0,293,294,295,296,0,0,0,0,0,298,298,298,297,297,297,297,291,297,297,298,298,298,298,298,298,298,298,298,298,298,298,298,298,298,298,298,305,305,305,1,305,306,306,306,306,306,305,306,306,306,306,306,306,305,306,306,306,306,306,306,305,306,306,308,0,292,292,0,292,292,292,293,0,0,0,293,0,0,0,293,0,0,0,0,293,294,292,289,289,289,289,289,0,292,292,292,289,289,289,289,289,292,289,289,289,289,289,0,0,0,0,293,294,295,296,0,0,0,0,0,298,298,298,297,297,297,297,291,297,297,298,298,298,298,298,298,298,298,298,298,298,298,298,298,298,298,298,311,311,311,1,311,312,312,312,312,312,311,312,312,312,312,312,312,311,312,312,312,312,312,312,311,312,312,314,0,292,292,0,292,292,292,293,0,0,0,293,0,0,0,293,0,0,0,0,293,294,292,290,290,290,290,290,0,292,292,292,290,290,290,290,290,292,290,290,290,290,290,0,0,0,0,293,294,295,296,0,0,0,0,0,298,298,298,297,297,297,297,291,297,297,318,292,0,60,61,62,63,0,0,0,0,0,32,60,0,0,0,60,0,0,0,60,0,0,0,0,60,61,32,0,60,61,62,63,0,0,0,0,0,32,60,0,0,0,60,0,0,0,60,0,0,0,0,60,61,0,60,61,62,63,0,0,0,0,0,32,0,5,5,0,5,5,5,0,25,9,8,14,13,22,5,21,3,60,61,62,63,82,11,10,83,70,71,40,39,32,23,24,25,26,0,2,3,0,0,321,321,321,321,321,321,1,321,321,321,321,322,322,322,322,322,322,322,322,322,322,0,5,5,0,5,5,5,0,19,9,8,14,13,319,5,4,60,61,62,63,178,179,180,181,218,11,10,219,0,4,0,5,5,5,0,18,9,8,14,13,323,5,60,61,62,63,178,179,180,181,200,11,10,201,0,5,6,322,322,322,322,322,322,322,322,322,0,5,5,0,5,5,5,0,20,9,8,14,13,325,5,324,4,60,61,62,63,178,179,180,181,218,11,10,219,1,7,0,5,5,5,0,18,9,8,14,13,326,5,60,61,62,63,178,179,180,181,200,11,10,201,1,8,9,322,322,322,322,322,329]
abbrev s0 : Str := ⟨#[116,97,98,108,101,46,99,111,110,99,97,116]⟩
abbrev s1 : Str := ⟨#[95,108,97,119,95,106,111,105,110,101,100,95,114,105,103,104,116,46,60,108,111,99,97,108,115,62,46]⟩
abbrev s2 : Str := ⟨#[108,97,119,46,60,108,111,99,97,108,115,62,46]⟩
abbrev s3 : Str := ⟨#[110,117,109,98,101,114]⟩
abbrev s4 : Str := ⟨#[107,101,121,115]⟩
abbrev s5 : Str := ⟨#[118,97,108,117,101,115]⟩
abbrev s6 : Str := ⟨#[109,101,116,97]⟩
abbrev s7 : Str := ⟨#[108,105,109,105,116,115]⟩
abbrev s8 : Str := ⟨#[99,104,117,110,107]⟩
abbrev s9 : Str := ⟨#[111,117,116]⟩
abbrev s10 : Str := ⟨#[115,116,101,112,115]⟩
abbrev s11 : Str := ⟨#[109,97,100,101]⟩
abbrev s12 : Str := ⟨#[102,114,97,109,101,115]⟩
abbrev s13 : Str := ⟨#[100,101,101,112]⟩
abbrev s14 : Str := ⟨#[116,101,120,116,115]⟩
abbrev s15 : Str := ⟨#[119,105,100,116,104]⟩
abbrev s16 : Str := ⟨#[114,101,103,105,115,116,101,114,115]⟩
abbrev s17 : Str := ⟨#[117,112,118,97,108,117,101,115]⟩
abbrev s18 : Str := ⟨#[108,111,99,97,108,95,110,97,109,101,115]⟩
abbrev s19 : Str := ⟨#[99,99,97,108,108,115]⟩
abbrev s20 : Str := ⟨#[115,116,97,99,107]⟩
abbrev s21 : Str := ⟨#[102,108,117,115,104]⟩
abbrev s22 : Str := ⟨#[116,101,120,116]⟩
abbrev s23 : Str := ⟨#[110,97,109,101]⟩
abbrev s24 : Str := ⟨#[119,111,114,107]⟩
abbrev s25 : Str := ⟨#[116,111,115,116,114,105,110,103]⟩
abbrev s26 : Str := ⟨#[60,108,97,109,98,100,97,62]⟩
abbrev s27 : Str := ⟨#[95,108,97,119,95,115,104,111,119,110,95,114,105,103,104,116,46,60,108,111,99,97,108,115,62,46,60,108,97,109,98,100,97,62]⟩
abbrev s28 : Str := ⟨#[103,105,118,101,110]⟩
abbrev s29 : Str := ⟨#[108,97,119,95,112,113,48,54,56,54,95,48,49]⟩
abbrev s30 : Str := ⟨#[47,99,108,97,105,109,47,99,117,116,46,112,121]⟩
abbrev s31 : Str := ⟨#[112,114,105,110,116]⟩
abbrev s32 : Str := ⟨#[112,114,105,110,116,95,104,101,114,101]⟩
abbrev s33 : Str := ⟨#[108,105,98,114,97,114,121,46,60,108,111,99,97,108,115,62,46,112,114,105,110,116,95,104,101,114,101]⟩
abbrev s34 : Str := ⟨#[102,111,117,110,100]⟩
abbrev s35 : Str := ⟨#[95,108,97,119,95,115,104,111,119,110,95,114,105,103,104,116,46,60,108,111,99,97,108,115,62,46]⟩
abbrev s36 : Str := ⟨#[95,108,97,119,95,115,111,114,116,95,114,105,103,104,116,46,60,108,111,99,97,108,115,62,46,60,108,97,109,98,100,97,62]⟩
abbrev s37 : Str := ⟨#[116,97,98,108,101,46,115,111,114,116]⟩
abbrev s38 : Str := ⟨#[95,108,97,119,95,115,111,114,116,95,114,105,103,104,116,46,60,108,111,99,97,108,115,62,46]⟩
abbrev s39 : Str := ⟨#[116,97,98,108,101]⟩
abbrev s40 : Str := ⟨#[116,114,97,121]⟩
abbrev b0 : Array UInt8 := #[49]
abbrev b1 : Array UInt8 := #[50]
abbrev b2 : Array UInt8 := #[51]
abbrev b3 : Array UInt8 := #[52]
abbrev b4 : Array UInt8 := #[112,114,105,110,116]
abbrev b5 : Array UInt8 := #[116,121,112,101]
abbrev b6 : Array UInt8 := #[116,111,115,116,114,105,110,103]
abbrev b7 : Array UInt8 := #[116,111,110,117,109,98,101,114]
abbrev b8 : Array UInt8 := #[110,101,120,116]
abbrev b9 : Array UInt8 := #[112,97,105,114,115]
abbrev b10 : Array UInt8 := #[105,112,97,105,114,115]
abbrev b11 : Array UInt8 := #[114,97,119,103,101,116]
abbrev b12 : Array UInt8 := #[114,97,119,115,101,116]
abbrev b13 : Array UInt8 := #[114,97,119,101,113,117,97,108]
abbrev b14 : Array UInt8 := #[115,101,108,101,99,116]
abbrev b15 : Array UInt8 := #[117,110,112,97,99,107]
abbrev b16 : Array UInt8 := #[97,115,115,101,114,116]
abbrev b17 : Array UInt8 := #[101,114,114,111,114]
abbrev b18 : Array UInt8 := #[112,99,97,108,108]
abbrev b19 : Array UInt8 := #[115,101,116,109,101,116,97,116,97,98,108,101]
abbrev b20 : Array UInt8 := #[103,101,116,109,101,116,97,116,97,98,108,101]
abbrev b21 : Array UInt8 := #[116,97,98,108,101]
abbrev b22 : Array UInt8 := #[115,116,114,105,110,103]
abbrev b23 : Array UInt8 := #[109,97,116,104]
abbrev b24 : Array UInt8 := #[95,71]
abbrev b25 : Array UInt8 := #[95,86,69,82,83,73,79,78]
abbrev b26 : Array UInt8 := #[76,117,97,32,53,46,49]
abbrev b27 : Array UInt8 := #[105,110,115,101,114,116]
abbrev b28 : Array UInt8 := #[114,101,109,111,118,101]
abbrev b29 : Array UInt8 := #[99,111,110,99,97,116]
abbrev b30 : Array UInt8 := #[103,101,116,110]
abbrev b31 : Array UInt8 := #[109,97,120,110]
abbrev b32 : Array UInt8 := #[115,111,114,116]
abbrev b33 : Array UInt8 := #[108,97,119]
abbrev b34 : Array UInt8 := #[98,97,100,32,97,114,103,117,109,101,110,116,32,35,50,32,116,111,32,39,99,111,110,99,97,116,39,32,40,115,116,114,105,110,103,32,101,120,112,101,99,116,101,100,44,32,103,111,116,32,98,111,111,108,101,97,110,41]
abbrev b35 : Array UInt8 := #[98,97,100,32,97,114,103,117,109,101,110,116,32,35,50,32,116,111,32,39,99,111,110,99,97,116,39,32,40,115,116,114,105,110,103,32,101,120,112,101,99,116,101,100,44,32,103,111,116,32,116,97,98,108,101,41]
abbrev b36 : Array UInt8 := #[45]
abbrev b37 : Array UInt8 := #[98,97,100,32,97,114,103,117,109,101,110,116,32,35,49,32,116,111,32,39,99,111,110,99,97,116,39,32,40,116,97,98,108,101,32,101,120,112,101,99,116,101,100,44,32,103,111,116,32,110,117,109,98,101,114,41]
abbrev b38 : Array UInt8 := #[98,97,100,32,97,114,103,117,109,101,110,116,32,35,49,32,116,111,32,39,99,111,110,99,97,116,39,32,40,116,97,98,108,101,32,101,120,112,101,99,116,101,100,44,32,103,111,116,32,110,105,108,41]
abbrev b39 : Array UInt8 := #[122]
abbrev b40 : Array UInt8 := #[52,45,122]
abbrev b41 : Array UInt8 := #[52,51,122]
abbrev b42 : Array UInt8 := #[52,122]
abbrev b43 : Array UInt8 := #[95,95,116,111,115,116,114,105,110,103]
abbrev b44 : Array UInt8 := #[116,111,108,100]
abbrev b45 : Array UInt8 := #[116]
abbrev b46 : Array UInt8 := #[117]
abbrev b47 : Array UInt8 := #[120]
abbrev b48 : Array UInt8 := #[95,95,105,110,100,101,120]
abbrev b49 : Array UInt8 := #[120,9,55]
abbrev b50 : Array UInt8 := #[120,9,116]
abbrev b51 : Array UInt8 := #[39,116,111,115,116,114,105,110,103,39,32,109,117,115,116,32,114,101,116,117,114,110,32,97,32,115,116,114,105,110,103,32,116,111,32,39,112,114,105,110,116,39]
abbrev b52 : Array UInt8 := #[120,9,117]
abbrev b53 : Array UInt8 := #[120,9,45,50]
abbrev b54 : Array UInt8 := #[116,117,114,110,101,100]
abbrev b55 : Array UInt8 := #[98,97,100,32,97,114,103,117,109,101,110,116,32,35,50,32,116,111,32,39,115,111,114,116,39,32,40,102,117,110,99,116,105,111,110,32,101,120,112,101,99,116,101,100,44,32,103,111,116,32,110,117,109,98,101,114,41]
abbrev b56 : Array UInt8 := #[102]
abbrev b57 : Array UInt8 := #[98,97,100,32,97,114,103,117,109,101,110,116,32,35,50,32,116,111,32,39,115,111,114,116,39,32,40,102,117,110,99,116,105,111,110,32,101,120,112,101,99,116,101,100,44,32,103,111,116,32,115,116,114,105,110,103,41]
abbrev b58 : Array UInt8 := #[98,97,100,32,97,114,103,117,109,101,110,116,32,35,50,32,116,111,32,39,115,111,114,116,39,32,40,102,117,110,99,116,105,111,110,32,101,120,112,101,99,116,101,100,44,32,103,111,116,32,98,111,111,108,101,97,110,41]
abbrev b59 : Array UInt8 := #[98,97,100,32,97,114,103,117,109,101,110,116,32,35,50,32,116,111,32,39,115,111,114,116,39,32,40,102,117,110,99,116,105,111,110,32,101,120,112,101,99,116,101,100,44,32,103,111,116,32,116,97,98,108,101,41]
abbrev tyL : Value := .type "list"
abbrev tyD : Value := .type "dict"
abbrev aA (x : Vars) (i : Nat) : Nat := x.A i
abbrev vA (x : Vars) (i : Nat) : Value := .ref (x.A i)
abbrev bA (x : Vars) (i : Nat) : Nat := x.B i + 832
abbrev vF (x : Vars) (i : Nat) : Value := .ref (x.B i + 832)
abbrev vR (x : Vars) (i j : Nat) : Value := .ref (x.R i j)
abbrev eX (x : Vars) (i j : Nat) (s : Str) (v : Value) : DictEntry := en (x.H i j) s (x.K i j) v
abbrev vI (x : Vars) (n : Int) (i j : Nat) : Value := .int n (x.V i j)
abbrev vB (x : Vars) (b : Array UInt8) (i j : Nat) : Value := .bytes b (x.V i j)
abbrev iX (c a : Nat) : Obj := { cls := .ref c, dict := some a, data := .plain }
abbrev oLX (x : Vars) (i : Nat) : Obj := { cls := tyD,data := (.dict #[eX x i 0 s15 (.int (64) 210),eX x i 1 s16 (.int (250) 211),eX x i 2 s17 (.int (60) 212),eX x i 3 s18 (.int (200) 213),eX x i 4 s19 (.int (40) 214),eX x i 5 s12 (.int (200) 215),eX x i 6 s20 (.int (2000) 216),eX x i 7 s21 (.int (50) 217),eX x i 8 s10 (.int (1000000000) 218),eX x i 9 s22 (.int (1000000) 219)] (x.N i)) }
abbrev oTX (x : Vars) (i : Nat) (a b c d : Value) : Obj := { cls := tyD, data := (.dict #[eX x i 0 s3 a, eX x i 1 s4 b, eX x i 2 s5 c, eX x i 3 s6 d] (x.N i)) }
def dictE (o : Obj) : Array DictEntry := match o.data with | .dict es _ => es | _ => #[]
def epochOf (o : Obj) : Nat := match o.data with | .dict _ n => n | .seq _ n => n | _ => 0
def valAt (o : Obj) (j : Nat) : Value := match o.data with
  | .dict es _ => (enAt es j).val
  | .seq xs _ => xs.toList.getD j .none
  | .fields xs => xs.toList.getD j .none
  | .cell (some v) => v
  | _ => .none
def slotAt (o : Obj) (j : Nat) : Value := (o.slots.toList.getD j none).getD .none
def atO (o : Obj) (j : Nat) : Value := match Nat.blt j 900 with
  | true => valAt o j
  | false => match Nat.beq j 900 with
    | true => .ref (o.dict.getD 0)
    | false => match Nat.blt j 2000 with
      | true => slotAt o (j - 1000)
      | false => match o.data with
        | .func f => match Nat.beq j 2000 with
          | true => f.code
          | false => match Nat.beq j 2001 with
            | true => f.closureTuple
            | false => match f.closure with
              | (_, a) :: _ => .ref a
              | [] => .none
        | _ => .none
def seqA (o : Obj) : Array Value := match o.data with | .seq xs _ => xs | _ => #[]
def nthO (os : List Obj) (i : Nat) : Obj := os.getD i { cls := .none }
noncomputable def varsOf (args : List Value) (as : List Nat) (os : List Obj) (u : Bool := false) : Vars where
  A := fun i => nth as i
  B := fun i => nth as i - 832
  H := fun i j => (enAt (dictE (nthO os i)) j).hash
  K := fun i j => strTok (enAt (dictE (nthO os i)) j).key
  V := fun i j => tokOf (atO (nthO os i) j)
  R := fun i j => refOf (atO (nthO os i) j)
  I := fun i j => intOf (atO (nthO os i) j)
  N := fun i => epochOf (nthO os i)
  E := fun i => dictE (nthO os i)
  U := fun k => tokOf (args.getD k .none)
  W := fun k => refOf (args.getD k .none)
  Q := fun i => seqA (nthO os i)
  Z := fun i j => atO (nthO os i) j
  u := u
/-! the functions that the calls make -/
noncomputable def lamS (s : Stmt) : Arguments × FuncBody × Scope := match s with
  | .Expr (.Call _ [_, .Call _ [_, _, .Lambda a e sc _] _ _] _ _) _ => (a, .expr e, sc)
  | .Assign _ (.Call _ [_, _, .Lambda a e sc _] _ _) _ => (a, .expr e, sc)
  | .FunctionDef _ a b _ _ _ sc _ _ _ => (a, .stmts b, sc)
  | _ => (default, .stmts [], default)
noncomputable def lamTold (P : Params) : Arguments × FuncBody × Scope := lamS (nthS (bodyOf (o811 P)) 2)
noncomputable def lamTurned (P : Params) : Arguments × FuncBody × Scope := lamS (nthS (bodyOf (o816 P)) 3)
noncomputable def defPrint (P : Params) : Arguments × FuncBody × Scope := lamS (nthS (bodyOf (o783 P)) 0)
/-- so many more -/
noncomputable def plusN (d : Nat) (x : Int) : Int := Nat.rec (motive := fun _ => Int) x (fun _ ih => ih + 1) d
/-- the law's frame, told of (r) or not -/
noncomputable def lfO (r u : Bool) (E : Array DictEntry) (n : Nat) : Obj := { cls := .type "frame", data := .dict E n, slots := match r with | false => #[] | true => #[some (.ref 829), some (.ref 3), none, some (backV u), none, some (.ref 830), some (.ref 0)] }
/-- one frame is left, or none -/
def frA (b : Bool) (t : Nat) : Array Value := match b with | true => #[.ref t] | false => #[]
def orB (b r : Bool) : Bool := match b with | true => true | false => r
abbrev oFunc (l : Arguments × FuncBody × Scope) (name qual : Str) (closure : List (Str × Nat)) (ct code md : Value) : Obj := { cls := .type "function", data := .func { name := name, qualname := qual, params := l.1, body := l.2.1, scope := l.2.2, globals := 3, closure := closure, closureTuple := ct, code := code, pyModule := md, defaults := .none, kwdefaults := .none, doc := .none, annotations := none, builtins := 0 } }
end Mine
end

section
open PySem PySem.W PySem.W.X PyProof.Rows
set_option maxRecDepth 1000000
set_option maxHeartbeats 0
namespace Mine
/-! list(xs) of a list -/
def initN (xs : Array Value) (n : Nat) : Nat := match xs.toList with | [] => n | _ :: _ => n + 1
noncomputable def S_init (S l : Nat) (n0 : Nat) (xs : Array Value) (n : Nat) : Spec := { code := .builtin "list.__init__" ⟨[.ref S, .ref l], []⟩, dep := 850, need := [Nat.blt xs.size 1000000], pre := [(S, oList #[] n0), (l, oList xs n)], touch := [0], na := 0, nt := 0, res := fun _ _ => .ok (.ret .none), postT := fun _ _ => [some (oList xs (initN xs n0))], postN := fun _ _ => [] }
theorem init_at {V : Vn} {S l : Nat} {n0 : Nat} {xs : Array Value} {n : Nat} : (S_init S l n0 xs n).Holds V := by
  refine spec_by fun Γ hc hh A hA hd hin h g d tk os At => ?_
  have hS : h.get? S = some (oList #[] n0) := At.mem _ (List.mem_cons_self ..)
  have hl : h.get? l = some (oList xs n) := At.mem _ (List.mem_cons_of_mem _ (List.mem_cons_self ..))
  have hne : S ≠ l := by
    have := At.apart
    change [S, l].Nodup at this
    simpa using this
  have hs : xs.size < 1000000 := blt_iff (At.need _ (List.mem_cons_self ..))
  have hz : xs.size ≤ sizeLine := by unfold sizeLine; omega
  refine @den_wp2 _ _ _ _ _ _ _ _ _ rfl F.entry_list_init ?_
  show wpAny _ _ (do let old ← Builtin.List.listItems (.ref S); Builtin.List.listUpdate (.ref S) (fun _ => #[]); letGo old.toList.reverse; Builtin.List.listExtendWith (.ref S) (.ref l) .none) _ _ _
  refine wpAny_bind ?_
  unfold Builtin.List.listItems
  refine wpAny_bind (wpAny_seqItems hS rfl (wpAny_pure ?_))
  show wpAny _ _ (updateSeq S (fun _ => #[]) >>= fun _ => letGo (#[] : Array Value).toList.reverse >>= fun _ => Builtin.List.listExtendWith (.ref S) (.ref l) .none) _ _ _
  refine wpAny_bind (wpAny_updateSeq hS rfl ?_ (by unfold sizeLine; simp) (by unfold sizeLine; simp))
  refine wpAny_bind (wpAny_letGo ?_)
  have hb1 : Heap.SameBut S h (h.update S (Obj.mapSeq (fun _ => (#[] : Array Value)))) := Heap.SameBut.update ..
  have hS2 : (h.update S (Obj.mapSeq (fun _ => (#[] : Array Value)))).get? S = some (oList #[] n0) := Heap.get?_update_self _ hS rfl
  have hl2 : (h.update S (Obj.mapSeq (fun _ => (#[] : Array Value)))).get? l = some (oList xs n) := (hb1.2 l (Ne.symm hne)).trans hl
  generalize h.update S (Obj.mapSeq (fun _ => (#[] : Array Value))) = h2 at hb1 hS2 hl2
  unfold Builtin.List.listExtendWith
  refine wpAny_bind (wpAny_typeOf_ref hl2 ?_)
  show wpAny _ _ (if (Builtin.List.listSameRef (.ref S) (.ref l) || Value.type "list" == Value.type "list" || Value.type "list" == Value.type "tuple") = true then _ else _) _ _ _
  rw [if_pos (by simp)]
  refine wpAny_bind ?_
  unfold Builtin.List.listItems
  refine wpAny_bind (wpAny_seqItems hl2 rfl (wpAny_pure ?_))
  refine wpAny_bind ?_
  refine wpAny_bind (wpAny_seqItems hS2 rfl (wpAny_pure ?_))
  show wpAny _ _ (if (!(#[] : Array Value).isEmpty && _) = true then _ else _) _ _ _
  rw [if_neg (by simp)]
  show wpAny _ _ (updateSeq S (fun ys => ys ++ xs) >>= _) _ _ _
  refine wpAny_bind (wpAny_updateSeq hS2 rfl ?_ (by unfold sizeLine; simp) (by rw [Array.empty_append]; unfold sizeLine; omega))
  refine wpAny_bind (wpAny_pure (wpAny_pure ⟨_, rfl, [], [], rfl, ?_, rfl, rfl, rfl⟩))
  have hb2 : Heap.SameBut S h2 (h2.update S (Obj.mapSeq (fun ys => ys ++ xs))) := Heap.SameBut.update ..
  refine ⟨rfl, rfl, fun j hj q hq => ?_, fun j hj => (nomatch hj), fun b o e ht => ?_, fun a ha => (nomatch ha), List.nodup_nil, by rw [hb2.1, hb1.1]; exact Nat.le_refl _⟩
  · cases j with
    | zero =>
      have : oList xs (initN xs n0) = q := Option.some.inj hq
      subst this
      show (h2.update S _).get? S = _
      have e : Obj.mapSeq (fun ys => ys ++ xs) (oList #[] n0) = oList xs (initN xs n0) := by
        obtain ⟨l⟩ := xs
        cases l with
        | nil => rfl
        | cons a l =>
          simp only [Obj.mapSeq, initN]
          simp
      rw [← e]
      exact Heap.get?_update_self _ hS2 (by rw [e]; rfl)
    | succ j => cases hj with | step hj => exact (nomatch hj)
  · have hb : b ≠ S := fun q => ht (by subst q; exact List.mem_cons_self ..)
    exact (hb2.2 b hb).trans ((hb1.2 b hb).trans e)
noncomputable def D_init {V : Vn} : Dp V := ⟨2, fun as os _ => match as with
  | [S, l] => match os with
    | [o, o'] => match seqOf o with
      | some (_, n0) => match seqOf o' with
        | some (xs, n) => some ⟨S_init S l n0 xs n, init_at⟩
        | none => none
      | none => none
    | _ => none
  | _ => none⟩
noncomputable def FH (w : World) (c : Code) : Option (Dp (VV w)) := match c with
  | .builtin id ⟨[.ref _, .ref _], []⟩ => match idIs id 7635756109259221455878126594669 with
    | true => some D_init
    | false => none
  | c => FG w c
end Mine
end

section
open PySem PySem.W PySem.W.X PyProof.Rows
set_option maxRecDepth 1000000
set_option maxHeartbeats 0
namespace Mine
open PySem.W.ZFast (hashOfZ)
/-! two lists of ints or bytes compared; a value sought in a tuple: by the library's own lemmas -/
theorem holds_meets {V : Vn} {S : Spec} {id : String} {args : Args} {B : Builtin} {Sm : PySem.Spec} (hc : S.code = .builtin id args) (pl : plainId id = true) (en : entryFor table id = some B) (m : Meets (B args) Sm)
    (hq : ∀ (A : Around) (h : Heap) (g : Array GenState) (d : Drawn) (t : Nat) (os : OsState), S.At V h → Sm A (fun r s' => ∃ as ts, r = S.res as ts ∧ S.Ends as ts h s'.heap ∧ s'.gens = g ∧ s'.drawn = d ∧ s'.os = os) ⟨h, g, d, t, os⟩) : S.Holds V := by
  intro Γ p h g d t os hcode hh hb _ At
  have hbelow : Γ.Below ⟨none, frameCount Γ.below, none, none, unitsOf Γ.below⟩ := ⟨hh, Nat.le_refl _, fun _ h => (nomatch h), fun _ h => (nomatch h), Nat.le_refl _⟩
  have c := codeAny_builtin (prog := V.prog) (w := V.w) (A := ⟨none, frameCount Γ.below, none, none, unitsOf Γ.below⟩) en (by
    rw [Around.under_plainId pl args]
    exact m V.prog V.w _ _ _ (hq _ h g d t os At))
  obtain ⟨r, ⟨h', g', d', t', os'⟩, hr, as, ts, e1, e2, e3, e4, e5⟩ := c Γ p (hcode.trans hc) hbelow
  cases e3; cases e4; cases e5
  rw [e1] at hr
  exact ⟨as, ts, h', t', hr, e2⟩
/-- equal by value -/
def eqV (v v' : Value) : Bool := match v, v' with
  | .int x _, .int y _ => eqB x y
  | .bytes x _, .bytes y _ => Builtin.Bytes.order x.toList y.toList == .eq
  | _, _ => false
open MeetsSeq (EqGives) in
theorem eqGives_bytes (a b : Array UInt8) (t u : Tok) : EqGives (.bytes a t) (.bytes b u) (a.toList == b.toList) := by
  intro prog w A E s Q h
  unfold eqBool
  show wpAny _ _ (if (Value.bytes a t == Value.bytes b u) = true then _ else _) Q E s
  by_cases hab : (Value.bytes a t == Value.bytes b u) = true
  · rw [if_pos hab]
    have e : a = b := by have := eq_of_beq hab; injection this
    subst e
    exact wpAny_bind (wpAny_rule (wpAny_pure (by simpa using h)))
  · rw [if_neg hab]
    exact wpAny_bind (eq_bytes (wpAny_truthy_bool h))
open MeetsSeq (EqGives) in
theorem order_eq : ∀ a b : List UInt8, (Builtin.Bytes.order a b == .eq) = (a == b)
  | [], [] => rfl
  | [], _ :: _ => rfl
  | _ :: _, [] => rfl
  | x :: xs, y :: ys => by
    rw [List.cons_beq_cons]
    unfold Builtin.Bytes.order
    by_cases h : x < y
    · rw [if_pos h]
      have : (x == y) = false := beq_eq_false_iff_ne.mpr (UInt8.ne_of_lt h)
      rw [this]; rfl
    · rw [if_neg h]
      by_cases h2 : x > y
      · rw [if_pos h2]
        have : (x == y) = false := beq_eq_false_iff_ne.mpr (UInt8.ne_of_lt h2).symm
        rw [this]; rfl
      · rw [if_neg h2, order_eq xs ys]
        have : x = y := UInt8.le_antisymm (UInt8.not_lt.mp h2) (UInt8.not_lt.mp h)
        subst this
        simp
/-- ints with ints, bytes with bytes -/
def kindL : List Value → List Value → Bool
  | v :: l, v' :: l' => kind2 v v' && kindL l l'
  | [], [] => true
  | _, _ => false
def eqL : List Value → List Value → Bool
  | v :: l, v' :: l' => eqV v v' && eqL l l'
  | _, _ => true
open MeetsSeq (EqGives) in
theorem eqGives_of {v v' : Value} (h : kind2 v v' = true) : EqGives v v' (eqV v v') := by
  match v, v', h with
  | .int x t, .int y u, _ =>
    have e : eqV (.int x t) (.int y u) = (x == y) := by
      show eqB x y = _
      unfold eqB
      by_cases q : x = y
      · rw [@decide_eq_true _ (Z.eqZ x y) q, q]; simp
      · rw [@decide_eq_false _ (Z.eqZ x y) q, beq_eq_false_iff_ne.mpr q]
    rw [e]
    exact EqGives.int x y t u
  | .bytes x t, .bytes y u, _ =>
    have e : eqV (.bytes x t) (.bytes y u) = (x.toList == y.toList) := order_eq _ _
    rw [e]
    exact eqGives_bytes x y t u
theorem kindL_len : ∀ {l l' : List Value}, kindL l l' = true → l.length = l'.length
  | [], [], _ => rfl
  | v :: l, v' :: l', h => by
    have h : (kind2 v v' && kindL l l') = true := h
    rw [Bool.and_eq_true] at h
    rw [List.length_cons, List.length_cons, kindL_len h.2]
theorem kindL_at : ∀ {l l' : List Value}, kindL l l' = true → ∀ j (h1 : j < l.length) (h2 : j < l'.length), kind2 l[j] l'[j] = true
  | v :: l, v' :: l', h, j, h1, h2 => by
    have h : (kind2 v v' && kindL l l') = true := h
    rw [Bool.and_eq_true] at h
    cases j with
    | zero => exact h.1
    | succ j => exact kindL_at h.2 j (Nat.lt_of_succ_lt_succ h1) (Nat.lt_of_succ_lt_succ h2)
/-- the j-th are equal -/
def eqAt (l l' : List Value) (j : Nat) : Bool := eqV (l.getD j .none) (l'.getD j .none)
theorem all_eqL : ∀ {l l' : List Value}, l.length = l'.length → (List.range l.length).all (eqAt l l') = eqL l l'
  | [], [], _ => rfl
  | v :: l, v' :: l', h => by
    rw [List.length_cons, List.range_succ_eq_map, List.all_cons, List.all_map]
    show (eqV v v' && (List.range l.length).all (eqAt l l')) = _
    rw [all_eqL (Nat.succ.inj h)]; rfl
noncomputable def S_leq (l l' : Nat) (xs : Array Value) (n : Nat) (ys : Array Value) (m : Nat) (nd : List Bool) (b : Bool) : Spec := { code := .builtin "list.__eq__" ⟨[.ref l, .ref l'], []⟩, dep := 870, need := nd, pre := [(l, oList xs n), (l', oList ys m)], touch := [], na := 0, nt := 0, res := fun _ _ => .ok (.ret (.bool b)), postT := fun _ _ => [], postN := fun _ _ => [] }
theorem leq_at {V : Vn} {l l' : Nat} {xs : Array Value} {n : Nat} {ys : Array Value} {m : Nat} {nd : List Bool} {b : Bool} (h : (∀ b ∈ nd, b = true) → kindL xs.toList ys.toList = true ∧ eqL xs.toList ys.toList = b) : (S_leq l l' xs n ys m nd b).Holds V := by
  have pl : plainId "list.__eq__" = true := by decide +kernel
  by_cases hk : kindL xs.toList ys.toList = true
  · have hs : xs.size = ys.size := kindL_len hk
    refine holds_meets (S := S_leq l l' xs n ys m nd b) rfl pl F.entry_list_eq (MeetsSeq3.list_eq l l' xs ys n m hs (eqAt xs.toList ys.toList) (fun j h1 h2 => ?_)) (fun A h' g d t os At => ?_)
    · have := kindL_at hk j h1 h2
      have e : eqAt xs.toList ys.toList j = eqV xs.toList[j] ys.toList[j] := by
        unfold eqAt
        rw [List.getD_eq_getElem?_getD, List.getD_eq_getElem?_getD, List.getElem?_eq_getElem h1, List.getElem?_eq_getElem h2]; rfl
      rw [e]
      exact eqGives_of this
    · obtain ⟨_, rfl⟩ := h At.need
      refine ⟨At.mem _ (List.mem_cons_self ..), At.mem _ (List.mem_cons_of_mem _ (List.mem_cons_self ..)), [], [], ?_, ends_same rfl rfl rfl rfl rfl, rfl, rfl, rfl⟩
      have := all_eqL (kindL_len hk)
      rw [Array.length_toList] at this
      show Except.ok (Flow.ret (.bool _)) = Except.ok (Flow.ret (.bool _))
      rw [this]
  · intro Γ p h' g d t os hc hh hb hbl At
    exact absurd (h At.need).1 hk
noncomputable def D_leq {V : Vn} : Dp V := ⟨2, fun as os alt => match as with
  | [l, l'] => match os with
    | [o, o'] => match seqOf o with
      | some (xs, n) => match seqOf o' with
        | some (ys, m) => match alt with
          | 0 => some ⟨S_leq l l' xs n ys m [kindL xs.toList ys.toList] (eqL xs.toList ys.toList), leq_at fun q => ⟨q _ (List.mem_cons_self ..), rfl⟩⟩
          | _ => some ⟨S_leq l l' xs n ys m [kindL xs.toList ys.toList && eqL xs.toList ys.toList] true, leq_at fun q => by
              have := q _ (List.mem_cons_self ..)
              rw [Bool.and_eq_true] at this
              exact this⟩
        | none => none
      | none => none
    | _ => none
  | _ => none⟩
/-! in a tuple -/
def kindA (v : Value) (l : List Value) : Bool := l.all fun y => kind2 y v
def inL (v : Value) (l : List Value) : Bool := l.any fun y => eqV y v
noncomputable def S_tin (l : Nat) (xs : Array Value) (v : Value) : Spec := { code := .builtin "tuple.__contains__" ⟨[.ref l, v], []⟩, dep := 870, need := [kindA v xs.toList], pre := [(l, { cls := .type "tuple", data := .seq xs })], touch := [], na := 0, nt := 0, res := fun _ _ => .ok (.ret (.bool (inL v xs.toList))), postT := fun _ _ => [], postN := fun _ _ => [] }
theorem tin_at {V : Vn} {l : Nat} {xs : Array Value} {v : Value} : (S_tin l xs v).Holds V := by
  have pl : plainId "tuple.__contains__" = true := by decide +kernel
  by_cases hk : kindA v xs.toList = true
  · have hk' := List.all_eq_true.mp hk
    refine holds_meets (S := S_tin l xs v) rfl pl F.entry_tuple_contains (MeetsSeq2.tuple_contains l xs 0 v (fun y => eqV y v) (fun y hy => eqGives_of (hk' y (Array.mem_toList_iff.mpr hy)))) (fun A h' g d t os At => ?_)
    refine ⟨At.mem _ (List.mem_cons_self ..), [], [], ?_, ends_same rfl rfl rfl rfl rfl, rfl, rfl, rfl⟩
    show Except.ok (Flow.ret (.bool _)) = Except.ok (Flow.ret (.bool _))
    unfold inL
    rw [Array.any_toList]
  · intro Γ p h' g d t os hc hh hb hbl At
    exact absurd (At.need _ (List.mem_cons_self ..)) hk
noncomputable def D_tin {V : Vn} (v : Value) : Dp V := ⟨1, fun as os _ => match as with
  | [l] => match os with
    | [o] => match seqOf o with
      | some (xs, _) => some ⟨S_tin l xs v, tin_at⟩
      | none => none
    | _ => none
  | _ => none⟩
noncomputable def FK (w : World) (c : Code) : Option (Dp (VV w)) := match c with
  | .builtin id ⟨[.ref a, v], []⟩ => match idIs id 116512336171186236184357485 with
    | true => some D_leq
    | false => match idIs id 8395601325623592240556648632771639105386101 with
      | true => some (D_tin v)
      | false => FH w (.builtin id ⟨[.ref a, v], []⟩)
  | c => FH w c
end Mine
end

section
open PySem PySem.W PySem.W.X PyProof.Rows
set_option maxRecDepth 1000000
set_option maxHeartbeats 0
namespace Mine
open PySem.W.ZFast (hashOfZ)
/-! small numbers' texts -/
noncomputable def S_nt1 (w : World) (x : Vars)  : Spec := { code := .call (.ref 154) ⟨[(.int (1) (x.U 0))],[]⟩,dep := 780,need := [],pre := [],touch := [],na := 0,nt := 1,res := fun as ts => .ok (.ret (.bytes b0 (nth ts 0))),postT := fun as ts => [],postN := fun as ts => [],rawP := [],rawQ := [] }
theorem R_nt1 (w : World) (x : Vars) : (S_nt1 w x).Holds (VV w) :=
  sF (F := FH w) (vok _) 1000 ⟨q0, [], [8]⟩ fun m t => by kernel_rfl
noncomputable def S_nt2 (w : World) (x : Vars)  : Spec := { code := .call (.ref 154) ⟨[(.int (2) (x.U 0))],[]⟩,dep := 780,need := [],pre := [],touch := [],na := 0,nt := 1,res := fun as ts => .ok (.ret (.bytes b1 (nth ts 0))),postT := fun as ts => [],postN := fun as ts => [],rawP := [],rawQ := [] }
theorem R_nt2 (w : World) (x : Vars) : (S_nt2 w x).Holds (VV w) :=
  sF (F := FH w) (vok _) 1000 ⟨cp q0 0 104 ([]), [], [8]⟩ fun m t => by kernel_rfl
noncomputable def S_nt3 (w : World) (x : Vars)  : Spec := { code := .call (.ref 154) ⟨[(.int (3) (x.U 0))],[]⟩,dep := 780,need := [],pre := [],touch := [],na := 0,nt := 1,res := fun as ts => .ok (.ret (.bytes b2 (nth ts 0))),postT := fun as ts => [],postN := fun as ts => [],rawP := [],rawQ := [] }
theorem R_nt3 (w : World) (x : Vars) : (S_nt3 w x).Holds (VV w) :=
  sF (F := FH w) (vok _) 1000 ⟨cp q0 0 104 ([]), [], [8]⟩ fun m t => by kernel_rfl
noncomputable def S_nt4 (w : World) (x : Vars)  : Spec := { code := .call (.ref 154) ⟨[(.int (4) (x.U 0))],[]⟩,dep := 780,need := [],pre := [],touch := [],na := 0,nt := 1,res := fun as ts => .ok (.ret (.bytes b3 (nth ts 0))),postT := fun as ts => [],postN := fun as ts => [],rawP := [],rawQ := [] }
theorem R_nt4 (w : World) (x : Vars) : (S_nt4 w x).Holds (VV w) :=
  sF (F := FH w) (vok _) 1000 ⟨cp q0 0 104 ([]), [], [8]⟩ fun m t => by kernel_rfl
noncomputable def F_nt (w : World) (x : Int) (t : Nat) : Option (Dp (VV w)) := match eqB x 1 with
  | true => some ⟨0, fun as os _ => some ⟨_, R_nt1 w (varsOf [.int x t] as os)⟩⟩
  | false => match eqB x 2 with
    | true => some ⟨0, fun as os _ => some ⟨_, R_nt2 w (varsOf [.int x t] as os)⟩⟩
    | false => match eqB x 3 with
      | true => some ⟨0, fun as os _ => some ⟨_, R_nt3 w (varsOf [.int x t] as os)⟩⟩
      | false => match eqB x 4 with
        | true => some ⟨0, fun as os _ => some ⟨_, R_nt4 w (varsOf [.int x t] as os)⟩⟩
        | false => none
noncomputable def FN (w : World) (c : Code) : Option (Dp (VV w)) := match c with
  | .call (.ref a) ⟨[.int x t], []⟩ => match Nat.beq a 154 with
    | true => F_nt w x t
    | false => FK w c
  | c => FK w c
end Mine
end

section
open PySem PySem.W PySem.W.X PyProof.Rows
set_option maxRecDepth 1000000
set_option maxHeartbeats 0
namespace Mine
open PySem.W.ZFast (hashOfZ)
noncomputable def S_hJa3 (w : World) (x : Vars) (r : Bool) : Spec := { code := .call (.ref 797) ⟨[(vA x 8),(vA x 0),(.str s0 (x.U 2)),(vA x 15)],[]⟩,dep := 600,need := [!ltB 1000000000 ((x.I 9 3) + 1)],bel := some ([envF (o823 w.params) 823 (aA x 16) s1 [],envF (o830 w.params) 830 (aA x 17) s2 []],x.u),pre := [(aA x 0,(iX 234 (aA x 1))),(aA x 1,(oTX x 1 (vI x (-1) 1 0) (vA x 2) (vA x 3) .none)),(aA x 2,{ cls := tyL,data := (.seq #[(vB x b4 2 0),(vB x b5 2 1),(vB x b6 2 2),(vB x b7 2 3),(vB x b8 2 4),(vB x b9 2 5),(vB x b10 2 6),(vB x b11 2 7),(vB x b12 2 8),(vB x b13 2 9),(vB x b14 2 10),(vB x b15 2 11),(vB x b16 2 12),(vB x b17 2 13),(vB x b18 2 14),(vB x b19 2 15),(vB x b20 2 16),(vB x b21 2 17),(vB x b22 2 18),(vB x b23 2 19),(vB x b24 2 20),(vB x b25 2 21)] (x.N 2)) }),(aA x 3,{ cls := tyL,data := (.seq #[(vR x 3 0),(vR x 3 1),(vR x 3 2),(vR x 3 3),(vR x 3 4),(vR x 3 5),(vR x 3 6),(vR x 3 7),(vR x 3 8),(vR x 3 9),(vR x 3 10),(vR x 3 11),(vR x 3 12),(vR x 3 13),(vR x 3 14),(vR x 3 15),(vR x 3 16),(vA x 4),(vR x 3 18),(vR x 3 19),(vA x 0),(vB x b26 3 21)] (x.N 3)) }),(aA x 4,(iX 234 (aA x 5))),(aA x 5,(oTX x 5 (vI x (-30) 5 0) (vA x 6) (vA x 7) .none)),(aA x 6,{ cls := tyL,data := (.seq #[(vB x b27 6 0),(vB x b28 6 1),(vB x b29 6 2),(vB x b30 6 3),(vB x b31 6 4),(vB x b32 6 5)] (x.N 6)) }),(aA x 7,{ cls := tyL,data := (.seq #[(vR x 7 0),(vR x 7 1),(vA x 11),(vR x 7 3),(vR x 7 4),(vR x 7 5)] (x.N 7)) }),(aA x 8,(iX 451 (aA x 9))),(aA x 9,{ cls := tyD,data := (.dict #[eX x 9 0 s7 (vA x 12),eX x 9 1 s8 (vB x b33 9 1),eX x 9 2 s9 (vR x 9 2),eX x 9 3 s10 (.int (x.I 9 3) (x.V 9 3)),eX x 9 4 s11 (vI x (0) 9 4),eX x 9 5 s12 (vA x 10),eX x 9 6 s13 (.int (x.I 9 6) (x.V 9 6)),eX x 9 7 s14 (vR x 9 7)] (x.N 9)) }),(aA x 10,{ cls := tyL,data := (.seq (x.Q 10) (x.N 10)) }),(aA x 11,(iX 255 (aA x 14))),(aA x 12,(iX 53 (aA x 13))),(aA x 13,(oLX x 13)),(aA x 14,{ cls := tyD,data := (.dict #[eX x 14 0 s3 (vI x (-32) 14 0),eX x 14 1 s23 (vB x b29 14 1),eX x 14 2 s24 (.ref 663)] (x.N 14)) }),(aA x 15,{ cls := tyL,data := (.seq #[(x.Z 15 0),(.bool true)] (x.N 15)) }),(aA x 16,{ cls := (.type "frame"),data := (.dict (x.E 16) (x.N 16)) }),(aA x 17,lfO r x.u (x.E 17) (x.N 17))],touch := [9,16,17],na := 1,nt := 5,res := fun as ts => .ok (.ret (.bytes b34 (nth ts 0))),postT := fun as ts => [some ({ cls := tyD,data := (.dict #[eX x 9 0 s7 (vA x 12),eX x 9 1 s8 (vB x b33 9 1),eX x 9 2 s9 (vR x 9 2),eX x 9 3 s10 (.int (x.I 9 3 + 1) (nth ts 1)),eX x 9 4 s11 (vI x (0) 9 4),eX x 9 5 s12 (.ref (nth as 0)),eX x 9 6 s13 (.int (8) (nth ts 2)),eX x 9 7 s14 (vR x 9 7)] (x.N 9)) }),some ({ cls := (.type "frame"),data := (.dict (x.E 16) (x.N 16)),slots := #[(some (.ref 822)),(some (.ref 3)),none,(some (vA x 17)),none,(some (.ref 823)),(some (.ref 0))] }),some (lfO true x.u (x.E 17) (x.N 17))],postN := fun as ts => [{ cls := tyL,data := (.seq (frA true (nth ts 3)) (nth ts 4)) }],rawP := [10,15,16,17],rawQ := [1,2,3] }
theorem R_hJa3f (w : World) (x : Vars) : (S_hJa3 w x false).Holds (VV w) :=
  sF (F := FN w) (vok _) 20000 ⟨q1, [23], [87,30,31,777,29,778,1]⟩ fun m t => by kernel_rfl
theorem R_hJa3t (w : World) (x : Vars) : (S_hJa3 w x true).Holds (VV w) :=
  sF (F := FN w) (vok _) 20000 ⟨cp q1 0 752 (cp q1 753 117 ([])), [23], [87,30,31,777,29,778,1]⟩ fun m t => by kernel_rfl
theorem R_hJa3 (w : World) (x : Vars) (r : Bool) : (S_hJa3 w x r).Holds (VV w) := by
  cases r
  · exact R_hJa3f w x
  · exact R_hJa3t w x
noncomputable def S_hJa4 (w : World) (x : Vars) (r : Bool) : Spec := { code := .call (.ref 797) ⟨[(vA x 8),(vA x 0),(.str s0 (x.U 2)),(vA x 15)],[]⟩,dep := 600,need := [!ltB 1000000000 ((x.I 9 3) + 1)],bel := some ([envF (o823 w.params) 823 (aA x 17) s1 [],envF (o830 w.params) 830 (aA x 18) s2 []],x.u),pre := [(aA x 0,(iX 234 (aA x 1))),(aA x 1,(oTX x 1 (vI x (-1) 1 0) (vA x 2) (vA x 3) .none)),(aA x 2,{ cls := tyL,data := (.seq #[(vB x b4 2 0),(vB x b5 2 1),(vB x b6 2 2),(vB x b7 2 3),(vB x b8 2 4),(vB x b9 2 5),(vB x b10 2 6),(vB x b11 2 7),(vB x b12 2 8),(vB x b13 2 9),(vB x b14 2 10),(vB x b15 2 11),(vB x b16 2 12),(vB x b17 2 13),(vB x b18 2 14),(vB x b19 2 15),(vB x b20 2 16),(vB x b21 2 17),(vB x b22 2 18),(vB x b23 2 19),(vB x b24 2 20),(vB x b25 2 21)] (x.N 2)) }),(aA x 3,{ cls := tyL,data := (.seq #[(vR x 3 0),(vR x 3 1),(vR x 3 2),(vR x 3 3),(vR x 3 4),(vR x 3 5),(vR x 3 6),(vR x 3 7),(vR x 3 8),(vR x 3 9),(vR x 3 10),(vR x 3 11),(vR x 3 12),(vR x 3 13),(vR x 3 14),(vR x 3 15),(vR x 3 16),(vA x 4),(vR x 3 18),(vR x 3 19),(vA x 0),(vB x b26 3 21)] (x.N 3)) }),(aA x 4,(iX 234 (aA x 5))),(aA x 5,(oTX x 5 (vI x (-30) 5 0) (vA x 6) (vA x 7) .none)),(aA x 6,{ cls := tyL,data := (.seq #[(vB x b27 6 0),(vB x b28 6 1),(vB x b29 6 2),(vB x b30 6 3),(vB x b31 6 4),(vB x b32 6 5)] (x.N 6)) }),(aA x 7,{ cls := tyL,data := (.seq #[(vR x 7 0),(vR x 7 1),(vA x 11),(vR x 7 3),(vR x 7 4),(vR x 7 5)] (x.N 7)) }),(aA x 8,(iX 451 (aA x 9))),(aA x 9,{ cls := tyD,data := (.dict #[eX x 9 0 s7 (vA x 12),eX x 9 1 s8 (vB x b33 9 1),eX x 9 2 s9 (vR x 9 2),eX x 9 3 s10 (.int (x.I 9 3) (x.V 9 3)),eX x 9 4 s11 (vI x (0) 9 4),eX x 9 5 s12 (vA x 10),eX x 9 6 s13 (.int (x.I 9 6) (x.V 9 6)),eX x 9 7 s14 (vR x 9 7)] (x.N 9)) }),(aA x 10,{ cls := tyL,data := (.seq (x.Q 10) (x.N 10)) }),(aA x 11,(iX 255 (aA x 14))),(aA x 12,(iX 53 (aA x 13))),(aA x 13,(oLX x 13)),(aA x 14,{ cls := tyD,data := (.dict #[eX x 14 0 s3 (vI x (-32) 14 0),eX x 14 1 s23 (vB x b29 14 1),eX x 14 2 s24 (.ref 663)] (x.N 14)) }),(aA x 15,{ cls := tyL,data := (.seq #[(x.Z 15 0),(vA x 16)] (x.N 15)) }),(aA x 16,{ cls := (.ref 234),dict := (some (x.R 16 900)),data := .plain }),(aA x 17,{ cls := (.type "frame"),data := (.dict (x.E 17) (x.N 17)) }),(aA x 18,lfO r x.u (x.E 18) (x.N 18))],touch := [9,17,18],na := 1,nt := 5,res := fun as ts => .ok (.ret (.bytes b35 (nth ts 0))),postT := fun as ts => [some ({ cls := tyD,data := (.dict #[eX x 9 0 s7 (vA x 12),eX x 9 1 s8 (vB x b33 9 1),eX x 9 2 s9 (vR x 9 2),eX x 9 3 s10 (.int (x.I 9 3 + 1) (nth ts 1)),eX x 9 4 s11 (vI x (0) 9 4),eX x 9 5 s12 (.ref (nth as 0)),eX x 9 6 s13 (.int (8) (nth ts 2)),eX x 9 7 s14 (vR x 9 7)] (x.N 9)) }),some ({ cls := (.type "frame"),data := (.dict (x.E 17) (x.N 17)),slots := #[(some (.ref 822)),(some (.ref 3)),none,(some (vA x 18)),none,(some (.ref 823)),(some (.ref 0))] }),some (lfO true x.u (x.E 18) (x.N 18))],postN := fun as ts => [{ cls := tyL,data := (.seq (frA true (nth ts 3)) (nth ts 4)) }],rawP := [10,15,17,18],rawQ := [1,2,3] }
theorem R_hJa4f (w : World) (x : Vars) : (S_hJa4 w x false).Holds (VV w) :=
  sF (F := FN w) (vok _) 20000 ⟨q2, [24], [88,30,31,777,30,778,1]⟩ fun m t => by kernel_rfl
theorem R_hJa4t (w : World) (x : Vars) : (S_hJa4 w x true).Holds (VV w) :=
  sF (F := FN w) (vok _) 20000 ⟨cp q2 0 786 (cp q2 787 117 ([])), [24], [88,30,31,777,30,778,1]⟩ fun m t => by kernel_rfl
theorem R_hJa4 (w : World) (x : Vars) (r : Bool) : (S_hJa4 w x r).Holds (VV w) := by
  cases r
  · exact R_hJa4f w x
  · exact R_hJa4t w x
noncomputable def S_hJt01 (w : World) (x : Vars) (r : Bool) : Spec := { code := .call (.ref 797) ⟨[(vA x 8),(vA x 0),(.str s0 (x.U 2)),(vA x 15)],[]⟩,dep := 600,need := [!ltB 1000000000 ((x.I 9 3) + 1)],bel := some ([envF (o823 w.params) 823 (aA x 16) s1 [],envF (o830 w.params) 830 (aA x 17) s2 []],x.u),pre := [(aA x 0,(iX 234 (aA x 1))),(aA x 1,(oTX x 1 (vI x (-1) 1 0) (vA x 2) (vA x 3) .none)),(aA x 2,{ cls := tyL,data := (.seq #[(vB x b4 2 0),(vB x b5 2 1),(vB x b6 2 2),(vB x b7 2 3),(vB x b8 2 4),(vB x b9 2 5),(vB x b10 2 6),(vB x b11 2 7),(vB x b12 2 8),(vB x b13 2 9),(vB x b14 2 10),(vB x b15 2 11),(vB x b16 2 12),(vB x b17 2 13),(vB x b18 2 14),(vB x b19 2 15),(vB x b20 2 16),(vB x b21 2 17),(vB x b22 2 18),(vB x b23 2 19),(vB x b24 2 20),(vB x b25 2 21)] (x.N 2)) }),(aA x 3,{ cls := tyL,data := (.seq #[(vR x 3 0),(vR x 3 1),(vR x 3 2),(vR x 3 3),(vR x 3 4),(vR x 3 5),(vR x 3 6),(vR x 3 7),(vR x 3 8),(vR x 3 9),(vR x 3 10),(vR x 3 11),(vR x 3 12),(vR x 3 13),(vR x 3 14),(vR x 3 15),(vR x 3 16),(vA x 4),(vR x 3 18),(vR x 3 19),(vA x 0),(vB x b26 3 21)] (x.N 3)) }),(aA x 4,(iX 234 (aA x 5))),(aA x 5,(oTX x 5 (vI x (-30) 5 0) (vA x 6) (vA x 7) .none)),(aA x 6,{ cls := tyL,data := (.seq #[(vB x b27 6 0),(vB x b28 6 1),(vB x b29 6 2),(vB x b30 6 3),(vB x b31 6 4),(vB x b32 6 5)] (x.N 6)) }),(aA x 7,{ cls := tyL,data := (.seq #[(vR x 7 0),(vR x 7 1),(vA x 11),(vR x 7 3),(vR x 7 4),(vR x 7 5)] (x.N 7)) }),(aA x 8,(iX 451 (aA x 9))),(aA x 9,{ cls := tyD,data := (.dict #[eX x 9 0 s7 (vA x 12),eX x 9 1 s8 (vB x b33 9 1),eX x 9 2 s9 (vR x 9 2),eX x 9 3 s10 (.int (x.I 9 3) (x.V 9 3)),eX x 9 4 s11 (vI x (0) 9 4),eX x 9 5 s12 (vA x 10),eX x 9 6 s13 (.int (x.I 9 6) (x.V 9 6)),eX x 9 7 s14 (vR x 9 7)] (x.N 9)) }),(aA x 10,{ cls := tyL,data := (.seq (x.Q 10) (x.N 10)) }),(aA x 11,(iX 255 (aA x 14))),(aA x 12,(iX 53 (aA x 13))),(aA x 13,(oLX x 13)),(aA x 14,{ cls := tyD,data := (.dict #[eX x 14 0 s3 (vI x (-32) 14 0),eX x 14 1 s23 (vB x b29 14 1),eX x 14 2 s24 (.ref 663)] (x.N 14)) }),(aA x 15,{ cls := tyL,data := (.seq #[(vI x (9) 15 0),(vB x b36 15 1)] (x.N 15)) }),(aA x 16,{ cls := (.type "frame"),data := (.dict (x.E 16) (x.N 16)) }),(aA x 17,lfO r x.u (x.E 17) (x.N 17))],touch := [9,16,17],na := 1,nt := 5,res := fun as ts => .ok (.ret (.bytes b37 (nth ts 0))),postT := fun as ts => [some ({ cls := tyD,data := (.dict #[eX x 9 0 s7 (vA x 12),eX x 9 1 s8 (vB x b33 9 1),eX x 9 2 s9 (vR x 9 2),eX x 9 3 s10 (.int (x.I 9 3 + 1) (nth ts 1)),eX x 9 4 s11 (vI x (0) 9 4),eX x 9 5 s12 (.ref (nth as 0)),eX x 9 6 s13 (.int (8) (nth ts 2)),eX x 9 7 s14 (vR x 9 7)] (x.N 9)) }),some ({ cls := (.type "frame"),data := (.dict (x.E 16) (x.N 16)),slots := #[(some (.ref 822)),(some (.ref 3)),none,(some (vA x 17)),none,(some (.ref 823)),(some (.ref 0))] }),some (lfO true x.u (x.E 17) (x.N 17))],postN := fun as ts => [{ cls := tyL,data := (.seq (frA true (nth ts 3)) (nth ts 4)) }],rawP := [10,16,17],rawQ := [1,2,3] }
theorem R_hJt01f (w : World) (x : Vars) : (S_hJt01 w x false).Holds (VV w) :=
  sF (F := FN w) (vok _) 20000 ⟨cp q1 0 467 (ap [38,0,37,37,37,37,0,36,36,0,36,36,0,0,0,0,39,39,0,39,39,0,39,39,0,39,39,0,39,39,0,16] (cp q1 469 14 (ap [39,39,0,39,39] (cp q1 496 241 (ap [39,39] (cp q1 739 35 (ap [39] (cp q1 775 95 ([]))))))))), [23], [94,30,31,777,29,778,1]⟩ fun m t => by kernel_rfl
theorem R_hJt01t (w : World) (x : Vars) : (S_hJt01 w x true).Holds (VV w) :=
  sF (F := FN w) (vok _) 20000 ⟨cp q1 0 467 (ap [38,0,37,37,37,37,0,36,36,0,36,36,0,0,0,0,39,39,0,39,39,0,39,39,0,39,39,0,39,39,0,16] (cp q1 469 14 (ap [39,39,0,39,39] (cp q1 496 241 (ap [39,39] (cp q1 739 13 (cp q1 753 21 (ap [39] (cp q1 775 95 ([])))))))))), [23], [94,30,31,777,29,778,1]⟩ fun m t => by kernel_rfl
theorem R_hJt01 (w : World) (x : Vars) (r : Bool) : (S_hJt01 w x r).Holds (VV w) := by
  cases r
  · exact R_hJt01f w x
  · exact R_hJt01t w x
noncomputable def S_hJt02 (w : World) (x : Vars) (r : Bool) : Spec := { code := .call (.ref 797) ⟨[(vA x 8),(vA x 0),(.str s0 (x.U 2)),(vA x 15)],[]⟩,dep := 600,need := [!ltB 1000000000 ((x.I 9 3) + 1)],bel := some ([envF (o823 w.params) 823 (aA x 16) s1 [],envF (o830 w.params) 830 (aA x 17) s2 []],x.u),pre := [(aA x 0,(iX 234 (aA x 1))),(aA x 1,(oTX x 1 (vI x (-1) 1 0) (vA x 2) (vA x 3) .none)),(aA x 2,{ cls := tyL,data := (.seq #[(vB x b4 2 0),(vB x b5 2 1),(vB x b6 2 2),(vB x b7 2 3),(vB x b8 2 4),(vB x b9 2 5),(vB x b10 2 6),(vB x b11 2 7),(vB x b12 2 8),(vB x b13 2 9),(vB x b14 2 10),(vB x b15 2 11),(vB x b16 2 12),(vB x b17 2 13),(vB x b18 2 14),(vB x b19 2 15),(vB x b20 2 16),(vB x b21 2 17),(vB x b22 2 18),(vB x b23 2 19),(vB x b24 2 20),(vB x b25 2 21)] (x.N 2)) }),(aA x 3,{ cls := tyL,data := (.seq #[(vR x 3 0),(vR x 3 1),(vR x 3 2),(vR x 3 3),(vR x 3 4),(vR x 3 5),(vR x 3 6),(vR x 3 7),(vR x 3 8),(vR x 3 9),(vR x 3 10),(vR x 3 11),(vR x 3 12),(vR x 3 13),(vR x 3 14),(vR x 3 15),(vR x 3 16),(vA x 4),(vR x 3 18),(vR x 3 19),(vA x 0),(vB x b26 3 21)] (x.N 3)) }),(aA x 4,(iX 234 (aA x 5))),(aA x 5,(oTX x 5 (vI x (-30) 5 0) (vA x 6) (vA x 7) .none)),(aA x 6,{ cls := tyL,data := (.seq #[(vB x b27 6 0),(vB x b28 6 1),(vB x b29 6 2),(vB x b30 6 3),(vB x b31 6 4),(vB x b32 6 5)] (x.N 6)) }),(aA x 7,{ cls := tyL,data := (.seq #[(vR x 7 0),(vR x 7 1),(vA x 11),(vR x 7 3),(vR x 7 4),(vR x 7 5)] (x.N 7)) }),(aA x 8,(iX 451 (aA x 9))),(aA x 9,{ cls := tyD,data := (.dict #[eX x 9 0 s7 (vA x 12),eX x 9 1 s8 (vB x b33 9 1),eX x 9 2 s9 (vR x 9 2),eX x 9 3 s10 (.int (x.I 9 3) (x.V 9 3)),eX x 9 4 s11 (vI x (0) 9 4),eX x 9 5 s12 (vA x 10),eX x 9 6 s13 (.int (x.I 9 6) (x.V 9 6)),eX x 9 7 s14 (vR x 9 7)] (x.N 9)) }),(aA x 10,{ cls := tyL,data := (.seq (x.Q 10) (x.N 10)) }),(aA x 11,(iX 255 (aA x 14))),(aA x 12,(iX 53 (aA x 13))),(aA x 13,(oLX x 13)),(aA x 14,{ cls := tyD,data := (.dict #[eX x 14 0 s3 (vI x (-32) 14 0),eX x 14 1 s23 (vB x b29 14 1),eX x 14 2 s24 (.ref 663)] (x.N 14)) }),(aA x 15,{ cls := tyL,data := (.seq #[.none,(vB x b36 15 1)] (x.N 15)) }),(aA x 16,{ cls := (.type "frame"),data := (.dict (x.E 16) (x.N 16)) }),(aA x 17,lfO r x.u (x.E 17) (x.N 17))],touch := [9,16,17],na := 1,nt := 5,res := fun as ts => .ok (.ret (.bytes b38 (nth ts 0))),postT := fun as ts => [some ({ cls := tyD,data := (.dict #[eX x 9 0 s7 (vA x 12),eX x 9 1 s8 (vB x b33 9 1),eX x 9 2 s9 (vR x 9 2),eX x 9 3 s10 (.int (x.I 9 3 + 1) (nth ts 1)),eX x 9 4 s11 (vI x (0) 9 4),eX x 9 5 s12 (.ref (nth as 0)),eX x 9 6 s13 (.int (8) (nth ts 2)),eX x 9 7 s14 (vR x 9 7)] (x.N 9)) }),some ({ cls := (.type "frame"),data := (.dict (x.E 16) (x.N 16)),slots := #[(some (.ref 822)),(some (.ref 3)),none,(some (vA x 17)),none,(some (.ref 823)),(some (.ref 0))] }),some (lfO true x.u (x.E 17) (x.N 17))],postN := fun as ts => [{ cls := tyL,data := (.seq (frA true (nth ts 3)) (nth ts 4)) }],rawP := [10,16,17],rawQ := [1,2,3] }
theorem R_hJt02f (w : World) (x : Vars) : (S_hJt02 w x false).Holds (VV w) :=
  sF (F := FN w) (vok _) 20000 ⟨cp q1 0 467 (ap [38,0,37,37,37,37,0,36,36,0,36,36,0,0,0,0,39,39,0,39,39,0,39,39,0,39,39,0,39,39,0,16] (cp q1 469 14 (ap [39,39,0,39,39] (cp q1 496 241 (ap [39,39] (cp q1 739 35 (ap [39] (cp q1 775 95 ([]))))))))), [23], [94,30,31,777,29,778,1]⟩ fun m t => by kernel_rfl
theorem R_hJt02t (w : World) (x : Vars) : (S_hJt02 w x true).Holds (VV w) :=
  sF (F := FN w) (vok _) 20000 ⟨cp q1 0 467 (ap [38,0,37,37,37,37,0,36,36,0,36,36,0,0,0,0,39,39,0,39,39,0,39,39,0,39,39,0,39,39,0,16] (cp q1 469 14 (ap [39,39,0,39,39] (cp q1 496 241 (ap [39,39] (cp q1 739 13 (cp q1 753 21 (ap [39] (cp q1 775 95 ([])))))))))), [23], [94,30,31,777,29,778,1]⟩ fun m t => by kernel_rfl
theorem R_hJt02 (w : World) (x : Vars) (r : Bool) : (S_hJt02 w x r).Holds (VV w) := by
  cases r
  · exact R_hJt02f w x
  · exact R_hJt02t w x
end Mine
end

section
open PySem PySem.W PySem.W.X PyProof.Rows
set_option maxRecDepth 1000000
set_option maxHeartbeats 0
namespace Mine
open PySem.W.ZFast (hashOfZ)
noncomputable def S_hJt11 (w : World) (x : Vars) (r : Bool) : Spec := { code := .call (.ref 797) ⟨[(vA x 8),(vA x 0),(.str s0 (x.U 2)),(vA x 15)],[]⟩,dep := 600,need := [!ltB 1000000000 ((x.I 9 3) + 1)],bel := some ([envF (o823 w.params) 823 (aA x 16) s1 [],envF (o830 w.params) 830 (aA x 17) s2 []],x.u),pre := [(aA x 0,(iX 234 (aA x 1))),(aA x 1,(oTX x 1 (vI x (-1) 1 0) (vA x 2) (vA x 3) .none)),(aA x 2,{ cls := tyL,data := (.seq #[(vB x b4 2 0),(vB x b5 2 1),(vB x b6 2 2),(vB x b7 2 3),(vB x b8 2 4),(vB x b9 2 5),(vB x b10 2 6),(vB x b11 2 7),(vB x b12 2 8),(vB x b13 2 9),(vB x b14 2 10),(vB x b15 2 11),(vB x b16 2 12),(vB x b17 2 13),(vB x b18 2 14),(vB x b19 2 15),(vB x b20 2 16),(vB x b21 2 17),(vB x b22 2 18),(vB x b23 2 19),(vB x b24 2 20),(vB x b25 2 21)] (x.N 2)) }),(aA x 3,{ cls := tyL,data := (.seq #[(vR x 3 0),(vR x 3 1),(vR x 3 2),(vR x 3 3),(vR x 3 4),(vR x 3 5),(vR x 3 6),(vR x 3 7),(vR x 3 8),(vR x 3 9),(vR x 3 10),(vR x 3 11),(vR x 3 12),(vR x 3 13),(vR x 3 14),(vR x 3 15),(vR x 3 16),(vA x 4),(vR x 3 18),(vR x 3 19),(vA x 0),(vB x b26 3 21)] (x.N 3)) }),(aA x 4,(iX 234 (aA x 5))),(aA x 5,(oTX x 5 (vI x (-30) 5 0) (vA x 6) (vA x 7) .none)),(aA x 6,{ cls := tyL,data := (.seq #[(vB x b27 6 0),(vB x b28 6 1),(vB x b29 6 2),(vB x b30 6 3),(vB x b31 6 4),(vB x b32 6 5)] (x.N 6)) }),(aA x 7,{ cls := tyL,data := (.seq #[(vR x 7 0),(vR x 7 1),(vA x 11),(vR x 7 3),(vR x 7 4),(vR x 7 5)] (x.N 7)) }),(aA x 8,(iX 451 (aA x 9))),(aA x 9,{ cls := tyD,data := (.dict #[eX x 9 0 s7 (vA x 12),eX x 9 1 s8 (vB x b33 9 1),eX x 9 2 s9 (vR x 9 2),eX x 9 3 s10 (.int (x.I 9 3) (x.V 9 3)),eX x 9 4 s11 (vI x (0) 9 4),eX x 9 5 s12 (vA x 10),eX x 9 6 s13 (.int (x.I 9 6) (x.V 9 6)),eX x 9 7 s14 (vR x 9 7)] (x.N 9)) }),(aA x 10,{ cls := tyL,data := (.seq (x.Q 10) (x.N 10)) }),(aA x 11,(iX 255 (aA x 14))),(aA x 12,(iX 53 (aA x 13))),(aA x 13,(oLX x 13)),(aA x 14,{ cls := tyD,data := (.dict #[eX x 14 0 s3 (vI x (-32) 14 0),eX x 14 1 s23 (vB x b29 14 1),eX x 14 2 s24 (.ref 663)] (x.N 14)) }),(aA x 15,{ cls := tyL,data := (.seq #[(vI x (9) 15 0),(vI x (3) 15 1)] (x.N 15)) }),(aA x 16,{ cls := (.type "frame"),data := (.dict (x.E 16) (x.N 16)) }),(aA x 17,lfO r x.u (x.E 17) (x.N 17))],touch := [9,16,17],na := 1,nt := 5,res := fun as ts => .ok (.ret (.bytes b37 (nth ts 0))),postT := fun as ts => [some ({ cls := tyD,data := (.dict #[eX x 9 0 s7 (vA x 12),eX x 9 1 s8 (vB x b33 9 1),eX x 9 2 s9 (vR x 9 2),eX x 9 3 s10 (.int (x.I 9 3 + 1) (nth ts 1)),eX x 9 4 s11 (vI x (0) 9 4),eX x 9 5 s12 (.ref (nth as 0)),eX x 9 6 s13 (.int (8) (nth ts 2)),eX x 9 7 s14 (vR x 9 7)] (x.N 9)) }),some ({ cls := (.type "frame"),data := (.dict (x.E 16) (x.N 16)),slots := #[(some (.ref 822)),(some (.ref 3)),none,(some (vA x 17)),none,(some (.ref 823)),(some (.ref 0))] }),some (lfO true x.u (x.E 17) (x.N 17))],postN := fun as ts => [{ cls := tyL,data := (.seq (frA true (nth ts 3)) (nth ts 4)) }],rawP := [10,16,17],rawQ := [1,2,3] }
theorem R_hJt11f (w : World) (x : Vars) : (S_hJt11 w x false).Holds (VV w) :=
  sF (F := FN w) (vok _) 20000 ⟨cp q1 0 486 (ap [38,0,0,0,37,37,37,37,0,36,36,0,36,36] (cp q1 496 9 (ap [0,40,40,0,40,40,0,40,40,0,16] (cp q2 488 11 (ap [0,0,40,40,40,0,40,40] (cp q2 529 28 (cp q2 558 88 (ap [24,24,24] (cp q2 649 122 (ap [40,40] (cp q1 739 14 (cp q2 787 21 (ap [40] (cp q2 809 10 (ap [36] (cp q2 820 10 (ap [27] (cp q2 831 10 (ap [26] (cp q2 842 10 (ap [25] (cp q2 853 10 (ap [19] (cp q2 864 15 (ap [19,19,19] (cp q2 882 18 (ap [19,19,19,19] ([])))))))))))))))))))))))))))), [23], [98,30,31,777,29,778,1]⟩ fun m t => by kernel_rfl
theorem R_hJt11t (w : World) (x : Vars) : (S_hJt11 w x true).Holds (VV w) :=
  sF (F := FN w) (vok _) 20000 ⟨cp q1 0 486 (ap [38,0,0,0,37,37,37,37,0,36,36,0,36,36] (cp q1 496 9 (ap [0,40,40,0,40,40,0,40,40,0,16] (cp q2 488 11 (ap [0,0,40,40,40,0,40,40] (cp q2 529 28 (cp q2 558 88 (ap [24,24,24] (cp q2 649 122 (ap [40,40] (cp q1 739 13 (cp q2 787 21 (ap [40] (cp q2 809 10 (ap [36] (cp q2 820 10 (ap [27] (cp q2 831 10 (ap [26] (cp q2 842 10 (ap [25] (cp q2 853 10 (ap [19] (cp q2 864 15 (ap [19,19,19] (cp q2 882 18 (ap [19,19,19,19] ([])))))))))))))))))))))))))))), [23], [98,30,31,777,29,778,1]⟩ fun m t => by kernel_rfl
theorem R_hJt11 (w : World) (x : Vars) (r : Bool) : (S_hJt11 w x r).Holds (VV w) := by
  cases r
  · exact R_hJt11f w x
  · exact R_hJt11t w x
noncomputable def S_hJt12 (w : World) (x : Vars) (r : Bool) : Spec := { code := .call (.ref 797) ⟨[(vA x 8),(vA x 0),(.str s0 (x.U 2)),(vA x 15)],[]⟩,dep := 600,need := [!ltB 1000000000 ((x.I 9 3) + 1)],bel := some ([envF (o823 w.params) 823 (aA x 16) s1 [],envF (o830 w.params) 830 (aA x 17) s2 []],x.u),pre := [(aA x 0,(iX 234 (aA x 1))),(aA x 1,(oTX x 1 (vI x (-1) 1 0) (vA x 2) (vA x 3) .none)),(aA x 2,{ cls := tyL,data := (.seq #[(vB x b4 2 0),(vB x b5 2 1),(vB x b6 2 2),(vB x b7 2 3),(vB x b8 2 4),(vB x b9 2 5),(vB x b10 2 6),(vB x b11 2 7),(vB x b12 2 8),(vB x b13 2 9),(vB x b14 2 10),(vB x b15 2 11),(vB x b16 2 12),(vB x b17 2 13),(vB x b18 2 14),(vB x b19 2 15),(vB x b20 2 16),(vB x b21 2 17),(vB x b22 2 18),(vB x b23 2 19),(vB x b24 2 20),(vB x b25 2 21)] (x.N 2)) }),(aA x 3,{ cls := tyL,data := (.seq #[(vR x 3 0),(vR x 3 1),(vR x 3 2),(vR x 3 3),(vR x 3 4),(vR x 3 5),(vR x 3 6),(vR x 3 7),(vR x 3 8),(vR x 3 9),(vR x 3 10),(vR x 3 11),(vR x 3 12),(vR x 3 13),(vR x 3 14),(vR x 3 15),(vR x 3 16),(vA x 4),(vR x 3 18),(vR x 3 19),(vA x 0),(vB x b26 3 21)] (x.N 3)) }),(aA x 4,(iX 234 (aA x 5))),(aA x 5,(oTX x 5 (vI x (-30) 5 0) (vA x 6) (vA x 7) .none)),(aA x 6,{ cls := tyL,data := (.seq #[(vB x b27 6 0),(vB x b28 6 1),(vB x b29 6 2),(vB x b30 6 3),(vB x b31 6 4),(vB x b32 6 5)] (x.N 6)) }),(aA x 7,{ cls := tyL,data := (.seq #[(vR x 7 0),(vR x 7 1),(vA x 11),(vR x 7 3),(vR x 7 4),(vR x 7 5)] (x.N 7)) }),(aA x 8,(iX 451 (aA x 9))),(aA x 9,{ cls := tyD,data := (.dict #[eX x 9 0 s7 (vA x 12),eX x 9 1 s8 (vB x b33 9 1),eX x 9 2 s9 (vR x 9 2),eX x 9 3 s10 (.int (x.I 9 3) (x.V 9 3)),eX x 9 4 s11 (vI x (0) 9 4),eX x 9 5 s12 (vA x 10),eX x 9 6 s13 (.int (x.I 9 6) (x.V 9 6)),eX x 9 7 s14 (vR x 9 7)] (x.N 9)) }),(aA x 10,{ cls := tyL,data := (.seq (x.Q 10) (x.N 10)) }),(aA x 11,(iX 255 (aA x 14))),(aA x 12,(iX 53 (aA x 13))),(aA x 13,(oLX x 13)),(aA x 14,{ cls := tyD,data := (.dict #[eX x 14 0 s3 (vI x (-32) 14 0),eX x 14 1 s23 (vB x b29 14 1),eX x 14 2 s24 (.ref 663)] (x.N 14)) }),(aA x 15,{ cls := tyL,data := (.seq #[.none,(vI x (3) 15 1)] (x.N 15)) }),(aA x 16,{ cls := (.type "frame"),data := (.dict (x.E 16) (x.N 16)) }),(aA x 17,lfO r x.u (x.E 17) (x.N 17))],touch := [9,16,17],na := 1,nt := 5,res := fun as ts => .ok (.ret (.bytes b38 (nth ts 0))),postT := fun as ts => [some ({ cls := tyD,data := (.dict #[eX x 9 0 s7 (vA x 12),eX x 9 1 s8 (vB x b33 9 1),eX x 9 2 s9 (vR x 9 2),eX x 9 3 s10 (.int (x.I 9 3 + 1) (nth ts 1)),eX x 9 4 s11 (vI x (0) 9 4),eX x 9 5 s12 (.ref (nth as 0)),eX x 9 6 s13 (.int (8) (nth ts 2)),eX x 9 7 s14 (vR x 9 7)] (x.N 9)) }),some ({ cls := (.type "frame"),data := (.dict (x.E 16) (x.N 16)),slots := #[(some (.ref 822)),(some (.ref 3)),none,(some (vA x 17)),none,(some (.ref 823)),(some (.ref 0))] }),some (lfO true x.u (x.E 17) (x.N 17))],postN := fun as ts => [{ cls := tyL,data := (.seq (frA true (nth ts 3)) (nth ts 4)) }],rawP := [10,16,17],rawQ := [1,2,3] }
theorem R_hJt12f (w : World) (x : Vars) : (S_hJt12 w x false).Holds (VV w) :=
  sF (F := FN w) (vok _) 20000 ⟨cp q1 0 486 (ap [38,0,0,0,37,37,37,37,0,36,36,0,36,36] (cp q1 496 9 (ap [0,40,40,0,40,40,0,40,40,0,16] (cp q2 488 11 (ap [0,0,40,40,40,0,40,40] (cp q2 529 28 (cp q2 558 88 (ap [24,24,24] (cp q2 649 122 (ap [40,40] (cp q1 739 14 (cp q2 787 21 (ap [40] (cp q2 809 10 (ap [36] (cp q2 820 10 (ap [27] (cp q2 831 10 (ap [26] (cp q2 842 10 (ap [25] (cp q2 853 10 (ap [19] (cp q2 864 15 (ap [19,19,19] (cp q2 882 18 (ap [19,19,19,19] ([])))))))))))))))))))))))))))), [23], [98,30,31,777,29,778,1]⟩ fun m t => by kernel_rfl
theorem R_hJt12t (w : World) (x : Vars) : (S_hJt12 w x true).Holds (VV w) :=
  sF (F := FN w) (vok _) 20000 ⟨cp q1 0 486 (ap [38,0,0,0,37,37,37,37,0,36,36,0,36,36] (cp q1 496 9 (ap [0,40,40,0,40,40,0,40,40,0,16] (cp q2 488 11 (ap [0,0,40,40,40,0,40,40] (cp q2 529 28 (cp q2 558 88 (ap [24,24,24] (cp q2 649 122 (ap [40,40] (cp q1 739 13 (cp q2 787 21 (ap [40] (cp q2 809 10 (ap [36] (cp q2 820 10 (ap [27] (cp q2 831 10 (ap [26] (cp q2 842 10 (ap [25] (cp q2 853 10 (ap [19] (cp q2 864 15 (ap [19,19,19] (cp q2 882 18 (ap [19,19,19,19] ([])))))))))))))))))))))))))))), [23], [98,30,31,777,29,778,1]⟩ fun m t => by kernel_rfl
theorem R_hJt12 (w : World) (x : Vars) (r : Bool) : (S_hJt12 w x r).Holds (VV w) := by
  cases r
  · exact R_hJt12f w x
  · exact R_hJt12t w x
noncomputable def S_hJt21 (w : World) (x : Vars) (r : Bool) : Spec := { code := .call (.ref 797) ⟨[(vA x 8),(vA x 0),(.str s0 (x.U 2)),(vA x 15)],[]⟩,dep := 600,need := [!ltB 1000000000 ((x.I 9 3) + 1)],bel := some ([envF (o823 w.params) 823 (aA x 16) s1 [],envF (o830 w.params) 830 (aA x 17) s2 []],x.u),pre := [(aA x 0,(iX 234 (aA x 1))),(aA x 1,(oTX x 1 (vI x (-1) 1 0) (vA x 2) (vA x 3) .none)),(aA x 2,{ cls := tyL,data := (.seq #[(vB x b4 2 0),(vB x b5 2 1),(vB x b6 2 2),(vB x b7 2 3),(vB x b8 2 4),(vB x b9 2 5),(vB x b10 2 6),(vB x b11 2 7),(vB x b12 2 8),(vB x b13 2 9),(vB x b14 2 10),(vB x b15 2 11),(vB x b16 2 12),(vB x b17 2 13),(vB x b18 2 14),(vB x b19 2 15),(vB x b20 2 16),(vB x b21 2 17),(vB x b22 2 18),(vB x b23 2 19),(vB x b24 2 20),(vB x b25 2 21)] (x.N 2)) }),(aA x 3,{ cls := tyL,data := (.seq #[(vR x 3 0),(vR x 3 1),(vR x 3 2),(vR x 3 3),(vR x 3 4),(vR x 3 5),(vR x 3 6),(vR x 3 7),(vR x 3 8),(vR x 3 9),(vR x 3 10),(vR x 3 11),(vR x 3 12),(vR x 3 13),(vR x 3 14),(vR x 3 15),(vR x 3 16),(vA x 4),(vR x 3 18),(vR x 3 19),(vA x 0),(vB x b26 3 21)] (x.N 3)) }),(aA x 4,(iX 234 (aA x 5))),(aA x 5,(oTX x 5 (vI x (-30) 5 0) (vA x 6) (vA x 7) .none)),(aA x 6,{ cls := tyL,data := (.seq #[(vB x b27 6 0),(vB x b28 6 1),(vB x b29 6 2),(vB x b30 6 3),(vB x b31 6 4),(vB x b32 6 5)] (x.N 6)) }),(aA x 7,{ cls := tyL,data := (.seq #[(vR x 7 0),(vR x 7 1),(vA x 11),(vR x 7 3),(vR x 7 4),(vR x 7 5)] (x.N 7)) }),(aA x 8,(iX 451 (aA x 9))),(aA x 9,{ cls := tyD,data := (.dict #[eX x 9 0 s7 (vA x 12),eX x 9 1 s8 (vB x b33 9 1),eX x 9 2 s9 (vR x 9 2),eX x 9 3 s10 (.int (x.I 9 3) (x.V 9 3)),eX x 9 4 s11 (vI x (0) 9 4),eX x 9 5 s12 (vA x 10),eX x 9 6 s13 (.int (x.I 9 6) (x.V 9 6)),eX x 9 7 s14 (vR x 9 7)] (x.N 9)) }),(aA x 10,{ cls := tyL,data := (.seq (x.Q 10) (x.N 10)) }),(aA x 11,(iX 255 (aA x 14))),(aA x 12,(iX 53 (aA x 13))),(aA x 13,(oLX x 13)),(aA x 14,{ cls := tyD,data := (.dict #[eX x 14 0 s3 (vI x (-32) 14 0),eX x 14 1 s23 (vB x b29 14 1),eX x 14 2 s24 (.ref 663)] (x.N 14)) }),(aA x 15,{ cls := tyL,data := (.seq #[(vI x (9) 15 0),.none] (x.N 15)) }),(aA x 16,{ cls := (.type "frame"),data := (.dict (x.E 16) (x.N 16)) }),(aA x 17,lfO r x.u (x.E 17) (x.N 17))],touch := [9,16,17],na := 1,nt := 5,res := fun as ts => .ok (.ret (.bytes b37 (nth ts 0))),postT := fun as ts => [some ({ cls := tyD,data := (.dict #[eX x 9 0 s7 (vA x 12),eX x 9 1 s8 (vB x b33 9 1),eX x 9 2 s9 (vR x 9 2),eX x 9 3 s10 (.int (x.I 9 3 + 1) (nth ts 1)),eX x 9 4 s11 (vI x (0) 9 4),eX x 9 5 s12 (.ref (nth as 0)),eX x 9 6 s13 (.int (8) (nth ts 2)),eX x 9 7 s14 (vR x 9 7)] (x.N 9)) }),some ({ cls := (.type "frame"),data := (.dict (x.E 16) (x.N 16)),slots := #[(some (.ref 822)),(some (.ref 3)),none,(some (vA x 17)),none,(some (.ref 823)),(some (.ref 0))] }),some (lfO true x.u (x.E 17) (x.N 17))],postN := fun as ts => [{ cls := tyL,data := (.seq (frA true (nth ts 3)) (nth ts 4)) }],rawP := [10,16,17],rawQ := [1,2,3] }
theorem R_hJt21f (w : World) (x : Vars) : (S_hJt21 w x false).Holds (VV w) :=
  sF (F := FN w) (vok _) 20000 ⟨cp q1 0 433 (cp q1 430 18 (ap [37] (cp q2 423 11 (ap [37,0] (cp q1 483 9 (cp q2 432 9 (ap [38,0,0,38,16,16,16,1,0,0,0,38,38] (cp q1 518 11 (ap [39,39,0,39,39,0,39,39,0,39,39,39] (cp q1 111 16 (ap [39,0,0,39,39] (cp q1 496 9 (ap [0,40] (cp q1 573 19 (ap [41,41,0,41,41,0,0] (cp q1 540 10 (ap [9,0,10,24,24,24,41,0,41,41,41,1,0,0,40] (cp q1 624 26 (ap [43] (cp q2 656 9 (ap [44,44,0,44,44,44,44,43,0,0,0,43,0,43,0,43,0,0,0,43,0,43,0,45,45,45,44,43,0,0,0,43,0,43,0,43,0,0,0,43,0,0,45,45,45,44,43,0,0,0,43,0,43,0,43,0,0,0,43,0,0,45,45,45,43,43,0,43,43,0,43,43,43,40,40,39,39] (cp q1 737 16 (ap [43,43,43,47,47,43,47,43,47,47,39,43,43,43,48,48,43,48,43,48,48,37,43,43,43,49,49,43,49,43,49,49,36,43,43,43,50,50,43,50,43,50,50,27,43,43,43,51,51,43,51,43,51,51,26,43,43,43,52,52,43,52,43,52,52,25,43,43,43,53,53,43,53,43,53,53,19,43,43,43,54,54,0,0,0,0,43,0,43,54,54,0,19,19,19,43,0,0,0,0,0,0,43,0,43,0,0,0,43,43,0,45,0,19,19,19,19] ([])))))))))))))))))))))))), [23], [87,30,31,777,29,778,1]⟩ fun m t => by kernel_rfl
theorem R_hJt21t (w : World) (x : Vars) : (S_hJt21 w x true).Holds (VV w) :=
  sF (F := FN w) (vok _) 20000 ⟨cp q1 0 433 (cp q1 430 18 (ap [37] (cp q2 423 11 (ap [37,0] (cp q1 483 9 (cp q2 432 9 (ap [38,0,0,38,16,16,16,1,0,0,0,38,38] (cp q1 518 11 (ap [39,39,0,39,39,0,39,39,0,39,39,39] (cp q1 111 16 (ap [39,0,0,39,39] (cp q1 496 9 (ap [0,40] (cp q1 573 19 (ap [41,41,0,41,41,0,0] (cp q1 540 10 (ap [9,0,10,24,24,24,41,0,41,41,41,1,0,0,40] (cp q1 624 26 (ap [43] (cp q2 656 9 (ap [44,44,0,44,44,44,44,43,0,0,0,43,0,43,0,43,0,0,0,43,0,43,0,45,45,45,44,43,0,0,0,43,0,43,0,43,0,0,0,43,0,0,45,45,45,44,43,0,0,0,43,0,43,0,43,0,0,0,43,0,0,45,45,45,43,43,0,43,43,0,43,43,43,40,40,39,39] (cp q1 737 15 (ap [43,43,43,47,47,43,47,43,47,47,39,43,43,43,48,48,43,48,43,48,48,37,43,43,43,49,49,43,49,43,49,49,36,43,43,43,50,50,43,50,43,50,50,27,43,43,43,51,51,43,51,43,51,51,26,43,43,43,52,52,43,52,43,52,52,25,43,43,43,53,53,43,53,43,53,53,19,43,43,43,54,54,0,0,0,0,43,0,43,54,54,0,19,19,19,43,0,0,0,0,0,0,43,0,43,0,0,0,43,43,0,45,0,19,19,19,19] ([])))))))))))))))))))))))), [23], [87,30,31,777,29,778,1]⟩ fun m t => by kernel_rfl
theorem R_hJt21 (w : World) (x : Vars) (r : Bool) : (S_hJt21 w x r).Holds (VV w) := by
  cases r
  · exact R_hJt21f w x
  · exact R_hJt21t w x
noncomputable def S_hJt22 (w : World) (x : Vars) (r : Bool) : Spec := { code := .call (.ref 797) ⟨[(vA x 8),(vA x 0),(.str s0 (x.U 2)),(vA x 15)],[]⟩,dep := 600,need := [!ltB 1000000000 ((x.I 9 3) + 1)],bel := some ([envF (o823 w.params) 823 (aA x 16) s1 [],envF (o830 w.params) 830 (aA x 17) s2 []],x.u),pre := [(aA x 0,(iX 234 (aA x 1))),(aA x 1,(oTX x 1 (vI x (-1) 1 0) (vA x 2) (vA x 3) .none)),(aA x 2,{ cls := tyL,data := (.seq #[(vB x b4 2 0),(vB x b5 2 1),(vB x b6 2 2),(vB x b7 2 3),(vB x b8 2 4),(vB x b9 2 5),(vB x b10 2 6),(vB x b11 2 7),(vB x b12 2 8),(vB x b13 2 9),(vB x b14 2 10),(vB x b15 2 11),(vB x b16 2 12),(vB x b17 2 13),(vB x b18 2 14),(vB x b19 2 15),(vB x b20 2 16),(vB x b21 2 17),(vB x b22 2 18),(vB x b23 2 19),(vB x b24 2 20),(vB x b25 2 21)] (x.N 2)) }),(aA x 3,{ cls := tyL,data := (.seq #[(vR x 3 0),(vR x 3 1),(vR x 3 2),(vR x 3 3),(vR x 3 4),(vR x 3 5),(vR x 3 6),(vR x 3 7),(vR x 3 8),(vR x 3 9),(vR x 3 10),(vR x 3 11),(vR x 3 12),(vR x 3 13),(vR x 3 14),(vR x 3 15),(vR x 3 16),(vA x 4),(vR x 3 18),(vR x 3 19),(vA x 0),(vB x b26 3 21)] (x.N 3)) }),(aA x 4,(iX 234 (aA x 5))),(aA x 5,(oTX x 5 (vI x (-30) 5 0) (vA x 6) (vA x 7) .none)),(aA x 6,{ cls := tyL,data := (.seq #[(vB x b27 6 0),(vB x b28 6 1),(vB x b29 6 2),(vB x b30 6 3),(vB x b31 6 4),(vB x b32 6 5)] (x.N 6)) }),(aA x 7,{ cls := tyL,data := (.seq #[(vR x 7 0),(vR x 7 1),(vA x 11),(vR x 7 3),(vR x 7 4),(vR x 7 5)] (x.N 7)) }),(aA x 8,(iX 451 (aA x 9))),(aA x 9,{ cls := tyD,data := (.dict #[eX x 9 0 s7 (vA x 12),eX x 9 1 s8 (vB x b33 9 1),eX x 9 2 s9 (vR x 9 2),eX x 9 3 s10 (.int (x.I 9 3) (x.V 9 3)),eX x 9 4 s11 (vI x (0) 9 4),eX x 9 5 s12 (vA x 10),eX x 9 6 s13 (.int (x.I 9 6) (x.V 9 6)),eX x 9 7 s14 (vR x 9 7)] (x.N 9)) }),(aA x 10,{ cls := tyL,data := (.seq (x.Q 10) (x.N 10)) }),(aA x 11,(iX 255 (aA x 14))),(aA x 12,(iX 53 (aA x 13))),(aA x 13,(oLX x 13)),(aA x 14,{ cls := tyD,data := (.dict #[eX x 14 0 s3 (vI x (-32) 14 0),eX x 14 1 s23 (vB x b29 14 1),eX x 14 2 s24 (.ref 663)] (x.N 14)) }),(aA x 15,{ cls := tyL,data := (.seq #[.none,.none] (x.N 15)) }),(aA x 16,{ cls := (.type "frame"),data := (.dict (x.E 16) (x.N 16)) }),(aA x 17,lfO r x.u (x.E 17) (x.N 17))],touch := [9,16,17],na := 1,nt := 5,res := fun as ts => .ok (.ret (.bytes b38 (nth ts 0))),postT := fun as ts => [some ({ cls := tyD,data := (.dict #[eX x 9 0 s7 (vA x 12),eX x 9 1 s8 (vB x b33 9 1),eX x 9 2 s9 (vR x 9 2),eX x 9 3 s10 (.int (x.I 9 3 + 1) (nth ts 1)),eX x 9 4 s11 (vI x (0) 9 4),eX x 9 5 s12 (.ref (nth as 0)),eX x 9 6 s13 (.int (8) (nth ts 2)),eX x 9 7 s14 (vR x 9 7)] (x.N 9)) }),some ({ cls := (.type "frame"),data := (.dict (x.E 16) (x.N 16)),slots := #[(some (.ref 822)),(some (.ref 3)),none,(some (vA x 17)),none,(some (.ref 823)),(some (.ref 0))] }),some (lfO true x.u (x.E 17) (x.N 17))],postN := fun as ts => [{ cls := tyL,data := (.seq (frA true (nth ts 3)) (nth ts 4)) }],rawP := [10,16,17],rawQ := [1,2,3] }
theorem R_hJt22f (w : World) (x : Vars) : (S_hJt22 w x false).Holds (VV w) :=
  sF (F := FN w) (vok _) 20000 ⟨cp q1 0 433 (cp q1 430 18 (ap [37] (cp q2 423 11 (ap [37,0] (cp q1 483 9 (cp q2 432 9 (ap [38,0,0,38,16,16,16,1,0,0,0,38,38] (cp q1 518 11 (ap [39,39,0,39,39,0,39,39,0,39,39,39] (cp q1 111 16 (ap [39,0,0,39,39] (cp q1 496 9 (ap [0,40] (cp q1 573 19 (ap [41,41,0,41,41,0,0] (cp q1 540 10 (ap [9,0,10,24,24,24,41,0,41,41,41,1,0,0,40] (cp q1 624 26 (ap [43] (cp q2 656 9 (ap [44,44,0,44,44,44,44,43,0,0,0,43,0,43,0,43,0,0,0,43,0,43,0,45,45,45,44,43,0,0,0,43,0,43,0,43,0,0,0,43,0,0,45,45,45,44,43,0,0,0,43,0,43,0,43,0,0,0,43,0,0,45,45,45,43,43,0,43,43,0,43,43,43,40,40,39,39] (cp q1 737 16 (ap [43,43,43,47,47,43,47,43,47,47,39,43,43,43,48,48,43,48,43,48,48,37,43,43,43,49,49,43,49,43,49,49,36,43,43,43,50,50,43,50,43,50,50,27,43,43,43,51,51,43,51,43,51,51,26,43,43,43,52,52,43,52,43,52,52,25,43,43,43,53,53,43,53,43,53,53,19,43,43,43,54,54,0,0,0,0,43,0,43,54,54,0,19,19,19,43,0,0,0,0,0,0,43,0,43,0,0,0,43,43,0,45,0,19,19,19,19] ([])))))))))))))))))))))))), [23], [87,30,31,777,29,778,1]⟩ fun m t => by kernel_rfl
theorem R_hJt22t (w : World) (x : Vars) : (S_hJt22 w x true).Holds (VV w) :=
  sF (F := FN w) (vok _) 20000 ⟨cp q1 0 433 (cp q1 430 18 (ap [37] (cp q2 423 11 (ap [37,0] (cp q1 483 9 (cp q2 432 9 (ap [38,0,0,38,16,16,16,1,0,0,0,38,38] (cp q1 518 11 (ap [39,39,0,39,39,0,39,39,0,39,39,39] (cp q1 111 16 (ap [39,0,0,39,39] (cp q1 496 9 (ap [0,40] (cp q1 573 19 (ap [41,41,0,41,41,0,0] (cp q1 540 10 (ap [9,0,10,24,24,24,41,0,41,41,41,1,0,0,40] (cp q1 624 26 (ap [43] (cp q2 656 9 (ap [44,44,0,44,44,44,44,43,0,0,0,43,0,43,0,43,0,0,0,43,0,43,0,45,45,45,44,43,0,0,0,43,0,43,0,43,0,0,0,43,0,0,45,45,45,44,43,0,0,0,43,0,43,0,43,0,0,0,43,0,0,45,45,45,43,43,0,43,43,0,43,43,43,40,40,39,39] (cp q1 737 15 (ap [43,43,43,47,47,43,47,43,47,47,39,43,43,43,48,48,43,48,43,48,48,37,43,43,43,49,49,43,49,43,49,49,36,43,43,43,50,50,43,50,43,50,50,27,43,43,43,51,51,43,51,43,51,51,26,43,43,43,52,52,43,52,43,52,52,25,43,43,43,53,53,43,53,43,53,53,19,43,43,43,54,54,0,0,0,0,43,0,43,54,54,0,19,19,19,43,0,0,0,0,0,0,43,0,43,0,0,0,43,43,0,45,0,19,19,19,19] ([])))))))))))))))))))))))), [23], [87,30,31,777,29,778,1]⟩ fun m t => by kernel_rfl
theorem R_hJt22 (w : World) (x : Vars) (r : Bool) : (S_hJt22 w x r).Holds (VV w) := by
  cases r
  · exact R_hJt22f w x
  · exact R_hJt22t w x
end Mine
end

section
open PySem PySem.W PySem.W.X PyProof.Rows
set_option maxRecDepth 1000000
set_option maxHeartbeats 0
namespace Mine
open PySem.W.ZFast (hashOfZ)
noncomputable def S_hJo0 (w : World) (x : Vars)  : Spec := { code := .call (.ref 797) ⟨[(vA x 8),(vA x 0),(.str s0 (x.U 2)),(vA x 15)],[]⟩,dep := 600,need := [!ltB 1000000000 ((x.I 9 3) + 1),!ltB 1000000000 (((x.I 9 3) + 1) + 1),!ltB 1000000000 ((((x.I 9 3) + 1) + 1) + 1)],pre := [(aA x 0,(iX 234 (aA x 1))),(aA x 1,(oTX x 1 (vI x (-1) 1 0) (vA x 2) (vA x 3) .none)),(aA x 2,{ cls := tyL,data := (.seq #[(vB x b4 2 0),(vB x b5 2 1),(vB x b6 2 2),(vB x b7 2 3),(vB x b8 2 4),(vB x b9 2 5),(vB x b10 2 6),(vB x b11 2 7),(vB x b12 2 8),(vB x b13 2 9),(vB x b14 2 10),(vB x b15 2 11),(vB x b16 2 12),(vB x b17 2 13),(vB x b18 2 14),(vB x b19 2 15),(vB x b20 2 16),(vB x b21 2 17),(vB x b22 2 18),(vB x b23 2 19),(vB x b24 2 20),(vB x b25 2 21)] (x.N 2)) }),(aA x 3,{ cls := tyL,data := (.seq #[(vR x 3 0),(vR x 3 1),(vR x 3 2),(vR x 3 3),(vR x 3 4),(vR x 3 5),(vR x 3 6),(vR x 3 7),(vR x 3 8),(vR x 3 9),(vR x 3 10),(vR x 3 11),(vR x 3 12),(vR x 3 13),(vR x 3 14),(vR x 3 15),(vR x 3 16),(vA x 4),(vR x 3 18),(vR x 3 19),(vA x 0),(vB x b26 3 21)] (x.N 3)) }),(aA x 4,(iX 234 (aA x 5))),(aA x 5,(oTX x 5 (vI x (-30) 5 0) (vA x 6) (vA x 7) .none)),(aA x 6,{ cls := tyL,data := (.seq #[(vB x b27 6 0),(vB x b28 6 1),(vB x b29 6 2),(vB x b30 6 3),(vB x b31 6 4),(vB x b32 6 5)] (x.N 6)) }),(aA x 7,{ cls := tyL,data := (.seq #[(vR x 7 0),(vR x 7 1),(vA x 11),(vR x 7 3),(vR x 7 4),(vR x 7 5)] (x.N 7)) }),(aA x 8,(iX 451 (aA x 9))),(aA x 9,{ cls := tyD,data := (.dict #[eX x 9 0 s7 (vA x 12),eX x 9 1 s8 (vB x b33 9 1),eX x 9 2 s9 (vR x 9 2),eX x 9 3 s10 (.int (x.I 9 3) (x.V 9 3)),eX x 9 4 s11 (vI x (0) 9 4),eX x 9 5 s12 (vA x 10),eX x 9 6 s13 (.int (x.I 9 6) (x.V 9 6)),eX x 9 7 s14 (vR x 9 7)] (x.N 9)) }),(aA x 10,{ cls := tyL,data := (.seq (x.Q 10) (x.N 10)) }),(aA x 11,(iX 255 (aA x 14))),(aA x 12,(iX 53 (aA x 13))),(aA x 13,(oLX x 13)),(aA x 14,{ cls := tyD,data := (.dict #[eX x 14 0 s3 (vI x (-32) 14 0),eX x 14 1 s23 (vB x b29 14 1),eX x 14 2 s24 (.ref 663)] (x.N 14)) }),(aA x 15,{ cls := tyL,data := (.seq #[(vA x 16),(vB x b36 15 1)] (x.N 15)) }),(aA x 16,(iX 234 (aA x 17))),(aA x 17,(oTX x 17 (vI x (-90) 17 0) (vA x 18) (vA x 19) .none)),(aA x 18,{ cls := tyL,data := (.seq #[(vI x (1) 18 0),(vI x (2) 18 1)] (x.N 18)) }),(aA x 19,{ cls := tyL,data := (.seq #[(vI x (4) 19 0),(vB x b39 19 1)] (x.N 19)) })],touch := [9],na := 2,nt := 5,res := fun as ts => .ok (.ret (.ref (nth as 0))),postT := fun as ts => [some ({ cls := tyD,data := (.dict #[eX x 9 0 s7 (vA x 12),eX x 9 1 s8 (vB x b33 9 1),eX x 9 2 s9 (vR x 9 2),eX x 9 3 s10 (.int (((x.I 9 3 + 1) + 1) + 1) (nth ts 0)),eX x 9 4 s11 (vI x (0) 9 4),eX x 9 5 s12 (.ref (nth as 1)),eX x 9 6 s13 (.int (0) (nth ts 1)),eX x 9 7 s14 (vR x 9 7)] (x.N 9)) })],postN := fun as ts => [{ cls := tyL,data := (.seq #[(.bytes b40 (nth ts 2))] 0) },{ cls := tyL,data := (.seq (frA false (nth ts 3)) (nth ts 4)) }],rawP := [10],rawQ := [2] }
theorem R_hJo0 (w : World) (x : Vars) : (S_hJo0 w x).Holds (VV w) :=
  sF (F := FN w) (vok _) 20000 ⟨q3, [56,25], [129,146,142,0,778,2]⟩ fun m t => by kernel_rfl
noncomputable def S_hJo1 (w : World) (x : Vars)  : Spec := { code := .call (.ref 797) ⟨[(vA x 8),(vA x 0),(.str s0 (x.U 2)),(vA x 15)],[]⟩,dep := 600,need := [!ltB 1000000000 ((x.I 9 3) + 1),!ltB 1000000000 (((x.I 9 3) + 1) + 1),!ltB 1000000000 ((((x.I 9 3) + 1) + 1) + 1)],pre := [(aA x 0,(iX 234 (aA x 1))),(aA x 1,(oTX x 1 (vI x (-1) 1 0) (vA x 2) (vA x 3) .none)),(aA x 2,{ cls := tyL,data := (.seq #[(vB x b4 2 0),(vB x b5 2 1),(vB x b6 2 2),(vB x b7 2 3),(vB x b8 2 4),(vB x b9 2 5),(vB x b10 2 6),(vB x b11 2 7),(vB x b12 2 8),(vB x b13 2 9),(vB x b14 2 10),(vB x b15 2 11),(vB x b16 2 12),(vB x b17 2 13),(vB x b18 2 14),(vB x b19 2 15),(vB x b20 2 16),(vB x b21 2 17),(vB x b22 2 18),(vB x b23 2 19),(vB x b24 2 20),(vB x b25 2 21)] (x.N 2)) }),(aA x 3,{ cls := tyL,data := (.seq #[(vR x 3 0),(vR x 3 1),(vR x 3 2),(vR x 3 3),(vR x 3 4),(vR x 3 5),(vR x 3 6),(vR x 3 7),(vR x 3 8),(vR x 3 9),(vR x 3 10),(vR x 3 11),(vR x 3 12),(vR x 3 13),(vR x 3 14),(vR x 3 15),(vR x 3 16),(vA x 4),(vR x 3 18),(vR x 3 19),(vA x 0),(vB x b26 3 21)] (x.N 3)) }),(aA x 4,(iX 234 (aA x 5))),(aA x 5,(oTX x 5 (vI x (-30) 5 0) (vA x 6) (vA x 7) .none)),(aA x 6,{ cls := tyL,data := (.seq #[(vB x b27 6 0),(vB x b28 6 1),(vB x b29 6 2),(vB x b30 6 3),(vB x b31 6 4),(vB x b32 6 5)] (x.N 6)) }),(aA x 7,{ cls := tyL,data := (.seq #[(vR x 7 0),(vR x 7 1),(vA x 11),(vR x 7 3),(vR x 7 4),(vR x 7 5)] (x.N 7)) }),(aA x 8,(iX 451 (aA x 9))),(aA x 9,{ cls := tyD,data := (.dict #[eX x 9 0 s7 (vA x 12),eX x 9 1 s8 (vB x b33 9 1),eX x 9 2 s9 (vR x 9 2),eX x 9 3 s10 (.int (x.I 9 3) (x.V 9 3)),eX x 9 4 s11 (vI x (0) 9 4),eX x 9 5 s12 (vA x 10),eX x 9 6 s13 (.int (x.I 9 6) (x.V 9 6)),eX x 9 7 s14 (vR x 9 7)] (x.N 9)) }),(aA x 10,{ cls := tyL,data := (.seq (x.Q 10) (x.N 10)) }),(aA x 11,(iX 255 (aA x 14))),(aA x 12,(iX 53 (aA x 13))),(aA x 13,(oLX x 13)),(aA x 14,{ cls := tyD,data := (.dict #[eX x 14 0 s3 (vI x (-32) 14 0),eX x 14 1 s23 (vB x b29 14 1),eX x 14 2 s24 (.ref 663)] (x.N 14)) }),(aA x 15,{ cls := tyL,data := (.seq #[(vA x 16),(vI x (3) 15 1)] (x.N 15)) }),(aA x 16,(iX 234 (aA x 17))),(aA x 17,(oTX x 17 (vI x (-90) 17 0) (vA x 18) (vA x 19) .none)),(aA x 18,{ cls := tyL,data := (.seq #[(vI x (1) 18 0),(vI x (2) 18 1)] (x.N 18)) }),(aA x 19,{ cls := tyL,data := (.seq #[(vI x (4) 19 0),(vB x b39 19 1)] (x.N 19)) })],touch := [9],na := 2,nt := 5,res := fun as ts => .ok (.ret (.ref (nth as 0))),postT := fun as ts => [some ({ cls := tyD,data := (.dict #[eX x 9 0 s7 (vA x 12),eX x 9 1 s8 (vB x b33 9 1),eX x 9 2 s9 (vR x 9 2),eX x 9 3 s10 (.int (((x.I 9 3 + 1) + 1) + 1) (nth ts 0)),eX x 9 4 s11 (vI x (0) 9 4),eX x 9 5 s12 (.ref (nth as 1)),eX x 9 6 s13 (.int (0) (nth ts 1)),eX x 9 7 s14 (vR x 9 7)] (x.N 9)) })],postN := fun as ts => [{ cls := tyL,data := (.seq #[(.bytes b41 (nth ts 2))] 0) },{ cls := tyL,data := (.seq (frA false (nth ts 3)) (nth ts 4)) }],rawP := [10],rawQ := [2] }
theorem R_hJo1 (w : World) (x : Vars) : (S_hJo1 w x).Holds (VV w) :=
  sF (F := FN w) (vok _) 20000 ⟨cp q3 0 467 (ap [0,40] (cp q3 499 10 (ap [0,0,0,41,0,0,0,40,0,0] (cp q3 468 15 (cp q3 524 19 (ap [0,42,42,0,0,42,0,17,42] (cp q3 473 10 (ap [43,43,0,43,43,0,43,43,0,43,43,0,43,43,0,43,43,0,16,0,0,0,43] (cp q3 544 26 (ap [44,44,0,44,44,44] (cp q3 551 15 (ap [44] (cp q3 592 9 (ap [44,0,44,44,44] (cp q3 551 15 (ap [44] (cp q3 592 9 (ap [44,0,44,44,44] (cp q3 551 15 (ap [44] (cp q3 592 9 (ap [44,0,0,0,0,45,45,0,45,45,0,45,45,0,45,45,0,45,45,0,45,45,0,16,0,0,0,45,0,38,38,47,47,47,1,47,48,48,48,48,48,47,48,48,48,48,48,48,47,48,48,48,48,48,48,47,48,48,50] (cp q2 441 10 (ap [51,51,51,51,51,51,1,51,51,51,51,52,52,52,52,52,52,52,52,52,52] (cp q3 751 61 (ap [53,53,0,0,53,0,0,0,53] (cp q3 962 11 (ap [0,0,54,0,0,0,53,0,0,0,38,38,38,38,46,46,46,46,38,46,46,46,46] (cp q3 855 41 (ap [52,52,52,52,52,52,52,52,52] (cp q3 905 61 (ap [55,55,0,0,55,0,0,55,0,38,38,38,38,46,46,46,46,38,46,46,46,46] (cp q3 988 44 (ap [52,52,52,52,52,57,38,38,46,46,46,46,46,46] (cp q3 1046 58 ([])))))))))))))))))))))))))))))))))))), [57,25], [133,150,146,0,778,2]⟩ fun m t => by kernel_rfl
noncomputable def S_hJo2 (w : World) (x : Vars)  : Spec := { code := .call (.ref 797) ⟨[(vA x 8),(vA x 0),(.str s0 (x.U 2)),(vA x 15)],[]⟩,dep := 600,need := [!ltB 1000000000 ((x.I 9 3) + 1),!ltB 1000000000 (((x.I 9 3) + 1) + 1),!ltB 1000000000 ((((x.I 9 3) + 1) + 1) + 1)],pre := [(aA x 0,(iX 234 (aA x 1))),(aA x 1,(oTX x 1 (vI x (-1) 1 0) (vA x 2) (vA x 3) .none)),(aA x 2,{ cls := tyL,data := (.seq #[(vB x b4 2 0),(vB x b5 2 1),(vB x b6 2 2),(vB x b7 2 3),(vB x b8 2 4),(vB x b9 2 5),(vB x b10 2 6),(vB x b11 2 7),(vB x b12 2 8),(vB x b13 2 9),(vB x b14 2 10),(vB x b15 2 11),(vB x b16 2 12),(vB x b17 2 13),(vB x b18 2 14),(vB x b19 2 15),(vB x b20 2 16),(vB x b21 2 17),(vB x b22 2 18),(vB x b23 2 19),(vB x b24 2 20),(vB x b25 2 21)] (x.N 2)) }),(aA x 3,{ cls := tyL,data := (.seq #[(vR x 3 0),(vR x 3 1),(vR x 3 2),(vR x 3 3),(vR x 3 4),(vR x 3 5),(vR x 3 6),(vR x 3 7),(vR x 3 8),(vR x 3 9),(vR x 3 10),(vR x 3 11),(vR x 3 12),(vR x 3 13),(vR x 3 14),(vR x 3 15),(vR x 3 16),(vA x 4),(vR x 3 18),(vR x 3 19),(vA x 0),(vB x b26 3 21)] (x.N 3)) }),(aA x 4,(iX 234 (aA x 5))),(aA x 5,(oTX x 5 (vI x (-30) 5 0) (vA x 6) (vA x 7) .none)),(aA x 6,{ cls := tyL,data := (.seq #[(vB x b27 6 0),(vB x b28 6 1),(vB x b29 6 2),(vB x b30 6 3),(vB x b31 6 4),(vB x b32 6 5)] (x.N 6)) }),(aA x 7,{ cls := tyL,data := (.seq #[(vR x 7 0),(vR x 7 1),(vA x 11),(vR x 7 3),(vR x 7 4),(vR x 7 5)] (x.N 7)) }),(aA x 8,(iX 451 (aA x 9))),(aA x 9,{ cls := tyD,data := (.dict #[eX x 9 0 s7 (vA x 12),eX x 9 1 s8 (vB x b33 9 1),eX x 9 2 s9 (vR x 9 2),eX x 9 3 s10 (.int (x.I 9 3) (x.V 9 3)),eX x 9 4 s11 (vI x (0) 9 4),eX x 9 5 s12 (vA x 10),eX x 9 6 s13 (.int (x.I 9 6) (x.V 9 6)),eX x 9 7 s14 (vR x 9 7)] (x.N 9)) }),(aA x 10,{ cls := tyL,data := (.seq (x.Q 10) (x.N 10)) }),(aA x 11,(iX 255 (aA x 14))),(aA x 12,(iX 53 (aA x 13))),(aA x 13,(oLX x 13)),(aA x 14,{ cls := tyD,data := (.dict #[eX x 14 0 s3 (vI x (-32) 14 0),eX x 14 1 s23 (vB x b29 14 1),eX x 14 2 s24 (.ref 663)] (x.N 14)) }),(aA x 15,{ cls := tyL,data := (.seq #[(vA x 16),.none] (x.N 15)) }),(aA x 16,(iX 234 (aA x 17))),(aA x 17,(oTX x 17 (vI x (-90) 17 0) (vA x 18) (vA x 19) .none)),(aA x 18,{ cls := tyL,data := (.seq #[(vI x (1) 18 0),(vI x (2) 18 1)] (x.N 18)) }),(aA x 19,{ cls := tyL,data := (.seq #[(vI x (4) 19 0),(vB x b39 19 1)] (x.N 19)) })],touch := [9],na := 2,nt := 5,res := fun as ts => .ok (.ret (.ref (nth as 0))),postT := fun as ts => [some ({ cls := tyD,data := (.dict #[eX x 9 0 s7 (vA x 12),eX x 9 1 s8 (vB x b33 9 1),eX x 9 2 s9 (vR x 9 2),eX x 9 3 s10 (.int (((x.I 9 3 + 1) + 1) + 1) (nth ts 0)),eX x 9 4 s11 (vI x (0) 9 4),eX x 9 5 s12 (.ref (nth as 1)),eX x 9 6 s13 (.int (0) (nth ts 1)),eX x 9 7 s14 (vR x 9 7)] (x.N 9)) })],postN := fun as ts => [{ cls := tyL,data := (.seq #[(.bytes b42 (nth ts 2))] 0) },{ cls := tyL,data := (.seq (frA false (nth ts 3)) (nth ts 4)) }],rawP := [10],rawQ := [2] }
theorem R_hJo2 (w : World) (x : Vars) : (S_hJo2 w x).Holds (VV w) :=
  sF (F := FN w) (vok _) 20000 ⟨cp q3 0 433 (cp q3 430 18 (ap [39,39,0,16] (cp q1 469 10 (ap [17] (cp q3 472 11 (ap [40,40,0,40,40,0,40,40,0,40,40,0,40,40,0,40,40,0,16,0,0,0,40] (cp q3 544 26 (ap [41,41,0,41,41,41] (cp q3 551 15 (ap [41] (cp q3 592 9 (ap [41,0,41,41,41] (cp q3 551 15 (ap [41] (cp q3 592 9 (ap [41,0,41,41,41] (cp q3 551 15 (ap [41] (cp q3 592 9 (cp q1 561 12 (cp q3 528 19 (ap [44,44,44,1,44,45,45,45,45,45,44,45,45,45,45,45,45,44,45,45,45,45,45,45,44,45,45,47] (cp q2 441 10 (ap [48,48,48,48,48,48,1,48,48,48,48,49,49,49,49,49,49,49,49,49,49] (cp q3 751 61 (ap [50,50,0,0,50,0,0,0,50,0,0,0,0,51,51,0,0,51,0,0,0,0,51,0,0,0,50,0,0,0,38,38,38,38,43,43,43,43,38,43,43,43,43] (cp q3 855 41 (ap [49,49,49,49,49,49,49,49,49] (cp q3 905 61 (ap [52,52,0,0,52,0,0,52,0,38,38,38,38,43,43,43,43,38,43,43,43,43] (cp q3 988 44 (ap [49,49,49,49,49,54,38,38,43,43,43,43,43,43] (cp q3 1046 58 ([])))))))))))))))))))))))))))))))))), [54,25], [122,139,135,0,778,2]⟩ fun m t => by kernel_rfl
end Mine
end

section
open PySem PySem.W PySem.W.X PyProof.Rows
set_option maxRecDepth 1000000
set_option maxHeartbeats 0
namespace Mine
open PySem.W.ZFast (hashOfZ)
/-! the joined part, case by case -/
def errJ (a b : Nat) : Bool := match a with | 0 => !(Nat.beq b 0) | 1 => !(Nat.beq b 0) | 2 => !(Nat.beq b 0) | _ => true
def tkJ (a b : Nat) : Nat := match errJ a b with | true => 1 | false => 3
def dpJ (a b : Nat) : Int := match errJ a b with | true => 8 | false => 0
/-- heard by a contract, all else as ever -/
noncomputable def FJ (w : World) (D : List Value → Dp (VV w)) (c : Code) : Option (Dp (VV w)) := match c with
  | .call (.ref a) ⟨[v1, v2, v3, v4], []⟩ => match Nat.beq a 797 with
    | true => some (D [v1, v2, v3, v4])
    | false => FN w c
  | c => FN w c
noncomputable def S_joined (w : World) (x : Vars) (r c : Bool) (a b : Nat) : Spec := { code := .call (.ref 823) ⟨[(vA x 0),(vA x 2),(vA x 6)],[]⟩,dep := 400,need := [drawOk (x.Q 1) (x.I 0 1),eqB (drawV (x.Q 1) (x.I 0 1) 4) (Int.ofNat a),drawOk (x.Q 1) (x.I 0 1 + 1),eqB (drawV (x.Q 1) (x.I 0 1 + 1) 2) (Int.ofNat b),!ltB 1000000000 ((x.I 3 3) + 1),!ltB 1000000000 (((x.I 3 3) + 1) + 1),!ltB 1000000000 ((((x.I 3 3) + 1) + 1) + 1)],bel := some ([envF (o830 w.params) 830 (aA x 5) s2 []],x.u),pre := [(aA x 0,{ cls := tyL,data := (.seq #[(vA x 1),(.int (x.I 0 1) (x.V 0 1))] (x.N 0)) }),(aA x 1,{ cls := tyL,data := (.seq (x.Q 1) (x.N 1)) }),(aA x 2,(iX 451 (aA x 3))),(aA x 3,{ cls := tyD,data := (.dict #[eX x 3 0 s7 (vA x 15),eX x 3 1 s8 (vB x b33 3 1),eX x 3 2 s9 (vR x 3 2),eX x 3 3 s10 (.int (x.I 3 3) (x.V 3 3)),eX x 3 4 s11 (vI x (0) 3 4),eX x 3 5 s12 (vA x 4),eX x 3 6 s13 (.int (x.I 3 6) (x.V 3 6)),eX x 3 7 s14 (vR x 3 7)] (x.N 3)) }),(aA x 4,{ cls := tyL,data := (.seq (x.Q 4) (x.N 4)) }),(aA x 5,lfO r x.u (x.E 5) (x.N 5)),(aA x 6,(iX 234 (aA x 7))),(aA x 7,(oTX x 7 (vI x (-1) 7 0) (vA x 8) (vA x 9) .none)),(aA x 8,{ cls := tyL,data := (.seq #[(vB x b4 8 0),(vB x b5 8 1),(vB x b6 8 2),(vB x b7 8 3),(vB x b8 8 4),(vB x b9 8 5),(vB x b10 8 6),(vB x b11 8 7),(vB x b12 8 8),(vB x b13 8 9),(vB x b14 8 10),(vB x b15 8 11),(vB x b16 8 12),(vB x b17 8 13),(vB x b18 8 14),(vB x b19 8 15),(vB x b20 8 16),(vB x b21 8 17),(vB x b22 8 18),(vB x b23 8 19),(vB x b24 8 20),(vB x b25 8 21)] (x.N 8)) }),(aA x 9,{ cls := tyL,data := (.seq #[(vR x 9 0),(vR x 9 1),(vR x 9 2),(vR x 9 3),(vR x 9 4),(vR x 9 5),(vR x 9 6),(vR x 9 7),(vR x 9 8),(vR x 9 9),(vR x 9 10),(vR x 9 11),(vR x 9 12),(vR x 9 13),(vR x 9 14),(vR x 9 15),(vR x 9 16),(vA x 10),(vR x 9 18),(vR x 9 19),(vA x 6),(vB x b26 9 21)] (x.N 9)) }),(aA x 10,(iX 234 (aA x 11))),(aA x 11,(oTX x 11 (vI x (-30) 11 0) (vA x 12) (vA x 13) .none)),(aA x 12,{ cls := tyL,data := (.seq #[(vB x b27 12 0),(vB x b28 12 1),(vB x b29 12 2),(vB x b30 12 3),(vB x b31 12 4),(vB x b32 12 5)] (x.N 12)) }),(aA x 13,{ cls := tyL,data := (.seq #[(vR x 13 0),(vR x 13 1),(vA x 14),(vR x 13 3),(vR x 13 4),(vR x 13 5)] (x.N 13)) }),(aA x 14,(iX 255 (aA x 17))),(aA x 15,(iX 53 (aA x 16))),(aA x 16,(oLX x 16)),(aA x 17,{ cls := tyD,data := (.dict #[eX x 17 0 s3 (vI x (-32) 17 0),eX x 17 1 s23 (vB x b29 17 1),eX x 17 2 s24 (.ref 663)] (x.N 17)) })],touch := [0,3,5],na := 1,nt := 5,res := fun as ts => .ok (.ret (.bool true)),postT := fun as ts => [some ({ cls := tyL,data := (.seq #[(vA x 1),(.int ((x.I 0 1 + 1) + 1) (nth ts 0))] (x.N 0)) }),some ({ cls := tyD,data := (.dict #[eX x 3 0 s7 (vA x 15),eX x 3 1 s8 (vB x b33 3 1),eX x 3 2 s9 (vR x 3 2),eX x 3 3 s10 (.int (plusN (tkJ a b) (x.I 3 3)) (nth ts 1)),eX x 3 4 s11 (vI x (0) 3 4),eX x 3 5 s12 (.ref (nth as 0)),eX x 3 6 s13 (.int (dpJ a b) (nth ts 2)),eX x 3 7 s14 (vR x 3 7)] (x.N 3)) }),some (lfO c x.u (x.E 5) (x.N 5))],postN := fun as ts => [{ cls := tyL,data := (.seq (frA (errJ a b) (nth ts 3)) (nth ts 4)) }],rawP := [1,4,5],rawQ := [2,3] }
theorem R_joined00 (w : World) (x : Vars) (r : Bool) : (S_joined w x r (orB (errJ 0 0) r) 0 0).Holds (VV w) :=
  sF (F := FJ w fun args => ⟨1000, fun as os _ => some ⟨_, R_hJo0 w (varsOf args as os x.u)⟩⟩) (vok _) 20000 ⟨q4, [41], [39,43,44,46,47]⟩ fun m t => by kernel_rfl
theorem R_joined01 (w : World) (x : Vars) (r : Bool) : (S_joined w x r (orB (errJ 0 1) r) 0 1).Holds (VV w) :=
  sF (F := FJ w fun args => ⟨1000, fun as os _ => some ⟨_, R_hJt01 w (varsOf args as os x.u) r⟩⟩) (vok _) 20000 ⟨cp q4 0 138 (ap [2,3,4,36,36,36,36,36,34,34,34,1,34,37,37,37,37,37,34,37,37,37,37,37,37,34,37,37,37,37,37,37,34] (cp q4 171 15 (ap [18] (cp q4 187 16 (ap [19,6,0,5,0,19,19,19,1,19,1,19,0,19] (cp q2 559 13 (ap [0,42,1,42,42,1] ([])))))))), [40], [39,44,45,46,47]⟩ fun m t => by kernel_rfl
theorem R_joined02 (w : World) (x : Vars) (r : Bool) : (S_joined w x r (orB (errJ 0 2) r) 0 2).Holds (VV w) :=
  sF (F := FJ w fun args => ⟨1000, fun as os _ => some ⟨_, R_hJt02 w (varsOf args as os x.u) r⟩⟩) (vok _) 20000 ⟨cp q4 0 138 (ap [3,3,4,36,36,36,36,36,35,35,35,1,35,37,37,37,37,37,35,37,37,37,37,37,37,35,37,37,37,37,37,37,35] (cp q4 171 15 (ap [18] (cp q4 187 16 (ap [19,6,0,5,0,19,19,19,1,19,1,19,0,19] (cp q2 559 13 (ap [0,42,1,42,42,1] ([])))))))), [40], [39,44,45,46,47]⟩ fun m t => by kernel_rfl
theorem R_joined10 (w : World) (x : Vars) (r : Bool) : (S_joined w x r (orB (errJ 1 0) r) 1 0).Holds (VV w) :=
  sF (F := FJ w fun args => ⟨1000, fun as os _ => some ⟨_, R_hJo1 w (varsOf args as os x.u)⟩⟩) (vok _) 20000 ⟨cp q4 0 80 (ap [2,1,2,29,29,29,29,29,25,25,25,1,25,30,30,30,30,30,25,30,30,30,30,30,30,25,30,30,30,30,30,30,25,30,30,30,30,30,30,25] (cp q4 120 109 ([]))), [41], [39,43,44,46,47]⟩ fun m t => by kernel_rfl
theorem R_joined11 (w : World) (x : Vars) (r : Bool) : (S_joined w x r (orB (errJ 1 1) r) 1 1).Holds (VV w) :=
  sF (F := FJ w fun args => ⟨1000, fun as os _ => some ⟨_, R_hJt11 w (varsOf args as os x.u) r⟩⟩) (vok _) 20000 ⟨q5, [40], [39,44,45,46,47]⟩ fun m t => by kernel_rfl
theorem R_joined12 (w : World) (x : Vars) (r : Bool) : (S_joined w x r (orB (errJ 1 2) r) 1 2).Holds (VV w) :=
  sF (F := FJ w fun args => ⟨1000, fun as os _ => some ⟨_, R_hJt12 w (varsOf args as os x.u) r⟩⟩) (vok _) 20000 ⟨cp q5 0 138 (ap [3,3,4,36,36,36,36,36,35,35,35,1,35,37,37,37,37,37,35,37,37,37,37,37,37,35,37,37,37,37,37,37,35] (cp q5 171 65 ([]))), [40], [39,44,45,46,47]⟩ fun m t => by kernel_rfl
theorem R_joined20 (w : World) (x : Vars) (r : Bool) : (S_joined w x r (orB (errJ 2 0) r) 2 0).Holds (VV w) :=
  sF (F := FJ w fun args => ⟨1000, fun as os _ => some ⟨_, R_hJo2 w (varsOf args as os x.u)⟩⟩) (vok _) 20000 ⟨cp q4 0 80 (ap [3,1,2,29,29,29,29,29,26,26,26,1,26,30,30,30,30,30,26,30,30,30,30,30,30,26,30,30,30,30,30,30,26,30,30,30,30,30,30,26] (cp q4 120 109 ([]))), [41], [39,43,44,46,47]⟩ fun m t => by kernel_rfl
theorem R_joined21 (w : World) (x : Vars) (r : Bool) : (S_joined w x r (orB (errJ 2 1) r) 2 1).Holds (VV w) :=
  sF (F := FJ w fun args => ⟨1000, fun as os _ => some ⟨_, R_hJt21 w (varsOf args as os x.u) r⟩⟩) (vok _) 20000 ⟨cp q4 0 80 (ap [3,1,2,29,29,29,29,29,26,26,26,1,26,30,30,30,30,30,26,30,30,30,30,30,30,26,30,30,30,30,30,30,26,30,30,30,30,30,30,26] (cp q5 120 116 ([]))), [40], [39,44,45,46,47]⟩ fun m t => by kernel_rfl
theorem R_joined22 (w : World) (x : Vars) (r : Bool) : (S_joined w x r (orB (errJ 2 2) r) 2 2).Holds (VV w) :=
  sF (F := FJ w fun args => ⟨1000, fun as os _ => some ⟨_, R_hJt22 w (varsOf args as os x.u) r⟩⟩) (vok _) 20000 ⟨cp q4 0 80 (ap [3,1,2,29,29,29,29,29,26,26,26,1,26,30,30,30,30,30,26,30,30,30,30,30,30,26,30,30,30,30,30,30,26,30,30,30,30,30,30,26] (cp q4 120 18 (ap [3,3,4,36,36,36,36,36,35,35,35,1,35,37,37,37,37,37,35,37,37,37,37,37,37,35,37,37,37,37,37,37,35] (cp q5 171 65 ([]))))), [40], [39,44,45,46,47]⟩ fun m t => by kernel_rfl
theorem R_joined30 (w : World) (x : Vars) (r : Bool) : (S_joined w x r (orB (errJ 3 0) r) 3 0).Holds (VV w) :=
  sF (F := FJ w fun args => ⟨1000, fun as os _ => some ⟨_, R_hJa3 w (varsOf args as os x.u) r⟩⟩) (vok _) 20000 ⟨cp q4 0 80 (ap [4,1,2,29,29,29,29,29,27,27,27,1,27,30,30,30,30,30,27,30,30,30,30,30,30,27,30,30,30,30,30,30,27,30,30,30,30,30,30,27] (cp q4 120 66 (cp q5 186 27 (cp q5 215 21 ([]))))), [40], [39,44,45,46,47]⟩ fun m t => by kernel_rfl
theorem R_joined31 (w : World) (x : Vars) (r : Bool) : (S_joined w x r (orB (errJ 3 1) r) 3 1).Holds (VV w) :=
  sF (F := FJ w fun args => ⟨1000, fun as os _ => some ⟨_, R_hJa3 w (varsOf args as os x.u) r⟩⟩) (vok _) 20000 ⟨cp q4 0 80 (ap [4,1,2,29,29,29,29,29,27,27,27,1,27,30,30,30,30,30,27,30,30,30,30,30,30,27,30,30,30,30,30,30,27,30,30,30,30,30,30,27] (cp q5 120 93 (cp q5 215 21 ([])))), [40], [39,44,45,46,47]⟩ fun m t => by kernel_rfl
theorem R_joined32 (w : World) (x : Vars) (r : Bool) : (S_joined w x r (orB (errJ 3 2) r) 3 2).Holds (VV w) :=
  sF (F := FJ w fun args => ⟨1000, fun as os _ => some ⟨_, R_hJa3 w (varsOf args as os x.u) r⟩⟩) (vok _) 20000 ⟨cp q4 0 80 (ap [4,1,2,29,29,29,29,29,27,27,27,1,27,30,30,30,30,30,27,30,30,30,30,30,30,27,30,30,30,30,30,30,27,30,30,30,30,30,30,27] (cp q4 120 18 (ap [3,3,4,36,36,36,36,36,35,35,35,1,35,37,37,37,37,37,35,37,37,37,37,37,37,35,37,37,37,37,37,37,35] (cp q5 171 42 (cp q5 215 21 ([])))))), [40], [39,44,45,46,47]⟩ fun m t => by kernel_rfl
theorem R_joined40 (w : World) (x : Vars) (r : Bool) : (S_joined w x r (orB (errJ 4 0) r) 4 0).Holds (VV w) :=
  sF (F := FJ w fun args => ⟨1000, fun as os _ => some ⟨_, R_hJa4 w (varsOf args as os x.u) r⟩⟩) (vok _) 20000 ⟨cp q4 0 80 (ap [5,1,2,29,29,29,29,29,28,28,28,1,28,30,30,30,30,30,28,30,30,30,30,30,30,28,30,30,30,30,30,30,28,30,30,30,30,30,30,28] (cp q4 120 66 (ap [19] (cp q4 187 17 (cp q5 203 10 (cp q5 215 21 ([]))))))), [40], [39,44,45,46,47]⟩ fun m t => by kernel_rfl
theorem R_joined41 (w : World) (x : Vars) (r : Bool) : (S_joined w x r (orB (errJ 4 1) r) 4 1).Holds (VV w) :=
  sF (F := FJ w fun args => ⟨1000, fun as os _ => some ⟨_, R_hJa4 w (varsOf args as os x.u) r⟩⟩) (vok _) 20000 ⟨cp q4 0 80 (ap [5,1,2,29,29,29,29,29,28,28,28,1,28,30,30,30,30,30,28,30,30,30,30,30,30,28,30,30,30,30,30,30,28,30,30,30,30,30,30,28] (cp q5 120 66 (ap [19] (cp q4 187 17 (cp q5 203 10 (cp q5 215 21 ([]))))))), [40], [39,44,45,46,47]⟩ fun m t => by kernel_rfl
theorem R_joined42 (w : World) (x : Vars) (r : Bool) : (S_joined w x r (orB (errJ 4 2) r) 4 2).Holds (VV w) :=
  sF (F := FJ w fun args => ⟨1000, fun as os _ => some ⟨_, R_hJa4 w (varsOf args as os x.u) r⟩⟩) (vok _) 20000 ⟨q6, [40], [39,44,45,46,47]⟩ fun m t => by kernel_rfl
end Mine
end

section
open PySem PySem.W PySem.W.X PyProof.Rows
set_option maxRecDepth 1000000
set_option maxHeartbeats 0
namespace Mine
open PySem.W.ZFast (hashOfZ)
noncomputable def S_hTs0 (w : World) (x : Vars)  : Spec := { code := .call (.ref 797) ⟨[(vA x 4),(vA x 0),(.str s25 (x.U 2)),(vA x 11)],[]⟩,dep := 600,need := [!ltB 1000000000 ((x.I 5 3) + 1),!ltB 1000000000 (((x.I 5 3) + 1) + 1)],pre := [(aA x 0,(iX 234 (aA x 1))),(aA x 1,(oTX x 1 (vI x (-1) 1 0) (vA x 2) (vA x 3) .none)),(aA x 2,{ cls := tyL,data := (.seq #[(vB x b4 2 0),(vB x b5 2 1),(vB x b6 2 2),(vB x b7 2 3),(vB x b8 2 4),(vB x b9 2 5),(vB x b10 2 6),(vB x b11 2 7),(vB x b12 2 8),(vB x b13 2 9),(vB x b14 2 10),(vB x b15 2 11),(vB x b16 2 12),(vB x b17 2 13),(vB x b18 2 14),(vB x b19 2 15),(vB x b20 2 16),(vB x b21 2 17),(vB x b22 2 18),(vB x b23 2 19),(vB x b24 2 20),(vB x b25 2 21)] (x.N 2)) }),(aA x 3,{ cls := tyL,data := (.seq #[(vR x 3 0),(vR x 3 1),(vA x 7),(vR x 3 3),(vR x 3 4),(vR x 3 5),(vR x 3 6),(vR x 3 7),(vR x 3 8),(vR x 3 9),(vR x 3 10),(vR x 3 11),(vR x 3 12),(vR x 3 13),(vR x 3 14),(vR x 3 15),(vR x 3 16),(vR x 3 17),(vR x 3 18),(vR x 3 19),(vA x 0),(vB x b26 3 21)] (x.N 3)) }),(aA x 4,(iX 451 (aA x 5))),(aA x 5,{ cls := tyD,data := (.dict #[eX x 5 0 s7 (vA x 8),eX x 5 1 s8 (vB x b33 5 1),eX x 5 2 s9 (vR x 5 2),eX x 5 3 s10 (.int (x.I 5 3) (x.V 5 3)),eX x 5 4 s11 (vI x (0) 5 4),eX x 5 5 s12 (vA x 6),eX x 5 6 s13 (.int (x.I 5 6) (x.V 5 6)),eX x 5 7 s14 (vR x 5 7)] (x.N 5)) }),(aA x 6,{ cls := tyL,data := (.seq #[] (x.N 6)) }),(aA x 7,(iX 255 (aA x 10))),(aA x 8,(iX 53 (aA x 9))),(aA x 9,(oLX x 9)),(aA x 10,{ cls := tyD,data := (.dict #[eX x 10 0 s3 (vI x (-3) 10 0),eX x 10 1 s23 (vB x b6 10 1),eX x 10 2 s24 (.ref 539)] (x.N 10)) }),(aA x 11,{ cls := tyL,data := (.seq #[(vA x 12)] (x.N 11)) }),(aA x 12,(iX 234 (aA x 13))),(aA x 13,(oTX x 13 (vI x (-95) 13 0) (vR x 13 1) (vR x 13 2) (vA x 14))),(aA x 14,(iX 234 (aA x 15))),(aA x 15,(oTX x 15 (vI x (-96) 15 0) (vA x 16) (vA x 17) .none)),(aA x 16,{ cls := tyL,data := (.seq #[(vB x b43 16 0)] (x.N 16)) }),(aA x 17,{ cls := tyL,data := (.seq #[(vA x 18)] (x.N 17)) }),(aA x 18,(iX 255 (aA x 19))),(aA x 19,{ cls := tyD,data := (.dict #[eX x 19 0 s3 (vI x (-98) 19 0),eX x 19 1 s23 (vB x b44 19 1),eX x 19 2 s24 (vF x 20)] (x.N 19)) }),(bA x 20,oFunc (lamTold w.params) s26 s27 [(s28,(aA x 22))] (vR x 20 2001) (vA x 21) (.str s29 1295)),(aA x 21,{ cls := (.type "code"),data := (.fields #[(.str s26 (x.V 21 0)),(.str s27 (x.V 21 1)),(.str s30 (x.V 21 2)),(.int (615) 0),(.int (2) 0),(.int (0) 0),(.int (0) 0),(.int (19) 0),(x.Z 21 8),(.bool true),(.int (181) 0),(x.Z 21 11),.none,(x.Z 21 13),(x.Z 21 14),(x.Z 21 15),(.int (x.I 21 16) 0),(.int (615) 0),(.str s30 (x.V 21 18))]) }),(aA x 22,{ cls := (.type "cell"),data := (.cell (some (vA x 23))) }),(aA x 23,{ cls := tyL,data := (.seq #[(vI x (7) 23 0)] (x.N 23)) })],touch := [5],na := 2,nt := 4,res := fun as ts => .ok (.ret (.ref (nth as 0))),postT := fun as ts => [some ({ cls := tyD,data := (.dict #[eX x 5 0 s7 (vA x 8),eX x 5 1 s8 (vB x b33 5 1),eX x 5 2 s9 (vR x 5 2),eX x 5 3 s10 (.int ((x.I 5 3 + 1) + 1) (nth ts 0)),eX x 5 4 s11 (vI x (0) 5 4),eX x 5 5 s12 (.ref (nth as 1)),eX x 5 6 s13 (.int (0) (nth ts 1)),eX x 5 7 s14 (vR x 5 7)] (x.N 5)) })],postN := fun as ts => [{ cls := tyL,data := (.seq #[(vI x (7) 23 0)] 0) },{ cls := tyL,data := (.seq (frA false (nth ts 2)) (nth ts 3)) }],rawP := [21],rawQ := [2] }
theorem R_hTs0 (w : World) (x : Vars) : (S_hTs0 w x).Holds (VV w) :=
  sF (F := FN w) (vok _) 20000 ⟨q7, [59,29], [80,117,0,778,4]⟩ fun m t => by kernel_rfl
noncomputable def S_hTs1 (w : World) (x : Vars)  : Spec := { code := .call (.ref 797) ⟨[(vA x 4),(vA x 0),(.str s25 (x.U 2)),(vA x 11)],[]⟩,dep := 600,need := [!ltB 1000000000 ((x.I 5 3) + 1),!ltB 1000000000 (((x.I 5 3) + 1) + 1)],pre := [(aA x 0,(iX 234 (aA x 1))),(aA x 1,(oTX x 1 (vI x (-1) 1 0) (vA x 2) (vA x 3) .none)),(aA x 2,{ cls := tyL,data := (.seq #[(vB x b4 2 0),(vB x b5 2 1),(vB x b6 2 2),(vB x b7 2 3),(vB x b8 2 4),(vB x b9 2 5),(vB x b10 2 6),(vB x b11 2 7),(vB x b12 2 8),(vB x b13 2 9),(vB x b14 2 10),(vB x b15 2 11),(vB x b16 2 12),(vB x b17 2 13),(vB x b18 2 14),(vB x b19 2 15),(vB x b20 2 16),(vB x b21 2 17),(vB x b22 2 18),(vB x b23 2 19),(vB x b24 2 20),(vB x b25 2 21)] (x.N 2)) }),(aA x 3,{ cls := tyL,data := (.seq #[(vR x 3 0),(vR x 3 1),(vA x 7),(vR x 3 3),(vR x 3 4),(vR x 3 5),(vR x 3 6),(vR x 3 7),(vR x 3 8),(vR x 3 9),(vR x 3 10),(vR x 3 11),(vR x 3 12),(vR x 3 13),(vR x 3 14),(vR x 3 15),(vR x 3 16),(vR x 3 17),(vR x 3 18),(vR x 3 19),(vA x 0),(vB x b26 3 21)] (x.N 3)) }),(aA x 4,(iX 451 (aA x 5))),(aA x 5,{ cls := tyD,data := (.dict #[eX x 5 0 s7 (vA x 8),eX x 5 1 s8 (vB x b33 5 1),eX x 5 2 s9 (vR x 5 2),eX x 5 3 s10 (.int (x.I 5 3) (x.V 5 3)),eX x 5 4 s11 (vI x (0) 5 4),eX x 5 5 s12 (vA x 6),eX x 5 6 s13 (.int (x.I 5 6) (x.V 5 6)),eX x 5 7 s14 (vR x 5 7)] (x.N 5)) }),(aA x 6,{ cls := tyL,data := (.seq #[] (x.N 6)) }),(aA x 7,(iX 255 (aA x 10))),(aA x 8,(iX 53 (aA x 9))),(aA x 9,(oLX x 9)),(aA x 10,{ cls := tyD,data := (.dict #[eX x 10 0 s3 (vI x (-3) 10 0),eX x 10 1 s23 (vB x b6 10 1),eX x 10 2 s24 (.ref 539)] (x.N 10)) }),(aA x 11,{ cls := tyL,data := (.seq #[(vA x 12)] (x.N 11)) }),(aA x 12,(iX 234 (aA x 13))),(aA x 13,(oTX x 13 (vI x (-95) 13 0) (vR x 13 1) (vR x 13 2) (vA x 14))),(aA x 14,(iX 234 (aA x 15))),(aA x 15,(oTX x 15 (vI x (-96) 15 0) (vA x 16) (vA x 17) .none)),(aA x 16,{ cls := tyL,data := (.seq #[(vB x b43 16 0)] (x.N 16)) }),(aA x 17,{ cls := tyL,data := (.seq #[(vA x 18)] (x.N 17)) }),(aA x 18,(iX 255 (aA x 19))),(aA x 19,{ cls := tyD,data := (.dict #[eX x 19 0 s3 (vI x (-98) 19 0),eX x 19 1 s23 (vB x b44 19 1),eX x 19 2 s24 (vF x 20)] (x.N 19)) }),(bA x 20,oFunc (lamTold w.params) s26 s27 [(s28,(aA x 22))] (vR x 20 2001) (vA x 21) (.str s29 1295)),(aA x 21,{ cls := (.type "code"),data := (.fields #[(.str s26 (x.V 21 0)),(.str s27 (x.V 21 1)),(.str s30 (x.V 21 2)),(.int (615) 0),(.int (2) 0),(.int (0) 0),(.int (0) 0),(.int (19) 0),(x.Z 21 8),(.bool true),(.int (181) 0),(x.Z 21 11),.none,(x.Z 21 13),(x.Z 21 14),(x.Z 21 15),(.int (x.I 21 16) 0),(.int (615) 0),(.str s30 (x.V 21 18))]) }),(aA x 22,{ cls := (.type "cell"),data := (.cell (some (vA x 23))) }),(aA x 23,{ cls := tyL,data := (.seq #[(vB x b45 23 0)] (x.N 23)) })],touch := [5],na := 2,nt := 4,res := fun as ts => .ok (.ret (.ref (nth as 0))),postT := fun as ts => [some ({ cls := tyD,data := (.dict #[eX x 5 0 s7 (vA x 8),eX x 5 1 s8 (vB x b33 5 1),eX x 5 2 s9 (vR x 5 2),eX x 5 3 s10 (.int ((x.I 5 3 + 1) + 1) (nth ts 0)),eX x 5 4 s11 (vI x (0) 5 4),eX x 5 5 s12 (.ref (nth as 1)),eX x 5 6 s13 (.int (0) (nth ts 1)),eX x 5 7 s14 (vR x 5 7)] (x.N 5)) })],postN := fun as ts => [{ cls := tyL,data := (.seq #[(vB x b45 23 0)] 0) },{ cls := tyL,data := (.seq (frA false (nth ts 2)) (nth ts 3)) }],rawP := [21],rawQ := [2] }
theorem R_hTs1 (w : World) (x : Vars) : (S_hTs1 w x).Holds (VV w) :=
  sF (F := FN w) (vok _) 20000 ⟨cp q7 0 975 ([]), [59,29], [80,117,0,778,4]⟩ fun m t => by kernel_rfl
noncomputable def S_hTs2 (w : World) (x : Vars)  : Spec := { code := .call (.ref 797) ⟨[(vA x 4),(vA x 0),(.str s25 (x.U 2)),(vA x 11)],[]⟩,dep := 600,need := [!ltB 1000000000 ((x.I 5 3) + 1),!ltB 1000000000 (((x.I 5 3) + 1) + 1)],pre := [(aA x 0,(iX 234 (aA x 1))),(aA x 1,(oTX x 1 (vI x (-1) 1 0) (vA x 2) (vA x 3) .none)),(aA x 2,{ cls := tyL,data := (.seq #[(vB x b4 2 0),(vB x b5 2 1),(vB x b6 2 2),(vB x b7 2 3),(vB x b8 2 4),(vB x b9 2 5),(vB x b10 2 6),(vB x b11 2 7),(vB x b12 2 8),(vB x b13 2 9),(vB x b14 2 10),(vB x b15 2 11),(vB x b16 2 12),(vB x b17 2 13),(vB x b18 2 14),(vB x b19 2 15),(vB x b20 2 16),(vB x b21 2 17),(vB x b22 2 18),(vB x b23 2 19),(vB x b24 2 20),(vB x b25 2 21)] (x.N 2)) }),(aA x 3,{ cls := tyL,data := (.seq #[(vR x 3 0),(vR x 3 1),(vA x 7),(vR x 3 3),(vR x 3 4),(vR x 3 5),(vR x 3 6),(vR x 3 7),(vR x 3 8),(vR x 3 9),(vR x 3 10),(vR x 3 11),(vR x 3 12),(vR x 3 13),(vR x 3 14),(vR x 3 15),(vR x 3 16),(vR x 3 17),(vR x 3 18),(vR x 3 19),(vA x 0),(vB x b26 3 21)] (x.N 3)) }),(aA x 4,(iX 451 (aA x 5))),(aA x 5,{ cls := tyD,data := (.dict #[eX x 5 0 s7 (vA x 8),eX x 5 1 s8 (vB x b33 5 1),eX x 5 2 s9 (vR x 5 2),eX x 5 3 s10 (.int (x.I 5 3) (x.V 5 3)),eX x 5 4 s11 (vI x (0) 5 4),eX x 5 5 s12 (vA x 6),eX x 5 6 s13 (.int (x.I 5 6) (x.V 5 6)),eX x 5 7 s14 (vR x 5 7)] (x.N 5)) }),(aA x 6,{ cls := tyL,data := (.seq #[] (x.N 6)) }),(aA x 7,(iX 255 (aA x 10))),(aA x 8,(iX 53 (aA x 9))),(aA x 9,(oLX x 9)),(aA x 10,{ cls := tyD,data := (.dict #[eX x 10 0 s3 (vI x (-3) 10 0),eX x 10 1 s23 (vB x b6 10 1),eX x 10 2 s24 (.ref 539)] (x.N 10)) }),(aA x 11,{ cls := tyL,data := (.seq #[(vA x 12)] (x.N 11)) }),(aA x 12,(iX 234 (aA x 13))),(aA x 13,(oTX x 13 (vI x (-95) 13 0) (vR x 13 1) (vR x 13 2) (vA x 14))),(aA x 14,(iX 234 (aA x 15))),(aA x 15,(oTX x 15 (vI x (-96) 15 0) (vA x 16) (vA x 17) .none)),(aA x 16,{ cls := tyL,data := (.seq #[(vB x b43 16 0)] (x.N 16)) }),(aA x 17,{ cls := tyL,data := (.seq #[(vA x 18)] (x.N 17)) }),(aA x 18,(iX 255 (aA x 19))),(aA x 19,{ cls := tyD,data := (.dict #[eX x 19 0 s3 (vI x (-98) 19 0),eX x 19 1 s23 (vB x b44 19 1),eX x 19 2 s24 (vF x 20)] (x.N 19)) }),(bA x 20,oFunc (lamTold w.params) s26 s27 [(s28,(aA x 22))] (vR x 20 2001) (vA x 21) (.str s29 1295)),(aA x 21,{ cls := (.type "code"),data := (.fields #[(.str s26 (x.V 21 0)),(.str s27 (x.V 21 1)),(.str s30 (x.V 21 2)),(.int (615) 0),(.int (2) 0),(.int (0) 0),(.int (0) 0),(.int (19) 0),(x.Z 21 8),(.bool true),(.int (181) 0),(x.Z 21 11),.none,(x.Z 21 13),(x.Z 21 14),(x.Z 21 15),(.int (x.I 21 16) 0),(.int (615) 0),(.str s30 (x.V 21 18))]) }),(aA x 22,{ cls := (.type "cell"),data := (.cell (some (vA x 23))) }),(aA x 23,{ cls := tyL,data := (.seq #[(.bool true)] (x.N 23)) })],touch := [5],na := 2,nt := 4,res := fun as ts => .ok (.ret (.ref (nth as 0))),postT := fun as ts => [some ({ cls := tyD,data := (.dict #[eX x 5 0 s7 (vA x 8),eX x 5 1 s8 (vB x b33 5 1),eX x 5 2 s9 (vR x 5 2),eX x 5 3 s10 (.int ((x.I 5 3 + 1) + 1) (nth ts 0)),eX x 5 4 s11 (vI x (0) 5 4),eX x 5 5 s12 (.ref (nth as 1)),eX x 5 6 s13 (.int (0) (nth ts 1)),eX x 5 7 s14 (vR x 5 7)] (x.N 5)) })],postN := fun as ts => [{ cls := tyL,data := (.seq #[(.bool true)] 0) },{ cls := tyL,data := (.seq (frA false (nth ts 2)) (nth ts 3)) }],rawP := [21],rawQ := [2] }
theorem R_hTs2 (w : World) (x : Vars) : (S_hTs2 w x).Holds (VV w) :=
  sF (F := FN w) (vok _) 20000 ⟨cp q7 0 975 ([]), [59,29], [80,117,0,778,4]⟩ fun m t => by kernel_rfl
noncomputable def S_hTs3 (w : World) (x : Vars)  : Spec := { code := .call (.ref 797) ⟨[(vA x 4),(vA x 0),(.str s25 (x.U 2)),(vA x 11)],[]⟩,dep := 600,need := [!ltB 1000000000 ((x.I 5 3) + 1),!ltB 1000000000 (((x.I 5 3) + 1) + 1)],pre := [(aA x 0,(iX 234 (aA x 1))),(aA x 1,(oTX x 1 (vI x (-1) 1 0) (vA x 2) (vA x 3) .none)),(aA x 2,{ cls := tyL,data := (.seq #[(vB x b4 2 0),(vB x b5 2 1),(vB x b6 2 2),(vB x b7 2 3),(vB x b8 2 4),(vB x b9 2 5),(vB x b10 2 6),(vB x b11 2 7),(vB x b12 2 8),(vB x b13 2 9),(vB x b14 2 10),(vB x b15 2 11),(vB x b16 2 12),(vB x b17 2 13),(vB x b18 2 14),(vB x b19 2 15),(vB x b20 2 16),(vB x b21 2 17),(vB x b22 2 18),(vB x b23 2 19),(vB x b24 2 20),(vB x b25 2 21)] (x.N 2)) }),(aA x 3,{ cls := tyL,data := (.seq #[(vR x 3 0),(vR x 3 1),(vA x 7),(vR x 3 3),(vR x 3 4),(vR x 3 5),(vR x 3 6),(vR x 3 7),(vR x 3 8),(vR x 3 9),(vR x 3 10),(vR x 3 11),(vR x 3 12),(vR x 3 13),(vR x 3 14),(vR x 3 15),(vR x 3 16),(vR x 3 17),(vR x 3 18),(vR x 3 19),(vA x 0),(vB x b26 3 21)] (x.N 3)) }),(aA x 4,(iX 451 (aA x 5))),(aA x 5,{ cls := tyD,data := (.dict #[eX x 5 0 s7 (vA x 8),eX x 5 1 s8 (vB x b33 5 1),eX x 5 2 s9 (vR x 5 2),eX x 5 3 s10 (.int (x.I 5 3) (x.V 5 3)),eX x 5 4 s11 (vI x (0) 5 4),eX x 5 5 s12 (vA x 6),eX x 5 6 s13 (.int (x.I 5 6) (x.V 5 6)),eX x 5 7 s14 (vR x 5 7)] (x.N 5)) }),(aA x 6,{ cls := tyL,data := (.seq #[] (x.N 6)) }),(aA x 7,(iX 255 (aA x 10))),(aA x 8,(iX 53 (aA x 9))),(aA x 9,(oLX x 9)),(aA x 10,{ cls := tyD,data := (.dict #[eX x 10 0 s3 (vI x (-3) 10 0),eX x 10 1 s23 (vB x b6 10 1),eX x 10 2 s24 (.ref 539)] (x.N 10)) }),(aA x 11,{ cls := tyL,data := (.seq #[(vA x 12)] (x.N 11)) }),(aA x 12,(iX 234 (aA x 13))),(aA x 13,(oTX x 13 (vI x (-95) 13 0) (vR x 13 1) (vR x 13 2) (vA x 14))),(aA x 14,(iX 234 (aA x 15))),(aA x 15,(oTX x 15 (vI x (-96) 15 0) (vA x 16) (vA x 17) .none)),(aA x 16,{ cls := tyL,data := (.seq #[(vB x b43 16 0)] (x.N 16)) }),(aA x 17,{ cls := tyL,data := (.seq #[(vA x 18)] (x.N 17)) }),(aA x 18,(iX 255 (aA x 19))),(aA x 19,{ cls := tyD,data := (.dict #[eX x 19 0 s3 (vI x (-98) 19 0),eX x 19 1 s23 (vB x b44 19 1),eX x 19 2 s24 (vF x 20)] (x.N 19)) }),(bA x 20,oFunc (lamTold w.params) s26 s27 [(s28,(aA x 22))] (vR x 20 2001) (vA x 21) (.str s29 1295)),(aA x 21,{ cls := (.type "code"),data := (.fields #[(.str s26 (x.V 21 0)),(.str s27 (x.V 21 1)),(.str s30 (x.V 21 2)),(.int (615) 0),(.int (2) 0),(.int (0) 0),(.int (0) 0),(.int (19) 0),(x.Z 21 8),(.bool true),(.int (181) 0),(x.Z 21 11),.none,(x.Z 21 13),(x.Z 21 14),(x.Z 21 15),(.int (x.I 21 16) 0),(.int (615) 0),(.str s30 (x.V 21 18))]) }),(aA x 22,{ cls := (.type "cell"),data := (.cell (some (vA x 23))) }),(aA x 23,{ cls := tyL,data := (.seq #[.none] (x.N 23)) })],touch := [5],na := 2,nt := 4,res := fun as ts => .ok (.ret (.ref (nth as 0))),postT := fun as ts => [some ({ cls := tyD,data := (.dict #[eX x 5 0 s7 (vA x 8),eX x 5 1 s8 (vB x b33 5 1),eX x 5 2 s9 (vR x 5 2),eX x 5 3 s10 (.int ((x.I 5 3 + 1) + 1) (nth ts 0)),eX x 5 4 s11 (vI x (0) 5 4),eX x 5 5 s12 (.ref (nth as 1)),eX x 5 6 s13 (.int (0) (nth ts 1)),eX x 5 7 s14 (vR x 5 7)] (x.N 5)) })],postN := fun as ts => [{ cls := tyL,data := (.seq #[.none] 0) },{ cls := tyL,data := (.seq (frA false (nth ts 2)) (nth ts 3)) }],rawP := [21],rawQ := [2] }
theorem R_hTs3 (w : World) (x : Vars) : (S_hTs3 w x).Holds (VV w) :=
  sF (F := FN w) (vok _) 20000 ⟨cp q7 0 975 ([]), [59,29], [80,117,0,778,4]⟩ fun m t => by kernel_rfl
noncomputable def S_hTs4 (w : World) (x : Vars)  : Spec := { code := .call (.ref 797) ⟨[(vA x 4),(vA x 0),(.str s25 (x.U 2)),(vA x 11)],[]⟩,dep := 600,need := [!ltB 1000000000 ((x.I 5 3) + 1),!ltB 1000000000 (((x.I 5 3) + 1) + 1)],pre := [(aA x 0,(iX 234 (aA x 1))),(aA x 1,(oTX x 1 (vI x (-1) 1 0) (vA x 2) (vA x 3) .none)),(aA x 2,{ cls := tyL,data := (.seq #[(vB x b4 2 0),(vB x b5 2 1),(vB x b6 2 2),(vB x b7 2 3),(vB x b8 2 4),(vB x b9 2 5),(vB x b10 2 6),(vB x b11 2 7),(vB x b12 2 8),(vB x b13 2 9),(vB x b14 2 10),(vB x b15 2 11),(vB x b16 2 12),(vB x b17 2 13),(vB x b18 2 14),(vB x b19 2 15),(vB x b20 2 16),(vB x b21 2 17),(vB x b22 2 18),(vB x b23 2 19),(vB x b24 2 20),(vB x b25 2 21)] (x.N 2)) }),(aA x 3,{ cls := tyL,data := (.seq #[(vR x 3 0),(vR x 3 1),(vA x 7),(vR x 3 3),(vR x 3 4),(vR x 3 5),(vR x 3 6),(vR x 3 7),(vR x 3 8),(vR x 3 9),(vR x 3 10),(vR x 3 11),(vR x 3 12),(vR x 3 13),(vR x 3 14),(vR x 3 15),(vR x 3 16),(vR x 3 17),(vR x 3 18),(vR x 3 19),(vA x 0),(vB x b26 3 21)] (x.N 3)) }),(aA x 4,(iX 451 (aA x 5))),(aA x 5,{ cls := tyD,data := (.dict #[eX x 5 0 s7 (vA x 8),eX x 5 1 s8 (vB x b33 5 1),eX x 5 2 s9 (vR x 5 2),eX x 5 3 s10 (.int (x.I 5 3) (x.V 5 3)),eX x 5 4 s11 (vI x (0) 5 4),eX x 5 5 s12 (vA x 6),eX x 5 6 s13 (.int (x.I 5 6) (x.V 5 6)),eX x 5 7 s14 (vR x 5 7)] (x.N 5)) }),(aA x 6,{ cls := tyL,data := (.seq #[] (x.N 6)) }),(aA x 7,(iX 255 (aA x 10))),(aA x 8,(iX 53 (aA x 9))),(aA x 9,(oLX x 9)),(aA x 10,{ cls := tyD,data := (.dict #[eX x 10 0 s3 (vI x (-3) 10 0),eX x 10 1 s23 (vB x b6 10 1),eX x 10 2 s24 (.ref 539)] (x.N 10)) }),(aA x 11,{ cls := tyL,data := (.seq #[(vA x 12)] (x.N 11)) }),(aA x 12,(iX 234 (aA x 13))),(aA x 13,(oTX x 13 (vI x (-95) 13 0) (vR x 13 1) (vR x 13 2) (vA x 14))),(aA x 14,(iX 234 (aA x 15))),(aA x 15,(oTX x 15 (vI x (-96) 15 0) (vA x 16) (vA x 17) .none)),(aA x 16,{ cls := tyL,data := (.seq #[(vB x b43 16 0)] (x.N 16)) }),(aA x 17,{ cls := tyL,data := (.seq #[(vA x 18)] (x.N 17)) }),(aA x 18,(iX 255 (aA x 19))),(aA x 19,{ cls := tyD,data := (.dict #[eX x 19 0 s3 (vI x (-98) 19 0),eX x 19 1 s23 (vB x b44 19 1),eX x 19 2 s24 (vF x 20)] (x.N 19)) }),(bA x 20,oFunc (lamTold w.params) s26 s27 [(s28,(aA x 22))] (vR x 20 2001) (vA x 21) (.str s29 1295)),(aA x 21,{ cls := (.type "code"),data := (.fields #[(.str s26 (x.V 21 0)),(.str s27 (x.V 21 1)),(.str s30 (x.V 21 2)),(.int (615) 0),(.int (2) 0),(.int (0) 0),(.int (0) 0),(.int (19) 0),(x.Z 21 8),(.bool true),(.int (181) 0),(x.Z 21 11),.none,(x.Z 21 13),(x.Z 21 14),(x.Z 21 15),(.int (x.I 21 16) 0),(.int (615) 0),(.str s30 (x.V 21 18))]) }),(aA x 22,{ cls := (.type "cell"),data := (.cell (some (vA x 23))) }),(aA x 23,{ cls := tyL,data := (.seq #[] (x.N 23)) })],touch := [5],na := 2,nt := 4,res := fun as ts => .ok (.ret (.ref (nth as 0))),postT := fun as ts => [some ({ cls := tyD,data := (.dict #[eX x 5 0 s7 (vA x 8),eX x 5 1 s8 (vB x b33 5 1),eX x 5 2 s9 (vR x 5 2),eX x 5 3 s10 (.int ((x.I 5 3 + 1) + 1) (nth ts 0)),eX x 5 4 s11 (vI x (0) 5 4),eX x 5 5 s12 (.ref (nth as 1)),eX x 5 6 s13 (.int (0) (nth ts 1)),eX x 5 7 s14 (vR x 5 7)] (x.N 5)) })],postN := fun as ts => [{ cls := tyL,data := (.seq #[.none] 0) },{ cls := tyL,data := (.seq (frA false (nth ts 2)) (nth ts 3)) }],rawP := [21],rawQ := [2] }
theorem R_hTs4 (w : World) (x : Vars) : (S_hTs4 w x).Holds (VV w) :=
  sF (F := FN w) (vok _) 20000 ⟨cp q7 0 909 (ap [1] (cp q7 242 17 (cp q7 933 42 ([])))), [59,29], [80,116,0,778,4]⟩ fun m t => by kernel_rfl
noncomputable def S_hTs5 (w : World) (x : Vars)  : Spec := { code := .call (.ref 797) ⟨[(vA x 4),(vA x 0),(.str s25 (x.U 2)),(vA x 11)],[]⟩,dep := 600,need := [!ltB 1000000000 ((x.I 5 3) + 1),!ltB 1000000000 (((x.I 5 3) + 1) + 1)],pre := [(aA x 0,(iX 234 (aA x 1))),(aA x 1,(oTX x 1 (vI x (-1) 1 0) (vA x 2) (vA x 3) .none)),(aA x 2,{ cls := tyL,data := (.seq #[(vB x b4 2 0),(vB x b5 2 1),(vB x b6 2 2),(vB x b7 2 3),(vB x b8 2 4),(vB x b9 2 5),(vB x b10 2 6),(vB x b11 2 7),(vB x b12 2 8),(vB x b13 2 9),(vB x b14 2 10),(vB x b15 2 11),(vB x b16 2 12),(vB x b17 2 13),(vB x b18 2 14),(vB x b19 2 15),(vB x b20 2 16),(vB x b21 2 17),(vB x b22 2 18),(vB x b23 2 19),(vB x b24 2 20),(vB x b25 2 21)] (x.N 2)) }),(aA x 3,{ cls := tyL,data := (.seq #[(vR x 3 0),(vR x 3 1),(vA x 7),(vR x 3 3),(vR x 3 4),(vR x 3 5),(vR x 3 6),(vR x 3 7),(vR x 3 8),(vR x 3 9),(vR x 3 10),(vR x 3 11),(vR x 3 12),(vR x 3 13),(vR x 3 14),(vR x 3 15),(vR x 3 16),(vR x 3 17),(vR x 3 18),(vR x 3 19),(vA x 0),(vB x b26 3 21)] (x.N 3)) }),(aA x 4,(iX 451 (aA x 5))),(aA x 5,{ cls := tyD,data := (.dict #[eX x 5 0 s7 (vA x 8),eX x 5 1 s8 (vB x b33 5 1),eX x 5 2 s9 (vR x 5 2),eX x 5 3 s10 (.int (x.I 5 3) (x.V 5 3)),eX x 5 4 s11 (vI x (0) 5 4),eX x 5 5 s12 (vA x 6),eX x 5 6 s13 (.int (x.I 5 6) (x.V 5 6)),eX x 5 7 s14 (vR x 5 7)] (x.N 5)) }),(aA x 6,{ cls := tyL,data := (.seq #[] (x.N 6)) }),(aA x 7,(iX 255 (aA x 10))),(aA x 8,(iX 53 (aA x 9))),(aA x 9,(oLX x 9)),(aA x 10,{ cls := tyD,data := (.dict #[eX x 10 0 s3 (vI x (-3) 10 0),eX x 10 1 s23 (vB x b6 10 1),eX x 10 2 s24 (.ref 539)] (x.N 10)) }),(aA x 11,{ cls := tyL,data := (.seq #[(vA x 12)] (x.N 11)) }),(aA x 12,(iX 234 (aA x 13))),(aA x 13,(oTX x 13 (vI x (-95) 13 0) (vR x 13 1) (vR x 13 2) (vA x 14))),(aA x 14,(iX 234 (aA x 15))),(aA x 15,(oTX x 15 (vI x (-96) 15 0) (vA x 16) (vA x 17) .none)),(aA x 16,{ cls := tyL,data := (.seq #[(vB x b43 16 0)] (x.N 16)) }),(aA x 17,{ cls := tyL,data := (.seq #[(vA x 18)] (x.N 17)) }),(aA x 18,(iX 255 (aA x 19))),(aA x 19,{ cls := tyD,data := (.dict #[eX x 19 0 s3 (vI x (-98) 19 0),eX x 19 1 s23 (vB x b44 19 1),eX x 19 2 s24 (vF x 20)] (x.N 19)) }),(bA x 20,oFunc (lamTold w.params) s26 s27 [(s28,(aA x 22))] (vR x 20 2001) (vA x 21) (.str s29 1295)),(aA x 21,{ cls := (.type "code"),data := (.fields #[(.str s26 (x.V 21 0)),(.str s27 (x.V 21 1)),(.str s30 (x.V 21 2)),(.int (615) 0),(.int (2) 0),(.int (0) 0),(.int (0) 0),(.int (19) 0),(x.Z 21 8),(.bool true),(.int (181) 0),(x.Z 21 11),.none,(x.Z 21 13),(x.Z 21 14),(x.Z 21 15),(.int (x.I 21 16) 0),(.int (615) 0),(.str s30 (x.V 21 18))]) }),(aA x 22,{ cls := (.type "cell"),data := (.cell (some (vA x 23))) }),(aA x 23,{ cls := tyL,data := (.seq #[(vR x 23 0)] (x.N 23)) })],touch := [5],na := 2,nt := 4,res := fun as ts => .ok (.ret (.ref (nth as 0))),postT := fun as ts => [some ({ cls := tyD,data := (.dict #[eX x 5 0 s7 (vA x 8),eX x 5 1 s8 (vB x b33 5 1),eX x 5 2 s9 (vR x 5 2),eX x 5 3 s10 (.int ((x.I 5 3 + 1) + 1) (nth ts 0)),eX x 5 4 s11 (vI x (0) 5 4),eX x 5 5 s12 (.ref (nth as 1)),eX x 5 6 s13 (.int (0) (nth ts 1)),eX x 5 7 s14 (vR x 5 7)] (x.N 5)) })],postN := fun as ts => [{ cls := tyL,data := (.seq #[(vR x 23 0)] 0) },{ cls := tyL,data := (.seq (frA false (nth ts 2)) (nth ts 3)) }],rawP := [21],rawQ := [2] }
theorem R_hTs5 (w : World) (x : Vars) : (S_hTs5 w x).Holds (VV w) :=
  sF (F := FN w) (vok _) 20000 ⟨cp q7 0 975 ([]), [59,29], [80,117,0,778,4]⟩ fun m t => by kernel_rfl
noncomputable def S_hTs6 (w : World) (x : Vars)  : Spec := { code := .call (.ref 797) ⟨[(vA x 4),(vA x 0),(.str s25 (x.U 2)),(vA x 11)],[]⟩,dep := 600,need := [!ltB 1000000000 ((x.I 5 3) + 1),!ltB 1000000000 (((x.I 5 3) + 1) + 1)],pre := [(aA x 0,(iX 234 (aA x 1))),(aA x 1,(oTX x 1 (vI x (-1) 1 0) (vA x 2) (vA x 3) .none)),(aA x 2,{ cls := tyL,data := (.seq #[(vB x b4 2 0),(vB x b5 2 1),(vB x b6 2 2),(vB x b7 2 3),(vB x b8 2 4),(vB x b9 2 5),(vB x b10 2 6),(vB x b11 2 7),(vB x b12 2 8),(vB x b13 2 9),(vB x b14 2 10),(vB x b15 2 11),(vB x b16 2 12),(vB x b17 2 13),(vB x b18 2 14),(vB x b19 2 15),(vB x b20 2 16),(vB x b21 2 17),(vB x b22 2 18),(vB x b23 2 19),(vB x b24 2 20),(vB x b25 2 21)] (x.N 2)) }),(aA x 3,{ cls := tyL,data := (.seq #[(vR x 3 0),(vR x 3 1),(vA x 7),(vR x 3 3),(vR x 3 4),(vR x 3 5),(vR x 3 6),(vR x 3 7),(vR x 3 8),(vR x 3 9),(vR x 3 10),(vR x 3 11),(vR x 3 12),(vR x 3 13),(vR x 3 14),(vR x 3 15),(vR x 3 16),(vR x 3 17),(vR x 3 18),(vR x 3 19),(vA x 0),(vB x b26 3 21)] (x.N 3)) }),(aA x 4,(iX 451 (aA x 5))),(aA x 5,{ cls := tyD,data := (.dict #[eX x 5 0 s7 (vA x 8),eX x 5 1 s8 (vB x b33 5 1),eX x 5 2 s9 (vR x 5 2),eX x 5 3 s10 (.int (x.I 5 3) (x.V 5 3)),eX x 5 4 s11 (vI x (0) 5 4),eX x 5 5 s12 (vA x 6),eX x 5 6 s13 (.int (x.I 5 6) (x.V 5 6)),eX x 5 7 s14 (vR x 5 7)] (x.N 5)) }),(aA x 6,{ cls := tyL,data := (.seq #[] (x.N 6)) }),(aA x 7,(iX 255 (aA x 10))),(aA x 8,(iX 53 (aA x 9))),(aA x 9,(oLX x 9)),(aA x 10,{ cls := tyD,data := (.dict #[eX x 10 0 s3 (vI x (-3) 10 0),eX x 10 1 s23 (vB x b6 10 1),eX x 10 2 s24 (.ref 539)] (x.N 10)) }),(aA x 11,{ cls := tyL,data := (.seq #[(vA x 12)] (x.N 11)) }),(aA x 12,(iX 234 (aA x 13))),(aA x 13,(oTX x 13 (vI x (-95) 13 0) (vR x 13 1) (vR x 13 2) (vA x 14))),(aA x 14,(iX 234 (aA x 15))),(aA x 15,(oTX x 15 (vI x (-96) 15 0) (vA x 16) (vA x 17) .none)),(aA x 16,{ cls := tyL,data := (.seq #[(vB x b43 16 0)] (x.N 16)) }),(aA x 17,{ cls := tyL,data := (.seq #[(vA x 18)] (x.N 17)) }),(aA x 18,(iX 255 (aA x 19))),(aA x 19,{ cls := tyD,data := (.dict #[eX x 19 0 s3 (vI x (-98) 19 0),eX x 19 1 s23 (vB x b44 19 1),eX x 19 2 s24 (vF x 20)] (x.N 19)) }),(bA x 20,oFunc (lamTold w.params) s26 s27 [(s28,(aA x 22))] (vR x 20 2001) (vA x 21) (.str s29 1295)),(aA x 21,{ cls := (.type "code"),data := (.fields #[(.str s26 (x.V 21 0)),(.str s27 (x.V 21 1)),(.str s30 (x.V 21 2)),(.int (615) 0),(.int (2) 0),(.int (0) 0),(.int (0) 0),(.int (19) 0),(x.Z 21 8),(.bool true),(.int (181) 0),(x.Z 21 11),.none,(x.Z 21 13),(x.Z 21 14),(x.Z 21 15),(.int (x.I 21 16) 0),(.int (615) 0),(.str s30 (x.V 21 18))]) }),(aA x 22,{ cls := (.type "cell"),data := (.cell (some (vA x 23))) }),(aA x 23,{ cls := tyL,data := (.seq #[(vB x b46 23 0),(vI x (3) 23 1)] (x.N 23)) })],touch := [5],na := 2,nt := 4,res := fun as ts => .ok (.ret (.ref (nth as 0))),postT := fun as ts => [some ({ cls := tyD,data := (.dict #[eX x 5 0 s7 (vA x 8),eX x 5 1 s8 (vB x b33 5 1),eX x 5 2 s9 (vR x 5 2),eX x 5 3 s10 (.int ((x.I 5 3 + 1) + 1) (nth ts 0)),eX x 5 4 s11 (vI x (0) 5 4),eX x 5 5 s12 (.ref (nth as 1)),eX x 5 6 s13 (.int (0) (nth ts 1)),eX x 5 7 s14 (vR x 5 7)] (x.N 5)) })],postN := fun as ts => [{ cls := tyL,data := (.seq #[(vB x b46 23 0)] 0) },{ cls := tyL,data := (.seq (frA false (nth ts 2)) (nth ts 3)) }],rawP := [21],rawQ := [2] }
theorem R_hTs6 (w : World) (x : Vars) : (S_hTs6 w x).Holds (VV w) :=
  sF (F := FN w) (vok _) 20000 ⟨cp q7 0 975 ([]), [59,29], [80,117,0,778,4]⟩ fun m t => by kernel_rfl
noncomputable def S_hTs7 (w : World) (x : Vars)  : Spec := { code := .call (.ref 797) ⟨[(vA x 4),(vA x 0),(.str s25 (x.U 2)),(vA x 11)],[]⟩,dep := 600,need := [!ltB 1000000000 ((x.I 5 3) + 1),!ltB 1000000000 (((x.I 5 3) + 1) + 1)],pre := [(aA x 0,(iX 234 (aA x 1))),(aA x 1,(oTX x 1 (vI x (-1) 1 0) (vA x 2) (vA x 3) .none)),(aA x 2,{ cls := tyL,data := (.seq #[(vB x b4 2 0),(vB x b5 2 1),(vB x b6 2 2),(vB x b7 2 3),(vB x b8 2 4),(vB x b9 2 5),(vB x b10 2 6),(vB x b11 2 7),(vB x b12 2 8),(vB x b13 2 9),(vB x b14 2 10),(vB x b15 2 11),(vB x b16 2 12),(vB x b17 2 13),(vB x b18 2 14),(vB x b19 2 15),(vB x b20 2 16),(vB x b21 2 17),(vB x b22 2 18),(vB x b23 2 19),(vB x b24 2 20),(vB x b25 2 21)] (x.N 2)) }),(aA x 3,{ cls := tyL,data := (.seq #[(vR x 3 0),(vR x 3 1),(vA x 7),(vR x 3 3),(vR x 3 4),(vR x 3 5),(vR x 3 6),(vR x 3 7),(vR x 3 8),(vR x 3 9),(vR x 3 10),(vR x 3 11),(vR x 3 12),(vR x 3 13),(vR x 3 14),(vR x 3 15),(vR x 3 16),(vR x 3 17),(vR x 3 18),(vR x 3 19),(vA x 0),(vB x b26 3 21)] (x.N 3)) }),(aA x 4,(iX 451 (aA x 5))),(aA x 5,{ cls := tyD,data := (.dict #[eX x 5 0 s7 (vA x 8),eX x 5 1 s8 (vB x b33 5 1),eX x 5 2 s9 (vR x 5 2),eX x 5 3 s10 (.int (x.I 5 3) (x.V 5 3)),eX x 5 4 s11 (vI x (0) 5 4),eX x 5 5 s12 (vA x 6),eX x 5 6 s13 (.int (x.I 5 6) (x.V 5 6)),eX x 5 7 s14 (vR x 5 7)] (x.N 5)) }),(aA x 6,{ cls := tyL,data := (.seq #[] (x.N 6)) }),(aA x 7,(iX 255 (aA x 10))),(aA x 8,(iX 53 (aA x 9))),(aA x 9,(oLX x 9)),(aA x 10,{ cls := tyD,data := (.dict #[eX x 10 0 s3 (vI x (-3) 10 0),eX x 10 1 s23 (vB x b6 10 1),eX x 10 2 s24 (.ref 539)] (x.N 10)) }),(aA x 11,{ cls := tyL,data := (.seq #[(vA x 12)] (x.N 11)) }),(aA x 12,(iX 234 (aA x 13))),(aA x 13,(oTX x 13 (vI x (-95) 13 0) (vR x 13 1) (vR x 13 2) (vA x 14))),(aA x 14,(iX 234 (aA x 15))),(aA x 15,(oTX x 15 (vI x (-96) 15 0) (vA x 16) (vA x 17) .none)),(aA x 16,{ cls := tyL,data := (.seq #[(vB x b43 16 0)] (x.N 16)) }),(aA x 17,{ cls := tyL,data := (.seq #[(vA x 18)] (x.N 17)) }),(aA x 18,(iX 255 (aA x 19))),(aA x 19,{ cls := tyD,data := (.dict #[eX x 19 0 s3 (vI x (-98) 19 0),eX x 19 1 s23 (vB x b44 19 1),eX x 19 2 s24 (vF x 20)] (x.N 19)) }),(bA x 20,oFunc (lamTold w.params) s26 s27 [(s28,(aA x 22))] (vR x 20 2001) (vA x 21) (.str s29 1295)),(aA x 21,{ cls := (.type "code"),data := (.fields #[(.str s26 (x.V 21 0)),(.str s27 (x.V 21 1)),(.str s30 (x.V 21 2)),(.int (615) 0),(.int (2) 0),(.int (0) 0),(.int (0) 0),(.int (19) 0),(x.Z 21 8),(.bool true),(.int (181) 0),(x.Z 21 11),.none,(x.Z 21 13),(x.Z 21 14),(x.Z 21 15),(.int (x.I 21 16) 0),(.int (615) 0),(.str s30 (x.V 21 18))]) }),(aA x 22,{ cls := (.type "cell"),data := (.cell (some (vA x 23))) }),(aA x 23,{ cls := tyL,data := (.seq #[(vI x (-2) 23 0)] (x.N 23)) })],touch := [5],na := 2,nt := 4,res := fun as ts => .ok (.ret (.ref (nth as 0))),postT := fun as ts => [some ({ cls := tyD,data := (.dict #[eX x 5 0 s7 (vA x 8),eX x 5 1 s8 (vB x b33 5 1),eX x 5 2 s9 (vR x 5 2),eX x 5 3 s10 (.int ((x.I 5 3 + 1) + 1) (nth ts 0)),eX x 5 4 s11 (vI x (0) 5 4),eX x 5 5 s12 (.ref (nth as 1)),eX x 5 6 s13 (.int (0) (nth ts 1)),eX x 5 7 s14 (vR x 5 7)] (x.N 5)) })],postN := fun as ts => [{ cls := tyL,data := (.seq #[(vI x (-2) 23 0)] 0) },{ cls := tyL,data := (.seq (frA false (nth ts 2)) (nth ts 3)) }],rawP := [21],rawQ := [2] }
theorem R_hTs7 (w : World) (x : Vars) : (S_hTs7 w x).Holds (VV w) :=
  sF (F := FN w) (vok _) 20000 ⟨cp q7 0 975 ([]), [59,29], [80,117,0,778,4]⟩ fun m t => by kernel_rfl
end Mine
end

section
open PySem PySem.W PySem.W.X PyProof.Rows
set_option maxRecDepth 1000000
set_option maxHeartbeats 0
namespace Mine
open PySem.W.ZFast (hashOfZ)
noncomputable def S_hPr0 (w : World) (x : Vars)  : Spec := { code := .call (.ref 797) ⟨[(vA x 4),(vA x 0),(.str s31 (x.U 2)),(vA x 14)],[]⟩,dep := 600,need := [!ltB 1000000000 ((x.I 5 3) + 1),!ltB 1000000000 (((x.I 5 3) + 1) + 1),!ltB 1000000000 ((((x.I 5 3) + 1) + 1) + 1),!ltB 1000000000 (((((x.I 5 3) + 1) + 1) + 1) + 1)],pre := [(aA x 0,(iX 234 (aA x 1))),(aA x 1,(oTX x 1 (vI x (-1) 1 0) (vA x 2) (vA x 3) .none)),(aA x 2,{ cls := tyL,data := (.seq #[(vB x b4 2 0),(vB x b5 2 1),(vB x b6 2 2),(vB x b7 2 3),(vB x b8 2 4),(vB x b9 2 5),(vB x b10 2 6),(vB x b11 2 7),(vB x b12 2 8),(vB x b13 2 9),(vB x b14 2 10),(vB x b15 2 11),(vB x b16 2 12),(vB x b17 2 13),(vB x b18 2 14),(vB x b19 2 15),(vB x b20 2 16),(vB x b21 2 17),(vB x b22 2 18),(vB x b23 2 19),(vB x b24 2 20),(vB x b25 2 21)] (x.N 2)) }),(aA x 3,{ cls := tyL,data := (.seq #[(vA x 7),(vR x 3 1),(vA x 15),(vR x 3 3),(vR x 3 4),(vR x 3 5),(vR x 3 6),(vR x 3 7),(vR x 3 8),(vR x 3 9),(vR x 3 10),(vR x 3 11),(vR x 3 12),(vR x 3 13),(vR x 3 14),(vR x 3 15),(vR x 3 16),(vR x 3 17),(vR x 3 18),(vR x 3 19),(vA x 0),(vB x b26 3 21)] (x.N 3)) }),(aA x 4,(iX 451 (aA x 5))),(aA x 5,{ cls := tyD,data := (.dict #[eX x 5 0 s7 (vA x 8),eX x 5 1 s8 (vB x b33 5 1),eX x 5 2 s9 (vA x 33),eX x 5 3 s10 (.int (x.I 5 3) (x.V 5 3)),eX x 5 4 s11 (vI x (0) 5 4),eX x 5 5 s12 (vA x 6),eX x 5 6 s13 (.int (x.I 5 6) (x.V 5 6)),eX x 5 7 s14 (vA x 17)] (x.N 5)) }),(aA x 6,{ cls := tyL,data := (.seq #[] (x.N 6)) }),(aA x 7,(iX 255 (aA x 10))),(aA x 8,(iX 53 (aA x 9))),(aA x 9,(oLX x 9)),(aA x 10,{ cls := tyD,data := (.dict #[eX x 10 0 s3 (vI x (-1) 10 0),eX x 10 1 s23 (vB x b4 10 1),eX x 10 2 s24 (vF x 11)] (x.N 10)) }),(bA x 11,oFunc (defPrint w.params) s32 s33 [(s34,(aA x 13))] (vR x 11 2001) (vA x 12) (.str s29 1295)),(aA x 12,{ cls := (.type "code"),data := (.fields #[(.str s32 (x.V 12 0)),(.str s33 (x.V 12 1)),(.str s30 (x.V 12 2)),(.int (585) 0),(.int (2) 0),(.int (0) 0),(.int (0) 0),(.int (19) 0),(x.Z 12 8),(.bool true),(.int (181) 0),(x.Z 12 11),.none,(x.Z 12 13),(x.Z 12 14),(x.Z 12 15),(.int (x.I 12 16) 0),(.int (585) 0),(.str s30 (x.V 12 18))]) }),(aA x 13,{ cls := (.type "cell"),data := (.cell (some (vA x 0))) }),(aA x 14,{ cls := tyL,data := (.seq #[(vB x b47 14 0),(vA x 21)] (x.N 14)) }),(aA x 15,(iX 255 (aA x 16))),(aA x 16,{ cls := tyD,data := (.dict #[eX x 16 0 s3 (vI x (-3) 16 0),eX x 16 1 s23 (vB x b6 16 1),eX x 16 2 s24 (.ref 539)] (x.N 16)) }),(aA x 17,(iX 234 (aA x 18))),(aA x 18,(oTX x 18 (vI x (-60) 18 0) (vA x 19) (vA x 20) .none)),(aA x 19,{ cls := tyL,data := (.seq #[(vB x b48 19 0)] (x.N 19)) }),(aA x 20,{ cls := tyL,data := (.seq #[(vR x 20 0)] (x.N 20)) }),(aA x 21,(iX 234 (aA x 22))),(aA x 22,(oTX x 22 (vI x (-95) 22 0) (vR x 22 1) (vR x 22 2) (vA x 23))),(aA x 23,(iX 234 (aA x 24))),(aA x 24,(oTX x 24 (vI x (-96) 24 0) (vA x 25) (vA x 26) .none)),(aA x 25,{ cls := tyL,data := (.seq #[(vB x b43 25 0)] (x.N 25)) }),(aA x 26,{ cls := tyL,data := (.seq #[(vA x 27)] (x.N 26)) }),(aA x 27,(iX 255 (aA x 28))),(aA x 28,{ cls := tyD,data := (.dict #[eX x 28 0 s3 (vI x (-98) 28 0),eX x 28 1 s23 (vB x b44 28 1),eX x 28 2 s24 (vF x 29)] (x.N 28)) }),(bA x 29,oFunc (lamTold w.params) s26 s27 [(s28,(aA x 31))] (vR x 29 2001) (vA x 30) (.str s29 1295)),(aA x 30,{ cls := (.type "code"),data := (.fields #[(.str s26 (x.V 30 0)),(.str s27 (x.V 30 1)),(.str s30 (x.V 30 2)),(.int (615) 0),(.int (2) 0),(.int (0) 0),(.int (0) 0),(.int (19) 0),(x.Z 30 8),(.bool true),(.int (181) 0),(x.Z 30 11),.none,(x.Z 30 13),(x.Z 30 14),(x.Z 30 15),(.int (x.I 30 16) 0),(.int (615) 0),(.str s30 (x.V 30 18))]) }),(aA x 31,{ cls := (.type "cell"),data := (.cell (some (vA x 32))) }),(aA x 32,{ cls := tyL,data := (.seq #[(vI x (7) 32 0)] (x.N 32)) }),(aA x 33,{ cls := tyL,data := (.seq #[] (x.N 33)) })],touch := [5,33],na := 2,nt := 5,res := fun as ts => .ok (.ret (.ref (nth as 0))),postT := fun as ts => [some ({ cls := tyD,data := (.dict #[eX x 5 0 s7 (vA x 8),eX x 5 1 s8 (vB x b33 5 1),eX x 5 2 s9 (vA x 33),eX x 5 3 s10 (.int ((((x.I 5 3 + 1) + 1) + 1) + 1) (nth ts 0)),eX x 5 4 s11 (vI x (0) 5 4),eX x 5 5 s12 (.ref (nth as 1)),eX x 5 6 s13 (.int (0) (nth ts 1)),eX x 5 7 s14 (vA x 17)] (x.N 5)) }),some ({ cls := tyL,data := (.seq #[(.bytes b49 (nth ts 2))] (x.N 33 + 1)) })],postN := fun as ts => [{ cls := tyL,data := (.seq #[] 0) },{ cls := tyL,data := (.seq (frA false (nth ts 3)) (nth ts 4)) }],rawP := [12,30],rawQ := [3] }
theorem R_hPr0 (w : World) (x : Vars) : (S_hPr0 w x).Holds (VV w) :=
  sF (F := FN w) (vok _) 20000 ⟨q8, [119,39], [192,257,253,0,778,8]⟩ fun m t => by kernel_rfl
noncomputable def S_hPr1 (w : World) (x : Vars)  : Spec := { code := .call (.ref 797) ⟨[(vA x 4),(vA x 0),(.str s31 (x.U 2)),(vA x 14)],[]⟩,dep := 600,need := [!ltB 1000000000 ((x.I 5 3) + 1),!ltB 1000000000 (((x.I 5 3) + 1) + 1),!ltB 1000000000 ((((x.I 5 3) + 1) + 1) + 1),!ltB 1000000000 (((((x.I 5 3) + 1) + 1) + 1) + 1)],pre := [(aA x 0,(iX 234 (aA x 1))),(aA x 1,(oTX x 1 (vI x (-1) 1 0) (vA x 2) (vA x 3) .none)),(aA x 2,{ cls := tyL,data := (.seq #[(vB x b4 2 0),(vB x b5 2 1),(vB x b6 2 2),(vB x b7 2 3),(vB x b8 2 4),(vB x b9 2 5),(vB x b10 2 6),(vB x b11 2 7),(vB x b12 2 8),(vB x b13 2 9),(vB x b14 2 10),(vB x b15 2 11),(vB x b16 2 12),(vB x b17 2 13),(vB x b18 2 14),(vB x b19 2 15),(vB x b20 2 16),(vB x b21 2 17),(vB x b22 2 18),(vB x b23 2 19),(vB x b24 2 20),(vB x b25 2 21)] (x.N 2)) }),(aA x 3,{ cls := tyL,data := (.seq #[(vA x 7),(vR x 3 1),(vA x 15),(vR x 3 3),(vR x 3 4),(vR x 3 5),(vR x 3 6),(vR x 3 7),(vR x 3 8),(vR x 3 9),(vR x 3 10),(vR x 3 11),(vR x 3 12),(vR x 3 13),(vR x 3 14),(vR x 3 15),(vR x 3 16),(vR x 3 17),(vR x 3 18),(vR x 3 19),(vA x 0),(vB x b26 3 21)] (x.N 3)) }),(aA x 4,(iX 451 (aA x 5))),(aA x 5,{ cls := tyD,data := (.dict #[eX x 5 0 s7 (vA x 8),eX x 5 1 s8 (vB x b33 5 1),eX x 5 2 s9 (vA x 33),eX x 5 3 s10 (.int (x.I 5 3) (x.V 5 3)),eX x 5 4 s11 (vI x (0) 5 4),eX x 5 5 s12 (vA x 6),eX x 5 6 s13 (.int (x.I 5 6) (x.V 5 6)),eX x 5 7 s14 (vA x 17)] (x.N 5)) }),(aA x 6,{ cls := tyL,data := (.seq #[] (x.N 6)) }),(aA x 7,(iX 255 (aA x 10))),(aA x 8,(iX 53 (aA x 9))),(aA x 9,(oLX x 9)),(aA x 10,{ cls := tyD,data := (.dict #[eX x 10 0 s3 (vI x (-1) 10 0),eX x 10 1 s23 (vB x b4 10 1),eX x 10 2 s24 (vF x 11)] (x.N 10)) }),(bA x 11,oFunc (defPrint w.params) s32 s33 [(s34,(aA x 13))] (vR x 11 2001) (vA x 12) (.str s29 1295)),(aA x 12,{ cls := (.type "code"),data := (.fields #[(.str s32 (x.V 12 0)),(.str s33 (x.V 12 1)),(.str s30 (x.V 12 2)),(.int (585) 0),(.int (2) 0),(.int (0) 0),(.int (0) 0),(.int (19) 0),(x.Z 12 8),(.bool true),(.int (181) 0),(x.Z 12 11),.none,(x.Z 12 13),(x.Z 12 14),(x.Z 12 15),(.int (x.I 12 16) 0),(.int (585) 0),(.str s30 (x.V 12 18))]) }),(aA x 13,{ cls := (.type "cell"),data := (.cell (some (vA x 0))) }),(aA x 14,{ cls := tyL,data := (.seq #[(vB x b47 14 0),(vA x 21)] (x.N 14)) }),(aA x 15,(iX 255 (aA x 16))),(aA x 16,{ cls := tyD,data := (.dict #[eX x 16 0 s3 (vI x (-3) 16 0),eX x 16 1 s23 (vB x b6 16 1),eX x 16 2 s24 (.ref 539)] (x.N 16)) }),(aA x 17,(iX 234 (aA x 18))),(aA x 18,(oTX x 18 (vI x (-60) 18 0) (vA x 19) (vA x 20) .none)),(aA x 19,{ cls := tyL,data := (.seq #[(vB x b48 19 0)] (x.N 19)) }),(aA x 20,{ cls := tyL,data := (.seq #[(vR x 20 0)] (x.N 20)) }),(aA x 21,(iX 234 (aA x 22))),(aA x 22,(oTX x 22 (vI x (-95) 22 0) (vR x 22 1) (vR x 22 2) (vA x 23))),(aA x 23,(iX 234 (aA x 24))),(aA x 24,(oTX x 24 (vI x (-96) 24 0) (vA x 25) (vA x 26) .none)),(aA x 25,{ cls := tyL,data := (.seq #[(vB x b43 25 0)] (x.N 25)) }),(aA x 26,{ cls := tyL,data := (.seq #[(vA x 27)] (x.N 26)) }),(aA x 27,(iX 255 (aA x 28))),(aA x 28,{ cls := tyD,data := (.dict #[eX x 28 0 s3 (vI x (-98) 28 0),eX x 28 1 s23 (vB x b44 28 1),eX x 28 2 s24 (vF x 29)] (x.N 28)) }),(bA x 29,oFunc (lamTold w.params) s26 s27 [(s28,(aA x 31))] (vR x 29 2001) (vA x 30) (.str s29 1295)),(aA x 30,{ cls := (.type "code"),data := (.fields #[(.str s26 (x.V 30 0)),(.str s27 (x.V 30 1)),(.str s30 (x.V 30 2)),(.int (615) 0),(.int (2) 0),(.int (0) 0),(.int (0) 0),(.int (19) 0),(x.Z 30 8),(.bool true),(.int (181) 0),(x.Z 30 11),.none,(x.Z 30 13),(x.Z 30 14),(x.Z 30 15),(.int (x.I 30 16) 0),(.int (615) 0),(.str s30 (x.V 30 18))]) }),(aA x 31,{ cls := (.type "cell"),data := (.cell (some (vA x 32))) }),(aA x 32,{ cls := tyL,data := (.seq #[(vB x b45 32 0)] (x.N 32)) }),(aA x 33,{ cls := tyL,data := (.seq #[] (x.N 33)) })],touch := [5,33],na := 2,nt := 5,res := fun as ts => .ok (.ret (.ref (nth as 0))),postT := fun as ts => [some ({ cls := tyD,data := (.dict #[eX x 5 0 s7 (vA x 8),eX x 5 1 s8 (vB x b33 5 1),eX x 5 2 s9 (vA x 33),eX x 5 3 s10 (.int ((((x.I 5 3 + 1) + 1) + 1) + 1) (nth ts 0)),eX x 5 4 s11 (vI x (0) 5 4),eX x 5 5 s12 (.ref (nth as 1)),eX x 5 6 s13 (.int (0) (nth ts 1)),eX x 5 7 s14 (vA x 17)] (x.N 5)) }),some ({ cls := tyL,data := (.seq #[(.bytes b50 (nth ts 2))] (x.N 33 + 1)) })],postN := fun as ts => [{ cls := tyL,data := (.seq #[] 0) },{ cls := tyL,data := (.seq (frA false (nth ts 3)) (nth ts 4)) }],rawP := [12,30],rawQ := [3] }
theorem R_hPr1 (w : World) (x : Vars) : (S_hPr1 w x).Holds (VV w) :=
  sF (F := FN w) (vok _) 20000 ⟨cp q8 0 1930 (ap [106] (cp q8 969 21 (ap [108] (cp q8 2077 86 ([]))))), [108,39], [192,245,241,0,778,8]⟩ fun m t => by kernel_rfl
noncomputable def S_hPr2 (w : World) (x : Vars)  : Spec := { code := .call (.ref 797) ⟨[(vA x 4),(vA x 0),(.str s31 (x.U 2)),(vA x 14)],[]⟩,dep := 600,need := [!ltB 1000000000 ((x.I 5 3) + 1),!ltB 1000000000 (((x.I 5 3) + 1) + 1),!ltB 1000000000 ((((x.I 5 3) + 1) + 1) + 1),!ltB 1000000000 (((((x.I 5 3) + 1) + 1) + 1) + 1)],bel := some ([envF (o811 w.params) 811 (aA x 33) s35 [(s28,(aA x 31))],envF (o830 w.params) 830 (aA x 34) s2 []],x.u),pre := [(aA x 0,(iX 234 (aA x 1))),(aA x 1,(oTX x 1 (vI x (-1) 1 0) (vA x 2) (vA x 3) .none)),(aA x 2,{ cls := tyL,data := (.seq #[(vB x b4 2 0),(vB x b5 2 1),(vB x b6 2 2),(vB x b7 2 3),(vB x b8 2 4),(vB x b9 2 5),(vB x b10 2 6),(vB x b11 2 7),(vB x b12 2 8),(vB x b13 2 9),(vB x b14 2 10),(vB x b15 2 11),(vB x b16 2 12),(vB x b17 2 13),(vB x b18 2 14),(vB x b19 2 15),(vB x b20 2 16),(vB x b21 2 17),(vB x b22 2 18),(vB x b23 2 19),(vB x b24 2 20),(vB x b25 2 21)] (x.N 2)) }),(aA x 3,{ cls := tyL,data := (.seq #[(vA x 7),(vR x 3 1),(vA x 15),(vR x 3 3),(vR x 3 4),(vR x 3 5),(vR x 3 6),(vR x 3 7),(vR x 3 8),(vR x 3 9),(vR x 3 10),(vR x 3 11),(vR x 3 12),(vR x 3 13),(vR x 3 14),(vR x 3 15),(vR x 3 16),(vR x 3 17),(vR x 3 18),(vR x 3 19),(vA x 0),(vB x b26 3 21)] (x.N 3)) }),(aA x 4,(iX 451 (aA x 5))),(aA x 5,{ cls := tyD,data := (.dict #[eX x 5 0 s7 (vA x 8),eX x 5 1 s8 (vB x b33 5 1),eX x 5 2 s9 (vR x 5 2),eX x 5 3 s10 (.int (x.I 5 3) (x.V 5 3)),eX x 5 4 s11 (vI x (0) 5 4),eX x 5 5 s12 (vA x 6),eX x 5 6 s13 (.int (x.I 5 6) (x.V 5 6)),eX x 5 7 s14 (vA x 17)] (x.N 5)) }),(aA x 6,{ cls := tyL,data := (.seq #[] (x.N 6)) }),(aA x 7,(iX 255 (aA x 10))),(aA x 8,(iX 53 (aA x 9))),(aA x 9,(oLX x 9)),(aA x 10,{ cls := tyD,data := (.dict #[eX x 10 0 s3 (vI x (-1) 10 0),eX x 10 1 s23 (vB x b4 10 1),eX x 10 2 s24 (vF x 11)] (x.N 10)) }),(bA x 11,oFunc (defPrint w.params) s32 s33 [(s34,(aA x 13))] (vR x 11 2001) (vA x 12) (.str s29 1295)),(aA x 12,{ cls := (.type "code"),data := (.fields #[(.str s32 (x.V 12 0)),(.str s33 (x.V 12 1)),(.str s30 (x.V 12 2)),(.int (585) 0),(.int (2) 0),(.int (0) 0),(.int (0) 0),(.int (19) 0),(x.Z 12 8),(.bool true),(.int (181) 0),(x.Z 12 11),.none,(x.Z 12 13),(x.Z 12 14),(x.Z 12 15),(.int (x.I 12 16) 0),(.int (585) 0),(.str s30 (x.V 12 18))]) }),(aA x 13,{ cls := (.type "cell"),data := (.cell (some (vA x 0))) }),(aA x 14,{ cls := tyL,data := (.seq #[(vB x b47 14 0),(vA x 21)] (x.N 14)) }),(aA x 15,(iX 255 (aA x 16))),(aA x 16,{ cls := tyD,data := (.dict #[eX x 16 0 s3 (vI x (-3) 16 0),eX x 16 1 s23 (vB x b6 16 1),eX x 16 2 s24 (.ref 539)] (x.N 16)) }),(aA x 17,(iX 234 (aA x 18))),(aA x 18,(oTX x 18 (vI x (-60) 18 0) (vA x 19) (vA x 20) .none)),(aA x 19,{ cls := tyL,data := (.seq #[(vB x b48 19 0)] (x.N 19)) }),(aA x 20,{ cls := tyL,data := (.seq #[(vR x 20 0)] (x.N 20)) }),(aA x 21,(iX 234 (aA x 22))),(aA x 22,(oTX x 22 (vI x (-95) 22 0) (vR x 22 1) (vR x 22 2) (vA x 23))),(aA x 23,(iX 234 (aA x 24))),(aA x 24,(oTX x 24 (vI x (-96) 24 0) (vA x 25) (vA x 26) .none)),(aA x 25,{ cls := tyL,data := (.seq #[(vB x b43 25 0)] (x.N 25)) }),(aA x 26,{ cls := tyL,data := (.seq #[(vA x 27)] (x.N 26)) }),(aA x 27,(iX 255 (aA x 28))),(aA x 28,{ cls := tyD,data := (.dict #[eX x 28 0 s3 (vI x (-98) 28 0),eX x 28 1 s23 (vB x b44 28 1),eX x 28 2 s24 (vF x 29)] (x.N 28)) }),(bA x 29,oFunc (lamTold w.params) s26 s27 [(s28,(aA x 31))] (vR x 29 2001) (vA x 30) (.str s29 1295)),(aA x 30,{ cls := (.type "code"),data := (.fields #[(.str s26 (x.V 30 0)),(.str s27 (x.V 30 1)),(.str s30 (x.V 30 2)),(.int (615) 0),(.int (2) 0),(.int (0) 0),(.int (0) 0),(.int (19) 0),(x.Z 30 8),(.bool true),(.int (181) 0),(x.Z 30 11),.none,(x.Z 30 13),(x.Z 30 14),(x.Z 30 15),(.int (x.I 30 16) 0),(.int (615) 0),(.str s30 (x.V 30 18))]) }),(aA x 31,{ cls := (.type "cell"),data := (.cell (some (vA x 32))) }),(aA x 32,{ cls := tyL,data := (.seq #[(.bool true)] (x.N 32)) }),(aA x 33,{ cls := (.type "frame"),data := (.dict (x.E 33) (x.N 33)) }),(aA x 34,lfO false x.u (x.E 34) (x.N 34))],touch := [5,33,34],na := 1,nt := 5,res := fun as ts => .ok (.ret (.bytes b51 (nth ts 0))),postT := fun as ts => [some ({ cls := tyD,data := (.dict #[eX x 5 0 s7 (vA x 8),eX x 5 1 s8 (vB x b33 5 1),eX x 5 2 s9 (vR x 5 2),eX x 5 3 s10 (.int ((((x.I 5 3 + 1) + 1) + 1) + 1) (nth ts 1)),eX x 5 4 s11 (vI x (0) 5 4),eX x 5 5 s12 (.ref (nth as 0)),eX x 5 6 s13 (.int (8) (nth ts 2)),eX x 5 7 s14 (vA x 17)] (x.N 5)) }),some ({ cls := (.type "frame"),data := (.dict (x.E 33) (x.N 33)),slots := #[(some (.ref 810)),(some (.ref 3)),none,(some (vA x 34)),none,(some (.ref 811)),(some (.ref 0)),(some (vA x 31))] }),some (lfO true x.u (x.E 34) (x.N 34))],postN := fun as ts => [{ cls := tyL,data := (.seq (frA true (nth ts 3)) (nth ts 4)) }],rawP := [12,30,33,34],rawQ := [1,2,3] }
theorem R_hPr2 (w : World) (x : Vars) : (S_hPr2 w x).Holds (VV w) :=
  sF (F := FN w) (vok _) 20000 ⟨q9, [40], [241,192,229,777,46,778,7]⟩ fun m t => by kernel_rfl
noncomputable def S_hPr3 (w : World) (x : Vars)  : Spec := { code := .call (.ref 797) ⟨[(vA x 4),(vA x 0),(.str s31 (x.U 2)),(vA x 14)],[]⟩,dep := 600,need := [!ltB 1000000000 ((x.I 5 3) + 1),!ltB 1000000000 (((x.I 5 3) + 1) + 1),!ltB 1000000000 ((((x.I 5 3) + 1) + 1) + 1),!ltB 1000000000 (((((x.I 5 3) + 1) + 1) + 1) + 1)],bel := some ([envF (o811 w.params) 811 (aA x 33) s35 [(s28,(aA x 31))],envF (o830 w.params) 830 (aA x 34) s2 []],x.u),pre := [(aA x 0,(iX 234 (aA x 1))),(aA x 1,(oTX x 1 (vI x (-1) 1 0) (vA x 2) (vA x 3) .none)),(aA x 2,{ cls := tyL,data := (.seq #[(vB x b4 2 0),(vB x b5 2 1),(vB x b6 2 2),(vB x b7 2 3),(vB x b8 2 4),(vB x b9 2 5),(vB x b10 2 6),(vB x b11 2 7),(vB x b12 2 8),(vB x b13 2 9),(vB x b14 2 10),(vB x b15 2 11),(vB x b16 2 12),(vB x b17 2 13),(vB x b18 2 14),(vB x b19 2 15),(vB x b20 2 16),(vB x b21 2 17),(vB x b22 2 18),(vB x b23 2 19),(vB x b24 2 20),(vB x b25 2 21)] (x.N 2)) }),(aA x 3,{ cls := tyL,data := (.seq #[(vA x 7),(vR x 3 1),(vA x 15),(vR x 3 3),(vR x 3 4),(vR x 3 5),(vR x 3 6),(vR x 3 7),(vR x 3 8),(vR x 3 9),(vR x 3 10),(vR x 3 11),(vR x 3 12),(vR x 3 13),(vR x 3 14),(vR x 3 15),(vR x 3 16),(vR x 3 17),(vR x 3 18),(vR x 3 19),(vA x 0),(vB x b26 3 21)] (x.N 3)) }),(aA x 4,(iX 451 (aA x 5))),(aA x 5,{ cls := tyD,data := (.dict #[eX x 5 0 s7 (vA x 8),eX x 5 1 s8 (vB x b33 5 1),eX x 5 2 s9 (vR x 5 2),eX x 5 3 s10 (.int (x.I 5 3) (x.V 5 3)),eX x 5 4 s11 (vI x (0) 5 4),eX x 5 5 s12 (vA x 6),eX x 5 6 s13 (.int (x.I 5 6) (x.V 5 6)),eX x 5 7 s14 (vA x 17)] (x.N 5)) }),(aA x 6,{ cls := tyL,data := (.seq #[] (x.N 6)) }),(aA x 7,(iX 255 (aA x 10))),(aA x 8,(iX 53 (aA x 9))),(aA x 9,(oLX x 9)),(aA x 10,{ cls := tyD,data := (.dict #[eX x 10 0 s3 (vI x (-1) 10 0),eX x 10 1 s23 (vB x b4 10 1),eX x 10 2 s24 (vF x 11)] (x.N 10)) }),(bA x 11,oFunc (defPrint w.params) s32 s33 [(s34,(aA x 13))] (vR x 11 2001) (vA x 12) (.str s29 1295)),(aA x 12,{ cls := (.type "code"),data := (.fields #[(.str s32 (x.V 12 0)),(.str s33 (x.V 12 1)),(.str s30 (x.V 12 2)),(.int (585) 0),(.int (2) 0),(.int (0) 0),(.int (0) 0),(.int (19) 0),(x.Z 12 8),(.bool true),(.int (181) 0),(x.Z 12 11),.none,(x.Z 12 13),(x.Z 12 14),(x.Z 12 15),(.int (x.I 12 16) 0),(.int (585) 0),(.str s30 (x.V 12 18))]) }),(aA x 13,{ cls := (.type "cell"),data := (.cell (some (vA x 0))) }),(aA x 14,{ cls := tyL,data := (.seq #[(vB x b47 14 0),(vA x 21)] (x.N 14)) }),(aA x 15,(iX 255 (aA x 16))),(aA x 16,{ cls := tyD,data := (.dict #[eX x 16 0 s3 (vI x (-3) 16 0),eX x 16 1 s23 (vB x b6 16 1),eX x 16 2 s24 (.ref 539)] (x.N 16)) }),(aA x 17,(iX 234 (aA x 18))),(aA x 18,(oTX x 18 (vI x (-60) 18 0) (vA x 19) (vA x 20) .none)),(aA x 19,{ cls := tyL,data := (.seq #[(vB x b48 19 0)] (x.N 19)) }),(aA x 20,{ cls := tyL,data := (.seq #[(vR x 20 0)] (x.N 20)) }),(aA x 21,(iX 234 (aA x 22))),(aA x 22,(oTX x 22 (vI x (-95) 22 0) (vR x 22 1) (vR x 22 2) (vA x 23))),(aA x 23,(iX 234 (aA x 24))),(aA x 24,(oTX x 24 (vI x (-96) 24 0) (vA x 25) (vA x 26) .none)),(aA x 25,{ cls := tyL,data := (.seq #[(vB x b43 25 0)] (x.N 25)) }),(aA x 26,{ cls := tyL,data := (.seq #[(vA x 27)] (x.N 26)) }),(aA x 27,(iX 255 (aA x 28))),(aA x 28,{ cls := tyD,data := (.dict #[eX x 28 0 s3 (vI x (-98) 28 0),eX x 28 1 s23 (vB x b44 28 1),eX x 28 2 s24 (vF x 29)] (x.N 28)) }),(bA x 29,oFunc (lamTold w.params) s26 s27 [(s28,(aA x 31))] (vR x 29 2001) (vA x 30) (.str s29 1295)),(aA x 30,{ cls := (.type "code"),data := (.fields #[(.str s26 (x.V 30 0)),(.str s27 (x.V 30 1)),(.str s30 (x.V 30 2)),(.int (615) 0),(.int (2) 0),(.int (0) 0),(.int (0) 0),(.int (19) 0),(x.Z 30 8),(.bool true),(.int (181) 0),(x.Z 30 11),.none,(x.Z 30 13),(x.Z 30 14),(x.Z 30 15),(.int (x.I 30 16) 0),(.int (615) 0),(.str s30 (x.V 30 18))]) }),(aA x 31,{ cls := (.type "cell"),data := (.cell (some (vA x 32))) }),(aA x 32,{ cls := tyL,data := (.seq #[.none] (x.N 32)) }),(aA x 33,{ cls := (.type "frame"),data := (.dict (x.E 33) (x.N 33)) }),(aA x 34,lfO false x.u (x.E 34) (x.N 34))],touch := [5,33,34],na := 1,nt := 5,res := fun as ts => .ok (.ret (.bytes b51 (nth ts 0))),postT := fun as ts => [some ({ cls := tyD,data := (.dict #[eX x 5 0 s7 (vA x 8),eX x 5 1 s8 (vB x b33 5 1),eX x 5 2 s9 (vR x 5 2),eX x 5 3 s10 (.int ((((x.I 5 3 + 1) + 1) + 1) + 1) (nth ts 1)),eX x 5 4 s11 (vI x (0) 5 4),eX x 5 5 s12 (.ref (nth as 0)),eX x 5 6 s13 (.int (8) (nth ts 2)),eX x 5 7 s14 (vA x 17)] (x.N 5)) }),some ({ cls := (.type "frame"),data := (.dict (x.E 33) (x.N 33)),slots := #[(some (.ref 810)),(some (.ref 3)),none,(some (vA x 34)),none,(some (.ref 811)),(some (.ref 0)),(some (vA x 31))] }),some (lfO true x.u (x.E 34) (x.N 34))],postN := fun as ts => [{ cls := tyL,data := (.seq (frA true (nth ts 3)) (nth ts 4)) }],rawP := [12,30,33,34],rawQ := [1,2,3] }
theorem R_hPr3 (w : World) (x : Vars) : (S_hPr3 w x).Holds (VV w) :=
  sF (F := FN w) (vok _) 20000 ⟨cp q9 0 1944 (cp q9 1949 320 ([])), [40], [242,192,229,777,46,778,7]⟩ fun m t => by kernel_rfl
end Mine
end

section
open PySem PySem.W PySem.W.X PyProof.Rows
set_option maxRecDepth 1000000
set_option maxHeartbeats 0
namespace Mine
open PySem.W.ZFast (hashOfZ)
noncomputable def S_hPr4 (w : World) (x : Vars)  : Spec := { code := .call (.ref 797) ⟨[(vA x 4),(vA x 0),(.str s31 (x.U 2)),(vA x 14)],[]⟩,dep := 600,need := [!ltB 1000000000 ((x.I 5 3) + 1),!ltB 1000000000 (((x.I 5 3) + 1) + 1),!ltB 1000000000 ((((x.I 5 3) + 1) + 1) + 1),!ltB 1000000000 (((((x.I 5 3) + 1) + 1) + 1) + 1)],bel := some ([envF (o811 w.params) 811 (aA x 33) s35 [(s28,(aA x 31))],envF (o830 w.params) 830 (aA x 34) s2 []],x.u),pre := [(aA x 0,(iX 234 (aA x 1))),(aA x 1,(oTX x 1 (vI x (-1) 1 0) (vA x 2) (vA x 3) .none)),(aA x 2,{ cls := tyL,data := (.seq #[(vB x b4 2 0),(vB x b5 2 1),(vB x b6 2 2),(vB x b7 2 3),(vB x b8 2 4),(vB x b9 2 5),(vB x b10 2 6),(vB x b11 2 7),(vB x b12 2 8),(vB x b13 2 9),(vB x b14 2 10),(vB x b15 2 11),(vB x b16 2 12),(vB x b17 2 13),(vB x b18 2 14),(vB x b19 2 15),(vB x b20 2 16),(vB x b21 2 17),(vB x b22 2 18),(vB x b23 2 19),(vB x b24 2 20),(vB x b25 2 21)] (x.N 2)) }),(aA x 3,{ cls := tyL,data := (.seq #[(vA x 7),(vR x 3 1),(vA x 15),(vR x 3 3),(vR x 3 4),(vR x 3 5),(vR x 3 6),(vR x 3 7),(vR x 3 8),(vR x 3 9),(vR x 3 10),(vR x 3 11),(vR x 3 12),(vR x 3 13),(vR x 3 14),(vR x 3 15),(vR x 3 16),(vR x 3 17),(vR x 3 18),(vR x 3 19),(vA x 0),(vB x b26 3 21)] (x.N 3)) }),(aA x 4,(iX 451 (aA x 5))),(aA x 5,{ cls := tyD,data := (.dict #[eX x 5 0 s7 (vA x 8),eX x 5 1 s8 (vB x b33 5 1),eX x 5 2 s9 (vR x 5 2),eX x 5 3 s10 (.int (x.I 5 3) (x.V 5 3)),eX x 5 4 s11 (vI x (0) 5 4),eX x 5 5 s12 (vA x 6),eX x 5 6 s13 (.int (x.I 5 6) (x.V 5 6)),eX x 5 7 s14 (vA x 17)] (x.N 5)) }),(aA x 6,{ cls := tyL,data := (.seq #[] (x.N 6)) }),(aA x 7,(iX 255 (aA x 10))),(aA x 8,(iX 53 (aA x 9))),(aA x 9,(oLX x 9)),(aA x 10,{ cls := tyD,data := (.dict #[eX x 10 0 s3 (vI x (-1) 10 0),eX x 10 1 s23 (vB x b4 10 1),eX x 10 2 s24 (vF x 11)] (x.N 10)) }),(bA x 11,oFunc (defPrint w.params) s32 s33 [(s34,(aA x 13))] (vR x 11 2001) (vA x 12) (.str s29 1295)),(aA x 12,{ cls := (.type "code"),data := (.fields #[(.str s32 (x.V 12 0)),(.str s33 (x.V 12 1)),(.str s30 (x.V 12 2)),(.int (585) 0),(.int (2) 0),(.int (0) 0),(.int (0) 0),(.int (19) 0),(x.Z 12 8),(.bool true),(.int (181) 0),(x.Z 12 11),.none,(x.Z 12 13),(x.Z 12 14),(x.Z 12 15),(.int (x.I 12 16) 0),(.int (585) 0),(.str s30 (x.V 12 18))]) }),(aA x 13,{ cls := (.type "cell"),data := (.cell (some (vA x 0))) }),(aA x 14,{ cls := tyL,data := (.seq #[(vB x b47 14 0),(vA x 21)] (x.N 14)) }),(aA x 15,(iX 255 (aA x 16))),(aA x 16,{ cls := tyD,data := (.dict #[eX x 16 0 s3 (vI x (-3) 16 0),eX x 16 1 s23 (vB x b6 16 1),eX x 16 2 s24 (.ref 539)] (x.N 16)) }),(aA x 17,(iX 234 (aA x 18))),(aA x 18,(oTX x 18 (vI x (-60) 18 0) (vA x 19) (vA x 20) .none)),(aA x 19,{ cls := tyL,data := (.seq #[(vB x b48 19 0)] (x.N 19)) }),(aA x 20,{ cls := tyL,data := (.seq #[(vR x 20 0)] (x.N 20)) }),(aA x 21,(iX 234 (aA x 22))),(aA x 22,(oTX x 22 (vI x (-95) 22 0) (vR x 22 1) (vR x 22 2) (vA x 23))),(aA x 23,(iX 234 (aA x 24))),(aA x 24,(oTX x 24 (vI x (-96) 24 0) (vA x 25) (vA x 26) .none)),(aA x 25,{ cls := tyL,data := (.seq #[(vB x b43 25 0)] (x.N 25)) }),(aA x 26,{ cls := tyL,data := (.seq #[(vA x 27)] (x.N 26)) }),(aA x 27,(iX 255 (aA x 28))),(aA x 28,{ cls := tyD,data := (.dict #[eX x 28 0 s3 (vI x (-98) 28 0),eX x 28 1 s23 (vB x b44 28 1),eX x 28 2 s24 (vF x 29)] (x.N 28)) }),(bA x 29,oFunc (lamTold w.params) s26 s27 [(s28,(aA x 31))] (vR x 29 2001) (vA x 30) (.str s29 1295)),(aA x 30,{ cls := (.type "code"),data := (.fields #[(.str s26 (x.V 30 0)),(.str s27 (x.V 30 1)),(.str s30 (x.V 30 2)),(.int (615) 0),(.int (2) 0),(.int (0) 0),(.int (0) 0),(.int (19) 0),(x.Z 30 8),(.bool true),(.int (181) 0),(x.Z 30 11),.none,(x.Z 30 13),(x.Z 30 14),(x.Z 30 15),(.int (x.I 30 16) 0),(.int (615) 0),(.str s30 (x.V 30 18))]) }),(aA x 31,{ cls := (.type "cell"),data := (.cell (some (vA x 32))) }),(aA x 32,{ cls := tyL,data := (.seq #[] (x.N 32)) }),(aA x 33,{ cls := (.type "frame"),data := (.dict (x.E 33) (x.N 33)) }),(aA x 34,lfO false x.u (x.E 34) (x.N 34))],touch := [5,33,34],na := 1,nt := 5,res := fun as ts => .ok (.ret (.bytes b51 (nth ts 0))),postT := fun as ts => [some ({ cls := tyD,data := (.dict #[eX x 5 0 s7 (vA x 8),eX x 5 1 s8 (vB x b33 5 1),eX x 5 2 s9 (vR x 5 2),eX x 5 3 s10 (.int ((((x.I 5 3 + 1) + 1) + 1) + 1) (nth ts 1)),eX x 5 4 s11 (vI x (0) 5 4),eX x 5 5 s12 (.ref (nth as 0)),eX x 5 6 s13 (.int (8) (nth ts 2)),eX x 5 7 s14 (vA x 17)] (x.N 5)) }),some ({ cls := (.type "frame"),data := (.dict (x.E 33) (x.N 33)),slots := #[(some (.ref 810)),(some (.ref 3)),none,(some (vA x 34)),none,(some (.ref 811)),(some (.ref 0)),(some (vA x 31))] }),some (lfO true x.u (x.E 34) (x.N 34))],postN := fun as ts => [{ cls := tyL,data := (.seq (frA true (nth ts 3)) (nth ts 4)) }],rawP := [12,30,33,34],rawQ := [1,2,3] }
theorem R_hPr4 (w : World) (x : Vars) : (S_hPr4 w x).Holds (VV w) :=
  sF (F := FN w) (vok _) 20000 ⟨cp q9 0 1834 (ap [1] (cp q9 1167 17 (cp q9 1858 86 (cp q9 1949 320 ([]))))), [40], [241,192,228,777,46,778,7]⟩ fun m t => by kernel_rfl
noncomputable def S_hPr5 (w : World) (x : Vars)  : Spec := { code := .call (.ref 797) ⟨[(vA x 4),(vA x 0),(.str s31 (x.U 2)),(vA x 14)],[]⟩,dep := 600,need := [!ltB 1000000000 ((x.I 5 3) + 1),!ltB 1000000000 (((x.I 5 3) + 1) + 1),!ltB 1000000000 ((((x.I 5 3) + 1) + 1) + 1),!ltB 1000000000 (((((x.I 5 3) + 1) + 1) + 1) + 1)],bel := some ([envF (o811 w.params) 811 (aA x 34) s35 [(s28,(aA x 31))],envF (o830 w.params) 830 (aA x 35) s2 []],x.u),pre := [(aA x 0,(iX 234 (aA x 1))),(aA x 1,(oTX x 1 (vI x (-1) 1 0) (vA x 2) (vA x 3) .none)),(aA x 2,{ cls := tyL,data := (.seq #[(vB x b4 2 0),(vB x b5 2 1),(vB x b6 2 2),(vB x b7 2 3),(vB x b8 2 4),(vB x b9 2 5),(vB x b10 2 6),(vB x b11 2 7),(vB x b12 2 8),(vB x b13 2 9),(vB x b14 2 10),(vB x b15 2 11),(vB x b16 2 12),(vB x b17 2 13),(vB x b18 2 14),(vB x b19 2 15),(vB x b20 2 16),(vB x b21 2 17),(vB x b22 2 18),(vB x b23 2 19),(vB x b24 2 20),(vB x b25 2 21)] (x.N 2)) }),(aA x 3,{ cls := tyL,data := (.seq #[(vA x 7),(vR x 3 1),(vA x 15),(vR x 3 3),(vR x 3 4),(vR x 3 5),(vR x 3 6),(vR x 3 7),(vR x 3 8),(vR x 3 9),(vR x 3 10),(vR x 3 11),(vR x 3 12),(vR x 3 13),(vR x 3 14),(vR x 3 15),(vR x 3 16),(vR x 3 17),(vR x 3 18),(vR x 3 19),(vA x 0),(vB x b26 3 21)] (x.N 3)) }),(aA x 4,(iX 451 (aA x 5))),(aA x 5,{ cls := tyD,data := (.dict #[eX x 5 0 s7 (vA x 8),eX x 5 1 s8 (vB x b33 5 1),eX x 5 2 s9 (vR x 5 2),eX x 5 3 s10 (.int (x.I 5 3) (x.V 5 3)),eX x 5 4 s11 (vI x (0) 5 4),eX x 5 5 s12 (vA x 6),eX x 5 6 s13 (.int (x.I 5 6) (x.V 5 6)),eX x 5 7 s14 (vA x 17)] (x.N 5)) }),(aA x 6,{ cls := tyL,data := (.seq #[] (x.N 6)) }),(aA x 7,(iX 255 (aA x 10))),(aA x 8,(iX 53 (aA x 9))),(aA x 9,(oLX x 9)),(aA x 10,{ cls := tyD,data := (.dict #[eX x 10 0 s3 (vI x (-1) 10 0),eX x 10 1 s23 (vB x b4 10 1),eX x 10 2 s24 (vF x 11)] (x.N 10)) }),(bA x 11,oFunc (defPrint w.params) s32 s33 [(s34,(aA x 13))] (vR x 11 2001) (vA x 12) (.str s29 1295)),(aA x 12,{ cls := (.type "code"),data := (.fields #[(.str s32 (x.V 12 0)),(.str s33 (x.V 12 1)),(.str s30 (x.V 12 2)),(.int (585) 0),(.int (2) 0),(.int (0) 0),(.int (0) 0),(.int (19) 0),(x.Z 12 8),(.bool true),(.int (181) 0),(x.Z 12 11),.none,(x.Z 12 13),(x.Z 12 14),(x.Z 12 15),(.int (x.I 12 16) 0),(.int (585) 0),(.str s30 (x.V 12 18))]) }),(aA x 13,{ cls := (.type "cell"),data := (.cell (some (vA x 0))) }),(aA x 14,{ cls := tyL,data := (.seq #[(vB x b47 14 0),(vA x 21)] (x.N 14)) }),(aA x 15,(iX 255 (aA x 16))),(aA x 16,{ cls := tyD,data := (.dict #[eX x 16 0 s3 (vI x (-3) 16 0),eX x 16 1 s23 (vB x b6 16 1),eX x 16 2 s24 (.ref 539)] (x.N 16)) }),(aA x 17,(iX 234 (aA x 18))),(aA x 18,(oTX x 18 (vI x (-60) 18 0) (vA x 19) (vA x 20) .none)),(aA x 19,{ cls := tyL,data := (.seq #[(vB x b48 19 0)] (x.N 19)) }),(aA x 20,{ cls := tyL,data := (.seq #[(vR x 20 0)] (x.N 20)) }),(aA x 21,(iX 234 (aA x 22))),(aA x 22,(oTX x 22 (vI x (-95) 22 0) (vR x 22 1) (vR x 22 2) (vA x 23))),(aA x 23,(iX 234 (aA x 24))),(aA x 24,(oTX x 24 (vI x (-96) 24 0) (vA x 25) (vA x 26) .none)),(aA x 25,{ cls := tyL,data := (.seq #[(vB x b43 25 0)] (x.N 25)) }),(aA x 26,{ cls := tyL,data := (.seq #[(vA x 27)] (x.N 26)) }),(aA x 27,(iX 255 (aA x 28))),(aA x 28,{ cls := tyD,data := (.dict #[eX x 28 0 s3 (vI x (-98) 28 0),eX x 28 1 s23 (vB x b44 28 1),eX x 28 2 s24 (vF x 29)] (x.N 28)) }),(bA x 29,oFunc (lamTold w.params) s26 s27 [(s28,(aA x 31))] (vR x 29 2001) (vA x 30) (.str s29 1295)),(aA x 30,{ cls := (.type "code"),data := (.fields #[(.str s26 (x.V 30 0)),(.str s27 (x.V 30 1)),(.str s30 (x.V 30 2)),(.int (615) 0),(.int (2) 0),(.int (0) 0),(.int (0) 0),(.int (19) 0),(x.Z 30 8),(.bool true),(.int (181) 0),(x.Z 30 11),.none,(x.Z 30 13),(x.Z 30 14),(x.Z 30 15),(.int (x.I 30 16) 0),(.int (615) 0),(.str s30 (x.V 30 18))]) }),(aA x 31,{ cls := (.type "cell"),data := (.cell (some (vA x 32))) }),(aA x 32,{ cls := tyL,data := (.seq #[(vA x 33)] (x.N 32)) }),(aA x 33,{ cls := (.ref 234),dict := (some (x.R 33 900)),data := .plain }),(aA x 34,{ cls := (.type "frame"),data := (.dict (x.E 34) (x.N 34)) }),(aA x 35,lfO false x.u (x.E 35) (x.N 35))],touch := [5,34,35],na := 1,nt := 5,res := fun as ts => .ok (.ret (.bytes b51 (nth ts 0))),postT := fun as ts => [some ({ cls := tyD,data := (.dict #[eX x 5 0 s7 (vA x 8),eX x 5 1 s8 (vB x b33 5 1),eX x 5 2 s9 (vR x 5 2),eX x 5 3 s10 (.int ((((x.I 5 3 + 1) + 1) + 1) + 1) (nth ts 1)),eX x 5 4 s11 (vI x (0) 5 4),eX x 5 5 s12 (.ref (nth as 0)),eX x 5 6 s13 (.int (8) (nth ts 2)),eX x 5 7 s14 (vA x 17)] (x.N 5)) }),some ({ cls := (.type "frame"),data := (.dict (x.E 34) (x.N 34)),slots := #[(some (.ref 810)),(some (.ref 3)),none,(some (vA x 35)),none,(some (.ref 811)),(some (.ref 0)),(some (vA x 31))] }),some (lfO true x.u (x.E 35) (x.N 35))],postN := fun as ts => [{ cls := tyL,data := (.seq (frA true (nth ts 3)) (nth ts 4)) }],rawP := [12,30,34,35],rawQ := [1,2,3] }
theorem R_hPr5 (w : World) (x : Vars) : (S_hPr5 w x).Holds (VV w) :=
  sF (F := FN w) (vok _) 20000 ⟨q10, [41], [242,192,229,777,47,778,7]⟩ fun m t => by kernel_rfl
noncomputable def S_hPr6 (w : World) (x : Vars)  : Spec := { code := .call (.ref 797) ⟨[(vA x 4),(vA x 0),(.str s31 (x.U 2)),(vA x 14)],[]⟩,dep := 600,need := [!ltB 1000000000 ((x.I 5 3) + 1),!ltB 1000000000 (((x.I 5 3) + 1) + 1),!ltB 1000000000 ((((x.I 5 3) + 1) + 1) + 1),!ltB 1000000000 (((((x.I 5 3) + 1) + 1) + 1) + 1)],pre := [(aA x 0,(iX 234 (aA x 1))),(aA x 1,(oTX x 1 (vI x (-1) 1 0) (vA x 2) (vA x 3) .none)),(aA x 2,{ cls := tyL,data := (.seq #[(vB x b4 2 0),(vB x b5 2 1),(vB x b6 2 2),(vB x b7 2 3),(vB x b8 2 4),(vB x b9 2 5),(vB x b10 2 6),(vB x b11 2 7),(vB x b12 2 8),(vB x b13 2 9),(vB x b14 2 10),(vB x b15 2 11),(vB x b16 2 12),(vB x b17 2 13),(vB x b18 2 14),(vB x b19 2 15),(vB x b20 2 16),(vB x b21 2 17),(vB x b22 2 18),(vB x b23 2 19),(vB x b24 2 20),(vB x b25 2 21)] (x.N 2)) }),(aA x 3,{ cls := tyL,data := (.seq #[(vA x 7),(vR x 3 1),(vA x 15),(vR x 3 3),(vR x 3 4),(vR x 3 5),(vR x 3 6),(vR x 3 7),(vR x 3 8),(vR x 3 9),(vR x 3 10),(vR x 3 11),(vR x 3 12),(vR x 3 13),(vR x 3 14),(vR x 3 15),(vR x 3 16),(vR x 3 17),(vR x 3 18),(vR x 3 19),(vA x 0),(vB x b26 3 21)] (x.N 3)) }),(aA x 4,(iX 451 (aA x 5))),(aA x 5,{ cls := tyD,data := (.dict #[eX x 5 0 s7 (vA x 8),eX x 5 1 s8 (vB x b33 5 1),eX x 5 2 s9 (vA x 33),eX x 5 3 s10 (.int (x.I 5 3) (x.V 5 3)),eX x 5 4 s11 (vI x (0) 5 4),eX x 5 5 s12 (vA x 6),eX x 5 6 s13 (.int (x.I 5 6) (x.V 5 6)),eX x 5 7 s14 (vA x 17)] (x.N 5)) }),(aA x 6,{ cls := tyL,data := (.seq #[] (x.N 6)) }),(aA x 7,(iX 255 (aA x 10))),(aA x 8,(iX 53 (aA x 9))),(aA x 9,(oLX x 9)),(aA x 10,{ cls := tyD,data := (.dict #[eX x 10 0 s3 (vI x (-1) 10 0),eX x 10 1 s23 (vB x b4 10 1),eX x 10 2 s24 (vF x 11)] (x.N 10)) }),(bA x 11,oFunc (defPrint w.params) s32 s33 [(s34,(aA x 13))] (vR x 11 2001) (vA x 12) (.str s29 1295)),(aA x 12,{ cls := (.type "code"),data := (.fields #[(.str s32 (x.V 12 0)),(.str s33 (x.V 12 1)),(.str s30 (x.V 12 2)),(.int (585) 0),(.int (2) 0),(.int (0) 0),(.int (0) 0),(.int (19) 0),(x.Z 12 8),(.bool true),(.int (181) 0),(x.Z 12 11),.none,(x.Z 12 13),(x.Z 12 14),(x.Z 12 15),(.int (x.I 12 16) 0),(.int (585) 0),(.str s30 (x.V 12 18))]) }),(aA x 13,{ cls := (.type "cell"),data := (.cell (some (vA x 0))) }),(aA x 14,{ cls := tyL,data := (.seq #[(vB x b47 14 0),(vA x 21)] (x.N 14)) }),(aA x 15,(iX 255 (aA x 16))),(aA x 16,{ cls := tyD,data := (.dict #[eX x 16 0 s3 (vI x (-3) 16 0),eX x 16 1 s23 (vB x b6 16 1),eX x 16 2 s24 (.ref 539)] (x.N 16)) }),(aA x 17,(iX 234 (aA x 18))),(aA x 18,(oTX x 18 (vI x (-60) 18 0) (vA x 19) (vA x 20) .none)),(aA x 19,{ cls := tyL,data := (.seq #[(vB x b48 19 0)] (x.N 19)) }),(aA x 20,{ cls := tyL,data := (.seq #[(vR x 20 0)] (x.N 20)) }),(aA x 21,(iX 234 (aA x 22))),(aA x 22,(oTX x 22 (vI x (-95) 22 0) (vR x 22 1) (vR x 22 2) (vA x 23))),(aA x 23,(iX 234 (aA x 24))),(aA x 24,(oTX x 24 (vI x (-96) 24 0) (vA x 25) (vA x 26) .none)),(aA x 25,{ cls := tyL,data := (.seq #[(vB x b43 25 0)] (x.N 25)) }),(aA x 26,{ cls := tyL,data := (.seq #[(vA x 27)] (x.N 26)) }),(aA x 27,(iX 255 (aA x 28))),(aA x 28,{ cls := tyD,data := (.dict #[eX x 28 0 s3 (vI x (-98) 28 0),eX x 28 1 s23 (vB x b44 28 1),eX x 28 2 s24 (vF x 29)] (x.N 28)) }),(bA x 29,oFunc (lamTold w.params) s26 s27 [(s28,(aA x 31))] (vR x 29 2001) (vA x 30) (.str s29 1295)),(aA x 30,{ cls := (.type "code"),data := (.fields #[(.str s26 (x.V 30 0)),(.str s27 (x.V 30 1)),(.str s30 (x.V 30 2)),(.int (615) 0),(.int (2) 0),(.int (0) 0),(.int (0) 0),(.int (19) 0),(x.Z 30 8),(.bool true),(.int (181) 0),(x.Z 30 11),.none,(x.Z 30 13),(x.Z 30 14),(x.Z 30 15),(.int (x.I 30 16) 0),(.int (615) 0),(.str s30 (x.V 30 18))]) }),(aA x 31,{ cls := (.type "cell"),data := (.cell (some (vA x 32))) }),(aA x 32,{ cls := tyL,data := (.seq #[(vB x b46 32 0),(vI x (3) 32 1)] (x.N 32)) }),(aA x 33,{ cls := tyL,data := (.seq #[] (x.N 33)) })],touch := [5,33],na := 2,nt := 5,res := fun as ts => .ok (.ret (.ref (nth as 0))),postT := fun as ts => [some ({ cls := tyD,data := (.dict #[eX x 5 0 s7 (vA x 8),eX x 5 1 s8 (vB x b33 5 1),eX x 5 2 s9 (vA x 33),eX x 5 3 s10 (.int ((((x.I 5 3 + 1) + 1) + 1) + 1) (nth ts 0)),eX x 5 4 s11 (vI x (0) 5 4),eX x 5 5 s12 (.ref (nth as 1)),eX x 5 6 s13 (.int (0) (nth ts 1)),eX x 5 7 s14 (vA x 17)] (x.N 5)) }),some ({ cls := tyL,data := (.seq #[(.bytes b52 (nth ts 2))] (x.N 33 + 1)) })],postN := fun as ts => [{ cls := tyL,data := (.seq #[] 0) },{ cls := tyL,data := (.seq (frA false (nth ts 3)) (nth ts 4)) }],rawP := [12,30],rawQ := [3] }
theorem R_hPr6 (w : World) (x : Vars) : (S_hPr6 w x).Holds (VV w) :=
  sF (F := FN w) (vok _) 20000 ⟨cp q8 0 1930 (ap [106] (cp q8 969 21 (ap [108] (cp q8 2077 86 ([]))))), [108,39], [192,245,241,0,778,8]⟩ fun m t => by kernel_rfl
noncomputable def S_hPr7 (w : World) (x : Vars)  : Spec := { code := .call (.ref 797) ⟨[(vA x 4),(vA x 0),(.str s31 (x.U 2)),(vA x 14)],[]⟩,dep := 600,need := [!ltB 1000000000 ((x.I 5 3) + 1),!ltB 1000000000 (((x.I 5 3) + 1) + 1),!ltB 1000000000 ((((x.I 5 3) + 1) + 1) + 1),!ltB 1000000000 (((((x.I 5 3) + 1) + 1) + 1) + 1)],pre := [(aA x 0,(iX 234 (aA x 1))),(aA x 1,(oTX x 1 (vI x (-1) 1 0) (vA x 2) (vA x 3) .none)),(aA x 2,{ cls := tyL,data := (.seq #[(vB x b4 2 0),(vB x b5 2 1),(vB x b6 2 2),(vB x b7 2 3),(vB x b8 2 4),(vB x b9 2 5),(vB x b10 2 6),(vB x b11 2 7),(vB x b12 2 8),(vB x b13 2 9),(vB x b14 2 10),(vB x b15 2 11),(vB x b16 2 12),(vB x b17 2 13),(vB x b18 2 14),(vB x b19 2 15),(vB x b20 2 16),(vB x b21 2 17),(vB x b22 2 18),(vB x b23 2 19),(vB x b24 2 20),(vB x b25 2 21)] (x.N 2)) }),(aA x 3,{ cls := tyL,data := (.seq #[(vA x 7),(vR x 3 1),(vA x 15),(vR x 3 3),(vR x 3 4),(vR x 3 5),(vR x 3 6),(vR x 3 7),(vR x 3 8),(vR x 3 9),(vR x 3 10),(vR x 3 11),(vR x 3 12),(vR x 3 13),(vR x 3 14),(vR x 3 15),(vR x 3 16),(vR x 3 17),(vR x 3 18),(vR x 3 19),(vA x 0),(vB x b26 3 21)] (x.N 3)) }),(aA x 4,(iX 451 (aA x 5))),(aA x 5,{ cls := tyD,data := (.dict #[eX x 5 0 s7 (vA x 8),eX x 5 1 s8 (vB x b33 5 1),eX x 5 2 s9 (vA x 33),eX x 5 3 s10 (.int (x.I 5 3) (x.V 5 3)),eX x 5 4 s11 (vI x (0) 5 4),eX x 5 5 s12 (vA x 6),eX x 5 6 s13 (.int (x.I 5 6) (x.V 5 6)),eX x 5 7 s14 (vA x 17)] (x.N 5)) }),(aA x 6,{ cls := tyL,data := (.seq #[] (x.N 6)) }),(aA x 7,(iX 255 (aA x 10))),(aA x 8,(iX 53 (aA x 9))),(aA x 9,(oLX x 9)),(aA x 10,{ cls := tyD,data := (.dict #[eX x 10 0 s3 (vI x (-1) 10 0),eX x 10 1 s23 (vB x b4 10 1),eX x 10 2 s24 (vF x 11)] (x.N 10)) }),(bA x 11,oFunc (defPrint w.params) s32 s33 [(s34,(aA x 13))] (vR x 11 2001) (vA x 12) (.str s29 1295)),(aA x 12,{ cls := (.type "code"),data := (.fields #[(.str s32 (x.V 12 0)),(.str s33 (x.V 12 1)),(.str s30 (x.V 12 2)),(.int (585) 0),(.int (2) 0),(.int (0) 0),(.int (0) 0),(.int (19) 0),(x.Z 12 8),(.bool true),(.int (181) 0),(x.Z 12 11),.none,(x.Z 12 13),(x.Z 12 14),(x.Z 12 15),(.int (x.I 12 16) 0),(.int (585) 0),(.str s30 (x.V 12 18))]) }),(aA x 13,{ cls := (.type "cell"),data := (.cell (some (vA x 0))) }),(aA x 14,{ cls := tyL,data := (.seq #[(vB x b47 14 0),(vA x 21)] (x.N 14)) }),(aA x 15,(iX 255 (aA x 16))),(aA x 16,{ cls := tyD,data := (.dict #[eX x 16 0 s3 (vI x (-3) 16 0),eX x 16 1 s23 (vB x b6 16 1),eX x 16 2 s24 (.ref 539)] (x.N 16)) }),(aA x 17,(iX 234 (aA x 18))),(aA x 18,(oTX x 18 (vI x (-60) 18 0) (vA x 19) (vA x 20) .none)),(aA x 19,{ cls := tyL,data := (.seq #[(vB x b48 19 0)] (x.N 19)) }),(aA x 20,{ cls := tyL,data := (.seq #[(vR x 20 0)] (x.N 20)) }),(aA x 21,(iX 234 (aA x 22))),(aA x 22,(oTX x 22 (vI x (-95) 22 0) (vR x 22 1) (vR x 22 2) (vA x 23))),(aA x 23,(iX 234 (aA x 24))),(aA x 24,(oTX x 24 (vI x (-96) 24 0) (vA x 25) (vA x 26) .none)),(aA x 25,{ cls := tyL,data := (.seq #[(vB x b43 25 0)] (x.N 25)) }),(aA x 26,{ cls := tyL,data := (.seq #[(vA x 27)] (x.N 26)) }),(aA x 27,(iX 255 (aA x 28))),(aA x 28,{ cls := tyD,data := (.dict #[eX x 28 0 s3 (vI x (-98) 28 0),eX x 28 1 s23 (vB x b44 28 1),eX x 28 2 s24 (vF x 29)] (x.N 28)) }),(bA x 29,oFunc (lamTold w.params) s26 s27 [(s28,(aA x 31))] (vR x 29 2001) (vA x 30) (.str s29 1295)),(aA x 30,{ cls := (.type "code"),data := (.fields #[(.str s26 (x.V 30 0)),(.str s27 (x.V 30 1)),(.str s30 (x.V 30 2)),(.int (615) 0),(.int (2) 0),(.int (0) 0),(.int (0) 0),(.int (19) 0),(x.Z 30 8),(.bool true),(.int (181) 0),(x.Z 30 11),.none,(x.Z 30 13),(x.Z 30 14),(x.Z 30 15),(.int (x.I 30 16) 0),(.int (615) 0),(.str s30 (x.V 30 18))]) }),(aA x 31,{ cls := (.type "cell"),data := (.cell (some (vA x 32))) }),(aA x 32,{ cls := tyL,data := (.seq #[(vI x (-2) 32 0)] (x.N 32)) }),(aA x 33,{ cls := tyL,data := (.seq #[] (x.N 33)) })],touch := [5,33],na := 2,nt := 5,res := fun as ts => .ok (.ret (.ref (nth as 0))),postT := fun as ts => [some ({ cls := tyD,data := (.dict #[eX x 5 0 s7 (vA x 8),eX x 5 1 s8 (vB x b33 5 1),eX x 5 2 s9 (vA x 33),eX x 5 3 s10 (.int ((((x.I 5 3 + 1) + 1) + 1) + 1) (nth ts 0)),eX x 5 4 s11 (vI x (0) 5 4),eX x 5 5 s12 (.ref (nth as 1)),eX x 5 6 s13 (.int (0) (nth ts 1)),eX x 5 7 s14 (vA x 17)] (x.N 5)) }),some ({ cls := tyL,data := (.seq #[(.bytes b53 (nth ts 2))] (x.N 33 + 1)) })],postN := fun as ts => [{ cls := tyL,data := (.seq #[] 0) },{ cls := tyL,data := (.seq (frA false (nth ts 3)) (nth ts 4)) }],rawP := [12,30],rawQ := [3] }
theorem R_hPr7 (w : World) (x : Vars) : (S_hPr7 w x).Holds (VV w) :=
  sF (F := FN w) (vok _) 20000 ⟨cp q8 0 2010 (cp q8 2021 10 (ap [109] (cp q8 2012 41 (cp q8 2043 120 ([]))))), [119,39], [192,258,254,0,778,8]⟩ fun m t => by kernel_rfl
end Mine
end

section
open PySem PySem.W PySem.W.X PyProof.Rows
set_option maxRecDepth 1000000
set_option maxHeartbeats 0
namespace Mine
open PySem.W.ZFast (hashOfZ)
def errP (k : Nat) : Bool := match k with | 0 => false | 1 => false | 6 => false | 7 => false | _ => true
def dpP (k : Nat) : Int := match errP k with | true => 8 | false => 0
noncomputable def FSh (w : World) (Dt Dq : List Value → Dp (VV w)) (c : Code) : Option (Dp (VV w)) := match c with
  | .call (.ref a) ⟨[v1, v2, .str s t, v4], []⟩ => match Nat.beq a 797 with
    | true => match Nat.beq s.cps.size 8 with
      | true => some (Dt [v1, v2, .str s t, v4])
      | false => some (Dq [v1, v2, .str s t, v4])
    | false => FN w c
  | c => FN w c
noncomputable def S_shown (w : World) (x : Vars) (k : Nat) (c : Bool) : Spec := { code := .call (.ref 811) ⟨[(vA x 0),(vA x 2),(vA x 8)],[]⟩,dep := 400,need := [drawOk (x.Q 1) (x.I 0 1),eqB (drawV (x.Q 1) (x.I 0 1) 7) (Int.ofNat k),!ltB 1000000000 ((x.I 3 3) + 1),!ltB 1000000000 (((x.I 3 3) + 1) + 1),!ltB 1000000000 ((((x.I 3 3) + 1) + 1) + 1),!ltB 1000000000 (((((x.I 3 3) + 1) + 1) + 1) + 1),!ltB 1000000000 ((((((x.I 3 3) + 1) + 1) + 1) + 1) + 1),!ltB 1000000000 (((((((x.I 3 3) + 1) + 1) + 1) + 1) + 1) + 1)],bel := some ([envF (o830 w.params) 830 (aA x 5) s2 []],x.u),pre := [(aA x 0,{ cls := tyL,data := (.seq #[(vA x 1),(.int (x.I 0 1) (x.V 0 1))] (x.N 0)) }),(aA x 1,{ cls := tyL,data := (.seq (x.Q 1) (x.N 1)) }),(aA x 2,(iX 451 (aA x 3))),(aA x 3,{ cls := tyD,data := (.dict #[eX x 3 0 s7 (vA x 13),eX x 3 1 s8 (vB x b33 3 1),eX x 3 2 s9 (vA x 6),eX x 3 3 s10 (.int (x.I 3 3) (x.V 3 3)),eX x 3 4 s11 (vI x (0) 3 4),eX x 3 5 s12 (vA x 4),eX x 3 6 s13 (.int (x.I 3 6) (x.V 3 6)),eX x 3 7 s14 (vA x 21)] (x.N 3)) }),(aA x 4,{ cls := tyL,data := (.seq #[] (x.N 4)) }),(aA x 5,lfO false x.u (x.E 5) (x.N 5)),(aA x 6,{ cls := tyL,data := (.seq #[] (x.N 6)) }),(806,{ cls := .none,data := (.fields #[]) }),(aA x 8,(iX 234 (aA x 9))),(aA x 9,(oTX x 9 (vI x (-1) 9 0) (vA x 10) (vA x 11) .none)),(aA x 10,{ cls := tyL,data := (.seq #[(vB x b4 10 0),(vB x b5 10 1),(vB x b6 10 2),(vB x b7 10 3),(vB x b8 10 4),(vB x b9 10 5),(vB x b10 10 6),(vB x b11 10 7),(vB x b12 10 8),(vB x b13 10 9),(vB x b14 10 10),(vB x b15 10 11),(vB x b16 10 12),(vB x b17 10 13),(vB x b18 10 14),(vB x b19 10 15),(vB x b20 10 16),(vB x b21 10 17),(vB x b22 10 18),(vB x b23 10 19),(vB x b24 10 20),(vB x b25 10 21)] (x.N 10)) }),(aA x 11,{ cls := tyL,data := (.seq #[(vA x 16),(vR x 11 1),(vA x 12),(vR x 11 3),(vR x 11 4),(vR x 11 5),(vR x 11 6),(vR x 11 7),(vR x 11 8),(vR x 11 9),(vR x 11 10),(vR x 11 11),(vR x 11 12),(vR x 11 13),(vR x 11 14),(vR x 11 15),(vR x 11 16),(vR x 11 17),(vR x 11 18),(vR x 11 19),(vA x 8),(vB x b26 11 21)] (x.N 11)) }),(aA x 12,(iX 255 (aA x 15))),(aA x 13,(iX 53 (aA x 14))),(aA x 14,(oLX x 14)),(aA x 15,{ cls := tyD,data := (.dict #[eX x 15 0 s3 (vI x (-3) 15 0),eX x 15 1 s23 (vB x b6 15 1),eX x 15 2 s24 (.ref 539)] (x.N 15)) }),(aA x 16,(iX 255 (aA x 17))),(aA x 17,{ cls := tyD,data := (.dict #[eX x 17 0 s3 (vI x (-1) 17 0),eX x 17 1 s23 (vB x b4 17 1),eX x 17 2 s24 (vF x 18)] (x.N 17)) }),(bA x 18,oFunc (defPrint w.params) s32 s33 [(s34,(aA x 20))] (vR x 18 2001) (vA x 19) (.str s29 1295)),(aA x 19,{ cls := (.type "code"),data := (.fields #[(.str s32 (x.V 19 0)),(.str s33 (x.V 19 1)),(.str s30 (x.V 19 2)),(.int (585) 0),(.int (2) 0),(.int (0) 0),(.int (0) 0),(.int (19) 0),(x.Z 19 8),(.bool true),(.int (181) 0),(x.Z 19 11),.none,(x.Z 19 13),(x.Z 19 14),(x.Z 19 15),(.int (x.I 19 16) 0),(.int (585) 0),(.str s30 (x.V 19 18))]) }),(aA x 20,{ cls := (.type "cell"),data := (.cell (some (vA x 8))) }),(aA x 21,(iX 234 (aA x 22))),(aA x 22,(oTX x 22 (vI x (-60) 22 0) (vA x 23) (vA x 24) .none)),(aA x 23,{ cls := tyL,data := (.seq #[(vB x b48 23 0)] (x.N 23)) }),(aA x 24,{ cls := tyL,data := (.seq #[(vR x 24 0)] (x.N 24)) })],touch := [0,3,5,6,7],na := 2,nt := 15,res := fun as ts => .ok (.ret (.bool true)),postT := fun as ts => [some ({ cls := tyL,data := (.seq #[(vA x 1),(.int (x.I 0 1 + 1) (nth ts 0))] (x.N 0)) }),some ({ cls := tyD,data := (.dict #[eX x 3 0 s7 (vA x 13),eX x 3 1 s8 (vB x b33 3 1),eX x 3 2 s9 (vA x 6),eX x 3 3 s10 (.int (plusN 6 (x.I 3 3)) (nth ts 1)),eX x 3 4 s11 (vI x (0) 3 4),eX x 3 5 s12 (.ref (nth as 0)),eX x 3 6 s13 (.int (dpP k) (nth ts 2)),eX x 3 7 s14 (vA x 21)] (x.N 3)) }),some (lfO c x.u (x.E 5) (x.N 5)),none,some ({ cls := .none,data := (.fields #[(.int (615) 0),(.int (50) 0),(.ref (nth as 1))]) })],postN := fun as ts => [{ cls := tyL,data := (.seq (frA (errP k) (nth ts 3)) (nth ts 4)) },{ cls := (.type "code"),data := (.fields #[(.str s26 (nth ts 5)),(.str s27 (nth ts 6)),(.str s30 (nth ts 7)),(.int (615) 0),(.int (2) 0),(.int (0) 0),(.int (0) 0),(.int (19) 0),(.ref (nth ts 8)),(.bool true),(.int (181) 0),(.ref (nth ts 9)),.none,(.ref (nth ts 10)),(.ref (nth ts 11)),(.ref (nth ts 12)),(.int (Int.ofNat (nth ts 13)) 0),(.int (615) 0),(.str s30 (nth ts 14))]) }],rawP := [1,5,19],rawQ := [2,5] }
theorem R_shown0 (w : World) (x : Vars) : (S_shown w x 0 (errP 0)).Holds (VV w) :=
  sF (F := FSh w (fun args => ⟨1000, fun as os _ => some ⟨_, R_hTs0 w (varsOf args as os x.u)⟩⟩) (fun args => ⟨1000, fun as os _ => some ⟨_, R_hPr0 w (varsOf args as os x.u)⟩⟩)) (vok _) 20000 ⟨q11, [68,58], [33,69,70,72,73,38,39,40,777,53,777,54,777,55,777,56,777,57,44,45]⟩ fun m t => by kernel_rfl
theorem R_shown1 (w : World) (x : Vars) : (S_shown w x 1 (errP 1)).Holds (VV w) :=
  sF (F := FSh w (fun args => ⟨1000, fun as os _ => some ⟨_, R_hTs1 w (varsOf args as os x.u)⟩⟩) (fun args => ⟨1000, fun as os _ => some ⟨_, R_hPr1 w (varsOf args as os x.u)⟩⟩)) (vok _) 20000 ⟨cp q11 0 73 (ap [2] (cp q11 74 68 (ap [45,63,45,1,45,63,45,63,27,45,45,45,45,45] (cp q11 156 32 (ap [45] (cp q11 189 49 (cp q11 240 38 (ap [45] (cp q11 279 47 (ap [26] (cp q11 330 9 ([])))))))))))), [68,58], [33,69,70,72,73,38,39,40,777,53,777,54,777,55,777,56,777,57,44,45]⟩ fun m t => by kernel_rfl
theorem R_shown2 (w : World) (x : Vars) : (S_shown w x 2 (errP 2)).Holds (VV w) :=
  sF (F := FSh w (fun args => ⟨1000, fun as os _ => some ⟨_, R_hTs2 w (varsOf args as os x.u)⟩⟩) (fun args => ⟨1000, fun as os _ => some ⟨_, R_hPr2 w (varsOf args as os x.u)⟩⟩)) (vok _) 20000 ⟨cp q11 0 73 (ap [3] (cp q11 74 68 (ap [46,63,46,1,46,63,46,63,27,46,46,46,46,46] (cp q11 156 32 (ap [46] (cp q11 189 49 (ap [0,26,26,26,0,35] (cp q11 246 32 (ap [46,26,6] (cp q11 280 12 (ap [69,69,69,69,0,0,26,1] (cp q11 308 13 (ap [7,70,7,1,7,7,70,0,0] ([])))))))))))))), [67,58], [33,70,71,72,73,38,39,40,777,53,777,54,777,55,777,56,777,57,44,45]⟩ fun m t => by kernel_rfl
theorem R_shown3 (w : World) (x : Vars) : (S_shown w x 3 (errP 3)).Holds (VV w) :=
  sF (F := FSh w (fun args => ⟨1000, fun as os _ => some ⟨_, R_hTs3 w (varsOf args as os x.u)⟩⟩) (fun args => ⟨1000, fun as os _ => some ⟨_, R_hPr3 w (varsOf args as os x.u)⟩⟩)) (vok _) 20000 ⟨cp q11 0 73 (ap [4] (cp q11 74 68 (ap [47,63,47,1,47,63,47,63,27,47,47,47,47,47] (cp q11 156 32 (ap [47] (cp q11 189 49 (ap [0,26,26,26,0,35] (cp q11 246 32 (ap [47,26,6] (cp q11 280 12 (ap [69,69,69,69,0,0,26,1] (cp q11 308 13 (ap [7,70,7,1,7,7,70,0,0] ([])))))))))))))), [67,58], [33,70,71,72,73,38,39,40,777,53,777,54,777,55,777,56,777,57,44,45]⟩ fun m t => by kernel_rfl
theorem R_shown4 (w : World) (x : Vars) : (S_shown w x 4 (errP 4)).Holds (VV w) :=
  sF (F := FSh w (fun args => ⟨1000, fun as os _ => some ⟨_, R_hTs4 w (varsOf args as os x.u)⟩⟩) (fun args => ⟨1000, fun as os _ => some ⟨_, R_hPr4 w (varsOf args as os x.u)⟩⟩)) (vok _) 20000 ⟨cp q11 0 73 (ap [5] (cp q11 74 68 (ap [48,63,48,1,48,63,48,63,48,63,48,63] (cp q11 156 32 (ap [48] (cp q11 189 49 (ap [0,26,26,26,0,35] (cp q11 246 32 (ap [48,26,6] (cp q11 280 12 (ap [69,69,69,69,0,0,26,1] (cp q11 308 13 (ap [7,70,7,1,7,7,70,0,0] ([])))))))))))))), [67,58], [33,69,70,71,72,38,39,40,777,53,777,54,777,55,777,56,777,57,44,45]⟩ fun m t => by kernel_rfl
theorem R_shown5 (w : World) (x : Vars) : (S_shown w x 5 (errP 5)).Holds (VV w) :=
  sF (F := FSh w (fun args => ⟨1000, fun as os _ => some ⟨_, R_hTs5 w (varsOf args as os x.u)⟩⟩) (fun args => ⟨1000, fun as os _ => some ⟨_, R_hPr5 w (varsOf args as os x.u)⟩⟩)) (vok _) 20000 ⟨cp q11 0 73 (ap [6] (cp q11 74 68 (ap [49,63,49,1,49,63,49,63,27,49,49,49,49,49] (cp q11 156 32 (ap [49] (cp q11 189 29 (ap [36,0,0,26,0,36,0,1,0,0,26,0,36,26,65,65,65,65,65,36,0,0,0,36,0,0,0,36,36,0,37,26,36,0,0,0,36,0,0,0,36,36,0,37,1,1,0,0,26,26,26,0,36] (cp q11 246 32 (ap [49,36,26,6] (cp q11 280 11 (ap [36,0,69,69,69,69,0,0,26,1] (cp q11 308 13 (ap [7,70,7,1,7,7,70,0,0] ([])))))))))))))), [67,58], [33,71,72,73,74,38,39,40,777,53,777,54,777,55,777,56,777,57,44,45]⟩ fun m t => by kernel_rfl
theorem R_shown6 (w : World) (x : Vars) : (S_shown w x 6 (errP 6)).Holds (VV w) :=
  sF (F := FSh w (fun args => ⟨1000, fun as os _ => some ⟨_, R_hTs6 w (varsOf args as os x.u)⟩⟩) (fun args => ⟨1000, fun as os _ => some ⟨_, R_hPr6 w (varsOf args as os x.u)⟩⟩)) (vok _) 20000 ⟨cp q11 0 73 (ap [7] (cp q11 74 68 (ap [50,63,50,1,50,63,50,63,27,50,50,50,50,50] (cp q11 156 32 (ap [50] (cp q11 189 49 (cp q11 240 38 (ap [50] (cp q11 279 47 (ap [26] (cp q11 330 9 ([])))))))))))), [68,58], [33,69,70,72,73,38,39,40,777,53,777,54,777,55,777,56,777,57,44,45]⟩ fun m t => by kernel_rfl
theorem R_shown7 (w : World) (x : Vars) : (S_shown w x 7 (errP 7)).Holds (VV w) :=
  sF (F := FSh w (fun args => ⟨1000, fun as os _ => some ⟨_, R_hTs7 w (varsOf args as os x.u)⟩⟩) (fun args => ⟨1000, fun as os _ => some ⟨_, R_hPr7 w (varsOf args as os x.u)⟩⟩)) (vok _) 20000 ⟨cp q11 0 73 (ap [8] (cp q11 74 68 (ap [51,63,51,1,51,63,51,63,27,51,51,51,51,51] (cp q11 156 32 (ap [51] (cp q11 189 89 (ap [51] (cp q11 279 60 ([]))))))))), [68,58], [33,69,70,72,73,38,39,40,777,53,777,54,777,55,777,56,777,57,44,45]⟩ fun m t => by kernel_rfl
end Mine
end

section
open PySem PySem.W PySem.W.X PyProof.Rows
set_option maxRecDepth 1000000
set_option maxHeartbeats 0
namespace Mine
open PySem.W.ZFast (hashOfZ)
/-! comes_first, and table_sort path by path -/
noncomputable def varsA (args : List Value) (as : List Nat) (os : List Obj) : Vars := { varsOf args as os with I := fun i j => match Nat.beq i 90 with | true => intOf (args.getD j .none) | false => intOf (atO (nthO os i) j) }
/-- as is told -/
def bB (b c : Bool) : Bool := match c with | true => b | false => !b
theorem bB_eq {b c : Bool} (h : bB b c = true) : b = c := by cases b <;> cases c <;> first | rfl | cases h
theorem bB_of {b c : Bool} (h : b = c) : bB b c = true := by subst h; cases b <;> rfl
/-- a truth that is known -/
theorem Spec.Holds.known {V : Vn} {S : Spec} {b c : Bool} (h : S.Holds V) (e : S.res = fun _ _ => .ok (.ret (.bool b))) : ({ S with need := bB b c :: S.need, res := fun _ _ => .ok (.ret (.bool c)) } : Spec).Holds V := by
  intro Γ p hp g d t os hc hh hb hl A
  have hbc : b = c := bB_eq (A.need _ (List.mem_cons_self ..))
  subst hbc
  obtain ⟨as, ts, h', t', r, E⟩ := h Γ p hp g d t os hc hh hb hl ⟨A.kt, A.mem, A.off, A.apart, A.lim, fun b hb => A.need b (List.mem_cons_of_mem _ hb)⟩
  refine ⟨as, ts, h', t', ?_, ⟨E.na, E.nt, E.postT, E.postN, E.keep, E.fresh, E.apart, E.size⟩⟩
  rw [e] at r
  exact r
noncomputable def D_cmpP {w : World} {id : String} {x : Int} {t : Nat} {y : Int} {u : Nat} {b : Bool} (h : (S_cmp id x t y u [] b).Holds (VV w)) : Dp (VV w) := ⟨0, fun _ _ alt => match alt with
  | 0 => some ⟨_, cmp_T h⟩
  | 1 => some ⟨_, cmp_F h⟩
  | _ => some ⟨_, h⟩⟩
noncomputable def FP (w : World) (c : Code) : Option (Dp (VV w)) := match c with
  | .builtin id ⟨[.int x t, .int y u], []⟩ => match idIs id 455126531311803185852266 with
    | true => some (D_cmpP (cmp_lt w x t y u))
    | false => match idIs id 455126529904428302298986 with
      | true => some (D_cmpP (cmp_gt w x t y u))
      | false => FN w (.builtin id ⟨[.int x t, .int y u], []⟩)
  | c => FN w c
noncomputable def S_cf0 (w : World) (x : Vars)  : Spec := { code := .call (.ref 691) ⟨[(vA x 0),.none,(.int (x.I 90 2) (x.U 2)),(.int (x.I 90 3) (x.U 3))],[]⟩,dep := 740,need := [],pre := [(aA x 0,(iX 451 (aA x 1))),(aA x 1,{ cls := tyD,data := (.dict #[eX x 1 0 s7 (vR x 1 0),eX x 1 1 s8 (vB x b33 1 1),eX x 1 2 s9 (vR x 1 2),eX x 1 3 s10 (.int (x.I 1 3) (x.V 1 3)),eX x 1 4 s11 (vI x (0) 1 4),eX x 1 5 s12 (vR x 1 5),eX x 1 6 s13 (vI x (8) 1 6),eX x 1 7 s14 (vR x 1 7)] (x.N 1)) })],touch := [],na := 0,nt := 0,res := fun as ts => .ok (.ret (.bool (ltB (x.I 90 2) (x.I 90 3)))),postT := fun as ts => [],postN := fun as ts => [],rawP := [],rawQ := [] }
theorem R_cf0 (w : World) (x : Vars) : (S_cf0 w x).Holds (VV w) :=
  sF (F := FP w) (vok _) 2000 ⟨q12, [], []⟩ fun m t => by kernel_rfl
noncomputable def S_cf1 (w : World) (x : Vars)  : Spec := { code := .call (.ref 691) ⟨[(vA x 0),(vA x 2),(.int (x.I 90 2) (x.U 2)),(.int (x.I 90 3) (x.U 3))],[]⟩,dep := 740,need := [!ltB 1000000000 ((x.I 1 3) + 1)],pre := [(aA x 0,(iX 451 (aA x 1))),(aA x 1,{ cls := tyD,data := (.dict #[eX x 1 0 s7 (vA x 3),eX x 1 1 s8 (vB x b33 1 1),eX x 1 2 s9 (vR x 1 2),eX x 1 3 s10 (.int (x.I 1 3) (x.V 1 3)),eX x 1 4 s11 (vI x (0) 1 4),eX x 1 5 s12 (vA x 5),eX x 1 6 s13 (vI x (8) 1 6),eX x 1 7 s14 (vR x 1 7)] (x.N 1)) }),(aA x 2,(iX 255 (aA x 6))),(aA x 3,(iX 53 (aA x 4))),(aA x 4,(oLX x 4)),(aA x 5,{ cls := tyL,data := (.seq #[(vR x 5 0)] (x.N 5)) }),(aA x 6,{ cls := tyD,data := (.dict #[eX x 6 0 s3 (vI x (-94) 6 0),eX x 6 1 s23 (vB x b54 6 1),eX x 6 2 s24 (vF x 7)] (x.N 6)) }),(bA x 7,oFunc (lamTurned w.params) s26 s36 [] .none (vA x 8) (.str s29 1295)),(aA x 8,{ cls := (.type "code"),data := (.fields #[(.str s26 (x.V 8 0)),(.str s36 (x.V 8 1)),(.str s30 (x.V 8 2)),(.int (631) 0),(.int (2) 0),(.int (0) 0),(.int (0) 0),(.int (19) 0),(x.Z 8 8),(.bool true),(.int (181) 0),(x.Z 8 11),.none,(x.Z 8 13),(x.Z 8 14),(x.Z 8 15),(.int (x.I 8 16) 0),(.int (631) 0),(.str s30 (x.V 8 18))]) })],touch := [1,5],na := 0,nt := 2,res := fun as ts => .ok (.ret (.bool (!!ltB (x.I 90 3) (x.I 90 2)))),postT := fun as ts => [some ({ cls := tyD,data := (.dict #[eX x 1 0 s7 (vA x 3),eX x 1 1 s8 (vB x b33 1 1),eX x 1 2 s9 (vR x 1 2),eX x 1 3 s10 (.int (x.I 1 3 + 1) (nth ts 0)),eX x 1 4 s11 (vI x (0) 1 4),eX x 1 5 s12 (vA x 5),eX x 1 6 s13 (.int (8) (nth ts 1)),eX x 1 7 s14 (vR x 1 7)] (x.N 1)) }),some ({ cls := tyL,data := (.seq #[(vR x 5 0)] (x.N 5 + 2)) })],postN := fun as ts => [],rawP := [8],rawQ := [] }
theorem R_cf1 (w : World) (x : Vars) : (S_cf1 w x).Holds (VV w) :=
  sF (F := FP w) (vok _) 3000 ⟨q13, [], [19,47]⟩ fun m t => by kernel_rfl
noncomputable def D_cf0 (w : World) (args : List Value) : Dp (VV w) := ⟨1000, fun as os alt => match alt with
  | 0 => some ⟨_, R_cf0 w (varsA args as os)⟩
  | 1 => some ⟨_, Spec.Holds.known (c := true) (R_cf0 w (varsA args as os)) rfl⟩
  | _ => some ⟨_, Spec.Holds.known (c := false) (R_cf0 w (varsA args as os)) rfl⟩⟩
noncomputable def D_cf1 (w : World) (args : List Value) : Dp (VV w) := ⟨1000, fun as os alt => match alt with
  | 0 => some ⟨_, R_cf1 w (varsA args as os)⟩
  | 1 => some ⟨_, Spec.Holds.known (c := true) (R_cf1 w (varsA args as os)) rfl⟩
  | _ => some ⟨_, Spec.Holds.known (c := false) (R_cf1 w (varsA args as os)) rfl⟩⟩
noncomputable def FQ (w : World) (c : Code) : Option (Dp (VV w)) := match c with
  | .call (.ref a) ⟨[v1, v2, v3, v4], []⟩ => match Nat.beq a 691 with
    | true => match v2 with
      | .none => some (D_cf0 w [v1, v2, v3, v4])
      | _ => some (D_cf1 w [v1, v2, v3, v4])
    | false => FN w c
  | c => FN w c
def bitP (p k : Nat) : Bool := Nat.beq (p / 2 ^ k % 2) 1
def pmI (n p j : Nat) : Nat := match n with
  | 3 => match p with
    | 0 => j
    | 1 => match j with | 0 => 1 | 1 => 0 | _ => 2
    | 3 => match j with | 0 => 1 | 1 => 2 | _ => 0
    | 4 => match j with | 0 => 0 | 1 => 2 | _ => 1
    | 6 => match j with | 0 => 2 | 1 => 0 | _ => 1
    | _ => match j with | 0 => 2 | 1 => 1 | _ => 0
  | 2 => match p with
    | 0 => j
    | _ => match j with | 0 => 1 | _ => 0
  | _ => j
def cnP (n p : Nat) : Nat := match n with
  | 3 => match p with | 0 => 2 | 1 => 2 | _ => 3
  | 2 => 1
  | _ => 0
noncomputable def S_ts00 (w : World) (x : Vars) (p : Nat) : Spec := { code := .call (.ref 684) ⟨[(vA x 0),(vA x 2)],[]⟩,dep := 700,need := [],pre := [(aA x 0,(iX 451 (aA x 1))),(aA x 1,{ cls := tyD,data := (.dict #[eX x 1 0 s7 (vR x 1 0),eX x 1 1 s8 (vB x b33 1 1),eX x 1 2 s9 (vR x 1 2),eX x 1 3 s10 (.int (x.I 1 3) (x.V 1 3)),eX x 1 4 s11 (vI x (0) 1 4),eX x 1 5 s12 (vR x 1 5),eX x 1 6 s13 (vI x (8) 1 6),eX x 1 7 s14 (vR x 1 7)] (x.N 1)) }),(aA x 2,{ cls := tyL,data := (.seq #[(vA x 3)] (x.N 2)) }),(aA x 3,(iX 234 (aA x 4))),(aA x 4,(oTX x 4 (vI x (-91) 4 0) (vA x 5) (vA x 6) .none)),(aA x 5,{ cls := tyL,data := (.seq #[] (x.N 5)) }),(aA x 6,{ cls := tyL,data := (.seq #[] (x.N 6)) })],touch := [5,6],na := 1,nt := 0,res := fun as ts => .ok (.ret (.ref (nth as 0))),postT := fun as ts => [some ({ cls := tyL,data := (.seq #[] (x.N 5)) }),some ({ cls := tyL,data := (.seq #[] (x.N 6)) })],postN := fun as ts => [{ cls := tyL,data := (.seq #[] 0) }],rawP := [],rawQ := [] }
theorem R_ts000 (w : World) (x : Vars) : (S_ts00 w x 0).Holds (VV w) :=
  sF (F := FQ w) (vok _) 20000 ⟨q14, [14], []⟩ fun m t => by kernel_rfl
noncomputable def S_ts01 (w : World) (x : Vars) (p : Nat) : Spec := { code := .call (.ref 684) ⟨[(vA x 0),(vA x 2)],[]⟩,dep := 700,need := [],pre := [(aA x 0,(iX 451 (aA x 1))),(aA x 1,{ cls := tyD,data := (.dict #[eX x 1 0 s7 (vR x 1 0),eX x 1 1 s8 (vB x b33 1 1),eX x 1 2 s9 (vR x 1 2),eX x 1 3 s10 (.int (x.I 1 3) (x.V 1 3)),eX x 1 4 s11 (vI x (0) 1 4),eX x 1 5 s12 (vR x 1 5),eX x 1 6 s13 (vI x (8) 1 6),eX x 1 7 s14 (vR x 1 7)] (x.N 1)) }),(aA x 2,{ cls := tyL,data := (.seq #[(vA x 3)] (x.N 2)) }),(aA x 3,(iX 234 (aA x 4))),(aA x 4,(oTX x 4 (vI x (-91) 4 0) (vA x 5) (vA x 6) .none)),(aA x 5,{ cls := tyL,data := (.seq #[(vI x (1) 5 0)] (x.N 5)) }),(aA x 6,{ cls := tyL,data := (.seq #[(.int (x.I 6 0) (x.V 6 0))] (x.N 6)) })],touch := [5,6],na := 1,nt := 0,res := fun as ts => .ok (.ret (.ref (nth as 0))),postT := fun as ts => [some ({ cls := tyL,data := (.seq #[(vI x (1) 5 0)] (x.N 5)) }),some ({ cls := tyL,data := (.seq #[(.int (x.I 6 (pmI 1 p 0)) (x.V 6 (pmI 1 p 0)))] (x.N 6)) })],postN := fun as ts => [{ cls := tyL,data := (.seq #[] 0) }],rawP := [],rawQ := [] }
theorem R_ts010 (w : World) (x : Vars) : (S_ts01 w x 0).Holds (VV w) :=
  sF (F := FQ w) (vok _) 20000 ⟨cp q14 0 111 (cp q14 81 48 ([])), [14], []⟩ fun m t => by kernel_rfl
noncomputable def S_ts02 (w : World) (x : Vars) (p : Nat) : Spec := { code := .call (.ref 684) ⟨[(vA x 0),(vA x 2)],[]⟩,dep := 700,need := [bB (ltB (x.I 6 1) (x.I 6 0)) (bitP p 0)],pre := [(aA x 0,(iX 451 (aA x 1))),(aA x 1,{ cls := tyD,data := (.dict #[eX x 1 0 s7 (vR x 1 0),eX x 1 1 s8 (vB x b33 1 1),eX x 1 2 s9 (vR x 1 2),eX x 1 3 s10 (.int (x.I 1 3) (x.V 1 3)),eX x 1 4 s11 (vI x (0) 1 4),eX x 1 5 s12 (vR x 1 5),eX x 1 6 s13 (vI x (8) 1 6),eX x 1 7 s14 (vR x 1 7)] (x.N 1)) }),(aA x 2,{ cls := tyL,data := (.seq #[(vA x 3)] (x.N 2)) }),(aA x 3,(iX 234 (aA x 4))),(aA x 4,(oTX x 4 (vI x (-91) 4 0) (vA x 5) (vA x 6) .none)),(aA x 5,{ cls := tyL,data := (.seq #[(vI x (1) 5 0),(vI x (2) 5 1)] (x.N 5)) }),(aA x 6,{ cls := tyL,data := (.seq #[(.int (x.I 6 0) (x.V 6 0)),(.int (x.I 6 1) (x.V 6 1))] (x.N 6)) })],touch := [5,6],na := 1,nt := 0,res := fun as ts => .ok (.ret (.ref (nth as 0))),postT := fun as ts => [some ({ cls := tyL,data := (.seq #[(vI x (1) 5 0),(vI x (2) 5 1)] (x.N 5)) }),some ({ cls := tyL,data := (.seq #[(.int (x.I 6 (pmI 2 p 0)) (x.V 6 (pmI 2 p 0))),(.int (x.I 6 (pmI 2 p 1)) (x.V 6 (pmI 2 p 1)))] (x.N 6)) })],postN := fun as ts => [{ cls := tyL,data := (.seq #[] 0) }],rawP := [],rawQ := [] }
theorem R_ts020 (w : World) (x : Vars) : (S_ts02 w x 0).Holds (VV w) :=
  sF (F := FQ w) (vok _) 20000 ⟨q15, [18], []⟩ fun m t => by kernel_rfl
theorem R_ts021 (w : World) (x : Vars) : (S_ts02 w x 1).Holds (VV w) :=
  sF (F := FQ w) (vok _) 20000 ⟨cp q15 0 294 (ap [1] (cp q15 295 19 (cp q15 265 26 (cp q15 282 9 (ap [8,0,8,8,8,1,1] (cp q14 58 17 (cp q15 312 18 ([])))))))), [18], []⟩ fun m t => by kernel_rfl
noncomputable def S_ts03 (w : World) (x : Vars) (p : Nat) : Spec := { code := .call (.ref 684) ⟨[(vA x 0),(vA x 2)],[]⟩,dep := 700,need := [bB (ltB (x.I 6 1) (x.I 6 0)) (bitP p 0),bB (ltB (x.I 6 2) (x.I 6 0)) (bitP p 1),bB (ltB (x.I 6 2) (x.I 6 1)) (bitP p 2)],pre := [(aA x 0,(iX 451 (aA x 1))),(aA x 1,{ cls := tyD,data := (.dict #[eX x 1 0 s7 (vR x 1 0),eX x 1 1 s8 (vB x b33 1 1),eX x 1 2 s9 (vR x 1 2),eX x 1 3 s10 (.int (x.I 1 3) (x.V 1 3)),eX x 1 4 s11 (vI x (0) 1 4),eX x 1 5 s12 (vR x 1 5),eX x 1 6 s13 (vI x (8) 1 6),eX x 1 7 s14 (vR x 1 7)] (x.N 1)) }),(aA x 2,{ cls := tyL,data := (.seq #[(vA x 3)] (x.N 2)) }),(aA x 3,(iX 234 (aA x 4))),(aA x 4,(oTX x 4 (vI x (-91) 4 0) (vA x 5) (vA x 6) .none)),(aA x 5,{ cls := tyL,data := (.seq #[(vI x (1) 5 0),(vI x (2) 5 1),(vI x (3) 5 2)] (x.N 5)) }),(aA x 6,{ cls := tyL,data := (.seq #[(.int (x.I 6 0) (x.V 6 0)),(.int (x.I 6 1) (x.V 6 1)),(.int (x.I 6 2) (x.V 6 2))] (x.N 6)) })],touch := [5,6],na := 1,nt := 0,res := fun as ts => .ok (.ret (.ref (nth as 0))),postT := fun as ts => [some ({ cls := tyL,data := (.seq #[(vI x (1) 5 0),(vI x (2) 5 1),(vI x (3) 5 2)] (x.N 5)) }),some ({ cls := tyL,data := (.seq #[(.int (x.I 6 (pmI 3 p 0)) (x.V 6 (pmI 3 p 0))),(.int (x.I 6 (pmI 3 p 1)) (x.V 6 (pmI 3 p 1))),(.int (x.I 6 (pmI 3 p 2)) (x.V 6 (pmI 3 p 2)))] (x.N 6)) })],postN := fun as ts => [{ cls := tyL,data := (.seq #[] 0) }],rawP := [],rawQ := [] }
theorem R_ts030 (w : World) (x : Vars) : (S_ts03 w x 0).Holds (VV w) :=
  sF (F := FQ w) (vok _) 20000 ⟨cp q15 0 171 (cp q15 141 188 (cp q15 188 34 (ap [17,17,17,1,17,18,18,18,18,18,17,18,18,18,18,18,18,17,18,18,18,18,18,18,17,18,18,20] (cp q15 250 45 (ap [3] (cp q15 296 33 (ap [22] ([])))))))), [22], []⟩ fun m t => by kernel_rfl
theorem R_ts031 (w : World) (x : Vars) : (S_ts03 w x 1).Holds (VV w) :=
  sF (F := FQ w) (vok _) 20000 ⟨cp q15 0 171 (cp q15 141 153 (ap [1] (cp q15 295 19 (cp q15 265 26 (cp q15 282 9 (ap [8,0,8,8,8,1,1] (cp q14 58 17 (cp q15 312 17 (cp q15 188 34 (ap [17,17,17,1,17,18,18,18,18,18,17,18,18,18,18,18,18,17,18,18,18,18,18,18,17,18,18,20] (cp q15 250 45 (ap [2] (cp q15 296 33 (ap [22] ([]))))))))))))))), [22], []⟩ fun m t => by kernel_rfl
theorem R_ts033 (w : World) (x : Vars) : (S_ts03 w x 3).Holds (VV w) :=
  sF (F := FQ w) (vok _) 20000 ⟨cp q15 0 171 (cp q15 141 153 (ap [1] (cp q15 295 19 (cp q15 265 26 (cp q15 282 9 (ap [8,0,8,8,8,1,1] (cp q14 58 17 (cp q15 312 17 (cp q15 188 34 (ap [17,17,17,1,17,18,18,18,18,18,17,18,18,18,18,18,18,17,18,18,18,18,18,18,17,18,18,20] (cp q15 250 44 (ap [1,2] (cp q15 296 18 (cp q15 265 26 (cp q15 282 9 (cp q15 252 43 (ap [3] (cp q15 296 33 (ap [22] ([])))))))))))))))))))), [22], []⟩ fun m t => by kernel_rfl
theorem R_ts034 (w : World) (x : Vars) : (S_ts03 w x 4).Holds (VV w) :=
  sF (F := FQ w) (vok _) 20000 ⟨cp q15 0 171 (cp q15 141 188 (cp q15 188 34 (ap [17,17,17,1,17,18,18,18,18,18,17,18,18,18,18,18,18,17,18,18,18,18,18,18,17,18,18,20] (cp q15 250 44 (ap [1,3] (cp q15 296 18 (cp q15 265 26 (cp q15 282 9 (cp q15 252 43 (ap [2] (cp q15 296 33 (ap [22] ([]))))))))))))), [22], []⟩ fun m t => by kernel_rfl
theorem R_ts036 (w : World) (x : Vars) : (S_ts03 w x 6).Holds (VV w) :=
  sF (F := FQ w) (vok _) 20000 ⟨cp q15 0 171 (cp q15 141 188 (cp q15 188 34 (ap [17,17,17,1,17,18,18,18,18,18,17,18,18,18,18,18,18,17,18,18,18,18,18,18,17,18,18,20] (cp q15 250 44 (ap [1,3] (cp q15 296 18 (cp q15 265 26 (cp q15 282 9 (cp q15 252 42 (ap [1,2] (cp q15 296 18 (cp q15 265 26 (cp q15 282 9 (ap [8,0,8,8,8,1,1] (cp q14 58 17 (cp q15 312 17 (ap [22] ([])))))))))))))))))), [22], []⟩ fun m t => by kernel_rfl
theorem R_ts037 (w : World) (x : Vars) : (S_ts03 w x 7).Holds (VV w) :=
  sF (F := FQ w) (vok _) 20000 ⟨cp q15 0 171 (cp q15 141 153 (ap [1] (cp q15 295 19 (cp q15 265 26 (cp q15 282 9 (ap [8,0,8,8,8,1,1] (cp q14 58 17 (cp q15 312 17 (cp q15 188 34 (ap [17,17,17,1,17,18,18,18,18,18,17,18,18,18,18,18,18,17,18,18,18,18,18,18,17,18,18,20] (cp q15 250 44 (ap [1,2] (cp q15 296 18 (cp q15 265 26 (cp q15 282 9 (cp q15 252 42 (ap [1,3] (cp q15 296 18 (cp q15 265 26 (cp q15 282 9 (ap [8,0,8,8,8,1,1] (cp q14 58 17 (cp q15 312 17 (ap [22] ([]))))))))))))))))))))))))), [22], []⟩ fun m t => by kernel_rfl
noncomputable def S_ts10 (w : World) (x : Vars) (p : Nat) : Spec := { code := .call (.ref 684) ⟨[(vA x 0),(vA x 2)],[]⟩,dep := 700,need := [],pre := [(aA x 0,(iX 451 (aA x 1))),(aA x 1,{ cls := tyD,data := (.dict #[eX x 1 0 s7 (vR x 1 0),eX x 1 1 s8 (vB x b33 1 1),eX x 1 2 s9 (vR x 1 2),eX x 1 3 s10 (.int (x.I 1 3) (x.V 1 3)),eX x 1 4 s11 (vI x (0) 1 4),eX x 1 5 s12 (vR x 1 5),eX x 1 6 s13 (vI x (8) 1 6),eX x 1 7 s14 (vR x 1 7)] (x.N 1)) }),(aA x 2,{ cls := tyL,data := (.seq #[(vA x 3),.none] (x.N 2)) }),(aA x 3,(iX 234 (aA x 4))),(aA x 4,(oTX x 4 (vI x (-91) 4 0) (vA x 5) (vA x 6) .none)),(aA x 5,{ cls := tyL,data := (.seq #[] (x.N 5)) }),(aA x 6,{ cls := tyL,data := (.seq #[] (x.N 6)) })],touch := [5,6],na := 1,nt := 0,res := fun as ts => .ok (.ret (.ref (nth as 0))),postT := fun as ts => [some ({ cls := tyL,data := (.seq #[] (x.N 5)) }),some ({ cls := tyL,data := (.seq #[] (x.N 6)) })],postN := fun as ts => [{ cls := tyL,data := (.seq #[] 0) }],rawP := [],rawQ := [] }
theorem R_ts100 (w : World) (x : Vars) : (S_ts10 w x 0).Holds (VV w) :=
  sF (F := FQ w) (vok _) 20000 ⟨cp q14 0 129 ([]), [14], []⟩ fun m t => by kernel_rfl
noncomputable def S_ts11 (w : World) (x : Vars) (p : Nat) : Spec := { code := .call (.ref 684) ⟨[(vA x 0),(vA x 2)],[]⟩,dep := 700,need := [],pre := [(aA x 0,(iX 451 (aA x 1))),(aA x 1,{ cls := tyD,data := (.dict #[eX x 1 0 s7 (vR x 1 0),eX x 1 1 s8 (vB x b33 1 1),eX x 1 2 s9 (vR x 1 2),eX x 1 3 s10 (.int (x.I 1 3) (x.V 1 3)),eX x 1 4 s11 (vI x (0) 1 4),eX x 1 5 s12 (vR x 1 5),eX x 1 6 s13 (vI x (8) 1 6),eX x 1 7 s14 (vR x 1 7)] (x.N 1)) }),(aA x 2,{ cls := tyL,data := (.seq #[(vA x 3),.none] (x.N 2)) }),(aA x 3,(iX 234 (aA x 4))),(aA x 4,(oTX x 4 (vI x (-91) 4 0) (vA x 5) (vA x 6) .none)),(aA x 5,{ cls := tyL,data := (.seq #[(vI x (1) 5 0)] (x.N 5)) }),(aA x 6,{ cls := tyL,data := (.seq #[(.int (x.I 6 0) (x.V 6 0))] (x.N 6)) })],touch := [5,6],na := 1,nt := 0,res := fun as ts => .ok (.ret (.ref (nth as 0))),postT := fun as ts => [some ({ cls := tyL,data := (.seq #[(vI x (1) 5 0)] (x.N 5)) }),some ({ cls := tyL,data := (.seq #[(.int (x.I 6 (pmI 1 p 0)) (x.V 6 (pmI 1 p 0)))] (x.N 6)) })],postN := fun as ts => [{ cls := tyL,data := (.seq #[] 0) }],rawP := [],rawQ := [] }
theorem R_ts110 (w : World) (x : Vars) : (S_ts11 w x 0).Holds (VV w) :=
  sF (F := FQ w) (vok _) 20000 ⟨cp q15 0 141 (cp q14 111 18 ([])), [14], []⟩ fun m t => by kernel_rfl
noncomputable def S_ts12 (w : World) (x : Vars) (p : Nat) : Spec := { code := .call (.ref 684) ⟨[(vA x 0),(vA x 2)],[]⟩,dep := 700,need := [bB (ltB (x.I 6 1) (x.I 6 0)) (bitP p 0)],pre := [(aA x 0,(iX 451 (aA x 1))),(aA x 1,{ cls := tyD,data := (.dict #[eX x 1 0 s7 (vR x 1 0),eX x 1 1 s8 (vB x b33 1 1),eX x 1 2 s9 (vR x 1 2),eX x 1 3 s10 (.int (x.I 1 3) (x.V 1 3)),eX x 1 4 s11 (vI x (0) 1 4),eX x 1 5 s12 (vR x 1 5),eX x 1 6 s13 (vI x (8) 1 6),eX x 1 7 s14 (vR x 1 7)] (x.N 1)) }),(aA x 2,{ cls := tyL,data := (.seq #[(vA x 3),.none] (x.N 2)) }),(aA x 3,(iX 234 (aA x 4))),(aA x 4,(oTX x 4 (vI x (-91) 4 0) (vA x 5) (vA x 6) .none)),(aA x 5,{ cls := tyL,data := (.seq #[(vI x (1) 5 0),(vI x (2) 5 1)] (x.N 5)) }),(aA x 6,{ cls := tyL,data := (.seq #[(.int (x.I 6 0) (x.V 6 0)),(.int (x.I 6 1) (x.V 6 1))] (x.N 6)) })],touch := [5,6],na := 1,nt := 0,res := fun as ts => .ok (.ret (.ref (nth as 0))),postT := fun as ts => [some ({ cls := tyL,data := (.seq #[(vI x (1) 5 0),(vI x (2) 5 1)] (x.N 5)) }),some ({ cls := tyL,data := (.seq #[(.int (x.I 6 (pmI 2 p 0)) (x.V 6 (pmI 2 p 0))),(.int (x.I 6 (pmI 2 p 1)) (x.V 6 (pmI 2 p 1)))] (x.N 6)) })],postN := fun as ts => [{ cls := tyL,data := (.seq #[] 0) }],rawP := [],rawQ := [] }
theorem R_ts120 (w : World) (x : Vars) : (S_ts12 w x 0).Holds (VV w) :=
  sF (F := FQ w) (vok _) 20000 ⟨cp q15 0 330 ([]), [18], []⟩ fun m t => by kernel_rfl
theorem R_ts121 (w : World) (x : Vars) : (S_ts12 w x 1).Holds (VV w) :=
  sF (F := FQ w) (vok _) 20000 ⟨cp q15 0 294 (ap [1] (cp q15 295 19 (cp q15 265 26 (cp q15 282 9 (ap [8,0,8,8,8,1,1] (cp q14 58 17 (cp q15 312 18 ([])))))))), [18], []⟩ fun m t => by kernel_rfl
noncomputable def S_ts13 (w : World) (x : Vars) (p : Nat) : Spec := { code := .call (.ref 684) ⟨[(vA x 0),(vA x 2)],[]⟩,dep := 700,need := [bB (ltB (x.I 6 1) (x.I 6 0)) (bitP p 0),bB (ltB (x.I 6 2) (x.I 6 0)) (bitP p 1),bB (ltB (x.I 6 2) (x.I 6 1)) (bitP p 2)],pre := [(aA x 0,(iX 451 (aA x 1))),(aA x 1,{ cls := tyD,data := (.dict #[eX x 1 0 s7 (vR x 1 0),eX x 1 1 s8 (vB x b33 1 1),eX x 1 2 s9 (vR x 1 2),eX x 1 3 s10 (.int (x.I 1 3) (x.V 1 3)),eX x 1 4 s11 (vI x (0) 1 4),eX x 1 5 s12 (vR x 1 5),eX x 1 6 s13 (vI x (8) 1 6),eX x 1 7 s14 (vR x 1 7)] (x.N 1)) }),(aA x 2,{ cls := tyL,data := (.seq #[(vA x 3),.none] (x.N 2)) }),(aA x 3,(iX 234 (aA x 4))),(aA x 4,(oTX x 4 (vI x (-91) 4 0) (vA x 5) (vA x 6) .none)),(aA x 5,{ cls := tyL,data := (.seq #[(vI x (1) 5 0),(vI x (2) 5 1),(vI x (3) 5 2)] (x.N 5)) }),(aA x 6,{ cls := tyL,data := (.seq #[(.int (x.I 6 0) (x.V 6 0)),(.int (x.I 6 1) (x.V 6 1)),(.int (x.I 6 2) (x.V 6 2))] (x.N 6)) })],touch := [5,6],na := 1,nt := 0,res := fun as ts => .ok (.ret (.ref (nth as 0))),postT := fun as ts => [some ({ cls := tyL,data := (.seq #[(vI x (1) 5 0),(vI x (2) 5 1),(vI x (3) 5 2)] (x.N 5)) }),some ({ cls := tyL,data := (.seq #[(.int (x.I 6 (pmI 3 p 0)) (x.V 6 (pmI 3 p 0))),(.int (x.I 6 (pmI 3 p 1)) (x.V 6 (pmI 3 p 1))),(.int (x.I 6 (pmI 3 p 2)) (x.V 6 (pmI 3 p 2)))] (x.N 6)) })],postN := fun as ts => [{ cls := tyL,data := (.seq #[] 0) }],rawP := [],rawQ := [] }
theorem R_ts130 (w : World) (x : Vars) : (S_ts13 w x 0).Holds (VV w) :=
  sF (F := FQ w) (vok _) 20000 ⟨cp q15 0 171 (cp q15 141 188 (cp q15 188 34 (ap [17,17,17,1,17,18,18,18,18,18,17,18,18,18,18,18,18,17,18,18,18,18,18,18,17,18,18,20] (cp q15 250 45 (ap [3] (cp q15 296 33 (ap [22] ([])))))))), [22], []⟩ fun m t => by kernel_rfl
theorem R_ts131 (w : World) (x : Vars) : (S_ts13 w x 1).Holds (VV w) :=
  sF (F := FQ w) (vok _) 20000 ⟨cp q15 0 171 (cp q15 141 153 (ap [1] (cp q15 295 19 (cp q15 265 26 (cp q15 282 9 (ap [8,0,8,8,8,1,1] (cp q14 58 17 (cp q15 312 17 (cp q15 188 34 (ap [17,17,17,1,17,18,18,18,18,18,17,18,18,18,18,18,18,17,18,18,18,18,18,18,17,18,18,20] (cp q15 250 45 (ap [2] (cp q15 296 33 (ap [22] ([]))))))))))))))), [22], []⟩ fun m t => by kernel_rfl
theorem R_ts133 (w : World) (x : Vars) : (S_ts13 w x 3).Holds (VV w) :=
  sF (F := FQ w) (vok _) 20000 ⟨cp q15 0 171 (cp q15 141 153 (ap [1] (cp q15 295 19 (cp q15 265 26 (cp q15 282 9 (ap [8,0,8,8,8,1,1] (cp q14 58 17 (cp q15 312 17 (cp q15 188 34 (ap [17,17,17,1,17,18,18,18,18,18,17,18,18,18,18,18,18,17,18,18,18,18,18,18,17,18,18,20] (cp q15 250 44 (ap [1,2] (cp q15 296 18 (cp q15 265 26 (cp q15 282 9 (cp q15 252 43 (ap [3] (cp q15 296 33 (ap [22] ([])))))))))))))))))))), [22], []⟩ fun m t => by kernel_rfl
theorem R_ts134 (w : World) (x : Vars) : (S_ts13 w x 4).Holds (VV w) :=
  sF (F := FQ w) (vok _) 20000 ⟨cp q15 0 171 (cp q15 141 188 (cp q15 188 34 (ap [17,17,17,1,17,18,18,18,18,18,17,18,18,18,18,18,18,17,18,18,18,18,18,18,17,18,18,20] (cp q15 250 44 (ap [1,3] (cp q15 296 18 (cp q15 265 26 (cp q15 282 9 (cp q15 252 43 (ap [2] (cp q15 296 33 (ap [22] ([]))))))))))))), [22], []⟩ fun m t => by kernel_rfl
theorem R_ts136 (w : World) (x : Vars) : (S_ts13 w x 6).Holds (VV w) :=
  sF (F := FQ w) (vok _) 20000 ⟨cp q15 0 171 (cp q15 141 188 (cp q15 188 34 (ap [17,17,17,1,17,18,18,18,18,18,17,18,18,18,18,18,18,17,18,18,18,18,18,18,17,18,18,20] (cp q15 250 44 (ap [1,3] (cp q15 296 18 (cp q15 265 26 (cp q15 282 9 (cp q15 252 42 (ap [1,2] (cp q15 296 18 (cp q15 265 26 (cp q15 282 9 (ap [8,0,8,8,8,1,1] (cp q14 58 17 (cp q15 312 17 (ap [22] ([])))))))))))))))))), [22], []⟩ fun m t => by kernel_rfl
theorem R_ts137 (w : World) (x : Vars) : (S_ts13 w x 7).Holds (VV w) :=
  sF (F := FQ w) (vok _) 20000 ⟨cp q15 0 171 (cp q15 141 153 (ap [1] (cp q15 295 19 (cp q15 265 26 (cp q15 282 9 (ap [8,0,8,8,8,1,1] (cp q14 58 17 (cp q15 312 17 (cp q15 188 34 (ap [17,17,17,1,17,18,18,18,18,18,17,18,18,18,18,18,18,17,18,18,18,18,18,18,17,18,18,20] (cp q15 250 44 (ap [1,2] (cp q15 296 18 (cp q15 265 26 (cp q15 282 9 (cp q15 252 42 (ap [1,3] (cp q15 296 18 (cp q15 265 26 (cp q15 282 9 (ap [8,0,8,8,8,1,1] (cp q14 58 17 (cp q15 312 17 (ap [22] ([]))))))))))))))))))))))))), [22], []⟩ fun m t => by kernel_rfl
noncomputable def S_ts20 (w : World) (x : Vars) (p : Nat) : Spec := { code := .call (.ref 684) ⟨[(vA x 0),(vA x 2)],[]⟩,dep := 700,need := [!ltB 1000000000 ((x.I 1 3) + 1),!ltB 1000000000 (((x.I 1 3) + 1) + 1),!ltB 1000000000 ((((x.I 1 3) + 1) + 1) + 1)],pre := [(aA x 0,(iX 451 (aA x 1))),(aA x 1,{ cls := tyD,data := (.dict #[eX x 1 0 s7 (vA x 7),eX x 1 1 s8 (vB x b33 1 1),eX x 1 2 s9 (vR x 1 2),eX x 1 3 s10 (.int (x.I 1 3) (x.V 1 3)),eX x 1 4 s11 (vI x (0) 1 4),eX x 1 5 s12 (vA x 9),eX x 1 6 s13 (vI x (8) 1 6),eX x 1 7 s14 (vR x 1 7)] (x.N 1)) }),(aA x 2,{ cls := tyL,data := (.seq #[(vA x 3),(vA x 10)] (x.N 2)) }),(aA x 3,(iX 234 (aA x 4))),(aA x 4,(oTX x 4 (vI x (-91) 4 0) (vA x 5) (vA x 6) .none)),(aA x 5,{ cls := tyL,data := (.seq #[] (x.N 5)) }),(aA x 6,{ cls := tyL,data := (.seq #[] (x.N 6)) }),(aA x 7,(iX 53 (aA x 8))),(aA x 8,(oLX x 8)),(aA x 9,{ cls := tyL,data := (.seq #[(vR x 9 0)] (x.N 9)) }),(aA x 10,(iX 255 (aA x 11))),(aA x 11,{ cls := tyD,data := (.dict #[eX x 11 0 s3 (vI x (-94) 11 0),eX x 11 1 s23 (vB x b54 11 1),eX x 11 2 s24 (vF x 12)] (x.N 11)) }),(bA x 12,oFunc (lamTurned w.params) s26 s36 [] .none (vA x 13) (.str s29 1295)),(aA x 13,{ cls := (.type "code"),data := (.fields #[(.str s26 (x.V 13 0)),(.str s36 (x.V 13 1)),(.str s30 (x.V 13 2)),(.int (631) 0),(.int (2) 0),(.int (0) 0),(.int (0) 0),(.int (19) 0),(x.Z 13 8),(.bool true),(.int (181) 0),(x.Z 13 11),.none,(x.Z 13 13),(x.Z 13 14),(x.Z 13 15),(.int (x.I 13 16) 0),(.int (631) 0),(.str s30 (x.V 13 18))]) })],touch := [5,6,1,9],na := 1,nt := 0,res := fun as ts => .ok (.ret (.ref (nth as 0))),postT := fun as ts => [some ({ cls := tyL,data := (.seq #[] (x.N 5)) }),some ({ cls := tyL,data := (.seq #[] (x.N 6)) }),some ({ cls := tyD,data := (.dict #[eX x 1 0 s7 (vA x 7),eX x 1 1 s8 (vB x b33 1 1),eX x 1 2 s9 (vR x 1 2),eX x 1 3 s10 (.int (plusN (cnP 0 p) (x.I 1 3)) (x.V 1 3)),eX x 1 4 s11 (vI x (0) 1 4),eX x 1 5 s12 (vA x 9),eX x 1 6 s13 (vI x (8) 1 6),eX x 1 7 s14 (vR x 1 7)] (x.N 1)) }),some ({ cls := tyL,data := (.seq #[(vR x 9 0)] ((x.N 9) + 2 * cnP 0 p)) })],postN := fun as ts => [{ cls := tyL,data := (.seq #[] 0) }],rawP := [13],rawQ := [] }
theorem R_ts200 (w : World) (x : Vars) : (S_ts20 w x 0).Holds (VV w) :=
  sF (F := FQ w) (vok _) 20000 ⟨q16, [22], []⟩ fun m t => by kernel_rfl
noncomputable def S_ts21 (w : World) (x : Vars) (p : Nat) : Spec := { code := .call (.ref 684) ⟨[(vA x 0),(vA x 2)],[]⟩,dep := 700,need := [!ltB 1000000000 ((x.I 1 3) + 1),!ltB 1000000000 (((x.I 1 3) + 1) + 1),!ltB 1000000000 ((((x.I 1 3) + 1) + 1) + 1)],pre := [(aA x 0,(iX 451 (aA x 1))),(aA x 1,{ cls := tyD,data := (.dict #[eX x 1 0 s7 (vA x 7),eX x 1 1 s8 (vB x b33 1 1),eX x 1 2 s9 (vR x 1 2),eX x 1 3 s10 (.int (x.I 1 3) (x.V 1 3)),eX x 1 4 s11 (vI x (0) 1 4),eX x 1 5 s12 (vA x 9),eX x 1 6 s13 (vI x (8) 1 6),eX x 1 7 s14 (vR x 1 7)] (x.N 1)) }),(aA x 2,{ cls := tyL,data := (.seq #[(vA x 3),(vA x 10)] (x.N 2)) }),(aA x 3,(iX 234 (aA x 4))),(aA x 4,(oTX x 4 (vI x (-91) 4 0) (vA x 5) (vA x 6) .none)),(aA x 5,{ cls := tyL,data := (.seq #[(vI x (1) 5 0)] (x.N 5)) }),(aA x 6,{ cls := tyL,data := (.seq #[(.int (x.I 6 0) (x.V 6 0))] (x.N 6)) }),(aA x 7,(iX 53 (aA x 8))),(aA x 8,(oLX x 8)),(aA x 9,{ cls := tyL,data := (.seq #[(vR x 9 0)] (x.N 9)) }),(aA x 10,(iX 255 (aA x 11))),(aA x 11,{ cls := tyD,data := (.dict #[eX x 11 0 s3 (vI x (-94) 11 0),eX x 11 1 s23 (vB x b54 11 1),eX x 11 2 s24 (vF x 12)] (x.N 11)) }),(bA x 12,oFunc (lamTurned w.params) s26 s36 [] .none (vA x 13) (.str s29 1295)),(aA x 13,{ cls := (.type "code"),data := (.fields #[(.str s26 (x.V 13 0)),(.str s36 (x.V 13 1)),(.str s30 (x.V 13 2)),(.int (631) 0),(.int (2) 0),(.int (0) 0),(.int (0) 0),(.int (19) 0),(x.Z 13 8),(.bool true),(.int (181) 0),(x.Z 13 11),.none,(x.Z 13 13),(x.Z 13 14),(x.Z 13 15),(.int (x.I 13 16) 0),(.int (631) 0),(.str s30 (x.V 13 18))]) })],touch := [5,6,1,9],na := 1,nt := 0,res := fun as ts => .ok (.ret (.ref (nth as 0))),postT := fun as ts => [some ({ cls := tyL,data := (.seq #[(vI x (1) 5 0)] (x.N 5)) }),some ({ cls := tyL,data := (.seq #[(.int (x.I 6 (pmI 1 p 0)) (x.V 6 (pmI 1 p 0)))] (x.N 6)) }),some ({ cls := tyD,data := (.dict #[eX x 1 0 s7 (vA x 7),eX x 1 1 s8 (vB x b33 1 1),eX x 1 2 s9 (vR x 1 2),eX x 1 3 s10 (.int (plusN (cnP 1 p) (x.I 1 3)) (x.V 1 3)),eX x 1 4 s11 (vI x (0) 1 4),eX x 1 5 s12 (vA x 9),eX x 1 6 s13 (vI x (8) 1 6),eX x 1 7 s14 (vR x 1 7)] (x.N 1)) }),some ({ cls := tyL,data := (.seq #[(vR x 9 0)] ((x.N 9) + 2 * cnP 1 p)) })],postN := fun as ts => [{ cls := tyL,data := (.seq #[] 0) }],rawP := [13],rawQ := [] }
theorem R_ts210 (w : World) (x : Vars) : (S_ts21 w x 0).Holds (VV w) :=
  sF (F := FQ w) (vok _) 20000 ⟨cp q16 0 125 (cp q16 95 48 ([])), [22], []⟩ fun m t => by kernel_rfl
noncomputable def S_ts22 (w : World) (x : Vars) (p : Nat) : Spec := { code := .call (.ref 684) ⟨[(vA x 0),(vA x 2)],[]⟩,dep := 700,need := [bB (!!ltB (x.I 6 0) (x.I 6 1)) (bitP p 0),!ltB 1000000000 ((x.I 1 3) + 1),!ltB 1000000000 (((x.I 1 3) + 1) + 1),!ltB 1000000000 ((((x.I 1 3) + 1) + 1) + 1)],pre := [(aA x 0,(iX 451 (aA x 1))),(aA x 1,{ cls := tyD,data := (.dict #[eX x 1 0 s7 (vA x 7),eX x 1 1 s8 (vB x b33 1 1),eX x 1 2 s9 (vR x 1 2),eX x 1 3 s10 (.int (x.I 1 3) (x.V 1 3)),eX x 1 4 s11 (vI x (0) 1 4),eX x 1 5 s12 (vA x 9),eX x 1 6 s13 (vI x (8) 1 6),eX x 1 7 s14 (vR x 1 7)] (x.N 1)) }),(aA x 2,{ cls := tyL,data := (.seq #[(vA x 3),(vA x 10)] (x.N 2)) }),(aA x 3,(iX 234 (aA x 4))),(aA x 4,(oTX x 4 (vI x (-91) 4 0) (vA x 5) (vA x 6) .none)),(aA x 5,{ cls := tyL,data := (.seq #[(vI x (1) 5 0),(vI x (2) 5 1)] (x.N 5)) }),(aA x 6,{ cls := tyL,data := (.seq #[(.int (x.I 6 0) (x.V 6 0)),(.int (x.I 6 1) (x.V 6 1))] (x.N 6)) }),(aA x 7,(iX 53 (aA x 8))),(aA x 8,(oLX x 8)),(aA x 9,{ cls := tyL,data := (.seq #[(vR x 9 0)] (x.N 9)) }),(aA x 10,(iX 255 (aA x 11))),(aA x 11,{ cls := tyD,data := (.dict #[eX x 11 0 s3 (vI x (-94) 11 0),eX x 11 1 s23 (vB x b54 11 1),eX x 11 2 s24 (vF x 12)] (x.N 11)) }),(bA x 12,oFunc (lamTurned w.params) s26 s36 [] .none (vA x 13) (.str s29 1295)),(aA x 13,{ cls := (.type "code"),data := (.fields #[(.str s26 (x.V 13 0)),(.str s36 (x.V 13 1)),(.str s30 (x.V 13 2)),(.int (631) 0),(.int (2) 0),(.int (0) 0),(.int (0) 0),(.int (19) 0),(x.Z 13 8),(.bool true),(.int (181) 0),(x.Z 13 11),.none,(x.Z 13 13),(x.Z 13 14),(x.Z 13 15),(.int (x.I 13 16) 0),(.int (631) 0),(.str s30 (x.V 13 18))]) })],touch := [5,6,1,9],na := 1,nt := 2,res := fun as ts => .ok (.ret (.ref (nth as 0))),postT := fun as ts => [some ({ cls := tyL,data := (.seq #[(vI x (1) 5 0),(vI x (2) 5 1)] (x.N 5)) }),some ({ cls := tyL,data := (.seq #[(.int (x.I 6 (pmI 2 p 0)) (x.V 6 (pmI 2 p 0))),(.int (x.I 6 (pmI 2 p 1)) (x.V 6 (pmI 2 p 1)))] (x.N 6)) }),some ({ cls := tyD,data := (.dict #[eX x 1 0 s7 (vA x 7),eX x 1 1 s8 (vB x b33 1 1),eX x 1 2 s9 (vR x 1 2),eX x 1 3 s10 (.int (plusN (cnP 2 p) (x.I 1 3)) (nth ts 0)),eX x 1 4 s11 (vI x (0) 1 4),eX x 1 5 s12 (vA x 9),eX x 1 6 s13 (.int (8) (nth ts 1)),eX x 1 7 s14 (vR x 1 7)] (x.N 1)) }),some ({ cls := tyL,data := (.seq #[(vR x 9 0)] ((x.N 9) + 2 * cnP 2 p)) })],postN := fun as ts => [{ cls := tyL,data := (.seq #[] 0) }],rawP := [13],rawQ := [] }
theorem R_ts220 (w : World) (x : Vars) : (S_ts22 w x 0).Holds (VV w) :=
  sF (F := FQ w) (vok _) 20000 ⟨cp q16 0 125 (cp q16 95 30 (cp q16 95 47 (ap [20,20,20,20,0,15,15] (cp q16 73 16 (ap [15] (cp q14 101 9 (ap [15,21] (cp q2 19 12 (ap [22,22,22,22,21,22,22,22,22,22,22,21,22,22,24] (cp q13 143 11 (ap [15,15,15] (cp q16 73 16 (ap [15] (cp q15 281 10 (ap [9,1,2,11,8,9,10,12,13,14,2,1,2] (cp q16 73 16 (ap [15,15] (cp q15 281 10 (ap [20,20,20,20,20,26] ([])))))))))))))))))))), [26], [41,42]⟩ fun m t => by kernel_rfl
theorem R_ts221 (w : World) (x : Vars) : (S_ts22 w x 1).Holds (VV w) :=
  sF (F := FQ w) (vok _) 20000 ⟨q17, [26], [41,42]⟩ fun m t => by kernel_rfl
noncomputable def S_ts23 (w : World) (x : Vars) (p : Nat) : Spec := { code := .call (.ref 684) ⟨[(vA x 0),(vA x 2)],[]⟩,dep := 700,need := [bB (!!ltB (x.I 6 0) (x.I 6 1)) (bitP p 0),bB (!!ltB (x.I 6 0) (x.I 6 2)) (bitP p 1),bB (!!ltB (x.I 6 1) (x.I 6 2)) (bitP p 2),!ltB 1000000000 ((x.I 1 3) + 1),!ltB 1000000000 (((x.I 1 3) + 1) + 1),!ltB 1000000000 ((((x.I 1 3) + 1) + 1) + 1)],pre := [(aA x 0,(iX 451 (aA x 1))),(aA x 1,{ cls := tyD,data := (.dict #[eX x 1 0 s7 (vA x 7),eX x 1 1 s8 (vB x b33 1 1),eX x 1 2 s9 (vR x 1 2),eX x 1 3 s10 (.int (x.I 1 3) (x.V 1 3)),eX x 1 4 s11 (vI x (0) 1 4),eX x 1 5 s12 (vA x 9),eX x 1 6 s13 (vI x (8) 1 6),eX x 1 7 s14 (vR x 1 7)] (x.N 1)) }),(aA x 2,{ cls := tyL,data := (.seq #[(vA x 3),(vA x 10)] (x.N 2)) }),(aA x 3,(iX 234 (aA x 4))),(aA x 4,(oTX x 4 (vI x (-91) 4 0) (vA x 5) (vA x 6) .none)),(aA x 5,{ cls := tyL,data := (.seq #[(vI x (1) 5 0),(vI x (2) 5 1),(vI x (3) 5 2)] (x.N 5)) }),(aA x 6,{ cls := tyL,data := (.seq #[(.int (x.I 6 0) (x.V 6 0)),(.int (x.I 6 1) (x.V 6 1)),(.int (x.I 6 2) (x.V 6 2))] (x.N 6)) }),(aA x 7,(iX 53 (aA x 8))),(aA x 8,(oLX x 8)),(aA x 9,{ cls := tyL,data := (.seq #[(vR x 9 0)] (x.N 9)) }),(aA x 10,(iX 255 (aA x 11))),(aA x 11,{ cls := tyD,data := (.dict #[eX x 11 0 s3 (vI x (-94) 11 0),eX x 11 1 s23 (vB x b54 11 1),eX x 11 2 s24 (vF x 12)] (x.N 11)) }),(bA x 12,oFunc (lamTurned w.params) s26 s36 [] .none (vA x 13) (.str s29 1295)),(aA x 13,{ cls := (.type "code"),data := (.fields #[(.str s26 (x.V 13 0)),(.str s36 (x.V 13 1)),(.str s30 (x.V 13 2)),(.int (631) 0),(.int (2) 0),(.int (0) 0),(.int (0) 0),(.int (19) 0),(x.Z 13 8),(.bool true),(.int (181) 0),(x.Z 13 11),.none,(x.Z 13 13),(x.Z 13 14),(x.Z 13 15),(.int (x.I 13 16) 0),(.int (631) 0),(.str s30 (x.V 13 18))]) })],touch := [5,6,1,9],na := 1,nt := 2,res := fun as ts => .ok (.ret (.ref (nth as 0))),postT := fun as ts => [some ({ cls := tyL,data := (.seq #[(vI x (1) 5 0),(vI x (2) 5 1),(vI x (3) 5 2)] (x.N 5)) }),some ({ cls := tyL,data := (.seq #[(.int (x.I 6 (pmI 3 p 0)) (x.V 6 (pmI 3 p 0))),(.int (x.I 6 (pmI 3 p 1)) (x.V 6 (pmI 3 p 1))),(.int (x.I 6 (pmI 3 p 2)) (x.V 6 (pmI 3 p 2)))] (x.N 6)) }),some ({ cls := tyD,data := (.dict #[eX x 1 0 s7 (vA x 7),eX x 1 1 s8 (vB x b33 1 1),eX x 1 2 s9 (vR x 1 2),eX x 1 3 s10 (.int (plusN (cnP 3 p) (x.I 1 3)) (nth ts 0)),eX x 1 4 s11 (vI x (0) 1 4),eX x 1 5 s12 (vA x 9),eX x 1 6 s13 (.int (8) (nth ts 1)),eX x 1 7 s14 (vR x 1 7)] (x.N 1)) }),some ({ cls := tyL,data := (.seq #[(vR x 9 0)] ((x.N 9) + 2 * cnP 3 p)) })],postN := fun as ts => [{ cls := tyL,data := (.seq #[] 0) }],rawP := [13],rawQ := [] }
theorem R_ts230 (w : World) (x : Vars) : (S_ts23 w x 0).Holds (VV w) :=
  sF (F := FQ w) (vok _) 20000 ⟨cp q17 0 185 (cp q17 155 160 (ap [2,1,4] (cp q17 379 33 (cp q17 202 34 (ap [25,25,25,1,25,26,26,26,26,26,25,26,26,26,26,26,26,25,26,26,26,26,26,26,25,26,26,28] (cp q17 264 51 (ap [2,3,5] (cp q17 379 33 (ap [30] ([])))))))))), [30], [55,56]⟩ fun m t => by kernel_rfl
theorem R_ts231 (w : World) (x : Vars) : (S_ts23 w x 1).Holds (VV w) :=
  sF (F := FQ w) (vok _) 20000 ⟨cp q17 0 185 (cp q17 155 162 (ap [4] (cp q17 318 94 (cp q17 202 34 (ap [25,25,25,1,25,26,26,26,26,26,25,26,26,26,26,26,26,25,26,26,26,26,26,26,25,26,26,28] (cp q17 264 51 (ap [2,2,5] (cp q17 379 33 (ap [30] ([])))))))))), [30], [61,62]⟩ fun m t => by kernel_rfl
theorem R_ts233 (w : World) (x : Vars) : (S_ts23 w x 3).Holds (VV w) :=
  sF (F := FQ w) (vok _) 20000 ⟨cp q17 0 185 (cp q17 155 162 (ap [4] (cp q17 318 94 (cp q17 202 34 (ap [25,25,25,1,25,26,26,26,26,26,25,26,26,26,26,26,26,25,26,26,26,26,26,26,25,26,26,28] (cp q17 264 52 (ap [2,5] (cp q17 318 59 (cp q17 272 43 (ap [2,3,6] (cp q17 379 33 (ap [30] ([]))))))))))))), [30], [71,72]⟩ fun m t => by kernel_rfl
theorem R_ts234 (w : World) (x : Vars) : (S_ts23 w x 4).Holds (VV w) :=
  sF (F := FQ w) (vok _) 20000 ⟨cp q17 0 185 (cp q17 155 160 (ap [2,1,4] (cp q17 379 33 (cp q17 202 34 (ap [25,25,25,1,25,26,26,26,26,26,25,26,26,26,26,26,26,25,26,26,26,26,26,26,25,26,26,28] (cp q17 264 52 (ap [3,5] (cp q17 318 59 (cp q17 272 43 (ap [2,2,6] (cp q17 379 33 (ap [30] ([]))))))))))))), [30], [65,66]⟩ fun m t => by kernel_rfl
theorem R_ts236 (w : World) (x : Vars) : (S_ts23 w x 6).Holds (VV w) :=
  sF (F := FQ w) (vok _) 20000 ⟨cp q17 0 185 (cp q17 155 160 (ap [2,1,4] (cp q17 379 33 (cp q17 202 34 (ap [25,25,25,1,25,26,26,26,26,26,25,26,26,26,26,26,26,25,26,26,26,26,26,26,25,26,26,28] (cp q17 264 52 (ap [3,5] (cp q17 318 59 (cp q17 272 44 (ap [2,6] (cp q17 318 94 (ap [30] ([]))))))))))))), [30], [65,66]⟩ fun m t => by kernel_rfl
theorem R_ts237 (w : World) (x : Vars) : (S_ts23 w x 7).Holds (VV w) :=
  sF (F := FQ w) (vok _) 20000 ⟨cp q17 0 185 (cp q17 155 162 (ap [4] (cp q17 318 94 (cp q17 202 34 (ap [25,25,25,1,25,26,26,26,26,26,25,26,26,26,26,26,26,25,26,26,26,26,26,26,25,26,26,28] (cp q17 264 52 (ap [2,5] (cp q17 318 59 (cp q17 272 44 (ap [3,6] (cp q17 318 94 (ap [30] ([]))))))))))))), [30], [71,72]⟩ fun m t => by kernel_rfl
end Mine
end

section
open PySem PySem.W PySem.W.X PyProof.Rows
set_option maxRecDepth 1000000
set_option maxHeartbeats 0
namespace Mine
open PySem.W.ZFast (hashOfZ)
/-! a row in order -/
def insI (x : Int) : List Int → List Int
  | [] => [x]
  | y :: l => match leB x y with
    | true => x :: y :: l
    | false => y :: insI x l
def sortI : List Int → List Int
  | [] => []
  | x :: l => insI x (sortI l)
def n1 (b : Bool) : Nat := match b with | true => 1 | false => 0
def cmpS (rev : Bool) (new old : Int) : Bool := match rev with | false => ltB new old | true => ltB old new
/-- which path a row takes -/
def pOf (rev : Bool) (ns : List Int) : Nat := match ns with
  | [a, b] => n1 (cmpS rev b a)
  | [a, b, c] => n1 (cmpS rev b a) + 2 * n1 (cmpS rev c a) + 4 * n1 (cmpS rev c b)
  | _ => 0
def pickI (rev : Bool) (ns : List Int) (j : Nat) : Int := match rev with
  | false => (sortI ns).getD j 0
  | true => (sortI ns).getD (ns.length - 1 - j) 0
def srtL (rev : Bool) (all : List Value) : List Value → Nat → List Value
  | [], _ => []
  | _ :: l, j => .int (pickI rev (all.map intOf) j) ((all.map tokOf).getD (pmI all.length (pOf rev (all.map intOf)) j) 0) :: srtL rev all l (j + 1)
/-- the row in order (from the greatest, if rev) -/
def srtA (rev : Bool) (vs : Array Value) : Array Value := ⟨srtL rev vs.toList vs.toList 0⟩
/-- how often the order is asked -/
def cntA (vs : Array Value) : Nat := cnP vs.toList.length (pOf true (vs.toList.map intOf))
def keysOk : List Value → Int → Bool
  | [], _ => true
  | .int k _ :: l, i => eqB k i && keysOk l (i + 1)
  | _, _ => false
def tsOk (ks vs : Array Value) : Bool := Nat.beq ks.toList.length vs.toList.length && (Nat.ble vs.toList.length 3 && (keysOk ks.toList 1 && allInt vs))
theorem keysOk_cons {k : Value} {l : List Value} {i : Int} (h : keysOk (k :: l) i = true) : ∃ t, k = .int i t ∧ keysOk l (i + 1) = true := by
  cases k with
  | int k t =>
    have h : (eqB k i && keysOk l (i + 1)) = true := h
    rw [Bool.and_eq_true] at h
    have := eqB_iff'.1 h.1
    subst this
    exact ⟨t, rfl, h.2⟩
  | _ => cases h
def intL (l : List Value) : Bool := l.all fun v => match v with | .int _ _ => true | _ => false
theorem intL_cons {k : Value} {l : List Value} (h : intL (k :: l) = true) : ∃ a t, k = .int a t ∧ intL l = true := by
  unfold intL at h
  rw [List.all_cons, Bool.and_eq_true] at h
  cases k with
  | int k t => exact ⟨k, t, rfl, h.2⟩
  | _ => exact absurd h.1 (by simp)
theorem tsShape {ks vs : Array Value} (h : tsOk ks vs = true) : (ks = #[] ∧ vs = #[]) ∨ (∃ t1 a ta, ks = #[.int 1 t1] ∧ vs = #[.int a ta]) ∨ (∃ t1 t2 a ta b tb, ks = #[.int 1 t1, .int 2 t2] ∧ vs = #[.int a ta, .int b tb]) ∨ (∃ t1 t2 t3 a ta b tb c tc, ks = #[.int 1 t1, .int 2 t2, .int 3 t3] ∧ vs = #[.int a ta, .int b tb, .int c tc]) := by
  obtain ⟨ks⟩ := ks
  obtain ⟨vs⟩ := vs
  unfold tsOk at h
  rw [Bool.and_eq_true, Bool.and_eq_true, Bool.and_eq_true] at h
  obtain ⟨h1, h2, h3, h4⟩ := h
  have h1 : ks.length = vs.length := Nat.eq_of_beq_eq_true h1
  have h2 : vs.length ≤ 3 := Nat.le_of_ble_eq_true h2
  have h3 : keysOk ks 1 = true := h3
  have h4 : intL vs = true := h4
  match ks, vs, h1, h2, h3, h4 with
  | [], [], _, _, _, _ => exact .inl ⟨rfl, rfl⟩
  | [k1], [v1], _, _, h3, h4 =>
    obtain ⟨t1, rfl, _⟩ := keysOk_cons h3
    obtain ⟨a, ta, rfl, _⟩ := intL_cons h4
    exact .inr (.inl ⟨t1, a, ta, rfl, rfl⟩)
  | [k1, k2], [v1, v2], _, _, h3, h4 =>
    obtain ⟨t1, rfl, h5⟩ := keysOk_cons h3
    obtain ⟨t2, rfl, h6⟩ := keysOk_cons h5
    obtain ⟨a, ta, rfl, h7⟩ := intL_cons h4
    obtain ⟨b, tb, rfl, h8⟩ := intL_cons h7
    exact .inr (.inr (.inl ⟨t1, t2, a, ta, b, tb, rfl, rfl⟩))
  | [k1, k2, k3], [v1, v2, v3], _, _, h3, h4 =>
    obtain ⟨t1, rfl, h5⟩ := keysOk_cons h3
    obtain ⟨t2, rfl, h6⟩ := keysOk_cons h5
    obtain ⟨t3, rfl, h7⟩ := keysOk_cons h6
    obtain ⟨a, ta, rfl, h8⟩ := intL_cons h4
    obtain ⟨b, tb, rfl, h9⟩ := intL_cons h8
    obtain ⟨c, tc, rfl, h10⟩ := intL_cons h9
    exact .inr (.inr (.inr ⟨t1, t2, t3, a, ta, b, tb, c, tc, rfl, rfl⟩))
  | _ :: _ :: _ :: _ :: _, _ :: _ :: _ :: _ :: _, _, h2, _, _ => simp at h2
theorem ltB_t {x y : Int} (h : ltB x y = true) : x < y := ltB_iff'.1 h
theorem ltB_f {x y : Int} (h : ltB x y = false) : y ≤ x := by
  rcases Int.lt_or_le x y with q | q
  · rw [ltB_iff'.2 q] at h; cases h
  · exact q
theorem insI_if (x y : Int) (l : List Int) : insI x (y :: l) = if x ≤ y then x :: y :: l else y :: insI x l := by
  show (match leB x y with | true => x :: y :: l | false => y :: insI x l) = _
  by_cases h : x ≤ y
  · rw [leB_iff'.2 h, if_pos h]
  · rw [if_neg h]
    cases q : leB x y with
    | true => exact absurd (leB_iff'.1 q) h
    | false => rfl
theorem sort2 (a b : Int) : sortI [a, b] = if a ≤ b then [a, b] else [b, a] := by
  show insI a [b] = _
  rw [insI_if]; rfl
theorem sort3 (a b c : Int) : sortI [a, b, c] = if b ≤ c then (if a ≤ b then [a, b, c] else if a ≤ c then [b, a, c] else [b, c, a]) else (if a ≤ c then [a, c, b] else if a ≤ b then [c, a, b] else [c, b, a]) := by
  show insI a (insI b [c]) = _
  have e : ∀ x, insI x [] = [x] := fun _ => rfl
  by_cases h1 : b ≤ c <;> by_cases h2 : a ≤ b <;> by_cases h3 : a ≤ c <;> simp [insI_if, e, h1, h2, h3]
/-- a contract in other words -/
theorem Spec.Holds.conv {V : Vn} {S S' : Spec} (h : S.Holds V) (n : ∀ b ∈ S.need, b = true) (f : List Nat → List Nat) (e1 : S'.code = S.code) (e2 : S'.dep = S.dep) (e3 : S'.bel = S.bel) (e4 : S'.pre = S.pre) (e5 : S'.touch = S.touch) (e6 : S'.na = S.na)
    (e7 : ∀ ts, ts.length = S.nt → (f ts).length = S'.nt) (e8 : ∀ as ts, S'.res as (f ts) = S.res as ts) (e9 : ∀ as ts, S'.postT as (f ts) = S.postT as ts) (e10 : ∀ as ts, S'.postN as (f ts) = S.postN as ts) : S'.Holds V := by
  intro Γ p hp g d t os hc hh hb hl A
  obtain ⟨as, ts, h', t', r, E⟩ := h Γ p hp g d t os (hc.trans e1) hh (e2 ▸ hb) (fun es q => hl es (e3.trans q)) ⟨A.kt, e4 ▸ A.mem, e4 ▸ A.off, e4 ▸ A.apart, A.lim, n⟩
  have et : S'.touchA = S.touchA := by unfold Spec.touchA; rw [e4, e5]
  have p1 : ∀ l, l = S.postT as ts → ∀ i (hi : i < l.length) o, l[i] = some o → h'.get? (nth S'.touchA i) = some o := by
    rintro l rfl; rw [et]; exact E.postT
  have p2 : ∀ l, l = S.postN as ts → ∀ i (hi : i < l.length), h'.get? (nth as i) = some l[i] := by
    rintro l rfl; exact E.postN
  exact ⟨as, f ts, h', t', by rw [e8]; exact r, ⟨by rw [e6]; exact E.na, e7 ts E.nt, p1 _ (e9 as ts), p2 _ (e10 as ts), by rw [et]; exact E.keep, E.fresh, E.apart, E.size⟩⟩
abbrev xS (x : Vars) (ns : List Int) (k t : List Nat) : Vars := { x with I := fun i j => match Nat.beq i 6 with | true => ns.getD j 0 | false => x.I i j, V := fun i j => match Nat.beq i 5 with | true => k.getD j 0 | false => match Nat.beq i 6 with | true => t.getD j 0 | false => x.V i j }
theorem allTc {b : Bool} {l : List Bool} (h : b = true) (t : ∀ x ∈ l, x = true) : ∀ x ∈ b :: l, x = true := List.forall_mem_cons.2 ⟨h, t⟩
theorem allTn : ∀ x ∈ ([] : List Bool), x = true := fun _ h => (nomatch h)
noncomputable def S_tsU0 (w : World) (x : Vars) (ks vs : Array Value) : Spec := { code := .call (.ref 684) ⟨[(vA x 0),(vA x 2)],[]⟩,dep := 700,need := [tsOk ks vs],pre := [(aA x 0,(iX 451 (aA x 1))),(aA x 1,{ cls := tyD,data := (.dict #[eX x 1 0 s7 (vR x 1 0),eX x 1 1 s8 (vB x b33 1 1),eX x 1 2 s9 (vR x 1 2),eX x 1 3 s10 (.int (x.I 1 3) (x.V 1 3)),eX x 1 4 s11 (vI x (0) 1 4),eX x 1 5 s12 (vR x 1 5),eX x 1 6 s13 (vI x (8) 1 6),eX x 1 7 s14 (vR x 1 7)] (x.N 1)) }),(aA x 2,{ cls := tyL,data := (.seq #[(vA x 3)] (x.N 2)) }),(aA x 3,(iX 234 (aA x 4))),(aA x 4,(oTX x 4 (vI x (-91) 4 0) (vA x 5) (vA x 6) .none)),(aA x 5,{ cls := tyL,data := (.seq ks (x.N 5)) }),(aA x 6,{ cls := tyL,data := (.seq vs (x.N 6)) })],touch := [5,6],na := 1,nt := 0,res := fun as ts => .ok (.ret (.ref (nth as 0))),postT := fun as ts => [some ({ cls := tyL,data := (.seq ks (x.N 5)) }),some ({ cls := tyL,data := (.seq (srtA false vs) (x.N 6)) })],postN := fun as ts => [{ cls := tyL,data := (.seq #[] 0) }],rawP := [5,6],rawQ := [0,1] }
theorem fin02 (w : World) (x : Vars) (t1 t2 : Nat) (a : Int) (ta : Nat) (b : Int) (tb : Nat) (p : Nat) (H : (S_ts02 w (xS x [a, b] [t1, t2] [ta, tb]) p).Holds (VV w)) (b0 : bB (ltB b a) (bitP p 0) = true) (hS : srtA false #[.int a ta, .int b tb] = #[.int (([a, b] : List Int).getD (pmI 2 p 0) 0) (([ta, tb] : List Nat).getD (pmI 2 p 0) 0), .int (([a, b] : List Int).getD (pmI 2 p 1) 0) (([ta, tb] : List Nat).getD (pmI 2 p 1) 0)]) : ({ S_tsU0 w x #[.int 1 t1, .int 2 t2] #[.int a ta, .int b tb] with need := [] } : Spec).Holds (VV w) :=
  Spec.Holds.conv (S' := { S_tsU0 w x #[.int 1 t1, .int 2 t2] #[.int a ta, .int b tb] with need := [] }) H (allTc b0 (allTn)) id rfl rfl rfl rfl rfl rfl (fun _ h => h) (fun _ _ => rfl) (fun as ts => by unfold S_tsU0 S_ts02; (rw [hS]) <;> rfl) (fun _ _ => rfl)
theorem fin03 (w : World) (x : Vars) (t1 t2 t3 : Nat) (a : Int) (ta : Nat) (b : Int) (tb : Nat) (c : Int) (tc : Nat) (p : Nat) (H : (S_ts03 w (xS x [a, b, c] [t1, t2, t3] [ta, tb, tc]) p).Holds (VV w)) (b0 : bB (ltB b a) (bitP p 0) = true) (b1 : bB (ltB c a) (bitP p 1) = true) (b2 : bB (ltB c b) (bitP p 2) = true) (hS : srtA false #[.int a ta, .int b tb, .int c tc] = #[.int (([a, b, c] : List Int).getD (pmI 3 p 0) 0) (([ta, tb, tc] : List Nat).getD (pmI 3 p 0) 0), .int (([a, b, c] : List Int).getD (pmI 3 p 1) 0) (([ta, tb, tc] : List Nat).getD (pmI 3 p 1) 0), .int (([a, b, c] : List Int).getD (pmI 3 p 2) 0) (([ta, tb, tc] : List Nat).getD (pmI 3 p 2) 0)]) : ({ S_tsU0 w x #[.int 1 t1, .int 2 t2, .int 3 t3] #[.int a ta, .int b tb, .int c tc] with need := [] } : Spec).Holds (VV w) :=
  Spec.Holds.conv (S' := { S_tsU0 w x #[.int 1 t1, .int 2 t2, .int 3 t3] #[.int a ta, .int b tb, .int c tc] with need := [] }) H (allTc b0 (allTc b1 (allTc b2 (allTn)))) id rfl rfl rfl rfl rfl rfl (fun _ h => h) (fun _ _ => rfl) (fun as ts => by unfold S_tsU0 S_ts03; (rw [hS]) <;> rfl) (fun _ _ => rfl)
theorem tsU0_any (w : World) (x : Vars) (ks vs : Array Value) : (S_tsU0 w x ks vs).Holds (VV w) :=
  Spec.Holds.more (S := { S_tsU0 w x ks vs with need := [] }) (fun q => by
    have hk := q _ (List.mem_cons_self ..)
    clear q
    rcases tsShape hk with ⟨rfl, rfl⟩ | ⟨t1, a, ta, rfl, rfl⟩ | ⟨t1, t2, a, ta, b, tb, rfl, rfl⟩ | ⟨t1, t2, t3, a, ta, b, tb, c, tc, rfl, rfl⟩
    · have hS : srtA false (#[] : Array Value) = #[] := by
        rfl
      exact Spec.Holds.conv (S := S_ts00 w (xS x [] [] []) 0) (S' := { S_tsU0 w x #[] #[] with need := [] }) (R_ts000 w _) allTn id rfl rfl rfl rfl rfl rfl (fun _ h => h) (fun _ _ => rfl) (fun as ts => by unfold S_tsU0 S_ts00; (rw [hS]) <;> rfl) (fun _ _ => rfl)
    · have hS : srtA false (#[.int a ta] : Array Value) = #[.int a ta] := by
        rfl
      exact Spec.Holds.conv (S := S_ts01 w (xS x [a] [t1] [ta]) 0) (S' := { S_tsU0 w x #[.int 1 t1] #[.int a ta] with need := [] }) (R_ts010 w _) allTn id rfl rfl rfl rfl rfl rfl (fun _ h => h) (fun _ _ => rfl) (fun as ts => by unfold S_tsU0 S_ts01; (rw [hS]) <;> rfl) (fun _ _ => rfl)
    · cases h0 : ltB b a with
      | true =>
        have q0 := ltB_t h0
        have hp : pOf false [a, b] = 1 := by
          show n1 (ltB b a) = 1
          rw [h0]; rfl
        have hS : srtA false (#[.int a ta, .int b tb] : Array Value) = #[.int b tb, .int a ta] := by
          have hs : sortI [a, b] = [b, a] := by
            rw [sort2]
            repeat' split
            all_goals (first | rfl | omega | (simp only [List.cons.injEq, and_true, true_and]; omega) | (simp only [List.cons.injEq]; refine ⟨?_, ?_, ?_, trivial⟩ <;> omega))
          show (⟨[.int ((sortI [a, b]).getD 0 0) (([ta, tb] : List Nat).getD (pmI 2 (pOf false [a, b]) 0) 0), .int ((sortI [a, b]).getD 1 0) (([ta, tb] : List Nat).getD (pmI 2 (pOf false [a, b]) 1) 0)]⟩ : Array Value) = _
          rw [hs, hp]; rfl
        exact fin02 w x t1 t2 a ta b tb 1 (R_ts021 w _) (bB_of (by rw [h0]; rfl)) hS
      | false =>
        have q0 := ltB_f h0
        have hp : pOf false [a, b] = 0 := by
          show n1 (ltB b a) = 0
          rw [h0]; rfl
        have hS : srtA false (#[.int a ta, .int b tb] : Array Value) = #[.int a ta, .int b tb] := by
          have hs : sortI [a, b] = [a, b] := by
            rw [sort2]
            repeat' split
            all_goals (first | rfl | omega | (simp only [List.cons.injEq, and_true, true_and]; omega) | (simp only [List.cons.injEq]; refine ⟨?_, ?_, ?_, trivial⟩ <;> omega))
          show (⟨[.int ((sortI [a, b]).getD 0 0) (([ta, tb] : List Nat).getD (pmI 2 (pOf false [a, b]) 0) 0), .int ((sortI [a, b]).getD 1 0) (([ta, tb] : List Nat).getD (pmI 2 (pOf false [a, b]) 1) 0)]⟩ : Array Value) = _
          rw [hs, hp]; rfl
        exact fin02 w x t1 t2 a ta b tb 0 (R_ts020 w _) (bB_of (by rw [h0]; rfl)) hS
    · cases h0 : ltB b a with
      | true =>
        cases h1 : ltB c a with
        | true =>
          cases h2 : ltB c b with
          | true =>
            have q0 := ltB_t h0
            have q1 := ltB_t h1
            have q2 := ltB_t h2
            have hp : pOf false [a, b, c] = 7 := by
              show n1 (ltB b a) + 2 * n1 (ltB c a) + 4 * n1 (ltB c b) = 7
              rw [h0, h1, h2]; rfl
            have hS : srtA false (#[.int a ta, .int b tb, .int c tc] : Array Value) = #[.int c tc, .int b tb, .int a ta] := by
              have hs : sortI [a, b, c] = [c, b, a] := by
                rw [sort3]
                repeat' split
                all_goals (first | rfl | omega | (simp only [List.cons.injEq, and_true, true_and]; omega) | (simp only [List.cons.injEq]; refine ⟨?_, ?_, ?_, trivial⟩ <;> omega))
              show (⟨[.int ((sortI [a, b, c]).getD 0 0) (([ta, tb, tc] : List Nat).getD (pmI 3 (pOf false [a, b, c]) 0) 0), .int ((sortI [a, b, c]).getD 1 0) (([ta, tb, tc] : List Nat).getD (pmI 3 (pOf false [a, b, c]) 1) 0), .int ((sortI [a, b, c]).getD 2 0) (([ta, tb, tc] : List Nat).getD (pmI 3 (pOf false [a, b, c]) 2) 0)]⟩ : Array Value) = _
              rw [hs, hp]; rfl
            exact fin03 w x t1 t2 t3 a ta b tb c tc 7 (R_ts037 w _) (bB_of (by rw [h0]; rfl)) (bB_of (by rw [h1]; rfl)) (bB_of (by rw [h2]; rfl)) hS
          | false =>
            have q0 := ltB_t h0
            have q1 := ltB_t h1
            have q2 := ltB_f h2
            have hp : pOf false [a, b, c] = 3 := by
              show n1 (ltB b a) + 2 * n1 (ltB c a) + 4 * n1 (ltB c b) = 3
              rw [h0, h1, h2]; rfl
            have hS : srtA false (#[.int a ta, .int b tb, .int c tc] : Array Value) = #[.int b tb, .int c tc, .int a ta] := by
              have hs : sortI [a, b, c] = [b, c, a] := by
                rw [sort3]
                repeat' split
                all_goals (first | rfl | omega | (simp only [List.cons.injEq, and_true, true_and]; omega) | (simp only [List.cons.injEq]; refine ⟨?_, ?_, ?_, trivial⟩ <;> omega))
              show (⟨[.int ((sortI [a, b, c]).getD 0 0) (([ta, tb, tc] : List Nat).getD (pmI 3 (pOf false [a, b, c]) 0) 0), .int ((sortI [a, b, c]).getD 1 0) (([ta, tb, tc] : List Nat).getD (pmI 3 (pOf false [a, b, c]) 1) 0), .int ((sortI [a, b, c]).getD 2 0) (([ta, tb, tc] : List Nat).getD (pmI 3 (pOf false [a, b, c]) 2) 0)]⟩ : Array Value) = _
              rw [hs, hp]; rfl
            exact fin03 w x t1 t2 t3 a ta b tb c tc 3 (R_ts033 w _) (bB_of (by rw [h0]; rfl)) (bB_of (by rw [h1]; rfl)) (bB_of (by rw [h2]; rfl)) hS
        | false =>
          cases h2 : ltB c b with
          | true =>
            have q0 := ltB_t h0
            have q1 := ltB_f h1
            have q2 := ltB_t h2
            omega
          | false =>
            have q0 := ltB_t h0
            have q1 := ltB_f h1
            have q2 := ltB_f h2
            have hp : pOf false [a, b, c] = 1 := by
              show n1 (ltB b a) + 2 * n1 (ltB c a) + 4 * n1 (ltB c b) = 1
              rw [h0, h1, h2]; rfl
            have hS : srtA false (#[.int a ta, .int b tb, .int c tc] : Array Value) = #[.int b tb, .int a ta, .int c tc] := by
              have hs : sortI [a, b, c] = [b, a, c] := by
                rw [sort3]
                repeat' split
                all_goals (first | rfl | omega | (simp only [List.cons.injEq, and_true, true_and]; omega) | (simp only [List.cons.injEq]; refine ⟨?_, ?_, ?_, trivial⟩ <;> omega))
              show (⟨[.int ((sortI [a, b, c]).getD 0 0) (([ta, tb, tc] : List Nat).getD (pmI 3 (pOf false [a, b, c]) 0) 0), .int ((sortI [a, b, c]).getD 1 0) (([ta, tb, tc] : List Nat).getD (pmI 3 (pOf false [a, b, c]) 1) 0), .int ((sortI [a, b, c]).getD 2 0) (([ta, tb, tc] : List Nat).getD (pmI 3 (pOf false [a, b, c]) 2) 0)]⟩ : Array Value) = _
              rw [hs, hp]; rfl
            exact fin03 w x t1 t2 t3 a ta b tb c tc 1 (R_ts031 w _) (bB_of (by rw [h0]; rfl)) (bB_of (by rw [h1]; rfl)) (bB_of (by rw [h2]; rfl)) hS
      | false =>
        cases h1 : ltB c a with
        | true =>
          cases h2 : ltB c b with
          | true =>
            have q0 := ltB_f h0
            have q1 := ltB_t h1
            have q2 := ltB_t h2
            have hp : pOf false [a, b, c] = 6 := by
              show n1 (ltB b a) + 2 * n1 (ltB c a) + 4 * n1 (ltB c b) = 6
              rw [h0, h1, h2]; rfl
            have hS : srtA false (#[.int a ta, .int b tb, .int c tc] : Array Value) = #[.int c tc, .int a ta, .int b tb] := by
              have hs : sortI [a, b, c] = [c, a, b] := by
                rw [sort3]
                repeat' split
                all_goals (first | rfl | omega | (simp only [List.cons.injEq, and_true, true_and]; omega) | (simp only [List.cons.injEq]; refine ⟨?_, ?_, ?_, trivial⟩ <;> omega))
              show (⟨[.int ((sortI [a, b, c]).getD 0 0) (([ta, tb, tc] : List Nat).getD (pmI 3 (pOf false [a, b, c]) 0) 0), .int ((sortI [a, b, c]).getD 1 0) (([ta, tb, tc] : List Nat).getD (pmI 3 (pOf false [a, b, c]) 1) 0), .int ((sortI [a, b, c]).getD 2 0) (([ta, tb, tc] : List Nat).getD (pmI 3 (pOf false [a, b, c]) 2) 0)]⟩ : Array Value) = _
              rw [hs, hp]; rfl
            exact fin03 w x t1 t2 t3 a ta b tb c tc 6 (R_ts036 w _) (bB_of (by rw [h0]; rfl)) (bB_of (by rw [h1]; rfl)) (bB_of (by rw [h2]; rfl)) hS
          | false =>
            have q0 := ltB_f h0
            have q1 := ltB_t h1
            have q2 := ltB_f h2
            omega
        | false =>
          cases h2 : ltB c b with
          | true =>
            have q0 := ltB_f h0
            have q1 := ltB_f h1
            have q2 := ltB_t h2
            have hp : pOf false [a, b, c] = 4 := by
              show n1 (ltB b a) + 2 * n1 (ltB c a) + 4 * n1 (ltB c b) = 4
              rw [h0, h1, h2]; rfl
            have hS : srtA false (#[.int a ta, .int b tb, .int c tc] : Array Value) = #[.int a ta, .int c tc, .int b tb] := by
              have hs : sortI [a, b, c] = [a, c, b] := by
                rw [sort3]
                repeat' split
                all_goals (first | rfl | omega | (simp only [List.cons.injEq, and_true, true_and]; omega) | (simp only [List.cons.injEq]; refine ⟨?_, ?_, ?_, trivial⟩ <;> omega))
              show (⟨[.int ((sortI [a, b, c]).getD 0 0) (([ta, tb, tc] : List Nat).getD (pmI 3 (pOf false [a, b, c]) 0) 0), .int ((sortI [a, b, c]).getD 1 0) (([ta, tb, tc] : List Nat).getD (pmI 3 (pOf false [a, b, c]) 1) 0), .int ((sortI [a, b, c]).getD 2 0) (([ta, tb, tc] : List Nat).getD (pmI 3 (pOf false [a, b, c]) 2) 0)]⟩ : Array Value) = _
              rw [hs, hp]; rfl
            exact fin03 w x t1 t2 t3 a ta b tb c tc 4 (R_ts034 w _) (bB_of (by rw [h0]; rfl)) (bB_of (by rw [h1]; rfl)) (bB_of (by rw [h2]; rfl)) hS
          | false =>
            have q0 := ltB_f h0
            have q1 := ltB_f h1
            have q2 := ltB_f h2
            have hp : pOf false [a, b, c] = 0 := by
              show n1 (ltB b a) + 2 * n1 (ltB c a) + 4 * n1 (ltB c b) = 0
              rw [h0, h1, h2]; rfl
            have hS : srtA false (#[.int a ta, .int b tb, .int c tc] : Array Value) = #[.int a ta, .int b tb, .int c tc] := by
              have hs : sortI [a, b, c] = [a, b, c] := by
                rw [sort3]
                repeat' split
                all_goals (first | rfl | omega | (simp only [List.cons.injEq, and_true, true_and]; omega) | (simp only [List.cons.injEq]; refine ⟨?_, ?_, ?_, trivial⟩ <;> omega))
              show (⟨[.int ((sortI [a, b, c]).getD 0 0) (([ta, tb, tc] : List Nat).getD (pmI 3 (pOf false [a, b, c]) 0) 0), .int ((sortI [a, b, c]).getD 1 0) (([ta, tb, tc] : List Nat).getD (pmI 3 (pOf false [a, b, c]) 1) 0), .int ((sortI [a, b, c]).getD 2 0) (([ta, tb, tc] : List Nat).getD (pmI 3 (pOf false [a, b, c]) 2) 0)]⟩ : Array Value) = _
              rw [hs, hp]; rfl
            exact fin03 w x t1 t2 t3 a ta b tb c tc 0 (R_ts030 w _) (bB_of (by rw [h0]; rfl)) (bB_of (by rw [h1]; rfl)) (bB_of (by rw [h2]; rfl)) hS
    ) rfl
noncomputable def S_tsU1 (w : World) (x : Vars) (ks vs : Array Value) : Spec := { code := .call (.ref 684) ⟨[(vA x 0),(vA x 2)],[]⟩,dep := 700,need := [tsOk ks vs],pre := [(aA x 0,(iX 451 (aA x 1))),(aA x 1,{ cls := tyD,data := (.dict #[eX x 1 0 s7 (vR x 1 0),eX x 1 1 s8 (vB x b33 1 1),eX x 1 2 s9 (vR x 1 2),eX x 1 3 s10 (.int (x.I 1 3) (x.V 1 3)),eX x 1 4 s11 (vI x (0) 1 4),eX x 1 5 s12 (vR x 1 5),eX x 1 6 s13 (vI x (8) 1 6),eX x 1 7 s14 (vR x 1 7)] (x.N 1)) }),(aA x 2,{ cls := tyL,data := (.seq #[(vA x 3),.none] (x.N 2)) }),(aA x 3,(iX 234 (aA x 4))),(aA x 4,(oTX x 4 (vI x (-91) 4 0) (vA x 5) (vA x 6) .none)),(aA x 5,{ cls := tyL,data := (.seq ks (x.N 5)) }),(aA x 6,{ cls := tyL,data := (.seq vs (x.N 6)) })],touch := [5,6],na := 1,nt := 0,res := fun as ts => .ok (.ret (.ref (nth as 0))),postT := fun as ts => [some ({ cls := tyL,data := (.seq ks (x.N 5)) }),some ({ cls := tyL,data := (.seq (srtA false vs) (x.N 6)) })],postN := fun as ts => [{ cls := tyL,data := (.seq #[] 0) }],rawP := [5,6],rawQ := [0,1] }
theorem fin12 (w : World) (x : Vars) (t1 t2 : Nat) (a : Int) (ta : Nat) (b : Int) (tb : Nat) (p : Nat) (H : (S_ts12 w (xS x [a, b] [t1, t2] [ta, tb]) p).Holds (VV w)) (b0 : bB (ltB b a) (bitP p 0) = true) (hS : srtA false #[.int a ta, .int b tb] = #[.int (([a, b] : List Int).getD (pmI 2 p 0) 0) (([ta, tb] : List Nat).getD (pmI 2 p 0) 0), .int (([a, b] : List Int).getD (pmI 2 p 1) 0) (([ta, tb] : List Nat).getD (pmI 2 p 1) 0)]) : ({ S_tsU1 w x #[.int 1 t1, .int 2 t2] #[.int a ta, .int b tb] with need := [] } : Spec).Holds (VV w) :=
  Spec.Holds.conv (S' := { S_tsU1 w x #[.int 1 t1, .int 2 t2] #[.int a ta, .int b tb] with need := [] }) H (allTc b0 (allTn)) id rfl rfl rfl rfl rfl rfl (fun _ h => h) (fun _ _ => rfl) (fun as ts => by unfold S_tsU1 S_ts12; (rw [hS]) <;> rfl) (fun _ _ => rfl)
theorem fin13 (w : World) (x : Vars) (t1 t2 t3 : Nat) (a : Int) (ta : Nat) (b : Int) (tb : Nat) (c : Int) (tc : Nat) (p : Nat) (H : (S_ts13 w (xS x [a, b, c] [t1, t2, t3] [ta, tb, tc]) p).Holds (VV w)) (b0 : bB (ltB b a) (bitP p 0) = true) (b1 : bB (ltB c a) (bitP p 1) = true) (b2 : bB (ltB c b) (bitP p 2) = true) (hS : srtA false #[.int a ta, .int b tb, .int c tc] = #[.int (([a, b, c] : List Int).getD (pmI 3 p 0) 0) (([ta, tb, tc] : List Nat).getD (pmI 3 p 0) 0), .int (([a, b, c] : List Int).getD (pmI 3 p 1) 0) (([ta, tb, tc] : List Nat).getD (pmI 3 p 1) 0), .int (([a, b, c] : List Int).getD (pmI 3 p 2) 0) (([ta, tb, tc] : List Nat).getD (pmI 3 p 2) 0)]) : ({ S_tsU1 w x #[.int 1 t1, .int 2 t2, .int 3 t3] #[.int a ta, .int b tb, .int c tc] with need := [] } : Spec).Holds (VV w) :=
  Spec.Holds.conv (S' := { S_tsU1 w x #[.int 1 t1, .int 2 t2, .int 3 t3] #[.int a ta, .int b tb, .int c tc] with need := [] }) H (allTc b0 (allTc b1 (allTc b2 (allTn)))) id rfl rfl rfl rfl rfl rfl (fun _ h => h) (fun _ _ => rfl) (fun as ts => by unfold S_tsU1 S_ts13; (rw [hS]) <;> rfl) (fun _ _ => rfl)
theorem tsU1_any (w : World) (x : Vars) (ks vs : Array Value) : (S_tsU1 w x ks vs).Holds (VV w) :=
  Spec.Holds.more (S := { S_tsU1 w x ks vs with need := [] }) (fun q => by
    have hk := q _ (List.mem_cons_self ..)
    clear q
    rcases tsShape hk with ⟨rfl, rfl⟩ | ⟨t1, a, ta, rfl, rfl⟩ | ⟨t1, t2, a, ta, b, tb, rfl, rfl⟩ | ⟨t1, t2, t3, a, ta, b, tb, c, tc, rfl, rfl⟩
    · have hS : srtA false (#[] : Array Value) = #[] := by
        rfl
      exact Spec.Holds.conv (S := S_ts10 w (xS x [] [] []) 0) (S' := { S_tsU1 w x #[] #[] with need := [] }) (R_ts100 w _) allTn id rfl rfl rfl rfl rfl rfl (fun _ h => h) (fun _ _ => rfl) (fun as ts => by unfold S_tsU1 S_ts10; (rw [hS]) <;> rfl) (fun _ _ => rfl)
    · have hS : srtA false (#[.int a ta] : Array Value) = #[.int a ta] := by
        rfl
      exact Spec.Holds.conv (S := S_ts11 w (xS x [a] [t1] [ta]) 0) (S' := { S_tsU1 w x #[.int 1 t1] #[.int a ta] with need := [] }) (R_ts110 w _) allTn id rfl rfl rfl rfl rfl rfl (fun _ h => h) (fun _ _ => rfl) (fun as ts => by unfold S_tsU1 S_ts11; (rw [hS]) <;> rfl) (fun _ _ => rfl)
    · cases h0 : ltB b a with
      | true =>
        have q0 := ltB_t h0
        have hp : pOf false [a, b] = 1 := by
          show n1 (ltB b a) = 1
          rw [h0]; rfl
        have hS : srtA false (#[.int a ta, .int b tb] : Array Value) = #[.int b tb, .int a ta] := by
          have hs : sortI [a, b] = [b, a] := by
            rw [sort2]
            repeat' split
            all_goals (first | rfl | omega | (simp only [List.cons.injEq, and_true, true_and]; omega) | (simp only [List.cons.injEq]; refine ⟨?_, ?_, ?_, trivial⟩ <;> omega))
          show (⟨[.int ((sortI [a, b]).getD 0 0) (([ta, tb] : List Nat).getD (pmI 2 (pOf false [a, b]) 0) 0), .int ((sortI [a, b]).getD 1 0) (([ta, tb] : List Nat).getD (pmI 2 (pOf false [a, b]) 1) 0)]⟩ : Array Value) = _
          rw [hs, hp]; rfl
        exact fin12 w x t1 t2 a ta b tb 1 (R_ts121 w _) (bB_of (by rw [h0]; rfl)) hS
      | false =>
        have q0 := ltB_f h0
        have hp : pOf false [a, b] = 0 := by
          show n1 (ltB b a) = 0
          rw [h0]; rfl
        have hS : srtA false (#[.int a ta, .int b tb] : Array Value) = #[.int a ta, .int b tb] := by
          have hs : sortI [a, b] = [a, b] := by
            rw [sort2]
            repeat' split
            all_goals (first | rfl | omega | (simp only [List.cons.injEq, and_true, true_and]; omega) | (simp only [List.cons.injEq]; refine ⟨?_, ?_, ?_, trivial⟩ <;> omega))
          show (⟨[.int ((sortI [a, b]).getD 0 0) (([ta, tb] : List Nat).getD (pmI 2 (pOf false [a, b]) 0) 0), .int ((sortI [a, b]).getD 1 0) (([ta, tb] : List Nat).getD (pmI 2 (pOf false [a, b]) 1) 0)]⟩ : Array Value) = _
          rw [hs, hp]; rfl
        exact fin12 w x t1 t2 a ta b tb 0 (R_ts120 w _) (bB_of (by rw [h0]; rfl)) hS
    · cases h0 : ltB b a with
      | true =>
        cases h1 : ltB c a with
        | true =>
          cases h2 : ltB c b with
          | true =>
            have q0 := ltB_t h0
            have q1 := ltB_t h1
            have q2 := ltB_t h2
            have hp : pOf false [a, b, c] = 7 := by
              show n1 (ltB b a) + 2 * n1 (ltB c a) + 4 * n1 (ltB c b) = 7
              rw [h0, h1, h2]; rfl
            have hS : srtA false (#[.int a ta, .int b tb, .int c tc] : Array Value) = #[.int c tc, .int b tb, .int a ta] := by
              have hs : sortI [a, b, c] = [c, b, a] := by
                rw [sort3]
                repeat' split
                all_goals (first | rfl | omega | (simp only [List.cons.injEq, and_true, true_and]; omega) | (simp only [List.cons.injEq]; refine ⟨?_, ?_, ?_, trivial⟩ <;> omega))
              show (⟨[.int ((sortI [a, b, c]).getD 0 0) (([ta, tb, tc] : List Nat).getD (pmI 3 (pOf false [a, b, c]) 0) 0), .int ((sortI [a, b, c]).getD 1 0) (([ta, tb, tc] : List Nat).getD (pmI 3 (pOf false [a, b, c]) 1) 0), .int ((sortI [a, b, c]).getD 2 0) (([ta, tb, tc] : List Nat).getD (pmI 3 (pOf false [a, b, c]) 2) 0)]⟩ : Array Value) = _
              rw [hs, hp]; rfl
            exact fin13 w x t1 t2 t3 a ta b tb c tc 7 (R_ts137 w _) (bB_of (by rw [h0]; rfl)) (bB_of (by rw [h1]; rfl)) (bB_of (by rw [h2]; rfl)) hS
          | false =>
            have q0 := ltB_t h0
            have q1 := ltB_t h1
            have q2 := ltB_f h2
            have hp : pOf false [a, b, c] = 3 := by
              show n1 (ltB b a) + 2 * n1 (ltB c a) + 4 * n1 (ltB c b) = 3
              rw [h0, h1, h2]; rfl
            have hS : srtA false (#[.int a ta, .int b tb, .int c tc] : Array Value) = #[.int b tb, .int c tc, .int a ta] := by
              have hs : sortI [a, b, c] = [b, c, a] := by
                rw [sort3]
                repeat' split
                all_goals (first | rfl | omega | (simp only [List.cons.injEq, and_true, true_and]; omega) | (simp only [List.cons.injEq]; refine ⟨?_, ?_, ?_, trivial⟩ <;> omega))
              show (⟨[.int ((sortI [a, b, c]).getD 0 0) (([ta, tb, tc] : List Nat).getD (pmI 3 (pOf false [a, b, c]) 0) 0), .int ((sortI [a, b, c]).getD 1 0) (([ta, tb, tc] : List Nat).getD (pmI 3 (pOf false [a, b, c]) 1) 0), .int ((sortI [a, b, c]).getD 2 0) (([ta, tb, tc] : List Nat).getD (pmI 3 (pOf false [a, b, c]) 2) 0)]⟩ : Array Value) = _
              rw [hs, hp]; rfl
            exact fin13 w x t1 t2 t3 a ta b tb c tc 3 (R_ts133 w _) (bB_of (by rw [h0]; rfl)) (bB_of (by rw [h1]; rfl)) (bB_of (by rw [h2]; rfl)) hS
        | false =>
          cases h2 : ltB c b with
          | true =>
            have q0 := ltB_t h0
            have q1 := ltB_f h1
            have q2 := ltB_t h2
            omega
          | false =>
            have q0 := ltB_t h0
            have q1 := ltB_f h1
            have q2 := ltB_f h2
            have hp : pOf false [a, b, c] = 1 := by
              show n1 (ltB b a) + 2 * n1 (ltB c a) + 4 * n1 (ltB c b) = 1
              rw [h0, h1, h2]; rfl
            have hS : srtA false (#[.int a ta, .int b tb, .int c tc] : Array Value) = #[.int b tb, .int a ta, .int c tc] := by
              have hs : sortI [a, b, c] = [b, a, c] := by
                rw [sort3]
                repeat' split
                all_goals (first | rfl | omega | (simp only [List.cons.injEq, and_true, true_and]; omega) | (simp only [List.cons.injEq]; refine ⟨?_, ?_, ?_, trivial⟩ <;> omega))
              show (⟨[.int ((sortI [a, b, c]).getD 0 0) (([ta, tb, tc] : List Nat).getD (pmI 3 (pOf false [a, b, c]) 0) 0), .int ((sortI [a, b, c]).getD 1 0) (([ta, tb, tc] : List Nat).getD (pmI 3 (pOf false [a, b, c]) 1) 0), .int ((sortI [a, b, c]).getD 2 0) (([ta, tb, tc] : List Nat).getD (pmI 3 (pOf false [a, b, c]) 2) 0)]⟩ : Array Value) = _
              rw [hs, hp]; rfl
            exact fin13 w x t1 t2 t3 a ta b tb c tc 1 (R_ts131 w _) (bB_of (by rw [h0]; rfl)) (bB_of (by rw [h1]; rfl)) (bB_of (by rw [h2]; rfl)) hS
      | false =>
        cases h1 : ltB c a with
        | true =>
          cases h2 : ltB c b with
          | true =>
            have q0 := ltB_f h0
            have q1 := ltB_t h1
            have q2 := ltB_t h2
            have hp : pOf false [a, b, c] = 6 := by
              show n1 (ltB b a) + 2 * n1 (ltB c a) + 4 * n1 (ltB c b) = 6
              rw [h0, h1, h2]; rfl
            have hS : srtA false (#[.int a ta, .int b tb, .int c tc] : Array Value) = #[.int c tc, .int a ta, .int b tb] := by
              have hs : sortI [a, b, c] = [c, a, b] := by
                rw [sort3]
                repeat' split
                all_goals (first | rfl | omega | (simp only [List.cons.injEq, and_true, true_and]; omega) | (simp only [List.cons.injEq]; refine ⟨?_, ?_, ?_, trivial⟩ <;> omega))
              show (⟨[.int ((sortI [a, b, c]).getD 0 0) (([ta, tb, tc] : List Nat).getD (pmI 3 (pOf false [a, b, c]) 0) 0), .int ((sortI [a, b, c]).getD 1 0) (([ta, tb, tc] : List Nat).getD (pmI 3 (pOf false [a, b, c]) 1) 0), .int ((sortI [a, b, c]).getD 2 0) (([ta, tb, tc] : List Nat).getD (pmI 3 (pOf false [a, b, c]) 2) 0)]⟩ : Array Value) = _
              rw [hs, hp]; rfl
            exact fin13 w x t1 t2 t3 a ta b tb c tc 6 (R_ts136 w _) (bB_of (by rw [h0]; rfl)) (bB_of (by rw [h1]; rfl)) (bB_of (by rw [h2]; rfl)) hS
          | false =>
            have q0 := ltB_f h0
            have q1 := ltB_t h1
            have q2 := ltB_f h2
            omega
        | false =>
          cases h2 : ltB c b with
          | true =>
            have q0 := ltB_f h0
            have q1 := ltB_f h1
            have q2 := ltB_t h2
            have hp : pOf false [a, b, c] = 4 := by
              show n1 (ltB b a) + 2 * n1 (ltB c a) + 4 * n1 (ltB c b) = 4
              rw [h0, h1, h2]; rfl
            have hS : srtA false (#[.int a ta, .int b tb, .int c tc] : Array Value) = #[.int a ta, .int c tc, .int b tb] := by
              have hs : sortI [a, b, c] = [a, c, b] := by
                rw [sort3]
                repeat' split
                all_goals (first | rfl | omega | (simp only [List.cons.injEq, and_true, true_and]; omega) | (simp only [List.cons.injEq]; refine ⟨?_, ?_, ?_, trivial⟩ <;> omega))
              show (⟨[.int ((sortI [a, b, c]).getD 0 0) (([ta, tb, tc] : List Nat).getD (pmI 3 (pOf false [a, b, c]) 0) 0), .int ((sortI [a, b, c]).getD 1 0) (([ta, tb, tc] : List Nat).getD (pmI 3 (pOf false [a, b, c]) 1) 0), .int ((sortI [a, b, c]).getD 2 0) (([ta, tb, tc] : List Nat).getD (pmI 3 (pOf false [a, b, c]) 2) 0)]⟩ : Array Value) = _
              rw [hs, hp]; rfl
            exact fin13 w x t1 t2 t3 a ta b tb c tc 4 (R_ts134 w _) (bB_of (by rw [h0]; rfl)) (bB_of (by rw [h1]; rfl)) (bB_of (by rw [h2]; rfl)) hS
          | false =>
            have q0 := ltB_f h0
            have q1 := ltB_f h1
            have q2 := ltB_f h2
            have hp : pOf false [a, b, c] = 0 := by
              show n1 (ltB b a) + 2 * n1 (ltB c a) + 4 * n1 (ltB c b) = 0
              rw [h0, h1, h2]; rfl
            have hS : srtA false (#[.int a ta, .int b tb, .int c tc] : Array Value) = #[.int a ta, .int b tb, .int c tc] := by
              have hs : sortI [a, b, c] = [a, b, c] := by
                rw [sort3]
                repeat' split
                all_goals (first | rfl | omega | (simp only [List.cons.injEq, and_true, true_and]; omega) | (simp only [List.cons.injEq]; refine ⟨?_, ?_, ?_, trivial⟩ <;> omega))
              show (⟨[.int ((sortI [a, b, c]).getD 0 0) (([ta, tb, tc] : List Nat).getD (pmI 3 (pOf false [a, b, c]) 0) 0), .int ((sortI [a, b, c]).getD 1 0) (([ta, tb, tc] : List Nat).getD (pmI 3 (pOf false [a, b, c]) 1) 0), .int ((sortI [a, b, c]).getD 2 0) (([ta, tb, tc] : List Nat).getD (pmI 3 (pOf false [a, b, c]) 2) 0)]⟩ : Array Value) = _
              rw [hs, hp]; rfl
            exact fin13 w x t1 t2 t3 a ta b tb c tc 0 (R_ts130 w _) (bB_of (by rw [h0]; rfl)) (bB_of (by rw [h1]; rfl)) (bB_of (by rw [h2]; rfl)) hS
    ) rfl
noncomputable def S_tsU2 (w : World) (x : Vars) (ks vs : Array Value) : Spec := { code := .call (.ref 684) ⟨[(vA x 0),(vA x 2)],[]⟩,dep := 700,need := [tsOk ks vs,!ltB 1000000000 ((x.I 1 3) + 1),!ltB 1000000000 (((x.I 1 3) + 1) + 1),!ltB 1000000000 ((((x.I 1 3) + 1) + 1) + 1)],pre := [(aA x 0,(iX 451 (aA x 1))),(aA x 1,{ cls := tyD,data := (.dict #[eX x 1 0 s7 (vA x 7),eX x 1 1 s8 (vB x b33 1 1),eX x 1 2 s9 (vR x 1 2),eX x 1 3 s10 (.int (x.I 1 3) (x.V 1 3)),eX x 1 4 s11 (vI x (0) 1 4),eX x 1 5 s12 (vA x 9),eX x 1 6 s13 (vI x (8) 1 6),eX x 1 7 s14 (vR x 1 7)] (x.N 1)) }),(aA x 2,{ cls := tyL,data := (.seq #[(vA x 3),(vA x 10)] (x.N 2)) }),(aA x 3,(iX 234 (aA x 4))),(aA x 4,(oTX x 4 (vI x (-91) 4 0) (vA x 5) (vA x 6) .none)),(aA x 5,{ cls := tyL,data := (.seq ks (x.N 5)) }),(aA x 6,{ cls := tyL,data := (.seq vs (x.N 6)) }),(aA x 7,(iX 53 (aA x 8))),(aA x 8,(oLX x 8)),(aA x 9,{ cls := tyL,data := (.seq #[(vR x 9 0)] (x.N 9)) }),(aA x 10,(iX 255 (aA x 11))),(aA x 11,{ cls := tyD,data := (.dict #[eX x 11 0 s3 (vI x (-94) 11 0),eX x 11 1 s23 (vB x b54 11 1),eX x 11 2 s24 (vF x 12)] (x.N 11)) }),(bA x 12,oFunc (lamTurned w.params) s26 s36 [] .none (vA x 13) (.str s29 1295)),(aA x 13,{ cls := (.type "code"),data := (.fields #[(.str s26 (x.V 13 0)),(.str s36 (x.V 13 1)),(.str s30 (x.V 13 2)),(.int (631) 0),(.int (2) 0),(.int (0) 0),(.int (0) 0),(.int (19) 0),(x.Z 13 8),(.bool true),(.int (181) 0),(x.Z 13 11),.none,(x.Z 13 13),(x.Z 13 14),(x.Z 13 15),(.int (x.I 13 16) 0),(.int (631) 0),(.str s30 (x.V 13 18))]) })],touch := [5,6,1,9],na := 1,nt := 2,res := fun as ts => .ok (.ret (.ref (nth as 0))),postT := fun as ts => [some ({ cls := tyL,data := (.seq ks (x.N 5)) }),some ({ cls := tyL,data := (.seq (srtA true vs) (x.N 6)) }),some ({ cls := tyD,data := (.dict #[eX x 1 0 s7 (vA x 7),eX x 1 1 s8 (vB x b33 1 1),eX x 1 2 s9 (vR x 1 2),eX x 1 3 s10 (.int (plusN (cntA vs) (x.I 1 3)) (nth ts 0)),eX x 1 4 s11 (vI x (0) 1 4),eX x 1 5 s12 (vA x 9),eX x 1 6 s13 (.int (8) (nth ts 1)),eX x 1 7 s14 (vR x 1 7)] (x.N 1)) }),some ({ cls := tyL,data := (.seq #[(vR x 9 0)] ((x.N 9) + 2 * cntA vs)) })],postN := fun as ts => [{ cls := tyL,data := (.seq #[] 0) }],rawP := [5,6,13],rawQ := [0,1] }
theorem fin22 (w : World) (x : Vars) (t1 t2 : Nat) (a : Int) (ta : Nat) (b : Int) (tb : Nat) (p : Nat) (H : (S_ts22 w (xS x [a, b] [t1, t2] [ta, tb]) p).Holds (VV w)) (b0 : bB (!!ltB a b) (bitP p 0) = true) (k1 : (!ltB 1000000000 (x.I 1 3 + 1)) = true) (k2 : (!ltB 1000000000 (x.I 1 3 + 1 + 1)) = true) (k3 : (!ltB 1000000000 (x.I 1 3 + 1 + 1 + 1)) = true) (hS : srtA true #[.int a ta, .int b tb] = #[.int (([a, b] : List Int).getD (pmI 2 p 0) 0) (([ta, tb] : List Nat).getD (pmI 2 p 0) 0), .int (([a, b] : List Int).getD (pmI 2 p 1) 0) (([ta, tb] : List Nat).getD (pmI 2 p 1) 0)]) (hC : cntA #[.int a ta, .int b tb] = cnP 2 p) : ({ S_tsU2 w x #[.int 1 t1, .int 2 t2] #[.int a ta, .int b tb] with need := [] } : Spec).Holds (VV w) :=
  Spec.Holds.conv (S' := { S_tsU2 w x #[.int 1 t1, .int 2 t2] #[.int a ta, .int b tb] with need := [] }) H (allTc b0 (allTc k1 (allTc k2 (allTc k3 allTn)))) id rfl rfl rfl rfl rfl rfl (fun _ h => h) (fun _ _ => rfl) (fun as ts => by unfold S_tsU2 S_ts22; (rw [hS, hC]) <;> rfl) (fun _ _ => rfl)
theorem fin23 (w : World) (x : Vars) (t1 t2 t3 : Nat) (a : Int) (ta : Nat) (b : Int) (tb : Nat) (c : Int) (tc : Nat) (p : Nat) (H : (S_ts23 w (xS x [a, b, c] [t1, t2, t3] [ta, tb, tc]) p).Holds (VV w)) (b0 : bB (!!ltB a b) (bitP p 0) = true) (b1 : bB (!!ltB a c) (bitP p 1) = true) (b2 : bB (!!ltB b c) (bitP p 2) = true) (k1 : (!ltB 1000000000 (x.I 1 3 + 1)) = true) (k2 : (!ltB 1000000000 (x.I 1 3 + 1 + 1)) = true) (k3 : (!ltB 1000000000 (x.I 1 3 + 1 + 1 + 1)) = true) (hS : srtA true #[.int a ta, .int b tb, .int c tc] = #[.int (([a, b, c] : List Int).getD (pmI 3 p 0) 0) (([ta, tb, tc] : List Nat).getD (pmI 3 p 0) 0), .int (([a, b, c] : List Int).getD (pmI 3 p 1) 0) (([ta, tb, tc] : List Nat).getD (pmI 3 p 1) 0), .int (([a, b, c] : List Int).getD (pmI 3 p 2) 0) (([ta, tb, tc] : List Nat).getD (pmI 3 p 2) 0)]) (hC : cntA #[.int a ta, .int b tb, .int c tc] = cnP 3 p) : ({ S_tsU2 w x #[.int 1 t1, .int 2 t2, .int 3 t3] #[.int a ta, .int b tb, .int c tc] with need := [] } : Spec).Holds (VV w) :=
  Spec.Holds.conv (S' := { S_tsU2 w x #[.int 1 t1, .int 2 t2, .int 3 t3] #[.int a ta, .int b tb, .int c tc] with need := [] }) H (allTc b0 (allTc b1 (allTc b2 (allTc k1 (allTc k2 (allTc k3 allTn)))))) id rfl rfl rfl rfl rfl rfl (fun _ h => h) (fun _ _ => rfl) (fun as ts => by unfold S_tsU2 S_ts23; (rw [hS, hC]) <;> rfl) (fun _ _ => rfl)
theorem tsU2_any (w : World) (x : Vars) (ks vs : Array Value) : (S_tsU2 w x ks vs).Holds (VV w) :=
  Spec.Holds.more (S := { S_tsU2 w x ks vs with need := [] }) (fun q => by
    have hk := q _ (List.mem_cons_self ..)
    have k1 := q _ (List.mem_cons_of_mem _ (List.mem_cons_self ..))
    have k2 := q _ (List.mem_cons_of_mem _ (List.mem_cons_of_mem _ (List.mem_cons_self ..)))
    have k3 := q _ (List.mem_cons_of_mem _ (List.mem_cons_of_mem _ (List.mem_cons_of_mem _ (List.mem_cons_self ..))))
    clear q
    rcases tsShape hk with ⟨rfl, rfl⟩ | ⟨t1, a, ta, rfl, rfl⟩ | ⟨t1, t2, a, ta, b, tb, rfl, rfl⟩ | ⟨t1, t2, t3, a, ta, b, tb, c, tc, rfl, rfl⟩
    · have hS : srtA true (#[] : Array Value) = #[] := by
        rfl
      have hC : cntA (#[] : Array Value) = cnP 0 0 := by
        rfl
      exact Spec.Holds.conv (S := S_ts20 w (xS x [] [] []) 0) (S' := { S_tsU2 w x #[] #[] with need := [] }) (R_ts200 w _) (allTc k1 (allTc k2 (allTc k3 allTn))) (fun _ => [x.V 1 3, x.V 1 6]) rfl rfl rfl rfl rfl rfl (fun _ _ => rfl) (fun _ _ => rfl) (fun as ts => by unfold S_tsU2 S_ts20; (rw [hS, hC]) <;> rfl) (fun _ _ => rfl)
    · have hS : srtA true (#[.int a ta] : Array Value) = #[.int a ta] := by
        rfl
      have hC : cntA (#[.int a ta] : Array Value) = cnP 1 0 := by
        rfl
      exact Spec.Holds.conv (S := S_ts21 w (xS x [a] [t1] [ta]) 0) (S' := { S_tsU2 w x #[.int 1 t1] #[.int a ta] with need := [] }) (R_ts210 w _) (allTc k1 (allTc k2 (allTc k3 allTn))) (fun _ => [x.V 1 3, x.V 1 6]) rfl rfl rfl rfl rfl rfl (fun _ _ => rfl) (fun _ _ => rfl) (fun as ts => by unfold S_tsU2 S_ts21; (rw [hS, hC]) <;> rfl) (fun _ _ => rfl)
    · cases h0 : ltB a b with
      | true =>
        have q0 := ltB_t h0
        have hp : pOf true [a, b] = 1 := by
          show n1 (ltB a b) = 1
          rw [h0]; rfl
        have hS : srtA true (#[.int a ta, .int b tb] : Array Value) = #[.int b tb, .int a ta] := by
          have hs : sortI [a, b] = [a, b] := by
            rw [sort2]
            repeat' split
            all_goals (first | rfl | omega | (simp only [List.cons.injEq, and_true, true_and]; omega) | (simp only [List.cons.injEq]; refine ⟨?_, ?_, ?_, trivial⟩ <;> omega))
          show (⟨[.int ((sortI [a, b]).getD 1 0) (([ta, tb] : List Nat).getD (pmI 2 (pOf true [a, b]) 0) 0), .int ((sortI [a, b]).getD 0 0) (([ta, tb] : List Nat).getD (pmI 2 (pOf true [a, b]) 1) 0)]⟩ : Array Value) = _
          rw [hs, hp]; rfl
        have hC : cntA (#[.int a ta, .int b tb] : Array Value) = cnP 2 1 := by
          show cnP 2 (pOf true [a, b]) = _
          rw [hp]
        exact fin22 w x t1 t2 a ta b tb 1 (R_ts221 w _) (bB_of (by rw [h0]; rfl)) k1 k2 k3 hS hC
      | false =>
        have q0 := ltB_f h0
        have hp : pOf true [a, b] = 0 := by
          show n1 (ltB a b) = 0
          rw [h0]; rfl
        have hS : srtA true (#[.int a ta, .int b tb] : Array Value) = #[.int a ta, .int b tb] := by
          have hs : sortI [a, b] = [b, a] := by
            rw [sort2]
            repeat' split
            all_goals (first | rfl | omega | (simp only [List.cons.injEq, and_true, true_and]; omega) | (simp only [List.cons.injEq]; refine ⟨?_, ?_, ?_, trivial⟩ <;> omega))
          show (⟨[.int ((sortI [a, b]).getD 1 0) (([ta, tb] : List Nat).getD (pmI 2 (pOf true [a, b]) 0) 0), .int ((sortI [a, b]).getD 0 0) (([ta, tb] : List Nat).getD (pmI 2 (pOf true [a, b]) 1) 0)]⟩ : Array Value) = _
          rw [hs, hp]; rfl
        have hC : cntA (#[.int a ta, .int b tb] : Array Value) = cnP 2 0 := by
          show cnP 2 (pOf true [a, b]) = _
          rw [hp]
        exact fin22 w x t1 t2 a ta b tb 0 (R_ts220 w _) (bB_of (by rw [h0]; rfl)) k1 k2 k3 hS hC
    · cases h0 : ltB a b with
      | true =>
        cases h1 : ltB a c with
        | true =>
          cases h2 : ltB b c with
          | true =>
            have q0 := ltB_t h0
            have q1 := ltB_t h1
            have q2 := ltB_t h2
            have hp : pOf true [a, b, c] = 7 := by
              show n1 (ltB a b) + 2 * n1 (ltB a c) + 4 * n1 (ltB b c) = 7
              rw [h0, h1, h2]; rfl
            have hS : srtA true (#[.int a ta, .int b tb, .int c tc] : Array Value) = #[.int c tc, .int b tb, .int a ta] := by
              have hs : sortI [a, b, c] = [a, b, c] := by
                rw [sort3]
                repeat' split
                all_goals (first | rfl | omega | (simp only [List.cons.injEq, and_true, true_and]; omega) | (simp only [List.cons.injEq]; refine ⟨?_, ?_, ?_, trivial⟩ <;> omega))
              show (⟨[.int ((sortI [a, b, c]).getD 2 0) (([ta, tb, tc] : List Nat).getD (pmI 3 (pOf true [a, b, c]) 0) 0), .int ((sortI [a, b, c]).getD 1 0) (([ta, tb, tc] : List Nat).getD (pmI 3 (pOf true [a, b, c]) 1) 0), .int ((sortI [a, b, c]).getD 0 0) (([ta, tb, tc] : List Nat).getD (pmI 3 (pOf true [a, b, c]) 2) 0)]⟩ : Array Value) = _
              rw [hs, hp]; rfl
            have hC : cntA (#[.int a ta, .int b tb, .int c tc] : Array Value) = cnP 3 7 := by
              show cnP 3 (pOf true [a, b, c]) = _
              rw [hp]
            exact fin23 w x t1 t2 t3 a ta b tb c tc 7 (R_ts237 w _) (bB_of (by rw [h0]; rfl)) (bB_of (by rw [h1]; rfl)) (bB_of (by rw [h2]; rfl)) k1 k2 k3 hS hC
          | false =>
            have q0 := ltB_t h0
            have q1 := ltB_t h1
            have q2 := ltB_f h2
            have hp : pOf true [a, b, c] = 3 := by
              show n1 (ltB a b) + 2 * n1 (ltB a c) + 4 * n1 (ltB b c) = 3
              rw [h0, h1, h2]; rfl
            have hS : srtA true (#[.int a ta, .int b tb, .int c tc] : Array Value) = #[.int b tb, .int c tc, .int a ta] := by
              have hs : sortI [a, b, c] = [a, c, b] := by
                rw [sort3]
                repeat' split
                all_goals (first | rfl | omega | (simp only [List.cons.injEq, and_true, true_and]; omega) | (simp only [List.cons.injEq]; refine ⟨?_, ?_, ?_, trivial⟩ <;> omega))
              show (⟨[.int ((sortI [a, b, c]).getD 2 0) (([ta, tb, tc] : List Nat).getD (pmI 3 (pOf true [a, b, c]) 0) 0), .int ((sortI [a, b, c]).getD 1 0) (([ta, tb, tc] : List Nat).getD (pmI 3 (pOf true [a, b, c]) 1) 0), .int ((sortI [a, b, c]).getD 0 0) (([ta, tb, tc] : List Nat).getD (pmI 3 (pOf true [a, b, c]) 2) 0)]⟩ : Array Value) = _
              rw [hs, hp]; rfl
            have hC : cntA (#[.int a ta, .int b tb, .int c tc] : Array Value) = cnP 3 3 := by
              show cnP 3 (pOf true [a, b, c]) = _
              rw [hp]
            exact fin23 w x t1 t2 t3 a ta b tb c tc 3 (R_ts233 w _) (bB_of (by rw [h0]; rfl)) (bB_of (by rw [h1]; rfl)) (bB_of (by rw [h2]; rfl)) k1 k2 k3 hS hC
        | false =>
          cases h2 : ltB b c with
          | true =>
            have q0 := ltB_t h0
            have q1 := ltB_f h1
            have q2 := ltB_t h2
            omega
          | false =>
            have q0 := ltB_t h0
            have q1 := ltB_f h1
            have q2 := ltB_f h2
            have hp : pOf true [a, b, c] = 1 := by
              show n1 (ltB a b) + 2 * n1 (ltB a c) + 4 * n1 (ltB b c) = 1
              rw [h0, h1, h2]; rfl
            have hS : srtA true (#[.int a ta, .int b tb, .int c tc] : Array Value) = #[.int b tb, .int a ta, .int c tc] := by
              have hs : sortI [a, b, c] = [c, a, b] := by
                rw [sort3]
                repeat' split
                all_goals (first | rfl | omega | (simp only [List.cons.injEq, and_true, true_and]; omega) | (simp only [List.cons.injEq]; refine ⟨?_, ?_, ?_, trivial⟩ <;> omega))
              show (⟨[.int ((sortI [a, b, c]).getD 2 0) (([ta, tb, tc] : List Nat).getD (pmI 3 (pOf true [a, b, c]) 0) 0), .int ((sortI [a, b, c]).getD 1 0) (([ta, tb, tc] : List Nat).getD (pmI 3 (pOf true [a, b, c]) 1) 0), .int ((sortI [a, b, c]).getD 0 0) (([ta, tb, tc] : List Nat).getD (pmI 3 (pOf true [a, b, c]) 2) 0)]⟩ : Array Value) = _
              rw [hs, hp]; rfl
            have hC : cntA (#[.int a ta, .int b tb, .int c tc] : Array Value) = cnP 3 1 := by
              show cnP 3 (pOf true [a, b, c]) = _
              rw [hp]
            exact fin23 w x t1 t2 t3 a ta b tb c tc 1 (R_ts231 w _) (bB_of (by rw [h0]; rfl)) (bB_of (by rw [h1]; rfl)) (bB_of (by rw [h2]; rfl)) k1 k2 k3 hS hC
      | false =>
        cases h1 : ltB a c with
        | true =>
          cases h2 : ltB b c with
          | true =>
            have q0 := ltB_f h0
            have q1 := ltB_t h1
            have q2 := ltB_t h2
            have hp : pOf true [a, b, c] = 6 := by
              show n1 (ltB a b) + 2 * n1 (ltB a c) + 4 * n1 (ltB b c) = 6
              rw [h0, h1, h2]; rfl
            have hS : srtA true (#[.int a ta, .int b tb, .int c tc] : Array Value) = #[.int c tc, .int a ta, .int b tb] := by
              have hs : sortI [a, b, c] = [b, a, c] := by
                rw [sort3]
                repeat' split
                all_goals (first | rfl | omega | (simp only [List.cons.injEq, and_true, true_and]; omega) | (simp only [List.cons.injEq]; refine ⟨?_, ?_, ?_, trivial⟩ <;> omega))
              show (⟨[.int ((sortI [a, b, c]).getD 2 0) (([ta, tb, tc] : List Nat).getD (pmI 3 (pOf true [a, b, c]) 0) 0), .int ((sortI [a, b, c]).getD 1 0) (([ta, tb, tc] : List Nat).getD (pmI 3 (pOf true [a, b, c]) 1) 0), .int ((sortI [a, b, c]).getD 0 0) (([ta, tb, tc] : List Nat).getD (pmI 3 (pOf true [a, b, c]) 2) 0)]⟩ : Array Value) = _
              rw [hs, hp]; rfl
            have hC : cntA (#[.int a ta, .int b tb, .int c tc] : Array Value) = cnP 3 6 := by
              show cnP 3 (pOf true [a, b, c]) = _
              rw [hp]
            exact fin23 w x t1 t2 t3 a ta b tb c tc 6 (R_ts236 w _) (bB_of (by rw [h0]; rfl)) (bB_of (by rw [h1]; rfl)) (bB_of (by rw [h2]; rfl)) k1 k2 k3 hS hC
          | false =>
            have q0 := ltB_f h0
            have q1 := ltB_t h1
            have q2 := ltB_f h2
            omega
        | false =>
          cases h2 : ltB b c with
          | true =>
            have q0 := ltB_f h0
            have q1 := ltB_f h1
            have q2 := ltB_t h2
            have hp : pOf true [a, b, c] = 4 := by
              show n1 (ltB a b) + 2 * n1 (ltB a c) + 4 * n1 (ltB b c) = 4
              rw [h0, h1, h2]; rfl
            have hS : srtA true (#[.int a ta, .int b tb, .int c tc] : Array Value) = #[.int a ta, .int c tc, .int b tb] := by
              have hs : sortI [a, b, c] = [b, c, a] := by
                rw [sort3]
                repeat' split
                all_goals (first | rfl | omega | (simp only [List.cons.injEq, and_true, true_and]; omega) | (simp only [List.cons.injEq]; refine ⟨?_, ?_, ?_, trivial⟩ <;> omega))
              show (⟨[.int ((sortI [a, b, c]).getD 2 0) (([ta, tb, tc] : List Nat).getD (pmI 3 (pOf true [a, b, c]) 0) 0), .int ((sortI [a, b, c]).getD 1 0) (([ta, tb, tc] : List Nat).getD (pmI 3 (pOf true [a, b, c]) 1) 0), .int ((sortI [a, b, c]).getD 0 0) (([ta, tb, tc] : List Nat).getD (pmI 3 (pOf true [a, b, c]) 2) 0)]⟩ : Array Value) = _
              rw [hs, hp]; rfl
            have hC : cntA (#[.int a ta, .int b tb, .int c tc] : Array Value) = cnP 3 4 := by
              show cnP 3 (pOf true [a, b, c]) = _
              rw [hp]
            exact fin23 w x t1 t2 t3 a ta b tb c tc 4 (R_ts234 w _) (bB_of (by rw [h0]; rfl)) (bB_of (by rw [h1]; rfl)) (bB_of (by rw [h2]; rfl)) k1 k2 k3 hS hC
          | false =>
            have q0 := ltB_f h0
            have q1 := ltB_f h1
            have q2 := ltB_f h2
            have hp : pOf true [a, b, c] = 0 := by
              show n1 (ltB a b) + 2 * n1 (ltB a c) + 4 * n1 (ltB b c) = 0
              rw [h0, h1, h2]; rfl
            have hS : srtA true (#[.int a ta, .int b tb, .int c tc] : Array Value) = #[.int a ta, .int b tb, .int c tc] := by
              have hs : sortI [a, b, c] = [c, b, a] := by
                rw [sort3]
                repeat' split
                all_goals (first | rfl | omega | (simp only [List.cons.injEq, and_true, true_and]; omega) | (simp only [List.cons.injEq]; refine ⟨?_, ?_, ?_, trivial⟩ <;> omega))
              show (⟨[.int ((sortI [a, b, c]).getD 2 0) (([ta, tb, tc] : List Nat).getD (pmI 3 (pOf true [a, b, c]) 0) 0), .int ((sortI [a, b, c]).getD 1 0) (([ta, tb, tc] : List Nat).getD (pmI 3 (pOf true [a, b, c]) 1) 0), .int ((sortI [a, b, c]).getD 0 0) (([ta, tb, tc] : List Nat).getD (pmI 3 (pOf true [a, b, c]) 2) 0)]⟩ : Array Value) = _
              rw [hs, hp]; rfl
            have hC : cntA (#[.int a ta, .int b tb, .int c tc] : Array Value) = cnP 3 0 := by
              show cnP 3 (pOf true [a, b, c]) = _
              rw [hp]
            exact fin23 w x t1 t2 t3 a ta b tb c tc 0 (R_ts230 w _) (bB_of (by rw [h0]; rfl)) (bB_of (by rw [h1]; rfl)) (bB_of (by rw [h2]; rfl)) k1 k2 k3 hS hC
    ) rfl
/-! sorted -/
noncomputable def srtJ (ns : List Int) (ts : List Nat) : List Value → Nat → List Value
  | [], _ => []
  | _ :: l, j => .int ((sortI ns).getD j 0) (nth ts j) :: srtJ ns ts l (j + 1)
noncomputable def S_srt (l : Nat) (vs : Array Value) (n : Nat) : Spec := { code := .builtin "sorted" ⟨[.ref l], []⟩, dep := 850, need := [intL vs.toList && Nat.blt vs.toList.length 64], pre := [(l, oList vs n)], touch := [], na := 1, nt := vs.toList.length + 1, res := fun as _ => .ok (.ret (.ref (nth as 0))), postT := fun _ _ => [], postN := fun _ ts => [oList ⟨srtJ (vs.toList.map intOf) ts vs.toList 0⟩ (nth ts vs.toList.length)] }
end Mine
end

section
open PySem PySem.W PySem.W.X PyProof.Rows
set_option maxRecDepth 1000000
set_option maxHeartbeats 0
namespace Mine
open PySem.W.ZFast (hashOfZ)
/-! sorted, by the library's own lemma -/
theorem insI_perm (x : Int) : ∀ l, (insI x l).Perm (x :: l)
  | [] => .refl _
  | y :: l => by
    rw [insI_if]
    by_cases h : x ≤ y
    · rw [if_pos h]
    · rw [if_neg h]
      exact ((insI_perm x l).cons y).trans (.swap x y l)
theorem sortI_perm : ∀ l, (sortI l).Perm l
  | [] => .refl _
  | x :: l => (insI_perm x (sortI l)).trans ((sortI_perm l).cons x)
theorem insI_le (x : Int) : ∀ l, l.Pairwise (· ≤ ·) → (insI x l).Pairwise (· ≤ ·)
  | [], _ => List.pairwise_singleton ..
  | y :: l, h => by
    rw [insI_if]
    have h' := List.pairwise_cons.mp h
    by_cases q : x ≤ y
    · rw [if_pos q]
      refine List.pairwise_cons.mpr ⟨fun z hz => ?_, h⟩
      rcases List.mem_cons.mp hz with rfl | hz
      · exact q
      · exact Int.le_trans q (h'.1 z hz)
    · rw [if_neg q]
      refine List.pairwise_cons.mpr ⟨fun z hz => ?_, insI_le x l h'.2⟩
      rcases List.mem_cons.mp ((insI_perm x l).mem_iff.mp hz) with rfl | hz
      · exact Int.le_of_lt (Int.not_le.mp q)
      · exact h'.1 z hz
theorem sortI_le : ∀ l, (sortI l).Pairwise (· ≤ ·)
  | [] => .nil
  | x :: l => insI_le x _ (sortI_le l)
theorem sortI_uniq {ns ns' : List Int} (p : ns'.Perm ns) (h : ns'.Pairwise (· ≤ ·)) : ns' = sortI ns :=
  List.Perm.eq_of_pairwise (fun _ _ _ _ q r => Int.le_antisymm q r) h (sortI_le ns) (p.trans (sortI_perm ns).symm)
theorem intL_are : ∀ {l : List Value}, intL l = true → IntsAre l (l.map intOf)
  | [], _ => .nil
  | v :: l, h => by
    obtain ⟨a, t, rfl, h'⟩ := intL_cons h
    exact .cons a t (intL_are h')
theorem srtJ_is {ns : List Int} {ts : List Nat} : ∀ {out : List Value} {ns' : List Int}, IntsAre out ns' → ∀ (l : List Value) (j : Nat), l.length = out.length → (∀ i, i < out.length → (sortI ns).getD (j + i) 0 = ns'.getD i 0) → (∀ i, i < out.length → nth ts (j + i) = tokOf (out.getD i .none)) → srtJ ns ts l j = out
  | _, _, .nil, l, j, hl, _, _ => by
    cases l with
    | nil => rfl
    | cons a l => cases hl
  | _, _, .cons n t h, l, j, hl, h1, h2 => by
    cases l with
    | nil => cases hl
    | cons a l =>
      show Value.int _ _ :: srtJ ns ts l (j + 1) = _
      rw [srtJ_is h l (j + 1) (Nat.succ.inj hl) (fun i hi => by
        have := h1 (i + 1) (by rw [List.length_cons]; omega)
        rw [show j + 1 + i = j + (i + 1) by omega, this]; rfl) (fun i hi => by
        have := h2 (i + 1) (by rw [List.length_cons]; omega)
        rw [show j + 1 + i = j + (i + 1) by omega, this]; rfl)]
      have a1 := h1 0 (by rw [List.length_cons]; omega)
      have a2 := h2 0 (by rw [List.length_cons]; omega)
      rw [Nat.add_zero] at a1 a2
      rw [a1, a2]; rfl
theorem ints_ln : ∀ {vs : List Value} {ns : List Int}, IntsAre vs ns → vs.length = ns.length
  | _, _, .nil => rfl
  | _, _, .cons n t h => by rw [List.length_cons, List.length_cons, ints_ln h]
section
variable {prog : Program} {w : World} {A : Around} {E : Value → Shared → Prop} {s : Shared}
theorem sorted_tree {l : Addr} {vs : List Value} {ns : List Int} {P : PySem.Fin → Shared → Prop} (hl : s.heap.IsList l vs.toArray) (hI : IntsAre vs ns) (h64 : vs.length < 64)
    (h : ∀ (out : Array Value) (ns' : List Int), IntsAre out.toList ns' → ns'.Perm ns → ns'.Pairwise (· ≤ ·) → P (.done (.ret (.ref (s.heap.objs.size + 1)))) { s with heap := sortedAll s.heap vs out }) :
    wpAny (model prog w) A (Builtin.«sorted» ⟨[.ref l], []⟩) P E s := by
  unfold Builtin.«sorted»
  refine wpAny_bind (m := checkCount "sorted" 1 1 _) (wpAny_pure ?_)
  refine wpAny_bind (collect_list hl ?_)
  refine wpAny_bind (wpAny_newList ?_)
  have hsz : ((s.heap.push (seqObj "list" #[] 0)).update s.heap.objs.size (Obj.mapSeq (· ++ vs.toArray))).objs.size = s.heap.objs.size + 1 := by
    rw [Heap.size_update, size_push']
  have hoL : (((s.heap.push (seqObj "list" #[] 0)).update s.heap.objs.size (Obj.mapSeq (· ++ vs.toArray))).push (seqObj "list" vs.toArray 0)).get? (s.heap.objs.size + 1) = some (seqObj "list" vs.toArray 0) := by
    rw [← hsz]; exact Heap.get?_push_size _ rfl
  show wpAny _ _ _ _ _ { s with heap := ((s.heap.push (seqObj "list" #[] 0)).update s.heap.objs.size (Obj.mapSeq (· ++ vs.toArray))).push (seqObj "list" vs.toArray 0) }
  rw [hsz]
  refine wpAny_bind (wpAny_holding (wpAny_call_entry slot_list_sort ⟨_, hoL, rfl⟩ entry_list_sort (list_sort_tree hoL hI h64 fun out ns' a1 a2 a3 => ⟨_, rfl, ?_⟩) (args_list_sort _)))
  exact wpAny_pure (h out ns' a1 a2 a3)
end
theorem srt_at {V : Vn} {l : Nat} {vs : Array Value} {n : Nat} : (S_srt l vs n).Holds V := by
  refine spec_by fun Γ hc hh A hA hd hin h g d t os At => ?_
  have hl : h.get? l = some (oList vs n) := At.mem _ (List.mem_cons_self ..)
  have hn := At.need _ (List.mem_cons_self ..)
  rw [Bool.and_eq_true] at hn
  obtain ⟨hi, h64⟩ := hn
  have h64 : vs.toList.length < 64 := blt_iff h64
  have hI := intL_are hi
  have hL : Heap.IsList (Shared.heap ⟨h, g, d, t, os⟩) l vs.toList.toArray := ⟨_, hl, rfl, n, rfl⟩
  refine @den_wp2 _ _ _ _ _ _ _ _ _ rfl entry_sorted ?_
  refine sorted_tree hL hI h64 fun out ns' a1 a2 a3 => ?_
  clear h64
  have hns := sortI_uniq a2 a3
  have hlen : ns'.length = vs.toList.length := by rw [a2.length_eq, List.length_map]
  have hol : out.toList.length = ns'.length := ints_ln a1
  obtain ⟨e, he⟩ := sortedAll_at h vs.toList out
  refine ⟨_, rfl, [h.objs.size + 1], out.toList.map tokOf ++ [e], rfl, ⟨rfl, ?_, fun i hi => (nomatch hi), fun i hi => ?_, fun b o q _ => ?_, fun a ha => ?_, by simp, ?_⟩, rfl, rfl, rfl⟩
  · show (out.toList.map tokOf ++ [e]).length = vs.toList.length + 1
    rw [List.length_append, List.length_map, hol, hlen]; rfl
  · match i, hi with
    | 0, _ =>
      show Heap.get? _ (h.objs.size + 1) = some (oList ⟨srtJ _ _ _ 0⟩ (nth _ _))
      have e1 : nth (out.toList.map tokOf ++ [e]) vs.toList.length = e := by
        rw [nth_get (by rw [List.length_append, List.length_map, hol, hlen]; exact Nat.lt_succ_self _), List.getElem_append_right (by rw [List.length_map, hol, hlen]; exact Nat.le_refl _)]
        exact List.getElem_singleton ..
      have e2 : srtJ (vs.toList.map intOf) (out.toList.map tokOf ++ [e]) vs.toList 0 = out.toList := srtJ_is a1 _ 0 (by rw [hol, hlen]) (fun i hi => by rw [hns, Nat.zero_add]) (fun i hi => by
        rw [Nat.zero_add, nth_get (by rw [List.length_append, List.length_map]; exact Nat.lt_of_lt_of_le hi (Nat.le_add_right _ _)), List.getElem_append_left (by rw [List.length_map]; exact hi), List.getElem_map, List.getD_eq_getElem?_getD, List.getElem?_eq_getElem hi]; rfl)
      rw [e1, e2]
      exact he
    | i + 1, hi => exact absurd hi (Nat.not_lt_of_le (Nat.le_add_left 1 i))
  · exact sortedAll_old q
  · simp only [List.mem_cons, List.not_mem_nil, or_false] at ha
    subst ha
    exact ⟨Nat.le_succ _, Heap.lt_size he⟩
  · exact Nat.le_of_lt (Nat.lt_of_succ_lt (Heap.lt_size he))
noncomputable def D_srt {V : Vn} : Dp V := ⟨1, fun as os _ => match as with
  | [l] => match os with
    | [o] => match seqOf o with
      | some (xs, n) => some ⟨S_srt l xs n, srt_at⟩
      | none => none
    | _ => none
  | _ => none⟩
end Mine
end

section
open PySem PySem.W PySem.W.X PyProof.Rows
set_option maxRecDepth 1000000
set_option maxHeartbeats 0
namespace Mine
open PySem.W.ZFast (hashOfZ)
/-! heard's sort -/
noncomputable def D_tsU (w : World) (args : List Value) : Dp (VV w) := ⟨1000, fun as os alt => match alt with
  | 0 => some ⟨_, tsU0_any w (varsOf args as os) (seqA (nthO os 5)) (seqA (nthO os 6))⟩
  | 1 => some ⟨_, tsU1_any w (varsOf args as os) (seqA (nthO os 5)) (seqA (nthO os 6))⟩
  | _ => some ⟨_, tsU2_any w (varsOf args as os) (seqA (nthO os 5)) (seqA (nthO os 6))⟩⟩
noncomputable def FT (w : World) (c : Code) : Option (Dp (VV w)) := match c with
  | .call (.ref a) ⟨[v1, v2], []⟩ => match Nat.beq a 684 with
    | true => some (D_tsU w [v1, v2])
    | false => FN w c
  | c => FN w c
noncomputable def S_hSo0 (w : World) (x : Vars)  : Spec := { code := .call (.ref 797) ⟨[(vA x 11),(vA x 3),(.str s37 (x.U 2)),(vA x 17)],[]⟩,dep := 600,need := [tsOk (x.Q 0) (x.Q 1),!ltB 1000000000 ((x.I 2 3) + 1)],pre := [(aA x 0,{ cls := tyL,data := (.seq (x.Q 0) (x.N 0)) }),(aA x 1,{ cls := tyL,data := (.seq (x.Q 1) (x.N 1)) }),(aA x 2,{ cls := tyD,data := (.dict #[eX x 2 0 s7 (vA x 14),eX x 2 1 s8 (vB x b33 2 1),eX x 2 2 s9 (vR x 2 2),eX x 2 3 s10 (.int (x.I 2 3) (x.V 2 3)),eX x 2 4 s11 (vI x (0) 2 4),eX x 2 5 s12 (vA x 12),eX x 2 6 s13 (.int (x.I 2 6) (x.V 2 6)),eX x 2 7 s14 (vR x 2 7)] (x.N 2)) }),(aA x 3,(iX 234 (aA x 4))),(aA x 4,(oTX x 4 (vI x (-1) 4 0) (vA x 5) (vA x 6) .none)),(aA x 5,{ cls := tyL,data := (.seq #[(vB x b4 5 0),(vB x b5 5 1),(vB x b6 5 2),(vB x b7 5 3),(vB x b8 5 4),(vB x b9 5 5),(vB x b10 5 6),(vB x b11 5 7),(vB x b12 5 8),(vB x b13 5 9),(vB x b14 5 10),(vB x b15 5 11),(vB x b16 5 12),(vB x b17 5 13),(vB x b18 5 14),(vB x b19 5 15),(vB x b20 5 16),(vB x b21 5 17),(vB x b22 5 18),(vB x b23 5 19),(vB x b24 5 20),(vB x b25 5 21)] (x.N 5)) }),(aA x 6,{ cls := tyL,data := (.seq #[(vR x 6 0),(vR x 6 1),(vR x 6 2),(vR x 6 3),(vR x 6 4),(vR x 6 5),(vR x 6 6),(vR x 6 7),(vR x 6 8),(vR x 6 9),(vR x 6 10),(vR x 6 11),(vR x 6 12),(vR x 6 13),(vR x 6 14),(vR x 6 15),(vR x 6 16),(vA x 7),(vR x 6 18),(vR x 6 19),(vA x 3),(vB x b26 6 21)] (x.N 6)) }),(aA x 7,(iX 234 (aA x 8))),(aA x 8,(oTX x 8 (vI x (-30) 8 0) (vA x 9) (vA x 10) .none)),(aA x 9,{ cls := tyL,data := (.seq #[(vB x b27 9 0),(vB x b28 9 1),(vB x b29 9 2),(vB x b30 9 3),(vB x b31 9 4),(vB x b32 9 5)] (x.N 9)) }),(aA x 10,{ cls := tyL,data := (.seq #[(vR x 10 0),(vR x 10 1),(vR x 10 2),(vR x 10 3),(vR x 10 4),(vA x 13)] (x.N 10)) }),(aA x 11,(iX 451 (aA x 2))),(aA x 12,{ cls := tyL,data := (.seq (x.Q 12) (x.N 12)) }),(aA x 13,(iX 255 (aA x 16))),(aA x 14,(iX 53 (aA x 15))),(aA x 15,(oLX x 15)),(aA x 16,{ cls := tyD,data := (.dict #[eX x 16 0 s3 (vI x (-35) 16 0),eX x 16 1 s23 (vB x b32 16 1),eX x 16 2 s24 (.ref 684)] (x.N 16)) }),(aA x 17,{ cls := tyL,data := (.seq #[(vA x 18)] (x.N 17)) }),(aA x 18,(iX 234 (aA x 19))),(aA x 19,(oTX x 19 (vI x (-91) 19 0) (vA x 0) (vA x 1) .none))],touch := [2,0,1],na := 2,nt := 3,res := fun as ts => .ok (.ret (.ref (nth as 0))),postT := fun as ts => [some ({ cls := tyD,data := (.dict #[eX x 2 0 s7 (vA x 14),eX x 2 1 s8 (vB x b33 2 1),eX x 2 2 s9 (vR x 2 2),eX x 2 3 s10 (.int (x.I 2 3 + 1) (nth ts 0)),eX x 2 4 s11 (vI x (0) 2 4),eX x 2 5 s12 (.ref (nth as 1)),eX x 2 6 s13 (.int (0) (nth ts 1)),eX x 2 7 s14 (vR x 2 7)] (x.N 2)) }),some ({ cls := tyL,data := (.seq (x.Q 0) (x.N 0)) }),some ({ cls := tyL,data := (.seq (srtA false (x.Q 1)) (x.N 1)) })],postN := fun as ts => [{ cls := tyL,data := (.seq #[] 0) },{ cls := tyL,data := (.seq (frA false (nth ts 2)) 2) }],rawP := [0,1,12],rawQ := [1,2,4] }
theorem R_hSo0 (w : World) (x : Vars) : (S_hSo0 w x).Holds (VV w) :=
  sF (F := FT w) (vok _) 20000 ⟨q18, [37,25], [30,54,0]⟩ fun m t => by kernel_rfl
noncomputable def S_hSo1 (w : World) (x : Vars)  : Spec := { code := .call (.ref 797) ⟨[(vA x 11),(vA x 3),(.str s37 (x.U 2)),(vA x 17)],[]⟩,dep := 600,need := [tsOk (x.Q 0) (x.Q 1),!ltB 1000000000 ((x.I 2 3) + 1)],pre := [(aA x 0,{ cls := tyL,data := (.seq (x.Q 0) (x.N 0)) }),(aA x 1,{ cls := tyL,data := (.seq (x.Q 1) (x.N 1)) }),(aA x 2,{ cls := tyD,data := (.dict #[eX x 2 0 s7 (vA x 14),eX x 2 1 s8 (vB x b33 2 1),eX x 2 2 s9 (vR x 2 2),eX x 2 3 s10 (.int (x.I 2 3) (x.V 2 3)),eX x 2 4 s11 (vI x (0) 2 4),eX x 2 5 s12 (vA x 12),eX x 2 6 s13 (.int (x.I 2 6) (x.V 2 6)),eX x 2 7 s14 (vR x 2 7)] (x.N 2)) }),(aA x 3,(iX 234 (aA x 4))),(aA x 4,(oTX x 4 (vI x (-1) 4 0) (vA x 5) (vA x 6) .none)),(aA x 5,{ cls := tyL,data := (.seq #[(vB x b4 5 0),(vB x b5 5 1),(vB x b6 5 2),(vB x b7 5 3),(vB x b8 5 4),(vB x b9 5 5),(vB x b10 5 6),(vB x b11 5 7),(vB x b12 5 8),(vB x b13 5 9),(vB x b14 5 10),(vB x b15 5 11),(vB x b16 5 12),(vB x b17 5 13),(vB x b18 5 14),(vB x b19 5 15),(vB x b20 5 16),(vB x b21 5 17),(vB x b22 5 18),(vB x b23 5 19),(vB x b24 5 20),(vB x b25 5 21)] (x.N 5)) }),(aA x 6,{ cls := tyL,data := (.seq #[(vR x 6 0),(vR x 6 1),(vR x 6 2),(vR x 6 3),(vR x 6 4),(vR x 6 5),(vR x 6 6),(vR x 6 7),(vR x 6 8),(vR x 6 9),(vR x 6 10),(vR x 6 11),(vR x 6 12),(vR x 6 13),(vR x 6 14),(vR x 6 15),(vR x 6 16),(vA x 7),(vR x 6 18),(vR x 6 19),(vA x 3),(vB x b26 6 21)] (x.N 6)) }),(aA x 7,(iX 234 (aA x 8))),(aA x 8,(oTX x 8 (vI x (-30) 8 0) (vA x 9) (vA x 10) .none)),(aA x 9,{ cls := tyL,data := (.seq #[(vB x b27 9 0),(vB x b28 9 1),(vB x b29 9 2),(vB x b30 9 3),(vB x b31 9 4),(vB x b32 9 5)] (x.N 9)) }),(aA x 10,{ cls := tyL,data := (.seq #[(vR x 10 0),(vR x 10 1),(vR x 10 2),(vR x 10 3),(vR x 10 4),(vA x 13)] (x.N 10)) }),(aA x 11,(iX 451 (aA x 2))),(aA x 12,{ cls := tyL,data := (.seq (x.Q 12) (x.N 12)) }),(aA x 13,(iX 255 (aA x 16))),(aA x 14,(iX 53 (aA x 15))),(aA x 15,(oLX x 15)),(aA x 16,{ cls := tyD,data := (.dict #[eX x 16 0 s3 (vI x (-35) 16 0),eX x 16 1 s23 (vB x b32 16 1),eX x 16 2 s24 (.ref 684)] (x.N 16)) }),(aA x 17,{ cls := tyL,data := (.seq #[(vA x 18),.none] (x.N 17)) }),(aA x 18,(iX 234 (aA x 19))),(aA x 19,(oTX x 19 (vI x (-91) 19 0) (vA x 0) (vA x 1) .none))],touch := [2,0,1],na := 2,nt := 3,res := fun as ts => .ok (.ret (.ref (nth as 0))),postT := fun as ts => [some ({ cls := tyD,data := (.dict #[eX x 2 0 s7 (vA x 14),eX x 2 1 s8 (vB x b33 2 1),eX x 2 2 s9 (vR x 2 2),eX x 2 3 s10 (.int (x.I 2 3 + 1) (nth ts 0)),eX x 2 4 s11 (vI x (0) 2 4),eX x 2 5 s12 (.ref (nth as 1)),eX x 2 6 s13 (.int (0) (nth ts 1)),eX x 2 7 s14 (vR x 2 7)] (x.N 2)) }),some ({ cls := tyL,data := (.seq (x.Q 0) (x.N 0)) }),some ({ cls := tyL,data := (.seq (srtA false (x.Q 1)) (x.N 1)) })],postN := fun as ts => [{ cls := tyL,data := (.seq #[] 0) },{ cls := tyL,data := (.seq (frA false (nth ts 2)) 2) }],rawP := [0,1,12],rawQ := [1,2,4] }
theorem R_hSo1 (w : World) (x : Vars) : (S_hSo1 w x).Holds (VV w) :=
  sF (F := FT w) (vok _) 20000 ⟨cp q18 0 422 (ap [1] (cp q18 423 59 ([]))), [37,25], [30,54,0]⟩ fun m t => by kernel_rfl
noncomputable def S_hSo2 (w : World) (x : Vars)  : Spec := { code := .call (.ref 797) ⟨[(vA x 11),(vA x 3),(.str s37 (x.U 2)),(vA x 17)],[]⟩,dep := 600,need := [tsOk (x.Q 0) (x.Q 1),!ltB 1000000000 ((x.I 2 3) + 1),!ltB 1000000000 (((x.I 2 3) + 1) + 1),!ltB 1000000000 ((((x.I 2 3) + 1) + 1) + 1),!ltB 1000000000 (((((x.I 2 3) + 1) + 1) + 1) + 1)],pre := [(aA x 0,{ cls := tyL,data := (.seq (x.Q 0) (x.N 0)) }),(aA x 1,{ cls := tyL,data := (.seq (x.Q 1) (x.N 1)) }),(aA x 2,{ cls := tyD,data := (.dict #[eX x 2 0 s7 (vA x 14),eX x 2 1 s8 (vB x b33 2 1),eX x 2 2 s9 (vR x 2 2),eX x 2 3 s10 (.int (x.I 2 3) (x.V 2 3)),eX x 2 4 s11 (vI x (0) 2 4),eX x 2 5 s12 (vA x 12),eX x 2 6 s13 (.int (x.I 2 6) (x.V 2 6)),eX x 2 7 s14 (vR x 2 7)] (x.N 2)) }),(aA x 3,(iX 234 (aA x 4))),(aA x 4,(oTX x 4 (vI x (-1) 4 0) (vA x 5) (vA x 6) .none)),(aA x 5,{ cls := tyL,data := (.seq #[(vB x b4 5 0),(vB x b5 5 1),(vB x b6 5 2),(vB x b7 5 3),(vB x b8 5 4),(vB x b9 5 5),(vB x b10 5 6),(vB x b11 5 7),(vB x b12 5 8),(vB x b13 5 9),(vB x b14 5 10),(vB x b15 5 11),(vB x b16 5 12),(vB x b17 5 13),(vB x b18 5 14),(vB x b19 5 15),(vB x b20 5 16),(vB x b21 5 17),(vB x b22 5 18),(vB x b23 5 19),(vB x b24 5 20),(vB x b25 5 21)] (x.N 5)) }),(aA x 6,{ cls := tyL,data := (.seq #[(vR x 6 0),(vR x 6 1),(vR x 6 2),(vR x 6 3),(vR x 6 4),(vR x 6 5),(vR x 6 6),(vR x 6 7),(vR x 6 8),(vR x 6 9),(vR x 6 10),(vR x 6 11),(vR x 6 12),(vR x 6 13),(vR x 6 14),(vR x 6 15),(vR x 6 16),(vA x 7),(vR x 6 18),(vR x 6 19),(vA x 3),(vB x b26 6 21)] (x.N 6)) }),(aA x 7,(iX 234 (aA x 8))),(aA x 8,(oTX x 8 (vI x (-30) 8 0) (vA x 9) (vA x 10) .none)),(aA x 9,{ cls := tyL,data := (.seq #[(vB x b27 9 0),(vB x b28 9 1),(vB x b29 9 2),(vB x b30 9 3),(vB x b31 9 4),(vB x b32 9 5)] (x.N 9)) }),(aA x 10,{ cls := tyL,data := (.seq #[(vR x 10 0),(vR x 10 1),(vR x 10 2),(vR x 10 3),(vR x 10 4),(vA x 13)] (x.N 10)) }),(aA x 11,(iX 451 (aA x 2))),(aA x 12,{ cls := tyL,data := (.seq (x.Q 12) (x.N 12)) }),(aA x 13,(iX 255 (aA x 16))),(aA x 14,(iX 53 (aA x 15))),(aA x 15,(oLX x 15)),(aA x 16,{ cls := tyD,data := (.dict #[eX x 16 0 s3 (vI x (-35) 16 0),eX x 16 1 s23 (vB x b32 16 1),eX x 16 2 s24 (.ref 684)] (x.N 16)) }),(aA x 17,{ cls := tyL,data := (.seq #[(vA x 18),(vA x 20)] (x.N 17)) }),(aA x 18,(iX 234 (aA x 19))),(aA x 19,(oTX x 19 (vI x (-91) 19 0) (vA x 0) (vA x 1) .none)),(aA x 20,(iX 255 (aA x 21))),(aA x 21,{ cls := tyD,data := (.dict #[eX x 21 0 s3 (vI x (-94) 21 0),eX x 21 1 s23 (vB x b54 21 1),eX x 21 2 s24 (vF x 22)] (x.N 21)) }),(bA x 22,oFunc (lamTurned w.params) s26 s36 [] .none (vA x 23) (.str s29 1295)),(aA x 23,{ cls := (.type "code"),data := (.fields #[(.str s26 (x.V 23 0)),(.str s36 (x.V 23 1)),(.str s30 (x.V 23 2)),(.int (631) 0),(.int (2) 0),(.int (0) 0),(.int (0) 0),(.int (19) 0),(x.Z 23 8),(.bool true),(.int (181) 0),(x.Z 23 11),.none,(x.Z 23 13),(x.Z 23 14),(x.Z 23 15),(.int (x.I 23 16) 0),(.int (631) 0),(.str s30 (x.V 23 18))]) })],touch := [2,0,1],na := 2,nt := 3,res := fun as ts => .ok (.ret (.ref (nth as 0))),postT := fun as ts => [some ({ cls := tyD,data := (.dict #[eX x 2 0 s7 (vA x 14),eX x 2 1 s8 (vB x b33 2 1),eX x 2 2 s9 (vR x 2 2),eX x 2 3 s10 (.int (plusN (cntA (x.Q 1)) (x.I 2 3 + 1)) (nth ts 0)),eX x 2 4 s11 (vI x (0) 2 4),eX x 2 5 s12 (.ref (nth as 1)),eX x 2 6 s13 (.int (0) (nth ts 1)),eX x 2 7 s14 (vR x 2 7)] (x.N 2)) }),some ({ cls := tyL,data := (.seq (x.Q 0) (x.N 0)) }),some ({ cls := tyL,data := (.seq (srtA true (x.Q 1)) (x.N 1)) })],postN := fun as ts => [{ cls := tyL,data := (.seq #[] 0) },{ cls := tyL,data := (.seq (frA false (nth ts 2)) (1 + 2 * cntA (x.Q 1) + 1)) }],rawP := [0,1,12,23],rawQ := [1,2,4] }
theorem R_hSo2 (w : World) (x : Vars) : (S_hSo2 w x).Holds (VV w) :=
  sF (F := FT w) (vok _) 20000 ⟨q19, [41,29], [51,56,0]⟩ fun m t => by kernel_rfl
noncomputable def S_hSe3 (w : World) (x : Vars) (r : Bool) : Spec := { code := .call (.ref 797) ⟨[(vA x 10),(vA x 2),(.str s37 (x.U 2)),(vA x 17)],[]⟩,dep := 600,need := [!ltB 1000000000 ((x.I 11 3) + 1)],bel := some ([envF (o816 w.params) 816 (aA x 19) s38 [(s39,(aA x 0)),(s40,(aA x 1))],envF (o830 w.params) 830 (aA x 20) s2 []],x.u),pre := [(aA x 0,{ cls := (.type "cell"),data := (.cell (some (vA x 18))) }),(aA x 1,{ cls := (.type "cell"),data := (.cell (some (vR x 1 0))) }),(aA x 2,(iX 234 (aA x 3))),(aA x 3,(oTX x 3 (vI x (-1) 3 0) (vA x 4) (vA x 5) .none)),(aA x 4,{ cls := tyL,data := (.seq #[(vB x b4 4 0),(vB x b5 4 1),(vB x b6 4 2),(vB x b7 4 3),(vB x b8 4 4),(vB x b9 4 5),(vB x b10 4 6),(vB x b11 4 7),(vB x b12 4 8),(vB x b13 4 9),(vB x b14 4 10),(vB x b15 4 11),(vB x b16 4 12),(vB x b17 4 13),(vB x b18 4 14),(vB x b19 4 15),(vB x b20 4 16),(vB x b21 4 17),(vB x b22 4 18),(vB x b23 4 19),(vB x b24 4 20),(vB x b25 4 21)] (x.N 4)) }),(aA x 5,{ cls := tyL,data := (.seq #[(vR x 5 0),(vR x 5 1),(vR x 5 2),(vR x 5 3),(vR x 5 4),(vR x 5 5),(vR x 5 6),(vR x 5 7),(vR x 5 8),(vR x 5 9),(vR x 5 10),(vR x 5 11),(vR x 5 12),(vR x 5 13),(vR x 5 14),(vR x 5 15),(vR x 5 16),(vA x 6),(vR x 5 18),(vR x 5 19),(vA x 2),(vB x b26 5 21)] (x.N 5)) }),(aA x 6,(iX 234 (aA x 7))),(aA x 7,(oTX x 7 (vI x (-30) 7 0) (vA x 8) (vA x 9) .none)),(aA x 8,{ cls := tyL,data := (.seq #[(vB x b27 8 0),(vB x b28 8 1),(vB x b29 8 2),(vB x b30 8 3),(vB x b31 8 4),(vB x b32 8 5)] (x.N 8)) }),(aA x 9,{ cls := tyL,data := (.seq #[(vR x 9 0),(vR x 9 1),(vR x 9 2),(vR x 9 3),(vR x 9 4),(vA x 13)] (x.N 9)) }),(aA x 10,(iX 451 (aA x 11))),(aA x 11,{ cls := tyD,data := (.dict #[eX x 11 0 s7 (vA x 14),eX x 11 1 s8 (vB x b33 11 1),eX x 11 2 s9 (vR x 11 2),eX x 11 3 s10 (.int (x.I 11 3) (x.V 11 3)),eX x 11 4 s11 (vI x (0) 11 4),eX x 11 5 s12 (vA x 12),eX x 11 6 s13 (.int (x.I 11 6) (x.V 11 6)),eX x 11 7 s14 (vR x 11 7)] (x.N 11)) }),(aA x 12,{ cls := tyL,data := (.seq (x.Q 12) (x.N 12)) }),(aA x 13,(iX 255 (aA x 16))),(aA x 14,(iX 53 (aA x 15))),(aA x 15,(oLX x 15)),(aA x 16,{ cls := tyD,data := (.dict #[eX x 16 0 s3 (vI x (-35) 16 0),eX x 16 1 s23 (vB x b32 16 1),eX x 16 2 s24 (.ref 684)] (x.N 16)) }),(aA x 17,{ cls := tyL,data := (.seq #[(vA x 18),(vI x (5) 17 1)] (x.N 17)) }),(aA x 18,{ cls := (.ref 234),dict := (some (x.R 18 900)),data := .plain }),(aA x 19,{ cls := (.type "frame"),data := (.dict (x.E 19) (x.N 19)) }),(aA x 20,lfO r x.u (x.E 20) (x.N 20))],touch := [11,19,20],na := 1,nt := 4,res := fun as ts => .ok (.ret (.bytes b55 (nth ts 0))),postT := fun as ts => [some ({ cls := tyD,data := (.dict #[eX x 11 0 s7 (vA x 14),eX x 11 1 s8 (vB x b33 11 1),eX x 11 2 s9 (vR x 11 2),eX x 11 3 s10 (.int (x.I 11 3 + 1) (nth ts 1)),eX x 11 4 s11 (vI x (0) 11 4),eX x 11 5 s12 (.ref (nth as 0)),eX x 11 6 s13 (.int (8) (nth ts 2)),eX x 11 7 s14 (vR x 11 7)] (x.N 11)) }),some ({ cls := (.type "frame"),data := (.dict (x.E 19) (x.N 19)),slots := #[(some (.ref 815)),(some (.ref 3)),none,(some (vA x 20)),none,(some (.ref 816)),(some (.ref 0)),(some (vA x 0)),(some (vA x 1))] }),some (lfO true x.u (x.E 20) (x.N 20))],postN := fun as ts => [{ cls := tyL,data := (.seq (frA true (nth ts 3)) 1) }],rawP := [12,19,20],rawQ := [1,2,3] }
theorem R_hSe3f (w : World) (x : Vars) : (S_hSe3 w x false).Holds (VV w) :=
  sF (F := FN w) (vok _) 20000 ⟨q20, [26], [92,30,31,777,32]⟩ fun m t => by kernel_rfl
theorem R_hSe3t (w : World) (x : Vars) : (S_hSe3 w x true).Holds (VV w) :=
  sF (F := FN w) (vok _) 20000 ⟨cp q20 0 742 (cp q20 743 106 ([])), [26], [92,30,31,777,32]⟩ fun m t => by kernel_rfl
theorem R_hSe3 (w : World) (x : Vars) (r : Bool) : (S_hSe3 w x r).Holds (VV w) := by
  cases r
  · exact R_hSe3f w x
  · exact R_hSe3t w x
noncomputable def S_hSe4 (w : World) (x : Vars) (r : Bool) : Spec := { code := .call (.ref 797) ⟨[(vA x 10),(vA x 2),(.str s37 (x.U 2)),(vA x 17)],[]⟩,dep := 600,need := [!ltB 1000000000 ((x.I 11 3) + 1)],bel := some ([envF (o816 w.params) 816 (aA x 19) s38 [(s39,(aA x 0)),(s40,(aA x 1))],envF (o830 w.params) 830 (aA x 20) s2 []],x.u),pre := [(aA x 0,{ cls := (.type "cell"),data := (.cell (some (vA x 18))) }),(aA x 1,{ cls := (.type "cell"),data := (.cell (some (vR x 1 0))) }),(aA x 2,(iX 234 (aA x 3))),(aA x 3,(oTX x 3 (vI x (-1) 3 0) (vA x 4) (vA x 5) .none)),(aA x 4,{ cls := tyL,data := (.seq #[(vB x b4 4 0),(vB x b5 4 1),(vB x b6 4 2),(vB x b7 4 3),(vB x b8 4 4),(vB x b9 4 5),(vB x b10 4 6),(vB x b11 4 7),(vB x b12 4 8),(vB x b13 4 9),(vB x b14 4 10),(vB x b15 4 11),(vB x b16 4 12),(vB x b17 4 13),(vB x b18 4 14),(vB x b19 4 15),(vB x b20 4 16),(vB x b21 4 17),(vB x b22 4 18),(vB x b23 4 19),(vB x b24 4 20),(vB x b25 4 21)] (x.N 4)) }),(aA x 5,{ cls := tyL,data := (.seq #[(vR x 5 0),(vR x 5 1),(vR x 5 2),(vR x 5 3),(vR x 5 4),(vR x 5 5),(vR x 5 6),(vR x 5 7),(vR x 5 8),(vR x 5 9),(vR x 5 10),(vR x 5 11),(vR x 5 12),(vR x 5 13),(vR x 5 14),(vR x 5 15),(vR x 5 16),(vA x 6),(vR x 5 18),(vR x 5 19),(vA x 2),(vB x b26 5 21)] (x.N 5)) }),(aA x 6,(iX 234 (aA x 7))),(aA x 7,(oTX x 7 (vI x (-30) 7 0) (vA x 8) (vA x 9) .none)),(aA x 8,{ cls := tyL,data := (.seq #[(vB x b27 8 0),(vB x b28 8 1),(vB x b29 8 2),(vB x b30 8 3),(vB x b31 8 4),(vB x b32 8 5)] (x.N 8)) }),(aA x 9,{ cls := tyL,data := (.seq #[(vR x 9 0),(vR x 9 1),(vR x 9 2),(vR x 9 3),(vR x 9 4),(vA x 13)] (x.N 9)) }),(aA x 10,(iX 451 (aA x 11))),(aA x 11,{ cls := tyD,data := (.dict #[eX x 11 0 s7 (vA x 14),eX x 11 1 s8 (vB x b33 11 1),eX x 11 2 s9 (vR x 11 2),eX x 11 3 s10 (.int (x.I 11 3) (x.V 11 3)),eX x 11 4 s11 (vI x (0) 11 4),eX x 11 5 s12 (vA x 12),eX x 11 6 s13 (.int (x.I 11 6) (x.V 11 6)),eX x 11 7 s14 (vR x 11 7)] (x.N 11)) }),(aA x 12,{ cls := tyL,data := (.seq (x.Q 12) (x.N 12)) }),(aA x 13,(iX 255 (aA x 16))),(aA x 14,(iX 53 (aA x 15))),(aA x 15,(oLX x 15)),(aA x 16,{ cls := tyD,data := (.dict #[eX x 16 0 s3 (vI x (-35) 16 0),eX x 16 1 s23 (vB x b32 16 1),eX x 16 2 s24 (.ref 684)] (x.N 16)) }),(aA x 17,{ cls := tyL,data := (.seq #[(vA x 18),(vB x b56 17 1)] (x.N 17)) }),(aA x 18,{ cls := (.ref 234),dict := (some (x.R 18 900)),data := .plain }),(aA x 19,{ cls := (.type "frame"),data := (.dict (x.E 19) (x.N 19)) }),(aA x 20,lfO r x.u (x.E 20) (x.N 20))],touch := [11,19,20],na := 1,nt := 4,res := fun as ts => .ok (.ret (.bytes b57 (nth ts 0))),postT := fun as ts => [some ({ cls := tyD,data := (.dict #[eX x 11 0 s7 (vA x 14),eX x 11 1 s8 (vB x b33 11 1),eX x 11 2 s9 (vR x 11 2),eX x 11 3 s10 (.int (x.I 11 3 + 1) (nth ts 1)),eX x 11 4 s11 (vI x (0) 11 4),eX x 11 5 s12 (.ref (nth as 0)),eX x 11 6 s13 (.int (8) (nth ts 2)),eX x 11 7 s14 (vR x 11 7)] (x.N 11)) }),some ({ cls := (.type "frame"),data := (.dict (x.E 19) (x.N 19)),slots := #[(some (.ref 815)),(some (.ref 3)),none,(some (vA x 20)),none,(some (.ref 816)),(some (.ref 0)),(some (vA x 0)),(some (vA x 1))] }),some (lfO true x.u (x.E 20) (x.N 20))],postN := fun as ts => [{ cls := tyL,data := (.seq (frA true (nth ts 3)) 1) }],rawP := [12,19,20],rawQ := [1,2,3] }
theorem R_hSe4f (w : World) (x : Vars) : (S_hSe4 w x false).Holds (VV w) :=
  sF (F := FN w) (vok _) 20000 ⟨cp q20 0 849 ([]), [26], [92,30,31,777,32]⟩ fun m t => by kernel_rfl
theorem R_hSe4t (w : World) (x : Vars) : (S_hSe4 w x true).Holds (VV w) :=
  sF (F := FN w) (vok _) 20000 ⟨cp q20 0 742 (cp q20 743 106 ([])), [26], [92,30,31,777,32]⟩ fun m t => by kernel_rfl
theorem R_hSe4 (w : World) (x : Vars) (r : Bool) : (S_hSe4 w x r).Holds (VV w) := by
  cases r
  · exact R_hSe4f w x
  · exact R_hSe4t w x
noncomputable def S_hSe5 (w : World) (x : Vars) (r : Bool) : Spec := { code := .call (.ref 797) ⟨[(vA x 10),(vA x 2),(.str s37 (x.U 2)),(vA x 17)],[]⟩,dep := 600,need := [!ltB 1000000000 ((x.I 11 3) + 1)],bel := some ([envF (o816 w.params) 816 (aA x 19) s38 [(s39,(aA x 0)),(s40,(aA x 1))],envF (o830 w.params) 830 (aA x 20) s2 []],x.u),pre := [(aA x 0,{ cls := (.type "cell"),data := (.cell (some (vA x 18))) }),(aA x 1,{ cls := (.type "cell"),data := (.cell (some (vR x 1 0))) }),(aA x 2,(iX 234 (aA x 3))),(aA x 3,(oTX x 3 (vI x (-1) 3 0) (vA x 4) (vA x 5) .none)),(aA x 4,{ cls := tyL,data := (.seq #[(vB x b4 4 0),(vB x b5 4 1),(vB x b6 4 2),(vB x b7 4 3),(vB x b8 4 4),(vB x b9 4 5),(vB x b10 4 6),(vB x b11 4 7),(vB x b12 4 8),(vB x b13 4 9),(vB x b14 4 10),(vB x b15 4 11),(vB x b16 4 12),(vB x b17 4 13),(vB x b18 4 14),(vB x b19 4 15),(vB x b20 4 16),(vB x b21 4 17),(vB x b22 4 18),(vB x b23 4 19),(vB x b24 4 20),(vB x b25 4 21)] (x.N 4)) }),(aA x 5,{ cls := tyL,data := (.seq #[(vR x 5 0),(vR x 5 1),(vR x 5 2),(vR x 5 3),(vR x 5 4),(vR x 5 5),(vR x 5 6),(vR x 5 7),(vR x 5 8),(vR x 5 9),(vR x 5 10),(vR x 5 11),(vR x 5 12),(vR x 5 13),(vR x 5 14),(vR x 5 15),(vR x 5 16),(vA x 6),(vR x 5 18),(vR x 5 19),(vA x 2),(vB x b26 5 21)] (x.N 5)) }),(aA x 6,(iX 234 (aA x 7))),(aA x 7,(oTX x 7 (vI x (-30) 7 0) (vA x 8) (vA x 9) .none)),(aA x 8,{ cls := tyL,data := (.seq #[(vB x b27 8 0),(vB x b28 8 1),(vB x b29 8 2),(vB x b30 8 3),(vB x b31 8 4),(vB x b32 8 5)] (x.N 8)) }),(aA x 9,{ cls := tyL,data := (.seq #[(vR x 9 0),(vR x 9 1),(vR x 9 2),(vR x 9 3),(vR x 9 4),(vA x 13)] (x.N 9)) }),(aA x 10,(iX 451 (aA x 11))),(aA x 11,{ cls := tyD,data := (.dict #[eX x 11 0 s7 (vA x 14),eX x 11 1 s8 (vB x b33 11 1),eX x 11 2 s9 (vR x 11 2),eX x 11 3 s10 (.int (x.I 11 3) (x.V 11 3)),eX x 11 4 s11 (vI x (0) 11 4),eX x 11 5 s12 (vA x 12),eX x 11 6 s13 (.int (x.I 11 6) (x.V 11 6)),eX x 11 7 s14 (vR x 11 7)] (x.N 11)) }),(aA x 12,{ cls := tyL,data := (.seq (x.Q 12) (x.N 12)) }),(aA x 13,(iX 255 (aA x 16))),(aA x 14,(iX 53 (aA x 15))),(aA x 15,(oLX x 15)),(aA x 16,{ cls := tyD,data := (.dict #[eX x 16 0 s3 (vI x (-35) 16 0),eX x 16 1 s23 (vB x b32 16 1),eX x 16 2 s24 (.ref 684)] (x.N 16)) }),(aA x 17,{ cls := tyL,data := (.seq #[(vA x 18),(.bool true)] (x.N 17)) }),(aA x 18,{ cls := (.ref 234),dict := (some (x.R 18 900)),data := .plain }),(aA x 19,{ cls := (.type "frame"),data := (.dict (x.E 19) (x.N 19)) }),(aA x 20,lfO r x.u (x.E 20) (x.N 20))],touch := [11,19,20],na := 1,nt := 4,res := fun as ts => .ok (.ret (.bytes b58 (nth ts 0))),postT := fun as ts => [some ({ cls := tyD,data := (.dict #[eX x 11 0 s7 (vA x 14),eX x 11 1 s8 (vB x b33 11 1),eX x 11 2 s9 (vR x 11 2),eX x 11 3 s10 (.int (x.I 11 3 + 1) (nth ts 1)),eX x 11 4 s11 (vI x (0) 11 4),eX x 11 5 s12 (.ref (nth as 0)),eX x 11 6 s13 (.int (8) (nth ts 2)),eX x 11 7 s14 (vR x 11 7)] (x.N 11)) }),some ({ cls := (.type "frame"),data := (.dict (x.E 19) (x.N 19)),slots := #[(some (.ref 815)),(some (.ref 3)),none,(some (vA x 20)),none,(some (.ref 816)),(some (.ref 0)),(some (vA x 0)),(some (vA x 1))] }),some (lfO true x.u (x.E 20) (x.N 20))],postN := fun as ts => [{ cls := tyL,data := (.seq (frA true (nth ts 3)) 1) }],rawP := [12,19,20],rawQ := [1,2,3] }
theorem R_hSe5f (w : World) (x : Vars) : (S_hSe5 w x false).Holds (VV w) :=
  sF (F := FN w) (vok _) 20000 ⟨cp q20 0 849 ([]), [26], [92,30,31,777,32]⟩ fun m t => by kernel_rfl
theorem R_hSe5t (w : World) (x : Vars) : (S_hSe5 w x true).Holds (VV w) :=
  sF (F := FN w) (vok _) 20000 ⟨cp q20 0 742 (cp q20 743 106 ([])), [26], [92,30,31,777,32]⟩ fun m t => by kernel_rfl
theorem R_hSe5 (w : World) (x : Vars) (r : Bool) : (S_hSe5 w x r).Holds (VV w) := by
  cases r
  · exact R_hSe5f w x
  · exact R_hSe5t w x
noncomputable def S_hSe6 (w : World) (x : Vars) (r : Bool) : Spec := { code := .call (.ref 797) ⟨[(vA x 10),(vA x 2),(.str s37 (x.U 2)),(vA x 17)],[]⟩,dep := 600,need := [!ltB 1000000000 ((x.I 11 3) + 1)],bel := some ([envF (o816 w.params) 816 (aA x 20) s38 [(s39,(aA x 0)),(s40,(aA x 1))],envF (o830 w.params) 830 (aA x 21) s2 []],x.u),pre := [(aA x 0,{ cls := (.type "cell"),data := (.cell (some (vA x 18))) }),(aA x 1,{ cls := (.type "cell"),data := (.cell (some (vR x 1 0))) }),(aA x 2,(iX 234 (aA x 3))),(aA x 3,(oTX x 3 (vI x (-1) 3 0) (vA x 4) (vA x 5) .none)),(aA x 4,{ cls := tyL,data := (.seq #[(vB x b4 4 0),(vB x b5 4 1),(vB x b6 4 2),(vB x b7 4 3),(vB x b8 4 4),(vB x b9 4 5),(vB x b10 4 6),(vB x b11 4 7),(vB x b12 4 8),(vB x b13 4 9),(vB x b14 4 10),(vB x b15 4 11),(vB x b16 4 12),(vB x b17 4 13),(vB x b18 4 14),(vB x b19 4 15),(vB x b20 4 16),(vB x b21 4 17),(vB x b22 4 18),(vB x b23 4 19),(vB x b24 4 20),(vB x b25 4 21)] (x.N 4)) }),(aA x 5,{ cls := tyL,data := (.seq #[(vR x 5 0),(vR x 5 1),(vR x 5 2),(vR x 5 3),(vR x 5 4),(vR x 5 5),(vR x 5 6),(vR x 5 7),(vR x 5 8),(vR x 5 9),(vR x 5 10),(vR x 5 11),(vR x 5 12),(vR x 5 13),(vR x 5 14),(vR x 5 15),(vR x 5 16),(vA x 6),(vR x 5 18),(vR x 5 19),(vA x 2),(vB x b26 5 21)] (x.N 5)) }),(aA x 6,(iX 234 (aA x 7))),(aA x 7,(oTX x 7 (vI x (-30) 7 0) (vA x 8) (vA x 9) .none)),(aA x 8,{ cls := tyL,data := (.seq #[(vB x b27 8 0),(vB x b28 8 1),(vB x b29 8 2),(vB x b30 8 3),(vB x b31 8 4),(vB x b32 8 5)] (x.N 8)) }),(aA x 9,{ cls := tyL,data := (.seq #[(vR x 9 0),(vR x 9 1),(vR x 9 2),(vR x 9 3),(vR x 9 4),(vA x 13)] (x.N 9)) }),(aA x 10,(iX 451 (aA x 11))),(aA x 11,{ cls := tyD,data := (.dict #[eX x 11 0 s7 (vA x 14),eX x 11 1 s8 (vB x b33 11 1),eX x 11 2 s9 (vR x 11 2),eX x 11 3 s10 (.int (x.I 11 3) (x.V 11 3)),eX x 11 4 s11 (vI x (0) 11 4),eX x 11 5 s12 (vA x 12),eX x 11 6 s13 (.int (x.I 11 6) (x.V 11 6)),eX x 11 7 s14 (vR x 11 7)] (x.N 11)) }),(aA x 12,{ cls := tyL,data := (.seq (x.Q 12) (x.N 12)) }),(aA x 13,(iX 255 (aA x 16))),(aA x 14,(iX 53 (aA x 15))),(aA x 15,(oLX x 15)),(aA x 16,{ cls := tyD,data := (.dict #[eX x 16 0 s3 (vI x (-35) 16 0),eX x 16 1 s23 (vB x b32 16 1),eX x 16 2 s24 (.ref 684)] (x.N 16)) }),(aA x 17,{ cls := tyL,data := (.seq #[(vA x 18),(vA x 19)] (x.N 17)) }),(aA x 18,{ cls := (.ref 234),dict := (some (x.R 18 900)),data := .plain }),(aA x 19,{ cls := (.ref 234),dict := (some (x.R 19 900)),data := .plain }),(aA x 20,{ cls := (.type "frame"),data := (.dict (x.E 20) (x.N 20)) }),(aA x 21,lfO r x.u (x.E 21) (x.N 21))],touch := [11,20,21],na := 1,nt := 4,res := fun as ts => .ok (.ret (.bytes b59 (nth ts 0))),postT := fun as ts => [some ({ cls := tyD,data := (.dict #[eX x 11 0 s7 (vA x 14),eX x 11 1 s8 (vB x b33 11 1),eX x 11 2 s9 (vR x 11 2),eX x 11 3 s10 (.int (x.I 11 3 + 1) (nth ts 1)),eX x 11 4 s11 (vI x (0) 11 4),eX x 11 5 s12 (.ref (nth as 0)),eX x 11 6 s13 (.int (8) (nth ts 2)),eX x 11 7 s14 (vR x 11 7)] (x.N 11)) }),some ({ cls := (.type "frame"),data := (.dict (x.E 20) (x.N 20)),slots := #[(some (.ref 815)),(some (.ref 3)),none,(some (vA x 21)),none,(some (.ref 816)),(some (.ref 0)),(some (vA x 0)),(some (vA x 1))] }),some (lfO true x.u (x.E 21) (x.N 21))],postN := fun as ts => [{ cls := tyL,data := (.seq (frA true (nth ts 3)) 1) }],rawP := [12,20,21],rawQ := [1,2,3] }
theorem R_hSe6f (w : World) (x : Vars) : (S_hSe6 w x false).Holds (VV w) :=
  sF (F := FN w) (vok _) 20000 ⟨q21, [27], [92,30,31,777,33]⟩ fun m t => by kernel_rfl
theorem R_hSe6t (w : World) (x : Vars) : (S_hSe6 w x true).Holds (VV w) :=
  sF (F := FN w) (vok _) 20000 ⟨cp q21 0 744 (cp q21 745 106 ([])), [27], [92,30,31,777,33]⟩ fun m t => by kernel_rfl
theorem R_hSe6 (w : World) (x : Vars) (r : Bool) : (S_hSe6 w x r).Holds (VV w) := by
  cases r
  · exact R_hSe6f w x
  · exact R_hSe6t w x
end Mine
end

section
open PySem PySem.W PySem.W.X PyProof.Rows
set_option maxRecDepth 1000000
set_option maxHeartbeats 0
namespace Mine
open PySem.W.ZFast (hashOfZ)
/-! the sort part, case by case: n: how many in the row; f: which order -/
def reL : List Value → List Value → List Value
  | .int a _ :: l, y :: l' => .int a (tokOf y) :: reL l l'
  | _, _ => []
theorem eqL_re : ∀ l l' : List Value, eqL l (reL l l') = true
  | .int a t :: l, y :: l' => by
    show (eqB a a && eqL l (reL l l')) = true
    rw [eqL_re l l', eqB_iff'.2 rfl]; rfl
  | [], _ => rfl
  | .int _ _ :: _, [] => rfl
  | .none :: _, _ => rfl
  | .ellipsis :: _, _ => rfl
  | .notImplemented :: _, _ => rfl
  | .bool _ :: _, _ => rfl
  | .float _ _ :: _, _ => rfl
  | .str _ _ :: _, _ => rfl
  | .bytes _ _ :: _, _ => rfl
  | .type _ :: _, _ => rfl
  | .builtin _ :: _, _ => rfl
  | .ref _ :: _, _ => rfl
noncomputable def D_leqR {V : Vn} : Dp V := ⟨2, fun as os alt => match as with
  | [l, l'] => match os with
    | [o, o'] => match seqOf o with
      | some (xs, n) => match seqOf o' with
        | some (ys, m) => match alt with
          | 0 => some ⟨S_leq l l' xs n ys m [kindL xs.toList ys.toList] (eqL xs.toList ys.toList), leq_at fun q => ⟨q _ (List.mem_cons_self ..), rfl⟩⟩
          | _ => some ⟨S_leq l l' xs n ⟨reL xs.toList ys.toList⟩ m [kindL xs.toList (reL xs.toList ys.toList)] true, leq_at fun q => ⟨q _ (List.mem_cons_self ..), eqL_re _ _⟩⟩
        | none => none
      | none => none
    | _ => none
  | _ => none⟩
noncomputable def FS (w : World) (D : List Value → Dp (VV w)) (c : Code) : Option (Dp (VV w)) := match c with
  | .call (.ref a) ⟨[v1, v2, v3, v4], []⟩ => match Nat.beq a 797 with
    | true => some (D [v1, v2, v3, v4])
    | false => FN w c
  | .builtin id ⟨[v], []⟩ => match idIs id 111490731569268 with
    | true => some D_srt
    | false => FN w (.builtin id ⟨[v], []⟩)
  | .builtin id ⟨[v, v'], []⟩ => match idIs id 116512336171186236184357485 with
    | true => some D_leqR
    | false => FN w (.builtin id ⟨[v, v'], []⟩)
  | c => FN w c
noncomputable def rowJ (Q : Array Value) (a : Int) : Nat → Nat → List Int
  | 0, _ => []
  | n + 1, i => drawV Q (plusN i a) 8 :: rowJ Q a n (i + 1)
noncomputable def rowI (Q : Array Value) (a : Int) (n : Nat) : List Int := rowJ Q a n 1
noncomputable def rowOkJ (Q : Array Value) (a : Int) (tl : List Bool) : Nat → Nat → List Bool
  | 0, _ => tl
  | n + 1, i => drawOk Q (plusN i a) :: rowOkJ Q a tl n (i + 1)
/-- what the draws are -/
noncomputable def sortNd (Q : Array Value) (a : Int) (n f : Nat) : List Bool := drawOk Q a :: eqB (drawV Q a 3) (Int.ofNat n) :: rowOkJ Q a [drawOk Q (plusN (1 + n) a), eqB (drawV Q (plusN (1 + n) a) 6) (Int.ofNat f)] n 1
noncomputable def appB (l r : List Bool) : List Bool := l ++ r
def errS (f : Nat) : Bool := Nat.ble 3 f
def dpS (f : Nat) : Int := match errS f with | true => 8 | false => 0
noncomputable def cnS (Q : Array Value) (a : Int) (n : Nat) : Nat := cnP n (pOf true (rowI Q a n))
noncomputable def stS (f : Nat) (Q : Array Value) (a : Int) (n : Nat) (I : Int) : Int := match f with | 2 => plusN (cnS Q a n) (I + 1) | _ => I + 1
noncomputable def epS (f : Nat) (Q : Array Value) (a : Int) (n : Nat) : Nat := match f with | 2 => 1 + 2 * cnS Q a n + 1 | 0 => 2 | 1 => 2 | _ => 1
end Mine
end

section
open PySem PySem.W PySem.W.X PyProof.Rows
set_option maxRecDepth 1000000
set_option maxHeartbeats 0
namespace Mine
open PySem.W.ZFast (hashOfZ)
noncomputable def S_sorta (w : World) (x : Vars) (r : Bool) (n f : Nat) : Spec := { code := .call (.ref 816) ⟨[(vA x 0),(vA x 2),(vA x 7)],[]⟩,dep := 400,need := sortNd (x.Q 1) (x.I 0 1) n f ++ [!ltB 1000000000 ((x.I 3 3) + 1),!ltB 1000000000 (((x.I 3 3) + 1) + 1),!ltB 1000000000 ((((x.I 3 3) + 1) + 1) + 1),!ltB 1000000000 (((((x.I 3 3) + 1) + 1) + 1) + 1)],bel := some ([envF (o830 w.params) 830 (aA x 5) s2 []],x.u),pre := [(aA x 0,{ cls := tyL,data := (.seq #[(vA x 1),(.int (x.I 0 1) (x.V 0 1))] (x.N 0)) }),(aA x 1,{ cls := tyL,data := (.seq (x.Q 1) (x.N 1)) }),(aA x 2,(iX 451 (aA x 3))),(aA x 3,{ cls := tyD,data := (.dict #[eX x 3 0 s7 (vA x 16),eX x 3 1 s8 (vB x b33 3 1),eX x 3 2 s9 (vR x 3 2),eX x 3 3 s10 (.int (x.I 3 3) (x.V 3 3)),eX x 3 4 s11 (vI x (0) 3 4),eX x 3 5 s12 (vA x 4),eX x 3 6 s13 (.int (x.I 3 6) (x.V 3 6)),eX x 3 7 s14 (vR x 3 7)] (x.N 3)) }),(aA x 4,{ cls := tyL,data := (.seq (x.Q 4) (x.N 4)) }),(aA x 5,lfO r x.u (x.E 5) (x.N 5)),(813,{ cls := .none,data := (.fields #[]) }),(aA x 7,(iX 234 (aA x 8))),(aA x 8,(oTX x 8 (vI x (-1) 8 0) (vA x 9) (vA x 10) .none)),(aA x 9,{ cls := tyL,data := (.seq #[(vB x b4 9 0),(vB x b5 9 1),(vB x b6 9 2),(vB x b7 9 3),(vB x b8 9 4),(vB x b9 9 5),(vB x b10 9 6),(vB x b11 9 7),(vB x b12 9 8),(vB x b13 9 9),(vB x b14 9 10),(vB x b15 9 11),(vB x b16 9 12),(vB x b17 9 13),(vB x b18 9 14),(vB x b19 9 15),(vB x b20 9 16),(vB x b21 9 17),(vB x b22 9 18),(vB x b23 9 19),(vB x b24 9 20),(vB x b25 9 21)] (x.N 9)) }),(aA x 10,{ cls := tyL,data := (.seq #[(vR x 10 0),(vR x 10 1),(vR x 10 2),(vR x 10 3),(vR x 10 4),(vR x 10 5),(vR x 10 6),(vR x 10 7),(vR x 10 8),(vR x 10 9),(vR x 10 10),(vR x 10 11),(vR x 10 12),(vR x 10 13),(vR x 10 14),(vR x 10 15),(vR x 10 16),(vA x 11),(vR x 10 18),(vR x 10 19),(vA x 7),(vB x b26 10 21)] (x.N 10)) }),(aA x 11,(iX 234 (aA x 12))),(aA x 12,(oTX x 12 (vI x (-30) 12 0) (vA x 13) (vA x 14) .none)),(aA x 13,{ cls := tyL,data := (.seq #[(vB x b27 13 0),(vB x b28 13 1),(vB x b29 13 2),(vB x b30 13 3),(vB x b31 13 4),(vB x b32 13 5)] (x.N 13)) }),(aA x 14,{ cls := tyL,data := (.seq #[(vR x 14 0),(vR x 14 1),(vR x 14 2),(vR x 14 3),(vR x 14 4),(vA x 15)] (x.N 14)) }),(aA x 15,(iX 255 (aA x 18))),(aA x 16,(iX 53 (aA x 17))),(aA x 17,(oLX x 17)),(aA x 18,{ cls := tyD,data := (.dict #[eX x 18 0 s3 (vI x (-35) 18 0),eX x 18 1 s23 (vB x b32 18 1),eX x 18 2 s24 (.ref 684)] (x.N 18)) })],touch := [0,3,5,6],na := 2,nt := 14,res := fun as ts => .ok (.ret (.bool true)),postT := fun as ts => [some ({ cls := tyL,data := (.seq #[(vA x 1),(.int (plusN (2 + n) (x.I 0 1)) (nth ts 0))] (x.N 0)) }),some ({ cls := tyD,data := (.dict #[eX x 3 0 s7 (vA x 16),eX x 3 1 s8 (vB x b33 3 1),eX x 3 2 s9 (vR x 3 2),eX x 3 3 s10 (.int (stS f (x.Q 1) (x.I 0 1) n (x.I 3 3)) (nth ts 1)),eX x 3 4 s11 (vI x (0) 3 4),eX x 3 5 s12 (.ref (nth as 0)),eX x 3 6 s13 (.int (dpS f) (nth ts 2)),eX x 3 7 s14 (vR x 3 7)] (x.N 3)) }),some (lfO (orB (errS f) r) x.u (x.E 5) (x.N 5)),some ({ cls := .none,data := (.fields #[(.int (631) 0),(.int (37) 0),(.ref (nth as 1))]) })],postN := fun as ts => [{ cls := tyL,data := (.seq (frA (errS f) (nth ts 3)) (epS f (x.Q 1) (x.I 0 1) n)) },{ cls := (.type "code"),data := (.fields #[(.str s26 (nth ts 4)),(.str s36 (nth ts 5)),(.str s30 (nth ts 6)),(.int (631) 0),(.int (2) 0),(.int (0) 0),(.int (0) 0),(.int (19) 0),(.ref (nth ts 7)),(.bool true),(.int (181) 0),(.ref (nth ts 8)),.none,(.ref (nth ts 9)),(.ref (nth ts 10)),(.ref (nth ts 11)),(.int (Int.ofNat (nth ts 12)) 0),(.int (631) 0),(.str s30 (nth ts 13))]) }],rawP := [1,4,5],rawQ := [2,4] }
theorem R_sorta00 (w : World) (x : Vars) (r : Bool) : (S_sorta w x r 0 0).Holds (VV w) :=
  sF (F := FS w fun args => ⟨1000, fun as os _ => some ⟨_, R_hSo0 w (varsOf args as os x.u)⟩⟩) (vok _) 20000 ⟨q22, [60,49], [47,54,55,56,32,33,34,777,44,777,45,777,46,777,47,777,48,37,38]⟩ fun m t => by kernel_rfl
theorem R_sorta01 (w : World) (x : Vars) (r : Bool) : (S_sorta w x r 0 1).Holds (VV w) :=
  sF (F := FS w fun args => ⟨1000, fun as os _ => some ⟨_, R_hSo1 w (varsOf args as os x.u)⟩⟩) (vok _) 20000 ⟨cp q22 0 194 (ap [2] (cp q22 195 21 (ap [1,0,22,20] (cp q22 219 93 ([]))))), [60,49], [47,54,55,56,32,33,34,777,44,777,45,777,46,777,47,777,48,37,38]⟩ fun m t => by kernel_rfl
theorem R_sorta02 (w : World) (x : Vars) (r : Bool) : (S_sorta w x r 0 2).Holds (VV w) :=
  sF (F := FS w fun args => ⟨1000, fun as os _ => some ⟨_, R_hSo2 w (varsOf args as os x.u)⟩⟩) (vok _) 20000 ⟨cp q22 0 194 (ap [3] (cp q22 195 21 (ap [1,0,22,20,0,24] (cp q22 221 20 (ap [52,53,51,50,0,0,5,6,7,8] (cp q22 244 51 (ap [0,0,0,0,20,25,0,0,69,69,69,69,70,70,70,70,70,69,64,71,64,1,64,64,71,0,0] ([])))))))), [60,49], [47,54,55,56,32,33,34,777,44,777,45,777,46,777,47,777,48,37,38]⟩ fun m t => by kernel_rfl
theorem R_sorta03 (w : World) (x : Vars) (r : Bool) : (S_sorta w x r 0 3).Holds (VV w) :=
  sF (F := FS w fun args => ⟨1000, fun as os _ => some ⟨_, R_hSe3 w (varsOf args as os x.u) r⟩⟩) (vok _) 20000 ⟨cp q22 0 194 (ap [4] (cp q22 195 21 (ap [1,0,22,20,0,21,22,21] (cp q22 224 9 (ap [4,5,16,17,18,19,59,29,20,6] (cp q22 242 13 (ap [61,61,61,61,61,61,1,61,61,61,61,62,62,62,62,62,62,62,66,0,20,20,64,20,1,1,0,20,67,67,67,67,67,0,20,20,20,0,20] (cp q8 724 14 (ap [68,1,68,68,1,20,20,63,25,63,1,63,63,25,0,0] ([])))))))))), [59,49], [47,55,56,57,32,33,34,777,44,777,45,777,46,777,47,777,48,37,38]⟩ fun m t => by kernel_rfl
theorem R_sorta04 (w : World) (x : Vars) (r : Bool) : (S_sorta w x r 0 4).Holds (VV w) :=
  sF (F := FS w fun args => ⟨1000, fun as os _ => some ⟨_, R_hSe4 w (varsOf args as os x.u) r⟩⟩) (vok _) 20000 ⟨cp q22 0 194 (ap [5] (cp q22 195 21 (ap [1,0,22,20,0,21,22,21] (cp q22 224 9 (ap [4,5,16,17,18,19,59,29,20,6] (cp q22 242 13 (ap [61,61,61,61,61,61,1,61,61,61,61,62,62,62,62,62,62,62,66,0,20,20,64,20,1,1,0,20,67,67,67,67,67,0,20,20,20,0,20] (cp q8 724 14 (ap [68,1,68,68,1,20,20,63,25,63,1,63,63,25,0,0] ([])))))))))), [59,49], [47,55,56,57,32,33,34,777,44,777,45,777,46,777,47,777,48,37,38]⟩ fun m t => by kernel_rfl
theorem R_sorta05 (w : World) (x : Vars) (r : Bool) : (S_sorta w x r 0 5).Holds (VV w) :=
  sF (F := FS w fun args => ⟨1000, fun as os _ => some ⟨_, R_hSe5 w (varsOf args as os x.u) r⟩⟩) (vok _) 20000 ⟨cp q22 0 194 (ap [6] (cp q22 195 21 (ap [1,0,22,20,0,21,22,21] (cp q22 224 9 (ap [4,5,16,17,18,19,59,29,20,6] (cp q22 242 13 (ap [61,61,61,61,61,61,1,61,61,61,61,62,62,62,62,62,62,62,66,0,20,20,64,20,1,1,0,20,67,67,67,67,67,0,20,20,20,0,20] (cp q8 724 14 (ap [68,1,68,68,1,20,20,63,25,63,1,63,63,25,0,0] ([])))))))))), [59,49], [47,55,56,57,32,33,34,777,44,777,45,777,46,777,47,777,48,37,38]⟩ fun m t => by kernel_rfl
theorem R_sorta06 (w : World) (x : Vars) (r : Bool) : (S_sorta w x r 0 6).Holds (VV w) :=
  sF (F := FS w fun args => ⟨1000, fun as os _ => some ⟨_, R_hSe6 w (varsOf args as os x.u) r⟩⟩) (vok _) 20000 ⟨cp q22 0 194 (ap [7] (cp q22 195 21 (ap [1,0,22,20,0,22,22,21] (cp q22 224 9 (ap [4,5,16,17,18,19,59,29,33,20,6] (cp q22 242 13 (ap [61,61,61,61,61,61,1,61,61,61,61,62,62,62,62,62,62,62,66,0,20,20,64,20,1,1,0,20,67,67,67,67,67,0,20,20,20,0,20] (cp q8 724 14 (ap [68,1,68,68,1,20,20,63,25,63,1,63,63,25,0,0] ([])))))))))), [59,49], [47,55,56,57,32,33,34,777,44,777,45,777,46,777,47,777,48,37,38]⟩ fun m t => by kernel_rfl
theorem R_sorta10 (w : World) (x : Vars) (r : Bool) : (S_sorta w x r 1 0).Holds (VV w) :=
  sF (F := FS w fun args => ⟨1000, fun as os _ => some ⟨_, R_hSo0 w (varsOf args as os x.u)⟩⟩) (vok _) 20000 ⟨q23, [64,49], [57,64,65,66,37,38,39,777,44,777,45,777,46,777,47,777,48,42,43]⟩ fun m t => by kernel_rfl
theorem R_sorta11 (w : World) (x : Vars) (r : Bool) : (S_sorta w x r 1 1).Holds (VV w) :=
  sF (F := FS w fun args => ⟨1000, fun as os _ => some ⟨_, R_hSo1 w (varsOf args as os x.u)⟩⟩) (vok _) 20000 ⟨cp q23 0 308 (ap [2] (cp q23 309 21 (ap [1,0,22,20] (cp q23 333 137 ([]))))), [64,49], [57,64,65,66,37,38,39,777,44,777,45,777,46,777,47,777,48,42,43]⟩ fun m t => by kernel_rfl
theorem R_sorta12 (w : World) (x : Vars) (r : Bool) : (S_sorta w x r 1 2).Holds (VV w) :=
  sF (F := FS w fun args => ⟨1000, fun as os _ => some ⟨_, R_hSo2 w (varsOf args as os x.u)⟩⟩) (vok _) 20000 ⟨cp q23 0 308 (ap [3] (cp q23 309 21 (ap [1,0,22,20,0,24] (cp q23 335 20 (ap [52,53,51,50,0,0,6,7,8,9] (cp q23 358 95 (ap [0,0,0,0,20,25,0,0,73,73,73,73,74,74,74,74,74,73,68,75,68,1,68,68,75,2,0] ([])))))))), [64,49], [57,64,65,66,37,38,39,777,44,777,45,777,46,777,47,777,48,42,43]⟩ fun m t => by kernel_rfl
theorem R_sorta13 (w : World) (x : Vars) (r : Bool) : (S_sorta w x r 1 3).Holds (VV w) :=
  sF (F := FS w fun args => ⟨1000, fun as os _ => some ⟨_, R_hSe3 w (varsOf args as os x.u) r⟩⟩) (vok _) 20000 ⟨cp q23 0 308 (ap [4] (cp q23 309 21 (ap [1,0,22,20,0,21,22,21] (cp q22 224 9 (ap [4,5,16,17,18,19,63,29,20,6] (cp q23 356 13 (ap [65,65,65,65,65,65,1,65,65,65,65,66,66,66,66,66,66,66,66,66,66,66,0,68,68] (cp q23 264 16 (ap [68] (cp q23 282 9 (ap [67,67,67,67,66,66,66,66,66,70,0,20,20,68,68,68,20,1,1,0,20,71,71,71,71,71,0,20,20,20,0,20] (cp q10 788 15 (ap [1,72,72,1,20,20,67,25,67,1,67,67,25,2,0] ([])))))))))))))), [63,49], [57,65,66,67,37,38,39,777,44,777,45,777,46,777,47,777,48,42,43]⟩ fun m t => by kernel_rfl
theorem R_sorta14 (w : World) (x : Vars) (r : Bool) : (S_sorta w x r 1 4).Holds (VV w) :=
  sF (F := FS w fun args => ⟨1000, fun as os _ => some ⟨_, R_hSe4 w (varsOf args as os x.u) r⟩⟩) (vok _) 20000 ⟨cp q23 0 308 (ap [5] (cp q23 309 21 (ap [1,0,22,20,0,21,22,21] (cp q22 224 9 (ap [4,5,16,17,18,19,63,29,20,6] (cp q23 356 13 (ap [65,65,65,65,65,65,1,65,65,65,65,66,66,66,66,66,66,66,66,66,66,66,0,68,68] (cp q23 264 16 (ap [68] (cp q23 282 9 (ap [67,67,67,67,66,66,66,66,66,70,0,20,20,68,68,68,20,1,1,0,20,71,71,71,71,71,0,20,20,20,0,20] (cp q10 788 15 (ap [1,72,72,1,20,20,67,25,67,1,67,67,25,2,0] ([])))))))))))))), [63,49], [57,65,66,67,37,38,39,777,44,777,45,777,46,777,47,777,48,42,43]⟩ fun m t => by kernel_rfl
theorem R_sorta15 (w : World) (x : Vars) (r : Bool) : (S_sorta w x r 1 5).Holds (VV w) :=
  sF (F := FS w fun args => ⟨1000, fun as os _ => some ⟨_, R_hSe5 w (varsOf args as os x.u) r⟩⟩) (vok _) 20000 ⟨cp q23 0 308 (ap [6] (cp q23 309 21 (ap [1,0,22,20,0,21,22,21] (cp q22 224 9 (ap [4,5,16,17,18,19,63,29,20,6] (cp q23 356 13 (ap [65,65,65,65,65,65,1,65,65,65,65,66,66,66,66,66,66,66,66,66,66,66,0,68,68] (cp q23 264 16 (ap [68] (cp q23 282 9 (ap [67,67,67,67,66,66,66,66,66,70,0,20,20,68,68,68,20,1,1,0,20,71,71,71,71,71,0,20,20,20,0,20] (cp q10 788 15 (ap [1,72,72,1,20,20,67,25,67,1,67,67,25,2,0] ([])))))))))))))), [63,49], [57,65,66,67,37,38,39,777,44,777,45,777,46,777,47,777,48,42,43]⟩ fun m t => by kernel_rfl
theorem R_sorta16 (w : World) (x : Vars) (r : Bool) : (S_sorta w x r 1 6).Holds (VV w) :=
  sF (F := FS w fun args => ⟨1000, fun as os _ => some ⟨_, R_hSe6 w (varsOf args as os x.u) r⟩⟩) (vok _) 20000 ⟨cp q23 0 308 (ap [7] (cp q23 309 21 (ap [1,0,22,20,0,22,22,21] (cp q22 224 9 (ap [4,5,16,17,18,19,63,29,33,20,6] (cp q23 356 13 (ap [65,65,65,65,65,65,1,65,65,65,65,66,66,66,66,66,66,66,66,66,66,66,0,68,68] (cp q23 264 16 (ap [68] (cp q23 282 9 (ap [67,67,67,67,66,66,66,66,66,70,0,20,20,68,68,68,20,1,1,0,20,71,71,71,71,71,0,20,20,20,0,20] (cp q10 788 15 (ap [1,72,72,1,20,20,67,25,67,1,67,67,25,2,0] ([])))))))))))))), [63,49], [57,65,66,67,37,38,39,777,44,777,45,777,46,777,47,777,48,42,43]⟩ fun m t => by kernel_rfl
theorem R_sorta20 (w : World) (x : Vars) (r : Bool) : (S_sorta w x r 2 0).Holds (VV w) :=
  sF (F := FS w fun args => ⟨1000, fun as os _ => some ⟨_, R_hSo0 w (varsOf args as os x.u)⟩⟩) (vok _) 20000 ⟨cp q22 0 17 (ap [3] (cp q23 18 43 (cp q23 38 13 (ap [4] (cp q23 52 250 (cp q23 213 17 (ap [60,60,60,1,60,61,61,61,61,61,60,61,61,61,61,61,61,60,61,61,61,61,61,61,60,61,61,63] (cp q23 258 44 (ap [65,0,21,0,1,2,1,5,6,0,20,20,20,20,20,66,66,66,66,66] (cp q22 208 30 (ap [67,29,30,0,0,7] (cp q22 244 11 (ap [70,70,70,70,70,70,1,70,70,70,70,71,71,71,71,71,71,71,71,71,71,71,0,73,73] (cp q23 264 16 (ap [73] (cp q23 282 9 (ap [72,72,72,72,71,71,71,71,71,71,71,71,71,0,73,73] (cp q23 264 16 (ap [73] (cp q23 282 9 (ap [72,72,72,72,71,71,71,71,71,75,0,20,20,73,73,73,20,1,0,0,20,68,76,68,1,68,68,76] (cp q22 290 13 (ap [72,77,72,1,72,72,77,2,0] ([])))))))))))))))))))))))), [68,49], [67,74,75,76,42,43,44,777,44,777,45,777,46,777,47,777,48,47,48]⟩ fun m t => by kernel_rfl
theorem R_sorta21 (w : World) (x : Vars) (r : Bool) : (S_sorta w x r 2 1).Holds (VV w) :=
  sF (F := FS w fun args => ⟨1000, fun as os _ => some ⟨_, R_hSo1 w (varsOf args as os x.u)⟩⟩) (vok _) 20000 ⟨cp q22 0 17 (ap [3] (cp q23 18 43 (cp q23 38 13 (ap [4] (cp q23 52 250 (cp q23 213 17 (ap [60,60,60,1,60,61,61,61,61,61,60,61,61,61,61,61,61,60,61,61,61,61,61,61,60,61,61,63] (cp q23 258 44 (ap [65,0,21,0,1,2,2,5,6,0,20,20,20,20,20,66,66,66,66,66,0,20,20,0,20,20,20,1,1,0,22,20] (cp q22 219 19 (ap [67,29,30,0,0,7] (cp q22 244 11 (ap [70,70,70,70,70,70,1,70,70,70,70,71,71,71,71,71,71,71,71,71,71,71,0,73,73] (cp q23 264 16 (ap [73] (cp q23 282 9 (ap [72,72,72,72,71,71,71,71,71,71,71,71,71,0,73,73] (cp q23 264 16 (ap [73] (cp q23 282 9 (ap [72,72,72,72,71,71,71,71,71,75,0,20,20,73,73,73,20,1,0,0,20,68,76,68,1,68,68,76] (cp q22 290 13 (ap [72,77,72,1,72,72,77,2,0] ([])))))))))))))))))))))))), [68,49], [67,74,75,76,42,43,44,777,44,777,45,777,46,777,47,777,48,47,48]⟩ fun m t => by kernel_rfl
theorem R_sorta22 (w : World) (x : Vars) (r : Bool) : (S_sorta w x r 2 2).Holds (VV w) :=
  sF (F := FS w fun args => ⟨1000, fun as os _ => some ⟨_, R_hSo2 w (varsOf args as os x.u)⟩⟩) (vok _) 20000 ⟨cp q22 0 17 (ap [3] (cp q23 18 43 (cp q23 38 13 (ap [4] (cp q23 52 250 (cp q23 213 17 (ap [60,60,60,1,60,61,61,61,61,61,60,61,61,61,61,61,61,60,61,61,61,61,61,61,60,61,61,63] (cp q23 258 44 (ap [65,0,21,0,1,2,3,5,6,0,20,20,20,20,20,66,66,66,66,66,0,20,20,0,20,20,20,1,1,0,22,20,0,24] (cp q22 221 17 (ap [67,29,30,52,53,51,50,0,0,7,8,9,10] (cp q22 244 11 (ap [70,70,70,70,70,70,1,70,70,70,70,71,71,71,71,71,71,71,71,71,71,71,0,73,73] (cp q23 264 16 (ap [73] (cp q23 282 9 (ap [72,72,72,72,71,71,71,71,71,71,71,71,71,0,73,73] (cp q23 264 16 (ap [73] (cp q23 282 9 (ap [72,72,72,72,71,71,71,71,71,75,0,20,20,73,73,73,20,1,0,0,20,68,76,68,1,68,68,76,0,0,20,20,1,0,0,0,0,20,25,0,0,77,77,77,77,78,78,78,78,78,77,72,79,72,1,72,72,79,2,0] ([])))))))))))))))))))))), [68,49], [67,74,75,76,42,43,44,777,44,777,45,777,46,777,47,777,48,47,48]⟩ fun m t => by kernel_rfl
theorem R_sorta23 (w : World) (x : Vars) (r : Bool) : (S_sorta w x r 2 3).Holds (VV w) :=
  sF (F := FS w fun args => ⟨1000, fun as os _ => some ⟨_, R_hSe3 w (varsOf args as os x.u) r⟩⟩) (vok _) 20000 ⟨cp q22 0 17 (ap [3] (cp q23 18 43 (cp q23 38 13 (ap [4] (cp q23 52 250 (cp q23 213 17 (ap [60,60,60,1,60,61,61,61,61,61,60,61,61,61,61,61,61,60,61,61,61,61,61,61,60,61,61,63] (cp q23 258 44 (ap [65,0,21,0,1,2,4,5,6,0,20,20,20,20,20,66,66,66,66,66,0,20,20,0,20,20,20,1,1,0,22,20,0,21,22,21] (cp q22 224 9 (ap [4,5,16,17,18,19,67,29,20,6,0,7] (cp q22 244 11 (ap [69,69,69,69,69,69,1,69,69,69,69,70,70,70,70,70,70,70,70,70,70,70,0,72,72] (cp q23 264 16 (ap [72] (cp q23 282 9 (ap [71,71,71,71,70,70,70,70,70,70,70,70,70,0,72,72] (cp q23 264 16 (ap [72] (cp q23 282 9 (ap [71,71,71,71,70,70,70,70,70,74,0,20,20,72,72,72,20,1,1,0,20,75,75,75,75,75,0,20,20,20,0,20] (cp q8 1035 13 (ap [0,76,1,76,76,1,20,20,71,25,71,1,71,71,25,2,0] ([])))))))))))))))))))))))), [67,49], [67,75,76,77,42,43,44,777,44,777,45,777,46,777,47,777,48,47,48]⟩ fun m t => by kernel_rfl
theorem R_sorta24 (w : World) (x : Vars) (r : Bool) : (S_sorta w x r 2 4).Holds (VV w) :=
  sF (F := FS w fun args => ⟨1000, fun as os _ => some ⟨_, R_hSe4 w (varsOf args as os x.u) r⟩⟩) (vok _) 20000 ⟨cp q22 0 17 (ap [3] (cp q23 18 43 (cp q23 38 13 (ap [4] (cp q23 52 250 (cp q23 213 17 (ap [60,60,60,1,60,61,61,61,61,61,60,61,61,61,61,61,61,60,61,61,61,61,61,61,60,61,61,63] (cp q23 258 44 (ap [65,0,21,0,1,2,5,5,6,0,20,20,20,20,20,66,66,66,66,66,0,20,20,0,20,20,20,1,1,0,22,20,0,21,22,21] (cp q22 224 9 (ap [4,5,16,17,18,19,67,29,20,6,0,7] (cp q22 244 11 (ap [69,69,69,69,69,69,1,69,69,69,69,70,70,70,70,70,70,70,70,70,70,70,0,72,72] (cp q23 264 16 (ap [72] (cp q23 282 9 (ap [71,71,71,71,70,70,70,70,70,70,70,70,70,0,72,72] (cp q23 264 16 (ap [72] (cp q23 282 9 (ap [71,71,71,71,70,70,70,70,70,74,0,20,20,72,72,72,20,1,1,0,20,75,75,75,75,75,0,20,20,20,0,20] (cp q8 1035 13 (ap [0,76,1,76,76,1,20,20,71,25,71,1,71,71,25,2,0] ([])))))))))))))))))))))))), [67,49], [67,75,76,77,42,43,44,777,44,777,45,777,46,777,47,777,48,47,48]⟩ fun m t => by kernel_rfl
theorem R_sorta25 (w : World) (x : Vars) (r : Bool) : (S_sorta w x r 2 5).Holds (VV w) :=
  sF (F := FS w fun args => ⟨1000, fun as os _ => some ⟨_, R_hSe5 w (varsOf args as os x.u) r⟩⟩) (vok _) 20000 ⟨cp q22 0 17 (ap [3] (cp q23 18 43 (cp q23 38 13 (ap [4] (cp q23 52 250 (cp q23 213 17 (ap [60,60,60,1,60,61,61,61,61,61,60,61,61,61,61,61,61,60,61,61,61,61,61,61,60,61,61,63] (cp q23 258 44 (ap [65,0,21,0,1,2,6,5,6,0,20,20,20,20,20,66,66,66,66,66,0,20,20,0,20,20,20,1,1,0,22,20,0,21,22,21] (cp q22 224 9 (ap [4,5,16,17,18,19,67,29,20,6,0,7] (cp q22 244 11 (ap [69,69,69,69,69,69,1,69,69,69,69,70,70,70,70,70,70,70,70,70,70,70,0,72,72] (cp q23 264 16 (ap [72] (cp q23 282 9 (ap [71,71,71,71,70,70,70,70,70,70,70,70,70,0,72,72] (cp q23 264 16 (ap [72] (cp q23 282 9 (ap [71,71,71,71,70,70,70,70,70,74,0,20,20,72,72,72,20,1,1,0,20,75,75,75,75,75,0,20,20,20,0,20] (cp q8 1035 13 (ap [0,76,1,76,76,1,20,20,71,25,71,1,71,71,25,2,0] ([])))))))))))))))))))))))), [67,49], [67,75,76,77,42,43,44,777,44,777,45,777,46,777,47,777,48,47,48]⟩ fun m t => by kernel_rfl
theorem R_sorta26 (w : World) (x : Vars) (r : Bool) : (S_sorta w x r 2 6).Holds (VV w) :=
  sF (F := FS w fun args => ⟨1000, fun as os _ => some ⟨_, R_hSe6 w (varsOf args as os x.u) r⟩⟩) (vok _) 20000 ⟨cp q22 0 17 (ap [3] (cp q23 18 43 (cp q23 38 13 (ap [4] (cp q23 52 250 (cp q23 213 17 (ap [60,60,60,1,60,61,61,61,61,61,60,61,61,61,61,61,61,60,61,61,61,61,61,61,60,61,61,63] (cp q23 258 44 (ap [65,0,21,0,1,2,7,5,6,0,20,20,20,20,20,66,66,66,66,66,0,20,20,0,20,20,20,1,1,0,22,20,0,22,22,21] (cp q22 224 9 (ap [4,5,16,17,18,19,67,29,33,20,6,0,7] (cp q22 244 11 (ap [69,69,69,69,69,69,1,69,69,69,69,70,70,70,70,70,70,70,70,70,70,70,0,72,72] (cp q23 264 16 (ap [72] (cp q23 282 9 (ap [71,71,71,71,70,70,70,70,70,70,70,70,70,0,72,72] (cp q23 264 16 (ap [72] (cp q23 282 9 (ap [71,71,71,71,70,70,70,70,70,74,0,20,20,72,72,72,20,1,1,0,20,75,75,75,75,75,0,20,20,20,0,20] (cp q8 1035 13 (ap [0,76,1,76,76,1,20,20,71,25,71,1,71,71,25,2,0] ([])))))))))))))))))))))))), [67,49], [67,75,76,77,42,43,44,777,44,777,45,777,46,777,47,777,48,47,48]⟩ fun m t => by kernel_rfl
theorem R_sorta30 (w : World) (x : Vars) (r : Bool) : (S_sorta w x r 3 0).Holds (VV w) :=
  sF (F := FS w fun args => ⟨1000, fun as os _ => some ⟨_, R_hSo0 w (varsOf args as os x.u)⟩⟩) (vok _) 20000 ⟨cp q22 0 17 (ap [4] (cp q23 18 43 (cp q23 38 13 (ap [4] (cp q23 52 9 (cp q23 38 13 (ap [5] (cp q23 52 250 (cp q23 213 17 (ap [60,60,60,1,60,61,61,61,61,61,60,61,61,61,61,61,61,60,61,61,61,61,61,61,60,61,61,63] (cp q23 258 44 (cp q23 213 17 (cp q8 609 28 (cp q23 258 44 (ap [69,0,21,0,1,2,1,6,7,0,20,20,20,20,20,70,70,70,70,70] (cp q22 208 30 (ap [71,29,30,0,0,8] (cp q22 244 11 (ap [74,74,74,74,74,74,1,74,74,74,74,75,75,75,75,75,75,75,75,75,75,75,0,77,77] (cp q23 264 16 (ap [77] (cp q23 282 9 (ap [76,76,76,76,75,75,75,75,75,75,75,75,75,0,77,77] (cp q23 264 16 (ap [77] (cp q23 282 9 (ap [76,76,76,76,75,75,75,75,75,75,75,75,75,0,77,77] (cp q23 264 16 (ap [77] (cp q23 282 9 (ap [76,76,76,76,75,75,75,75,75,79,0,20,20,77,77,77,20,1,0,0,20,72,80,72,1,72,72,80] (cp q22 290 13 (ap [76,81,76,1,76,76,81,2,0] ([])))))))))))))))))))))))))))))))))), [72,49], [77,84,85,86,47,48,49,777,44,777,45,777,46,777,47,777,48,52,53]⟩ fun m t => by kernel_rfl
theorem R_sorta31 (w : World) (x : Vars) (r : Bool) : (S_sorta w x r 3 1).Holds (VV w) :=
  sF (F := FS w fun args => ⟨1000, fun as os _ => some ⟨_, R_hSo1 w (varsOf args as os x.u)⟩⟩) (vok _) 20000 ⟨cp q22 0 17 (ap [4] (cp q23 18 43 (cp q23 38 13 (ap [4] (cp q23 52 9 (cp q23 38 13 (ap [5] (cp q23 52 250 (cp q23 213 17 (ap [60,60,60,1,60,61,61,61,61,61,60,61,61,61,61,61,61,60,61,61,61,61,61,61,60,61,61,63] (cp q23 258 44 (cp q23 213 17 (cp q8 609 28 (cp q23 258 44 (ap [69,0,21,0,1,2,2,6,7,0,20,20,20,20,20,70,70,70,70,70,0,20,20,0,20,20,20,1,1,0,22,20] (cp q22 219 19 (ap [71,29,30,0,0,8] (cp q22 244 11 (ap [74,74,74,74,74,74,1,74,74,74,74,75,75,75,75,75,75,75,75,75,75,75,0,77,77] (cp q23 264 16 (ap [77] (cp q23 282 9 (ap [76,76,76,76,75,75,75,75,75,75,75,75,75,0,77,77] (cp q23 264 16 (ap [77] (cp q23 282 9 (ap [76,76,76,76,75,75,75,75,75,75,75,75,75,0,77,77] (cp q23 264 16 (ap [77] (cp q23 282 9 (ap [76,76,76,76,75,75,75,75,75,79,0,20,20,77,77,77,20,1,0,0,20,72,80,72,1,72,72,80] (cp q22 290 13 (ap [76,81,76,1,76,76,81,2,0] ([])))))))))))))))))))))))))))))))))), [72,49], [77,84,85,86,47,48,49,777,44,777,45,777,46,777,47,777,48,52,53]⟩ fun m t => by kernel_rfl
theorem R_sorta32 (w : World) (x : Vars) (r : Bool) : (S_sorta w x r 3 2).Holds (VV w) :=
  sF (F := FS w fun args => ⟨1000, fun as os _ => some ⟨_, R_hSo2 w (varsOf args as os x.u)⟩⟩) (vok _) 20000 ⟨cp q22 0 17 (ap [4] (cp q23 18 43 (cp q23 38 13 (ap [4] (cp q23 52 9 (cp q23 38 13 (ap [5] (cp q23 52 250 (cp q23 213 17 (ap [60,60,60,1,60,61,61,61,61,61,60,61,61,61,61,61,61,60,61,61,61,61,61,61,60,61,61,63] (cp q23 258 44 (cp q23 213 17 (cp q8 609 28 (cp q23 258 44 (ap [69,0,21,0,1,2,3,6,7,0,20,20,20,20,20,70,70,70,70,70,0,20,20,0,20,20,20,1,1,0,22,20,0,24] (cp q22 221 17 (ap [71,29,30,52,53,51,50,0,0,8,9,10,11] (cp q22 244 11 (ap [74,74,74,74,74,74,1,74,74,74,74,75,75,75,75,75,75,75,75,75,75,75,0,77,77] (cp q23 264 16 (ap [77] (cp q23 282 9 (ap [76,76,76,76,75,75,75,75,75,75,75,75,75,0,77,77] (cp q23 264 16 (ap [77] (cp q23 282 9 (ap [76,76,76,76,75,75,75,75,75,75,75,75,75,0,77,77] (cp q23 264 16 (ap [77] (cp q23 282 9 (ap [76,76,76,76,75,75,75,75,75,79,0,20,20,77,77,77,20,1,0,0,20,72,80,72,1,72,72,80,0,0,20,20,1,0,0,0,0,20,25,0,0,81,81,81,81,82,82,82,82,82,81,76,83,76,1,76,76,83,2,0] ([])))))))))))))))))))))))))))))))), [72,49], [77,84,85,86,47,48,49,777,44,777,45,777,46,777,47,777,48,52,53]⟩ fun m t => by kernel_rfl
theorem R_sorta33 (w : World) (x : Vars) (r : Bool) : (S_sorta w x r 3 3).Holds (VV w) :=
  sF (F := FS w fun args => ⟨1000, fun as os _ => some ⟨_, R_hSe3 w (varsOf args as os x.u) r⟩⟩) (vok _) 20000 ⟨cp q22 0 17 (ap [4] (cp q23 18 43 (cp q23 38 13 (ap [4] (cp q23 52 9 (cp q23 38 13 (ap [5] (cp q23 52 250 (cp q23 213 17 (ap [60,60,60,1,60,61,61,61,61,61,60,61,61,61,61,61,61,60,61,61,61,61,61,61,60,61,61,63] (cp q23 258 44 (cp q23 213 17 (cp q8 609 28 (cp q23 258 44 (ap [69,0,21,0,1,2,4,6,7,0,20,20,20,20,20,70,70,70,70,70,0,20,20,0,20,20,20,1,1,0,22,20,0,21,22,21] (cp q22 224 9 (ap [4,5,16,17,18,19,71,29,20,6,0,8] (cp q22 244 11 (ap [73,73,73,73,73,73,1,73,73,73,73,74,74,74,74,74,74,74,74,74,74,74,0,76,76] (cp q23 264 16 (ap [76] (cp q23 282 9 (ap [75,75,75,75,74,74,74,74,74,74,74,74,74,0,76,76] (cp q23 264 16 (ap [76] (cp q23 282 9 (ap [75,75,75,75,74,74,74,74,74,74,74,74,74,0,76,76] (cp q23 264 16 (ap [76] (cp q23 282 9 (ap [75,75,75,75,74,74,74,74,74,78,0,20,20,76,76,76,20,1,1,0,20,79,79,79,79,79,0,20,20,20,0,20] (cp q10 1107 12 (ap [0,0,80,1,80,80,1,20,20,75,25,75,1,75,75,25,2,0] ([])))))))))))))))))))))))))))))))))), [71,49], [77,85,86,87,47,48,49,777,44,777,45,777,46,777,47,777,48,52,53]⟩ fun m t => by kernel_rfl
theorem R_sorta34 (w : World) (x : Vars) (r : Bool) : (S_sorta w x r 3 4).Holds (VV w) :=
  sF (F := FS w fun args => ⟨1000, fun as os _ => some ⟨_, R_hSe4 w (varsOf args as os x.u) r⟩⟩) (vok _) 20000 ⟨cp q22 0 17 (ap [4] (cp q23 18 43 (cp q23 38 13 (ap [4] (cp q23 52 9 (cp q23 38 13 (ap [5] (cp q23 52 250 (cp q23 213 17 (ap [60,60,60,1,60,61,61,61,61,61,60,61,61,61,61,61,61,60,61,61,61,61,61,61,60,61,61,63] (cp q23 258 44 (cp q23 213 17 (cp q8 609 28 (cp q23 258 44 (ap [69,0,21,0,1,2,5,6,7,0,20,20,20,20,20,70,70,70,70,70,0,20,20,0,20,20,20,1,1,0,22,20,0,21,22,21] (cp q22 224 9 (ap [4,5,16,17,18,19,71,29,20,6,0,8] (cp q22 244 11 (ap [73,73,73,73,73,73,1,73,73,73,73,74,74,74,74,74,74,74,74,74,74,74,0,76,76] (cp q23 264 16 (ap [76] (cp q23 282 9 (ap [75,75,75,75,74,74,74,74,74,74,74,74,74,0,76,76] (cp q23 264 16 (ap [76] (cp q23 282 9 (ap [75,75,75,75,74,74,74,74,74,74,74,74,74,0,76,76] (cp q23 264 16 (ap [76] (cp q23 282 9 (ap [75,75,75,75,74,74,74,74,74,78,0,20,20,76,76,76,20,1,1,0,20,79,79,79,79,79,0,20,20,20,0,20] (cp q10 1107 12 (ap [0,0,80,1,80,80,1,20,20,75,25,75,1,75,75,25,2,0] ([])))))))))))))))))))))))))))))))))), [71,49], [77,85,86,87,47,48,49,777,44,777,45,777,46,777,47,777,48,52,53]⟩ fun m t => by kernel_rfl
theorem R_sorta35 (w : World) (x : Vars) (r : Bool) : (S_sorta w x r 3 5).Holds (VV w) :=
  sF (F := FS w fun args => ⟨1000, fun as os _ => some ⟨_, R_hSe5 w (varsOf args as os x.u) r⟩⟩) (vok _) 20000 ⟨cp q22 0 17 (ap [4] (cp q23 18 43 (cp q23 38 13 (ap [4] (cp q23 52 9 (cp q23 38 13 (ap [5] (cp q23 52 250 (cp q23 213 17 (ap [60,60,60,1,60,61,61,61,61,61,60,61,61,61,61,61,61,60,61,61,61,61,61,61,60,61,61,63] (cp q23 258 44 (cp q23 213 17 (cp q8 609 28 (cp q23 258 44 (ap [69,0,21,0,1,2,6,6,7,0,20,20,20,20,20,70,70,70,70,70,0,20,20,0,20,20,20,1,1,0,22,20,0,21,22,21] (cp q22 224 9 (ap [4,5,16,17,18,19,71,29,20,6,0,8] (cp q22 244 11 (ap [73,73,73,73,73,73,1,73,73,73,73,74,74,74,74,74,74,74,74,74,74,74,0,76,76] (cp q23 264 16 (ap [76] (cp q23 282 9 (ap [75,75,75,75,74,74,74,74,74,74,74,74,74,0,76,76] (cp q23 264 16 (ap [76] (cp q23 282 9 (ap [75,75,75,75,74,74,74,74,74,74,74,74,74,0,76,76] (cp q23 264 16 (ap [76] (cp q23 282 9 (ap [75,75,75,75,74,74,74,74,74,78,0,20,20,76,76,76,20,1,1,0,20,79,79,79,79,79,0,20,20,20,0,20] (cp q10 1107 12 (ap [0,0,80,1,80,80,1,20,20,75,25,75,1,75,75,25,2,0] ([])))))))))))))))))))))))))))))))))), [71,49], [77,85,86,87,47,48,49,777,44,777,45,777,46,777,47,777,48,52,53]⟩ fun m t => by kernel_rfl
theorem R_sorta36 (w : World) (x : Vars) (r : Bool) : (S_sorta w x r 3 6).Holds (VV w) :=
  sF (F := FS w fun args => ⟨1000, fun as os _ => some ⟨_, R_hSe6 w (varsOf args as os x.u) r⟩⟩) (vok _) 20000 ⟨cp q22 0 17 (ap [4] (cp q23 18 43 (cp q23 38 13 (ap [4] (cp q23 52 9 (cp q23 38 13 (ap [5] (cp q23 52 250 (cp q23 213 17 (ap [60,60,60,1,60,61,61,61,61,61,60,61,61,61,61,61,61,60,61,61,61,61,61,61,60,61,61,63] (cp q23 258 44 (cp q23 213 17 (cp q8 609 28 (cp q23 258 44 (ap [69,0,21,0,1,2,7,6,7,0,20,20,20,20,20,70,70,70,70,70,0,20,20,0,20,20,20,1,1,0,22,20,0,22,22,21] (cp q22 224 9 (ap [4,5,16,17,18,19,71,29,33,20,6,0,8] (cp q22 244 11 (ap [73,73,73,73,73,73,1,73,73,73,73,74,74,74,74,74,74,74,74,74,74,74,0,76,76] (cp q23 264 16 (ap [76] (cp q23 282 9 (ap [75,75,75,75,74,74,74,74,74,74,74,74,74,0,76,76] (cp q23 264 16 (ap [76] (cp q23 282 9 (ap [75,75,75,75,74,74,74,74,74,74,74,74,74,0,76,76] (cp q23 264 16 (ap [76] (cp q23 282 9 (ap [75,75,75,75,74,74,74,74,74,78,0,20,20,76,76,76,20,1,1,0,20,79,79,79,79,79,0,20,20,20,0,20] (cp q10 1107 12 (ap [0,0,80,1,80,80,1,20,20,75,25,75,1,75,75,25,2,0] ([])))))))))))))))))))))))))))))))))), [71,49], [77,85,86,87,47,48,49,777,44,777,45,777,46,777,47,777,48,52,53]⟩ fun m t => by kernel_rfl
end Mine
end

section
open PySem PySem.W PySem.W.X PyProof.Rows
set_option maxRecDepth 1000000
set_option maxHeartbeats 0
namespace Mine
open PySem.W.ZFast (hashOfZ)
noncomputable def S_sortb (w : World) (x : Vars) (r : Bool) (n f : Nat) : Spec := { code := .call (.ref 816) ⟨[(vA x 0),(vA x 2),(vA x 8)],[]⟩,dep := 400,need := sortNd (x.Q 1) (x.I 0 1) n f ++ [!ltB 1000000000 ((x.I 3 3) + 1),!ltB 1000000000 (((x.I 3 3) + 1) + 1),!ltB 1000000000 ((((x.I 3 3) + 1) + 1) + 1),!ltB 1000000000 (((((x.I 3 3) + 1) + 1) + 1) + 1)],bel := some ([envF (o830 w.params) 830 (aA x 5) s2 []],x.u),pre := [(aA x 0,{ cls := tyL,data := (.seq #[(vA x 1),(.int (x.I 0 1) (x.V 0 1))] (x.N 0)) }),(aA x 1,{ cls := tyL,data := (.seq (x.Q 1) (x.N 1)) }),(aA x 2,(iX 451 (aA x 3))),(aA x 3,{ cls := tyD,data := (.dict #[eX x 3 0 s7 (vA x 17),eX x 3 1 s8 (vB x b33 3 1),eX x 3 2 s9 (vR x 3 2),eX x 3 3 s10 (.int (x.I 3 3) (x.V 3 3)),eX x 3 4 s11 (vI x (0) 3 4),eX x 3 5 s12 (vA x 4),eX x 3 6 s13 (.int (x.I 3 6) (x.V 3 6)),eX x 3 7 s14 (vR x 3 7)] (x.N 3)) }),(aA x 4,{ cls := tyL,data := (.seq (x.Q 4) (x.N 4)) }),(aA x 5,lfO r x.u (x.E 5) (x.N 5)),(aA x 6,{ cls := (.type "code"),data := (.fields #[(.str s26 (x.V 6 0)),(.str s36 (x.V 6 1)),(.str s30 (x.V 6 2)),(.int (631) 0),(.int (2) 0),(.int (0) 0),(.int (0) 0),(.int (19) 0),(x.Z 6 8),(.bool true),(.int (181) 0),(x.Z 6 11),.none,(x.Z 6 13),(x.Z 6 14),(x.Z 6 15),(.int (x.I 6 16) 0),(.int (631) 0),(.str s30 (x.V 6 18))]) }),(813,{ cls := .none,data := (.fields #[(.int (631) 0),(.int (37) 0),(vA x 6)]) }),(aA x 8,(iX 234 (aA x 9))),(aA x 9,(oTX x 9 (vI x (-1) 9 0) (vA x 10) (vA x 11) .none)),(aA x 10,{ cls := tyL,data := (.seq #[(vB x b4 10 0),(vB x b5 10 1),(vB x b6 10 2),(vB x b7 10 3),(vB x b8 10 4),(vB x b9 10 5),(vB x b10 10 6),(vB x b11 10 7),(vB x b12 10 8),(vB x b13 10 9),(vB x b14 10 10),(vB x b15 10 11),(vB x b16 10 12),(vB x b17 10 13),(vB x b18 10 14),(vB x b19 10 15),(vB x b20 10 16),(vB x b21 10 17),(vB x b22 10 18),(vB x b23 10 19),(vB x b24 10 20),(vB x b25 10 21)] (x.N 10)) }),(aA x 11,{ cls := tyL,data := (.seq #[(vR x 11 0),(vR x 11 1),(vR x 11 2),(vR x 11 3),(vR x 11 4),(vR x 11 5),(vR x 11 6),(vR x 11 7),(vR x 11 8),(vR x 11 9),(vR x 11 10),(vR x 11 11),(vR x 11 12),(vR x 11 13),(vR x 11 14),(vR x 11 15),(vR x 11 16),(vA x 12),(vR x 11 18),(vR x 11 19),(vA x 8),(vB x b26 11 21)] (x.N 11)) }),(aA x 12,(iX 234 (aA x 13))),(aA x 13,(oTX x 13 (vI x (-30) 13 0) (vA x 14) (vA x 15) .none)),(aA x 14,{ cls := tyL,data := (.seq #[(vB x b27 14 0),(vB x b28 14 1),(vB x b29 14 2),(vB x b30 14 3),(vB x b31 14 4),(vB x b32 14 5)] (x.N 14)) }),(aA x 15,{ cls := tyL,data := (.seq #[(vR x 15 0),(vR x 15 1),(vR x 15 2),(vR x 15 3),(vR x 15 4),(vA x 16)] (x.N 15)) }),(aA x 16,(iX 255 (aA x 19))),(aA x 17,(iX 53 (aA x 18))),(aA x 18,(oLX x 18)),(aA x 19,{ cls := tyD,data := (.dict #[eX x 19 0 s3 (vI x (-35) 19 0),eX x 19 1 s23 (vB x b32 19 1),eX x 19 2 s24 (.ref 684)] (x.N 19)) })],touch := [0,3,5],na := 1,nt := 4,res := fun as ts => .ok (.ret (.bool true)),postT := fun as ts => [some ({ cls := tyL,data := (.seq #[(vA x 1),(.int (plusN (2 + n) (x.I 0 1)) (nth ts 0))] (x.N 0)) }),some ({ cls := tyD,data := (.dict #[eX x 3 0 s7 (vA x 17),eX x 3 1 s8 (vB x b33 3 1),eX x 3 2 s9 (vR x 3 2),eX x 3 3 s10 (.int (stS f (x.Q 1) (x.I 0 1) n (x.I 3 3)) (nth ts 1)),eX x 3 4 s11 (vI x (0) 3 4),eX x 3 5 s12 (.ref (nth as 0)),eX x 3 6 s13 (.int (dpS f) (nth ts 2)),eX x 3 7 s14 (vR x 3 7)] (x.N 3)) }),some (lfO (orB (errS f) r) x.u (x.E 5) (x.N 5))],postN := fun as ts => [{ cls := tyL,data := (.seq (frA (errS f) (nth ts 3)) (epS f (x.Q 1) (x.I 0 1) n)) }],rawP := [1,4,5,6],rawQ := [2,3] }
theorem R_sortb00 (w : World) (x : Vars) (r : Bool) : (S_sortb w x r 0 0).Holds (VV w) :=
  sF (F := FS w fun args => ⟨1000, fun as os _ => some ⟨_, R_hSo0 w (varsOf args as os x.u)⟩⟩) (vok _) 20000 ⟨q24, [55], [40,47,48,49]⟩ fun m t => by kernel_rfl
theorem R_sortb01 (w : World) (x : Vars) (r : Bool) : (S_sortb w x r 0 1).Holds (VV w) :=
  sF (F := FS w fun args => ⟨1000, fun as os _ => some ⟨_, R_hSo1 w (varsOf args as os x.u)⟩⟩) (vok _) 20000 ⟨cp q24 0 191 (ap [2] (cp q24 192 21 (ap [1,0,23,21] (cp q24 216 93 ([]))))), [55], [40,47,48,49]⟩ fun m t => by kernel_rfl
theorem R_sortb02 (w : World) (x : Vars) (r : Bool) : (S_sortb w x r 0 2).Holds (VV w) :=
  sF (F := FS w fun args => ⟨1000, fun as os _ => some ⟨_, R_hSo2 w (varsOf args as os x.u)⟩⟩) (vok _) 20000 ⟨cp q24 0 191 (ap [3] (cp q24 192 21 (ap [1,0,23,21,0,24] (cp q24 218 20 (ap [47,48,46,7,0,0,5,6,7,8] (cp q24 241 51 (ap [0,0,0,0,21,26,0,0,64,64,64,64,65,65,65,65,65,64,59,66,59,1,59,59,66,0,0] ([])))))))), [55], [40,47,48,49]⟩ fun m t => by kernel_rfl
theorem R_sortb03 (w : World) (x : Vars) (r : Bool) : (S_sortb w x r 0 3).Holds (VV w) :=
  sF (F := FS w fun args => ⟨1000, fun as os _ => some ⟨_, R_hSe3 w (varsOf args as os x.u) r⟩⟩) (vok _) 20000 ⟨cp q24 0 191 (ap [4] (cp q24 192 21 (ap [1,0,23,21,0,21,23,22] (cp q24 221 9 (ap [4,5,17,18,19,20,54,30,21,6] (cp q24 239 13 (ap [56,56,56,56,56,56,1,56,56,56,56,57,57,57,57,57,57,57,61,0,21,21,59,21,1,1,0,21,62,62,62,62,62,0,21,21,21,0,21,0,0,0,0,63,63,0,63,63,0,63,63,0,0,63,1,63,63,1,21,21,58,26,58,1,58,58,26,0,0] ([])))))))), [54], [40,48,49,50]⟩ fun m t => by kernel_rfl
theorem R_sortb04 (w : World) (x : Vars) (r : Bool) : (S_sortb w x r 0 4).Holds (VV w) :=
  sF (F := FS w fun args => ⟨1000, fun as os _ => some ⟨_, R_hSe4 w (varsOf args as os x.u) r⟩⟩) (vok _) 20000 ⟨cp q24 0 191 (ap [5] (cp q24 192 21 (ap [1,0,23,21,0,21,23,22] (cp q24 221 9 (ap [4,5,17,18,19,20,54,30,21,6] (cp q24 239 13 (ap [56,56,56,56,56,56,1,56,56,56,56,57,57,57,57,57,57,57,61,0,21,21,59,21,1,1,0,21,62,62,62,62,62,0,21,21,21,0,21,0,0,0,0,63,63,0,63,63,0,63,63,0,0,63,1,63,63,1,21,21,58,26,58,1,58,58,26,0,0] ([])))))))), [54], [40,48,49,50]⟩ fun m t => by kernel_rfl
theorem R_sortb05 (w : World) (x : Vars) (r : Bool) : (S_sortb w x r 0 5).Holds (VV w) :=
  sF (F := FS w fun args => ⟨1000, fun as os _ => some ⟨_, R_hSe5 w (varsOf args as os x.u) r⟩⟩) (vok _) 20000 ⟨cp q24 0 191 (ap [6] (cp q24 192 21 (ap [1,0,23,21,0,21,23,22] (cp q24 221 9 (ap [4,5,17,18,19,20,54,30,21,6] (cp q24 239 13 (ap [56,56,56,56,56,56,1,56,56,56,56,57,57,57,57,57,57,57,61,0,21,21,59,21,1,1,0,21,62,62,62,62,62,0,21,21,21,0,21,0,0,0,0,63,63,0,63,63,0,63,63,0,0,63,1,63,63,1,21,21,58,26,58,1,58,58,26,0,0] ([])))))))), [54], [40,48,49,50]⟩ fun m t => by kernel_rfl
theorem R_sortb06 (w : World) (x : Vars) (r : Bool) : (S_sortb w x r 0 6).Holds (VV w) :=
  sF (F := FS w fun args => ⟨1000, fun as os _ => some ⟨_, R_hSe6 w (varsOf args as os x.u) r⟩⟩) (vok _) 20000 ⟨cp q24 0 191 (ap [7] (cp q24 192 21 (ap [1,0,23,21,0,22,23,22] (cp q24 221 9 (ap [4,5,17,18,19,20,54,30,34,21,6] (cp q24 239 13 (ap [56,56,56,56,56,56,1,56,56,56,56,57,57,57,57,57,57,57,61,0,21,21,59,21,1,1,0,21,62,62,62,62,62,0,21,21,21,0,21,0,0,0,0,63,63,0,63,63,0,63,63,0,0,63,1,63,63,1,21,21,58,26,58,1,58,58,26,0,0] ([])))))))), [54], [40,48,49,50]⟩ fun m t => by kernel_rfl
theorem R_sortb10 (w : World) (x : Vars) (r : Bool) : (S_sortb w x r 1 0).Holds (VV w) :=
  sF (F := FS w fun args => ⟨1000, fun as os _ => some ⟨_, R_hSo0 w (varsOf args as os x.u)⟩⟩) (vok _) 20000 ⟨q25, [59], [50,57,58,59]⟩ fun m t => by kernel_rfl
theorem R_sortb11 (w : World) (x : Vars) (r : Bool) : (S_sortb w x r 1 1).Holds (VV w) :=
  sF (F := FS w fun args => ⟨1000, fun as os _ => some ⟨_, R_hSo1 w (varsOf args as os x.u)⟩⟩) (vok _) 20000 ⟨cp q25 0 305 (ap [2] (cp q25 306 21 (ap [1,0,23,21] (cp q25 330 137 ([]))))), [59], [50,57,58,59]⟩ fun m t => by kernel_rfl
theorem R_sortb12 (w : World) (x : Vars) (r : Bool) : (S_sortb w x r 1 2).Holds (VV w) :=
  sF (F := FS w fun args => ⟨1000, fun as os _ => some ⟨_, R_hSo2 w (varsOf args as os x.u)⟩⟩) (vok _) 20000 ⟨cp q25 0 305 (ap [3] (cp q25 306 21 (ap [1,0,23,21,0,24] (cp q25 332 20 (ap [47,48,46,7,0,0,6,7,8,9] (cp q25 355 95 (ap [0,0,0,0,21,26,0,0,68,68,68,68,69,69,69,69,69,68,63,70,63,1,63,63,70,2,0] ([])))))))), [59], [50,57,58,59]⟩ fun m t => by kernel_rfl
theorem R_sortb13 (w : World) (x : Vars) (r : Bool) : (S_sortb w x r 1 3).Holds (VV w) :=
  sF (F := FS w fun args => ⟨1000, fun as os _ => some ⟨_, R_hSe3 w (varsOf args as os x.u) r⟩⟩) (vok _) 20000 ⟨cp q25 0 305 (ap [4] (cp q25 306 21 (ap [1,0,23,21,0,21,23,22] (cp q24 221 9 (ap [4,5,17,18,19,20,58,30,21,6] (cp q25 353 13 (ap [60,60,60,60,60,60,1,60,60,60,60,61,61,61,61,61,61,61,61,61,61,61,0,63,63] (cp q25 261 16 (ap [63] (cp q25 279 9 (ap [62,62,62,62,61,61,61,61,61,65,0,21,21,63,63,63,21,1,1,0,21,66,66,66,66,66,0,21,21,21,0,21,0,0,0,0,67,67,0,67,67,0,67,67,0,0,67,1,67,67,1,21,21,62,26,62,1,62,62,26,2,0] ([])))))))))))), [58], [50,58,59,60]⟩ fun m t => by kernel_rfl
theorem R_sortb14 (w : World) (x : Vars) (r : Bool) : (S_sortb w x r 1 4).Holds (VV w) :=
  sF (F := FS w fun args => ⟨1000, fun as os _ => some ⟨_, R_hSe4 w (varsOf args as os x.u) r⟩⟩) (vok _) 20000 ⟨cp q25 0 305 (ap [5] (cp q25 306 21 (ap [1,0,23,21,0,21,23,22] (cp q24 221 9 (ap [4,5,17,18,19,20,58,30,21,6] (cp q25 353 13 (ap [60,60,60,60,60,60,1,60,60,60,60,61,61,61,61,61,61,61,61,61,61,61,0,63,63] (cp q25 261 16 (ap [63] (cp q25 279 9 (ap [62,62,62,62,61,61,61,61,61,65,0,21,21,63,63,63,21,1,1,0,21,66,66,66,66,66,0,21,21,21,0,21,0,0,0,0,67,67,0,67,67,0,67,67,0,0,67,1,67,67,1,21,21,62,26,62,1,62,62,26,2,0] ([])))))))))))), [58], [50,58,59,60]⟩ fun m t => by kernel_rfl
theorem R_sortb15 (w : World) (x : Vars) (r : Bool) : (S_sortb w x r 1 5).Holds (VV w) :=
  sF (F := FS w fun args => ⟨1000, fun as os _ => some ⟨_, R_hSe5 w (varsOf args as os x.u) r⟩⟩) (vok _) 20000 ⟨cp q25 0 305 (ap [6] (cp q25 306 21 (ap [1,0,23,21,0,21,23,22] (cp q24 221 9 (ap [4,5,17,18,19,20,58,30,21,6] (cp q25 353 13 (ap [60,60,60,60,60,60,1,60,60,60,60,61,61,61,61,61,61,61,61,61,61,61,0,63,63] (cp q25 261 16 (ap [63] (cp q25 279 9 (ap [62,62,62,62,61,61,61,61,61,65,0,21,21,63,63,63,21,1,1,0,21,66,66,66,66,66,0,21,21,21,0,21,0,0,0,0,67,67,0,67,67,0,67,67,0,0,67,1,67,67,1,21,21,62,26,62,1,62,62,26,2,0] ([])))))))))))), [58], [50,58,59,60]⟩ fun m t => by kernel_rfl
theorem R_sortb16 (w : World) (x : Vars) (r : Bool) : (S_sortb w x r 1 6).Holds (VV w) :=
  sF (F := FS w fun args => ⟨1000, fun as os _ => some ⟨_, R_hSe6 w (varsOf args as os x.u) r⟩⟩) (vok _) 20000 ⟨cp q25 0 305 (ap [7] (cp q25 306 21 (ap [1,0,23,21,0,22,23,22] (cp q24 221 9 (ap [4,5,17,18,19,20,58,30,34,21,6] (cp q25 353 13 (ap [60,60,60,60,60,60,1,60,60,60,60,61,61,61,61,61,61,61,61,61,61,61,0,63,63] (cp q25 261 16 (ap [63] (cp q25 279 9 (ap [62,62,62,62,61,61,61,61,61,65,0,21,21,63,63,63,21,1,1,0,21,66,66,66,66,66,0,21,21,21,0,21,0,0,0,0,67,67,0,67,67,0,67,67,0,0,67,1,67,67,1,21,21,62,26,62,1,62,62,26,2,0] ([])))))))))))), [58], [50,58,59,60]⟩ fun m t => by kernel_rfl
theorem R_sortb20 (w : World) (x : Vars) (r : Bool) : (S_sortb w x r 2 0).Holds (VV w) :=
  sF (F := FS w fun args => ⟨1000, fun as os _ => some ⟨_, R_hSo0 w (varsOf args as os x.u)⟩⟩) (vok _) 20000 ⟨cp q24 0 17 (ap [3] (cp q25 18 43 (cp q25 38 13 (ap [4] (cp q25 52 247 (cp q25 210 17 (ap [55,55,55,1,55,56] (cp q10 974 9 (ap [56,56,55,56,56,56,56,56,56,55,56,56,58] (cp q25 255 44 (ap [60,0,22,0,1,2,1,5,6,0,21,21,21,21,21,61,61,61,61,61] (cp q24 205 30 (ap [62,30,31,0,0,7] (cp q24 241 11 (ap [65,65,65,65,65,65,1,65,65,65,65,66,66,66,66,66,66,66,66,66,66,66,0,68,68] (cp q25 261 16 (ap [68] (cp q25 279 9 (ap [67,67,67,67,66,66,66,66,66,66,66,66,66,0,68,68] (cp q25 261 16 (ap [68] (cp q25 279 9 (ap [67,67,67,67,66,66,66,66,66,70,0,21,21,68,68,68,21,1,0,0,21,63,71,63,1,63,63,71] (cp q24 287 13 (ap [67,72,67,1,67,67,72,2,0] ([])))))))))))))))))))))))))), [63], [60,67,68,69]⟩ fun m t => by kernel_rfl
theorem R_sortb21 (w : World) (x : Vars) (r : Bool) : (S_sortb w x r 2 1).Holds (VV w) :=
  sF (F := FS w fun args => ⟨1000, fun as os _ => some ⟨_, R_hSo1 w (varsOf args as os x.u)⟩⟩) (vok _) 20000 ⟨cp q24 0 17 (ap [3] (cp q25 18 43 (cp q25 38 13 (ap [4] (cp q25 52 247 (cp q25 210 17 (ap [55,55,55,1,55,56] (cp q10 974 9 (ap [56,56,55,56,56,56,56,56,56,55,56,56,58] (cp q25 255 44 (ap [60,0,22,0,1,2,2,5,6,0,21,21,21,21,21,61,61,61,61,61,0,21,21,0,21,21,21,1,1,0,23,21] (cp q24 216 19 (ap [62,30,31,0,0,7] (cp q24 241 11 (ap [65,65,65,65,65,65,1,65,65,65,65,66,66,66,66,66,66,66,66,66,66,66,0,68,68] (cp q25 261 16 (ap [68] (cp q25 279 9 (ap [67,67,67,67,66,66,66,66,66,66,66,66,66,0,68,68] (cp q25 261 16 (ap [68] (cp q25 279 9 (ap [67,67,67,67,66,66,66,66,66,70,0,21,21,68,68,68,21,1,0,0,21,63,71,63,1,63,63,71] (cp q24 287 13 (ap [67,72,67,1,67,67,72,2,0] ([])))))))))))))))))))))))))), [63], [60,67,68,69]⟩ fun m t => by kernel_rfl
theorem R_sortb22 (w : World) (x : Vars) (r : Bool) : (S_sortb w x r 2 2).Holds (VV w) :=
  sF (F := FS w fun args => ⟨1000, fun as os _ => some ⟨_, R_hSo2 w (varsOf args as os x.u)⟩⟩) (vok _) 20000 ⟨cp q24 0 17 (ap [3] (cp q25 18 43 (cp q25 38 13 (ap [4] (cp q25 52 247 (cp q25 210 17 (ap [55,55,55,1,55,56] (cp q10 974 9 (ap [56,56,55,56,56,56,56,56,56,55,56,56,58] (cp q25 255 44 (ap [60,0,22,0,1,2,3,5,6,0,21,21,21,21,21,61,61,61,61,61,0,21,21,0,21,21,21,1,1,0,23,21,0,24] (cp q24 218 17 (ap [62,30,31,47,48,46,7,0,0,7,8,9,10] (cp q24 241 11 (ap [65,65,65,65,65,65,1,65,65,65,65,66,66,66,66,66,66,66,66,66,66,66,0,68,68] (cp q25 261 16 (ap [68] (cp q25 279 9 (ap [67,67,67,67,66,66,66,66,66,66,66,66,66,0,68,68] (cp q25 261 16 (ap [68] (cp q25 279 9 (ap [67,67,67,67,66,66,66,66,66,70,0,21,21,68,68,68,21,1,0,0,21,63,71,63,1,63,63,71,0,0,21,21,1,0,0,0,0,21,26,0,0,72,72,72,72,73,73,73,73,73,72,67,74,67,1,67,67,74,2,0] ([])))))))))))))))))))))))), [63], [60,67,68,69]⟩ fun m t => by kernel_rfl
theorem R_sortb23 (w : World) (x : Vars) (r : Bool) : (S_sortb w x r 2 3).Holds (VV w) :=
  sF (F := FS w fun args => ⟨1000, fun as os _ => some ⟨_, R_hSe3 w (varsOf args as os x.u) r⟩⟩) (vok _) 20000 ⟨cp q24 0 17 (ap [3] (cp q25 18 43 (cp q25 38 13 (ap [4] (cp q25 52 247 (cp q25 210 17 (ap [55,55,55,1,55,56] (cp q10 974 9 (ap [56,56,55,56,56,56,56,56,56,55,56,56,58] (cp q25 255 44 (ap [60,0,22,0,1,2,4,5,6,0,21,21,21,21,21,61,61,61,61,61,0,21,21,0,21,21,21,1,1,0,23,21,0,21,23,22] (cp q24 221 9 (ap [4,5,17,18,19,20,62,30,21,6,0,7] (cp q24 241 11 (ap [64,64,64,64,64,64,1,64,64,64,64,65,65,65,65,65,65,65,65,65,65,65,0,67,67] (cp q25 261 16 (ap [67] (cp q25 279 9 (ap [66,66,66,66,65,65,65,65,65,65,65,65,65,0,67,67] (cp q25 261 16 (ap [67] (cp q25 279 9 (ap [66,66,66,66,65,65,65,65,65,69,0,21,21,67,67,67,21,1,1,0,21,70,70,70,70,70,0,21,21,21,0,21] (cp q9 788 15 (ap [1,71,71,1,21,21,66,26,66,1,66,66,26,2,0] ([])))))))))))))))))))))))))), [62], [60,68,69,70]⟩ fun m t => by kernel_rfl
theorem R_sortb24 (w : World) (x : Vars) (r : Bool) : (S_sortb w x r 2 4).Holds (VV w) :=
  sF (F := FS w fun args => ⟨1000, fun as os _ => some ⟨_, R_hSe4 w (varsOf args as os x.u) r⟩⟩) (vok _) 20000 ⟨cp q24 0 17 (ap [3] (cp q25 18 43 (cp q25 38 13 (ap [4] (cp q25 52 247 (cp q25 210 17 (ap [55,55,55,1,55,56] (cp q10 974 9 (ap [56,56,55,56,56,56,56,56,56,55,56,56,58] (cp q25 255 44 (ap [60,0,22,0,1,2,5,5,6,0,21,21,21,21,21,61,61,61,61,61,0,21,21,0,21,21,21,1,1,0,23,21,0,21,23,22] (cp q24 221 9 (ap [4,5,17,18,19,20,62,30,21,6,0,7] (cp q24 241 11 (ap [64,64,64,64,64,64,1,64,64,64,64,65,65,65,65,65,65,65,65,65,65,65,0,67,67] (cp q25 261 16 (ap [67] (cp q25 279 9 (ap [66,66,66,66,65,65,65,65,65,65,65,65,65,0,67,67] (cp q25 261 16 (ap [67] (cp q25 279 9 (ap [66,66,66,66,65,65,65,65,65,69,0,21,21,67,67,67,21,1,1,0,21,70,70,70,70,70,0,21,21,21,0,21] (cp q9 788 15 (ap [1,71,71,1,21,21,66,26,66,1,66,66,26,2,0] ([])))))))))))))))))))))))))), [62], [60,68,69,70]⟩ fun m t => by kernel_rfl
theorem R_sortb25 (w : World) (x : Vars) (r : Bool) : (S_sortb w x r 2 5).Holds (VV w) :=
  sF (F := FS w fun args => ⟨1000, fun as os _ => some ⟨_, R_hSe5 w (varsOf args as os x.u) r⟩⟩) (vok _) 20000 ⟨cp q24 0 17 (ap [3] (cp q25 18 43 (cp q25 38 13 (ap [4] (cp q25 52 247 (cp q25 210 17 (ap [55,55,55,1,55,56] (cp q10 974 9 (ap [56,56,55,56,56,56,56,56,56,55,56,56,58] (cp q25 255 44 (ap [60,0,22,0,1,2,6,5,6,0,21,21,21,21,21,61,61,61,61,61,0,21,21,0,21,21,21,1,1,0,23,21,0,21,23,22] (cp q24 221 9 (ap [4,5,17,18,19,20,62,30,21,6,0,7] (cp q24 241 11 (ap [64,64,64,64,64,64,1,64,64,64,64,65,65,65,65,65,65,65,65,65,65,65,0,67,67] (cp q25 261 16 (ap [67] (cp q25 279 9 (ap [66,66,66,66,65,65,65,65,65,65,65,65,65,0,67,67] (cp q25 261 16 (ap [67] (cp q25 279 9 (ap [66,66,66,66,65,65,65,65,65,69,0,21,21,67,67,67,21,1,1,0,21,70,70,70,70,70,0,21,21,21,0,21] (cp q9 788 15 (ap [1,71,71,1,21,21,66,26,66,1,66,66,26,2,0] ([])))))))))))))))))))))))))), [62], [60,68,69,70]⟩ fun m t => by kernel_rfl
theorem R_sortb26 (w : World) (x : Vars) (r : Bool) : (S_sortb w x r 2 6).Holds (VV w) :=
  sF (F := FS w fun args => ⟨1000, fun as os _ => some ⟨_, R_hSe6 w (varsOf args as os x.u) r⟩⟩) (vok _) 20000 ⟨cp q24 0 17 (ap [3] (cp q25 18 43 (cp q25 38 13 (ap [4] (cp q25 52 247 (cp q25 210 17 (ap [55,55,55,1,55,56] (cp q10 974 9 (ap [56,56,55,56,56,56,56,56,56,55,56,56,58] (cp q25 255 44 (ap [60,0,22,0,1,2,7,5,6,0,21,21,21,21,21,61,61,61,61,61,0,21,21,0,21,21,21,1,1,0,23,21,0,22,23,22] (cp q24 221 9 (ap [4,5,17,18,19,20,62,30,34,21,6,0,7] (cp q24 241 11 (ap [64,64,64,64,64,64,1,64,64,64,64,65,65,65,65,65,65,65,65,65,65,65,0,67,67] (cp q25 261 16 (ap [67] (cp q25 279 9 (ap [66,66,66,66,65,65,65,65,65,65,65,65,65,0,67,67] (cp q25 261 16 (ap [67] (cp q25 279 9 (ap [66,66,66,66,65,65,65,65,65,69,0,21,21,67,67,67,21,1,1,0,21,70,70,70,70,70,0,21,21,21,0,21] (cp q9 788 15 (ap [1,71,71,1,21,21,66,26,66,1,66,66,26,2,0] ([])))))))))))))))))))))))))), [62], [60,68,69,70]⟩ fun m t => by kernel_rfl
theorem R_sortb30 (w : World) (x : Vars) (r : Bool) : (S_sortb w x r 3 0).Holds (VV w) :=
  sF (F := FS w fun args => ⟨1000, fun as os _ => some ⟨_, R_hSo0 w (varsOf args as os x.u)⟩⟩) (vok _) 20000 ⟨cp q24 0 17 (ap [4] (cp q25 18 43 (cp q25 38 13 (ap [4] (cp q25 52 9 (cp q25 38 13 (ap [5] (cp q25 52 247 (cp q25 210 17 (ap [55,55,55,1,55,56] (cp q10 974 9 (ap [56,56,55,56,56,56,56,56,56,55,56,56,58] (cp q25 255 44 (cp q25 210 17 (ap [59,59,59,1,59,60,60,60,60,60,59,60,60,60,60,60,60,59,60,60,60,60,60,60,59,60,60,62] (cp q25 255 44 (ap [64,0,22,0,1,2,1,6,7,0,21,21,21,21,21,65,65,65,65,65] (cp q24 205 30 (ap [66,30,31,0,0,8] (cp q24 241 11 (ap [69,69,69,69,69,69,1,69,69,69,69,70,70,70,70,70,70,70,70,70,70,70,0,72,72] (cp q25 261 16 (ap [72] (cp q25 279 9 (ap [71,71,71,71,70,70,70,70,70,70,70,70,70,0,72,72] (cp q25 261 16 (ap [72] (cp q25 279 9 (ap [71,71,71,71,70,70,70,70,70,70,70,70,70,0,72,72] (cp q25 261 16 (ap [72] (cp q25 279 9 (ap [71,71,71,71,70,70,70,70,70,74,0,21,21,72,72,72,21,1,0,0,21,67,75,67,1,67,67,75] (cp q24 287 13 (ap [71,76,71,1,71,71,76,2,0] ([])))))))))))))))))))))))))))))))))))), [67], [70,77,78,79]⟩ fun m t => by kernel_rfl
theorem R_sortb31 (w : World) (x : Vars) (r : Bool) : (S_sortb w x r 3 1).Holds (VV w) :=
  sF (F := FS w fun args => ⟨1000, fun as os _ => some ⟨_, R_hSo1 w (varsOf args as os x.u)⟩⟩) (vok _) 20000 ⟨cp q24 0 17 (ap [4] (cp q25 18 43 (cp q25 38 13 (ap [4] (cp q25 52 9 (cp q25 38 13 (ap [5] (cp q25 52 247 (cp q25 210 17 (ap [55,55,55,1,55,56] (cp q10 974 9 (ap [56,56,55,56,56,56,56,56,56,55,56,56,58] (cp q25 255 44 (cp q25 210 17 (ap [59,59,59,1,59,60,60,60,60,60,59,60,60,60,60,60,60,59,60,60,60,60,60,60,59,60,60,62] (cp q25 255 44 (ap [64,0,22,0,1,2,2,6,7,0,21,21,21,21,21,65,65,65,65,65,0,21,21,0,21,21,21,1,1,0,23,21] (cp q24 216 19 (ap [66,30,31,0,0,8] (cp q24 241 11 (ap [69,69,69,69,69,69,1,69,69,69,69,70,70,70,70,70,70,70,70,70,70,70,0,72,72] (cp q25 261 16 (ap [72] (cp q25 279 9 (ap [71,71,71,71,70,70,70,70,70,70,70,70,70,0,72,72] (cp q25 261 16 (ap [72] (cp q25 279 9 (ap [71,71,71,71,70,70,70,70,70,70,70,70,70,0,72,72] (cp q25 261 16 (ap [72] (cp q25 279 9 (ap [71,71,71,71,70,70,70,70,70,74,0,21,21,72,72,72,21,1,0,0,21,67,75,67,1,67,67,75] (cp q24 287 13 (ap [71,76,71,1,71,71,76,2,0] ([])))))))))))))))))))))))))))))))))))), [67], [70,77,78,79]⟩ fun m t => by kernel_rfl
theorem R_sortb32 (w : World) (x : Vars) (r : Bool) : (S_sortb w x r 3 2).Holds (VV w) :=
  sF (F := FS w fun args => ⟨1000, fun as os _ => some ⟨_, R_hSo2 w (varsOf args as os x.u)⟩⟩) (vok _) 20000 ⟨q26, [67], [70,77,78,79]⟩ fun m t => by kernel_rfl
theorem R_sortb33 (w : World) (x : Vars) (r : Bool) : (S_sortb w x r 3 3).Holds (VV w) :=
  sF (F := FS w fun args => ⟨1000, fun as os _ => some ⟨_, R_hSe3 w (varsOf args as os x.u) r⟩⟩) (vok _) 20000 ⟨cp q26 0 529 (ap [4] (cp q26 530 26 (ap [21,23,22] (cp q24 221 9 (ap [4,5,17,18,19,20,66,30,21,6,0,8] (cp q24 241 11 (ap [68,68,68,68,68,68,1,68,68,68,68,69,69,69,69,69,69,69,69,69,69,69,0,71,71] (cp q25 261 16 (ap [71] (cp q25 279 9 (ap [70,70,70,70,69,69,69,69,69,69,69,69,69,0,71,71] (cp q25 261 16 (ap [71] (cp q25 279 9 (ap [70,70,70,70,69,69,69,69,69,69,69,69,69,0,71,71] (cp q25 261 16 (ap [71] (cp q25 279 9 (ap [70,70,70,70,69,69,69,69,69,73,0,21,21,71,71,71,21,1,1,0,21,74,74,74,74,74,0,21,21,21,0,21,0,0,0,0,75,75,0,75,75,0,75,75,0,0,75,1,75,75,1,21,21,70,26,70,1,70,70,26,2,0] ([])))))))))))))))))))), [66], [70,78,79,80]⟩ fun m t => by kernel_rfl
theorem R_sortb34 (w : World) (x : Vars) (r : Bool) : (S_sortb w x r 3 4).Holds (VV w) :=
  sF (F := FS w fun args => ⟨1000, fun as os _ => some ⟨_, R_hSe4 w (varsOf args as os x.u) r⟩⟩) (vok _) 20000 ⟨cp q26 0 529 (ap [5] (cp q26 530 26 (ap [21,23,22] (cp q24 221 9 (ap [4,5,17,18,19,20,66,30,21,6,0,8] (cp q24 241 11 (ap [68,68,68,68,68,68,1,68,68,68,68,69,69,69,69,69,69,69,69,69,69,69,0,71,71] (cp q25 261 16 (ap [71] (cp q25 279 9 (ap [70,70,70,70,69,69,69,69,69,69,69,69,69,0,71,71] (cp q25 261 16 (ap [71] (cp q25 279 9 (ap [70,70,70,70,69,69,69,69,69,69,69,69,69,0,71,71] (cp q25 261 16 (ap [71] (cp q25 279 9 (ap [70,70,70,70,69,69,69,69,69,73,0,21,21,71,71,71,21,1,1,0,21,74,74,74,74,74,0,21,21,21,0,21,0,0,0,0,75,75,0,75,75,0,75,75,0,0,75,1,75,75,1,21,21,70,26,70,1,70,70,26,2,0] ([])))))))))))))))))))), [66], [70,78,79,80]⟩ fun m t => by kernel_rfl
theorem R_sortb35 (w : World) (x : Vars) (r : Bool) : (S_sortb w x r 3 5).Holds (VV w) :=
  sF (F := FS w fun args => ⟨1000, fun as os _ => some ⟨_, R_hSe5 w (varsOf args as os x.u) r⟩⟩) (vok _) 20000 ⟨cp q26 0 529 (ap [6] (cp q26 530 26 (ap [21,23,22] (cp q24 221 9 (ap [4,5,17,18,19,20,66,30,21,6,0,8] (cp q24 241 11 (ap [68,68,68,68,68,68,1,68,68,68,68,69,69,69,69,69,69,69,69,69,69,69,0,71,71] (cp q25 261 16 (ap [71] (cp q25 279 9 (ap [70,70,70,70,69,69,69,69,69,69,69,69,69,0,71,71] (cp q25 261 16 (ap [71] (cp q25 279 9 (ap [70,70,70,70,69,69,69,69,69,69,69,69,69,0,71,71] (cp q25 261 16 (ap [71] (cp q25 279 9 (ap [70,70,70,70,69,69,69,69,69,73,0,21,21,71,71,71,21,1,1,0,21,74,74,74,74,74,0,21,21,21,0,21,0,0,0,0,75,75,0,75,75,0,75,75,0,0,75,1,75,75,1,21,21,70,26,70,1,70,70,26,2,0] ([])))))))))))))))))))), [66], [70,78,79,80]⟩ fun m t => by kernel_rfl
theorem R_sortb36 (w : World) (x : Vars) (r : Bool) : (S_sortb w x r 3 6).Holds (VV w) :=
  sF (F := FS w fun args => ⟨1000, fun as os _ => some ⟨_, R_hSe6 w (varsOf args as os x.u) r⟩⟩) (vok _) 20000 ⟨cp q26 0 529 (ap [7] (cp q26 530 26 (ap [22,23,22] (cp q24 221 9 (ap [4,5,17,18,19,20,66,30,34,21,6,0,8] (cp q24 241 11 (ap [68,68,68,68,68,68,1,68,68,68,68,69,69,69,69,69,69,69,69,69,69,69,0,71,71] (cp q25 261 16 (ap [71] (cp q25 279 9 (ap [70,70,70,70,69,69,69,69,69,69,69,69,69,0,71,71] (cp q25 261 16 (ap [71] (cp q25 279 9 (ap [70,70,70,70,69,69,69,69,69,69,69,69,69,0,71,71] (cp q25 261 16 (ap [71] (cp q25 279 9 (ap [70,70,70,70,69,69,69,69,69,73,0,21,21,71,71,71,21,1,1,0,21,74,74,74,74,74,0,21,21,21,0,21,0,0,0,0,75,75,0,75,75,0,75,75,0,0,75,1,75,75,1,21,21,70,26,70,1,70,70,26,2,0] ([])))))))))))))))))))), [66], [70,78,79,80]⟩ fun m t => by kernel_rfl
end Mine
end

section
open PySem PySem.W PySem.W.X PyProof.Rows
set_option maxRecDepth 1000000
set_option maxHeartbeats 0
namespace Mine
open PySem.W.ZFast (hashOfZ)
/-! the parts, for any script: what they want of it is one word -/
theorem plusN_eq : ∀ (d : Nat) (x : Int), plusN d x = x + d
  | 0, x => (Int.add_zero x).symm
  | d + 1, x => by
    show plusN d x + 1 = _
    rw [plusN_eq d x]; omega
/-- few ints; the place in them; the steps so far -/
def okP (Q : Array Value) (a st : Int) : Bool := (Nat.blt Q.size 1000000 && allInt Q) && ((leB 0 a && ltB a 900) && (leB 0 st && ltB st 1000))
theorem okP_at {Q : Array Value} {a st : Int} (h : okP Q a st = true) : (Nat.blt Q.size 1000000 = true ∧ allInt Q = true) ∧ (0 ≤ a ∧ a < 900) ∧ 0 ≤ st ∧ st < 1000 := by
  unfold okP at h
  simp only [Bool.and_eq_true] at h
  exact ⟨h.1, ⟨leB_iff'.1 h.2.1.1, ltB_iff'.1 h.2.1.2⟩, leB_iff'.1 h.2.2.1, ltB_iff'.1 h.2.2.2⟩
theorem okP_of {Q : Array Value} {a st : Int} (h : Nat.blt Q.size 1000000 = true ∧ allInt Q = true) (a0 : 0 ≤ a) (a1 : a < 900) (s0 : 0 ≤ st) (s1 : st < 1000) : okP Q a st = true := by
  unfold okP
  rw [h.1, h.2, leB_iff'.2 a0, ltB_iff'.2 a1, leB_iff'.2 s0, ltB_iff'.2 s1]; rfl
theorem draw_ok {Q : Array Value} {a st : Int} (h : okP Q a st = true) {b : Int} (h0 : a ≤ b) (h1 : b < a + 100) : drawOk Q b = true := by
  obtain ⟨⟨q1, q2⟩, ⟨p1, p2⟩, _⟩ := okP_at h
  unfold drawOk
  rw [q1, q2, leB_iff'.2 (show (0 : Int) ≤ b by omega), ltB_iff'.2 (show b < 1000 by omega)]; rfl
theorem fm_nonneg {x : Int} {k : Nat} : 0 ≤ x.fmod (Int.ofNat (k + 1)) := Int.fmod_nonneg_of_pos _ (by show (0 : Int) < ((k + 1 : Nat) : Int); omega)
theorem fm_lt {x : Int} {k : Nat} : x.fmod (Int.ofNat (k + 1)) < (k + 1 : Nat) := Int.fmod_lt_of_pos _ (by show (0 : Int) < ((k + 1 : Nat) : Int); omega)
theorem drawV_in (Q : Array Value) (a : Int) (k : Nat) : 0 ≤ drawV Q a k ∧ drawV Q a k < (k + 1 : Nat) := by
  unfold drawV
  cases leB (a + 1) (Int.ofNat Q.size)
  · exact ⟨fm_nonneg, fm_lt⟩
  · exact ⟨fm_nonneg, fm_lt⟩
def drawN (Q : Array Value) (a : Int) (k : Nat) : Nat := (drawV Q a k).toNat
theorem drawN_lt (Q : Array Value) (a : Int) (k : Nat) : drawN Q a k < k + 1 := by
  have := drawV_in Q a k
  unfold drawN; omega
theorem drawN_eq (Q : Array Value) (a : Int) (k : Nat) : eqB (drawV Q a k) (Int.ofNat (drawN Q a k)) = true := eqB_iff'.2 (by
  have := drawV_in Q a k
  show drawV Q a k = ((drawN Q a k : Nat) : Int)
  unfold drawN; omega)
theorem tick_ok {st : Int} (h : st < 1000000000) : (!ltB 1000000000 st) = true := notB ltB_iff' (by omega)
theorem allT_cons {b : Bool} {l : List Bool} (h : b = true) (t : ∀ x ∈ l, x = true) : ∀ x ∈ b :: l, x = true := List.forall_mem_cons.2 ⟨h, t⟩
theorem allT_nil : ∀ x ∈ ([] : List Bool), x = true := fun _ h => (nomatch h)
theorem allT_app {l r : List Bool} (h : ∀ x ∈ l, x = true) (t : ∀ x ∈ r, x = true) : ∀ x ∈ l ++ r, x = true := fun x hx => (List.mem_append.mp hx).elim (h x) (t x)
/-! shown -/
theorem shown_k (w : World) (x : Vars) : ∀ k, k < 8 → (S_shown w x k (errP k)).Holds (VV w)
  | 0, _ => R_shown0 w x
  | 1, _ => R_shown1 w x
  | 2, _ => R_shown2 w x
  | 3, _ => R_shown3 w x
  | 4, _ => R_shown4 w x
  | 5, _ => R_shown5 w x
  | 6, _ => R_shown6 w x
  | 7, _ => R_shown7 w x
  | k + 8, h => absurd h (by omega)
noncomputable def S_shownU (w : World) (x : Vars) (c : Bool) : Spec := { S_shown w x (drawN (x.Q 1) (x.I 0 1) 7) c with need := [okP (x.Q 1) (x.I 0 1) (x.I 3 3),bB (errP (drawN (x.Q 1) (x.I 0 1) 7)) c] }
theorem R_shownU (w : World) (x : Vars) (c : Bool) : (S_shownU w x c).Holds (VV w) :=
  Spec.Holds.more (S := { S_shown w x (drawN (x.Q 1) (x.I 0 1) 7) c with need := [] }) (fun q => by
    have h1 := q _ (List.mem_cons_self ..)
    have h2 := bB_eq (q _ (List.mem_cons_of_mem _ (List.mem_cons_self ..)))
    subst h2
    obtain ⟨_, _, _, s1⟩ := okP_at h1
    exact Spec.Holds.less (shown_k w x _ (drawN_lt (x.Q 1) (x.I 0 1) 7)) (allT_cons (draw_ok h1 (Int.le_refl _) (by omega)) (allT_cons (drawN_eq ..)
      (allT_cons (tick_ok (by omega)) (allT_cons (tick_ok (by omega)) (allT_cons (tick_ok (by omega)) (allT_cons (tick_ok (by omega)) (allT_cons (tick_ok (by omega)) (allT_cons (tick_ok (by omega)) allT_nil))))))))) rfl
/-! joined -/
theorem joined_k (w : World) (x : Vars) (r : Bool) : ∀ a b, a < 5 → b < 3 → (S_joined w x r (orB (errJ a b) r) a b).Holds (VV w)
  | 0,0, _, _ => R_joined00 w x r
  | 0,1, _, _ => R_joined01 w x r
  | 0,2, _, _ => R_joined02 w x r
  | 1,0, _, _ => R_joined10 w x r
  | 1,1, _, _ => R_joined11 w x r
  | 1,2, _, _ => R_joined12 w x r
  | 2,0, _, _ => R_joined20 w x r
  | 2,1, _, _ => R_joined21 w x r
  | 2,2, _, _ => R_joined22 w x r
  | 3,0, _, _ => R_joined30 w x r
  | 3,1, _, _ => R_joined31 w x r
  | 3,2, _, _ => R_joined32 w x r
  | 4,0, _, _ => R_joined40 w x r
  | 4,1, _, _ => R_joined41 w x r
  | 4,2, _, _ => R_joined42 w x r
  | a + 5, _, h, _ => absurd h (by omega)
  | _, b + 3, _, h => absurd h (by omega)
noncomputable def S_joinedU (w : World) (x : Vars) (r c : Bool) : Spec := { S_joined w x r c (drawN (x.Q 1) (x.I 0 1) 4) (drawN (x.Q 1) (x.I 0 1 + 1) 2) with need := [okP (x.Q 1) (x.I 0 1) (x.I 3 3),bB (orB (errJ (drawN (x.Q 1) (x.I 0 1) 4) (drawN (x.Q 1) (x.I 0 1 + 1) 2)) r) c] }
theorem R_joinedU (w : World) (x : Vars) (r c : Bool) : (S_joinedU w x r c).Holds (VV w) :=
  Spec.Holds.more (S := { S_joined w x r c (drawN (x.Q 1) (x.I 0 1) 4) (drawN (x.Q 1) (x.I 0 1 + 1) 2) with need := [] }) (fun q => by
    have h1 := q _ (List.mem_cons_self ..)
    have h2 := bB_eq (q _ (List.mem_cons_of_mem _ (List.mem_cons_self ..)))
    subst h2
    obtain ⟨_, _, _, s1⟩ := okP_at h1
    exact Spec.Holds.less (joined_k w x r _ _ (drawN_lt (x.Q 1) (x.I 0 1) 4) (drawN_lt (x.Q 1) (x.I 0 1 + 1) 2)) (allT_cons (draw_ok h1 (Int.le_refl _) (by omega)) (allT_cons (drawN_eq ..) (allT_cons (draw_ok h1 (by omega) (by omega)) (allT_cons (drawN_eq ..)
      (allT_cons (tick_ok (by omega)) (allT_cons (tick_ok (by omega)) (allT_cons (tick_ok (by omega)) allT_nil)))))))) rfl
/-! sort -/
theorem rowOk_all {Q : Array Value} {a : Int} {tl : List Bool} (ht : ∀ x ∈ tl, x = true) : ∀ (n i : Nat), (∀ j, i ≤ j → j < i + n → drawOk Q (plusN j a) = true) → ∀ x ∈ rowOkJ Q a tl n i, x = true
  | 0, _, _ => ht
  | n + 1, i, h => allT_cons (h i (Nat.le_refl _) (by omega)) (rowOk_all ht n (i + 1) fun j h1 h2 => h j (by omega) (by omega))
noncomputable def nOf (Q : Array Value) (a : Int) : Nat := drawN Q a 3
noncomputable def fOf (Q : Array Value) (a : Int) : Nat := drawN Q (plusN (1 + nOf Q a) a) 6
theorem sortNd_all {Q : Array Value} {a st : Int} (h : okP Q a st = true) : ∀ x ∈ sortNd Q a (nOf Q a) (fOf Q a), x = true := by
  have hn := drawN_lt Q a 3
  refine allT_cons (draw_ok h (Int.le_refl _) (by omega)) (allT_cons (drawN_eq ..) (rowOk_all (allT_cons (draw_ok h ?_ ?_) (allT_cons (drawN_eq ..) allT_nil)) _ _ fun j h1 h2 => draw_ok h ?_ ?_))
  · rw [plusN_eq]; omega
  · rw [plusN_eq]; unfold nOf; omega
  · rw [plusN_eq]; omega
  · rw [plusN_eq]; unfold nOf at h2; omega
theorem sorta_k (w : World) (x : Vars) (r : Bool) : ∀ n f, n < 4 → f < 7 → (S_sorta w x r n f).Holds (VV w)
  | 0,0, _, _ => R_sorta00 w x r
  | 0,1, _, _ => R_sorta01 w x r
  | 0,2, _, _ => R_sorta02 w x r
  | 0,3, _, _ => R_sorta03 w x r
  | 0,4, _, _ => R_sorta04 w x r
  | 0,5, _, _ => R_sorta05 w x r
  | 0,6, _, _ => R_sorta06 w x r
  | 1,0, _, _ => R_sorta10 w x r
  | 1,1, _, _ => R_sorta11 w x r
  | 1,2, _, _ => R_sorta12 w x r
  | 1,3, _, _ => R_sorta13 w x r
  | 1,4, _, _ => R_sorta14 w x r
  | 1,5, _, _ => R_sorta15 w x r
  | 1,6, _, _ => R_sorta16 w x r
  | 2,0, _, _ => R_sorta20 w x r
  | 2,1, _, _ => R_sorta21 w x r
  | 2,2, _, _ => R_sorta22 w x r
  | 2,3, _, _ => R_sorta23 w x r
  | 2,4, _, _ => R_sorta24 w x r
  | 2,5, _, _ => R_sorta25 w x r
  | 2,6, _, _ => R_sorta26 w x r
  | 3,0, _, _ => R_sorta30 w x r
  | 3,1, _, _ => R_sorta31 w x r
  | 3,2, _, _ => R_sorta32 w x r
  | 3,3, _, _ => R_sorta33 w x r
  | 3,4, _, _ => R_sorta34 w x r
  | 3,5, _, _ => R_sorta35 w x r
  | 3,6, _, _ => R_sorta36 w x r
  | n + 4, _, h, _ => absurd h (by omega)
  | _, f + 7, _, h => absurd h (by omega)
noncomputable def S_sortaU (w : World) (x : Vars) (r : Bool) : Spec := { S_sorta w x r (nOf (x.Q 1) (x.I 0 1)) (fOf (x.Q 1) (x.I 0 1)) with need := [okP (x.Q 1) (x.I 0 1) (x.I 3 3)] }
theorem R_sortaU (w : World) (x : Vars) (r : Bool) : (S_sortaU w x r).Holds (VV w) :=
  Spec.Holds.more (S := { S_sorta w x r (nOf (x.Q 1) (x.I 0 1)) (fOf (x.Q 1) (x.I 0 1)) with need := [] }) (fun q => by
    have h1 := q _ (List.mem_cons_self ..)
    obtain ⟨_, _, _, s1⟩ := okP_at h1
    exact Spec.Holds.less (sorta_k w x r _ _ (drawN_lt ..) (drawN_lt ..)) (allT_app (sortNd_all h1) (allT_cons (tick_ok (by omega)) (allT_cons (tick_ok (by omega)) (allT_cons (tick_ok (by omega)) (allT_cons (tick_ok (by omega)) allT_nil)))))) rfl
theorem sortb_k (w : World) (x : Vars) (r : Bool) : ∀ n f, n < 4 → f < 7 → (S_sortb w x r n f).Holds (VV w)
  | 0,0, _, _ => R_sortb00 w x r
  | 0,1, _, _ => R_sortb01 w x r
  | 0,2, _, _ => R_sortb02 w x r
  | 0,3, _, _ => R_sortb03 w x r
  | 0,4, _, _ => R_sortb04 w x r
  | 0,5, _, _ => R_sortb05 w x r
  | 0,6, _, _ => R_sortb06 w x r
  | 1,0, _, _ => R_sortb10 w x r
  | 1,1, _, _ => R_sortb11 w x r
  | 1,2, _, _ => R_sortb12 w x r
  | 1,3, _, _ => R_sortb13 w x r
  | 1,4, _, _ => R_sortb14 w x r
  | 1,5, _, _ => R_sortb15 w x r
  | 1,6, _, _ => R_sortb16 w x r
  | 2,0, _, _ => R_sortb20 w x r
  | 2,1, _, _ => R_sortb21 w x r
  | 2,2, _, _ => R_sortb22 w x r
  | 2,3, _, _ => R_sortb23 w x r
  | 2,4, _, _ => R_sortb24 w x r
  | 2,5, _, _ => R_sortb25 w x r
  | 2,6, _, _ => R_sortb26 w x r
  | 3,0, _, _ => R_sortb30 w x r
  | 3,1, _, _ => R_sortb31 w x r
  | 3,2, _, _ => R_sortb32 w x r
  | 3,3, _, _ => R_sortb33 w x r
  | 3,4, _, _ => R_sortb34 w x r
  | 3,5, _, _ => R_sortb35 w x r
  | 3,6, _, _ => R_sortb36 w x r
  | n + 4, _, h, _ => absurd h (by omega)
  | _, f + 7, _, h => absurd h (by omega)
noncomputable def S_sortbU (w : World) (x : Vars) (r : Bool) : Spec := { S_sortb w x r (nOf (x.Q 1) (x.I 0 1)) (fOf (x.Q 1) (x.I 0 1)) with need := [okP (x.Q 1) (x.I 0 1) (x.I 3 3)] }
theorem R_sortbU (w : World) (x : Vars) (r : Bool) : (S_sortbU w x r).Holds (VV w) :=
  Spec.Holds.more (S := { S_sortb w x r (nOf (x.Q 1) (x.I 0 1)) (fOf (x.Q 1) (x.I 0 1)) with need := [] }) (fun q => by
    have h1 := q _ (List.mem_cons_self ..)
    obtain ⟨_, _, _, s1⟩ := okP_at h1
    exact Spec.Holds.less (sortb_k w x r _ _ (drawN_lt ..) (drawN_lt ..)) (allT_app (sortNd_all h1) (allT_cons (tick_ok (by omega)) (allT_cons (tick_ok (by omega)) (allT_cons (tick_ok (by omega)) (allT_cons (tick_ok (by omega)) allT_nil)))))) rfl
end Mine
end

section
open PySem PySem.W PySem.W.X PyProof.Rows
set_option maxRecDepth 1000000
set_option maxHeartbeats 0
namespace Mine
open PySem.W.ZFast (hashOfZ)
/-! the script cut -/
def cutA (its : Array Value) : Array Value := ⟨its.toList.take 30⟩
noncomputable def S_slice (l sl : Nat) (its : Array Value) (n t : Nat) : Spec := { code := .builtin "list.__getitem__" ⟨[.ref l, .ref sl], []⟩, dep := 850, need := [Nat.blt its.size 1000], pre := [(l, oList its n), (sl, { cls := .type "slice", data := .fields #[.none, .int 30 t, .none] })], touch := [], na := 1, nt := 0, res := fun as _ => .ok (.ret (.ref (nth as 0))), postT := fun _ _ => [], postN := fun _ _ => [oList (cutA its) 0], rawQ := [0] }
section
variable {prog : Program} {w : World} {A : Around} {E : Value → Shared → Prop} {s : Shared}
theorem slice_tree {l sl : Addr} {items : Array Value} {vl vu vs : Value} {lo hi st : Option Int} {P : PySem.Fin → Shared → Prop} (hl : s.heap.IsList l items)
    (hs : s.heap.IsSliceOf sl vl vu vs) (pl : IsPart vl lo) (pu : IsPart vu hi) (ps : IsPart vs st) (h0 : st ≠ some 0)
    (h : P (.done (.ret (.ref s.heap.objs.size))) { s with heap := s.heap.push { cls := .type "list", data := .seq (slicePick items lo hi st) } })
    (hsz : items.size ≤ sizeLine) : wpAny (model prog w) A (Builtin.«list.__getitem__» ⟨[.ref l, .ref sl], []⟩) P E s := by
  obtain ⟨o, ho, hc, ne, hd⟩ := id hl
  obtain ⟨os, hos, hcs, hds⟩ := id hs
  have hTs : s.TypeIs (.ref sl) "slice" := ⟨os, hos, hcs⟩
  show wpAny _ _ (Builtin.List.listSubscript? (.ref sl) >>= _) _ _ s
  refine wpAny_bind ?_
  unfold Builtin.List.listSubscript?
  refine wpAny_bind (wpAny_specialOf hTs slice_no_index ?_)
  simp only [Option.isNone_none, if_true]
  refine wpAny_pure ?_
  show wpAny _ _ (typeOf (.ref sl) >>= _) _ _ s
  refine wpAny_bind (wpAny_typeOf hTs ?_)
  rw [if_neg (by decide)]
  rw [listSliceParts_eq]
  have hstep : ¬ ((rawPart st == rawInt 0) = true) := by
    cases st with
    | none => exact Bool.false_ne_true
    | some c =>
      intro hh
      have : c = 0 := by simpa [rawPart, rawInt] using hh
      exact h0 (by rw [this])
  refine wpAny_bind (wpAny_bind (wpAny_field hos hds (x := vs) rfl (wpAny_bind (wpAny_listPart ps ?_))))
  rw [if_neg hstep]
  refine wpAny_bind (wpAny_field hos hds (x := vl) rfl (wpAny_bind (wpAny_listPart pl ?_)))
  refine wpAny_bind (wpAny_field hos hds (x := vu) rfl (wpAny_bind (wpAny_listPart pu (wpAny_pure ?_))))
  refine wpAny_bind (m := Builtin.List.listItems (.ref l)) ?_
  unfold Builtin.List.listItems
  refine wpAny_bind (wpAny_seqItems ho hd (wpAny_pure ?_))
  refine wpAny_bind (wpAny_of_eq (sliceIndices_raw lo hi st items.size h0) ?_)
  exact wpAny_bind (wpAny_newObj_type (wpAny_pure h) (Nat.le_trans (slicePick_size_le items lo hi st) hsz))
end
theorem slice_at {V : Vn} {l sl : Nat} {its : Array Value} {n t : Nat} : (S_slice l sl its n t).Holds V := by
  refine spec_by fun Γ hc hh A hA hd hin h g d tk os At => ?_
  have hl : h.get? l = some (oList its n) := At.mem _ (List.mem_cons_self ..)
  have hs : h.get? sl = some { cls := .type "slice", data := .fields #[.none, .int 30 t, .none] } := At.mem _ (List.mem_cons_of_mem _ (List.mem_cons_self ..))
  have hz : its.size < 1000 := blt_iff (At.need _ (List.mem_cons_self ..))
  have hL : Heap.IsList (Shared.heap ⟨h, g, d, tk, os⟩) l its := ⟨_, hl, rfl, n, rfl⟩
  have hS : Heap.IsSliceOf (Shared.heap ⟨h, g, d, tk, os⟩) sl .none (.int 30 t) .none := ⟨_, hs, rfl, rfl⟩
  have hz' : its.size ≤ sizeLine := by unfold sizeLine; omega
  clear hz
  refine @den_wp2 _ _ _ _ _ _ _ _ _ rfl entry_list_getitem (slice_tree hL hS .none (.int 30 t) .none (by simp) ?_ hz')
  have e : slicePick its none (some 30) none = cutA its := slicePick_upto' its 30
  rw [e]
  have hp := Heap.get?_push_size h (o := oList (cutA its) 0) rfl
  refine ⟨_, rfl, [h.objs.size], [], rfl, ⟨rfl, rfl, fun i hi => (nomatch hi), fun i hi => ?_, fun b o q _ => Heap.get?_push_of_some _ q, fun a ha => ?_, by simp, ?_⟩, rfl, rfl, rfl⟩
  · match i, hi with
    | 0, _ => exact hp
    | i + 1, hi => exact absurd hi (Nat.not_lt_of_le (Nat.le_add_left 1 i))
  · simp only [List.mem_cons, List.not_mem_nil, or_false] at ha
    subst ha
    exact ⟨Nat.le_refl _, Heap.lt_size hp⟩
  · exact Nat.le_of_lt (Heap.lt_size hp)
theorem Spec.Holds.raw {V : Vn} {S : Spec} {p q : List Nat} (h : S.Holds V) : ({ S with rawP := p, rawQ := q } : Spec).Holds V := by
  intro Γ pp hp g d t os hc hh hb hl A
  obtain ⟨as, ts, h', t', r, E⟩ := h Γ pp hp g d t os hc hh hb hl ⟨A.kt, A.mem, A.off, A.apart, A.lim, A.need⟩
  exact ⟨as, ts, h', t', r, ⟨E.na, E.nt, E.postT, E.postN, E.keep, E.fresh, E.apart, E.size⟩⟩
noncomputable def D_slice {V : Vn} : Dp V := ⟨2, fun as os _ => match as with
  | [l, sl] => match os with
    | [o, o'] => match seqOf o with
      | some (xs, n) => match o'.data with
        | .fields vs => match vs.toList with
          | [_, v, _] => some ⟨S_slice l sl xs n (tokOf v), slice_at⟩
          | _ => none
        | _ => none
      | none => none
    | _ => none
  | _ => none⟩
noncomputable def D_initR {V : Vn} : Dp V := ⟨2, fun as os _ => match as with
  | [S, l] => match os with
    | [o, o'] => match seqOf o with
      | some (_, n0) => match seqOf o' with
        | some (xs, n) => some ⟨{ S_init S l n0 xs n with rawQ := [0] }, Spec.Holds.raw init_at⟩
        | none => none
      | none => none
    | _ => none
  | _ => none⟩
/-! the law -/
section
variable (its : Array Value)
def aL1 : Int := 0 + 1
noncomputable def sL1 : Int := plusN 6 0
noncomputable def nL1 : Nat := nOf (cutA its) aL1
noncomputable def fL1 : Nat := fOf (cutA its) aL1
noncomputable def aL2 : Int := plusN (2 + nL1 its) aL1
noncomputable def sL2 : Int := stS (fL1 its) (cutA its) aL1 (nL1 its) sL1
def jx (a : Int) : Nat := drawN (cutA its) a 4
def jy (a : Int) : Nat := drawN (cutA its) (a + 1) 2
noncomputable def aL3 : Int := aL2 its + 1 + 1
noncomputable def sL3 : Int := plusN (tkJ (jx its (aL2 its)) (jy its (aL2 its))) (sL2 its)
noncomputable def nL2 : Nat := nOf (cutA its) (aL3 its)
noncomputable def fL2 : Nat := fOf (cutA its) (aL3 its)
noncomputable def aL4 : Int := plusN (2 + nL2 its) (aL3 its)
noncomputable def sL4 : Int := stS (fL2 its) (cutA its) (aL3 its) (nL2 its) (sL3 its)
noncomputable def rL2 (c : Bool) : Bool := orB (errS (fL1 its)) c
noncomputable def rL3 (c : Bool) : Bool := orB (errJ (jx its (aL2 its)) (jy its (aL2 its))) (rL2 its c)
noncomputable def rL4 (c : Bool) : Bool := orB (errS (fL2 its)) c
noncomputable def rL5 (c : Bool) : Bool := orB (errJ (jx its (aL4 its)) (jy its (aL4 its))) (rL4 its c)
noncomputable def lawNd (c1 c3 : Bool) : List Bool := [scriptOk its, okP (cutA its) 0 0, bB (errP (drawN (cutA its) 0 7)) c1, okP (cutA its) aL1 sL1, okP (cutA its) (aL2 its) (sL2 its), bB (rL3 its c1) c3, okP (cutA its) (aL3 its) (sL3 its), okP (cutA its) (aL4 its) (sL4 its), bB (rL5 its c3) (rL5 its c3), Nat.blt its.size 1000, Nat.blt (cutA its).size 1000000]
end
noncomputable def FW (w : World) (its : Array Value) (u c1 c3 : Bool) (c : Code) : Option (Dp (VV w)) := match c with
  | .call (.ref a) ⟨[v1, v2, v3], []⟩ => match Nat.beq a 811 with
    | true => some ⟨1000, fun as os _ => some ⟨_, R_shownU w (varsOf [v1, v2, v3] as os u) c1⟩⟩
    | false => match Nat.beq a 816 with
      | true => some ⟨1000, fun as os alt => match alt with
        | 0 => some ⟨_, R_sortaU w (varsOf [v1, v2, v3] as os u) c1⟩
        | _ => some ⟨_, R_sortbU w (varsOf [v1, v2, v3] as os u) c3⟩⟩
      | false => match Nat.beq a 823 with
        | true => some ⟨1000, fun as os alt => match alt with
          | 0 => some ⟨_, R_joinedU w (varsOf [v1, v2, v3] as os u) (rL2 its c1) c3⟩
          | _ => some ⟨_, R_joinedU w (varsOf [v1, v2, v3] as os u) (rL4 its c3) (rL5 its c3)⟩⟩
        | false => FN w (.call (.ref a) ⟨[v1, v2, v3], []⟩)
  | .builtin id ⟨[v1, v2], []⟩ => match idIs id 128106587276438692081757506308484131437 with
    | true => some D_slice
    | false => match idIs id 7635756109259221455878126594669 with
      | true => some D_initR
      | false => FN w (.builtin id ⟨[v1, v2], []⟩)
  | c => FN w c
noncomputable def H_law : Hs := ⟨q27, [], [777,38,777,319,777,323]⟩
theorem R_lawff (w : World) (its : Array Value) (u : Bool) : ({ S_law its (lawNd its false false) u with rawP := [0] }).Holds (VV w) :=
  sF (F := FW w its u false false) (vok _) 60000 H_law fun m t => by kernel_rfl
theorem R_lawft (w : World) (its : Array Value) (u : Bool) : ({ S_law its (lawNd its false true) u with rawP := [0] }).Holds (VV w) :=
  sF (F := FW w its u false true) (vok _) 60000 H_law fun m t => by kernel_rfl
theorem R_lawtt (w : World) (its : Array Value) (u : Bool) : ({ S_law its (lawNd its true true) u with rawP := [0] }).Holds (VV w) :=
  sF (F := FW w its u true true) (vok _) 60000 H_law fun m t => by kernel_rfl
end Mine
end

section
open PySem PySem.W PySem.W.X PyProof.Rows
set_option maxRecDepth 1000000
set_option maxHeartbeats 0
namespace Mine
/-! the law, for any script -/
theorem cnP_le (n p : Nat) : cnP n p ≤ 3 := by
  unfold cnP
  split
  · split <;> omega
  · omega
  · omega
theorem stS_in (f : Nat) (Q : Array Value) (a : Int) (n : Nat) (I : Int) : I + 1 ≤ stS f Q a n I ∧ stS f Q a n I ≤ I + 4 := by
  unfold stS
  split
  · rw [plusN_eq]
    have := cnP_le n (pOf true (rowI Q a n))
    unfold cnS
    omega
  · omega
theorem tkJ_le (a b : Nat) : tkJ a b ≤ 3 := by
  unfold tkJ
  split <;> omega
theorem nOf_lt (Q : Array Value) (a : Int) : nOf Q a < 4 := drawN_lt Q a 3
theorem scriptOk_at {its : Array Value} (h : scriptOk its = true) : Nat.blt its.size 1000 = true ∧ Nat.blt (cutA its).size 1000000 = true ∧ allInt (cutA its) = true := by
  unfold scriptOk at h
  rw [Bool.and_eq_true] at h
  refine ⟨h.1, ?_, ?_⟩
  · have h1 : its.size < 1000 := blt_iff h.1
    refine Nat.ble_eq_true_of_le ?_
    show (its.toList.take 30).length + 1 ≤ 1000000
    rw [List.length_take]
    omega
  · unfold allInt cutA
    refine List.all_eq_true.mpr fun v hv => ?_
    exact List.all_eq_true.mp h.2 v (List.mem_of_mem_take hv)
theorem lawNd_all {its : Array Value} (h : scriptOk its = true) (c1 c3 : Bool) (h1 : errP (drawN (cutA its) 0 7) = c1) (h3 : rL3 its c1 = c3) : ∀ b ∈ lawNd its c1 c3, b = true := by
  obtain ⟨k1, k2, k3⟩ := scriptOk_at h
  have q := And.intro k2 k3
  have e1 : aL1 = 1 := rfl
  have f1 : sL1 = 6 := plusN_eq 6 0
  have e2 : aL2 its = aL1 + ((2 + nL1 its : Nat) : Int) := plusN_eq _ _
  have n1 : nL1 its < 4 := nOf_lt _ _
  have f2 := stS_in (fL1 its) (cutA its) aL1 (nL1 its) sL1
  have e3 : aL3 its = aL2 its + 1 + 1 := rfl
  have f3 : sL3 its = sL2 its + ((tkJ (jx its (aL2 its)) (jy its (aL2 its)) : Nat) : Int) := plusN_eq _ _
  have t1 := tkJ_le (jx its (aL2 its)) (jy its (aL2 its))
  have e4 : aL4 its = aL3 its + ((2 + nL2 its : Nat) : Int) := plusN_eq _ _
  have n2 : nL2 its < 4 := nOf_lt _ _
  have f4 := stS_in (fL2 its) (cutA its) (aL3 its) (nL2 its) (sL3 its)
  change sL1 + 1 ≤ sL2 its ∧ sL2 its ≤ sL1 + 4 at f2
  change sL3 its + 1 ≤ sL4 its ∧ sL4 its ≤ sL3 its + 4 at f4
  generalize tkJ (jx its (aL2 its)) (jy its (aL2 its)) = tk at f3 t1
  unfold lawNd
  exact allT_cons h (allT_cons (okP_of q (by omega) (by omega) (by omega) (by omega)) (allT_cons (bB_of h1) (allT_cons (okP_of q (by omega) (by omega) (by omega) (by omega)) (allT_cons (okP_of q (by omega) (by omega) (by omega) (by omega)) (allT_cons (bB_of h3)
    (allT_cons (okP_of q (by omega) (by omega) (by omega) (by omega)) (allT_cons (okP_of q (by omega) (by omega) (by omega) (by omega)) (allT_cons (bB_of rfl) (allT_cons k1 (allT_cons k2 allT_nil))))))))))
theorem law_any (w : World) (its : Array Value) (u : Bool) : (S_law its [scriptOk its] u).Holds (VV w) :=
  Spec.Holds.more (S := S_law its [] u) (fun q => by
    have hs := q _ (List.mem_cons_self ..)
    have go : ∀ c1 c3, ({ S_law its (lawNd its c1 c3) u with rawP := [0] } : Spec).Holds (VV w) → errP (drawN (cutA its) 0 7) = c1 → rL3 its c1 = c3 → (S_law its [] u).Holds (VV w) := fun c1 c3 H h1 h3 =>
      Spec.Holds.raw (p := []) (q := []) (Spec.Holds.less H (lawNd_all hs c1 c3 h1 h3))
    cases h1 : errP (drawN (cutA its) 0 7) with
    | false =>
      cases h3 : rL3 its false with
      | false => exact go _ _ (R_lawff w its u) h1 h3
      | true => exact go _ _ (R_lawft w its u) h1 h3
    | true =>
      have h3 : rL3 its true = true := by
        unfold rL3 rL2 orB
        cases errJ (jx its (aL2 its)) (jy its (aL2 its)) <;> cases errS (fL1 its) <;> rfl
      exact go _ _ (R_lawtt w its u) h1 h3) rfl
theorem all_done : PySem.Challenge.rw_pq0686_01.Holds := law1 law_any
end Mine
end

theorem PySem.Challenge.cw_pq0686_01_holds : PySem.Challenge.rw_pq0686_01.Holds :=
  Mine.all_done
